import PyProof.Rows.All
import Wide.All
import OpenK.AllK
import Wide.FinOn
import HandS.ForMost
import HandS.Evl
import HandS.Wide
import HandS.IsInst
import HandS.Star
import HandS.Defaults
import HandS.TupAny
import HandS.Conv
import HandS.More
import HandS.NestedK
import HandS.SortInts
import KE.DataMinMax
import KE.SortData
import KE.KTupSum
import KE.KSuper
import KE.KSuperObj
import HandS.ClsMeth
import HandS.Nested
import HandS.Deep
import HandS.Style
import HandS.Ends
import HandS.RaiseMore
import HandS.SetFor
import HandS.Strs
import KE.KDictZip
import HandS.OwnEq
import PySem.Challenge.RW_askedcodes_k43_whole_answers_of_long_row
import KE.RegKSuper
set_option Elab.async false
set_option maxRecDepth 100000
set_option maxHeartbeats 4000000
set_option linter.all false
set_option autoImplicit false
/-! Data and what stands for it: a calculus of weakest conditions over plain data. -/
namespace DW
open PySem L2

/-- the tables of code objects that may grow, and the names of what they tell -/
class Tb where
  tabs : List Addr
  nm : Addr → Nat → Nat → Str
variable [Tb]
def Tb.tab (a : Addr) : Bool := decide (a ∈ Tb.tabs)

/-- a function value: what stands at its address, its code object, the name of that, the captured cells -/
structure FV where
  G : Addr → HO
  c : Addr
  q : Str
  cl : List (Str × Addr)

inductive D where
  | non | bl (b : Bool) | int (i : Int) | str (x : Str) | lst (l : List D) | tup (l : List D) | obj (C : Addr) (ns : List Str) (l : List D) | raw (v : V) | own (l : List D) | dk (ks : List Key) (l : List D) | fn (F : FV) (cvs : List V) (l : List D)

abbrev Ex := Evl.Ex

mutual
inductive Rp (K : PySem.W.Frag) (H : Hp) : V → D → Prop
  | non : Rp K H .non .non
  | bl (b : Bool) : Rp K H (.bl b) (.bl b)
  | int (i : Int) : Rp K H (.int i) (.int i)
  | str (x : Str) : Rp K H (.str x) (.str x)
  | lst {a : Addr} {xs : List V} {ds : List D} : H a = some (.lst xs) → Rps K H xs ds → Rp K H (.ref a) (.lst ds)
  | tup {a : Addr} {xs : List V} {ds : List D} : SqT K H a xs → Rps K H xs ds → Rp K H (.ref a) (.tup ds)
  | obj {a C dx : Addr} {ns : List Str} {xs : List V} {ds : List D} : H a = some (.ins C dx (ns.zip xs)) → xs.length = ns.length → Rps K H xs ds → Rp K H (.ref a) (.obj C ns ds)
  | raw (v : V) : Rp K H v (.raw v)
  | dk {a : Addr} {ks : List Key} {xs : List V} {ds : List D} : H a = some (.dK (ks.zip xs)) → xs.length = ks.length → Rps K H xs ds → Rp K H (.ref a) (.dk ks ds)
  | fn {a : Addr} {F : FV} {xs : List V} {ds : List D} : H a = some (F.G a) → H F.c = some (LamX.CodeO F.c F.q) → Rps K H xs ds → Rp K H (.ref a) (.fn F xs ds)
inductive Rps (K : PySem.W.Frag) (H : Hp) : List V → List D → Prop
  | nil : Rps K H [] []
  | cons {v : V} {vs : List V} {d : D} {ds : List D} : Rp K H v d → Rps K H vs ds → Rps K H (v :: vs) (d :: ds)
end

mutual
theorem Rp.mono {K : PySem.W.Frag} {H H' : Hp} (e : Ex H H') : ∀ {v : V} {d : D}, Rp K H v d → Rp K H' v d
  | _, _, .non => .non
  | _, _, .bl b => .bl b
  | _, _, .int i => .int i
  | _, _, .str x => .str x
  | _, _, .lst h r => .lst (e _ _ h) (Rps.mono e r)
  | _, _, .tup h r => .tup (Evl.ex_t e h) (Rps.mono e r)
  | _, _, .obj h l r => .obj (e _ _ h) l (Rps.mono e r)
  | _, _, .raw v => .raw v
  | _, _, .dk h l r => .dk (e _ _ h) l (Rps.mono e r)
  | _, _, .fn h g r => .fn (e _ _ h) (e _ _ g) (Rps.mono e r)
theorem Rps.mono {K : PySem.W.Frag} {H H' : Hp} (e : Ex H H') : ∀ {vs : List V} {ds : List D}, Rps K H vs ds → Rps K H' vs ds
  | _, _, .nil => .nil
  | _, _, .cons a b => .cons (Rp.mono e a) (Rps.mono e b)
end

section
variable {K : PySem.W.Frag} {H H' : Hp}
theorem Rps.length : ∀ {vs : List V} {ds : List D}, Rps K H vs ds → vs.length = ds.length
  | _, _, .nil => rfl
  | _, _, .cons _ b => by simp [Rps.length b]
theorem Rps.get : ∀ {vs : List V} {ds : List D} {i : Nat} {d : D}, Rps K H vs ds → ds[i]? = some d → ∃ v, vs[i]? = some v ∧ Rp K H v d
  | _, _, i, d, .nil, h => by simp at h
  | _, _, 0, d, .cons a b, h => by simp at h; subst h; exact ⟨_, rfl, a⟩
  | _, _, i + 1, d, .cons a b, h => by
    obtain ⟨v, h1, h2⟩ := Rps.get (i := i) b (by simpa using h)
    exact ⟨v, by simpa using h1, h2⟩
theorem Rps.getV : ∀ {vs : List V} {ds : List D} {i : Nat} {v : V}, Rps K H vs ds → vs[i]? = some v → ∃ d, ds[i]? = some d ∧ Rp K H v d
  | _, _, i, d, .nil, h => by simp at h
  | _, _, 0, d, .cons a b, h => by simp at h; subst h; exact ⟨_, rfl, a⟩
  | _, _, i + 1, d, .cons a b, h => by
    obtain ⟨v, h1, h2⟩ := Rps.getV (i := i) b (by simpa using h)
    exact ⟨v, by simpa using h1, h2⟩
theorem Rps.append : ∀ {xs : List V} {ds : List D} {ys : List V} {es : List D}, Rps K H xs ds → Rps K H ys es → Rps K H (xs ++ ys) (ds ++ es)
  | _, _, _, _, .nil, s => s
  | _, _, _, _, .cons r t, s => .cons r (Rps.append t s)
theorem Rps.take : ∀ {xs : List V} {ds : List D} (n : Nat), Rps K H xs ds → Rps K H (xs.take n) (ds.take n)
  | _, _, 0, _ => .nil
  | _, _, _ + 1, .nil => .nil
  | _, _, n + 1, .cons r t => .cons r (Rps.take n t)
theorem Rps.drop : ∀ {xs : List V} {ds : List D} (n : Nat), Rps K H xs ds → Rps K H (xs.drop n) (ds.drop n)
  | _, _, 0, r => r
  | _, _, _ + 1, .nil => .nil
  | _, _, n + 1, .cons _ t => Rps.drop n t
theorem Rps.set {v : V} {d : D} (r : Rp K H v d) : ∀ {xs : List V} {ds : List D} (i : Nat), Rps K H xs ds → Rps K H (xs.set i v) (ds.set i d)
  | _, _, _, .nil => .nil
  | _, _, 0, .cons _ t => .cons r t
  | _, _, i + 1, .cons q t => .cons q (Rps.set r i t)
theorem Rps.ints : ∀ {xs : List V} {ns : List Int}, Rps K H xs (ns.map D.int) → xs = ns.map V.int
  | _, [], .nil => rfl
  | _, n :: ns, .cons a b => by cases a; rw [Rps.ints b]; rfl
theorem Rps.bls : ∀ {xs : List V} {ns : List Bool}, Rps K H xs (ns.map D.bl) → xs = ns.map V.bl
  | _, [], .nil => rfl
  | _, n :: ns, .cons a b => by cases a; rw [Rps.bls b]; rfl
theorem Rps.strs : ∀ {xs : List V} {ns : List Str}, Rps K H xs (ns.map D.str) → xs = ns.map V.str
  | _, [], .nil => rfl
  | _, n :: ns, .cons a b => by cases a; rw [Rps.strs b]; rfl
theorem Rps.of_ints : ∀ (ns : List Int), Rps K H (ns.map V.int) (ns.map D.int)
  | [] => .nil
  | _ :: ns => .cons (.int _) (Rps.of_ints ns)
end

/-- no table of code objects -/
def noT : HO → Bool
  | .tbl _ => false
  | _ => true
theorem noT_of {o : HO} (h : noT o = true) : ∀ ps, o ≠ .tbl ps := fun ps e => by subst e; cases h
/-- what cannot change -/
def cut (S : Addr → Bool) (H : Hp) : Hp := fun a => if S a = true then none else (H a).filter noT
theorem cut_some3 {S : Addr → Bool} {H : Hp} {a : Addr} {o : HO} (h : cut S H a = some o) : S a = false ∧ H a = some o ∧ noT o = true := by
  unfold cut at h
  split at h
  · cases h
  · rename_i q
    rw [Option.filter_eq_some_iff] at h
    exact ⟨by simpa using q, h⟩
theorem cut_some {S : Addr → Bool} {H : Hp} {a : Addr} {o : HO} (h : cut S H a = some o) : S a = false ∧ H a = some o := ⟨(cut_some3 h).1, (cut_some3 h).2.1⟩
theorem cut_nt {S : Addr → Bool} {H : Hp} {a : Addr} {o : HO} (h : cut S H a = some o) : noT o = true := (cut_some3 h).2.2
theorem cut_mk {S : Addr → Bool} {H : Hp} {a : Addr} {o : HO} (h : S a = false) (e : H a = some o) (hn : noT o = true := by rfl) : cut S H a = some o := by
  unfold cut
  rw [if_neg (by rw [h]; simp), e]
  simp [Option.filter, hn]
theorem cut_ex (S : Addr → Bool) (H : Hp) : Ex (cut S H) H := fun a o h => (cut_some h).2

/-- the pen: cells, the next one's index, what is left of a great one -/
def PenOk (K : PySem.W.Frag) (S : Addr → Bool) (H : Hp) (p : Addr) (n : Nat) : Prop := ∃ (c : Addr) (ix left : Int) (ns : List Int),
  H p = some (.lst [.ref c, .int ix, .int left]) ∧ cut S H c = some (.lst (ns.map V.int)) ∧ ns.length ≤ 63 ∧ 0 ≤ ix ∧ ix ≤ n ∧ 0 ≤ left
def TabOk (H : Hp) (P : Addr) : Prop := NdefX.TabN H P (Tb.nm P)
theorem TabOk.ext {H H' : Hp} {P : Addr} (t : TabOk H P) (e : ∀ b o, H b = some o → H' b = some o) : TabOk H' P := NdefX.TabN.ext t e
/-- neither the pen nor a table -/
def Free (w : Option Addr) (a : Addr) : Prop := w ≠ some a ∧ Tb.tab a = false
/-- neither a table nor a thing told by a look at the heap -/
def plainO : HO → Bool
  | .tbl _ => false
  | .ext _ => false
  | _ => true
theorem plain_nt {o : HO} (h : plainO o = true) : noT o = true := by cases o <;> first | rfl | cases h
structure OkW (K : PySem.W.Frag) (w : Option Addr) (S : Addr → Bool) (H : Hp) (n : Nat) : Prop where
  pen : ∀ p, w = some p → S p = true ∧ PenOk K S H p n
  all : ∀ a, S a = true → ∃ o, H a = some o
  tabs : ∀ a, Tb.tab a = true → S a = true ∧ TabOk H a
  kinds : ∀ a, S a = true → Tb.tab a = true ∨ ∃ o, H a = some o ∧ plainO o = true
structure Pres (w : Option Addr) (H H' : Hp) : Prop where
  go : ∀ (a : Addr) (o : HO), Free w a → H a = some o → noT o = true → H' a = some o
  back : ∀ a, H' a = none → H a = none

section
variable {K : PySem.W.Frag} {w : Option Addr} {S : Addr → Bool} {H H0 H1 H2 H' : Hp} {n m : Nat}
theorem Pres.refl : Pres w H H := ⟨fun _ _ _ h _ => h, fun _ h => h⟩
theorem Pres.trans (a : Pres w H H1) (b : Pres w H1 H2) : Pres w H H2 := ⟨fun x o n h t => b.go x o n (a.go x o n h t) t, fun x h => a.back x (b.back x h)⟩
theorem Pres.of (e : Ex H H') : Pres w H H' := ⟨fun a o _ h _ => e a o h, fun a h => by
  cases z : H a with
  | none => rfl
  | some o => rw [e a o z] at h; cases h⟩
theorem Pres.new {p : Addr} {o : HO} (h : H p = none) : Pres w H (upd H p o) := Pres.of (Evl.Ex.new h)
theorem ex_cut (ok : OkW K w S H n) (h : Pres w H H') : Ex (cut S H) (cut S H') := fun a o e => by
  obtain ⟨h1, h2, h3⟩ := cut_some3 e
  refine cut_mk h1 (h.go a o ⟨fun q => ?_, ?_⟩ h2 h3) h3
  · have := (ok.1 a q).1
    rw [h1] at this; cases this
  · cases z : Tb.tab a with
    | false => rfl
    | true => have := (ok.3 a z).1; rw [h1] at this; cases this
theorem OkW.fresh (ok : OkW K w S H n) {p : Addr} (h : H p = none) : S p = false := by
  cases q : S p with
  | false => rfl
  | true =>
    obtain ⟨o, e⟩ := ok.2 p q
    rw [h] at e; cases e
theorem OkW.w_ne (ok : OkW K w S H n) {p : Addr} (h : S p = false) : Free w p := by
  refine ⟨fun q => ?_, ?_⟩
  · have := (ok.1 p q).1
    rw [h] at this; cases this
  · cases z : Tb.tab p with
    | false => rfl
    | true => have := (ok.3 p z).1; rw [h] at this; cases this
/-- what does not touch the pen keeps all -/
theorem OkW.ex (ok : OkW K w S H n) (e : Ex H H') : OkW K w S H' n := by
  refine ⟨fun p hp => ⟨(ok.1 p hp).1, ?_⟩, fun a h => ?_, fun a h => ⟨(ok.3 a h).1, (ok.3 a h).2.ext e⟩, fun a h => (ok.4 a h).imp id fun ⟨o, z, t⟩ => ⟨o, e _ _ z, t⟩⟩
  · obtain ⟨c, ix, left, ns, h1, h2, h3⟩ := (ok.1 p hp).2
    exact ⟨c, ix, left, ns, e _ _ h1, ex_cut ok (Pres.of e) _ _ h2, h3⟩
  · obtain ⟨o, h⟩ := ok.2 a h
    exact ⟨o, e _ _ h⟩
theorem OkW.new (ok : OkW K w S H n) {p : Addr} {o : HO} (h : H p = none) : OkW K w S (upd H p o) n := ok.ex (Evl.Ex.new h)
theorem OkW.mono (ok : OkW K w S H n) (h : n ≤ m) : OkW K w S H m := by
  refine ⟨fun p hp => ⟨(ok.1 p hp).1, ?_⟩, ok.2, ok.3, ok.4⟩
  obtain ⟨c, ix, left, ns, h1, h2, h3, h4, h5, h6⟩ := (ok.1 p hp).2
  exact ⟨c, ix, left, ns, h1, h2, h3, h4, by omega, h6⟩
theorem cut_new (ok : OkW K w S H n) {p : Addr} {o : HO} (h : H p = none) (hn : noT o = true := by rfl) : cut S (upd H p o) p = some o := cut_mk (ok.fresh h) upd_same hn
end

def isOwn : D → Bool
  | .own _ => true
  | _ => false

/-- the frame's slots stand for data; none: nothing is known -/
structure RpE (K : PySem.W.Frag) (w : Option Addr) (S : Addr → Bool) (H0 H : Hp) (σ : St) (ds : List (Option D)) : Prop where
  len : σ.length = ds.length
  get : ∀ (i : Nat) (d : D), ds[i]? = some (some d) → isOwn d = false → ∃ v : V, σ[i]? = some (some v) ∧ Rp K (cut S H) v d
  own : ∀ (i : Nat) (l : List D), ds[i]? = some (some (.own l)) → ∃ (a : Addr) (xs : List V), σ[i]? = some (some (.ref a)) ∧ S a = true ∧ Free w a ∧ H0 a = none ∧ H a = some (.lst xs) ∧ Rps K (cut S H) xs l
  dis : ∀ (i j : Nat) (l m : List D) (a : Addr), i ≠ j → ds[i]? = some (some (.own l)) → ds[j]? = some (some (.own m)) → σ[i]? = some (some (.ref a)) → σ[j]? ≠ some (some (.ref a))
section
variable {K : PySem.W.Frag} {w : Option Addr} {S : Addr → Bool} {H H0 H1 H2 H' : Hp} {n m : Nat} {σ : St} {ds : List (Option D)}
theorem RpE.up (r : RpE K w S H0 H σ ds) (ok : OkW K w S H n) (h : Pres w H H') : RpE K w S H0 H' σ ds where
  len := r.len
  get := fun i d e o => by
    obtain ⟨v, h1, h2⟩ := r.get i d e o
    exact ⟨v, h1, h2.mono (ex_cut ok h)⟩
  own := fun i l e => by
    obtain ⟨a, xs, h1, h2, h3, h0, h4, h5⟩ := r.own i l e
    exact ⟨a, xs, h1, h2, h3, h0, h.go a _ h3 h4 rfl, h5.mono (ex_cut ok h)⟩
  dis := r.dis
end
abbrev Kn := D → Nat → Prop
def Po (K : PySem.W.Frag) (w : Option Addr) (S : Addr → Bool) (H : Hp) (k : Kn) (Q : VK) : Prop :=
  ∀ (v : V) (H' : Hp) (d : D) (n' : Nat), k d n' → Pres w H H' → OkW K w S H' n' → Rp K (cut S H') v d → Q v H'
def WpE (K : PySem.W.Frag) (w : Option Addr) (te : TE) (ds : List (Option D)) (n : Nat) (k : Kn) : Prop :=
  ∀ (S : Addr → Bool) (H0 : Hp) (σ : St) (H : Hp) (Q : VK), RpE K w S H0 H σ ds → OkW K w S H n → Po K w S H k Q → te σ H Q
def WpT (K : PySem.W.Frag) (w : Option Addr) (tt : TT) (ds : List (Option D)) (n : Nat) (k : Bool → Nat → Prop) : Prop :=
  ∀ (S : Addr → Bool) (H0 : Hp) (σ : St) (H : Hp) (Q : Bool → Hp → Prop), RpE K w S H0 H σ ds → OkW K w S H n → (∀ (b : Bool) (H' : Hp) (n' : Nat), k b n' → Pres w H H' → OkW K w S H' n' → Q b H') → tt σ H Q
def WpA (K : PySem.W.Frag) (w : Option Addr) (ta : TA) (ds : List (Option D)) (n : Nat) (k : List D → Nat → Prop) : Prop :=
  ∀ (S : Addr → Bool) (H0 : Hp) (σ : St) (H : Hp) (Q : List V → Hp → Prop), RpE K w S H0 H σ ds → OkW K w S H n → (∀ (vs : List V) (H' : Hp) (es : List D) (n' : Nat), k es n' → Pres w H H' → OkW K w S H' n' → Rps K (cut S H') vs es → Q vs H') → ta σ H Q
def RD (K : PySem.W.Frag) (w : Option Addr) (r : R2) (d e : D) (n : Nat) (k : Kn) : Prop :=
  ∀ (S : Addr → Bool) (v u : V) (H : Hp) (Q : VK), Rp K (cut S H) v d → Rp K (cut S H) u e → OkW K w S H n → Po K w S H k Q → r v u H Q
def RU (K : PySem.W.Frag) (w : Option Addr) (r : V → Hp → VK → Prop) (d : D) (n : Nat) (k : Kn) : Prop :=
  ∀ (S : Addr → Bool) (v : V) (H : Hp) (Q : VK), Rp K (cut S H) v d → OkW K w S H n → Po K w S H k Q → r v H Q
/-- a call by values -/
def RC (K : PySem.W.Frag) (w : Option Addr) (r : List V → Hp → VK → Prop) (es : List D) (n : Nat) (k : Kn) : Prop :=
  ∀ (S : Addr → Bool) (vs : List V) (H : Hp) (Q : VK), Rps K (cut S H) vs es → OkW K w S H n → Po K w S H k Q → r vs H Q

section
variable {K : PySem.W.Frag} {w : Option Addr} {S : Addr → Bool} {H H0 H1 H2 H' : Hp} {n m : Nat} {σ : St} {ds : List (Option D)} {ta tb te : TE} {t u : TT} {tA tR : TA} {k k' : Kn} {d e : D}
theorem Po.from {Q : VK} (p : Po K w S H k Q) (h : Pres w H H') : Po K w S H' k Q := fun v H2 d n2 hk pr ok r => p v H2 d n2 hk (h.trans pr) ok r
theorem Po.imp {Q : VK} (p : Po K w S H k' Q) (h : ∀ d n, k d n → k' d n) : Po K w S H k Q := fun v H2 d n2 hk pr ok r => p v H2 d n2 (h _ _ hk) pr ok r
theorem WpE.imp (h : WpE K w te ds n k) (hk : ∀ d n, k d n → k' d n) : WpE K w te ds n k' := fun S H0 σ H Q r ok p => h S H0 σ H Q r ok (p.imp hk)
theorem e_var {i : Nat} (h : ds[i]? = some (some d)) (hk : k d n) (ho : isOwn d = false := by rfl) : WpE K w (tVar i) ds n k := fun S H0 σ H Q r ok p => by
  obtain ⟨v, h1, h2⟩ := r.get i d h ho
  exact ⟨v, h1, p v H d n hk Pres.refl ok h2⟩
theorem e_int {i : Int} (hk : k (.int i) n) : WpE K w (tC (.int i)) ds n k := fun S H0 σ H Q r ok p => p _ H _ n hk Pres.refl ok (.int i)
theorem e_str {i : Str} (hk : k (.str i) n) : WpE K w (tC (.str i)) ds n k := fun S H0 σ H Q r ok p => p _ H _ n hk Pres.refl ok (.str i)
theorem e_bl {i : Bool} (hk : k (.bl i) n) : WpE K w (tC (.bl i)) ds n k := fun S H0 σ H Q r ok p => p _ H _ n hk Pres.refl ok (.bl i)
theorem e_non (hk : k .non n) : WpE K w (tC .non) ds n k := fun S H0 σ H Q r ok p => p _ H _ n hk Pres.refl ok .non
theorem e_raw {v : V} (hk : k (.raw v) n) : WpE K w (tC v) ds n k := fun S H0 σ H Q r ok p => p _ H _ n hk Pres.refl ok (.raw v)
/-- a tuple of the module -/
theorem e_tupK {a : Addr} {xs : List V} {l : List D} (hT : SqT K (fun _ => none) a xs) (hx : Rps K (fun _ => none) xs l) (hk : k (.tup l) n) : WpE K w (tC (.ref a)) ds n k := fun S H0 σ H Q r ok p => by
  have e : Ex (fun _ => none) (cut S H) := fun _ _ h => by cases h
  exact p _ H _ n hk Pres.refl ok (.tup (Evl.ex_t e hT) (hx.mono e))
theorem e_op {r : R2} (h : WpE K w ta ds n fun d n1 => WpE K w tb ds n1 fun e n2 => RD K w r d e n2 k) : WpE K w (tOp r ta tb) ds n k := fun S H0 σ H Q re ok p =>
  h S H0 σ H _ re ok fun v H1 d n1 h1 p1 ok1 r1 => h1 S H0 σ H1 _ (re.up ok p1) ok1 fun u H2 e n2 h2 p2 ok2 r2 =>
    h2 S v u H2 Q (r1.mono (ex_cut ok1 p2)) r2 ok2 ((p.from p1).from p2)
theorem e_un {r : V → Hp → VK → Prop} (h : WpE K w ta ds n fun d n1 => RU K w r d n1 k) : WpE K w (tUn r ta) ds n k := fun S H0 σ H Q re ok p =>
  h S H0 σ H _ re ok fun v H1 d n1 h1 p1 ok1 r1 => h1 S v H1 Q r1 ok1 (p.from p1)
theorem a_nil {k : List D → Nat → Prop} (h : k [] n) : WpA K w tNil ds n k := fun S H0 σ H Q re ok p => p [] H [] n h Pres.refl ok .nil
theorem a_cons {k : List D → Nat → Prop} (h : WpE K w te ds n fun d n1 => WpA K w tR ds n1 fun es n2 => k (d :: es) n2) : WpA K w (tCons te tR) ds n k := fun S H0 σ H Q re ok p =>
  h S H0 σ H _ re ok fun v H1 d n1 h1 p1 ok1 r1 => h1 S H0 σ H1 _ (re.up ok p1) ok1 fun vs H2 es n2 h2 p2 ok2 r2 =>
    p (v :: vs) H2 (d :: es) n2 h2 (p1.trans p2) ok2 (.cons (r1.mono (ex_cut ok1 p2)) r2)
theorem e_tup (h : WpA K w tA ds n fun es n1 => es.length ≤ 100000 ∧ k (.tup es) n1) : WpE K w (tTup tA) ds n k := fun S H0 σ H Q re ok p =>
  h S H0 σ H _ re ok fun vs H1 es n1 h1 p1 ok1 r1 => ⟨Evl.sz_of (by rw [r1.length]; exact h1.1), fun q hq =>
    p _ _ _ n1 h1.2 (p1.trans (Pres.new hq)) (ok1.new hq) (.tup (SqT.of (cut_new ok1 hq)) (r1.mono (ex_cut ok1 (Pres.new hq))))⟩
theorem e_lst (h : WpA K w tA ds n fun es n1 => es.length ≤ 100000 ∧ k (.lst es) n1) : WpE K w (tLst tA) ds n k := fun S H0 σ H Q re ok p =>
  h S H0 σ H _ re ok fun vs H1 es n1 h1 p1 ok1 r1 => ⟨Evl.sz_of (by rw [r1.length]; exact h1.1), fun q hq =>
    p _ _ _ n1 h1.2 (p1.trans (Pres.new hq)) (ok1.new hq) (.lst (cut_new ok1 hq) (r1.mono (ex_cut ok1 (Pres.new hq))))⟩
theorem e_cb {r : List V → Hp → VK → Prop} (h : WpA K w tA ds n fun es n1 => RC K w r es n1 k) : WpE K w (tCB r tA) ds n k := fun S H0 σ H Q re ok p =>
  h S H0 σ H _ re ok fun vs H1 es n1 h1 p1 ok1 r1 => h1 S vs H1 Q r1 ok1 (p.from p1)
/-! tests -/
theorem t_test {k : Bool → Nat → Prop} (h : WpE K w te ds n fun d n1 => ∃ b, d = .bl b ∧ k b n1) : WpT K w (tTest te) ds n k := fun S H0 σ H Q re ok p =>
  h S H0 σ H _ re ok fun v H1 d n1 ⟨b, e, hk⟩ p1 ok1 r1 => by
    subst e; cases r1; exact ⟨b, rfl, p b H1 n1 hk p1 ok1⟩
theorem t_B {k : Bool → Nat → Prop} (h : WpE K w te ds n fun d n1 => ∃ b, d = .bl b ∧ k b n1) : WpT K w (tB te) ds n k := fun S H0 σ H Q re ok p =>
  h S H0 σ H _ re ok fun v H1 d n1 ⟨b, e, hk⟩ p1 ok1 r1 => by
    subst e; cases r1; exact ⟨b, rfl, p b H1 n1 hk p1 ok1⟩
theorem t_and {k : Bool → Nat → Prop} (h : WpT K w t ds n fun b n1 => (b = true → WpT K w u ds n1 k) ∧ (b = false → k false n1)) : WpT K w (tAnd t u) ds n k := fun S H0 σ H Q re ok p =>
  h S H0 σ H _ re ok fun b H1 n1 ⟨h1, h2⟩ p1 ok1 => by
    cases b with
    | true => exact h1 rfl S H0 σ H1 Q (re.up ok p1) ok1 fun b H2 n2 hk p2 ok2 => p b H2 n2 hk (p1.trans p2) ok2
    | false => exact p false H1 n1 (h2 rfl) p1 ok1
theorem t_or {k : Bool → Nat → Prop} (h : WpT K w t ds n fun b n1 => (b = true → k true n1) ∧ (b = false → WpT K w u ds n1 k)) : WpT K w (tOr t u) ds n k := fun S H0 σ H Q re ok p =>
  h S H0 σ H _ re ok fun b H1 n1 ⟨h1, h2⟩ p1 ok1 => by
    cases b with
    | false => exact h2 rfl S H0 σ H1 Q (re.up ok p1) ok1 fun b H2 n2 hk p2 ok2 => p b H2 n2 hk (p1.trans p2) ok2
    | true => exact p true H1 n1 (h1 rfl) p1 ok1
theorem t_not {k : Bool → Nat → Prop} (h : WpT K w t ds n fun b n1 => k (!b) n1) : WpT K w (tNot t) ds n k := fun S H0 σ H Q re ok p =>
  h S H0 σ H _ re ok fun b H1 n1 h1 p1 ok1 => p (!b) H1 n1 h1 p1 ok1
theorem e_andV (h : WpE K w ta ds n fun d n1 => ∃ b, d = .bl b ∧ (b = true → WpE K w tb ds n1 k) ∧ (b = false → k (.bl false) n1)) : WpE K w (tAndV ta tb) ds n k := fun S H0 σ H Q re ok p =>
  h S H0 σ H _ re ok fun v H1 d n1 ⟨b, e, h1, h2⟩ p1 ok1 r1 => by
    subst e; cases r1
    refine ⟨b, rfl, ?_⟩
    cases b with
    | true => exact h1 rfl S H0 σ H1 Q (re.up ok p1) ok1 (p.from p1)
    | false => exact p _ H1 _ n1 (h2 rfl) p1 ok1 (.bl false)
theorem e_orV (h : WpE K w ta ds n fun d n1 => ∃ b, d = .bl b ∧ (b = false → WpE K w tb ds n1 k) ∧ (b = true → k (.bl true) n1)) : WpE K w (tOrV ta tb) ds n k := fun S H0 σ H Q re ok p =>
  h S H0 σ H _ re ok fun v H1 d n1 ⟨b, e, h1, h2⟩ p1 ok1 r1 => by
    subst e; cases r1
    refine ⟨b, rfl, ?_⟩
    cases b with
    | false => exact h1 rfl S H0 σ H1 Q (re.up ok p1) ok1 (p.from p1)
    | true => exact p _ H1 _ n1 (h2 rfl) p1 ok1 (.bl true)
theorem e_notV (h : WpE K w ta ds n fun d n1 => ∃ b, d = .bl b ∧ k (.bl (!b)) n1) : WpE K w (tNotV ta) ds n k := fun S H0 σ H Q re ok p =>
  h S H0 σ H _ re ok fun v H1 d n1 ⟨b, e, h1⟩ p1 ok1 r1 => by
    subst e; cases r1
    exact ⟨b, rfl, p _ H1 _ n1 h1 p1 ok1 (.bl _)⟩
theorem e_if (h : WpT K w t ds n fun b n1 => (b = true → WpE K w ta ds n1 k) ∧ (b = false → WpE K w tb ds n1 k)) : WpE K w (tIf t ta tb) ds n k := fun S H0 σ H Q re ok p =>
  h S H0 σ H _ re ok fun b H1 n1 ⟨h1, h2⟩ p1 ok1 => by
    cases b with
    | true => exact h1 rfl S H0 σ H1 Q (re.up ok p1) ok1 (p.from p1)
    | false => exact h2 rfl S H0 σ H1 Q (re.up ok p1) ok1 (p.from p1)
end
end DW
set_option Elab.async false
set_option maxRecDepth 100000
set_option maxHeartbeats 4000000
set_option linter.all false
set_option autoImplicit false
namespace DW
variable [Tb]
open PySem L2

def addS (S : Addr → Bool) (p : Addr) : Addr → Bool := fun a => S a || decide (a = p)
theorem addS_of {S : Addr → Bool} {p a : Addr} (h : S a = true) : addS S p a = true := by unfold addS; rw [h]; rfl
theorem addS_same {S : Addr → Bool} {p : Addr} : addS S p p = true := by unfold addS; simp
theorem addS_ne {S : Addr → Bool} {p a : Addr} (h : addS S p a = true) (n : a ≠ p) : S a = true := by unfold addS at h; simpa [n] using h
theorem addS_or {S : Addr → Bool} {p a : Addr} (h : addS S p a = true) : S a = true ∨ a = p := by unfold addS at h; simpa using h

section
variable {K : PySem.W.Frag} {w : Option Addr} {S : Addr → Bool} {H H0 H1 H2 H' : Hp} {n m : Nat} {σ : St} {ds : List (Option D)}
/-- a new object at p that may change -/
theorem cut_addS {p : Addr} {o : HO} (hp : H p = none) : Ex (cut S H) (cut (addS S p) (upd H p o)) := fun a u e => by
  obtain ⟨h1, h2⟩ := cut_some e
  have ne : a ≠ p := ne_of_none h2 hp
  exact cut_mk (by unfold addS; simp [h1, ne]) (by rw [upd_ne ne]; exact h2) (cut_nt e)
theorem cut_sub {S' : Addr → Bool} (h : ∀ a, S a = true → S' a = true) : Ex (cut S' H) (cut S H) := fun a u e => by
  obtain ⟨h1, h2⟩ := cut_some e
  refine cut_mk ?_ h2 (cut_nt e)
  cases q : S a with
  | false => rfl
  | true => rw [h a q] at h1; cases h1
theorem cut_upd {p : Addr} {o : HO} (h : S p = true) : cut S (upd H p o) = cut S H := by
  funext a
  unfold cut
  by_cases e : a = p
  · subst e; rw [if_pos h, if_pos h]
  · rw [upd_ne e]
theorem OkW.addS (ok : OkW K w S H n) {p : Addr} {o : HO} (hp : H p = none) (ho : plainO o = true := by rfl) : OkW K w (DW.addS S p) (upd H p o) n := by
  refine ⟨fun q hq => ⟨addS_of (ok.1 q hq).1, ?_⟩, fun a h => ?_, fun a h => ⟨addS_of (ok.3 a h).1, (ok.3 a h).2.ext fun b u e => by rw [upd_ne (ne_of_none e hp)]; exact e⟩, fun a h => ?_⟩
  · obtain ⟨c, ix, left, ns, h1, h2, h3⟩ := (ok.1 q hq).2
    exact ⟨c, ix, left, ns, by rw [upd_ne (ne_of_none h1 hp)]; exact h1, cut_addS hp _ _ h2, h3⟩
  · rcases addS_or h with h | h
    · obtain ⟨u, hu⟩ := ok.2 a h
      exact ⟨u, by rw [upd_ne (ne_of_none hu hp)]; exact hu⟩
    · subst h; exact ⟨o, upd_same⟩
  · rcases addS_or h with h | h
    · exact (ok.4 a h).imp id fun ⟨u, hu, t⟩ => ⟨u, by rw [upd_ne (ne_of_none hu hp)]; exact hu, t⟩
    · subst h; exact .inr ⟨o, upd_same, ho⟩
/-- no code object -/
def NotCode (H : Hp) (p : Addr) : Prop := ∀ q, H p ≠ some (LamX.CodeO p q)
theorem NotCode.lst {p : Addr} {xs : List V} (h : H p = some (.lst xs)) : NotCode H p := fun q e => by
  rw [h] at e
  unfold LamX.CodeO at e
  cases e
theorem NotCode.ins {p C dx : Addr} {fs : List (Str × V)} (h : H p = some (.ins C dx fs)) : NotCode H p := fun q e => by
  rw [h] at e
  unfold LamX.CodeO at e
  cases e
theorem TabOk.upd {P p : Addr} {o : HO} (t : TabOk H P) (hp : Tb.tab p = false) (hP : Tb.tab P = true) (nc : NotCode H p) : TabOk (L2.upd H p o) P := by
  obtain ⟨ps, h1, h2, h3⟩ := t
  refine ⟨ps, ?_, h2, fun pos cv hc => ?_⟩
  · rw [upd_ne (fun e => by rw [e, hp] at hP; cases hP)]; exact h1
  · obtain ⟨c, e1, e2⟩ := h3 pos cv hc
    refine ⟨c, e1, ?_⟩
    rw [upd_ne (fun e => by subst e; exact nc _ e2)]; exact e2
theorem OkW.mut (ok : OkW K w S H n) {p : Addr} {o : HO} (hp : S p = true) (hw : Free w p) (nc : NotCode H p) (ho : plainO o = true := by rfl) : OkW K w S (upd H p o) n := by
  refine ⟨fun q hq => ⟨(ok.1 q hq).1, ?_⟩, fun a h => ?_, fun a h => ⟨(ok.3 a h).1, (ok.3 a h).2.upd hw.2 h nc⟩, fun a h => ?_⟩
  · obtain ⟨c, ix, left, ns, h1, h2, h3⟩ := (ok.1 q hq).2
    have ne : q ≠ p := fun e => hw.1 (by rw [hq, e])
    exact ⟨c, ix, left, ns, by rw [upd_ne ne]; exact h1, by rw [cut_upd hp]; exact h2, h3⟩
  · by_cases e : a = p
    · subst e; exact ⟨o, upd_same⟩
    · obtain ⟨u, hu⟩ := ok.2 a h
      exact ⟨u, by rw [upd_ne e]; exact hu⟩
  · by_cases e : a = p
    · subst e; exact .inr ⟨o, upd_same, ho⟩
    · exact (ok.4 a h).imp id fun ⟨u, hu, t⟩ => ⟨u, by rw [upd_ne e]; exact hu, t⟩
theorem OkW.less {S0 : Addr → Bool} (ok : OkW K w S H n) (hs : ∀ a, S0 a = true → S a = true) (hw : ∀ p, w = some p → S0 p = true) (ht : ∀ a, Tb.tab a = true → S0 a = true) : OkW K w S0 H n := by
  refine ⟨fun q hq => ⟨hw q hq, ?_⟩, fun a h => ok.2 a (hs a h), fun a h => ⟨ht a h, (ok.3 a h).2⟩, fun a h => ok.4 a (hs a h)⟩
  obtain ⟨c, ix, left, ns, h1, h2, h3⟩ := (ok.1 q hq).2
  exact ⟨c, ix, left, ns, h1, cut_sub hs _ _ h2, h3⟩
theorem RpE.set (r : RpE K w S H0 H σ ds) {i : Nat} {v : V} {d : D} (hv : Rp K (cut S H) v d) (ho : isOwn d = false) : RpE K w S H0 H (σ.set i (some v)) (ds.set i (some d)) where
  len := by simp [r.len]
  get := fun j e h o => by
    by_cases hj : i = j
    · subst hj
      by_cases hl : i < ds.length
      · rw [List.getElem?_set_self hl] at h
        cases h
        exact ⟨v, by rw [List.getElem?_set_self (by rw [r.len]; exact hl)], hv⟩
      · rw [List.getElem?_eq_none (by simpa using hl)] at h; cases h
    · rw [List.getElem?_set_ne hj] at h ⊢
      exact r.get j e h o
  own := fun j l h => by
    by_cases hj : i = j
    · subst hj
      by_cases hl : i < ds.length
      · rw [List.getElem?_set_self hl] at h
        cases h; cases ho
      · rw [List.getElem?_eq_none (by simpa using hl)] at h; cases h
    · rw [List.getElem?_set_ne hj] at h ⊢
      exact r.own j l h
  dis := fun j k l m a hjk h1 h2 => by
    have nj : i ≠ j := fun e => by
      subst e
      by_cases hl : i < ds.length
      · rw [List.getElem?_set_self hl] at h1; cases h1; cases ho
      · rw [List.getElem?_eq_none (by simpa using hl)] at h1; cases h1
    have nk : i ≠ k := fun e => by
      subst e
      by_cases hl : i < ds.length
      · rw [List.getElem?_set_self hl] at h2; cases h2; cases ho
      · rw [List.getElem?_eq_none (by simpa using hl)] at h2; cases h2
    rw [List.getElem?_set_ne nj] at h1 ⊢
    rw [List.getElem?_set_ne nk] at h2 ⊢
    exact r.dis j k l m a hjk h1 h2
/-- forgetting -/
theorem RpE.forget (r : RpE K w S H0 H σ ds) {ds' : List (Option D)} (hl : ds'.length = ds.length) (h : ∀ (i : Nat) (d : D), ds'[i]? = some (some d) → ds[i]? = some (some d)) : RpE K w S H0 H σ ds' where
  len := by rw [hl]; exact r.len
  get := fun i d e o => r.get i d (h i d e) o
  own := fun i l e => r.own i l (h _ _ e)
  dis := fun i j l m a hij h1 h2 => r.dis i j l m a hij (h _ _ h1) (h _ _ h2)
def dwipe (ds : List (Option D)) : List Nat → List (Option D)
  | [] => ds
  | v :: vs => (dwipe ds vs).set v none
theorem RpE.set0 (r : RpE K w S H0 H σ ds) (i : Nat) : RpE K w S H0 H (σ.set i none) (ds.set i none) := by
  have no : ∀ (j : Nat) (d : D), (ds.set i none)[j]? = some (some d) → i ≠ j ∧ ds[j]? = some (some d) := fun j d h => by
    by_cases hj : i = j
    · subst hj
      by_cases hl : i < ds.length
      · rw [List.getElem?_set_self hl] at h; cases h
      · rw [List.getElem?_eq_none (by simpa using hl)] at h; cases h
    · rw [List.getElem?_set_ne hj] at h
      exact ⟨hj, h⟩
  refine ⟨by simp [r.len], fun j d h o => ?_, fun j l h => ?_, fun j k l m a hjk h1 h2 => ?_⟩
  · obtain ⟨hj, h⟩ := no j d h
    rw [List.getElem?_set_ne hj]; exact r.get j d h o
  · obtain ⟨hj, h⟩ := no j _ h
    rw [List.getElem?_set_ne hj]; exact r.own j l h
  · obtain ⟨hj, h1⟩ := no j _ h1
    obtain ⟨hk, h2⟩ := no k _ h2
    rw [List.getElem?_set_ne hj, List.getElem?_set_ne hk]; exact r.dis j k l m a hjk h1 h2
theorem RpE.wipe (r : RpE K w S H0 H σ ds) : ∀ vs : List Nat, RpE K w S H0 H (L2.wipe σ vs) (dwipe ds vs)
  | [] => r
  | v :: vs => (RpE.wipe r vs).set0 v
theorem wipe_in {σ : St} {i : Nat} : ∀ {vs : List Nat}, i ∈ vs → i < σ.length → (L2.wipe σ vs)[i]? = some none
  | v :: vs, h, hl => by
    unfold L2.wipe
    by_cases e : v = i
    · subst e; rw [List.getElem?_set_self (by rw [wipe_length]; exact hl)]
    · rw [List.getElem?_set_ne e]
      rcases List.mem_cons.mp h with z | z
      · exact absurd z.symm e
      · exact wipe_in z hl
theorem wipe_set {σ : St} {i : Nat} {x : Option V} {vs : List Nat} (h : i ∈ vs) : L2.wipe (σ.set i x) vs = L2.wipe σ vs := by
  apply List.ext_getElem?
  intro j
  by_cases hj : j ∈ vs
  · by_cases hl : j < σ.length
    · rw [wipe_in hj hl, wipe_in hj (by simpa using hl)]
    · rw [List.getElem?_eq_none (by rw [wipe_length]; simpa using hl), List.getElem?_eq_none (by rw [wipe_length]; simpa using hl)]
  · rw [wipe_out hj, wipe_out hj, List.getElem?_set_ne (fun e => hj (by rw [← e]; exact h))]
theorem wipe_wipe {σ : St} {vs : List Nat} : L2.wipe (L2.wipe σ vs) vs = L2.wipe σ vs := by
  apply List.ext_getElem?
  intro j
  by_cases hj : j ∈ vs
  · by_cases hl : j < σ.length
    · rw [wipe_in hj hl, wipe_in hj (by rw [wipe_length]; exact hl)]
    · rw [List.getElem?_eq_none (by rw [wipe_length, wipe_length]; simpa using hl), List.getElem?_eq_none (by rw [wipe_length]; simpa using hl)]
  · rw [wipe_out hj]

/-! ### targets: names, tuples of such -/
/-- the store of d goes from ds to ds', within the slots vs -/
def GD (K : PySem.W.Frag) (w : Option Addr) (g : TG) (d : D) (ds ds' : List (Option D)) (vs : List Nat) : Prop :=
  ∀ (S : Addr → Bool) (H0 : Hp) (σ : St) (H : Hp) (v : V) (Q : St → Hp → Prop), RpE K w S H0 H σ ds → Rp K (cut S H) v d →
    (∀ σ', RpE K w S H0 H σ' ds' → (∀ us, (∀ i ∈ vs, i ∈ us) → L2.wipe σ' us = L2.wipe σ us) → Q σ' H) → g v σ H Q
def GDs (K : PySem.W.Frag) (w : Option Addr) (g : TGs) (es : List D) (ds ds' : List (Option D)) (vs : List Nat) : Prop :=
  ∀ (S : Addr → Bool) (H0 : Hp) (σ : St) (H : Hp) (xs : List V) (Q : St → Hp → Prop), RpE K w S H0 H σ ds → Rps K (cut S H) xs es →
    (∀ σ', RpE K w S H0 H σ' ds' → (∀ us, (∀ i ∈ vs, i ∈ us) → L2.wipe σ' us = L2.wipe σ us) → Q σ' H) → g xs σ H Q
theorem g_name {i : Nat} {d : D} (ho : isOwn d = false := by rfl) : GD K w (gName i) d ds (ds.set i (some d)) [i] := fun S H0 σ H v Q r hv k =>
  k _ (r.set hv ho) fun us h => wipe_set (h i (List.mem_singleton.mpr rfl))
theorem gs_nil : GDs K w gNil [] ds ds [] := fun S H0 σ H xs Q r hv k => by
  cases hv; exact ⟨rfl, k σ r fun _ _ => rfl⟩
theorem gs_cons {t : TG} {u : TGs} {d : D} {es : List D} {ds1 ds2 : List (Option D)} {vs us : List Nat} (h1 : GD K w t d ds ds1 vs) (h2 : GDs K w u es ds1 ds2 us) : GDs K w (gCons t u) (d :: es) ds ds2 (vs ++ us) := fun S H0 σ H xs Q r hv k => by
  cases hv with
  | cons a b => exact ⟨_, _, rfl, h1 S H0 σ H _ _ r a fun σ' r' w' => h2 S H0 σ' H _ _ r' b fun σ2 r2 w2 => k σ2 r2 fun zs hz =>
      (w2 zs fun i hi => hz i (List.mem_append_right _ hi)).trans (w' zs fun i hi => hz i (List.mem_append_left _ hi))⟩
theorem g_tup {u : TGs} {es : List D} {ds1 : List (Option D)} {vs : List Nat} {k : Nat} (h : GDs K w u es ds ds1 vs) (hl : es.length = k) : GD K w (gTup K k u) (.tup es) ds ds1 vs := fun S H0 σ H v Q r hv kk => by
  cases hv with
  | tup hT hx => exact ⟨_, _, rfl, Evl.ex_t (cut_ex S H) hT, by rw [hx.length]; exact hl, h S H0 σ H _ Q r hx kk⟩

/-! ### what is walked -/
def Wk (K : PySem.W.Frag) (Hk : Hp) (J : It) (items : List D) : Prop := ∀ (i : Nat) (H : Hp), Ex Hk H →
  (∀ d, items[i]? = some d → J.go i H ∧ ∀ x H', J.yld i H x H' → Ex H H' ∧ ∀ S : Addr → Bool, Ex Hk (cut S H) → (∀ a, S a = true → ∃ o, H a = some o) → Rp K (cut S H') x d) ∧ (items.length ≤ i → J.stop i H)
def WpI (K : PySem.W.Frag) (w : Option Addr) (wi : TI) (ds : List (Option D)) (n : Nat) (k : List D → Nat → Prop) : Prop :=
  ∀ (S : Addr → Bool) (H0 : Hp) (σ : St) (H : Hp) (R : It → Hp → Prop), RpE K w S H0 H σ ds → OkW K w S H n →
    (∀ (J : It) (H1 : Hp) (items : List D) (n1 : Nat), k items n1 → Pres w H H1 → OkW K w S H1 n1 → Wk K (cut S H1) J items → R J H1) → wi σ H R
theorem wk_list {a : Addr} {xs : List V} {l : List D} {Hk : Hp} (h : Hk a = some (.lst xs)) (r : Rps K Hk xs l) : Wk K Hk (Itl K a) l := fun i H e => by
  have hl := r.length
  have q : SqL K H a xs := SqL.of (e _ _ h)
  refine ⟨fun d hd => ?_, fun hi => ⟨xs, q, by omega⟩⟩
  obtain ⟨v, hv, rv⟩ := r.get hd
  refine ⟨⟨xs, v, q, hv⟩, fun x H' ⟨e1, e2⟩ => ?_⟩
  subst e1
  have := e2 xs q
  rw [hv] at this; cases this
  exact ⟨Evl.Ex.refl _, fun S e _ => rv.mono e⟩
theorem wk_tup {a : Addr} {xs : List V} {l : List D} {Hk : Hp} (h : SqT K Hk a xs) (r : Rps K Hk xs l) : Wk K Hk (Itt K a) l := fun i H e => by
  have hl := r.length
  have q : SqT K H a xs := Evl.ex_t e h
  refine ⟨fun d hd => ?_, fun hi => ⟨xs, q, by omega⟩⟩
  obtain ⟨v, hv, rv⟩ := r.get hd
  refine ⟨⟨xs, v, q, hv⟩, fun x H' ⟨e1, e2⟩ => ?_⟩
  subst e1
  have := e2 xs q
  rw [hv] at this; cases this
  exact ⟨Evl.Ex.refl _, fun S e _ => rv.mono e⟩
def rgD (lo : Int) (k : Nat) : List D := (List.range k).map fun i => D.int (lo + (i : Nat))
theorem rgD_len {lo : Int} {k : Nat} : (rgD lo k).length = k := by unfold rgD; simp
theorem rgD_get {lo : Int} {k i : Nat} {d : D} (h : (rgD lo k)[i]? = some d) : i < k ∧ d = .int (lo + (i : Nat)) := by
  unfold rgD at h
  rw [List.getElem?_map] at h
  by_cases hi : i < k
  · rw [List.getElem?_range hi] at h; cases h; exact ⟨hi, rfl⟩
  · rw [List.getElem?_eq_none (by simpa using hi)] at h; cases h
theorem wk_rng {lo : Int} {k : Nat} {Hk : Hp} : Wk K Hk (Itr lo k) (rgD lo k) := fun i H e => by
  refine ⟨fun d hd => ?_, fun hi => by rw [rgD_len] at hi; exact hi⟩
  obtain ⟨h1, h2⟩ := rgD_get hd
  subst h2
  exact ⟨h1, fun x H' ⟨e1, e2⟩ => by subst e1 e2; exact ⟨Evl.Ex.refl _, fun S e _ => .int _⟩⟩
/-- over a list or a tuple -/
def iSeq (K : PySem.W.Frag) (tl : TE) : TI := fun σ H R => iList K tl σ H R ∨ iTup K tl σ H R
theorem pi_seq {X : Cx} {tg l : Expr} {tl : TE} (hl : PE X l tl) : PI X tg l (iSeq X.K tl) := ⟨fun pins s σ H R I h => by
  rcases h with h | h
  · exact (pi_list hl).run pins s σ H R I h
  · exact (pi_tup hl).run pins s σ H R I h⟩
theorem i_list {tl : TE} {k : List D → Nat → Prop} (h : WpE K w tl ds n fun d n1 => ∃ l, d = .lst l ∧ k l n1) : WpI K w (iSeq K tl) ds n k := fun S H0 σ H R re ok p =>
  .inl (h S H0 σ H _ re ok fun v H1 d n1 ⟨l, e, hk⟩ p1 ok1 r1 => by
    subst e
    cases r1 with
    | lst hL hx => exact ⟨_, rfl, ⟨_, SqL.of (cut_some hL).2⟩, p _ H1 l n1 hk p1 ok1 (wk_list hL hx)⟩)
theorem i_tup {tl : TE} {k : List D → Nat → Prop} (h : WpE K w tl ds n fun d n1 => ∃ l, d = .tup l ∧ k l n1) : WpI K w (iSeq K tl) ds n k := fun S H0 σ H R re ok p =>
  .inr (h S H0 σ H _ re ok fun v H1 d n1 ⟨l, e, hk⟩ p1 ok1 r1 => by
    subst e
    cases r1 with
    | tup hL hx => exact ⟨_, rfl, ⟨_, Evl.ex_t (cut_ex S H1) hL⟩, p _ H1 l n1 hk p1 ok1 (wk_tup hL hx)⟩)
theorem i_rng1 {ta : TA} {k : List D → Nat → Prop} (h : WpA K w ta ds n fun es n1 => ∃ j : Int, es = [.int j] ∧ -(2 ^ 62) ≤ j ∧ j < 2 ^ 62 ∧ k (rgD 0 j.toNat) n1) : WpI K w (iRng1 ta) ds n k := fun S H0 σ H R re ok p =>
  h S H0 σ H _ re ok fun vs H1 es n1 ⟨j, e, h1, h2, hk⟩ p1 ok1 r1 => by
    subst e
    cases r1 with
    | cons a b => cases a; cases b; exact ⟨j, rfl, h1, h2, p _ H1 _ n1 hk p1 ok1 wk_rng⟩
theorem i_rng2 {ta : TA} {k : List D → Nat → Prop} (h : WpA K w ta ds n fun es n1 => ∃ i j : Int, es = [.int i, .int j] ∧ (-(2 ^ 62) ≤ i ∧ i < 2 ^ 62 ∧ -(2 ^ 62) ≤ j ∧ j < 2 ^ 62) ∧ k (rgD i (j - i).toNat) n1) : WpI K w (iRng2 ta) ds n k := fun S H0 σ H R re ok p =>
  h S H0 σ H _ re ok fun vs H1 es n1 ⟨i, j, e, h1, hk⟩ p1 ok1 r1 => by
    subst e
    cases r1 with
    | cons a b =>
      cases a
      cases b with
      | cons a b => cases a; cases b; exact ⟨i, j, rfl, h1, p _ H1 _ n1 hk p1 ok1 wk_rng⟩
theorem wk_zip {a b : Addr} {xs ys : List V} {l m : List D} {Hk : Hp} (ha : Hk a = some (.lst xs)) (hb : Hk b = some (.lst ys)) (r : Rps K Hk xs l) (q : Rps K Hk ys m) :
    Wk K Hk (Itz K a b) ((l.zip m).map fun p => D.tup [p.1, p.2]) := fun i H e => by
  have hl := r.length
  have hm := q.length
  have qa : SqL K H a xs := SqL.of (e _ _ ha)
  have qb : SqL K H b ys := SqL.of (e _ _ hb)
  refine ⟨fun d hd => ?_, fun hi => ⟨xs, ys, qa, qb, by simp at hi; omega⟩⟩
  rw [List.getElem?_map] at hd
  obtain ⟨⟨d1, d2⟩, h1, h2⟩ := Option.map_eq_some_iff.mp hd
  subst h2
  obtain ⟨h3, h4⟩ := List.getElem?_zip_eq_some.mp h1
  obtain ⟨v, hv, rv⟩ := r.get h3
  obtain ⟨u, hu, ru⟩ := q.get h4
  refine ⟨⟨xs, ys, v, u, qa, qb, hv, hu⟩, fun x H' ⟨T, x', y', e1, e2, e3, e4, e5⟩ => ?_⟩
  have z1 := e4 xs qa
  rw [hv] at z1; cases z1
  have z2 := e5 ys qb
  rw [hu] at z2; cases z2
  subst e1 e3
  refine ⟨Evl.Ex.new e2, fun S e hS => ?_⟩
  have hT : S T = false := by
    cases z : S T with
    | false => rfl
    | true => obtain ⟨o, ho⟩ := hS T z; rw [e2] at ho; cases ho
  have e' : Ex Hk (cut S (upd H T (.tup [v, u]))) := fun b o hb' => by
    obtain ⟨g1, g2⟩ := cut_some (e b o hb')
    exact cut_mk g1 (by rw [upd_ne (ne_of_none g2 e2)]; exact g2) (cut_nt (e b o hb'))
  exact .tup (SqT.of (cut_mk hT upd_same)) (.cons (rv.mono e') (.cons (ru.mono e') .nil))
theorem i_zip {ta : TA} {k : List D → Nat → Prop} (h : WpA K w ta ds n fun es n1 => ∃ l m, es = [.lst l, .lst m] ∧ k ((l.zip m).map fun p => D.tup [p.1, p.2]) n1) : WpI K w (iZip K ta) ds n k := fun S H0 σ H R re ok p =>
  h S H0 σ H _ re ok fun vs H1 es n1 ⟨l, m, e, hk⟩ p1 ok1 r1 => by
    subst e
    cases r1 with
    | cons a b =>
      cases a with
      | lst hL hx =>
        cases b with
        | cons a b =>
          cases b
          cases a with
          | lst hM hy => exact ⟨_, _, _, _, rfl, SqL.of (cut_some hL).2, SqL.of (cut_some hM).2, p _ H1 _ n1 hk p1 ok1 (wk_zip hL hM hx hy)⟩

/-! ### new lists that may be changed later -/
def WpF (K : PySem.W.Frag) (w : Option Addr) (te : TE) (ds : List (Option D)) (n : Nat) (k : List D → Nat → Prop) : Prop :=
  ∀ (S : Addr → Bool) (H0 : Hp) (σ : St) (H : Hp) (Q : VK), RpE K w S H0 H σ ds → OkW K w S H n →
    (∀ (a : Addr) (H' : Hp) (xs : List V) (l : List D) (n' : Nat), k l n' → H a = none → Pres w H H' → OkW K w (addS S a) H' n' → H' a = some (.lst xs) → Rps K (cut (addS S a) H') xs l → Q (.ref a) H') → te σ H Q
theorem WpF.toE {te : TE} {k : Kn} (h : WpF K w te ds n fun l n1 => k (.lst l) n1) : WpE K w te ds n k := fun S H0 σ H Q re ok p =>
  h S H0 σ H Q re ok fun a H' xs l n' hk ha pr ok' hl hx => by
    have hsub : ∀ b, S b = true → addS S a b = true := fun b hb => addS_of hb
    have okS : OkW K w S H' n' := ok'.less hsub (fun q hq => (ok.1 q hq).1) (fun q hq => (ok.3 q hq).1)
    exact p _ _ _ n' hk pr okS (.lst (cut_mk (ok.fresh ha) hl) (hx.mono (cut_sub hsub)))
theorem f_lst {tA : TA} {k : List D → Nat → Prop} (h : WpA K w tA ds n fun es n1 => es.length ≤ 100000 ∧ k es n1) : WpF K w (tLst tA) ds n k := fun S H0 σ H Q re ok p =>
  h S H0 σ H _ re ok fun vs H1 es n1 h1 p1 ok1 r1 => ⟨Evl.sz_of (by rw [r1.length]; exact h1.1), fun q hq => by
    have hq0 : H q = none := p1.back _ hq
    exact p q _ vs es n1 h1.2 hq0 (p1.trans (Pres.new hq)) (ok1.addS hq) upd_same (r1.mono (cut_addS hq))⟩
theorem f_lc {wi : TI} {g : TG} {tt : TT} {te : TE} {vs : List Nat} {k : List D → Nat → Prop}
    (h : WpI K w wi ds n fun items n1 => items.length ≤ 100000 ∧ ∃ I : Nat → List D → Nat → Prop, I 0 [] n1 ∧
      (∀ i x acc n', items[i]? = some x → I i acc n' → ∃ ds', GD K w g x (dwipe ds vs) ds' vs ∧ WpT K w tt ds' n' fun b n2 => (b = true → WpE K w te ds' n2 fun d n3 => I (i + 1) (acc ++ [d]) n3) ∧ (b = false → I (i + 1) acc n2)) ∧
      ∀ acc n', I items.length acc n' → k acc n') : WpF K w (tLc wi g tt te vs) ds n k := fun S H0 σ H Q re ok p =>
  h S H0 σ H _ re ok fun J H1 items n1 ⟨hz, I, hI0, hs, hd⟩ p1 ok1 hwk => fun Dl hD => by
    have hq0 : H Dl = none := p1.back _ hD
    have hwD : Free w Dl := ok1.w_ne (ok1.fresh hD)
    have re1 : RpE K w S H0 H1 σ ds := re.up ok p1
    -- the block's frame over any later heap
    have reU : ∀ (H3 : Hp), (∀ a o, a ≠ Dl → Free w a → H1 a = some o → noT o = true → H3 a = some o) → RpE K w (addS S Dl) H0 H3 (L2.wipe σ vs) (dwipe ds vs) := fun H3 hp => by
      have ex : Ex (cut S H1) (cut (addS S Dl) H3) := fun a o e => by
        obtain ⟨g1, g2⟩ := cut_some e
        have ne : a ≠ Dl := ne_of_none g2 hD
        exact cut_mk (by unfold addS; simp [g1, ne]) (hp a o ne (ok1.w_ne g1) g2 (cut_nt e)) (cut_nt e)
      refine RpE.wipe ⟨re1.len, fun i d e o => ?_, fun i l e => ?_, re1.dis⟩ vs
      · obtain ⟨v, h1, h2⟩ := re1.get i d e o
        exact ⟨v, h1, h2.mono ex⟩
      · obtain ⟨a, xs, h1, h2, h3, h0, h4, h5⟩ := re1.own i l e
        exact ⟨a, xs, h1, addS_of h2, h3, h0, hp a _ (ne_of_none h4 hD) h3 h4 rfl, h5.mono ex⟩
    let W : Nat → Hp → Prop := fun i H3 => ∃ acc n' ys, I i acc n' ∧ acc.length ≤ i ∧ (∀ a, H3 a = none → H1 a = none) ∧ (∀ a o, a ≠ Dl → Free w a → H1 a = some o → noT o = true → H3 a = some o) ∧ OkW K w (addS S Dl) H3 n' ∧ H3 Dl = some (.lst ys) ∧ Rps K (cut (addS S Dl) H3) ys acc
    refine ⟨fun i m H3 => m = items.length - i ∧ i ≤ items.length ∧ W i H3, ⟨items.length, by simp, Nat.zero_le _, [], n1, [], hI0, Nat.le_refl _, fun a e => NdefX.upd_none e, fun a o ne _ e _ => by rw [upd_ne ne]; exact e, ok1.addS hD, upd_same, .nil⟩, ?_⟩
    rintro i m H3 ⟨rfl, hi, acc, n', ys, hI, hal, hbk, hp, ok3, hl3, hy⟩
    have exk : Ex (cut S H1) (cut (addS S Dl) H3) := fun a o e => by
      obtain ⟨g1, g2⟩ := cut_some e
      have ne : a ≠ Dl := ne_of_none g2 hD
      exact cut_mk (by unfold addS; simp [g1, ne]) (hp a o ne (ok1.w_ne g1) g2 (cut_nt e)) (cut_nt e)
    have exk' : Ex (cut S H1) H3 := exk.trans (cut_ex _ _)
    obtain ⟨wgo, wst⟩ := hwk i H3 exk'
    by_cases hlt : i < items.length
    · refine .inr ?_
      obtain ⟨go, yl⟩ := wgo items[i] (by simp [hlt])
      refine ⟨go, W (i + 1), fun H' p' => ⟨items.length - (i + 1), by omega, rfl, hlt, p'⟩, fun x H4 hx => ?_⟩
      obtain ⟨e4, rx⟩ := yl x H4 hx
      have rx' := rx (addS S Dl) exk ok3.2
      have hp4 : ∀ a o, a ≠ Dl → Free w a → H1 a = some o → noT o = true → H4 a = some o := fun a o ne hw e t => e4 a o (hp a o ne hw e t)
      have ok4 : OkW K w (addS S Dl) H4 n' := ok3.ex e4
      obtain ⟨ds', hg, ht⟩ := hs i items[i] acc n' (by simp [hlt]) hI
      refine hg (addS S Dl) H0 _ H4 x _ (reU H4 hp4) rx' fun σ' r' hw' => ?_
      refine ⟨by rw [hw' vs fun i hi => hi, wipe_wipe], ?_⟩
      refine ht (addS S Dl) H0 σ' H4 _ r' ok4 fun b H5 n5 ⟨hb1, hb2⟩ p5 ok5 => ?_
      have hp5 : ∀ a o, a ≠ Dl → Free w a → H1 a = some o → noT o = true → H5 a = some o := fun a o ne hw e t => p5.go a o hw (hp4 a o ne hw e t) t
      have e45 : Ex (cut (addS S Dl) H3) (cut (addS S Dl) H5) := (ex_cut ok3 (Pres.of e4)).trans (ex_cut ok4 p5)
      have hl5 : H5 Dl = some (.lst ys) := p5.go _ _ hwD (e4 _ _ hl3) rfl
      cases b with
      | false =>
        show W (i + 1) H5
        exact ⟨acc, n5, ys, hb2 rfl, by omega, fun a z => hbk a ((Pres.of (w := w) e4).back a (p5.back a z)), hp5, ok5, hl5, hy.mono e45⟩
      | true =>
        refine hb1 rfl (addS S Dl) H0 σ' H5 _ (r'.up ok4 p5) ok5 fun y H6 d n6 hk p6 ok6 r6 => ?_
        have hl6 : H6 Dl = some (.lst ys) := p6.go _ _ hwD hl5 rfl
        have hyl := hy.length
        refine ⟨ys, hl6, Evl.sz_lt (by omega), acc ++ [d], n6, ys ++ [y], hk, by simp; omega, fun a z => hbk a ((Pres.of (w := w) e4).back a (p5.back a (p6.back a (NdefX.upd_none z)))), fun a o ne hw e t => by rw [upd_ne ne]; exact p6.go a o hw (hp5 a o ne hw e t) t, ok6.mut addS_same hwD (.lst hl6), upd_same, ?_⟩
        rw [cut_upd addS_same]
        exact (hy.mono (e45.trans (ex_cut ok5 p6))).append (.cons r6 .nil)
    · have e : i = items.length := by omega
      subst e
      refine .inl ⟨wst (Nat.le_refl _), ?_⟩
      refine p Dl H3 ys acc n' (hd acc n' hI) hq0 ⟨fun a o hw e t => ?_, fun a z => p1.back a (hbk a z)⟩ ok3 hl3 hy
      have ne : a ≠ Dl := ne_of_none e hq0
      exact hp a o ne hw (p1.go a o hw e t) t
end
end DW
set_option Elab.async false
set_option maxRecDepth 100000
set_option maxHeartbeats 4000000
set_option linter.all false
set_option autoImplicit false
namespace DW
variable [Tb]
open PySem L2

/-! ### statements -/
abbrev Kd := List (Option D) → Nat → Prop
structure KS where
  nx : Kd
  rt : Kn
  bk : Kd := fun _ _ => False
  ct : Kd := fun _ _ => False
structure Base (w : Option Addr) (K : PySem.W.Frag) (S0 : Addr → Bool) (H0 : Hp) (S : Addr → Bool) (H : Hp) (n : Nat) : Prop where
  pres : Pres w H0 H
  ok : OkW K w S H n
  sub : ∀ a, S0 a = true → S a = true
  new : ∀ a, S a = true → S0 a = true ∨ H0 a = none
  pen : ∀ p, w = some p → S0 p = true
  old : ∀ a, S0 a = true → ∃ o, H0 a = some o
  tab : ∀ a, Tb.tab a = true → S0 a = true
def EndOk (w : Option Addr) (K : PySem.W.Frag) (S0 : Addr → Bool) (H0 : Hp) (S : Addr → Bool) (H : Hp) (q : St → Hp → Prop) (k : Kd) : Prop :=
  ∀ (S' : Addr → Bool) (σ' : St) (H' : Hp) (ds' : List (Option D)) (n' : Nat), k ds' n' → Base w K S0 H0 S' H' n' → RpE K w S' H0 H' σ' ds' → Ex (cut S H) (cut S' H') → q σ' H'
def RtOk (w : Option Addr) (K : PySem.W.Frag) (S0 : Addr → Bool) (H0 : Hp) (q : VK) (k : Kn) : Prop :=
  ∀ (v : V) (H' : Hp) (d : D) (n' : Nat), k d n' → Pres w H0 H' → OkW K w S0 H' n' → Rp K (cut S0 H') v d → q v H'
structure Ends4 (w : Option Addr) (K : PySem.W.Frag) (S0 : Addr → Bool) (H0 : Hp) (S : Addr → Bool) (H : Hp) (E : Ends) (k : KS) : Prop where
  nx : EndOk w K S0 H0 S H E.nx k.nx
  rt : RtOk w K S0 H0 E.rt k.rt
  bk : EndOk w K S0 H0 S H E.bk k.bk
  ct : EndOk w K S0 H0 S H E.ct k.ct
def WpS (K : PySem.W.Frag) (w : Option Addr) (t : TS) (ds : List (Option D)) (n : Nat) (k : KS) : Prop :=
  ∀ (S0 : Addr → Bool) (H0 : Hp) (S : Addr → Bool) (σ : St) (H : Hp) (E : Ends), Base w K S0 H0 S H n → RpE K w S H0 H σ ds → Ends4 w K S0 H0 S H E k → t E σ H

section
variable {K : PySem.W.Frag} {w : Option Addr} {S S0 S1 : Addr → Bool} {H H0 H1 H2 H' : Hp} {n m : Nat} {σ : St} {ds : List (Option D)} {ta tb te : TE} {t u : TS} {c : TT} {tA : TA} {k : KS} {E : Ends}
theorem Base.up (b : Base w K S0 H0 S H n) (p : Pres w H H1) (ok : OkW K w S H1 m) : Base w K S0 H0 S H1 m := ⟨b.pres.trans p, ok, b.sub, b.new, b.pen, b.old, b.tab⟩
theorem EndOk.from {q : St → Hp → Prop} {kd : Kd} (h : EndOk w K S0 H0 S H q kd) (e : Ex (cut S H) (cut S1 H1)) : EndOk w K S0 H0 S1 H1 q kd := fun S' σ' H' ds' n' hk b r e' => h S' σ' H' ds' n' hk b r (e.trans e')
theorem Ends4.from (h : Ends4 w K S0 H0 S H E k) (e : Ex (cut S H) (cut S1 H1)) : Ends4 w K S0 H0 S1 H1 E k := ⟨h.nx.from e, h.rt, h.bk.from e, h.ct.from e⟩
theorem WpS.imp {k' : KS} (h : WpS K w t ds n k) (h1 : ∀ ds n, k.nx ds n → k'.nx ds n) (h2 : ∀ d n, k.rt d n → k'.rt d n) (h3 : ∀ ds n, k.bk ds n → k'.bk ds n) (h4 : ∀ ds n, k.ct ds n → k'.ct ds n) : WpS K w t ds n k' :=
  fun S0 H0 S σ H E b r e => h S0 H0 S σ H E b r ⟨fun S' σ' H' ds' n' hk => e.nx S' σ' H' ds' n' (h1 _ _ hk), fun v H' d n' hk => e.rt v H' d n' (h2 _ _ hk), fun S' σ' H' ds' n' hk => e.bk S' σ' H' ds' n' (h3 _ _ hk), fun S' σ' H' ds' n' hk => e.ct S' σ' H' ds' n' (h4 _ _ hk)⟩
theorem s_seq (h : WpS K w t ds n { k with nx := fun ds' n' => WpS K w u ds' n' k }) : WpS K w (tSeq t u) ds n k := fun S0 H0 S σ H E b r e =>
  h S0 H0 S σ H _ b r ⟨fun S' σ' H' ds' n' hk b' r' e' => hk S0 H0 S' σ' H' E b' r' (e.from e'), e.rt, e.bk, e.ct⟩
theorem s_next (h : k.nx ds n) : WpS K w tNext ds n k := fun S0 H0 S σ H E b r e => e.nx S σ H ds n h b r (Evl.Ex.refl _)
theorem s_brk (h : k.bk ds n) : WpS K w tBreak ds n k := fun S0 H0 S σ H E b r e => e.bk S σ H ds n h b r (Evl.Ex.refl _)
theorem s_cont (h : k.ct ds n) : WpS K w tCont ds n k := fun S0 H0 S σ H E b r e => e.ct S σ H ds n h b r (Evl.Ex.refl _)
theorem s_never (h : False) : WpS K w tNever ds n k := h.elim
theorem s_if (h : WpT K w c ds n fun b n1 => (b = true → WpS K w t ds n1 k) ∧ (b = false → WpS K w u ds n1 k)) : WpS K w (tIfS c t u) ds n k := fun S0 H0 S σ H E b r e =>
  h S H0 σ H _ r b.ok fun x H1 n1 ⟨h1, h2⟩ p1 ok1 => by
    have e1 := ex_cut b.ok p1
    cases x with
    | true => exact h1 rfl S0 H0 S σ H1 E (b.up p1 ok1) (r.up b.ok p1) (e.from e1)
    | false => exact h2 rfl S0 H0 S σ H1 E (b.up p1 ok1) (r.up b.ok p1) (e.from e1)
/-- target = value -/
theorem s_asg {g : TG} (h : WpE K w te ds n fun d n1 => ∃ ds' vs, GD K w g d ds ds' vs ∧ k.nx ds' n1) : WpS K w (tAsg te g) ds n k := fun S0 H0 S σ H E b r e =>
  h S H0 σ H _ r b.ok fun v H1 d n1 ⟨ds', vs, hg, hk⟩ p1 ok1 r1 => hg S H0 σ H1 v _ (r.up b.ok p1) r1 fun σ' r' _ =>
    e.nx S σ' H1 ds' n1 hk (b.up p1 ok1) r' (ex_cut b.ok p1)
/-- name = value -/
theorem s_set {i : Nat} (h : WpE K w te ds n fun d n1 => isOwn d = false ∧ k.nx (ds.set i (some d)) n1) : WpS K w (tAsg te (gName i)) ds n k :=
  s_asg (h.imp fun d n1 ⟨h1, h2⟩ => ⟨_, _, g_name h1, h2⟩)
/-- the new list at a is put into the slot i -/
theorem own_put {i n1 : Nat} {a : Addr} {xs : List V} {l : List D} (b : Base w K S0 H0 S H n) (r : RpE K w S H0 H σ ds) (e : Ends4 w K S0 H0 S H E k) (hk : k.nx (ds.set i (some (.own l))) n1) (ha : H a = none) (p1 : Pres w H H1) (ok1 : OkW K w (addS S a) H1 n1) (hl : H1 a = some (.lst xs)) (hx : Rps K (cut (addS S a) H1) xs l) :
    E.nx (σ.set i (some (.ref a))) H1 := by
  have ex1 : Ex (cut S H) (cut (addS S a) H1) := fun c o z => by
    obtain ⟨g1, g2⟩ := cut_some z
    have ne : c ≠ a := ne_of_none g2 ha
    exact cut_mk (by unfold addS; simp [g1, ne]) (p1.go c o (b.ok.w_ne g1) g2 (cut_nt z)) (cut_nt z)
  have hw : Free w a := b.ok.w_ne (b.ok.fresh ha)
  have h0 : H0 a = none := b.pres.back a ha
  have notr : ∀ (j : Nat), ds[j]? ≠ none → True := fun _ _ => trivial
  have ro : ∀ (j : Nat) (m : List D), ds[j]? = some (some (.own m)) → σ[j]? ≠ some (some (.ref a)) := fun j m hj q => by
    obtain ⟨c, ys, g1, _, _, _, g4, _⟩ := r.own j m hj
    rw [g1] at q; cases q
    rw [ha] at g4; cases g4
  refine e.nx (addS S a) _ H1 _ n1 hk ⟨b.pres.trans p1, ok1, fun c hc => addS_of (b.sub c hc), fun c hc => ?_, b.pen, b.old, b.tab⟩ ?_ ex1
  · rcases addS_or hc with z | z
    · exact b.new c z
    · subst z; exact .inr h0
  · refine ⟨by simp [r.len], fun j d hj o => ?_, fun j m hj => ?_, fun j q l1 l2 c hjq h1 h2 h3 => ?_⟩
    · by_cases hij : i = j
      · subst hij
        by_cases hlt : i < ds.length
        · rw [List.getElem?_set_self hlt] at hj; cases hj; cases o
        · rw [List.getElem?_eq_none (by simpa using hlt)] at hj; cases hj
      · rw [List.getElem?_set_ne hij] at hj ⊢
        obtain ⟨v, g1, g2⟩ := r.get j d hj o
        exact ⟨v, g1, g2.mono ex1⟩
    · by_cases hij : i = j
      · subst hij
        by_cases hlt : i < ds.length
        · rw [List.getElem?_set_self hlt] at hj; cases hj
          exact ⟨a, xs, by rw [List.getElem?_set_self (by rw [r.len]; exact hlt)], addS_same, hw, h0, hl, hx⟩
        · rw [List.getElem?_eq_none (by simpa using hlt)] at hj; cases hj
      · rw [List.getElem?_set_ne hij] at hj ⊢
        obtain ⟨c, ys, g1, g2, g3, g0, g4, g5⟩ := r.own j m hj
        exact ⟨c, ys, g1, addS_of g2, g3, g0, p1.go c _ g3 g4 rfl, g5.mono ex1⟩
    · by_cases hij : i = j
      · subst hij
        have hiq : i ≠ q := hjq
        rw [List.getElem?_set_ne hiq] at h2 ⊢
        by_cases hlt : i < ds.length
        · rw [List.getElem?_set_self (by rw [r.len]; exact hlt)] at h3
          cases h3
          exact ro q l2 h2
        · rw [List.getElem?_eq_none (by simpa using hlt)] at h1; cases h1
      · rw [List.getElem?_set_ne hij] at h1 h3
        by_cases hiq : i = q
        · subst hiq
          by_cases hlt : i < σ.length
          · rw [List.getElem?_set_self hlt]
            intro z
            cases z
            exact ro j l1 h1 h3
          · rw [List.getElem?_eq_none (by simpa using hlt)]
            intro z; cases z
        · rw [List.getElem?_set_ne hiq] at h2 ⊢
          exact r.dis j q l1 l2 c hjq h1 h2 h3
/-- name = a new list, that may be changed -/
theorem s_own {i : Nat} (h : WpF K w te ds n fun l n1 => k.nx (ds.set i (some (.own l))) n1) : WpS K w (tAsg te (gName i)) ds n k := fun S0 H0 S σ H E b r e =>
  h S H0 σ H _ r b.ok fun a H1 xs l n1 hk ha p1 ok1 hl hx => own_put b r e hk ha p1 ok1 hl hx
theorem s_ret (h : WpE K w te ds n k.rt) : WpS K w (tRet te) ds n k := fun S0 H0 S σ H E b r e =>
  h S H0 σ H _ r b.ok fun v H1 d n1 hk p1 ok1 r1 => e.rt v H1 d n1 hk (b.pres.trans p1) (ok1.less b.sub b.pen b.tab) (r1.mono (cut_sub b.sub))
theorem s_retN (h : k.rt .non n) : WpS K w tRetN ds n k := fun S0 H0 S σ H E b r e => e.rt .non H .non n h b.pres (b.ok.less b.sub b.pen b.tab) .non
/-- return of a list of one's own -/
theorem s_retOwn {i : Nat} {l : List D} (hi : ds[i]? = some (some (.own l))) (h : k.rt (.lst l) n) : WpS K w (tRet (tVar i)) ds n k := fun S0 H0 S σ H E b r e => by
  obtain ⟨a, xs, h1, h2, h3, h4, h5, h6⟩ := r.own i l hi
  refine ⟨.ref a, h1, e.rt _ H _ n h b.pres (b.ok.less b.sub b.pen b.tab) (.lst ?_ (h6.mono (cut_sub b.sub)))⟩
  have z : S0 a = false := by
    cases q : S0 a with
    | false => rfl
    | true =>
      obtain ⟨o, z⟩ := b.old a q
      rw [h4] at z; cases z
  exact cut_mk z h5
theorem s_drop (h : WpE K w te ds n fun _ n1 => k.nx ds n1) : WpS K w (tDrop te) ds n k := fun S0 H0 S σ H E b r e =>
  h S H0 σ H _ r b.ok fun v H1 d n1 hk p1 ok1 r1 => e.nx S σ H1 ds n1 hk (b.up p1 ok1) (r.up b.ok p1) (ex_cut b.ok p1)
/-- a, b = x, y -/
theorem s_par {i j : Nat} (h : WpA K w tA ds n fun es n1 => ∃ d e, es = [d, e] ∧ isOwn d = false ∧ isOwn e = false ∧ k.nx ((ds.set i (some d)).set j (some e)) n1) : WpS K w (tPar i j tA) ds n k := fun S0 H0 S σ H E b r e =>
  h S H0 σ H _ r b.ok fun vs H1 es n1 ⟨d, d', ee, o1, o2, hk⟩ p1 ok1 r1 => by
    subst ee
    cases r1 with
    | cons a b' =>
      cases b' with
      | cons a' b' =>
        cases b'
        exact ⟨_, _, rfl, e.nx S _ H1 _ n1 hk (b.up p1 ok1) (((r.up b.ok p1).set a o1).set a' o2) (ex_cut b.ok p1)⟩
/-! a list of one's own, changed -/
theorem RpE.mutOwn (r : RpE K w S H0 H σ ds) {i : Nat} {l l' : List D} {a : Addr} {xs' : List V} (hi : ds[i]? = some (some (.own l))) (ha : σ[i]? = some (some (.ref a))) (hx : Rps K (cut S H) xs' l') :
    RpE K w S H0 (upd H a (.lst xs')) σ (ds.set i (some (.own l'))) := by
  obtain ⟨a', xs, h1, h2, h3, h4, h5, h6⟩ := r.own i l hi
  rw [ha] at h1; cases h1
  have hlt : i < ds.length := by
    rcases Nat.lt_or_ge i ds.length with z | z
    · exact z
    · rw [List.getElem?_eq_none z] at hi; cases hi
  refine ⟨by simp [r.len], fun j d hj o => ?_, fun j m hj => ?_, fun j q l1 l2 c hjq g1 g2 g3 => ?_⟩
  · by_cases hij : i = j
    · subst hij; rw [List.getElem?_set_self hlt] at hj; cases hj; cases o
    · rw [List.getElem?_set_ne hij] at hj
      rw [cut_upd h2]
      exact r.get j d hj o
  · rw [cut_upd h2]
    by_cases hij : i = j
    · subst hij; rw [List.getElem?_set_self hlt] at hj; cases hj
      exact ⟨a, xs', ha, h2, h3, h4, upd_same, hx⟩
    · rw [List.getElem?_set_ne hij] at hj
      obtain ⟨c, ys, g1, g2, g3, g4, g5, g6⟩ := r.own j m hj
      refine ⟨c, ys, g1, g2, g3, g4, ?_, g6⟩
      rw [upd_ne]; · exact g5
      intro z
      subst z
      exact r.dis i j l m c hij hi hj ha g1
  · have back : ∀ (j : Nat) (m : List D), (ds.set i (some (.own l')))[j]? = some (some (.own m)) → ∃ m', ds[j]? = some (some (.own m')) := fun j m z => by
      by_cases hij : i = j
      · subst hij; exact ⟨l, hi⟩
      · rw [List.getElem?_set_ne hij] at z; exact ⟨m, z⟩
    obtain ⟨m1, z1⟩ := back j l1 g1
    obtain ⟨m2, z2⟩ := back q l2 g2
    exact r.dis j q m1 m2 c hjq z1 z2 g3
theorem Base.mut (b : Base w K S0 H0 S H n) {a : Addr} {o : HO} (h2 : S a = true) (h3 : Free w a) (h4 : H0 a = none) (nc : NotCode H a) (ho : plainO o = true := by rfl) : Base w K S0 H0 S (upd H a o) n :=
  ⟨⟨fun c u hc e t => by rw [upd_ne (ne_of_none e h4)]; exact b.pres.go c u hc e t, fun c e => b.pres.back c (NdefX.upd_none e)⟩, b.ok.mut h2 h3 nc ho, b.sub, b.new, b.pen, b.old, b.tab⟩
/-- xs.append(e) -/
theorem s_app {i : Nat} {l : List D} (hi : ds[i]? = some (some (.own l))) (h : WpE K w te ds n fun d n1 => l.length < 100000 ∧ k.nx (ds.set i (some (.own (l ++ [d])))) n1) :
    WpS K w (tDrop (tBM K "list" rAppend (tVar i) (tCons te tNil))) ds n k := fun S0 H0 S σ H E b r e => by
  obtain ⟨a, xs, h1, h2, h3, h4, h5, h6⟩ := r.own i l hi
  refine ⟨.ref a, h1, Or.inl ⟨rfl, xs, Evl.sq_of h5⟩, ?_⟩
  refine h S H0 σ H _ r b.ok fun v H1 d n1 ⟨hz, hk⟩ p1 ok1 r1 => ?_
  have g5 : H1 a = some (.lst xs) := p1.go a _ h3 h5 rfl
  have hl := h6.length
  have ex1 := ex_cut b.ok p1
  refine ⟨a, xs, v, rfl, rfl, g5, Evl.sz_lt (by omega), ?_⟩
  have r' := (r.up b.ok p1).mutOwn (xs' := xs ++ [v]) (l' := l ++ [d]) hi h1 ((h6.mono ex1).append (.cons r1 .nil))
  refine e.nx S σ _ _ n1 hk ((b.up p1 ok1).mut h2 h3 h4 (.lst g5)) r' ?_
  rw [cut_upd h2]; exact ex1
/-- xs[j] = e -/
theorem s_setL {i : Nat} {l : List D} {ti : TE} (hi : ds[i]? = some (some (.own l))) (h : WpE K w te ds n fun d n1 => WpE K w ti ds n1 fun x n2 => ∃ (z : Int) (j : Nat), x = .int z ∧ ixN l.length z = some j ∧ k.nx (ds.set i (some (.own (l.set j d)))) n2) :
    WpS K w (tAsg te (gSub (tVar i) ti rSetL)) ds n k := fun S0 H0 S σ H E b r e => by
  refine h S H0 σ H _ r b.ok fun v H1 d n1 h1 p1 ok1 r1 => ?_
  obtain ⟨a, xs, g1, g2, g3, g4, g5, g6⟩ := r.own i l hi
  refine ⟨.ref a, g1, ?_⟩
  refine h1 S H0 σ H1 _ (r.up b.ok p1) ok1 fun x H2 y n2 ⟨z, j, ey, hj, hk⟩ p2 ok2 r2 => ?_
  subst ey
  cases r2
  have q5 : H2 a = some (.lst xs) := p2.go a _ g3 (p1.go a _ g3 g5 rfl) rfl
  have hl := g6.length
  have ex2 := (ex_cut b.ok p1).trans (ex_cut ok1 p2)
  refine ⟨a, xs, z, j, rfl, rfl, q5, by rw [hl]; exact hj, ?_⟩
  have r' := ((r.up b.ok p1).up ok1 p2).mutOwn (xs' := xs.set j v) (l' := l.set j d) hi g1 ((g6.mono ex2).set (r1.mono (ex_cut ok1 p2)) j)
  refine e.nx S σ _ _ n2 hk (((b.up p1 ok1).up p2 ok2).mut g2 g3 g4 (.lst q5)) r' ?_
  rw [cut_upd g2]; exact ex2
/-- a loop over what is walked -/
theorem s_for {wi : TI} {g : TG} {tb : TS} (h : WpI K w wi ds n fun items n1 => ∃ I : Nat → List (Option D) → Nat → Prop, I 0 ds n1 ∧
      (∀ i x ds1 n', items[i]? = some x → I i ds1 n' → ∃ ds2 vs, GD K w g x ds1 ds2 vs ∧ WpS K w tb ds2 n' { nx := I (i + 1), rt := k.rt, bk := k.nx, ct := I (i + 1) }) ∧
      ∀ ds1 n', I items.length ds1 n' → k.nx ds1 n') : WpS K w (tFor wi g tb) ds n k := fun S0 H0 S σ H E b r e =>
  h S H0 σ H _ r b.ok fun J H1 items n1 ⟨I, hI0, hs, hd⟩ p1 ok1 hwk => by
    have e1 := ex_cut b.ok p1
    let W : Nat → St → Hp → Prop := fun i σ' H' => ∃ S' ds' n', I i ds' n' ∧ Base w K S0 H0 S' H' n' ∧ RpE K w S' H0 H' σ' ds' ∧ Ex (cut S H1) (cut S' H')
    refine ⟨fun i m σ' H' => m = items.length - i ∧ i ≤ items.length ∧ W i σ' H', ⟨items.length, by simp, Nat.zero_le _, S, ds, n1, hI0, b.up p1 ok1, r.up b.ok p1, Evl.Ex.refl _⟩, ?_⟩
    rintro i m σ' H' ⟨rfl, hi, S', ds', n', hI, b', r', ex'⟩
    obtain ⟨wgo, wst⟩ := hwk i H' (ex'.trans (cut_ex _ _))
    by_cases hlt : i < items.length
    · refine .inr ?_
      obtain ⟨go, yl⟩ := wgo items[i] (by simp [hlt])
      refine ⟨go, W (i + 1), fun σ2 H2 p' => ⟨items.length - (i + 1), by omega, rfl, hlt, p'⟩, fun x H4 hx => ?_⟩
      obtain ⟨e4, rx⟩ := yl x H4 hx
      have rx' := rx S' ex' b'.ok.2
      obtain ⟨ds2, vs, hg, hb⟩ := hs i items[i] ds' n' (by simp [hlt]) hI
      have p4 : Pres w H' H4 := Pres.of e4
      have b4 : Base w K S0 H0 S' H4 n' := b'.up p4 (b'.ok.ex e4)
      have ex4 := ex_cut b'.ok p4
      refine hg S' H0 σ' H4 x _ (r'.up b'.ok p4) rx' fun σ2 r2 _ => ?_
      refine hb S0 H0 S' σ2 H4 _ b4 r2 ⟨fun S5 σ5 H5 ds5 n5 hk b5 r5 e5 => ⟨S5, ds5, n5, hk, b5, r5, (ex'.trans ex4).trans e5⟩, e.rt, fun S5 σ5 H5 ds5 n5 hk b5 r5 e5 => ?_, fun S5 σ5 H5 ds5 n5 hk b5 r5 e5 => ⟨S5, ds5, n5, hk, b5, r5, (ex'.trans ex4).trans e5⟩⟩
      exact e.nx S5 σ5 H5 ds5 n5 hk b5 r5 (((e1.trans ex').trans ex4).trans e5)
    · have ee : i = items.length := by omega
      subst ee
      exact .inl ⟨wst (Nat.le_refl _), e.nx S' σ' H' ds' n' (hd ds' n' hI) b' r' (e1.trans ex')⟩
theorem s_while {tb : TS} (I : Nat → List (Option D) → Nat → Prop) (m0 : Nat) (h0 : I m0 ds n)
    (h : ∀ m ds1 n1, I m ds1 n1 → WpT K w c ds1 n1 fun b n2 => (b = true → WpS K w tb ds1 n2 { nx := fun ds' n' => ∃ m', m' < m ∧ I m' ds' n', rt := k.rt, bk := k.nx, ct := fun ds' n' => ∃ m', m' < m ∧ I m' ds' n' }) ∧ (b = false → k.nx ds1 n2)) :
    WpS K w (tWhile c tb) ds n k := fun S0 H0 S σ H E b r e => by
  let W : Nat → St → Hp → Prop := fun m σ' H' => ∃ S' ds' n', I m ds' n' ∧ Base w K S0 H0 S' H' n' ∧ RpE K w S' H0 H' σ' ds' ∧ Ex (cut S H) (cut S' H')
  refine ⟨W, ⟨m0, S, ds, n, h0, b, r, Evl.Ex.refl _⟩, ?_⟩
  rintro m σ' H' ⟨S', ds', n', hI, b', r', ex'⟩
  refine h m ds' n' hI S' H0 σ' H' _ r' b'.ok fun x H1 n1 ⟨h1, h2⟩ p1 ok1 => ?_
  have ex1 := ex'.trans (ex_cut b'.ok p1)
  cases x with
  | false => exact e.nx S' σ' H1 ds' n1 (h2 rfl) (b'.up p1 ok1) (r'.up b'.ok p1) ex1
  | true =>
    refine ⟨fun σ2 H2 => ∃ m', m' < m ∧ W m' σ2 H2, fun σ2 H2 z => z, ?_⟩
    refine h1 rfl S0 H0 S' σ' H1 _ (b'.up p1 ok1) (r'.up b'.ok p1) ⟨fun S5 σ5 H5 ds5 n5 ⟨m', hm, hk⟩ b5 r5 e5 => ⟨m', hm, S5, ds5, n5, hk, b5, r5, ex1.trans e5⟩, e.rt, fun S5 σ5 H5 ds5 n5 hk b5 r5 e5 => e.nx S5 σ5 H5 ds5 n5 hk b5 r5 (ex1.trans e5), fun S5 σ5 H5 ds5 n5 ⟨m', hm, hk⟩ b5 r5 e5 => ⟨m', hm, S5, ds5, n5, hk, b5, r5, ex1.trans e5⟩⟩
end
end DW
set_option Elab.async false
set_option maxRecDepth 100000
set_option maxHeartbeats 4000000
set_option linter.all false
set_option autoImplicit false
namespace DW
variable [Tb]
open PySem L2

/-! ### promises by data -/
abbrev DSp := List D → Nat → Kn → Prop
/-- .. told for each pen -/
abbrev DSpW := Option Addr → DSp
def toSp (K : PySem.W.Frag) (sp : DSpW) : Sp := fun vs H Q _ => ∃ (w : Option Addr) (S : Addr → Bool) (ds : List D) (n : Nat) (k : Kn), Rps K (cut S H) vs ds ∧ OkW K w S H n ∧ sp w ds n k ∧ Po K w S H k Q
def dstart (N : List Str) (ds : List D) : List (Option D) := ds.map some ++ List.replicate (N.length - ds.length) none
section
variable {K : PySem.W.Frag} {w : Option Addr} {S : Addr → Bool} {H H0 H1 H2 H' : Hp} {n m : Nat} {σ : St} {ds : List (Option D)} {ta tb te : TE} {tA tB : TA} {k : Kn}
theorem Rps.noOwn : ∀ {vs : List V} {es : List D}, Rps K H vs es → ∀ l, D.own l ∉ es
  | _, _, .nil, l, h => by cases h
  | _, _, .cons a b, l, h => by
    rcases List.mem_cons.mp h with z | z
    · subst z; cases a
    · exact Rps.noOwn b l z
theorem rpE_start {N : List Str} {vs : List V} {es : List D} (r : Rps K (cut S H) vs es) : RpE K w S H H (L2.start N vs) (dstart N es) := by
  have hl := r.length
  have g : ∀ (i : Nat) (d : D), (dstart N es)[i]? = some (some d) → es[i]? = some d := fun i d h => by
    unfold dstart at h
    by_cases hi : i < es.length
    · rw [List.getElem?_append_left (by simpa using hi), List.getElem?_map] at h
      obtain ⟨d', h1, h2⟩ := Option.map_eq_some_iff.mp h
      cases h2; exact h1
    · rw [List.getElem?_append_right (by simpa using hi), List.getElem?_replicate] at h
      split at h <;> cases h
  refine ⟨by unfold L2.start dstart; simp [hl], fun i d h o => ?_, fun i l h => ?_, fun i j l m a hij h => ?_⟩
  · obtain ⟨v, h1, h2⟩ := r.get (g i d h)
    refine ⟨v, ?_, h2⟩
    unfold L2.start
    have hi : i < vs.length := (List.getElem?_eq_some_iff.mp h1).1
    rw [List.getElem?_append_left (by simpa using hi), List.getElem?_map, h1]; rfl
  · exact absurd (List.mem_of_getElem? (g i _ h)) (r.noOwn l)
  · exact absurd (List.mem_of_getElem? (g i _ h)) (r.noOwn l)
theorem body_ok {N : List Str} {t : TS} {vs : List V} {es : List D} {Q : VK} (hw : WpS K w t (dstart N es) n { nx := fun _ n' => k .non n', rt := k }) (r : Rps K (cut S H) vs es) (ok : OkW K w S H n) (p : Po K w S H k Q) :
    t { nx := fun _ H' => Q .non H', rt := Q } (L2.start N vs) H := by
  refine hw S H S _ H _ ⟨Pres.refl, ok, fun a h => h, fun a h => .inl h, fun p hp => (ok.1 p hp).1, ok.2, fun a h => (ok.3 a h).1⟩ (rpE_start r) ⟨fun S' σ' H' ds' n' hk b r' e' => ?_, fun v H' d n' hk pr ok' r' => p v H' d n' hk pr ok' r', fun S' σ' H' ds' n' hk => hk.elim, fun S' σ' H' ds' n' hk => hk.elim⟩
  exact p .non H' .non n' hk b.pres (b.ok.less b.sub b.pen b.tab) .non
theorem e_call {sp : DSpW} {E : XK} (h : WpA K w tA ds n fun es n1 => sp w es n1 k) : WpE K w (tCall (toSp K sp) [] E tA) ds n k := fun S H0 σ H Q re ok p =>
  h S H0 σ H _ re ok fun vs H1 es n1 h1 p1 ok1 r1 => ⟨w, S, es, n1, k, by rw [List.append_nil]; exact r1, ok1, h1, p.from p1⟩
/-- the rest by defaults -/
theorem e_callD {sp : DSpW} {E : XK} {dvs : List V} {des : List D} (hd : Rps K (fun _ => none) dvs des) (h : WpA K w tA ds n fun es n1 => sp w (es ++ des) n1 k) : WpE K w (tCall (toSp K sp) dvs E tA) ds n k := fun S H0 σ H Q re ok p =>
  h S H0 σ H _ re ok fun vs H1 es n1 h1 p1 ok1 r1 => ⟨w, S, es ++ des, n1, k, r1.append (hd.mono fun _ _ z => by cases z), ok1, h1, p.from p1⟩
/-- keywords alone: zs by the order of the text, gV their places -/
theorem e_callK {sp : DSpW} {E : XK} {tk : TA} {gV : List V → List V → List V} {gD : List D → List D → List D} {a b : Nat} (hg : ∀ {H : Hp} {vs zs : List V} {es fs : List D}, Rps K H vs es → Rps K H zs fs → Rps K H (gV vs zs) (gD es fs))
    (h : WpA K w tA ds n fun es n1 => WpA K w tk ds n1 fun fs n2 => es.length = a ∧ fs.length = b ∧ sp w (gD es fs) n2 k) : WpE K w (tCallN a b (toSp K sp) gV E tA tk) ds n k := fun S H0 σ H Q re ok p =>
  h S H0 σ H _ re ok fun vs H1 es n1 h1 p1 ok1 r1 => h1 S H0 σ H1 _ (re.up ok p1) ok1 fun zs H2 fs n2 ⟨la, lb, hs⟩ p2 ok2 r2 =>
    ⟨by rw [r1.length]; exact la, by rw [r2.length]; exact lb, w, S, gD es fs, n2, k, hg (r1.mono (ex_cut ok1 p2)) r2, ok2, hs, (p.from p1).from p2⟩

/-! ### attributes -/
theorem zip_lookup : ∀ {ns : List Str} {xs : List V} {l : List D} {f : Str} {d : D}, Rps K H xs l → xs.length = ns.length → (ns.zip l).lookup f = some d → ∃ v, (ns.zip xs).lookup f = some v ∧ Rp K H v d
  | [], _, _, _, _, _, _, h => by simp at h
  | _ :: _, [], _, _, _, _, hl, _ => by simp at hl
  | nm :: ns, x :: xs, _, f, d, .cons a b, hl, h => by
    rw [List.zip_cons_cons, List.lookup_cons] at h ⊢
    cases e : f == nm with
    | true => rw [e] at h; cases h; exact ⟨x, rfl, a⟩
    | false => rw [e] at h; exact zip_lookup b (by simpa using hl) h
theorem e_fld {f : Str} (h : WpE K w ta ds n fun d n1 => ∃ C ns l e, d = .obj C ns l ∧ Cls K C ∧ NoAttr K C f ∧ (ns.zip l).lookup f = some e ∧ k e n1) : WpE K w (tFld K ta f) ds n k := fun S H0 σ H Q re ok p =>
  h S H0 σ H _ re ok fun v H1 d n1 ⟨C, ns, l, e, ed, hc, hn, hl, hk⟩ p1 ok1 r1 => by
    subst ed
    cases r1 with
    | obj hO hlen hx =>
      obtain ⟨v', h1, h2⟩ := zip_lookup hx hlen hl
      exact ⟨_, C, _, _, v', rfl, (cut_some hO).2, hc, hn, h1, p v' H1 e n1 hk p1 ok1 h2⟩
/-! ### a new instance: x stands for the object while its __init__ runs -/
/-- all but x and the tables stays, nothing is gone -/
structure Keep (x : Addr) (H H' : Hp) : Prop where
  go : ∀ (a : Addr) (o : HO), a ≠ x → Tb.tab a = false → H a = some o → noT o = true → H' a = some o
  back : ∀ a, H' a = none → H a = none
theorem Keep.refl {x : Addr} {H : Hp} : Keep x H H := ⟨fun _ _ _ _ h _ => h, fun _ h => h⟩
theorem Keep.trans {x : Addr} {H H1 H2 : Hp} (a : Keep x H H1) (b : Keep x H1 H2) : Keep x H H2 := ⟨fun c o n t h k => b.go c o n t (a.go c o n t h k) k, fun c h => a.back c (b.back c h)⟩
theorem Keep.of {x : Addr} {H H' : Hp} (p : Pres none H H') : Keep x H H' := ⟨fun a o _ t h k => p.go a o ⟨by simp, t⟩ h k, p.back⟩
theorem Keep.upd {x : Addr} {H : Hp} {o : HO} : Keep x H (upd H x o) := ⟨fun a o n _ h _ => by rw [upd_ne n]; exact h, fun a h => NdefX.upd_none h⟩
theorem Keep.new {x p : Addr} {H : Hp} {o : HO} (hp : H p = none) : Keep x H (L2.upd H p o) := ⟨fun a u _ _ h _ => by rw [upd_ne (ne_of_none h hp)]; exact h, fun a h => NdefX.upd_none h⟩
def initSp (K : PySem.W.Frag) (C : Addr) (g : List D → List Str → List D → Prop) : Sp := fun vs H Q _ => ∃ (x dx : Addr) (S : Addr → Bool) (avs : List V) (es : List D) (ns : List Str) (l : List D),
  vs = .ref x :: avs ∧ S x = true ∧ Tb.tab x = false ∧ OkW K none S H 0 ∧ H x = some (.ins C dx []) ∧ Rps K (cut S H) avs es ∧ g es ns l ∧
  ∀ (H' : Hp) (xs : List V), Keep x H H' → OkW K none S H' 0 → H' x = some (.ins C dx (ns.zip xs)) → xs.length = ns.length → Rps K (cut S H') xs l → Q .non H'
theorem init_use {C x dx : Addr} {g : List D → List Str → List D → Prop} {vs : List V} {es : List D} {ns : List Str} {l : List D} {Q : VK} {E : XK} (ok : OkW K w S H n) (r : Rps K (cut S H) vs es) (hg : g es ns l) (hx : H x = none) (hdx : H dx = none) (hne : dx ≠ x)
    (p : Po K w S H k Q) (hk : k (.obj C ns l) n) : initSp K C g (.ref x :: vs) (upd (upd H dx (.own x)) x (.ins C dx [])) (fun v H2 => v = .non ∧ Q (.ref x) H2) E := by
  have hx1 : (upd H dx (.own x)) x = none := by rw [upd_ne (Ne.symm hne)]; exact hx
  have ok1 : OkW K w S (upd H dx (.own x)) n := ok.new hdx
  have pr1 : Pres w H (upd H dx (.own x)) := Pres.new hdx
  have hS : S x = false := ok.fresh hx
  have okA : OkW K w (addS S x) (upd (upd H dx (.own x)) x (.ins C dx [])) n := ok1.addS hx1
  refine ⟨x, dx, addS S x, vs, es, ns, l, rfl, addS_same, (ok.w_ne hS).2, ⟨fun p h => (nomatch h), okA.2, okA.3, okA.4⟩, upd_same, (r.mono (ex_cut ok pr1)).mono (cut_addS hx1), hg, fun H' xs hp ok' hx' hlen hxs => ⟨rfl, ?_⟩⟩
  have sub : ∀ a, S a = true → addS S x a = true := fun a h => addS_of h
  have kp : ∀ a o, Tb.tab a = false → H a = some o → noT o = true → H' a = some o := fun a o ht e t => hp.go a o (ne_of_none e hx) ht (by rw [upd_ne (ne_of_none e hx), upd_ne (ne_of_none e hdx)]; exact e) t
  have pr : Pres w H H' := ⟨fun a o hf e t => kp a o hf.2 e t, fun a e => NdefX.upd_none (NdefX.upd_none (hp.back a e))⟩
  have exc : Ex (cut S H) (cut S H') := ex_cut ok pr
  have okB : OkW K w S H' n := by
    refine ⟨fun q hq => ⟨(ok.1 q hq).1, ?_⟩, fun a h => ok'.2 a (sub a h), fun a h => ⟨(ok.3 a h).1, (ok'.3 a h).2⟩, fun a h => ok'.4 a (sub a h)⟩
    obtain ⟨c, ix, left, ns', h1, h2, h3⟩ := (ok.1 q hq).2
    have ht : Tb.tab q = false := by
      cases z : Tb.tab q with
      | false => rfl
      | true =>
        obtain ⟨ps, e, _⟩ := (ok.3 q z).2
        rw [h1] at e; cases e
    exact ⟨c, ix, left, ns', kp q _ ht h1 rfl, exc _ _ h2, h3⟩
  refine p (.ref x) H' _ n hk pr okB (.obj (dx := dx) (xs := xs) ?_ hlen (hxs.mono (cut_sub sub)))
  exact cut_mk hS hx'
theorem e_makeR {C : Addr} {sp : Sp} {g : List D → List Str → List D → Prop} {E : XK} (hsp : ∀ vs H Q E, initSp K C g vs H Q E → sp vs H Q E) (h : WpA K w tA ds n fun es n1 => ∃ ns l, g es ns l ∧ k (.obj C ns l) n1) : WpE K w (StX.tMakeR C sp E tA) ds n k := fun S H0 σ H Q re ok p =>
  h S H0 σ H _ re ok fun vs H1 es n1 ⟨ns, l, hg, hk⟩ p1 ok1 r1 => fun x dx hx hdx hne => hsp _ _ _ _ (init_use ok1 r1 hg hx hdx hne (p.from p1) hk)
theorem e_make {C : Addr} {g : List D → List Str → List D → Prop} {E : XK} (h : WpA K w tA ds n fun es n1 => ∃ ns l, g es ns l ∧ k (.obj C ns l) n1) : WpE K w (tMake C (initSp K C g) [] E tA) ds n k := fun S H0 σ H Q re ok p =>
  h S H0 σ H _ re ok fun vs H1 es n1 ⟨ns, l, hg, hk⟩ p1 ok1 r1 => fun x dx hx hdx hne => by rw [List.append_nil]; exact init_use ok1 r1 hg hx hdx hne (p.from p1) hk
theorem e_makeD {C : Addr} {g : List D → List Str → List D → Prop} {E : XK} {dvs : List V} {des : List D} (hd : Rps K (fun _ => none) dvs des) (h : WpA K w tA ds n fun es n1 => ∃ ns l, g (es ++ des) ns l ∧ k (.obj C ns l) n1) : WpE K w (tMake C (initSp K C g) dvs E tA) ds n k := fun S H0 σ H Q re ok p =>
  h S H0 σ H _ re ok fun vs H1 es n1 ⟨ns, l, hg, hk⟩ p1 ok1 r1 => fun x dx hx hdx hne => init_use ok1 (r1.append (hd.mono fun _ _ z => by cases z)) hg hx hdx hne (p.from p1) hk

/-! ### operators by data -/
section
variable {X : Cx}
abbrev rAddS : R2 := fun x y H Q => ∃ i j, x = .str i ∧ y = .str j ∧ i.length + j.length ≤ sizeLine ∧ Q (.str (i ++ j)) H
def rAddU (K : PySem.W.Frag) : R2 := fun x y H Q => rI0 (fun i j => .int (i + j)) x y H Q ∨ rAddS x y H Q ∨ rCat x y H Q ∨ rCatA K x y H Q ∨ ∃ i k, x = .int i ∧ y = .bl k ∧ Q (.int (i + PyProof.Rows.b2i k)) H
theorem op_addU : OpR X (binaryOp .Add) (rAddU X.K) := op_add.or (op_add_str.or (op_cat.or (op_catA.or op_add_ib)))
def rMulU : R2 := fun x y H Q => rI CMul (fun i j => .int (i * j)) x y H Q ∨ rI CMulW (fun i j => .int (i * j)) x y H Q ∨ rRep x y H Q
theorem op_mulU : OpR X (binaryOp .Mult) rMulU := op_mul.or (op_mulW.or op_rep)
def rDivU : R2 := fun x y H Q => rI CDivW (fun i j => .int (i / j)) x y H Q ∨ rI CDivN (fun i j => .int (i.fdiv j)) x y H Q
theorem op_divU : OpR X (binaryOp .FloorDiv) rDivU := op_fdivW.or op_fdivN
def rModU : R2 := fun x y H Q => rI (fun _ j => 0 < j) (fun i j => .int (i % j)) x y H Q ∨ rI (fun _ j => j ≠ 0) (fun i j => .int (i.fmod j)) x y H Q
theorem op_modU : OpR X (binaryOp .Mod) rModU := op_mod.or op_modN
/-- a list beside an empty one, whatever stands in it -/
def rEqE (K : PySem.W.Frag) : R2 := fun x y H Q => ∃ a b xs, x = .ref a ∧ y = .ref b ∧ SqL K H a xs ∧ SqL K H b [] ∧ Q (.bl xs.isEmpty) H
def rNeE (K : PySem.W.Frag) : R2 := fun x y H Q => ∃ a b xs, x = .ref a ∧ y = .ref b ∧ SqL K H a xs ∧ SqL K H b [] ∧ Q (.bl (!xs.isEmpty)) H
theorem op_eqE (hu : X.A.units + 64 < cLine) : OpR X (compareOp .Eq) (rEqE X.K) := by
  intro pins s σ H x y v u Q I rx ry h
  obtain ⟨a, b, xs, rfl, rfl, ha, hb, q⟩ := h
  cases rx; cases ry
  obtain ⟨its, rv, ⟨o, n, ho, hc, _, hd⟩, _⟩ := I.list ha
  obtain ⟨its2, rv2, ⟨o2, n2, ho2, hc2, _, hd2⟩, _⟩ := I.list hb
  have l1 := rv.length
  have l2 := rv2.length
  have q1 : s.heap.IsList a its.toArray := ⟨o, ho, hc, n, hd⟩
  have q2 : s.heap.IsList b its2.toArray := ⟨o2, ho2, hc2, n2, hd2⟩
  have l2 : its2.length = 0 := l2.symm
  cases xs with
  | nil =>
    have l1 : its.length = 0 := l1.symm
    refine SeqAt.eq_listAt (e := fun _ => true) q1 q2 (by simp [l1, l2]) (by omega) (fun j h1 h2 => by simp [l1] at h1) ⟨.bl _, H, I, ?_, q⟩
    simp [l1, RelV]
  | cons x xs =>
    have l1 : its.length = xs.length + 1 := l1.symm
    exact SeqAt.eq_list_lengthsAt q1 q2 (by simp [l1, l2]) (by omega) ⟨.bl _, H, I, rfl, q⟩
theorem op_neE (hu : X.A.units + 64 < cLine) : OpR X (compareOp .NotEq) (rNeE X.K) := by
  intro pins s σ H x y v u Q I rx ry h
  obtain ⟨a, b, xs, rfl, rfl, ha, hb, q⟩ := h
  cases rx; cases ry
  obtain ⟨its, rv, ⟨o, n, ho, hc, _, hd⟩, _⟩ := I.list ha
  obtain ⟨its2, rv2, ⟨o2, n2, ho2, hc2, _, hd2⟩, _⟩ := I.list hb
  have l1 := rv.length
  have l2 := rv2.length
  have q1 : s.heap.IsList a its.toArray := ⟨o, ho, hc, n, hd⟩
  have q2 : s.heap.IsList b its2.toArray := ⟨o2, ho2, hc2, n2, hd2⟩
  have l2 : its2.length = 0 := l2.symm
  cases xs with
  | nil =>
    have l1 : its.length = 0 := l1.symm
    refine SeqAt.RcNeAt.lists (e := fun _ => true) q1 q2 (by simp [l1, l2]) (by omega) (fun j h1 h2 => by simp [l1] at h1) X.prog X.w _ _ ⟨.bl _, H, I, ?_, q⟩
    simp [l1, RelV]
  | cons x xs =>
    have l1 : its.length = xs.length + 1 := l1.symm
    exact SeqAt.RcNeAt.lists_lengths q1 q2 (by simp [l1, l2]) (by omega) X.prog X.w _ _ ⟨.bl _, H, I, rfl, q⟩
def rEqU (K : PySem.W.Frag) : R2 := fun x y H Q => rEq x y H Q ∨ rEqD K x y H Q ∨ rEqE K x y H Q
theorem op_eqU (hu : X.A.units + 64 < cLine) : OpR X (compareOp .Eq) (rEqU X.K) := op_eq.or ((op_eqD hu).or (op_eqE hu))
def rNeU (K : PySem.W.Frag) : R2 := fun x y H Q => rNe x y H Q ∨ rNeD K x y H Q ∨ rNeE K x y H Q
theorem op_neU (hu : X.A.units + 64 < cLine) : OpR X (compareOp .NotEq) (rNeU X.K) := op_ne.or ((op_neD hu).or (op_neE hu))
def rIsU : R2 := fun x y H Q => y = .non ∧ Q (.bl (decide (x = .non))) H
def rIsNU : R2 := fun x y H Q => y = .non ∧ Q (.bl (!decide (x = .non))) H
theorem op_isU : OpR X (compareOp .Is) rIsU := op_isN
theorem op_isNU : OpR X (compareOp .IsNot) rIsNU := op_notN
end
theorem rd_I0 {g : Int → Int → V} {d' : Int → Int → D} {i j : Int} (hg : ∀ (H : Hp) i j, Rp K H (g i j) (d' i j)) (hk : k (d' i j) n) : RD K w (rI0 g) (.int i) (.int j) n k := fun S v u H Q a b ok p => by
  cases a; cases b; exact ⟨i, j, rfl, rfl, p _ H _ n hk Pres.refl ok (hg _ i j)⟩
theorem rd_addI {i j : Int} (hk : k (.int (i + j)) n) : RD K w (rAddU K) (.int i) (.int j) n k := fun S v u H Q a b ok p => by
  cases a; cases b; exact .inl ⟨i, j, rfl, rfl, p _ H _ n hk Pres.refl ok (.int _)⟩
theorem rd_addIB {i : Int} {j : Bool} (hk : k (.int (i + PyProof.Rows.b2i j)) n) : RD K w (rAddU K) (.int i) (.bl j) n k := fun S v u H Q a b ok p => by
  cases a; cases b; exact .inr (.inr (.inr (.inr ⟨i, j, rfl, rfl, p _ H _ n hk Pres.refl ok (.int _)⟩)))
theorem rd_addS {i j : Str} (hz : i.length + j.length ≤ 100000) (hk : k (.str (i ++ j)) n) : RD K w (rAddU K) (.str i) (.str j) n k := fun S v u H Q a b ok p => by
  cases a; cases b; exact .inr (.inl ⟨i, j, rfl, rfl, Evl.sz_of hz, p _ H _ n hk Pres.refl ok (.str _)⟩)
theorem rd_addL {i j : List D} (hz : i.length + j.length ≤ 100000) (hk : k (.lst (i ++ j)) n) : RD K w (rAddU K) (.lst i) (.lst j) n k := fun S v u H Q a b ok p => by
  cases a with
  | lst hA xA =>
    cases b with
    | lst hB xB =>
      exact .inr (.inr (.inl ⟨_, _, _, _, rfl, rfl, (cut_some hA).2, (cut_some hB).2, Evl.sz_of (by rw [xA.length, xB.length]; exact hz), fun q hq =>
        p _ _ _ n hk (Pres.new hq) (ok.new hq) (.lst (cut_new ok hq) ((xA.append xB).mono (ex_cut ok (Pres.new hq))))⟩))
theorem rd_addT {i j : List D} (hz : i.length + j.length ≤ 100000) (hk : k (.tup (i ++ j)) n) : RD K w (rAddU K) (.tup i) (.tup j) n k := fun S v u H Q a b ok p => by
  cases a with
  | @tup aa xs _ hA xA =>
    cases b with
    | @tup bb ys _ hB xB =>
      have e := cut_ex S H
      have lA := xA.length
      have lB := xB.length
      refine .inr (.inr (.inr (.inl ⟨aa, bb, xs, ys, rfl, rfl, Evl.ex_t e hA, Evl.ex_t e hB, Evl.sz_of (by omega), fun z => ?_, fun _ z => ?_, fun _ _ q hq => ?_⟩)))
      · subst z
        have : i = [] := by cases i with
          | nil => rfl
          | cons _ _ => simp at lA
        subst this
        exact p _ H _ n hk Pres.refl ok (.tup hB xB)
      · subst z
        have : j = [] := by cases j with
          | nil => rfl
          | cons _ _ => simp at lB
        subst this
        rw [List.append_nil] at hk
        exact p _ H _ n hk Pres.refl ok (.tup hA xA)
      · exact p _ _ _ n hk (Pres.new hq) (ok.new hq) (.tup (SqT.of (cut_new ok hq)) ((xA.append xB).mono (ex_cut ok (Pres.new hq))))
theorem rd_sub {i j : Int} (hk : k (.int (i - j)) n) : RD K w (rI0 fun i j => .int (i - j)) (.int i) (.int j) n k := rd_I0 (d' := fun i j => .int (i - j)) (fun _ _ _ => .int _) hk
theorem rd_mul {i j : Int} (hc : CMul i j ∨ CMulW i j) (hk : k (.int (i * j)) n) : RD K w rMulU (.int i) (.int j) n k := fun S v u H Q a b ok p => by
  cases a; cases b
  rcases hc with hc | hc
  · exact .inl ⟨i, j, rfl, rfl, hc, p _ H _ n hk Pres.refl ok (.int _)⟩
  · exact .inr (.inl ⟨i, j, rfl, rfl, hc, p _ H _ n hk Pres.refl ok (.int _)⟩)
theorem rd_rep {l : List D} {j : Int} (h1 : -(2 ^ 63) ≤ j) (h2 : j < 2 ^ 63) (hz : l.length * j.toNat ≤ 100000) (hk : k (.lst (List.replicate j.toNat l).flatten) n) : RD K w rMulU (.lst l) (.int j) n k := fun S v u H Q a b ok p => by
  cases b
  cases a with
  | lst hA xA =>
    have rep : ∀ m : Nat, Rps K (cut S H) (List.replicate m _).flatten (List.replicate m l).flatten := fun m => by
      induction m with
      | zero => exact .nil
      | succ m ih => rw [List.replicate_succ, List.replicate_succ, List.flatten_cons, List.flatten_cons]; exact xA.append ih
    exact .inr (.inr ⟨_, j, _, rfl, rfl, (cut_some hA).2, h1, h2, Evl.sz_of (by rw [xA.length]; exact hz), fun q hq =>
      p _ _ _ n hk (Pres.new hq) (ok.new hq) (.lst (cut_new ok hq) ((rep j.toNat).mono (ex_cut ok (Pres.new hq))))⟩)
theorem rd_div {i j : Int} (hc : CDivW i j) (hk : k (.int (i / j)) n) : RD K w rDivU (.int i) (.int j) n k := fun S v u H Q a b ok p => by
  cases a; cases b; exact .inl ⟨i, j, rfl, rfl, hc, p _ H _ n hk Pres.refl ok (.int _)⟩
theorem rd_mod {i j : Int} (hc : 0 < j) (hk : k (.int (i % j)) n) : RD K w rModU (.int i) (.int j) n k := fun S v u H Q a b ok p => by
  cases a; cases b; exact .inl ⟨i, j, rfl, rfl, hc, p _ H _ n hk Pres.refl ok (.int _)⟩
theorem rd_pow {i j : Int} (hc : CPow i j) (hk : k (.int (i ^ j.toNat)) n) : RD K w (rI CPow fun i j => .int (i ^ j.toNat)) (.int i) (.int j) n k := fun S v u H Q a b ok p => by
  cases a; cases b; exact ⟨i, j, rfl, rfl, hc, p _ H _ n hk Pres.refl ok (.int _)⟩
theorem ru_neg {i : Int} (hk : k (.int (-i)) n) : RU K w (rU fun i => .int (-i)) (.int i) n k := fun S v H Q a ok p => by
  cases a; exact ⟨i, rfl, p _ H _ n hk Pres.refl ok (.int _)⟩
theorem rd_lt {i j : Int} (hk : k (.bl (decide (i < j))) n) : RD K w (rI0 fun i j => .bl (decide (i < j))) (.int i) (.int j) n k := rd_I0 (d' := fun i j => .bl (decide (i < j))) (fun _ _ _ => .bl _) hk
theorem rd_le {i j : Int} (hk : k (.bl (decide (i ≤ j))) n) : RD K w (rI0 fun i j => .bl (decide (i ≤ j))) (.int i) (.int j) n k := rd_I0 (d' := fun i j => .bl (decide (i ≤ j))) (fun _ _ _ => .bl _) hk
theorem rd_gt {i j : Int} (hk : k (.bl (decide (j < i))) n) : RD K w (rI0 fun i j => .bl (decide (j < i))) (.int i) (.int j) n k := rd_I0 (d' := fun i j => .bl (decide (j < i))) (fun _ _ _ => .bl _) hk
theorem rd_ge {i j : Int} (hk : k (.bl (decide (j ≤ i))) n) : RD K w (rI0 fun i j => .bl (decide (j ≤ i))) (.int i) (.int j) n k := rd_I0 (d' := fun i j => .bl (decide (j ≤ i))) (fun _ _ _ => .bl _) hk
theorem dI {i j : Int} : decide (V.int i = V.int j) = decide (i = j) := by
  by_cases h : i = j
  · subst h; simp
  · rw [decide_eq_false h, decide_eq_false (fun e => h (V.int.inj e))]
theorem dS {i j : Str} : decide (V.str i = V.str j) = decide (i = j) := by
  by_cases h : i = j
  · subst h; simp
  · rw [decide_eq_false h, decide_eq_false (fun e => h (V.str.inj e))]
theorem dB {i j : Bool} : decide (V.bl i = V.bl j) = decide (i = j) := by cases i <;> cases j <;> rfl
theorem rd_eqI {i j : Int} (hk : k (.bl (decide (i = j))) n) : RD K w (rEqU K) (.int i) (.int j) n k := fun S v u H Q a b ok p => by
  cases a; cases b; exact .inl ⟨rfl, by rw [dI]; exact p _ H _ n hk Pres.refl ok (.bl _)⟩
theorem rd_eqS {i j : Str} (hk : k (.bl (decide (i = j))) n) : RD K w (rEqU K) (.str i) (.str j) n k := fun S v u H Q a b ok p => by
  cases a; cases b; exact .inl ⟨rfl, by rw [dS]; exact p _ H _ n hk Pres.refl ok (.bl _)⟩
theorem rd_neI {i j : Int} (hk : k (.bl (!decide (i = j))) n) : RD K w (rNeU K) (.int i) (.int j) n k := fun S v u H Q a b ok p => by
  cases a; cases b; exact .inl ⟨rfl, by rw [dI]; exact p _ H _ n hk Pres.refl ok (.bl _)⟩
theorem rd_neS {i j : Str} (hk : k (.bl (!decide (i = j))) n) : RD K w (rNeU K) (.str i) (.str j) n k := fun S v u H Q a b ok p => by
  cases a; cases b; exact .inl ⟨rfl, by rw [dS]; exact p _ H _ n hk Pres.refl ok (.bl _)⟩
def isNon : D → Bool
  | .non => true
  | _ => false
def isRaw : D → Bool
  | .raw _ => true
  | _ => false
theorem rd_is {d : D} (hr : isRaw d = false) (hk : k (.bl (isNon d)) n) : RD K w rIsU d .non n k := fun S v u H Q a b ok p => by
  cases b
  refine ⟨rfl, ?_⟩
  have e : decide (v = V.non) = isNon d := by cases a <;> first | rfl | (exact absurd hr (by simp [isRaw])) | simp [isNon]
  rw [e]; exact p _ H _ n hk Pres.refl ok (.bl _)
theorem rd_isN {d : D} (hr : isRaw d = false) (hk : k (.bl (!isNon d)) n) : RD K w rIsNU d .non n k := fun S v u H Q a b ok p => by
  cases b
  refine ⟨rfl, ?_⟩
  have e : decide (v = V.non) = isNon d := by cases a <;> first | rfl | (exact absurd hr (by simp [isRaw])) | simp [isNon]
  rw [e]; exact p _ H _ n hk Pres.refl ok (.bl _)

/-! ### subscripts -/
theorem rd_ixL {l : List D} {i : Int} {d : D} (ha : atI l i = some d) (hk : k d n) : RD K w (rIx K) (.lst l) (.int i) n k := fun S v u H Q a b ok p => by
  cases b
  cases a with
  | @lst aa xs _ hA xA =>
    obtain ⟨j, h1, h2⟩ := Option.bind_eq_some_iff.mp ha
    obtain ⟨x, hx, rx⟩ := xA.get h2
    refine .inl ⟨aa, xs, i, x, rfl, rfl, SqL.of (cut_some hA).2, ?_, p _ H _ n hk Pres.refl ok rx⟩
    unfold atI; rw [xA.length, h1]; exact hx
theorem rd_ixT {l : List D} {i : Int} {d : D} (ha : atI l i = some d) (hk : k d n) : RD K w (rIx K) (.tup l) (.int i) n k := fun S v u H Q a b ok p => by
  cases b
  cases a with
  | @tup aa xs _ hA xA =>
    obtain ⟨j, h1, h2⟩ := Option.bind_eq_some_iff.mp ha
    obtain ⟨x, hx, rx⟩ := xA.get h2
    refine .inr (.inl ⟨aa, xs, i, x, rfl, rfl, Evl.ex_t (cut_ex S H) hA, ?_, p _ H _ n hk Pres.refl ok rx⟩)
    unfold atI; rw [xA.length, h1]; exact hx
/-! ### slices -/
def cutD (l : List D) (lo hi : Option Int) : List D := (l.drop (HT.sIx l.length 0 lo)).take (HT.sIx l.length l.length hi - HT.sIx l.length 0 lo)
def WpO (K : PySem.W.Frag) (w : Option Addr) (t : TO) (ds : List (Option D)) (n : Nat) (k : Option Int → Nat → Prop) : Prop :=
  ∀ (S : Addr → Bool) (H0 : Hp) (σ : St) (H : Hp) (Q : Option Int → Hp → Prop), RpE K w S H0 H σ ds → OkW K w S H n → (∀ (b : Option Int) (H' : Hp) (n' : Nat), k b n' → Pres w H H' → OkW K w S H' n' → Q b H') → t σ H Q
theorem o_none {k : Option Int → Nat → Prop} (hk : k none n) : WpO K w tNoPart ds n k := fun S H0 σ H Q re ok p => p none H n hk Pres.refl ok
theorem o_some {k : Option Int → Nat → Prop} (h : WpE K w te ds n fun d n1 => ∃ i, d = .int i ∧ k (some i) n1) : WpO K w (tPart te) ds n k := fun S H0 σ H Q re ok p =>
  h S H0 σ H _ re ok fun v H1 d n1 ⟨i, e, hk⟩ p1 ok1 r1 => by subst e; cases r1; exact ⟨i, rfl, p _ H1 n1 hk p1 ok1⟩
def rSlU (K : PySem.W.Frag) : V → Option Int → Option Int → Hp → VK → Prop := fun x lo hi H Q => rSlL K x lo hi H Q ∨ rSlA K x lo hi H Q
theorem sl_U {X : Cx} : SlR X (rSlU X.K) := sl_list.or sl_tupA
theorem e_slL {tl th : TO} (h : WpE K w te ds n fun d n1 => ∃ l, d = .lst l ∧ WpO K w tl ds n1 fun lo n2 => WpO K w th ds n2 fun hi n3 => k (.lst (cutD l lo hi)) n3) : WpE K w (tSl (rSlU K) te tl th) ds n k := fun S H0 σ H Q re ok p =>
  h S H0 σ H _ re ok fun v H1 d n1 ⟨l, e, h1⟩ p1 ok1 r1 => by
    subst e
    refine h1 S H0 σ H1 _ (re.up ok p1) ok1 fun lo H2 n2 h2 p2 ok2 => h2 S H0 σ H2 _ ((re.up ok p1).up ok1 p2) ok2 fun hi H3 n3 h3 p3 ok3 => ?_
    have r3 := (r1.mono (ex_cut ok1 p2)).mono (ex_cut ok2 p3)
    cases r3 with
    | @lst aa xs _ hA xA =>
      refine .inl ⟨aa, xs, rfl, SqL.of (cut_some hA).2, fun q hq => p _ _ _ n3 h3 (((p1.trans p2).trans p3).trans (Pres.new hq)) (ok3.new hq) (.lst (cut_new ok3 hq) ?_)⟩
      have := (((xA.drop (HT.sIx xs.length 0 lo)).take (HT.sIx xs.length xs.length hi - HT.sIx xs.length 0 lo)).mono (ex_cut ok3 (Pres.new (o := .lst (cutV xs lo hi)) hq)))
      unfold cutV cutD
      rw [← xA.length]; exact this
end
end DW
set_option Elab.async false
set_option maxRecDepth 100000
set_option maxHeartbeats 4000000
set_option linter.all false
set_option autoImplicit false
/-! the least of some pairs of numbers -/
namespace DW
variable [Tb]
open PySem PySem.Spec PyProof.Rows L2
def pPy (p : Int × Int) : PyData := .tuple [.int p.1, .int p.2]
/-- pairs in their order -/
def pLe (p q : Int × Int) : Prop := p.1 < q.1 ∨ (p.1 = q.1 ∧ p.2 ≤ q.2)
theorem pLe.refl (p : Int × Int) : pLe p p := .inr ⟨rfl, Int.le_refl _⟩
theorem pLe.trans {p q r : Int × Int} (h : pLe p q) (k : pLe q r) : pLe p r := by
  unfold pLe at *
  omega
theorem minD_pairs : ∀ (l : List (Int × Int)) (p : Int × Int), ∃ q, q ∈ p :: l ∧ (∀ r ∈ p :: l, pLe q r) ∧ PySem.W.minD (pPy p) (l.map pPy) = pPy q
  | [], p => ⟨p, by simp, fun r hr => by rw [List.mem_singleton] at hr; subst hr; exact pLe.refl _, rfl⟩
  | a :: l, p => by
    have e : PySem.W.minD (pPy p) ((a :: l).map pPy) = PySem.W.minD (if PySem.W.dataLt (pPy a) (pPy p) = true then pPy a else pPy p) (l.map pPy) := rfl
    have d : PySem.W.dataLt (pPy a) (pPy p) = decide (a.1 < p.1 ∨ (a.1 = p.1 ∧ a.2 < p.2)) := PySem.W.dataLt_ii _ _ _ _
    rw [e, d]
    by_cases h : a.1 < p.1 ∨ (a.1 = p.1 ∧ a.2 < p.2)
    · rw [decide_eq_true h, if_pos rfl]
      obtain ⟨q, h1, h2, h3⟩ := minD_pairs l a
      refine ⟨q, by rcases List.mem_cons.mp h1 with z | z <;> simp [z], fun r hr => ?_, h3⟩
      rcases List.mem_cons.mp hr with rfl | hr
      · refine (h2 a (by simp)).trans ?_
        unfold pLe; omega
      · exact h2 r hr
    · rw [decide_eq_false h, if_neg (by decide)]
      obtain ⟨q, h1, h2, h3⟩ := minD_pairs l p
      refine ⟨q, by rcases List.mem_cons.mp h1 with z | z <;> simp [z], fun r hr => ?_, h3⟩
      rcases List.mem_cons.mp hr with rfl | hr
      · exact h2 _ (by simp)
      · rcases List.mem_cons.mp hr with rfl | hr
        · refine (h2 p (by simp)).trans ?_
          unfold pLe; omega
        · exact h2 r (by simp [hr])
theorem pPy_inj {p q : Int × Int} (h : pPy p = pPy q) : p = q := by
  unfold pPy at h
  injection h with h
  injection h with h1 h2
  injection h2 with h2 _
  injection h1 with h1
  injection h2 with h2
  exact Prod.ext h1 h2
theorem pPy_all (l : List (Int × Int)) : PyData.canLayAll0 (l.map pPy) = true ∧ PyData.depthAll (l.map pPy) ≤ 5 := by
  induction l with
  | nil => exact ⟨rfl, by decide⟩
  | cons p l ih =>
    refine ⟨by rw [List.map_cons, PyData.canLayAll0, ih.1]; rfl, ?_⟩
    rw [List.map_cons, PyData.depthAll]
    have : (pPy p).depth ≤ 5 := by simp [pPy, PyData.depth, PyData.depthAll]
    have := ih.2
    omega
theorem alike_pairs (l : List (Int × Int)) : PySem.W.AlikeAll (l.map pPy) := by
  refine ⟨fun x hx y hy => ?_, fun x hx => ?_⟩
  · obtain ⟨p, _, rfl⟩ := List.mem_map.mp hx
    obtain ⟨q, _, rfl⟩ := List.mem_map.mp hy
    simp [pPy, PySem.W.alike, PySem.W.alikeAll]
  · obtain ⟨p, _, rfl⟩ := List.mem_map.mp hx
    exact fun z => nomatch z
section
variable {X : Cx}
def rMinP (K : PySem.W.Frag) : List V → Hp → VK → Prop := fun vs H Q => ∃ (a : Addr) (xs : List V) (l : List (Int × Int)), vs = [.ref a] ∧ SqL K H a xs ∧ DpAll K H xs (l.map pPy) ∧ l ≠ [] ∧ ∀ (i : Nat) (q : Int × Int) (x : V), l[i]? = some q → xs[i]? = some x → (∀ r ∈ l, pLe q r) → Q x H
theorem cr_minP (hc : X.calm = true) (hu : X.A.units + 64 < cLine) : CallR X (.builtin "min") (rMinP X.K) := by
  intro pins s σ H vs us Q I r h
  obtain ⟨a, xs, l, rfl, hs, hd, hne, q⟩ := h
  obtain ⟨its, rv, hl, _⟩ := I.list hs
  obtain ⟨as, rd⟩ := Dp.readsAll I _ _ _ hd rv
  rw [Vals.ref1 r]
  cases l with
  | nil => exact absurd rfl hne
  | cons p l =>
    have hz := (pPy_all (p :: l)).2
    refine PySem.W.min_list_data (vs := its.toArray) (I.ok.hd hc) hl.isList (by simpa using rd) (alike_pairs (p :: l)) (by show X.A.units + 1 + PyData.depthAll ((p :: l).map pPy) < cLine; omega) fun i v h' tk bs hv hr hk => ?_
    obtain ⟨z, h1, h2, h3⟩ := minD_pairs l p
    obtain ⟨bs', r1, hi, _, _⟩ := PySem.W.readsAll_atA (by simpa using rd) i v hv
    have hi : i < (p :: l).length := by simpa using hi
    have r1 : Reads s.heap v (((p :: l).map pPy).getD i .none) bs' := r1
    have e3 : ((p :: l).map pPy).getD i .none = pPy ((p :: l)[i]) := by rw [List.getD_eq_getElem?_getD, List.getElem?_map, List.getElem?_eq_getElem hi]; rfl
    rw [e3] at r1
    rw [h3] at hr
    have e1 : SeqAt.readOf h' v = pPy ((p :: l)[i]) := SeqAt.readOf_eq rfl (PySem.W.reads_keeps hk r1)
    have e2 : SeqAt.readOf h' v = pPy z := SeqAt.readOf_eq rfl hr
    have e4 : (p :: l)[i] = z := pPy_inj (e1.symm.trans e2)
    have hv' : its[i]? = some v := by simpa using hv
    have hxl : i < xs.length := by rw [rv.length]; exact (List.getElem?_eq_some_iff.mp hv').1
    obtain ⟨u, hu2, rx⟩ := rv.get (List.getElem?_eq_getElem hxl)
    cases hv'.symm.trans hu2
    have hx : xs[i]? = some xs[i] := List.getElem?_eq_getElem hxl
    exact ⟨xs[i], H, I.kept hk, rx, q i z xs[i] (by rw [List.getElem?_eq_getElem hi, e4]) hx h2⟩
/-- the sum of a tuple of numbers -/
def rSumT (K : PySem.W.Frag) : List V → Hp → VK → Prop := fun vs H Q => ∃ (a : Addr) (ns : List Int), vs = [.ref a] ∧ SqT K H a (ns.map V.int) ∧ Q (.int ns.sum) H
theorem cr_sumT (hc : X.calm = true) : CallR X (.builtin "sum") (rSumT X.K) := by
  intro pins s σ H vs us Q I r h
  obtain ⟨a, ns, rfl, hs, q⟩ := h
  obtain ⟨its, rv, ht, _⟩ := I.tuple hs
  rw [Vals.ref1 r]
  have iv := rv.ints
  cases iv.allInts.items with
  | intro xs e =>
    have hn : ns = xs.toList.map (·.1) := by rw [← nums_intItems, ← e]; exact iv.numsOf.symm
    rw [e] at ht
    refine PySem.W.ktm_sumG (I.ok.hd hc) ht fun h' tk t' hk => ⟨.int ns.sum, H, I.kept hk, ⟨t', ?_⟩, q⟩
    rw [preSum_eq, List.take_of_length_le (by simp), hn]
def rSumU (K : PySem.W.Frag) : List V → Hp → VK → Prop := fun vs H Q => rSum K vs H Q ∨ rSumT K vs H Q
theorem call_sumU (hc : X.calm = true) : CallR X (.builtin "sum") (rSumU X.K) := (cr_sum hc).or (cr_sumT hc)
end
end DW
set_option Elab.async false
set_option maxRecDepth 100000
set_option maxHeartbeats 4000000
set_option linter.all false
set_option autoImplicit false
namespace DW
variable [Tb]
open PySem L2

section
variable {K : PySem.W.Frag} {w : Option Addr} {S : Addr → Bool} {H H0 H1 H2 H' : Hp} {n m : Nat} {σ : St} {ds : List (Option D)} {ta tb te : TE} {tA tB : TA} {k : Kn}
theorem e_slT {tl th : TO} (h : WpE K w te ds n fun d n1 => ∃ l, d = .tup l ∧ WpO K w tl ds n1 fun lo n2 => WpO K w th ds n2 fun hi n3 => k (.tup (cutD l lo hi)) n3) : WpE K w (tSl (rSlU K) te tl th) ds n k := fun S H0 σ H Q re ok p =>
  h S H0 σ H _ re ok fun v H1 d n1 ⟨l, e, h1⟩ p1 ok1 r1 => by
    subst e
    refine h1 S H0 σ H1 _ (re.up ok p1) ok1 fun lo H2 n2 h2 p2 ok2 => h2 S H0 σ H2 _ ((re.up ok p1).up ok1 p2) ok2 fun hi H3 n3 h3 p3 ok3 => ?_
    have r3 := (r1.mono (ex_cut ok1 p2)).mono (ex_cut ok2 p3)
    cases r3 with
    | @tup aa xs _ hA xA =>
      have hl := xA.length
      refine .inr ⟨aa, xs, rfl, Evl.ex_t (cut_ex S H3) hA, fun hw => ?_, fun hw q hq => ?_⟩
      · have e : cutD l lo hi = l := by
          unfold cutD
          rw [← hl, hw.1, hw.2, List.drop_zero, Nat.sub_zero, hl, List.take_length]
        have h3' : k (D.tup (cutD l lo hi)) n3 := h3
        rw [e] at h3'
        exact p _ H3 _ n3 h3' ((p1.trans p2).trans p3) ok3 (.tup hA xA)
      · refine p _ _ _ n3 h3 (((p1.trans p2).trans p3).trans (Pres.new hq)) (ok3.new hq) (.tup (SqT.of (cut_new ok3 hq)) ?_)
        have := (((xA.drop (HT.sIx xs.length 0 lo)).take (HT.sIx xs.length xs.length hi - HT.sIx xs.length 0 lo)).mono (ex_cut ok3 (Pres.new (o := .tup (cutV xs lo hi)) hq)))
        unfold cutV cutD
        rw [← xA.length]; exact this

/-! ### built-in functions by data -/
abbrev RCT := List V → Hp → VK → Prop
def rLenU (K : PySem.W.Frag) : RCT := fun xs H Q => ∃ x n, xs = [x] ∧ LenV K x H n ∧ Q (.int n) H
theorem call_lenU {X : Cx} : CallR X (.builtin "len") (rLenU X.K) := call_len
theorem rc_lenL {l : List D} (hk : k (.int l.length) n) : RC K w (rLenU K) [.lst l] n k := fun S vs H Q r ok p => by
  cases r with
  | cons a b =>
    cases b
    cases a with
    | lst hA xA => exact ⟨_, _, rfl, .inl ⟨_, SqL.of (cut_some hA).2, xA.length.symm⟩, p _ H _ n hk Pres.refl ok (.int _)⟩
theorem rc_lenT {l : List D} (hk : k (.int l.length) n) : RC K w (rLenU K) [.tup l] n k := fun S vs H Q r ok p => by
  cases r with
  | cons a b =>
    cases b
    cases a with
    | tup hA xA => exact ⟨_, _, rfl, .inr ⟨_, Evl.ex_t (cut_ex S H) hA, xA.length.symm⟩, p _ H _ n hk Pres.refl ok (.int _)⟩
theorem rc_lenS {l : Str} (hz : l.length ≤ 100000) (hk : k (.int l.length) n) : RC K w (rLenU K) [.str l] n k := fun S vs H Q r ok p => by
  cases r with
  | cons a b => cases b; cases a; exact ⟨_, _, rfl, ⟨Evl.sz_of hz, rfl⟩, p _ H _ n hk Pres.refl ok (.int _)⟩
def rMax2 : RCT := fun xs H Q => ∃ i j, xs = [.int i, .int j] ∧ Q (.int (if j > i then j else i)) H
def rMin2 : RCT := fun xs H Q => ∃ i j, xs = [.int i, .int j] ∧ Q (.int (if j < i then j else i)) H
def rMaxU (K : PySem.W.Frag) : RCT := fun xs H Q => rMax2 xs H Q ∨ rMax K xs H Q
def rMinU (K : PySem.W.Frag) : RCT := fun xs H Q => rMin2 xs H Q ∨ rMin K xs H Q ∨ rMinP K xs H Q
theorem call_maxU {X : Cx} (hc : X.calm = true) : CallR X (.builtin "max") (rMaxU X.K) := (call_max2 hc).or (cr_max hc)
theorem call_minU {X : Cx} (hc : X.calm = true) (hu : X.A.units + 64 < cLine) : CallR X (.builtin "min") (rMinU X.K) := (call_min2 hc).or ((cr_min hc).or (cr_minP hc hu))
theorem rc_max2 {i j : Int} (hk : k (.int (max i j)) n) : RC K w (rMaxU K) [.int i, .int j] n k := fun S vs H Q r ok p => by
  cases r with
  | cons a b =>
    cases a
    cases b with
    | cons a b =>
      cases a; cases b
      refine .inl ⟨i, j, rfl, ?_⟩
      have e : (if j > i then j else i) = max i j := by split <;> omega
      rw [e]; exact p _ H _ n hk Pres.refl ok (.int _)
theorem rc_min2 {i j : Int} (hk : k (.int (min i j)) n) : RC K w (rMinU K) [.int i, .int j] n k := fun S vs H Q r ok p => by
  cases r with
  | cons a b =>
    cases a
    cases b with
    | cons a b =>
      cases a; cases b
      refine .inl ⟨i, j, rfl, ?_⟩
      have e : (if j < i then j else i) = min i j := by split <;> omega
      rw [e]; exact p _ H _ n hk Pres.refl ok (.int _)
theorem lst_ints {S : Addr → Bool} {v : V} {ns : List Int} (r : Rp K (cut S H) v (.lst (ns.map D.int))) : ∃ a, v = .ref a ∧ H a = some (.lst (ns.map V.int)) := by
  cases r with
  | lst hA xA => exact ⟨_, rfl, by rw [← xA.ints]; exact (cut_some hA).2⟩
theorem rc_maxL {ns : List Int} (h0 : 0 < ns.length) (hk : ∀ m, m ∈ ns → (∀ y, y ∈ ns → y ≤ m) → k (.int m) n) : RC K w (rMaxU K) [.lst (ns.map D.int)] n k := fun S vs H Q r ok p => by
  cases r with
  | cons a b =>
    cases b
    obtain ⟨c, rfl, hc⟩ := lst_ints a
    exact .inr ⟨c, ns, rfl, SqL.of hc, h0, fun m h1 h2 => p _ H _ n (hk m h1 h2) Pres.refl ok (.int _)⟩
theorem rc_minL {ns : List Int} (h0 : 0 < ns.length) (hk : ∀ m, m ∈ ns → (∀ y, y ∈ ns → m ≤ y) → k (.int m) n) : RC K w (rMinU K) [.lst (ns.map D.int)] n k := fun S vs H Q r ok p => by
  cases r with
  | cons a b =>
    cases b
    obtain ⟨c, rfl, hc⟩ := lst_ints a
    exact .inr (.inl ⟨c, ns, rfl, SqL.of hc, h0, fun m h1 h2 => p _ H _ n (hk m h1 h2) Pres.refl ok (.int _)⟩)
theorem rc_sum {ns : List Int} (hk : k (.int ns.sum) n) : RC K w (rSumU K) [.lst (ns.map D.int)] n k := fun S vs H Q r ok p => by
  cases r with
  | cons a b =>
    cases b
    obtain ⟨c, rfl, hc⟩ := lst_ints a
    exact .inl ⟨c, ns, rfl, SqL.of hc, p _ H _ n hk Pres.refl ok (.int _)⟩
theorem rc_sumT {ns : List Int} (hk : k (.int ns.sum) n) : RC K w (rSumU K) [.tup (ns.map D.int)] n k := fun S vs H Q r ok p => by
  cases r with
  | cons a b =>
    cases b
    cases a with
    | tup hT hx => exact .inr ⟨_, ns, rfl, by rw [← Rps.ints hx]; exact Evl.ex_t (cut_ex S H) hT, p _ H _ n hk Pres.refl ok (.int _)⟩
theorem rc_all {bs : List Bool} (hk : k (.bl (bs.all id)) n) : RC K w (rAll K) [.lst (bs.map D.bl)] n k := fun S vs H Q r ok p => by
  cases r with
  | cons a b =>
    cases b
    cases a with
    | lst hA xA => exact ⟨_, bs, rfl, SqL.of (by rw [← xA.bls]; exact (cut_some hA).2), p _ H _ n hk Pres.refl ok (.bl _)⟩
theorem rc_any {bs : List Bool} (hk : k (.bl (bs.any id)) n) : RC K w (rAny K) [.lst (bs.map D.bl)] n k := fun S vs H Q r ok p => by
  cases r with
  | cons a b =>
    cases b
    cases a with
    | lst hA xA => exact ⟨_, bs, rfl, SqL.of (by rw [← xA.bls]; exact (cut_some hA).2), p _ H _ n hk Pres.refl ok (.bl _)⟩
def rAbsU : RCT := fun xs H Q => ∃ i, xs = [.int i] ∧ Q (.int (if i < 0 then -i else i)) H
theorem call_absU {X : Cx} : CallR X (.builtin "abs") rAbsU := call_abs
theorem rc_abs {i : Int} (hk : k (.int (i.natAbs : Int)) n) : RC K w rAbsU [.int i] n k := fun S vs H Q r ok p => by
  cases r with
  | cons a b =>
    cases a; cases b
    refine ⟨i, rfl, ?_⟩
    have e : (if i < 0 then -i else i) = (i.natAbs : Int) := by split <;> omega
    rw [e]; exact p _ H _ n hk Pres.refl ok (.int _)
def rIntU : RCT := fun xs H Q => (∃ i, xs = [.int i] ∧ Q (.int i) H) ∨ ∃ k, xs = [.bl k] ∧ Q (.int (if k then 1 else 0)) H
theorem call_intU {X : Cx} : CallR X (.type "int") rIntU := call_int1
theorem rc_int {i : Int} (hk : k (.int i) n) : RC K w rIntU [.int i] n k := fun S vs H Q r ok p => by
  cases r with
  | cons a b => cases a; cases b; exact .inl ⟨i, rfl, p _ H _ n hk Pres.refl ok (.int _)⟩
theorem rc_intB {i : Bool} (hk : k (.int (if i then 1 else 0)) n) : RC K w rIntU [.bl i] n k := fun S vs H Q r ok p => by
  cases r with
  | cons a b => cases a; cases b; exact .inr ⟨i, rfl, p _ H _ n hk Pres.refl ok (.int _)⟩
def rListU (K : PySem.W.Frag) : RCT := fun xs H Q => (∃ p ys, xs = [.ref p] ∧ (SqL K H p ys ∨ SqT K H p ys) ∧ ∀ l, H l = none → Q (.ref l) (upd H l (.lst ys))) ∨
  ∃ (a : Addr) (kvs : List (Key × V)), xs = [.ref a] ∧ Rd H a (.dK kvs) ∧ ∀ p, H p = none → Q (.ref p) (upd H p (.lst (kvs.map fun kv => kV kv.1)))
theorem call_listU {X : Cx} (hc : X.calm = true) : CallR X (.type "list") (rListU X.K) := call_list_of.or (call_listD hc)
theorem rc_listL {l : List D} (hk : k (.lst l) n) : RC K w (rListU K) [.lst l] n k := fun S vs H Q r ok p => by
  cases r with
  | cons a b =>
    cases b
    cases a with
    | lst hA xA => exact .inl ⟨_, _, rfl, .inl (SqL.of (cut_some hA).2), fun q hq => p _ _ _ n hk (Pres.new hq) (ok.new hq) (.lst (cut_new ok hq) (xA.mono (ex_cut ok (Pres.new hq))))⟩
theorem rc_listT {l : List D} (hk : k (.lst l) n) : RC K w (rListU K) [.tup l] n k := fun S vs H Q r ok p => by
  cases r with
  | cons a b =>
    cases b
    cases a with
    | tup hA xA => exact .inl ⟨_, _, rfl, .inr (Evl.ex_t (cut_ex S H) hA), fun q hq => p _ _ _ n hk (Pres.new hq) (ok.new hq) (.lst (cut_new ok hq) (xA.mono (ex_cut ok (Pres.new hq))))⟩
def kD : Key → D
  | .inl i => .int i
  | .inr x => .str x
theorem rps_keys : ∀ ks : List Key, Rps K H (ks.map kV) (ks.map kD)
  | [] => .nil
  | .inl i :: r => .cons (.int i) (rps_keys r)
  | .inr i :: r => .cons (.str i) (rps_keys r)
theorem rc_listD {ks : List Key} {l : List D} (hk : k (.lst (ks.map kD)) n) : RC K w (rListU K) [.dk ks l] n k := fun S vs H Q r ok p => by
  cases r with
  | cons a b =>
    cases b
    cases a with
    | @dk aa _ xs _ hA hlen xA =>
      have e : ((ks.zip xs).map fun kv => kV kv.1) = ks.map kV := by
        have : ((ks.zip xs).map fun kv => kV kv.1) = ((ks.zip xs).map (·.1)).map kV := by rw [List.map_map]; rfl
        rw [this, List.map_fst_zip (by omega)]
      refine .inr ⟨aa, _, rfl, .inl (cut_some hA).2, fun q hq => ?_⟩
      rw [e]
      exact p _ _ _ n hk (Pres.new hq) (ok.new hq) (.lst (cut_new ok hq) (rps_keys ks))
def rTupU (K : PySem.W.Frag) : RCT := fun xs H Q => ∃ p ys, xs = [.ref p] ∧ ((SqL K H p ys ∧ ∀ l, H l = none → Q (.ref l) (upd H l (.tup ys))) ∨ (SqT K H p ys ∧ Q (.ref p) H))
theorem call_tupU {X : Cx} : CallR X (.type "tuple") (rTupU X.K) := call_tuple_of
theorem rc_tupL {l : List D} (hk : k (.tup l) n) : RC K w (rTupU K) [.lst l] n k := fun S vs H Q r ok p => by
  cases r with
  | cons a b =>
    cases b
    cases a with
    | lst hA xA => exact ⟨_, _, rfl, .inl ⟨SqL.of (cut_some hA).2, fun q hq => p _ _ _ n hk (Pres.new hq) (ok.new hq) (.tup (SqT.of (cut_new ok hq)) (xA.mono (ex_cut ok (Pres.new hq))))⟩⟩
theorem rc_tupT {l : List D} (hk : k (.tup l) n) : RC K w (rTupU K) [.tup l] n k := fun S vs H Q r ok p => by
  cases r with
  | cons a b =>
    cases b
    cases a with
    | tup hA xA => exact ⟨_, _, rfl, .inr ⟨Evl.ex_t (cut_ex S H) hA, p _ H _ n hk Pres.refl ok (.tup hA xA)⟩⟩
theorem rc_sorted {ns : List Int} (hk : ∀ ms : List Int, ms.Perm ns → ms.Pairwise (· ≤ ·) → k (.lst (ms.map D.int)) n) : RC K w (rSortedI K) [.lst (ns.map D.int)] n k := fun S vs H Q r ok p => by
  cases r with
  | cons a b =>
    cases b
    obtain ⟨c, rfl, hc⟩ := lst_ints a
    exact ⟨c, ns, rfl, SqL.of hc, fun ms q h1 h2 hq => p _ _ _ n (hk ms h1 h2) (Pres.new hq) (ok.new hq) (.lst (cut_new ok hq) (Rps.of_ints ms))⟩
/-- dict of a list of pairs -/
def rDictP (K : PySem.W.Frag) : RCT := fun xs H Q => ∃ (a : Addr) (ps : List Addr) (kvs : List (Key × V)), xs = [.ref a] ∧ SqL K H a (ps.map V.ref) ∧ Paired (fun p kv => SqT K H p [kV kv.1, kv.2]) ps kvs ∧ ∀ p, H p = none → Q (.ref p) (upd H p (.dK (mergeK [] kvs)))
theorem call_dictU {X : Cx} (hc : X.calm = true) : CallR X (.type "dict") (rDictP X.K) := call_dictP hc
theorem Rp.int_inv {v : V} {i : Int} (r : Rp K H v (.int i)) : v = .int i := by cases r; rfl
theorem Rp.bl_inv {v : V} {i : Bool} (r : Rp K H v (.bl i)) : v = .bl i := by cases r; rfl
theorem pairs_of {S : Addr → Bool} : ∀ {xs : List V} {is : List (Int × Bool)}, Rps K (cut S H) xs (is.map fun p => D.tup [.int p.1, .bl p.2]) →
    ∃ ps : List Addr, xs = ps.map V.ref ∧ Paired (fun p (kv : Key × V) => SqT K H p [kV kv.1, kv.2]) ps (is.map fun p => ((Sum.inl p.1 : Key), V.bl p.2))
  | _, [], .nil => ⟨[], rfl, .nil⟩
  | _, (i, b) :: r, .cons x y => by
    obtain ⟨ps, rfl, h⟩ := pairs_of (is := r) y
    cases x with
    | @tup aa zs _ hT hx =>
      have e : zs = [.int i, .bl b] := by
        cases hx with
        | cons a1 a2 =>
          cases a2 with
          | cons a3 a4 => cases a4; rw [a1.int_inv, a3.bl_inv]
      subst e
      exact ⟨aa :: ps, rfl, .cons (Evl.ex_t (cut_ex S H) hT) h⟩
def keysOf (is : List (Int × Bool)) : List (Key × V) := mergeK [] (is.map fun p => ((Sum.inl p.1 : Key), V.bl p.2))
theorem rps_raws : ∀ xs : List V, Rps K H xs (xs.map D.raw)
  | [] => .nil
  | x :: r => .cons (.raw x) (rps_raws r)
theorem rc_dict {is : List (Int × Bool)} (hk : k (.dk ((keysOf is).map (·.1)) (((keysOf is).map (·.2)).map D.raw)) n) : RC K w (rDictP K) [.lst (is.map fun p => D.tup [.int p.1, .bl p.2])] n k := fun S vs H Q r ok p => by
  cases r with
  | cons a b =>
    cases b
    cases a with
    | lst hA xA =>
      obtain ⟨ps, rfl, hp⟩ := pairs_of xA
      refine ⟨_, ps, _, rfl, SqL.of (cut_some hA).2, hp, fun q hq => p _ _ _ n hk (Pres.new hq) (ok.new hq) (.dk (xs := (keysOf is).map (·.2)) ?_ (by simp) (rps_raws _))⟩
      have e : ((keysOf is).map (·.1)).zip ((keysOf is).map (·.2)) = keysOf is := by
        induction keysOf is with
        | nil => rfl
        | cons x r ih => simp [ih]
      rw [e]
      exact cut_new ok hq
end
end DW
set_option Elab.async false
set_option maxRecDepth 100000
set_option maxHeartbeats 4000000
set_option linter.all false
set_option autoImplicit false
namespace DW
variable [Tb]
open PySem PySem.Spec PyProof.Rows L2

/-! ### a < b < c < d -/
def tChain3 (r1 r2 r3 : R2) (ta tb tc td : TE) : TE := fun σ H Q => ta σ H fun x H1 => tb σ H1 fun y H2 => r1 x y H2 fun z H3 => ∃ k, z = .bl k ∧
  (if k = true then tc σ H3 fun u H4 => r2 y u H4 fun z' H5 => ∃ k', z' = .bl k' ∧ (if k' = true then td σ H5 fun v H6 => r3 u v H6 Q else Q (.bl false) H5) else Q (.bl false) H3)
section
variable {X : Cx} {a b c d : Expr} {ta tb tc td : TE} {pos : Pos} {o1 o2 o3 : CmpOp} {r1 r2 r3 : R2}
theorem pe_chain3 (h1 : OpR X (compareOp o1) r1) (h2 : OpR X (compareOp o2) r2) (h3 : OpR X (compareOp o3) r3) (ha : PE X a ta) (hb : PE X b tb) (hc : PE X c tc) (hd : PE X d td)
    (hm : lastMarks [o1, o2, o3] [b, c, d] = false := by with_unfolding_all rfl) : PE X (.Compare a [o1, o2, o3] [b, c, d] pos) (tChain3 r1 r2 r3 ta tb tc td) := by
  constructor
  intro pins s σ H Q I h
  apply Compare_chain (hm := hm)
  refine thn (ha.run pins s σ H _ I h) fun v s1 ⟨x, H1, I1, q1, k1⟩ => chain_link ?_
  refine thn (hb.run pins s1 σ H1 _ I1 k1) fun u s2 ⟨y, H2, I2, q2, k2⟩ => ?_
  refine thn (h1 pins s2 σ H2 x y v u _ I2 q1 q2 k2) fun _ s3 ⟨_, H3, I3, q3, k, e, k3⟩ => ?_
  subst e; cases q3
  apply wpAny_truthy_bool
  by_cases e : k = true
  · subst e
    apply ite_tt
    apply chain_link
    refine thn (hc.run pins s3 σ H3 _ I3 k3) fun u' s4 ⟨y', H4, I4, q4, k4⟩ => ?_
    refine thn (h2 pins s4 σ H4 y y' u u' _ I4 q2 q4 k4) fun _ s5 ⟨_, H5, I5, q5, k', e, k5⟩ => ?_
    subst e; cases q5
    apply wpAny_truthy_bool
    by_cases e : k' = true
    · subst e
      apply ite_tt
      apply chain_last
      exact thn (hd.run pins s5 σ H5 _ I5 k5) fun v' s6 ⟨x', H6, I6, q6, k6⟩ => h3 pins s6 σ H6 y' x' u' v' Q I6 q4 q6 k6
    · obtain rfl : k' = false := by simpa using e
      exact ite_ff ⟨.bl false, H5, I5, rfl, k5⟩
  · obtain rfl : k = false := by simpa using e
    exact ite_ff ⟨.bl false, H3, I3, rfl, k3⟩
theorem pt_chain3 (h1 : OpR X (compareOp o1) r1) (h2 : OpR X (compareOp o2) r2) (h3 : OpR X (compareOp o3) r3) (ha : PE X a ta) (hb : PE X b tb) (hc : PE X c tc) (hd : PE X d td)
    (hm : lastMarks [o1, o2, o3] [b, c, d] = false := by with_unfolding_all rfl) : PT X (.Compare a [o1, o2, o3] [b, c, d] pos) (tTest (tChain3 r1 r2 r3 ta tb tc td)) := by
  constructor
  intro pins s σ H Q I h
  apply isTrue_chain (hm := hm)
  refine thn (ha.run pins s σ H _ I h) fun v s1 ⟨x, H1, I1, q1, k1⟩ => test_link ?_
  refine thn (hb.run pins s1 σ H1 _ I1 k1) fun u s2 ⟨y, H2, I2, q2, k2⟩ => ?_
  refine thn (h1 pins s2 σ H2 x y v u _ I2 q1 q2 k2) fun _ s3 ⟨_, H3, I3, q3, k, e, k3⟩ => ?_
  subst e; cases q3
  apply wpAny_truthy_bool
  by_cases e : k = true
  · subst e
    apply ite_tt
    apply test_link
    refine thn (hc.run pins s3 σ H3 _ I3 k3) fun u' s4 ⟨y', H4, I4, q4, k4⟩ => ?_
    refine thn (h2 pins s4 σ H4 y y' u u' _ I4 q2 q4 k4) fun _ s5 ⟨_, H5, I5, q5, k', e, k5⟩ => ?_
    subst e; cases q5
    apply wpAny_truthy_bool
    by_cases e : k' = true
    · subst e
      apply ite_tt
      apply test_last
      refine thn (hd.run pins s5 σ H5 _ I5 k5) fun v' s6 ⟨x', H6, I6, q6, k6⟩ => ?_
      refine thn (h3 pins s6 σ H6 y' x' u' v' _ I6 q4 q6 k6) fun _ s7 ⟨_, H7, I7, q7, k'', e, k7⟩ => ?_
      subst e; cases q7
      exact wpAny_truthy_bool ⟨H7, I7, k7⟩
    · obtain rfl : k' = false := by simpa using e
      obtain ⟨j, ej, k5⟩ := k5
      cases ej
      exact ite_ff ⟨H5, I5, k5⟩
  · obtain rfl : k = false := by simpa using e
    obtain ⟨j, ej, k3⟩ := k3
    cases ej
    exact ite_ff ⟨H3, I3, k3⟩
end
/-! ### f(k = v, ..), keywords alone -/
section
variable {X : Cx} {CX : CXT} {k : Nat} {f : Addr} {fd : FuncData} {ps ks : List Str} {sp : Sp} {E : XK} {x : Str} {kws : List Keyword} {p pos : Pos} {tk : TA} {g : List Value → List Value → List Value} {gV : List V → List V → List V}
theorem pe_callN0 (F : FnOk X.prog X.w X.K X.mg X.base CX k f fd ps sp) (hr : Room k X.A) (hg : Gl X x) (hm : X.mg x = some (.ref f)) (hk : PySem.W.keepIn X.K (.ref f) = true) (hb : KBn X.K fd ps 0 ks g gV) (hx : Passes CX X E) (hkw : PK X kws tk)
    (hall : (backToKw pos (keywordEach kws X.env)).all (·.1.isSome) = true := by rfl) (hks : (backToKw pos (keywordEach kws X.env)).filterMap (·.1) = ks := by rfl) (hdb : (x == ("__debug__" : Str)) = false := by decide)
    (hpl : ((backTo pos (starEach [] X.env)).any (·.1) || (backToKw pos (keywordEach kws X.env)).any (·.1.isNone)) = false := by rfl) :
    PE X (.Call (.Name x p) [] kws pos) (tCallN 0 ks.length sp gV E tNil tk) := by
  constructor
  intro pins s σ H Q I h
  apply wpAny_Call_Name_kw
  apply ld_glob I hg hm _ hdb
  apply PySem.W.callWith_KW0 (h₀ := X.base) I.ok.mod.kin hk hall _ hpl
  refine thn (hkw.run pos pins s σ H _ I h) fun ws s2 ⟨zs, H2, I2, rz, l1, l2, q2⟩ => ?_
  refine ⟨I2.kIn, ?_⟩
  rw [hks]
  exact run_fnN (us := []) (vs := []) F hr hb hx I2 .nil rz rfl l2 q2
end

/-! ### isinstance by data -/
section
variable {K : PySem.W.Frag} {w : Option Addr} {S : Addr → Bool} {H H0 H1 H2 H' : Hp} {n m : Nat} {σ : L2.St} {ds : List (Option D)} {ta tb tc td te : TE} {tA tB : TA} {k : Kn} {d e : D}
def tyD : D → Option String
  | .non => some "NoneType"
  | .bl _ => some "bool"
  | .int _ => some "int"
  | .str _ => some "str"
  | .lst _ => some "list"
  | .tup _ => some "tuple"
  | _ => none
structure ObT (K : PySem.W.Frag) (C : Addr) : Prop where
  cl : Cls K C
  ha : PySem.W.findIn K (.ref C) "__class__" = some (some (.builtin "object.__class__"))
  hn : PySem.W.specialIn K (.builtin "object.__class__") "__get__" = some (some (.builtin "getset_descriptor.__get__"))
  htk : PySem.W.takesIn K (.builtin "object.__class__") = some true
  hm : PySem.W.mroIn K C (.type "object") = some true
theorem rp_ty {v : V} {T : String} (r : Rp K (cut S H) v d) (h : tyD d = some T) : TyX K H v (.type T) := by
  cases r with
  | non => cases h; exact .base .non
  | bl b => cases h; exact .base (.bl b)
  | int b => cases h; exact .base (.int b)
  | str b => cases h; exact .base (.str b)
  | lst hA xA => cases h; exact .base (.lst (cut_some hA).2)
  | tup hT xA =>
    cases h
    rcases Evl.ex_t (cut_ex S H) hT with (z | ⟨o, z⟩) | ⟨o, its, n, z, c, _⟩
    · exact .base (.tup z)
    · exact .fTuple z
    · exact .kTuple z c
  | obj _ _ _ => cases h
  | raw _ => cases h
  | dk _ _ _ => cases h
  | fn _ _ _ => cases h
theorem rp_tyO {v : V} {C : Addr} {ns : List Str} {l : List D} (o : ObT K C) (r : Rp K (cut S H) v (.obj C ns l)) : TyX K H v (.ref C) := by
  cases r with
  | obj hO hl hx => exact .base (.ins (cut_some hO).2 o.cl o.ha o.hn o.htk o.hm)
def rIsiU (K : PySem.W.Frag) : RCT := fun xs H Q => rIsi K xs H Q ∨ rIsiT K xs H Q
theorem call_isiU {X : Cx} : CallR X (.builtin "isinstance") (rIsiU X.K) := call_isi.or call_isiT
theorem isi_go {c : V} {u t : Value} {b : Bool} (hc : ClsV c u) (ht : ∀ (S : Addr → Bool) (H : Hp) (v : V), Rp K (cut S H) v d → TyX K H v t) (hk2 : PySem.W.kitOne K t u = some b) (hk : k (.bl b) n) : RC K w (rIsiU K) [d, .raw c] n k := fun S vs H Q r ok p => by
  cases r with
  | cons a b' =>
    cases b' with
    | cons a' b' => cases b'; cases a'; exact .inl ⟨_, _, t, u, b, rfl, hc, ht S H _ a, hk2, p _ H _ n hk Pres.refl ok (.bl _)⟩
/-- a plain value, a built-in class -/
theorem isi_bb {T U : String} {b : Bool} (h1 : tyD d = some T) (h2 : kitB T U = some b) (hk : k (.bl b) n) : RC K w (rIsiU K) [d, .raw (.ty U)] n k := isi_go (.ty U) (fun S H v r => rp_ty r h1) (kit_ty h2) hk
theorem isi_bo {T : String} {C : Addr} {b : Bool} (h1 : tyD d = some T) (h2 : PySem.W.kitOne K (.type T) (.ref C) = some b) (hk : k (.bl b) n) : RC K w (rIsiU K) [d, .raw (.ref C)] n k := isi_go (.own C) (fun S H v r => rp_ty r h1) h2 hk
theorem isi_ob {C : Addr} {ns : List Str} {l : List D} {U : String} {b : Bool} (o : ObT K C) (h2 : PySem.W.kitOne K (.ref C) (.type U) = some b) (hk : k (.bl b) n) : RC K w (rIsiU K) [.obj C ns l, .raw (.ty U)] n k := isi_go (.ty U) (fun S H v r => rp_tyO o r) h2 hk
theorem isi_oo {C C' : Addr} {ns : List Str} {l : List D} {b : Bool} (o : ObT K C) (h2 : PySem.W.kitOne K (.ref C) (.ref C') = some b) (hk : k (.bl b) n) : RC K w (rIsiU K) [.obj C ns l, .raw (.ref C')] n k := isi_go (.own C') (fun S H v r => rp_tyO o r) h2 hk
theorem tup2_inv {H : Hp} {v : V} {a b : V} (r : Rp K (cut S H) v (.tup [.raw a, .raw b])) : ∃ p, v = .ref p ∧ SqT K H p [a, b] := by
  cases r with
  | @tup p xs _ hT hx =>
    cases hx with
    | cons h1 h2 =>
      cases h2 with
      | cons h3 h4 => cases h4; cases h1; cases h3; exact ⟨p, rfl, Evl.ex_t (cut_ex S H) hT⟩
/-- isinstance(x, (A, B)), the pair written there: its reading -/
def tIsi2 (K : PySem.W.Frag) (te : TE) (a b : V) : TE := tCB (rIsiT K) (tCons te (tCons (tTup (tCons (tC a) (tCons (tC b) tNil))) tNil))
theorem e_isi2 {t : D → Value} {u1 u2 : Value} {a b : V} (h1 : ClsV a u1) (h2 : ClsV b u2)
    (h : WpE K w te ds n fun d n1 => ∃ t r, (∀ (S : Addr → Bool) (H : Hp) (v : V), Rp K (cut S H) v d → TyX K H v t) ∧ PySem.W.kitAny K t [u1, u2] = some r ∧ k (.bl r) n1) : WpE K w (tIsi2 K te a b) ds n k := fun S H0 σ H Q re ok p =>
  h S H0 σ H _ re ok fun v H1 d n1 ⟨t, r, ht, hr, hk⟩ p1 ok1 r1 => by
    refine ⟨by show 2 ≤ sizeLine; decide, fun q hq => ?_⟩
    have ex := ex_cut ok1 (Pres.new (w := w) (o := .tup [a, b]) hq)
    exact ⟨v, q, [a, b], t, [u1, u2], r, rfl, upd_same, .cons h1 (.cons h2 .nil), ht S _ v (r1.mono ex), hr, p _ _ _ n1 hk (p1.trans (Pres.new hq)) (ok1.new hq) (.bl r)⟩
/-! ### deep == -/
mutual
def toPy : D → PyData
  | .non => .none
  | .bl b => .bool b
  | .int i => .int i
  | .str x => .str x
  | .lst l => .list (toPys l)
  | .tup l => .tuple (toPys l)
  | .obj _ _ _ => .none
  | .raw _ => .none
  | .own _ => .none
  | .dk _ _ => .none
  | .fn _ _ _ => .none
def toPys : List D → List PyData
  | [] => []
  | d :: r => toPy d :: toPys r
end
mutual
def pureD : D → Bool
  | .non => true
  | .bl _ => true
  | .int _ => true
  | .str _ => true
  | .lst l => pureDs l
  | .tup l => pureDs l
  | .obj _ _ _ => false
  | .raw _ => false
  | .own _ => false
  | .dk _ _ => false
  | .fn _ _ _ => false
def pureDs : List D → Bool
  | [] => true
  | d :: r => pureD d && pureDs r
end
mutual
theorem Rp.dp : ∀ {v : V} {d : D}, Rp K (cut S H) v d → pureD d = true → Dp K H v (toPy d)
  | _, _, .non, _ => by unfold toPy; exact .non
  | _, _, .bl b, _ => by unfold toPy; exact .bl b
  | _, _, .int b, _ => by unfold toPy; exact .int b
  | _, _, .str b, _ => by unfold toPy; exact .str b
  | _, _, .lst hA xA, h => by
    unfold toPy
    unfold pureD at h
    exact .lst (SqL.of (cut_some hA).2) (Rps.dp xA h)
  | _, _, .tup hT xA, h => by
    unfold toPy
    unfold pureD at h
    exact .tup (Evl.ex_t (cut_ex S H) hT) (Rps.dp xA h)
  | _, _, .obj _ _ _, h => by unfold pureD at h; cases h
  | _, _, .raw _, h => by unfold pureD at h; cases h
  | _, _, .dk _ _ _, h => by unfold pureD at h; cases h
  | _, _, .fn _ _ _, h => by unfold pureD at h; cases h
theorem Rps.dp : ∀ {vs : List V} {l : List D}, Rps K (cut S H) vs l → pureDs l = true → DpAll K H vs (toPys l)
  | _, _, .nil, _ => by unfold toPys; exact .nil
  | _, _, .cons a b, h => by
    unfold pureDs at h
    rw [Bool.and_eq_true] at h
    unfold toPys
    exact .cons (Rp.dp a h.1) (Rps.dp b h.2)
end
theorem rd_eqD (h1 : pureD d = true) (h2 : pureD e = true) (s1 : SeqAt.shaped (toPy d) = true) (s2 : SeqAt.shaped (toPy e) = true) (hk : k (.bl (PyData.eqv (toPy d) (toPy e))) n) : RD K w (rEqU K) d e n k := fun S v u H Q a b ok p =>
  .inr (.inl ⟨_, _, a.dp h1, b.dp h2, s1, s2, p _ H _ n hk Pres.refl ok (.bl _)⟩)
theorem rd_neD (h1 : pureD d = true) (h2 : pureD e = true) (s1 : SeqAt.shaped (toPy d) = true) (s2 : SeqAt.shaped (toPy e) = true) (hk : k (.bl (!PyData.eqv (toPy d) (toPy e))) n) : RD K w (rNeU K) d e n k := fun S v u H Q a b ok p =>
  .inr (.inl ⟨_, _, a.dp h1, b.dp h2, s1, s2, p _ H _ n hk Pres.refl ok (.bl _)⟩)
/-- a list beside an empty one -/
theorem rps_isEmpty {H : Hp} : ∀ {xs : List V} {l : List D}, Rps K H xs l → xs.isEmpty = l.isEmpty
  | _, _, .nil => rfl
  | _, _, .cons _ _ => rfl
theorem rd_eqE {l : List D} (hk : k (.bl l.isEmpty) n) : RD K w (rEqU K) (.lst l) (.lst []) n k := fun S v u H Q a b ok p => by
  cases a with
  | lst hL hx =>
    cases b with
    | lst hM hy =>
      cases hy
      refine .inr (.inr ⟨_, _, _, rfl, rfl, SqL.of (cut_some hL).2, SqL.of (cut_some hM).2, ?_⟩)
      rw [rps_isEmpty hx]
      exact p _ H _ n hk Pres.refl ok (.bl _)
theorem rd_neE {l : List D} (hk : k (.bl (!l.isEmpty)) n) : RD K w (rNeU K) (.lst l) (.lst []) n k := fun S v u H Q a b ok p => by
  cases a with
  | lst hL hx =>
    cases b with
    | lst hM hy =>
      cases hy
      refine .inr (.inr ⟨_, _, _, rfl, rfl, SqL.of (cut_some hL).2, SqL.of (cut_some hM).2, ?_⟩)
      rw [rps_isEmpty hx]
      exact p _ H _ n hk Pres.refl ok (.bl _)
/-! ### repr of lists and tuples -/
def rReprU (K : PySem.W.Frag) : RCT := fun xs H Q => ∃ (a : Addr) (d : PyData), xs = [.ref a] ∧ Dp K H (.ref a) d ∧ d.showable = true ∧ d.hasDict = false ∧ d.depth ≤ 60 ∧ d.shown.length ≤ sizeLine ∧ Q (.str d.shown) H
theorem call_reprU {X : Cx} (hg : X.A.guards = some []) (hu : X.A.units + 64 < cLine) : CallR X (.builtin "repr") (rReprU X.K) := by
  intro pins s σ H xs us Q I r h
  obtain ⟨a, d, rfl, hd, h1, h2, h3, h4, q⟩ := h
  cases r with
  | cons ra rb =>
    cases rb
    have ea := ra
    cases ra
    obtain ⟨as, hr⟩ := Dp.reads I d (.ref a) _ hd ea
    refine repr_of_reads' hr h1 (fun z => ?_) hg (by omega) (fun _ _ z => z) (fun h' u tk hk => ?_) h4
    · rw [h2] at z; cases z
    · exact ⟨.str d.shown, H, I.kept (t' := tk) hk, ⟨_, rfl⟩, q⟩
theorem rc_reprL {l : List D} (h1 : pureDs l = true) (h2 : (toPy (.lst l)).showable = true) (h3 : (toPy (.lst l)).hasDict = false) (h4 : (toPy (.lst l)).depth ≤ 60) (h5 : (toPy (.lst l)).shown.length ≤ sizeLine) (hk : k (.str (toPy (.lst l)).shown) n) :
    RC K w (rReprU K) [.lst l] n k := fun S vs H Q r ok p => by
  cases r with
  | cons a b =>
    cases b
    have hd := a.dp (by unfold pureD; exact h1)
    cases a
    exact ⟨_, _, rfl, hd, h2, h3, h4, h5, p _ H _ n hk Pres.refl ok (.str _)⟩
/-! ### chains of comparisons by data -/
theorem e_chain {r r' : R2} (h : WpE K w ta ds n fun d1 n1 => WpE K w tb ds n1 fun d2 n2 => RD K w r d1 d2 n2 fun z n3 => ∃ b, z = .bl b ∧
      (b = true → WpE K w tc ds n3 fun d3 n4 => RD K w r' d2 d3 n4 k) ∧ (b = false → k (.bl false) n3)) : WpE K w (tChain r r' ta tb tc) ds n k := fun S H0 σ H Q re ok p =>
  h S H0 σ H _ re ok fun v H1 d1 n1 h1 p1 ok1 r1 => h1 S H0 σ H1 _ (re.up ok p1) ok1 fun u H2 d2 n2 h2 p2 ok2 r2 => by
    have re2 := (re.up ok p1).up ok1 p2
    refine h2 S v u H2 _ (r1.mono (ex_cut ok1 p2)) r2 ok2 fun z H3 dz n3 ⟨b, e, hb1, hb2⟩ p3 ok3 r3 => ?_
    subst e
    cases r3
    refine ⟨b, rfl, ?_⟩
    cases b with
    | false => exact p _ H3 _ n3 (hb2 rfl) ((p1.trans p2).trans p3) ok3 (.bl false)
    | true =>
      refine hb1 rfl S H0 σ H3 _ (re2.up ok2 p3) ok3 fun y H4 d3 n4 h4 p4 ok4 r4 => ?_
      exact h4 S u y H4 Q (r2.mono ((ex_cut ok2 p3).trans (ex_cut ok3 p4))) r4 ok4 (p.from (((p1.trans p2).trans p3).trans p4))
theorem e_chain3 {r r' r'' : R2} (h : WpE K w ta ds n fun d1 n1 => WpE K w tb ds n1 fun d2 n2 => RD K w r d1 d2 n2 fun z n3 => ∃ b, z = .bl b ∧
      (b = true → WpE K w tc ds n3 fun d3 n4 => RD K w r' d2 d3 n4 fun z' n5 => ∃ b', z' = .bl b' ∧ (b' = true → WpE K w td ds n5 fun d4 n6 => RD K w r'' d3 d4 n6 k) ∧ (b' = false → k (.bl false) n5)) ∧ (b = false → k (.bl false) n3)) :
    WpE K w (tChain3 r r' r'' ta tb tc td) ds n k := fun S H0 σ H Q re ok p =>
  h S H0 σ H _ re ok fun v H1 d1 n1 h1 p1 ok1 r1 => h1 S H0 σ H1 _ (re.up ok p1) ok1 fun u H2 d2 n2 h2 p2 ok2 r2 => by
    have re2 := (re.up ok p1).up ok1 p2
    refine h2 S v u H2 _ (r1.mono (ex_cut ok1 p2)) r2 ok2 fun z H3 dz n3 ⟨b, e, hb1, hb2⟩ p3 ok3 r3 => ?_
    subst e
    cases r3
    refine ⟨b, rfl, ?_⟩
    have p123 := (p1.trans p2).trans p3
    cases b with
    | false => exact p _ H3 _ n3 (hb2 rfl) p123 ok3 (.bl false)
    | true =>
      refine hb1 rfl S H0 σ H3 _ (re2.up ok2 p3) ok3 fun y H4 d3 n4 h4 p4 ok4 r4 => ?_
      refine h4 S u y H4 _ (r2.mono ((ex_cut ok2 p3).trans (ex_cut ok3 p4))) r4 ok4 fun z' H5 dz' n5 ⟨b', e', hc1, hc2⟩ p5 ok5 r5 => ?_
      subst e'
      cases r5
      refine ⟨b', rfl, ?_⟩
      cases b' with
      | false => exact p _ H5 _ n5 (hc2 rfl) ((p123.trans p4).trans p5) ok5 (.bl false)
      | true =>
        refine hc1 rfl S H0 σ H5 _ (((re2.up ok2 p3).up ok3 p4).up ok4 p5) ok5 fun y' H6 d4 n6 h6 p6 ok6 r6 => ?_
        exact h6 S y y' H6 Q (r4.mono ((ex_cut ok4 p5).trans (ex_cut ok5 p6))) r6 ok6 (p.from (((p123.trans p4).trans p5).trans p6))
/-! ### in, not in, over flat values -/
def flatD : D → Bool
  | .non => true
  | .bl _ => true
  | .int _ => true
  | .str _ => true
  | _ => false
def vD : D → V
  | .non => .non
  | .bl b => .bl b
  | .int i => .int i
  | .str x => .str x
  | _ => .non
theorem rp_flat {v : V} (r : Rp K H v d) (h : flatD d = true) : v = vD d ∧ flatV v = true := by cases r <;> first | exact ⟨rfl, rfl⟩ | cases h
theorem rps_flat : ∀ {vs : List V} {l : List D}, Rps K H vs l → l.all flatD = true → vs = l.map vD ∧ vs.all flatV = true
  | _, _, .nil, _ => ⟨rfl, rfl⟩
  | _, _, .cons a b, h => by
    rw [List.all_cons, Bool.and_eq_true] at h
    obtain ⟨e1, f1⟩ := rp_flat a h.1
    obtain ⟨e2, f2⟩ := rps_flat b h.2
    exact ⟨by rw [e1, e2]; rfl, by rw [List.all_cons, f1, f2]; rfl⟩
theorem rd_inL {l : List D} {neg : Bool} (h1 : flatD d = true) (h2 : l.all flatD = true) (hk : k (.bl (if neg then !inV (vD d) (l.map vD) else inV (vD d) (l.map vD))) n) : RD K w (rIn K neg) d (.lst l) n k := fun S v u H Q a b ok p => by
  obtain ⟨e1, f1⟩ := rp_flat a h1
  cases b with
  | lst hA xA =>
    obtain ⟨e2, f2⟩ := rps_flat xA h2
    exact ⟨_, _, rfl, .inl (SqL.of (cut_some hA).2), f1, f2, by rw [e1, e2]; exact p _ H _ n hk Pres.refl ok (.bl _)⟩
theorem rd_inT {l : List D} {neg : Bool} (h1 : flatD d = true) (h2 : l.all flatD = true) (hk : k (.bl (if neg then !inV (vD d) (l.map vD) else inV (vD d) (l.map vD))) n) : RD K w (rIn K neg) d (.tup l) n k := fun S v u H Q a b ok p => by
  obtain ⟨e1, f1⟩ := rp_flat a h1
  cases b with
  | tup hA xA =>
    obtain ⟨e2, f2⟩ := rps_flat xA h2
    exact ⟨_, _, rfl, .inr (Evl.ex_t (cut_ex S H) hA), f1, f2, by rw [e1, e2]; exact p _ H _ n hk Pres.refl ok (.bl _)⟩
/-! ### truth of any value -/
def tTruU (K : PySem.W.Frag) (ta : TE) : TT := fun σ H Q => ta σ H fun x H' => ∃ k, TruV K x H' k ∧ Q k H'
/-! ### list(range(..)) -/
theorem e_lstRg1 (h : WpE K w ta ds n fun d n1 => ∃ j : Int, d = .int j ∧ (-(2 ^ 62) ≤ j ∧ j ≤ 100000) ∧ k (.lst (rgD 0 j.toNat)) n1) : WpE K w (tLstRg (tRg1 ta)) ds n k := fun S H0 σ H Q re ok p =>
  h S H0 σ H _ re ok fun v H1 d n1 ⟨j, e, hj, hk⟩ p1 ok1 r1 => by
    subst e
    cases r1
    refine ⟨j, rfl, ⟨by omega, by omega, hj.1, by omega, by omega⟩, fun q hq => p _ _ _ n1 hk (p1.trans (Pres.new hq)) (ok1.new hq) (.lst (xs := rgV 0 j) (cut_new ok1 hq) ?_)⟩
    have e : rgV 0 j = ((List.range j.toNat).map fun i => (0 : Int) + (i : Nat)).map V.int := by unfold rgV; rw [List.map_map, Int.sub_zero]; rfl
    have e' : rgD 0 j.toNat = ((List.range j.toNat).map fun i => (0 : Int) + (i : Nat)).map D.int := by unfold rgD; rw [List.map_map]; rfl
    rw [e, e']; exact Rps.of_ints _
theorem e_lstRg2 (h : WpE K w ta ds n fun d n1 => WpE K w tb ds n1 fun d' n2 => ∃ i j : Int, d = .int i ∧ d' = .int j ∧ (-(2 ^ 61) ≤ i ∧ i < 2 ^ 61 ∧ -(2 ^ 61) ≤ j ∧ j ≤ i + 100000) ∧ k (.lst (rgD i (j - i).toNat)) n2) : WpE K w (tLstRg (tRg2 ta tb)) ds n k := fun S H0 σ H Q re ok p =>
  h S H0 σ H _ re ok fun v H1 d n1 h1 p1 ok1 r1 => h1 S H0 σ H1 _ (re.up ok p1) ok1 fun u H2 d' n2 ⟨i, j, e, e', hj, hk⟩ p2 ok2 r2 => by
    subst e e'
    cases r1; cases r2
    refine ⟨i, j, rfl, rfl, ⟨by omega, by omega, by omega, by omega, by omega⟩, fun q hq => p _ _ _ n2 hk ((p1.trans p2).trans (Pres.new hq)) (ok2.new hq) (.lst (xs := rgV i j) (cut_new ok2 hq) ?_)⟩
    have e : rgV i j = ((List.range (j - i).toNat).map fun m => i + (m : Nat)).map V.int := by unfold rgV; rw [List.map_map]; rfl
    have e' : rgD i (j - i).toNat = ((List.range (j - i).toNat).map fun m => i + (m : Nat)).map D.int := by unfold rgD; rw [List.map_map]; rfl
    rw [e, e']; exact Rps.of_ints _
end
end DW
set_option Elab.async false
set_option maxRecDepth 100000
set_option maxHeartbeats 4000000
set_option linter.all false
set_option autoImplicit false
/-! super().__init__(..) of a class of the text -/
namespace DW
variable [Tb]
open PySem PySem.Spec PyProof.Rows L2 NdefX

/-- super().m within a method of D, for an instance of C: the def at f2 -/
structure SupAt (K : PySem.W.Frag) (D C f2 : Addr) (m : Str) : Prop where
  sub : PySem.W.mroIn K C (.ref D) = some true
  at_ : PySem.W.ks_superIn K C D m = some (some (.ref f2))
/-- what of the text a def with super() must have -/
structure SupFn (K : PySem.W.Frag) (P : Program) (D cc cda f2 : Addr) : Prop where
  dc : ∃ cd, PySem.W.clsIn K D = some cd
  code : ∃ ccl cdd vs ccs file tf, K.lookup cda = some ⟨ccl, cdd, .fields vs, ccs⟩ ∧ vs[2]? = some (.str file tf) ∧ ((P.main.file : Str) == file) = true
  cell : ∃ cl cld csl, K.lookup cc = some ⟨cl, cld, .cell (some (.ref D)), csl⟩
  op : PySem.W.nsIn K cStatics "thirdparty.any" = some none
  ty : PySem.W.typeIn K (.ref f2) = some (.type "function")
  fi : PySem.W.fnIn K f2 = true
  top : (P.main.scope.names.lookup ("super" : Str)).isSome = false
section
variable {X : Cx} {pins : List (Addr × Obj)} {σ : L2.St} {H : Hp} {s : Shared}
/-- the record of a bound method, laid -/
theorem bound_new {g x : Addr} (I : Inv X pins σ H s) : Inv X ((s.heap.objs.size, PySem.W.methodObj (.ref g) (.ref x)) :: pins) σ H { s with heap := s.heap.push (PySem.W.methodObj (.ref g) (.ref x)), toks := s.toks + 1 } :=
  ClX.pin_new I (fun _ _ z => Heap.get?_push_of_some _ z) (Nat.le_refl _) (Heap.get?_push_size s.heap rfl) (fun v z => nomatch z)
theorem super_stmt {CX : CXT} {k : Nat} {sp : Sp} {E : XK} {D C f f2 cc cda x dx : Addr} {q : Str} {scope : Scope} {L : Addr} {body : List Stmt} {p0 p1 apos pos pos2 : Pos} {m : Str} {e : Expr} {es : List Expr} {t : TA} {oc : Value} {od : Option Addr} {osl : Array (Option Value)} {fd : FuncData} {ar : Arg} {fs : List (Str × V)} {Q : Hp → Prop} {pl : Sem Bool}
    (he : X.env = PySem.W.ksEnv q scope L f (.ref cda) cc) (S : SupFn X.K X.prog D cc cda f2) (A : SupAt X.K D C f2 m) (hf : X.K.lookup f = some ⟨oc, od, .func fd, osl⟩) (hp : (fd.params.posonlyargs ++ fd.params.args).head? = some ar)
    (hself : X.N[0]? = some ar.arg) (hx0 : σ[0]? = some (some (.ref x))) (hH : H x = some (.ins C dx fs)) (hm : X.mg "super" = none)
    (hks : scope.names.lookup ("super" : Str) = some .globalImplicit) (hkc : scope.names.lookup ("__class__" : Str) = some .free) (hka : scope.names.lookup ar.arg = some .local)
    (F : FnR X.prog X.w X.K X.mg X.base CX k f2 sp) (hr : Room k X.A) (hps : Passes CX X E) (ha : PA X (e :: es) t) (I : Inv X pins σ H s) (h : t σ H fun ws H1 => sp (.ref x :: ws) H1 (fun _ H2 => Q H2) E)
    (hn : (m == ("__class__" : Str)) = false := by decide)
    (hst : starEach (e :: es) X.env = (false, eval e X.env) :: starEach es X.env := by rfl) (hpl : (backTo pos (starEach es X.env)).any (·.1) = false := by rfl)
    (hev : eval (.Call (.Attribute (.Call (.Name "super" p0) [] [] p1) m apos) (e :: es) [] pos) X.env = (do
      let ov ← attributeBase (.Call (.Name "super" p0) [] [] p1) m X.env (eval (.Call (.Name "super" p0) [] [] p1) X.env)
      standAt apos.atName
      let (f, first) ← holding [ov] (getMethod ov m pl)
      callWith pos f first (backTo pos (starEach (e :: es) X.env)) []) := by rfl) :
    _root_.PySem.wpAt (model X.prog X.w) X.A (.func body X.env) (exec (.Expr (.Call (.Attribute (.Call (.Name "super" p0) [] [] p1) m apos) (e :: es) [] pos) pos2) X.env)
      (fun fl s' => fl = .next ∧ ∃ H', Inv X pins σ H' s' ∧ Q H') X.xe s := by
  obtain ⟨cdD, hD⟩ := S.dc
  obtain ⟨ccl, cdd, vs, ccs, file, tf, hcode, hvs, hfile⟩ := S.code
  obtain ⟨cl, cld, csl, hcell⟩ := S.cell
  obtain ⟨mA, O, -⟩ := ins_get I.hok hH
  obtain ⟨od', J, -⟩ := O.look
  have KX := I.kIn
  obtain ⟨oD, hD1, hD2⟩ : ∃ oD, s.heap.get? D = some oD ∧ oD.data = .cls cdD := by
    unfold PySem.W.clsIn at hD
    split at hD
    · rename_i c d cd' sl ho
      cases hD
      exact ⟨_, KX _ _ ho, rfl⟩
    · cases hD
  obtain ⟨cdC, hC⟩ : ∃ cdC, PySem.W.clsIn X.K C = some cdC := by
    have a := A.at_
    unfold PySem.W.ks_superIn at a
    cases z : PySem.W.clsIn X.K C with
    | none => rw [z] at a; cases a
    | some cd => exact ⟨cd, rfl⟩
  have hal := A.at_
  unfold PySem.W.ks_superIn at hal
  rw [hC] at hal
  obtain ⟨of, hof, hofc⟩ : ∃ of, X.K.lookup f2 = some of ∧ of.cls = .type "function" := by
    have ht' : (X.K.lookup f2).map (·.cls) = some (.type "function") := S.ty
    cases z : X.K.lookup f2 with
    | none => rw [z] at ht'; cases ht'
    | some of => rw [z] at ht'; exact ⟨of, rfl, Option.some.inj ht'⟩
  obtain ⟨mb, hb1, hb2⟩ := I.mod.blt
  have hk : X.env.scope.kind = .function := I.ok.kind
  have kS : X.env.kindOf "super" = some .globalImplicit := by rw [he]; exact hks
  have kC : X.env.kindOf "__class__" = some .free := by rw [he]; exact hkc
  have kA : X.env.kindOf ar.arg = some .local := by rw [he]; exact hka
  have xC : x ≠ C := PySem.W.ks_ne KX J hC
  refine ks_wpAt_Expr_any ?_ (by unfold interactive; simp [hk]) (by rfl)
  refine ks_wpAt_MethodCall (pl := pl) ?_ hev
  refine ks_wpAt_super_base kS kC hn (f := f) (by rw [he]) (KX _ _ hf) rfl hp (cc := cda) (by rw [he]) (KX _ _ hcode) rfl hvs hfile S.top ?_
  refine PySem.W.ks_loadName_global hk kS (Calls.loadGlobal_builtin (by rw [I.ok.glob]; exact I.mod.glob.keeps I.bk) hm (by rw [I.ok.blt]; exact hb1.keeps I.bk) ((hb2 "super" (by decide)).trans (show bootBuiltins "super" = some (.type "super") from by rfl)) ⟨rfl, ?_⟩)
  refine wpAny_loadName_free hk kC (c := cc) (by rw [he]; rfl) ⟨_, KX _ _ hcell, rfl⟩ ?_
  obtain ⟨mm, hns, hlk⟩ := I.loc
  obtain ⟨u, ru, hl⟩ := hlk 0 ar.arg (.ref x) hself hx0 (.inl (by rw [he]; exact hka))
  obtain rfl : u = Value.ref x := ru
  have hv : mm ar.arg = some (.ref x) := by
    rcases hl with ⟨_, z⟩ | ⟨z, _⟩
    · exact z
    · rw [kA] at z
      rcases z with z | z <;> cases z
  refine wpAny_loadName_local hk kA hns hv ?_
  refine ks_wpAny_isType_cls hD1 hD2 ⟨rfl, ?_⟩
  refine ks_wpAny_call_super hD1 hD2 J.at_ J.cls (fun c z => ?_) (PySem.W.looks_mroIn KX A.sub) (fun h' e0 kp => ?_)
  · have := J.no
    unfold PySem.W.notCls at this
    rw [z] at this
    exact Bool.noConfusion this
  have I1 : Inv X pins σ H { s with heap := h', toks := s.toks } := I.kept kp
  have KX1 := I1.kIn
  refine ks_wpAny_getMethod_super (l₀ := cdC.mro) e0 (PySem.W.looks_opaque KX1 S.op) ?_ rfl KX1 hal (KX1 _ _ hof) hofc xC hn ?_
  · exact fun A Q E s k q => wpAny_bind ((PySem.W.looks_clsIn KX1 hC) A _ E s k (wpAny_pure q))
  have I2 := bound_new (g := f2) (x := x) I1
  refine ClX.callwith_cm (C := x) (g := f2) I2 (ClX.base_none I1 (Nat.le_refl _)) S.fi ?_ hst hpl
  refine thn (ha.run pos _ _ σ H _ I2 h) fun us s3 ⟨ws, H1, I3, rv, q3⟩ => ?_
  have hq := ClX.pin_at I3
  refine ⟨⟨hq, I3.kIn⟩, ?_⟩
  refine thn (ClX.run_cm (C := x) (g := f2) F hr hps I3 rv q3) fun v s4 ⟨v', H4, I4, rv4, q4⟩ => ?_
  exact ⟨rfl, H4, I4, q4⟩
end
/-! ### a def whose first statement is super().m(..) -/
section
variable {CX : CXT} {P : Program} {w : World} {K : PySem.W.Frag} {mg : Str → Option Value} {base : Heap} {k k2 : Nat} {f D cc cda f2 : Addr} {name qual : Str} {params : Arguments} {scope : Scope} {dV kV doc pm ct oc : Value} {an od : Option Addr}
  {osl : Array (Option Value)} {N ps : List Str} {sp sp2 : Sp} {p0 p1 apos pos pos2 : Pos} {m : Str} {e : Expr} {es : List Expr} {rest : List Stmt} {ar : Arg}
abbrev supF (name qual : Str) (params : Arguments) (body : List Stmt) (scope : Scope) (cc cda : Addr) : NF := ⟨name, qual, params, body, scope, [("__class__", cc)], cda⟩
abbrev supS (p0 p1 apos pos pos2 : Pos) (m : Str) (e : Expr) (es : List Expr) : Stmt := .Expr (.Call (.Attribute (.Call (.Name "super" p0) [] [] p1) m apos) (e :: es) [] pos) pos2
theorem fn_super (lk : K.lookup f = some ⟨oc, od, .func (PySem.W.fnX name qual params (supS p0 p1 apos pos pos2 m e es :: rest) scope [("__class__", cc)] dV kV doc pm an (.ref cda) ct), osl⟩) (hcd : PySem.W.codeIn K (.ref cda) qual = true) (S : NScope N ps ["__class__"] scope) (hp0 : ps ≠ [])
    (Sf : SupFn K P D cc cda f2) (F2 : FnR P w K mg base CX k2 f2 sp2) (hk2 : k2 ≤ k) (hm : mg "super" = none) (hp : (params.posonlyargs ++ params.args).head? = some ar) (ha0 : ps[0]? = some ar.arg)
    (hks : scope.names.lookup ("super" : Str) = some .globalImplicit) (len : ∀ vs H Q E, sp vs H Q E → vs.length = ps.length) (hn : (m == ("__class__" : Str)) = false)
    (hst : ∀ env : Env, starEach (e :: es) env = (false, eval e env) :: starEach es env) (hpl : ∀ env : Env, (backTo pos (starEach es env)).any (·.1) = false) (pl : Sem Bool)
    (hev : ∀ env : Env, eval (.Call (.Attribute (.Call (.Name "super" p0) [] [] p1) m apos) (e :: es) [] pos) env = (do
      let ov ← attributeBase (.Call (.Name "super" p0) [] [] p1) m env (eval (.Call (.Name "super" p0) [] [] p1) env)
      standAt apos.atName
      let (f, first) ← holding [ov] (getMethod ov m pl)
      callWith pos f first (backTo pos (starEach (e :: es) env)) []))
    (hbody : ∀ (A : Around) (outer : List Env) (s : Shared) (H : Hp) (vs : List V) (Q : VK) (E : XK), Room k (A.deeper (envF (supF name qual params (supS p0 p1 apos pos pos2 m e es :: rest) scope cc cda) f s.heap.objs.size)) → sp vs H Q E →
      ∃ x C dx fs E2 ta t, vs.head? = some (.ref x) ∧ H x = some (.ins C dx fs) ∧ SupAt K D C f2 m ∧
        Passes CX (ncx CX P w K mg base N (supF name qual params (supS p0 p1 apos pos pos2 m e es :: rest) scope cc cda) f A outer s H E) E2 ∧
        PA (ncx CX P w K mg base N (supF name qual params (supS p0 p1 apos pos pos2 m e es :: rest) scope cc cda) f A outer s H E) (e :: es) ta ∧
        PSs (ncx CX P w K mg base N (supF name qual params (supS p0 p1 apos pos pos2 m e es :: rest) scope cc cda) f A outer s H E) rest t ∧
        ta (startF N vs [some (.ref D)]) H (fun ws H1 => sp2 (.ref x :: ws) H1 (fun _ H2 => t { nx := fun _ H' => Q .non H', rt := Q } (startF N vs [some (.ref D)]) H2) E2)) :
    FnOk P w K mg base CX (k + 1) f (PySem.W.fnX name qual params (supS p0 p1 apos pos pos2 m e es :: rest) scope [("__class__", cc)] dV kV doc pm an (.ref cda) ct) ps sp := by
  refine ⟨len, fun A outer s H args us vs Q E hr e0 hb r hsp => ?_⟩
  have hl := len _ _ _ _ hsp
  have KX : K.In s.heap := e0.mod.kin.keeps fun b o e => (e0.bs b o e).1
  have lim : s.heap.NoLimit := e0.mod.nolimit.keeps fun b o e => (e0.bs b o e).1
  obtain ⟨cl, cld, csl, hcell⟩ := Sf.cell
  have hccb := e0.mod.kin _ _ hcell
  have hcc := e0.bs _ _ hccb
  refine codeAny_call_function hr.depth (KX _ _ lk) rfl S.co S.gen rfl (PySem.W.codeRec_of KX hcd) (hb _ _ _ _ ?_)
  refine wpAny_newFunctionEnv S.nocell (fun ⟨n, _⟩ hy => S.par n (List.of_mem_zip hy).1) (fun h₁ hns hsb => ⟨lim.fresh _ hsb, ?_⟩) S.kind
  have kp : ∀ b o, s.heap.get? b = some o → h₁.get? b = some o := fun b o e => hsb.extBut b o (Nat.ne_of_lt (Heap.lt_size e)) (Heap.get?_push_of_some _ e)
  have C : CellsAt [("__class__", cc)] ["__class__"] [some (.ref D)] s.heap H := by
    refine ⟨rfl, fun y c z => ?_, fun x y c z1 z2 => ?_, fun i y hi => ?_⟩
    · rw [List.lookup_cons] at z
      split at z
      · cases z; exact ⟨hcc.2, _, _, hcc.1, rfl⟩
      · cases z
    · rw [List.lookup_cons] at z1 z2
      split at z1
      · rename_i q1
        split at z2
        · rename_i q2
          rw [beq_iff_eq.mp q1, beq_iff_eq.mp q2]
        · cases z2
      · cases z1
    · cases i with
      | zero =>
        simp at hi
        subst hi
        refine ⟨cc, by simp [List.lookup_cons], fun v hv => ?_⟩
        simp at hv
        subst hv
        exact ⟨.ref D, rfl, _, hcc.1, rfl⟩
      | succ i => simp at hi
  obtain ⟨x, C0, dx, fs, E2, ta, t, hx0, hxH, hA, hps, hta, ht, hq⟩ := hbody A outer s H vs Q E (hr.deeper _) hsp
  have I : Inv (ncx CX P w K mg base N (supF name qual params (supS p0 p1 apos pos pos2 m e es :: rest) scope cc cda) f A outer s H E) [] (startF N vs [some (.ref D)]) H { s with heap := h₁, toks := s.toks + (ps.zip us).length } := inv_startN S hr.hd e0 hl r C hns kp
  have h0N : N[0]? = some ar.arg := by
    have z := congrArg (fun l => l[0]?) S.pre
    have hpl' : 0 < ps.length := List.length_pos_iff.mpr hp0
    rw [List.getElem?_take_of_lt (by simp), List.getElem?_append_left hpl'] at z
    rw [z]; exact ha0
  have hx0' : (startF N vs [some (V.ref D)])[0]? = some (some (.ref x)) := by
    cases vs with
    | nil => simp at hx0
    | cons v r => simp at hx0; subst hx0; rfl
  refine ks_codeAny_funcAt ?_
  show _root_.PySem.wpAt _ (A.deeper (envF (supF name qual params (supS p0 p1 apos pos pos2 m e es :: rest) scope cc cda) f s.heap.objs.size)) (.func _ (envF (supF name qual params (supS p0 p1 apos pos pos2 m e es :: rest) scope cc cda) f s.heap.objs.size)) (execs (supS p0 p1 apos pos pos2 m e es :: rest) (envF (supF name qual params (supS p0 p1 apos pos pos2 m e es :: rest) scope cc cda) f s.heap.objs.size)) _ _ _
  refine ks_wpAt_execs_cons (ks_wpAt_mono (super_stmt (X := ncx CX P w K mg base N (supF name qual params (supS p0 p1 apos pos pos2 m e es :: rest) scope cc cda) f A outer s H E) (pl := pl) rfl Sf hA lk hp h0N hx0' hxH hm hks (S.frk _ List.mem_cons_self) (S.par _ (List.mem_of_getElem? ha0)) F2 (hr.deeper _ |>.mono hk2) hps hta I hq hn (hst _) (hpl _) (hev _)) (fun fl s' hs => ?_) fun e s' z => z)
  obtain ⟨rfl, H2, I2, q2⟩ := hs
  refine wpAt_of_wpAny ?_
  refine wpAny_mono (ht.run [] s' _ H2 _ I2 q2) (fun fl s' hs => ?_) fun e s' hs => hs
  have fin : ∀ {σ' : L2.St} {H' : Hp} {v : V} {u : Value}, Inv (ncx CX P w K mg base N (supF name qual params (supS p0 p1 apos pos pos2 m e es :: rest) scope cc cda) f A outer s H E) [] σ' H' s' → L2.RelV v u → Q v H' → CE outer P w H s Q u s' :=
    fun {σ' H' v u} J rv q => ⟨v, H', J.os, J.bare, J.base, J.hok, rv, q⟩
  cases fl with
  | ret u =>
    obtain ⟨v, σ', H', J, rv, q⟩ := hs
    exact fin J rv q
  | next =>
    obtain ⟨σ', H', J, q⟩ := hs
    exact fin (v := V.non) (u := Value.none) J rfl q
  | brk =>
    obtain ⟨_, _, _, q⟩ := hs
    exact False.elim q
  | cont =>
    obtain ⟨_, _, _, q⟩ := hs
    exact False.elim q
end
end DW
set_option Elab.async false
set_option maxRecDepth 100000
set_option maxHeartbeats 4000000
set_option linter.all false
set_option autoImplicit false
/-! the bodies of __init__ -/
namespace DW
variable [Tb]
open PySem PySem.Spec PyProof.Rows L2 NdefX

/-! ### attributes as targets -/
def gAttr (K : PySem.W.Frag) (ta : TE) (f : Str) : TG := fun v σ H Q => ta σ H fun x H2 => ∃ a C dx fs, x = .ref a ∧ H2 a = some (.ins C dx fs) ∧ Cls K C ∧ NoAttr K C f ∧ fs.length < 1000 ∧ Q σ (upd H2 a (.ins C dx (putF f v fs)))
theorem pg_attr {X : Cx} {o : Expr} {f : Str} {pos : Pos} {ta : TE} (ha : PE X o ta) : PG X (.Attribute o f pos) (gAttr X.K ta f) := by
  refine ⟨fun pins s σ H v u Q I r h => ?_⟩
  rw [assign_Attribute]
  refine wpAny_bind (wpAny_holding (thn (ha.run pins s σ H _ I h) fun ov s1 ⟨x, H1, I1, rx, a, C, dx, fs, ex, ea, c, n, l, q⟩ => ?_))
  subst ex
  obtain rfl : ov = Value.ref a := rx
  refine wpAny_bind (wpAny_standAt (wpAny_bind (wpAny_holding ?_)))
  exact setattr_ok I1 ea c n l r fun s3 I3 => wpAny_release ⟨σ, _, I3, q⟩
def gAttrs (K : PySem.W.Frag) (ta : TE) : List Str → TGs
  | [] => gNil
  | f :: r => gCons (gAttr K ta f) (gAttrs K ta r)

abbrev Kf := List (Option D) → List Str → List D → Prop
section
variable {K : PySem.W.Frag} {w : Option Addr} {C : Addr} {S : Addr → Bool} {H H0 H1 H2 H' : Hp} {n m : Nat} {σ : L2.St} {ds : List (Option D)} {ta tb te : TE} {tA tB : TA} {t u : TS} {c : TT} {x dx : Addr} {ns : List Str} {xs : List V} {l : List D} {k k' : Kf}
theorem okN (ok : OkW K w S H n) : OkW K none S H m := ⟨fun p h => (nomatch h), ok.2, ok.3, ok.4⟩
theorem freeN {x : Addr} (h : Tb.tab x = false) : Free none x := ⟨by simp, h⟩
/-- in the midst of an __init__: x is the object, ns its attributes so far -/
structure NSt (K : PySem.W.Frag) (C : Addr) (S : Addr → Bool) (H0 : Hp) (x dx : Addr) (σ : L2.St) (H : Hp) (ds : List (Option D)) (ns : List Str) (xs : List V) (l : List D) : Prop where
  re : RpE K none S H0 H σ ds
  ok : OkW K none S H 0
  sx : S x = true
  tx : Tb.tab x = false
  s0 : σ[0]? = some (some (.ref x))
  d0 : ds[0]? = some none
  hx : H x = some (.ins C dx (ns.zip xs))
  len : xs.length = ns.length
  rps : Rps K (cut S H) xs l
def WpN (K : PySem.W.Frag) (C : Addr) (t : TS) (ds : List (Option D)) (ns : List Str) (l : List D) (k : Kf) : Prop :=
  ∀ (S : Addr → Bool) (H0 : Hp) (x dx : Addr) (σ : L2.St) (H : Hp) (xs : List V) (E : Ends), NSt K C S H0 x dx σ H ds ns xs l →
    (∀ (σ' : L2.St) (H' : Hp) (ds' : List (Option D)) (ns' : List Str) (xs' : List V) (l' : List D), k ds' ns' l' → Keep x H H' → NSt K C S H0 x dx σ' H' ds' ns' xs' l' → E.nx σ' H') → t E σ H
theorem NSt.up (N : NSt K C S H0 x dx σ H ds ns xs l) (p : Pres none H H') (ok : OkW K none S H' n) : NSt K C S H0 x dx σ H' ds ns xs l :=
  ⟨N.re.up N.ok p, okN ok, N.sx, N.tx, N.s0, N.d0, p.go _ _ (freeN N.tx) N.hx rfl, N.len, N.rps.mono (ex_cut N.ok p)⟩
/-- x alone changed -/
theorem NSt.mut (N : NSt K C S H0 x dx σ H ds ns xs l) {ns' : List Str} {xs' : List V} {l' : List D} (kp : Keep x H H') (okM : OkW K none S H' 0) (hx : H' x = some (.ins C dx (ns'.zip xs'))) (hl : xs'.length = ns'.length) (r : Rps K (cut S H') xs' l') : NSt K C S H0 x dx σ H' ds ns' xs' l' := by
  have ex : Ex (cut S H) (cut S H') := fun a o z => by
    obtain ⟨h1, h2⟩ := cut_some z
    exact cut_mk h1 (kp.go a o (fun e => by subst e; rw [N.sx] at h1; cases h1) (N.ok.w_ne h1).2 h2 (cut_nt z)) (cut_nt z)
  refine ⟨⟨N.re.len, fun i d h o => ?_, fun i m h => ?_, N.re.dis⟩, okM, N.sx, N.tx, N.s0, N.d0, hx, hl, r⟩
  · obtain ⟨v, h1, h2⟩ := N.re.get i d h o
    exact ⟨v, h1, h2.mono ex⟩
  · obtain ⟨a, ys, h1, h2, h3, h4, h5, h6⟩ := N.re.own i m h
    refine ⟨a, ys, h1, h2, h3, h4, kp.go a _ (fun e => ?_) h3.2 h5 rfl, h6.mono ex⟩
    subst e
    rw [N.hx] at h5; cases h5
theorem n_seq (h : WpN K C t ds ns l fun ds' ns' l' => WpN K C u ds' ns' l' k) : WpN K C (tSeq t u) ds ns l k := fun S H0 x dx σ H xs E N f =>
  h S H0 x dx σ H xs { E with nx := u E } N fun σ' H' ds' ns' xs' l' hk kp N' => hk S H0 x dx σ' H' xs' E N' fun σ2 H2 ds2 ns2 xs2 l2 hk2 kp2 N2 => f σ2 H2 ds2 ns2 xs2 l2 hk2 (kp.trans kp2) N2
theorem n_next (h : k ds ns l) : WpN K C tNext ds ns l k := fun S H0 x dx σ H xs E N f => f σ H ds ns xs l h Keep.refl N
theorem n_never (h : False) : WpN K C tNever ds ns l k := h.elim
theorem n_if (h : WpT K none c ds 0 fun b _ => (b = true → WpN K C t ds ns l k) ∧ (b = false → WpN K C u ds ns l k)) : WpN K C (tIfS c t u) ds ns l k := fun S H0 x dx σ H xs E N f =>
  h S H0 σ H _ N.re N.ok fun b H1 n1 ⟨h1, h2⟩ p1 ok1 => by
    cases b with
    | true => exact h1 rfl S H0 x dx σ H1 xs E (N.up p1 ok1) fun σ2 H2 ds2 ns2 xs2 l2 hk2 kp2 N2 => f σ2 H2 ds2 ns2 xs2 l2 hk2 ((Keep.of p1).trans kp2) N2
    | false => exact h2 rfl S H0 x dx σ H1 xs E (N.up p1 ok1) fun σ2 H2 ds2 ns2 xs2 l2 hk2 kp2 N2 => f σ2 H2 ds2 ns2 xs2 l2 hk2 ((Keep.of p1).trans kp2) N2
/-- name = e -/
theorem n_set {i : Nat} (hi : i ≠ 0) (h : WpE K none te ds 0 fun d _ => isOwn d = false ∧ k (ds.set i (some d)) ns l) : WpN K C (tAsg te (gName i)) ds ns l k := fun S H0 x dx σ H xs E N f =>
  h S H0 σ H _ N.re N.ok fun v H1 d n1 ⟨ho, hk⟩ p1 ok1 r1 => by
    have N1 := N.up p1 ok1
    refine f _ H1 _ ns xs l hk (Keep.of p1) ⟨N1.re.set r1 ho, N1.ok, N1.sx, N1.tx, ?_, ?_, N1.hx, N1.len, N1.rps⟩
    · rw [List.getElem?_set_ne hi]; exact N1.s0
    · rw [List.getElem?_set_ne hi]; exact N1.d0
theorem putF_new {f : Str} {v : V} : ∀ {ns : List Str} {xs : List V}, f ∉ ns → xs.length = ns.length → putF f v (ns.zip xs) = (ns ++ [f]).zip (xs ++ [v])
  | [], [], _, _ => rfl
  | g :: ns, y :: xs, h, hl => by
    have hg : g ≠ f := fun e => h (by rw [e]; exact List.mem_cons_self)
    show putF f v ((g, y) :: ns.zip xs) = (g, y) :: (ns ++ [f]).zip (xs ++ [v])
    unfold putF
    rw [if_neg hg, putF_new (fun z => h (List.mem_cons_of_mem _ z)) (by simpa using hl)]
  | _ :: _, [], _, hl => by simp at hl
  | [], _ :: _, _, hl => by simp at hl
theorem NSt.put (N : NSt K C S H0 x dx σ H ds ns xs l) {f : Str} {v : V} {d : D} (hf : f ∉ ns) (r : Rp K (cut S H) v d) : NSt K C S H0 x dx σ (upd H x (.ins C dx (putF f v (ns.zip xs)))) ds (ns ++ [f]) (xs ++ [v]) (l ++ [d]) := by
  refine N.mut Keep.upd (N.ok.mut N.sx (freeN N.tx) (.ins N.hx)) (by rw [upd_same, putF_new hf N.len]) (by simp [N.len]) ?_
  rw [cut_upd N.sx]
  exact N.rps.append (.cons r .nil)
/-- self.f = e -/
theorem n_put {f : Str} (hc : Cls K C) (hn : NoAttr K C f) (h : WpE K none te ds 0 fun d _ => f ∉ ns ∧ ns.length < 1000 ∧ k ds (ns ++ [f]) (l ++ [d])) : WpN K C (sFld K (tVar 0) te f) ds ns l k := fun S H0 x dx σ H xs E N fin =>
  h S H0 σ H _ N.re N.ok fun v H1 d n1 ⟨hf, hl, hk⟩ p1 ok1 r1 => by
    have N1 := N.up p1 ok1
    refine ⟨.ref x, N1.s0, x, C, dx, _, rfl, N1.hx, hc, hn, by rw [List.length_zip, N1.len]; omega, ?_⟩
    exact fin _ _ _ _ _ _ hk ((Keep.of p1).trans Keep.upd) (N1.put hf r1)
theorem gattrs_go (hc : Cls K C) : ∀ {fs : List Str} {vs : List V} {es : List D} {σ : L2.St} {H : Hp} {ns : List Str} {xs : List V} {l : List D} {Q : L2.St → Hp → Prop}, NSt K C S H0 x dx σ H ds ns xs l → Rps K (cut S H) vs es → vs.length = fs.length → (∀ f ∈ fs, NoAttr K C f) → (ns ++ fs).Nodup → ns.length + fs.length < 1000 →
    (∀ H' xs', Keep x H H' → NSt K C S H0 x dx σ H' ds (ns ++ fs) xs' (l ++ es) → Q σ H') → gAttrs K (tVar 0) fs vs σ H Q
  | [], [], _, σ, H, ns, xs, l, Q, N, .nil, _, _, _, _, q => ⟨rfl, q H xs Keep.refl (by simpa using N)⟩
  | f :: fs, v :: vs, _, σ, H, ns, xs, l, Q, N, .cons r rs, hl, hn, nd, hz, q => by
    have hf : f ∉ ns := fun z => by
      rw [List.nodup_append] at nd
      exact nd.2.2 f z f List.mem_cons_self rfl
    refine ⟨v, vs, rfl, .ref x, N.s0, x, C, dx, _, rfl, N.hx, hc, hn f List.mem_cons_self, ?_, ?_⟩
    · rw [List.length_zip, N.len]; simp at hz; omega
    have N1 := N.put hf r
    refine gattrs_go hc N1 (by rw [cut_upd N.sx]; exact rs) (by simpa using hl) (fun g hg => hn g (List.mem_cons_of_mem _ hg)) (by simpa [List.append_assoc] using nd) (by simp at hz ⊢; omega) fun H' xs' kp N' => ?_
    refine q H' xs' (Keep.upd.trans kp) ?_
    simpa [List.append_assoc] using N'
  | [], _ :: _, _, _, _, _, _, _, _, _, _, hl, _, _, _, _ => by simp at hl
  | _ :: _, [], _, _, _, _, _, _, _, _, _, hl, _, _, _, _ => by simp at hl
/-- self.a, self.b, .. = self.f -/
theorem n_unpack {f : Str} {fs : List Str} {es : List D} {j : Nat} (hc : Cls K C) (hn0 : NoAttr K C f) (hl : (ns.zip l).lookup f = some (.tup es)) (hlen : es.length = fs.length) (hj : j = fs.length) (hn : ∀ g ∈ fs, NoAttr K C g) (nd : (ns ++ fs).Nodup) (hz : ns.length + fs.length < 1000) (h : k ds (ns ++ fs) (l ++ es)) :
    WpN K C (tAsg (tFld K (tVar 0) f) (gTup K j (gAttrs K (tVar 0) fs))) ds ns l k := fun S H0 x dx σ H xs E N fin => by
  obtain ⟨v, hv, rv⟩ := zip_lookup N.rps N.len hl
  refine ⟨.ref x, N.s0, x, C, dx, _, v, rfl, N.hx, hc, hn0, hv, ?_⟩
  cases rv with
  | @tup a ys _ hT hy =>
    refine ⟨a, ys, rfl, Evl.ex_t (cut_ex S H) hT, by rw [hy.length, hlen, hj], ?_⟩
    refine gattrs_go hc N hy (by rw [hy.length, hlen]) hn nd hz fun H' xs' kp N' => ?_
    exact fin σ H' ds _ xs' _ h kp N'
/-! ### the start of an __init__ -/
def nstart (N : List Str) (es : List D) : List (Option D) := none :: (es.map some ++ List.replicate (N.length - (es.length + 1)) none)
theorem init_ok {N : List Str} {g : List D → List Str → List D → Prop} {vs : List V} {Q : VK} {E : XK} (hw : ∀ es ns l, g es ns l → WpN K C t (nstart N es) [] [] fun _ ns' l' => ns' = ns ∧ l' = l) (h : initSp K C g vs H Q E) :
    t { nx := fun _ H' => Q .non H', rt := Q } (L2.start N vs) H := by
  obtain ⟨x, dx, S, avs, es, ns, l, rfl, hS, htx, hok, hx, r, hg, fin⟩ := h
  have r0 : Rps K (cut S H) (.ref x :: avs) (.raw (.ref x) :: es) := .cons (.raw _) r
  have re := rpE_start (w := none) (N := N) r0
  refine hw es ns l hg S H x dx _ H [] _ ⟨re.forget (by unfold nstart dstart; simp) fun i d hi => ?_, hok, hS, htx, rfl, rfl, hx, rfl, .nil⟩ fun σ' H' ds' ns' xs' l' ⟨e1, e2⟩ kp N' => ?_
  · cases i with
    | zero => unfold nstart at hi; simp at hi
    | succ i =>
      unfold nstart at hi
      unfold dstart
      simpa using hi
  · subst e1 e2
    exact fin H' xs' kp N'.ok N'.hx N'.len N'.rps
theorem initSp_len {g : List D → List Str → List D → Prop} {j : Nat} (hg : ∀ es ns l, g es ns l → es.length = j) {vs : List V} {Q : VK} {E : XK} (h : initSp K C g vs H Q E) : vs.length = j + 1 := by
  obtain ⟨x, dx, S, avs, es, ns, l, rfl, hS, htx, hok, hx, r, hgs, fin⟩ := h
  rw [List.length_cons, r.length, hg _ _ _ hgs]
/-! ### super().__init__(e, ..), a def(self, a, *parts) -/
/-- the promise of def __init__(self, a, *parts) of any class -/
def superSp (K : PySem.W.Frag) (C : Addr) (g : List D → List Str → List D → Prop) : Sp := fun vs H Q E => ∃ ws rest, vs = ws ++ rest ∧ ws.length = 2 ∧ rest.length ≤ sizeLine ∧ ∀ p, H p = none → initSp K C g (ws ++ [.ref p]) (upd H p (.tup rest)) Q E
theorem n_super {g : List D → List Str → List D → Prop} {E2 : XK} {E : Ends} (h : WpA K none tA ds 0 fun es _ => ∃ d r ns l, es = d :: r ∧ r.length ≤ 100000 ∧ g [d, .tup r] ns l ∧ WpN K C t ds ns l k) (N : NSt K C S H0 x dx σ H ds [] [] [])
    (fin : ∀ (σ' : L2.St) (H' : Hp) (ds' : List (Option D)) (ns' : List Str) (xs' : List V) (l' : List D), k ds' ns' l' → Keep x H H' → NSt K C S H0 x dx σ' H' ds' ns' xs' l' → E.nx σ' H') :
    tA σ H (fun ws H1 => superSp K C g (.ref x :: ws) H1 (fun _ H2 => t E σ H2) E2) :=
  h S H0 σ H _ N.re N.ok fun ws H1 es n1 ⟨d, r, ns, l, e, hr, hg, hk⟩ p1 ok1 r1 => by
    subst e
    cases r1 with
    | @cons v vs _ _ ra rb =>
      have N1 := N.up p1 ok1
      have hxH : H1 x = some (.ins C dx []) := N1.hx
      refine ⟨[.ref x, v], vs, rfl, rfl, Evl.sz_of (by rw [rb.length]; exact hr), fun p hp => ⟨x, dx, S, [v, .ref p], [d, .tup r], ns, l, rfl, N.sx, N.tx, okN (ok1.new hp), ?_, ?_, hg, fun H' xs kp okF hx hl hxs => ?_⟩⟩
      · rw [upd_ne (ne_of_none hxH hp)]; exact hxH
      · have ex := ex_cut ok1 (Pres.new (w := none) (o := .tup vs) hp)
        exact .cons (ra.mono ex) (.cons (.tup (SqT.of (cut_new ok1 hp)) (rb.mono ex)) .nil)
      · have kp1 : Keep x H1 H' := (Keep.new hp).trans kp
        have N2 : NSt K C S H0 x dx σ H' ds ns xs l := N1.mut kp1 okF hx hl hxs
        exact hk S H0 x dx σ H' xs E N2 fun σ' H2 ds' ns' xs' l' hk' kp2 N' => fin σ' H2 ds' ns' xs' l' hk' ((Keep.of p1).trans (kp1.trans kp2)) N'
/-- .. its start, within the frame that knows its class -/
theorem super_ok {N : List Str} {g g2 : List D → List Str → List D → Prop} {vs : List V} {Q : VK} {E E2 : XK} {Dc : Addr} (hw : ∀ es ns l, g es ns l → WpA K none tA (none :: (es.map some ++ none :: List.replicate (N.length - (es.length + 2)) none)) 0 fun fs _ => ∃ d r ns1 l1, fs = d :: r ∧ r.length ≤ 100000 ∧ g2 [d, .tup r] ns1 l1 ∧
      WpN K C t (none :: (es.map some ++ none :: List.replicate (N.length - (es.length + 2)) none)) ns1 l1 fun _ ns' l' => ns' = ns ∧ l' = l) (h : initSp K C g vs H Q E) :
    ∃ x dx, vs.head? = some (.ref x) ∧ H x = some (.ins C dx []) ∧ tA (startF N vs [some (.ref Dc)]) H (fun ws H1 => superSp K C g2 (.ref x :: ws) H1 (fun _ H2 => t { nx := fun _ H' => Q .non H', rt := Q } (startF N vs [some (.ref Dc)]) H2) E2) := by
  obtain ⟨x, dx, S, avs, es, ns, l, rfl, hS, htx, hok, hx, r, hg, fin⟩ := h
  have hlr := r.length
  refine ⟨x, dx, rfl, hx, n_super (C := C) (S := S) (H0 := H) (x := x) (dx := dx) (hw es ns l hg) ⟨⟨?_, fun i d hi o => ?_, fun i l hi => ?_, fun i j l m a hij h1 h2 => ?_⟩, hok, hS, htx, rfl, rfl, hx, rfl, .nil⟩ fun σ' H' ds' ns' xs' l' ⟨e1, e2⟩ kp N' => ?_⟩
  · unfold startF; simp [hlr]; omega
  · cases i with
    | zero => simp at hi
    | succ i =>
      simp only [List.getElem?_cons_succ] at hi
      by_cases h1 : i < es.length
      · rw [List.getElem?_append_left (by simpa using h1), List.getElem?_map] at hi
        obtain ⟨d', hd, e⟩ := Option.map_eq_some_iff.mp hi
        cases e
        obtain ⟨v, hv, rv⟩ := r.get hd
        refine ⟨v, ?_, rv⟩
        unfold startF
        rw [List.map_cons, List.cons_append, List.getElem?_cons_succ, List.getElem?_append_left (by simp; omega), List.getElem?_map, hv]; rfl
      · rw [List.getElem?_append_right (by simp; omega)] at hi
        cases z : i - (es.map some).length with
        | zero => rw [z] at hi; simp at hi
        | succ q => rw [z] at hi; simp [List.getElem?_replicate] at hi
  · exact absurd hi (by
      cases i with
      | zero => simp
      | succ i =>
        simp only [List.getElem?_cons_succ]
        intro hi
        by_cases h1 : i < es.length
        · rw [List.getElem?_append_left (by simpa using h1), List.getElem?_map] at hi
          obtain ⟨d', hd, e⟩ := Option.map_eq_some_iff.mp hi
          cases e
          exact r.noOwn _ (List.mem_of_getElem? hd)
        · rw [List.getElem?_append_right (by simp; omega)] at hi
          cases z : i - (es.map some).length with
          | zero => rw [z] at hi; simp at hi
          | succ q => rw [z] at hi; simp [List.getElem?_replicate] at hi)
  · exact absurd h1 (by
      cases i with
      | zero => simp
      | succ i =>
        simp only [List.getElem?_cons_succ]
        intro hi
        by_cases h1 : i < es.length
        · rw [List.getElem?_append_left (by simpa using h1), List.getElem?_map] at hi
          obtain ⟨d', hd, e⟩ := Option.map_eq_some_iff.mp hi
          cases e
          exact r.noOwn _ (List.mem_of_getElem? hd)
        · rw [List.getElem?_append_right (by simp; omega)] at hi
          cases z : i - (es.map some).length with
          | zero => rw [z] at hi; simp at hi
          | succ q => rw [z] at hi; simp [List.getElem?_replicate] at hi)
  · subst e1 e2
    exact fin H' xs' kp N'.ok N'.hx N'.len N'.rps
end
end DW
set_option Elab.async false
set_option maxRecDepth 100000
set_option maxHeartbeats 4000000
set_option linter.all false
set_option autoImplicit false
/-! defs by name; the pen -/
namespace DW
variable [Tb]
open PySem PySem.Spec PyProof.Rows L2

/-- a def of the module that may be called by its name -/
structure Go (P : Program) (w : World) (K : PySem.W.Frag) (mg : Str → Option Value) (base : Heap) (k : Nat) (x : Str) (sp : Sp) (dvs : List V) : Prop where
  ex : ∃ (f : Addr) (fd : FuncData) (ps : List Str) (ds : List Value), FnOk P w K mg base CX0 k f fd ps sp ∧ mg x = some (.ref f) ∧ PySem.W.keepIn K (.ref f) = true ∧ Binds K fd ps ds ∧ Vals dvs ds
section
variable {X : Cx} {k j : Nat} {x : Str} {sp : Sp} {dvs : List V} {e : Expr} {es : List Expr} {t : TA} {p pos : Pos}
theorem pe_go (G : Go X.prog X.w X.K X.mg X.base j x sp dvs) (hr : Room k X.A) (ha : PA X (e :: es) t) (hj : j ≤ k := by decide) (hg : Gl X x := by rfl) (hdb : (x == ("__debug__" : Str)) = false := by decide) (he : starEach (e :: es) X.env = (false, eval e X.env) :: starEach es X.env := by rfl) (hpl : (backTo pos (starEach es X.env)).any (·.1) = false := by rfl) :
    PE X (.Call (.Name x p) (e :: es) [] pos) (tCall sp dvs E0 t) := by
  obtain ⟨f, fd, ps, ds, F, hm, hk, hb, hd⟩ := G.ex
  exact pe_call F (hr.mono hj) hg hm hk hb hd pass0 ha hdb he hpl
theorem pe_go0 (G : Go X.prog X.w X.K X.mg X.base j x sp dvs) (hr : Room k X.A) (hj : j ≤ k := by decide) (hg : Gl X x := by rfl) (hdb : (x == ("__debug__" : Str)) = false := by decide) : PE X (.Call (.Name x p) [] [] pos) (tCall sp dvs E0 tNil) := by
  obtain ⟨f, fd, ps, ds, F, hm, hk, hb, hd⟩ := G.ex
  exact pe_call0 F (hr.mono hj) hg hm hk hb hd pass0 hdb
theorem pw_last {t : TT} {a : Expr} {op : BoolOp} (h : PW X (.BoolOp op [a] pos) t) : PW X (.BoolOp op [a] pos) t := h
def rInU (K : PySem.W.Frag) : Bool → R2
  | false => fun x y H Q => rIn K false x y H Q ∨ rInD K x y H Q
  | true => fun x y H Q => rIn K true x y H Q ∨ rNotInD K x y H Q
theorem op_inU (hu : X.A.units + 65 < cLine) : OpR X (compareOp .In) (rInU X.K false) := op_in_seq.or (op_inD hu)
theorem op_notInU (hu : X.A.units + 65 < cLine) : OpR X (compareOp .NotIn) (rInU X.K true) := op_notIn_seq.or (op_notInD hu)
theorem RD.inU {K : PySem.W.Frag} {w : Option Addr} {neg : Bool} {d e : D} {n : Nat} {k : Kn} (h : RD K w (rIn K neg) d e n k) : RD K w (rInU K neg) d e n k := fun S v u H Q a b ok p => by
  cases neg <;> exact .inl (h S v u H Q a b ok p)
theorem rd_inDeep {K : PySem.W.Frag} {w : Option Addr} {d : D} {l : List D} {n : Nat} {k : Kn} (h1 : pureD d = true) (h2 : pureDs l = true) (s1 : SeqAt.shaped (toPy d) = true) (s2 : SeqAt.shaped (toPy (.lst l)) = true) (hk : k (.bl ((toPys l).any fun z => PyData.eqv z (toPy d))) n) : RD K w (rInU K false) d (.lst l) n k := fun S v u H Q a b ok p =>
  .inr ⟨_, _, a.dp h1, b.dp (d := .lst l) h2, s1, s2, p _ H _ n hk Pres.refl ok (.bl _)⟩
theorem rd_ninDeep {K : PySem.W.Frag} {w : Option Addr} {d : D} {l : List D} {n : Nat} {k : Kn} (h1 : pureD d = true) (h2 : pureDs l = true) (s1 : SeqAt.shaped (toPy d) = true) (s2 : SeqAt.shaped (toPy (.lst l)) = true) (hk : k (.bl (!(toPys l).any fun z => PyData.eqv z (toPy d))) n) : RD K w (rInU K true) d (.lst l) n k := fun S v u H Q a b ok p =>
  .inr ⟨_, _, a.dp h1, b.dp (d := .lst l) h2, s1, s2, p _ H _ n hk Pres.refl ok (.bl _)⟩
end
/-- .. within a greater budget -/
def kup (k : Kn) : Kn := fun d n => ∃ m, n ≤ m ∧ k d m
theorem Po.up {K : PySem.W.Frag} {w : Option Addr} {S : Addr → Bool} {H : Hp} {k : Kn} {Q : VK} (p : Po K w S H k Q) : Po K w S H (kup k) Q := fun v H' d n' ⟨m, hm, hk⟩ pr ok r => p v H' d m hk pr (ok.mono hm) r
theorem kup_of {k : Kn} {d : D} {n : Nat} (h : k d n) : kup k d n := ⟨n, Nat.le_refl _, h⟩
/-- the promise of a def by data -/
theorem fn_data {P : Program} {w : World} {K : PySem.W.Frag} {mg : Str → Option Value} {base : Heap} {k : Nat} {x qual : Str} {st : Stmt} {f : Addr} {fd : FuncData} {N ps : List Str} {sp : DSpW} {t : TS} (F : Fun K x qual st f fd) (S : FnScope N ps (defScope st))
    (hl : ∀ w es n k, sp w es n k → es.length = ps.length) (hb : Binds K fd ps []) (hm : mg x = some (.ref f))
    (hd : ∀ (cdv : Value) (A : Around) (outer : List Env) (s : Shared) (H : Hp) (E : XK), Room k (A.deeper (envOfC qual (defScope st) s.heap.objs.size f cdv)) → PSs (cxOf CX0 P w K mg base N qual (defScope st) f cdv A outer s H E).nox (defBody st) t)
    (hw : ∀ w es n k, sp w es n k → WpS K w t (dstart N es) n { nx := fun _ n' => kup k .non n', rt := kup k }) : Go P w K mg base (k + 1) x (toSp K sp) [] :=
  ⟨f, fd, ps, [], F.ok S (fun vs H Q E h => by
      obtain ⟨w, S, es, n, k, r, ok, hs, p⟩ := h
      rw [r.length]; exact hl w es n k hs) (fun cdv A outer s H vs Q E hr h => by
      obtain ⟨w, S, es, n, k, r, ok, hs, p⟩ := h
      exact ⟨t, hd cdv A outer s H E hr, body_ok (hw w es n k hs) r ok p.up⟩), hm, F.kp, hb, .nil⟩

/-! ### the pen -/
section
variable {K : PySem.W.Frag} {w : Option Addr} {S : Addr → Bool} {H H0 H1 H2 H' : Hp} {n m : Nat} {σ : L2.St} {ds : List (Option D)} {ta tb te : TE} {i : Nat} {k : Kn} {p : Addr}
theorem e_pen2 (hw : w = some p) (hi : ds[i]? = some (some (.raw (.ref p)))) (hk : ∀ z : Int, 0 ≤ z → k (.int z) n) : WpE K w (tOp (rIx K) (tVar i) (tC (.int 2))) ds n k := fun S H0 σ H Q re ok po => by
  obtain ⟨v, h1, h2⟩ := re.get i _ hi rfl
  cases h2
  obtain ⟨hS, c, ix, left, ns, g1, g2, g3, g4, g5, g6⟩ := ok.1 p hw
  exact ⟨_, h1, .inl ⟨p, _, 2, .int left, rfl, rfl, SqL.of g1, rfl, po _ H _ n (hk left g6) Pres.refl ok (.int _)⟩⟩
theorem e_pen1 (hw : w = some p) (hi : ds[i]? = some (some (.raw (.ref p)))) (hk : ∀ z : Int, 0 ≤ z → z ≤ n → k (.int z) n) : WpE K w (tOp (rIx K) (tVar i) (tC (.int 1))) ds n k := fun S H0 σ H Q re ok po => by
  obtain ⟨v, h1, h2⟩ := re.get i _ hi rfl
  cases h2
  obtain ⟨hS, c, ix, left, ns, g1, g2, g3, g4, g5, g6⟩ := ok.1 p hw
  exact ⟨_, h1, .inl ⟨p, _, 1, .int ix, rfl, rfl, SqL.of g1, rfl, po _ H _ n (hk ix g4 g5) Pres.refl ok (.int _)⟩⟩
theorem e_pen0 (hw : w = some p) (hi : ds[i]? = some (some (.raw (.ref p)))) (hk : ∀ ns : List Int, ns.length ≤ 63 → k (.lst (ns.map .int)) n) : WpE K w (tOp (rIx K) (tVar i) (tC (.int 0))) ds n k := fun S H0 σ H Q re ok po => by
  obtain ⟨v, h1, h2⟩ := re.get i _ hi rfl
  cases h2
  obtain ⟨hS, c, ix, left, ns, g1, g2, g3, g4, g5, g6⟩ := ok.1 p hw
  exact ⟨_, h1, .inl ⟨p, _, 0, .ref c, rfl, rfl, SqL.of g1, rfl, po _ H _ n (hk ns g3) Pres.refl ok (.lst g2 (Rps.of_ints ns))⟩⟩
theorem pen_tab (ok : OkW K w S H n) (hw : w = some p) : Tb.tab p = false := by
  cases z : Tb.tab p with
  | false => rfl
  | true =>
    obtain ⟨_, c, ix, left, ns, g1, _⟩ := ok.1 p hw
    obtain ⟨ps, e, _⟩ := (ok.3 p z).2
    rw [g1] at e; cases e
theorem pen_nc (ok : OkW K w S H n) (hw : w = some p) : NotCode H p := by
  obtain ⟨_, c, ix, left, ns, g1, _⟩ := ok.1 p hw
  exact .lst g1
/-- the pen itself written -/
theorem pen_put {kd : Kd} {S0 : Addr → Bool} {E : Ends} {ks : KS} {c : Addr} {ix left : Int} {ns : List Int} (hw : w = some p) (b : Base w K S0 H0 S H n) (r : RpE K w S H0 H σ ds) (e : Ends4 w K S0 H0 S H E ks) (g2 : cut S H c = some (.lst (ns.map V.int))) (g3 : ns.length ≤ 63) (hx : 0 ≤ ix) (hxm : ix ≤ m) (hl : 0 ≤ left)
    (hk : ks.nx ds m) : E.nx σ (upd H p (.lst [.ref c, .int ix, .int left])) := by
  have hS := (b.ok.1 p hw).1
  have ec : cut S (upd H p (.lst [.ref c, .int ix, .int left])) = cut S H := cut_upd hS
  have pr : Pres w H (upd H p (.lst [.ref c, .int ix, .int left])) := ⟨fun a o hne z _ => by
    rw [upd_ne (fun q => hne.1 (by rw [q]; exact hw))]; exact z, fun a z => NdefX.upd_none z⟩
  have ok' : OkW K w S (upd H p (.lst [.ref c, .int ix, .int left])) m := by
    refine ⟨fun q hq => ?_, fun a ha => ?_, fun a h => ⟨(b.ok.3 a h).1, (b.ok.3 a h).2.upd (pen_tab b.ok hw) h (pen_nc b.ok hw)⟩, fun a ha => ?_⟩
    · have : q = p := by rw [hw] at hq; cases hq; rfl
      subst this
      exact ⟨hS, c, ix, left, ns, upd_same, by rw [ec]; exact g2, g3, hx, hxm, hl⟩
    · by_cases q : a = p
      · subst q; exact ⟨_, upd_same⟩
      · obtain ⟨o, ho⟩ := b.ok.2 a ha
        exact ⟨o, by rw [upd_ne q]; exact ho⟩
    · by_cases q : a = p
      · subst q; exact .inr ⟨_, upd_same, rfl⟩
      · exact (b.ok.4 a ha).imp id fun ⟨o, ho, t⟩ => ⟨o, by rw [upd_ne q]; exact ho, t⟩
  exact e.nx S σ _ ds m hk (b.up pr ok') (r.up b.ok pr) (by rw [ec]; exact Evl.Ex.refl _)
/-- pen[2] = e -/
theorem s_pen2 {ks : KS} (hw : w = some p) (hi : ds[i]? = some (some (.raw (.ref p)))) (h : WpE K w te ds n fun d n1 => ∃ z : Int, d = .int z ∧ 0 ≤ z ∧ ks.nx ds n1) : WpS K w (tAsg te (gSub (tVar i) (tC (.int 2)) rSetL)) ds n ks := fun S0 H0 S σ H E b r e =>
  h S H0 σ H _ r b.ok fun v H1 d n1 ⟨z, ed, hz, hk⟩ p1 ok1 r1 => by
    subst ed
    cases r1
    have b1 := b.up p1 ok1
    have r' := r.up b.ok p1
    obtain ⟨v, h1, h2⟩ := r'.get i _ hi rfl
    cases h2
    obtain ⟨hS, c, ix, left, ns, g1, g2, g3, g4, g5, g6⟩ := ok1.1 p hw
    exact ⟨_, h1, p, _, 2, 2, rfl, rfl, g1, rfl, pen_put (kd := ks.nx) hw b1 r' (e.from (ex_cut b.ok p1)) g2 g3 g4 g5 hz hk⟩
/-- pen[1] = e -/
theorem s_pen1 {ks : KS} (hw : w = some p) (hi : ds[i]? = some (some (.raw (.ref p)))) (h : WpE K w te ds n fun d n1 => ∃ (z : Int) (m : Nat), d = .int z ∧ 0 ≤ z ∧ z ≤ m ∧ ks.nx ds m) : WpS K w (tAsg te (gSub (tVar i) (tC (.int 1)) rSetL)) ds n ks := fun S0 H0 S σ H E b r e =>
  h S H0 σ H _ r b.ok fun v H1 d n1 ⟨z, m, ed, hz, hm, hk⟩ p1 ok1 r1 => by
    subst ed
    cases r1
    have b1 := b.up p1 ok1
    have r' := r.up b.ok p1
    obtain ⟨v, h1, h2⟩ := r'.get i _ hi rfl
    cases h2
    obtain ⟨hS, c, ix, left, ns, g1, g2, g3, g4, g5, g6⟩ := ok1.1 p hw
    exact ⟨_, h1, p, _, 1, 1, rfl, rfl, g1, rfl, pen_put (kd := ks.nx) hw b1 r' (e.from (ex_cut b.ok p1)) g2 g3 hz hm g6 hk⟩
end
/-- the draw: a number below many -/
abbrev drawSp : DSpW := fun w es n k => ∃ (p : Addr) (many : Int), w = some p ∧ es = [.raw (.ref p), .int many] ∧ 0 < many ∧ many < 2 ^ 64 ∧ n < 2 ^ 20 ∧ ∀ d : Int, 0 ≤ d → d < many → k (.int d) (n + 1)
end DW
set_option Elab.async false
set_option maxRecDepth 100000
set_option maxHeartbeats 4000000
set_option linter.all false
set_option autoImplicit false
/-! what the printed derivations use -/
namespace DW
variable [Tb]
open PySem PySem.Spec PyProof.Rows L2

section
variable {X : Cx} {x : Str} {pos : Pos}
theorem pe_globI {i : Int} (hg : Gl X x) (hm : ∃ t, X.mg x = some (.int i t)) (hd : (x == ("__debug__" : Str)) = false := by decide) : PE X (.Name x pos) (tC (.int i)) := by
  obtain ⟨t, h⟩ := hm
  exact pe_glob hg h ⟨_, rfl⟩ hd
/-- a tuple of the module -/
def KTup (K : PySem.W.Frag) (mg : Str → Option Value) (x : Str) (l : List D) : Prop := ∃ (a : Addr) (xs : List V), mg x = some (.ref a) ∧ SqT K (fun _ => none) a xs ∧ Rps K (fun _ => none) xs l
def tKT (K : PySem.W.Frag) (l : List D) : TE := fun _ H Q => ∀ (a : Addr) (xs : List V), SqT K (fun _ => none) a xs → Rps K (fun _ => none) xs l → Q (.ref a) H
theorem pe_globT {l : List D} (hg : Gl X x) (hm : KTup X.K X.mg x l) (hd : (x == ("__debug__" : Str)) = false := by decide) : PE X (.Name x pos) (tKT X.K l) := by
  obtain ⟨a, xs, h1, h2, h3⟩ := hm
  refine ⟨fun pins s σ H Q I h => ?_⟩
  exact (pe_glob (v := .ref a) hg h1 rfl hd).run pins s σ H Q I (h a xs h2 h3)
end
theorem e_kt {K : PySem.W.Frag} {w : Option Addr} {n : Nat} {ds : List (Option D)} {l : List D} {k : Kn} (hk : k (.tup l) n) : WpE K w (tKT K l) ds n k := fun S H0 σ H Q re ok p a xs hT hx => by
  have e : Ex (fun _ => none) (cut S H) := fun _ _ h => by cases h
  exact p _ H _ n hk Pres.refl ok (.tup (Evl.ex_t e hT) (hx.mono e))
/-- a class of the module that may be made -/
structure Mkc (P : Program) (w : World) (K : PySem.W.Frag) (mg : Str → Option Value) (base : Heap) (k : Nat) (x : Str) (C : Addr) (sp : Sp) (dvs : List V) : Prop where
  ex : ∃ (f : Addr) (fd : FuncData) (ps : List Str) (ds : List Value), Mk K C f ∧ FnOk P w K mg base CX0 k f fd ps sp ∧ mg x = some (.ref C) ∧ Binds K fd ps ds ∧ Vals dvs ds
section
variable {X : Cx} {k j : Nat} {x : Str} {sp : Sp} {dvs : List V} {e : Expr} {es : List Expr} {t : TA} {p pos : Pos} {C : Addr}
theorem pe_mk (M : Mkc X.prog X.w X.K X.mg X.base j x C sp dvs) (hr : Room k X.A) (ha : PA X (e :: es) t) (hj : j + 1 ≤ k := by decide) (hg : Gl X x := by rfl) (hdb : (x == ("__debug__" : Str)) = false := by decide) (he : starEach (e :: es) X.env = (false, eval e X.env) :: starEach es X.env := by rfl) (hpl : (backTo pos (starEach es X.env)).any (·.1) = false := by rfl) :
    PE X (.Call (.Name x p) (e :: es) [] pos) (tMake C sp dvs E0 t) := by
  obtain ⟨f, fd, ps, ds, M, F, hm, hb, hd⟩ := M.ex
  exact pe_make M F (hr.mono hj) hg hm hb hd pass0 ha hdb he hpl
end
/-- a def called by keywords alone -/
structure Gok (P : Program) (w : World) (K : PySem.W.Frag) (mg : Str → Option Value) (base : Heap) (k : Nat) (x : Str) (ks : List Str) (sp : Sp) (gV : List V → List V → List V) : Prop where
  ex : ∃ (f : Addr) (fd : FuncData) (ps : List Str) (g : List Value → List Value → List Value), FnOk P w K mg base CX0 k f fd ps sp ∧ mg x = some (.ref f) ∧ PySem.W.keepIn K (.ref f) = true ∧ KBn K fd ps 0 ks g gV
section
variable {X : Cx} {k j : Nat} {x : Str} {ks : List Str} {sp : Sp} {gV : List V → List V → List V} {kws : List Keyword} {t tk : TA} {p pos : Pos}
theorem pe_gok {b : Nat} (G : Gok X.prog X.w X.K X.mg X.base j x ks sp gV) (hr : Room k X.A) (hkw : PK X kws tk) (hb : ks.length = b := by rfl) (hj : j ≤ k := by decide) (hg : Gl X x := by rfl) (hall : (backToKw pos (keywordEach kws X.env)).all (·.1.isSome) = true := by rfl) (hks : (backToKw pos (keywordEach kws X.env)).filterMap (·.1) = ks := by rfl) (hdb : (x == ("__debug__" : Str)) = false := by decide)
    (hpl : ((backTo pos (starEach [] X.env)).any (·.1) || (backToKw pos (keywordEach kws X.env)).any (·.1.isNone)) = false := by rfl) : PE X (.Call (.Name x p) [] kws pos) (L2.tCallN 0 b sp gV E0 tNil tk) := by
  subst hb
  obtain ⟨f, fd, ps, g, F, hm, hk, hb⟩ := G.ex
  exact pe_callN0 F (hr.mono hj) hg hm hk hb pass0 hkw hall hks hdb hpl
end
def supArgs (s : Stmt) : List Expr := match defBody s with
  | .Expr (.Call _ es _ _) _ :: _ => es
  | _ => []
end DW
set_option Elab.async false
set_option maxRecDepth 100000
set_option maxHeartbeats 4000000
set_option linter.all false
set_option autoImplicit false
/-! the rules in the shape that the stepping wants -/
namespace DW
variable [Tb]
open PySem PySem.Spec PyProof.Rows L2
section
variable {K : PySem.W.Frag} {w : Option Addr} {n : Nat} {ds : List (Option D)} {ta tb te : TE} {i : Nat} {k : Kn} {ks : KS}
theorem e_varX (h : ∃ d, ds[i]? = some (some d) ∧ isOwn d = false ∧ k d n) : WpE K w (tVar i) ds n k := by
  obtain ⟨d, h1, h2, h3⟩ := h
  exact e_var h1 h3 h2
theorem e_pen2X (h : ∃ p, w = some p ∧ ds[i]? = some (some (.raw (.ref p))) ∧ ∀ z : Int, 0 ≤ z → k (.int z) n) : WpE K w (tOp (rIx K) (tVar i) (tC (.int 2))) ds n k := by
  obtain ⟨p, h1, h2, h3⟩ := h
  exact e_pen2 h1 h2 h3
theorem e_pen1X (h : ∃ p, w = some p ∧ ds[i]? = some (some (.raw (.ref p))) ∧ ∀ z : Int, 0 ≤ z → z ≤ n → k (.int z) n) : WpE K w (tOp (rIx K) (tVar i) (tC (.int 1))) ds n k := by
  obtain ⟨p, h1, h2, h3⟩ := h
  exact e_pen1 h1 h2 h3
theorem e_pen0X (h : ∃ p, w = some p ∧ ds[i]? = some (some (.raw (.ref p))) ∧ ∀ ns : List Int, ns.length ≤ 63 → k (.lst (ns.map .int)) n) : WpE K w (tOp (rIx K) (tVar i) (tC (.int 0))) ds n k := by
  obtain ⟨p, h1, h2, h3⟩ := h
  exact e_pen0 h1 h2 h3
theorem s_pen2X (h : ∃ p, w = some p ∧ ds[i]? = some (some (.raw (.ref p))) ∧ WpE K w te ds n fun d n1 => ∃ z : Int, d = .int z ∧ 0 ≤ z ∧ ks.nx ds n1) : WpS K w (tAsg te (gSub (tVar i) (tC (.int 2)) rSetL)) ds n ks := by
  obtain ⟨p, h1, h2, h3⟩ := h
  exact s_pen2 h1 h2 h3
theorem s_pen1X (h : ∃ p, w = some p ∧ ds[i]? = some (some (.raw (.ref p))) ∧ WpE K w te ds n fun d n1 => ∃ z : Int, d = .int z ∧ 0 ≤ z ∧ z ≤ ((n1 + 1 : Nat) : Int) ∧ ks.nx ds (n1 + 1)) : WpS K w (tAsg te (gSub (tVar i) (tC (.int 1)) rSetL)) ds n ks := by
  obtain ⟨p, h1, h2, h3⟩ := h
  refine s_pen1 h1 h2 (h3.imp fun d n1 ⟨z, a, b, c, e⟩ => ⟨z, n1 + 1, a, b, c, e⟩)
theorem rd_modX {i j : Int} (h : 0 < j ∧ k (.int (i % j)) n) : RD K w rModU (.int i) (.int j) n k := rd_mod h.1 h.2
theorem rd_divX {i j : Int} (h : 0 < j ∧ j < 2 ^ 64 ∧ k (.int (i / j)) n) : RD K w rDivU (.int i) (.int j) n k := rd_div ⟨h.1, by
  have h1 := h.1
  have h2 := h.2.1
  have e : j.natAbs < 2 ^ 64 := by omega
  by_cases z : j.natAbs = 0
  · omega
  · exact Nat.lt_trans ((Nat.log2_lt z).mpr e) (by decide)⟩ h.2.2
theorem rd_mulX {i j : Int} (h : ((-(2 ^ 64) < i ∧ i < 2 ^ 64) ∨ (-(2 ^ 64) < j ∧ j < 2 ^ 64)) ∧ k (.int (i * j)) n) : RD K w rMulU (.int i) (.int j) n k := rd_mul (.inl h.1) h.2
theorem rd_powX {i j : Int} (h : (0 ≤ j ∧ j ≤ 1000000 ∧ i.natAbs < 2 ^ 64) ∧ k (.int (i ^ j.toNat)) n) : RD K w (rI CPow fun i j => .int (i ^ j.toNat)) (.int i) (.int j) n k := rd_pow h.1 h.2
theorem rd_ixLX {l : List D} {i : Int} (h : ∃ d, atI l i = some d ∧ k d n) : RD K w (rIx K) (.lst l) (.int i) n k := by
  obtain ⟨d, h1, h2⟩ := h
  exact rd_ixL h1 h2
theorem rd_ixTX {l : List D} {i : Int} (h : ∃ d, atI l i = some d ∧ k d n) : RD K w (rIx K) (.tup l) (.int i) n k := by
  obtain ⟨d, h1, h2⟩ := h
  exact rd_ixT h1 h2
theorem toPys_ints : ∀ ns : List Int, toPys (ns.map .int) = ns.map PyData.int
  | [] => rfl
  | i :: r => by
    show toPy (.int i) :: toPys (r.map .int) = .int i :: r.map PyData.int
    rw [toPys_ints r]; rfl
theorem pure_ints : ∀ ns : List Int, pureDs (ns.map .int) = true
  | [] => rfl
  | i :: r => by
    show (pureD (.int i) && pureDs (r.map .int)) = true
    rw [pure_ints r]; rfl
theorem canLay_ints : ∀ ns : List Int, PyData.canLayAll0 (ns.map PyData.int) = true
  | [] => rfl
  | i :: r => by
    show (PyData.canLay0 (.int i) && PyData.canLayAll0 (r.map PyData.int)) = true
    rw [canLay_ints r]; rfl
theorem shaped_ints (ns : List Int) : SeqAt.shaped (toPy (.lst (ns.map .int))) = true := by
  show SeqAt.shaped (.list (toPys (ns.map .int))) = true
  rw [toPys_ints]
  show (PyData.canLayAll0 (ns.map PyData.int) && decide (PyData.depth (.list (ns.map PyData.int)) ≤ 64)) = true
  rw [canLay_ints]
  have e : PyData.depth (.list (ns.map PyData.int)) = PyData.depthAll (ns.map PyData.int) + 1 := rfl
  rw [e, PyProof.Rows.depthAll_ints]
  rfl
theorem rd_neNilX {ns : List Int} (h : (ns ≠ [] → k (.bl true) n) ∧ (ns = [] → k (.bl false) n)) : RD K w (rNeU K) (.lst (ns.map .int)) (.lst []) n k := by
  refine rd_neD (pure_ints ns) rfl (shaped_ints ns) (shaped_ints []) ?_
  cases ns with
  | nil => exact h.2 rfl
  | cons i r => exact h.1 (by simp)
theorem rd_isI {i : Int} (hk : k (.bl false) n) : RD K w rIsU (.int i) .non n k := rd_is rfl hk
theorem rd_isL {l : List D} (hk : k (.bl false) n) : RD K w rIsU (.lst l) .non n k := rd_is rfl hk
theorem rd_isT {l : List D} (hk : k (.bl false) n) : RD K w rIsU (.tup l) .non n k := rd_is rfl hk
theorem rd_isS {l : Str} (hk : k (.bl false) n) : RD K w rIsU (.str l) .non n k := rd_is rfl hk
theorem rd_isNn (hk : k (.bl true) n) : RD K w rIsU .non .non n k := rd_is rfl hk
theorem rd_isNI {i : Int} (hk : k (.bl true) n) : RD K w rIsNU (.int i) .non n k := rd_isN rfl hk
theorem rd_isNL {l : List D} (hk : k (.bl true) n) : RD K w rIsNU (.lst l) .non n k := rd_isN rfl hk
theorem rd_isNT {l : List D} (hk : k (.bl true) n) : RD K w rIsNU (.tup l) .non n k := rd_isN rfl hk
theorem rd_isNS {l : Str} (hk : k (.bl true) n) : RD K w rIsNU (.str l) .non n k := rd_isN rfl hk
theorem rd_isNNn (hk : k (.bl false) n) : RD K w rIsNU .non .non n k := rd_isN rfl hk
theorem rd_ixAnyX {l : List D} {i : Int} (h : (0 ≤ i ∧ i < l.length) ∧ ∀ d, d ∈ l → l[i.toNat]? = some d → k d n) : RD K w (rIx K) (.lst l) (.int i) n k := by
  obtain ⟨⟨h1, h2⟩, h3⟩ := h
  obtain ⟨j, rfl⟩ := Int.eq_ofNat_of_zero_le h1
  have hj : j < l.length := by omega
  refine rd_ixL (atI_nat (j := j) (by simp [hj])) (h3 l[j] (List.getElem_mem hj) (by simp [hj]))
theorem rc_isiBX {d : D} {U : String} (h : ∃ T, tyD d = some T ∧ ∃ b, kitB T U = some b ∧ k (.bl b) n) : RC K w (rIsiU K) [d, .raw (.ty U)] n k := by
  obtain ⟨T, h1, b, h2, h3⟩ := h
  exact isi_bb h1 h2 h3
theorem kit_self {K : PySem.W.Frag} {v : Value} (h : (v == v) = true) : PySem.W.kitOne K v v = some true := by
  unfold PySem.W.kitOne
  rw [if_pos h]
theorem kit_any2 {K : PySem.W.Frag} {T U1 U2 : String} {b1 b2 : Bool} (h1 : kitB T U1 = some b1) (h2 : kitB T U2 = some b2) : PySem.W.kitAny K (.type T) [.type U1, .type U2] = some (b1 || b2) := by
  unfold PySem.W.kitAny
  rw [kit_ty h1]
  cases b1 with
  | true => rfl
  | false =>
    show (match PySem.W.kitOne K (.type T) (.type U2) with | some true => some true | some false => PySem.W.kitAny K (.type T) [] | none => none) = _
    rw [kit_ty h2]
    cases b2 <;> rfl
theorem e_isi2X {U1 U2 : String} (h : WpE K w te ds n fun d n1 => ∃ T, tyD d = some T ∧ ∃ b1, kitB T U1 = some b1 ∧ ∃ b2, kitB T U2 = some b2 ∧ k (.bl (b1 || b2)) n1) : WpE K w (tIsi2 K te (.ty U1) (.ty U2)) ds n k :=
  e_isi2 (t := fun _ => .none) (.ty U1) (.ty U2) (h.imp fun d n1 ⟨T, h1, b1, h2, b2, h3, hk⟩ => ⟨.type T, b1 || b2, fun S H v r => rp_ty r h1, kit_any2 h2 h3, hk⟩)
theorem rd_ixIntsX {ns : List Int} {i : Int} (h : (0 ≤ i ∧ i < ns.length) ∧ ∀ z : Int, z ∈ ns → ns[i.toNat]? = some z → k (.int z) n) : RD K w (rIx K) (.lst (ns.map .int)) (.int i) n k := by
  obtain ⟨⟨h1, h2⟩, h3⟩ := h
  obtain ⟨j, rfl⟩ := Int.eq_ofNat_of_zero_le h1
  have hj : j < ns.length := by omega
  refine rd_ixL (atI_nat (j := j) ?_) (h3 ns[j] (List.getElem_mem hj) (by simp [hj]))
  rw [List.getElem?_map, List.getElem?_eq_getElem hj]; rfl
end
end DW
set_option Elab.async false
set_option maxRecDepth 100000
set_option maxHeartbeats 4000000
set_option linter.all false
set_option autoImplicit false
/-! the pen's cells within the draw -/
namespace DW
variable [Tb]
open PySem PySem.Spec PyProof.Rows L2
section
variable {K : PySem.W.Frag} {w : Option Addr} {S : Addr → Bool} {H H0 H1 H2 H' : Hp} {n m : Nat} {σ : L2.St} {ds : List (Option D)} {ta tb te : TE} {i : Nat} {k : Kn} {ks : KS} {p c : Addr} {ix left : Int} {ns : List Int}
def subS (S : Addr → Bool) (p : Addr) : Addr → Bool := fun a => S a && !decide (a = p)
/-- an expression that reads the pen as a plain list and gives a flat value -/
theorem pen_eval {P : D → Prop} {Q : VK} (ok : OkW K (some p) S H n) (g1 : H p = some (.lst [.ref c, .int ix, .int left])) (g2 : cut S H c = some (.lst (ns.map V.int))) (re : RpE K (some p) S H0 H σ ds) (hi : ds[i]? = some (some (.raw (.ref p))))
    (h : WpE K none te (ds.set i (some (.lst [.lst (ns.map .int), .int ix, .int left]))) n fun d _ => flatD d = true ∧ P d)
    (hq : ∀ (d : D) (H' : Hp), P d → Pres none H H' → OkW K (some p) S H' n → Q (vD d) H') : te σ H Q := by
  have hS := (ok.1 p rfl).1
  have ex : Ex (cut S H) (cut (subS S p) H) := cut_sub (S' := S) (S := subS S p) fun a ha => by
    unfold subS at ha
    simp at ha; exact ha.1
  have pf : subS S p p = false := by unfold subS; simp
  obtain ⟨v0, h1, h2⟩ := re.get i _ hi rfl
  cases h2
  have hlt : i < ds.length := (List.getElem?_eq_some_iff.mp hi).1
  have rp : Rp K (cut (subS S p) H) (.ref p) (.lst [.lst (ns.map .int), .int ix, .int left]) :=
    .lst (cut_mk pf g1) (.cons (.lst (ex _ _ g2) (Rps.of_ints ns)) (.cons (.int _) (.cons (.int _) .nil)))
  have rs : RpE K none (subS S p) (fun a => if a = p then H p else H0 a) H σ ds := by
    refine ⟨re.len, fun j d hj o => ?_, fun j l hj => ?_, re.dis⟩
    · obtain ⟨v, a1, a2⟩ := re.get j d hj o
      exact ⟨v, a1, a2.mono ex⟩
    · obtain ⟨a, xs, b1, b2, b3, b4, b5, b6⟩ := re.own j l hj
      have ne : a ≠ p := fun q => b3.1 (by rw [q])
      exact ⟨a, xs, b1, by unfold subS; simp [b2, ne], ⟨by simp, b3.2⟩, by simp [ne, b4], b5, b6.mono ex⟩
  have rs2 := rs.set (i := i) rp rfl
  have e : σ.set i (some (.ref p)) = σ := by
    apply List.ext_getElem?
    intro j
    by_cases q : i = j
    · subst q
      rw [List.getElem?_set_self (by rw [re.len]; exact hlt)]; exact h1.symm
    · rw [List.getElem?_set_ne q]
  rw [e] at rs2
  have pt := pen_tab ok rfl
  refine h (subS S p) _ σ H Q rs2 ⟨fun q hq => (nomatch hq), fun a ha => ok.2 a (by unfold subS at ha; simp at ha; exact ha.1), fun a ha => ⟨?_, (ok.3 a ha).2⟩, fun a ha => ok.4 a (by unfold subS at ha; simp at ha; exact ha.1)⟩ fun v H' d n' ⟨hf, hP⟩ pr ok' r => ?_
  · have ne : a ≠ p := fun q => by rw [q, pt] at ha; cases ha
    unfold subS; simp [(ok.3 a ha).1, ne]
  obtain ⟨e1, _⟩ := rp_flat r hf
  subst e1
  refine hq d H' hP pr ⟨fun q hq => ⟨(ok.1 q hq).1, ?_⟩, fun a ha => ?_, fun a ha => ⟨(ok.3 a ha).1, (ok'.3 a ha).2⟩, fun a ha => ?_⟩
  · obtain ⟨c, ix, left, ns, h1, h2, h3⟩ := (ok.1 q hq).2
    obtain ⟨z1, z2⟩ := cut_some h2
    exact ⟨c, ix, left, ns, pr.go _ _ ⟨by simp, pen_tab ok hq⟩ h1 rfl, cut_mk z1 (pr.go _ _ ⟨by simp, (ok.w_ne z1).2⟩ z2 rfl), h3⟩
  · obtain ⟨o, ho⟩ := ok.2 a ha
    cases z : H' a with
    | some o' => exact ⟨o', rfl⟩
    | none => rw [pr.back a z] at ho; cases ho
  · by_cases q : a = p
    · subst q; exact .inr ⟨_, pr.go _ _ ⟨by simp, pt⟩ g1 rfl, rfl⟩
    · exact ok'.4 a (by unfold subS; simp [ha, q])
theorem keep_pen (ok : OkW K (some p) S H n) (g1 : H p = some (.lst [.ref c, .int ix, .int left])) (g2 : cut S H c = some (.lst (ns.map V.int))) (kp : Pres none H H') : H' p = some (.lst [.ref c, .int ix, .int left]) ∧ cut S H' c = some (.lst (ns.map V.int)) := by
  obtain ⟨z1, z2⟩ := cut_some g2
  exact ⟨kp.go _ _ ⟨by simp, pen_tab ok rfl⟩ g1 rfl, cut_mk z1 (kp.go _ _ ⟨by simp, (ok.w_ne z1).2⟩ z2 rfl)⟩
/-- if pen[0] != []: cell = pen[0][int(at) % len(pen[0])] -/
theorem s_cell {x : Int} (h : ∃ q, w = some q ∧ ds[0]? = some (some (.raw (.ref q))) ∧ ds[3]? = some (some (.int x)) ∧ (∀ z : Int, ks.nx (ds.set 4 (some (.int z))) n) ∧ ks.nx ds n) :
    WpS K w (tIfS (tTest (tOp (rNeU K) (tOp (rIx K) (tVar 0) (tC (.int 0))) (tLst tNil))) (tAsg (tOp (rIx K) (tOp (rIx K) (tVar 0) (tC (.int 0))) (tOp rModU (tCB rIntU (tCons (tVar 3) tNil)) (tCB (rLenU K) (tCons (tOp (rIx K) (tVar 0) (tC (.int 0))) tNil)))) (gName 4)) tNext) ds n ks := fun S0 H0 S σ H E b r e => by
  obtain ⟨q, rfl, h0, h3, hz, hn⟩ := h
  obtain ⟨hS, c, ix, left, ns, g1, g2, g3, g4, g5, g6⟩ := b.ok.1 q rfl
  have hlt : 0 < ds.length := (List.getElem?_eq_some_iff.mp h0).1
  have d0 : (ds.set 0 (some (D.lst [.lst (ns.map .int), .int ix, .int left])))[0]? = some (some (D.lst [.lst (ns.map .int), .int ix, .int left])) := List.getElem?_set_self hlt
  have d3 : (ds.set 0 (some (D.lst [.lst (ns.map .int), .int ix, .int left])))[3]? = some (some (.int x)) := by rw [List.getElem?_set_ne (by decide)]; exact h3
  show (tOp (rNeU K) (tOp (rIx K) (tVar 0) (tC (.int 0))) (tLst tNil)) σ H _
  refine pen_eval (P := fun d => d = .bl (!decide (ns = []))) b.ok g1 g2 r h0 ?_ fun d H1 hP kp ok1 => ?_
  · refine e_op (e_op (e_var d0 (e_int (rd_ixL rfl (e_lst (a_nil ⟨by decide, rd_neNilX ⟨fun z => ⟨rfl, by simp [z]⟩, fun z => ⟨rfl, by simp [z]⟩⟩⟩))))))
  · subst hP
    refine ⟨!decide (ns = []), rfl, ?_⟩
    have pr1 : Pres (some q) H H1 := ⟨fun a o hf z t => kp.go a o ⟨by simp, hf.2⟩ z t, kp.back⟩
    by_cases hns : ns = []
    · rw [show (!decide (ns = [])) = false by simp [hns]]
      exact e.nx S σ H1 ds n hn (b.up pr1 ok1) (r.up b.ok pr1) (ex_cut b.ok pr1)
    · rw [show (!decide (ns = [])) = true by simp [hns]]
      obtain ⟨k1, k2⟩ := keep_pen b.ok g1 g2 kp
      have hl0 : 0 < ns.length := List.length_pos_iff.mpr hns
      show (tOp (rIx K) (tOp (rIx K) (tVar 0) (tC (.int 0))) (tOp rModU (tCB rIntU (tCons (tVar 3) tNil)) (tCB (rLenU K) (tCons (tOp (rIx K) (tVar 0) (tC (.int 0))) tNil)))) σ H1 _
      refine pen_eval (P := fun d => ∃ z : Int, d = .int z) ok1 k1 k2 (r.up b.ok pr1) h0 ?_ fun d H2 hP kp2 ok2 => ?_
      · refine e_op (e_op (e_var d0 (e_int (rd_ixL rfl ?_))))
        refine e_op (e_cb (a_cons (e_var d3 (a_nil (rc_int ?_)))))
        refine e_cb (a_cons (e_op (e_var d0 (e_int (rd_ixL rfl ?_)))))
        refine a_nil (rc_lenL (rd_modX ⟨?_, rd_ixIntsX ⟨⟨?_, ?_⟩, fun z _ _ => ⟨rfl, z, rfl⟩⟩⟩))
        · rw [List.length_map]; omega
        · exact Int.emod_nonneg _ (by rw [List.length_map]; omega)
        · rw [List.length_map]; exact Int.emod_lt_of_pos _ (by omega)
      · obtain ⟨z, rfl⟩ := hP
        have pr2 : Pres (some q) H1 H2 := ⟨fun a o hf z t => kp2.go a o ⟨by simp, hf.2⟩ z t, kp2.back⟩
        exact e.nx S _ H2 _ n (hz z) ((b.up pr1 ok1).up pr2 ok2) (((r.up b.ok pr1).up ok1 pr2).set (.int z) rfl) ((ex_cut b.ok pr1).trans (ex_cut ok1 pr2))
theorem s_cellX (h : ∃ q, w = some q ∧ ds[0]? = some (some (.raw (.ref q))) ∧ ∃ x, ds[3]? = some (some (.int x)) ∧ (∀ z : Int, ks.nx (ds.set 4 (some (.int z))) n) ∧ ks.nx ds n) :
    WpS K w (tIfS (tTest (tOp (rNeU K) (tOp (rIx K) (tVar 0) (tC (.int 0))) (tLst tNil))) (tAsg (tOp (rIx K) (tOp (rIx K) (tVar 0) (tC (.int 0))) (tOp rModU (tCB rIntU (tCons (tVar 3) tNil)) (tCB (rLenU K) (tCons (tOp (rIx K) (tVar 0) (tC (.int 0))) tNil)))) (gName 4)) tNext) ds n ks := by
  obtain ⟨q, h1, h2, x, h3⟩ := h
  exact s_cell ⟨q, h1, h2, h3⟩
end
end DW
set_option Elab.async false
set_option maxRecDepth 100000
set_option maxHeartbeats 4000000
set_option linter.all false
set_option autoImplicit false
/-! comprehensions over ints, pure ones -/
namespace DW
variable [Tb]
open PySem PySem.Spec PyProof.Rows L2
section
variable {K : PySem.W.Frag} {w : Option Addr} {n m : Nat} {ds : List (Option D)} {ta tb te : TE} {i : Nat} {k : Kn} {ks : KS} {wi : TI} {tt : TT}
theorem t_yes {k : Bool → Nat → Prop} (h : k true n) : WpT K w tYes ds n k := fun S H0 σ H Q re ok p => p true H n h Pres.refl ok
theorem WpI.imp {k k' : List D → Nat → Prop} (h : WpI K w wi ds n k) (hk : ∀ l n, k l n → k' l n) : WpI K w wi ds n k' := fun S H0 σ H R re ok p => h S H0 σ H R re ok fun J H1 items n1 hk1 pr ok1 wk => p J H1 items n1 (hk _ _ hk1) pr ok1 wk
theorem WpT.imp {k k' : Bool → Nat → Prop} (h : WpT K w tt ds n k) (hk : ∀ l n, k l n → k' l n) : WpT K w tt ds n k' := fun S H0 σ H R re ok p => h S H0 σ H R re ok fun b H1 n1 hk1 pr ok1 => p b H1 n1 (hk _ _ hk1) pr ok1
theorem f_lcI {k : List D → Nat → Prop} {P : Int → Bool} {f : Int → D} (h : WpI K w wi ds n fun items n1 => ∃ ns : List Int, items = ns.map .int ∧ ns.length ≤ 100000 ∧
      (∀ z, z ∈ ns → WpT K w tt (ds.set i (some (.int z))) n1 fun b n2 => b = P z ∧ n2 = n1 ∧ (b = true → WpE K w te (ds.set i (some (.int z))) n1 fun d n3 => d = f z ∧ n3 = n1)) ∧ k ((ns.filter P).map f) n1) :
    WpF K w (tLc wi (gName i) tt te [i]) ds n k := by
  refine f_lc (h.imp fun items n1 ⟨ns, e, hz, hb, hk⟩ => ?_)
  subst e
  refine ⟨by rw [List.length_map]; exact hz, fun j acc n' => n' = n1 ∧ acc = ((ns.take j).filter P).map f, ⟨rfl, by simp⟩, fun j x acc n' hx ⟨e1, e2⟩ => ?_, fun acc n' ⟨e1, e2⟩ => ?_⟩
  · subst e1 e2
    rw [List.getElem?_map] at hx
    obtain ⟨z, hz1, hz2⟩ := Option.map_eq_some_iff.mp hx
    subst hz2
    have hmem := List.mem_of_getElem? hz1
    have hj : j < ns.length := (List.getElem?_eq_some_iff.mp hz1).1
    have hgz : ns[j] = z := (List.getElem?_eq_some_iff.mp hz1).2
    have et : ns.take (j + 1) = ns.take j ++ [z] := by rw [List.take_succ, hz1]; rfl
    have ed : (dwipe ds [i]).set i (some (.int z)) = ds.set i (some (.int z)) := by
      show ((dwipe ds []).set i none).set i _ = _
      rw [List.set_set]; rfl
    refine ⟨_, g_name rfl, ?_⟩
    rw [ed]
    refine (hb z hmem).imp fun b n2 ⟨e1, e2, hb2⟩ => ?_
    subst e2
    refine ⟨fun hbt => (hb2 hbt).imp fun d n3 ⟨e3, e4⟩ => ⟨e4, ?_⟩, fun hbf => ⟨rfl, ?_⟩⟩
    · rw [et, List.filter_append, List.map_append, e3]
      congr 1
      rw [List.filter_cons, ← e1, hbt]; rfl
    · rw [et, List.filter_append, List.map_append]
      rw [show List.filter P [z] = [] by rw [List.filter_cons, ← e1, hbf]; rfl]
      simp
  · subst e1 e2
    rw [List.length_map, List.take_length]
    exact hk
theorem e_lcIX (h : ∃ (P : Int → Bool) (f : Int → D), WpI K w wi ds n fun items n1 => ∃ ns : List Int, items = ns.map .int ∧ ns.length ≤ 100000 ∧
      (∀ z, z ∈ ns → WpT K w tt (ds.set i (some (.int z))) n1 fun b n2 => b = P z ∧ n2 = n1 ∧ (b = true → WpE K w te (ds.set i (some (.int z))) n1 fun d n3 => d = f z ∧ n3 = n1)) ∧ k (.lst ((ns.filter P).map f)) n1) :
    WpE K w (tLc wi (gName i) tt te [i]) ds n k := by
  obtain ⟨P, f, h⟩ := h
  exact WpF.toE (k := k) (f_lcI h)
/-- iterables that stand in a slot -/
theorem i_listV {j : Nat} {k : List D → Nat → Prop} (h : ∃ l, ds[j]? = some (some (.lst l)) ∧ k l n) : WpI K w (iSeq K (tVar j)) ds n k := by
  obtain ⟨l, h1, h2⟩ := h
  exact i_list (e_var h1 ⟨l, rfl, h2⟩)
theorem i_tupV {j : Nat} {k : List D → Nat → Prop} (h : ∃ l, ds[j]? = some (some (.tup l)) ∧ k l n) : WpI K w (iSeq K (tVar j)) ds n k := by
  obtain ⟨l, h1, h2⟩ := h
  exact i_tup (e_var h1 ⟨l, rfl, h2⟩)
theorem e_slLV {tl th : TO} {j : Nat} (h : ∃ l, ds[j]? = some (some (.lst l)) ∧ WpO K w tl ds n fun lo n2 => WpO K w th ds n2 fun hi n3 => k (.lst (cutD l lo hi)) n3) : WpE K w (tSl (rSlU K) (tVar j) tl th) ds n k := by
  obtain ⟨l, h1, h2⟩ := h
  exact e_slL (e_var h1 ⟨l, rfl, h2⟩)
theorem e_slTV {tl th : TO} {j : Nat} (h : ∃ l, ds[j]? = some (some (.tup l)) ∧ WpO K w tl ds n fun lo n2 => WpO K w th ds n2 fun hi n3 => k (.tup (cutD l lo hi)) n3) : WpE K w (tSl (rSlU K) (tVar j) tl th) ds n k := by
  obtain ⟨l, h1, h2⟩ := h
  exact e_slT (e_var h1 ⟨l, rfl, h2⟩)
theorem cutD_to {l : List D} {j : Nat} (h : j ≤ l.length) : cutD l none (some (j : Int)) = l.take j := by
  unfold cutD
  rw [HT.sIx_none, HT.sIx_nat, Nat.min_eq_left h]
  simp
theorem cutD_from {l : List D} {j : Nat} (h : j ≤ l.length) : cutD l (some (j : Int)) none = l.drop j := by
  unfold cutD
  rw [HT.sIx_none, HT.sIx_nat, Nat.min_eq_left h]
  rw [List.take_of_length_le (by rw [List.length_drop]; omega)]
theorem rc_allX {ns : List Int} {q : Int → Bool} (hk : k (.bl (ns.all q)) n) : RC K w (rAll K) [.lst (ns.map fun z => D.bl (q z))] n k := by
  have e : (ns.map fun z => D.bl (q z)) = (ns.map q).map D.bl := by rw [List.map_map]; rfl
  rw [e]
  refine rc_all ?_
  rw [List.all_map]
  exact hk
theorem rc_anyX {ns : List Int} {q : Int → Bool} (hk : k (.bl (ns.any q)) n) : RC K w (rAny K) [.lst (ns.map fun z => D.bl (q z))] n k := by
  have e : (ns.map fun z => D.bl (q z)) = (ns.map q).map D.bl := by rw [List.map_map]; rfl
  rw [e]
  refine rc_any ?_
  rw [List.any_map]
  exact hk
/-- all([test(z) for z in zs]), the zip of zs and zs[1:] with a test of the pair -/
theorem f_lcZip {k : List D → Nat → Prop} {i j : Nat} {f : Int → Int → D} (hij : i ≠ j) (h : WpI K w wi ds n fun items n1 => ∃ ps : List (Int × Int), items = ps.map (fun p => D.tup [.int p.1, .int p.2]) ∧ ps.length ≤ 100000 ∧
      (∀ p, p ∈ ps → WpE K w te ((((dwipe ds [i, j]).set i (some (.int p.1))).set j (some (.int p.2)))) n1 fun d n3 => d = f p.1 p.2 ∧ n3 = n1) ∧ k (ps.map fun p => f p.1 p.2) n1) :
    WpF K w (tLc wi (gTup K 2 (gCons (gName i) (gCons (gName j) gNil))) tYes te [i, j]) ds n k := by
  refine f_lc (h.imp fun items n1 ⟨ps, e, hz, hb, hk⟩ => ?_)
  subst e
  refine ⟨by rw [List.length_map]; exact hz, fun j acc n' => n' = n1 ∧ acc = (ps.take j).map fun p => f p.1 p.2, ⟨rfl, by simp⟩, fun q x acc n' hx ⟨e1, e2⟩ => ?_, fun acc n' ⟨e1, e2⟩ => ?_⟩
  · subst e1 e2
    rw [List.getElem?_map] at hx
    obtain ⟨z, hz1, hz2⟩ := Option.map_eq_some_iff.mp hx
    subst hz2
    have hmem := List.mem_of_getElem? hz1
    have et : ps.take (q + 1) = ps.take q ++ [z] := by rw [List.take_succ, hz1]; rfl
    refine ⟨_, g_tup (gs_cons (g_name rfl) (gs_cons (g_name rfl) gs_nil)) rfl, t_yes ⟨fun _ => (hb z hmem).imp fun d n3 ⟨e3, e4⟩ => ⟨e4, ?_⟩, fun z => (nomatch z)⟩⟩
    rw [et, List.map_append, e3]; rfl
  · subst e1 e2
    rw [List.length_map, List.take_length]
    exact hk
end
end DW
namespace DW
variable [Tb]
open PySem PySem.Spec PyProof.Rows L2
section
variable {K : PySem.W.Frag} {w : Option Addr} {n m : Nat} {ds : List (Option D)} {k : Kn}
theorem inV_ints {i : Int} : ∀ ns : List Int, inV (vD (.int i)) ((ns.map D.int).map vD) = decide (i ∈ ns)
  | [] => rfl
  | a :: r => by
    have ih := inV_ints (i := i) r
    unfold inV at ih ⊢
    rw [List.map_cons, List.map_cons, List.any_cons, ih]
    show (eqV (.int a) (.int i) || decide (i ∈ r)) = decide (i ∈ a :: r)
    have e : eqV (.int a) (.int i) = decide (a = i) := by
      first
        | rfl
        | (unfold eqV; by_cases h : a = i <;> simp [h])
    rw [e]
    by_cases h : a = i
    · subst h; simp
    · have h' : ¬ i = a := fun z => h z.symm
      simp [h, h']
theorem rd_inIntsX {ns : List Int} {i : Int} (hk : k (.bl (decide (i ∈ ns))) n) : RD K w (rInU K false) (.int i) (.lst (ns.map .int)) n k := by
  refine RD.inU (rd_inL rfl (by simp [flatD]) ?_)
  rw [if_neg (by decide), inV_ints]
  exact hk
/-- what of the text a class must have whose instances' fields are read and written -/
structure ClT (K : PySem.W.Frag) (C : Addr) (fs : List Str) : Prop where
  cls : Cls K C
  na : ∀ f ∈ fs, NoAttr K C f
/-- o.f, o in a slot, an instance with all fields known -/
theorem e_fldX {f : Str} {j : Nat} (h : ∃ C ns l, ds[j]? = some (some (.obj C ns l)) ∧ ClT K C ns ∧ f ∈ ns ∧ ∃ e, (ns.zip l).lookup f = some e ∧ k e n) : WpE K w (tFld K (tVar j) f) ds n k := by
  obtain ⟨C, ns, l, h1, T, hf, e, h2, h3⟩ := h
  exact e_fld (e_var h1 ⟨C, ns, l, e, rfl, T.cls, T.na f hf, h2, h3⟩)
end
end DW
set_option Elab.async false
set_option maxRecDepth 100000
set_option maxHeartbeats 4000000
set_option linter.all false
set_option autoImplicit false
/-! comprehensions over anything; own lists frozen -/
namespace DW
variable [Tb]
open PySem PySem.Spec PyProof.Rows L2
section
variable {K : PySem.W.Frag} {w : Option Addr} {S S0 : Addr → Bool} {H H0 : Hp} {n m : Nat} {ds : List (Option D)} {ta tb te : TE} {i : Nat} {k : Kn} {ks : KS} {wi : TI} {tt : TT} {t : TS}
theorem f_lcG {α : Type} {φ : α → D} (hφ : ∀ x, isOwn (φ x) = false) {k : List D → Nat → Prop} {P : α → Bool} {f : α → D} (h : WpI K w wi ds n fun items n1 => ∃ ns : List α, items = ns.map φ ∧ ns.length ≤ 100000 ∧
      (∀ z, z ∈ ns → WpT K w tt (ds.set i (some (φ z))) n1 fun b n2 => b = P z ∧ n2 = n1 ∧ (b = true → WpE K w te (ds.set i (some (φ z))) n1 fun d n3 => d = f z ∧ n3 = n1)) ∧ k ((ns.filter P).map f) n1) :
    WpF K w (tLc wi (gName i) tt te [i]) ds n k := by
  refine f_lc (h.imp fun items n1 ⟨ns, e, hz, hb, hk⟩ => ?_)
  subst e
  refine ⟨by rw [List.length_map]; exact hz, fun j acc n' => n' = n1 ∧ acc = ((ns.take j).filter P).map f, ⟨rfl, by simp⟩, fun j x acc n' hx ⟨e1, e2⟩ => ?_, fun acc n' ⟨e1, e2⟩ => ?_⟩
  · subst e1 e2
    rw [List.getElem?_map] at hx
    obtain ⟨z, hz1, hz2⟩ := Option.map_eq_some_iff.mp hx
    subst hz2
    have hmem := List.mem_of_getElem? hz1
    have et : ns.take (j + 1) = ns.take j ++ [z] := by rw [List.take_succ, hz1]; rfl
    have ed : (dwipe ds [i]).set i (some (φ z)) = ds.set i (some (φ z)) := by
      show ((dwipe ds []).set i none).set i _ = _
      rw [List.set_set]; rfl
    refine ⟨_, g_name (hφ z), ?_⟩
    rw [ed]
    refine (hb z hmem).imp fun b n2 ⟨e1, e2, hb2⟩ => ?_
    subst e2
    refine ⟨fun hbt => (hb2 hbt).imp fun d n3 ⟨e3, e4⟩ => ⟨e4, ?_⟩, fun hbf => ⟨rfl, ?_⟩⟩
    · rw [et, List.filter_append, List.map_append, e3]
      congr 1
      rw [List.filter_cons, ← e1, hbt]; rfl
    · rw [et, List.filter_append, List.map_append]
      rw [show List.filter P [z] = [] by rw [List.filter_cons, ← e1, hbf]; rfl]
      simp
  · subst e1 e2
    rw [List.length_map, List.take_length]
    exact hk
theorem e_lcGX {α : Type} (h : ∃ (φ : α → D) (P : α → Bool) (f : α → D), (∀ x, isOwn (φ x) = false) ∧ WpI K w wi ds n fun items n1 => ∃ ns : List α, items = ns.map φ ∧ ns.length ≤ 100000 ∧
      (∀ z, z ∈ ns → WpT K w tt (ds.set i (some (φ z))) n1 fun b n2 => b = P z ∧ n2 = n1 ∧ (b = true → WpE K w te (ds.set i (some (φ z))) n1 fun d n3 => d = f z ∧ n3 = n1)) ∧ k (.lst ((ns.filter P).map f)) n1) :
    WpE K w (tLc wi (gName i) tt te [i]) ds n k := by
  obtain ⟨φ, P, f, h0, h⟩ := h
  exact WpF.toE (k := k) (f_lcG h0 h)
/-- an own list that is changed no more -/
theorem s_freeze {l : List D} (hi : ds[i]? = some (some (.own l))) (h : WpS K w t (ds.set i (some (.lst l))) n ks) : WpS K w t ds n ks := fun S0 H0 S σ H E b r e => by
  obtain ⟨a, xs, h1, h2, h3, h4, h5, h6⟩ := r.own i l hi
  have hlt : i < ds.length := (List.getElem?_eq_some_iff.mp hi).1
  have sub : ∀ c, subS S a c = true → S c = true := fun c hc => by unfold subS at hc; simp at hc; exact hc.1
  have ex : Ex (cut S H) (cut (subS S a) H) := cut_sub sub
  have af : subS S a a = false := by unfold subS; simp
  have aS0 : S0 a = false := by
    cases q : S0 a with
    | false => rfl
    | true =>
      obtain ⟨o, z⟩ := b.old a q
      rw [h4] at z; cases z
  have mem : ∀ c, c ≠ a → S c = true → subS S a c = true := fun c hc z => by unfold subS; simp [z, hc]
  have b' : Base w K S0 H0 (subS S a) H n := by
    refine ⟨b.pres, b.ok.less sub (fun p hp => mem p (fun q => h3.1 (by rw [hp, q])) (b.ok.1 p hp).1) (fun c hc => mem c (fun q => by subst q; rw [h3.2] at hc; cases hc) (b.ok.3 c hc).1), fun c hc => mem c (fun q => by rw [q, aS0] at hc; cases hc) (b.sub c hc), fun c hc => b.new c (sub c hc), b.pen, b.old, b.tab⟩
  have rp : Rp K (cut (subS S a) H) (.ref a) (.lst l) := .lst (cut_mk af h5) (h6.mono ex)
  have r' : RpE K w (subS S a) H0 H (σ.set i (some (.ref a))) (ds.set i (some (.lst l))) := by
    refine ⟨by simp [r.len], fun j d hj o => ?_, fun j m hj => ?_, fun j q l1 l2 c hjq g1 g2 g3 => ?_⟩
    · by_cases hij : i = j
      · subst hij
        rw [List.getElem?_set_self hlt] at hj; cases hj
        exact ⟨.ref a, by rw [List.getElem?_set_self (by rw [r.len]; exact hlt)], rp⟩
      · rw [List.getElem?_set_ne hij] at hj ⊢
        obtain ⟨v, g1, g2⟩ := r.get j d hj o
        exact ⟨v, g1, g2.mono ex⟩
    · by_cases hij : i = j
      · subst hij
        rw [List.getElem?_set_self hlt] at hj; cases hj
      · rw [List.getElem?_set_ne hij] at hj ⊢
        obtain ⟨c, ys, g1, g2, g3, g4, g5, g6⟩ := r.own j m hj
        have ne : c ≠ a := fun q => by
          subst q
          exact r.dis i j l m c hij hi hj h1 g1
        exact ⟨c, ys, g1, mem c ne g2, g3, g4, g5, g6.mono ex⟩
    · have nj : i ≠ j := fun z => by
        subst z
        rw [List.getElem?_set_self hlt] at g1; cases g1
      have nq : i ≠ q := fun z => by
        subst z
        rw [List.getElem?_set_self hlt] at g2; cases g2
      rw [List.getElem?_set_ne nj] at g1 g3
      rw [List.getElem?_set_ne nq] at g2 ⊢
      exact r.dis j q l1 l2 c hjq g1 g2 g3
  have eσ : σ.set i (some (.ref a)) = σ := by
    apply List.ext_getElem?
    intro j
    by_cases q : i = j
    · subst q
      rw [List.getElem?_set_self (by rw [r.len]; exact hlt)]; exact h1.symm
    · rw [List.getElem?_set_ne q]
  rw [eσ] at r'
  exact h S0 H0 (subS S a) σ H E b' r' (e.from ex)
theorem s_appX (h : ∃ l, ds[i]? = some (some (.own l)) ∧ WpE K w te ds n fun d n1 => l.length < 100000 ∧ ks.nx (ds.set i (some (.own (l ++ [d])))) n1) : WpS K w (tDrop (tBM K "list" rAppend (tVar i) (tCons te tNil))) ds n ks := by
  obtain ⟨l, h1, h2⟩ := h
  exact s_app h1 h2
theorem inV_strs {x : Str} : ∀ xs : List Str, inV (vD (.str x)) ((xs.map D.str).map vD) = decide (x ∈ xs)
  | [] => rfl
  | a :: r => by
    have ih := inV_strs (x := x) r
    unfold inV at ih ⊢
    rw [List.map_cons, List.map_cons, List.any_cons, ih]
    show (eqV (.str a) (.str x) || decide (x ∈ r)) = decide (x ∈ a :: r)
    have e : eqV (.str a) (.str x) = decide (a = x) := by
      first
        | rfl
        | (unfold eqV; by_cases h : a = x <;> simp [h])
    rw [e]
    by_cases h : a = x
    · subst h; simp
    · have h' : ¬ x = a := fun z => h z.symm
      simp [h, h']
theorem rd_ninStrs {x : Str} {xs : List Str} (hk : k (.bl (!decide (x ∈ xs))) n) : RD K w (rInU K true) (.str x) (.tup (xs.map .str)) n k := by
  refine RD.inU (rd_inT rfl (by simp [flatD]) ?_)
  rw [if_pos rfl, inV_strs]
  exact hk
theorem rd_addLX {i j : List D} (h : i.length + j.length ≤ 100000 ∧ k (.lst (i ++ j)) n) : RD K w (rAddU K) (.lst i) (.lst j) n k := rd_addL h.1 h.2
theorem rd_addTX {i j : List D} (h : i.length + j.length ≤ 100000 ∧ k (.tup (i ++ j)) n) : RD K w (rAddU K) (.tup i) (.tup j) n k := rd_addT h.1 h.2
theorem rd_addSX {i j : Str} (h : i.length + j.length ≤ 100000 ∧ k (.str (i ++ j)) n) : RD K w (rAddU K) (.str i) (.str j) n k := rd_addS h.1 h.2
theorem rgD_ints (lo : Int) (c : Nat) : rgD lo c = ((List.range c).map fun i => lo + (i : Nat)).map D.int := by unfold rgD; rw [List.map_map]; rfl
end
end DW
set_option Elab.async false
set_option maxRecDepth 100000
set_option maxHeartbeats 4000000
set_option linter.all false
set_option autoImplicit false
/-! the law's own call, where the law asks for a repr: it stands at the caller's place, no container is being told there -/
namespace DW
variable [Tb]
open PySem PySem.Spec PyProof.Rows L2

/-- a def's promise at the caller's place alone; Ps: the tables that may grow -/
def AtCaller (P : Program) (w : World) (K : PySem.W.Frag) (mg : Str → Option Value) (Ps : List Addr) (fa : Addr) (sp : Sp) : Prop :=
  ∀ (base : Heap) (s : Shared) (H : Hp) (us : List Value) (vs : List V) (Q : VK) (E : XK), (∀ T ∈ Ps, base.BuiltinsAt mg T ∧ mainGlobals ≠ T) → Env0 P w K mg base callerA [] s H → Vals vs us → sp vs H Q E → codeAny (model P w) callerA (.call (.ref fa) ⟨us, []⟩) (CR CX0 [] P w H s Q E) s
abbrev emptyTab : Obj := { cls := .none, data := .fields #[] }
/-- the tables are tracked, too -/
def withTabs (H : Hp) (Ps : List Addr) : Hp := fun b => if b ∈ Ps then some (.tbl #[]) else H b
section
variable {P : Program} {w : World} {K : PySem.W.Frag} {mg mb : Str → Option Value} {fa a : Addr} {sp : Sp} {s₁ : Shared} {vs : List Value} {ns : List Int} {Ps : List Addr}
theorem wt_in {H : Hp} {b : Addr} (h : b ∈ Ps) : withTabs H Ps b = some (.tbl #[]) := if_pos h
theorem wt_out {H : Hp} {b : Addr} (h : b ∉ Ps) : withTabs H Ps b = H b := if_neg h
/-- where the script stands: it is tracked, or an object of the module -/
theorem script_heap (KX : K.In s₁.heap) (ha : s₁.heap.get? a = some { cls := .type "list", data := .seq vs.toArray }) (hi : IntsAre vs ns) (hl : ns.length ≤ sizeLine) :
    ∃ H : Hp, Only H ∧ SqL K H a (ns.map V.int) ∧ HOk P w H s₁.heap ∧ (∀ b, H b ≠ none → b = a) ∧ (H a ≠ none → K.lookup a = none) := by
  have rv := vals_ints hi
  cases hk : K.lookup a with
  | some o =>
    have e : s₁.heap.get? a = some o := KX a o hk
    obtain rfl : o = { cls := .type "list", data := .seq vs.toArray } := by rw [ha] at e; exact (Option.some.inj e).symm
    exact ⟨fun _ => none, fun _ => .inl rfl, .inr ⟨_, vs.toArray, _, hk, rfl, rfl, rfl, by rw [List.size_toArray, hi.length]; exact hl, by simpa using rv⟩, fun b u z => absurd (show (none : Option HO) = some u from z) (by simp), fun _ z => absurd rfl z, fun z => absurd rfl z⟩
  | none =>
    refine ⟨fun b => if b = a then some (.frz { cls := .type "list", data := .seq vs.toArray } (.lst (ns.map V.int))) else none, fun b => ?_, .inl (.inr ⟨_, if_pos rfl⟩), fun b u z => ?_, fun b z => ?_, fun _ => rfl⟩
    · by_cases q : b = a
      · right; exact ⟨_, _, if_pos q⟩
      · left; exact if_neg q
    · by_cases q : b = a
      · subst q
        dsimp only at z
        rw [if_pos rfl] at z
        cases z
        exact ⟨ha, by rw [List.length_map]; exact hl, vs, _, rv, ha⟩
      · dsimp only at z; rw [if_neg q] at z; cases z
    · by_cases q : b = a
      · exact q
      · dsimp only at z; rw [if_neg q] at z; exact absurd rfl z
theorem law_at (KX : K.In s₁.heap) (hns : s₁.heap.Ns mainGlobals mg) (hb : s₁.heap.Ns builtinsNs mb) (hbb : ∀ x : Str, x ≠ "__name__" → mb x = bootBuiltins x) (hlim : s₁.heap.NoLimit) (hg : s₁.gens = #[])
    (hT : ∀ T ∈ Ps, s₁.heap.get? T = some emptyTab ∧ K.lookup T = none ∧ isCodeTable s₁.heap T) (hbm : ∀ T ∈ Ps, s₁.heap.BuiltinsAt mg T)
    (ha : s₁.heap.get? a = some { cls := .type "list", data := .seq vs.toArray }) (hi : IntsAre vs ns) (hl : ns.length ≤ sizeLine) (F : AtCaller P w K mg Ps fa sp)
    (hsp : ∀ H : Hp, (∀ T ∈ Ps, H T = some (.tbl #[])) → SqL K H a (ns.map V.int) → sp [.ref a] H (fun v _ => v = .bl true) fun _ _ _ => False) :
    codeAny (model P w) callerA (.call (.ref fa) ⟨[.ref a], []⟩) (fun r s' => r = .ok (.ret (.bool true)) ∧ OldK s₁.heap s'.heap ∧ s'.os = s₁.os ∧ AllBare s'.gens) s₁ := by
  obtain ⟨H0, hO, hS0, hok0, hA, hK⟩ := script_heap (P := P) (w := w) KX ha hi hl
  have aT : a ∉ Ps := fun z => by
    have q := (hT a z).1
    rw [ha] at q
    exact absurd (congrArg Obj.cls (Option.some.inj q)) (by simp)
  have hH : ∀ T ∈ Ps, withTabs H0 Ps T = some (.tbl #[]) := fun T h => wt_in h
  -- what the abstract heap tracks is the script and the tables
  have trk2 : ∀ {b : Addr} {u : HO}, withTabs H0 Ps b = some u → b ∈ Ps ∨ (b = a ∧ b ∉ Ps ∧ H0 b = some u) := fun {b u} h => by
    by_cases q : b ∈ Ps
    · exact .inl q
    · rw [wt_out q] at h
      exact .inr ⟨hA b (by rw [h]; exact fun z => nomatch z), q, h⟩
  have free : ∀ {b : Addr} {o : Obj}, s₁.heap.get? b = some o → (∀ its n, o.data ≠ .seq its n) → (o.data ≠ .fields #[]) → withTabs H0 Ps b = none := fun {b o} e h h' => by
    cases q : withTabs H0 Ps b with
    | none => rfl
    | some u =>
      rcases trk2 q with z | ⟨z, _, _⟩
      · have := (hT b z).1
        rw [e] at this
        exact absurd (congrArg Obj.data (Option.some.inj this)) h'
      · subst z
        obtain rfl : o = { cls := .type "list", data := .seq vs.toArray } := Option.some.inj (e.symm.trans ha)
        exact absurd rfl (h vs.toArray _)
  have dictNs : ∀ {b : Addr} {m : Str → Option Value}, s₁.heap.Ns b m → (hidT s₁.heap (withTabs H0 Ps)).Ns b m := fun {b m} h => by
    obtain ⟨o, es, ep, e, d, r⟩ := h
    exact ⟨o, es, ep, hidT_get e (free e (fun its n z => by rw [d] at z; cases z) fun z => by rw [d] at z; cases z), d, r⟩
  have inB : K.In (hidT s₁.heap (withTabs H0 Ps)) := fun b o e => by
    refine hidT_get (KX b o e) ?_
    cases q : withTabs H0 Ps b with
    | none => rfl
    | some u =>
      rcases trk2 q with z | ⟨z, _, z3⟩
      · rw [(hT b z).2.1] at e; cases e
      · subst z
        rw [hK (by rw [z3]; exact fun z => nomatch z)] at e; cases e
  have hS : SqL K (withTabs H0 Ps) a (ns.map V.int) := by
    rcases hS0 with z | z
    · exact .inl (by rcases z with z | ⟨o, z⟩; · exact .inl (by rw [wt_out aT]; exact z)
                     · exact .inr ⟨o, by rw [wt_out aT]; exact z⟩)
    · exact .inr z
  have hok : HOk P w (withTabs H0 Ps) s₁.heap := fun b u h => by
    rcases trk2 h with z | ⟨z, nz, z3⟩
    · rw [wt_in z] at h; cases h
      exact (hT b z).1
    · have x := hok0 b u z3
      rcases hO b with y | ⟨ob, xs, y⟩
      · rw [y] at z3; cases z3
      · rw [y] at z3; cases z3
        obtain ⟨x1, x2, vs', c, x3, x4⟩ := x
        exact ⟨x1, x2, vs', c, x3, x4⟩
  obtain ⟨mc, hc1, hc2⟩ := hlim
  have md : Mod K mg (hidT s₁.heap (withTabs H0 Ps)) := { kin := inB, glob := dictNs hns, blt := ⟨mb, dictNs hb, hbb⟩, nolimit := ⟨mc, dictNs hc1, hc2⟩ }
  have e0 : Env0 P w K mg (hidT s₁.heap (withTabs H0 Ps)) callerA [] s₁ (withTabs H0 Ps) := by
    refine ⟨rfl, md, fun b o e => of_hidT e, ?_, trivial, fun b hb => ?_, hok, .of_eq hg⟩
    · rw [hidT_size]; exact Nat.le_refl _
    · exact absurd (show b ∈ ([] : List Addr) from hb) List.not_mem_nil
  have tb : ∀ T ∈ Ps, (hidT s₁.heap (withTabs H0 Ps)).BuiltinsAt mg T ∧ mainGlobals ≠ T := fun T hTm => by
    refine ⟨?_, fun z => ?_⟩
    · obtain ⟨bm, ob, b1, b2, b3, b4, b5, b6, b7, b8⟩ := hbm T hTm
      refine ⟨bm, ob, b1, b2, b3, b4, hidT_get b5 (free b5 (fun its n z => by rw [b8] at z; cases z) fun z => by rw [b8] at z; cases z), b6, b7, b8⟩
    · obtain ⟨o, es, ep, e, d, _⟩ := hns
      rw [z, (hT T hTm).1] at e
      cases e; cases d
  refine codeAny_mono (F _ s₁ _ [.ref a] [.ref a] _ _ tb e0 (.cons rfl .nil) (hsp _ hH hS)) fun r s' h => ?_
  match r, h with
  | .ok (.ret u), h =>
    obtain ⟨v, H', os, bare, un, hok', r', q⟩ := h
    obtain rfl : v = V.bl true := q
    obtain rfl : u = Value.bool true := r'
    have stay : ∀ b o, b ∉ Ps → s₁.heap.get? b = some o → s'.heap.get? b = some o := fun b o nb e => by
      rcases hO b with z | ⟨ob, xs, z⟩
      · exact un.keep b o e (by rw [wt_out nb]; exact z) (fun y => absurd (show b ∈ ([] : List Addr) from y) List.not_mem_nil) List.not_mem_nil
      · have z' : withTabs H0 Ps b = some (.frz ob (.lst xs)) := by rw [wt_out nb]; exact z
        obtain ⟨e1, _⟩ := hok b _ z'
        obtain ⟨e2, _⟩ := hok' b _ (un.frzs b ob _ z')
        rw [Option.some.inj (e.symm.trans e1)]; exact e2
    have grown : ∀ T ∈ Ps, ∃ more : Array Value, s'.heap.get? T = some { cls := .none, data := .fields more } := fun T h => by
      obtain ⟨more, z⟩ := un.tbls T #[] (hH T h)
      exact ⟨_, hok' T _ z⟩
    refine ⟨rfl, ⟨fun b o e => ?_, fun b o e => ?_⟩, os, bare⟩
    · by_cases hb : b ∈ Ps
      · obtain ⟨more, hm⟩ := grown b hb
        obtain rfl : o = emptyTab := Option.some.inj (e.symm.trans (hT b hb).1)
        exact .inr (.inl ⟨(hT b hb).2.2, rfl, #[], more, rfl, by rw [Array.empty_append]; exact hm⟩)
      · exact .inl (stay b o hb e)
    · by_cases hb : b ∈ Ps
      · obtain ⟨more, hm⟩ := grown b hb
        exact ⟨_, hm⟩
      · exact ⟨o, stay b o hb e⟩
/-- the table of a def of the module, empty as yet -/
def OwnTabX (K : PySem.W.Frag) (mg : Str → Option Value) (h : Heap) (x : Str) : Prop := ∀ (f c T : Addr) (o : Obj) (fd : FuncData) (e : Value) (dd : Option Addr) (vs : Array Value) (sl : Array (Option Value)),
  mg x = some (.ref f) → K.lookup f = some o → o.data = .func fd → fd.code = .ref c → K.lookup c = some ⟨e, dd, .fields vs, sl⟩ → vs[11]? = some (.ref T) → h.get? T = some emptyTab ∧ isCodeTable h T ∧ h.BuiltinsAt mg T
theorem walk_at {l : PySem.W.OpenLaw} {n : Nat} {q : Program} {loose : List Str} {XP : (Str → Option Value) → Heap → Prop} {YP : World → Heap → Prop} {d : DefRec} {KP : Params → PySem.W.Frag} (hn : l.most = some n) (hn2 : n ≤ sizeLine) (hdf : d.params.defaults = [])
    (hY : ∀ (w : World) (h : Heap), YP w h → (KP w.params).In h)
    (F : ∀ (w : World) (mg : Str → Option Value) (fa : Addr) (h : Heap), (KP w.params).In h → h.Ns mainGlobals mg → mg d.name = some (.ref fa) → (∀ x : Str, ((recsOf q).any fun e => e.name == x) = true → OwnTabX (KP w.params) mg h x) →
      ∃ (Ps : List Addr) (sp : Sp), (∀ T ∈ Ps, h.get? T = some emptyTab ∧ (KP w.params).lookup T = none ∧ isCodeTable h T) ∧ (∀ T ∈ Ps, h.BuiltinsAt mg T) ∧ AtCaller l.prog w (KP w.params) mg Ps fa sp ∧
        ∀ (H : Hp) (a : Addr) (ns : List Int), ns.length ≤ n → (∀ T ∈ Ps, H T = some (.tbl #[])) → SqL (KP w.params) H a (ns.map V.int) → sp [.ref a] H (fun v _ => v = .bl true) fun _ _ _ => False) :
    PySem.W.WalkO q loose XP YP l.row.toRowW d [] (fun f vs => PySem.call f vs) := by
  refine Att.attach_call hn hdf fun w s₀ s₁ mg mb fa o pm cd doc a vs ns G Y _ _ _ hmg hobj hints hlen hg => ?_
  have KX := hY w _ Y
  obtain ⟨Ps, sp, hT, hbm, hF, hsp⟩ := F w mg fa _ KX G.T.g hmg fun x hx f c T o1 fd1 e dd us sl k0 k1 k2 k3 k4 k5 => by
    obtain ⟨dL, hm, hn1⟩ := List.any_eq_true.mp hx
    obtain rfl : dL.name = x := beq_iff_eq.mp hn1
    obtain ⟨a', o', fd', c', P', h1, h2, h3, h4, h5, h6⟩ := G.T.tab dL hm
    obtain rfl : f = a' := by rw [k0] at h1; cases h1; rfl
    obtain rfl : o1 = o' := Option.some.inj ((KX _ _ k1).symm.trans h2)
    obtain rfl : fd1 = fd' := by rw [k2] at h3; cases h3; rfl
    obtain rfl : c = c' := by rw [k3] at h4; cases h4; rfl
    have hh := h6
    obtain ⟨⟨oc, vc, e1, e2, e3, e4⟩, hP⟩ := h6
    have g2 := KX _ _ k4
    rw [g2] at e1
    cases e1
    cases e3
    rw [k5] at e4
    cases e4
    refine ⟨hP, hh.isCodeTable, ?_⟩
    obtain ⟨bm, ob, b1, b2, b3, b4, b5, b6⟩ := G.T.bmain
    refine ⟨bm, ob, b1, b2, fun z => ?_, fun z => ?_, b3, b4, b5, b6⟩
    · obtain ⟨o, es, ep, e, d, _⟩ := G.T.g
      rw [z, e] at b3
      cases b3
      rw [d] at b6; cases b6
    · rw [z, hP] at b3
      cases b3
      cases b6
  exact law_at KX G.T.g G.T.b G.T.builtins G.T.nolimit hg hT hbm hobj hints (Nat.le_trans hlen hn2) hF fun H hH hS => hsp H a ns hlen hH hS
/-- the law's def at the caller's place: no container is being told -/
theorem at_def {x qual : Str} {st : Stmt} {fd : FuncData} {N ps : List Str} {k : Nat} (Fn : Fun K x qual st fa fd) (S : FnScope N ps (defScope st)) (hr : Room (k + 1) callerA) (hbd : ∀ us : List Value, us.length = ps.length → ∀ s : Shared, BindsTo s fd ⟨us, []⟩ (ps.zip us)) (len : ∀ vs H Q E, sp vs H Q E → vs.length = ps.length)
    (hbody : ∀ (base : Heap) (cdv : Value) (s : Shared) (H : Hp) (vs : List V) (Q : VK) (E : XK), K.In base → (∀ T ∈ Ps, base.BuiltinsAt mg T ∧ mainGlobals ≠ T) → Room k (callerA.deeper (envOfC qual (defScope st) s.heap.objs.size fa cdv)) → (callerA.deeper (envOfC qual (defScope st) s.heap.objs.size fa cdv)).guards = some [] → sp vs H Q E →
      ∃ t, PSs (cxOf CX0 P w K mg base N qual (defScope st) fa cdv callerA [] s H E).nox (defBody st) t ∧ t { nx := fun _ H' => Q .non H', rt := Q } (start N vs) H) : AtCaller P w K mg Ps fa sp := by
  intro base s H us vs Q E tb e0 r h
  obtain ⟨oc, od, kV, doc, pm, an, cdv, ct, osl, rfl, lk, hcd⟩ := Fn.ex
  have hl := len _ _ _ _ h
  have KX : K.In s.heap := e0.mod.kin.keeps fun b o e => (e0.bs b o e).1
  have lim : s.heap.NoLimit := e0.mod.nolimit.keeps fun b o e => (e0.bs b o e).1
  refine codeAny_call_function hr.depth (KX _ _ lk) rfl S.co S.gen rfl (PySem.W.codeRec_of KX hcd) (hbd us (by rw [← r.length]; exact hl) s _ _ _ _ ?_)
  refine wpAny_newFunctionEnv_cells S.kind (fun y hy => ?_) fun env he s1 x => ?_
  · rcases S.par y.1 (List.of_mem_zip hy).1 with z | z
    · exact .inl z
    · exact .inr ⟨z, PySem.W.cellsFrom_some _ _ _ (.inl z)⟩
  · subst he
    refine ⟨lim.keeps x.toInCall.keep, codeAny_func ?_⟩
    obtain ⟨t, ht, hq⟩ := hbody base cdv s H vs Q E e0.mod.kin tb (hr.deeper _) rfl h
    have I := inv_start (CX := CX0) (E := E) (f := fa) (cd := cdv) (qual := qual) S hr.hd e0 hl r x
    refine wpAny_mono (ht.nox.run [] s1 _ H _ I hq) (fun fl s' hs => ?_) fun _ _ z => z
    have fin : ∀ {σ' : L2.St} {H' : Hp} {v : V} {u : Value}, Inv (cxOf CX0 P w K mg base N qual (defScope st) fa cdv callerA [] s H E) [] σ' H' s' → RelV v u → Q v H' → CE [] P w H s Q u s' := fun {σ' H' v u} J rv q => ⟨v, H', J.os, J.bare, J.base, J.hok, rv, q⟩
    match fl, hs with
    | .ret u, hs =>
      obtain ⟨v, σ', H', J, rv, q⟩ := hs
      exact fin J rv q
    | .next, hs =>
      obtain ⟨σ', H', J, q⟩ := hs
      exact fin (v := V.non) (u := Value.none) J rfl q
    | .brk, hs => obtain ⟨_, _, _, q⟩ := hs; exact q.elim
    | .cont, hs => obtain ⟨_, _, _, q⟩ := hs; exact q.elim
end
end DW
set_option Elab.async false
set_option maxRecDepth 100000
set_option maxHeartbeats 4000000
set_option linter.all false
set_option autoImplicit false
/-! nested defs: made, called where they are made, handed to a def of the module -/
namespace DW
variable [Tb]
open PySem PySem.Spec PyProof.Rows L2 NdefX LamX

/-! ### what the cells held at the entry of the running frame they hold still -/
theorem cells_later {X : Cx} {pins : List (Addr × Obj)} {σ : L2.St} {H : Hp} {s : Shared} {cl : List (Str × Addr)} {fr : List Str} {ws : List (Option V)} (C : CellsAt cl fr ws X.s_0.heap X.H_0) (hx : X.ex = []) (I : Inv X pins σ H s) : CellsAt cl fr ws s.heap H := by
  have nx : ∀ c : Addr, c ∉ X.ex := fun c z => by rw [hx] at z; cases z
  have same : ∀ y c, cl.lookup y = some c → ∀ v, X.s_0.heap.IsCell c v → s.heap.IsCell c v := fun y c e v z => by
    obtain ⟨o, ho, hd⟩ := z
    obtain ⟨sl, q⟩ := I.base.any ho (C.all y c e).1 (nx c)
    exact ⟨_, q, hd⟩
  constructor
  · exact C.len
  · intro y c e
    obtain ⟨n, v, z⟩ := C.all y c e
    obtain ⟨o, ho, _⟩ := id z
    exact ⟨I.base.free c o ho n (nx c), v, same y c e v z⟩
  · exact C.inj
  · intro i y e
    obtain ⟨c, hc, hv⟩ := C.has i y e
    refine ⟨c, hc, fun v ev => ?_⟩
    obtain ⟨u, r, z⟩ := hv v ev
    exact ⟨u, r, same y c hc _ z⟩
/-- what may be called: a nested def, a lambda -/
structure Clb (P : Program) (w : World) (K : PySem.W.Frag) (mg : Str → Option Value) (base : Heap) (k : Nat) (F : FV) (fr : List Str) (sp : List (Option V) → Sp) : Prop where
  fnat : ∀ (H : Hp) (h : Heap) (f : Addr), HOk P w H h → H f = some (F.G f) → PySem.W.FnAt f h
  run : ∀ (f : Addr) (A : Around) (outer : List Env) (s : Shared) (H : Hp) (us : List Value) (vs : List V) (ws : List (Option V)) (Q : VK), Room k A → Env0 P w K mg base A outer s H → H f = some (F.G f) → H F.c = some (CodeO F.c F.q) →
    CellsAt F.cl fr ws s.heap H → Vals vs us → sp ws vs H Q E0 → codeAny (model P w) A (.call (.ref f) ⟨us, []⟩) (CR CX0 outer P w H s Q E0) s
def fvN (F : NF) : FV := ⟨fun a => FnO a F, F.c, F.qual, F.cl⟩
theorem clb_N {P : Program} {w : World} {K : PySem.W.Frag} {mg : Str → Option Value} {base : Heap} {k : Nat} {F : NF} {ps fr : List Str} {sp : List (Option V) → Sp} (o : ∀ f, NOk P w K mg base CX0 k f F ps fr sp) : Clb P w K mg base k (fvN F) fr sp where
  fnat := fun H h f hok e => by
    obtain ⟨od, sl, doc, pm, ctv, ho⟩ := fnO_at hok e
    exact ⟨_, od, _, sl, ho⟩
  run := fun f A outer s H us vs ws Q hr e0 hf hc C r q => (o f).run A outer s H us vs ws Q E0 hr e0 hf hc C r q
/-- a call of the name at slot i, that holds the function F handed in -/
def tCallP (F : FV) (i : Nat) (ws : List (Option V)) (sp : List (Option V) → Sp) (t : TA) : TE := fun σ H Q => ∃ f, σ[i]? = some (some (.ref f)) ∧ H f = some (F.G f) ∧ t σ H fun vs H1 => H1 f = some (F.G f) ∧ H1 F.c = some (CodeO F.c F.q) ∧ sp ws vs H1 Q E0
section
variable {X : Cx} {F : FV} {fr : List Str} {ws : List (Option V)} {i j k : Nat} {x : Str} {sp : List (Option V) → Sp} {t : TA} {e : Expr} {es : List Expr} {p pos : Pos}
theorem pe_callP (Fn : Clb X.prog X.w X.K X.mg X.base k F fr sp) (C0 : CellsAt F.cl fr ws X.s_0.heap X.H_0) (hex : X.ex = []) (hr : Room j X.A) (hk : k ≤ j) (hN : X.N[i]? = some x) (hv : Vis X.env.scope x) (ha : PA X (e :: es) t)
    (hd : (x == ("__debug__" : Str)) = false := by decide) (hcd : (x == ("__classdict__" : Str)) = false := by decide)
    (he : starEach (e :: es) X.env = (false, eval e X.env) :: starEach es X.env := by rfl) (hpl : (backTo pos (starEach es X.env)).any (·.1) = false := by rfl) :
    PE X (.Call (.Name x p) (e :: es) [] pos) (tCallP F i ws sp t) := by
  constructor
  intro pins s σ H Q I h
  obtain ⟨f, hs, hf, ht⟩ := h
  have hvar := (pe_var (pos := p) hN hv hd hcd).run pins s σ H (fun v H1 => v = .ref f ∧ H1 = H) I ⟨.ref f, hs, rfl, rfl⟩
  apply wpAny_Call_Name_kw
  refine thn hvar fun u s1 ⟨v, H1, I1, r1, ev, eH⟩ => ?_
  subst ev eH
  obtain rfl : u = Value.ref f := r1
  refine PySem.W.callWith_F (first := []) (Fn.fnat _ _ _ I1.hok hf) ?_ he hpl
  refine thn (ha.run pos pins s1 σ _ _ I1 ht) fun us s2 ⟨vs, H2, I2, r, h1, h2, q⟩ => ⟨Fn.fnat _ _ _ I2.hok h1, ?_⟩
  show wpAny _ _ (call (.ref f) us) _ _ _
  have run := Fn.run f X.A X.stack s2 H2 us vs ws Q (hr.mono hk) I2.env0 h1 h2 (cells_later C0 hex I2) r q
  refine wpAny_call (codeAny_mono run fun r s' hq => ?_)
  match r, hq with
  | .ok (.ret u), hq => exact I2.after hq
  | .error e, hq => exact (show False from hq).elim
end
/-- a def of the module that gets a function: told of the captured values -/
def tCallG (mk : Addr → FV) (js : List Nat) (n : Nat) (spG : Addr → List (Option V) → List V → Hp → VK → Prop) (t : TA) : TE := fun σ H Q => t σ H fun vs H1 => vs.length = n ∧ ∃ c', spG c' (js.map (slotAt σ)) vs H1 Q
section
variable {X : Cx} {mk : Addr → FV} {cl : List (Str × Addr)} {fr N ps : List Str} {js : List Nat} {k : Nat} {x qual : Str} {st : Stmt} {g : Addr} {fd : FuncData} {spG : Addr → List (Option V) → List V → Hp → VK → Prop} {t : TA} {e : Expr} {es : List Expr} {p pos : Pos}
theorem pe_callG (Fg : Fun X.K x qual st g fd) (S : FnScope N ps (defScope st)) (hm : X.mg x = some (.ref g)) (hb : Binds X.K fd ps []) (hcl : ∀ c', (mk c').cl = cl) (cp : X.Ok → Caps X cl fr js) (hr : Room (k + 1) X.A) (ha : PA X (e :: es) t)
    (hbody : ∀ (cdv : Value) (s : Shared) (H : Hp) (c' : Addr) (ws : List (Option V)) (vs : List V) (Q : VK), CellsAt (mk c').cl fr ws s.heap H → Room k (X.A.deeper (envOfC qual (defScope st) s.heap.objs.size g cdv)) → spG c' ws vs H Q →
      ∃ t, PSs (cxOf CX0 X.prog X.w X.K X.mg X.base N qual (defScope st) g cdv X.A X.stack s H E0).nox (defBody st) t ∧ t { nx := fun _ H' => Q .non H', rt := Q } (L2.start N vs) H)
    (hg : Gl X x := by rfl) (hdb : (x == ("__debug__" : Str)) = false := by decide) (he : starEach (e :: es) X.env = (false, eval e X.env) :: starEach es X.env := by rfl) (hpl : (backTo pos (starEach es X.env)).any (·.1) = false := by rfl) :
    PE X (.Call (.Name x p) (e :: es) [] pos) (tCallG mk js ps.length spG t) := by
  constructor
  intro pins s σ H Q I h
  apply wpAny_Call_Name_kw
  refine ld_glob I hg hm ?_ hdb
  refine PySem.W.callWith_K (h₀ := X.base) I.ok.mod.kin Fg.kp ?_ he hpl
  refine thn (ha.run pos pins s σ H _ I h) fun us s1 ⟨vs, H1, I1, r1, hl, c', q⟩ => ⟨I1.kIn, ?_⟩
  have C : CellsAt (mk c').cl fr (js.map (slotAt σ)) s1.heap H1 := by rw [hcl c']; exact cells_of I1 (cp I1.ok)
  have run : codeAny (model X.prog X.w) X.A (.call (.ref g) ⟨us, []⟩) (CR CX0 X.stack X.prog X.w H1 s1 Q E0) s1 := by
    obtain ⟨oc, od, kV, doc, pm, an, cdv, ct, osl, rfl, lk, hcd⟩ := Fg.ex
    have bd := hb s1 us I1.kIn (by rw [List.append_nil, ← r1.length]; exact hl)
    rw [List.append_nil] at bd
    refine LamX.run_ofS (vs := vs) lk hcd S hr I1.env0 bd r1 hl fun hr' => ?_
    obtain ⟨t, ht, hq⟩ := hbody cdv s1 H1 c' _ vs Q C hr' q
    exact ⟨t, ht.nox, hq⟩
  refine wpAny_call (codeAny_mono run fun r s' hq => ?_)
  match r, hq with
  | .ok (.ret u), hq => exact I1.after hq
  | .error e, hq => exact (show False from hq).elim
end

/-! ### by data -/
/-- the captured values stand behind the arguments -/
def toSpN (K : PySem.W.Frag) (sp : DSpW) : List (Option V) → Sp := fun ws vs H Q E => ∃ cvs : List V, ws = cvs.map some ∧ toSp K sp (vs ++ cvs) H Q E
def toSpG (K : PySem.W.Frag) (mk : Addr → FV) (sp : FV → List V → DSpW) : Addr → List (Option V) → List V → Hp → VK → Prop := fun c' ws vs H Q =>
  ∃ (cvs : List V) (w : Option Addr) (S : Addr → Bool) (ds : List D) (n : Nat) (k : Kn), ws = cvs.map some ∧ Rps K (cut S H) vs ds ∧ OkW K w S H n ∧ sp (mk c') cvs w ds n k ∧ Po K w S H k Q
section
variable {K : PySem.W.Frag} {w : Option Addr} {S : Addr → Bool} {H H0 H1 H2 H' : Hp} {n m : Nat} {σ : L2.St} {ds : List (Option D)} {ta tb te : TE} {tA tB : TA} {k : Kn} {i : Nat} {ks : KS}
theorem startF_app {N : List Str} {vs cvs : List V} : startF N vs (cvs.map some) = L2.start N (vs ++ cvs) := by
  unfold startF L2.start
  rw [List.map_append, List.length_append, List.append_assoc, List.length_map, Nat.sub_sub]
/-- the slots that a function captures -/
theorem slots_of (re : RpE K w S H0 H σ ds) : ∀ {js : List Nat} {cds : List D}, (js.map fun j => ds[j]?) = cds.map (fun d => some (some d)) → (∀ d ∈ cds, isOwn d = false) → ∃ cvs : List V, js.map (slotAt σ) = cvs.map some ∧ Rps K (cut S H) cvs cds
  | [], [], _, _ => ⟨[], rfl, .nil⟩
  | j :: js, d :: cds, h, ho => by
    rw [List.map_cons, List.map_cons] at h
    obtain ⟨h1, h2⟩ := List.cons.inj h
    obtain ⟨v, g1, g2⟩ := re.get j d h1 (ho d List.mem_cons_self)
    obtain ⟨cvs, e, r⟩ := slots_of re (js := js) (cds := cds) h2 fun x hx => ho x (List.mem_cons_of_mem _ hx)
    exact ⟨v :: cvs, by rw [List.map_cons, List.map_cons, e, slotAt_of g1], .cons g2 r⟩
  | [], _ :: _, h, _ => by simp at h
  | _ :: _, [], h, _ => by simp at h
/-- f(..), f made in this very def -/
theorem e_callN {mk : Addr → NF} {js : List Nat} {sp : DSpW} {c' : Addr} {xs : List V} {l cds : List D} (hi : ds[i]? = some (some (.fn (fvN (mk c')) xs l))) (hj : (js.map fun j => ds[j]?) = cds.map (fun d => some (some d))) (ho : ∀ d ∈ cds, isOwn d = false)
    (h : WpA K w tA ds n fun es n1 => sp w (es ++ cds) n1 k) : WpE K w (NdefX.tCallN mk i js (fun _ _ => toSpN K sp) E0 tA) ds n k := fun S H0 σ H Q re ok p => by
  obtain ⟨v, h1, h2⟩ := re.get i _ hi rfl
  cases h2 with
  | @fn a _ _ _ hf hc hx =>
    refine ⟨a, c', h1, (cut_some hf).2, h S H0 σ H _ re ok fun vs H1 es n1 hs p1 ok1 r1 => ?_⟩
    have ex := ex_cut ok p1
    obtain ⟨cvs, e, r⟩ := slots_of (re.up ok p1) hj ho
    exact ⟨(cut_some (ex _ _ hf)).2, (cut_some (ex _ _ hc)).2, cvs, e, w, S, es ++ cds, n1, k, r1.append r, ok1, hs, p.from p1⟩
/-- f(..), f handed in -/
theorem e_callP {F : FV} {sp : DSpW} {cvs : List V} {cds : List D} (hi : ds[i]? = some (some (.fn F cvs cds))) (h : WpA K w tA ds n fun es n1 => sp w (es ++ cds) n1 k) : WpE K w (tCallP F i (cvs.map some) (toSpN K sp) tA) ds n k := fun S H0 σ H Q re ok p => by
  obtain ⟨v, h1, h2⟩ := re.get i _ hi rfl
  cases h2 with
  | @fn a _ _ _ hf hc hx =>
    refine ⟨a, h1, (cut_some hf).2, h S H0 σ H _ re ok fun vs H1 es n1 hs p1 ok1 r1 => ?_⟩
    have ex := ex_cut ok p1
    exact ⟨(cut_some (ex _ _ hf)).2, (cut_some (ex _ _ hc)).2, cvs, rfl, w, S, es ++ cds, n1, k, r1.append (hx.mono ex), ok1, hs, p.from p1⟩
/-- the arguments as they are handed on: a function with what it captured -/
def withCap (cvs : List V) (cds : List D) : D → D
  | .fn F _ _ => .fn F cvs cds
  | d => d
theorem rps_cap {cvs : List V} {cds : List D} (r : Rps K H cvs cds) : ∀ {vs : List V} {es : List D}, Rps K H vs es → Rps K H vs (es.map (withCap cvs cds))
  | _, _, .nil => .nil
  | _, _, .cons a b => by
    refine .cons ?_ (rps_cap r b)
    cases a <;> first | (constructor <;> assumption) | skip
theorem e_callG {mk : Addr → FV} {js : List Nat} {N : Nat} {sp : FV → List V → DSpW} {cds : List D} (hj : (js.map fun j => ds[j]?) = cds.map (fun d => some (some d))) (ho : ∀ d ∈ cds, isOwn d = false)
    (h : WpA K w tA ds n fun es n1 => es.length = N ∧ ∃ c', ∀ cvs, sp (mk c') cvs w (es.map (withCap cvs cds)) n1 k) : WpE K w (tCallG mk js N (toSpG K mk sp) tA) ds n k := fun S H0 σ H Q re ok p =>
  h S H0 σ H _ re ok fun vs H1 es n1 ⟨hl, c', hs⟩ p1 ok1 r1 => by
    obtain ⟨cvs, e, r⟩ := slots_of (re.up ok p1) hj ho
    exact ⟨by rw [r1.length]; exact hl, c', cvs, w, S, es.map (withCap cvs cds), n1, k, e, rps_cap r r1, ok1, hs cvs, p.from p1⟩
/-- def f(..): .. within a def -/
theorem s_ndef {P : Addr} {mk : Addr → NF} (hP : Tb.tab P = true) (hq : ∀ c', (mk c').c = c') (h : ∀ c', ks.nx (ds.set i (some (.fn (fvN (mk c')) [] []))) n) : WpS K w (tNdefM (Tb.tabs.map fun a => (a, Tb.nm a)) i mk) ds n ks := fun S0 H0 S σ H E b r e => by
  have tin : ∀ a, Tb.tab a = true → a ∈ Tb.tabs := fun a ha => of_decide_eq_true ha
  refine ⟨fun q hq => ?_, fun f c' H1 eN bk T1 f0 f1 c1 => ?_⟩
  · obtain ⟨a, ha, rfl⟩ := List.mem_map.mp hq
    exact (b.ok.3 a (decide_eq_true ha)).2
  have pr : Pres w H H1 := ⟨fun a o _ z t => eN a o z (noT_of t), bk⟩
  have ex0 : ∀ a o, H a = some o → noT o = true → H1 a = some o := fun a o z t => eN a o z (noT_of t)
  have exc : Ex (cut S H) (cut S H1) := fun a o z => cut_mk (cut_some z).1 (ex0 a o (cut_some z).2 (cut_nt z)) (cut_nt z)
  have ok1 : OkW K w S H1 n := by
    refine ⟨fun p hp => ⟨(b.ok.1 p hp).1, ?_⟩, fun a ha => ?_, fun a ha => ⟨(b.ok.3 a ha).1, T1 (a, Tb.nm a) (List.mem_map.mpr ⟨a, tin a ha, rfl⟩)⟩, fun a ha => (b.ok.4 a ha).imp id fun ⟨o, ho, t⟩ => ⟨o, ex0 _ _ ho (plain_nt t), t⟩⟩
    · obtain ⟨c, ix, left, ns, h1, h2, h3⟩ := (b.ok.1 p hp).2
      exact ⟨c, ix, left, ns, ex0 _ _ h1 rfl, exc _ _ h2, h3⟩
    · obtain ⟨o, ho⟩ := b.ok.2 a ha
      cases z : H1 a with
      | some o' => exact ⟨o', rfl⟩
      | none => rw [bk a z] at ho; cases ho
  have Sf : S f = false := b.ok.fresh f0
  have c1' : H1 c' = some (CodeO c' (mk c').qual) := c1
  have Sc : S c' = false := by
    cases z : S c' with
    | false => rfl
    | true =>
      exfalso
      rcases ok1.4 c' z with t | ⟨o, ho, t⟩
      · obtain ⟨ps, e, _⟩ := (ok1.3 c' t).2
        rw [c1'] at e
        unfold CodeO at e
        cases e
      · rw [c1'] at ho
        cases ho
        cases t
  have rp : Rp K (cut S H1) (.ref f) (.fn (fvN (mk c')) [] []) := .fn (cut_mk Sf f1) (by show cut S H1 (mk c').c = some (CodeO (mk c').c (mk c').qual); rw [hq]; exact cut_mk Sc c1') .nil
  exact e.nx S _ H1 _ n (h c') (b.up pr ok1) ((r.up b.ok pr).set rp rfl) exc
end
end DW
set_option Elab.async false
set_option maxRecDepth 100000
set_option maxHeartbeats 4000000
set_option linter.all false
set_option autoImplicit false
/-! further rules: starred displays, lists unpacked, enumerate, pairs with a new list, repr of plain values, a nested def's statement -/
namespace DW
variable [Tb]
open PySem PySem.Spec PyProof.Rows L2 NdefX LamX
section
variable {K : PySem.W.Frag} {w : Option Addr} {S : Addr → Bool} {H H0 H1 H2 H' : Hp} {n m : Nat} {σ : L2.St} {ds : List (Option D)} {ta tb te : TE} {tA tB : TA} {t u : TS} {k : Kn} {i j : Nat} {ks : KS} {d e : D}
/-! ### [*xs, ..] -/
theorem a_star {ka : List D → Nat → Prop} (h : WpE K w te ds n fun d n1 => ∃ l, (d = .lst l ∨ d = .tup l) ∧ WpA K w tA ds n1 fun es n2 => ka (l ++ es) n2) : WpA K w (StX.tStar K te tA) ds n ka := fun S H0 σ H Q re ok p =>
  h S H0 σ H _ re ok fun v H1 d n1 ⟨l, hd, h1⟩ p1 ok1 r1 => by
    rcases hd with e | e
    · subst e
      cases r1 with
      | @lst a xs _ hL hx =>
        exact ⟨a, xs, rfl, .inr (SqL.of (cut_some hL).2), h1 S H0 σ H1 _ (re.up ok p1) ok1 fun vs H2 es n2 hk p2 ok2 r2 => p _ H2 _ n2 hk (p1.trans p2) ok2 ((hx.mono (ex_cut ok1 p2)).append r2)⟩
    · subst e
      cases r1 with
      | @tup a xs _ hT hx =>
        exact ⟨a, xs, rfl, .inl (Evl.ex_t (cut_ex S H1) hT), h1 S H0 σ H1 _ (re.up ok p1) ok1 fun vs H2 es n2 hk p2 ok2 r2 => p _ H2 _ n2 hk (p1.trans p2) ok2 ((hx.mono (ex_cut ok1 p2)).append r2)⟩
/-! ### a, b, c = a list -/
theorem g_lst {u : TGs} {es : List D} {ds1 : List (Option D)} {vs : List Nat} {k : Nat} (h : GDs K w u es ds ds1 vs) (hl : es.length = k) : GD K w (gLst K k u) (.lst es) ds ds1 vs := fun S H0 σ H v Q r hv kk => by
  cases hv with
  | lst hL hx => exact ⟨_, _, rfl, SqL.of (cut_some hL).2, by rw [hx.length]; exact hl, h S H0 σ H _ Q r hx kk⟩
/-! ### enumerate -/
def enD (l : List D) : List D := l.mapIdx fun i d => D.tup [.int (i : Nat), d]
theorem enD_len {l : List D} : (enD l).length = l.length := by unfold enD; simp
theorem enD_get {l : List D} {i : Nat} {d : D} (h : (enD l)[i]? = some d) : ∃ x, l[i]? = some x ∧ d = .tup [.int (i : Nat), x] := by
  unfold enD at h
  rw [List.getElem?_mapIdx] at h
  obtain ⟨x, h1, h2⟩ := Option.map_eq_some_iff.mp h
  exact ⟨x, h1, h2.symm⟩
theorem wk_enum {a : Addr} {xs : List V} {l : List D} {Hk : Hp} (ha : Hk a = some (.lst xs)) (r : Rps K Hk xs l) : Wk K Hk (Ite K a) (enD l) := fun i H e => by
  have hl := r.length
  have qa : SqL K H a xs := SqL.of (e _ _ ha)
  refine ⟨fun d hd => ?_, fun hi => ⟨xs, qa, by rw [enD_len] at hi; omega⟩⟩
  obtain ⟨y, h1, h2⟩ := enD_get hd
  subst h2
  obtain ⟨v, hv, rv⟩ := r.get h1
  refine ⟨⟨xs, v, qa, hv⟩, fun x H' ⟨T, x', e1, e2, e3, e4⟩ => ?_⟩
  have z1 := e4 xs qa
  rw [hv] at z1; cases z1
  subst e1 e3
  refine ⟨Evl.Ex.new e2, fun S eS hS => ?_⟩
  have hT : S T = false := by
    cases z : S T with
    | false => rfl
    | true => obtain ⟨o, ho⟩ := hS T z; rw [e2] at ho; cases ho
  have e' : Ex Hk (cut S (upd H T (.tup [.int (i : Nat), v]))) := fun b o hb' => by
    obtain ⟨g1, g2⟩ := cut_some (eS b o hb')
    exact cut_mk g1 (by rw [upd_ne (ne_of_none g2 e2)]; exact g2) (cut_nt (eS b o hb'))
  exact .tup (SqT.of (cut_mk hT upd_same)) (.cons (.int _) (.cons (rv.mono e') .nil))
theorem i_enum {k : List D → Nat → Prop} (h : WpA K w tA ds n fun es n1 => ∃ l, es = [.lst l] ∧ k (enD l) n1) : WpI K w (iEnum K tA) ds n k := fun S H0 σ H R re ok p =>
  h S H0 σ H _ re ok fun vs H1 es n1 ⟨l, e, hk⟩ p1 ok1 r1 => by
    subst e
    cases r1 with
    | cons a b =>
      cases b
      cases a with
      | lst hL hx => exact ⟨_, _, rfl, SqL.of (cut_some hL).2, p _ H1 _ n1 hk p1 ok1 (wk_enum hL hx)⟩
/-! ### statements -/
/-- a word between -/
theorem s_mid {mid : Kd} (h1 : WpS K w t ds n { ks with nx := mid }) (h2 : ∀ ds' n', mid ds' n' → WpS K w u ds' n' ks) : WpS K w (tSeq t u) ds n ks :=
  s_seq (h1.imp (fun ds' n' h => h2 ds' n' h) (fun _ _ h => h) (fun _ _ h => h) (fun _ _ h => h))
/-! ### comparisons of plain values -/
theorem rd_neB {i j : Bool} (hk : k (.bl (!decide (i = j))) n) : RD K w (rNeU K) (.bl i) (.bl j) n k := fun S v u H Q a b ok p => by
  cases a; cases b; exact .inl ⟨by cases i <;> cases j <;> rfl, by rw [dB]; exact p _ H _ n hk Pres.refl ok (.bl _)⟩
theorem rd_eqB {i j : Bool} (hk : k (.bl (decide (i = j))) n) : RD K w (rEqU K) (.bl i) (.bl j) n k := fun S v u H Q a b ok p => by
  cases a; cases b; exact .inl ⟨by cases i <;> cases j <;> rfl, by rw [dB]; exact p _ H _ n hk Pres.refl ok (.bl _)⟩
/-- an optional integer -/
def oD : Option Int → D
  | none => .non
  | some i => .int i
theorem rd_neO {x y : Option Int} (hk : k (.bl (!decide (x = y))) n) : RD K w (rNeU K) (oD x) (oD y) n k := fun S v u H Q a b ok p => by
  cases x with
  | none =>
    cases y with
    | none => cases a; cases b; exact .inl ⟨rfl, p _ H _ n hk Pres.refl ok (.bl _)⟩
    | some j => cases a; cases b; exact .inl ⟨rfl, p _ H _ n hk Pres.refl ok (.bl _)⟩
  | some i =>
    cases y with
    | none => cases a; cases b; exact .inl ⟨rfl, p _ H _ n hk Pres.refl ok (.bl _)⟩
    | some j =>
      cases a; cases b
      refine .inl ⟨rfl, ?_⟩
      rw [dI]
      have e : decide (some i = some j) = decide (i = j) := by
        by_cases h : i = j
        · subst h; simp
        · simp [h]
      rw [e] at hk
      exact p _ H _ n hk Pres.refl ok (.bl _)
/-! ### repr -/
def rReprX (K : PySem.W.Frag) : RCT := fun xs H Q => (∃ i, xs = [.int i] ∧ i.natAbs.log2 < 1920 ∧ Q (.str (toString i)) H) ∨ (xs = [.non] ∧ Q (.str "None") H) ∨ rReprU K xs H Q
theorem call_reprN {X : Cx} : CallR X (.builtin "repr") (fun xs H Q => xs = [.non] ∧ Q (.str "None") H) := by
  intro pins s σ H xs us Q I r h
  obtain ⟨rfl, q⟩ := h
  cases r with
  | cons ra rb =>
    cases rb
    cases ra
    exact PySem.P.repr_of_none ⟨.str _, H, I.tok _, ⟨_, rfl⟩, q⟩
theorem call_reprX {X : Cx} (hg : X.A.guards = some []) (hu : X.A.units + 64 < cLine) : CallR X (.builtin "repr") (rReprX X.K) := (SkE.call_repr_int).or (call_reprN.or (call_reprU hg hu))
def reprO : Option Int → Str
  | none => "None"
  | some i => toString i
theorem rc_reprO {x : Option Int} (hz : ∀ i, x = some i → i.natAbs.log2 < 1920) (hk : k (.str (reprO x)) n) : RC K w (rReprX K) [oD x] n k := fun S vs H Q r ok p => by
  cases x with
  | none =>
    cases r with
    | cons a b => cases b; cases a; exact .inr (.inl ⟨rfl, p _ H _ n hk Pres.refl ok (.str _)⟩)
  | some i =>
    cases r with
    | cons a b => cases b; cases a; exact .inl ⟨i, rfl, hz i rfl, p _ H _ n hk Pres.refl ok (.str _)⟩
/-! ### a, b = x, a new list of one's own -/
theorem f_listA {l : List D} (hd : d = .lst l ∨ d = .tup l) {kf : List D → Nat → Prop} (h : WpE K w te ds n fun d' n1 => d' = d ∧ kf l n1) : WpF K w (tCB (rListU K) (tCons te tNil)) ds n kf := fun S H0 σ H Q re ok p =>
  h S H0 σ H _ re ok fun v H1 d' n1 ⟨e, hk⟩ p1 ok1 r1 => by
    subst e
    rcases hd with e | e <;> subst e <;> cases r1
    · rename_i a xs hL hx
      exact .inl ⟨a, xs, rfl, .inl (SqL.of (cut_some hL).2), fun q hq => p q _ xs l n1 hk (p1.back _ hq) (p1.trans (Pres.new hq)) (ok1.addS hq) upd_same (hx.mono (cut_addS hq))⟩
    · rename_i a xs hT hx
      exact .inl ⟨a, xs, rfl, .inr (Evl.ex_t (cut_ex S H1) hT), fun q hq => p q _ xs l n1 hk (p1.back _ hq) (p1.trans (Pres.new hq)) (ok1.addS hq) upd_same (hx.mono (cut_addS hq))⟩
theorem s_parF {i j : Nat} (h : WpE K w ta ds n fun d n1 => isOwn d = false ∧ WpF K w tb ds n1 fun l n2 => ks.nx ((ds.set i (some d)).set j (some (.own l))) n2) : WpS K w (tPar i j (tCons ta (tCons tb tNil))) ds n ks := fun S0 H0 S σ H E b r e =>
  h S H0 σ H _ r b.ok fun v H1 d n1 ⟨ho, hf⟩ p1 ok1 r1 => by
    have b1 := b.up p1 ok1
    have re1 := r.up b.ok p1
    have e1 : Ends4 w K S0 H0 S H1 E ks := e.from (ex_cut b.ok p1)
    have hlen := re1.len
    refine hf S H0 σ H1 _ re1 ok1 fun a H2 xs l n2 hk ha p2 ok2 hl hx => ⟨v, .ref a, rfl, ?_⟩
    exact own_put b1 (re1.set r1 ho) e1 hk ha p2 ok2 hl hx
end
end DW
set_option Elab.async false
set_option maxRecDepth 100000
set_option maxHeartbeats 4000000
set_option linter.all false
set_option autoImplicit false
/-! lambdas with parameters: made, handed to a def of the module -/
namespace DW
variable [Tb]
open PySem PySem.Spec PyProof.Rows L2 NdefX LamX
/-- at f: the lambda with the words of F and this body -/
def LamO (f : Addr) (F : NF) (body : Expr) : HO := .ext fun h => ∃ pm ctv : Value, h.get? f = some (PySem.W.kla_obj F.name F.qual F.params body F.scope F.cl pm F.c ctv)
def fvL (F : NF) (body : Expr) : FV := ⟨fun a => LamO a F body, F.c, F.qual, F.cl⟩
theorem lamO_at {P : Program} {w : World} {H : Hp} {h : Heap} {f : Addr} {F : NF} {body : Expr} (hok : HOk P w H h) (e : H f = some (LamO f F body)) :
    ∃ pm ctv : Value, h.get? f = some (PySem.W.kla_obj F.name F.qual F.params body F.scope F.cl pm F.c ctv) := (hok f _ e).1
section
variable {P : Program} {w : World} {K : PySem.W.Frag} {mg : Str → Option Value} {base : Heap} {N ps fr : List Str} {F : NF} {body : Expr} {k : Nat} {sp : List (Option V) → Sp}
theorem clb_L (S : NScope N ps fr F.scope) (hb : ∀ (pm ctv : Value) (us : List Value), us.length = ps.length → bindArgs (PySem.W.kla_fn F.name F.qual F.params body F.scope F.cl pm (.ref F.c) ctv) ⟨us, []⟩ = pure (ps.zip us))
    (len : ∀ ws vs H Q, sp ws vs H Q E0 → vs.length = ps.length)
    (hbody : ∀ (f : Addr) (A : Around) (outer : List Env) (s : Shared) (H : Hp) (vs : List V) (ws : List (Option V)) (Q : VK), Room k (A.deeper (envF F f s.heap.objs.size)) → ws.length = fr.length → sp ws vs H Q E0 →
      ∃ t, PE (ncx CX0 P w K mg base N F f A outer s H E0) body t ∧ t (startF N vs ws) H Q) : Clb P w K mg base (k + 1) (fvL F body) fr sp where
  fnat := fun H h f hok e => by
    obtain ⟨pm, ctv, ho⟩ := lamO_at hok e
    exact ⟨_, _, _, _, ho⟩
  run := fun f A outer s H us vs ws Q hr e0 hf hc C r hsp => by
    have hl := len _ _ _ _ hsp
    have noLim : s.heap.NoLimit := e0.mod.nolimit.keeps fun b o z => (e0.bs b o z).1
    obtain ⟨pm, ctv, ho⟩ := lamO_at e0.hok hf
    refine PySem.W.kla_callFunE hr.depth ho rfl S.co S.gen rfl (codeO_at e0.hok hc) ?_
    show wpAny _ _ (bindArgs (PySem.W.kla_fn F.name F.qual F.params body F.scope F.cl pm (.ref F.c) ctv) ⟨us, []⟩) _ _ _
    rw [hb pm ctv us (r.length ▸ hl)]
    apply wpAny_pure
    refine wpAny_newFunctionEnv S.nocell (fun y hy => S.par y.1 (List.of_mem_zip hy).1) (fun h1 hns hsb => ⟨noLim.fresh _ hsb, ?_⟩) S.kind
    show codeAny _ _ (.expr body (envF F f s.heap.objs.size)) _ _
    have keep1 : ∀ b o, s.heap.get? b = some o → h1.get? b = some o := fun b o z => hsb.extBut b o (Nat.ne_of_lt (Heap.lt_size z)) (Heap.get?_push_of_some _ z)
    obtain ⟨t, ht, hq⟩ := hbody f A outer s H vs ws Q (hr.deeper _) C.len hsp
    have J := inv_startN (CX := CX0) (mg := mg) (f := f) (E := E0) (tk := s.toks + (ps.zip us).length) S hr.hd e0 hl r C hns keep1
    apply PySem.W.kla_codeExpr
    refine wpAny_mono (ht.run [] _ _ H Q J hq) (fun v s' z => ?_) fun e s' z => z
    obtain ⟨v', H', J', rv, q⟩ := z
    exact ⟨v', H', J'.os, J'.bare, J'.base, J'.hok, rv, q⟩
end
/-! ### the making -/
/-- all but the tables of T stays -/
def ExtT (T : List NTab) (H H' : Hp) : Prop := ∀ b o, H b = some o → b ∉ T.map (·.1) → H' b = some o
def tLamE (T : List NTab) (body : Expr) (mk : Addr → NF) : TE := fun _ H Q => TabsN T H ∧ ∀ (f c' : Addr) (H1 : Hp), ExtT T H H1 → TabsN T H1 → H f = none → H c' = none ∨ H c' = some (CodeO c' (mk c').qual) → H1 f = some (LamO f (mk c') body) → H1 c' = some (CodeO c' (mk c').qual) → Q (.ref f) H1
section
variable {X : Cx} {T : List NTab} {nm : Nat → Nat → Str} {c P : Addr} {params : Arguments} {body : Expr} {scope : Scope} {pos : Pos}
/-- the new function is tracked -/
theorem inv_lam {pins : List (Addr × Obj)} {σ : L2.St} {H : Hp} {s : Shared} {F : NF} {tk : Nat} {pm ctv : Value} (I : Inv X pins σ H s) :
    Inv X pins σ (upd H s.heap.objs.size (LamO s.heap.objs.size F body)) { s with heap := s.heap.push (PySem.W.kla_obj F.name F.qual F.params body F.scope F.cl pm F.c ctv), toks := tk } := by
  have there : (s.heap.push (PySem.W.kla_obj F.name F.qual F.params body F.scope F.cl pm F.c ctv)).get? s.heap.objs.size = some (PySem.W.kla_obj F.name F.qual F.params body F.scope F.cl pm F.c ctv) := Heap.get?_push_size _ rfl
  refine I.laid (a := s.heap.objs.size) (fun b o z => Heap.get?_push_of_some _ z) (Nat.le_refl _) ⟨⟨pm, ctv, there⟩, ⟨_, there⟩, ?_⟩
  rintro h1 h2 ⟨p', v', z⟩ st
  exact ⟨p', v', st _ z⟩
theorem pe_lam (TB : TabB X.base X.mg c P) (hcode : X.env.code = .ref c) (hm : (P, nm) ∈ T) (hn : nm pos.line pos.col = X.env.qual ++ "<lambda>") (hu : ∀ p ∈ T, p.1 = P → p.2 = nm)
    (hfree : ∀ y ∈ scope.names, y.2 = .free → X.env.scope.names.lookup y.1 = some .cell ∨ X.env.scope.names.lookup y.1 = some .free) (hdef : defaultsOf params X.env = ([], [])) :
    PE X (.Lambda params body scope pos) (tLamE T body fun c' => ⟨"<lambda>", X.env.qual ++ "<lambda>", params, [], scope, cloFrom X.env.cells scope.names [], c'⟩) := by
  constructor
  intro pins s σ H Q I hh
  obtain ⟨hT, h⟩ := hh
  have hcells : ∀ y ∈ scope.names, y.2 = .free → ∃ a, X.env.cells.lookup y.1 = some a := fun y hy e => by
    rcases hfree y hy e with z | z
    · exact I.ok.has _ (.inl z)
    · exact I.ok.has _ (.inr z)
  obtain ⟨ps, hP, ht, ha⟩ := show TabN H P nm from hT _ hm
  have PinT : P ∈ T.map (·.1) := List.mem_map.mpr ⟨_, hm, rfl⟩
  have blt := TB.bm.keeps I.bk
  have atP : s.heap.get? P = some { cls := .none, data := .fields ps } := I.hok P _ hP
  apply PySem.W.kla_eval hdef
  match hc : codeAmong pos ps.toList with
  | some cv =>
    obtain ⟨c1, rfl, hco⟩ := ha pos cv hc
    rw [hn] at hco
    refine PySem.W.kla_makeFunctionHit (mg := X.mg) (c := c) (P := P) (ps := ps) (closure_ok hcells) I.ok.glob (I.mod.glob.keeps I.bk) hcode (TB.code.keeps I.bk) atP ht hc blt ?_
    intro ctv h1 tk kept sz
    have J := I.kept (t' := tk) kept
    have nf : H h1.objs.size = none := J.hok.fresh (Nat.le_refl _)
    have J2 := inv_lam (body := body) (F := ⟨"<lambda>", X.env.qual ++ "<lambda>", params, [], scope, cloFrom X.env.cells scope.names [], c1⟩) (tk := tk) (pm := (X.mg "__name__").getD .none) (ctv := ctv) J
    have old : ∀ b o, H b = some o → upd H h1.objs.size (LamO h1.objs.size ⟨"<lambda>", X.env.qual ++ "<lambda>", params, [], scope, cloFrom X.env.cells scope.names [], c1⟩ body) b = some o := fun b o z => by
      rw [upd_ne (ne_of_none z nf)]; exact z
    exact ⟨.ref h1.objs.size, _, J2, rfl, h _ c1 _ (fun b o z _ => old b o z) (hT.ext old) nf (.inr hco) upd_same (old _ _ hco)⟩
  | none =>
    refine PySem.W.kla_makeFunction (mg := X.mg) (c := c) (P := P) (ps := ps) (closure_ok hcells) I.ok.glob (I.mod.glob.keeps I.bk) hcode (TB.code.keeps I.bk) atP ht hc TB.gP blt ?_
    intro c1 ctv h1 tk kept ge lt rec tab
    obtain ⟨c2, oc, us, t, ec, g1, g2, g3⟩ := rec
    cases ec
    have nc : H c1 = none := I.hok.fresh ge
    have J := inv_table (t' := tk) (more := #[rawInt pos.line, rawInt pos.col, .ref c1]) (q := X.env.qual ++ "<lambda>") I hP (fun b o nb z => kept b o nb z) tab ge ⟨oc, us, t, g1, g2, g3⟩
    have nf := J.hok.fresh (Nat.le_refl _)
    have J2 := inv_lam (body := body) (F := ⟨"<lambda>", X.env.qual ++ "<lambda>", params, [], scope, cloFrom X.env.cells scope.names [], c1⟩) (tk := tk) (pm := (X.mg "__name__").getD .none) (ctv := ctv) J
    have stay : ∀ b o, H b = some o → b ≠ P → upd (upd H P (.tbl (ps ++ #[rawInt pos.line, rawInt pos.col, .ref c1]))) c1 (CodeO c1 (X.env.qual ++ "<lambda>")) b = some o := fun b o z nb => by
      rw [upd_ne (ne_of_none z nc), upd_ne nb]; exact z
    have later : ∀ b o, upd (upd H P (.tbl (ps ++ #[rawInt pos.line, rawInt pos.col, .ref c1]))) c1 (CodeO c1 (X.env.qual ++ "<lambda>")) b = some o → upd (upd (upd H P (.tbl (ps ++ #[rawInt pos.line, rawInt pos.col, .ref c1]))) c1 (CodeO c1 (X.env.qual ++ "<lambda>"))) h1.objs.size
        (LamO h1.objs.size ⟨"<lambda>", X.env.qual ++ "<lambda>", params, [], scope, cloFrom X.env.cells scope.names [], c1⟩ body) b = some o := fun b o z => by
      rw [upd_ne (ne_of_none z nf)]; exact z
    have toL : (ps ++ #[rawInt pos.line, rawInt pos.col, Value.ref c1]).toList = ps.toList ++ [rawInt pos.line, rawInt pos.col, .ref c1] := by simp
    have nfH : H h1.objs.size = none := I.hok.fresh (Nat.le_trans ge (Nat.le_of_lt lt))
    refine ⟨.ref h1.objs.size, _, J2, rfl, h _ c1 _ (fun b o z nb => later b o (stay b o z fun q => nb (q ▸ PinT))) (TabsN.ext ?_ later) nfH (.inl nc) upd_same (later _ _ upd_same)⟩
    intro p hp
    by_cases q : p.1 = P
    · rw [hu p hp q, q]
      refine ⟨_, ?_, by rw [toL]; exact TriplesOk_snoc _ _ _ _ ht, fun p' cv hcv => ?_⟩
      · rw [upd_ne (ne_of_none hP nc)]; exact upd_same
      rw [toL] at hcv
      rcases among_app2 _ ht hcv with z | ⟨z, z1, z2⟩
      · obtain ⟨c0, e1, e2⟩ := ha p' cv z
        exact ⟨c0, e1, stay _ _ e2 fun y => by rw [y, hP] at e2; exact codeO_ne ps (Option.some.inj e2).symm⟩
      · refine ⟨c1, z, ?_⟩
        rw [← z1, ← z2, hn]
        exact upd_same
    · obtain ⟨qs, a1, a2, a3⟩ := hT p hp
      refine ⟨qs, stay _ _ a1 q, a2, fun p' cv hcv => ?_⟩
      obtain ⟨c0, e1, e2⟩ := a3 p' cv hcv
      exact ⟨c0, e1, stay _ _ e2 fun y => by rw [y, hP] at e2; exact codeO_ne ps (Option.some.inj e2).symm⟩
end
/-! ### by data -/
section
variable {K : PySem.W.Frag} {w : Option Addr} {S : Addr → Bool} {H H0 H1 H2 H' : Hp} {n m : Nat} {σ : L2.St} {ds : List (Option D)} {k : Kn} {body : Expr}
theorem e_lam {mk : Addr → NF} (hq : ∀ c', (mk c').c = c') (h : ∀ c', k (.fn (fvL (mk c') body) [] []) n) : WpE K w (tLamE (Tb.tabs.map fun a => (a, Tb.nm a)) body mk) ds n k := fun S H0 σ H Q re ok p => by
  have tin : ∀ a, Tb.tab a = true ↔ a ∈ Tb.tabs := fun a => decide_eq_true_iff
  have dom : (Tb.tabs.map fun a => (a, Tb.nm a)).map (·.1) = Tb.tabs := by rw [List.map_map]; exact (List.map_congr_left fun _ _ => rfl).trans (List.map_id _)
  refine ⟨fun q hq => ?_, fun f c' H1 eT T1 f0 hc0 f1 c1 => ?_⟩
  · obtain ⟨a, ha, rfl⟩ := List.mem_map.mp hq
    exact (ok.3 a ((tin a).mpr ha)).2
  have old : ∀ a o, Tb.tab a = false → H a = some o → H1 a = some o := fun a o ht z => eT a o z (by rw [dom]; intro y; rw [(tin a).mpr y] at ht; cases ht)
  have tb1 : ∀ a, Tb.tab a = true → TabOk H1 a := fun a ht => T1 (a, Tb.nm a) (List.mem_map.mpr ⟨a, (tin a).mp ht, rfl⟩)
  have pr : Pres w H H1 := ⟨fun a o hf z _ => old a o hf.2 z, fun a z => by
    cases ht : Tb.tab a with
    | true =>
      obtain ⟨ps, e, _⟩ := tb1 a ht
      rw [e] at z; cases z
    | false =>
      cases y : H a with
      | none => rfl
      | some o => rw [old a o ht y] at z; cases z⟩
  have exc : Ex (cut S H) (cut S H1) := ex_cut ok pr
  have ok1 : OkW K w S H1 n := by
    refine ⟨fun p hp => ⟨(ok.1 p hp).1, ?_⟩, fun a ha => ?_, fun a ha => ⟨(ok.3 a ha).1, tb1 a ha⟩, fun a ha => ?_⟩
    · obtain ⟨c, ix, left, ns, h1, h2, h3⟩ := (ok.1 p hp).2
      have pt : Tb.tab p = false := pen_tab ok hp
      exact ⟨c, ix, left, ns, old p _ pt h1, exc _ _ h2, h3⟩
    · cases z : H1 a with
      | some o' => exact ⟨o', rfl⟩
      | none =>
        obtain ⟨o, ho⟩ := ok.2 a ha
        rw [pr.back a z] at ho; cases ho
    · cases ht : Tb.tab a with
      | true => exact .inl rfl
      | false =>
        rcases ok.4 a ha with z | ⟨o, ho, t⟩
        · rw [ht] at z; cases z
        · exact .inr ⟨o, old a o ht ho, t⟩
  have Sf : S f = false := ok.fresh f0
  have Sc : S c' = false := by
    cases z : S c' with
    | false => rfl
    | true =>
      exfalso
      rcases ok1.4 c' z with t | ⟨o, ho, t⟩
      · obtain ⟨ps, e, _⟩ := (ok1.3 c' t).2
        rw [c1] at e
        unfold CodeO at e
        cases e
      · rw [c1] at ho
        cases ho
        cases t
  exact p _ H1 _ n (h c') pr ok1 (.fn (cut_mk Sf f1) (by show cut S H1 (mk c').c = some (CodeO (mk c').c (mk c').qual); rw [hq]; exact cut_mk Sc c1) .nil)
end
end DW
set_option Elab.async false
set_option maxRecDepth 100000
set_option maxHeartbeats 4000000
set_option linter.all false
set_option autoImplicit false
/-! lists shortened, lengthened by lists; numbers made more or less in place -/
namespace DW
variable [Tb]
open PySem PySem.Spec PyProof.Rows L2
section
variable {K : PySem.W.Frag} {w : Option Addr} {n : Nat} {ds : List (Option D)} {te : TE} {i : Nat} {ks : KS}
theorem Rps.dropLast : ∀ {H : Hp} {xs : List V} {ds : List D}, Rps K H xs ds → Rps K H xs.dropLast ds.dropLast
  | _, _, _, .nil => .nil
  | _, _, _, .cons a .nil => .nil
  | _, _, _, .cons a (.cons b c) => .cons a (Rps.dropLast (.cons b c))
/-- xs.pop() -/
theorem s_pop {l : List D} (hi : ds[i]? = some (some (.own l))) (h0 : l ≠ []) (h : ks.nx (ds.set i (some (.own l.dropLast))) n) : WpS K w (tDrop (tBM0 K "list" rPop (tVar i))) ds n ks := fun S0 H0 S σ H E b r e => by
  obtain ⟨a, xs, h1, h2, h3, h4, h5, h6⟩ := r.own i l hi
  have hl := h6.length
  have hne : xs.length ≠ 0 := by
    rw [hl]
    exact fun z => h0 (List.length_eq_zero_iff.mp z)
  refine ⟨.ref a, h1, Or.inl ⟨rfl, xs, Evl.sq_of h5⟩, ?_⟩
  refine ⟨a, xs, xs[xs.length - 1]'(by omega), rfl, rfl, h5, by rw [List.getElem?_eq_getElem], ?_⟩
  have r' := r.mutOwn (xs' := xs.dropLast) (l' := l.dropLast) hi h1 h6.dropLast
  refine e.nx S σ _ _ n h (b.mut h2 h3 h4 (.lst h5)) r' ?_
  rw [cut_upd h2]; exact Evl.Ex.refl _
theorem s_popX (h : ∃ l, ds[i]? = some (some (.own l)) ∧ l ≠ [] ∧ ks.nx (ds.set i (some (.own l.dropLast))) n) : WpS K w (tDrop (tBM0 K "list" rPop (tVar i))) ds n ks := by
  obtain ⟨l, h1, h2, h3⟩ := h
  exact s_pop h1 h2 h3
/-- x += e, x -= e, of integers -/
theorem s_aug {f : Int → Int → Int} {x : Int} (hi : ds[i]? = some (some (.int x))) (h : WpE K w te ds n fun d n1 => ∃ y, d = .int y ∧ ks.nx (ds.set i (some (.int (f x y)))) n1) : WpS K w (tAug i te (ipI f)) ds n ks := fun S0 H0 S σ H E b r e => by
  obtain ⟨v, h1, h2⟩ := r.get i _ hi rfl
  cases h2
  refine ⟨_, h1, h S H0 σ H _ r b.ok fun v H1 d n1 ⟨y, hd, hk⟩ p1 ok1 r1 => ?_⟩
  subst hd
  cases r1
  exact ⟨x, y, rfl, rfl, e.nx S _ H1 _ n1 hk (b.up p1 ok1) ((r.up b.ok p1).set (.int _) rfl) (ex_cut b.ok p1)⟩
theorem s_augX {f : Int → Int → Int} (h : ∃ x, ds[i]? = some (some (.int x)) ∧ WpE K w te ds n fun d n1 => ∃ y, d = .int y ∧ ks.nx (ds.set i (some (.int (f x y)))) n1) : WpS K w (tAug i te (ipI f)) ds n ks := by
  obtain ⟨x, h1, h2⟩ := h
  exact s_aug h1 h2
/-- divmod of integers -/
def rDivmodU : RCT := fun xs H Q => ∃ i j, xs = [.int i, .int j] ∧ CDiv i j ∧ ∀ p, H p = none → Q (.ref p) (upd H p (.tup [.int (i / j), .int (i % j)]))
theorem cr_divmodU {X : Cx} : CallR X (.builtin "divmod") rDivmodU := call_divmod
theorem rc_divmod {i j : Int} {k : Kn} (h1 : 0 < j) (h2 : j < 1073741824) (hk : k (.tup [.int (i / j), .int (i % j)]) n) : RC K w rDivmodU [.int i, .int j] n k := fun S vs H Q r ok p => by
  cases r with
  | cons a b =>
    cases a
    cases b with
    | cons a' b' =>
      cases a'
      cases b'
      exact ⟨i, j, rfl, ⟨h1, h2⟩, fun q hq => p _ _ _ n hk (Pres.new hq) (ok.new hq) (.tup (SqT.of (cut_new ok hq)) (.cons (.int _) (.cons (.int _) .nil)))⟩
theorem rc_divmodX {i j : Int} {k : Kn} (h : (0 < j ∧ j < 1073741824) ∧ k (.tup [.int (i / j), .int (i % j)]) n) : RC K w rDivmodU [.int i, .int j] n k := rc_divmod h.1.1 h.1.2 h.2
end
/-! ### a list of one's own, looked at -/
section
variable {K : PySem.W.Frag} {w : Option Addr} {n : Nat} {ds : List (Option D)} {te : TE} {i : Nat} {k : Kn} {l : List D}
theorem e_lenOwn (hi : ds[i]? = some (some (.own l))) (hk : k (.int l.length) n) : WpE K w (tCB (rLenU K) (tCons (tVar i) tNil)) ds n k := fun S H0 σ H Q re ok p => by
  obtain ⟨a, xs, h1, h2, h3, h4, h5, h6⟩ := re.own i l hi
  exact ⟨.ref a, h1, .ref a, l.length, rfl, .inl ⟨xs, SqL.of h5, h6.length.symm⟩, p _ H _ n hk Pres.refl ok (.int _)⟩
theorem e_lenOwnX (h : ∃ l : List D, ds[i]? = some (some (.own l)) ∧ k (.int l.length) n) : WpE K w (tCB (rLenU K) (tCons (tVar i) tNil)) ds n k := by
  obtain ⟨l, h1, h2⟩ := h
  exact e_lenOwn h1 h2
theorem e_ixOwn (hi : ds[i]? = some (some (.own l))) (h : WpE K w te ds n fun d n1 => ∃ (z : Int) (x : D), d = .int z ∧ atI l z = some x ∧ k x n1) : WpE K w (tOp (rIx K) (tVar i) te) ds n k := fun S H0 σ H Q re ok p => by
  obtain ⟨a, xs, h1, h2, h3, h4, h5, h6⟩ := re.own i l hi
  refine ⟨.ref a, h1, h S H0 σ H _ re ok fun v H1 d n1 ⟨z, x, hd, hz, hk⟩ p1 ok1 r1 => ?_⟩
  subst hd
  cases r1
  have g5 : H1 a = some (.lst xs) := p1.go a _ h3 h5 rfl
  have x6 := h6.mono (ex_cut ok p1)
  obtain ⟨j, g1, g2⟩ := Option.bind_eq_some_iff.mp hz
  obtain ⟨y, hy, ry⟩ := x6.get g2
  refine .inl ⟨a, xs, z, y, rfl, rfl, SqL.of g5, ?_, p _ H1 _ n1 hk p1 ok1 ry⟩
  unfold atI; rw [x6.length, g1]; exact hy
theorem e_ixOwnX (h : ∃ l : List D, ds[i]? = some (some (.own l)) ∧ WpE K w te ds n fun d n1 => ∃ (z : Int) (x : D), d = .int z ∧ atI l z = some x ∧ k x n1) : WpE K w (tOp (rIx K) (tVar i) te) ds n k := by
  obtain ⟨l, h1, h2⟩ := h
  exact e_ixOwn h1 h2
/-- a part of a list is a new list -/
theorem f_sl {tl th : TO} {kf : List D → Nat → Prop} (h : WpE K w te ds n fun d n1 => ∃ l, d = .lst l ∧ WpO K w tl ds n1 fun lo n2 => WpO K w th ds n2 fun hi n3 => kf (cutD l lo hi) n3) : WpF K w (tSl (rSlU K) te tl th) ds n kf := fun S H0 σ H Q re ok p =>
  h S H0 σ H _ re ok fun v H1 d n1 ⟨l, e, h1⟩ p1 ok1 r1 => by
    subst e
    refine h1 S H0 σ H1 _ (re.up ok p1) ok1 fun lo H2 n2 h2 p2 ok2 => h2 S H0 σ H2 _ ((re.up ok p1).up ok1 p2) ok2 fun hi H3 n3 h3 p3 ok3 => ?_
    have r3 := (r1.mono (ex_cut ok1 p2)).mono (ex_cut ok2 p3)
    have p13 := (p1.trans p2).trans p3
    cases r3 with
    | @lst aa xs _ hA xA =>
      refine .inl ⟨aa, xs, rfl, SqL.of (cut_some hA).2, fun q hq => p q _ (cutV xs lo hi) (cutD l lo hi) n3 h3 (p13.back _ hq) (p13.trans (Pres.new hq)) (ok3.addS hq) upd_same ?_⟩
      have := (((xA.drop (HT.sIx xs.length 0 lo)).take (HT.sIx xs.length xs.length hi - HT.sIx xs.length 0 lo)).mono (cut_addS (o := .lst (cutV xs lo hi)) hq))
      unfold cutV cutD
      rw [← xA.length]; exact this
end
/-! ### f(*x, e, ..), f a def of the module -/
section
variable {M : Model} {A : Around} {E : Value → Shared → Prop} {s : Shared}
theorem evalArgs_star {f : Value} {x : Sem Value} {b : Bool × Sem Value} {rest : List (Bool × Sem Value)} {Q : Args → Shared → Prop}
    (h : wpAny M A (spliced ((true, x) :: b :: rest)) (fun vs s' => Q ⟨vs, []⟩ s') E s) : wpAny M A (evalArgs f true ((true, x) :: b :: rest) []) Q E s := by
  unfold evalArgs
  show wpAny M A (spliced ((true, x) :: b :: rest) >>= _) Q E s
  refine wpAny_bind (wpAny_mono h (fun vs s' h' => ?_) fun _ _ x => x)
  refine wpAny_holding ?_
  exact wpAny_bind (wpAny_pure (wpAny_bind (wpAny_pure (wpAny_pure h'))))
end
section
variable {X : Cx} {k j : Nat} {x : Str} {sp : Sp} {dvs : List V} {e e2 : Expr} {es : List Expr} {t : TA} {p pos sp_ : Pos}
theorem pe_goS (G : Go X.prog X.w X.K X.mg X.base j x sp dvs) (hr : Room k X.A) (ha : PA X (.Starred e sp_ :: e2 :: es) t) (hj : j ≤ k := by decide) (hg : Gl X x := by rfl) (hdb : (x == ("__debug__" : Str)) = false := by decide)
    (he : starEach (.Starred e sp_ :: e2 :: es) X.env = (true, eval e X.env) :: (false, eval e2 X.env) :: starEach es X.env := by rfl) :
    PE X (.Call (.Name x p) (.Starred e sp_ :: e2 :: es) [] pos) (tCall sp dvs E0 t) := by
  obtain ⟨f, fd, ps, ds, F, hm, hk, hb, hd⟩ := G.ex
  refine ⟨fun pins s σ H Q I h => ?_⟩
  refine wpAny_Call_Name_kw (ld_glob I hg hm ?_ hdb)
  have run : wpAny (model X.prog X.w) X.A (spliced (backTo pos (starEach (.Starred e sp_ :: e2 :: es) X.env))) (fun us s1 => X.K.In s1.heap ∧ wpAny (model X.prog X.w) X.A (call (.ref f) ([] ++ us)) (EP X pins σ Q) X.xe s1) X.xe s :=
    thn (ha.run pos pins s σ H _ I h) fun us s1 ⟨vs, H1, I1, r, q⟩ => ⟨I1.kIn, run_fn F (hr.mono hj) hb hd pass0 I1 r q⟩
  rw [he] at run ⊢
  exact PySem.W.ks_call rfl (PySem.W.keeps_K hk) (evalArgs_star run)
end
end DW
set_option Elab.async false
set_option maxRecDepth 100000
set_option maxHeartbeats 4000000
set_option linter.all false
set_option autoImplicit false
/-! comprehensions over pairs; pairs of numbers in lists -/
namespace DW
variable [Tb]
open PySem PySem.Spec PyProof.Rows L2
section
variable {K : PySem.W.Frag} {w : Option Addr} {n : Nat} {ds : List (Option D)} {ta tb te : TE} {tA : TA} {i j : Nat} {k : Kn} {ks : KS} {wi : TI} {tt : TT} {d e : D}
theorem dwipe2 (hij : i ≠ j) {a b : Option D} : ((dwipe ds [i, j]).set i a).set j b = (ds.set i a).set j b := by
  show (((ds.set j none).set i none).set i a).set j b = _
  rw [List.set_set, List.set_comm none a (fun z => hij z.symm), List.set_set]
theorem f_lcG2 {α : Type} {φ ψ : α → D} (hφ : ∀ x, isOwn (φ x) = false) (hψ : ∀ x, isOwn (ψ x) = false) (hij : i ≠ j) {k : List D → Nat → Prop} {P : α → Bool} {f : α → D} (h : WpI K w wi ds n fun items n1 => ∃ ns : List α, items = ns.map (fun x => .tup [φ x, ψ x]) ∧ ns.length ≤ 100000 ∧
      (∀ z, z ∈ ns → WpT K w tt ((ds.set i (some (φ z))).set j (some (ψ z))) n1 fun b n2 => b = P z ∧ n2 = n1 ∧ (b = true → WpE K w te ((ds.set i (some (φ z))).set j (some (ψ z))) n1 fun d n3 => d = f z ∧ n3 = n1)) ∧ k ((ns.filter P).map f) n1) :
    WpF K w (tLc wi (gTup K 2 (gCons (gName i) (gCons (gName j) gNil))) tt te [i, j]) ds n k := by
  refine f_lc (h.imp fun items n1 ⟨ns, e, hz, hb, hk⟩ => ?_)
  subst e
  refine ⟨by rw [List.length_map]; exact hz, fun q acc n' => n' = n1 ∧ acc = ((ns.take q).filter P).map f, ⟨rfl, by simp⟩, fun q x acc n' hx ⟨e1, e2⟩ => ?_, fun acc n' ⟨e1, e2⟩ => ?_⟩
  · subst e1 e2
    rw [List.getElem?_map] at hx
    obtain ⟨z, hz1, hz2⟩ := Option.map_eq_some_iff.mp hx
    subst hz2
    have hmem := List.mem_of_getElem? hz1
    have et : ns.take (q + 1) = ns.take q ++ [z] := by rw [List.take_succ, hz1]; rfl
    refine ⟨_, g_tup (gs_cons (g_name (hφ z)) (gs_cons (g_name (hψ z)) gs_nil)) rfl, ?_⟩
    rw [dwipe2 hij]
    refine (hb z hmem).imp fun b n2 ⟨e1, e2, hb2⟩ => ?_
    subst e2
    refine ⟨fun hbt => (hb2 hbt).imp fun d n3 ⟨e3, e4⟩ => ⟨e4, ?_⟩, fun hbf => ⟨rfl, ?_⟩⟩
    · rw [et, List.filter_append, List.map_append, e3]
      congr 1
      rw [List.filter_cons, ← e1, hbt]; rfl
    · rw [et, List.filter_append, List.map_append]
      rw [show List.filter P [z] = [] by rw [List.filter_cons, ← e1, hbf]; rfl]
      simp
  · subst e1 e2
    rw [List.length_map, List.take_length]
    exact hk
theorem e_lcG2X {α : Type} (h : ∃ (φ ψ : α → D) (P : α → Bool) (f : α → D), (∀ x, isOwn (φ x) = false) ∧ (∀ x, isOwn (ψ x) = false) ∧ i ≠ j ∧ WpI K w wi ds n fun items n1 => ∃ ns : List α, items = ns.map (fun x => .tup [φ x, ψ x]) ∧ ns.length ≤ 100000 ∧
      (∀ z, z ∈ ns → WpT K w tt ((ds.set i (some (φ z))).set j (some (ψ z))) n1 fun b n2 => b = P z ∧ n2 = n1 ∧ (b = true → WpE K w te ((ds.set i (some (φ z))).set j (some (ψ z))) n1 fun d n3 => d = f z ∧ n3 = n1)) ∧ k (.lst ((ns.filter P).map f)) n1) :
    WpE K w (tLc wi (gTup K 2 (gCons (gName i) (gCons (gName j) gNil))) tt te [i, j]) ds n k := by
  obtain ⟨φ, ψ, P, f, h0, h1, h2, h⟩ := h
  exact WpF.toE (k := k) (f_lcG2 h0 h1 h2 h)
/-! ### pairs of numbers -/
def ptD (x : Int × Int) : D := .tup [.int x.1, .int x.2]
def ptPy (x : Int × Int) : PyData := .tuple [.int x.1, .int x.2]
theorem toPy_pt (x : Int × Int) : toPy (ptD x) = ptPy x := rfl
theorem toPys_pts : ∀ l : List (Int × Int), toPys (l.map ptD) = l.map ptPy
  | [] => rfl
  | x :: l => by rw [List.map_cons, List.map_cons]; unfold toPys; rw [toPys_pts l]; rfl
theorem pure_pts : ∀ l : List (Int × Int), pureDs (l.map ptD) = true
  | [] => rfl
  | x :: l => by rw [List.map_cons]; unfold pureDs; rw [pure_pts l]; rfl
theorem canLay_pts : ∀ l : List (Int × Int), PyData.canLayAll0 (l.map ptPy) = true
  | [] => rfl
  | x :: l => by rw [List.map_cons]; unfold PyData.canLayAll0; rw [canLay_pts l]; rfl
theorem depth_pts : ∀ l : List (Int × Int), PyData.depthAll (l.map ptPy) ≤ 5
  | [] => by decide
  | x :: l => by rw [List.map_cons]; unfold PyData.depthAll; have := depth_pts l; have e : (ptPy x).depth ≤ 5 := by simp [ptPy, PyData.depth, PyData.depthAll]
                 omega
theorem e_fldE {f : Str} (h : WpE K w te ds n fun d n1 => ∃ C ns l, d = .obj C ns l ∧ ClT K C ns ∧ f ∈ ns ∧ ∃ e, (ns.zip l).lookup f = some e ∧ k e n1) : WpE K w (tFld K te f) ds n k :=
  e_fld (h.imp fun d n1 ⟨C, ns, l, e1, T, hf, e, he, hk⟩ => ⟨C, ns, l, e, e1, T.cls, T.na f hf, he, hk⟩)
theorem eqv_pt (x y : Int × Int) : PyData.eqv (ptPy x) (ptPy y) = decide (x = y) := by
  obtain ⟨a, b⟩ := x
  obtain ⟨c, d⟩ := y
  unfold ptPy
  have e : ∀ i j : Int, PyData.eqv (.int i) (.int j) = decide (i = j) := fun i j => by
    first
      | rfl
      | (simp [PyData.eqv]; by_cases h : i = j <;> simp [h])
  rw [PyData.eqv, PyData.eqvAll, PyData.eqvAll, PyData.eqvAll, e, e]
  by_cases h1 : a = c <;> by_cases h2 : b = d <;> simp [h1, h2, Prod.ext_iff]
theorem shaped_pts (l : List (Int × Int)) : SeqAt.shaped (toPy (.lst (l.map ptD))) = true := by
  show SeqAt.shaped (.list (toPys (l.map ptD))) = true
  rw [toPys_pts]
  show (PyData.canLayAll0 (l.map ptPy) && decide (PyData.depth (.list (l.map ptPy)) ≤ 64)) = true
  rw [canLay_pts]
  have e : PyData.depth (.list (l.map ptPy)) = PyData.depthAll (l.map ptPy) + 1 := rfl
  have := depth_pts l
  rw [e, Bool.true_and]
  exact decide_eq_true (by omega)
theorem any_pts (x : Int × Int) : ∀ l : List (Int × Int), ((l.map ptPy).any fun z => PyData.eqv z (ptPy x)) = decide (x ∈ l)
  | [] => rfl
  | y :: l => by
    rw [List.map_cons, List.any_cons, any_pts x l, eqv_pt]
    by_cases h : y = x
    · subst h; simp
    · have h' : ¬ x = y := fun z => h z.symm
      simp [h, h']
theorem rd_inPts {x : Int × Int} {l : List (Int × Int)} (hk : k (.bl (decide (x ∈ l))) n) : RD K w (rInU K false) (ptD x) (.lst (l.map ptD)) n k := by
  refine rd_inDeep rfl (pure_pts l) rfl (shaped_pts l) ?_
  rw [toPys_pts, toPy_pt, any_pts]
  exact hk
theorem rd_ninPts {x : Int × Int} {l : List (Int × Int)} (hk : k (.bl (!decide (x ∈ l))) n) : RD K w (rInU K true) (ptD x) (.lst (l.map ptD)) n k := by
  refine rd_ninDeep rfl (pure_pts l) rfl (shaped_pts l) ?_
  rw [toPys_pts, toPy_pt, any_pts]
  exact hk
theorem cutD_drop1 {l : List D} : cutD l (some 1) none = l.drop 1 := by
  unfold cutD
  have e2 : HT.sIx l.length l.length none = l.length := rfl
  rw [e2, show (some (1 : Int)) = some ((1 : Nat) : Int) from rfl, HT.sIx_nat]
  by_cases h : 1 ≤ l.length
  · rw [Nat.min_eq_left h]
    exact List.take_of_length_le (by rw [List.length_drop]; exact Nat.le_refl _)
  · have : l = [] := List.eq_nil_of_length_eq_zero (by omega)
    subst this
    rfl
theorem rc_allX' {α : Type} {l : List α} {f : α → Bool} (hk : k (.bl (l.all f)) n) : RC K w (rAll K) [.lst (l.map fun x => .bl (f x))] n k := by
  have e : (l.map fun x => D.bl (f x)) = (l.map f).map D.bl := by rw [List.map_map]; rfl
  rw [e]
  refine rc_all ?_
  rw [List.all_map]
  exact hk
theorem rc_allF {α : Type} {l : List α} (hk : k (.bl true) n) : RC K w (rAll K) [.lst ((l.filter fun _ => true).map fun _ => .bl true)] n k := by
  refine rc_allX' (f := fun _ => true) ?_
  rw [List.all_eq_true.mpr fun _ _ => rfl]
  exact hk
theorem rc_lenP {x : Int × Int} (hk : k (.int 2) n) : RC K w (rLenU K) [ptD x] n k := rc_lenT hk
theorem rd_ixP0 {x : Int × Int} (hk : k (.int x.1) n) : RD K w (rIx K) (ptD x) (.int 0) n k := rd_ixT (atI_nat (j := 0) rfl) hk
theorem rd_ixP1 {x : Int × Int} (hk : k (.int x.2) n) : RD K w (rIx K) (ptD x) (.int 1) n k := rd_ixT (atI_nat (j := 1) rfl) hk
theorem rd_powL {i j v : Int} (hv : i ^ j.toNat = v) (hc : 0 ≤ j ∧ j ≤ 1000000 ∧ i.natAbs < 2 ^ 64) (hk : k (.int v) n) : RD K w (rI CPow fun i j => .int (i ^ j.toNat)) (.int i) (.int j) n k := by
  subst hv
  exact rd_powX ⟨hc, hk⟩
theorem rd_eqO {x y : Option Int} (hk : k (.bl (decide (x = y))) n) : RD K w (rEqU K) (oD x) (oD y) n k := fun S v u H Q a b ok p => by
  cases x with
  | none =>
    cases y with
    | none => cases a; cases b; exact .inl ⟨rfl, p _ H _ n hk Pres.refl ok (.bl _)⟩
    | some j => cases a; cases b; exact .inl ⟨rfl, p _ H _ n hk Pres.refl ok (.bl _)⟩
  | some i =>
    cases y with
    | none => cases a; cases b; exact .inl ⟨rfl, p _ H _ n hk Pres.refl ok (.bl _)⟩
    | some j =>
      cases a; cases b
      refine .inl ⟨rfl, ?_⟩
      rw [dI]
      have e : decide (some i = some j) = decide (i = j) := by
        by_cases h : i = j
        · subst h; simp
        · simp [h]
      rw [e] at hk
      exact p _ H _ n hk Pres.refl ok (.bl _)
/-- a list of one's own and a thing that touches no heap, put side by side -/
theorem s_parO {i j : Nat} {v : V} (hij : i ≠ j) (hv : ∀ H : Hp, Rp K H v d) (ho : isOwn d = false) (hb : ∀ (σ : L2.St) (H : Hp) (Q : VK), Q v H → tb σ H Q) (h : WpF K w ta ds n fun l n1 => ks.nx ((ds.set j (some d)).set i (some (.own l))) n1) : WpS K w (tPar i j (tCons ta (tCons tb tNil))) ds n ks := fun S0 H0 S σ H E b r e =>
  h S H0 σ H _ r b.ok fun a H1 xs l n1 hk ha p1 ok1 hl hx => hb σ H1 _ ⟨.ref a, v, rfl, by
    have z := own_put b (r.set (hv _) ho (i := j)) e hk ha p1 ok1 hl hx
    rw [List.set_comm _ _ (fun q => hij q.symm)] at z
    exact z⟩
theorem s_parOI {i j : Nat} {x : Int} (hij : i ≠ j) (h : WpF K w ta ds n fun l n1 => ks.nx ((ds.set j (some (.int x))).set i (some (.own l))) n1) : WpS K w (tPar i j (tCons ta (tCons (tC (.int x)) tNil))) ds n ks :=
  s_parO (v := .int x) (d := .int x) hij (fun _ => .int _) rfl (fun _ _ _ q => q) h
theorem s_parON {i j : Nat} {x : Int} (hij : i ≠ j) (h : WpF K w ta ds n fun l n1 => ks.nx ((ds.set j (some (.int (-x)))).set i (some (.own l))) n1) : WpS K w (tPar i j (tCons ta (tCons (tUn (rU fun i => .int (-i)) (tC (.int x))) tNil))) ds n ks :=
  s_parO (v := .int (-x)) (d := .int (-x)) hij (fun _ => .int _) rfl (fun _ _ _ q => ⟨x, rfl, q⟩) h
/-- a comprehension whose items are ints of a kind, each costs B draws at most -/
theorem f_lcInts {P : Int → Prop} (B : Nat) {kf : List D → Nat → Prop} (h : WpI K w wi ds n fun items n1 => items.length ≤ 100000 ∧ (∀ q x n', items[q]? = some x → n' ≤ n1 + B * q → isOwn x = false ∧ WpE K w te (ds.set i (some x)) n' fun d n2 => ∃ z, d = .int z ∧ P z ∧ n2 ≤ n' + B) ∧
      (∀ ns : List Int, ns.length = items.length → (∀ z ∈ ns, P z) → ∀ n', n' ≤ n1 + B * items.length → kf (ns.map .int) n')) : WpF K w (tLc wi (gName i) tYes te [i]) ds n kf := by
  refine f_lc (h.imp fun items n1 ⟨hz, hb, hk⟩ => ?_)
  refine ⟨hz, fun q acc n' => n' ≤ n1 + B * q ∧ ∃ ns : List Int, acc = ns.map .int ∧ ns.length = q ∧ ∀ z ∈ ns, P z, ⟨by omega, [], rfl, rfl, fun z hz => by simp at hz⟩, fun q x acc n' hx ⟨e1, ns, e2, e3, e4⟩ => ?_, fun acc n' ⟨e1, ns, e2, e3, e4⟩ => ?_⟩
  · obtain ⟨ho, hw⟩ := hb q x n' hx e1
    have ed : (dwipe ds [i]).set i (some x) = ds.set i (some x) := by
      show ((dwipe ds []).set i none).set i _ = _
      rw [List.set_set]; rfl
    refine ⟨_, g_name ho, t_yes ?_⟩
    rw [ed]
    refine ⟨fun _ => hw.imp fun d n2 ⟨z, e5, e6, e7⟩ => ⟨by rw [Nat.mul_succ]; omega, ns ++ [z], by rw [e2, e5, List.map_append]; rfl, by rw [List.length_append, e3]; rfl, fun y hy => ?_⟩, fun z => (nomatch z)⟩
    rcases List.mem_append.mp hy with hy | hy
    · exact e4 y hy
    · rw [List.mem_singleton] at hy; subst hy; exact e6
  · subst e2
    exact hk ns e3 e4 n' e1
theorem e_lcInts {P : Int → Prop} (B : Nat) (h : WpI K w wi ds n fun items n1 => items.length ≤ 100000 ∧ (∀ q x n', items[q]? = some x → n' ≤ n1 + B * q → isOwn x = false ∧ WpE K w te (ds.set i (some x)) n' fun d n2 => ∃ z, d = .int z ∧ P z ∧ n2 ≤ n' + B) ∧
      (∀ ns : List Int, ns.length = items.length → (∀ z ∈ ns, P z) → ∀ n', n' ≤ n1 + B * items.length → k (.lst (ns.map .int)) n')) : WpE K w (tLc wi (gName i) tYes te [i]) ds n k := WpF.toE (k := k) (f_lcInts B h)
theorem cutD_m1 {l : List D} (h : 1 ≤ l.length) : cutD l none (some (-1)) = l.dropLast := by
  unfold cutD
  have e1 : HT.sIx l.length 0 none = 0 := rfl
  have e2 : HT.sIx l.length l.length (some (-1)) = l.length - 1 := by
    have := HT.clip_eq (-1) l.length l.length
    rw [if_pos (by decide)] at this
    omega
  rw [e1, e2, List.drop_zero, Nat.sub_zero, List.dropLast_eq_take]
/-- a, b, c = x, y, z -/
theorem s_par3 {i j l : Nat} (h : WpA K w tA ds n fun es n1 => ∃ d1 d2 d3, es = [d1, d2, d3] ∧ isOwn d1 = false ∧ isOwn d2 = false ∧ isOwn d3 = false ∧ ks.nx (((ds.set i (some d1)).set j (some d2)).set l (some d3)) n1) : WpS K w (tPar3 i j l tA) ds n ks := fun S0 H0 S σ H E b r e =>
  h S H0 σ H _ r b.ok fun vs H1 es n1 ⟨d1, d2, d3, ee, o1, o2, o3, hk⟩ p1 ok1 r1 => by
    subst ee
    cases r1 with
    | cons a b' =>
      cases b' with
      | cons a' b' =>
        cases b' with
        | cons a2 b' =>
          cases b'
          exact ⟨_, _, _, rfl, e.nx S _ H1 _ n1 hk (b.up p1 ok1) ((((r.up b.ok p1).set a o1).set a' o2).set a2 o3) (ex_cut b.ok p1)⟩
/-- repr of None or a whole number, wherever it stands -/
def rReprO (K : PySem.W.Frag) : RCT := fun xs H Q => (∃ i, xs = [.int i] ∧ i.natAbs.log2 < 1920 ∧ Q (.str (toString i)) H) ∨ (xs = [.non] ∧ Q (.str "None") H)
theorem call_reprO {X : Cx} : CallR X (.builtin "repr") (rReprO X.K) := (SkE.call_repr_int).or call_reprN
theorem rc_reprOO {x : Option Int} (hz : ∀ i, x = some i → i.natAbs.log2 < 1920) (hk : k (.str (reprO x)) n) : RC K w (rReprO K) [oD x] n k := fun S vs H Q r ok p => by
  cases r with
  | cons a b =>
    cases b
    cases x with
    | none => cases a; exact .inr ⟨rfl, p _ H _ n hk Pres.refl ok (.str _)⟩
    | some i => cases a; exact .inl ⟨i, rfl, hz i rfl, p _ H _ n hk Pres.refl ok (.str _)⟩
theorem rd_isN0 (hk : k (.bl false) n) : RD K w rIsNU (oD none) .non n k := rd_isNNn hk
theorem rd_is0 (hk : k (.bl true) n) : RD K w rIsU (oD none) .non n k := rd_isNn hk
theorem rd_isNO {x : Option Int} (hk : k (.bl x.isSome) n) : RD K w rIsNU (oD x) .non n k := by
  cases x with
  | none => exact rd_isNNn hk
  | some i => exact rd_isNI hk
theorem rd_isO {x : Option Int} (hk : k (.bl (!x.isSome)) n) : RD K w rIsU (oD x) .non n k := by
  cases x with
  | none => exact rd_isNn hk
  | some i => exact rd_isI hk
theorem rd_eqOI {x : Option Int} {i : Int} (hk : k (.bl (decide (x = some i))) n) : RD K w (rEqU K) (oD x) (.int i) n k := rd_eqO (y := some i) hk
theorem rd_neOI {x : Option Int} {i : Int} (hk : k (.bl (!decide (x = some i))) n) : RD K w (rNeU K) (oD x) (.int i) n k := rd_neO (y := some i) hk
/-- two keywords told in the other order -/
def swap2 {α : Type} (_ zs : List α) : List α := match zs with
  | [a, b] => [b, a]
  | _ => []
theorem swap2_ok {H : Hp} {vs zs : List V} {es fs : List D} (h1 : Rps K H vs es) (h2 : Rps K H zs fs) : Rps K H (swap2 vs zs) (swap2 es fs) := by
  cases h2 with
  | nil => exact .nil
  | cons a b =>
    cases b with
    | nil => exact .nil
    | cons c d =>
      cases d with
      | nil => exact .cons c (.cons a .nil)
      | cons e f => exact .nil
/-- a promise of a nested def that knows how many it captured -/
def toSpNL (K : PySem.W.Frag) (L : Nat) (sp : DSpW) : List (Option V) → Sp := fun ws vs H Q E => ws.length = L ∧ toSpN K sp ws vs H Q E
theorem e_callNL {mk : Addr → NdefX.NF} {js : List Nat} {L : Nat} {sp : DSpW} {c' : Addr} {xs : List V} {l cds : List D} (hL : js.length = L) (hi : ds[i]? = some (some (.fn (fvN (mk c')) xs l))) (hj : (js.map fun j => ds[j]?) = cds.map (fun d => some (some d))) (ho : ∀ d ∈ cds, isOwn d = false)
    (h : WpA K w tA ds n fun es n1 => sp w (es ++ cds) n1 k) : WpE K w (NdefX.tCallN mk i js (fun _ _ => toSpNL K L sp) E0 tA) ds n k := fun S H0 σ H Q re ok p => by
  obtain ⟨v, h1, h2⟩ := re.get i _ hi rfl
  cases h2 with
  | @fn a _ _ _ hf hc hx =>
    refine ⟨a, c', h1, (cut_some hf).2, h S H0 σ H _ re ok fun vs H1 es n1 hs p1 ok1 r1 => ?_⟩
    have ex := ex_cut ok p1
    obtain ⟨cvs, e, r⟩ := slots_of (re.up ok p1) hj ho
    exact ⟨(cut_some (ex _ _ hf)).2, (cut_some (ex _ _ hc)).2, by rw [List.length_map]; exact hL, cvs, e, w, S, es ++ cds, n1, k, r1.append r, ok1, hs, p.from p1⟩
end
end DW
set_option Elab.async false
set_option maxRecDepth 100000
set_option maxHeartbeats 4000000
set_option linter.all false
set_option autoImplicit false
/-! the law's call: its pen, its rest -/
namespace DW
variable [Tb]
open PySem PySem.Spec PyProof.Rows L2
/-- what _law_pen promises -/
def penSp (K : PySem.W.Frag) : Sp := fun vs H Q _ => ∃ (a : Addr) (ns : List Int), vs = [.ref a] ∧ SqL K H a (ns.map V.int) ∧ ns.length ≤ 63 ∧
  ∀ (p c : Addr) (H' : Hp), H p = none → H c = none → c ≠ p → (∀ b o, H b = some o → H' b = some o) → H' p = some (.lst [.ref c, .int 0, .int 0]) → H' c = some (.lst (ns.map V.int)) → Q (.ref p) H'
def lawSp (K : PySem.W.Frag) : Sp := fun vs H Q _ => ∃ (a : Addr) (ns : List Int), vs = [.ref a] ∧ SqL K H a (ns.map V.int) ∧ ns.length ≤ 63 ∧ (∀ T, Tb.tab T = true → H T = some (.tbl #[])) ∧ ∀ H', Q (.bl true) H'
section
variable {K : PySem.W.Frag}
theorem cut63 {ns : List Int} (hl : ns.length ≤ 63) : cutV (ns.map V.int) none (some 63) = ns.map V.int := by
  unfold cutV
  have e1 : HT.sIx (ns.map V.int).length 0 none = 0 := rfl
  have e2 : HT.sIx (ns.map V.int).length (ns.map V.int).length (some 63) = (ns.map V.int).length := by
    rw [show (63 : Int) = ((63 : Nat) : Int) from rfl, HT.sIx_nat, List.length_map]
    omega
  rw [e1, e2, List.drop_zero, Nat.sub_zero, List.take_length]
/-- return [list(script[:63]), 0, 0] -/
theorem pen_list {a : Addr} {ns : List Int} {H : Hp} {Q : VK} {E : Ends} {σ : L2.St} (hσ : σ[0]? = some (some (.ref a))) (hS : SqL K H a (ns.map V.int)) (hl : ns.length ≤ 63) (he : E.rt = Q)
    (k : ∀ (p c : Addr) (H' : Hp), H p = none → H c = none → c ≠ p → (∀ b o, H b = some o → H' b = some o) → H' p = some (.lst [.ref c, .int 0, .int 0]) → H' c = some (.lst (ns.map V.int)) → Q (.ref p) H') :
    (tRet (tLst (tCons (tCB (rListU K) (tCons (tSl (rSlU K) (tVar 0) tNoPart (tPart (tC (.int 63)))) tNil)) (tCons (tC (.int 0)) (tCons (tC (.int 0)) tNil))))) E σ H := by
  subst he
  refine ⟨.ref a, hσ, ⟨63, rfl, Or.inl ⟨a, _, rfl, hS, fun q hq => ?_⟩⟩⟩
  rw [cut63 hl]
  refine Or.inl ⟨q, ns.map V.int, rfl, .inl (SqL.of upd_same), fun l hl2 => ?_⟩
  have hl0 : H l = none := by
    by_cases e : l = q
    · subst e; rw [upd_same] at hl2; cases hl2
    · rw [upd_ne e] at hl2; exact hl2
  refine ⟨Evl.sz_of (by simp), fun p hp => ?_⟩
  have up : ∀ b o, H b = some o → (upd (upd H q (.lst (ns.map V.int))) l (.lst (ns.map V.int))) b = some o := fun b o e => by
    rw [upd_ne (ne_of_none e hl0), upd_ne (ne_of_none e hq)]; exact e
  have hpl : l ≠ p := fun e => by subst e; rw [upd_same] at hp; cases hp
  refine k p l _ ?_ hl0 hpl (fun b o e => ?_) upd_same ?_
  · cases z : H p with
    | none => rfl
    | some o => rw [up p o z] at hp; cases hp
  · rw [upd_ne (ne_of_none (up b o e) hp)]; exact up b o e
  · rw [upd_ne hpl, upd_same]
theorem vals_swap {vs zs : List V} {us ws : List Value} (h1 : Vals vs us) (h2 : Vals zs ws) : Vals (swap2 vs zs) (swap2 us ws) := by
  cases h2 with
  | nil => exact .nil
  | cons a b =>
    cases b with
    | nil => exact .nil
    | cons a' b' =>
      cases b' with
      | nil => exact .cons a' (.cons a .nil)
      | cons _ _ => exact .nil
theorem repl_none {k i : Nat} {d : D} (h : (List.replicate k (none : Option D))[i]? = some (some d)) : False := by
  rw [List.getElem?_replicate] at h
  split at h <;> cases h
/-- the law: its pen, then what it does with it -/
theorem law_go {N : List Str} {m : Nat} {rest : TS} (hN : N.length = m + 2) (hw : ∀ p, WpS K (some p) rest (none :: some (.raw (.ref p)) :: List.replicate m none) 0 { nx := fun _ _ => False, rt := fun d _ => d = .bl true })
    {a : Addr} {ns : List Int} {H : Hp} {Q : VK} (hS : SqL K H a (ns.map V.int)) (hl : ns.length ≤ 63) (hT : ∀ T, Tb.tab T = true → H T = some (.tbl #[])) (hQ : ∀ H', Q (.bl true) H') :
    (tSeq (tAsg (tCall (penSp K) [] E0 (tCons (tVar 0) tNil)) (gName 1)) rest) { nx := fun _ H' => Q .non H', rt := Q } (L2.start N [.ref a]) H := by
  have hst : L2.start N [.ref a] = some (.ref a) :: List.replicate (m + 1) none := by
    unfold L2.start
    show some (V.ref a) :: List.replicate (N.length - 1) none = _
    rw [hN]; rfl
  rw [hst]
  refine ⟨.ref a, rfl, a, ns, rfl, hS, hl, fun p c H' hp hc hcp hkeep h1 h2 => ?_⟩
  let S : Addr → Bool := fun b => decide (b = p) || Tb.tab b
  have tn : ∀ b, H b = none → Tb.tab b = false := fun b hb => by
    cases z : Tb.tab b with
    | false => rfl
    | true => rw [hT b z] at hb; cases hb
  have hS' : ∀ b, S b = true → b = p ∨ Tb.tab b = true := fun b h => by
    rcases (Bool.or_eq_true _ _).mp h with z | z
    · exact .inl (of_decide_eq_true z)
    · exact .inr z
  have Sc : S c = false := by
    show (decide (c = p) || Tb.tab c) = false
    rw [tn c hc, decide_eq_false hcp]; rfl
  have Sp : S p = true := by
    show (decide (p = p) || Tb.tab p) = true
    rw [decide_eq_true rfl]; rfl
  have hcc : cut S H' c = some (.lst (ns.map V.int)) := cut_mk Sc h2 rfl
  have tT : ∀ b, Tb.tab b = true → H' b = some (.tbl #[]) := fun b hb => hkeep b _ (hT b hb)
  have ok : OkW K (some p) S H' 0 := by
    refine ⟨fun q hq => ?_, fun b hb => ?_, fun b hb => ⟨?_, NdefX.TabN.nil (tT b hb)⟩, fun b hb => ?_⟩
    · cases hq
      exact ⟨Sp, c, 0, 0, ns, h1, hcc, hl, by omega, by omega, by omega⟩
    · rcases hS' b hb with e | e
      · subst e; exact ⟨_, h1⟩
      · exact ⟨_, tT b e⟩
    · show (decide (b = p) || Tb.tab b) = true
      rw [hb, Bool.or_true]
    · rcases hS' b hb with e | e
      · subst e; exact .inr ⟨_, h1, rfl⟩
      · exact .inl e
  refine hw p S H' S ((some (.ref a) :: List.replicate (m + 1) none).set 1 (some (.ref p))) H' _ ⟨Pres.refl, ok, fun _ h => h, fun _ h => .inl h, fun q hq => (by cases hq; exact Sp), ok.2, fun b hb => (ok.3 b hb).1⟩ ⟨by simp, fun i d hi _ => ?_, fun i l hi => ?_, fun i j l m b hij hi => ?_⟩ ⟨fun _ _ _ _ _ z => z.elim, fun v H2 d n2 hd pr ok2 r => ?_, fun _ _ _ _ _ z => z.elim, fun _ _ _ _ _ z => z.elim⟩
  · match i, hi with
    | 0, hi => simp at hi
    | 1, hi =>
      simp at hi
      subst hi
      exact ⟨.ref p, rfl, .raw _⟩
    | i + 2, hi => exact (repl_none (i := i) hi).elim
  · exfalso
    match i, hi with
    | 0, hi => simp at hi
    | 1, hi => simp at hi
    | i + 2, hi => exact repl_none (i := i) hi
  · exfalso
    match i, hi with
    | 0, hi => simp at hi
    | 1, hi => simp at hi
    | i + 2, hi => exact repl_none (i := i) hi
  · subst hd
    cases r
    exact hQ H2
end
end DW
set_option Elab.async false
set_option maxRecDepth 100000
set_option maxHeartbeats 4000000
set_option linter.all false
set_option autoImplicit false
/-! defs that call repr: they stand where no repr is under way -/
namespace DW
variable [Tb]
open PySem PySem.Spec PyProof.Rows L2
/-- a promise kept where no repr is under way -/
structure FnG (P : Program) (w : World) (K : PySem.W.Frag) (mg : Str → Option Value) (base : Heap) (k : Nat) (f : Addr) (fd : FuncData) (ps : List Str) (sp : Sp) : Prop where
  len : ∀ vs H Q E, sp vs H Q E → vs.length = ps.length
  run : ∀ (A : Around) (outer : List Env) (s : Shared) (H : Hp) (ar : Args) (us : List Value) (vs : List V) (Q : VK) (E : XK), A.guards = some [] → Room k A → Env0 P w K mg base A outer s H → BindsTo s fd ar (ps.zip us) → Vals vs us → sp vs H Q E → codeAny (model P w) A (.call (.ref f) ar) (CR CX0 outer P w H s Q E) s
structure GoG (P : Program) (w : World) (K : PySem.W.Frag) (mg : Str → Option Value) (base : Heap) (k : Nat) (x : Str) (sp : Sp) (dvs : List V) : Prop where
  ex : ∃ (f : Addr) (fd : FuncData) (ps : List Str) (ds : List Value), FnG P w K mg base k f fd ps sp ∧ mg x = some (.ref f) ∧ PySem.W.keepIn K (.ref f) = true ∧ Binds K fd ps ds ∧ Vals dvs ds
section
variable {X : Cx} {k j : Nat} {x : Str} {sp : Sp} {dvs : List V} {e : Expr} {es : List Expr} {t : TA} {p pos : Pos}
theorem run_g {f : Addr} {fd : FuncData} {ps : List Str} {ds : List Value} {pins : List (Addr × Obj)} {σ : L2.St} {H : Hp} {s : Shared} {Q : VK} {us : List Value} {vs : List V} (F : FnG X.prog X.w X.K X.mg X.base k f fd ps sp) (hg : X.A.guards = some []) (hr : Room k X.A) (hb : Binds X.K fd ps ds) (hd : Vals dvs ds)
    (I : Inv X pins σ H s) (r : Vals vs us) (h : sp (vs ++ dvs) H Q E0) : wpAny (model X.prog X.w) X.A (call (.ref f) us) (EP X pins σ Q) X.xe s := by
  have r2 := r.append hd
  refine wpAny_call (codeAny_mono (F.run X.A X.stack s H ⟨us, []⟩ (us ++ ds) (vs ++ dvs) Q E0 hg hr I.env0 (hb s us I.kIn (r2.length.symm.trans (F.len _ _ _ _ h))) r2 h) ?_)
  rintro (e | fl) s' hq
  · exact pass0 pins σ H s e s' I hq
  · cases fl <;> first | exact I.after hq | exact False.elim hq
theorem pe_goG (G : GoG X.prog X.w X.K X.mg X.base j x sp dvs) (hgd : X.A.guards = some []) (hr : Room k X.A) (ha : PA X (e :: es) t) (hj : j ≤ k := by decide) (hg : Gl X x := by rfl) (hdb : (x == ("__debug__" : Str)) = false := by decide) (he : starEach (e :: es) X.env = (false, eval e X.env) :: starEach es X.env := by rfl) (hpl : (backTo pos (starEach es X.env)).any (·.1) = false := by rfl) :
    PE X (.Call (.Name x p) (e :: es) [] pos) (tCall sp dvs E0 t) := by
  obtain ⟨f, fd, ps, ds, F, hm, hk, hb, hd⟩ := G.ex
  exact ⟨fun pins s σ H Q I h => wpAny_Call_Name_kw (ld_glob I hg hm (PySem.W.callWith_K (h₀ := X.base) I.ok.mod.kin hk (thn (ha.run pos pins s σ H _ I h) fun us s1 ⟨vs, H1, I1, r, q⟩ => ⟨I1.kIn, run_g F hgd (hr.mono hj) hb hd I1 r q⟩) he hpl) hdb)⟩
end
section
variable {P : Program} {w : World} {K : PySem.W.Frag} {mg : Str → Option Value} {base : Heap}
theorem fn_g {x qual : Str} {st : Stmt} {f : Addr} {fd : FuncData} {N ps : List Str} {k : Nat} {sp : Sp} (Fn : Fun K x qual st f fd) (S : FnScope N ps (defScope st)) (len : ∀ vs H Q E, sp vs H Q E → vs.length = ps.length)
    (hbody : ∀ (cdv : Value) (A : Around) (outer : List Env) (s : Shared) (H : Hp) (vs : List V) (Q : VK) (E : XK), Room k (A.deeper (envOfC qual (defScope st) s.heap.objs.size f cdv)) → (A.deeper (envOfC qual (defScope st) s.heap.objs.size f cdv)).guards = some [] → sp vs H Q E →
      ∃ t, PSs (cxOf CX0 P w K mg base N qual (defScope st) f cdv A outer s H E).nox (defBody st) t ∧ t { nx := fun _ H' => Q .non H', rt := Q } (start N vs) H) : FnG P w K mg base (k + 1) f fd ps sp := by
  refine ⟨len, fun A outer s H ar us vs Q E hgd hr e0 hb r h => ?_⟩
  obtain ⟨oc, od, kV, doc, pm, an, cdv, ct, osl, rfl, lk, hcd⟩ := Fn.ex
  have inK : K.In s.heap := e0.mod.kin.keeps fun b o e => (e0.bs b o e).1
  have nl : s.heap.NoLimit := e0.mod.nolimit.keeps fun b o e => (e0.bs b o e).1
  refine codeAny_call_function hr.depth (inK _ _ lk) rfl S.co S.gen rfl (PySem.W.codeRec_of inK hcd) (hb _ _ _ _ ?_)
  refine wpAny_newFunctionEnv_cells S.kind (fun y hy => ?_) fun env he s1 x => ?_
  · rcases S.par y.1 (List.of_mem_zip hy).1 with z | z
    · exact .inl z
    · exact .inr ⟨z, PySem.W.cellsFrom_some _ _ _ (.inl z)⟩
  · subst he
    refine ⟨nl.keeps x.toInCall.keep, codeAny_func ?_⟩
    obtain ⟨t, ht, hq⟩ := hbody cdv A outer s H vs Q E (hr.deeper _) hgd h
    have I := inv_start (CX := CX0) (E := E) (f := f) (cd := cdv) (qual := qual) S hr.hd e0 (len _ _ _ _ h) r x
    refine wpAny_mono (ht.nox.run [] s1 _ H _ I hq) (fun fl s' hs => ?_) fun _ _ z => z
    have fin : ∀ {σ' : L2.St} {H' : Hp} {v : V} {u : Value}, Inv (cxOf CX0 P w K mg base N qual (defScope st) f cdv A outer s H E) [] σ' H' s' → RelV v u → Q v H' → CE outer P w H s Q u s' := fun {σ' H' v u} J rv q => ⟨v, H', J.os, J.bare, J.base, J.hok, rv, q⟩
    match fl, hs with
    | .ret u, hs =>
      obtain ⟨v, σ', H', J, rv, q⟩ := hs
      exact fin J rv q
    | .next, hs =>
      obtain ⟨σ', H', J, q⟩ := hs
      exact fin (v := V.non) (u := Value.none) J rfl q
    | .brk, hs => obtain ⟨_, _, _, q⟩ := hs; exact q.elim
    | .cont, hs => obtain ⟨_, _, _, q⟩ := hs; exact q.elim
theorem fn_dataG {k : Nat} {x qual : Str} {st : Stmt} {f : Addr} {fd : FuncData} {N ps : List Str} {sp : DSpW} {t : TS} (F : Fun K x qual st f fd) (S : FnScope N ps (defScope st))
    (hl : ∀ w es n k, sp w es n k → es.length = ps.length) (hb : Binds K fd ps []) (hm : mg x = some (.ref f))
    (hd : ∀ (cdv : Value) (A : Around) (outer : List Env) (s : Shared) (H : Hp) (E : XK), Room k (A.deeper (envOfC qual (defScope st) s.heap.objs.size f cdv)) → (A.deeper (envOfC qual (defScope st) s.heap.objs.size f cdv)).guards = some [] → PSs (cxOf CX0 P w K mg base N qual (defScope st) f cdv A outer s H E).nox (defBody st) t)
    (hw : ∀ w es n k, sp w es n k → WpS K w t (dstart N es) n { nx := fun _ n' => kup k .non n', rt := kup k }) : GoG P w K mg base (k + 1) x (toSp K sp) [] :=
  ⟨f, fd, ps, [], fn_g F S (fun vs H Q E h => by
      obtain ⟨w, S, es, n, k, r, ok, hs, p⟩ := h
      rw [r.length]
      exact hl w es n k hs) (fun cdv A outer s H vs Q E hr hgd h => by
      obtain ⟨w, S, es, n, k, r, ok, hs, p⟩ := h
      exact ⟨t, hd cdv A outer s H E hr hgd, body_ok (hw w es n k hs) r ok p.up⟩), hm, F.kp, hb, .nil⟩
end
end DW
set_option Elab.async false
set_option maxRecDepth 100000
set_option maxHeartbeats 4000000
set_option linter.all false
set_option autoImplicit false
/-! sets of whole numbers, made of lists -/
namespace DW
variable [Tb]
open PySem PySem.Spec PyProof.Rows L2
section
variable {P : Program} {w : World} {A : Around} {E : Value → Shared → Prop} {s : Shared}
abbrev nset (w : World) : Obj := { cls := .type "set", dict := none, data := .set #[] 0 (.fresh 0 0 (!w.params.followText "set-order")) }
set_option maxHeartbeats 3200000 in
theorem set_ofI {l : Addr} {its : Array Value} {ns : List Int} {Q : Value → Shared → Prop} (hA : A.handled = none) (L : s.heap.IsList l its) (J : IntsAre its.toList ns) (hz : ns.length < 1000)
    (done : ∀ (h' : Heap) (tk c : Nat), SetR w h' s.heap.objs.size (fun j => decide (j ∈ ns)) c → c ≤ ns.length → (∀ b o, s.heap.get? b = some o → h'.get? b = some o) → Q (.ref s.heap.objs.size) { s with heap := h', toks := tk }) :
    wpAny (model P w) A (call (.type "set") [.ref l]) Q E s := by
  have sz : its.size = ns.length := by have := IntsAre.length J; rwa [Array.length_toList] at this
  have h0 : (s.heap.push (nset w)).get? s.heap.objs.size = some (nset w) := Heap.get?_push_size _ rfl
  have ty : Shared.TypeIs { s with heap := s.heap.push (nset w) } (.ref s.heap.objs.size) "set" := ⟨_, h0, rfl⟩
  obtain ⟨_, _, c1⟩ := F.called_set.mro
  have c2 := F.called_set.made; have c3 := F.called_set.sub; have c4 := F.called_set.notType; have c5 := F.called_set.canCreate; have c6 := F.typeCall_set_1 (.ref l)
  have c7 := F.called_set.init.lookup; have c8 := F.called_set.init.bind (.ref s.heap.objs.size)
  refine wpAny_call (codeAny_of_tree (show wpAny _ _ (callAny (.type "set") _) _ _ _ from wpAny_pure ⟨Code.quiet_builtin _ (by decide +kernel), codeAny_builtin F.entry_type_call ?_⟩))
  rw [Around.under_plain (weight_type_call_type "set" [.ref l] []) rfl]
  repeat (any_goals (first | assumption | wp_step))
  refine codeAny_mono (code_set_led1 (.ref l) (E := E) (Q₁ := fun obj s₁ => obj = .ref s.heap.objs.size ∧ s₁ = { s with heap := s.heap.push (nset w) }) ⟨rfl, rfl⟩) ?_
  rintro (e | fl) s₁ hr
  · exact hr
  cases fl with
  | ret obj =>
    obtain ⟨rfl, rfl⟩ := hr
    repeat (any_goals (first | assumption | wp_step))
    refine codeAny_mono (codeAny_call_builtin (R := wants (fun r s₂ => r = .none ∧ ∃ h' tk c, s₂ = { s with heap := h', toks := tk } ∧ SetR w h' s.heap.objs.size (fun j => decide (j ∈ ns)) c ∧ c ≤ ns.length ∧ (∀ b o, s.heap.get? b = some o → h'.get? b = some o)) E) F.called_set.init.plain F.entry_set_init (check_set_init_1 ty ?_)) ?_
    · obtain ⟨⟨_, od, _, osl⟩, g1, g2, nl, g3⟩ := L
      cases g2; cases g3
      have g4 := Heap.get?_push_of_some (nset w) g1
      have k1 := F.sub_list_set; have k2 := F.sub_list_frozenset
      have k3 : (Value.type "list" == Value.type "dict") = false := by decide
      have L1 : (s.heap.push (nset w)).IsList l its := ⟨_, g4, rfl, nl, rfl⟩
      unfold Builtin.«set.__init__» noKeywords Builtin.Frozenset.updateFrom
      generalize hp : pyIter = pi
      wp_walk
      subst hp
      have lt := Heap.lt_size g1
      have psz : (s.heap.push (nset w)).objs.size = s.heap.objs.size + 1 := Heap.size_push ..
      have val : ∀ (i : Nat) (v : Value), its[i]? = some v → ∃ k t, ns[i]? = some k ∧ v = .int k t := fun i v hv => by
        have hi : i < ns.length := sz ▸ (Array.getElem?_eq_some_iff.mp hv).1
        obtain ⟨t, e⟩ := PyProof.Rows.IntsAre.int_at J i v (by rw [Array.getElem?_toList]; exact hv)
        exact ⟨ns[i], t, List.getElem?_eq_getElem hi, by rw [e, List.getD_eq_getElem?_getD, List.getElem?_eq_getElem hi] <;> rfl⟩
      refine wpAny_pyIter_list L1 (wpAny_bind (wpAny_runValue ?_))
      refine set_update_ints ((Walks.list (A := A.in1.in1.in1) (by simp [hA]) (s.heap.push (nset w)).objs.size l (Nat.ne_of_lt (psz ▸ Nat.lt_succ_of_lt lt)) its).toS) s.heap.objs.size (by rw [psz, List.mem_cons, List.mem_singleton]; exact fun z => z.elim (Nat.ne_of_lt (Nat.lt_succ_self _)) (Nat.ne_of_gt lt)) ns sz (by unfold scanBound; omega) val (its.size - 0) 0 _ (by omega) (Nat.zero_le _) ⟨⟨_, Heap.get?_push_size _ rfl, rfl, rfl⟩, L1.push _⟩ ⟨0, Nat.le_refl 0, setR_new_at (Heap.get?_push_of_some _ h0)⟩ ?_
      rintro ⟨h', _, _, tk', _⟩ c' hm hc' hS'
      cases (hm.gens : _ = s.gens); cases (hm.drawn : _ = s.drawn); cases (hm.os : _ = s.os)
      refine wpAny_pure (show wpAny _ _ (ret Value.none) _ _ _ from wpAny_pure ⟨rfl, h', tk', c', rfl, hS', sz ▸ hc', fun b o e => ?_⟩)
      have hb := Heap.lt_size e
      exact hm.heap b o (by rw [psz, List.mem_cons, List.mem_singleton]; exact fun z => z.elim (Nat.ne_of_lt hb) (Nat.ne_of_lt (Nat.lt_succ_of_lt hb))) (Heap.get?_push_of_some _ (Heap.get?_push_of_some _ e))
    · rintro (e | f2) s₂ h2
      · exact h2
      cases f2 with
      | ret r =>
        obtain ⟨rfl, h', tk, c', rfl, q1, q2, q3⟩ := h2
        repeat (any_goals (first | assumption | wp_step))
        exact done _ _ _ q1 q2 q3
      | _ => exact h2.elim
  | _ => exact hr.elim
end
/-! the type's call -/
section
variable {X : Cx}
def rSetI (w : World) (K : PySem.W.Frag) : List V → Hp → VK → Prop := fun xs H Q => ∃ (l : Addr) (ns : List Int), xs = [.ref l] ∧ (SqL K H l (ns.map V.int)) ∧ ns.length < 64 ∧ ∀ (a : Addr) (S : Int → Bool) (n : Nat), H a = none → (∀ k, S k = true ↔ k ∈ ns) → n ≤ ns.length → Q (.ref a) (upd H a (SetO w a S n))
theorem cr_setI (hc : X.calm = true) : CallR X (.type "set") (rSetI X.w X.K) := by
  intro pins s σ H xs us Q I r h
  obtain ⟨l, ns, rfl, hl, hz, q⟩ := h
  rw [Vals.ref1 r]
  obtain ⟨its, rv, pl, _⟩ := I.list hl
  have hn : H s.heap.objs.size = none := I.hok.fresh (Nat.le_refl _)
  refine set_ofI (P := X.prog) (w := X.w) (ns := ns) (I.ok.hd hc) pl.isList (by simpa using rv.ints) (by omega) fun h' tk c R hcn k => ?_
  exact ⟨.ref s.heap.objs.size, upd H s.heap.objs.size (SetO X.w s.heap.objs.size (fun j => decide (j ∈ ns)) c), I.laid (t' := tk) k (Nat.le_refl _) (setO_new R), rfl, q _ _ c hn (fun k => by rw [decide_eq_true_eq]) hcn⟩
end
end DW
set_option Elab.async false
set_option maxRecDepth 100000
set_option maxHeartbeats 4000000
set_option linter.all false
set_option autoImplicit false
/-! sorted sets; least pairs -/
namespace DW
variable [Tb]
open PySem PySem.Spec PyProof.Rows L2
section
variable {X : Cx}
/-- sorted(set(e)), e a list of some whole numbers -/
def tSortSet (K : PySem.W.Frag) (te : TE) : TE := fun σ H Q => te σ H fun x H1 => ∃ (l : Addr) (ns : List Int), x = .ref l ∧ SqL K H1 l (ns.map V.int) ∧ ns.length < 64 ∧ ∀ (ms : List Int) (a p : Addr) (o : HO), ms.Pairwise (· < ·) → (∀ k, k ∈ ms ↔ k ∈ ns) → H1 a = none → (upd H1 a o) p = none → Q (.ref p) (upd (upd H1 a o) p (.lst (ms.map V.int)))
theorem pe_at {e : Expr} {te : TE} (he : PE X e te) {σ : L2.St} {H : Hp} {R : VK} (h : te σ H R) : PE X e (fun σ' H' Q' => σ' = σ ∧ H' = H ∧ ∀ x H1, R x H1 → Q' x H1) :=
  ⟨fun pins s σ' H' Q' I z => by
    obtain ⟨rfl, rfl, hq⟩ := z
    exact wpAny_mono (he.run pins s σ' H' R I h) (fun v s' ⟨x, H1, I1, r, q⟩ => ⟨x, H1, I1, r, hq x H1 q⟩) fun _ _ z => z⟩
theorem pe_sortSet {e : Expr} {te : TE} {p p2 q pos : Pos} (hc : X.calm = true) (hg : Gl X "sorted") (hm : X.mg "sorted" = none) (hg2 : Gl X "set") (hm2 : X.mg "set" = none) (he : PE X e te)
    (s1 : starEach [e] X.env = (false, eval e X.env) :: starEach [] X.env) : PE X (.Call (.Name "sorted" p) [.Call (.Name "set" p2) [e] [] q] [] pos) (tSortSet X.K te) := by
  refine ⟨fun pins s σ H Q I h => ?_⟩
  have d := pe_callB (p := p) (pos := pos) (cr_sortedSet hc) hg hm (by rfl) (pa_cons (pe_callTy (p := p2) (pos := q) (cr_setI hc) hg2 hm2 (by rfl) (pa_cons (pe_at he h) pa_nil s1) (he := s1)) pa_nil)
  refine d.run pins s σ H Q I ⟨rfl, rfl, ?_⟩
  rintro x H1 ⟨l, ns, rfl, hl, hz, hq⟩
  refine ⟨l, ns, rfl, hl, hz, fun a S n ha hS hn => ⟨a, S, n, rfl, upd_same, by omega, fun ms p' hp1 hp2 _ hp => ?_⟩⟩
  exact hq ms a p' _ hp1 (fun k => (hp2 k).trans (hS k)) ha hp
end
section
variable {K : PySem.W.Frag} {w : Option Addr} {n : Nat} {ds : List (Option D)} {te : TE} {k : Kn}
theorem e_sortSet (h : WpE K w te ds n fun d n1 => ∃ ns : List Int, d = .lst (ns.map .int) ∧ ns.length < 64 ∧ ∀ ms : List Int, ms.Pairwise (· < ·) → (∀ j, j ∈ ms ↔ j ∈ ns) → k (.lst (ms.map .int)) n1) : WpE K w (tSortSet K te) ds n k := fun S H0 σ H Q re ok p =>
  h S H0 σ H _ re ok fun v H1 d n1 ⟨ns, e, hz, hk⟩ p1 ok1 r1 => by
    subst e
    obtain ⟨a, rfl, ha⟩ := lst_ints r1
    refine ⟨a, ns, rfl, SqL.of ha, hz, fun ms b q o h1 h2 hb hq => ?_⟩
    have ok2 : OkW K w S (upd H1 b o) n1 := ok1.new hb
    have ok3 : OkW K w S (upd (upd H1 b o) q (.lst (ms.map V.int))) n1 := ok2.new hq
    have pr : Pres w H1 (upd (upd H1 b o) q (.lst (ms.map V.int))) := (Pres.new hb).trans (Pres.new hq)
    exact p _ _ _ n1 (hk ms h1 h2) (p1.trans pr) ok3 (.lst (cut_new ok2 hq) (Rps.of_ints ms))
theorem rc_minPts {l : List (Int × Int)} (hne : l ≠ []) (hk : ∀ q, q ∈ l → (∀ r ∈ l, pLe q r) → k (ptD q) n) : RC K w (rMinU K) [.lst (l.map ptD)] n k := fun S vs H Q r ok p => by
  cases r with
  | cons a b =>
    cases b
    cases a with
    | lst hL hx =>
      refine .inr (.inr ⟨_, _, l, rfl, SqL.of (cut_some hL).2, ?_, hne, fun i q x hi hxi hle => ?_⟩)
      · have := hx.dp (pure_pts l)
        rw [toPys_pts] at this
        exact this
      · have hd : (l.map ptD)[i]? = some (ptD q) := by rw [List.getElem?_map, hi]; rfl
        obtain ⟨v, hv, rv⟩ := hx.get hd
        rw [hxi] at hv
        cases hv
        exact p _ H _ n (hk q (List.mem_of_getElem? hi) hle) Pres.refl ok rv
end
end DW
set_option Elab.async false
set_option maxRecDepth 100000
set_option maxHeartbeats 4000000
set_option linter.all false
set_option autoImplicit false
/-! a list of one's own and something computed behind it, put side by side -/
namespace DW
variable [Tb]
open PySem PySem.Spec PyProof.Rows L2
section
variable {K : PySem.W.Frag} {w : Option Addr} {ds : List (Option D)} {n : Nat} {ta tb : TE} {ks : KS}
theorem RpE.unset {S : Addr → Bool} {H0 H : Hp} {σ : L2.St} {i : Nat} {v : Option V} {x : Option D} (r : RpE K w S H0 H (σ.set i v) (ds.set i x)) (hi : ds[i]? = some none) : RpE K w S H0 H σ ds := by
  have ne : ∀ {j : Nat} {d : D}, ds[j]? = some (some d) → i ≠ j := fun {j d} h q => by subst q; rw [hi] at h; cases h
  refine ⟨by simpa using r.len, fun j d hj o => ?_, fun j m hj => ?_, fun j q l1 l2 c hjq h1 h2 h3 => ?_⟩
  · have q := ne hj
    have := r.get j d (by rw [List.getElem?_set_ne q]; exact hj) o
    rwa [List.getElem?_set_ne q] at this
  · have q := ne hj
    have := r.own j m (by rw [List.getElem?_set_ne q]; exact hj)
    rwa [List.getElem?_set_ne q] at this
  · have q1 := ne h1
    have q2 := ne h2
    have := r.dis j q l1 l2 c hjq (by rw [List.getElem?_set_ne q1]; exact h1) (by rw [List.getElem?_set_ne q2]; exact h2) (by rw [List.getElem?_set_ne q1]; exact h3)
    rwa [List.getElem?_set_ne q2] at this
theorem s_parOE {i j : Nat} (hij : i ≠ j) (hi : ds[i]? = some none) (h : WpF K w ta ds n fun l n1 => WpE K w tb ds n1 fun d n2 => isOwn d = false ∧ ks.nx ((ds.set i (some (.own l))).set j (some d)) n2) : WpS K w (tPar i j (tCons ta (tCons tb tNil))) ds n ks := fun S0 H0 S σ H E b r e =>
  h S H0 σ H _ r b.ok fun a H1 xs l n1 hk ha p1 ok1 hl hx => by
    have F : ∃ S', Base w K S0 H0 S' H1 n1 ∧ RpE K w S' H0 H1 (σ.set i (some (.ref a))) (ds.set i (some (.own l))) ∧ Ex (cut S H) (cut S' H1) :=
      own_put (S0 := S0) (H0 := H0) (k := { nx := fun ds' n' => ds' = ds.set i (some (.own l)) ∧ n' = n1, rt := fun _ _ => False })
        (E := { nx := fun σ' H' => ∃ S', Base w K S0 H0 S' H' n1 ∧ RpE K w S' H0 H' σ' (ds.set i (some (.own l))) ∧ Ex (cut S H) (cut S' H'), rt := fun _ _ => True, bk := fun _ _ => True, ct := fun _ _ => True })
        b r ⟨fun S' σ' H' ds' n' hz b' r' ex' => by obtain ⟨rfl, rfl⟩ := hz; exact ⟨S', b', r', ex'⟩, fun _ _ _ _ _ _ _ _ => trivial, fun _ _ _ _ _ _ _ _ _ => trivial, fun _ _ _ _ _ _ _ _ _ => trivial⟩ ⟨rfl, rfl⟩ ha p1 ok1 hl hx
    obtain ⟨S', b', r', ex'⟩ := F
    refine hk S' H0 σ H1 _ (r'.unset hi) b'.ok fun v H2 d n2 ⟨ho, hn⟩ p2 ok2 rv => ?_
    have r2 := (r'.up b'.ok p2).set rv ho (i := j)
    exact ⟨.ref a, v, rfl, e.nx S' _ H2 _ n2 hn (b'.up p2 ok2) r2 (ex'.trans (ex_cut b'.ok p2))⟩
theorem OkW.none_up {S : Addr → Bool} {H H' : Hp} {m : Nat} (ok : OkW K w S H m) (pr : Pres none H H') (ht : ∀ a, Tb.tab a = true → TabOk H' a) : OkW K w S H' m := by
  have keep : ∀ {a : Addr} {o : HO}, H a = some o → noT o = true → Tb.tab a = false → H' a = some o := fun {a o} h n t => pr.go a o ⟨fun q => (nomatch q), t⟩ h n
  refine ⟨fun p hp => ⟨(ok.1 p hp).1, ?_⟩, fun a h => ?_, fun a h => ⟨(ok.3 a h).1, ht a h⟩, fun a h => ?_⟩
  · obtain ⟨c, ix, left, ns, h1, h2, h3⟩ := (ok.1 p hp).2
    have tp : Tb.tab p = false := by
      cases z : Tb.tab p with
      | false => rfl
      | true =>
        have := (ok.3 p z).2
        unfold TabOk at this
        obtain ⟨x, e, _⟩ := this
        rw [h1] at e
        cases e
    obtain ⟨g1, g2, g3⟩ := cut_some3 h2
    have tc : Tb.tab c = false := by
      cases z : Tb.tab c with
      | false => rfl
      | true => have := (ok.3 c z).1; rw [g1] at this; cases this
    exact ⟨c, ix, left, ns, keep h1 rfl tp, cut_mk g1 (keep g2 g3 tc) g3, h3⟩
  · obtain ⟨o, e⟩ := ok.2 a h
    cases z : H' a with
    | some o => exact ⟨o, rfl⟩
    | none => rw [pr.back a z] at e; cases e
  · rcases ok.4 a h with t | ⟨o, e, po⟩
    · exact .inl t
    · cases t : Tb.tab a with
      | true => exact .inl rfl
      | false => exact .inr ⟨o, keep e (by cases o <;> first | rfl | cases po) t, po⟩
/-- a call of a way and a list of one's own that tells an integer and touches no pen -/
theorem e_callOwnI {sp : DSpW} {E : XK} {i : Nat} {l : List D} {k : Kn} (hi : ds[i]? = some (some (.own l))) (h : WpE K w ta ds n fun d n1 => sp none [d, .lst l] n1 fun e _ => ∃ z : Int, e = .int z ∧ k (.int z) n1) :
    WpE K w (tCall (toSp K sp) [] E (tCons ta (tCons (tVar i) tNil))) ds n k := fun S H0 σ H Q re ok p =>
  h S H0 σ H _ re ok fun v1 H1 d1 n1 hs p1 ok1 r1 => by
    have re1 := re.up ok p1
    obtain ⟨a, xs, h1, h2, h3, h4, h5, h6⟩ := re1.own i l hi
    have sub : ∀ c, subS S a c = true → S c = true := fun c hc => by unfold subS at hc; simp at hc; exact hc.1
    have ex : Ex (cut S H1) (cut (subS S a) H1) := cut_sub sub
    have af : subS S a a = false := by unfold subS; simp
    have mem : ∀ c, c ≠ a → S c = true → subS S a c = true := fun c hc z => by unfold subS; simp [z, hc]
    have okn : OkW K none (subS S a) H1 n1 := ⟨fun p hp => (nomatch hp), fun c hc => ok1.2 c (sub c hc), fun c hc => ⟨mem c (fun q => by subst q; rw [h3.2] at hc; cases hc) (ok1.3 c hc).1, (ok1.3 c hc).2⟩, fun c hc => ok1.4 c (sub c hc)⟩
    have rp : Rp K (cut (subS S a) H1) (.ref a) (.lst l) := .lst (cut_mk af h5) (h6.mono ex)
    refine ⟨.ref a, h1, ?_⟩
    refine ⟨none, subS S a, [d1, .lst l], n1, _, .cons (r1.mono ex) (.cons rp .nil), okn, hs, fun v H' d n' hk pr ok' r' => ?_⟩
    obtain ⟨z, rfl, hk⟩ := hk
    cases r'
    have pw : Pres w H1 H' := ⟨fun b o fr e t => pr.go b o ⟨fun q => (nomatch q), fr.2⟩ e t, pr.back⟩
    exact p _ H' _ n1 hk (p1.trans pw) (ok1.none_up pr fun b hb => (ok'.3 b hb).2) (.int z)
theorem set_five {α : Type} {σ : List α} {x v1 v2 v3 v4 : α} {i i1 i2 i3 i4 : Nat} (h1 : i ≠ i1) (h2 : i ≠ i2) (h3 : i ≠ i3) (h4 : i ≠ i4) : ((((σ.set i x).set i1 v1).set i2 v2).set i3 v3).set i4 v4 = ((((σ.set i1 v1).set i2 v2).set i3 v3).set i4 v4).set i x := by
  rw [List.set_comm x v1 h1, List.set_comm x v2 h2, List.set_comm x v3 h3, List.set_comm x v4 h4]
/-- a list of one's own and four integers out of one tuple -/
theorem s_tup5 {i i1 i2 i3 i4 : Nat} {a1 a2 a3 a4 : Int} (h1 : i ≠ i1) (h2 : i ≠ i2) (h3 : i ≠ i3) (h4 : i ≠ i4)
    (h : ks.nx (((((ds.set i1 (some (.int a1))).set i2 (some (.int a2))).set i3 (some (.int a3))).set i4 (some (.int a4))).set i (some (.own []))) n) :
    WpS K w (tAsg (tTup (tCons (tLst tNil) (tCons (tC (.int a1)) (tCons (tC (.int a2)) (tCons (tC (.int a3)) (tCons (tC (.int a4)) tNil)))))) (gTup K 5 (gCons (gName i) (gCons (gName i1) (gCons (gName i2) (gCons (gName i3) (gCons (gName i4) gNil))))))) ds n ks := fun S0 H0 S σ H E b r e => by
  have F : WpF K w (tLst tNil) ds n fun l n1 => l = [] ∧ n1 = n := f_lst (a_nil ⟨by simp, rfl, rfl⟩)
  unfold tAsg tTup
  refine F S H0 σ H _ r b.ok fun a H1 xs l n1 hk ha p1 ok1 hl hx => ?_
  obtain ⟨rfl, rfl⟩ := hk
  refine ⟨by show 5 ≤ sizeLine; decide, fun p hp => ?_⟩
  have ne : a ≠ p := fun q => by rw [q, hp] at hl; cases hl
  have ok2 : OkW K w (addS S a) (upd H1 p (.tup [.ref a, .int a1, .int a2, .int a3, .int a4])) n1 := ok1.new hp
  have hl2 : (upd H1 p (.tup [.ref a, .int a1, .int a2, .int a3, .int a4])) a = some (.lst xs) := by rw [upd_ne ne]; exact hl
  have r4 := (((r.set (.int a1 : Rp K (cut S H) (.int a1) (.int a1)) rfl (i := i1)).set (.int a2 : Rp K (cut S H) (.int a2) (.int a2)) rfl (i := i2)).set (.int a3 : Rp K (cut S H) (.int a3) (.int a3)) rfl (i := i3)).set (.int a4 : Rp K (cut S H) (.int a4) (.int a4)) rfl (i := i4)
  have z := own_put b r4 e h ha (p1.trans (Pres.new hp)) ok2 hl2 (hx.mono (ex_cut ok1 (Pres.new hp)))
  rw [← set_five h1 h2 h3 h4] at z
  exact ⟨p, _, rfl, SqT.of upd_same, rfl, _, _, rfl, _, _, rfl, _, _, rfl, _, _, rfl, _, _, rfl, rfl, z⟩
end
end DW
set_option Elab.async false
set_option maxRecDepth 100000
set_option maxHeartbeats 4000000
set_option linter.all false
set_option autoImplicit false
/-! list(zip(xs, ys)) of two lists -/
namespace DW
open PySem PySem.Spec PyProof.Rows L2
theorem zip_nolen : typeLookup (.type "zip") "__len__" = pure none := by rw [typeLookup_type, builtinLookup_eq_fast]; kernel_rfl
theorem zip_nohint : typeLookup (.type "zip") "__length_hint__" = pure none := by rw [typeLookup_type, builtinLookup_eq_fast]; kernel_rfl
/-- how the zip stands: nothing drawn as yet, or its last pair is out -/
def ZSt (h : Heap) (z TI TO i1 i2 S : Addr) : Prop := (IsZip h z TI TO .none ∧ ∃ x y, IsPair h TO x y) ∨ ∃ (T : Addr) (f : Bool) (oT : Obj), (T ≠ z ∧ T ≠ i1 ∧ T ≠ i2 ∧ T ≠ S) ∧ PySem.IsZipHeld h z TI TO T f ∧ h.get? T = some oT
/-- what the list at S holds: the pairs made so far -/
structure Drawn2 (H1 H : Hp) (S : Addr) (xs ys : List V) (Ts : List Addr) : Prop where
  ext : ∀ c o, H1 c = some o → H c = some o
  back : ∀ c, H c = none → H1 c = none
  free : H1 S = none
  lst : H S = some (.lst (Ts.map V.ref))
  prs : ∀ (j : Nat) (T : Addr) (x y : V), Ts[j]? = some T → xs[j]? = some x → ys[j]? = some y → H1 T = none ∧ H T = some (.tup [x, y])
section
variable {X : Cx} {pins : List (Addr × Obj)} {σ : L2.St} {H1 : Hp} {a b S z TI TO i1 i2 : Addr} {xs ys : List V} {A1 : Around} {Rs : Result → Shared → Prop}
theorem lz_loop (hA : A1.in1.handled = none) (D : ZipApart z TI TO i1 i2 a b) (hSz : ∀ c ∈ [z, TI, TO, i1, i2], c ≠ S) (ha : SqL X.K H1 a xs) (hb : SqL X.K H1 b ys) (hz : xs.length ≤ 1000)
    (done : ∀ (H : Hp) (s : Shared) (Ts : List Addr), Inv X pins σ H s → Drawn2 H1 H S xs ys Ts → Ts.length = min xs.length ys.length → Rs (.ok (.ret .none)) s) :
    ∀ (m : Nat) (Ts : List Addr) (H : Hp) (s : Shared), min xs.length ys.length - Ts.length = m → Ts.length ≤ min xs.length ys.length → Inv X pins σ H s → Drawn2 H1 H S xs ys Ts → ZSt s.heap z TI TO i1 i2 S → IsPair s.heap TI (.ref i1) (.ref i2) →
      s.heap.IsListIter i1 a Ts.length → s.heap.IsListIter i2 b Ts.length → (∀ c ∈ [z, TI, TO, i1, i2], FpOk X pins H c) → (∀ c ∈ [z, TI, TO, i1, i2], c < s.heap.objs.size) → codeAny (model X.prog X.w) A1 (.builtin "list.extend.loop" ⟨[.ref S, .ref z, .none], []⟩) Rs s := by
  intro m
  induction m with
  | zero =>
    intro Ts H s hm hle I Dr zs hTI h1 h2 fp hlt
    have big : 2000 ≤ sizeLine := by decide
    refine codeAny_builtin PySem.F.entry_extend_loop ?_
    rw [Around.under_plainId PySem.F.plain_extend_loop _]
    show wpAny _ A1.in1 (pyNext (.ref z) >>= _) _ _ s
    refine wpAny_bind ?_
    obtain ⟨its, rv, p, _⟩ := I.list (SqL.ext ha Dr.ext)
    obtain ⟨its2, rv2, p2, _⟩ := I.list (SqL.ext hb Dr.ext)
    have l1 := rv.length
    have l2 := rv2.length
    have hend : its.toArray[Ts.length]? = none ∨ its2.toArray[Ts.length]? = none := by
      by_cases q : xs.length ≤ ys.length
      · exact .inl (by simp; omega)
      · exact .inr (by simp; omega)
    have fin : ∀ h' : Heap, (∀ c o, c ∉ [z, TI, TO, i1, i2] → s.heap.get? c = some o → h'.get? c = some o) → Rs (.ok (.ret .none)) { s with heap := h' } := fun h' k => done H _ Ts (I.turnedL (t' := s.toks) (ch := [z, TI, TO, i1, i2]) k fp) Dr (by omega)
    have out : ∀ {c : Addr}, c ∉ [z, TI, TO, i1, i2] → c ≠ z ∧ c ≠ TO ∧ c ≠ i1 ∧ c ≠ i2 := fun {c} h => by
      simp only [List.mem_cons, List.not_mem_nil, or_false, not_or] at h
      exact ⟨h.1, h.2.2.1, h.2.2.2.1, h.2.2.2.2⟩
    rcases zs with ⟨hz1, x0, y0, hTO⟩ | ⟨T, f, oT, nT, hz1, hT⟩
    · exact wpAny_pyNext_zip_end hA D hz1 hTI hTO h1 h2 p.isList p2.isList hend fun h' k => wpAny_pure (fin h' fun c o hc e => by have q := out hc; exact k c o q.1 q.2.1 q.2.2.1 q.2.2.2 e)
    · exact PySem.wpAny_pyNext_zip_end_held hA D hz1 hT hTI h1 h2 p.isList p2.isList hend fun h' k => wpAny_pure (fin h' fun c o hc e => by have q := out hc; exact k c o q.1 q.2.2.1 q.2.2.2 e)
  | succ m ih =>
    intro Ts H s hm hle I Dr zs hTI h1 h2 fp hlt
    have big : 2000 ≤ sizeLine := by decide
    refine codeAny_builtin PySem.F.entry_extend_loop ?_
    rw [Around.under_plainId PySem.F.plain_extend_loop _]
    show wpAny _ A1.in1 (pyNext (.ref z) >>= _) _ _ s
    refine wpAny_bind ?_
    have hSa := SqL.ext ha Dr.ext
    have hSb := SqL.ext hb Dr.ext
    obtain ⟨its, rv, p, _⟩ := I.list hSa
    obtain ⟨its2, rv2, p2, _⟩ := I.list hSb
    have hx : xs[Ts.length]? = some (xs[Ts.length]'(by omega)) := List.getElem?_eq_getElem _
    have hy : ys[Ts.length]? = some (ys[Ts.length]'(by omega)) := List.getElem?_eq_getElem _
    generalize xs[Ts.length]'(by omega) = x at hx
    generalize ys[Ts.length]'(by omega) = y at hy
    obtain ⟨u, hu, ru⟩ := rv.get hx
    obtain ⟨u2, hu2, ru2⟩ := rv2.get hy
    have fresh : H s.heap.objs.size = none := I.hok.fresh (Nat.le_refl _)
    have SnT : S ≠ s.heap.objs.size := fun q => by have := Dr.lst; rw [q, fresh] at this; cases this
    -- the rest of a turn, however the pair came
    have rest : ∀ (h' : Heap) (f : Bool) (T0 : Addr) (oT0 : Obj), (T0 ≠ z ∧ T0 ≠ i1 ∧ T0 ≠ i2 ∧ T0 ≠ S) → h'.get? T0 = some oT0 → PySem.IsZipHeld h' z TI TO T0 f → h'.IsListIter i1 a (Ts.length + 1) → h'.IsListIter i2 b (Ts.length + 1) → IsPair h' s.heap.objs.size u u2 → h'.objs.size = s.heap.objs.size + 1 →
        (∀ c o, c ∉ [z, TI, TO, i1, i2] → s.heap.get? c = some o → h'.get? c = some o) → IsPair h' TI (.ref i1) (.ref i2) →
        wpAny (model X.prog X.w) A1.in1 (updateSeq S (·.push (.ref s.heap.objs.size)) >>= fun _ => again (.builtin "list.extend.loop" ⟨[.ref S, .ref z, .none], []⟩)) (fun fin s' => match fin with | .done f => Rs (.ok f) s' | .again c' => c'.quiet = true ∧ codeAny (model X.prog X.w) A1 c' Rs s') (fun e s' => Rs (.error e) s') { s with heap := h' } := fun h' f T0 oT0 t0 g0 zh j1 j2 pr sz kp hTI' => by
      have new : ObjOk X.prog X.w (upd H s.heap.objs.size (.tup [x, y])) h' s.heap.objs.size (.tup [x, y]) := ⟨by show 2 ≤ sizeLine; decide, [u, u2], .cons ru (.cons ru2 .nil), ⟨_, pr, rfl, _, rfl⟩⟩
      have I2 : Inv X pins σ (upd H s.heap.objs.size (.tup [x, y])) { s with heap := h' } := I.turnedNew (t' := s.toks) (ch := [z, TI, TO, i1, i2]) kp fp (Nat.le_refl _) new
      have hS2 : upd H s.heap.objs.size (.tup [x, y]) S = some (.lst (Ts.map V.ref)) := by rw [upd_ne SnT]; exact Dr.lst
      obtain ⟨zl, items, k, r2, hl, e⟩ := I2.lstM hS2
      have len1 : items.length = Ts.length := by rw [← hl, List.length_map]
      refine wpAny_bind (wpAny_updateSeq e rfl (wpAny_pure ⟨plainId_quiet PySem.F.plain_extend_loop _, ?_⟩) (by rw [List.size_toArray]; omega) (by show (items.toArray.push _).size ≤ sizeLine + 1; rw [Array.size_push, List.size_toArray]; omega))
      have I3 := I2.lset (f := (·.push (Value.ref s.heap.objs.size))) (its' := items ++ [.ref s.heap.objs.size]) (ys := (Ts ++ [s.heap.objs.size]).map V.ref) (t' := s.toks) hS2 e (by simp) (by rw [List.map_append]; exact r2.append (.cons rfl .nil)) (by rw [List.length_map, List.length_append, List.length_singleton]; omega)
      have oth : ∀ {c : Addr} {o : Obj}, c ≠ S → h'.get? c = some o → (h'.update S (Obj.mapSeq (·.push (Value.ref s.heap.objs.size)))).get? c = some o := fun {c o} hc q => (Heap.get?_update_other _ _ (Ne.symm hc)).trans q
      have zS := hSz z (by simp)
      have grown : (h'.update S (Obj.mapSeq (·.push (Value.ref s.heap.objs.size)))).objs.size = s.heap.objs.size + 1 := (Heap.size_update ..).trans sz
      refine ih (Ts ++ [s.heap.objs.size]) _ _ (by rw [List.length_append, List.length_singleton]; omega) (by rw [List.length_append, List.length_singleton]; omega) I3 ⟨fun c o q => ?_, fun c q => ?_, Dr.free, upd_same, fun j T x' y' q1 q2 q3 => ?_⟩ (.inr ⟨T0, f, oT0, t0, oth (hSz z (by simp)) zh, oth t0.2.2.2 g0⟩) (oth (hSz TI (by simp)) hTI') (by rw [List.length_append, List.length_singleton]; exact j1.at fun o q => oth (hSz i1 (by simp)) q) (by rw [List.length_append, List.length_singleton]; exact j2.at fun o q => oth (hSz i2 (by simp)) q) (fun c hc => ?_) (fun c hc => Nat.lt_of_lt_of_eq (Nat.lt_succ_of_lt (hlt c hc)) grown.symm)
      · have c1 : c ≠ S := fun z => by rw [z, Dr.free] at q; cases q
        have q' := Dr.ext c o q
        rw [upd_ne c1, upd_ne (fun z => by rw [z, fresh] at q'; cases q')]
        exact q'
      · exact Dr.back c (NdefX.upd_none (NdefX.upd_none q))
      · by_cases hj : j < Ts.length
        · rw [List.getElem?_append_left hj] at q1
          obtain ⟨p1, p2⟩ := Dr.prs j T x' y' q1 q2 q3
          refine ⟨p1, ?_⟩
          rw [upd_ne (fun z => by rw [z, Dr.lst] at p2; cases p2), upd_ne (fun z => by rw [z, fresh] at p2; cases p2)]
          exact p2
        · have hjl : j = Ts.length := by
            have := (List.getElem?_eq_some_iff.mp q1).1
            rw [List.length_append, List.length_singleton] at this
            omega
          subst hjl
          rw [List.getElem?_append_right (Nat.le_refl _), Nat.sub_self] at q1
          obtain rfl : s.heap.objs.size = T := Option.some.inj q1
          rw [hx] at q2
          rw [hy] at q3
          cases q2
          cases q3
          exact ⟨Dr.back _ fresh, by rw [upd_ne (Ne.symm SnT), upd_same]⟩
      · have f0 := fp c hc
        refine ⟨?_, f0.2⟩
        rw [upd_ne (hSz c hc), upd_ne (Nat.ne_of_lt (hlt c hc))]
        exact f0.1
    have tiIn : ∀ {c : Addr}, c ∉ [z, TI, TO, i1, i2] → c ≠ z ∧ c ≠ TO ∧ c ≠ i1 ∧ c ≠ i2 := fun {c} h => by
      simp only [List.mem_cons, List.not_mem_nil, or_false, not_or] at h
      exact ⟨h.1, h.2.2.1, h.2.2.2.1, h.2.2.2.2⟩
    rcases zs with ⟨hz1, x0, y0, hTO⟩ | ⟨T, f, oT, nT, hz1, hT⟩
    · exact wpAny_pyNext_zip_item D hz1 hTI hTO h1 h2 p.isList p2.isList (x := u) (y := u2) (by simpa using hu) (by simpa using hu2) fun h' q1 q2 q3 q4 q5 q6 q7 => rest h' false s.heap.objs.size _ ⟨Nat.ne_of_gt (hlt z (by simp)), Nat.ne_of_gt (hlt i1 (by simp)), Nat.ne_of_gt (hlt i2 (by simp)), Ne.symm SnT⟩ q5 q1 q3 q4 q5 q6 (fun c o hc e => by have q := tiIn hc; exact q7 c o q.1 q.2.1 q.2.2.1 q.2.2.2 e) (q7 _ _ D.TIz D.TITO D.TIi1 D.TIi2 hTI)
    · exact PySem.wpAny_pyNext_zip_item_held D hz1 hT hTI h1 h2 p.isList p2.isList (x := u) (y := u2) (by simpa using hu) (by simpa using hu2) fun h' q1 q3 q4 q5 q6 q7 => rest h' true T oT nT (q7 _ _ nT.1 nT.2.1 nT.2.2.1 hT) q1 q3 q4 q5 q6 (fun c o hc e => by have q := tiIn hc; exact q7 c o q.1 q.2.2.1 q.2.2.2 e) (q7 _ _ D.TIz D.TIi1 D.TIi2 hTI)
theorem lz_hint {A : Around} {E : Value → Shared → Prop} {s : Shared} {P : Program} {w : World} {Q : Bool → Shared → Prop} (hT : s.TypeIs (.ref z) "zip") (q : Q true s) : wpAny (model P w) A (Builtin.List.listLengthHint (.ref z)) Q E s := by
  unfold Builtin.List.listLengthHint
  refine wpAny_bind (wpAny_specialOf hT zip_nolen ?_)
  show wpAny _ _ (specialOf (Value.ref z) (Str.ofString "__length_hint__") >>= _) _ _ _
  exact wpAny_bind (wpAny_specialOf hT zip_nohint (wpAny_pure q))
/-- the new list drawn out of the zip -/
theorem lz_call {Q : Value → Shared → Prop} {H : Hp} {s : Shared} (hc : X.calm = true) (D : ZipApart z TI TO i1 i2 a b) (I : Inv X pins σ H s) (ha : SqL X.K H a xs) (hb : SqL X.K H b ys) (hz : xs.length ≤ 1000)
    (hz1 : IsZip s.heap z TI TO .none) (hTI : IsPair s.heap TI (.ref i1) (.ref i2)) (hTO : IsPair s.heap TO .none .none) (h1 : s.heap.IsListIter i1 a 0) (h2 : s.heap.IsListIter i2 b 0) (fp : ∀ c ∈ [z, TI, TO, i1, i2], FpOk X pins H c) (hlt : ∀ c ∈ [z, TI, TO, i1, i2], c < s.heap.objs.size)
    (done : ∀ (H2 : Hp) (s2 : Shared) (S : Addr) (Ts : List Addr), Inv X pins σ H2 s2 → Drawn2 H H2 S xs ys Ts → Ts.length = min xs.length ys.length → Q (.ref S) s2) : wpAny (model X.prog X.w) X.A (call (.type "list") [.ref z]) Q X.xe s := by
  refine callType_codes (Q₁ := fun obj s₁ => obj = .ref s.heap.objs.size ∧ s₁ = { s with heap := s.heap.push { cls := .type "list", data := .seq #[] } }) PySem.F.called_list (PySem.F.typeCall_list_1 _) PySem.F.entry_list_init (code_list_new _ ⟨rfl, rfl⟩) fun obj s₁ e₁ => ?_
  obtain ⟨rfl, rfl⟩ := e₁
  have new : (s.heap.push { cls := .type "list", data := .seq #[] }).get? s.heap.objs.size = some { cls := .type "list", data := .seq #[] } := Heap.get?_push_size _ rfl
  have keep : ∀ {c : Addr} {o : Obj}, s.heap.get? c = some o → (s.heap.push { cls := .type "list", data := .seq #[] }).get? c = some o := fun q => Heap.get?_push_of_some _ q
  have fresh : H s.heap.objs.size = none := I.hok.fresh (Nat.le_refl _)
  have cS : ∀ c ∈ [z, TI, TO, i1, i2], c ≠ s.heap.objs.size := fun c hc => Nat.ne_of_lt (hlt c hc)
  refine ⟨⟨_, new, rfl⟩, PySem.F.args_list_init_2 _ _, ?_⟩
  have I1 : Inv X pins σ (upd H s.heap.objs.size (.lst [])) { s with heap := s.heap.push { cls := .type "list", data := .seq #[] } } := I.lnew (its := []) (t' := s.toks) .nil (Nat.zero_le _)
  show wpAny _ _ (do let old ← Builtin.List.listItems (.ref s.heap.objs.size); Builtin.List.listUpdate (.ref s.heap.objs.size) (fun _ => #[]); letGo old.toList.reverse; Builtin.List.listExtendWith (.ref s.heap.objs.size) (.ref z) .none) _ _ _
  refine wpAny_bind ?_
  unfold Builtin.List.listItems
  refine wpAny_bind (wpAny_seqItems new rfl (wpAny_pure ?_))
  refine wpAny_bind (?_ : wpAny _ _ (updateSeq s.heap.objs.size (fun _ => #[])) _ _ _)
  refine wpAny_updateSeq new rfl ?_
  have I2 := I1.lset (f := fun _ => #[]) (its := []) (its' := []) (ys := []) (t' := s.toks) upd_same new rfl .nil (Nat.zero_le _)
  rw [upd_upd] at I2
  have new2 := Heap.get?_update_self (Obj.mapSeq (fun _ => (#[] : Array Value))) new rfl
  have keep2 : ∀ {c : Addr} {o : Obj}, c ≠ s.heap.objs.size → s.heap.get? c = some o → ((s.heap.push { cls := .type "list", data := .seq #[] }).update s.heap.objs.size (Obj.mapSeq (fun _ => (#[] : Array Value)))).get? c = some o := fun hc q => (Heap.get?_update_other _ _ (Ne.symm hc)).trans (keep q)
  have sz2 : ((s.heap.push { cls := .type "list", data := .seq #[] }).update s.heap.objs.size (Obj.mapSeq (fun _ => (#[] : Array Value)))).objs.size = s.heap.objs.size + 1 := (Heap.size_update ..).trans (Heap.size_push ..)
  refine wpAny_bind (wpAny_letGo ?_)
  have zne := cS z (by simp)
  have zat := keep2 zne hz1
  unfold Builtin.List.listExtendWith
  refine wpAny_bind (wpAny_typeOf (T := "zip") ⟨_, zat, rfl⟩ ?_)
  have b1 : Builtin.List.listSameRef (.ref s.heap.objs.size) (.ref z) = false := by simp [Builtin.List.listSameRef, Ne.symm zne]
  have b2 : (Value.type "zip" == Value.type "list") = false := by decide
  have b3 : (Value.type "zip" == Value.type "tuple") = false := by decide
  simp only [b1, b2, b3, Bool.or_false, Bool.false_eq_true, if_false]
  refine wpAny_bind (wpAny_pyIter_zip zat ?_)
  refine wpAny_bind (wpAny_holding (lz_hint ⟨_, zat, rfl⟩ ?_))
  refine wpAny_ite_split (fun _ => ?_) (fun q => absurd rfl q)
  refine wpAny_bind (wpAny_rule ?_)
  refine wpAny_bind ?_
  show wpAny _ _ (updateSeq s.heap.objs.size (·.push .none) >>= fun _ => updateSeq s.heap.objs.size (·.pop)) _ _ _
  refine wpAny_bind (wpAny_updateSeq new2 rfl ?_)
  have I3 := I2.lset (f := (·.push Value.none)) (its := []) (its' := [Value.none]) (ys := [.non]) (t' := s.toks) upd_same new2 (by simp) (.cons rfl .nil) (by rw [List.length_singleton, sizeLine_eq]; decide)
  rw [upd_upd] at I3
  have new3 := Heap.get?_update_self (Obj.mapSeq (·.push Value.none)) new2 rfl
  refine wpAny_updateSeq new3 rfl ?_ (by show 1 ≤ sizeLine; rw [sizeLine_eq]; decide) (by show 0 ≤ sizeLine + 1; exact Nat.zero_le _)
  have I4 := I3.lset (f := (·.pop)) (its := [Value.none]) (its' := []) (ys := []) (t' := s.toks) upd_same new3 (by rfl) .nil (Nat.zero_le _)
  rw [upd_upd] at I4
  have keep4 : ∀ {c : Addr} {o : Obj}, c ≠ s.heap.objs.size → s.heap.get? c = some o → ((((s.heap.push { cls := .type "list", data := .seq #[] }).update s.heap.objs.size (Obj.mapSeq (fun _ => (#[] : Array Value)))).update s.heap.objs.size (Obj.mapSeq (·.push Value.none))).update s.heap.objs.size (Obj.mapSeq (·.pop))).get? c = some o := fun hc q =>
    (Heap.get?_update_other _ _ (Ne.symm hc)).trans ((Heap.get?_update_other _ _ (Ne.symm hc)).trans (keep2 hc q))
  refine wpAny_pure ⟨plainId_quiet PySem.F.plain_extend_loop _, ?_⟩
  refine lz_loop (H1 := H) (S := s.heap.objs.size) (by simp [I.ok.hd hc]) D cS ha hb hz (fun H2 s2 Ts J Dr hl => ⟨rfl, done H2 s2 _ Ts J Dr hl⟩) _ [] _ _ rfl (Nat.zero_le _) I4 ⟨fun c o q => ?_, fun c q => NdefX.upd_none q, fresh, upd_same, fun j T x y q1 => ?_⟩ (.inl ⟨keep4 zne hz1, _, _, keep4 (cS TO (by simp)) hTO⟩) (keep4 (cS TI (by simp)) hTI) (h1.at fun o q => keep4 (cS i1 (by simp)) q) (h2.at fun o q => keep4 (cS i2 (by simp)) q) (fun c hc => ⟨by rw [upd_ne (cS c hc)]; exact (fp c hc).1, (fp c hc).2⟩) (fun c hc => ?_)
  · rw [upd_ne (fun e => by rw [e, fresh] at q; cases q)]; exact q
  · simp at q1
  · refine Nat.lt_of_lt_of_eq (Nat.lt_succ_of_lt (hlt c hc)) (Eq.symm ?_)
    exact (Heap.size_update ..).trans ((Heap.size_update ..).trans sz2)
end
/-- list(zip(xs, ys)) -/
def tListZip (K : PySem.W.Frag) (ta : TA) : TE := fun σ H Q => ta σ H fun vs H1 => ∃ (a b : Addr) (xs ys : List V), vs = [.ref a, .ref b] ∧ SqL K H1 a xs ∧ SqL K H1 b ys ∧ xs.length ≤ 1000 ∧
  ∀ (H2 : Hp) (S : Addr) (Ts : List Addr), Drawn2 H1 H2 S xs ys Ts → Ts.length = min xs.length ys.length → Q (.ref S) H2
theorem pe_listZip {X : Cx} {e e2 : Expr} {ta : TA} {p p2 q pos : Pos} (hc : X.calm = true) (hg : Gl X "list") (hm : X.mg "list" = none) (hg2 : Gl X "zip") (hm2 : X.mg "zip" = none) (ha : PA X [e, e2] ta)
    (hs : starEach [.Call (.Name "zip" p2) [e, e2] [] q] X.env = (false, eval (.Call (.Name "zip" p2) [e, e2] [] q) X.env) :: starEach [] X.env := by rfl)
    (hs2 : starEach [e, e2] X.env = (false, eval e X.env) :: starEach [e2] X.env := by rfl) (hpl : (backTo q (starEach [e2] X.env)).any (·.1) = false := by rfl) : PE X (.Call (.Name "list" p) [.Call (.Name "zip" p2) [e, e2] [] q] [] pos) (tListZip X.K ta) := by
  refine ⟨fun pins s σ H Q I h => ?_⟩
  refine Call_ (ld_blt I hg hm PyProof.Rows.boot_list (PyProof.Rows.callWith_type1 ?_ hs (by rfl)))
  rw [hs]
  show wpAny _ _ (spliced ((false, eval (.Call (.Name "zip" p2) [e, e2] [] q) X.env) :: backTo pos (starEach [] X.env))) _ _ s
  refine Calls.spliced_cons ?_
  refine Call_ (ld_blt I hg2 hm2 PyProof.Rows.boot_zip (PyProof.Rows.callWith_type1 (thn (ha.run q pins s σ H _ I h) fun us s1 ⟨vs, H1, I1, r1, q1⟩ => ?_) hs2 hpl))
  obtain ⟨a, b, xs, ys, ex, ha1, hb1, hz, hq⟩ := q1
  subst ex
  cases r1 with
  | cons r rr =>
    cases rr with
    | cons r' rr =>
      cases rr
      cases r
      cases r'
      obtain ⟨its, rv, p1, _⟩ := I1.list ha1
      obtain ⟨its2, rv2, p2, _⟩ := I1.list hb1
      refine call_zip_2 p1.isList p2.isList fun h' zz tI tO j1 j2 sz kp => Calls.spliced_nil ?_
      have I2 : Inv X pins σ H1 { s1 with heap := h' } := I1.kept (t' := s1.toks) kp
      have five : ∀ c ∈ [s1.heap.objs.size + 4, s1.heap.objs.size + 2, s1.heap.objs.size + 3, s1.heap.objs.size, s1.heap.objs.size + 1], s1.heap.objs.size ≤ c ∧ c < h'.objs.size := fun c hc => by
        rw [sz]
        simp only [List.mem_cons, List.not_mem_nil, or_false] at hc
        rcases hc with rfl | rfl | rfl | rfl | rfl
        · exact ⟨Nat.le_add_right _ _, Nat.lt_succ_self _⟩
        · exact ⟨Nat.le_add_right _ _, Nat.add_lt_add_left (by decide) _⟩
        · exact ⟨Nat.le_add_right _ _, Nat.add_lt_add_left (by decide) _⟩
        · exact ⟨Nat.le_refl _, Nat.lt_add_of_pos_right (by decide)⟩
        · exact ⟨Nat.le_add_right _ _, Nat.add_lt_add_left (by decide) _⟩
      refine lz_call hc (PySem.W.ktu_apart s1.heap.objs.size a b p1.lt p2.lt) I2 ha1 hb1 hz zz tI tO j1 j2 (fun c hc => I1.fpOk (five c hc).1 (I1.hok.fresh (five c hc).1)) (fun c hc => (five c hc).2) fun H2 s2 S Ts J Dr hl => ?_
      exact ⟨.ref S, H2, J, rfl, hq H2 S Ts Dr hl⟩
variable [Tb]
section
variable {K : PySem.W.Frag} {w : Option Addr} {n : Nat} {ds : List (Option D)} {tA : TA} {k : Kn}
theorem rps_pairs {H2 : Hp} : ∀ {xs ys : List V} {l m : List D} {Ts : List Addr}, Rps K H2 xs l → Rps K H2 ys m → Ts.length = min xs.length ys.length → (∀ (j : Nat) (T : Addr) (x y : V), Ts[j]? = some T → xs[j]? = some x → ys[j]? = some y → H2 T = some (.tup [x, y])) → Rps K H2 (Ts.map V.ref) ((l.zip m).map fun p => D.tup [p.1, p.2])
  | [], _, _, _, Ts, .nil, _, hl, _ => by
    have : Ts = [] := List.eq_nil_of_length_eq_zero (by simpa using hl)
    subst this
    exact .nil
  | _ :: _, [], _, _, Ts, .cons _ _, .nil, hl, _ => by
    have : Ts = [] := List.eq_nil_of_length_eq_zero (by simpa using hl)
    subst this
    exact .nil
  | x :: xs, y :: ys, _, _, [], .cons _ _, .cons _ _, hl, _ => by simp at hl
  | x :: xs, y :: ys, _, _, T :: Ts, .cons a b, .cons c d, hl, h => by
    refine .cons (.tup (SqT.of (h 0 T x y rfl rfl rfl)) (.cons a (.cons c .nil))) ?_
    exact rps_pairs b d (by simp at hl; omega) fun j T' x' y' q1 q2 q3 => h (j + 1) T' x' y' q1 q2 q3
theorem e_listZip (h : WpA K w tA ds n fun es n1 => ∃ l m : List D, es = [.lst l, .lst m] ∧ l.length ≤ 1000 ∧ k (.lst ((l.zip m).map fun p => D.tup [p.1, p.2])) n1) : WpE K w (tListZip K tA) ds n k := fun S H0 σ H Q re ok p =>
  h S H0 σ H _ re ok fun vs H1 es n1 ⟨l, m, e, hz, hk⟩ p1 ok1 r1 => by
    subst e
    cases r1 with
    | cons r r' =>
      cases r' with
      | cons r' r'' =>
        cases r''
        cases r with
        | @lst a xs _ hA xA =>
          cases r' with
          | @lst b ys _ hB xB =>
            refine ⟨a, b, xs, ys, rfl, SqL.of (cut_some hA).2, SqL.of (cut_some hB).2, by rw [xA.length]; exact hz, fun H2 T Ts Dr hl => ?_⟩
            have ex : Ex H1 H2 := Dr.ext
            have pr : Pres w H1 H2 := ⟨fun c o _ q _ => ex c o q, Dr.back⟩
            have ok2 : OkW K w S H2 n1 := ok1.ex ex
            have exc := ex_cut ok1 pr
            refine p _ H2 _ n1 hk (p1.trans pr) ok2 (.lst (cut_mk (ok1.fresh Dr.free) Dr.lst) ?_)
            refine rps_pairs (xA.mono exc) (xB.mono exc) hl fun j T' x y q1 q2 q3 => ?_
            obtain ⟨z1, z2⟩ := Dr.prs j T' x y q1 q2 q3
            exact cut_mk (ok1.fresh z1) z2
end
end DW
set_option Elab.async false
set_option maxRecDepth 100000
set_option maxHeartbeats 4000000
set_option linter.all false
set_option autoImplicit false
namespace K43
variable [DW.Tb]
open PySem PySem.Spec PyProof.Rows L2 DW
def k_KINDS : List D := [.str "order", .str "period"]
def k_ASKED : List D := [.str "count", .str "sum", .str "least", .str "greatest", .str "most", .str "rank"]
def r__law_pen (K : PySem.W.Frag)  : TS :=
  (tRet (tLst (tCons (tCB (rListU K) (tCons (tSl (rSlU K) (tVar 0) tNoPart (tPart (tC (.int 63)))) tNil)) (tCons (tC (.int 0)) (tCons (tC (.int 0)) tNil)))))
def r__law_draw (K : PySem.W.Frag)  : TS :=
  (tSeq (tIfS (tTest (tOp (rI0 fun i j => .bl (decide (j < i))) (tOp (rIx K) (tVar 0) (tC (.int 2))) (tC (.int 0)))) (tSeq (tAsg (tOp rModU (tCB rIntU (tCons (tOp (rIx K) (tVar 0) (tC (.int 2))) tNil)) (tVar 1)) (gName 2)) (tSeq (tAsg (tOp rDivU (tCB rIntU (tCons (tOp (rIx K) (tVar 0) (tC (.int 2))) tNil)) (tVar 1)) (gSub (tVar 0) (tC (.int 2)) rSetL)) (tRet (tVar 2)))) tNext) (tSeq (tAsg (tOp (rIx K) (tVar 0) (tC (.int 1))) (gName 3)) (tSeq (tAsg (tOp (rAddU K) (tVar 3) (tC (.int 1))) (gSub (tVar 0) (tC (.int 1)) rSetL)) (tSeq (tAsg (tOp (rAddU K) (tOp rMulU (tC (.int 34019)) (tVar 3)) (tC (.int 2903))) (gName 4)) (tSeq (tIfS (tTest (tOp (rNeU K) (tOp (rIx K) (tVar 0) (tC (.int 0))) (tLst tNil))) (tAsg (tOp (rIx K) (tOp (rIx K) (tVar 0) (tC (.int 0))) (tOp rModU (tCB rIntU (tCons (tVar 3) tNil)) (tCB (rLenU K) (tCons (tOp (rIx K) (tVar 0) (tC (.int 0))) tNil)))) (gName 4)) tNext) (tSeq (tIfS (tAnd (tTest (tOp (rI0 fun i j => .bl (decide (i < j))) (tVar 3) (tCB (rLenU K) (tCons (tOp (rIx K) (tVar 0) (tC (.int 0))) tNil)))) (tTest (tOp (rI0 fun i j => .bl (decide (j ≤ i))) (tCB rAbsU (tCons (tVar 4) tNil)) (tOp (rI CPow fun i j => .int (i ^ j.toNat)) (tC (.int 10)) (tC (.int 18)))))) (tSeq (tAsg (tOp (rAddU K) (tOp rMulU (tC (.int 2)) (tOp (rI0 fun i j => .int (i - j)) (tCB rAbsU (tCons (tVar 4) tNil)) (tOp (rI CPow fun i j => .int (i ^ j.toNat)) (tC (.int 10)) (tC (.int 18))))) (tCB rIntU (tCons (tOp (rI0 fun i j => .bl (decide (i < j))) (tVar 4) (tC (.int 0))) tNil))) (gName 5)) (tSeq (tAsg (tOp rDivU (tCB rIntU (tCons (tVar 5) tNil)) (tVar 1)) (gSub (tVar 0) (tC (.int 2)) rSetL)) (tRet (tOp rModU (tCB rIntU (tCons (tVar 5) tNil)) (tVar 1))))) tNext) (tSeq (tAsg (tOp rModU (tCB rIntU (tCons (tOp (rI CPow fun i j => .int (i ^ j.toNat)) (tOp (rAddU K) (tOp (rAddU K) (tOp rModU (tCB rIntU (tCons (tVar 4) tNil)) (tC (.int 2147483563))) (tOp rMulU (tC (.int 65003)) (tVar 3))) (tC (.int 2903))) (tC (.int 3))) tNil)) (tC (.int 2147483629))) (gName 6)) (tSeq (tAsg (tOp rModU (tCB rIntU (tCons (tOp (rI CPow fun i j => .int (i ^ j.toNat)) (tOp (rAddU K) (tOp (rAddU K) (tOp rMulU (tVar 6) (tOp (rAddU K) (tOp rMulU (tC (.int 2)) (tVar 3)) (tC (.int 2111)))) (tOp rMulU (tOp rMulU (tC (.int 65003)) (tVar 3)) (tVar 3))) (tC (.int 157))) (tC (.int 5))) tNil)) (tC (.int 2147483587))) (gName 6)) (tRet (tOp rModU (tCB rIntU (tCons (tOp rDivU (tVar 6) (tC (.int 32))) tNil)) (tVar 1)))))))))))
def r_fixed (K : PySem.W.Frag) (S_fixed : Sp) : TS :=
  (tSeq (tIfS (tB (tIsi2 K (tVar 0) (.ty "list") (.ty "tuple"))) (tRet (tCB (rTupU K) (tCons (tLc (iSeq K (tVar 0)) (gName 1) tYes (tCall S_fixed [] E0 (tCons (tVar 1) tNil)) [1]) tNil))) tNext) (tRet (tVar 0)))
def r_Paper_init (K : PySem.W.Frag) (S_fixed : Sp) : TS :=
  (tSeq (sFld K (tVar 0) (tVar 1) "word") (sFld K (tVar 0) (tCall S_fixed [] E0 (tCons (tVar 2) tNil)) "parts"))
def r_Piece_init (K : PySem.W.Frag)  : TS :=
  (tAsg (tFld K (tVar 0) "parts") (gTup K 5 (gCons (gAttr K (tVar 0) "moment") (gCons (gAttr K (tVar 0) "step") (gCons (gAttr K (tVar 0) "count") (gCons (gAttr K (tVar 0) "kind") (gCons (gAttr K (tVar 0) "numbers") gNil)))))))
def a_Piece_init (K : PySem.W.Frag)  : TA :=
  (tCons (tC (.str "piece")) (tCons (tVar 1) (tCons (tVar 2) (tCons (tVar 3) (tCons (tVar 4) (tCons (tVar 5) tNil))))))
def r_is_listed (K : PySem.W.Frag)  : TS :=
  (tRet (tIsi2 K (tVar 0) (.ty "list") (.ty "tuple")))
def r_is_integer (K : PySem.W.Frag)  : TS :=
  (tRet (tAndV (tCB (rIsiU K) (tCons (tVar 0) (tCons (tC (.ty "int")) tNil))) (tNotV (tCB (rIsiU K) (tCons (tVar 0) (tCons (tC (.ty "bool")) tNil))))))
def r_is_within (K : PySem.W.Frag) (S_is_integer : Sp) : TS :=
  (tRet (tAndV (tCall S_is_integer [] E0 (tCons (tVar 0) tNil)) (tAndV (tOrV (tOp rIsU (tVar 1) (tC .non)) (tOp (rI0 fun i j => .bl (decide (j ≤ i))) (tVar 0) (tVar 1))) (tOrV (tOp rIsU (tVar 2) (tC .non)) (tOp (rI0 fun i j => .bl (decide (i ≤ j))) (tVar 0) (tVar 2))))))
def r_is_piece (K : PySem.W.Frag) (C_Piece : Addr) (S_is_within : Sp) (S_is_listed : Sp) (S_is_integer : Sp) : TS :=
  (tSeq (tIfS (tOr (tNot (tB (tCB (rIsiU K) (tCons (tVar 0) (tCons (tC (.ref C_Piece)) tNil))))) (tOr (tNot (tB (tCall S_is_within [] E0 (tCons (tFld K (tVar 0) "count") (tCons (tC (.int 1)) (tCons (tC (.int 2199023255552)) tNil)))))) (tNot (tB (tCall S_is_listed [] E0 (tCons (tFld K (tVar 0) "numbers") tNil)))))) (tRet (tC (.bl false))) tNext) (tSeq (tIfS (tOr (tNot (tB (tCall S_is_integer [] E0 (tCons (tFld K (tVar 0) "moment") tNil)))) (tOr (tNot (tB (tCall S_is_integer [] E0 (tCons (tFld K (tVar 0) "step") tNil)))) (tAnd (tTest (tOp (rEqU K) (tFld K (tVar 0) "count") (tC (.int 1)))) (tTest (tOp (rNeU K) (tFld K (tVar 0) "step") (tC (.int 0))))))) (tRet (tC (.bl false))) tNext) (tSeq (tIfS (tOr (tNot (tB (tCB (rIsiU K) (tCons (tFld K (tVar 0) "kind") (tCons (tC (.ty "str")) tNil))))) (tTest (tOp (rInU K true) (tFld K (tVar 0) "kind") (tKT K k_KINDS)))) (tRet (tC (.bl false))) tNext) (tSeq (tIfS (tNot (tB (tCB (rAll K) (tCons (tLc (iSeq K (tFld K (tVar 0) "numbers")) (gName 1) tYes (tCall S_is_integer [] E0 (tCons (tVar 1) tNil)) [1]) tNil)))) (tRet (tC (.bl false))) tNext) (tSeq (tIfS (tNot (tTest (tChain (rI0 fun i j => .bl (decide (i ≤ j))) (rI0 fun i j => .bl (decide (i ≤ j))) (tC (.int 1)) (tCB (rLenU K) (tCons (tFld K (tVar 0) "numbers") tNil)) (tCB (rMinU K) (tCons (tFld K (tVar 0) "count") (tCons (tIf (tTest (tOp (rEqU K) (tFld K (tVar 0) "kind") (tC (.str "order")))) (tC (.int 3)) (tC (.int 8))) tNil)))))) (tRet (tC (.bl false))) tNext) (tRet (tOrV (tOp (rEqU K) (tFld K (tVar 0) "kind") (tC (.str "period"))) (tOrV (tOp (rEqU K) (tCB (rLenU K) (tCons (tFld K (tVar 0) "numbers") tNil)) (tC (.int 1))) (tOp (rNeU K) (tOp (rIx K) (tFld K (tVar 0) "numbers") (tUn (rU fun i => .int (-i)) (tC (.int 1)))) (tC (.int 0)))))))))))
def r_padded (K : PySem.W.Frag)  : TS :=
  (tRet (tSl (rSlU K) (tLst (StX.tStar K (tVar 0) (tCons (tC (.int 0)) (tCons (tC (.int 0)) tNil)))) tNoPart (tPart (tC (.int 3)))))
def r_pairs_of (K : PySem.W.Frag)  : TS :=
  (tRet (tOp rDivU (tOp rMulU (tVar 0) (tOp (rI0 fun i j => .int (i - j)) (tVar 0) (tC (.int 1)))) (tC (.int 2))))
def r_number_at (K : PySem.W.Frag) (S_padded : Sp) (S_pairs_of : Sp) : TS :=
  (tSeq (tIfS (tTest (tOp (rEqU K) (tVar 0) (tC (.str "period")))) (tRet (tOp (rIx K) (tVar 1) (tOp rModU (tVar 2) (tCB (rLenU K) (tCons (tVar 1) tNil))))) tNext) (tSeq (tAsg (tCall S_padded [] E0 (tCons (tVar 1) tNil)) (gLst K 3 (gCons (gName 3) (gCons (gName 4) (gCons (gName 5) gNil))))) (tRet (tOp (rAddU K) (tOp (rAddU K) (tVar 3) (tOp rMulU (tVar 4) (tVar 2))) (tOp rMulU (tVar 5) (tCall S_pairs_of [] E0 (tCons (tVar 2) tNil)))))))
def r_turn_of (K : PySem.W.Frag) (S_padded : Sp) : TS :=
  (tSeq (tAsg (tCall S_padded [] E0 (tCons (tVar 0) tNil)) (gLst K 3 (gCons (gName 2) (gCons (gName 3) (gCons (gName 4) gNil))))) (tSeq (tIfS (tOr (tTest (tOp (rEqU K) (tVar 4) (tC (.int 0)))) (tTest (tOp (rI0 fun i j => .bl (decide (i < j))) (tVar 1) (tC (.int 3))))) (tRet (tOp (rI0 fun i j => .int (i - j)) (tVar 1) (tC (.int 1)))) tNext) (tSeq (tAsg (tIf (tAnd (tTest (tOp (rNeU K) (tOp (rI0 fun i j => .bl (decide (j < i))) (tVar 3) (tC (.int 0))) (tOp (rI0 fun i j => .bl (decide (j < i))) (tVar 4) (tC (.int 0))))) (tTest (tOp (rNeU K) (tVar 3) (tC (.int 0))))) (tUn (rU fun i => .int (-i)) (tOp rDivU (tUn (rU fun i => .int (-i)) (tCB rAbsU (tCons (tVar 3) tNil))) (tCB rAbsU (tCons (tVar 4) tNil)))) (tC (.int 0))) (gName 5)) (tRet (tCB (rMinU K) (tCons (tCB (rMaxU K) (tCons (tVar 5) (tCons (tC (.int 0)) tNil))) (tCons (tOp (rI0 fun i j => .int (i - j)) (tVar 1) (tC (.int 1))) tNil)))))))
def r_first_such (K : PySem.W.Frag) (F_is_such : FV) (ws_is_such : List (Option V)) (S_is_such : List (Option V) → Sp) : TS :=
  (tSeq (tWhile (tTest (tOp (rI0 fun i j => .bl (decide (i < j))) (tVar 0) (tVar 1))) (tSeq (tAsg (tOp rDivU (tOp (rAddU K) (tVar 0) (tVar 1)) (tC (.int 2))) (gName 3)) (tIfS (tB (tCallP F_is_such 2 ws_is_such S_is_such (tCons (tVar 3) tNil))) (tAsg (tVar 3) (gName 1)) (tAsg (tOp (rAddU K) (tVar 3) (tC (.int 1))) (gName 0))))) (tRet (tVar 1)))
def r_first_beyond_is_out (K : PySem.W.Frag) (S_number_at : Sp) : TS :=
  (tRet (tNotV (tChain (rI0 fun i j => .bl (decide (i ≤ j))) (rI0 fun i j => .bl (decide (i ≤ j))) (tVar 3) (tCall S_number_at [] E0 (tCons (tVar 1) (tCons (tVar 2) (tCons (tVar 0) tNil)))) (tVar 4))))
def r_first_beyond (K : PySem.W.Frag) (mk_is_out : Addr → NdefX.NF) (S_is_out : List (Option V) → Sp) (G_first_such : Addr → List (Option V) → List V → Hp → VK → Prop) (S_turn_of : Sp) : TS :=
  (tSeq (tIfS (tTest (tOp (rEqU K) (tVar 0) (tC (.str "period")))) (tSeq (tAsg (tLc (iRng1 (tCons (tCB (rMinU K) (tCons (tCB (rLenU K) (tCons (tVar 1) tNil)) (tCons (tVar 2) tNil))) tNil)) (gName 8) (tNot (tTest (tChain (rI0 fun i j => .bl (decide (i ≤ j))) (rI0 fun i j => .bl (decide (i ≤ j))) (tVar 3) (tOp (rIx K) (tVar 1) (tVar 8)) (tVar 4)))) (tVar 8) [8]) (gName 5)) (tRet (tIf (tTest (tOp (rNeU K) (tVar 5) (tLst tNil))) (tOp (rIx K) (tVar 5) (tC (.int 0))) (tVar 2)))) tNext) (tSeq (NdefX.tNdefM (Tb.tabs.map fun a => (a, Tb.nm a)) 6 mk_is_out) (tSeq (tAsg (tCall S_turn_of [] E0 (tCons (tVar 1) (tCons (tVar 2) tNil))) (gName 7)) (tSeq (tIfS (tB (NdefX.tCallN mk_is_out 6 [0, 1, 3, 4] (fun _ _ => S_is_out) E0 (tCons (tC (.int 0)) tNil))) (tRet (tC (.int 0))) tNext) (tSeq (tIfS (tB (NdefX.tCallN mk_is_out 6 [0, 1, 3, 4] (fun _ _ => S_is_out) E0 (tCons (tVar 7) tNil))) (tRet (tCallG (fun c' => fvN (mk_is_out c')) [0, 1, 3, 4] 3 G_first_such (tCons (tC (.int 0)) (tCons (tVar 7) (tCons (tVar 6) tNil))))) tNext) (tRet (tIf (tB (NdefX.tCallN mk_is_out 6 [0, 1, 3, 4] (fun _ _ => S_is_out) E0 (tCons (tOp (rI0 fun i j => .int (i - j)) (tVar 2) (tC (.int 1))) tNil))) (tCallG (fun c' => fvN (mk_is_out c')) [0, 1, 3, 4] 3 G_first_such (tCons (tVar 7) (tCons (tVar 2) (tCons (tVar 6) tNil)))) (tVar 2))))))))
def r_first_bad_moment (K : PySem.W.Frag)  : TS :=
  (tSeq (tIfS (tNot (tTest (tChain (rI0 fun i j => .bl (decide (i ≤ j))) (rI0 fun i j => .bl (decide (i ≤ j))) (tC (.int 0)) (tFld K (tVar 0) "moment") (tC (.int 1099511627775))))) (tRet (tC (.int 0))) tNext) (tSeq (tIfS (tAnd (tTest (tOp (rI0 fun i j => .bl (decide (j < i))) (tFld K (tVar 0) "count") (tC (.int 1)))) (tTest (tOp (rI0 fun i j => .bl (decide (i < j))) (tFld K (tVar 0) "step") (tC (.int 1))))) (tRet (tC (.int 1))) tNext) (tSeq (tAsg (tIf (tTest (tOp (rI0 fun i j => .bl (decide (j < i))) (tFld K (tVar 0) "count") (tC (.int 1)))) (tOp (rAddU K) (tOp rDivU (tOp (rI0 fun i j => .int (i - j)) (tC (.int 1099511627775)) (tFld K (tVar 0) "moment")) (tFld K (tVar 0) "step")) (tC (.int 1))) (tC (.int 1))) (gName 1)) (tRet (tCB (rMinU K) (tCons (tFld K (tVar 0) "count") (tCons (tVar 1) tNil)))))))
def r_wrong_in (K : PySem.W.Frag) (S_first_beyond : Sp) (S_first_bad_moment : Sp) : TS :=
  (tSeq (tIfS (tAnd (tTest (tOp rIsNU (tVar 1) (tC .non))) (tTest (tOp (rI0 fun i j => .bl (decide (i ≤ j))) (tFld K (tVar 0) "moment") (tVar 1)))) (tRet (tC (.int 0))) tNext) (tSeq (tAsg (tCall S_first_beyond [] E0 (tCons (tFld K (tVar 0) "kind") (tCons (tFld K (tVar 0) "numbers") (tCons (tFld K (tVar 0) "count") (tCons (tOp (rI0 fun i j => .int (i - j)) (tC (.int 0)) (tC (.int 1099511627776))) (tCons (tC (.int 1099511627776)) tNil)))))) (gName 2)) (tRet (tCB (rMinU K) (tCons (tCall S_first_bad_moment [] E0 (tCons (tVar 0) tNil)) (tCons (tVar 2) tNil))))))
def r_moment_at (K : PySem.W.Frag)  : TS :=
  (tRet (tOp (rAddU K) (tFld K (tVar 0) "moment") (tOp rMulU (tFld K (tVar 0) "step") (tVar 1))))
def r_last_moment (K : PySem.W.Frag) (S_moment_at : Sp) : TS :=
  (tRet (tCall S_moment_at [] E0 (tCons (tVar 0) (tCons (tOp (rI0 fun i j => .int (i - j)) (tFld K (tVar 0) "count") (tC (.int 1))) tNil))))
def r_first_wrong (K : PySem.W.Frag) (S_wrong_in : Sp) (S_last_moment : Sp) : TS :=
  (tSeq (tAsg (tTup (tCons (tC (.int 0)) (tCons (tC .non) tNil))) (gTup K 2 (gCons (gName 1) (gCons (gName 2) gNil)))) (tSeq (tFor (iSeq K (tVar 0)) (gName 3) (tSeq (tAsg (tCall S_wrong_in [] E0 (tCons (tVar 3) (tCons (tVar 2) tNil))) (gName 4)) (tSeq (tIfS (tTest (tOp (rI0 fun i j => .bl (decide (i < j))) (tVar 4) (tFld K (tVar 3) "count"))) (tRet (tOp (rAddU K) (tVar 1) (tVar 4))) tNext) (tPar 1 2 (tCons (tOp (rAddU K) (tVar 1) (tFld K (tVar 3) "count")) (tCons (tCall S_last_moment [] E0 (tCons (tVar 3) tNil)) tNil)))))) (tRet (tC .non))))
def r_are_pieces (K : PySem.W.Frag) (S_is_listed : Sp) (S_is_piece : Sp) (S_first_wrong : Sp) : TS :=
  (tRet (tAndV (tCall S_is_listed [] E0 (tCons (tVar 0) tNil)) (tAndV (tCB (rAll K) (tCons (tLc (iSeq K (tVar 0)) (gName 1) tYes (tCall S_is_piece [] E0 (tCons (tVar 1) tNil)) [1]) tNil)) (tOp rIsU (tCall S_first_wrong [] E0 (tCons (tVar 0) tNil)) (tC .non)))))
def r_need_pieces (K : PySem.W.Frag) (S_are_pieces : Sp) : TS :=
  (tIfS (tNot (tB (tCall S_are_pieces [] E0 (tCons (tVar 1) tNil)))) tNever tNext)
def r_need_question (K : PySem.W.Frag) (C_Question : Addr) : TS :=
  (tIfS (tNot (tB (tCB (rIsiU K) (tCons (tVar 0) (tCons (tC (.ref C_Question)) tNil))))) tNever tNext)
def r_below_in (K : PySem.W.Frag)  : TS :=
  (tSeq (tIfS (tTest (tOp (rI0 fun i j => .bl (decide (i ≤ j))) (tVar 1) (tFld K (tVar 0) "moment"))) (tRet (tC (.int 0))) tNext) (tSeq (tIfS (tTest (tOp (rEqU K) (tFld K (tVar 0) "count") (tC (.int 1)))) (tRet (tC (.int 1))) tNext) (tRet (tCB (rMinU K) (tCons (tFld K (tVar 0) "count") (tCons (tOp (rAddU K) (tOp rDivU (tOp (rI0 fun i j => .int (i - j)) (tOp (rI0 fun i j => .int (i - j)) (tVar 1) (tFld K (tVar 0) "moment")) (tC (.int 1))) (tFld K (tVar 0) "step")) (tC (.int 1))) tNil))))))
def r_trimmed (K : PySem.W.Frag)  : TS :=
  (tSeq (tAsg (tSl (rSlU K) (tCB (rListU K) (tCons (tVar 0) tNil)) tNoPart (tPart (tVar 1))) (gName 2)) (tSeq (tWhile (tAnd (tTest (tOp (rI0 fun i j => .bl (decide (j < i))) (tCB (rLenU K) (tCons (tVar 2) tNil)) (tC (.int 1)))) (tTest (tOp (rEqU K) (tOp (rIx K) (tVar 2) (tUn (rU fun i => .int (-i)) (tC (.int 1)))) (tC (.int 0))))) (tDrop (tBM0 K "list" rPop (tVar 2)))) (tRet (tVar 2))))
def r_part_of (K : PySem.W.Frag) (S_padded : Sp) (S_trimmed : Sp) (S_number_at : Sp) : TS :=
  (tSeq (tIfS (tTest (tOp (rEqU K) (tVar 0) (tC (.str "period")))) (tRet (tLc (iRng1 (tCons (tCB (rMinU K) (tCons (tCB (rLenU K) (tCons (tVar 1) tNil)) (tCons (tVar 3) tNil))) tNil)) (gName 7) tYes (tOp (rIx K) (tVar 1) (tOp rModU (tOp (rAddU K) (tVar 2) (tVar 7)) (tCB (rLenU K) (tCons (tVar 1) tNil)))) [7])) tNext) (tSeq (tAsg (tCall S_padded [] E0 (tCons (tVar 1) tNil)) (gLst K 3 (gCons (gName 4) (gCons (gName 5) (gCons (gName 6) gNil))))) (tRet (tCall S_trimmed [] E0 (tCons (tLst (tCons (tCall S_number_at [] E0 (tCons (tVar 0) (tCons (tVar 1) (tCons (tVar 2) tNil)))) (tCons (tOp (rAddU K) (tVar 5) (tOp rMulU (tVar 6) (tVar 2))) (tCons (tVar 6) tNil)))) (tCons (tVar 3) tNil))))))
def r_part_of_piece (K : PySem.W.Frag) (S_part_of : Sp) (C_Piece : Addr) (S_Piece : Sp) (S_moment_at : Sp) : TS :=
  (tSeq (tAsg (tCall S_part_of [] E0 (tCons (tFld K (tVar 0) "kind") (tCons (tFld K (tVar 0) "numbers") (tCons (tVar 1) (tCons (tVar 2) tNil))))) (gName 3)) (tRet (tMake C_Piece S_Piece [] E0 (tCons (tCall S_moment_at [] E0 (tCons (tVar 0) (tCons (tVar 1) tNil))) (tCons (tIf (tTest (tOp (rI0 fun i j => .bl (decide (j < i))) (tVar 2) (tC (.int 1)))) (tFld K (tVar 0) "step") (tC (.int 0))) (tCons (tVar 2) (tCons (tFld K (tVar 0) "kind") (tCons (tVar 3) tNil))))))))
def r_points_among (K : PySem.W.Frag) (S_below_in : Sp) (S_moment_at : Sp) (S_part_of_piece : Sp) : TS :=
  (tSeq (tAsg (tLst tNil) (gName 2)) (tSeq (tFor (iSeq K (tVar 0)) (gName 3) (tFor (iSeq K (tVar 1)) (gName 4) (tSeq (tAsg (tCall S_below_in [] E0 (tCons (tVar 3) (tCons (tVar 4) tNil))) (gName 5)) (tIfS (tAnd (tTest (tOp (rI0 fun i j => .bl (decide (i < j))) (tVar 5) (tFld K (tVar 3) "count"))) (tTest (tOp (rEqU K) (tCall S_moment_at [] E0 (tCons (tVar 3) (tCons (tVar 5) tNil))) (tVar 4)))) (tDrop (tBM K "list" rAppend (tVar 2) (tCons (tCall S_part_of_piece [] E0 (tCons (tVar 3) (tCons (tVar 5) (tCons (tC (.int 1)) tNil)))) tNil))) tNext)))) (tRet (tCB (rTupU K) (tCons (tVar 2) tNil)))))
def r_listed_in (K : PySem.W.Frag)  : TS :=
  (tRet (tLc (iSeq K (tFld K (tVar 0) "among")) (gName 1) (tTest (tChain (rI0 fun i j => .bl (decide (i ≤ j))) (rI0 fun i j => .bl (decide (i < j))) (tFld K (tVar 0) "start") (tVar 1) (tFld K (tVar 0) "stop"))) (tVar 1) [1]))
def r_cut_in (K : PySem.W.Frag) (S_below_in : Sp) (S_part_of_piece : Sp) : TS :=
  (tSeq (tAsg (tLst tNil) (gName 3)) (tSeq (tFor (iSeq K (tVar 0)) (gName 4) (tSeq (tPar 5 6 (tCons (tCall S_below_in [] E0 (tCons (tVar 4) (tCons (tVar 1) tNil))) (tCons (tCall S_below_in [] E0 (tCons (tVar 4) (tCons (tVar 2) tNil))) tNil))) (tIfS (tTest (tOp (rI0 fun i j => .bl (decide (i < j))) (tVar 5) (tVar 6))) (tDrop (tBM K "list" rAppend (tVar 3) (tCons (tCall S_part_of_piece [] E0 (tCons (tVar 4) (tCons (tVar 5) (tCons (tOp (rI0 fun i j => .int (i - j)) (tVar 6) (tVar 5)) tNil)))) tNil))) tNext))) (tRet (tCB (rTupU K) (tCons (tVar 3) tNil)))))
def r_pieces_at (K : PySem.W.Frag) (S_points_among : Sp) (S_listed_in : Sp) (S_cut_in : Sp) : TS :=
  (tSeq (tIfS (tTest (tOp rIsNU (tFld K (tVar 1) "among") (tC .non))) (tRet (tCall S_points_among [] E0 (tCons (tVar 0) (tCons (tCall S_listed_in [] E0 (tCons (tVar 1) tNil)) tNil)))) tNext) (tRet (tCall S_cut_in [] E0 (tCons (tVar 0) (tCons (tFld K (tVar 1) "start") (tCons (tFld K (tVar 1) "stop") tNil))))))
def r_counted (K : PySem.W.Frag)  : TS :=
  (tRet (tCB (rSumU K) (tCons (tLc (iSeq K (tVar 0)) (gName 1) tYes (tFld K (tVar 1) "count") [1]) tNil)))
def r_threes_of (K : PySem.W.Frag)  : TS :=
  (tRet (tOp rDivU (tOp rMulU (tOp rMulU (tVar 0) (tOp (rI0 fun i j => .int (i - j)) (tVar 0) (tC (.int 1)))) (tOp (rI0 fun i j => .int (i - j)) (tVar 0) (tC (.int 2)))) (tC (.int 6))))
def r_total_of (K : PySem.W.Frag) (S_padded : Sp) (S_pairs_of : Sp) (S_threes_of : Sp) : TS :=
  (tSeq (tIfS (tTest (tOp (rEqU K) (tVar 0) (tC (.str "period")))) (tSeq (tAsg (tCB rDivmodU (tCons (tVar 2) (tCons (tCB (rLenU K) (tCons (tVar 1) tNil)) tNil))) (gTup K 2 (gCons (gName 3) (gCons (gName 4) gNil)))) (tRet (tOp (rAddU K) (tOp rMulU (tVar 3) (tCB (rSumU K) (tCons (tVar 1) tNil))) (tCB (rSumU K) (tCons (tSl (rSlU K) (tVar 1) tNoPart (tPart (tVar 4))) tNil))))) tNext) (tSeq (tAsg (tCall S_padded [] E0 (tCons (tVar 1) tNil)) (gLst K 3 (gCons (gName 5) (gCons (gName 6) (gCons (gName 7) gNil))))) (tRet (tOp (rAddU K) (tOp (rAddU K) (tOp rMulU (tVar 5) (tVar 2)) (tOp rMulU (tVar 6) (tCall S_pairs_of [] E0 (tCons (tVar 2) tNil)))) (tOp rMulU (tVar 7) (tCall S_threes_of [] E0 (tCons (tVar 2) tNil)))))))
def r_summed (K : PySem.W.Frag) (S_total_of : Sp) : TS :=
  (tRet (tCB (rSumU K) (tCons (tLc (iSeq K (tVar 0)) (gName 1) tYes (tCall S_total_of [] E0 (tCons (tFld K (tVar 1) "kind") (tCons (tFld K (tVar 1) "numbers") (tCons (tFld K (tVar 1) "count") tNil)))) [1]) tNil)))
def r_first_of (K : PySem.W.Frag)  : TS :=
  (tRet (tIf (tTest (tOp rIsU (tVar 0) (tC .non))) (tC .non) (tOp (rIx K) (tVar 0) (tC (.int 0)))))
def r_corners_of (K : PySem.W.Frag) (S_turn_of : Sp) : TS :=
  (tSeq (tIfS (tTest (tOp (rEqU K) (tVar 0) (tC (.str "period")))) (tRet (tLstRg (tRg1 (tCB (rMinU K) (tCons (tCB (rLenU K) (tCons (tVar 1) tNil)) (tCons (tVar 2) tNil)))))) tNext) (tSeq (tAsg (tCall S_turn_of [] E0 (tCons (tVar 1) (tCons (tVar 2) tNil))) (gName 3)) (tRet (tSortSet K (tLc (iSeq K (tTup (tCons (tC (.int 0)) (tCons (tVar 3) (tCons (tOp (rI0 fun i j => .int (i - j)) (tVar 2) (tC (.int 1))) tNil))))) (gName 4) (tTest (tChain (rI0 fun i j => .bl (decide (i ≤ j))) (rI0 fun i j => .bl (decide (i < j))) (tC (.int 0)) (tVar 4) (tVar 2))) (tVar 4) [4])))))
def r_least_at (K : PySem.W.Frag) (S_corners_of : Sp) (S_number_at : Sp) : TS :=
  (tRet (tCB (rMinU K) (tCons (tLc (iSeq K (tCall S_corners_of [] E0 (tCons (tVar 0) (tCons (tVar 1) (tCons (tVar 2) tNil))))) (gName 3) tYes (tTup (tCons (tCall S_number_at [] E0 (tCons (tVar 0) (tCons (tVar 1) (tCons (tVar 3) tNil)))) (tCons (tVar 3) tNil))) [3]) tNil)))
def r_lowest (K : PySem.W.Frag) (S_least_at : Sp) (S_moment_at : Sp) : TS :=
  (tSeq (tAsg (tC .non) (gName 1)) (tSeq (tFor (iSeq K (tVar 0)) (gName 2) (tSeq (tAsg (tCall S_least_at [] E0 (tCons (tFld K (tVar 2) "kind") (tCons (tFld K (tVar 2) "numbers") (tCons (tFld K (tVar 2) "count") tNil)))) (gTup K 2 (gCons (gName 3) (gCons (gName 4) gNil)))) (tIfS (tOr (tTest (tOp rIsU (tVar 1) (tC .non))) (tTest (tOp (rI0 fun i j => .bl (decide (i < j))) (tVar 3) (tOp (rIx K) (tVar 1) (tC (.int 0)))))) (tAsg (tTup (tCons (tVar 3) (tCons (tCall S_moment_at [] E0 (tCons (tVar 2) (tCons (tVar 4) tNil))) tNil))) (gName 1)) tNext))) (tRet (tVar 1))))
def r_greatest_at (K : PySem.W.Frag) (S_corners_of : Sp) (S_number_at : Sp) : TS :=
  (tSeq (tAsg (tCB (rMinU K) (tCons (tLc (iSeq K (tCall S_corners_of [] E0 (tCons (tVar 0) (tCons (tVar 1) (tCons (tVar 2) tNil))))) (gName 4) tYes (tTup (tCons (tOp (rI0 fun i j => .int (i - j)) (tC (.int 0)) (tCall S_number_at [] E0 (tCons (tVar 0) (tCons (tVar 1) (tCons (tVar 4) tNil))))) (tCons (tVar 4) tNil))) [4]) tNil)) (gName 3)) (tRet (tTup (tCons (tOp (rI0 fun i j => .int (i - j)) (tC (.int 0)) (tOp (rIx K) (tVar 3) (tC (.int 0)))) (tCons (tOp (rIx K) (tVar 3) (tC (.int 1))) tNil)))))
def r_highest (K : PySem.W.Frag) (S_greatest_at : Sp) (S_moment_at : Sp) : TS :=
  (tSeq (tAsg (tC .non) (gName 1)) (tSeq (tFor (iSeq K (tVar 0)) (gName 2) (tSeq (tAsg (tCall S_greatest_at [] E0 (tCons (tFld K (tVar 2) "kind") (tCons (tFld K (tVar 2) "numbers") (tCons (tFld K (tVar 2) "count") tNil)))) (gTup K 2 (gCons (gName 3) (gCons (gName 4) gNil)))) (tIfS (tOr (tTest (tOp rIsU (tVar 1) (tC .non))) (tTest (tOp (rI0 fun i j => .bl (decide (j < i))) (tVar 3) (tOp (rIx K) (tVar 1) (tC (.int 0)))))) (tAsg (tTup (tCons (tVar 3) (tCons (tCall S_moment_at [] E0 (tCons (tVar 2) (tCons (tVar 4) tNil))) tNil))) (gName 1)) tNext))) (tRet (tVar 1))))
def r_rising_most_lam0 (K : PySem.W.Frag) (S_number_at : Sp) : TE :=
  (tOp (rI0 fun i j => .bl (decide (j < i))) (tCall S_number_at [] E0 (tCons (tVar 1) (tCons (tVar 2) (tCons (tVar 0) tNil)))) (tVar 3))
def r_rising_most_lam1 (K : PySem.W.Frag) (S_number_at : Sp) : TE :=
  (tOp (rI0 fun i j => .bl (decide (i ≤ j))) (tCall S_number_at [] E0 (tCons (tVar 1) (tCons (tVar 2) (tCons (tVar 0) tNil)))) (tVar 3))
def r_rising_most (K : PySem.W.Frag) (mk0 : Addr → NdefX.NF) (b0 : Expr) (G0 : Addr → List (Option V) → List V → Hp → VK → Prop) (mk1 : Addr → NdefX.NF) (b1 : Expr) (G1 : Addr → List (Option V) → List V → Hp → VK → Prop) (S_number_at : Sp) : TS :=
  (tSeq (tIfS (tTest (tOp (rI0 fun i j => .bl (decide (j ≤ i))) (tVar 2) (tVar 3))) (tRet (tC (.int 0))) tNext) (tSeq (tIfS (tTest (tOp (rI0 fun i j => .bl (decide (i ≤ j))) (tCall S_number_at [] E0 (tCons (tVar 0) (tCons (tVar 1) (tCons (tVar 2) tNil)))) (tCall S_number_at [] E0 (tCons (tVar 0) (tCons (tVar 1) (tCons (tOp (rI0 fun i j => .int (i - j)) (tVar 3) (tC (.int 1))) tNil)))))) (tRet (tOp (rI0 fun i j => .int (i - j)) (tCallG (fun c' => fvL (mk0 c') b0) [0, 1, 4] 3 G0 (tCons (tVar 2) (tCons (tVar 3) (tCons (tLamE (Tb.tabs.map fun a => (a, Tb.nm a)) b0 mk0) tNil)))) (tVar 2))) tNext) (tRet (tOp (rI0 fun i j => .int (i - j)) (tVar 3) (tCallG (fun c' => fvL (mk1 c') b1) [0, 1, 4] 3 G1 (tCons (tVar 2) (tCons (tVar 3) (tCons (tLamE (Tb.tabs.map fun a => (a, Tb.nm a)) b1 mk1) tNil))))))))
def r_most_of_curve (K : PySem.W.Frag) (S_turn_of : Sp) (S_rising_most : Sp) : TS :=
  (tSeq (tIfS (tTest (tOp (rEqU K) (tVar 0) (tC (.str "period")))) (tSeq (tAsg (tCB rDivmodU (tCons (tVar 2) (tCons (tCB (rLenU K) (tCons (tVar 1) tNil)) tNil))) (gTup K 2 (gCons (gName 4) (gCons (gName 5) gNil)))) (tSeq (tAsg (tLc (iSeq K (tVar 1)) (gName 8) tYes (tCB rIntU (tCons (tOp (rI0 fun i j => .bl (decide (i ≤ j))) (tVar 8) (tVar 3)) tNil)) [8]) (gName 6)) (tRet (tOp (rAddU K) (tOp rMulU (tVar 4) (tCB (rSumU K) (tCons (tVar 6) tNil))) (tCB (rSumU K) (tCons (tSl (rSlU K) (tVar 6) tNoPart (tPart (tVar 5))) tNil)))))) tNext) (tSeq (tAsg (tCall S_turn_of [] E0 (tCons (tVar 1) (tCons (tVar 2) tNil))) (gName 7)) (tRet (tOp (rAddU K) (tCall S_rising_most [] E0 (tCons (tVar 0) (tCons (tVar 1) (tCons (tC (.int 0)) (tCons (tVar 7) (tCons (tVar 3) tNil)))))) (tCall S_rising_most [] E0 (tCons (tVar 0) (tCons (tVar 1) (tCons (tVar 7) (tCons (tVar 2) (tCons (tVar 3) tNil))))))))))
def r_most_by (K : PySem.W.Frag) (S_most_of_curve : Sp) : TS :=
  (tRet (tCB (rSumU K) (tCons (tLc (iSeq K (tVar 0)) (gName 2) tYes (tCall S_most_of_curve [] E0 (tCons (tFld K (tVar 2) "kind") (tCons (tFld K (tVar 2) "numbers") (tCons (tFld K (tVar 2) "count") (tCons (tVar 1) tNil))))) [2]) tNil)))
def r_ranked (K : PySem.W.Frag) (S_counted : Sp) (S_lowest : Sp) (S_highest : Sp) (S_most_by : Sp) : TS :=
  (tSeq (tIfS (tTest (tOp (rI0 fun i j => .bl (decide (j < i))) (tVar 1) (tCall S_counted [] E0 (tCons (tVar 0) tNil)))) (tRet (tC .non)) tNext) (tSeq (tPar 2 3 (tCons (tOp (rIx K) (tCall S_lowest [] E0 (tCons (tVar 0) tNil)) (tC (.int 0))) (tCons (tOp (rIx K) (tCall S_highest [] E0 (tCons (tVar 0) tNil)) (tC (.int 0))) tNil))) (tSeq (tWhile (tTest (tOp (rI0 fun i j => .bl (decide (i < j))) (tVar 2) (tVar 3))) (tSeq (tAsg (tOp rDivU (tOp (rAddU K) (tVar 2) (tVar 3)) (tC (.int 2))) (gName 4)) (tIfS (tTest (tOp (rI0 fun i j => .bl (decide (j ≤ i))) (tCall S_most_by [] E0 (tCons (tVar 0) (tCons (tVar 4) tNil))) (tVar 1))) (tAsg (tVar 4) (gName 3)) (tAsg (tOp (rAddU K) (tVar 4) (tC (.int 1))) (gName 2))))) (tRet (tVar 2)))))
def r_answer_of (K : PySem.W.Frag) (S_need_pieces : Sp) (S_need_question : Sp) (S_pieces_at : Sp) (S_counted : Sp) (S_summed : Sp) (S_first_of : Sp) (S_lowest : Sp) (S_highest : Sp) (S_most_by : Sp) (S_ranked : Sp) : TS :=
  (tSeq (tDrop (tCall S_need_pieces [] E0 (tCons (tC (.str "pieces")) (tCons (tVar 0) tNil)))) (tSeq (tDrop (tCall S_need_question [] E0 (tCons (tVar 1) tNil))) (tSeq (tAsg (tCall S_pieces_at [] E0 (tCons (tVar 0) (tCons (tVar 1) tNil))) (gName 2)) (tSeq (tIfS (tTest (tOp (rEqU K) (tFld K (tVar 1) "kind") (tC (.str "count")))) (tRet (tCall S_counted [] E0 (tCons (tVar 2) tNil))) tNext) (tSeq (tIfS (tTest (tOp (rEqU K) (tFld K (tVar 1) "kind") (tC (.str "sum")))) (tRet (tCall S_summed [] E0 (tCons (tVar 2) tNil))) tNext) (tSeq (tIfS (tTest (tOp (rEqU K) (tFld K (tVar 1) "kind") (tC (.str "least")))) (tRet (tCall S_first_of [] E0 (tCons (tCall S_lowest [] E0 (tCons (tVar 2) tNil)) tNil))) tNext) (tSeq (tIfS (tTest (tOp (rEqU K) (tFld K (tVar 1) "kind") (tC (.str "greatest")))) (tRet (tCall S_first_of [] E0 (tCons (tCall S_highest [] E0 (tCons (tVar 2) tNil)) tNil))) tNext) (tRet (tIf (tTest (tOp (rEqU K) (tFld K (tVar 1) "kind") (tC (.str "most")))) (tCall S_most_by [] E0 (tCons (tVar 2) (tCons (tFld K (tVar 1) "number") tNil))) (tCall S_ranked [] E0 (tCons (tVar 2) (tCons (tFld K (tVar 1) "number") tNil))))))))))))
def r_is_numbered (K : PySem.W.Frag) (S_is_within : Sp) : TS :=
  (tSeq (tIfS (tTest (tOp (rEqU K) (tVar 0) (tC (.str "most")))) (tRet (tCall S_is_within [] E0 (tCons (tVar 1) (tCons (tOp (rI0 fun i j => .int (i - j)) (tC (.int 0)) (tC (.int 1152921504606846976))) (tCons (tC (.int 1152921504606846976)) tNil))))) tNext) (tRet (tIf (tTest (tOp (rEqU K) (tVar 0) (tC (.str "rank")))) (tCall S_is_within [] E0 (tCons (tVar 1) (tCons (tC (.int 1)) (tCons (tC (.int 1152921504606846976)) tNil)))) (tOp rIsU (tVar 1) (tC .non)))))
def r_are_moments (K : PySem.W.Frag) (S_is_listed : Sp) (S_is_within : Sp) : TS :=
  (tSeq (tIfS (tOr (tNot (tB (tCall S_is_listed [] E0 (tCons (tVar 0) tNil)))) (tOr (tTest (tOp (rI0 fun i j => .bl (decide (j < i))) (tCB (rLenU K) (tCons (tVar 0) tNil)) (tC (.int 200)))) (tNot (tB (tCB (rAll K) (tCons (tLc (iSeq K (tVar 0)) (gName 1) tYes (tCall S_is_within [] E0 (tCons (tVar 1) (tCons (tC (.int 0)) (tCons (tC (.int 1099511627775)) tNil)))) [1]) tNil)))))) (tRet (tC (.bl false))) tNext) (tRet (tCB (rAll K) (tCons (tLc (iZip K (tCons (tVar 0) (tCons (tSl (rSlU K) (tVar 0) (tPart (tC (.int 1))) tNoPart) tNil))) (gTup K 2 (gCons (gName 1) (gCons (gName 2) gNil))) tYes (tOp (rI0 fun i j => .bl (decide (i < j))) (tVar 1) (tVar 2)) [1, 2]) tNil))))
def r_Question_init (K : PySem.W.Frag) (S_is_numbered : Sp) (S_is_within : Sp) (S_are_moments : Sp) : TS :=
  (tSeq (tIfS (tOr (tNot (tB (tCB (rIsiU K) (tCons (tVar 1) (tCons (tC (.ty "str")) tNil))))) (tTest (tOp (rInU K true) (tVar 1) (tKT K k_ASKED)))) tNever tNext) (tSeq (tIfS (tNot (tB (tCall S_is_numbered [] E0 (tCons (tVar 1) (tCons (tVar 2) tNil))))) tNever tNext) (tSeq (tIfS (tOr (tNot (tB (tCall S_is_within [] E0 (tCons (tVar 3) (tCons (tC (.int 0)) (tCons (tOp (rAddU K) (tC (.int 1099511627775)) (tC (.int 1))) tNil)))))) (tNot (tB (tCall S_is_within [] E0 (tCons (tVar 4) (tCons (tVar 3) (tCons (tOp (rAddU K) (tC (.int 1099511627775)) (tC (.int 1))) tNil))))))) tNever tNext) (tSeq (tIfS (tAnd (tTest (tOp rIsNU (tVar 5) (tC .non))) (tNot (tB (tCall S_are_moments [] E0 (tCons (tVar 5) tNil))))) tNever tNext) (tSeq (sFld K (tVar 0) (tVar 1) "kind") (tSeq (sFld K (tVar 0) (tVar 2) "number") (tSeq (sFld K (tVar 0) (tVar 3) "start") (tSeq (sFld K (tVar 0) (tVar 4) "stop") (sFld K (tVar 0) (tIf (tTest (tOp rIsNU (tVar 5) (tC .non))) (tCB (rTupU K) (tCons (tVar 5) tNil)) (tC .non)) "among")))))))))
def r__law_line_most (K : PySem.W.Frag)  : TS :=
  (tSeq (tIfS (tTest (tOp (rEqU K) (tVar 1) (tC (.int 0)))) (tRet (tIf (tTest (tOp (rI0 fun i j => .bl (decide (i ≤ j))) (tVar 0) (tVar 3))) (tVar 2) (tC (.int 0)))) tNext) (tRet (tCB (rMaxU K) (tCons (tC (.int 0)) (tCons (tCB (rMinU K) (tCons (tVar 2) (tCons (tOp (rAddU K) (tOp rDivU (tOp (rI0 fun i j => .int (i - j)) (tVar 3) (tVar 0)) (tVar 1)) (tC (.int 1))) tNil))) tNil)))))
def r__law_line_right (K : PySem.W.Frag) (S__law_draw : Sp) (C_Piece : Addr) (S_Piece : Sp) (S_answer_of : Sp) (C_Question : Addr) (S_Question : Sp) (V1_Question : List V) (S__law_line_most : Sp) : TS :=
  (tSeq (tAsg (tTup (tCons (tCall S__law_draw [] E0 (tCons (tVar 0) (tCons (tC (.int 30)) tNil))) (tCons (tCall S__law_draw [] E0 (tCons (tVar 0) (tCons (tC (.int 30)) tNil))) (tCons (tOp (rAddU K) (tC (.int 2)) (tCall S__law_draw [] E0 (tCons (tVar 0) (tCons (tOp (rI CPow fun i j => .int (i ^ j.toNat)) (tC (.int 2)) (tC (.int 32))) tNil)))) (tCons (tOp (rAddU K) (tC (.int 2)) (tCall S__law_draw [] E0 (tCons (tVar 0) (tCons (tOp (rI CPow fun i j => .int (i ^ j.toNat)) (tC (.int 2)) (tC (.int 32))) tNil)))) tNil))))) (gTup K 4 (gCons (gName 1) (gCons (gName 2) (gCons (gName 3) (gCons (gName 4) gNil)))))) (tSeq (tPar 5 6 (tCons (tOp (rI0 fun i j => .int (i - j)) (tCall S__law_draw [] E0 (tCons (tVar 0) (tCons (tC (.int 1000)) tNil))) (tC (.int 500))) (tCons (tCall S__law_draw [] E0 (tCons (tVar 0) (tCons (tOp (rI CPow fun i j => .int (i ^ j.toNat)) (tC (.int 10)) (tC (.int 9))) tNil))) tNil))) (tSeq (tAsg (tLst (tCons (tMake C_Piece S_Piece [] E0 (tCons (tC (.int 0)) (tCons (tC (.int 1)) (tCons (tVar 3) (tCons (tC (.str "order")) (tCons (tIf (tTest (tOp (rI0 fun i j => .bl (decide (j < i))) (tVar 1) (tC (.int 0)))) (tLst (tCons (tVar 5) (tCons (tVar 1) tNil))) (tLst (tCons (tVar 5) tNil))) tNil)))))) (tCons (tMake C_Piece S_Piece [] E0 (tCons (tVar 3) (tCons (tC (.int 2)) (tCons (tVar 4) (tCons (tC (.str "order")) (tCons (tIf (tTest (tOp (rI0 fun i j => .bl (decide (j < i))) (tVar 2) (tC (.int 0)))) (tLst (tCons (tVar 6) (tCons (tVar 2) tNil))) (tLst (tCons (tVar 6) tNil))) tNil)))))) tNil))) (gName 7)) (tSeq (tPar 8 9 (tCons (tCall S__law_draw [] E0 (tCons (tVar 0) (tCons (tVar 3) tNil))) (tCons (tOp (rAddU K) (tVar 3) (tCall S__law_draw [] E0 (tCons (tVar 0) (tCons (tOp rMulU (tC (.int 2)) (tVar 4)) tNil)))) tNil))) (tSeq (tAsg (tOp rDivU (tOp (rAddU K) (tOp (rI0 fun i j => .int (i - j)) (tVar 9) (tVar 3)) (tC (.int 1))) (tC (.int 2))) (gName 10)) (tSeq (tPar 11 12 (tCons (tOp (rAddU K) (tVar 5) (tOp rMulU (tVar 1) (tVar 8))) (tCons (tOp (rI0 fun i j => .int (i - j)) (tVar 3) (tVar 8)) tNil))) (tSeq (tAsg (tOp (rAddU K) (tOp rDivU (tOp rMulU (tVar 12) (tOp (rAddU K) (tOp rMulU (tC (.int 2)) (tVar 11)) (tOp rMulU (tVar 1) (tOp (rI0 fun i j => .int (i - j)) (tVar 12) (tC (.int 1)))))) (tC (.int 2))) (tOp rDivU (tOp rMulU (tVar 10) (tOp (rAddU K) (tOp rMulU (tC (.int 2)) (tVar 6)) (tOp rMulU (tVar 2) (tOp (rI0 fun i j => .int (i - j)) (tVar 10) (tC (.int 1)))))) (tC (.int 2)))) (gName 13)) (tSeq (tIfS (tOr (tTest (tOp (rNeU K) (tCall S_answer_of [] E0 (tCons (tVar 7) (tCons (tMake C_Question S_Question V1_Question E0 (tCons (tC (.str "count")) (tCons (tC .non) (tCons (tVar 8) (tCons (tVar 9) tNil))))) tNil))) (tOp (rAddU K) (tVar 12) (tVar 10)))) (tTest (tOp (rNeU K) (tCall S_answer_of [] E0 (tCons (tVar 7) (tCons (tMake C_Question S_Question V1_Question E0 (tCons (tC (.str "sum")) (tCons (tC .non) (tCons (tVar 8) (tCons (tVar 9) tNil))))) tNil))) (tVar 13)))) (tRet (tC (.bl false))) tNext) (tSeq (tAsg (tOp (rAddU K) (tLst (tCons (tOp (rAddU K) (tVar 5) (tOp rMulU (tVar 1) (tOp (rI0 fun i j => .int (i - j)) (tVar 3) (tC (.int 1))))) tNil)) (tOp rMulU (tLst (tCons (tOp (rAddU K) (tVar 6) (tOp rMulU (tVar 2) (tOp (rI0 fun i j => .int (i - j)) (tVar 10) (tC (.int 1))))) tNil)) (tCB rIntU (tCons (tOp (rI0 fun i j => .bl (decide (j < i))) (tVar 10) (tC (.int 0))) tNil)))) (gName 14)) (tSeq (tAsg (tOp (rAddU K) (tLst (tCons (tVar 11) tNil)) (tOp rMulU (tLst (tCons (tVar 6) tNil)) (tCB rIntU (tCons (tOp (rI0 fun i j => .bl (decide (j < i))) (tVar 10) (tC (.int 0))) tNil)))) (gName 15)) (tSeq (tIfS (tTest (tOp (rNeU K) (tLst (tCons (tCall S_answer_of [] E0 (tCons (tVar 7) (tCons (tMake C_Question S_Question V1_Question E0 (tCons (tC (.str "least")) (tCons (tC .non) (tCons (tVar 8) (tCons (tVar 9) tNil))))) tNil))) (tCons (tCall S_answer_of [] E0 (tCons (tVar 7) (tCons (tMake C_Question S_Question V1_Question E0 (tCons (tC (.str "greatest")) (tCons (tC .non) (tCons (tVar 8) (tCons (tVar 9) tNil))))) tNil))) tNil))) (tLst (tCons (tCB (rMinU K) (tCons (tVar 15) tNil)) (tCons (tCB (rMaxU K) (tCons (tVar 14) tNil)) tNil))))) (tRet (tC (.bl false))) tNext) (tSeq (tAsg (tOp (rI0 fun i j => .int (i - j)) (tCall S__law_draw [] E0 (tCons (tVar 0) (tCons (tOp (rAddU K) (tCB (rMaxU K) (tCons (tVar 14) tNil)) (tC (.int 1000))) tNil))) (tC (.int 600))) (gName 16)) (tSeq (tAsg (tOp (rAddU K) (tCall S__law_line_most [] E0 (tCons (tVar 11) (tCons (tVar 1) (tCons (tVar 12) (tCons (tVar 16) tNil))))) (tCall S__law_line_most [] E0 (tCons (tVar 6) (tCons (tVar 2) (tCons (tVar 10) (tCons (tVar 16) tNil)))))) (gName 17)) (tSeq (tIfS (tTest (tOp (rNeU K) (tCall S_answer_of [] E0 (tCons (tVar 7) (tCons (tMake C_Question S_Question V1_Question E0 (tCons (tC (.str "most")) (tCons (tVar 16) (tCons (tVar 8) (tCons (tVar 9) tNil))))) tNil))) (tVar 17))) (tRet (tC (.bl false))) tNext) (tSeq (tAsg (tOp (rAddU K) (tC (.int 1)) (tCall S__law_draw [] E0 (tCons (tVar 0) (tCons (tOp (rAddU K) (tVar 12) (tVar 10)) tNil)))) (gName 18)) (tSeq (tAsg (tCall S_answer_of [] E0 (tCons (tVar 7) (tCons (tMake C_Question S_Question V1_Question E0 (tCons (tC (.str "rank")) (tCons (tVar 18) (tCons (tVar 8) (tCons (tVar 9) tNil))))) tNil))) (gName 19)) (tSeq (tAsg (tOp (rAddU K) (tCall S__law_line_most [] E0 (tCons (tVar 11) (tCons (tVar 1) (tCons (tVar 12) (tCons (tVar 19) tNil))))) (tCall S__law_line_most [] E0 (tCons (tVar 6) (tCons (tVar 2) (tCons (tVar 10) (tCons (tVar 19) tNil)))))) (gName 20)) (tSeq (tAsg (tOp (rAddU K) (tCall S__law_line_most [] E0 (tCons (tVar 11) (tCons (tVar 1) (tCons (tVar 12) (tCons (tOp (rI0 fun i j => .int (i - j)) (tVar 19) (tC (.int 1))) tNil))))) (tCall S__law_line_most [] E0 (tCons (tVar 6) (tCons (tVar 2) (tCons (tVar 10) (tCons (tOp (rI0 fun i j => .int (i - j)) (tVar 19) (tC (.int 1))) tNil)))))) (gName 21)) (tRet (tAndV (tChain (rI0 fun i j => .bl (decide (i < j))) (rI0 fun i j => .bl (decide (i ≤ j))) (tVar 21) (tVar 18) (tVar 20)) (tOp rIsU (tCall S_answer_of [] E0 (tCons (tVar 7) (tCons (tMake C_Question S_Question V1_Question E0 (tCons (tC (.str "rank")) (tCons (tOp (rAddU K) (tOp (rAddU K) (tVar 12) (tVar 10)) (tC (.int 1))) (tCons (tVar 8) (tCons (tVar 9) tNil))))) tNil))) (tC .non))))))))))))))))))))))
def r__law_parts_right (K : PySem.W.Frag) (S__law_draw : Sp) (C_Piece : Addr) (S_Piece : Sp) (S_answer_of : Sp) (C_Question : Addr) (S_Question : Sp) (V1_Question : List V) : TS :=
  (tSeq (tAsg (tLc (iRng1 (tCons (tOp (rAddU K) (tC (.int 1)) (tCall S__law_draw [] E0 (tCons (tVar 0) (tCons (tC (.int 8)) tNil)))) tNil)) (gName 13) tYes (tOp (rI0 fun i j => .int (i - j)) (tCall S__law_draw [] E0 (tCons (tVar 0) (tCons (tC (.int 99)) tNil))) (tC (.int 49))) [13]) (gName 1)) (tSeq (tAsg (tLst (tCons (tMake C_Piece S_Piece [] E0 (tCons (tC (.int 5)) (tCons (tC (.int 3)) (tCons (tOp (rI CPow fun i j => .int (i ^ j.toNat)) (tC (.int 2)) (tC (.int 30))) (tCons (tC (.str "period")) (tCons (tVar 1) tNil)))))) (tCons (tMake C_Piece S_Piece [] E0 (tCons (tOp (rI CPow fun i j => .int (i ^ j.toNat)) (tC (.int 2)) (tC (.int 35))) (tCons (tC (.int 7)) (tCons (tOp (rI CPow fun i j => .int (i ^ j.toNat)) (tC (.int 10)) (tC (.int 6))) (tCons (tC (.str "order")) (tCons (tLst (tCons (tCall S__law_draw [] E0 (tCons (tVar 0) (tCons (tC (.int 99)) tNil))) (tCons (tOp (rAddU K) (tC (.int 1)) (tCall S__law_draw [] E0 (tCons (tVar 0) (tCons (tC (.int 99)) tNil)))) (tCons (tC (.int 1)) tNil)))) tNil)))))) tNil))) (gName 2)) (tSeq (tAsg (tOp (rAddU K) (tOp (rAddU K) (tLst (tCons (tC (.int 0)) tNil)) (tCB (rSortedI K) (tCons (tLc (iRng1 (tCons (tC (.int 3)) tNil)) (gName 13) tYes (tCall S__law_draw [] E0 (tCons (tVar 0) (tCons (tOp (rI CPow fun i j => .int (i ^ j.toNat)) (tC (.int 2)) (tC (.int 36))) tNil))) [13]) tNil))) (tLst (tCons (tOp (rI CPow fun i j => .int (i ^ j.toNat)) (tC (.int 2)) (tC (.int 40))) tNil))) (gName 3)) (tSeq (tAsg (tListZip K (tCons (tVar 3) (tCons (tSl (rSlU K) (tVar 3) (tPart (tC (.int 1))) tNoPart) tNil))) (gName 4)) (tSeq (tFor (iSeq K (tLst (tCons (tTup (tCons (tC (.str "count")) (tCons (tC .non) tNil))) (tCons (tTup (tCons (tC (.str "sum")) (tCons (tC .non) tNil))) (tCons (tTup (tCons (tC (.str "most")) (tCons (tCall S__law_draw [] E0 (tCons (tVar 0) (tCons (tOp (rI CPow fun i j => .int (i ^ j.toNat)) (tC (.int 10)) (tC (.int 9))) tNil))) tNil))) tNil))))) (gTup K 2 (gCons (gName 5) (gCons (gName 6) gNil))) (tSeq (tAsg (tLc (iSeq K (tVar 4)) (gTup K 2 (gCons (gName 14) (gCons (gName 15) gNil))) tYes (tCall S_answer_of [] E0 (tCons (tVar 2) (tCons (tMake C_Question S_Question V1_Question E0 (tCons (tVar 5) (tCons (tVar 6) (tCons (tVar 14) (tCons (tVar 15) tNil))))) tNil))) [14, 15]) (gName 7)) (tIfS (tTest (tOp (rNeU K) (tCB (rSumU K) (tCons (tVar 7) tNil)) (tCall S_answer_of [] E0 (tCons (tVar 2) (tCons (tMake C_Question S_Question V1_Question E0 (tCons (tVar 5) (tCons (tVar 6) (tCons (tC (.int 0)) (tCons (tOp (rI CPow fun i j => .int (i ^ j.toNat)) (tC (.int 2)) (tC (.int 40))) tNil))))) tNil))))) (tRet (tC (.bl false))) tNext))) (tSeq (tAsg (tLc (iSeq K (tVar 4)) (gTup K 2 (gCons (gName 14) (gCons (gName 15) gNil))) tYes (tCall S_answer_of [] E0 (tCons (tVar 2) (tCons (tMake C_Question S_Question V1_Question E0 (tCons (tC (.str "least")) (tCons (tC .non) (tCons (tVar 14) (tCons (tVar 15) tNil))))) tNil))) [14, 15]) (gName 8)) (tSeq (tAsg (tLc (iSeq K (tVar 4)) (gTup K 2 (gCons (gName 14) (gCons (gName 15) gNil))) tYes (tCall S_answer_of [] E0 (tCons (tVar 2) (tCons (tMake C_Question S_Question V1_Question E0 (tCons (tC (.str "greatest")) (tCons (tC .non) (tCons (tVar 14) (tCons (tVar 15) tNil))))) tNil))) [14, 15]) (gName 9)) (tSeq (tPar 8 9 (tCons (tLc (iSeq K (tVar 8)) (gName 16) (tTest (tOp rIsNU (tVar 16) (tC .non))) (tVar 16) [16]) (tCons (tLc (iSeq K (tVar 9)) (gName 16) (tTest (tOp rIsNU (tVar 16) (tC .non))) (tVar 16) [16]) tNil))) (tSeq (tAsg (tLst (tCons (tCall S_answer_of [] E0 (tCons (tVar 2) (tCons (tMake C_Question S_Question V1_Question E0 (tCons (tC (.str "least")) (tCons (tC .non) (tCons (tC (.int 0)) (tCons (tOp (rI CPow fun i j => .int (i ^ j.toNat)) (tC (.int 2)) (tC (.int 40))) tNil))))) tNil))) (tCons (tCall S_answer_of [] E0 (tCons (tVar 2) (tCons (tMake C_Question S_Question V1_Question E0 (tCons (tC (.str "greatest")) (tCons (tC .non) (tCons (tC (.int 0)) (tCons (tOp (rI CPow fun i j => .int (i ^ j.toNat)) (tC (.int 2)) (tC (.int 40))) tNil))))) tNil))) tNil))) (gName 10)) (tSeq (tIfS (tOr (tTest (tOp (rNeU K) (tLst (tCons (tCB (rMinU K) (tCons (tVar 8) tNil)) (tCons (tCB (rMaxU K) (tCons (tVar 9) tNil)) tNil))) (tVar 10))) (tTest (tOp (rI0 fun i j => .bl (decide (i < j))) (tOp (rIx K) (tVar 10) (tC (.int 1))) (tCB (rMaxU K) (tCons (tVar 1) tNil))))) (tRet (tC (.bl false))) tNext) (tSeq (tAsg (tSortSet K (tLc (iRng1 (tCons (tC (.int 30)) tNil)) (gName 13) tYes (tOp (rAddU K) (tOp (rAddU K) (tC (.int 5)) (tOp rMulU (tC (.int 3)) (tCall S__law_draw [] E0 (tCons (tVar 0) (tCons (tOp (rI CPow fun i j => .int (i ^ j.toNat)) (tC (.int 2)) (tC (.int 30))) tNil))))) (tCall S__law_draw [] E0 (tCons (tVar 0) (tCons (tC (.int 2)) tNil)))) [13])) (gName 11)) (tSeq (tAsg (tCB (rSumU K) (tCons (tLc (iSeq K (tVar 11)) (gName 17) (tTest (tOp (rEqU K) (tOp rModU (tCB rIntU (tCons (tOp (rI0 fun i j => .int (i - j)) (tVar 17) (tC (.int 5))) tNil)) (tC (.int 3))) (tC (.int 0)))) (tOp (rIx K) (tVar 1) (tOp rModU (tOp rDivU (tCB rIntU (tCons (tOp (rI0 fun i j => .int (i - j)) (tVar 17) (tC (.int 5))) tNil)) (tC (.int 3))) (tCB (rLenU K) (tCons (tVar 1) tNil)))) [17]) tNil)) (gName 12)) (tRet (tOp (rEqU K) (tCall S_answer_of [] E0 (tCons (tVar 2) (tCons (tMake C_Question S_Question [] E0 (tCons (tC (.str "sum")) (tCons (tC .non) (tCons (tC (.int 0)) (tCons (tOp (rI CPow fun i j => .int (i ^ j.toNat)) (tC (.int 2)) (tC (.int 40))) (tCons (tVar 11) tNil)))))) tNil))) (tVar 12)))))))))))))))
def r_law (K : PySem.W.Frag) (S__law_pen : Sp) (S__law_line_right : Sp) (S__law_parts_right : Sp) : TS :=
  (tSeq (tAsg (tCall S__law_pen [] E0 (tCons (tVar 0) tNil)) (gName 1)) (tSeq (tFor (iRng1 (tCons (tC (.int 4)) tNil)) (gName 2) (tIfS (tOr (tNot (tB (tCall S__law_line_right [] E0 (tCons (tVar 1) tNil)))) (tNot (tB (tCall S__law_parts_right [] E0 (tCons (tVar 1) tNil))))) (tRet (tC (.bl false))) tNext)) (tRet (tC (.bl true)))))
end K43
set_option Elab.async false
set_option maxRecDepth 100000
set_option maxHeartbeats 4000000
set_option linter.all false
set_option autoImplicit false
set_option hygiene false
local macro_rules | `(tactic| walk_at "way by rule") => `(tactic| first | (guard_target =~ WpE _ _ _ _ _ _; first | (guard_target =~ WpE _ _ (tOp _ _ _) _ _ _; first | ((with_reducible refine e_pen2X ?_); refine ⟨_, rfl, rfl, fun _ _ => ?_⟩) | ((with_reducible refine e_pen1X ?_); refine ⟨_, rfl, rfl, fun _ _ _ => ?_⟩) | ((with_reducible refine e_pen0X ?_); refine ⟨_, rfl, rfl, fun _ _ => ?_⟩) | with_reducible refine e_op ?_) | ((with_reducible refine e_varX ?_); refine ⟨_, rfl, rfl, ?_⟩) | ((with_reducible refine e_slLV ?_); refine ⟨_, rfl, ?_⟩) | ((with_reducible refine e_slTV ?_); refine ⟨_, rfl, ?_⟩) | (guard_target =~ WpE _ _ (tC _) _ _ _; first | with_reducible refine e_int ?_ | with_reducible refine e_str ?_ | with_reducible refine e_bl ?_ | with_reducible refine e_non ?_ | with_reducible refine e_raw ?_) | with_reducible refine e_kt ?_ | with_reducible refine e_un ?_ | with_reducible refine e_cb ?_ | with_reducible refine e_if ?_ | with_reducible refine e_andV ?_ | with_reducible refine e_orV ?_ | with_reducible refine e_notV ?_ | with_reducible refine e_chain ?_ | with_reducible refine e_chain3 ?_ | with_reducible refine e_call ?_ | with_reducible refine e_fld ?_ | with_reducible refine e_tup ?_ | with_reducible refine e_lst ?_ | ((with_reducible refine e_isi2X ?_))) | (guard_target =~ RD _ _ _ _ _ _ _; first | (guard_target =~ RD _ _ (rIx _) _ _ _ _; first | with_reducible refine rd_ixIntsX ⟨⟨?_, ?_⟩, fun _ _ _ => ?_⟩ | ((with_reducible refine rd_ixLX ?_); refine ⟨_, rfl, ?_⟩) | ((with_reducible refine rd_ixTX ?_); refine ⟨_, rfl, ?_⟩) | with_reducible refine rd_ixP0 ?_ | with_reducible refine rd_ixP1 ?_) | (guard_target =~ RD _ _ (rAddU _) _ _ _ _; first | with_reducible refine rd_addI ?_ | with_reducible refine rd_addLX ?_ | with_reducible refine rd_addTX ?_ | with_reducible refine rd_addSX ?_) | (guard_target =~ RD _ _ (rI0 _) _ _ _ _; first | with_reducible refine rd_sub ?_ | with_reducible refine rd_lt ?_ | with_reducible refine rd_le ?_ | with_reducible refine rd_gt ?_ | with_reducible refine rd_ge ?_) | (guard_target =~ RD _ _ (rEqU _) _ _ _ _; first | with_reducible refine rd_eqI ?_ | with_reducible refine rd_eqS ?_ | with_reducible refine rd_eqE ?_) | (guard_target =~ RD _ _ (rNeU _) _ _ _ _; first | with_reducible refine rd_neI ?_ | with_reducible refine rd_neS ?_ | with_reducible refine rd_neNilX ?_ | with_reducible refine rd_neE ?_) | with_reducible refine rd_modX ?_ | with_reducible refine rd_divX ?_ | with_reducible refine rd_mulX ?_ | with_reducible refine rd_powX ?_ | (guard_target =~ RD _ _ rIsU _ _ _ _; first | with_reducible refine rd_isI ?_ | with_reducible refine rd_isL ?_ | with_reducible refine rd_isT ?_ | with_reducible refine rd_isS ?_ | with_reducible refine rd_isNn ?_ | with_reducible refine rd_is rfl ?_) | (guard_target =~ RD _ _ rIsNU _ _ _ _; first | with_reducible refine rd_isNI ?_ | with_reducible refine rd_isNL ?_ | with_reducible refine rd_isNT ?_ | with_reducible refine rd_isNS ?_ | with_reducible refine rd_isNNn ?_ | with_reducible refine rd_isN rfl ?_) | (guard_target =~ RD _ _ (rInU _ _) _ _ _ _; first | with_reducible refine rd_inPts ?_ | with_reducible refine rd_ninPts ?_ | with_reducible refine rd_inIntsX ?_)) | (guard_target =~ WpS _ _ _ _ _ _; first | ((with_reducible refine s_cellX ?_); refine ⟨_, rfl, rfl, _, rfl, fun _ => ?_, ?_⟩) | with_reducible refine s_if ?_ | (guard_target =~ WpS _ _ (tAsg _ _) _ _ _; first | ((with_reducible refine s_pen2X ?_); refine ⟨_, rfl, rfl, ?_⟩) | ((with_reducible refine s_pen1X ?_); refine ⟨_, rfl, rfl, ?_⟩) | with_reducible refine s_set ?_ | with_reducible refine s_asg ?_) | ((with_reducible refine s_appX ?_); refine ⟨_, rfl, ?_⟩) | with_reducible refine s_drop ?_ | with_reducible refine s_seq ?_ | with_reducible refine s_ret ?_ | with_reducible refine s_par ?_ | with_reducible refine s_par3 ?_ | with_reducible refine s_next ?_ | with_reducible refine s_retN ?_) | (guard_target =~ WpT _ _ _ _ _ _; first | with_reducible refine t_test ?_ | with_reducible refine t_B ?_ | with_reducible refine t_and ?_ | with_reducible refine t_or ?_ | with_reducible refine t_not ?_ | with_reducible refine t_yes ?_) | (guard_target =~ WpA _ _ _ _ _ _; first | with_reducible refine a_cons ?_ | with_reducible refine a_nil ?_) | (guard_target =~ RC _ _ _ _ _ _; first | with_reducible refine rc_int ?_ | with_reducible refine rc_intB ?_ | with_reducible refine rc_abs ?_ | with_reducible refine rc_max2 ?_ | with_reducible refine rc_min2 ?_ | (guard_target =~ RC _ _ (rLenU _) _ _ _; first | with_reducible refine rc_lenL ?_ | with_reducible refine rc_lenT ?_ | with_reducible refine rc_lenP ?_) | with_reducible refine rc_listL ?_ | with_reducible refine rc_tupL ?_ | with_reducible refine rc_tupT ?_ | with_reducible refine rc_allF ?_ | with_reducible refine rc_allX ?_ | with_reducible refine rc_sum ?_ | with_reducible refine rc_sumT ?_ | with_reducible refine rc_anyX ?_ | ((with_reducible refine rc_isiBX ?_); refine ⟨_, rfl, _, rfl, ?_⟩)) | with_reducible refine ru_neg ?_ | (guard_target =~ WpI _ _ _ _ _ _; first | ((with_reducible refine i_listV ?_); refine ⟨_, rfl, ?_⟩) | ((with_reducible refine i_tupV ?_); refine ⟨_, rfl, ?_⟩) | with_reducible refine i_rng1 ?_ | with_reducible refine i_rng2 ?_ | with_reducible refine i_zip ?_) | (guard_target =~ WpO _ _ _ _ _ _; first | with_reducible refine o_none ?_ | with_reducible refine o_some ?_) | (guard_target =~ WpN _ _ _ _ _ _ _; first | with_reducible refine n_seq ?_ | with_reducible refine n_if ?_ | with_reducible refine n_next ?_))
local macro_rules | `(tactic| walk_at "way by form") => `(tactic| first | refine ⟨_, _, g_tup (gs_cons g_name (gs_cons g_name gs_nil)) rfl, ?_⟩ | refine ⟨_, _, g_tup (gs_cons g_name (gs_cons g_name (gs_cons g_name gs_nil))) rfl, ?_⟩ | refine ⟨_, _, g_tup (gs_cons g_name (gs_cons g_name (gs_cons g_name (gs_cons g_name gs_nil)))) rfl, ?_⟩ | refine ⟨_, _, g_tup (gs_cons g_name (gs_cons g_name (gs_cons g_name (gs_cons g_name (gs_cons g_name gs_nil))))) rfl, ?_⟩ | with_reducible refine ⟨_, _, _, rfl, rfl, rfl, rfl, ?_⟩ | with_reducible refine Or.inl ⟨_, rfl, ?_⟩ | with_reducible refine Or.inr ⟨_, rfl, ?_⟩ | with_reducible refine Or.inr (Or.inl ⟨_, rfl, ?_⟩) | with_reducible refine Or.inr (Or.inr ⟨_, rfl, ?_⟩) | with_reducible refine ⟨_, rfl, ?_⟩ | with_reducible refine ⟨rfl, ?_⟩ | with_reducible refine ⟨_, _, rfl, ?_⟩ | with_reducible refine ⟨_, _, _, rfl, ?_⟩ | with_reducible refine ⟨_, _, rfl, rfl, ?_⟩ | with_reducible refine ⟨fun _ => ?_, fun _ => ?_⟩ | with_reducible refine fun (_ : _ = true) => ?_ | with_reducible exact rfl | with_reducible refine And.intro ((by simp <;> fail : List.length _ ≤ 100000)) ?_ | with_reducible refine And.intro ((by simp only [List.length_map, List.length_append, List.length_cons, List.length_nil]; omega : List.length _ + List.length _ ≤ 100000)) ?_ | with_reducible refine And.intro (by omega) ?_ | with_reducible refine And.intro (by simp only [List.length_map]; omega) ?_ | with_reducible refine And.intro ((by first | omega | decide : (0 : Int) ≤ _ ∧ _ ≤ 1000000 ∧ Int.natAbs _ < 2 ^ 64)) ?_)
/-! pieces: the pen, the checks, the inits -/
namespace K43
variable [DW.Tb]
open PySem PySem.Spec PyProof.Rows L2 DW
section
variable {K : PySem.W.Frag} {w : Option Addr} {n : Nat} {k : Kn} {es : List D}
theorem draw_bound {y a : Int} (h1 : 0 ≤ y) (h2 : y < 2147483629) (h3 : 0 ≤ a) (h4 : a < 2 ^ 20) : (y * (2 * a + 2111) + 65003 * a * a + 157).natAbs < 2 ^ 64 := by
  have e1 : y * (2 * a + 2111) ≤ 2147483629 * (2 * 2 ^ 20 + 2111) := Int.mul_le_mul (by omega) (by omega) (by omega) (by omega)
  have e2 : 0 ≤ y * (2 * a + 2111) := Int.mul_nonneg h1 (by omega)
  have e3 : 65003 * a * a ≤ (65003 * 2 ^ 20) * 2 ^ 20 := Int.mul_le_mul (by omega) (by omega) h3 (by omega)
  have e4 : 0 ≤ 65003 * a * a := Int.mul_nonneg (by omega) h3
  omega
theorem great_nn {c : Int} {b : Bool} (h : decide ((10 : Int) ^ Int.toNat 18 ≤ (c.natAbs : Int)) = true) : 0 ≤ 2 * ((c.natAbs : Int) - (10 : Int) ^ Int.toNat 18) + (if b = true then (1 : Int) else 0) := by
  have h := of_decide_eq_true h
  split <;> omega
theorem w__law_draw (h : drawSp w es n k) : WpS K w (r__law_draw K) (dstart ["pen", "many", "digit", "at", "cell", "great", "mixed"] es) n { nx := fun _ n' => kup k .non n', rt := kup k } := by
  obtain ⟨p, many, rfl, rfl, h0, h1, hn, hk⟩ := h
  unfold r__law_draw
  repeat' (first
    | exact absurd ‹false = true› (by decide)
    | exact absurd ‹true = false› (by decide)
    | walk_at "way by rule"
    | with_reducible refine And.intro (Int.ediv_nonneg (by omega) (by omega)) ?_
    | with_reducible refine ⟨Int.ediv_nonneg (great_nn (by assumption)) (by omega), ?_⟩
    | with_reducible refine ⟨⟨by decide, by decide, draw_bound (Int.emod_nonneg _ (by decide)) (Int.emod_lt_of_pos _ (by decide)) (by omega) (by omega)⟩, ?_⟩
    | walk_at "way by form"
    | fail)
  all_goals try exact ⟨n + 1, by omega, hk _ (Int.emod_nonneg _ (by omega)) (Int.emod_lt_of_pos _ h0)⟩
abbrev pickSp : DSpW := fun w es n k => ∃ (p : Addr) (l : List D), w = some p ∧ es = [.raw (.ref p), .lst l] ∧ 0 < l.length ∧ l.length < 2 ^ 20 ∧ n < 2 ^ 20 ∧ ∀ d, d ∈ l → k d (n + 1)
/-! ### checks -/
abbrev listedSp : DSpW := fun w es n k => (∃ l, es = [.lst l] ∧ k (.bl true) n) ∨ (∃ l, es = [.tup l] ∧ k (.bl true) n)
abbrev integerSp : DSpW := fun w es n k => ∃ i, es = [.int i] ∧ k (.bl true) n
abbrev withinSp : DSpW := fun w es n k => ∃ i a b, es = [.int i, .int a, .int b] ∧ k (.bl (decide (a ≤ i) && decide (i ≤ b))) n
theorem w_is_listed (h : listedSp w es n k) : WpS K w (r_is_listed K) (dstart ["value"] es) n { nx := fun _ n' => kup k .non n', rt := kup k } := by
  rcases h with ⟨l, rfl, hk⟩ | ⟨l, rfl, hk⟩ <;> unfold r_is_listed <;> (
  repeat' (first
    | exact absurd ‹false = true› (by decide)
    | exact absurd ‹true = false› (by decide)
    | walk_at "way by rule"
    | walk_at "way by form"
    | fail)) <;> exact kup_of hk
theorem w_is_integer (h : integerSp w es n k) : WpS K w (r_is_integer K) (dstart ["value"] es) n { nx := fun _ n' => kup k .non n', rt := kup k } := by
  obtain ⟨i, rfl, hk⟩ := h
  unfold r_is_integer
  repeat' (first
    | exact absurd ‹false = true› (by decide)
    | exact absurd ‹true = false› (by decide)
    | walk_at "way by rule"
    | walk_at "way by form"
    | fail)
  all_goals exact kup_of hk
theorem w_is_within (h : withinSp w es n k) : WpS K w (r_is_within K (toSp K integerSp)) (dstart ["value", "least", "most"] es) n { nx := fun _ n' => kup k .non n', rt := kup k } := by
  obtain ⟨i, a, b, rfl, hk⟩ := h
  unfold r_is_within
  repeat' (first
    | exact absurd ‹false = true› (by decide)
    | exact absurd ‹true = false› (by decide)
    | walk_at "way by rule"
    | walk_at "way by form"
    | fail)
  all_goals (refine kup_of ?_; simp_all)
/-! ### fixed: numbers and words, lists of numbers, a piece's parts -/
def kindW (per : Bool) : Str := if per = true then "period" else "order"
/-- a piece's parts as they are handed over, as they are kept -/
def pcIn (m s c : Int) (per : Bool) (ns : D) : List D := [.int m, .int s, .int c, .str (kindW per), ns]
def pcD (m s c : Int) (per : Bool) (ns : List Int) : List D := [.int m, .int s, .int c, .str (kindW per), .tup (ns.map .int)]
abbrev fixed0Sp : DSpW := fun w es n k => (∃ i, es = [.int i] ∧ k (.int i) n) ∨ (∃ x, es = [.str x] ∧ k (.str x) n)
abbrev fixed1Sp : DSpW := fun w es n k => fixed0Sp w es n k ∨ (∃ ns : List Int, (es = [.lst (ns.map .int)] ∨ es = [.tup (ns.map .int)]) ∧ ns.length ≤ 100000 ∧ k (.tup (ns.map .int)) n)
abbrev fixedSp : DSpW := fun w es n k => ∃ (m s c : Int) (per : Bool) (nd : D) (ns : List Int), es = [.tup (pcIn m s c per nd)] ∧ (nd = .lst (ns.map .int) ∨ nd = .tup (ns.map .int)) ∧ ns.length ≤ 100000 ∧ k (.tup (pcD m s c per ns)) n
theorem w_fixed0 {sp : DSpW} (h : fixed0Sp w es n k) : WpS K w (r_fixed K (toSp K sp)) (dstart ["value", "part"] es) n { nx := fun _ n' => kup k .non n', rt := kup k } := by
  rcases h with ⟨i, rfl, hk⟩ | ⟨x, rfl, hk⟩ <;> unfold r_fixed <;> (
  repeat' (first
    | exact absurd ‹false = true› (by decide)
    | exact absurd ‹true = false› (by decide)
    | walk_at "way by rule"
    | walk_at "way by form"
    | fail)) <;> exact kup_of hk
theorem w_fixed1 (h : fixed1Sp w es n k) : WpS K w (r_fixed K (toSp K fixed0Sp)) (dstart ["value", "part"] es) n { nx := fun _ n' => kup k .non n', rt := kup k } := by
  rcases h with h | ⟨ns, h, hz, hk⟩
  · exact w_fixed0 h
  have e : ((ns.filter fun _ => true).map fun z => D.int z) = ns.map .int := by rw [List.filter_eq_self.mpr (fun _ _ => rfl)]
  rcases h with rfl | rfl <;> unfold r_fixed
  · repeat' (first
    | exact absurd ‹false = true› (by decide)
    | exact absurd ‹true = false› (by decide)
    | with_reducible refine e_lcIX ⟨fun _ => true, fun z => .int z, ?_⟩
    | walk_at "way by rule"
    | with_reducible refine ⟨hz, fun _ _ => ?_, ?_⟩
    | exact .inl ⟨_, rfl, rfl, rfl⟩
    | walk_at "way by form"
    | fail)
    all_goals (rw [e]; exact kup_of hk)
  · repeat' (first
    | exact absurd ‹false = true› (by decide)
    | exact absurd ‹true = false› (by decide)
    | with_reducible refine e_lcIX ⟨fun _ => true, fun z => .int z, ?_⟩
    | walk_at "way by rule"
    | with_reducible refine ⟨hz, fun _ _ => ?_, ?_⟩
    | exact .inl ⟨_, rfl, rfl, rfl⟩
    | walk_at "way by form"
    | fail)
    all_goals (rw [e]; exact kup_of hk)
end
end K43
set_option Elab.async false
set_option maxRecDepth 100000
set_option maxHeartbeats 4000000
set_option linter.all false
set_option autoImplicit false
/-! pieces: made -/
namespace K43
variable [DW.Tb]
open PySem PySem.Spec PyProof.Rows L2 DW
def IsNs (nd : D) (ns : List Int) : Prop := nd = .lst (ns.map .int) ∨ nd = .tup (ns.map .int)
theorem IsNs.own {nd : D} {ns : List Int} (h : IsNs nd ns) : isOwn nd = false := by rcases h with rfl | rfl <;> rfl
section
variable {K : PySem.W.Frag} {w : Option Addr} {n : Nat} {k : Kn} {es : List D}
theorem w_fixed (h : fixedSp w es n k) : WpS K w (r_fixed K (toSp K fixed1Sp)) (dstart ["value", "part"] es) n { nx := fun _ n' => kup k .non n', rt := kup k } := by
  obtain ⟨m, s, c, per, nd, ns, rfl, hnd, hz, hk⟩ := h
  have ho : isOwn nd = false := IsNs.own hnd
  unfold r_fixed
  repeat' (first
    | exact absurd ‹false = true› (by decide)
    | exact absurd ‹true = false› (by decide)
    | with_reducible refine e_lcGX ⟨fun i : Nat => (pcIn m s c per nd).getD i .non, fun _ => true, fun i => (pcD m s c per ns).getD i .non, fun i => ?_, ?_⟩
    | walk_at "way by rule"
    | walk_at "way by form"
    | fail)
  · match i with
    | 0 => rfl
    | 1 => rfl
    | 2 => rfl
    | 3 => rfl
    | 4 => exact ho
    | i + 5 => rfl
  repeat' (first
    | exact absurd ‹false = true› (by decide)
    | exact absurd ‹true = false› (by decide)
    | walk_at "way by rule"
    | walk_at "way by form"
    | fail)
  refine ⟨[0, 1, 2, 3, 4], rfl, by simp, fun z hz' => ?_, ?_⟩
  · simp only [List.mem_cons, List.not_mem_nil, or_false] at hz'
    rcases hz' with rfl | rfl | rfl | rfl | rfl
    · repeat' (first
    | exact absurd ‹false = true› (by decide)
    | exact absurd ‹true = false› (by decide)
    | walk_at "way by rule"
    | exact .inl (.inl ⟨_, rfl, rfl, rfl⟩)
    | walk_at "way by form"
    | fail)
    · repeat' (first
    | exact absurd ‹false = true› (by decide)
    | exact absurd ‹true = false› (by decide)
    | walk_at "way by rule"
    | exact .inl (.inl ⟨_, rfl, rfl, rfl⟩)
    | walk_at "way by form"
    | fail)
    · repeat' (first
    | exact absurd ‹false = true› (by decide)
    | exact absurd ‹true = false› (by decide)
    | walk_at "way by rule"
    | exact .inl (.inl ⟨_, rfl, rfl, rfl⟩)
    | walk_at "way by form"
    | fail)
    · repeat' (first
    | exact absurd ‹false = true› (by decide)
    | exact absurd ‹true = false› (by decide)
    | walk_at "way by rule"
    | exact .inl (.inr ⟨_, rfl, rfl, rfl⟩)
    | walk_at "way by form"
    | fail)
    · repeat' (first
    | exact absurd ‹false = true› (by decide)
    | exact absurd ‹true = false› (by decide)
    | ((with_reducible refine e_varX ?_); refine ⟨_, rfl, ho, ?_⟩)
    | walk_at "way by rule"
    | walk_at "way by form"
    | fail)
      refine .inr ⟨ns, ?_, hz, rfl, rfl⟩
      rcases hnd with e | e
      · exact .inl (by rw [← e]; rfl)
      · exact .inr (by rw [← e]; rfl)
  · repeat' (first
    | exact absurd ‹false = true› (by decide)
    | exact absurd ‹true = false› (by decide)
    | walk_at "way by rule"
    | walk_at "way by form"
    | fail)
    exact kup_of hk
end
def PN : List Str := ["word", "parts"]
def XN : List Str := ["word", "parts", "moment", "step", "count", "kind", "numbers"]
def pieceD (C : Addr) (m s c : Int) (per : Bool) (ns : List Int) : D := .obj C XN [.str "piece", .tup (pcD m s c per ns), .int m, .int s, .int c, .str (kindW per), .tup (ns.map .int)]
def gP : List D → List Str → List D → Prop := fun es nn l => ∃ m s c per nd ns, es = [.str "piece", .tup (pcIn m s c per nd)] ∧ IsNs nd ns ∧ ns.length ≤ 100000 ∧ nn = PN ∧ l = [.str "piece", .tup (pcD m s c per ns)]
def gX : List D → List Str → List D → Prop := fun es nn l => ∃ m s c per nd ns, es = pcIn m s c per nd ∧ IsNs nd ns ∧ ns.length ≤ 100000 ∧ nn = XN ∧ l = [.str "piece", .tup (pcD m s c per ns), .int m, .int s, .int c, .str (kindW per), .tup (ns.map .int)]
section
variable {K : PySem.W.Frag} {w : Option Addr} {n : Nat} {k : Kn} {es : List D} {C : Addr} {nn : List Str} {l : List D}
theorem w_Paper_init (T : ClT K C PN) (h : gP es nn l) : WpN K C (r_Paper_init K (toSp K fixedSp)) (nstart ["self", "word", "parts"] es) [] [] fun _ ns' l' => ns' = nn ∧ l' = l := by
  obtain ⟨m, s, c, per, nd, ns, rfl, hnd, hz, rfl, rfl⟩ := h
  unfold r_Paper_init
  repeat' (first
    | exact absurd ‹false = true› (by decide)
    | exact absurd ‹true = false› (by decide)
    | with_reducible refine n_put T.cls (T.na _ (by decide +kernel)) ?_
    | walk_at "way by rule"
    | with_reducible refine And.intro (by decide +kernel : _ ∉ _) ?_
    | with_reducible refine And.intro (by decide : List.length _ < 1000) ?_
    | refine ⟨m, s, c, per, nd, ns, rfl, hnd, hz, ?_⟩
    | walk_at "way by form"
    | fail)
  all_goals rfl
theorem w_Piece_init (T : ClT K C XN) (h : gX es nn l) : WpA K none (a_Piece_init K) (none :: (es.map some ++ none :: List.replicate (7 - (es.length + 2)) none)) 0 fun fs _ => ∃ d r ns1 l1, fs = d :: r ∧ r.length ≤ 100000 ∧ gP [d, .tup r] ns1 l1 ∧
    WpN K C (r_Piece_init K) (none :: (es.map some ++ none :: List.replicate (7 - (es.length + 2)) none)) ns1 l1 fun _ ns' l' => ns' = nn ∧ l' = l := by
  obtain ⟨m, s, c, per, nd, ns, rfl, hnd, hz, rfl, rfl⟩ := h
  have ho : isOwn nd = false := IsNs.own hnd
  unfold a_Piece_init
  repeat' (first
    | exact absurd ‹false = true› (by decide)
    | exact absurd ‹true = false› (by decide)
    | ((with_reducible refine e_varX ?_); refine ⟨_, rfl, ho, ?_⟩)
    | walk_at "way by rule"
    | walk_at "way by form"
    | fail)
  refine ⟨_, _, PN, _, rfl, by simp, ⟨m, s, c, per, nd, ns, rfl, hnd, hz, rfl, rfl⟩, ?_⟩
  unfold r_Piece_init
  refine n_unpack (fs := ["moment", "step", "count", "kind", "numbers"]) (es := pcD m s c per ns) T.cls (T.na _ (by decide +kernel)) rfl rfl rfl (fun g hg => T.na g ?_) (by decide +kernel) (by decide) ⟨rfl, rfl⟩
  revert g hg
  decide +kernel
end
end K43
set_option autoImplicit false
set_option linter.all false
/-! plain laws: pieces and their first wrong point -/
namespace K43
structure Pc where
  m : Int
  s : Int
  c : Int
  per : Bool
  ns : List Int
def pairs (i : Int) : Int := i * (i - 1) / 2
def numAt (per : Bool) (ns : List Int) (i : Int) : Int := if per = true then ns.getD (i % (ns.length : Int)).toNat 0 else ns.getD 0 0 + ns.getD 1 0 * i + ns.getD 2 0 * pairs i
structure Pc.Ok (p : Pc) : Prop where
  c1 : 1 ≤ p.c
  c2 : p.c ≤ 2 ^ 41
  s0 : p.c = 1 → p.s = 0
  n1 : 1 ≤ p.ns.length
  n2 : (p.ns.length : Int) ≤ p.c
  n3 : p.ns.length ≤ if p.per = true then 8 else 3
  nz : p.per = false → p.ns.length = 1 ∨ p.ns.getLast? ≠ some 0
  nb : ∀ z ∈ p.ns, -(2 ^ 50) ≤ z ∧ z ≤ 2 ^ 50
  mb : -(2 ^ 50) ≤ p.m ∧ p.m ≤ 2 ^ 50
  sb : -(2 ^ 50) ≤ p.s ∧ p.s ≤ 2 ^ 50
def Pc.val (p : Pc) (i : Nat) : Int := numAt p.per p.ns i
def Pc.mom (p : Pc) (i : Nat) : Int := p.m + p.s * i
def outV (v : Int) : Bool := decide (v < -(2 ^ 40)) || decide (2 ^ 40 < v)
def badM (p : Pc) (i : Nat) : Bool := (if i = 0 then decide (p.m < 0) else decide (p.s ≤ 0)) || decide (2 ^ 40 ≤ p.mom i)
def bad (p : Pc) (last : Int) (i : Nat) : Bool := (if i = 0 then decide (p.m ≤ last) else decide (p.s ≤ 0)) || decide (2 ^ 40 ≤ p.mom i) || outV (p.val i)
def IsL (c : Int) (f : Nat → Bool) (r : Int) : Prop := 0 ≤ r ∧ r ≤ c ∧ (∀ i : Nat, (i : Int) < r → f i = false) ∧ (r < c → f r.toNat = true)
def spot (p : Pc) (last : Int) : Option Nat := (List.range p.c.toNat).find? (bad p last)
def firstW : List Pc → Int → Option Int
  | [], _ => none
  | p :: r, last => match spot p last with
    | some i => some (i : Int)
    | none => (firstW r (p.mom (p.c.toNat - 1))).map (p.c + ·)
theorem pairs_succ (i : Nat) : pairs ((i + 1 : Nat) : Int) = pairs i + i := by
  unfold pairs
  have e : ((i + 1 : Nat) : Int) * (((i + 1 : Nat) : Int) - 1) = (i : Int) * ((i : Int) - 1) + (i : Int) * 2 := by
    rw [Int.natCast_succ]
    rw [Int.add_sub_cancel, Int.add_mul, Int.mul_sub]
    omega
  rw [e, Int.add_mul_ediv_right _ _ (by decide)]
theorem numAt_succ {ns : List Int} (i : Nat) : numAt false ns ((i + 1 : Nat) : Int) = numAt false ns i + (ns.getD 1 0 + ns.getD 2 0 * i) := by
  unfold numAt
  simp only [Bool.false_eq_true, if_false]
  rw [pairs_succ, Int.natCast_succ, Int.mul_add, Int.mul_add]
  omega
theorem isL_unique {c : Int} {f : Nat → Bool} {r s : Int} (h : IsL c f r) (g : IsL c f s) : r = s := by
  obtain ⟨h1, h2, h3, h4⟩ := h
  obtain ⟨g1, g2, g3, g4⟩ := g
  rcases Int.lt_trichotomy r s with z | z | z
  · have a := h4 (by omega)
    have b := g3 r.toNat (by omega)
    rw [a] at b; cases b
  · exact z
  · have a := g4 (by omega)
    have b := h3 s.toNat (by omega)
    rw [a] at b; cases b
theorem isL_min {c : Int} {f g : Nat → Bool} {r s : Int} (h : IsL c f r) (k : IsL c g s) : IsL c (fun i => f i || g i) (min r s) := by
  obtain ⟨h1, h2, h3, h4⟩ := h
  obtain ⟨g1, g2, g3, g4⟩ := k
  refine ⟨by omega, by omega, fun i hi => ?_, fun hr => ?_⟩
  · show (f i || g i) = false
    rw [h3 i (by omega), g3 i (by omega)]; rfl
  · show (f (min r s).toNat || g (min r s).toNat) = true
    by_cases z : r ≤ s
    · rw [Int.min_eq_left z, h4 (by omega)]; rfl
    · rw [Int.min_eq_right (by omega), g4 (by omega)]; simp
theorem isL_congr {c : Int} {f g : Nat → Bool} {r : Int} (e : ∀ i : Nat, (i : Int) < c → f i = g i) (h : IsL c f r) : IsL c g r := by
  obtain ⟨h1, h2, h3, h4⟩ := h
  refine ⟨h1, h2, fun i hi => ?_, fun hr => ?_⟩
  · rw [← e i (by omega)]; exact h3 i hi
  · rw [← e r.toNat (by omega)]; exact h4 hr
theorem find_range {f : Nat → Bool} : ∀ (n : Nat) (r : Nat), r ≤ n → (∀ i, i < r → f i = false) → (r < n → f r = true) → (List.range n).find? f = if r < n then some r else none := by
  intro n
  induction n with
  | zero => intro r h1 h2 h3; simp
  | succ n ih =>
    intro r h1 h2 h3
    rw [List.range_succ, List.find?_append]
    by_cases z : r < n
    · rw [ih r (by omega) h2 (fun _ => h3 (by omega)), if_pos z, if_pos (by omega)]; rfl
    · by_cases y : r = n
      · subst y
        rw [ih r (Nat.le_refl _) h2 (fun q => absurd q (by omega)), if_neg (by omega), if_pos (by omega)]
        simp [h3 (by omega)]
      · have : r = n + 1 := by omega
        subst this
        rw [ih n (Nat.le_refl _) (fun i hi => h2 i (by omega)) (fun q => absurd q (by omega)), if_neg (by omega), if_neg (by omega)]
        simp [h2 n (by omega)]
theorem spot_of {p : Pc} {last r : Int} (h : IsL p.c (bad p last) r) : spot p last = if r < p.c then some r.toNat else none := by
  obtain ⟨h1, h2, h3, h4⟩ := h
  unfold spot
  rw [find_range p.c.toNat r.toNat (by omega) (fun i hi => h3 i (by omega)) (fun q => h4 (by omega))]
  by_cases z : r < p.c
  · rw [if_pos z, if_pos (by omega)]
  · rw [if_neg z, if_neg (by omega)]
theorem spot_some {p : Pc} {last r : Int} (h : IsL p.c (bad p last) r) (q : r < p.c) : spot p last = some r.toNat := by rw [spot_of h, if_pos q]
theorem spot_none {p : Pc} {last r : Int} (h : IsL p.c (bad p last) r) (q : ¬ r < p.c) : spot p last = none := by rw [spot_of h, if_neg q]
/-! ### what is out of bounds along a stretch whose values go one way -/
def Seg (b e lo hi : Int) : Prop := (∀ i : Int, lo ≤ i → i < hi → 0 ≤ b + e * i) ∨ (∀ i : Int, lo ≤ i → i < hi → b + e * i ≤ 0)
theorem seg_up {v : Nat → Int} {b e lo hi : Int} (hv : ∀ i : Nat, v (i + 1) = v i + (b + e * i)) (h : ∀ i : Int, lo ≤ i → i < hi → 0 ≤ b + e * i) : ∀ (d i : Nat), lo ≤ i → (i : Int) + d ≤ hi → v i ≤ v (i + d)
  | 0, i, _, _ => Int.le_refl _
  | d + 1, i, h1, h2 => by
    have a := seg_up hv h d i h1 (by omega)
    have b' := h ((i + d : Nat) : Int) (by omega) (by omega)
    have c := hv (i + d)
    rw [show i + (d + 1) = i + d + 1 by omega, c]
    omega
theorem seg_dn {v : Nat → Int} {b e lo hi : Int} (hv : ∀ i : Nat, v (i + 1) = v i + (b + e * i)) (h : ∀ i : Int, lo ≤ i → i < hi → b + e * i ≤ 0) : ∀ (d i : Nat), lo ≤ i → (i : Int) + d ≤ hi → v (i + d) ≤ v i
  | 0, i, _, _ => Int.le_refl _
  | d + 1, i, h1, h2 => by
    have a := seg_dn hv h d i h1 (by omega)
    have b' := h ((i + d : Nat) : Int) (by omega) (by omega)
    have c := hv (i + d)
    rw [show i + (d + 1) = i + d + 1 by omega, c]
    omega
theorem seg_mono {v : Nat → Int} {b e : Int} {lo hi : Nat} (hv : ∀ i : Nat, v (i + 1) = v i + (b + e * i)) (h : Seg b e lo hi) : (∀ i j : Nat, lo ≤ i → i ≤ j → j ≤ hi → v i ≤ v j) ∨ (∀ i j : Nat, lo ≤ i → i ≤ j → j ≤ hi → v j ≤ v i) := by
  rcases h with h | h
  · refine .inl fun i j h1 h2 h3 => ?_
    have := seg_up hv h (j - i) i (by omega) (by omega)
    rwa [show i + (j - i) = j by omega] at this
  · refine .inr fun i j h1 h2 h3 => ?_
    have := seg_dn hv h (j - i) i (by omega) (by omega)
    rwa [show i + (j - i) = j by omega] at this
theorem out_false {v : Int} : outV v = false ↔ -(2 ^ 40) ≤ v ∧ v ≤ 2 ^ 40 := by
  unfold outV
  rw [Bool.or_eq_false_iff, decide_eq_false_iff_not, decide_eq_false_iff_not]
  omega
theorem out_true {v : Int} : outV v = true ↔ v < -(2 ^ 40) ∨ 2 ^ 40 < v := by
  unfold outV
  rw [Bool.or_eq_true, decide_eq_true_iff, decide_eq_true_iff]
/-- between two ends that are in, all are in -/
theorem seg_in {v : Nat → Int} {b e : Int} {lo hi : Nat} (hv : ∀ i : Nat, v (i + 1) = v i + (b + e * i)) (h : Seg b e lo hi) (h1 : outV (v lo) = false) (h2 : outV (v hi) = false) (i : Nat) (a : lo ≤ i) (c : i ≤ hi) : outV (v i) = false := by
  rw [out_false] at h1 h2 ⊢
  rcases seg_mono hv h with q | q
  · have := q lo i (Nat.le_refl _) a c
    have := q i hi a c (Nat.le_refl _)
    omega
  · have := q lo i (Nat.le_refl _) a c
    have := q i hi a c (Nat.le_refl _)
    omega
/-- behind a beginning that is in, all behind one that is out are out -/
theorem seg_out {v : Nat → Int} {b e : Int} {lo hi : Nat} (hv : ∀ i : Nat, v (i + 1) = v i + (b + e * i)) (h : Seg b e lo hi) (h1 : outV (v lo) = false) (i j : Nat) (a : lo ≤ i) (ij : i ≤ j) (c : j ≤ hi) (o : outV (v i) = true) : outV (v j) = true := by
  rw [out_false] at h1
  rw [out_true] at o ⊢
  rcases seg_mono hv h with q | q
  · have := q lo i (Nat.le_refl _) a (by omega)
    have := q i j a ij c
    omega
  · have := q lo i (Nat.le_refl _) a (by omega)
    have := q i j a ij c
    omega
/-! ### where differences change their sign -/
def turnSpot (b e : Int) : Int := if (decide (0 < b) != decide (0 < e)) = true ∧ b ≠ 0 then -(-(b.natAbs : Int) / (e.natAbs : Int)) else 0
def turnOf (b e c : Int) : Int := if e = 0 ∨ c < 3 then c - 1 else min (max (turnSpot b e) 0) (c - 1)
theorem mul_nn {a b : Int} (h : 0 ≤ a) (k : 0 ≤ b) : 0 ≤ a * b := Int.mul_nonneg h k
theorem ceil_spec {x y i : Int} (hy : 0 < y) : (i < -(-x / y) → y * i < x) ∧ (-(-x / y) ≤ i → x ≤ y * i) := by
  have h1 := Int.mul_ediv_add_emod (-x) y
  have h2 := Int.emod_nonneg (-x) (show y ≠ 0 by omega)
  have h3 := Int.emod_lt_of_pos (-x) hy
  generalize hq : -x / y = q at *
  generalize hr : -x % y = r at *
  constructor
  · intro h
    have : y * i ≤ y * (-q - 1) := Int.mul_le_mul_of_nonneg_left (by omega) (by omega)
    rw [Int.mul_sub, Int.mul_neg] at this
    omega
  · intro h
    have : y * (-q) ≤ y * i := Int.mul_le_mul_of_nonneg_left (by omega) (by omega)
    rw [Int.mul_neg] at this
    omega
theorem turn_segs {b e c : Int} (hc : 1 ≤ c) : 0 ≤ turnOf b e c ∧ turnOf b e c ≤ c - 1 ∧ Seg b e 0 (turnOf b e c) ∧ Seg b e (turnOf b e c) (c - 1) := by
  unfold turnOf
  by_cases h : e = 0 ∨ c < 3
  · rw [if_pos h]
    refine ⟨by omega, Int.le_refl _, ?_, .inl fun i h1 h2 => absurd h1 (by omega)⟩
    by_cases hb : 0 ≤ b
    · refine .inl fun i h1 h2 => ?_
      rcases h with h | h
      · subst h; rw [Int.zero_mul]; omega
      · have : i = 0 := by omega
        subst this; rw [Int.mul_zero]; omega
    · refine .inr fun i h1 h2 => ?_
      rcases h with h | h
      · subst h; rw [Int.zero_mul]; omega
      · have : i = 0 := by omega
        subst this; rw [Int.mul_zero]; omega
  · rw [if_neg h]
    have he : e ≠ 0 := fun z => h (.inl z)
    unfold turnSpot
    by_cases hs : (decide (0 < b) != decide (0 < e)) = true ∧ b ≠ 0
    · rw [if_pos hs]
      have hbe : (0 < b ∧ e < 0) ∨ (b < 0 ∧ 0 < e) := by
        obtain ⟨z, nz⟩ := hs
        by_cases p : 0 < b
        · by_cases q : 0 < e
          · simp [p, q] at z
          · exact .inl ⟨p, by omega⟩
        · by_cases q : 0 < e
          · exact .inr ⟨by omega, q⟩
          · simp [p, q] at z
      have ey : (0 : Int) < (e.natAbs : Int) := by omega
      have hx := fun i => ceil_spec (x := (b.natAbs : Int)) (i := i) ey
      generalize hsp : -(-(b.natAbs : Int) / (e.natAbs : Int)) = sp at *
      rcases hbe with ⟨hb, hn⟩ | ⟨hb, hn⟩
      · have e1 : (b.natAbs : Int) = b := by omega
        have e2 : (e.natAbs : Int) = -e := by omega
        rw [e1, e2] at hx
        refine ⟨by omega, by omega, .inl fun i h1 h2 => ?_, .inr fun i h1 h2 => ?_⟩
        · have := (hx i).1 (by omega)
          rw [Int.neg_mul] at this
          omega
        · have := (hx i).2 (by omega)
          rw [Int.neg_mul] at this
          omega
      · have e1 : (b.natAbs : Int) = -b := by omega
        have e2 : (e.natAbs : Int) = e := by omega
        rw [e1, e2] at hx
        refine ⟨by omega, by omega, .inr fun i h1 h2 => ?_, .inl fun i h1 h2 => ?_⟩
        · have := (hx i).1 (by omega)
          omega
        · have := (hx i).2 (by omega)
          omega
    · rw [if_neg hs]
      have ez : min (max (0 : Int) 0) (c - 1) = 0 := by omega
      rw [ez]
      refine ⟨by omega, by omega, .inl fun i h1 h2 => absurd h1 (by omega), ?_⟩
      by_cases q : 0 < e
      · refine .inl fun i h1 h2 => ?_
        have : 0 ≤ e * i := mul_nn (by omega) h1
        have : 0 ≤ b := by
          by_cases p : 0 < b
          · omega
          · by_cases z : b = 0
            · omega
            · exact absurd ⟨by simp [p, q], z⟩ hs
        omega
      · refine .inr fun i h1 h2 => ?_
        have : 0 ≤ (-e) * i := mul_nn (by omega) h1
        rw [Int.neg_mul] at this
        have : b ≤ 0 := by
          by_cases p : 0 < b
          · exact absurd ⟨by simp [p, q], by omega⟩ hs
          · omega
        omega
/-! ### the first index beyond the bounds -/
/-- what the search tells -/
def Such (lo hi r : Int) (f : Int → Bool) : Prop := lo ≤ r ∧ r ≤ hi ∧ (∀ i, lo ≤ i → i < r → f i = false) ∧ (r < hi → f r = true)
theorem beyond_order {v : Nat → Int} {b e c : Int} (hv : ∀ i : Nat, v (i + 1) = v i + (b + e * i)) (hc : 1 ≤ c) : let t := turnOf b e c
    let f : Int → Bool := fun i => outV (v i.toNat)
    (f 0 = true → IsL c (fun i => outV (v i)) 0) ∧ (f 0 = false → f t = true → (∀ i j, 0 ≤ i → i ≤ j → j < t → f i = true → f j = true) ∧ ∀ r, Such 0 t r f → IsL c (fun i => outV (v i)) r) ∧
    (f 0 = false → f t = false → f (c - 1) = true → (∀ i j, t ≤ i → i ≤ j → j < c → f i = true → f j = true) ∧ ∀ r, Such t c r f → IsL c (fun i => outV (v i)) r) ∧
    (f 0 = false → f t = false → f (c - 1) = false → IsL c (fun i => outV (v i)) c) := by
  intro t f
  obtain ⟨t0, t1, s1, s2⟩ := turn_segs (b := b) (e := e) hc
  have t0' : 0 ≤ t := t0
  have t1' : t ≤ c - 1 := t1
  obtain ⟨tn, htn⟩ := Int.eq_ofNat_of_zero_le t0'
  obtain ⟨cn, hcn⟩ := Int.eq_ofNat_of_zero_le (show 0 ≤ c - 1 by omega)
  have s1' : Seg b e ((0 : Nat) : Int) (tn : Int) := by rw [← htn]; exact s1
  have s2' : Seg b e (tn : Int) (cn : Int) := by rw [← htn, ← hcn]; exact s2
  have ftn : f t = outV (v tn) := by show outV (v t.toNat) = _; rw [htn]; rfl
  have fcn : f (c - 1) = outV (v cn) := by show outV (v (c - 1).toNat) = _; rw [hcn]; rfl
  have f0 : f 0 = outV (v 0) := rfl
  rw [ftn, fcn, f0]
  refine ⟨fun h => ⟨Int.le_refl _, by omega, fun i hi => absurd hi (by omega), fun _ => h⟩, fun h0 ht => ⟨fun i j h1 h2 h3 o => ?_, fun r hr => ?_⟩, fun h0 ht hl => ⟨fun i j h1 h2 h3 o => ?_, fun r hr => ?_⟩, fun h0 ht hl => ⟨by omega, Int.le_refl _, fun i hi => ?_, fun z => absurd z (by omega)⟩⟩
  · exact seg_out hv s1' h0 i.toNat j.toNat (by omega) (by omega) (by omega) o
  · obtain ⟨r1, r2, r3, r4⟩ := hr
    refine ⟨r1, by omega, fun i hi => ?_, fun _ => ?_⟩
    · have := r3 i (by omega) hi
      exact this
    · by_cases z : r < t
      · exact r4 z
      · have : r.toNat = tn := by omega
        show outV (v r.toNat) = true
        rw [this]; exact ht
  · exact seg_out hv s2' ht i.toNat j.toNat (by omega) (by omega) (by omega) o
  · obtain ⟨r1, r2, r3, r4⟩ := hr
    refine ⟨by omega, r2, fun i hi => ?_, fun z => r4 z⟩
    by_cases z : (i : Int) < t
    · exact seg_in hv s1' h0 ht i (Nat.zero_le _) (by omega)
    · have := r3 i (by omega) hi
      exact this
  · by_cases z : (i : Int) < t
    · exact seg_in hv s1' h0 ht i (Nat.zero_le _) (by omega)
    · exact seg_in hv s2' ht hl i (by omega) (by omega)
end K43
set_option Elab.async false
set_option maxRecDepth 100000
set_option maxHeartbeats 4000000
set_option linter.all false
set_option autoImplicit false
/-! pieces: numbers by index -/
namespace K43
variable [DW.Tb]
open PySem PySem.Spec PyProof.Rows L2 DW
theorem getD_map (ns : List Int) (i : Nat) (h : i < ns.length) : (ns.map D.int)[i]? = some (.int (ns.getD i 0)) := by
  rw [List.getElem?_map, List.getElem?_eq_getElem h]
  simp [List.getD, List.getElem?_eq_getElem h]
theorem cutD_take {l : List D} {m : Nat} : DW.cutD l none (some (m : Int)) = l.take m := by
  unfold DW.cutD
  have e1 : HT.sIx l.length 0 none = 0 := rfl
  rw [e1, HT.sIx_nat, List.drop_zero, Nat.sub_zero]
  by_cases h : m ≤ l.length
  · rw [Nat.min_eq_left h]
  · rw [Nat.min_eq_right (by omega), List.take_length, List.take_of_length_le (by omega)]
theorem getD_bnd {ns : List Int} {B : Int} (hB : 0 ≤ B) (h : ∀ z ∈ ns, -B ≤ z ∧ z ≤ B) (i : Nat) : -B ≤ ns.getD i 0 ∧ ns.getD i 0 ≤ B := by
  by_cases q : i < ns.length
  · rw [List.getD_eq_getElem?_getD, List.getElem?_eq_getElem q]
    exact h _ (List.getElem_mem q)
  · rw [List.getD_eq_getElem?_getD, List.getElem?_eq_none (by omega)]
    show -B ≤ 0 ∧ 0 ≤ B
    omega
section
variable {K : PySem.W.Frag} {w : Option Addr} {n : Nat} {k : Kn} {es : List D} {C : Addr}
theorem atI_ints {ns : List Int} {i : Int} (h1 : 0 ≤ i) (h2 : i < ns.length) : atI (ns.map D.int) i = some (.int (ns.getD i.toNat 0)) := by
  obtain ⟨j, rfl⟩ := Int.eq_ofNat_of_zero_le h1
  exact atI_nat (getD_map ns j (by omega))
theorem rd_ixNs {nd : D} {ns : List Int} {i : Int} (hd : IsNs nd ns) (h : (0 ≤ i ∧ i < ns.length) ∧ k (.int (ns.getD i.toNat 0)) n) : RD K w (rIx K) nd (.int i) n k := by
  rcases hd with rfl | rfl
  · exact rd_ixL (atI_ints h.1.1 h.1.2) h.2
  · exact rd_ixT (atI_ints h.1.1 h.1.2) h.2
def padL (ns : List Int) : List Int := [ns.getD 0 0, ns.getD 1 0, ns.getD 2 0]
theorem pad_eq {ns : List Int} (h : 1 ≤ ns.length) : (ns ++ [0, 0]).take 3 = padL ns := by
  match ns, h with
  | [a], _ => rfl
  | [a, b], _ => rfl
  | a :: b :: c :: r, _ => rfl
abbrev padSp : DSpW := fun w es n k => ∃ nd ns, es = [nd] ∧ IsNs nd ns ∧ 1 ≤ ns.length ∧ ns.length ≤ 1000 ∧ k (.lst ((padL ns).map .int)) n
abbrev pairsSp : DSpW := fun w es n k => ∃ i : Int, es = [.int i] ∧ -(2 ^ 60) ≤ i ∧ i ≤ 2 ^ 60 ∧ k (.int (pairs i)) n
structure Small (ns : List Int) : Prop where
  n1 : 1 ≤ ns.length
  n2 : ns.length ≤ 1000
  nb : ∀ z ∈ ns, -(2 ^ 60) ≤ z ∧ z ≤ 2 ^ 60
abbrev naSp : DSpW := fun w es n k => ∃ per nd ns i, es = [.str (kindW per), nd, .int i] ∧ IsNs nd ns ∧ Small ns ∧ 0 ≤ i ∧ i ≤ 2 ^ 60 ∧ k (.int (numAt per ns i)) n
theorem w_padded (h : padSp w es n k) : WpS K w (r_padded K) (dstart ["numbers"] es) n { nx := fun _ n' => kup k .non n', rt := kup k } := by
  obtain ⟨nd, ns, rfl, hd, h1, h2, hk⟩ := h
  have ho := hd.own
  unfold r_padded
  repeat' (first
    | exact absurd ‹false = true› (by decide)
    | exact absurd ‹true = false› (by decide)
    | (guard_target =~ WpE _ _ _ _ _ _; first | with_reducible refine e_slL ?_ | ((with_reducible refine e_varX ?_); refine ⟨_, rfl, ho, ?_⟩))
    | with_reducible refine a_star ?_
    | walk_at "way by rule"
    | walk_at "way by form"
    | fail)
  refine ⟨ns.map .int, hd, ?_⟩
  repeat' (first
    | exact absurd ‹false = true› (by decide)
    | exact absurd ‹true = false› (by decide)
    | walk_at "way by rule"
    | with_reducible refine And.intro (by rw [List.length_append, List.length_map]; simp only [List.length_cons, List.length_nil]; omega) ?_
    | walk_at "way by form"
    | fail)
  have e : DW.cutD (ns.map D.int ++ [.int 0, .int 0]) none (some 3) = (padL ns).map .int := by
    rw [show (some (3 : Int)) = some ((3 : Nat) : Int) from rfl, cutD_take, ← pad_eq h1, List.map_take, List.map_append]
    rfl
  rw [e]
  exact kup_of hk
theorem w_pairs_of (h : pairsSp w es n k) : WpS K w (r_pairs_of K) (dstart ["many"] es) n { nx := fun _ n' => kup k .non n', rt := kup k } := by
  obtain ⟨i, rfl, h1, h2, hk⟩ := h
  unfold r_pairs_of
  repeat' (first
    | exact absurd ‹false = true› (by decide)
    | exact absurd ‹true = false› (by decide)
    | walk_at "way by rule"
    | walk_at "way by form"
    | fail)
  all_goals exact kup_of hk
theorem kindW_eq {per : Bool} : decide (kindW per = "period") = per := by cases per <;> decide +kernel
theorem w_number_at (h : naSp w es n k) : WpS K w (r_number_at K (toSp K padSp) (toSp K pairsSp)) (dstart ["kind", "numbers", "index", "first", "more", "bend"] es) n { nx := fun _ n' => kup k .non n', rt := kup k } := by
  obtain ⟨per, nd, ns, i, rfl, hd, ⟨s1, s2, s3⟩, h1, h2, hk⟩ := h
  have ho := hd.own
  have lenR : ∀ {k : Kn} {n : Nat}, k (.int (ns.length : Int)) n → RC K w (rLenU K) [nd] n k := fun {k n} hk => by
    rcases hd with rfl | rfl
    · exact rc_lenL (by rw [List.length_map]; exact hk)
    · exact rc_lenT (by rw [List.length_map]; exact hk)
  unfold r_number_at
  repeat' (first
    | exact absurd ‹false = true› (by decide)
    | exact absurd ‹true = false› (by decide)
    | with_reducible refine lenR ?_
    | (refine rd_ixNs hd ⟨⟨Int.emod_nonneg _ (by omega), Int.emod_lt_of_pos _ (by omega)⟩, ?_⟩)
    | ((with_reducible refine e_varX ?_); refine ⟨_, rfl, ho, ?_⟩)
    | walk_at "way by rule"
    | refine ⟨_, _, rfl, hd, s1, s2, ?_⟩
    | refine ⟨_, _, g_lst (gs_cons g_name (gs_cons g_name (gs_cons g_name gs_nil))) rfl, ?_⟩
    | refine ⟨_, rfl, by omega, by omega, ?_⟩
    | walk_at "way by form"
    | fail)
  · rename_i q
    have q : per = true := by rw [← kindW_eq (per := per)]; exact q
    subst q
    exact kup_of hk
  · rename_i q
    have q : per = false := by rw [← kindW_eq (per := per)]; exact q
    subst q
    have b := getD_bnd (B := 2 ^ 60) (by decide) s3 2
    refine ⟨.inl ⟨by omega, by omega⟩, ?_⟩
    repeat' (first
    | exact absurd ‹false = true› (by decide)
    | exact absurd ‹true = false› (by decide)
    | walk_at "way by rule"
    | walk_at "way by form"
    | fail)
    exact kup_of hk
end
end K43
set_option Elab.async false
set_option maxRecDepth 100000
set_option maxHeartbeats 4000000
set_option linter.all false
set_option autoImplicit false
/-! pieces: rows of good pieces pass the checks -/
namespace K43
variable [DW.Tb]
open PySem PySem.Spec PyProof.Rows L2 DW
structure Good (p : Pc) : Prop where
  c1 : 1 ≤ p.c
  c2 : p.c ≤ 2 ^ 41
  s0 : p.c = 1 → p.s = 0
  s1 : 1 < p.c → 1 ≤ p.s
  m0 : 0 ≤ p.m
  last : p.m + p.s * (p.c - 1) ≤ 2 ^ 40 - 1
  small : Small p.ns
  n2 : (p.ns.length : Int) ≤ p.c
  n3 : p.ns.length ≤ if p.per = true then 8 else 3
  nz : p.per = false → p.ns.length = 1 ∨ p.ns.getD (p.ns.length - 1) 0 ≠ 0
  vb : ∀ i, 0 ≤ i → i < p.c → -(2 ^ 40) ≤ numAt p.per p.ns i ∧ numAt p.per p.ns i ≤ 2 ^ 40
abbrev turnSp : DSpW := fun w es n k => ∃ nd ns c, es = [nd, .int c] ∧ IsNs nd ns ∧ Small ns ∧ 1 ≤ c ∧ c ≤ 2 ^ 41 ∧ k (.int (turnOf (ns.getD 1 0) (ns.getD 2 0) c)) n
abbrev outSp : DSpW := fun w es n k => ∃ per nd ns i, es = [.int i, .str (kindW per), nd, .int (0 - 1099511627776), .int 1099511627776] ∧ IsNs nd ns ∧ Small ns ∧ 0 ≤ i ∧ i ≤ 2 ^ 60 ∧ -(2 ^ 40) ≤ numAt per ns i ∧ numAt per ns i ≤ 2 ^ 40 ∧ k (.bl false) n
abbrev beyondSp : DSpW := fun w es n k => ∃ per nd ns c, es = [.str (kindW per), nd, .int c, .int (0 - 1099511627776), .int 1099511627776] ∧ IsNs nd ns ∧ Small ns ∧ 1 ≤ c ∧ c ≤ 2 ^ 41 ∧ (ns.length : Int) ≤ c ∧ (∀ i, 0 ≤ i → i < c → -(2 ^ 40) ≤ numAt per ns i ∧ numAt per ns i ≤ 2 ^ 40) ∧ k (.int c) n
section
variable {K : PySem.W.Frag} {w : Option Addr} {n : Nat} {k : Kn} {es : List D} {C : Addr}
theorem cast_k {x y : Int} (h : k (.int y) n) (e : x = y) : k (.int x) n := by rw [e]; exact h
theorem w_turn_of (h : turnSp w es n k) : WpS K w (r_turn_of K (toSp K padSp)) (dstart ["numbers", "count", "first", "more", "bend", "spot"] es) n { nx := fun _ n' => kup k .non n', rt := kup k } := by
  obtain ⟨nd, ns, c, rfl, hd, ⟨s1, s2, s3⟩, c1, c2, hk⟩ := h
  have ho := hd.own
  have b1 := getD_bnd (B := 2 ^ 60) (by decide) s3 1
  have b2 := getD_bnd (B := 2 ^ 60) (by decide) s3 2
  unfold r_turn_of
  repeat' (first
    | exact absurd ‹false = true› (by decide)
    | exact absurd ‹true = false› (by decide)
    | ((with_reducible refine e_varX ?_); refine ⟨_, rfl, ho, ?_⟩)
    | with_reducible refine rd_neB ?_
    | walk_at "way by rule"
    | refine ⟨_, _, rfl, hd, s1, s2, ?_⟩
    | refine ⟨_, _, g_lst (gs_cons g_name (gs_cons g_name (gs_cons g_name gs_nil))) rfl, ?_⟩
    | (with_reducible refine And.intro (by simp only [decide_eq_true_eq, decide_eq_false_iff_not] at *; omega) ?_)
    | walk_at "way by form"
    | fail)
  all_goals (refine kup_of (cast_k hk ?_))
  all_goals clear hk hd ho s3
  all_goals (generalize ns.getD 1 0 = b at *; generalize ns.getD 2 0 = e at *; unfold turnOf turnSpot; by_cases p1 : (0 : Int) < b <;> by_cases p2 : (0 : Int) < e <;> by_cases p3 : e = 0 <;> by_cases p4 : c < 3 <;> by_cases p5 : b = 0 <;> simp_all <;> first | omega | (intro h; omega) | (intro h; exact absurd h (by omega)))
theorem w_is_out (h : outSp w es n k) : WpS K w (r_first_beyond_is_out K (toSp K naSp)) (dstart ["at", "kind", "numbers", "low", "high"] es) n { nx := fun _ n' => kup k .non n', rt := kup k } := by
  obtain ⟨per, nd, ns, i, rfl, hd, hs, i1, i2, v1, v2, hk⟩ := h
  have ho := hd.own
  unfold r_first_beyond_is_out
  repeat' (first
    | exact absurd ‹false = true› (by decide)
    | exact absurd ‹true = false› (by decide)
    | ((with_reducible refine e_varX ?_); refine ⟨_, rfl, ho, ?_⟩)
    | walk_at "way by rule"
    | refine ⟨_, _, _, _, rfl, hd, hs, i1, i2, ?_⟩
    | walk_at "way by form"
    | fail)
  · rw [show (!decide (numAt per ns i ≤ 1099511627776)) = false by rw [decide_eq_true (by omega)]; rfl]
    exact kup_of hk
  · rename_i q
    exact absurd (of_decide_eq_false q) (by omega)
theorem w_first_beyond {P : Addr} {mk : Addr → NdefX.NF} (hP : Tb.tab P = true) (hq : ∀ c', (mk c').c = c') {G : Addr → List (Option V) → List V → Hp → VK → Prop} (h : beyondSp w es n k) :
    WpS K w (r_first_beyond K mk (toSpNL K 4 outSp) G (toSp K turnSp)) (dstart ["kind", "numbers", "count", "low", "high", "found", "is_out", "turn", "at"] es) n { nx := fun _ n' => kup k .non n', rt := kup k } := by
  obtain ⟨per, nd, ns, c, rfl, hd, hs, c1, c2, hn, hv, hk⟩ := h
  obtain ⟨s1, s2, s3⟩ := id hs
  have ho := hd.own
  have lenR : ∀ {k : Kn} {n : Nat}, k (.int (ns.length : Int)) n → RC K w (rLenU K) [nd] n k := fun {k n} hk => by
    rcases hd with rfl | rfl
    · exact rc_lenL (by rw [List.length_map]; exact hk)
    · exact rc_lenT (by rw [List.length_map]; exact hk)
  have cap : ∀ d ∈ [D.str (kindW per), nd, .int (0 - 1099511627776), .int 1099511627776], isOwn d = false := fun d hd' => by
    simp only [List.mem_cons, List.not_mem_nil, or_false] at hd'
    rcases hd' with rfl | rfl | rfl | rfl
    · rfl
    · exact ho
    · rfl
    · rfl
  have call : ∀ {k : Kn} {n : Nat} {i : Int}, 0 ≤ i → i < c → k (.bl false) n → outSp w ([.int i] ++ [D.str (kindW per), nd, .int (0 - 1099511627776), .int 1099511627776]) n k := fun {k n i} h1 h2 hk =>
    ⟨per, nd, ns, i, rfl, hd, hs, h1, by omega, (hv i h1 h2).1, (hv i h1 h2).2, hk⟩
  unfold r_first_beyond
  refine s_seq (s_if ?_)
  repeat' (first
    | exact absurd ‹false = true› (by decide)
    | exact absurd ‹true = false› (by decide)
    | walk_at "way by rule"
    | walk_at "way by form"
    | fail)
  · rename_i q
    have q : per = true := by rw [← kindW_eq (per := per)]; exact q
    subst q
    have hz : ∀ i : Int, 0 ≤ i → i < min (ns.length : Int) c → -(2 ^ 40) ≤ ns.getD i.toNat 0 ∧ ns.getD i.toNat 0 ≤ 2 ^ 40 := fun i h1 h2 => by
      have := hv i h1 (by omega)
      unfold numAt at this
      rw [if_pos rfl, Int.emod_eq_of_lt h1 (by omega)] at this
      exact this
    repeat' (first
    | exact absurd ‹false = true› (by decide)
    | exact absurd ‹true = false› (by decide)
    | with_reducible refine lenR ?_
    | (guard_target =~ WpE _ _ _ _ _ _; first | ((with_reducible refine e_varX ?_); refine ⟨_, rfl, ho, ?_⟩) | with_reducible refine e_lcIX ⟨fun _ => false, fun z => .int z, ?_⟩)
    | walk_at "way by rule"
    | walk_at "way by form"
    | fail)
    refine ⟨(List.range (min (ns.length : Int) c).toNat).map fun i => (0 : Int) + (i : Nat), by rw [List.map_map]; rfl, by rw [List.length_map, List.length_range]; omega, fun z hz' => ?_, ?_⟩
    · obtain ⟨i, hi, rfl⟩ := List.mem_map.mp hz'
      have hi := List.mem_range.mp hi
      have b := hz (0 + (i : Int)) (by omega) (by omega)
      repeat' (first
    | exact absurd ‹false = true› (by decide)
    | exact absurd ‹true = false› (by decide)
    | (refine rd_ixNs hd ⟨⟨by omega, by omega⟩, ?_⟩)
    | exact absurd (of_decide_eq_false ‹decide (0 - 1099511627776 ≤ ns.getD (0 + (i : Int)).toNat 0) = false›) (by omega)
    | ((with_reducible refine e_varX ?_); refine ⟨_, rfl, ho, ?_⟩)
    | walk_at "way by rule"
    | walk_at "way by form"
    | fail)
      exact ⟨by rw [decide_eq_true (by omega)]; rfl, rfl, fun z => absurd z (by rw [decide_eq_true (by omega)]; decide)⟩
    have e : (((List.range (min (ns.length : Int) c).toNat).map fun i => (0 : Int) + (i : Nat)).filter fun _ => false) = [] := List.filter_eq_nil_iff.mpr fun _ _ => by simp
    rw [e]
    repeat' (first
    | exact absurd ‹false = true› (by decide)
    | exact absurd ‹true = false› (by decide)
    | exact absurd rfl ‹([] : List Int) ≠ []›
    | walk_at "way by rule"
    | walk_at "way by form"
    | fail)
    all_goals first
      | exact kup_of hk
      | trace_state
  · rename_i q
    have q : per = false := by rw [← kindW_eq (per := per)]; exact q
    refine s_ndef hP hq fun c' => ?_
    obtain ⟨t1, t2, _, _⟩ := turn_segs (b := ns.getD 1 0) (e := ns.getD 2 0) c1
    repeat' (first
    | exact absurd ‹false = true› (by decide)
    | exact absurd ‹true = false› (by decide)
    | (refine call (by omega) (by omega) ?_)
    | (guard_target =~ WpE _ _ _ _ _ _; first | ((with_reducible refine e_varX ?_); refine ⟨_, rfl, ho, ?_⟩) | (refine e_callNL rfl (cds := [D.str (kindW per), nd, .int (0 - 1099511627776), .int 1099511627776]) (c' := c') rfl rfl cap ?_))
    | walk_at "way by rule"
    | (refine ⟨_, _, _, rfl, hd, hs, c1, c2, ?_⟩)
    | walk_at "way by form"
    | fail)
    all_goals exact kup_of hk
end
end K43
set_option Elab.async false
set_option maxRecDepth 100000
set_option maxHeartbeats 4000000
set_option linter.all false
set_option autoImplicit false
/-! pieces: rows of good pieces pass the checks -/
namespace K43
variable [DW.Tb]
open PySem PySem.Spec PyProof.Rows L2 DW
def pcO (C : Addr) (p : Pc) : D := pieceD C p.m p.s p.c p.per p.ns
def lastM (p : Pc) : Int := p.m + p.s * (p.c - 1)
structure Row (ps : List Pc) : Prop where
  len : ps.length ≤ 100000
  good : ∀ p ∈ ps, Good p
  inc : ∀ i p q, ps[i]? = some p → ps[i + 1]? = some q → lastM p < q.m
abbrev momSp (C : Addr) : DSpW := fun w es n k => ∃ m s c per ns i, es = [pieceD C m s c per ns, .int i] ∧ -(2 ^ 60) ≤ i ∧ i ≤ 2 ^ 60 ∧ k (.int (m + s * i)) n
abbrev lastSp (C : Addr) : DSpW := fun w es n k => ∃ p, es = [pcO C p] ∧ Good p ∧ k (.int (lastM p)) n
abbrev badmSp (C : Addr) : DSpW := fun w es n k => ∃ p, es = [pcO C p] ∧ Good p ∧ k (.int p.c) n
abbrev wrongSp (C : Addr) : DSpW := fun w es n k => ∃ p a, es = [pcO C p, a] ∧ Good p ∧ (a = .non ∨ ∃ z, a = .int z ∧ z < p.m) ∧ k (.int p.c) n
def IsPs (C : Addr) (d : D) (ps : List Pc) : Prop := d = .lst (ps.map (pcO C)) ∨ d = .tup (ps.map (pcO C))
theorem IsPs.own {C : Addr} {d : D} {ps : List Pc} (h : IsPs C d ps) : isOwn d = false := by rcases h with rfl | rfl <;> rfl
abbrev fwSp (C : Addr) : DSpW := fun w es n k => ∃ d ps, es = [d] ∧ IsPs C d ps ∧ Row ps ∧ k .non n
abbrev pieceSp (C : Addr) : DSpW := fun w es n k => ∃ p, es = [pcO C p] ∧ Good p ∧ k (.bl true) n
abbrev piecesSp (C : Addr) : DSpW := fun w es n k => ∃ d ps, es = [d] ∧ IsPs C d ps ∧ Row ps ∧ k (.bl true) n
abbrev needPSp (C : Addr) : DSpW := fun w es n k => ∃ x d ps, es = [.str x, d] ∧ IsPs C d ps ∧ Row ps ∧ k .non n
theorem atI_last {ns : List Int} (h : 1 ≤ ns.length) : atI (ns.map D.int) (-1) = some (.int (ns.getD (ns.length - 1) 0)) := by
  unfold atI
  have e : ixN (ns.map D.int).length (-1) = some (ns.length - 1) := by
    rw [List.length_map]
    unfold ixN
    rw [if_neg (by omega), if_pos (by omega)]
    congr 1
    omega
  rw [e]
  exact getD_map ns (ns.length - 1) (by omega)
section
variable {K : PySem.W.Frag} {w : Option Addr} {n : Nat} {k : Kn} {es : List D} {C : Addr}
theorem w_moment_at (T : ClT K C XN) (h : momSp C w es n k) : WpS K w (r_moment_at K) (dstart ["piece", "index"] es) n { nx := fun _ n' => kup k .non n', rt := kup k } := by
  obtain ⟨m, s, c, per, ns, i, rfl, h1, h2, hk⟩ := h
  unfold r_moment_at
  repeat' (first
    | exact absurd ‹false = true› (by decide)
    | exact absurd ‹true = false› (by decide)
    | ((with_reducible refine e_fldX ?_); refine ⟨_, _, _, rfl, T, by decide +kernel, _, rfl, ?_⟩)
    | walk_at "way by rule"
    | walk_at "way by form"
    | fail)
  all_goals exact kup_of hk
theorem w_last_moment (T : ClT K C XN) (h : lastSp C w es n k) : WpS K w (r_last_moment K (toSp K (momSp C))) (dstart ["piece"] es) n { nx := fun _ n' => kup k .non n', rt := kup k } := by
  obtain ⟨p, rfl, g, hk⟩ := h
  have c1 := g.c1
  have c2 := g.c2
  unfold r_last_moment
  repeat' (first
    | exact absurd ‹false = true› (by decide)
    | exact absurd ‹true = false› (by decide)
    | ((with_reducible refine e_fldX ?_); refine ⟨_, _, _, rfl, T, by decide +kernel, _, rfl, ?_⟩)
    | walk_at "way by rule"
    | refine ⟨_, _, _, _, _, _, rfl, by omega, by omega, ?_⟩
    | walk_at "way by form"
    | fail)
  all_goals exact kup_of hk
theorem w_first_bad_moment (T : ClT K C XN) (h : badmSp C w es n k) : WpS K w (r_first_bad_moment K) (dstart ["piece", "room"] es) n { nx := fun _ n' => kup k .non n', rt := kup k } := by
  obtain ⟨p, rfl, g, hk⟩ := h
  obtain ⟨c1, c2, s0, s1, m0, hl, _, _, _, _, _⟩ := g
  have hs : 1 < p.c → p.s ≤ 2 ^ 40 ∧ p.c - 1 ≤ (1099511627775 - p.m) / p.s := fun q => by
    have s1 := s1 q
    have e1 : p.s * 1 ≤ p.s * (p.c - 1) := Int.mul_le_mul_of_nonneg_left (by omega) (by omega)
    refine ⟨by omega, (Int.le_ediv_iff_mul_le (by omega)).mpr ?_⟩
    rw [Int.mul_comm]
    omega
  have hm : p.m ≤ 1099511627775 := by
    by_cases q : 1 < p.c
    · have s1 := s1 q
      have e1 : 0 ≤ p.s * (p.c - 1) := Int.mul_nonneg (by omega) (by omega)
      omega
    · have q : p.c = 1 := by omega
      rw [s0 q] at hl
      omega
  unfold r_first_bad_moment
  repeat' (first
    | exact absurd ‹false = true› (by decide)
    | exact absurd ‹true = false› (by decide)
    | ((with_reducible refine e_fldX ?_); refine ⟨_, _, _, rfl, T, by decide +kernel, _, rfl, ?_⟩)
    | walk_at "way by rule"
    | (with_reducible refine And.intro (by have q := of_decide_eq_true ‹decide (1 < p.c) = true›; have := hs q; have := s1 q; omega) ?_)
    | walk_at "way by form"
    | fail)
  all_goals simp only [Bool.not_eq_true', Bool.not_eq_false', Bool.not_true, Bool.not_false, decide_eq_true_eq, decide_eq_false_iff_not] at *
  all_goals by_cases q : 1 < p.c
  all_goals first
    | (exfalso; omega)
    | (exfalso; have h2 := s1 q; omega)
    | (have h1 := hs q; have h2 := s1 q; rw [show min p.c ((1099511627775 - p.m) / p.s + 1) = p.c by omega]; exact kup_of hk)
    | (rw [show min p.c 1 = p.c by omega]; exact kup_of hk)
theorem w_wrong_in (T : ClT K C XN) (h : wrongSp C w es n k) : WpS K w (r_wrong_in K (toSp K beyondSp) (toSp K (badmSp C))) (dstart ["piece", "ahead", "beyond"] es) n { nx := fun _ n' => kup k .non n', rt := kup k } := by
  obtain ⟨p, a, rfl, g, ha, hk⟩ := h
  unfold r_wrong_in
  rcases ha with rfl | ⟨z, rfl, hz⟩
  · repeat' (first
    | exact absurd ‹false = true› (by decide)
    | exact absurd ‹true = false› (by decide)
    | ((with_reducible refine e_fldX ?_); refine ⟨_, _, _, rfl, T, by decide +kernel, _, rfl, ?_⟩)
    | walk_at "way by rule"
    | refine ⟨_, _, _, _, rfl, .inr rfl, g.small, g.c1, g.c2, g.n2, g.vb, ?_⟩
    | refine ⟨p, rfl, g, ?_⟩
    | walk_at "way by form"
    | fail)
    all_goals (refine kup_of ?_; simpa using hk)
  · repeat' (first
    | exact absurd ‹false = true› (by decide)
    | exact absurd ‹true = false› (by decide)
    | exact absurd (of_decide_eq_true ‹decide (p.m ≤ z) = true›) (by omega)
    | ((with_reducible refine e_fldX ?_); refine ⟨_, _, _, rfl, T, by decide +kernel, _, rfl, ?_⟩)
    | walk_at "way by rule"
    | refine ⟨_, _, _, _, rfl, .inr rfl, g.small, g.c1, g.c2, g.n2, g.vb, ?_⟩
    | refine ⟨p, rfl, g, ?_⟩
    | walk_at "way by form"
    | fail)
    all_goals (refine kup_of ?_; simpa using hk)
theorem w_first_wrong (T : ClT K C XN) (h : fwSp C w es n k) : WpS K w (r_first_wrong K (toSp K (wrongSp C)) (toSp K (lastSp C))) (dstart ["pieces", "seen", "ahead", "piece", "spot"] es) n { nx := fun _ n' => kup k .non n', rt := kup k } := by
  obtain ⟨d, ps, rfl, hd, R, hk⟩ := h
  have ho := hd.own
  unfold r_first_wrong
  refine s_mid (mid := fun ds' n' => n' = n ∧ ds' = [some d, some (.int 0), some .non, none, none]) ?_ ?_
  · repeat' (first
    | exact absurd ‹false = true› (by decide)
    | exact absurd ‹true = false› (by decide)
    | walk_at "way by rule"
    | walk_at "way by form"
    | fail)
    all_goals rfl
  rintro ds' n' ⟨rfl, rfl⟩
  have iter : ∀ {k : List D → Nat → Prop} {n : Nat}, k (ps.map (pcO C)) n → WpI K w (iSeq K (tVar 0)) [some d, some (.int 0), some .non, none, none] n k := fun {k n} hk => by
    rcases hd with rfl | rfl
    · exact i_listV ⟨_, rfl, hk⟩
    · exact i_tupV ⟨_, rfl, hk⟩
  refine s_mid (mid := fun ds' n'' => n'' = n') (s_for (iter ?_)) ?_
  · refine ⟨fun i ds' n'' => n'' = n' ∧ ∃ (z : Int) (a : D) (v3 v4 : Option D), ds' = [some d, some (.int z), some a, v3, v4] ∧ ((i = 0 ∧ a = .non) ∨ ∃ j p, i = j + 1 ∧ ps[j]? = some p ∧ a = .int (lastM p)), ⟨rfl, 0, .non, none, none, rfl, .inl ⟨rfl, rfl⟩⟩, ?_, ?_⟩
    · rintro i x ds' n'' hx ⟨rfl, z, a, v3, v4, rfl, ha⟩
      rw [List.getElem?_map] at hx
      obtain ⟨p, hp, rfl⟩ := Option.map_eq_some_iff.mp hx
      have g := R.good p (List.mem_of_getElem? hp)
      have ha' : a = .non ∨ ∃ z, a = .int z ∧ z < p.m := by
        rcases ha with ⟨_, e⟩ | ⟨j, q, rfl, hq, e⟩
        · exact .inl e
        · exact .inr ⟨_, e, R.inc j q p hq hp⟩
      have ao : isOwn a = false := by rcases ha' with rfl | ⟨z, rfl, _⟩ <;> rfl
      refine ⟨_, _, g_name rfl, ?_⟩
      repeat' (first
    | exact absurd ‹false = true› (by decide)
    | exact absurd ‹true = false› (by decide)
    | exact absurd (of_decide_eq_true ‹decide (p.c < p.c) = true›) (by omega)
    | (guard_target =~ WpE _ _ _ _ _ _; first | ((with_reducible refine e_varX ?_); refine ⟨_, rfl, ao, ?_⟩) | ((with_reducible refine e_fldX ?_); refine ⟨_, _, _, rfl, T, by decide +kernel, _, rfl, ?_⟩))
    | walk_at "way by rule"
    | refine ⟨p, a, rfl, g, ha', ?_⟩
    | refine ⟨p, rfl, g, ?_⟩
    | walk_at "way by form"
    | fail)
      exact ⟨_, _, _, _, rfl, .inr ⟨i, p, rfl, hp, rfl⟩⟩
    · rintro ds' n'' ⟨rfl, _⟩
      rfl
  rintro ds' n'' rfl
  exact s_ret (e_non (kup_of hk))
theorem w_is_piece (T : ClT K C XN) (O : ObT K C) (h : pieceSp C w es n k) : WpS K w (r_is_piece K C (toSp K withinSp) (toSp K listedSp) (toSp K integerSp)) (dstart ["value", "one"] es) n { nx := fun _ n' => kup k .non n', rt := kup k } := by
  obtain ⟨p, rfl, g, hk⟩ := h
  obtain ⟨c1, c2, s0, s1, m0, hl, ⟨q1, q2, q3⟩, n2, n3, nz, _⟩ := g
  have e : (decide (1 ≤ p.c) && decide (p.c ≤ 2199023255552)) = true := by rw [Bool.and_eq_true]; exact ⟨decide_eq_true c1, decide_eq_true (by omega)⟩
  have iter : ∀ {k : List D → Nat → Prop} {n : Nat}, k (p.ns.map .int) n → WpI K w (iSeq K (tFld K (tVar 0) "numbers")) (dstart ["value", "one"] [pcO C p]) n k := fun {k n} hk => i_tup (e_fldX (by
    refine ⟨_, _, _, rfl, T, by decide +kernel, _, rfl, ?_⟩
    exact ⟨_, rfl, hk⟩))
  have tail : ∀ {k : Kn} {n : Nat}, k (.int (p.ns.getD (p.ns.length - 1) 0)) n → RD K w (rIx K) (.tup (p.ns.map .int)) (.int (-1)) n k := fun {k n} hk => rd_ixT (atI_last q1) hk
  have nk : (!decide (kindW p.per ∈ (["order", "period"] : List Str))) = false := by cases p.per <;> decide +kernel
  have ko : decide (kindW p.per = "order") = !p.per := by cases p.per <;> decide +kernel
  have kp : decide (kindW p.per = "period") = p.per := kindW_eq
  unfold r_is_piece
  repeat' (first
    | exact absurd ‹false = true› (by decide)
    | exact absurd ‹true = false› (by decide)
    | exact absurd ‹(!(decide (1 ≤ p.c) && decide (p.c ≤ 2199023255552))) = true› (by rw [e]; decide)
    | exact absurd ‹(!decide (kindW p.per ∈ (["order", "period"] : List Str))) = true› (by rw [nk]; decide)
    | exact absurd (s0 (of_decide_eq_true ‹decide (p.c = 1) = true›)) (by have z := ‹(!decide (p.s = 0)) = true›; simpa using z)
    | with_reducible refine tail ?_
    | (guard_target =~ WpE _ _ _ _ _ _; first | ((with_reducible refine e_fldX ?_); refine ⟨_, _, _, rfl, T, by decide +kernel, _, rfl, ?_⟩) | ((with_reducible refine e_lcIX ⟨fun _ => true, fun _ => .bl true, ?_⟩); (refine iter ?_)))
    | refine rd_ninStrs (xs := ["order", "period"]) ?_
    | refine isi_oo O (kit_self (by simp)) ?_
    | walk_at "way by rule"
    | refine ⟨p.ns, rfl, by omega, fun z hz => ?_, ?_⟩
    | walk_at "way by form"
    | fail)
  all_goals (simp only [ko, kp, List.length_map, Bool.not_eq_true', Bool.not_eq_false', decide_eq_true_eq, decide_eq_false_iff_not] at *)
  all_goals (cases hp : p.per <;> simp only [hp, if_true, if_false, Bool.false_eq_true] at *)
  all_goals first
    | exact kup_of hk
    | (exfalso; omega)
    | (exfalso; simp_all; done)
    | (rw [show (!decide (p.ns.getD (p.ns.length - 1) 0 = 0)) = true by rw [decide_eq_false (by rcases nz trivial with z | z <;> first | exact z | omega)]; rfl]; exact kup_of hk)
    | trace_state
end
end K43
set_option Elab.async false
set_option maxRecDepth 100000
set_option maxHeartbeats 4000000
set_option linter.all false
set_option autoImplicit false
/-! pieces: the refusals do not stand -/
namespace K43
variable [DW.Tb]
open PySem PySem.Spec PyProof.Rows L2 DW
section
variable {K : PySem.W.Frag} {w : Option Addr} {n : Nat} {k : Kn} {es : List D} {C : Addr}
theorem w_are_pieces (h : piecesSp C w es n k) : WpS K w (r_are_pieces K (toSp K listedSp) (toSp K (pieceSp C)) (toSp K (fwSp C))) (dstart ["value", "piece"] es) n { nx := fun _ n' => kup k .non n', rt := kup k } := by
  obtain ⟨d, ps, rfl, hd, R, hk⟩ := h
  have ho := hd.own
  have hl : ∀ {k : Kn} {n : Nat}, k (.bl true) n → listedSp w [d] n k := fun {k n} hk => by
    rcases hd with rfl | rfl
    · exact .inl ⟨_, rfl, hk⟩
    · exact .inr ⟨_, rfl, hk⟩
  have iter : ∀ {k : List D → Nat → Prop} {n : Nat}, k (ps.map (pcO C)) n → WpI K w (iSeq K (tVar 0)) (dstart ["value", "piece"] [d]) n k := fun {k n} hk => by
    rcases hd with rfl | rfl
    · exact i_listV ⟨_, rfl, hk⟩
    · exact i_tupV ⟨_, rfl, hk⟩
  unfold r_are_pieces
  repeat' (first
    | exact absurd ‹false = true› (by decide)
    | exact absurd ‹true = false› (by decide)
    | refine hl ?_
    | (guard_target =~ WpE _ _ _ _ _ _; first | ((with_reducible refine e_varX ?_); refine ⟨_, rfl, ho, ?_⟩) | ((with_reducible refine e_lcGX ⟨pcO C, fun _ => true, fun _ => .bl true, fun _ => rfl, ?_⟩); (refine iter ?_)))
    | walk_at "way by rule"
    | refine ⟨ps, rfl, R.len, fun z hz => ?_, ?_⟩
    | refine ⟨z, rfl, R.good z hz, ?_⟩
    | refine ⟨d, ps, rfl, hd, R, ?_⟩
    | walk_at "way by form"
    | fail)
  all_goals exact kup_of hk
theorem w_need_pieces (h : needPSp C w es n k) : WpS K w (r_need_pieces K (toSp K (piecesSp C))) (dstart ["part", "value"] es) n { nx := fun _ n' => kup k .non n', rt := kup k } := by
  obtain ⟨x, d, ps, rfl, hd, R, hk⟩ := h
  have ho := hd.own
  unfold r_need_pieces
  repeat' (first
    | exact absurd ‹false = true› (by decide)
    | exact absurd ‹true = false› (by decide)
    | ((with_reducible refine e_varX ?_); refine ⟨_, rfl, ho, ?_⟩)
    | walk_at "way by rule"
    | refine ⟨d, ps, rfl, hd, R, ?_⟩
    | walk_at "way by form"
    | fail)
  all_goals exact kup_of hk
end
end K43
set_option Elab.async false
set_option maxRecDepth 100000
set_option maxHeartbeats 4000000
set_option linter.all false
set_option autoImplicit false
/-! parts of pieces -/
namespace K43
variable [DW.Tb]
open PySem PySem.Spec PyProof.Rows L2 DW
theorem getD_take {L r : List Int} {j i : Nat} (hr : r = L.take j) (hi : i < r.length) : L.getD i 0 = r.getD i 0 := by
  subst hr
  rw [List.length_take] at hi
  rw [List.getD_eq_getElem?_getD, List.getD_eq_getElem?_getD, List.getElem?_take, if_pos (by omega)]
def TrimOf (l r : List Int) : Prop := ∃ j, r = l.take j ∧ 1 ≤ r.length ∧ (∀ i, r.length ≤ i → l.getD i 0 = 0) ∧ (r.length = 1 ∨ r.getD (r.length - 1) 0 ≠ 0)
abbrev trimSp : DSpW := fun w es n k => ∃ (l : List Int) (c : Nat), es = [.lst (l.map .int), .int c] ∧ 1 ≤ c ∧ 1 ≤ l.length ∧ l.length ≤ 1000 ∧ ∀ r, TrimOf (l.take c) r → k (.lst (r.map .int)) n
section
variable {K : PySem.W.Frag} {w : Option Addr} {n : Nat} {k : Kn} {es : List D} {C : Addr}
theorem w_trimmed (h : trimSp w es n k) : WpS K w (r_trimmed K) (dstart ["numbers", "count", "found"] es) n { nx := fun _ n' => kup k .non n', rt := kup k } := by
  obtain ⟨l, c, rfl, c1, l1, l2, hk⟩ := h
  unfold r_trimmed
  refine s_seq (s_own (f_sl ?_))
  repeat' (first
    | exact absurd ‹false = true› (by decide)
    | exact absurd ‹true = false› (by decide)
    | walk_at "way by rule"
    | walk_at "way by form"
    | fail)
  rw [cutD_take, ← List.map_take]
  refine s_while (fun m ds' n' => n' = n ∧ ∃ (r : List Int) (j : Nat), ds' = [some (.lst (l.map .int)), some (.int c), some (.own (r.map .int))] ∧ m = r.length ∧ r = (l.take c).take j ∧ 1 ≤ r.length ∧ (∀ i, r.length ≤ i → (l.take c).getD i 0 = 0)) (l.take c).length ⟨rfl, l.take c, (l.take c).length, rfl, rfl, (List.take_length).symm, by rw [List.length_take]; omega, fun i hi => ?_⟩ ?_
  · rw [List.getD_eq_getElem?_getD, List.getElem?_eq_none hi]; rfl
  rintro m ds' n' ⟨rfl, r, j, rfl, rfl, hr, r1, rz⟩
  repeat' (first
    | exact absurd ‹false = true› (by decide)
    | exact absurd ‹true = false› (by decide)
    | (guard_target =~ WpE _ _ _ _ _ _; first | ((with_reducible refine e_lenOwnX ?_); refine ⟨_, rfl, ?_⟩) | ((with_reducible refine e_ixOwnX ?_); refine ⟨_, rfl, ?_⟩))
    | (guard_target =~ WpS _ _ _ _ _ _; first | ((with_reducible refine s_popX ?_); refine ⟨_, rfl, ?_, ?_⟩) | (with_reducible refine s_retOwn rfl ?_))
    | walk_at "way by rule"
    | refine ⟨_, _, rfl, atI_last r1, ?_⟩
    | walk_at "way by form"
    | fail)
  · intro z
    rw [List.map_eq_nil_iff] at z
    rw [z] at r1
    simp at r1
  · rename_i q1 q2
    have q1 := of_decide_eq_true q1
    rw [List.length_map] at q1
    have q2 := of_decide_eq_true q2
    have hd : r.dropLast = (l.take c).take (min (r.length - 1) j) := by
      rw [List.dropLast_eq_take]
      conv => lhs; rw [hr]
      rw [List.take_take, ← hr]
    refine ⟨r.dropLast.length, by rw [List.length_dropLast]; omega, rfl, r.dropLast, min (r.length - 1) j, by rw [List.map_dropLast]; rfl, rfl, hd, by rw [List.length_dropLast]; omega, fun i hi => ?_⟩
    rw [List.length_dropLast] at hi
    by_cases e : r.length ≤ i
    · exact rz i e
    · have e : i = r.length - 1 := by omega
      rw [e, getD_take hr (by omega), q2]
  · rename_i q
    exact kup_of (hk r ⟨j, hr, r1, rz, .inr (of_decide_eq_false q)⟩)
  · rename_i q _
    have q := of_decide_eq_false q
    rw [List.length_map] at q
    exact kup_of (hk r ⟨j, hr, r1, rz, .inl (by omega)⟩)
end
end K43
set_option Elab.async false
set_option maxRecDepth 100000
set_option maxHeartbeats 4000000
set_option linter.all false
set_option autoImplicit false
/-! parts of pieces -/
namespace K43
variable [DW.Tb]
open PySem PySem.Spec PyProof.Rows L2 DW
def lapL (ns : List Int) (b : Int) (c : Int) : List Int := ((List.range (min (ns.length : Int) c).toNat).map fun i => (0 : Int) + (i : Nat)).map fun z => ns.getD ((b + z) % (ns.length : Int)).toNat 0
def PartOf (per : Bool) (ns : List Int) (b c : Int) (r : List Int) : Prop := (per = true → r = lapL ns b c) ∧ (per = false → TrimOf ([numAt false ns b, ns.getD 1 0 + ns.getD 2 0 * b, ns.getD 2 0].take c.toNat) r)
abbrev partSp : DSpW := fun w es n k => ∃ per nd ns b c, es = [.str (kindW per), nd, .int b, .int c] ∧ IsNs nd ns ∧ Small ns ∧ 0 ≤ b ∧ b ≤ 2 ^ 60 ∧ 1 ≤ c ∧ c ≤ 2 ^ 41 ∧ ∀ r, PartOf per ns b c r → k (.lst (r.map .int)) n
def belowN (p : Pc) (x : Int) : Int := if x ≤ p.m then 0 else if p.c = 1 then 1 else min p.c ((x - p.m - 1) / p.s + 1)
abbrev belowSp (C : Addr) : DSpW := fun w es n k => ∃ p x, es = [pcO C p, .int x] ∧ Good p ∧ -(2 ^ 60) ≤ x ∧ x ≤ 2 ^ 60 ∧ k (.int (belowN p x)) n
section
variable {K : PySem.W.Frag} {w : Option Addr} {n : Nat} {k : Kn} {es : List D} {C : Addr}
theorem w_part_of (h : partSp w es n k) : WpS K w (r_part_of K (toSp K padSp) (toSp K trimSp) (toSp K naSp)) (dstart ["kind", "numbers", "begin", "count", "first", "more", "bend", "at"] es) n { nx := fun _ n' => kup k .non n', rt := kup k } := by
  obtain ⟨per, nd, ns, b, c, rfl, hd, hs, b0, b2, c1, c2, hk⟩ := h
  obtain ⟨s1, s2, s3⟩ := id hs
  have ho := hd.own
  have lenR : ∀ {k : Kn} {n : Nat}, k (.int (ns.length : Int)) n → RC K w (rLenU K) [nd] n k := fun {k n} hk => by
    rcases hd with rfl | rfl
    · exact rc_lenL (by rw [List.length_map]; exact hk)
    · exact rc_lenT (by rw [List.length_map]; exact hk)
  have bb := getD_bnd (B := 2 ^ 60) (by decide) s3 2
  unfold r_part_of
  refine s_seq (s_if ?_)
  repeat' (first
    | exact absurd ‹false = true› (by decide)
    | exact absurd ‹true = false› (by decide)
    | walk_at "way by rule"
    | walk_at "way by form"
    | fail)
  · rename_i q
    have q : per = true := by rw [← kindW_eq (per := per)]; exact q
    subst q
    refine e_lcIX ⟨fun _ => true, fun z => .int (ns.getD ((b + z) % (ns.length : Int)).toNat 0), ?_⟩
    repeat' (first
    | exact absurd ‹false = true› (by decide)
    | exact absurd ‹true = false› (by decide)
    | with_reducible refine lenR ?_
    | ((with_reducible refine e_varX ?_); refine ⟨_, rfl, ho, ?_⟩)
    | walk_at "way by rule"
    | walk_at "way by form"
    | fail)
    refine ⟨(List.range (min (ns.length : Int) c).toNat).map fun i => (0 : Int) + (i : Nat), by rw [List.map_map]; rfl, by rw [List.length_map, List.length_range]; omega, fun z hz' => ?_, ?_⟩
    · repeat' (first
    | exact absurd ‹false = true› (by decide)
    | exact absurd ‹true = false› (by decide)
    | with_reducible refine lenR ?_
    | (refine rd_ixNs hd ⟨⟨Int.emod_nonneg _ (by omega), Int.emod_lt_of_pos _ (by omega)⟩, ?_⟩)
    | ((with_reducible refine e_varX ?_); refine ⟨_, rfl, ho, ?_⟩)
    | walk_at "way by rule"
    | walk_at "way by form"
    | fail)
      all_goals exact ⟨rfl, rfl⟩
    · have e : ((((List.range (min (ns.length : Int) c).toNat).map fun i => (0 : Int) + (i : Nat)).filter fun _ => true).map fun z => D.int (ns.getD ((b + z) % (ns.length : Int)).toNat 0)) = (lapL ns b c).map .int := by
        rw [List.filter_eq_self.mpr fun _ _ => rfl]
        unfold lapL
        rw [List.map_map, List.map_map, List.map_map]
        rfl
      rw [e]
      exact kup_of (hk _ ⟨fun _ => rfl, fun z => (nomatch z)⟩)
  · rename_i q
    have q : per = false := by rw [← kindW_eq (per := per)]; exact q
    subst q
    obtain ⟨cn, rfl⟩ := Int.eq_ofNat_of_zero_le (show 0 ≤ c by omega)
    repeat' (first
    | exact absurd ‹false = true› (by decide)
    | exact absurd ‹true = false› (by decide)
    | ((with_reducible refine e_varX ?_); refine ⟨_, rfl, ho, ?_⟩)
    | walk_at "way by rule"
    | refine ⟨_, _, rfl, hd, s1, s2, ?_⟩
    | refine ⟨_, _, g_lst (gs_cons g_name (gs_cons g_name (gs_cons g_name gs_nil))) rfl, ?_⟩
    | refine ⟨_, _, _, _, rfl, hd, hs, b0, b2, ?_⟩
    | refine ⟨[numAt false ns b, ns.getD 1 0 + ns.getD 2 0 * b, ns.getD 2 0], cn, rfl, by omega, by simp, by simp, fun r hr => ?_⟩
    | walk_at "way by form"
    | fail)
    exact kup_of (hk r ⟨fun z => (nomatch z), fun _ => hr⟩)
theorem w_below_in (T : ClT K C XN) (h : belowSp C w es n k) : WpS K w (r_below_in K) (dstart ["piece", "moment"] es) n { nx := fun _ n' => kup k .non n', rt := kup k } := by
  obtain ⟨p, x, rfl, g, x1, x2, hk⟩ := h
  obtain ⟨c1, c2, s0, s1, m0, hl, _, _, _, _, _⟩ := g
  have hs : 1 < p.c → p.s ≤ 2 ^ 40 := fun q => by
    have s1 := s1 q
    have e1 : p.s * 1 ≤ p.s * (p.c - 1) := Int.mul_le_mul_of_nonneg_left (by omega) (by omega)
    omega
  unfold belowN at hk
  unfold r_below_in
  repeat' (first
    | exact absurd ‹false = true› (by decide)
    | exact absurd ‹true = false› (by decide)
    | ((with_reducible refine e_fldX ?_); refine ⟨_, _, _, rfl, T, by decide +kernel, _, rfl, ?_⟩)
    | walk_at "way by rule"
    | (with_reducible refine And.intro (by have q := of_decide_eq_false ‹decide (p.c = 1) = false›; have := hs (by omega); have := s1 (by omega); omega) ?_)
    | walk_at "way by form"
    | fail)
  all_goals simp only [decide_eq_true_eq, decide_eq_false_iff_not] at *
  · rw [if_pos (by assumption)] at hk; exact kup_of hk
  · rw [if_neg (by assumption), if_pos (by assumption)] at hk; exact kup_of hk
  · rw [if_neg (by assumption), if_neg (by assumption)] at hk; exact kup_of hk
end
end K43
set_option autoImplicit false
set_option linter.all false
/-! plain laws: parts of pieces -/
namespace K43
variable [DW.Tb]
theorem pairs_two (x : Int) : 2 * pairs x = x * (x - 1) := by
  unfold pairs
  have h : x * (x - 1) % 2 = 0 := by
    rcases Int.emod_two_eq x with e | e
    · rw [Int.mul_emod, e]; simp
    · rw [Int.mul_emod, Int.sub_emod, e]; simp
  omega
theorem pairs_add (b i : Int) : pairs (b + i) = pairs b + b * i + pairs i := by
  have h1 := pairs_two (b + i)
  have h2 := pairs_two b
  have h3 := pairs_two i
  have e : (b + i) * (b + i - 1) = b * (b - 1) + 2 * (b * i) + i * (i - 1) := by
    rw [Int.mul_sub, Int.mul_sub, Int.mul_sub, Int.add_mul, Int.mul_add, Int.mul_add, Int.mul_comm i b]
    omega
  rw [e] at h1
  omega
theorem TrimOf.getD {l r : List Int} (h : TrimOf l r) (i : Nat) : r.getD i 0 = l.getD i 0 := by
  obtain ⟨j, hr, h1, h2, h3⟩ := h
  by_cases q : i < r.length
  · exact (getD_take hr q).symm
  · rw [h2 i (by omega), List.getD_eq_getElem?_getD, List.getElem?_eq_none (by omega)]; rfl
theorem TrimOf.len {l r : List Int} (h : TrimOf l r) : 1 ≤ r.length ∧ r.length ≤ l.length := by
  obtain ⟨j, hr, h1, h2, h3⟩ := h
  refine ⟨h1, ?_⟩
  rw [hr, List.length_take]
  omega
/-- the numbers of a part -/
theorem part_num {per : Bool} {ns r : List Int} {b c : Int} (hn : 1 ≤ ns.length) (hb : 0 ≤ b) (hc : 1 ≤ c) (h : PartOf per ns b c r) {i : Int} (h0 : 0 ≤ i) (hi : i < c) : numAt per r i = numAt per ns (b + i) := by
  obtain ⟨hp, ho⟩ := h
  cases per with
  | true =>
    rw [hp rfl]
    unfold numAt
    rw [if_pos rfl, if_pos rfl]
    have hl : (lapL ns b c).length = (min (ns.length : Int) c).toNat := by unfold lapL; rw [List.length_map, List.length_map, List.length_range]
    have hm : (0 : Int) < (min (ns.length : Int) c).toNat := by omega
    have e1 := Int.emod_nonneg i (show ((min (ns.length : Int) c).toNat : Int) ≠ 0 by omega)
    have e2 := Int.emod_lt_of_pos i hm
    rw [hl]
    have hlt : (i % ((min (ns.length : Int) c).toNat : Int)).toNat < (min (ns.length : Int) c).toNat := by omega
    have g : (lapL ns b c).getD (i % ((min (ns.length : Int) c).toNat : Int)).toNat 0 = ns.getD ((b + i % ((min (ns.length : Int) c).toNat : Int)) % (ns.length : Int)).toNat 0 := by
      rw [List.getD_eq_getElem?_getD]
      unfold lapL
      rw [List.getElem?_map, List.getElem?_map, List.getElem?_range hlt]
      show ns.getD ((b + (0 + (((i % ((min (ns.length : Int) c).toNat : Int)).toNat : Nat) : Int))) % (ns.length : Int)).toNat 0 = _
      rw [Int.zero_add, Int.toNat_of_nonneg e1]
    rw [g]
    congr 2
    by_cases q : (ns.length : Int) ≤ c
    · rw [show ((min (ns.length : Int) c).toNat : Int) = (ns.length : Int) by omega]
      rw [Int.add_emod, Int.emod_emod_of_dvd _ (Int.dvd_refl _), ← Int.add_emod]
    · rw [show ((min (ns.length : Int) c).toNat : Int) = c by omega, Int.emod_eq_of_lt h0 hi]
  | false =>
    have ht := (ho rfl).getD
    unfold numAt
    rw [if_neg (by simp), if_neg (by simp), ht, ht, ht]
    have p0 : pairs 0 = 0 := rfl
    have p1 : pairs 1 = 0 := rfl
    have add := pairs_add b i
    have key : numAt false ns b + (ns.getD 1 0 + ns.getD 2 0 * b) * i + ns.getD 2 0 * pairs i = ns.getD 0 0 + ns.getD 1 0 * (b + i) + ns.getD 2 0 * pairs (b + i) := by
      unfold numAt
      rw [if_neg (by simp), add, Int.mul_add, Int.mul_add, Int.mul_add, Int.add_mul, Int.mul_assoc]
      omega
    rw [← key]
    obtain ⟨cn, rfl⟩ := Int.eq_ofNat_of_zero_le (show 0 ≤ c by omega)
    match cn, hc, hi with
    | 1, _, hi =>
      obtain rfl : i = 0 := by omega
      simp [p0]
    | 2, _, hi =>
      have : i = 0 ∨ i = 1 := by omega
      rcases this with rfl | rfl <;> simp [p0, p1]
    | (m + 3), _, _ => rfl
end K43
set_option autoImplicit false
set_option linter.all false
/-! plain laws: a part of a good piece is good -/
namespace K43
variable [DW.Tb]
theorem mem_getD {r : List Int} {z : Int} (h : z ∈ r) : ∃ i, i < r.length ∧ r.getD i 0 = z := by
  obtain ⟨i, hi, e⟩ := List.mem_iff_getElem.mp h
  refine ⟨i, hi, ?_⟩
  rw [List.getD_eq_getElem?_getD, List.getElem?_eq_getElem hi, e]; rfl
def partPc (p : Pc) (b c : Int) (r : List Int) : Pc := ⟨p.m + p.s * b, if 1 < c then p.s else 0, c, p.per, r⟩
theorem Good.s_nn {p : Pc} (g : Good p) : 0 ≤ p.s := by
  by_cases q : p.c = 1
  · rw [g.s0 q]; exact Int.le_refl _
  · have := g.s1 (by have := g.c1; omega)
    omega
theorem step_num (ns : List Int) (b : Int) : numAt false ns (b + 1) - numAt false ns b = ns.getD 1 0 + ns.getD 2 0 * b := by
  unfold numAt
  rw [if_neg (by simp), if_neg (by simp), pairs_add, show pairs 1 = 0 from rfl, Int.mul_one, Int.mul_add, Int.mul_one, Int.add_zero, Int.mul_add]
  omega
theorem part_small {p : Pc} (g : Good p) {b c : Int} {r : List Int} (b0 : 0 ≤ b) (c1 : 1 ≤ c) (hbc : b + c ≤ p.c) (h : PartOf p.per p.ns b c r) : Small r ∧ (r.length : Int) ≤ c ∧ (r.length ≤ if p.per = true then 8 else 3) ∧ (p.per = false → r.length = 1 ∨ r.getD (r.length - 1) 0 ≠ 0) := by
  obtain ⟨hp, ho⟩ := h
  obtain ⟨s1, s2, s3⟩ := g.small
  have n3 := g.n3
  cases hper : p.per with
  | true =>
    rw [hper] at n3
    rw [if_pos rfl] at n3
    have hl : r.length = (min (p.ns.length : Int) c).toNat := by rw [hp hper]; unfold lapL; rw [List.length_map, List.length_map, List.length_range]
    refine ⟨⟨by omega, by omega, fun z hz => ?_⟩, by omega, by rw [if_pos rfl]; omega, fun z => nomatch z⟩
    rw [hp hper] at hz
    unfold lapL at hz
    obtain ⟨y, _, rfl⟩ := List.mem_map.mp hz
    exact getD_bnd (by decide) s3 _
  | false =>
    have t := ho hper
    obtain ⟨t1, t2⟩ := t.len
    rw [List.length_take] at t2
    have t3 : ([numAt false p.ns b, p.ns.getD 1 0 + p.ns.getD 2 0 * b, p.ns.getD 2 0] : List Int).length = 3 := rfl
    rw [t3] at t2
    have v := g.vb
    rw [hper] at v
    refine ⟨⟨t1, by omega, fun z hz => ?_⟩, by omega, by rw [if_neg (by simp)]; omega, fun _ => t.choose_spec.2.2.2⟩
    obtain ⟨i, hi, rfl⟩ := mem_getD hz
    rw [t.getD, List.getD_eq_getElem?_getD, List.getElem?_take, if_pos (by omega)]
    match i, hi with
    | 0, _ =>
      have := v b b0 (by omega)
      show -(2 ^ 60) ≤ numAt false p.ns b ∧ numAt false p.ns b ≤ 2 ^ 60
      omega
    | 1, hi =>
      have h1 := v b b0 (by omega)
      have h2 := v (b + 1) (by omega) (by omega)
      have h3 := step_num p.ns b
      show -(2 ^ 60) ≤ p.ns.getD 1 0 + p.ns.getD 2 0 * b ∧ p.ns.getD 1 0 + p.ns.getD 2 0 * b ≤ 2 ^ 60
      omega
    | 2, _ => exact getD_bnd (B := 2 ^ 60) (by decide) s3 2
    | (m + 3), hi => omega
theorem part_good {p : Pc} (g : Good p) {b c : Int} {r : List Int} (b0 : 0 ≤ b) (c1 : 1 ≤ c) (hbc : b + c ≤ p.c) (h : PartOf p.per p.ns b c r) : Good (partPc p b c r) := by
  obtain ⟨a1, a2, a3, a4⟩ := part_small g b0 c1 hbc h
  have sn := g.s_nn
  have k1 : 0 ≤ p.s * b := Int.mul_nonneg sn b0
  have k2 : p.s * (b + (c - 1)) ≤ p.s * (p.c - 1) := Int.mul_le_mul_of_nonneg_left (by omega) sn
  rw [Int.mul_add] at k2
  have k3 : 0 ≤ p.s * (c - 1) := Int.mul_nonneg sn (by omega)
  have m0 := g.m0
  have hl := g.last
  have c2 := g.c2
  refine ⟨c1, by show c ≤ _; omega, fun q => ?_, fun q => ?_, by show 0 ≤ p.m + p.s * b; omega, ?_, a1, a2, a3, a4, fun i i0 ic => ?_⟩
  · have q : c = 1 := q
    show (if 1 < c then p.s else 0) = 0
    rw [if_neg (by omega)]
  · have q : 1 < c := q
    show 1 ≤ if 1 < c then p.s else 0
    rw [if_pos q]
    exact g.s1 (by omega)
  · show p.m + p.s * b + (if 1 < c then p.s else 0) * (c - 1) ≤ 2 ^ 40 - 1
    by_cases q : 1 < c
    · rw [if_pos q]; omega
    · rw [if_neg q, Int.zero_mul]; omega
  · show -(2 ^ 40) ≤ numAt p.per r i ∧ numAt p.per r i ≤ 2 ^ 40
    have ic : i < c := ic
    rw [part_num g.small.n1 b0 c1 h i0 ic]
    exact g.vb (b + i) (by omega) (by omega)
end K43
set_option Elab.async false
set_option maxRecDepth 100000
set_option maxHeartbeats 4000000
set_option linter.all false
set_option autoImplicit false
/-! parts of pieces, made -/
namespace K43
variable [DW.Tb]
open PySem PySem.Spec PyProof.Rows L2 DW
abbrev popSp (C : Addr) : DSpW := fun w es n k => ∃ p b c, es = [pcO C p, .int b, .int c] ∧ Good p ∧ 0 ≤ b ∧ 1 ≤ c ∧ b + c ≤ p.c ∧ ∀ r, PartOf p.per p.ns b c r → k (pcO C (partPc p b c r)) n
section
variable {K : PySem.W.Frag} {w : Option Addr} {n : Nat} {k : Kn} {es : List D} {C : Addr}
theorem w_part_of_piece (T : ClT K C XN) (h : popSp C w es n k) : WpS K w (r_part_of_piece K (toSp K partSp) C (initSp K C gX) (toSp K (momSp C))) (dstart ["piece", "begin", "count", "numbers"] es) n { nx := fun _ n' => kup k .non n', rt := kup k } := by
  obtain ⟨p, b, c, rfl, g, b0, c1, hbc, hk⟩ := h
  have c2 := g.c2
  have hz : ∀ r, PartOf p.per p.ns b c r → r.length ≤ 100000 := fun r hr => by
    have := (part_small g b0 c1 hbc hr).1.n2
    omega
  unfold r_part_of_piece
  repeat' (first
    | exact absurd ‹false = true› (by decide)
    | exact absurd ‹true = false› (by decide)
    | (guard_target =~ WpE _ _ _ _ _ _; first | ((with_reducible refine e_fldX ?_); refine ⟨_, _, _, rfl, T, by decide +kernel, _, rfl, ?_⟩) | with_reducible refine e_make ?_)
    | walk_at "way by rule"
    | refine ⟨_, _, _, _, _, rfl, .inr rfl, g.small, by omega, by omega, by omega, by omega, fun r hr => ?_⟩
    | refine ⟨_, _, _, _, _, _, rfl, by omega, by omega, ?_⟩
    | walk_at "way by form"
    | fail)
  · rename_i q
    have q := of_decide_eq_true q
    refine ⟨XN, _, ⟨_, _, _, p.per, _, r, rfl, .inl rfl, hz r hr, rfl, rfl⟩, ?_⟩
    have e := kup_of (hk r hr)
    unfold partPc at e
    rw [if_pos q] at e
    exact e
  · rename_i q
    have q := of_decide_eq_false q
    refine ⟨XN, _, ⟨_, _, _, p.per, _, r, rfl, .inl rfl, hz r hr, rfl, rfl⟩, ?_⟩
    have e := kup_of (hk r hr)
    unfold partPc at e
    rw [if_neg q] at e
    exact e
end
end K43
set_option autoImplicit false
set_option linter.all false
/-! plain laws: rows as lists of points -/
namespace K43
variable [DW.Tb]
abbrev Pt := Int × Int
def ptAt (p : Pc) (i : Int) : Pt := (p.m + p.s * i, numAt p.per p.ns i)
def pts (p : Pc) : List Pt := (List.range p.c.toNat).map fun i => ptAt p (i : Nat)
def ptsR (ps : List Pc) : List Pt := ps.flatMap pts
theorem pts_len {p : Pc} : (pts p).length = p.c.toNat := by unfold pts; simp
theorem pts_getE {p : Pc} {i : Nat} (h : i < (pts p).length) : (pts p)[i] = ptAt p (i : Nat) := by simp [pts]
theorem ptsR_cons {p : Pc} {ps : List Pc} : ptsR (p :: ps) = pts p ++ ptsR ps := rfl
theorem ptsR_append {ps qs : List Pc} : ptsR (ps ++ qs) = ptsR ps ++ ptsR qs := by unfold ptsR; simp
theorem range_take (n k : Nat) (h : k ≤ n) : (List.range n).take k = List.range k := by
  rw [List.take_range, Nat.min_eq_left h]
theorem range_drop (n k : Nat) : (List.range n).drop k = (List.range (n - k)).map fun i => k + i := by
  apply List.ext_getElem
  · simp
  · intro i h1 h2
    simp
/-- the points of a part -/
theorem pts_part {p : Pc} (g : Good p) {b c : Int} {r : List Int} (b0 : 0 ≤ b) (c1 : 1 ≤ c) (hbc : b + c ≤ p.c) (h : PartOf p.per p.ns b c r) : pts (partPc p b c r) = ((pts p).drop b.toNat).take c.toNat := by
  unfold pts
  rw [← List.map_drop, ← List.map_take, range_drop, ← List.map_take, range_take _ _ (by omega), List.map_map]
  apply List.map_congr_left
  intro i hi
  have hi := List.mem_range.mp hi
  have hic : (i : Int) < c := by
    have : ((partPc p b c r).c) = c := rfl
    rw [this] at hi
    omega
  show ptAt (partPc p b c r) (i : Nat) = ptAt p ((b.toNat + i : Nat) : Int)
  have e : ((b.toNat + i : Nat) : Int) = b + i := by omega
  rw [e]
  unfold ptAt
  refine Prod.ext ?_ ?_
  · show p.m + p.s * b + (if 1 < c then p.s else 0) * (i : Int) = p.m + p.s * (b + i)
    rw [Int.mul_add]
    by_cases q : 1 < c
    · rw [if_pos q]; omega
    · have : (i : Int) = 0 := by omega
      rw [this, Int.mul_zero, Int.mul_zero]; omega
  · exact part_num g.small.n1 b0 c1 h (by omega) hic
/-- sorted by moments -/
def Sorted (l : List Pt) : Prop := l.Pairwise fun a b => a.1 < b.1
theorem pts_sorted {p : Pc} (g : Good p) : Sorted (pts p) := by
  unfold Sorted pts
  rw [List.pairwise_map]
  refine List.Pairwise.imp_of_mem ?_ (List.pairwise_lt_range (n := p.c.toNat))
  intro i j hi hj h
  have hj := List.mem_range.mp hj
  have := g.s1 (by omega)
  show p.m + p.s * (i : Int) < p.m + p.s * (j : Int)
  have : p.s * (i : Int) < p.s * (j : Int) := Int.mul_lt_mul_of_pos_left (by omega) (by omega)
  omega
theorem pts_mem {p : Pc} {x : Pt} : x ∈ pts p ↔ ∃ i : Int, 0 ≤ i ∧ i < p.c ∧ x = ptAt p i := by
  unfold pts
  rw [List.mem_map]
  constructor
  · rintro ⟨i, hi, rfl⟩
    have hi := List.mem_range.mp hi
    exact ⟨i, by omega, by omega, rfl⟩
  · rintro ⟨i, h0, h1, rfl⟩
    obtain ⟨j, rfl⟩ := Int.eq_ofNat_of_zero_le h0
    exact ⟨j, List.mem_range.mpr (by omega), rfl⟩
theorem pts_bnd {p : Pc} (g : Good p) {x : Pt} (h : x ∈ pts p) : p.m ≤ x.1 ∧ x.1 ≤ lastM p ∧ -(2 ^ 40) ≤ x.2 ∧ x.2 ≤ 2 ^ 40 := by
  obtain ⟨i, h0, h1, rfl⟩ := pts_mem.mp h
  have v := g.vb i h0 h1
  have s := g.s_nn
  have e1 : 0 ≤ p.s * i := Int.mul_nonneg s h0
  have e2 : p.s * i ≤ p.s * (p.c - 1) := Int.mul_le_mul_of_nonneg_left (by omega) s
  refine ⟨?_, ?_, v.1, v.2⟩
  · show p.m ≤ p.m + p.s * i; omega
  · show p.m + p.s * i ≤ p.m + p.s * (p.c - 1); omega
theorem last_ge {p : Pc} (g : Good p) : p.m ≤ lastM p := by
  have := g.s_nn
  have := g.c1
  have e1 : 0 ≤ p.s * (p.c - 1) := Int.mul_nonneg g.s_nn (by omega)
  unfold lastM; omega
theorem Row.tail {p : Pc} {ps : List Pc} (R : Row (p :: ps)) : Row ps := ⟨by have := R.len; simp at this; omega, fun q hq => R.good q (List.mem_cons_of_mem _ hq), fun i a b ha hb => R.inc (i + 1) a b ha hb⟩
/-- all that is behind a piece -/
theorem row_after {p : Pc} : ∀ {ps : List Pc}, Row (p :: ps) → ∀ q ∈ ps, lastM p < q.m
  | [], _, q, hq => by simp at hq
  | a :: ps, R, q, hq => by
    have h0 : lastM p < a.m := R.inc 0 p a rfl rfl
    rcases List.mem_cons.mp hq with rfl | hq
    · exact h0
    · have := row_after (ps := ps) R.tail q hq
      have := last_ge (R.good a (by simp))
      omega
theorem row_sorted : ∀ {ps : List Pc}, Row ps → Sorted (ptsR ps)
  | [], _ => List.Pairwise.nil
  | p :: ps, R => by
    rw [ptsR_cons]
    refine List.pairwise_append.mpr ⟨pts_sorted (R.good p (by simp)), row_sorted R.tail, fun x hx y hy => ?_⟩
    obtain ⟨q, hq, hy⟩ := List.mem_flatMap.mp hy
    have h1 := pts_bnd (R.good p (by simp)) hx
    have h2 := pts_bnd (R.good q (List.mem_cons_of_mem _ hq)) hy
    have := row_after R q hq
    omega
theorem Row.nil : Row [] := ⟨by simp, fun p hp => by simp at hp, fun i p q h => by simp at h⟩
theorem Row.cons {p : Pc} {ps : List Pc} (g : Good p) (R : Row ps) (hl : ps.length < 100000) (h : ∀ q ∈ ps.head?, lastM p < q.m) : Row (p :: ps) := by
  refine ⟨by simp; omega, fun q hq => ?_, fun i a b ha hb => ?_⟩
  · rcases List.mem_cons.mp hq with rfl | hq
    · exact g
    · exact R.good q hq
  · cases i with
    | zero =>
      cases ha
      refine h b ?_
      rw [List.head?_eq_getElem?]
      exact hb
    | succ j => exact R.inc j a b ha hb
theorem Row.one {p : Pc} (g : Good p) : Row [p] := Row.cons g Row.nil (by simp) (fun q hq => by simp at hq)
theorem Row.append {ps qs : List Pc} (R : Row ps) (S : Row qs) (hl : ps.length + qs.length ≤ 100000) (h : ∀ p ∈ ps, ∀ q ∈ qs, lastM p < q.m) : Row (ps ++ qs) := by
  induction ps with
  | nil => exact S
  | cons p ps ih =>
    have := ih R.tail (by simp at hl; omega) (fun a ha b hb => h a (List.mem_cons_of_mem _ ha) b hb)
    refine Row.cons (R.good p (by simp)) this (by simp at hl ⊢; omega) (fun q hq => ?_)
    cases ps with
    | nil =>
      refine h p (by simp) q ?_
      exact List.mem_of_mem_head? hq
    | cons a ps =>
      cases hq
      exact row_after R _ (by simp)
/-! ### the first unlike moment -/
/-- the least moment of a point that one row has and the other has not -/
theorem sorted_not {x : Pt} {l : List Pt} (h : Sorted (x :: l)) : ∀ y ∈ l, x.1 < y.1 := (List.pairwise_cons.mp h).1
/-! ### two pieces beside each other -/
theorem Good.len8 {p : Pc} (g : Good p) : p.ns.length ≤ 8 := by
  have := g.n3
  split at this <;> omega
theorem pts_drop_cons {p : Pc} {r : Int} (h0 : 0 ≤ r) (h1 : r < p.c) : (pts p).drop r.toNat = ptAt p r :: (pts p).drop (r.toNat + 1) := by
  have hl : r.toNat < (pts p).length := by rw [pts_len]; omega
  rw [List.drop_eq_getElem_cons hl]
  congr 1
  rw [pts_getE]
  congr 1
  omega
/-- what rest_of tells, as points -/
theorem pts_rest {p : Pc} (g : Good p) {c : Int} {r : List Int} (c0 : 0 ≤ c) (c1 : c < p.c) (h : PartOf p.per p.ns c (p.c - c) r) : pts (partPc p c (p.c - c) r) = (pts p).drop c.toNat := by
  rw [pts_part g c0 (by omega) (by omega) h, List.take_of_length_le]
  rw [List.length_drop, pts_len]
  omega
theorem pts_all {p : Pc} : (pts p).drop p.c.toNat = [] := by
  rw [List.drop_eq_nil_iff, pts_len]; exact Nat.le_refl _
theorem part_last {p : Pc} (g : Good p) {b c : Int} {r : List Int} (b0 : 0 ≤ b) (c1 : 1 ≤ c) (hbc : b + c ≤ p.c) : lastM (partPc p b c r) ≤ lastM p ∧ p.m ≤ (partPc p b c r).m := by
  have s := g.s_nn
  have k0 : 0 ≤ p.s * b := Int.mul_nonneg s b0
  have k2 : p.s * (b + (c - 1)) ≤ p.s * (p.c - 1) := Int.mul_le_mul_of_nonneg_left (by omega) s
  rw [Int.mul_add] at k2
  have k3 : 0 ≤ p.s * (c - 1) := Int.mul_nonneg s (by omega)
  refine ⟨?_, by show p.m ≤ p.m + p.s * b; omega⟩
  show p.m + p.s * b + (if 1 < c then p.s else 0) * (c - 1) ≤ p.m + p.s * (p.c - 1)
  by_cases q : 1 < c
  · rw [if_pos q]; omega
  · rw [if_neg q, Int.zero_mul]; omega
theorem Row.rest {p : Pc} {ps : List Pc} (R : Row (p :: ps)) {c : Int} {r : List Int} (c0 : 0 ≤ c) (c1 : c < p.c) (h : PartOf p.per p.ns c (p.c - c) r) : Row (partPc p c (p.c - c) r :: ps) := by
  have g := R.good p (by simp)
  have hl := R.len
  simp at hl
  refine Row.cons (part_good g c0 (by omega) (by omega) h) R.tail (by omega) fun q hq => ?_
  have h1 := (part_last g (r := r) c0 (show 1 ≤ p.c - c by omega) (by omega)).1
  cases ps with
  | nil => simp at hq
  | cons a ps =>
    cases hq
    have := row_after R _ (List.mem_cons_self)
    omega
/-! ### cuts -/
theorem filter_cut {l : List Pt} {f : Pt → Bool} {k : Nat} (h1 : ∀ x ∈ l.take k, f x = true) (h2 : ∀ x ∈ l.drop k, f x = false) : l.filter f = l.take k := by
  conv => lhs; rw [← List.take_append_drop k l, List.filter_append, List.filter_eq_self.mpr h1, List.filter_eq_nil_iff.mpr (fun x hx => by rw [h2 x hx]; simp), List.append_nil]
theorem below_spec {p : Pc} (g : Good p) (x : Int) : 0 ≤ belowN p x ∧ belowN p x ≤ p.c ∧ ∀ i, 0 ≤ i → i < p.c → (i < belowN p x ↔ p.m + p.s * i < x) := by
  have c1 := g.c1
  have s0 := g.s_nn
  unfold belowN
  by_cases h : x ≤ p.m
  · rw [if_pos h]
    refine ⟨by omega, by omega, fun i i0 i1 => ?_⟩
    have : 0 ≤ p.s * i := Int.mul_nonneg s0 i0
    omega
  · rw [if_neg h]
    by_cases q : p.c = 1
    · rw [if_pos q]
      refine ⟨by omega, by omega, fun i i0 i1 => ?_⟩
      have : i = 0 := by omega
      subst this
      rw [Int.mul_zero]; omega
    · rw [if_neg q]
      have s1 := g.s1 (by omega)
      have e0 : 0 ≤ (x - p.m - 1) / p.s := Int.ediv_nonneg (by omega) (by omega)
      refine ⟨by omega, by omega, fun i i0 i1 => ?_⟩
      have k : i ≤ (x - p.m - 1) / p.s ↔ i * p.s ≤ x - p.m - 1 := Int.le_ediv_iff_mul_le (by omega)
      rw [Int.mul_comm] at k
      omega
theorem mem_take_pts {p : Pc} {k : Int} {x : Pt} (h : x ∈ (pts p).take k.toNat) (hk : k ≤ p.c) : ∃ i, 0 ≤ i ∧ i < k ∧ x = ptAt p i := by
  unfold pts at h
  rw [← List.map_take, range_take _ _ (by omega)] at h
  obtain ⟨i, hi, rfl⟩ := List.mem_map.mp h
  have := List.mem_range.mp hi
  exact ⟨i, by omega, by omega, rfl⟩
theorem mem_drop_pts {p : Pc} {k : Int} {x : Pt} (k0 : 0 ≤ k) (h : x ∈ (pts p).drop k.toNat) : ∃ i, k ≤ i ∧ i < p.c ∧ x = ptAt p i := by
  unfold pts at h
  rw [← List.map_drop, range_drop, List.map_map] at h
  obtain ⟨i, hi, rfl⟩ := List.mem_map.mp h
  have := List.mem_range.mp hi
  exact ⟨((k.toNat + i : Nat) : Int), by omega, by omega, rfl⟩
theorem pts_below {p : Pc} (g : Good p) (x : Int) : (pts p).filter (fun y => decide (y.1 < x)) = (pts p).take (belowN p x).toNat := by
  obtain ⟨b0, b1, b2⟩ := below_spec g x
  refine filter_cut (fun y hy => ?_) (fun y hy => ?_)
  · obtain ⟨i, i0, i1, rfl⟩ := mem_take_pts hy b1
    exact decide_eq_true ((b2 i i0 (by omega)).mp i1)
  · obtain ⟨i, i0, i1, rfl⟩ := mem_drop_pts b0 hy
    exact decide_eq_false fun z => by have := (b2 i (by omega) i1).mpr z; omega
theorem pts_between {p : Pc} (g : Good p) (x y : Int) : (pts p).filter (fun z => decide (x ≤ z.1) && decide (z.1 < y)) = ((pts p).drop (belowN p x).toNat).take (belowN p y - belowN p x).toNat := by
  obtain ⟨b0, b1, b2⟩ := below_spec g x
  obtain ⟨c0, c1, c2⟩ := below_spec g y
  conv => lhs; rw [← List.take_append_drop (belowN p x).toNat (pts p)]
  rw [List.filter_append, List.filter_eq_nil_iff.mpr (fun z hz => ?_), List.nil_append]
  · refine filter_cut (fun z hz => ?_) (fun z hz => ?_)
    · have hz1 := List.mem_of_mem_take hz
      obtain ⟨i, i0, i1, rfl⟩ := mem_drop_pts b0 hz1
      obtain ⟨j, hj, e⟩ := List.mem_iff_getElem.mp hz
      rw [List.getElem_take, List.getElem_drop] at e
      rw [List.length_take, List.length_drop] at hj
      unfold pts at e
      rw [List.getElem_map, List.getElem_range] at e
      have h1 := c2 (((belowN p x).toNat + j : Nat) : Int) (by omega) (by rw [pts_len] at hj; omega)
      have h2 := b2 (((belowN p x).toNat + j : Nat) : Int) (by omega) (by rw [pts_len] at hj; omega)
      rw [← e]
      show (decide (x ≤ p.m + p.s * _) && decide (p.m + p.s * _ < y)) = true
      rw [Bool.and_eq_true]
      exact ⟨decide_eq_true (by omega), decide_eq_true (by omega)⟩
    · rw [List.drop_drop] at hz
      by_cases q : belowN p x ≤ belowN p y
      · rw [show (belowN p x).toNat + (belowN p y - belowN p x).toNat = (belowN p y).toNat by omega] at hz
        obtain ⟨i, i0, i1, rfl⟩ := mem_drop_pts c0 hz
        have := c2 i (by omega) i1
        show (decide (x ≤ p.m + p.s * i) && decide (p.m + p.s * i < y)) = false
        rw [Bool.and_eq_false_iff]
        exact .inr (decide_eq_false (by omega))
      · rw [show (belowN p x).toNat + (belowN p y - belowN p x).toNat = (belowN p x).toNat by omega] at hz
        obtain ⟨i, i0, i1, rfl⟩ := mem_drop_pts b0 hz
        have := c2 i (by omega) i1
        show (decide (x ≤ p.m + p.s * i) && decide (p.m + p.s * i < y)) = false
        rw [Bool.and_eq_false_iff]
        exact .inr (decide_eq_false (by omega))
  · obtain ⟨i, i0, i1, rfl⟩ := mem_take_pts hz b1
    have := b2 i i0 (by omega)
    show ¬ (decide (x ≤ p.m + p.s * i) && decide (p.m + p.s * i < y)) = true
    rw [Bool.and_eq_true, decide_eq_true_eq, decide_eq_true_eq]
    omega
/-! ### what cut_in tells -/
theorem row_lt {ps : List Pc} (R : Row ps) {p q : Pc} : ∀ (d j : Nat), ps[j]? = some p → ps[j + d + 1]? = some q → lastM p < q.m
  | 0, j, h1, h2 => R.inc j p q h1 h2
  | d + 1, j, h1, h2 => by
    have hlt : j + d + 1 < ps.length := by have := (List.getElem?_eq_some_iff.mp h2).1; omega
    have hx : ps[j + d + 1]? = some ps[j + d + 1] := List.getElem?_eq_getElem hlt
    have a := row_lt R d j h1 hx
    have b := R.inc (j + d + 1) _ q hx h2
    have c := last_ge (R.good _ (List.mem_of_getElem? hx))
    omega
def btw (a b : Int) : Pt → Bool := fun z => decide (a ≤ z.1) && decide (z.1 < b)
structure CutI (ps : List Pc) (a b : Int) (i : Nat) (acc : List Pc) : Prop where
  row : Row acc
  eq : ptsR acc = (ptsR (ps.take i)).filter (btw a b)
  len : acc.length ≤ i
  old : ∀ q ∈ acc, ∃ j p, j < i ∧ ps[j]? = some p ∧ lastM q ≤ lastM p ∧ p.m ≤ q.m
def CutOf (ps : List Pc) (a b : Int) (qs : List Pc) : Prop := CutI ps a b ps.length qs
theorem CutI.nil {ps : List Pc} {a b : Int} : CutI ps a b 0 [] := ⟨Row.nil, rfl, by simp, fun q hq => by simp at hq⟩
theorem take_succ_pts {ps : List Pc} {i : Nat} {p : Pc} (h : ps[i]? = some p) : ptsR (ps.take (i + 1)) = ptsR (ps.take i) ++ pts p := by
  rw [List.take_succ, h, ptsR_append]
  show _ ++ ptsR [p] = _
  rw [ptsR_cons]
  show _ ++ (pts p ++ []) = _
  rw [List.append_nil]
theorem CutI.skip {ps acc : List Pc} {a b : Int} {i : Nat} {p : Pc} (R : Row ps) (h : ps[i]? = some p) (A : CutI ps a b i acc) (hb : ¬ belowN p a < belowN p b) : CutI ps a b (i + 1) acc := by
  have g := R.good p (List.mem_of_getElem? h)
  refine ⟨A.row, ?_, Nat.le_succ_of_le A.len, fun q hq => ?_⟩
  · rw [take_succ_pts h, List.filter_append, A.eq]
    have e := pts_between g a b
    show _ = _ ++ (pts p).filter fun z => decide (a ≤ z.1) && decide (z.1 < b)
    rw [e, show (belowN p b - belowN p a).toNat = 0 by omega]
    simp
  · obtain ⟨j, x, h1, h2, h3⟩ := A.old q hq
    exact ⟨j, x, by omega, h2, h3⟩
theorem CutI.add {ps acc : List Pc} {a b : Int} {i : Nat} {p : Pc} (R : Row ps) (h : ps[i]? = some p) (A : CutI ps a b i acc) (hb : belowN p a < belowN p b) {r : List Int} (hr : PartOf p.per p.ns (belowN p a) (belowN p b - belowN p a) r) :
    CutI ps a b (i + 1) (acc ++ [partPc p (belowN p a) (belowN p b - belowN p a) r]) := by
  have g := R.good p (List.mem_of_getElem? h)
  obtain ⟨b0, b1, _⟩ := below_spec g a
  obtain ⟨c0, c1, _⟩ := below_spec g b
  have hi := (List.getElem?_eq_some_iff.mp h).1
  have gp := part_good g b0 (show 1 ≤ belowN p b - belowN p a by omega) (by omega) hr
  have pl := part_last g (r := r) b0 (show 1 ≤ belowN p b - belowN p a by omega) (by omega)
  have hz := R.len
  have hal := A.len
  refine ⟨Row.append A.row (Row.one gp) (by simp; omega) (fun x hx q hq => ?_), ?_, by simp; omega, fun q hq => ?_⟩
  · rw [List.mem_singleton] at hq
    subst hq
    obtain ⟨j, y, h1, h2, h3, _⟩ := A.old x hx
    have := row_lt R (i - j - 1) j h2 (by rw [show j + (i - j - 1) + 1 = i by omega]; exact h)
    omega
  · rw [ptsR_append, take_succ_pts h, List.filter_append, A.eq]
    congr 1
    show pts _ ++ [] = _
    rw [List.append_nil, pts_part g b0 (by omega) (by omega) hr]
    exact (pts_between g a b).symm
  · rcases List.mem_append.mp hq with hq | hq
    · obtain ⟨j, x, h1, h2, h3⟩ := A.old q hq
      exact ⟨j, x, by omega, h2, h3⟩
    · rw [List.mem_singleton] at hq
      subst hq
      exact ⟨i, p, by omega, h, pl⟩
theorem CutOf.eq {ps qs : List Pc} {a b : Int} (h : CutOf ps a b qs) : ptsR qs = (ptsR ps).filter (btw a b) := by
  have := CutI.eq h
  rwa [List.take_length] at this
theorem CutOf.row {ps qs : List Pc} {a b : Int} (h : CutOf ps a b qs) : Row qs := CutI.row h
theorem CutOf.len {ps qs : List Pc} {a b : Int} (h : CutOf ps a b qs) : qs.length ≤ ps.length := CutI.len h
theorem cutI_mem {p : Pc} (g : Good p) : ptAt p 0 ∈ pts p ∧ ptAt p (p.c - 1) ∈ pts p := by
  have := g.c1
  exact ⟨pts_mem.mpr ⟨0, by omega, by omega, rfl⟩, pts_mem.mpr ⟨p.c - 1, by omega, by omega, rfl⟩⟩
theorem ptsR_mem {ps : List Pc} {p : Pc} (h : p ∈ ps) {x : Pt} (hx : x ∈ pts p) : x ∈ ptsR ps := List.mem_flatMap.mpr ⟨p, h, hx⟩
/-- what a cut has lies within its moments -/
theorem CutOf.bnd {ps qs : List Pc} {a b : Int} (h : CutOf ps a b qs) {q : Pc} (hq : q ∈ qs) : a ≤ q.m ∧ lastM q < b := by
  have g := h.row.good q hq
  obtain ⟨m1, m2⟩ := cutI_mem g
  have f1 := ptsR_mem hq m1
  have f2 := ptsR_mem hq m2
  rw [h.eq, List.mem_filter] at f1 f2
  have f1 := f1.2
  have f2 := f2.2
  unfold btw at f1 f2
  rw [Bool.and_eq_true, decide_eq_true_eq, decide_eq_true_eq] at f1 f2
  have e1 : (ptAt q 0).1 = q.m := by show q.m + q.s * 0 = q.m; omega
  have e2 : (ptAt q (q.c - 1)).1 = lastM q := rfl
  rw [e1] at f1
  rw [e2] at f2
  exact ⟨f1.1, f2.2⟩
/-- two cuts behind one another -/
theorem cut_join {ps qs rs : List Pc} {a b c d : Int} (h : CutOf ps a b qs) (k : CutOf ps c d rs) (hbc : b ≤ c) (hl : qs.length + rs.length ≤ 100000) : Row (qs ++ rs) := by
  refine Row.append h.row k.row hl fun p hp q hq => ?_
  have := h.bnd hp
  have := k.bnd hq
  omega
theorem filter_split {l : List Pt} (hs : Sorted l) (a b c : Int) (hab : a ≤ b) (hbc : b ≤ c) : l.filter (btw a b) ++ l.filter (btw b c) = l.filter (btw a c) := by
  induction l with
  | nil => rfl
  | cons x l ih =>
    have ih := ih (List.pairwise_cons.mp hs).2
    have hx := sorted_not hs
    rw [List.filter_cons, List.filter_cons, List.filter_cons]
    unfold btw at ih ⊢
    by_cases h1 : a ≤ x.1 ∧ x.1 < b
    · rw [if_pos (by simp; omega), if_neg (by simp; omega), if_pos (by simp; omega), List.cons_append, ih]
    · rw [if_neg (by simp; omega)]
      by_cases h2 : b ≤ x.1 ∧ x.1 < c
      · rw [if_pos (by simp; omega), if_pos (by simp; omega), ← ih, List.filter_eq_nil_iff.mpr (fun y hy => by have := hx y hy; simp; omega)]
        rfl
      · rw [if_neg (by simp; omega), if_neg (by simp; omega), ih]
theorem filter_all {l : List Pt} {a b : Int} (h : ∀ x ∈ l, a ≤ x.1 ∧ x.1 < b) : l.filter (btw a b) = l := by
  refine List.filter_eq_self.mpr fun x hx => ?_
  have := h x hx
  unfold btw
  rw [Bool.and_eq_true]
  exact ⟨decide_eq_true this.1, decide_eq_true this.2⟩
theorem row_pts_bnd {ps : List Pc} (R : Row ps) {x : Pt} (h : x ∈ ptsR ps) : 0 ≤ x.1 ∧ x.1 < 2 ^ 40 ∧ -(2 ^ 40) ≤ x.2 ∧ x.2 ≤ 2 ^ 40 := by
  obtain ⟨p, hp, hx⟩ := List.mem_flatMap.mp h
  have g := R.good p hp
  have b := pts_bnd g hx
  have m := g.m0
  have l := g.last
  have : lastM p ≤ 2 ^ 40 - 1 := l
  omega
/-! ### a piece for each point -/
def onePc (x : Pt) : Pc := ⟨x.1, 0, 1, false, [x.2]⟩
theorem one_good {x : Pt} (h1 : 0 ≤ x.1) (h2 : x.1 < 2 ^ 40) (h3 : -(2 ^ 40) ≤ x.2) (h4 : x.2 ≤ 2 ^ 40) : Good (onePc x) := by
  refine ⟨by show (1 : Int) ≤ 1; omega, by show (1 : Int) ≤ _; omega, fun _ => rfl, fun h => by have : (1 : Int) < 1 := h; omega, h1, ?_, ⟨by simp [onePc], by simp [onePc], fun z hz => ?_⟩, by simp [onePc], by simp [onePc], fun _ => .inl rfl, fun i i0 i1 => ?_⟩
  · show x.1 + 0 * (1 - 1) ≤ 2 ^ 40 - 1; omega
  · simp [onePc] at hz; omega
  · have i1 : i < 1 := i1
    have : i = 0 := by omega
    subst this
    have e : numAt (onePc x).per (onePc x).ns 0 = x.2 := by
      show x.2 + 0 * 0 + 0 * pairs 0 = x.2
      omega
    rw [e]; exact ⟨h3, h4⟩
theorem ptsP_one {x : Pt} : pts (onePc x) = [x] := by
  show [ptAt (onePc x) 0] = [x]
  unfold ptAt
  have e1 : (onePc x).m + (onePc x).s * 0 = x.1 := by show x.1 + 0 * 0 = x.1; omega
  have e2 : numAt (onePc x).per (onePc x).ns 0 = x.2 := by
    show x.2 + 0 * 0 + 0 * pairs 0 = x.2
    omega
  rw [e1, e2]
def PtsOk (l : List Pt) : Prop := Sorted l ∧ ∀ x ∈ l, 0 ≤ x.1 ∧ x.1 < 2 ^ 40 ∧ -(2 ^ 40) ≤ x.2 ∧ x.2 ≤ 2 ^ 40
theorem ptsR_ones : ∀ l : List Pt, ptsR (l.map onePc) = l
  | [] => rfl
  | x :: l => by rw [List.map_cons, ptsR_cons, ptsP_one, ptsR_ones l]; rfl
theorem ones_row : ∀ {l : List Pt}, PtsOk l → l.length ≤ 100000 → Row (l.map onePc)
  | [], _, _ => Row.nil
  | x :: l, h, hl => by
    have hx := h.2 x (by simp)
    refine Row.cons (one_good hx.1 hx.2.1 hx.2.2.1 hx.2.2.2) (ones_row ⟨(List.pairwise_cons.mp h.1).2, fun y hy => h.2 y (List.mem_cons_of_mem _ hy)⟩ (by simp at hl; omega)) (by simp at hl ⊢; omega) fun q hq => ?_
    cases l with
    | nil => simp at hq
    | cons y l =>
      cases hq
      have := sorted_not h.1 y (by simp)
      show x.1 + 0 * (1 - 1) < y.1
      omega
end K43
set_option Elab.async false
set_option maxRecDepth 100000
set_option maxHeartbeats 4000000
set_option linter.all false
set_option autoImplicit false
/-! plain laws: sums of a piece's values, of a row's -/
namespace K43
variable [DW.Tb]
open DW
def threes (i : Int) : Int := i * (i - 1) * (i - 2) / 6
def totN (per : Bool) (ns : List Int) (c : Int) : Int := if per = true then c / (ns.length : Int) * ns.sum + (ns.take (c % (ns.length : Int)).toNat).sum else ns.getD 0 0 * c + ns.getD 1 0 * pairs c + ns.getD 2 0 * threes c
def totR (ps : List Pc) : Int := (ps.map fun p => totN p.per p.ns p.c).sum
def cntR (ps : List Pc) : Int := (ps.map fun p => p.c).sum
theorem prod3 (i : Nat) : ((i + 1 : Nat) : Int) * (((i + 1 : Nat) : Int) - 1) * (((i + 1 : Nat) : Int) - 2) = (i : Int) * ((i : Int) - 1) * ((i : Int) - 2) + pairs i * 6 := by
  have h := pairs_two (i : Int)
  rw [Int.natCast_succ, show (i : Int) + 1 - 1 = i by omega, show (i : Int) + 1 - 2 = (i : Int) - 1 by omega]
  have a1 : ((i : Int) + 1) * i * ((i : Int) - 1) = (i : Int) * ((i : Int) - 1) * ((i : Int) + 1) := by
    rw [Int.mul_comm ((i : Int) + 1) i, Int.mul_assoc, Int.mul_comm ((i : Int) + 1), ← Int.mul_assoc]
  rw [a1, ← h, Int.mul_add, Int.mul_sub]
  omega
theorem threes_succ (i : Nat) : threes ((i + 1 : Nat) : Int) = threes i + pairs i := by
  unfold threes
  rw [prod3, Int.add_mul_ediv_right _ _ (by decide)]
theorem six_threes : ∀ n : Nat, 6 * threes n = (n : Int) * ((n : Int) - 1) * ((n : Int) - 2)
  | 0 => rfl
  | n + 1 => by
    have := six_threes n
    rw [threes_succ, prod3, ← this]
    omega
theorem sum_take_succ (ns : List Int) (r : Nat) (h : r < ns.length) : (ns.take (r + 1)).sum = (ns.take r).sum + ns.getD r 0 := by
  rw [List.take_succ_eq_append_getElem h, List.sum_append, List.getD_eq_getElem?_getD, List.getElem?_eq_getElem h]
  simp
theorem totN_succ {per : Bool} {ns : List Int} (h : 1 ≤ ns.length) (n : Nat) : totN per ns ((n + 1 : Nat) : Int) = totN per ns n + numAt per ns n := by
  cases per with
  | false =>
    unfold totN numAt
    simp only [Bool.false_eq_true, if_false]
    rw [pairs_succ, threes_succ, Int.natCast_succ, Int.mul_add, Int.mul_add, Int.mul_add]
    omega
  | true =>
    unfold totN numAt
    simp only [if_true]
    have L0 : 0 < ns.length := h
    rw [← Int.natCast_ediv, ← Int.natCast_emod, ← Int.natCast_ediv, ← Int.natCast_emod]
    simp only [Int.toNat_natCast]
    have r0 : n % ns.length < ns.length := Nat.mod_lt _ L0
    by_cases q : n % ns.length + 1 < ns.length
    · have e1 : (n + 1) % ns.length = n % ns.length + 1 := by
        have d := Nat.div_add_mod n ns.length
        rw [show n + 1 = (n % ns.length + 1) + ns.length * (n / ns.length) by omega, Nat.add_mul_mod_self_left, Nat.mod_eq_of_lt q]
      have e2 : (n + 1) / ns.length = n / ns.length := by
        have := Nat.div_add_mod n ns.length
        exact Nat.div_eq_of_lt_le (by rw [Nat.mul_comm]; omega) (by rw [Nat.succ_mul, Nat.mul_comm]; omega)
      rw [e1, e2, sum_take_succ ns _ r0]
      omega
    · have e0 : n % ns.length + 1 = ns.length := by omega
      have d := Nat.div_add_mod n ns.length
      have e3 : n + 1 = (n / ns.length + 1) * ns.length := by
        rw [Nat.add_mul, Nat.mul_comm]; omega
      have e1 : (n + 1) % ns.length = 0 := by rw [e3]; exact Nat.mul_mod_left _ _
      have e2 : (n + 1) / ns.length = n / ns.length + 1 := by rw [e3]; exact Nat.mul_div_cancel _ L0
      have e4 := sum_take_succ ns _ r0
      rw [e0, List.take_length] at e4
      rw [e1, e2, List.take_zero, Int.natCast_succ, Int.add_mul]
      simp only [List.sum_nil]
      omega
theorem totN_nat {per : Bool} {ns : List Int} (h : 1 ≤ ns.length) : ∀ n : Nat, totN per ns (n : Int) = ((List.range n).map fun i : Nat => numAt per ns (i : Int)).sum
  | 0 => by
    unfold totN pairs threes
    cases per <;> simp
  | n + 1 => by
    rw [totN_succ h, totN_nat h n, List.range_succ, List.map_append, List.sum_append]
    simp
theorem tot_pts {p : Pc} (g : Good p) : totN p.per p.ns p.c = ((pts p).map (·.2)).sum := by
  have c1 := g.c1
  have e : p.c = (p.c.toNat : Int) := by omega
  rw [e, totN_nat g.small.n1]
  unfold pts
  rw [List.map_map]
  rfl
theorem tot_row : ∀ {ps : List Pc}, (∀ p ∈ ps, Good p) → totR ps = ((ptsR ps).map (·.2)).sum
  | [], _ => rfl
  | p :: ps, h => by
    rw [ptsR_cons, List.map_append, List.sum_append, ← tot_row fun q hq => h q (List.mem_cons_of_mem _ hq), ← tot_pts (h p (List.mem_cons_self ..))]
    rfl
theorem cnt_row : ∀ {ps : List Pc}, (∀ p ∈ ps, Good p) → cntR ps = ((ptsR ps).length : Int)
  | [], _ => rfl
  | p :: ps, h => by
    have c1 := (h p (List.mem_cons_self ..)).c1
    have := cnt_row fun q hq => h q (List.mem_cons_of_mem _ hq)
    rw [ptsR_cons, List.length_append, pts_len]
    unfold cntR at *
    rw [List.map_cons, List.sum_cons, this]
    omega
/-- the law's own form of a sum -/
theorem whole_eq (a b d c : Int) : c * (2 * a + b * (c - 1)) / 2 + d * threes c = a * c + b * pairs c + d * threes c := by
  have h := pairs_two c
  have a2 : c * (c - 1) = 2 * pairs c := by first | omega | (rw [← h]) | (rw [h])
  have e : c * (2 * a + b * (c - 1)) = (a * c + b * pairs c) * 2 := by
    rw [Int.mul_add, Int.add_mul, show c * (b * (c - 1)) = b * (c * (c - 1)) from Int.mul_left_comm .., a2, show c * (2 * a) = a * c * 2 by rw [Int.mul_comm c, Int.mul_assoc, Int.mul_comm], Int.mul_left_comm, Int.mul_comm 2]
  rw [e, Int.mul_ediv_cancel _ (by decide)]
/-- sums of squares -/
theorem squares (n : Nat) : 1 * pairs ((n : Int) + 1) + 2 * threes ((n : Int) + 1) = (n : Int) * ((n : Int) + 1) * (2 * (n : Int) + 1) / 6 := by
  have h1 := pairs_two ((n : Int) + 1)
  have h2 := six_threes (n + 1)
  rw [Int.natCast_succ, show (n : Int) + 1 - 1 = n by omega, show (n : Int) + 1 - 2 = (n : Int) - 1 by omega, Int.mul_comm ((n : Int) + 1) n, Int.mul_sub, Int.mul_one] at h2
  rw [show (n : Int) + 1 - 1 = n by omega, Int.mul_comm ((n : Int) + 1) n] at h1
  have e : (n : Int) * ((n : Int) + 1) * (2 * (n : Int) + 1) = (1 * pairs ((n : Int) + 1) + 2 * threes ((n : Int) + 1)) * 6 := by
    rw [Int.mul_add ((n : Int) * ((n : Int) + 1)), Int.mul_one, Int.mul_left_comm]
    omega
  rw [e, Int.mul_ediv_cancel _ (by decide)]
end K43
set_option Elab.async false
set_option maxRecDepth 100000
set_option maxHeartbeats 4000000
set_option linter.all false
set_option autoImplicit false
/-! plain laws: least and greatest values, how many are at most a bound, ranks -/
namespace K43
variable [DW.Tb]
open DW
/-! ### where differences turn, strictly -/
theorem turn_strict {b e c : Int} (hc : 1 ≤ c) :
    ((∀ i, 0 ≤ i → i < turnOf b e c → 0 < b + e * i) ∨ (∀ i, 0 ≤ i → i < turnOf b e c → b + e * i < 0) ∨ (∀ i, 0 ≤ i → i < turnOf b e c → b + e * i = 0)) ∧
    ((∀ i, turnOf b e c ≤ i → i < c - 1 → 0 ≤ b + e * i ∧ (turnOf b e c < i → 0 < b + e * i)) ∨ (∀ i, turnOf b e c ≤ i → i < c - 1 → b + e * i ≤ 0 ∧ (turnOf b e c < i → b + e * i < 0))) := by
  unfold turnOf
  by_cases h : e = 0 ∨ c < 3
  · rw [if_pos h]
    refine ⟨?_, .inl fun i h1 h2 => absurd h1 (by omega)⟩
    have one : ∀ i, 0 ≤ i → i < c - 1 → b + e * i = b := fun i h1 h2 => by
      rcases h with h | h
      · subst h; rw [Int.zero_mul]; omega
      · have : i = 0 := by omega
        subst this; rw [Int.mul_zero]; omega
    rcases Int.lt_trichotomy b 0 with z | z | z
    · exact .inr (.inl fun i h1 h2 => by rw [one i h1 h2]; exact z)
    · exact .inr (.inr fun i h1 h2 => by rw [one i h1 h2]; exact z)
    · exact .inl fun i h1 h2 => by rw [one i h1 h2]; exact z
  · rw [if_neg h]
    have he : e ≠ 0 := fun z => h (.inl z)
    unfold turnSpot
    by_cases hs : (decide (0 < b) != decide (0 < e)) = true ∧ b ≠ 0
    · rw [if_pos hs]
      have hbe : (0 < b ∧ e < 0) ∨ (b < 0 ∧ 0 < e) := by
        obtain ⟨z, nz⟩ := hs
        by_cases p : 0 < b
        · by_cases q : 0 < e
          · simp [p, q] at z
          · exact .inl ⟨p, by omega⟩
        · by_cases q : 0 < e
          · exact .inr ⟨by omega, q⟩
          · simp [p, q] at z
      have ey : (0 : Int) < (e.natAbs : Int) := by omega
      have hx := fun i => ceil_spec (x := (b.natAbs : Int)) (i := i) ey
      generalize hsp : -(-(b.natAbs : Int) / (e.natAbs : Int)) = sp at *
      rcases hbe with ⟨hb, hn⟩ | ⟨hb, hn⟩
      · have e1 : (b.natAbs : Int) = b := by omega
        have e2 : (e.natAbs : Int) = -e := by omega
        rw [e1, e2] at hx
        refine ⟨.inl fun i h1 h2 => ?_, .inr fun i h1 h2 => ⟨?_, fun h3 => ?_⟩⟩
        · have := (hx i).1 (by omega)
          rw [Int.neg_mul] at this
          omega
        · have := (hx i).2 (by omega)
          rw [Int.neg_mul] at this
          omega
        · have := (hx (i - 1)).2 (by omega)
          rw [Int.neg_mul, Int.mul_sub, Int.mul_one] at this
          omega
      · have e1 : (b.natAbs : Int) = -b := by omega
        have e2 : (e.natAbs : Int) = e := by omega
        rw [e1, e2] at hx
        refine ⟨.inr (.inl fun i h1 h2 => ?_), .inl fun i h1 h2 => ⟨?_, fun h3 => ?_⟩⟩
        · have := (hx i).1 (by omega)
          omega
        · have := (hx i).2 (by omega)
          omega
        · have := (hx (i - 1)).2 (by omega)
          rw [Int.mul_sub, Int.mul_one] at this
          omega
    · rw [if_neg hs]
      have ez : min (max (0 : Int) 0) (c - 1) = 0 := by omega
      rw [ez]
      refine ⟨.inl fun i h1 h2 => absurd h1 (by omega), ?_⟩
      by_cases q : 0 < e
      · have hb : 0 ≤ b := by
          by_cases p : 0 < b
          · omega
          · by_cases z : b = 0
            · omega
            · exact absurd ⟨by simp [p, q], z⟩ hs
        refine .inl fun i h1 h2 => ⟨?_, fun h3 => ?_⟩
        · have : 0 ≤ e * i := mul_nn (by omega) h1
          omega
        · have : 0 < e * i := Int.mul_pos (by omega) h3
          omega
      · have hb : b ≤ 0 := by
          by_cases p : 0 < b
          · exact absurd ⟨by simp [p, q], by omega⟩ hs
          · omega
        refine .inr fun i h1 h2 => ⟨?_, fun h3 => ?_⟩
        · have : 0 ≤ (-e) * i := mul_nn (by omega) h1
          rw [Int.neg_mul] at this
          omega
        · have : 0 < (-e) * i := Int.mul_pos (by omega) h3
          rw [Int.neg_mul] at this
          omega
/-! ### going one way -/
theorem up_of {v : Int → Int} {lo hi : Int} (h : ∀ i, lo ≤ i → i < hi → v i ≤ v (i + 1)) : ∀ i j, lo ≤ i → i ≤ j → j ≤ hi → v i ≤ v j := by
  have go : ∀ (d : Nat) (i : Int), lo ≤ i → i + d ≤ hi → v i ≤ v (i + d) := fun d => by
    induction d with
    | zero => intro i _ _; rw [show i + ((0 : Nat) : Int) = i by omega]; exact Int.le_refl _
    | succ d ih =>
      intro i h1 h2
      have a := ih i h1 (by omega)
      have b := h (i + d) (by omega) (by omega)
      rw [show i + ((d + 1 : Nat) : Int) = i + d + 1 by omega]
      omega
  intro i j h1 h2 h3
  have := go (j - i).toNat i h1 (by omega)
  rwa [show i + ((j - i).toNat : Int) = j by omega] at this
theorem dn_of {v : Int → Int} {lo hi : Int} (h : ∀ i, lo ≤ i → i < hi → v (i + 1) ≤ v i) : ∀ i j, lo ≤ i → i ≤ j → j ≤ hi → v j ≤ v i := fun i j h1 h2 h3 => by
  have := up_of (v := fun i => - v i) (fun i a b => by have := h i a b; omega) i j h1 h2 h3
  have : - v i ≤ - v j := this
  omega
theorem least_corner {v : Int → Int} {t c : Int} (t0 : 0 ≤ t) (t1 : t ≤ c - 1) (h1 : (∀ i, 0 ≤ i → i < t → v i < v (i + 1)) ∨ (∀ i, 0 ≤ i → i < t → v (i + 1) < v i) ∨ (∀ i, 0 ≤ i → i < t → v (i + 1) = v i))
    (h2 : (∀ i, t ≤ i → i < c - 1 → v i ≤ v (i + 1)) ∨ (∀ i, t ≤ i → i < c - 1 → v (i + 1) ≤ v i ∧ (t < i → v (i + 1) < v i))) (j : Int) (j0 : 0 ≤ j) (j1 : j < c) : ∃ i, (i = 0 ∨ i = t ∨ i = c - 1) ∧ pLe (v i, i) (v j, j) := by
  unfold pLe
  by_cases q : j ≤ t
  · rcases h1 with h | h | h
    · have := up_of (fun i a b => Int.le_of_lt (h i a b)) 0 j (Int.le_refl _) j0 q
      exact ⟨0, .inl rfl, by show v 0 < v j ∨ (v 0 = v j ∧ 0 ≤ j); omega⟩
    · by_cases z : j = t
      · exact ⟨t, .inr (.inl rfl), by subst z; exact .inr ⟨rfl, Int.le_refl _⟩⟩
      · have a := h j j0 (by omega)
        have b := dn_of (fun i a b => Int.le_of_lt (h i a b)) (j + 1) t (by omega) (by omega) (Int.le_refl _)
        exact ⟨t, .inr (.inl rfl), .inl (by show v t < v j; omega)⟩
    · have := up_of (fun i a b => Int.le_of_eq (h i a b).symm) 0 j (Int.le_refl _) j0 q
      exact ⟨0, .inl rfl, by show v 0 < v j ∨ (v 0 = v j ∧ 0 ≤ j); omega⟩
  · rcases h2 with h | h
    · have := up_of h t j (Int.le_refl _) (by omega) (by omega)
      exact ⟨t, .inr (.inl rfl), by show v t < v j ∨ (v t = v j ∧ t ≤ j); omega⟩
    · by_cases z : j = c - 1
      · exact ⟨c - 1, .inr (.inr rfl), by subst z; exact .inr ⟨rfl, Int.le_refl _⟩⟩
      · have a := (h j (by omega) (by omega)).2 (by omega)
        have b := dn_of (fun i a b => (h i a b).1) (j + 1) (c - 1) (by omega) (by omega) (Int.le_refl _)
        exact ⟨c - 1, .inr (.inr rfl), .inl (by show v (c - 1) < v j; omega)⟩
/-- among these indexes stand the first least and the first greatest number -/
structure Cor (per : Bool) (ns : List Int) (c : Int) (l : List Int) : Prop where
  ne : l ≠ []
  rng : ∀ z ∈ l, 0 ≤ z ∧ z < c
  len : l.length ≤ 1000
  lo : ∀ j, 0 ≤ j → j < c → ∃ i ∈ l, pLe (numAt per ns i, i) (numAt per ns j, j)
  hi : ∀ j, 0 ≤ j → j < c → ∃ i ∈ l, pLe (0 - numAt per ns i, i) (0 - numAt per ns j, j)
theorem cor_order {ns l : List Int} {c : Int} (c1 : 1 ≤ c) (hl : ∀ z, z ∈ l ↔ z = 0 ∨ z = turnOf (ns.getD 1 0) (ns.getD 2 0) c ∨ z = c - 1) (hz : l.length ≤ 1000) : Cor false ns c l := by
  obtain ⟨t0, t1, _, _⟩ := turn_segs (b := ns.getD 1 0) (e := ns.getD 2 0) c1
  obtain ⟨s1, s2⟩ := turn_strict (b := ns.getD 1 0) (e := ns.getD 2 0) c1
  have st := fun i => step_num ns i
  generalize turnOf (ns.getD 1 0) (ns.getD 2 0) c = t at *
  refine ⟨fun z => ?_, fun z h => ?_, hz, fun j j0 j1 => ?_, fun j j0 j1 => ?_⟩
  · have := (hl 0).mpr (.inl rfl)
    rw [z] at this; cases this
  · rcases (hl z).mp h with e | e | e <;> omega
  · obtain ⟨i, hi, hp⟩ := least_corner (v := numAt false ns) t0 t1 (by
      rcases s1 with h | h | h
      · exact .inl fun i a b => by have := h i a b; have := st i; omega
      · exact .inr (.inl fun i a b => by have := h i a b; have := st i; omega)
      · exact .inr (.inr fun i a b => by have := h i a b; have := st i; omega)) (by
      rcases s2 with h | h
      · exact .inl fun i a b => by have := (h i a b).1; have := st i; omega
      · exact .inr fun i a b => ⟨by have := (h i a b).1; have := st i; omega, fun z => by have := (h i a b).2 z; have := st i; omega⟩) j j0 j1
    exact ⟨i, (hl i).mpr hi, hp⟩
  · obtain ⟨i, hi, hp⟩ := least_corner (v := fun i => 0 - numAt false ns i) t0 t1 (by
      rcases s1 with h | h | h
      · exact .inr (.inl fun i a b => by have := h i a b; have := st i; show 0 - _ < 0 - _; omega)
      · exact .inl fun i a b => by have := h i a b; have := st i; show 0 - _ < 0 - _; omega
      · exact .inr (.inr fun i a b => by have := h i a b; have := st i; show 0 - _ = 0 - _; omega)) (by
      rcases s2 with h | h
      · exact .inr fun i a b => ⟨by have := (h i a b).1; have := st i; show 0 - _ ≤ 0 - _; omega, fun z => by have := (h i a b).2 z; have := st i; show 0 - _ < 0 - _; omega⟩
      · exact .inl fun i a b => by have := (h i a b).1; have := st i; show 0 - _ ≤ 0 - _; omega) j j0 j1
    exact ⟨i, (hl i).mpr hi, hp⟩
theorem cor_period {ns : List Int} {c : Int} (c1 : 1 ≤ c) (n1 : 1 ≤ ns.length) (n2 : ns.length ≤ 1000) : Cor true ns c ((List.range (min (ns.length : Int) c).toNat).map fun i => (0 : Int) + (i : Nat)) := by
  have key : ∀ j, 0 ≤ j → j < c → (j % (ns.length : Int)) ∈ ((List.range (min (ns.length : Int) c).toNat).map fun i => (0 : Int) + (i : Nat)) ∧ j % (ns.length : Int) ≤ j ∧ numAt true ns (j % (ns.length : Int)) = numAt true ns j := fun j j0 j1 => by
    have a := Int.emod_nonneg j (show (ns.length : Int) ≠ 0 by omega)
    have b := Int.emod_lt_of_pos j (show (0 : Int) < ns.length by omega)
    have d : j % (ns.length : Int) ≤ j := by
      have := Int.mul_ediv_add_emod j (ns.length : Int)
      have : 0 ≤ (ns.length : Int) * (j / (ns.length : Int)) := Int.mul_nonneg (by omega) (Int.ediv_nonneg j0 (by omega))
      omega
    refine ⟨List.mem_map.mpr ⟨(j % (ns.length : Int)).toNat, List.mem_range.mpr (by omega), by omega⟩, d, ?_⟩
    unfold numAt
    rw [if_pos rfl, if_pos rfl, Int.emod_emod_of_dvd _ (Int.dvd_refl _)]
  refine ⟨fun z => ?_, fun z h => ?_, ?_, fun j j0 j1 => ?_, fun j j0 j1 => ?_⟩
  · have := congrArg List.length z
    simp at this
    omega
  · obtain ⟨i, hi, rfl⟩ := List.mem_map.mp h
    have := List.mem_range.mp hi
    omega
  · rw [List.length_map, List.length_range]; omega
  · obtain ⟨a, b, d⟩ := key j j0 j1
    exact ⟨_, a, .inr ⟨d, b⟩⟩
  · obtain ⟨a, b, d⟩ := key j j0 j1
    exact ⟨_, a, .inr ⟨by show 0 - _ = 0 - _; rw [d], b⟩⟩
/-- a least number, its first index -/
def LeastAt (per : Bool) (ns : List Int) (c : Int) (q : Int × Int) : Prop := 0 ≤ q.2 ∧ q.2 < c ∧ q.1 = numAt per ns q.2 ∧ ∀ j, 0 ≤ j → j < c → pLe q (numAt per ns j, j)
def GreatAt (per : Bool) (ns : List Int) (c : Int) (q : Int × Int) : Prop := 0 ≤ q.2 ∧ q.2 < c ∧ q.1 = numAt per ns q.2 ∧ ∀ j, 0 ≤ j → j < c → pLe (0 - q.1, q.2) (0 - numAt per ns j, j)
theorem Cor.least {per : Bool} {ns l : List Int} {c : Int} (C : Cor per ns c l) {q : Int × Int} (hq : q ∈ l.map fun i => (numAt per ns i, i)) (h : ∀ r ∈ l.map (fun i => (numAt per ns i, i)), pLe q r) : LeastAt per ns c q := by
  obtain ⟨i, hi, rfl⟩ := List.mem_map.mp hq
  have := C.rng i hi
  refine ⟨this.1, this.2, rfl, fun j j0 j1 => ?_⟩
  obtain ⟨k, hk, hp⟩ := C.lo j j0 j1
  exact (h _ (List.mem_map.mpr ⟨k, hk, rfl⟩)).trans hp
theorem Cor.great {per : Bool} {ns l : List Int} {c : Int} (C : Cor per ns c l) {q : Int × Int} (hq : q ∈ l.map fun i => (0 - numAt per ns i, i)) (h : ∀ r ∈ l.map (fun i => (0 - numAt per ns i, i)), pLe q r) : GreatAt per ns c (0 - q.1, q.2) := by
  obtain ⟨i, hi, rfl⟩ := List.mem_map.mp hq
  have := C.rng i hi
  refine ⟨this.1, this.2, by show 0 - (0 - numAt per ns i) = numAt per ns i; omega, fun j j0 j1 => ?_⟩
  obtain ⟨k, hk, hp⟩ := C.hi j j0 j1
  have := (h _ (List.mem_map.mpr ⟨k, hk, rfl⟩)).trans hp
  show pLe (0 - (0 - (0 - numAt per ns i)), i) _
  rw [show (0 - (0 - (0 - numAt per ns i))) = 0 - numAt per ns i by omega]
  exact this
/-! ### of rows -/
def LowOf (l : List Pt) (r : Int × Int) : Prop := (r.2, r.1) ∈ l ∧ ∀ y ∈ l, r.1 ≤ y.2 ∧ (y.2 = r.1 → r.2 ≤ y.1)
def HighOf (l : List Pt) (r : Int × Int) : Prop := (r.2, r.1) ∈ l ∧ ∀ y ∈ l, y.2 ≤ r.1 ∧ (y.2 = r.1 → r.2 ≤ y.1)
def LowO (l : List Pt) : Option (Int × Int) → Prop
  | none => l = []
  | some r => LowOf l r
def HighO (l : List Pt) : Option (Int × Int) → Prop
  | none => l = []
  | some r => HighOf l r
theorem low_piece {p : Pc} (g : Good p) {q : Int × Int} (h : LeastAt p.per p.ns p.c q) : LowOf (pts p) (q.1, p.m + p.s * q.2) := by
  obtain ⟨q0, q1, e, hq⟩ := h
  refine ⟨pts_mem.mpr ⟨q.2, q0, q1, ?_⟩, fun y hy => ?_⟩
  · show (p.m + p.s * q.2, q.1) = _
    rw [e]; rfl
  · obtain ⟨j, j0, j1, rfl⟩ := pts_mem.mp hy
    have := hq j j0 j1
    unfold pLe at this
    refine ⟨by show q.1 ≤ numAt _ _ _; omega, fun z => ?_⟩
    have z : numAt p.per p.ns j = q.1 := z
    show p.m + p.s * q.2 ≤ p.m + p.s * j
    have : p.s * q.2 ≤ p.s * j := Int.mul_le_mul_of_nonneg_left (by omega) g.s_nn
    omega
theorem high_piece {p : Pc} (g : Good p) {q : Int × Int} (h : GreatAt p.per p.ns p.c q) : HighOf (pts p) (q.1, p.m + p.s * q.2) := by
  obtain ⟨q0, q1, e, hq⟩ := h
  refine ⟨pts_mem.mpr ⟨q.2, q0, q1, ?_⟩, fun y hy => ?_⟩
  · show (p.m + p.s * q.2, q.1) = _
    rw [e]; rfl
  · obtain ⟨j, j0, j1, rfl⟩ := pts_mem.mp hy
    have := hq j j0 j1
    unfold pLe at this
    refine ⟨by show numAt _ _ _ ≤ q.1; omega, fun z => ?_⟩
    have z : numAt p.per p.ns j = q.1 := z
    show p.m + p.s * q.2 ≤ p.m + p.s * j
    have : p.s * q.2 ≤ p.s * j := Int.mul_le_mul_of_nonneg_left (by omega) g.s_nn
    omega
theorem low_app {l m : List Pt} {r s : Int × Int} (hr : LowOf l r) (hs : LowOf m s) (hlm : ∀ x ∈ l, ∀ y ∈ m, x.1 < y.1) : LowOf (l ++ m) (if s.1 < r.1 then s else r) := by
  have := hlm _ hr.1 _ hs.1
  have this : r.2 < s.2 := this
  split
  · rename_i q
    refine ⟨List.mem_append_right _ hs.1, fun y hy => ?_⟩
    rcases List.mem_append.mp hy with h | h
    · have := (hr.2 y h).1
      exact ⟨by omega, fun z => by omega⟩
    · exact hs.2 y h
  · rename_i q
    refine ⟨List.mem_append_left _ hr.1, fun y hy => ?_⟩
    rcases List.mem_append.mp hy with h | h
    · exact hr.2 y h
    · have a := (hs.2 y h).1
      exact ⟨by omega, fun z => by have := hlm _ hr.1 y h; have this : r.2 < y.1 := this; omega⟩
theorem high_app {l m : List Pt} {r s : Int × Int} (hr : HighOf l r) (hs : HighOf m s) (hlm : ∀ x ∈ l, ∀ y ∈ m, x.1 < y.1) : HighOf (l ++ m) (if r.1 < s.1 then s else r) := by
  have := hlm _ hr.1 _ hs.1
  have this : r.2 < s.2 := this
  split
  · rename_i q
    refine ⟨List.mem_append_right _ hs.1, fun y hy => ?_⟩
    rcases List.mem_append.mp hy with h | h
    · have := (hr.2 y h).1
      exact ⟨by omega, fun z => by omega⟩
    · exact hs.2 y h
  · rename_i q
    refine ⟨List.mem_append_left _ hr.1, fun y hy => ?_⟩
    rcases List.mem_append.mp hy with h | h
    · exact hr.2 y h
    · have a := (hs.2 y h).1
      exact ⟨by omega, fun z => by have := hlm _ hr.1 y h; have this : r.2 < y.1 := this; omega⟩
theorem row_before {ps : List Pc} (R : Row ps) {j : Nat} {p : Pc} (h : ps[j]? = some p) : ∀ x ∈ ptsR (ps.take j), ∀ y ∈ pts p, x.1 < y.1 := fun x hx y hy => by
  have s := row_sorted R
  have hj := List.getElem?_eq_some_iff.mp h
  obtain ⟨h1, h2⟩ := hj
  have e : ptsR ps = ptsR (ps.take j) ++ (pts p ++ ptsR (ps.drop (j + 1))) := by
    conv => lhs; rw [← List.take_append_drop j ps, ptsR_append, List.drop_eq_getElem_cons h1, h2, ptsR_cons]
  rw [e] at s
  exact (List.pairwise_append.mp s).2.2 x hx y (List.mem_append_left _ hy)
theorem low_uniq {l : List Pt} {r s : Int × Int} (hs : Sorted l) (h : LowOf l r) (k : LowOf l s) : r.1 = s.1 := by
  have a := (h.2 _ k.1).1
  have b := (k.2 _ h.1).1
  have a : r.1 ≤ s.1 := a
  have b : s.1 ≤ r.1 := b
  omega
/-! ### how many are at most a bound -/
def cntV (v : Int → Int) (x a : Int) (n : Nat) : Nat := (List.range n).countP fun i => decide (v (a + (i : Nat)) ≤ x)
theorem cnt_succ {v : Int → Int} {x a : Int} {n : Nat} : cntV v x a (n + 1) = cntV v x a n + if v (a + (n : Nat)) ≤ x then 1 else 0 := by
  unfold cntV
  rw [List.range_succ, List.countP_append, List.countP_singleton]
  simp
theorem cnt_add {v : Int → Int} {x a : Int} {m : Nat} : ∀ n : Nat, cntV v x a (m + n) = cntV v x a m + cntV v x (a + (m : Nat)) n
  | 0 => by unfold cntV; simp
  | n + 1 => by
    rw [← Nat.add_assoc, cnt_succ, cnt_add n, cnt_succ, show a + ((m + n : Nat) : Int) = a + (m : Nat) + (n : Nat) by omega]
    omega
theorem cnt_all {v : Int → Int} {x a : Int} : ∀ {n : Nat}, (∀ i, a ≤ i → i < a + n → v i ≤ x) → cntV v x a n = n
  | 0, _ => rfl
  | n + 1, h => by
    rw [cnt_succ, cnt_all fun i h1 h2 => h i h1 (by omega), if_pos (h _ (by omega) (by omega))]
theorem cnt_none {v : Int → Int} {x a : Int} : ∀ {n : Nat}, (∀ i, a ≤ i → i < a + n → x < v i) → cntV v x a n = 0
  | 0, _ => rfl
  | n + 1, h => by
    rw [cnt_succ, cnt_none fun i h1 h2 => h i h1 (by omega), if_neg (by have := h (a + n) (by omega) (by omega); omega)]
theorem cnt_split {v : Int → Int} {x a b s : Int} (as : a ≤ s) (sb : s ≤ b) : cntV v x a (b - a).toNat = cntV v x a (s - a).toNat + cntV v x s (b - s).toNat := by
  rw [show (b - a).toNat = (s - a).toNat + (b - s).toNat by omega, cnt_add, show a + ((s - a).toNat : Int) = s by omega]
def MonoSeg (v : Int → Int) (a b : Int) : Prop := (∀ i j, a ≤ i → i ≤ j → j < b → v i ≤ v j) ∨ (∀ i j, a ≤ i → i ≤ j → j < b → v j ≤ v i)
theorem mono_up {v : Int → Int} {a b : Int} (ab : a < b) (h : MonoSeg v a b) (q : v a ≤ v (b - 1)) : ∀ i j, a ≤ i → i ≤ j → j < b → v i ≤ v j := by
  rcases h with h | h
  · exact h
  · intro i j h1 h2 h3
    have := h a i (Int.le_refl _) h1 (by omega)
    have := h j (b - 1) (by omega) (by omega) (by omega)
    omega
theorem mono_dn {v : Int → Int} {a b : Int} (ab : a < b) (h : MonoSeg v a b) (q : ¬ v a ≤ v (b - 1)) : ∀ i j, a ≤ i → i ≤ j → j < b → v j ≤ v i := by
  rcases h with h | h
  · exact absurd (h a (b - 1) (Int.le_refl _) (by omega) (by omega)) q
  · exact h
theorem rise_up {v : Int → Int} {x a b r : Int} (h : ∀ i j, a ≤ i → i ≤ j → j < b → v i ≤ v j) (hr : Such a b r fun i => decide (x < v i)) : (cntV v x a (b - a).toNat : Int) = r - a := by
  obtain ⟨r1, r2, r3, r4⟩ := hr
  rw [cnt_split r1 r2, cnt_all fun i h1 h2 => ?_, cnt_none fun i h1 h2 => ?_]
  · omega
  · have a1 := of_decide_eq_true (r4 (by omega))
    have := h r i r1 h1 (by omega)
    omega
  · have := of_decide_eq_false (r3 i h1 (by omega))
    omega
theorem rise_dn {v : Int → Int} {x a b r : Int} (h : ∀ i j, a ≤ i → i ≤ j → j < b → v j ≤ v i) (hr : Such a b r fun i => decide (v i ≤ x)) : (cntV v x a (b - a).toNat : Int) = b - r := by
  obtain ⟨r1, r2, r3, r4⟩ := hr
  rw [cnt_split r1 r2, cnt_none fun i h1 h2 => ?_, cnt_all fun i h1 h2 => ?_]
  · omega
  · have a1 := of_decide_eq_true (r4 (by omega))
    have := h r i r1 h1 (by omega)
    omega
  · have := of_decide_eq_false (r3 i h1 (by omega))
    omega
theorem mono_num {ns : List Int} {c : Int} (c1 : 1 ≤ c) : MonoSeg (numAt false ns) 0 (turnOf (ns.getD 1 0) (ns.getD 2 0) c) ∧ MonoSeg (numAt false ns) (turnOf (ns.getD 1 0) (ns.getD 2 0) c) c := by
  obtain ⟨t0, t1, s1, s2⟩ := turn_segs (b := ns.getD 1 0) (e := ns.getD 2 0) c1
  have st := fun i => step_num ns i
  generalize turnOf (ns.getD 1 0) (ns.getD 2 0) c = t at *
  constructor
  · rcases s1 with h | h
    · exact .inl fun i j h1 h2 h3 => up_of (hi := t) (fun i a b => by have := h i a b; have := st i; omega) i j h1 h2 (by omega)
    · exact .inr fun i j h1 h2 h3 => dn_of (hi := t) (fun i a b => by have := h i a b; have := st i; omega) i j h1 h2 (by omega)
  · rcases s2 with h | h
    · exact .inl fun i j h1 h2 h3 => up_of (hi := c - 1) (fun i a b => by have := h i a b; have := st i; omega) i j h1 h2 (by omega)
    · exact .inr fun i j h1 h2 h3 => dn_of (hi := c - 1) (fun i a b => by have := h i a b; have := st i; omega) i j h1 h2 (by omega)
def mostN (per : Bool) (ns : List Int) (c x : Int) : Int := (cntV (numAt per ns) x 0 c.toNat : Nat)
theorem most_order {ns : List Int} {c x : Int} (c1 : 1 ≤ c) : mostN false ns c x = (cntV (numAt false ns) x 0 (turnOf (ns.getD 1 0) (ns.getD 2 0) c - 0).toNat : Int) + (cntV (numAt false ns) x (turnOf (ns.getD 1 0) (ns.getD 2 0) c) (c - turnOf (ns.getD 1 0) (ns.getD 2 0) c).toNat : Int) := by
  obtain ⟨t0, t1, _, _⟩ := turn_segs (b := ns.getD 1 0) (e := ns.getD 2 0) c1
  unfold mostN
  have := cnt_split (v := numAt false ns) (x := x) (a := 0) (b := c) t0 (by omega)
  rw [show (c - 0).toNat = c.toNat by omega] at this
  rw [this]
  omega
def smallL (ns : List Int) (x : Int) : List Int := ns.map fun z => if z ≤ x then 1 else 0
theorem small_num {ns : List Int} {x : Int} (n1 : 1 ≤ ns.length) (i : Int) (i0 : 0 ≤ i) : numAt true (smallL ns x) i = if numAt true ns i ≤ x then 1 else 0 := by
  unfold numAt
  rw [if_pos rfl, if_pos rfl]
  have hl : (smallL ns x).length = ns.length := by unfold smallL; rw [List.length_map]
  rw [hl]
  have a := Int.emod_nonneg i (show (ns.length : Int) ≠ 0 by omega)
  have b := Int.emod_lt_of_pos i (show (0 : Int) < ns.length by omega)
  generalize hj : (i % (ns.length : Int)).toNat = j
  have hjl : j < ns.length := by omega
  unfold smallL
  rw [List.getD_eq_getElem?_getD, List.getD_eq_getElem?_getD, List.getElem?_map, List.getElem?_eq_getElem hjl]
  rfl
theorem cnt_sum {v : Int → Int} {x a : Int} : ∀ n : Nat, (cntV v x a n : Int) = ((List.range n).map fun i : Nat => if v (a + i) ≤ x then (1 : Int) else 0).sum
  | 0 => rfl
  | n + 1 => by
    rw [cnt_succ, List.range_succ, List.map_append, List.sum_append, ← cnt_sum n]
    simp only [List.map_cons, List.map_nil, List.sum_cons, List.sum_nil]
    split <;> omega
theorem most_period {ns : List Int} {c x : Int} (n1 : 1 ≤ ns.length) (c0 : 0 ≤ c) : mostN true ns c x = totN true (smallL ns x) c := by
  obtain ⟨n, rfl⟩ := Int.eq_ofNat_of_zero_le c0
  have hl : (smallL ns x).length = ns.length := by unfold smallL; rw [List.length_map]
  rw [totN_nat (by omega)]
  unfold mostN
  rw [show ((n : Int)).toNat = n by omega, cnt_sum]
  congr 1
  apply List.map_congr_left
  intro i _
  rw [small_num n1 (i : Int) (by omega), Int.zero_add]
def mostR (ps : List Pc) (x : Int) : Int := (ps.map fun p => mostN p.per p.ns p.c x).sum
def atMost (l : List Pt) (x : Int) : Int := (l.countP fun y => decide (y.2 ≤ x) : Nat)
theorem atMost_app {l m : List Pt} {x : Int} : atMost (l ++ m) x = atMost l x + atMost m x := by
  unfold atMost; rw [List.countP_append]; omega
theorem most_pts {p : Pc} {x : Int} : mostN p.per p.ns p.c x = atMost (pts p) x := by
  unfold mostN atMost cntV pts
  rw [List.countP_map]
  congr 1
  apply List.countP_congr
  intro i _
  show decide (numAt p.per p.ns (0 + (i : Int)) ≤ x) = true ↔ decide (numAt p.per p.ns (i : Int) ≤ x) = true
  rw [Int.zero_add]
theorem most_row {x : Int} : ∀ {ps : List Pc}, mostR ps x = atMost (ptsR ps) x
  | [] => rfl
  | p :: ps => by
    rw [ptsR_cons, atMost_app, ← most_row, ← most_pts]
    rfl
theorem atMost_nn {l : List Pt} {x : Int} : 0 ≤ atMost l x := by unfold atMost; omega
theorem atMost_le {l : List Pt} {x : Int} : atMost l x ≤ l.length := by unfold atMost; have := List.countP_le_length (p := fun y : Pt => decide (y.2 ≤ x)) (l := l); omega
theorem atMost_mono {l : List Pt} {x y : Int} (h : x ≤ y) : atMost l x ≤ atMost l y := by
  unfold atMost
  have : l.countP (fun z => decide (z.2 ≤ x)) ≤ l.countP (fun z => decide (z.2 ≤ y)) := List.countP_mono_left fun z _ hz => by
    have := of_decide_eq_true hz
    exact decide_eq_true (by omega)
  omega
/-- the value with a rank -/
def RankOf (l : List Pt) (k r : Int) : Prop := atMost l (r - 1) < k ∧ k ≤ atMost l r
theorem rank_uniq {l : List Pt} {k r s : Int} (h : RankOf l k r) (g : RankOf l k s) : r = s := by
  obtain ⟨h1, h2⟩ := h
  obtain ⟨g1, g2⟩ := g
  rcases Int.lt_trichotomy r s with z | z | z
  · have := atMost_mono (l := l) (x := r) (y := s - 1) (by omega); omega
  · exact z
  · have := atMost_mono (l := l) (x := s) (y := r - 1) (by omega); omega
theorem most_low {l : List Pt} {r : Int × Int} (h : LowOf l r) : atMost l (r.1 - 1) = 0 := by
  unfold atMost
  have : l.countP (fun y => decide (y.2 ≤ r.1 - 1)) = 0 := List.countP_eq_zero.mpr fun y hy z => by
    have := (h.2 y hy).1
    have := of_decide_eq_true z
    omega
  omega
theorem most_high {l : List Pt} {r : Int × Int} (h : HighOf l r) : atMost l r.1 = l.length := by
  unfold atMost
  have : l.countP (fun y => decide (y.2 ≤ r.1)) = l.length := List.countP_eq_length.mpr fun y hy => decide_eq_true (h.2 y hy).1
  omega
end K43
set_option Elab.async false
set_option maxRecDepth 100000
set_option maxHeartbeats 4000000
set_option linter.all false
set_option autoImplicit false
/-! sums, counts, corners, ends: walked -/
namespace K43
variable [DW.Tb]
open PySem PySem.Spec PyProof.Rows L2 DW
abbrev threesSp : DSpW := fun w es n k => ∃ i : Int, es = [.int i] ∧ -(2 ^ 60) ≤ i ∧ i ≤ 2 ^ 60 ∧ k (.int (threes i)) n
abbrev totalSp : DSpW := fun w es n k => ∃ per nd ns c, es = [.str (kindW per), nd, .int c] ∧ IsNs nd ns ∧ Small ns ∧ 0 ≤ c ∧ c ≤ 2 ^ 41 ∧ k (.int (totN per ns c)) n
abbrev summedSp (C : Addr) : DSpW := fun w es n k => ∃ d ps, es = [d] ∧ IsPs C d ps ∧ Row ps ∧ k (.int (totR ps)) n
abbrev countedSp (C : Addr) : DSpW := fun w es n k => ∃ d ps, es = [d] ∧ IsPs C d ps ∧ Row ps ∧ k (.int (cntR ps)) n
abbrev cornSp : DSpW := fun w es n k => ∃ per nd ns c, es = [.str (kindW per), nd, .int c] ∧ IsNs nd ns ∧ Small ns ∧ 1 ≤ c ∧ c ≤ 2 ^ 41 ∧ ∀ l : List Int, Cor per ns c l → k (.lst (l.map .int)) n
abbrev leastSp : DSpW := fun w es n k => ∃ per nd ns c, es = [.str (kindW per), nd, .int c] ∧ IsNs nd ns ∧ Small ns ∧ 1 ≤ c ∧ c ≤ 2 ^ 41 ∧ ∀ q : Int × Int, LeastAt per ns c q → k (ptD q) n
abbrev greatSp : DSpW := fun w es n k => ∃ per nd ns c, es = [.str (kindW per), nd, .int c] ∧ IsNs nd ns ∧ Small ns ∧ 1 ≤ c ∧ c ≤ 2 ^ 41 ∧ ∀ q : Int × Int, GreatAt per ns c q → k (ptD q) n
def oP : Option (Int × Int) → D
  | none => .non
  | some r => ptD r
abbrev firstSp : DSpW := fun w es n k => ∃ o : Option (Int × Int), es = [oP o] ∧ k (oD (o.map (·.1))) n
abbrev lowSp (C : Addr) : DSpW := fun w es n k => ∃ d ps, es = [d] ∧ IsPs C d ps ∧ Row ps ∧ ∀ o, LowO (ptsR ps) o → k (oP o) n
abbrev highSp (C : Addr) : DSpW := fun w es n k => ∃ d ps, es = [d] ∧ IsPs C d ps ∧ Row ps ∧ ∀ o, HighO (ptsR ps) o → k (oP o) n
abbrev riseSp : DSpW := fun w es n k => ∃ nd ns a b x, es = [.str (kindW false), nd, .int a, .int b, .int x] ∧ IsNs nd ns ∧ Small ns ∧ 0 ≤ a ∧ b ≤ 2 ^ 41 ∧ MonoSeg (numAt false ns) a b ∧ k (.int (cntV (numAt false ns) x a (b - a).toNat : Nat)) n
abbrev mostSp : DSpW := fun w es n k => ∃ per nd ns c x, es = [.str (kindW per), nd, .int c, .int x] ∧ IsNs nd ns ∧ Small ns ∧ 1 ≤ c ∧ c ≤ 2 ^ 41 ∧ k (.int (mostN per ns c x)) n
abbrev mostBySp (C : Addr) : DSpW := fun w es n k => ∃ d ps x, es = [d, .int x] ∧ IsPs C d ps ∧ Row ps ∧ k (.int (mostR ps x)) n
abbrev rankedSp (C : Addr) : DSpW := fun w es n k => ∃ d ps r, es = [d, .int r] ∧ IsPs C d ps ∧ Row ps ∧ 1 ≤ r ∧ (cntR ps < r → k .non n) ∧ (r ≤ cntR ps → ∀ v, RankOf (ptsR ps) r v → k (.int v) n)
section
variable {K : PySem.W.Frag} {w : Option Addr} {n : Nat} {k : Kn} {es : List D} {C : Addr}
theorem rc_sumC {ns : List Int} {r : Int} (h : 0 ≤ r ∧ k (.int (ns.take r.toNat).sum) n) : RC K w (rSumU K) [.lst (DW.cutD (ns.map D.int) none (some r))] n k := by
  obtain ⟨j, rfl⟩ := Int.eq_ofNat_of_zero_le h.1
  rw [cutD_take, ← List.map_take]
  exact rc_sum h.2
theorem rc_sumCT {ns : List Int} {r : Int} (h : 0 ≤ r ∧ k (.int (ns.take r.toNat).sum) n) : RC K w (rSumU K) [.tup (DW.cutD (ns.map D.int) none (some r))] n k := by
  obtain ⟨j, rfl⟩ := Int.eq_ofNat_of_zero_le h.1
  rw [cutD_take, ← List.map_take]
  exact rc_sumT h.2
theorem map_yes {α β : Type} {l : List α} {f : α → β} : (l.filter fun _ => true).map f = l.map f := by rw [List.filter_eq_self.mpr fun _ _ => rfl]
theorem rc_sumM {α : Type} {l : List α} {f : α → Int} (hk : k (.int (l.map f).sum) n) : RC K w (rSumU K) [.lst ((l.filter fun _ => true).map fun x => D.int (f x))] n k := by
  rw [map_yes, show (l.map fun x => D.int (f x)) = (l.map f).map D.int by rw [List.map_map]; rfl]
  exact rc_sum hk
theorem rc_minPM {α : Type} {l : List α} {f : α → Int × Int} (hne : l ≠ []) (hk : ∀ q, q ∈ l.map f → (∀ r ∈ l.map f, pLe q r) → k (ptD q) n) : RC K w (rMinU K) [.lst ((l.filter fun _ => true).map fun x => ptD (f x))] n k := by
  rw [map_yes, show (l.map fun x => ptD (f x)) = (l.map f).map ptD by rw [List.map_map]; rfl]
  exact rc_minPts (by simpa using hne) hk
theorem w_threes_of (h : threesSp w es n k) : WpS K w (r_threes_of K) (dstart ["many"] es) n { nx := fun _ n' => kup k .non n', rt := kup k } := by
  obtain ⟨i, rfl, h1, h2, hk⟩ := h
  unfold r_threes_of
  repeat' (first
    | exact absurd ‹false = true› (by decide)
    | exact absurd ‹true = false› (by decide)
    | walk_at "way by rule"
    | walk_at "way by form"
    | fail)
  all_goals exact kup_of hk
theorem w_total_of (h : totalSp w es n k) : WpS K w (r_total_of K (toSp K padSp) (toSp K pairsSp) (toSp K threesSp)) (dstart ["kind", "numbers", "count", "laps", "rest", "first", "more", "bend"] es) n { nx := fun _ n' => kup k .non n', rt := kup k } := by
  obtain ⟨per, nd, ns, c, rfl, hd, ⟨s1, s2, s3⟩, c1, c2, hk⟩ := h
  have b1 := getD_bnd (B := 2 ^ 60) (by decide) s3 1
  have b2 := getD_bnd (B := 2 ^ 60) (by decide) s3 2
  have b0 := getD_bnd (B := 2 ^ 60) (by decide) s3 0
  have q1 : 0 ≤ c / (ns.length : Int) := Int.ediv_nonneg c1 (by omega)
  have q2 : c / (ns.length : Int) ≤ c := Int.ediv_le_self _ c1
  have q3 : 0 ≤ c % (ns.length : Int) := Int.emod_nonneg _ (by omega)
  have hd0 := hd
  rcases hd with rfl | rfl <;> unfold r_total_of <;> (
  repeat' (first
    | exact absurd ‹false = true› (by decide)
    | exact absurd ‹true = false› (by decide)
    | (with_reducible refine rc_sumC ?_)
    | (with_reducible refine rc_sumCT ?_)
    | (rw [List.length_map]; fail_if_success trivial)
    | (with_reducible refine rc_divmodX ?_)
    | walk_at "way by rule"
    | (refine And.intro (by rw [List.length_map]; omega) ?_)
    | (with_reducible refine And.intro q3 ?_)
    | refine ⟨_, _, rfl, hd0, s1, s2, ?_⟩
    | refine ⟨_, _, g_lst (gs_cons g_name (gs_cons g_name (gs_cons g_name gs_nil))) rfl, ?_⟩
    | refine ⟨_, rfl, by omega, by omega, ?_⟩
    | walk_at "way by form"
    | fail))
  all_goals (rename_i q)
  all_goals first
    | (have q : per = true := by rw [← kindW_eq (per := per)]; exact q
       subst q
       exact kup_of hk)
    | (have q : per = false := by rw [← kindW_eq (per := per)]; exact q
       subst q
       exact kup_of hk)
theorem w_summed (T : ClT K C XN) (h : summedSp C w es n k) : WpS K w (r_summed K (toSp K totalSp)) (dstart ["pieces", "piece"] es) n { nx := fun _ n' => kup k .non n', rt := kup k } := by
  obtain ⟨d, ps, rfl, hd, R, hk⟩ := h
  have iter : ∀ {k : List D → Nat → Prop} {n : Nat} {r : List (Option D)}, k (ps.map (pcO C)) n → WpI K w (iSeq K (tVar 0)) (some d :: r) n k := fun {k n r} hk => by
    rcases hd with rfl | rfl
    · exact i_listV ⟨_, rfl, hk⟩
    · exact i_tupV ⟨_, rfl, hk⟩
  unfold r_summed
  repeat' (first
    | exact absurd ‹false = true› (by decide)
    | exact absurd ‹true = false› (by decide)
    | (have g := R.good _ ‹_ ∈ ps›; have c1 := g.c1; have c2 := g.c2; refine ⟨_, _, _, _, rfl, .inr rfl, g.small, by omega, by omega, ?_⟩)
    | (with_reducible refine rc_sumM ?_)
    | (guard_target =~ WpE _ _ _ _ _ _; first | ((with_reducible refine e_lcGX ⟨pcO C, fun _ => true, fun p => .int (totN p.per p.ns p.c), fun _ => rfl, ?_⟩); refine iter ?_) | ((with_reducible refine e_fldX ?_); refine ⟨_, _, _, rfl, T, by decide +kernel, _, rfl, ?_⟩))
    | walk_at "way by rule"
    | refine ⟨ps, rfl, R.len, fun z hz => ?_, ?_⟩
    | walk_at "way by form"
    | fail)
  all_goals exact kup_of hk
theorem w_counted (T : ClT K C XN) (h : countedSp C w es n k) : WpS K w (r_counted K) (dstart ["pieces", "piece"] es) n { nx := fun _ n' => kup k .non n', rt := kup k } := by
  obtain ⟨d, ps, rfl, hd, R, hk⟩ := h
  have iter : ∀ {k : List D → Nat → Prop} {n : Nat} {r : List (Option D)}, k (ps.map (pcO C)) n → WpI K w (iSeq K (tVar 0)) (some d :: r) n k := fun {k n r} hk => by
    rcases hd with rfl | rfl
    · exact i_listV ⟨_, rfl, hk⟩
    · exact i_tupV ⟨_, rfl, hk⟩
  unfold r_counted
  repeat' (first
    | exact absurd ‹false = true› (by decide)
    | exact absurd ‹true = false› (by decide)
    | (with_reducible refine rc_sumM ?_)
    | (guard_target =~ WpE _ _ _ _ _ _; first | ((with_reducible refine e_lcGX ⟨pcO C, fun _ => true, fun p => .int p.c, fun _ => rfl, ?_⟩); refine iter ?_) | ((with_reducible refine e_fldX ?_); refine ⟨_, _, _, rfl, T, by decide +kernel, _, rfl, ?_⟩))
    | walk_at "way by rule"
    | refine ⟨ps, rfl, R.len, fun z hz => ?_, ?_⟩
    | walk_at "way by form"
    | fail)
  all_goals exact kup_of hk
theorem corn_len {l ms : List Int} (h : ms.Pairwise (· < ·)) (hm : ∀ j, j ∈ ms ↔ j ∈ l) : ms.length ≤ l.length :=
  List.Nodup.length_le_of_subset (h.imp fun z => Int.ne_of_lt z) fun j hj => (hm j).mp hj
theorem w_corners_of (h : cornSp w es n k) : WpS K w (r_corners_of K (toSp K turnSp)) (dstart ["kind", "numbers", "count", "turn", "at"] es) n { nx := fun _ n' => kup k .non n', rt := kup k } := by
  obtain ⟨per, nd, ns, c, rfl, hd, hs, c1, c2, hk⟩ := h
  have ho := hd.own
  have s1 := hs.n1
  have s2 := hs.n2
  have lenR : ∀ {k : Kn} {n : Nat}, k (.int (ns.length : Int)) n → RC K w (rLenU K) [nd] n k := fun {k n} hk => by
    rcases hd with rfl | rfl
    · exact rc_lenL (by rw [List.length_map]; exact hk)
    · exact rc_lenT (by rw [List.length_map]; exact hk)
  unfold r_corners_of
  repeat' (first
    | exact absurd ‹false = true› (by decide)
    | exact absurd ‹true = false› (by decide)
    | with_reducible refine lenR ?_
    | (guard_target =~ WpE _ _ _ _ _ _; first | ((with_reducible refine e_varX ?_); refine ⟨_, rfl, ho, ?_⟩) | (with_reducible refine e_lstRg1 ?_) | (with_reducible refine e_sortSet ?_) | (with_reducible refine e_lcIX ⟨fun z => decide (0 ≤ z) && decide (z < c), fun z => .int z, ?_⟩))
    | (with_reducible refine i_tup ?_)
    | walk_at "way by rule"
    | (refine ⟨_, rfl, ⟨by omega, by omega⟩, ?_⟩)
    | refine ⟨_, _, _, rfl, hd, hs, c1, c2, ?_⟩
    | walk_at "way by form"
    | fail)
  · rename_i q
    have q : per = true := by rw [← kindW_eq (per := per)]; exact q
    subst q
    have e : rgD 0 (min (ns.length : Int) c).toNat = (((List.range (min (ns.length : Int) c).toNat).map fun i => (0 : Int) + (i : Nat)).map D.int) := rgD_ints 0 _
    show kup k (.lst (rgD 0 (min (ns.length : Int) c).toNat)) n
    rw [e]
    exact kup_of (hk _ (cor_period c1 s1 s2))
  · rename_i q
    have q : per = false := by rw [← kindW_eq (per := per)]; exact q
    subst q
    obtain ⟨t1, t2, _, _⟩ := turn_segs (b := ns.getD 1 0) (e := ns.getD 2 0) c1
    have hc : ∀ ms : List Int, ms.Pairwise (· < ·) → (∀ j, j ∈ ms ↔ j ∈ [0, turnOf (ns.getD 1 0) (ns.getD 2 0) c, c - 1].filter fun z => decide (0 ≤ z) && decide (z < c)) → Cor false ns c ms := fun ms h1 h2 => by
      have h3 := corn_len h1 h2
      have h4 := List.length_filter_le (fun z => decide (0 ≤ z) && decide (z < c)) [0, turnOf (ns.getD 1 0) (ns.getD 2 0) c, c - 1]
      simp only [List.length_cons, List.length_nil] at h4
      refine cor_order c1 (fun z => (h2 z).trans ?_) (by omega)
      rw [List.mem_filter]
      simp only [List.mem_cons, List.not_mem_nil, or_false, Bool.and_eq_true, decide_eq_true_eq]
      constructor
      · exact fun h => h.1
      · intro h
        refine ⟨h, ?_⟩
        rcases h with h | h | h <;> omega
    refine ⟨[0, turnOf (ns.getD 1 0) (ns.getD 2 0) c, c - 1], rfl, by simp, fun z hz => ?_, ?_⟩
    · repeat' (first
    | exact absurd ‹false = true› (by decide)
    | exact absurd ‹true = false› (by decide)
    | walk_at "way by rule"
    | walk_at "way by form"
    | fail)
      · rename_i q1
        exact ⟨by show _ = (decide (0 ≤ z) && decide (z < c)); rw [q1]; rfl, rfl, fun _ => e_var rfl ⟨rfl, rfl⟩⟩
      · rename_i q1
        exact ⟨by show _ = (decide (0 ≤ z) && decide (z < c)); rw [q1]; rfl, rfl, fun z => nomatch z⟩
    exact ⟨_, rfl, by have := List.length_filter_le (fun z => decide (0 ≤ z) && decide (z < c)) [0, turnOf (ns.getD 1 0) (ns.getD 2 0) c, c - 1]; simp only [List.length_cons, List.length_nil] at this; omega, fun ms h1 h2 => kup_of (hk ms (hc ms h1 h2))⟩
theorem w_least_at (h : leastSp w es n k) : WpS K w (r_least_at K (toSp K cornSp) (toSp K naSp)) (dstart ["kind", "numbers", "count", "at"] es) n { nx := fun _ n' => kup k .non n', rt := kup k } := by
  obtain ⟨per, nd, ns, c, rfl, hd, hs, c1, c2, hk⟩ := h
  have ho := hd.own
  unfold r_least_at
  repeat' (first
    | exact absurd ‹false = true› (by decide)
    | exact absurd ‹true = false› (by decide)
    | (have z1 := C.rng _ ‹_ ∈ l›; refine ⟨_, _, _, _, rfl, hd, hs, by omega, by omega, ?_⟩)
    | (with_reducible refine rc_minPM C.ne fun q hq1 hq2 => ?_)
    | (guard_target =~ WpE _ _ _ _ _ _; first | ((with_reducible refine e_varX ?_); refine ⟨_, rfl, ho, ?_⟩) | ((with_reducible refine e_lcIX ⟨fun _ => true, fun z => ptD (numAt per ns z, z), ?_⟩); with_reducible refine i_list ?_))
    | walk_at "way by rule"
    | refine ⟨_, _, _, _, rfl, hd, hs, c1, c2, fun l C => ?_⟩
    | refine ⟨_, rfl, l, rfl, by have := C.len; omega, fun z hz => ?_, ?_⟩
    | walk_at "way by form"
    | fail)
  all_goals exact kup_of (hk _ (C.least hq1 hq2))
theorem w_greatest_at (h : greatSp w es n k) : WpS K w (r_greatest_at K (toSp K cornSp) (toSp K naSp)) (dstart ["kind", "numbers", "count", "found", "at"] es) n { nx := fun _ n' => kup k .non n', rt := kup k } := by
  obtain ⟨per, nd, ns, c, rfl, hd, hs, c1, c2, hk⟩ := h
  have ho := hd.own
  unfold r_greatest_at
  repeat' (first
    | exact absurd ‹false = true› (by decide)
    | exact absurd ‹true = false› (by decide)
    | (have z1 := C.rng _ ‹_ ∈ l›; refine ⟨_, _, _, _, rfl, hd, hs, by omega, by omega, ?_⟩)
    | (with_reducible refine rc_minPM C.ne fun q hq1 hq2 => ?_)
    | (guard_target =~ WpE _ _ _ _ _ _; first | ((with_reducible refine e_varX ?_); refine ⟨_, rfl, ho, ?_⟩) | ((with_reducible refine e_lcIX ⟨fun _ => true, fun z => ptD (0 - numAt per ns z, z), ?_⟩); with_reducible refine i_list ?_))
    | walk_at "way by rule"
    | refine ⟨_, _, _, _, rfl, hd, hs, c1, c2, fun l C => ?_⟩
    | refine ⟨_, rfl, l, rfl, by have := C.len; omega, fun z hz => ?_, ?_⟩
    | walk_at "way by form"
    | fail)
  all_goals exact kup_of (hk (0 - q.1, q.2) (C.great hq1 hq2))
theorem w_first_of (h : firstSp w es n k) : WpS K w (r_first_of K) (dstart ["found"] es) n { nx := fun _ n' => kup k .non n', rt := kup k } := by
  obtain ⟨o, rfl, hk⟩ := h
  unfold r_first_of
  cases o with
  | none =>
    show WpS K w _ (dstart ["found"] [.non]) n _
    repeat' (first
    | exact absurd ‹false = true› (by decide)
    | exact absurd ‹true = false› (by decide)
    | walk_at "way by rule"
    | walk_at "way by form"
    | fail)
    all_goals exact kup_of hk
  | some r =>
    show WpS K w _ (dstart ["found"] [.tup [.int r.1, .int r.2]]) n _
    repeat' (first
    | exact absurd ‹false = true› (by decide)
    | exact absurd ‹true = false› (by decide)
    | walk_at "way by rule"
    | walk_at "way by form"
    | fail)
    all_goals exact kup_of hk
theorem w_lowest (T : ClT K C XN) (h : lowSp C w es n k) : WpS K w (r_lowest K (toSp K leastSp) (toSp K (momSp C))) (dstart ["pieces", "found", "piece", "value", "at"] es) n { nx := fun _ n' => kup k .non n', rt := kup k } := by
  obtain ⟨d, ps, rfl, hd, R, hk⟩ := h
  have iter : ∀ {k : List D → Nat → Prop} {n : Nat} {r : List (Option D)}, k (ps.map (pcO C)) n → WpI K w (iSeq K (tVar 0)) (some d :: r) n k := fun {k n r} hk => by
    rcases hd with rfl | rfl
    · exact i_listV ⟨_, rfl, hk⟩
    · exact i_tupV ⟨_, rfl, hk⟩
  have oo : ∀ o, isOwn (oP o) = false := fun o => by cases o <;> rfl
  unfold r_lowest
  refine s_mid (mid := fun ds' n' => n' = n ∧ ds' = [some d, some .non, none, none, none]) ?_ ?_
  · repeat' (first
    | exact absurd ‹false = true› (by decide)
    | exact absurd ‹true = false› (by decide)
    | walk_at "way by rule"
    | walk_at "way by form"
    | fail)
    all_goals rfl
  rintro ds' n' ⟨rfl, rfl⟩
  refine s_mid (mid := fun ds' n'' => n'' = n' ∧ ∃ o v2 v3 v4, LowO (ptsR ps) o ∧ ds' = [some d, some (oP o), v2, v3, v4]) (s_for (iter ?_)) ?_
  · refine ⟨fun j ds' n'' => n'' = n' ∧ ∃ o v2 v3 v4, LowO (ptsR (ps.take j)) o ∧ ds' = [some d, some (oP o), v2, v3, v4], ⟨rfl, none, none, none, none, rfl, rfl⟩, ?_, ?_⟩
    · rintro j x ds' n'' hx ⟨rfl, o, v2, v3, v4, ho, rfl⟩
      rw [List.getElem?_map] at hx
      obtain ⟨p, hp, rfl⟩ := Option.map_eq_some_iff.mp hx
      have g := R.good p (List.mem_of_getElem? hp)
      have c1 := g.c1
      have c2 := g.c2
      have bf := row_before R hp
      refine ⟨_, _, g_name rfl, ?_⟩
      refine s_mid (mid := fun ds' n3 => n3 = n'' ∧ ∃ q : Int × Int, 0 ≤ q.2 ∧ q.2 < p.c ∧ LowOf (pts p) (q.1, p.m + p.s * q.2) ∧ ds' = [some d, some (oP o), some (pcO C p), some (.int q.1), some (.int q.2)]) ?_ ?_
      · repeat' (first
    | exact absurd ‹false = true› (by decide)
    | exact absurd ‹true = false› (by decide)
    | ((with_reducible refine e_fldX ?_); refine ⟨_, _, _, rfl, T, by decide +kernel, _, rfl, ?_⟩)
    | walk_at "way by rule"
    | refine ⟨_, _, _, _, rfl, .inr rfl, g.small, c1, c2, fun q hq => ?_⟩
    | refine ⟨_, _, g_tup (gs_cons g_name (gs_cons g_name gs_nil)) rfl, ?_⟩
    | walk_at "way by form"
    | fail)
        exact ⟨q, hq.1, hq.2.1, low_piece g hq, rfl⟩
      rintro ds' n3 ⟨rfl, q, q0, q1, hq, rfl⟩
      cases o with
      | none =>
        have ho : ptsR (ps.take j) = [] := ho
        show WpS K w _ [some d, some .non, some (pcO C p), some (.int q.1), some (.int q.2)] n3 _
        repeat' (first
    | exact absurd ‹false = true› (by decide)
    | exact absurd ‹true = false› (by decide)
    | walk_at "way by rule"
    | refine ⟨_, _, _, _, _, _, rfl, by omega, by omega, ?_⟩
    | walk_at "way by form"
    | fail)
        all_goals (refine ⟨some (q.1, p.m + p.s * q.2), _, _, _, ?_, rfl⟩)
        all_goals (rw [take_succ_pts hp, ho, List.nil_append]; exact hq)
      | some r =>
        have ho : LowOf (ptsR (ps.take j)) r := ho
        have both := low_app ho hq bf
        show WpS K w _ [some d, some (.tup [.int r.1, .int r.2]), some (pcO C p), some (.int q.1), some (.int q.2)] n3 _
        repeat' (first
    | exact absurd ‹false = true› (by decide)
    | exact absurd ‹true = false› (by decide)
    | walk_at "way by rule"
    | refine ⟨_, _, _, _, _, _, rfl, by omega, by omega, ?_⟩
    | walk_at "way by form"
    | fail)
        · rename_i z
          have z := of_decide_eq_true z
          have both : LowOf _ (if q.1 < r.1 then (q.1, p.m + p.s * q.2) else r) := both
          rw [if_pos z, ← take_succ_pts hp] at both
          exact ⟨some (q.1, p.m + p.s * q.2), _, _, _, both, rfl⟩
        · rename_i z
          have z := of_decide_eq_false z
          have both : LowOf _ (if q.1 < r.1 then (q.1, p.m + p.s * q.2) else r) := both
          rw [if_neg z, ← take_succ_pts hp] at both
          exact ⟨some r, _, _, _, both, rfl⟩
    · rintro ds' n'' ⟨rfl, o, v2, v3, v4, ho, rfl⟩
      rw [List.length_map, List.take_length] at ho
      exact ⟨rfl, o, v2, v3, v4, ho, rfl⟩
  rintro ds' n'' ⟨rfl, o, v2, v3, v4, ho, rfl⟩
  repeat' (first
    | exact absurd ‹false = true› (by decide)
    | exact absurd ‹true = false› (by decide)
    | ((with_reducible refine e_varX ?_); refine ⟨_, rfl, oo o, ?_⟩)
    | walk_at "way by rule"
    | walk_at "way by form"
    | fail)
  exact kup_of (hk o ho)
theorem w_highest (T : ClT K C XN) (h : highSp C w es n k) : WpS K w (r_highest K (toSp K greatSp) (toSp K (momSp C))) (dstart ["pieces", "found", "piece", "value", "at"] es) n { nx := fun _ n' => kup k .non n', rt := kup k } := by
  obtain ⟨d, ps, rfl, hd, R, hk⟩ := h
  have iter : ∀ {k : List D → Nat → Prop} {n : Nat} {r : List (Option D)}, k (ps.map (pcO C)) n → WpI K w (iSeq K (tVar 0)) (some d :: r) n k := fun {k n r} hk => by
    rcases hd with rfl | rfl
    · exact i_listV ⟨_, rfl, hk⟩
    · exact i_tupV ⟨_, rfl, hk⟩
  have oo : ∀ o, isOwn (oP o) = false := fun o => by cases o <;> rfl
  unfold r_highest
  refine s_mid (mid := fun ds' n' => n' = n ∧ ds' = [some d, some .non, none, none, none]) ?_ ?_
  · repeat' (first
    | exact absurd ‹false = true› (by decide)
    | exact absurd ‹true = false› (by decide)
    | walk_at "way by rule"
    | walk_at "way by form"
    | fail)
    all_goals rfl
  rintro ds' n' ⟨rfl, rfl⟩
  refine s_mid (mid := fun ds' n'' => n'' = n' ∧ ∃ o v2 v3 v4, HighO (ptsR ps) o ∧ ds' = [some d, some (oP o), v2, v3, v4]) (s_for (iter ?_)) ?_
  · refine ⟨fun j ds' n'' => n'' = n' ∧ ∃ o v2 v3 v4, HighO (ptsR (ps.take j)) o ∧ ds' = [some d, some (oP o), v2, v3, v4], ⟨rfl, none, none, none, none, rfl, rfl⟩, ?_, ?_⟩
    · rintro j x ds' n'' hx ⟨rfl, o, v2, v3, v4, ho, rfl⟩
      rw [List.getElem?_map] at hx
      obtain ⟨p, hp, rfl⟩ := Option.map_eq_some_iff.mp hx
      have g := R.good p (List.mem_of_getElem? hp)
      have c1 := g.c1
      have c2 := g.c2
      have bf := row_before R hp
      refine ⟨_, _, g_name rfl, ?_⟩
      refine s_mid (mid := fun ds' n3 => n3 = n'' ∧ ∃ q : Int × Int, 0 ≤ q.2 ∧ q.2 < p.c ∧ HighOf (pts p) (q.1, p.m + p.s * q.2) ∧ ds' = [some d, some (oP o), some (pcO C p), some (.int q.1), some (.int q.2)]) ?_ ?_
      · repeat' (first
    | exact absurd ‹false = true› (by decide)
    | exact absurd ‹true = false› (by decide)
    | ((with_reducible refine e_fldX ?_); refine ⟨_, _, _, rfl, T, by decide +kernel, _, rfl, ?_⟩)
    | walk_at "way by rule"
    | refine ⟨_, _, _, _, rfl, .inr rfl, g.small, c1, c2, fun q hq => ?_⟩
    | refine ⟨_, _, g_tup (gs_cons g_name (gs_cons g_name gs_nil)) rfl, ?_⟩
    | walk_at "way by form"
    | fail)
        exact ⟨q, hq.1, hq.2.1, high_piece g hq, rfl⟩
      rintro ds' n3 ⟨rfl, q, q0, q1, hq, rfl⟩
      cases o with
      | none =>
        have ho : ptsR (ps.take j) = [] := ho
        show WpS K w _ [some d, some .non, some (pcO C p), some (.int q.1), some (.int q.2)] n3 _
        repeat' (first
    | exact absurd ‹false = true› (by decide)
    | exact absurd ‹true = false› (by decide)
    | walk_at "way by rule"
    | refine ⟨_, _, _, _, _, _, rfl, by omega, by omega, ?_⟩
    | walk_at "way by form"
    | fail)
        all_goals (refine ⟨some (q.1, p.m + p.s * q.2), _, _, _, ?_, rfl⟩)
        all_goals (rw [take_succ_pts hp, ho, List.nil_append]; exact hq)
      | some r =>
        have ho : HighOf (ptsR (ps.take j)) r := ho
        have both := high_app ho hq bf
        show WpS K w _ [some d, some (.tup [.int r.1, .int r.2]), some (pcO C p), some (.int q.1), some (.int q.2)] n3 _
        repeat' (first
    | exact absurd ‹false = true› (by decide)
    | exact absurd ‹true = false› (by decide)
    | walk_at "way by rule"
    | refine ⟨_, _, _, _, _, _, rfl, by omega, by omega, ?_⟩
    | walk_at "way by form"
    | fail)
        · rename_i z
          have z := of_decide_eq_true z
          have both : HighOf _ (if r.1 < q.1 then (q.1, p.m + p.s * q.2) else r) := both
          rw [if_pos z, ← take_succ_pts hp] at both
          exact ⟨some (q.1, p.m + p.s * q.2), _, _, _, both, rfl⟩
        · rename_i z
          have z := of_decide_eq_false z
          have both : HighOf _ (if r.1 < q.1 then (q.1, p.m + p.s * q.2) else r) := both
          rw [if_neg z, ← take_succ_pts hp] at both
          exact ⟨some r, _, _, _, both, rfl⟩
    · rintro ds' n'' ⟨rfl, o, v2, v3, v4, ho, rfl⟩
      rw [List.length_map, List.take_length] at ho
      exact ⟨rfl, o, v2, v3, v4, ho, rfl⟩
  rintro ds' n'' ⟨rfl, o, v2, v3, v4, ho, rfl⟩
  repeat' (first
    | exact absurd ‹false = true› (by decide)
    | exact absurd ‹true = false› (by decide)
    | ((with_reducible refine e_varX ?_); refine ⟨_, rfl, oo o, ?_⟩)
    | walk_at "way by rule"
    | walk_at "way by form"
    | fail)
  exact kup_of (hk o ho)
theorem w_most_of_curve (h : mostSp w es n k) : WpS K w (r_most_of_curve K (toSp K turnSp) (toSp K riseSp)) (dstart ["kind", "numbers", "count", "bound", "laps", "rest", "small", "turn", "number"] es) n { nx := fun _ n' => kup k .non n', rt := kup k } := by
  obtain ⟨per, nd, ns, c, x, rfl, hd, hs, c1, c2, hk⟩ := h
  obtain ⟨s1, s2, s3⟩ := id hs
  have ho := hd.own
  have lenR : ∀ {k : Kn} {n : Nat}, k (.int (ns.length : Int)) n → RC K w (rLenU K) [nd] n k := fun {k n} hk => by
    rcases hd with rfl | rfl
    · exact rc_lenL (by rw [List.length_map]; exact hk)
    · exact rc_lenT (by rw [List.length_map]; exact hk)
  have iter : ∀ {k : List D → Nat → Prop} {n : Nat} {a : Option D} {r : List (Option D)}, k (ns.map .int) n → WpI K w (iSeq K (tVar 1)) (a :: some nd :: r) n k := fun {k n a r} hk => by
    rcases hd with rfl | rfl
    · exact i_listV ⟨_, rfl, hk⟩
    · exact i_tupV ⟨_, rfl, hk⟩
  have q1 : 0 ≤ c / (ns.length : Int) := Int.ediv_nonneg (by omega) (by omega)
  have q2 : c / (ns.length : Int) ≤ c := Int.ediv_le_self _ (by omega)
  have q3 : 0 ≤ c % (ns.length : Int) := Int.emod_nonneg _ (by omega)
  have e : ((ns.filter fun _ => true).map fun z => D.int (if decide (z ≤ x) = true then 1 else 0)) = (smallL ns x).map .int := by
    rw [map_yes]
    unfold smallL
    rw [List.map_map]
    apply List.map_congr_left
    intro z _
    show D.int _ = D.int _
    by_cases q : z ≤ x <;> simp [q]
  unfold r_most_of_curve
  refine s_seq (s_if ?_)
  repeat' (first
    | exact absurd ‹false = true› (by decide)
    | exact absurd ‹true = false› (by decide)
    | ((with_reducible refine e_varX ?_); refine ⟨_, rfl, ho, ?_⟩)
    | walk_at "way by rule"
    | walk_at "way by form"
    | fail)
  · rename_i q
    have q : per = true := by rw [← kindW_eq (per := per)]; exact q
    subst q
    repeat' (first
    | exact absurd ‹false = true› (by decide)
    | exact absurd ‹true = false› (by decide)
    | with_reducible refine lenR ?_
    | (guard_target =~ WpE _ _ _ _ _ _; first | ((with_reducible refine e_varX ?_); refine ⟨_, rfl, ho, ?_⟩) | ((with_reducible refine e_lcIX ⟨fun _ => true, fun z => .int (if decide (z ≤ x) = true then 1 else 0), ?_⟩); refine iter ?_))
    | (with_reducible refine rc_divmodX ?_)
    | walk_at "way by rule"
    | (refine And.intro ⟨by omega, by omega⟩ ?_)
    | refine ⟨_, _, g_tup (gs_cons g_name (gs_cons g_name gs_nil)) rfl, ?_⟩
    | refine ⟨ns, rfl, by omega, fun z hz => ?_, ?_⟩
    | walk_at "way by form"
    | fail)
    rw [e]
    repeat' (first
    | exact absurd ‹false = true› (by decide)
    | exact absurd ‹true = false› (by decide)
    | (with_reducible refine rc_sumC ?_)
    | (with_reducible refine rc_sum ?_)
    | walk_at "way by rule"
    | (with_reducible refine And.intro q3 ?_)
    | walk_at "way by form"
    | fail)
    have hl : (smallL ns x).length = ns.length := by unfold smallL; rw [List.length_map]
    have z := most_period (x := x) s1 (show 0 ≤ c by omega)
    unfold totN at z
    rw [if_pos rfl, hl] at z
    rw [z] at hk
    exact kup_of hk
  · rename_i q
    have q : per = false := by rw [← kindW_eq (per := per)]; exact q
    subst q
    obtain ⟨t1, t2, _, _⟩ := turn_segs (b := ns.getD 1 0) (e := ns.getD 2 0) c1
    obtain ⟨m1, m2⟩ := mono_num (ns := ns) c1
    repeat' (first
    | exact absurd ‹false = true› (by decide)
    | exact absurd ‹true = false› (by decide)
    | ((with_reducible refine e_varX ?_); refine ⟨_, rfl, ho, ?_⟩)
    | walk_at "way by rule"
    | refine ⟨_, _, _, rfl, hd, hs, c1, c2, ?_⟩
    | refine ⟨_, _, _, _, _, rfl, hd, hs, by omega, by omega, m1, ?_⟩
    | refine ⟨_, _, _, _, _, rfl, hd, hs, by omega, by omega, m2, ?_⟩
    | walk_at "way by form"
    | fail)
    rw [← most_order c1]
    exact kup_of hk
theorem w_most_by (T : ClT K C XN) (h : mostBySp C w es n k) : WpS K w (r_most_by K (toSp K mostSp)) (dstart ["pieces", "bound", "piece"] es) n { nx := fun _ n' => kup k .non n', rt := kup k } := by
  obtain ⟨d, ps, x, rfl, hd, R, hk⟩ := h
  have iter : ∀ {k : List D → Nat → Prop} {n : Nat} {r : List (Option D)}, k (ps.map (pcO C)) n → WpI K w (iSeq K (tVar 0)) (some d :: r) n k := fun {k n r} hk => by
    rcases hd with rfl | rfl
    · exact i_listV ⟨_, rfl, hk⟩
    · exact i_tupV ⟨_, rfl, hk⟩
  unfold r_most_by
  repeat' (first
    | exact absurd ‹false = true› (by decide)
    | exact absurd ‹true = false› (by decide)
    | (have g := R.good _ ‹_ ∈ ps›; have c1 := g.c1; have c2 := g.c2; refine ⟨_, _, _, _, _, rfl, .inr rfl, g.small, by omega, by omega, ?_⟩)
    | (with_reducible refine rc_sumM ?_)
    | (guard_target =~ WpE _ _ _ _ _ _; first | ((with_reducible refine e_lcGX ⟨pcO C, fun _ => true, fun p => .int (mostN p.per p.ns p.c x), fun _ => rfl, ?_⟩); refine iter ?_) | ((with_reducible refine e_fldX ?_); refine ⟨_, _, _, rfl, T, by decide +kernel, _, rfl, ?_⟩))
    | walk_at "way by rule"
    | refine ⟨ps, rfl, R.len, fun z hz => ?_, ?_⟩
    | walk_at "way by form"
    | fail)
  all_goals exact kup_of hk
theorem w_ranked (h : rankedSp C w es n k) : WpS K w (r_ranked K (toSp K (countedSp C)) (toSp K (lowSp C)) (toSp K (highSp C)) (toSp K (mostBySp C))) (dstart ["pieces", "rank", "low", "high", "middle"] es) n { nx := fun _ n' => kup k .non n', rt := kup k } := by
  obtain ⟨d, ps, r, rfl, hd, R, r1, hk1, hk2⟩ := h
  have ho := hd.own
  have hc := cnt_row R.good
  unfold r_ranked
  refine s_mid (mid := fun ds' n' => n' = n ∧ r ≤ cntR ps ∧ ds' = [some d, some (.int r), none, none, none]) ?_ ?_
  · repeat' (first
    | exact absurd ‹false = true› (by decide)
    | exact absurd ‹true = false› (by decide)
    | ((with_reducible refine e_varX ?_); refine ⟨_, rfl, ho, ?_⟩)
    | walk_at "way by rule"
    | refine ⟨d, ps, rfl, hd, R, ?_⟩
    | walk_at "way by form"
    | fail)
    · exact kup_of (hk1 (of_decide_eq_true ‹_›))
    · exact ⟨by have := of_decide_eq_false ‹decide (cntR ps < r) = false›; omega, rfl⟩
  rintro ds' n' ⟨rfl, hr, rfl⟩
  refine s_mid (mid := fun ds' n'' => n'' = n' ∧ ∃ lo hi : Int × Int, LowOf (ptsR ps) lo ∧ HighOf (ptsR ps) hi ∧ ds' = [some d, some (.int r), some (.int lo.1), some (.int hi.1), none]) ?_ ?_
  · have one : ∀ o, LowO (ptsR ps) o → ∃ lo, o = some lo ∧ LowOf (ptsR ps) lo := fun o h => by
      cases o with
      | none => have h : ptsR ps = [] := h; rw [h] at hc; simp at hc; omega
      | some lo => exact ⟨lo, rfl, h⟩
    have two : ∀ o, HighO (ptsR ps) o → ∃ lo, o = some lo ∧ HighOf (ptsR ps) lo := fun o h => by
      cases o with
      | none => have h : ptsR ps = [] := h; rw [h] at hc; simp at hc; omega
      | some lo => exact ⟨lo, rfl, h⟩
    repeat' (first
    | exact absurd ‹false = true› (by decide)
    | exact absurd ‹true = false› (by decide)
    | ((with_reducible refine e_varX ?_); refine ⟨_, rfl, ho, ?_⟩)
    | walk_at "way by rule"
    | (refine ⟨d, ps, rfl, hd, R, fun o (h : LowO (ptsR ps) o) => ?_⟩; obtain ⟨lo, rfl, hlo⟩ := one o h; refine e_int (rd_ixT (atI_nat (j := 0) rfl) ?_))
    | (refine ⟨d, ps, rfl, hd, R, fun o (h : HighO (ptsR ps) o) => ?_⟩; obtain ⟨hi, rfl, hhi⟩ := two o h; refine e_int (rd_ixT (atI_nat (j := 0) rfl) ?_))
    | walk_at "way by form"
    | fail)
    all_goals exact ⟨lo, hi, hlo, hhi, rfl⟩
  rintro ds' n'' ⟨rfl, lo, hi, hlo, hhi, rfl⟩
  have a1 := most_low hlo
  have a2 := most_high hhi
  have a3 := (hhi.2 _ hlo.1).1
  have a3 : lo.1 ≤ hi.1 := a3
  refine s_seq ?_
  refine s_while (fun m ds' n3 => n3 = n'' ∧ ∃ (l h : Int) (v4 : Option D), ds' = [some d, some (.int r), some (.int l), some (.int h), v4] ∧ l ≤ h ∧ m = (h - l).toNat ∧ atMost (ptsR ps) (l - 1) < r ∧ r ≤ atMost (ptsR ps) h) (hi.1 - lo.1).toNat ⟨rfl, lo.1, hi.1, none, rfl, a3, rfl, by omega, by omega⟩ ?_
  rintro m ds' n3 ⟨rfl, l, h, v4, rfl, lh, rfl, b1, b2⟩
  repeat' (first
    | exact absurd ‹false = true› (by decide)
    | exact absurd ‹true = false› (by decide)
    | ((with_reducible refine e_varX ?_); refine ⟨_, rfl, ho, ?_⟩)
    | walk_at "way by rule"
    | refine ⟨d, ps, _, rfl, hd, R, ?_⟩
    | walk_at "way by form"
    | fail)
  · rename_i z1 z2
    have z1 := of_decide_eq_true z1
    have z2 := of_decide_eq_true z2
    rw [most_row] at z2
    exact ⟨((l + h) / 2 - l).toNat, by omega, rfl, l, (l + h) / 2, _, rfl, by omega, rfl, b1, z2⟩
  · rename_i z1 z2
    have z1 := of_decide_eq_true z1
    have z2 := of_decide_eq_false z2
    rw [most_row] at z2
    exact ⟨(h - ((l + h) / 2 + 1)).toNat, by omega, rfl, (l + h) / 2 + 1, h, _, rfl, by omega, rfl, by rw [show (l + h) / 2 + 1 - 1 = (l + h) / 2 by omega]; omega, b2⟩
  · rename_i z1
    have z1 := of_decide_eq_false z1
    have : l = h := by omega
    subst this
    exact kup_of (hk2 hr l ⟨b1, b2⟩)
end
end K43
set_option Elab.async false
set_option maxRecDepth 100000
set_option maxHeartbeats 4000000
set_option linter.all false
set_option autoImplicit false
namespace K43
variable [DW.Tb]
open PySem PySem.Spec PyProof.Rows L2 DW
def top (i : Nat) : Stmt := PySem.Challenge.pw_askedcodes_k43_whole_answers_of_long_row.main.body.getD i (.Pass ⟨0, 0, 0, 0⟩)
abbrev s__law_pen : Stmt := top 66
abbrev s__law_draw : Stmt := top 67
abbrev s_fixed : Stmt := top 25
abbrev s_Paper_init : Stmt := inClass (top 26) 0
abbrev s_Piece_init : Stmt := inClass (top 34) 0
abbrev s_is_listed : Stmt := top 7
abbrev s_is_integer : Stmt := top 5
abbrev s_is_within : Stmt := top 6
abbrev s_is_piece : Stmt := top 35
abbrev s_padded : Stmt := top 11
abbrev s_pairs_of : Stmt := top 9
abbrev s_number_at : Stmt := top 12
abbrev s_turn_of : Stmt := top 16
abbrev s_first_such : Stmt := top 20
abbrev s_first_beyond : Stmt := top 23
abbrev s_first_bad_moment : Stmt := top 38
abbrev s_wrong_in : Stmt := top 39
abbrev s_moment_at : Stmt := top 36
abbrev s_last_moment : Stmt := top 37
abbrev s_first_wrong : Stmt := top 40
abbrev s_are_pieces : Stmt := top 45
abbrev s_need_pieces : Stmt := top 46
abbrev s_need_question : Stmt := top 53
abbrev s_below_in : Stmt := top 42
abbrev s_trimmed : Stmt := top 13
abbrev s_part_of : Stmt := top 14
abbrev s_part_of_piece : Stmt := top 41
abbrev s_points_among : Stmt := top 44
abbrev s_listed_in : Stmt := top 54
abbrev s_cut_in : Stmt := top 43
abbrev s_pieces_at : Stmt := top 55
abbrev s_counted : Stmt := top 57
abbrev s_threes_of : Stmt := top 10
abbrev s_total_of : Stmt := top 15
abbrev s_summed : Stmt := top 58
abbrev s_first_of : Stmt := top 63
abbrev s_corners_of : Stmt := top 17
abbrev s_least_at : Stmt := top 18
abbrev s_lowest : Stmt := top 59
abbrev s_greatest_at : Stmt := top 19
abbrev s_highest : Stmt := top 60
abbrev s_rising_most : Stmt := top 21
abbrev s_most_of_curve : Stmt := top 22
abbrev s_most_by : Stmt := top 61
abbrev s_ranked : Stmt := top 62
abbrev s_answer_of : Stmt := top 64
abbrev s_is_numbered : Stmt := top 50
abbrev s_are_moments : Stmt := top 51
abbrev s_Question_init : Stmt := inClass (top 52) 0
abbrev s__law_line_most : Stmt := top 69
abbrev s__law_line_right : Stmt := top 70
abbrev s__law_parts_right : Stmt := top 71
abbrev s_law : Stmt := top 72
abbrev s_first_beyond_is_out : Stmt := (defBody s_first_beyond).getD 1 (.Pass ⟨0, 0, 0, 0⟩)
/-! ### _law_pen -/
theorem sc__law_pen : FnScope ["script"] ["script"] (defScope s__law_pen) := ⟨rfl, rfl, rfl, by decide +kernel, rfl, by decide +kernel, by decide +kernel⟩
/-! ### _law_draw -/
theorem sc__law_draw : FnScope ["pen", "many", "digit", "at", "cell", "great", "mixed"] ["pen", "many"] (defScope s__law_draw) := ⟨rfl, rfl, rfl, by decide +kernel, rfl, by decide +kernel, by decide +kernel⟩
/-! ### fixed -/
theorem sc_fixed : FnScope ["value", "part"] ["value"] (defScope s_fixed) := ⟨rfl, rfl, rfl, by decide +kernel, rfl, by decide +kernel, by decide +kernel⟩
/-! ### Paper_init -/
theorem sc_Paper_init : FnScope ["self", "word", "parts"] ["self", "word", "parts"] (defScope s_Paper_init) := ⟨rfl, rfl, rfl, by decide +kernel, rfl, by decide +kernel, by decide +kernel⟩
/-! ### Piece_init -/
theorem sc_Piece_init : NdefX.NScope ["self", "moment", "step", "count", "kind", "numbers", "__class__"] ["self", "moment", "step", "count", "kind", "numbers"] ["__class__"] (defScope s_Piece_init) := NdefX.nscope_by (by decide +kernel)
/-! ### is_listed -/
theorem sc_is_listed : FnScope ["value"] ["value"] (defScope s_is_listed) := ⟨rfl, rfl, rfl, by decide +kernel, rfl, by decide +kernel, by decide +kernel⟩
/-! ### is_integer -/
theorem sc_is_integer : FnScope ["value"] ["value"] (defScope s_is_integer) := ⟨rfl, rfl, rfl, by decide +kernel, rfl, by decide +kernel, by decide +kernel⟩
/-! ### is_within -/
theorem sc_is_within : FnScope ["value", "least", "most"] ["value", "least", "most"] (defScope s_is_within) := ⟨rfl, rfl, rfl, by decide +kernel, rfl, by decide +kernel, by decide +kernel⟩
/-! ### is_piece -/
theorem sc_is_piece : FnScope ["value", "one"] ["value"] (defScope s_is_piece) := ⟨rfl, rfl, rfl, by decide +kernel, rfl, by decide +kernel, by decide +kernel⟩
/-! ### padded -/
theorem sc_padded : FnScope ["numbers"] ["numbers"] (defScope s_padded) := ⟨rfl, rfl, rfl, by decide +kernel, rfl, by decide +kernel, by decide +kernel⟩
/-! ### pairs_of -/
theorem sc_pairs_of : FnScope ["many"] ["many"] (defScope s_pairs_of) := ⟨rfl, rfl, rfl, by decide +kernel, rfl, by decide +kernel, by decide +kernel⟩
/-! ### number_at -/
theorem sc_number_at : FnScope ["kind", "numbers", "index", "first", "more", "bend"] ["kind", "numbers", "index"] (defScope s_number_at) := ⟨rfl, rfl, rfl, by decide +kernel, rfl, by decide +kernel, by decide +kernel⟩
/-! ### turn_of -/
theorem sc_turn_of : FnScope ["numbers", "count", "first", "more", "bend", "spot"] ["numbers", "count"] (defScope s_turn_of) := ⟨rfl, rfl, rfl, by decide +kernel, rfl, by decide +kernel, by decide +kernel⟩
/-! ### first_such -/
theorem sc_first_such : FnScope ["begin", "behind", "is_such", "middle"] ["begin", "behind", "is_such"] (defScope s_first_such) := ⟨rfl, rfl, rfl, by decide +kernel, rfl, by decide +kernel, by decide +kernel⟩
/-! ### first_beyond_is_out -/
/-! ### first_beyond -/
theorem sc_first_beyond : FnScope ["kind", "numbers", "count", "low", "high", "found", "is_out", "turn", "at"] ["kind", "numbers", "count", "low", "high"] (defScope s_first_beyond) := ⟨rfl, rfl, rfl, by decide +kernel, rfl, by decide +kernel, by decide +kernel⟩
/-! ### first_bad_moment -/
theorem sc_first_bad_moment : FnScope ["piece", "room"] ["piece"] (defScope s_first_bad_moment) := ⟨rfl, rfl, rfl, by decide +kernel, rfl, by decide +kernel, by decide +kernel⟩
/-! ### wrong_in -/
theorem sc_wrong_in : FnScope ["piece", "ahead", "beyond"] ["piece", "ahead"] (defScope s_wrong_in) := ⟨rfl, rfl, rfl, by decide +kernel, rfl, by decide +kernel, by decide +kernel⟩
/-! ### moment_at -/
theorem sc_moment_at : FnScope ["piece", "index"] ["piece", "index"] (defScope s_moment_at) := ⟨rfl, rfl, rfl, by decide +kernel, rfl, by decide +kernel, by decide +kernel⟩
/-! ### last_moment -/
theorem sc_last_moment : FnScope ["piece"] ["piece"] (defScope s_last_moment) := ⟨rfl, rfl, rfl, by decide +kernel, rfl, by decide +kernel, by decide +kernel⟩
/-! ### first_wrong -/
theorem sc_first_wrong : FnScope ["pieces", "seen", "ahead", "piece", "spot"] ["pieces"] (defScope s_first_wrong) := ⟨rfl, rfl, rfl, by decide +kernel, rfl, by decide +kernel, by decide +kernel⟩
/-! ### are_pieces -/
theorem sc_are_pieces : FnScope ["value", "piece"] ["value"] (defScope s_are_pieces) := ⟨rfl, rfl, rfl, by decide +kernel, rfl, by decide +kernel, by decide +kernel⟩
/-! ### need_pieces -/
theorem sc_need_pieces : FnScope ["part", "value"] ["part", "value"] (defScope s_need_pieces) := ⟨rfl, rfl, rfl, by decide +kernel, rfl, by decide +kernel, by decide +kernel⟩
/-! ### need_question -/
theorem sc_need_question : FnScope ["value"] ["value"] (defScope s_need_question) := ⟨rfl, rfl, rfl, by decide +kernel, rfl, by decide +kernel, by decide +kernel⟩
/-! ### below_in -/
theorem sc_below_in : FnScope ["piece", "moment"] ["piece", "moment"] (defScope s_below_in) := ⟨rfl, rfl, rfl, by decide +kernel, rfl, by decide +kernel, by decide +kernel⟩
/-! ### trimmed -/
theorem sc_trimmed : FnScope ["numbers", "count", "found"] ["numbers", "count"] (defScope s_trimmed) := ⟨rfl, rfl, rfl, by decide +kernel, rfl, by decide +kernel, by decide +kernel⟩
/-! ### part_of -/
theorem sc_part_of : FnScope ["kind", "numbers", "begin", "count", "first", "more", "bend", "at"] ["kind", "numbers", "begin", "count"] (defScope s_part_of) := ⟨rfl, rfl, rfl, by decide +kernel, rfl, by decide +kernel, by decide +kernel⟩
/-! ### part_of_piece -/
theorem sc_part_of_piece : FnScope ["piece", "begin", "count", "numbers"] ["piece", "begin", "count"] (defScope s_part_of_piece) := ⟨rfl, rfl, rfl, by decide +kernel, rfl, by decide +kernel, by decide +kernel⟩
/-! ### points_among -/
theorem sc_points_among : FnScope ["pieces", "moments", "found", "piece", "moment", "index"] ["pieces", "moments"] (defScope s_points_among) := ⟨rfl, rfl, rfl, by decide +kernel, rfl, by decide +kernel, by decide +kernel⟩
/-! ### listed_in -/
theorem sc_listed_in : FnScope ["question", "moment"] ["question"] (defScope s_listed_in) := ⟨rfl, rfl, rfl, by decide +kernel, rfl, by decide +kernel, by decide +kernel⟩
/-! ### cut_in -/
theorem sc_cut_in : FnScope ["pieces", "start", "stop", "found", "piece", "begin", "behind"] ["pieces", "start", "stop"] (defScope s_cut_in) := ⟨rfl, rfl, rfl, by decide +kernel, rfl, by decide +kernel, by decide +kernel⟩
/-! ### pieces_at -/
theorem sc_pieces_at : FnScope ["pieces", "question"] ["pieces", "question"] (defScope s_pieces_at) := ⟨rfl, rfl, rfl, by decide +kernel, rfl, by decide +kernel, by decide +kernel⟩
/-! ### counted -/
theorem sc_counted : FnScope ["pieces", "piece"] ["pieces"] (defScope s_counted) := ⟨rfl, rfl, rfl, by decide +kernel, rfl, by decide +kernel, by decide +kernel⟩
/-! ### threes_of -/
theorem sc_threes_of : FnScope ["many"] ["many"] (defScope s_threes_of) := ⟨rfl, rfl, rfl, by decide +kernel, rfl, by decide +kernel, by decide +kernel⟩
/-! ### total_of -/
theorem sc_total_of : FnScope ["kind", "numbers", "count", "laps", "rest", "first", "more", "bend"] ["kind", "numbers", "count"] (defScope s_total_of) := ⟨rfl, rfl, rfl, by decide +kernel, rfl, by decide +kernel, by decide +kernel⟩
/-! ### summed -/
theorem sc_summed : FnScope ["pieces", "piece"] ["pieces"] (defScope s_summed) := ⟨rfl, rfl, rfl, by decide +kernel, rfl, by decide +kernel, by decide +kernel⟩
/-! ### first_of -/
theorem sc_first_of : FnScope ["found"] ["found"] (defScope s_first_of) := ⟨rfl, rfl, rfl, by decide +kernel, rfl, by decide +kernel, by decide +kernel⟩
/-! ### corners_of -/
theorem sc_corners_of : FnScope ["kind", "numbers", "count", "turn", "at"] ["kind", "numbers", "count"] (defScope s_corners_of) := ⟨rfl, rfl, rfl, by decide +kernel, rfl, by decide +kernel, by decide +kernel⟩
/-! ### least_at -/
theorem sc_least_at : FnScope ["kind", "numbers", "count", "at"] ["kind", "numbers", "count"] (defScope s_least_at) := ⟨rfl, rfl, rfl, by decide +kernel, rfl, by decide +kernel, by decide +kernel⟩
/-! ### lowest -/
theorem sc_lowest : FnScope ["pieces", "found", "piece", "value", "at"] ["pieces"] (defScope s_lowest) := ⟨rfl, rfl, rfl, by decide +kernel, rfl, by decide +kernel, by decide +kernel⟩
/-! ### greatest_at -/
theorem sc_greatest_at : FnScope ["kind", "numbers", "count", "found", "at"] ["kind", "numbers", "count"] (defScope s_greatest_at) := ⟨rfl, rfl, rfl, by decide +kernel, rfl, by decide +kernel, by decide +kernel⟩
/-! ### highest -/
theorem sc_highest : FnScope ["pieces", "found", "piece", "value", "at"] ["pieces"] (defScope s_highest) := ⟨rfl, rfl, rfl, by decide +kernel, rfl, by decide +kernel, by decide +kernel⟩
/-! ### rising_most -/
theorem sc_rising_most : FnScope ["kind", "numbers", "begin", "behind", "bound"] ["kind", "numbers", "begin", "behind", "bound"] (defScope s_rising_most) := ⟨rfl, rfl, rfl, by decide +kernel, rfl, by decide +kernel, by decide +kernel⟩
/-! ### most_of_curve -/
theorem sc_most_of_curve : FnScope ["kind", "numbers", "count", "bound", "laps", "rest", "small", "turn", "number"] ["kind", "numbers", "count", "bound"] (defScope s_most_of_curve) := ⟨rfl, rfl, rfl, by decide +kernel, rfl, by decide +kernel, by decide +kernel⟩
/-! ### most_by -/
theorem sc_most_by : FnScope ["pieces", "bound", "piece"] ["pieces", "bound"] (defScope s_most_by) := ⟨rfl, rfl, rfl, by decide +kernel, rfl, by decide +kernel, by decide +kernel⟩
/-! ### ranked -/
theorem sc_ranked : FnScope ["pieces", "rank", "low", "high", "middle"] ["pieces", "rank"] (defScope s_ranked) := ⟨rfl, rfl, rfl, by decide +kernel, rfl, by decide +kernel, by decide +kernel⟩
/-! ### answer_of -/
theorem sc_answer_of : FnScope ["pieces", "question", "some"] ["pieces", "question"] (defScope s_answer_of) := ⟨rfl, rfl, rfl, by decide +kernel, rfl, by decide +kernel, by decide +kernel⟩
/-! ### is_numbered -/
theorem sc_is_numbered : FnScope ["kind", "value"] ["kind", "value"] (defScope s_is_numbered) := ⟨rfl, rfl, rfl, by decide +kernel, rfl, by decide +kernel, by decide +kernel⟩
/-! ### are_moments -/
theorem sc_are_moments : FnScope ["value", "one", "other"] ["value"] (defScope s_are_moments) := ⟨rfl, rfl, rfl, by decide +kernel, rfl, by decide +kernel, by decide +kernel⟩
/-! ### Question_init -/
theorem sc_Question_init : FnScope ["self", "kind", "number", "start", "stop", "among"] ["self", "kind", "number", "start", "stop", "among"] (defScope s_Question_init) := ⟨rfl, rfl, rfl, by decide +kernel, rfl, by decide +kernel, by decide +kernel⟩
/-! ### _law_line_most -/
theorem sc__law_line_most : FnScope ["first", "more", "count", "bound"] ["first", "more", "count", "bound"] (defScope s__law_line_most) := ⟨rfl, rfl, rfl, by decide +kernel, rfl, by decide +kernel, by decide +kernel⟩
/-! ### _law_line_right -/
theorem sc__law_line_right : FnScope ["pen", "more", "other", "count", "many", "first", "last", "row", "start", "stop", "ahead", "low", "size", "due", "highs", "lows", "bound", "most", "rank", "value", "upto", "below"] ["pen"] (defScope s__law_line_right) := ⟨rfl, rfl, rfl, by decide +kernel, rfl, by decide +kernel, by decide +kernel⟩
/-! ### _law_parts_right -/
theorem sc__law_parts_right : FnScope ["pen", "numbers", "row", "ends", "cuts", "kind", "number", "parts", "lows", "highs", "whole", "some", "due", "turn", "start", "stop", "one", "moment"] ["pen"] (defScope s__law_parts_right) := ⟨rfl, rfl, rfl, by decide +kernel, rfl, by decide +kernel, by decide +kernel⟩
/-! ### law -/
theorem sc_law : FnScope ["script", "pen", "turn"] ["script"] (defScope s_law) := ⟨rfl, rfl, rfl, by decide +kernel, rfl, by decide +kernel, by decide +kernel⟩
structure Txt (K : PySem.W.Frag) (mg : Str → Option Value) (C_Piece : Addr) (C_Question : Addr) : Prop where
  b_abs : mg "abs" = none
  b_all : mg "all" = none
  b_bool : mg "bool" = none
  b_divmod : mg "divmod" = none
  b_int : mg "int" = none
  b_isinstance : mg "isinstance" = none
  b_len : mg "len" = none
  b_list : mg "list" = none
  b_max : mg "max" = none
  b_min : mg "min" = none
  b_range : mg "range" = none
  b_set : mg "set" = none
  b_sorted : mg "sorted" = none
  b_str : mg "str" = none
  b_sum : mg "sum" = none
  b_tuple : mg "tuple" = none
  b_zip : mg "zip" = none
  k_ASKED : KTup K mg "ASKED" k_ASKED
  k_KINDS : KTup K mg "KINDS" k_KINDS
  k_MOST_COUNT : ∃ t, mg "MOST_COUNT" = some (.int 2199023255552 t)
  k_MOST_LISTED : ∃ t, mg "MOST_LISTED" = some (.int 200 t)
  k_MOST_MOMENT : ∃ t, mg "MOST_MOMENT" = some (.int 1099511627775 t)
  k_MOST_NUMBER : ∃ t, mg "MOST_NUMBER" = some (.int 1152921504606846976 t)
  k_MOST_PERIOD : ∃ t, mg "MOST_PERIOD" = some (.int 8 t)
  k_MOST_VALUE : ∃ t, mg "MOST_VALUE" = some (.int 1099511627776 t)
  c_Piece : mg "Piece" = some (.ref C_Piece)
  c_Question : mg "Question" = some (.ref C_Question)
section
variable {P : Program} {w : World} {K : PySem.W.Frag} {mg : Str → Option Value} {base : Heap} {C_Piece : Addr} {C_Question : Addr}
variable (T : Txt K mg C_Piece C_Question)
include T
theorem der__law_pen  {f : Addr} {cdv : Value} {A : Around} {outer : List Env} {s : Shared} {H : Hp} {E : XK}  (hr : Room 0 (A.deeper (envOfC "_law_pen" (defScope s__law_pen) s.heap.objs.size f cdv))) :
    PSs (cxOf CX0 P w K mg base ["script"] "_law_pen" (defScope s__law_pen) f cdv A outer s H E).nox (defBody s__law_pen) (r__law_pen K ) := by
  exact (pss_one (ps_ret (pe_lst (pa_cons (pe_callTy (call_listU rfl) (by rfl) T.b_list (by rfl) (pa_cons (pe_slice sl_U (pv 0) po_none (po_some pe_int)) pa_nil)) (pa_cons pe_int (pa_cons pe_int pa_nil))))))
theorem der__law_draw  {f : Addr} {cdv : Value} {A : Around} {outer : List Env} {s : Shared} {H : Hp} {E : XK}  (hr : Room 0 (A.deeper (envOfC "_law_draw" (defScope s__law_draw) s.heap.objs.size f cdv))) :
    PSs (cxOf CX0 P w K mg base ["pen", "many", "digit", "at", "cell", "great", "mixed"] "_law_draw" (defScope s__law_draw) f cdv A outer s H E).nox (defBody s__law_draw) (r__law_draw K ) := by
  have hu : (A.deeper (envOfC "_law_draw" (defScope s__law_draw) s.heap.objs.size f cdv)).units + 64 < cLine := by have := hr.un; omega
  have hu5 : (A.deeper (envOfC "_law_draw" (defScope s__law_draw) s.heap.objs.size f cdv)).units + 65 < cLine := by have := hr.un; omega
  exact (pss_cons (ps_if (pt_cmpR op_gt (pe_ix ix_seq (pv 0) pe_int (fun _ _ => rfl)) pe_int (nomark _)) (pss_cons (ps_set (i := 2) sc__law_draw.nd rfl (by first | exact Or.inl rfl | exact Or.inr rfl) (pe_op op_modU (pe_callTy call_intU (by rfl) T.b_int (by rfl) (pa_cons (pe_ix ix_seq (pv 0) pe_int (fun _ _ => rfl)) pa_nil)) (pv 1))) (pss_cons (ps_asg (pe_op op_divU (pe_callTy call_intU (by rfl) T.b_int (by rfl) (pa_cons (pe_ix ix_seq (pv 0) pe_int (fun _ _ => rfl)) pa_nil)) (pv 1)) (pg_sub (pv 0) pe_int set_list)) (pss_one (ps_ret (pv 2))))) pss_nil) (pss_cons (ps_set (i := 3) sc__law_draw.nd rfl (by first | exact Or.inl rfl | exact Or.inr rfl) (pe_ix ix_seq (pv 0) pe_int (fun _ _ => rfl))) (pss_cons (ps_asg (pe_op op_addU (pv 3) pe_int) (pg_sub (pv 0) pe_int set_list)) (pss_cons (ps_set (i := 4) sc__law_draw.nd rfl (by first | exact Or.inl rfl | exact Or.inr rfl) (pe_op op_addU (pe_op op_mulU pe_int (pv 3)) pe_int)) (pss_cons (ps_if (pt_cmpR (op_neU hu) (pe_ix ix_seq (pv 0) pe_int (fun _ _ => rfl)) (pe_lst pa_nil) (nomark _)) (pss_one (ps_set (i := 4) sc__law_draw.nd rfl (by first | exact Or.inl rfl | exact Or.inr rfl) (pe_ix ix_seq (pe_ix ix_seq (pv 0) pe_int (fun _ _ => rfl)) (pe_op op_modU (pe_callTy call_intU (by rfl) T.b_int (by rfl) (pa_cons (pv 3) pa_nil)) (pe_callB call_lenU (by rfl) T.b_len (by rfl) (pa_cons (pe_ix ix_seq (pv 0) pe_int (fun _ _ => rfl)) pa_nil))) (fun _ _ => rfl)))) pss_nil) (pss_cons (ps_if (PW.pt (pw_and (pt_cmpR op_lt (pv 3) (pe_callB call_lenU (by rfl) T.b_len (by rfl) (pa_cons (pe_ix ix_seq (pv 0) pe_int (fun _ _ => rfl)) pa_nil)) (nomark _)) (pw_and1 (pt_cmpR op_ge (pe_callB call_absU (by rfl) T.b_abs (by rfl) (pa_cons (pv 4) pa_nil)) (pe_op op_pow pe_int pe_int) (nomark _))))) (pss_cons (ps_set (i := 5) sc__law_draw.nd rfl (by first | exact Or.inl rfl | exact Or.inr rfl) (pe_op op_addU (pe_op op_mulU pe_int (pe_op op_sub (pe_callB call_absU (by rfl) T.b_abs (by rfl) (pa_cons (pv 4) pa_nil)) (pe_op op_pow pe_int pe_int))) (pe_callTy call_intU (by rfl) T.b_int (by rfl) (pa_cons (pe_cmpR op_lt (pv 4) pe_int (nomark _)) pa_nil)))) (pss_cons (ps_asg (pe_op op_divU (pe_callTy call_intU (by rfl) T.b_int (by rfl) (pa_cons (pv 5) pa_nil)) (pv 1)) (pg_sub (pv 0) pe_int set_list)) (pss_one (ps_ret (pe_op op_modU (pe_callTy call_intU (by rfl) T.b_int (by rfl) (pa_cons (pv 5) pa_nil)) (pv 1)))))) pss_nil) (pss_cons (ps_set (i := 6) sc__law_draw.nd rfl (by first | exact Or.inl rfl | exact Or.inr rfl) (pe_op op_modU (pe_callTy call_intU (by rfl) T.b_int (by rfl) (pa_cons (pe_op op_pow (pe_op op_addU (pe_op op_addU (pe_op op_modU (pe_callTy call_intU (by rfl) T.b_int (by rfl) (pa_cons (pv 4) pa_nil)) pe_int) (pe_op op_mulU pe_int (pv 3))) pe_int) pe_int) pa_nil)) pe_int)) (pss_cons (ps_set (i := 6) sc__law_draw.nd rfl (by first | exact Or.inl rfl | exact Or.inr rfl) (pe_op op_modU (pe_callTy call_intU (by rfl) T.b_int (by rfl) (pa_cons (pe_op op_pow (pe_op op_addU (pe_op op_addU (pe_op op_mulU (pv 6) (pe_op op_addU (pe_op op_mulU pe_int (pv 3)) pe_int)) (pe_op op_mulU (pe_op op_mulU pe_int (pv 3)) (pv 3))) pe_int) pe_int) pa_nil)) pe_int)) (pss_one (ps_ret (pe_op op_modU (pe_callTy call_intU (by rfl) T.b_int (by rfl) (pa_cons (pe_op op_divU (pv 6) pe_int) pa_nil)) (pv 1))))))))))))
theorem der_fixed {S_fixed : Sp} {f : Addr} {cdv : Value} {A : Around} {outer : List Env} {s : Shared} {H : Hp} {E : XK} {lv : Nat} (G_fixed : Go P w K mg base lv "fixed" S_fixed []) (hr : Room lv (A.deeper (envOfC "fixed" (defScope s_fixed) s.heap.objs.size f cdv))) :
    PSs (cxOf CX0 P w K mg base ["value", "part"] "fixed" (defScope s_fixed) f cdv A outer s H E).nox (defBody s_fixed) (r_fixed K S_fixed) := by
  exact (pss_cons (ps_if (pt_val (pe_callB call_isiT (by rfl) T.b_isinstance (by rfl) (pa_cons (pv 0) (pa_cons (pe_tup (pa_cons (pe_bltn (by rfl) T.b_list (by rfl) rfl) (pa_cons (pe_bltn (by rfl) T.b_tuple (by rfl) rfl) pa_nil))) pa_nil)))) (pss_one (ps_ret (pe_callTy call_tupU (by rfl) T.b_tuple (by rfl) (pa_cons (pe_lc (own := [("part", 1)]) (by rfl) sc_fixed.nd (pi_seq (pv 0)) (blkOk_by (N := ["value", "part"]) (sc := defScope s_fixed) (by decide +kernel)) (fun _ _ _ _ _ => (pg_name (i := 1) sc_fixed.nd rfl (by first | exact Or.inl rfl | exact Or.inr rfl))) (fun _ _ _ _ _ => pts_nil) (fun _ _ _ _ _ => (pe_go G_fixed hr (pa_cons (pv 1) pa_nil) (Nat.le_refl _)))) pa_nil)))) pss_nil) (pss_one (ps_ret (pv 0))))
theorem der_Paper_init {S_fixed : Sp} {f : Addr} {cdv : Value} {A : Around} {outer : List Env} {s : Shared} {H : Hp} {E : XK} (G_fixed : Go P w K mg base 3 "fixed" S_fixed []) (hr : Room 3 (A.deeper (envOfC "Paper.__init__" (defScope s_Paper_init) s.heap.objs.size f cdv))) :
    PSs (cxOf CX0 P w K mg base ["self", "word", "parts"] "Paper.__init__" (defScope s_Paper_init) f cdv A outer s H E).nox (defBody s_Paper_init) (r_Paper_init K S_fixed) := by
  exact (pss_cons (ps_fld (pv 0) (pv 1) rfl) (pss_one (ps_fld (pv 0) (pe_go G_fixed hr (pa_cons (pv 2) pa_nil)) rfl)))
theorem der_Piece_init  {f cc cda : Addr} {A : Around} {outer : List Env} {s : Shared} {H : Hp} {E : XK}  (hr : Room 4 (A.deeper (NdefX.envF (supF "__init__" "Piece.__init__" (defArgs s_Piece_init) (defBody s_Piece_init) (defScope s_Piece_init) cc cda) f s.heap.objs.size))) :
    PSs (NdefX.ncx CX0 P w K mg base ["self", "moment", "step", "count", "kind", "numbers", "__class__"] (supF "__init__" "Piece.__init__" (defArgs s_Piece_init) (defBody s_Piece_init) (defScope s_Piece_init) cc cda) f A outer s H E).nox ((defBody s_Piece_init).drop 1) (r_Piece_init K ) := by
  exact (pss_one (ps_asg (pe_fld (pv 0) rfl) (pg_tup rfl (pgs_cons (pg_attr (pv 0)) (pgs_cons (pg_attr (pv 0)) (pgs_cons (pg_attr (pv 0)) (pgs_cons (pg_attr (pv 0)) (pgs_cons (pg_attr (pv 0)) pgs_nil))))))))
theorem dera_Piece_init  {f cc cda : Addr} {A : Around} {outer : List Env} {s : Shared} {H : Hp} {E : XK}  (hr : Room 4 (A.deeper (NdefX.envF (supF "__init__" "Piece.__init__" (defArgs s_Piece_init) (defBody s_Piece_init) (defScope s_Piece_init) cc cda) f s.heap.objs.size))) :
    PA (NdefX.ncx CX0 P w K mg base ["self", "moment", "step", "count", "kind", "numbers", "__class__"] (supF "__init__" "Piece.__init__" (defArgs s_Piece_init) (defBody s_Piece_init) (defScope s_Piece_init) cc cda) f A outer s H E) (supArgs s_Piece_init) (a_Piece_init K ) := by
  exact (pa_cons pe_str (pa_cons (pv 1) (pa_cons (pv 2) (pa_cons (pv 3) (pa_cons (pv 4) (pa_cons (pv 5) pa_nil))))))
theorem der_is_listed  {f : Addr} {cdv : Value} {A : Around} {outer : List Env} {s : Shared} {H : Hp} {E : XK}  (hr : Room 0 (A.deeper (envOfC "is_listed" (defScope s_is_listed) s.heap.objs.size f cdv))) :
    PSs (cxOf CX0 P w K mg base ["value"] "is_listed" (defScope s_is_listed) f cdv A outer s H E).nox (defBody s_is_listed) (r_is_listed K ) := by
  exact (pss_one (ps_ret (pe_callB call_isiT (by rfl) T.b_isinstance (by rfl) (pa_cons (pv 0) (pa_cons (pe_tup (pa_cons (pe_bltn (by rfl) T.b_list (by rfl) rfl) (pa_cons (pe_bltn (by rfl) T.b_tuple (by rfl) rfl) pa_nil))) pa_nil)))))
theorem der_is_integer  {f : Addr} {cdv : Value} {A : Around} {outer : List Env} {s : Shared} {H : Hp} {E : XK}  (hr : Room 0 (A.deeper (envOfC "is_integer" (defScope s_is_integer) s.heap.objs.size f cdv))) :
    PSs (cxOf CX0 P w K mg base ["value"] "is_integer" (defScope s_is_integer) f cdv A outer s H E).nox (defBody s_is_integer) (r_is_integer K ) := by
  exact (pss_one (ps_ret (pe_and (pe_callB call_isiU (by rfl) T.b_isinstance (by rfl) (pa_cons (pv 0) (pa_cons (pe_bltn (by rfl) T.b_int (by rfl) rfl) pa_nil))) (pe_one (pe_not (pe_callB call_isiU (by rfl) T.b_isinstance (by rfl) (pa_cons (pv 0) (pa_cons (pe_bltn (by rfl) T.b_bool (by rfl) rfl) pa_nil))))))))
theorem der_is_within {S_is_integer : Sp} {f : Addr} {cdv : Value} {A : Around} {outer : List Env} {s : Shared} {H : Hp} {E : XK} (G_is_integer : Go P w K mg base 1 "is_integer" S_is_integer []) (hr : Room 1 (A.deeper (envOfC "is_within" (defScope s_is_within) s.heap.objs.size f cdv))) :
    PSs (cxOf CX0 P w K mg base ["value", "least", "most"] "is_within" (defScope s_is_within) f cdv A outer s H E).nox (defBody s_is_within) (r_is_within K S_is_integer) := by
  exact (pss_one (ps_ret (pe_and (pe_go G_is_integer hr (pa_cons (pv 0) pa_nil)) (pe_and (pe_or (pe_cmpR op_isU (pv 1) pe_non (nomark _)) (pe_one (pe_cmpR op_ge (pv 0) (pv 1) (nomark _)))) (pe_one (pe_or (pe_cmpR op_isU (pv 2) pe_non (nomark _)) (pe_one (pe_cmpR op_le (pv 0) (pv 2) (nomark _)))))))))
theorem der_is_piece {S_is_within : Sp} {S_is_listed : Sp} {S_is_integer : Sp} {f : Addr} {cdv : Value} {A : Around} {outer : List Env} {s : Shared} {H : Hp} {E : XK} (G_is_within : Go P w K mg base 2 "is_within" S_is_within []) (G_is_listed : Go P w K mg base 1 "is_listed" S_is_listed []) (G_is_integer : Go P w K mg base 1 "is_integer" S_is_integer []) (hr : Room 2 (A.deeper (envOfC "is_piece" (defScope s_is_piece) s.heap.objs.size f cdv))) :
    PSs (cxOf CX0 P w K mg base ["value", "one"] "is_piece" (defScope s_is_piece) f cdv A outer s H E).nox (defBody s_is_piece) (r_is_piece K C_Piece S_is_within S_is_listed S_is_integer) := by
  have hu : (A.deeper (envOfC "is_piece" (defScope s_is_piece) s.heap.objs.size f cdv)).units + 64 < cLine := by have := hr.un; omega
  have hu5 : (A.deeper (envOfC "is_piece" (defScope s_is_piece) s.heap.objs.size f cdv)).units + 65 < cLine := by have := hr.un; omega
  exact (pss_cons (ps_if (PW.pt (pw_or (pt_not (pt_val (pe_callB call_isiU (by rfl) T.b_isinstance (by rfl) (pa_cons (pv 0) (pa_cons (pe_glob (by rfl) T.c_Piece rfl) pa_nil))))) (pw_or (pt_not (pt_val (pe_go G_is_within hr (pa_cons (pe_fld (pv 0) rfl) (pa_cons pe_int (pa_cons (pe_globI (by rfl) T.k_MOST_COUNT) pa_nil)))))) (pw_or1 (pt_not (pt_val (pe_go G_is_listed hr (pa_cons (pe_fld (pv 0) rfl) pa_nil)))))))) (pss_one (ps_ret pe_bl)) pss_nil) (pss_cons (ps_if (PW.pt (pw_or (pt_not (pt_val (pe_go G_is_integer hr (pa_cons (pe_fld (pv 0) rfl) pa_nil)))) (pw_or (pt_not (pt_val (pe_go G_is_integer hr (pa_cons (pe_fld (pv 0) rfl) pa_nil)))) (pw_or1 (PW.pt (pw_and (pt_cmpR (op_eqU hu) (pe_fld (pv 0) rfl) pe_int (nomark _)) (pw_and1 (pt_cmpR (op_neU hu) (pe_fld (pv 0) rfl) pe_int (nomark _))))))))) (pss_one (ps_ret pe_bl)) pss_nil) (pss_cons (ps_if (PW.pt (pw_or (pt_not (pt_val (pe_callB call_isiU (by rfl) T.b_isinstance (by rfl) (pa_cons (pe_fld (pv 0) rfl) (pa_cons (pe_bltn (by rfl) T.b_str (by rfl) rfl) pa_nil))))) (pw_or1 (pt_cmpR (op_notInU hu5) (pe_fld (pv 0) rfl) (pe_globT (by rfl) T.k_KINDS) (by with_unfolding_all rfl))))) (pss_one (ps_ret pe_bl)) pss_nil) (pss_cons (ps_if (pt_not (pt_val (pe_callB (cr_all rfl) (by rfl) T.b_all (by rfl) (pa_cons (pe_lc (own := [("one", 1)]) (by rfl) sc_is_piece.nd (pi_seq (pe_fld (pv 0) rfl)) (blkOk_by (N := ["value", "one"]) (sc := defScope s_is_piece) (by decide +kernel)) (fun _ _ _ _ _ => (pg_name (i := 1) sc_is_piece.nd rfl (by first | exact Or.inl rfl | exact Or.inr rfl))) (fun _ _ _ _ _ => pts_nil) (fun _ _ _ _ _ => (pe_go G_is_integer hr (pa_cons (pv 1) pa_nil)))) pa_nil)))) (pss_one (ps_ret pe_bl)) pss_nil) (pss_cons (ps_if (pt_not (pt_chain op_le op_le pe_int (pe_callB call_lenU (by rfl) T.b_len (by rfl) (pa_cons (pe_fld (pv 0) rfl) pa_nil)) (pe_callB (call_minU rfl hu) (by rfl) T.b_min (by rfl) (pa_cons (pe_fld (pv 0) rfl) (pa_cons (pe_ifExp (pt_cmpR (op_eqU hu) (pe_fld (pv 0) rfl) pe_str (nomark _)) pe_int (pe_globI (by rfl) T.k_MOST_PERIOD)) pa_nil))))) (pss_one (ps_ret pe_bl)) pss_nil) (pss_one (ps_ret (pe_or (pe_cmpR (op_eqU hu) (pe_fld (pv 0) rfl) pe_str (nomark _)) (pe_or (pe_cmpR (op_eqU hu) (pe_callB call_lenU (by rfl) T.b_len (by rfl) (pa_cons (pe_fld (pv 0) rfl) pa_nil)) pe_int (nomark _)) (pe_one (pe_cmpR (op_neU hu) (pe_ix ix_seq (pe_fld (pv 0) rfl) (pe_un un_neg pe_int) (fun _ _ => rfl)) pe_int (nomark _))))))))))))
theorem der_padded  {f : Addr} {cdv : Value} {A : Around} {outer : List Env} {s : Shared} {H : Hp} {E : XK}  (hr : Room 0 (A.deeper (envOfC "padded" (defScope s_padded) s.heap.objs.size f cdv))) :
    PSs (cxOf CX0 P w K mg base ["numbers"] "padded" (defScope s_padded) f cdv A outer s H E).nox (defBody s_padded) (r_padded K ) := by
  exact (pss_one (ps_ret (pe_slice sl_U (pe_lst (StX.pa_star (pv 0) (pa_cons pe_int (pa_cons pe_int pa_nil)))) po_none (po_some pe_int))))
theorem der_pairs_of  {f : Addr} {cdv : Value} {A : Around} {outer : List Env} {s : Shared} {H : Hp} {E : XK}  (hr : Room 0 (A.deeper (envOfC "pairs_of" (defScope s_pairs_of) s.heap.objs.size f cdv))) :
    PSs (cxOf CX0 P w K mg base ["many"] "pairs_of" (defScope s_pairs_of) f cdv A outer s H E).nox (defBody s_pairs_of) (r_pairs_of K ) := by
  exact (pss_one (ps_ret (pe_op op_divU (pe_op op_mulU (pv 0) (pe_op op_sub (pv 0) pe_int)) pe_int)))
theorem der_number_at {S_padded : Sp} {S_pairs_of : Sp} {f : Addr} {cdv : Value} {A : Around} {outer : List Env} {s : Shared} {H : Hp} {E : XK} (G_padded : Go P w K mg base 1 "padded" S_padded []) (G_pairs_of : Go P w K mg base 1 "pairs_of" S_pairs_of []) (hr : Room 1 (A.deeper (envOfC "number_at" (defScope s_number_at) s.heap.objs.size f cdv))) :
    PSs (cxOf CX0 P w K mg base ["kind", "numbers", "index", "first", "more", "bend"] "number_at" (defScope s_number_at) f cdv A outer s H E).nox (defBody s_number_at) (r_number_at K S_padded S_pairs_of) := by
  have hu : (A.deeper (envOfC "number_at" (defScope s_number_at) s.heap.objs.size f cdv)).units + 64 < cLine := by have := hr.un; omega
  have hu5 : (A.deeper (envOfC "number_at" (defScope s_number_at) s.heap.objs.size f cdv)).units + 65 < cLine := by have := hr.un; omega
  exact (pss_cons (ps_if (pt_cmpR (op_eqU hu) (pv 0) pe_str (nomark _)) (pss_one (ps_ret (pe_ix ix_seq (pv 1) (pe_op op_modU (pv 2) (pe_callB call_lenU (by rfl) T.b_len (by rfl) (pa_cons (pv 1) pa_nil))) (fun _ _ => rfl)))) pss_nil) (pss_cons (ps_asg (pe_go G_padded hr (pa_cons (pv 1) pa_nil)) (pg_lst rfl (pgs_cons (pg_name (i := 3) sc_number_at.nd rfl (by first | exact Or.inl rfl | exact Or.inr rfl)) (pgs_cons (pg_name (i := 4) sc_number_at.nd rfl (by first | exact Or.inl rfl | exact Or.inr rfl)) (pgs_cons (pg_name (i := 5) sc_number_at.nd rfl (by first | exact Or.inl rfl | exact Or.inr rfl)) pgs_nil))))) (pss_one (ps_ret (pe_op op_addU (pe_op op_addU (pv 3) (pe_op op_mulU (pv 4) (pv 2))) (pe_op op_mulU (pv 5) (pe_go G_pairs_of hr (pa_cons (pv 2) pa_nil))))))))
theorem der_turn_of {S_padded : Sp} {f : Addr} {cdv : Value} {A : Around} {outer : List Env} {s : Shared} {H : Hp} {E : XK} (G_padded : Go P w K mg base 1 "padded" S_padded []) (hr : Room 1 (A.deeper (envOfC "turn_of" (defScope s_turn_of) s.heap.objs.size f cdv))) :
    PSs (cxOf CX0 P w K mg base ["numbers", "count", "first", "more", "bend", "spot"] "turn_of" (defScope s_turn_of) f cdv A outer s H E).nox (defBody s_turn_of) (r_turn_of K S_padded) := by
  have hu : (A.deeper (envOfC "turn_of" (defScope s_turn_of) s.heap.objs.size f cdv)).units + 64 < cLine := by have := hr.un; omega
  have hu5 : (A.deeper (envOfC "turn_of" (defScope s_turn_of) s.heap.objs.size f cdv)).units + 65 < cLine := by have := hr.un; omega
  exact (pss_cons (ps_asg (pe_go G_padded hr (pa_cons (pv 0) pa_nil)) (pg_lst rfl (pgs_cons (pg_name (i := 2) sc_turn_of.nd rfl (by first | exact Or.inl rfl | exact Or.inr rfl)) (pgs_cons (pg_name (i := 3) sc_turn_of.nd rfl (by first | exact Or.inl rfl | exact Or.inr rfl)) (pgs_cons (pg_name (i := 4) sc_turn_of.nd rfl (by first | exact Or.inl rfl | exact Or.inr rfl)) pgs_nil))))) (pss_cons (ps_if (PW.pt (pw_or (pt_cmpR (op_eqU hu) (pv 4) pe_int (nomark _)) (pw_or1 (pt_cmpR op_lt (pv 1) pe_int (nomark _))))) (pss_one (ps_ret (pe_op op_sub (pv 1) pe_int))) pss_nil) (pss_cons (ps_set (i := 5) sc_turn_of.nd rfl (by first | exact Or.inl rfl | exact Or.inr rfl) (pe_ifExp (PW.pt (pw_and (pt_cmpR (op_neU hu) (pe_cmpR op_gt (pv 3) pe_int (nomark _)) (pe_cmpR op_gt (pv 4) pe_int (nomark _)) (nomark _)) (pw_and1 (pt_cmpR (op_neU hu) (pv 3) pe_int (nomark _))))) (pe_un un_neg (pe_op op_divU (pe_un un_neg (pe_callB call_absU (by rfl) T.b_abs (by rfl) (pa_cons (pv 3) pa_nil))) (pe_callB call_absU (by rfl) T.b_abs (by rfl) (pa_cons (pv 4) pa_nil)))) pe_int)) (pss_one (ps_ret (pe_callB (call_minU rfl hu) (by rfl) T.b_min (by rfl) (pa_cons (pe_callB (call_maxU rfl) (by rfl) T.b_max (by rfl) (pa_cons (pv 5) (pa_cons pe_int pa_nil))) (pa_cons (pe_op op_sub (pv 1) pe_int) pa_nil))))))))
theorem der_first_bad_moment  {f : Addr} {cdv : Value} {A : Around} {outer : List Env} {s : Shared} {H : Hp} {E : XK}  (hr : Room 0 (A.deeper (envOfC "first_bad_moment" (defScope s_first_bad_moment) s.heap.objs.size f cdv))) :
    PSs (cxOf CX0 P w K mg base ["piece", "room"] "first_bad_moment" (defScope s_first_bad_moment) f cdv A outer s H E).nox (defBody s_first_bad_moment) (r_first_bad_moment K ) := by
  have hu : (A.deeper (envOfC "first_bad_moment" (defScope s_first_bad_moment) s.heap.objs.size f cdv)).units + 64 < cLine := by have := hr.un; omega
  have hu5 : (A.deeper (envOfC "first_bad_moment" (defScope s_first_bad_moment) s.heap.objs.size f cdv)).units + 65 < cLine := by have := hr.un; omega
  exact (pss_cons (ps_if (pt_not (pt_chain op_le op_le pe_int (pe_fld (pv 0) rfl) (pe_globI (by rfl) T.k_MOST_MOMENT))) (pss_one (ps_ret pe_int)) pss_nil) (pss_cons (ps_if (PW.pt (pw_and (pt_cmpR op_gt (pe_fld (pv 0) rfl) pe_int (nomark _)) (pw_and1 (pt_cmpR op_lt (pe_fld (pv 0) rfl) pe_int (nomark _))))) (pss_one (ps_ret pe_int)) pss_nil) (pss_cons (ps_set (i := 1) sc_first_bad_moment.nd rfl (by first | exact Or.inl rfl | exact Or.inr rfl) (pe_ifExp (pt_cmpR op_gt (pe_fld (pv 0) rfl) pe_int (nomark _)) (pe_op op_addU (pe_op op_divU (pe_op op_sub (pe_globI (by rfl) T.k_MOST_MOMENT) (pe_fld (pv 0) rfl)) (pe_fld (pv 0) rfl)) pe_int) pe_int)) (pss_one (ps_ret (pe_callB (call_minU rfl hu) (by rfl) T.b_min (by rfl) (pa_cons (pe_fld (pv 0) rfl) (pa_cons (pv 1) pa_nil))))))))
theorem der_wrong_in {S_first_beyond : Sp} {S_first_bad_moment : Sp} {f : Addr} {cdv : Value} {A : Around} {outer : List Env} {s : Shared} {H : Hp} {E : XK} (G_first_beyond : Go P w K mg base 4 "first_beyond" S_first_beyond []) (G_first_bad_moment : Go P w K mg base 1 "first_bad_moment" S_first_bad_moment []) (hr : Room 4 (A.deeper (envOfC "wrong_in" (defScope s_wrong_in) s.heap.objs.size f cdv))) :
    PSs (cxOf CX0 P w K mg base ["piece", "ahead", "beyond"] "wrong_in" (defScope s_wrong_in) f cdv A outer s H E).nox (defBody s_wrong_in) (r_wrong_in K S_first_beyond S_first_bad_moment) := by
  have hu : (A.deeper (envOfC "wrong_in" (defScope s_wrong_in) s.heap.objs.size f cdv)).units + 64 < cLine := by have := hr.un; omega
  have hu5 : (A.deeper (envOfC "wrong_in" (defScope s_wrong_in) s.heap.objs.size f cdv)).units + 65 < cLine := by have := hr.un; omega
  exact (pss_cons (ps_if (PW.pt (pw_and (pt_cmpR op_isNU (pv 1) pe_non (nomark _)) (pw_and1 (pt_cmpR op_le (pe_fld (pv 0) rfl) (pv 1) (nomark _))))) (pss_one (ps_ret pe_int)) pss_nil) (pss_cons (ps_set (i := 2) sc_wrong_in.nd rfl (by first | exact Or.inl rfl | exact Or.inr rfl) (pe_go G_first_beyond hr (pa_cons (pe_fld (pv 0) rfl) (pa_cons (pe_fld (pv 0) rfl) (pa_cons (pe_fld (pv 0) rfl) (pa_cons (pe_op op_sub pe_int (pe_globI (by rfl) T.k_MOST_VALUE)) (pa_cons (pe_globI (by rfl) T.k_MOST_VALUE) pa_nil))))))) (pss_one (ps_ret (pe_callB (call_minU rfl hu) (by rfl) T.b_min (by rfl) (pa_cons (pe_go G_first_bad_moment hr (pa_cons (pv 0) pa_nil)) (pa_cons (pv 2) pa_nil)))))))
theorem der_moment_at  {f : Addr} {cdv : Value} {A : Around} {outer : List Env} {s : Shared} {H : Hp} {E : XK}  (hr : Room 0 (A.deeper (envOfC "moment_at" (defScope s_moment_at) s.heap.objs.size f cdv))) :
    PSs (cxOf CX0 P w K mg base ["piece", "index"] "moment_at" (defScope s_moment_at) f cdv A outer s H E).nox (defBody s_moment_at) (r_moment_at K ) := by
  exact (pss_one (ps_ret (pe_op op_addU (pe_fld (pv 0) rfl) (pe_op op_mulU (pe_fld (pv 0) rfl) (pv 1)))))
theorem der_last_moment {S_moment_at : Sp} {f : Addr} {cdv : Value} {A : Around} {outer : List Env} {s : Shared} {H : Hp} {E : XK} (G_moment_at : Go P w K mg base 1 "moment_at" S_moment_at []) (hr : Room 1 (A.deeper (envOfC "last_moment" (defScope s_last_moment) s.heap.objs.size f cdv))) :
    PSs (cxOf CX0 P w K mg base ["piece"] "last_moment" (defScope s_last_moment) f cdv A outer s H E).nox (defBody s_last_moment) (r_last_moment K S_moment_at) := by
  exact (pss_one (ps_ret (pe_go G_moment_at hr (pa_cons (pv 0) (pa_cons (pe_op op_sub (pe_fld (pv 0) rfl) pe_int) pa_nil)))))
theorem der_first_wrong {S_wrong_in : Sp} {S_last_moment : Sp} {f : Addr} {cdv : Value} {A : Around} {outer : List Env} {s : Shared} {H : Hp} {E : XK} (G_wrong_in : Go P w K mg base 5 "wrong_in" S_wrong_in []) (G_last_moment : Go P w K mg base 2 "last_moment" S_last_moment []) (hr : Room 5 (A.deeper (envOfC "first_wrong" (defScope s_first_wrong) s.heap.objs.size f cdv))) :
    PSs (cxOf CX0 P w K mg base ["pieces", "seen", "ahead", "piece", "spot"] "first_wrong" (defScope s_first_wrong) f cdv A outer s H E).nox (defBody s_first_wrong) (r_first_wrong K S_wrong_in S_last_moment) := by
  exact (pss_cons (ps_asg (pe_tup (pa_cons pe_int (pa_cons pe_non pa_nil))) (pg_tup rfl (pgs_cons (pg_name (i := 1) sc_first_wrong.nd rfl (by first | exact Or.inl rfl | exact Or.inr rfl)) (pgs_cons (pg_name (i := 2) sc_first_wrong.nd rfl (by first | exact Or.inl rfl | exact Or.inr rfl)) pgs_nil)))) (pss_cons (ps_for PassesOwn.never rfl (pi_seq (pv 0)) (pg_name (i := 3) sc_first_wrong.nd rfl (by first | exact Or.inl rfl | exact Or.inr rfl)) (pss_cons (ps_set (i := 4) sc_first_wrong.nd rfl (by first | exact Or.inl rfl | exact Or.inr rfl) (pe_go G_wrong_in hr (pa_cons (pv 3) (pa_cons (pv 2) pa_nil)))) (pss_cons (ps_if (pt_cmpR op_lt (pv 4) (pe_fld (pv 3) rfl) (nomark _)) (pss_one (ps_ret (pe_op op_addU (pv 1) (pv 4)))) pss_nil) (pss_one (ps_par (i := 1) (j := 2) rfl sc_first_wrong.nd rfl rfl (by decide) rfl rfl (pa_cons (pe_op op_addU (pv 1) (pe_fld (pv 3) rfl)) (pa_cons (pe_go G_last_moment hr (pa_cons (pv 3) pa_nil)) pa_nil)) (by rfl)))))) (pss_one (ps_ret pe_non))))
theorem der_are_pieces {S_is_listed : Sp} {S_is_piece : Sp} {S_first_wrong : Sp} {f : Addr} {cdv : Value} {A : Around} {outer : List Env} {s : Shared} {H : Hp} {E : XK} (G_is_listed : Go P w K mg base 1 "is_listed" S_is_listed []) (G_is_piece : Go P w K mg base 3 "is_piece" S_is_piece []) (G_first_wrong : Go P w K mg base 6 "first_wrong" S_first_wrong []) (hr : Room 6 (A.deeper (envOfC "are_pieces" (defScope s_are_pieces) s.heap.objs.size f cdv))) :
    PSs (cxOf CX0 P w K mg base ["value", "piece"] "are_pieces" (defScope s_are_pieces) f cdv A outer s H E).nox (defBody s_are_pieces) (r_are_pieces K S_is_listed S_is_piece S_first_wrong) := by
  exact (pss_one (ps_ret (pe_and (pe_go G_is_listed hr (pa_cons (pv 0) pa_nil)) (pe_and (pe_callB (cr_all rfl) (by rfl) T.b_all (by rfl) (pa_cons (pe_lc (own := [("piece", 1)]) (by rfl) sc_are_pieces.nd (pi_seq (pv 0)) (blkOk_by (N := ["value", "piece"]) (sc := defScope s_are_pieces) (by decide +kernel)) (fun _ _ _ _ _ => (pg_name (i := 1) sc_are_pieces.nd rfl (by first | exact Or.inl rfl | exact Or.inr rfl))) (fun _ _ _ _ _ => pts_nil) (fun _ _ _ _ _ => (pe_go G_is_piece hr (pa_cons (pv 1) pa_nil)))) pa_nil)) (pe_one (pe_cmpR op_isU (pe_go G_first_wrong hr (pa_cons (pv 0) pa_nil)) pe_non (nomark _)))))))
theorem der_need_pieces {S_are_pieces : Sp} {f : Addr} {cdv : Value} {A : Around} {outer : List Env} {s : Shared} {H : Hp} {E : XK} (G_are_pieces : Go P w K mg base 7 "are_pieces" S_are_pieces []) (hr : Room 7 (A.deeper (envOfC "need_pieces" (defScope s_need_pieces) s.heap.objs.size f cdv))) :
    PSs (cxOf CX0 P w K mg base ["part", "value"] "need_pieces" (defScope s_need_pieces) f cdv A outer s H E).nox (defBody s_need_pieces) (r_need_pieces K S_are_pieces) := by
  exact (pss_one (ps_if (pt_not (pt_val (pe_go G_are_pieces hr (pa_cons (pv 1) pa_nil)))) pss_never pss_nil))
theorem der_need_question  {f : Addr} {cdv : Value} {A : Around} {outer : List Env} {s : Shared} {H : Hp} {E : XK}  (hr : Room 0 (A.deeper (envOfC "need_question" (defScope s_need_question) s.heap.objs.size f cdv))) :
    PSs (cxOf CX0 P w K mg base ["value"] "need_question" (defScope s_need_question) f cdv A outer s H E).nox (defBody s_need_question) (r_need_question K C_Question) := by
  exact (pss_one (ps_if (pt_not (pt_val (pe_callB call_isiU (by rfl) T.b_isinstance (by rfl) (pa_cons (pv 0) (pa_cons (pe_glob (by rfl) T.c_Question rfl) pa_nil))))) pss_never pss_nil))
theorem der_below_in  {f : Addr} {cdv : Value} {A : Around} {outer : List Env} {s : Shared} {H : Hp} {E : XK}  (hr : Room 0 (A.deeper (envOfC "below_in" (defScope s_below_in) s.heap.objs.size f cdv))) :
    PSs (cxOf CX0 P w K mg base ["piece", "moment"] "below_in" (defScope s_below_in) f cdv A outer s H E).nox (defBody s_below_in) (r_below_in K ) := by
  have hu : (A.deeper (envOfC "below_in" (defScope s_below_in) s.heap.objs.size f cdv)).units + 64 < cLine := by have := hr.un; omega
  have hu5 : (A.deeper (envOfC "below_in" (defScope s_below_in) s.heap.objs.size f cdv)).units + 65 < cLine := by have := hr.un; omega
  exact (pss_cons (ps_if (pt_cmpR op_le (pv 1) (pe_fld (pv 0) rfl) (nomark _)) (pss_one (ps_ret pe_int)) pss_nil) (pss_cons (ps_if (pt_cmpR (op_eqU hu) (pe_fld (pv 0) rfl) pe_int (nomark _)) (pss_one (ps_ret pe_int)) pss_nil) (pss_one (ps_ret (pe_callB (call_minU rfl hu) (by rfl) T.b_min (by rfl) (pa_cons (pe_fld (pv 0) rfl) (pa_cons (pe_op op_addU (pe_op op_divU (pe_op op_sub (pe_op op_sub (pv 1) (pe_fld (pv 0) rfl)) pe_int) (pe_fld (pv 0) rfl)) pe_int) pa_nil)))))))
theorem der_trimmed  {f : Addr} {cdv : Value} {A : Around} {outer : List Env} {s : Shared} {H : Hp} {E : XK}  (hr : Room 0 (A.deeper (envOfC "trimmed" (defScope s_trimmed) s.heap.objs.size f cdv))) :
    PSs (cxOf CX0 P w K mg base ["numbers", "count", "found"] "trimmed" (defScope s_trimmed) f cdv A outer s H E).nox (defBody s_trimmed) (r_trimmed K ) := by
  have hu : (A.deeper (envOfC "trimmed" (defScope s_trimmed) s.heap.objs.size f cdv)).units + 64 < cLine := by have := hr.un; omega
  have hu5 : (A.deeper (envOfC "trimmed" (defScope s_trimmed) s.heap.objs.size f cdv)).units + 65 < cLine := by have := hr.un; omega
  exact (pss_cons (ps_set (i := 2) sc_trimmed.nd rfl (by first | exact Or.inl rfl | exact Or.inr rfl) (pe_slice sl_U (pe_callTy (call_listU rfl) (by rfl) T.b_list (by rfl) (pa_cons (pv 0) pa_nil)) po_none (po_some (pv 1)))) (pss_cons (ps_while PassesOwn.never (PW.pt (pw_and (pt_cmpR op_gt (pe_callB call_lenU (by rfl) T.b_len (by rfl) (pa_cons (pv 2) pa_nil)) pe_int (nomark _)) (pw_and1 (pt_cmpR (op_eqU hu) (pe_ix ix_seq (pv 2) (pe_un un_neg pe_int) (fun _ _ => rfl)) pe_int (nomark _))))) (pss_one (ps_expr (pe_bm0 PySem.F.plainAttrs_list PySem.F.slot_list_pop PySem.F.type_list_pop mt_pop (pv 2))))) (pss_one (ps_ret (pv 2)))))
theorem der_part_of {S_padded : Sp} {S_trimmed : Sp} {S_number_at : Sp} {f : Addr} {cdv : Value} {A : Around} {outer : List Env} {s : Shared} {H : Hp} {E : XK} (G_padded : Go P w K mg base 1 "padded" S_padded []) (G_trimmed : Go P w K mg base 1 "trimmed" S_trimmed []) (G_number_at : Go P w K mg base 2 "number_at" S_number_at []) (hr : Room 2 (A.deeper (envOfC "part_of" (defScope s_part_of) s.heap.objs.size f cdv))) :
    PSs (cxOf CX0 P w K mg base ["kind", "numbers", "begin", "count", "first", "more", "bend", "at"] "part_of" (defScope s_part_of) f cdv A outer s H E).nox (defBody s_part_of) (r_part_of K S_padded S_trimmed S_number_at) := by
  have hu : (A.deeper (envOfC "part_of" (defScope s_part_of) s.heap.objs.size f cdv)).units + 64 < cLine := by have := hr.un; omega
  have hu5 : (A.deeper (envOfC "part_of" (defScope s_part_of) s.heap.objs.size f cdv)).units + 65 < cLine := by have := hr.un; omega
  exact (pss_cons (ps_if (pt_cmpR (op_eqU hu) (pv 0) pe_str (nomark _)) (pss_one (ps_ret (pe_lc (own := [("at", 7)]) (by rfl) sc_part_of.nd (pi_range1 (by rfl) T.b_range (pa_cons (pe_callB (call_minU rfl hu) (by rfl) T.b_min (by rfl) (pa_cons (pe_callB call_lenU (by rfl) T.b_len (by rfl) (pa_cons (pv 1) pa_nil)) (pa_cons (pv 3) pa_nil))) pa_nil)) (blkOk_by (N := ["kind", "numbers", "begin", "count", "first", "more", "bend", "at"]) (sc := defScope s_part_of) (by decide +kernel)) (fun _ _ _ _ _ => (pg_name (i := 7) sc_part_of.nd rfl (by first | exact Or.inl rfl | exact Or.inr rfl))) (fun _ _ _ _ _ => pts_nil) (fun _ _ _ _ _ => (pe_ix ix_seq (pv 1) (pe_op op_modU (pe_op op_addU (pv 2) (pv 7)) (pe_callB call_lenU (by rfl) T.b_len (by rfl) (pa_cons (pv 1) pa_nil))) (fun _ _ => rfl)))))) pss_nil) (pss_cons (ps_asg (pe_go G_padded hr (pa_cons (pv 1) pa_nil)) (pg_lst rfl (pgs_cons (pg_name (i := 4) sc_part_of.nd rfl (by first | exact Or.inl rfl | exact Or.inr rfl)) (pgs_cons (pg_name (i := 5) sc_part_of.nd rfl (by first | exact Or.inl rfl | exact Or.inr rfl)) (pgs_cons (pg_name (i := 6) sc_part_of.nd rfl (by first | exact Or.inl rfl | exact Or.inr rfl)) pgs_nil))))) (pss_one (ps_ret (pe_go G_trimmed hr (pa_cons (pe_lst (pa_cons (pe_go G_number_at hr (pa_cons (pv 0) (pa_cons (pv 1) (pa_cons (pv 2) pa_nil)))) (pa_cons (pe_op op_addU (pv 5) (pe_op op_mulU (pv 6) (pv 2))) (pa_cons (pv 6) pa_nil)))) (pa_cons (pv 3) pa_nil)))))))
theorem der_part_of_piece {S_part_of : Sp} {S_Piece : Sp} {S_moment_at : Sp} {f : Addr} {cdv : Value} {A : Around} {outer : List Env} {s : Shared} {H : Hp} {E : XK} (G_part_of : Go P w K mg base 3 "part_of" S_part_of []) (G_moment_at : Go P w K mg base 1 "moment_at" S_moment_at []) (M_Piece : Mkc P w K mg base 5 "Piece" C_Piece S_Piece []) (hr : Room 6 (A.deeper (envOfC "part_of_piece" (defScope s_part_of_piece) s.heap.objs.size f cdv))) :
    PSs (cxOf CX0 P w K mg base ["piece", "begin", "count", "numbers"] "part_of_piece" (defScope s_part_of_piece) f cdv A outer s H E).nox (defBody s_part_of_piece) (r_part_of_piece K S_part_of C_Piece S_Piece S_moment_at) := by
  exact (pss_cons (ps_set (i := 3) sc_part_of_piece.nd rfl (by first | exact Or.inl rfl | exact Or.inr rfl) (pe_go G_part_of hr (pa_cons (pe_fld (pv 0) rfl) (pa_cons (pe_fld (pv 0) rfl) (pa_cons (pv 1) (pa_cons (pv 2) pa_nil)))))) (pss_one (ps_ret (pe_mk M_Piece hr (pa_cons (pe_go G_moment_at hr (pa_cons (pv 0) (pa_cons (pv 1) pa_nil))) (pa_cons (pe_ifExp (pt_cmpR op_gt (pv 2) pe_int (nomark _)) (pe_fld (pv 0) rfl) pe_int) (pa_cons (pv 2) (pa_cons (pe_fld (pv 0) rfl) (pa_cons (pv 3) pa_nil)))))))))
theorem der_points_among {S_below_in : Sp} {S_moment_at : Sp} {S_part_of_piece : Sp} {f : Addr} {cdv : Value} {A : Around} {outer : List Env} {s : Shared} {H : Hp} {E : XK} (G_below_in : Go P w K mg base 1 "below_in" S_below_in []) (G_moment_at : Go P w K mg base 1 "moment_at" S_moment_at []) (G_part_of_piece : Go P w K mg base 7 "part_of_piece" S_part_of_piece []) (hr : Room 7 (A.deeper (envOfC "points_among" (defScope s_points_among) s.heap.objs.size f cdv))) :
    PSs (cxOf CX0 P w K mg base ["pieces", "moments", "found", "piece", "moment", "index"] "points_among" (defScope s_points_among) f cdv A outer s H E).nox (defBody s_points_among) (r_points_among K S_below_in S_moment_at S_part_of_piece) := by
  have hu : (A.deeper (envOfC "points_among" (defScope s_points_among) s.heap.objs.size f cdv)).units + 64 < cLine := by have := hr.un; omega
  have hu5 : (A.deeper (envOfC "points_among" (defScope s_points_among) s.heap.objs.size f cdv)).units + 65 < cLine := by have := hr.un; omega
  exact (pss_cons (ps_set (i := 2) sc_points_among.nd rfl (by first | exact Or.inl rfl | exact Or.inr rfl) (pe_lst pa_nil)) (pss_cons (ps_for PassesOwn.never rfl (pi_seq (pv 0)) (pg_name (i := 3) sc_points_among.nd rfl (by first | exact Or.inl rfl | exact Or.inr rfl)) (pss_one (ps_for PassesOwn.never rfl (pi_seq (pv 1)) (pg_name (i := 4) sc_points_among.nd rfl (by first | exact Or.inl rfl | exact Or.inr rfl)) (pss_cons (ps_set (i := 5) sc_points_among.nd rfl (by first | exact Or.inl rfl | exact Or.inr rfl) (pe_go G_below_in hr (pa_cons (pv 3) (pa_cons (pv 4) pa_nil)))) (pss_one (ps_if (PW.pt (pw_and (pt_cmpR op_lt (pv 5) (pe_fld (pv 3) rfl) (nomark _)) (pw_and1 (pt_cmpR (op_eqU hu) (pe_go G_moment_at hr (pa_cons (pv 3) (pa_cons (pv 5) pa_nil))) (pv 4) (nomark _))))) (pss_one (ps_expr (pe_bm PySem.F.plainAttrs_list PySem.F.slot_list_append PySem.F.type_list_append mt_append (pv 2) (pa_cons (pe_go G_part_of_piece hr (pa_cons (pv 3) (pa_cons (pv 5) (pa_cons pe_int pa_nil)))) pa_nil)))) pss_nil)))))) (pss_one (ps_ret (pe_callTy call_tupU (by rfl) T.b_tuple (by rfl) (pa_cons (pv 2) pa_nil))))))
theorem der_listed_in  {f : Addr} {cdv : Value} {A : Around} {outer : List Env} {s : Shared} {H : Hp} {E : XK}  (hr : Room 0 (A.deeper (envOfC "listed_in" (defScope s_listed_in) s.heap.objs.size f cdv))) :
    PSs (cxOf CX0 P w K mg base ["question", "moment"] "listed_in" (defScope s_listed_in) f cdv A outer s H E).nox (defBody s_listed_in) (r_listed_in K ) := by
  exact (pss_one (ps_ret (pe_lc (own := [("moment", 1)]) (by rfl) sc_listed_in.nd (pi_seq (pe_fld (pv 0) rfl)) (blkOk_by (N := ["question", "moment"]) (sc := defScope s_listed_in) (by decide +kernel)) (fun _ _ _ _ _ => (pg_name (i := 1) sc_listed_in.nd rfl (by first | exact Or.inl rfl | exact Or.inr rfl))) (fun _ _ _ _ _ => (pts_one (pt_chain op_le op_lt (pe_fld (pv 0) rfl) (pv 1) (pe_fld (pv 0) rfl)))) (fun _ _ _ _ _ => (pv 1)))))
theorem der_cut_in {S_below_in : Sp} {S_part_of_piece : Sp} {f : Addr} {cdv : Value} {A : Around} {outer : List Env} {s : Shared} {H : Hp} {E : XK} (G_below_in : Go P w K mg base 1 "below_in" S_below_in []) (G_part_of_piece : Go P w K mg base 7 "part_of_piece" S_part_of_piece []) (hr : Room 7 (A.deeper (envOfC "cut_in" (defScope s_cut_in) s.heap.objs.size f cdv))) :
    PSs (cxOf CX0 P w K mg base ["pieces", "start", "stop", "found", "piece", "begin", "behind"] "cut_in" (defScope s_cut_in) f cdv A outer s H E).nox (defBody s_cut_in) (r_cut_in K S_below_in S_part_of_piece) := by
  exact (pss_cons (ps_set (i := 3) sc_cut_in.nd rfl (by first | exact Or.inl rfl | exact Or.inr rfl) (pe_lst pa_nil)) (pss_cons (ps_for PassesOwn.never rfl (pi_seq (pv 0)) (pg_name (i := 4) sc_cut_in.nd rfl (by first | exact Or.inl rfl | exact Or.inr rfl)) (pss_cons (ps_par (i := 5) (j := 6) rfl sc_cut_in.nd rfl rfl (by decide) rfl rfl (pa_cons (pe_go G_below_in hr (pa_cons (pv 4) (pa_cons (pv 1) pa_nil))) (pa_cons (pe_go G_below_in hr (pa_cons (pv 4) (pa_cons (pv 2) pa_nil))) pa_nil)) (by rfl)) (pss_one (ps_if (pt_cmpR op_lt (pv 5) (pv 6) (nomark _)) (pss_one (ps_expr (pe_bm PySem.F.plainAttrs_list PySem.F.slot_list_append PySem.F.type_list_append mt_append (pv 3) (pa_cons (pe_go G_part_of_piece hr (pa_cons (pv 4) (pa_cons (pv 5) (pa_cons (pe_op op_sub (pv 6) (pv 5)) pa_nil)))) pa_nil)))) pss_nil)))) (pss_one (ps_ret (pe_callTy call_tupU (by rfl) T.b_tuple (by rfl) (pa_cons (pv 3) pa_nil))))))
theorem der_pieces_at {S_points_among : Sp} {S_listed_in : Sp} {S_cut_in : Sp} {f : Addr} {cdv : Value} {A : Around} {outer : List Env} {s : Shared} {H : Hp} {E : XK} (G_points_among : Go P w K mg base 8 "points_among" S_points_among []) (G_listed_in : Go P w K mg base 1 "listed_in" S_listed_in []) (G_cut_in : Go P w K mg base 8 "cut_in" S_cut_in []) (hr : Room 8 (A.deeper (envOfC "pieces_at" (defScope s_pieces_at) s.heap.objs.size f cdv))) :
    PSs (cxOf CX0 P w K mg base ["pieces", "question"] "pieces_at" (defScope s_pieces_at) f cdv A outer s H E).nox (defBody s_pieces_at) (r_pieces_at K S_points_among S_listed_in S_cut_in) := by
  exact (pss_cons (ps_if (pt_cmpR op_isNU (pe_fld (pv 1) rfl) pe_non (nomark _)) (pss_one (ps_ret (pe_go G_points_among hr (pa_cons (pv 0) (pa_cons (pe_go G_listed_in hr (pa_cons (pv 1) pa_nil)) pa_nil))))) pss_nil) (pss_one (ps_ret (pe_go G_cut_in hr (pa_cons (pv 0) (pa_cons (pe_fld (pv 1) rfl) (pa_cons (pe_fld (pv 1) rfl) pa_nil)))))))
theorem der_counted  {f : Addr} {cdv : Value} {A : Around} {outer : List Env} {s : Shared} {H : Hp} {E : XK}  (hr : Room 0 (A.deeper (envOfC "counted" (defScope s_counted) s.heap.objs.size f cdv))) :
    PSs (cxOf CX0 P w K mg base ["pieces", "piece"] "counted" (defScope s_counted) f cdv A outer s H E).nox (defBody s_counted) (r_counted K ) := by
  exact (pss_one (ps_ret (pe_callB (call_sumU rfl) (by rfl) T.b_sum (by rfl) (pa_cons (pe_lc (own := [("piece", 1)]) (by rfl) sc_counted.nd (pi_seq (pv 0)) (blkOk_by (N := ["pieces", "piece"]) (sc := defScope s_counted) (by decide +kernel)) (fun _ _ _ _ _ => (pg_name (i := 1) sc_counted.nd rfl (by first | exact Or.inl rfl | exact Or.inr rfl))) (fun _ _ _ _ _ => pts_nil) (fun _ _ _ _ _ => (pe_fld (pv 1) rfl))) pa_nil))))
theorem der_threes_of  {f : Addr} {cdv : Value} {A : Around} {outer : List Env} {s : Shared} {H : Hp} {E : XK}  (hr : Room 0 (A.deeper (envOfC "threes_of" (defScope s_threes_of) s.heap.objs.size f cdv))) :
    PSs (cxOf CX0 P w K mg base ["many"] "threes_of" (defScope s_threes_of) f cdv A outer s H E).nox (defBody s_threes_of) (r_threes_of K ) := by
  exact (pss_one (ps_ret (pe_op op_divU (pe_op op_mulU (pe_op op_mulU (pv 0) (pe_op op_sub (pv 0) pe_int)) (pe_op op_sub (pv 0) pe_int)) pe_int)))
theorem der_total_of {S_padded : Sp} {S_pairs_of : Sp} {S_threes_of : Sp} {f : Addr} {cdv : Value} {A : Around} {outer : List Env} {s : Shared} {H : Hp} {E : XK} (G_padded : Go P w K mg base 1 "padded" S_padded []) (G_pairs_of : Go P w K mg base 1 "pairs_of" S_pairs_of []) (G_threes_of : Go P w K mg base 1 "threes_of" S_threes_of []) (hr : Room 1 (A.deeper (envOfC "total_of" (defScope s_total_of) s.heap.objs.size f cdv))) :
    PSs (cxOf CX0 P w K mg base ["kind", "numbers", "count", "laps", "rest", "first", "more", "bend"] "total_of" (defScope s_total_of) f cdv A outer s H E).nox (defBody s_total_of) (r_total_of K S_padded S_pairs_of S_threes_of) := by
  have hu : (A.deeper (envOfC "total_of" (defScope s_total_of) s.heap.objs.size f cdv)).units + 64 < cLine := by have := hr.un; omega
  have hu5 : (A.deeper (envOfC "total_of" (defScope s_total_of) s.heap.objs.size f cdv)).units + 65 < cLine := by have := hr.un; omega
  exact (pss_cons (ps_if (pt_cmpR (op_eqU hu) (pv 0) pe_str (nomark _)) (pss_cons (ps_asg (pe_callB cr_divmodU (by rfl) T.b_divmod (by rfl) (pa_cons (pv 2) (pa_cons (pe_callB call_lenU (by rfl) T.b_len (by rfl) (pa_cons (pv 1) pa_nil)) pa_nil))) (pg_tup rfl (pgs_cons (pg_name (i := 3) sc_total_of.nd rfl (by first | exact Or.inl rfl | exact Or.inr rfl)) (pgs_cons (pg_name (i := 4) sc_total_of.nd rfl (by first | exact Or.inl rfl | exact Or.inr rfl)) pgs_nil)))) (pss_one (ps_ret (pe_op op_addU (pe_op op_mulU (pv 3) (pe_callB (call_sumU rfl) (by rfl) T.b_sum (by rfl) (pa_cons (pv 1) pa_nil))) (pe_callB (call_sumU rfl) (by rfl) T.b_sum (by rfl) (pa_cons (pe_slice sl_U (pv 1) po_none (po_some (pv 4))) pa_nil)))))) pss_nil) (pss_cons (ps_asg (pe_go G_padded hr (pa_cons (pv 1) pa_nil)) (pg_lst rfl (pgs_cons (pg_name (i := 5) sc_total_of.nd rfl (by first | exact Or.inl rfl | exact Or.inr rfl)) (pgs_cons (pg_name (i := 6) sc_total_of.nd rfl (by first | exact Or.inl rfl | exact Or.inr rfl)) (pgs_cons (pg_name (i := 7) sc_total_of.nd rfl (by first | exact Or.inl rfl | exact Or.inr rfl)) pgs_nil))))) (pss_one (ps_ret (pe_op op_addU (pe_op op_addU (pe_op op_mulU (pv 5) (pv 2)) (pe_op op_mulU (pv 6) (pe_go G_pairs_of hr (pa_cons (pv 2) pa_nil)))) (pe_op op_mulU (pv 7) (pe_go G_threes_of hr (pa_cons (pv 2) pa_nil))))))))
theorem der_summed {S_total_of : Sp} {f : Addr} {cdv : Value} {A : Around} {outer : List Env} {s : Shared} {H : Hp} {E : XK} (G_total_of : Go P w K mg base 2 "total_of" S_total_of []) (hr : Room 2 (A.deeper (envOfC "summed" (defScope s_summed) s.heap.objs.size f cdv))) :
    PSs (cxOf CX0 P w K mg base ["pieces", "piece"] "summed" (defScope s_summed) f cdv A outer s H E).nox (defBody s_summed) (r_summed K S_total_of) := by
  exact (pss_one (ps_ret (pe_callB (call_sumU rfl) (by rfl) T.b_sum (by rfl) (pa_cons (pe_lc (own := [("piece", 1)]) (by rfl) sc_summed.nd (pi_seq (pv 0)) (blkOk_by (N := ["pieces", "piece"]) (sc := defScope s_summed) (by decide +kernel)) (fun _ _ _ _ _ => (pg_name (i := 1) sc_summed.nd rfl (by first | exact Or.inl rfl | exact Or.inr rfl))) (fun _ _ _ _ _ => pts_nil) (fun _ _ _ _ _ => (pe_go G_total_of hr (pa_cons (pe_fld (pv 1) rfl) (pa_cons (pe_fld (pv 1) rfl) (pa_cons (pe_fld (pv 1) rfl) pa_nil)))))) pa_nil))))
theorem der_first_of  {f : Addr} {cdv : Value} {A : Around} {outer : List Env} {s : Shared} {H : Hp} {E : XK}  (hr : Room 0 (A.deeper (envOfC "first_of" (defScope s_first_of) s.heap.objs.size f cdv))) :
    PSs (cxOf CX0 P w K mg base ["found"] "first_of" (defScope s_first_of) f cdv A outer s H E).nox (defBody s_first_of) (r_first_of K ) := by
  exact (pss_one (ps_ret (pe_ifExp (pt_cmpR op_isU (pv 0) pe_non (nomark _)) pe_non (pe_ix ix_seq (pv 0) pe_int (fun _ _ => rfl)))))
theorem der_corners_of {S_turn_of : Sp} {f : Addr} {cdv : Value} {A : Around} {outer : List Env} {s : Shared} {H : Hp} {E : XK} (G_turn_of : Go P w K mg base 2 "turn_of" S_turn_of []) (hr : Room 2 (A.deeper (envOfC "corners_of" (defScope s_corners_of) s.heap.objs.size f cdv))) :
    PSs (cxOf CX0 P w K mg base ["kind", "numbers", "count", "turn", "at"] "corners_of" (defScope s_corners_of) f cdv A outer s H E).nox (defBody s_corners_of) (r_corners_of K S_turn_of) := by
  have hu : (A.deeper (envOfC "corners_of" (defScope s_corners_of) s.heap.objs.size f cdv)).units + 64 < cLine := by have := hr.un; omega
  have hu5 : (A.deeper (envOfC "corners_of" (defScope s_corners_of) s.heap.objs.size f cdv)).units + 65 < cLine := by have := hr.un; omega
  exact (pss_cons (ps_if (pt_cmpR (op_eqU hu) (pv 0) pe_str (nomark _)) (pss_one (ps_ret (pe_listRg rfl (by rfl) T.b_list (prg_1 (by rfl) T.b_range (pe_callB (call_minU rfl hu) (by rfl) T.b_min (by rfl) (pa_cons (pe_callB call_lenU (by rfl) T.b_len (by rfl) (pa_cons (pv 1) pa_nil)) (pa_cons (pv 2) pa_nil))))))) pss_nil) (pss_cons (ps_set (i := 3) sc_corners_of.nd rfl (by first | exact Or.inl rfl | exact Or.inr rfl) (pe_go G_turn_of hr (pa_cons (pv 1) (pa_cons (pv 2) pa_nil)))) (pss_one (ps_ret (pe_sortSet rfl (by rfl) T.b_sorted (by rfl) T.b_set (pe_lc (own := [("at", 4)]) (by rfl) sc_corners_of.nd (pi_seq (pe_tup (pa_cons pe_int (pa_cons (pv 3) (pa_cons (pe_op op_sub (pv 2) pe_int) pa_nil))))) (blkOk_by (N := ["kind", "numbers", "count", "turn", "at"]) (sc := defScope s_corners_of) (by decide +kernel)) (fun _ _ _ _ _ => (pg_name (i := 4) sc_corners_of.nd rfl (by first | exact Or.inl rfl | exact Or.inr rfl))) (fun _ _ _ _ _ => (pts_one (pt_chain op_le op_lt pe_int (pv 4) (pv 2)))) (fun _ _ _ _ _ => (pv 4))) rfl)))))
theorem der_least_at {S_corners_of : Sp} {S_number_at : Sp} {f : Addr} {cdv : Value} {A : Around} {outer : List Env} {s : Shared} {H : Hp} {E : XK} (G_corners_of : Go P w K mg base 3 "corners_of" S_corners_of []) (G_number_at : Go P w K mg base 2 "number_at" S_number_at []) (hr : Room 3 (A.deeper (envOfC "least_at" (defScope s_least_at) s.heap.objs.size f cdv))) :
    PSs (cxOf CX0 P w K mg base ["kind", "numbers", "count", "at"] "least_at" (defScope s_least_at) f cdv A outer s H E).nox (defBody s_least_at) (r_least_at K S_corners_of S_number_at) := by
  have hu : (A.deeper (envOfC "least_at" (defScope s_least_at) s.heap.objs.size f cdv)).units + 64 < cLine := by have := hr.un; omega
  have hu5 : (A.deeper (envOfC "least_at" (defScope s_least_at) s.heap.objs.size f cdv)).units + 65 < cLine := by have := hr.un; omega
  exact (pss_one (ps_ret (pe_callB (call_minU rfl hu) (by rfl) T.b_min (by rfl) (pa_cons (pe_lc (own := [("at", 3)]) (by rfl) sc_least_at.nd (pi_seq (pe_go G_corners_of hr (pa_cons (pv 0) (pa_cons (pv 1) (pa_cons (pv 2) pa_nil))))) (blkOk_by (N := ["kind", "numbers", "count", "at"]) (sc := defScope s_least_at) (by decide +kernel)) (fun _ _ _ _ _ => (pg_name (i := 3) sc_least_at.nd rfl (by first | exact Or.inl rfl | exact Or.inr rfl))) (fun _ _ _ _ _ => pts_nil) (fun _ _ _ _ _ => (pe_tup (pa_cons (pe_go G_number_at hr (pa_cons (pv 0) (pa_cons (pv 1) (pa_cons (pv 3) pa_nil)))) (pa_cons (pv 3) pa_nil))))) pa_nil))))
theorem der_lowest {S_least_at : Sp} {S_moment_at : Sp} {f : Addr} {cdv : Value} {A : Around} {outer : List Env} {s : Shared} {H : Hp} {E : XK} (G_least_at : Go P w K mg base 4 "least_at" S_least_at []) (G_moment_at : Go P w K mg base 1 "moment_at" S_moment_at []) (hr : Room 4 (A.deeper (envOfC "lowest" (defScope s_lowest) s.heap.objs.size f cdv))) :
    PSs (cxOf CX0 P w K mg base ["pieces", "found", "piece", "value", "at"] "lowest" (defScope s_lowest) f cdv A outer s H E).nox (defBody s_lowest) (r_lowest K S_least_at S_moment_at) := by
  exact (pss_cons (ps_set (i := 1) sc_lowest.nd rfl (by first | exact Or.inl rfl | exact Or.inr rfl) pe_non) (pss_cons (ps_for PassesOwn.never rfl (pi_seq (pv 0)) (pg_name (i := 2) sc_lowest.nd rfl (by first | exact Or.inl rfl | exact Or.inr rfl)) (pss_cons (ps_asg (pe_go G_least_at hr (pa_cons (pe_fld (pv 2) rfl) (pa_cons (pe_fld (pv 2) rfl) (pa_cons (pe_fld (pv 2) rfl) pa_nil)))) (pg_tup rfl (pgs_cons (pg_name (i := 3) sc_lowest.nd rfl (by first | exact Or.inl rfl | exact Or.inr rfl)) (pgs_cons (pg_name (i := 4) sc_lowest.nd rfl (by first | exact Or.inl rfl | exact Or.inr rfl)) pgs_nil)))) (pss_one (ps_if (PW.pt (pw_or (pt_cmpR op_isU (pv 1) pe_non (nomark _)) (pw_or1 (pt_cmpR op_lt (pv 3) (pe_ix ix_seq (pv 1) pe_int (fun _ _ => rfl)) (nomark _))))) (pss_one (ps_set (i := 1) sc_lowest.nd rfl (by first | exact Or.inl rfl | exact Or.inr rfl) (pe_tup (pa_cons (pv 3) (pa_cons (pe_go G_moment_at hr (pa_cons (pv 2) (pa_cons (pv 4) pa_nil))) pa_nil))))) pss_nil)))) (pss_one (ps_ret (pv 1)))))
theorem der_greatest_at {S_corners_of : Sp} {S_number_at : Sp} {f : Addr} {cdv : Value} {A : Around} {outer : List Env} {s : Shared} {H : Hp} {E : XK} (G_corners_of : Go P w K mg base 3 "corners_of" S_corners_of []) (G_number_at : Go P w K mg base 2 "number_at" S_number_at []) (hr : Room 3 (A.deeper (envOfC "greatest_at" (defScope s_greatest_at) s.heap.objs.size f cdv))) :
    PSs (cxOf CX0 P w K mg base ["kind", "numbers", "count", "found", "at"] "greatest_at" (defScope s_greatest_at) f cdv A outer s H E).nox (defBody s_greatest_at) (r_greatest_at K S_corners_of S_number_at) := by
  have hu : (A.deeper (envOfC "greatest_at" (defScope s_greatest_at) s.heap.objs.size f cdv)).units + 64 < cLine := by have := hr.un; omega
  have hu5 : (A.deeper (envOfC "greatest_at" (defScope s_greatest_at) s.heap.objs.size f cdv)).units + 65 < cLine := by have := hr.un; omega
  exact (pss_cons (ps_set (i := 3) sc_greatest_at.nd rfl (by first | exact Or.inl rfl | exact Or.inr rfl) (pe_callB (call_minU rfl hu) (by rfl) T.b_min (by rfl) (pa_cons (pe_lc (own := [("at", 4)]) (by rfl) sc_greatest_at.nd (pi_seq (pe_go G_corners_of hr (pa_cons (pv 0) (pa_cons (pv 1) (pa_cons (pv 2) pa_nil))))) (blkOk_by (N := ["kind", "numbers", "count", "found", "at"]) (sc := defScope s_greatest_at) (by decide +kernel)) (fun _ _ _ _ _ => (pg_name (i := 4) sc_greatest_at.nd rfl (by first | exact Or.inl rfl | exact Or.inr rfl))) (fun _ _ _ _ _ => pts_nil) (fun _ _ _ _ _ => (pe_tup (pa_cons (pe_op op_sub pe_int (pe_go G_number_at hr (pa_cons (pv 0) (pa_cons (pv 1) (pa_cons (pv 4) pa_nil))))) (pa_cons (pv 4) pa_nil))))) pa_nil))) (pss_one (ps_ret (pe_tup (pa_cons (pe_op op_sub pe_int (pe_ix ix_seq (pv 3) pe_int (fun _ _ => rfl))) (pa_cons (pe_ix ix_seq (pv 3) pe_int (fun _ _ => rfl)) pa_nil))))))
theorem der_highest {S_greatest_at : Sp} {S_moment_at : Sp} {f : Addr} {cdv : Value} {A : Around} {outer : List Env} {s : Shared} {H : Hp} {E : XK} (G_greatest_at : Go P w K mg base 4 "greatest_at" S_greatest_at []) (G_moment_at : Go P w K mg base 1 "moment_at" S_moment_at []) (hr : Room 4 (A.deeper (envOfC "highest" (defScope s_highest) s.heap.objs.size f cdv))) :
    PSs (cxOf CX0 P w K mg base ["pieces", "found", "piece", "value", "at"] "highest" (defScope s_highest) f cdv A outer s H E).nox (defBody s_highest) (r_highest K S_greatest_at S_moment_at) := by
  exact (pss_cons (ps_set (i := 1) sc_highest.nd rfl (by first | exact Or.inl rfl | exact Or.inr rfl) pe_non) (pss_cons (ps_for PassesOwn.never rfl (pi_seq (pv 0)) (pg_name (i := 2) sc_highest.nd rfl (by first | exact Or.inl rfl | exact Or.inr rfl)) (pss_cons (ps_asg (pe_go G_greatest_at hr (pa_cons (pe_fld (pv 2) rfl) (pa_cons (pe_fld (pv 2) rfl) (pa_cons (pe_fld (pv 2) rfl) pa_nil)))) (pg_tup rfl (pgs_cons (pg_name (i := 3) sc_highest.nd rfl (by first | exact Or.inl rfl | exact Or.inr rfl)) (pgs_cons (pg_name (i := 4) sc_highest.nd rfl (by first | exact Or.inl rfl | exact Or.inr rfl)) pgs_nil)))) (pss_one (ps_if (PW.pt (pw_or (pt_cmpR op_isU (pv 1) pe_non (nomark _)) (pw_or1 (pt_cmpR op_gt (pv 3) (pe_ix ix_seq (pv 1) pe_int (fun _ _ => rfl)) (nomark _))))) (pss_one (ps_set (i := 1) sc_highest.nd rfl (by first | exact Or.inl rfl | exact Or.inr rfl) (pe_tup (pa_cons (pv 3) (pa_cons (pe_go G_moment_at hr (pa_cons (pv 2) (pa_cons (pv 4) pa_nil))) pa_nil))))) pss_nil)))) (pss_one (ps_ret (pv 1)))))
theorem der_most_of_curve {S_turn_of : Sp} {S_rising_most : Sp} {f : Addr} {cdv : Value} {A : Around} {outer : List Env} {s : Shared} {H : Hp} {E : XK} (G_turn_of : Go P w K mg base 2 "turn_of" S_turn_of []) (G_rising_most : Go P w K mg base 5 "rising_most" S_rising_most []) (hr : Room 5 (A.deeper (envOfC "most_of_curve" (defScope s_most_of_curve) s.heap.objs.size f cdv))) :
    PSs (cxOf CX0 P w K mg base ["kind", "numbers", "count", "bound", "laps", "rest", "small", "turn", "number"] "most_of_curve" (defScope s_most_of_curve) f cdv A outer s H E).nox (defBody s_most_of_curve) (r_most_of_curve K S_turn_of S_rising_most) := by
  have hu : (A.deeper (envOfC "most_of_curve" (defScope s_most_of_curve) s.heap.objs.size f cdv)).units + 64 < cLine := by have := hr.un; omega
  have hu5 : (A.deeper (envOfC "most_of_curve" (defScope s_most_of_curve) s.heap.objs.size f cdv)).units + 65 < cLine := by have := hr.un; omega
  exact (pss_cons (ps_if (pt_cmpR (op_eqU hu) (pv 0) pe_str (nomark _)) (pss_cons (ps_asg (pe_callB cr_divmodU (by rfl) T.b_divmod (by rfl) (pa_cons (pv 2) (pa_cons (pe_callB call_lenU (by rfl) T.b_len (by rfl) (pa_cons (pv 1) pa_nil)) pa_nil))) (pg_tup rfl (pgs_cons (pg_name (i := 4) sc_most_of_curve.nd rfl (by first | exact Or.inl rfl | exact Or.inr rfl)) (pgs_cons (pg_name (i := 5) sc_most_of_curve.nd rfl (by first | exact Or.inl rfl | exact Or.inr rfl)) pgs_nil)))) (pss_cons (ps_setLc (i := 6) (own := [("number", 8)]) (by rfl) sc_most_of_curve.nd rfl rfl (sw_true rfl rfl rfl (by decide +kernel)) (pi_seq (pv 1)) (blkOk_by (N := ["kind", "numbers", "count", "bound", "laps", "rest", "small", "turn", "number"]) (sc := defScope s_most_of_curve) (by decide +kernel)) (fun _ _ _ _ _ => (pg_name (i := 8) sc_most_of_curve.nd rfl (by first | exact Or.inl rfl | exact Or.inr rfl))) (fun _ _ _ _ _ => pts_nil) (fun _ _ _ _ _ => (pe_callTy call_intU (by rfl) T.b_int (by rfl) (pa_cons (pe_cmpR op_le (pv 8) (pv 3) (nomark _)) pa_nil)))) (pss_one (ps_ret (pe_op op_addU (pe_op op_mulU (pv 4) (pe_callB (call_sumU rfl) (by rfl) T.b_sum (by rfl) (pa_cons (pv 6) pa_nil))) (pe_callB (call_sumU rfl) (by rfl) T.b_sum (by rfl) (pa_cons (pe_slice sl_U (pv 6) po_none (po_some (pv 5))) pa_nil))))))) pss_nil) (pss_cons (ps_set (i := 7) sc_most_of_curve.nd rfl (by first | exact Or.inl rfl | exact Or.inr rfl) (pe_go G_turn_of hr (pa_cons (pv 1) (pa_cons (pv 2) pa_nil)))) (pss_one (ps_ret (pe_op op_addU (pe_go G_rising_most hr (pa_cons (pv 0) (pa_cons (pv 1) (pa_cons pe_int (pa_cons (pv 7) (pa_cons (pv 3) pa_nil)))))) (pe_go G_rising_most hr (pa_cons (pv 0) (pa_cons (pv 1) (pa_cons (pv 7) (pa_cons (pv 2) (pa_cons (pv 3) pa_nil)))))))))))
theorem der_most_by {S_most_of_curve : Sp} {f : Addr} {cdv : Value} {A : Around} {outer : List Env} {s : Shared} {H : Hp} {E : XK} (G_most_of_curve : Go P w K mg base 6 "most_of_curve" S_most_of_curve []) (hr : Room 6 (A.deeper (envOfC "most_by" (defScope s_most_by) s.heap.objs.size f cdv))) :
    PSs (cxOf CX0 P w K mg base ["pieces", "bound", "piece"] "most_by" (defScope s_most_by) f cdv A outer s H E).nox (defBody s_most_by) (r_most_by K S_most_of_curve) := by
  exact (pss_one (ps_ret (pe_callB (call_sumU rfl) (by rfl) T.b_sum (by rfl) (pa_cons (pe_lc (own := [("piece", 2)]) (by rfl) sc_most_by.nd (pi_seq (pv 0)) (blkOk_by (N := ["pieces", "bound", "piece"]) (sc := defScope s_most_by) (by decide +kernel)) (fun _ _ _ _ _ => (pg_name (i := 2) sc_most_by.nd rfl (by first | exact Or.inl rfl | exact Or.inr rfl))) (fun _ _ _ _ _ => pts_nil) (fun _ _ _ _ _ => (pe_go G_most_of_curve hr (pa_cons (pe_fld (pv 2) rfl) (pa_cons (pe_fld (pv 2) rfl) (pa_cons (pe_fld (pv 2) rfl) (pa_cons (pv 1) pa_nil))))))) pa_nil))))
theorem der_ranked {S_counted : Sp} {S_lowest : Sp} {S_highest : Sp} {S_most_by : Sp} {f : Addr} {cdv : Value} {A : Around} {outer : List Env} {s : Shared} {H : Hp} {E : XK} (G_counted : Go P w K mg base 1 "counted" S_counted []) (G_lowest : Go P w K mg base 5 "lowest" S_lowest []) (G_highest : Go P w K mg base 5 "highest" S_highest []) (G_most_by : Go P w K mg base 7 "most_by" S_most_by []) (hr : Room 7 (A.deeper (envOfC "ranked" (defScope s_ranked) s.heap.objs.size f cdv))) :
    PSs (cxOf CX0 P w K mg base ["pieces", "rank", "low", "high", "middle"] "ranked" (defScope s_ranked) f cdv A outer s H E).nox (defBody s_ranked) (r_ranked K S_counted S_lowest S_highest S_most_by) := by
  exact (pss_cons (ps_if (pt_cmpR op_gt (pv 1) (pe_go G_counted hr (pa_cons (pv 0) pa_nil)) (nomark _)) (pss_one (ps_ret pe_non)) pss_nil) (pss_cons (ps_par (i := 2) (j := 3) rfl sc_ranked.nd rfl rfl (by decide) rfl rfl (pa_cons (pe_ix ix_seq (pe_go G_lowest hr (pa_cons (pv 0) pa_nil)) pe_int (fun _ _ => rfl)) (pa_cons (pe_ix ix_seq (pe_go G_highest hr (pa_cons (pv 0) pa_nil)) pe_int (fun _ _ => rfl)) pa_nil)) (by rfl)) (pss_cons (ps_while PassesOwn.never (pt_cmpR op_lt (pv 2) (pv 3) (nomark _)) (pss_cons (ps_set (i := 4) sc_ranked.nd rfl (by first | exact Or.inl rfl | exact Or.inr rfl) (pe_op op_divU (pe_op op_addU (pv 2) (pv 3)) pe_int)) (pss_one (ps_if (pt_cmpR op_ge (pe_go G_most_by hr (pa_cons (pv 0) (pa_cons (pv 4) pa_nil))) (pv 1) (nomark _)) (pss_one (ps_set (i := 3) sc_ranked.nd rfl (by first | exact Or.inl rfl | exact Or.inr rfl) (pv 4))) (pss_one (ps_set (i := 2) sc_ranked.nd rfl (by first | exact Or.inl rfl | exact Or.inr rfl) (pe_op op_addU (pv 4) pe_int))))))) (pss_one (ps_ret (pv 2))))))
theorem der_answer_of {S_need_pieces : Sp} {S_need_question : Sp} {S_pieces_at : Sp} {S_counted : Sp} {S_summed : Sp} {S_first_of : Sp} {S_lowest : Sp} {S_highest : Sp} {S_most_by : Sp} {S_ranked : Sp} {f : Addr} {cdv : Value} {A : Around} {outer : List Env} {s : Shared} {H : Hp} {E : XK} (G_need_pieces : Go P w K mg base 8 "need_pieces" S_need_pieces []) (G_need_question : Go P w K mg base 1 "need_question" S_need_question []) (G_pieces_at : Go P w K mg base 9 "pieces_at" S_pieces_at []) (G_counted : Go P w K mg base 1 "counted" S_counted []) (G_summed : Go P w K mg base 3 "summed" S_summed []) (G_first_of : Go P w K mg base 1 "first_of" S_first_of []) (G_lowest : Go P w K mg base 5 "lowest" S_lowest []) (G_highest : Go P w K mg base 5 "highest" S_highest []) (G_most_by : Go P w K mg base 7 "most_by" S_most_by []) (G_ranked : Go P w K mg base 8 "ranked" S_ranked []) (hr : Room 9 (A.deeper (envOfC "answer_of" (defScope s_answer_of) s.heap.objs.size f cdv))) :
    PSs (cxOf CX0 P w K mg base ["pieces", "question", "some"] "answer_of" (defScope s_answer_of) f cdv A outer s H E).nox (defBody s_answer_of) (r_answer_of K S_need_pieces S_need_question S_pieces_at S_counted S_summed S_first_of S_lowest S_highest S_most_by S_ranked) := by
  have hu : (A.deeper (envOfC "answer_of" (defScope s_answer_of) s.heap.objs.size f cdv)).units + 64 < cLine := by have := hr.un; omega
  have hu5 : (A.deeper (envOfC "answer_of" (defScope s_answer_of) s.heap.objs.size f cdv)).units + 65 < cLine := by have := hr.un; omega
  exact (pss_cons (ps_expr (pe_go G_need_pieces hr (pa_cons pe_str (pa_cons (pv 0) pa_nil)))) (pss_cons (ps_expr (pe_go G_need_question hr (pa_cons (pv 1) pa_nil))) (pss_cons (ps_set (i := 2) sc_answer_of.nd rfl (by first | exact Or.inl rfl | exact Or.inr rfl) (pe_go G_pieces_at hr (pa_cons (pv 0) (pa_cons (pv 1) pa_nil)))) (pss_cons (ps_if (pt_cmpR (op_eqU hu) (pe_fld (pv 1) rfl) pe_str (nomark _)) (pss_one (ps_ret (pe_go G_counted hr (pa_cons (pv 2) pa_nil)))) pss_nil) (pss_cons (ps_if (pt_cmpR (op_eqU hu) (pe_fld (pv 1) rfl) pe_str (nomark _)) (pss_one (ps_ret (pe_go G_summed hr (pa_cons (pv 2) pa_nil)))) pss_nil) (pss_cons (ps_if (pt_cmpR (op_eqU hu) (pe_fld (pv 1) rfl) pe_str (nomark _)) (pss_one (ps_ret (pe_go G_first_of hr (pa_cons (pe_go G_lowest hr (pa_cons (pv 2) pa_nil)) pa_nil)))) pss_nil) (pss_cons (ps_if (pt_cmpR (op_eqU hu) (pe_fld (pv 1) rfl) pe_str (nomark _)) (pss_one (ps_ret (pe_go G_first_of hr (pa_cons (pe_go G_highest hr (pa_cons (pv 2) pa_nil)) pa_nil)))) pss_nil) (pss_one (ps_ret (pe_ifExp (pt_cmpR (op_eqU hu) (pe_fld (pv 1) rfl) pe_str (nomark _)) (pe_go G_most_by hr (pa_cons (pv 2) (pa_cons (pe_fld (pv 1) rfl) pa_nil))) (pe_go G_ranked hr (pa_cons (pv 2) (pa_cons (pe_fld (pv 1) rfl) pa_nil)))))))))))))
theorem der_is_numbered {S_is_within : Sp} {f : Addr} {cdv : Value} {A : Around} {outer : List Env} {s : Shared} {H : Hp} {E : XK} (G_is_within : Go P w K mg base 2 "is_within" S_is_within []) (hr : Room 2 (A.deeper (envOfC "is_numbered" (defScope s_is_numbered) s.heap.objs.size f cdv))) :
    PSs (cxOf CX0 P w K mg base ["kind", "value"] "is_numbered" (defScope s_is_numbered) f cdv A outer s H E).nox (defBody s_is_numbered) (r_is_numbered K S_is_within) := by
  have hu : (A.deeper (envOfC "is_numbered" (defScope s_is_numbered) s.heap.objs.size f cdv)).units + 64 < cLine := by have := hr.un; omega
  have hu5 : (A.deeper (envOfC "is_numbered" (defScope s_is_numbered) s.heap.objs.size f cdv)).units + 65 < cLine := by have := hr.un; omega
  exact (pss_cons (ps_if (pt_cmpR (op_eqU hu) (pv 0) pe_str (nomark _)) (pss_one (ps_ret (pe_go G_is_within hr (pa_cons (pv 1) (pa_cons (pe_op op_sub pe_int (pe_globI (by rfl) T.k_MOST_NUMBER)) (pa_cons (pe_globI (by rfl) T.k_MOST_NUMBER) pa_nil)))))) pss_nil) (pss_one (ps_ret (pe_ifExp (pt_cmpR (op_eqU hu) (pv 0) pe_str (nomark _)) (pe_go G_is_within hr (pa_cons (pv 1) (pa_cons pe_int (pa_cons (pe_globI (by rfl) T.k_MOST_NUMBER) pa_nil)))) (pe_cmpR op_isU (pv 1) pe_non (nomark _))))))
theorem der_are_moments {S_is_listed : Sp} {S_is_within : Sp} {f : Addr} {cdv : Value} {A : Around} {outer : List Env} {s : Shared} {H : Hp} {E : XK} (G_is_listed : Go P w K mg base 1 "is_listed" S_is_listed []) (G_is_within : Go P w K mg base 2 "is_within" S_is_within []) (hr : Room 2 (A.deeper (envOfC "are_moments" (defScope s_are_moments) s.heap.objs.size f cdv))) :
    PSs (cxOf CX0 P w K mg base ["value", "one", "other"] "are_moments" (defScope s_are_moments) f cdv A outer s H E).nox (defBody s_are_moments) (r_are_moments K S_is_listed S_is_within) := by
  exact (pss_cons (ps_if (PW.pt (pw_or (pt_not (pt_val (pe_go G_is_listed hr (pa_cons (pv 0) pa_nil)))) (pw_or (pt_cmpR op_gt (pe_callB call_lenU (by rfl) T.b_len (by rfl) (pa_cons (pv 0) pa_nil)) (pe_globI (by rfl) T.k_MOST_LISTED) (nomark _)) (pw_or1 (pt_not (pt_val (pe_callB (cr_all rfl) (by rfl) T.b_all (by rfl) (pa_cons (pe_lc (own := [("one", 1)]) (by rfl) sc_are_moments.nd (pi_seq (pv 0)) (blkOk_by (N := ["value", "one", "other"]) (sc := defScope s_are_moments) (by decide +kernel)) (fun _ _ _ _ _ => (pg_name (i := 1) sc_are_moments.nd rfl (by first | exact Or.inl rfl | exact Or.inr rfl))) (fun _ _ _ _ _ => pts_nil) (fun _ _ _ _ _ => (pe_go G_is_within hr (pa_cons (pv 1) (pa_cons pe_int (pa_cons (pe_globI (by rfl) T.k_MOST_MOMENT) pa_nil)))))) pa_nil)))))))) (pss_one (ps_ret pe_bl)) pss_nil) (pss_one (ps_ret (pe_callB (cr_all rfl) (by rfl) T.b_all (by rfl) (pa_cons (pe_lc (own := [("one", 1), ("other", 2)]) (by rfl) sc_are_moments.nd (pi_zip (by rfl) T.b_zip (pa_cons (pv 0) (pa_cons (pe_slice sl_U (pv 0) (po_some pe_int) po_none) pa_nil))) (blkOk_by (N := ["value", "one", "other"]) (sc := defScope s_are_moments) (by decide +kernel)) (fun _ _ _ _ _ => (pg_tup rfl (pgs_cons (pg_name (i := 1) sc_are_moments.nd rfl (by first | exact Or.inl rfl | exact Or.inr rfl)) (pgs_cons (pg_name (i := 2) sc_are_moments.nd rfl (by first | exact Or.inl rfl | exact Or.inr rfl)) pgs_nil)))) (fun _ _ _ _ _ => pts_nil) (fun _ _ _ _ _ => (pe_cmpR op_lt (pv 1) (pv 2) (nomark _)))) pa_nil)))))
theorem der_Question_init {S_is_numbered : Sp} {S_is_within : Sp} {S_are_moments : Sp} {f : Addr} {cdv : Value} {A : Around} {outer : List Env} {s : Shared} {H : Hp} {E : XK} (G_is_numbered : Go P w K mg base 3 "is_numbered" S_is_numbered []) (G_is_within : Go P w K mg base 2 "is_within" S_is_within []) (G_are_moments : Go P w K mg base 3 "are_moments" S_are_moments []) (hr : Room 3 (A.deeper (envOfC "Question.__init__" (defScope s_Question_init) s.heap.objs.size f cdv))) :
    PSs (cxOf CX0 P w K mg base ["self", "kind", "number", "start", "stop", "among"] "Question.__init__" (defScope s_Question_init) f cdv A outer s H E).nox (defBody s_Question_init) (r_Question_init K S_is_numbered S_is_within S_are_moments) := by
  have hu : (A.deeper (envOfC "Question.__init__" (defScope s_Question_init) s.heap.objs.size f cdv)).units + 64 < cLine := by have := hr.un; omega
  have hu5 : (A.deeper (envOfC "Question.__init__" (defScope s_Question_init) s.heap.objs.size f cdv)).units + 65 < cLine := by have := hr.un; omega
  exact (pss_cons (ps_if (PW.pt (pw_or (pt_not (pt_val (pe_callB call_isiU (by rfl) T.b_isinstance (by rfl) (pa_cons (pv 1) (pa_cons (pe_bltn (by rfl) T.b_str (by rfl) rfl) pa_nil))))) (pw_or1 (pt_cmpR (op_notInU hu5) (pv 1) (pe_globT (by rfl) T.k_ASKED) (by with_unfolding_all rfl))))) pss_never pss_nil) (pss_cons (ps_if (pt_not (pt_val (pe_go G_is_numbered hr (pa_cons (pv 1) (pa_cons (pv 2) pa_nil))))) pss_never pss_nil) (pss_cons (ps_if (PW.pt (pw_or (pt_not (pt_val (pe_go G_is_within hr (pa_cons (pv 3) (pa_cons pe_int (pa_cons (pe_op op_addU (pe_globI (by rfl) T.k_MOST_MOMENT) pe_int) pa_nil)))))) (pw_or1 (pt_not (pt_val (pe_go G_is_within hr (pa_cons (pv 4) (pa_cons (pv 3) (pa_cons (pe_op op_addU (pe_globI (by rfl) T.k_MOST_MOMENT) pe_int) pa_nil))))))))) pss_never pss_nil) (pss_cons (ps_if (PW.pt (pw_and (pt_cmpR op_isNU (pv 5) pe_non (nomark _)) (pw_and1 (pt_not (pt_val (pe_go G_are_moments hr (pa_cons (pv 5) pa_nil))))))) pss_never pss_nil) (pss_cons (ps_fld (pv 0) (pv 1) rfl) (pss_cons (ps_fld (pv 0) (pv 2) rfl) (pss_cons (ps_fld (pv 0) (pv 3) rfl) (pss_cons (ps_fld (pv 0) (pv 4) rfl) (pss_one (ps_fld (pv 0) (pe_ifExp (pt_cmpR op_isNU (pv 5) pe_non (nomark _)) (pe_callTy call_tupU (by rfl) T.b_tuple (by rfl) (pa_cons (pv 5) pa_nil)) pe_non) rfl))))))))))
theorem der__law_line_most  {f : Addr} {cdv : Value} {A : Around} {outer : List Env} {s : Shared} {H : Hp} {E : XK}  (hr : Room 0 (A.deeper (envOfC "_law_line_most" (defScope s__law_line_most) s.heap.objs.size f cdv))) :
    PSs (cxOf CX0 P w K mg base ["first", "more", "count", "bound"] "_law_line_most" (defScope s__law_line_most) f cdv A outer s H E).nox (defBody s__law_line_most) (r__law_line_most K ) := by
  have hu : (A.deeper (envOfC "_law_line_most" (defScope s__law_line_most) s.heap.objs.size f cdv)).units + 64 < cLine := by have := hr.un; omega
  have hu5 : (A.deeper (envOfC "_law_line_most" (defScope s__law_line_most) s.heap.objs.size f cdv)).units + 65 < cLine := by have := hr.un; omega
  exact (pss_cons (ps_if (pt_cmpR (op_eqU hu) (pv 1) pe_int (nomark _)) (pss_one (ps_ret (pe_ifExp (pt_cmpR op_le (pv 0) (pv 3) (nomark _)) (pv 2) pe_int))) pss_nil) (pss_one (ps_ret (pe_callB (call_maxU rfl) (by rfl) T.b_max (by rfl) (pa_cons pe_int (pa_cons (pe_callB (call_minU rfl hu) (by rfl) T.b_min (by rfl) (pa_cons (pv 2) (pa_cons (pe_op op_addU (pe_op op_divU (pe_op op_sub (pv 3) (pv 0)) (pv 1)) pe_int) pa_nil))) pa_nil))))))
theorem der__law_line_right {S__law_draw : Sp} {S_Piece : Sp} {S_answer_of : Sp} {S_Question : Sp} {V1_Question : List V} {S__law_line_most : Sp} {f : Addr} {cdv : Value} {A : Around} {outer : List Env} {s : Shared} {H : Hp} {E : XK} (G__law_draw : Go P w K mg base 1 "_law_draw" S__law_draw []) (G_answer_of : Go P w K mg base 10 "answer_of" S_answer_of []) (M1_Question : Mkc P w K mg base 4 "Question" C_Question S_Question V1_Question) (G__law_line_most : Go P w K mg base 1 "_law_line_most" S__law_line_most []) (M_Piece : Mkc P w K mg base 5 "Piece" C_Piece S_Piece []) (hr : Room 10 (A.deeper (envOfC "_law_line_right" (defScope s__law_line_right) s.heap.objs.size f cdv))) :
    PSs (cxOf CX0 P w K mg base ["pen", "more", "other", "count", "many", "first", "last", "row", "start", "stop", "ahead", "low", "size", "due", "highs", "lows", "bound", "most", "rank", "value", "upto", "below"] "_law_line_right" (defScope s__law_line_right) f cdv A outer s H E).nox (defBody s__law_line_right) (r__law_line_right K S__law_draw C_Piece S_Piece S_answer_of C_Question S_Question V1_Question S__law_line_most) := by
  have hu : (A.deeper (envOfC "_law_line_right" (defScope s__law_line_right) s.heap.objs.size f cdv)).units + 64 < cLine := by have := hr.un; omega
  have hu5 : (A.deeper (envOfC "_law_line_right" (defScope s__law_line_right) s.heap.objs.size f cdv)).units + 65 < cLine := by have := hr.un; omega
  exact (pss_cons (ps_asg (pe_tup (pa_cons (pe_go G__law_draw hr (pa_cons (pv 0) (pa_cons pe_int pa_nil))) (pa_cons (pe_go G__law_draw hr (pa_cons (pv 0) (pa_cons pe_int pa_nil))) (pa_cons (pe_op op_addU pe_int (pe_go G__law_draw hr (pa_cons (pv 0) (pa_cons (pe_op op_pow pe_int pe_int) pa_nil)))) (pa_cons (pe_op op_addU pe_int (pe_go G__law_draw hr (pa_cons (pv 0) (pa_cons (pe_op op_pow pe_int pe_int) pa_nil)))) pa_nil))))) (pg_tup rfl (pgs_cons (pg_name (i := 1) sc__law_line_right.nd rfl (by first | exact Or.inl rfl | exact Or.inr rfl)) (pgs_cons (pg_name (i := 2) sc__law_line_right.nd rfl (by first | exact Or.inl rfl | exact Or.inr rfl)) (pgs_cons (pg_name (i := 3) sc__law_line_right.nd rfl (by first | exact Or.inl rfl | exact Or.inr rfl)) (pgs_cons (pg_name (i := 4) sc__law_line_right.nd rfl (by first | exact Or.inl rfl | exact Or.inr rfl)) pgs_nil)))))) (pss_cons (ps_par (i := 5) (j := 6) rfl sc__law_line_right.nd rfl rfl (by decide) rfl rfl (pa_cons (pe_op op_sub (pe_go G__law_draw hr (pa_cons (pv 0) (pa_cons pe_int pa_nil))) pe_int) (pa_cons (pe_go G__law_draw hr (pa_cons (pv 0) (pa_cons (pe_op op_pow pe_int pe_int) pa_nil))) pa_nil)) (by rfl)) (pss_cons (ps_set (i := 7) sc__law_line_right.nd rfl (by first | exact Or.inl rfl | exact Or.inr rfl) (pe_lst (pa_cons (pe_mk M_Piece hr (pa_cons pe_int (pa_cons pe_int (pa_cons (pv 3) (pa_cons pe_str (pa_cons (pe_ifExp (pt_cmpR op_gt (pv 1) pe_int (nomark _)) (pe_lst (pa_cons (pv 5) (pa_cons (pv 1) pa_nil))) (pe_lst (pa_cons (pv 5) pa_nil))) pa_nil)))))) (pa_cons (pe_mk M_Piece hr (pa_cons (pv 3) (pa_cons pe_int (pa_cons (pv 4) (pa_cons pe_str (pa_cons (pe_ifExp (pt_cmpR op_gt (pv 2) pe_int (nomark _)) (pe_lst (pa_cons (pv 6) (pa_cons (pv 2) pa_nil))) (pe_lst (pa_cons (pv 6) pa_nil))) pa_nil)))))) pa_nil)))) (pss_cons (ps_par (i := 8) (j := 9) rfl sc__law_line_right.nd rfl rfl (by decide) rfl rfl (pa_cons (pe_go G__law_draw hr (pa_cons (pv 0) (pa_cons (pv 3) pa_nil))) (pa_cons (pe_op op_addU (pv 3) (pe_go G__law_draw hr (pa_cons (pv 0) (pa_cons (pe_op op_mulU pe_int (pv 4)) pa_nil)))) pa_nil)) (by rfl)) (pss_cons (ps_set (i := 10) sc__law_line_right.nd rfl (by first | exact Or.inl rfl | exact Or.inr rfl) (pe_op op_divU (pe_op op_addU (pe_op op_sub (pv 9) (pv 3)) pe_int) pe_int)) (pss_cons (ps_par (i := 11) (j := 12) rfl sc__law_line_right.nd rfl rfl (by decide) rfl rfl (pa_cons (pe_op op_addU (pv 5) (pe_op op_mulU (pv 1) (pv 8))) (pa_cons (pe_op op_sub (pv 3) (pv 8)) pa_nil)) (by rfl)) (pss_cons (ps_set (i := 13) sc__law_line_right.nd rfl (by first | exact Or.inl rfl | exact Or.inr rfl) (pe_op op_addU (pe_op op_divU (pe_op op_mulU (pv 12) (pe_op op_addU (pe_op op_mulU pe_int (pv 11)) (pe_op op_mulU (pv 1) (pe_op op_sub (pv 12) pe_int)))) pe_int) (pe_op op_divU (pe_op op_mulU (pv 10) (pe_op op_addU (pe_op op_mulU pe_int (pv 6)) (pe_op op_mulU (pv 2) (pe_op op_sub (pv 10) pe_int)))) pe_int))) (pss_cons (ps_if (PW.pt (pw_or (pt_cmpR (op_neU hu) (pe_go G_answer_of hr (pa_cons (pv 7) (pa_cons (pe_mk M1_Question hr (pa_cons pe_str (pa_cons pe_non (pa_cons (pv 8) (pa_cons (pv 9) pa_nil))))) pa_nil))) (pe_op op_addU (pv 12) (pv 10)) (nomark _)) (pw_or1 (pt_cmpR (op_neU hu) (pe_go G_answer_of hr (pa_cons (pv 7) (pa_cons (pe_mk M1_Question hr (pa_cons pe_str (pa_cons pe_non (pa_cons (pv 8) (pa_cons (pv 9) pa_nil))))) pa_nil))) (pv 13) (nomark _))))) (pss_one (ps_ret pe_bl)) pss_nil) (pss_cons (ps_set (i := 14) sc__law_line_right.nd rfl (by first | exact Or.inl rfl | exact Or.inr rfl) (pe_op op_addU (pe_lst (pa_cons (pe_op op_addU (pv 5) (pe_op op_mulU (pv 1) (pe_op op_sub (pv 3) pe_int))) pa_nil)) (pe_op op_mulU (pe_lst (pa_cons (pe_op op_addU (pv 6) (pe_op op_mulU (pv 2) (pe_op op_sub (pv 10) pe_int))) pa_nil)) (pe_callTy call_intU (by rfl) T.b_int (by rfl) (pa_cons (pe_cmpR op_gt (pv 10) pe_int (nomark _)) pa_nil))))) (pss_cons (ps_set (i := 15) sc__law_line_right.nd rfl (by first | exact Or.inl rfl | exact Or.inr rfl) (pe_op op_addU (pe_lst (pa_cons (pv 11) pa_nil)) (pe_op op_mulU (pe_lst (pa_cons (pv 6) pa_nil)) (pe_callTy call_intU (by rfl) T.b_int (by rfl) (pa_cons (pe_cmpR op_gt (pv 10) pe_int (nomark _)) pa_nil))))) (pss_cons (ps_if (pt_cmpR (op_neU hu) (pe_lst (pa_cons (pe_go G_answer_of hr (pa_cons (pv 7) (pa_cons (pe_mk M1_Question hr (pa_cons pe_str (pa_cons pe_non (pa_cons (pv 8) (pa_cons (pv 9) pa_nil))))) pa_nil))) (pa_cons (pe_go G_answer_of hr (pa_cons (pv 7) (pa_cons (pe_mk M1_Question hr (pa_cons pe_str (pa_cons pe_non (pa_cons (pv 8) (pa_cons (pv 9) pa_nil))))) pa_nil))) pa_nil))) (pe_lst (pa_cons (pe_callB (call_minU rfl hu) (by rfl) T.b_min (by rfl) (pa_cons (pv 15) pa_nil)) (pa_cons (pe_callB (call_maxU rfl) (by rfl) T.b_max (by rfl) (pa_cons (pv 14) pa_nil)) pa_nil))) (nomark _)) (pss_one (ps_ret pe_bl)) pss_nil) (pss_cons (ps_set (i := 16) sc__law_line_right.nd rfl (by first | exact Or.inl rfl | exact Or.inr rfl) (pe_op op_sub (pe_go G__law_draw hr (pa_cons (pv 0) (pa_cons (pe_op op_addU (pe_callB (call_maxU rfl) (by rfl) T.b_max (by rfl) (pa_cons (pv 14) pa_nil)) pe_int) pa_nil))) pe_int)) (pss_cons (ps_set (i := 17) sc__law_line_right.nd rfl (by first | exact Or.inl rfl | exact Or.inr rfl) (pe_op op_addU (pe_go G__law_line_most hr (pa_cons (pv 11) (pa_cons (pv 1) (pa_cons (pv 12) (pa_cons (pv 16) pa_nil))))) (pe_go G__law_line_most hr (pa_cons (pv 6) (pa_cons (pv 2) (pa_cons (pv 10) (pa_cons (pv 16) pa_nil))))))) (pss_cons (ps_if (pt_cmpR (op_neU hu) (pe_go G_answer_of hr (pa_cons (pv 7) (pa_cons (pe_mk M1_Question hr (pa_cons pe_str (pa_cons (pv 16) (pa_cons (pv 8) (pa_cons (pv 9) pa_nil))))) pa_nil))) (pv 17) (nomark _)) (pss_one (ps_ret pe_bl)) pss_nil) (pss_cons (ps_set (i := 18) sc__law_line_right.nd rfl (by first | exact Or.inl rfl | exact Or.inr rfl) (pe_op op_addU pe_int (pe_go G__law_draw hr (pa_cons (pv 0) (pa_cons (pe_op op_addU (pv 12) (pv 10)) pa_nil))))) (pss_cons (ps_set (i := 19) sc__law_line_right.nd rfl (by first | exact Or.inl rfl | exact Or.inr rfl) (pe_go G_answer_of hr (pa_cons (pv 7) (pa_cons (pe_mk M1_Question hr (pa_cons pe_str (pa_cons (pv 18) (pa_cons (pv 8) (pa_cons (pv 9) pa_nil))))) pa_nil)))) (pss_cons (ps_set (i := 20) sc__law_line_right.nd rfl (by first | exact Or.inl rfl | exact Or.inr rfl) (pe_op op_addU (pe_go G__law_line_most hr (pa_cons (pv 11) (pa_cons (pv 1) (pa_cons (pv 12) (pa_cons (pv 19) pa_nil))))) (pe_go G__law_line_most hr (pa_cons (pv 6) (pa_cons (pv 2) (pa_cons (pv 10) (pa_cons (pv 19) pa_nil))))))) (pss_cons (ps_set (i := 21) sc__law_line_right.nd rfl (by first | exact Or.inl rfl | exact Or.inr rfl) (pe_op op_addU (pe_go G__law_line_most hr (pa_cons (pv 11) (pa_cons (pv 1) (pa_cons (pv 12) (pa_cons (pe_op op_sub (pv 19) pe_int) pa_nil))))) (pe_go G__law_line_most hr (pa_cons (pv 6) (pa_cons (pv 2) (pa_cons (pv 10) (pa_cons (pe_op op_sub (pv 19) pe_int) pa_nil))))))) (pss_one (ps_ret (pe_and (pe_chain op_lt op_le (pv 21) (pv 18) (pv 20)) (pe_one (pe_cmpR op_isU (pe_go G_answer_of hr (pa_cons (pv 7) (pa_cons (pe_mk M1_Question hr (pa_cons pe_str (pa_cons (pe_op op_addU (pe_op op_addU (pv 12) (pv 10)) pe_int) (pa_cons (pv 8) (pa_cons (pv 9) pa_nil))))) pa_nil))) pe_non (nomark _))))))))))))))))))))))))
theorem der__law_parts_right {S__law_draw : Sp} {S_Piece : Sp} {S_answer_of : Sp} {S_Question : Sp} {V1_Question : List V} {f : Addr} {cdv : Value} {A : Around} {outer : List Env} {s : Shared} {H : Hp} {E : XK} (G__law_draw : Go P w K mg base 1 "_law_draw" S__law_draw []) (G_answer_of : Go P w K mg base 10 "answer_of" S_answer_of []) (M1_Question : Mkc P w K mg base 4 "Question" C_Question S_Question V1_Question) (M_Piece : Mkc P w K mg base 5 "Piece" C_Piece S_Piece []) (M_Question : Mkc P w K mg base 4 "Question" C_Question S_Question []) (hr : Room 10 (A.deeper (envOfC "_law_parts_right" (defScope s__law_parts_right) s.heap.objs.size f cdv))) :
    PSs (cxOf CX0 P w K mg base ["pen", "numbers", "row", "ends", "cuts", "kind", "number", "parts", "lows", "highs", "whole", "some", "due", "turn", "start", "stop", "one", "moment"] "_law_parts_right" (defScope s__law_parts_right) f cdv A outer s H E).nox (defBody s__law_parts_right) (r__law_parts_right K S__law_draw C_Piece S_Piece S_answer_of C_Question S_Question V1_Question) := by
  have hu : (A.deeper (envOfC "_law_parts_right" (defScope s__law_parts_right) s.heap.objs.size f cdv)).units + 64 < cLine := by have := hr.un; omega
  have hu5 : (A.deeper (envOfC "_law_parts_right" (defScope s__law_parts_right) s.heap.objs.size f cdv)).units + 65 < cLine := by have := hr.un; omega
  exact (pss_cons (ps_set (i := 1) sc__law_parts_right.nd rfl (by first | exact Or.inl rfl | exact Or.inr rfl) (pe_lc (own := [("turn", 13)]) (by rfl) sc__law_parts_right.nd (pi_range1 (by rfl) T.b_range (pa_cons (pe_op op_addU pe_int (pe_go G__law_draw hr (pa_cons (pv 0) (pa_cons pe_int pa_nil)))) pa_nil)) (blkOk_by (N := ["pen", "numbers", "row", "ends", "cuts", "kind", "number", "parts", "lows", "highs", "whole", "some", "due", "turn", "start", "stop", "one", "moment"]) (sc := defScope s__law_parts_right) (by decide +kernel)) (fun _ _ _ _ _ => (pg_name (i := 13) sc__law_parts_right.nd rfl (by first | exact Or.inl rfl | exact Or.inr rfl))) (fun _ _ _ _ _ => pts_nil) (fun _ _ _ _ _ => (pe_op op_sub (pe_go G__law_draw hr (pa_cons (pv 0) (pa_cons pe_int pa_nil))) pe_int)))) (pss_cons (ps_set (i := 2) sc__law_parts_right.nd rfl (by first | exact Or.inl rfl | exact Or.inr rfl) (pe_lst (pa_cons (pe_mk M_Piece hr (pa_cons pe_int (pa_cons pe_int (pa_cons (pe_op op_pow pe_int pe_int) (pa_cons pe_str (pa_cons (pv 1) pa_nil)))))) (pa_cons (pe_mk M_Piece hr (pa_cons (pe_op op_pow pe_int pe_int) (pa_cons pe_int (pa_cons (pe_op op_pow pe_int pe_int) (pa_cons pe_str (pa_cons (pe_lst (pa_cons (pe_go G__law_draw hr (pa_cons (pv 0) (pa_cons pe_int pa_nil))) (pa_cons (pe_op op_addU pe_int (pe_go G__law_draw hr (pa_cons (pv 0) (pa_cons pe_int pa_nil)))) (pa_cons pe_int pa_nil)))) pa_nil)))))) pa_nil)))) (pss_cons (ps_set (i := 3) sc__law_parts_right.nd rfl (by first | exact Or.inl rfl | exact Or.inr rfl) (pe_op op_addU (pe_op op_addU (pe_lst (pa_cons pe_int pa_nil)) (pe_callB cr_sortedI (by rfl) T.b_sorted (by rfl) (pa_cons (pe_lc (own := [("turn", 13)]) (by rfl) sc__law_parts_right.nd (pi_range1 (by rfl) T.b_range (pa_cons pe_int pa_nil)) (blkOk_by (N := ["pen", "numbers", "row", "ends", "cuts", "kind", "number", "parts", "lows", "highs", "whole", "some", "due", "turn", "start", "stop", "one", "moment"]) (sc := defScope s__law_parts_right) (by decide +kernel)) (fun _ _ _ _ _ => (pg_name (i := 13) sc__law_parts_right.nd rfl (by first | exact Or.inl rfl | exact Or.inr rfl))) (fun _ _ _ _ _ => pts_nil) (fun _ _ _ _ _ => (pe_go G__law_draw hr (pa_cons (pv 0) (pa_cons (pe_op op_pow pe_int pe_int) pa_nil))))) pa_nil))) (pe_lst (pa_cons (pe_op op_pow pe_int pe_int) pa_nil)))) (pss_cons (ps_set (i := 4) sc__law_parts_right.nd rfl (by first | exact Or.inl rfl | exact Or.inr rfl) (pe_listZip rfl (by rfl) T.b_list (by rfl) T.b_zip (pa_cons (pv 3) (pa_cons (pe_slice sl_U (pv 3) (po_some pe_int) po_none) pa_nil)))) (pss_cons (ps_for PassesOwn.never rfl (pi_seq (pe_lst (pa_cons (pe_tup (pa_cons pe_str (pa_cons pe_non pa_nil))) (pa_cons (pe_tup (pa_cons pe_str (pa_cons pe_non pa_nil))) (pa_cons (pe_tup (pa_cons pe_str (pa_cons (pe_go G__law_draw hr (pa_cons (pv 0) (pa_cons (pe_op op_pow pe_int pe_int) pa_nil))) pa_nil))) pa_nil))))) (pg_tup rfl (pgs_cons (pg_name (i := 5) sc__law_parts_right.nd rfl (by first | exact Or.inl rfl | exact Or.inr rfl)) (pgs_cons (pg_name (i := 6) sc__law_parts_right.nd rfl (by first | exact Or.inl rfl | exact Or.inr rfl)) pgs_nil))) (pss_cons (ps_setLc (i := 7) (own := [("start", 14), ("stop", 15)]) (by rfl) sc__law_parts_right.nd rfl rfl (sw_true rfl rfl rfl (by decide +kernel)) (pi_seq (pv 4)) (blkOk_by (N := ["pen", "numbers", "row", "ends", "cuts", "kind", "number", "parts", "lows", "highs", "whole", "some", "due", "turn", "start", "stop", "one", "moment"]) (sc := defScope s__law_parts_right) (by decide +kernel)) (fun _ _ _ _ _ => (pg_tup rfl (pgs_cons (pg_name (i := 14) sc__law_parts_right.nd rfl (by first | exact Or.inl rfl | exact Or.inr rfl)) (pgs_cons (pg_name (i := 15) sc__law_parts_right.nd rfl (by first | exact Or.inl rfl | exact Or.inr rfl)) pgs_nil)))) (fun _ _ _ _ _ => pts_nil) (fun _ _ _ _ _ => (pe_go G_answer_of hr (pa_cons (pv 2) (pa_cons (pe_mk M1_Question hr (pa_cons (pv 5) (pa_cons (pv 6) (pa_cons (pv 14) (pa_cons (pv 15) pa_nil))))) pa_nil))))) (pss_one (ps_if (pt_cmpR (op_neU hu) (pe_callB (call_sumU rfl) (by rfl) T.b_sum (by rfl) (pa_cons (pv 7) pa_nil)) (pe_go G_answer_of hr (pa_cons (pv 2) (pa_cons (pe_mk M1_Question hr (pa_cons (pv 5) (pa_cons (pv 6) (pa_cons pe_int (pa_cons (pe_op op_pow pe_int pe_int) pa_nil))))) pa_nil))) (nomark _)) (pss_one (ps_ret pe_bl)) pss_nil)))) (pss_cons (ps_setLc (i := 8) (own := [("start", 14), ("stop", 15)]) (by rfl) sc__law_parts_right.nd rfl rfl (sw_true rfl rfl rfl (by decide +kernel)) (pi_seq (pv 4)) (blkOk_by (N := ["pen", "numbers", "row", "ends", "cuts", "kind", "number", "parts", "lows", "highs", "whole", "some", "due", "turn", "start", "stop", "one", "moment"]) (sc := defScope s__law_parts_right) (by decide +kernel)) (fun _ _ _ _ _ => (pg_tup rfl (pgs_cons (pg_name (i := 14) sc__law_parts_right.nd rfl (by first | exact Or.inl rfl | exact Or.inr rfl)) (pgs_cons (pg_name (i := 15) sc__law_parts_right.nd rfl (by first | exact Or.inl rfl | exact Or.inr rfl)) pgs_nil)))) (fun _ _ _ _ _ => pts_nil) (fun _ _ _ _ _ => (pe_go G_answer_of hr (pa_cons (pv 2) (pa_cons (pe_mk M1_Question hr (pa_cons pe_str (pa_cons pe_non (pa_cons (pv 14) (pa_cons (pv 15) pa_nil))))) pa_nil))))) (pss_cons (ps_setLc (i := 9) (own := [("start", 14), ("stop", 15)]) (by rfl) sc__law_parts_right.nd rfl rfl (sw_true rfl rfl rfl (by decide +kernel)) (pi_seq (pv 4)) (blkOk_by (N := ["pen", "numbers", "row", "ends", "cuts", "kind", "number", "parts", "lows", "highs", "whole", "some", "due", "turn", "start", "stop", "one", "moment"]) (sc := defScope s__law_parts_right) (by decide +kernel)) (fun _ _ _ _ _ => (pg_tup rfl (pgs_cons (pg_name (i := 14) sc__law_parts_right.nd rfl (by first | exact Or.inl rfl | exact Or.inr rfl)) (pgs_cons (pg_name (i := 15) sc__law_parts_right.nd rfl (by first | exact Or.inl rfl | exact Or.inr rfl)) pgs_nil)))) (fun _ _ _ _ _ => pts_nil) (fun _ _ _ _ _ => (pe_go G_answer_of hr (pa_cons (pv 2) (pa_cons (pe_mk M1_Question hr (pa_cons pe_str (pa_cons pe_non (pa_cons (pv 14) (pa_cons (pv 15) pa_nil))))) pa_nil))))) (pss_cons (ps_par (i := 8) (j := 9) rfl sc__law_parts_right.nd rfl rfl (by decide) rfl rfl (pa_cons (pe_lc (own := [("one", 16)]) (by rfl) sc__law_parts_right.nd (pi_seq (pv 8)) (blkOk_by (N := ["pen", "numbers", "row", "ends", "cuts", "kind", "number", "parts", "lows", "highs", "whole", "some", "due", "turn", "start", "stop", "one", "moment"]) (sc := defScope s__law_parts_right) (by decide +kernel)) (fun _ _ _ _ _ => (pg_name (i := 16) sc__law_parts_right.nd rfl (by first | exact Or.inl rfl | exact Or.inr rfl))) (fun _ _ _ _ _ => (pts_one (pt_cmpR op_isNU (pv 16) pe_non (nomark _)))) (fun _ _ _ _ _ => (pv 16))) (pa_cons (pe_lc (own := [("one", 16)]) (by rfl) sc__law_parts_right.nd (pi_seq (pv 9)) (blkOk_by (N := ["pen", "numbers", "row", "ends", "cuts", "kind", "number", "parts", "lows", "highs", "whole", "some", "due", "turn", "start", "stop", "one", "moment"]) (sc := defScope s__law_parts_right) (by decide +kernel)) (fun _ _ _ _ _ => (pg_name (i := 16) sc__law_parts_right.nd rfl (by first | exact Or.inl rfl | exact Or.inr rfl))) (fun _ _ _ _ _ => (pts_one (pt_cmpR op_isNU (pv 16) pe_non (nomark _)))) (fun _ _ _ _ _ => (pv 16))) pa_nil)) (by rfl)) (pss_cons (ps_set (i := 10) sc__law_parts_right.nd rfl (by first | exact Or.inl rfl | exact Or.inr rfl) (pe_lst (pa_cons (pe_go G_answer_of hr (pa_cons (pv 2) (pa_cons (pe_mk M1_Question hr (pa_cons pe_str (pa_cons pe_non (pa_cons pe_int (pa_cons (pe_op op_pow pe_int pe_int) pa_nil))))) pa_nil))) (pa_cons (pe_go G_answer_of hr (pa_cons (pv 2) (pa_cons (pe_mk M1_Question hr (pa_cons pe_str (pa_cons pe_non (pa_cons pe_int (pa_cons (pe_op op_pow pe_int pe_int) pa_nil))))) pa_nil))) pa_nil)))) (pss_cons (ps_if (PW.pt (pw_or (pt_cmpR (op_neU hu) (pe_lst (pa_cons (pe_callB (call_minU rfl hu) (by rfl) T.b_min (by rfl) (pa_cons (pv 8) pa_nil)) (pa_cons (pe_callB (call_maxU rfl) (by rfl) T.b_max (by rfl) (pa_cons (pv 9) pa_nil)) pa_nil))) (pv 10) (nomark _)) (pw_or1 (pt_cmpR op_lt (pe_ix ix_seq (pv 10) pe_int (fun _ _ => rfl)) (pe_callB (call_maxU rfl) (by rfl) T.b_max (by rfl) (pa_cons (pv 1) pa_nil)) (nomark _))))) (pss_one (ps_ret pe_bl)) pss_nil) (pss_cons (ps_set (i := 11) sc__law_parts_right.nd rfl (by first | exact Or.inl rfl | exact Or.inr rfl) (pe_sortSet rfl (by rfl) T.b_sorted (by rfl) T.b_set (pe_lc (own := [("turn", 13)]) (by rfl) sc__law_parts_right.nd (pi_range1 (by rfl) T.b_range (pa_cons pe_int pa_nil)) (blkOk_by (N := ["pen", "numbers", "row", "ends", "cuts", "kind", "number", "parts", "lows", "highs", "whole", "some", "due", "turn", "start", "stop", "one", "moment"]) (sc := defScope s__law_parts_right) (by decide +kernel)) (fun _ _ _ _ _ => (pg_name (i := 13) sc__law_parts_right.nd rfl (by first | exact Or.inl rfl | exact Or.inr rfl))) (fun _ _ _ _ _ => pts_nil) (fun _ _ _ _ _ => (pe_op op_addU (pe_op op_addU pe_int (pe_op op_mulU pe_int (pe_go G__law_draw hr (pa_cons (pv 0) (pa_cons (pe_op op_pow pe_int pe_int) pa_nil))))) (pe_go G__law_draw hr (pa_cons (pv 0) (pa_cons pe_int pa_nil)))))) rfl)) (pss_cons (ps_set (i := 12) sc__law_parts_right.nd rfl (by first | exact Or.inl rfl | exact Or.inr rfl) (pe_callB (call_sumU rfl) (by rfl) T.b_sum (by rfl) (pa_cons (pe_lc (own := [("moment", 17)]) (by rfl) sc__law_parts_right.nd (pi_seq (pv 11)) (blkOk_by (N := ["pen", "numbers", "row", "ends", "cuts", "kind", "number", "parts", "lows", "highs", "whole", "some", "due", "turn", "start", "stop", "one", "moment"]) (sc := defScope s__law_parts_right) (by decide +kernel)) (fun _ _ _ _ _ => (pg_name (i := 17) sc__law_parts_right.nd rfl (by first | exact Or.inl rfl | exact Or.inr rfl))) (fun _ _ _ _ _ => (pts_one (pt_cmpR (op_eqU hu) (pe_op op_modU (pe_callTy call_intU (by rfl) T.b_int (by rfl) (pa_cons (pe_op op_sub (pv 17) pe_int) pa_nil)) pe_int) pe_int (nomark _)))) (fun _ _ _ _ _ => (pe_ix ix_seq (pv 1) (pe_op op_modU (pe_op op_divU (pe_callTy call_intU (by rfl) T.b_int (by rfl) (pa_cons (pe_op op_sub (pv 17) pe_int) pa_nil)) pe_int) (pe_callB call_lenU (by rfl) T.b_len (by rfl) (pa_cons (pv 1) pa_nil))) (fun _ _ => rfl)))) pa_nil))) (pss_one (ps_ret (pe_cmpR (op_eqU hu) (pe_go G_answer_of hr (pa_cons (pv 2) (pa_cons (pe_mk M_Question hr (pa_cons pe_str (pa_cons pe_non (pa_cons pe_int (pa_cons (pe_op op_pow pe_int pe_int) (pa_cons (pv 11) pa_nil)))))) pa_nil))) (pv 12) (nomark _))))))))))))))))
theorem der_law {S__law_pen : Sp} {S__law_line_right : Sp} {S__law_parts_right : Sp} {f : Addr} {cdv : Value} {A : Around} {outer : List Env} {s : Shared} {H : Hp} {E : XK} (G__law_pen : Go P w K mg base 1 "_law_pen" S__law_pen []) (G__law_line_right : Go P w K mg base 11 "_law_line_right" S__law_line_right []) (G__law_parts_right : Go P w K mg base 11 "_law_parts_right" S__law_parts_right []) (hr : Room 11 (A.deeper (envOfC "law" (defScope s_law) s.heap.objs.size f cdv))) :
    PSs (cxOf CX0 P w K mg base ["script", "pen", "turn"] "law" (defScope s_law) f cdv A outer s H E).nox (defBody s_law) (r_law K S__law_pen S__law_line_right S__law_parts_right) := by
  exact (pss_cons (ps_set (i := 1) sc_law.nd rfl (by first | exact Or.inl rfl | exact Or.inr rfl) (pe_go G__law_pen hr (pa_cons (pv 0) pa_nil))) (pss_cons (ps_for PassesOwn.never rfl (pi_range1 (by rfl) T.b_range (pa_cons pe_int pa_nil)) (pg_name (i := 2) sc_law.nd rfl (by first | exact Or.inl rfl | exact Or.inr rfl)) (pss_one (ps_if (PW.pt (pw_or (pt_not (pt_val (pe_go G__law_line_right hr (pa_cons (pv 1) pa_nil)))) (pw_or1 (pt_not (pt_val (pe_go G__law_parts_right hr (pa_cons (pv 1) pa_nil))))))) (pss_one (ps_ret pe_bl)) pss_nil))) (pss_one (ps_ret pe_bl))))
end
end K43
set_option Elab.async false
set_option maxRecDepth 100000
set_option maxHeartbeats 4000000
set_option linter.all false
set_option autoImplicit false
/-! how many numbers of a stretch that goes one way are at most a bound: two lambdas handed to the search -/
namespace K43
variable [DW.Tb]
open PySem PySem.Spec PyProof.Rows L2 DW LamX
section
open NdefX
variable {P : Program} {w : World} {K : PySem.W.Frag} {mg : Str → Option Value} {base : Heap} {N ps fr : List Str} {F : NF} {body : Expr} {k : Nat} {sp : List (Option V) → Sp}
theorem clb_L2 (S : NScope N ps fr F.scope) (hb : ∀ (pm ctv : Value) (us : List Value), us.length = ps.length → bindArgs (PySem.W.kla_fn F.name F.qual F.params body F.scope F.cl pm (.ref F.c) ctv) ⟨us, []⟩ = pure (ps.zip us))
    (len : ∀ ws vs H Q, ws.length = fr.length → sp ws vs H Q E0 → vs.length = ps.length)
    (hbody : ∀ (f : Addr) (A : Around) (outer : List Env) (s : Shared) (H : Hp) (vs : List V) (ws : List (Option V)) (Q : VK), Room k (A.deeper (envF F f s.heap.objs.size)) → ws.length = fr.length → sp ws vs H Q E0 →
      ∃ t, PE (ncx CX0 P w K mg base N F f A outer s H E0) body t ∧ t (startF N vs ws) H Q) : Clb P w K mg base (k + 1) (fvL F body) fr sp where
  fnat := fun H h f hok e => by
    obtain ⟨pm, ctv, ho⟩ := lamO_at hok e
    exact ⟨_, _, _, _, ho⟩
  run := fun f A outer s H us vs ws Q hr e0 hf hc C r hsp => by
    have hl := len _ _ _ _ C.len hsp
    have noLim : s.heap.NoLimit := e0.mod.nolimit.keeps fun b o z => (e0.bs b o z).1
    obtain ⟨pm, ctv, ho⟩ := lamO_at e0.hok hf
    refine PySem.W.kla_callFunE hr.depth ho rfl S.co S.gen rfl (codeO_at e0.hok hc) ?_
    show wpAny _ _ (bindArgs (PySem.W.kla_fn F.name F.qual F.params body F.scope F.cl pm (.ref F.c) ctv) ⟨us, []⟩) _ _ _
    rw [hb pm ctv us (r.length ▸ hl)]
    apply wpAny_pure
    refine wpAny_newFunctionEnv S.nocell (fun y hy => S.par y.1 (List.of_mem_zip hy).1) (fun h1 hns hsb => ⟨noLim.fresh _ hsb, ?_⟩) S.kind
    show codeAny _ _ (.expr body (envF F f s.heap.objs.size)) _ _
    have keep1 : ∀ b o, s.heap.get? b = some o → h1.get? b = some o := fun b o z => hsb.extBut b o (Nat.ne_of_lt (Heap.lt_size z)) (Heap.get?_push_of_some _ z)
    obtain ⟨t, ht, hq⟩ := hbody f A outer s H vs ws Q (hr.deeper _) C.len hsp
    have J := inv_startN (CX := CX0) (mg := mg) (f := f) (E := E0) (tk := s.toks + (ps.zip us).length) S hr.hd e0 hl r C hns keep1
    apply PySem.W.kla_codeExpr
    refine wpAny_mono (ht.run [] _ _ H Q J hq) (fun v s' z => ?_) fun e s' z => z
    obtain ⟨v', H', J', rv, q⟩ := z
    exact ⟨v', H', J'.os, J'.bare, J'.base, J'.hok, rv, q⟩
end
def lam0E : Expr := match (defBody s_rising_most).getD 1 (.Pass ⟨0, 0, 0, 0⟩) with
  | .If _ (.Return (some (.BinOp (.Call _ es _ _) _ _ _)) _ :: _) _ _ => es.getD 2 (.Name "" ⟨0, 0, 0, 0⟩)
  | _ => .Name "" ⟨0, 0, 0, 0⟩
def lam1E : Expr := match (defBody s_rising_most).getD 2 (.Pass ⟨0, 0, 0, 0⟩) with
  | .Return (some (.BinOp _ _ (.Call _ es _ _) _)) _ => es.getD 2 (.Name "" ⟨0, 0, 0, 0⟩)
  | _ => .Name "" ⟨0, 0, 0, 0⟩
def lamP : Expr → Arguments
  | .Lambda p _ _ _ => p
  | _ => defArgs s_rising_most
def lamB : Expr → Expr
  | .Lambda _ b _ _ => b
  | e => e
def lamS : Expr → Scope
  | .Lambda _ _ s _ => s
  | _ => defScope s_rising_most
def lamPos : Expr → Pos
  | .Lambda _ _ _ p => p
  | _ => ⟨0, 0, 0, 0⟩
def lamF (cells : List (Str × Addr)) (e : Expr) (c' : Addr) : NdefX.NF := ⟨"<lambda>", "rising_most.<locals>.<lambda>", lamP e, [], lamS e, cloFrom cells (lamS e).names [], c'⟩
abbrev lam0Sp : DSpW := fun w es n k => ∃ per nd ns i x, es = [.int i, .str (kindW per), nd, .int x] ∧ IsNs nd ns ∧ Small ns ∧ 0 ≤ i ∧ i ≤ 2 ^ 60 ∧ k (.bl (decide (x < numAt per ns i))) n
abbrev lam1Sp : DSpW := fun w es n k => ∃ per nd ns i x, es = [.int i, .str (kindW per), nd, .int x] ∧ IsNs nd ns ∧ Small ns ∧ 0 ≤ i ∧ i ≤ 2 ^ 60 ∧ k (.bl (decide (numAt per ns i ≤ x))) n
abbrev fsSp (lsp : DSpW) : FV → List V → DSpW := fun F cvs w es n k => ∃ (lo hi : Int) (cds : List D) (f : Int → Bool), es = [.int lo, .int hi, .fn F cvs cds] ∧ lo ≤ hi ∧ (∀ i j, lo ≤ i → i ≤ j → j < hi → f i = true → f j = true) ∧
  (∀ (i : Int) (n' : Nat) (kk : Kn), lo ≤ i → i < hi → kk (.bl (f i)) n' → lsp w (.int i :: cds) n' kk) ∧ ∀ r, Such lo hi r f → k (.int r) n
section
variable {K : PySem.W.Frag} {w : Option Addr} {n : Nat} {k : Kn} {es : List D} {CE : Addr}
theorem w_lam0 (h : lam0Sp w es n k) : WpE K w (r_rising_most_lam0 K (toSp K naSp)) (dstart ["at", "kind", "numbers", "bound"] es) n k := by
  obtain ⟨per, nd, ns, i, x, rfl, hd, hs, i1, i2, hk⟩ := h
  have ho := hd.own
  unfold r_rising_most_lam0
  repeat' (first
    | exact absurd ‹false = true› (by decide)
    | exact absurd ‹true = false› (by decide)
    | ((with_reducible refine e_varX ?_); refine ⟨_, rfl, ho, ?_⟩)
    | walk_at "way by rule"
    | refine ⟨_, _, _, _, rfl, hd, hs, i1, i2, ?_⟩
    | walk_at "way by form"
    | fail)
  all_goals exact hk
theorem w_lam1 (h : lam1Sp w es n k) : WpE K w (r_rising_most_lam1 K (toSp K naSp)) (dstart ["at", "kind", "numbers", "bound"] es) n k := by
  obtain ⟨per, nd, ns, i, x, rfl, hd, hs, i1, i2, hk⟩ := h
  have ho := hd.own
  unfold r_rising_most_lam1
  repeat' (first
    | exact absurd ‹false = true› (by decide)
    | exact absurd ‹true = false› (by decide)
    | ((with_reducible refine e_varX ?_); refine ⟨_, rfl, ho, ?_⟩)
    | walk_at "way by rule"
    | refine ⟨_, _, _, _, rfl, hd, hs, i1, i2, ?_⟩
    | walk_at "way by form"
    | fail)
  all_goals exact hk
theorem w_first_such {lsp : DSpW} {F : FV} {cvs : List V} (h : fsSp lsp F cvs w es n k) : WpS K w (r_first_such K F (cvs.map some) (toSpN K lsp)) (dstart ["begin", "behind", "is_such", "middle"] es) n { nx := fun _ n' => kup k .non n', rt := kup k } := by
  obtain ⟨lo, hi, cds, f, rfl, b3, mono, hl, hk⟩ := h
  unfold r_first_such
  refine s_seq ?_
  refine s_while (fun m ds' n' => n' = n ∧ ∃ (lo' hi' : Int) (v3 : Option D), ds' = [some (.int lo'), some (.int hi'), some (.fn F cvs cds), v3] ∧ lo ≤ lo' ∧ lo' ≤ hi' ∧ hi' ≤ hi ∧ m = (hi' - lo').toNat ∧ (∀ i, lo ≤ i → i < lo' → f i = false) ∧ (hi' < hi → f hi' = true)) (hi - lo).toNat ⟨rfl, lo, hi, none, rfl, by omega, by omega, by omega, rfl, fun i h1 h2 => by omega, fun h => by omega⟩ ?_
  rintro m ds' n' ⟨rfl, lo', hi', v3, rfl, c1, c2, c3, rfl, c4, c5⟩
  repeat' (first
    | exact absurd ‹false = true› (by decide)
    | exact absurd ‹true = false› (by decide)
    | walk_at "way by rule"
    | walk_at "way by form"
    | fail)
  · rename_i q
    have q := of_decide_eq_true q
    refine e_callP (cds := cds) rfl ?_
    repeat' (first
    | exact absurd ‹false = true› (by decide)
    | exact absurd ‹true = false› (by decide)
    | walk_at "way by rule"
    | walk_at "way by form"
    | fail)
    refine hl _ _ _ (by omega) (by omega) ?_
    refine ⟨_, rfl, fun e => ?_, fun e => ?_⟩
    · repeat' (first
    | exact absurd ‹false = true› (by decide)
    | exact absurd ‹true = false› (by decide)
    | walk_at "way by rule"
    | walk_at "way by form"
    | fail)
      exact ⟨_, by omega, rfl, _, _, _, rfl, by omega, by omega, by omega, rfl, c4, fun _ => e⟩
    · repeat' (first
    | exact absurd ‹false = true› (by decide)
    | exact absurd ‹true = false› (by decide)
    | walk_at "way by rule"
    | walk_at "way by form"
    | fail)
      refine ⟨_, by omega, rfl, _, _, _, rfl, by omega, by omega, by omega, rfl, fun i h1 h2 => ?_, c5⟩
      cases z : f i with
      | false => rfl
      | true =>
        have := mono i ((lo' + hi') / 2) h1 (by omega) (by omega) z
        rw [this] at e; cases e
  · rename_i q
    have q := of_decide_eq_false q
    have : lo' = hi' := by omega
    subst this
    exact kup_of (hk _ ⟨by omega, by omega, c4, c5⟩)
theorem w_rising_most {mk0 mk1 : Addr → NdefX.NF} {b0 b1 : Expr} (q0 : ∀ c', (mk0 c').c = c') (q1 : ∀ c', (mk1 c').c = c') (h : riseSp w es n k) :
    WpS K w (r_rising_most K mk0 b0 (toSpG K (fun c' => fvL (mk0 c') b0) (fsSp lam0Sp)) mk1 b1 (toSpG K (fun c' => fvL (mk1 c') b1) (fsSp lam1Sp)) (toSp K naSp)) (dstart ["kind", "numbers", "begin", "behind", "bound"] es) n { nx := fun _ n' => kup k .non n', rt := kup k } := by
  obtain ⟨nd, ns, a, b, x, rfl, hd, hs, a0, b2, M, hk⟩ := h
  have ho := hd.own
  have cap : ∀ d ∈ [D.str (kindW false), nd, .int x], isOwn d = false := fun d hd' => by
    simp only [List.mem_cons, List.not_mem_nil, or_false] at hd'
    rcases hd' with rfl | rfl | rfl
    · rfl
    · exact ho
    · rfl
  unfold r_rising_most
  refine s_mid (mid := fun ds' n' => n' = n ∧ a < b ∧ ds' = [some (.str (kindW false)), some nd, some (.int a), some (.int b), some (.int x)]) ?_ ?_
  · repeat' (first
    | exact absurd ‹false = true› (by decide)
    | exact absurd ‹true = false› (by decide)
    | walk_at "way by rule"
    | walk_at "way by form"
    | fail)
    · rename_i q
      have q := of_decide_eq_true q
      rw [show (b - a).toNat = 0 by omega] at hk
      exact kup_of hk
    · rename_i q
      have q := of_decide_eq_false q
      exact ⟨by omega, rfl⟩
  rintro ds' n' ⟨rfl, ab, rfl⟩
  refine s_mid (mid := fun ds' n'' => n'' = n' ∧ ¬ numAt false ns a ≤ numAt false ns (b - 1) ∧ ds' = [some (.str (kindW false)), some nd, some (.int a), some (.int b), some (.int x)]) ?_ ?_
  · repeat' (first
    | exact absurd ‹false = true› (by decide)
    | exact absurd ‹true = false› (by decide)
    | (guard_target =~ WpE _ _ _ _ _ _; first | ((with_reducible refine e_varX ?_); refine ⟨_, rfl, ho, ?_⟩) | (refine e_callG (cds := [D.str (kindW false), nd, .int x]) rfl cap ?_) | with_reducible refine e_lam q0 fun c' => ?_)
    | walk_at "way by rule"
    | refine ⟨false, nd, ns, _, rfl, hd, hs, by omega, by omega, ?_⟩
    | walk_at "way by form"
    | fail)
    · rename_i q
      have mono := mono_up ab M (of_decide_eq_true q)
      refine ⟨c', fun cvs => ⟨a, b, _, fun i => decide (x < numAt false ns i), rfl, by omega, fun i j h1 h2 h3 h4 => ?_, fun i n' kk h1 h2 h3 => ⟨false, nd, ns, i, x, rfl, hd, hs, by omega, by omega, h3⟩, fun r hr => ?_⟩⟩
      · have h4 := of_decide_eq_true h4
        have := mono i j h1 h2 h3
        exact decide_eq_true (by omega)
      repeat' (first
    | exact absurd ‹false = true› (by decide)
    | exact absurd ‹true = false› (by decide)
    | walk_at "way by rule"
    | walk_at "way by form"
    | fail)
      rw [rise_up mono hr] at hk
      exact kup_of hk
    · rename_i q
      exact ⟨of_decide_eq_false q, rfl⟩
  rintro ds' n'' ⟨rfl, q, rfl⟩
  repeat' (first
    | exact absurd ‹false = true› (by decide)
    | exact absurd ‹true = false› (by decide)
    | (guard_target =~ WpE _ _ _ _ _ _; first | ((with_reducible refine e_varX ?_); refine ⟨_, rfl, ho, ?_⟩) | (refine e_callG (cds := [D.str (kindW false), nd, .int x]) rfl cap ?_) | with_reducible refine e_lam q1 fun c' => ?_)
    | walk_at "way by rule"
    | walk_at "way by form"
    | fail)
  have mono := mono_dn ab M q
  refine ⟨c', fun cvs => ⟨a, b, _, fun i => decide (numAt false ns i ≤ x), rfl, by omega, fun i j h1 h2 h3 h4 => ?_, fun i n' kk h1 h2 h3 => ⟨false, nd, ns, i, x, rfl, hd, hs, by omega, by omega, h3⟩, fun r hr => ?_⟩⟩
  · have h4 := of_decide_eq_true h4
    have := mono i j h1 h2 h3
    exact decide_eq_true (by omega)
  repeat' (first
    | exact absurd ‹false = true› (by decide)
    | exact absurd ‹true = false› (by decide)
    | walk_at "way by rule"
    | walk_at "way by form"
    | fail)
  rw [rise_dn mono hr] at hk
  exact kup_of hk
end
section
variable {P : Program} {w : World} {K : PySem.W.Frag} {mg : Str → Option Value} {base : Heap}
theorem clb0 (G_number_at : Go P w K mg base 2 "number_at" (toSp K naSp) []) {cells : List (Str × Addr)} {c' : Addr} : Clb P w K mg base 3 (fvL (lamF cells lam0E c') (lamB lam0E)) ["kind", "numbers", "bound"] (toSpN K lam0Sp) := by
  refine clb_L2 (N := ["at", "kind", "numbers", "bound"]) (ps := ["at"]) (NdefX.nscope_by (show NdefX.nscB _ _ _ (lamS lam0E) = true by decide +kernel)) (fun pm ctv us hl => match us, hl with | [_], _ => rfl) (fun ws vs H Q hw h => ?_) fun f A outer s H vs ws Q hr hw h => ?_
  · obtain ⟨cvs, rfl, w, S, es, n, k, r, ok, hs, p⟩ := h
    obtain ⟨_, _, _, _, _, rfl, _⟩ := hs
    have h1 := r.length
    rw [List.length_append] at h1
    rw [List.length_map] at hw
    simp only [List.length_cons, List.length_nil] at *
    omega
  · obtain ⟨cvs, rfl, w, S, es, n, k, r, ok, hs, p⟩ := h
    refine ⟨_, (pe_cmpR op_gt (pe_go G_number_at hr (pa_cons (pv 1) (pa_cons (pv 2) (pa_cons (pv 0) pa_nil)))) (pv 3) (nomark _)), ?_⟩
    rw [startF_app]
    exact w_lam0 hs S H _ H _ (rpE_start r) ok p
theorem clb1 (G_number_at : Go P w K mg base 2 "number_at" (toSp K naSp) []) {cells : List (Str × Addr)} {c' : Addr} : Clb P w K mg base 3 (fvL (lamF cells lam1E c') (lamB lam1E)) ["kind", "numbers", "bound"] (toSpN K lam1Sp) := by
  refine clb_L2 (N := ["at", "kind", "numbers", "bound"]) (ps := ["at"]) (NdefX.nscope_by (show NdefX.nscB _ _ _ (lamS lam1E) = true by decide +kernel)) (fun pm ctv us hl => match us, hl with | [_], _ => rfl) (fun ws vs H Q hw h => ?_) fun f A outer s H vs ws Q hr hw h => ?_
  · obtain ⟨cvs, rfl, w, S, es, n, k, r, ok, hs, p⟩ := h
    obtain ⟨_, _, _, _, _, rfl, _⟩ := hs
    have h1 := r.length
    rw [List.length_append] at h1
    rw [List.length_map] at hw
    simp only [List.length_cons, List.length_nil] at *
    omega
  · obtain ⟨cvs, rfl, w, S, es, n, k, r, ok, hs, p⟩ := h
    refine ⟨_, (pe_cmpR op_le (pe_go G_number_at hr (pa_cons (pv 1) (pa_cons (pv 2) (pa_cons (pv 0) pa_nil)))) (pv 3) (nomark _)), ?_⟩
    rw [startF_app]
    exact w_lam1 hs S H _ H _ (rpE_start r) ok p
theorem body_fs {mk : Addr → FV} {fr : List Str} {lsp : DSpW} (CB : ∀ c', Clb P w K mg base 3 (mk c') fr (toSpN K lsp)) {g : Addr} {cdv : Value} {A : Around} {outer : List Env} {s : Shared} {H : Hp} {c' : Addr} {ws : List (Option V)} {vs : List V} {Q : VK}
    (C0 : NdefX.CellsAt (mk c').cl fr ws s.heap H) (hr : Room 3 (A.deeper (envOfC "first_such" (defScope s_first_such) s.heap.objs.size g cdv))) (h : toSpG K mk (fsSp lsp) c' ws vs H Q) :
    ∃ t, PSs (cxOf CX0 P w K mg base ["begin", "behind", "is_such", "middle"] "first_such" (defScope s_first_such) g cdv A outer s H E0).nox (defBody s_first_such) t ∧ t { nx := fun _ H' => Q .non H', rt := Q } (L2.start ["begin", "behind", "is_such", "middle"] vs) H := by
  obtain ⟨cvs, w, S, es, n, k, rfl, r, ok, hs, p⟩ := h
  refine ⟨r_first_such K (mk c') (cvs.map some) (toSpN K lsp), (pss_cons (ps_while PassesOwn.never (pt_cmpR op_lt (pv 0) (pv 1) (nomark _)) (pss_cons (ps_set (i := 3) sc_first_such.nd rfl (by first | exact Or.inl rfl | exact Or.inr rfl) (pe_op op_divU (pe_op op_addU (pv 0) (pv 1)) pe_int)) (pss_one (ps_if (pt_val (pe_callP (CB c') C0 rfl hr (by decide) rfl (by first | exact Or.inl rfl | exact Or.inr (Or.inl rfl) | exact Or.inr (Or.inr rfl)) (pa_cons (pv 3) pa_nil))) (pss_one (ps_set (i := 1) sc_first_such.nd rfl (by first | exact Or.inl rfl | exact Or.inr rfl) (pv 3))) (pss_one (ps_set (i := 0) sc_first_such.nd rfl (by first | exact Or.inl rfl | exact Or.inr rfl) (pe_op op_addU (pv 3) pe_int))))))) (pss_one (ps_ret (pv 1)))), ?_⟩
  exact body_ok (w_first_such hs) r ok p.up
end
section
variable {P : Program} {w : World} {K : PySem.W.Frag} {mg : Str → Option Value} {base : Heap}
theorem go_rising {f cR PR : Addr} {oc kV doc pm ct : Value} {od an : Option Addr} {sl : Array (Option Value)} (lk : K.lookup f = some ⟨oc, od, .func (PySem.W.fnOf "rising_most" "rising_most" (defArgs s_rising_most) (defBody s_rising_most) (defScope s_rising_most) .none kV doc pm an (.ref cR) ct), sl⟩)
    (hc : PySem.W.codeIn K (.ref cR) "rising_most" = true) (hk : PySem.W.keepIn K (.ref f) = true) (hm : mg "rising_most" = some (.ref f)) (TB : TabB base mg cR PR) (hP : Tb.tab PR = true) (hnm : ∀ a b, Tb.nm PR a b = "rising_most.<locals>.<lambda>")
    {g : Addr} {fd : FuncData} (F_first_such : Fun K "first_such" "first_such" s_first_such g fd) (m_first_such : mg "first_such" = some (.ref g)) (b_first_such : Binds K fd ["begin", "behind", "is_such"] [])
    (G_number_at : Go P w K mg base 2 "number_at" (toSp K naSp) []) : Go P w K mg base 5 "rising_most" (toSp K riseSp) [] := by
  have PT : (PR, Tb.nm PR) ∈ (Tb.tabs.map fun a => (a, Tb.nm a)) := List.mem_map.mpr ⟨PR, of_decide_eq_true hP, rfl⟩
  have PU : ∀ p ∈ (Tb.tabs.map fun a => (a, Tb.nm a)), p.1 = PR → p.2 = Tb.nm PR := fun p hp e => by
    obtain ⟨a, _, rfl⟩ := List.mem_map.mp hp
    have e : a = PR := e
    rw [← e]
  refine ⟨f, _, ["kind", "numbers", "begin", "behind", "bound"], [], fn_of lk hc sc_rising_most (fun vs H Q E h => ?_) (fun A outer s H vs Q E hr h => ?_), hm, hk, (fun_mk lk hc hk).binds fun _ _ _ _ _ _ us hl => match us, hl with | [_, _, _, _, _], _ => rfl, .nil⟩
  · obtain ⟨w, S, es, n, k, r, ok, hs, p⟩ := h
    rw [r.length]
    obtain ⟨_, _, _, _, _, rfl, _⟩ := hs
    rfl
  obtain ⟨w', S, es, n, k, r, ok, hs, p⟩ := h
  let cells := (envOfC "rising_most" (defScope s_rising_most) s.heap.objs.size f (.ref cR)).cells
  let mk0 := lamF cells lam0E
  let mk1 := lamF cells lam1E
  have hbody := body_ok (w_rising_most (mk0 := mk0) (mk1 := mk1) (b0 := lamB lam0E) (b1 := lamB lam1E) (fun _ => rfl) (fun _ => rfl) hs) r ok p.up
  have free0 : ∀ y ∈ (lamS lam0E).names, y.2 = .free → (defScope s_rising_most).names.lookup y.1 = some .cell := fun y hy e => by
    have := (by decide +kernel : (lamS lam0E).names.all (fun y => !decide (y.2 = .free) || decide ((defScope s_rising_most).names.lookup y.1 = some .cell)) = true)
    have := List.all_eq_true.mp this y hy
    rw [e] at this
    exact of_decide_eq_true (by simpa using this)
  have free1 : ∀ y ∈ (lamS lam1E).names, y.2 = .free → (defScope s_rising_most).names.lookup y.1 = some .cell := fun y hy e => by
    have := (by decide +kernel : (lamS lam1E).names.all (fun y => !decide (y.2 = .free) || decide ((defScope s_rising_most).names.lookup y.1 = some .cell)) = true)
    have := List.all_eq_true.mp this y hy
    rw [e] at this
    exact of_decide_eq_true (by simpa using this)
  have LD0 : PE (cxOf CX0 P w K mg base ["kind", "numbers", "begin", "behind", "bound"] "rising_most" (defScope s_rising_most) f (.ref cR) A outer s H E).nox (.Lambda (lamP lam0E) (lamB lam0E) (lamS lam0E) (lamPos lam0E)) (tLamE (Tb.tabs.map fun a => (a, Tb.nm a)) (lamB lam0E) mk0) :=
    pe_lam TB rfl PT (by rw [hnm]; rfl) PU (fun y hy e => .inl (free0 y hy e)) rfl
  have LD1 : PE (cxOf CX0 P w K mg base ["kind", "numbers", "begin", "behind", "bound"] "rising_most" (defScope s_rising_most) f (.ref cR) A outer s H E).nox (.Lambda (lamP lam1E) (lamB lam1E) (lamS lam1E) (lamPos lam1E)) (tLamE (Tb.tabs.map fun a => (a, Tb.nm a)) (lamB lam1E) mk1) :=
    pe_lam TB rfl PT (by rw [hnm]; rfl) PU (fun y hy e => .inl (free1 y hy e)) rfl
  have C0 : (cxOf CX0 P w K mg base ["kind", "numbers", "begin", "behind", "bound"] "rising_most" (defScope s_rising_most) f (.ref cR) A outer s H E).nox.Ok → NdefX.Caps (cxOf CX0 P w K mg base ["kind", "numbers", "begin", "behind", "bound"] "rising_most" (defScope s_rising_most) f (.ref cR) A outer s H E).nox (cloFrom cells (lamS lam0E).names []) ["kind", "numbers", "bound"] [0, 1, 4] := fun okx =>
    NdefX.Caps.made okx (fun y hy e => .inl (free0 y hy e)) (by decide +kernel) rfl
  have C1 : (cxOf CX0 P w K mg base ["kind", "numbers", "begin", "behind", "bound"] "rising_most" (defScope s_rising_most) f (.ref cR) A outer s H E).nox.Ok → NdefX.Caps (cxOf CX0 P w K mg base ["kind", "numbers", "begin", "behind", "bound"] "rising_most" (defScope s_rising_most) f (.ref cR) A outer s H E).nox (cloFrom cells (lamS lam1E).names []) ["kind", "numbers", "bound"] [0, 1, 4] := fun okx =>
    NdefX.Caps.made okx (fun y hy e => .inl (free1 y hy e)) (by decide +kernel) rfl
  have hps : PSs (cxOf CX0 P w K mg base ["kind", "numbers", "begin", "behind", "bound"] "rising_most" (defScope s_rising_most) f (.ref cR) A outer s H E).nox (defBody s_rising_most) (r_rising_most K mk0 (lamB lam0E) (toSpG K (fun c' => fvL (mk0 c') (lamB lam0E)) (fsSp lam0Sp)) mk1 (lamB lam1E) (toSpG K (fun c' => fvL (mk1 c') (lamB lam1E)) (fsSp lam1Sp)) (toSp K naSp)) := (pss_cons (ps_if (pt_cmpR op_ge (pv 2) (pv 3) (nomark _)) (pss_one (ps_ret pe_int)) pss_nil) (pss_cons (ps_if (pt_cmpR op_le (pe_go G_number_at hr (pa_cons (pv 0) (pa_cons (pv 1) (pa_cons (pv 2) pa_nil)))) (pe_go G_number_at hr (pa_cons (pv 0) (pa_cons (pv 1) (pa_cons (pe_op op_sub (pv 3) pe_int) pa_nil)))) (nomark _)) (pss_one (ps_ret (pe_op op_sub (pe_callG F_first_such sc_first_such m_first_such b_first_such (fun _ => rfl) C0 hr (pa_cons (pv 2) (pa_cons (pv 3) (pa_cons LD0 pa_nil))) (fun cdv s1 H1 c1 ws1 vs1 Q1 C hr1 h1 => body_fs (mk := fun c1 => fvL (mk0 c1) (lamB lam0E)) (fun _ => clb0 G_number_at) C hr1 h1)) (pv 2)))) pss_nil) (pss_one (ps_ret (pe_op op_sub (pv 3) (pe_callG F_first_such sc_first_such m_first_such b_first_such (fun _ => rfl) C1 hr (pa_cons (pv 2) (pa_cons (pv 3) (pa_cons LD1 pa_nil))) (fun cdv s1 H1 c1 ws1 vs1 Q1 C hr1 h1 => body_fs (mk := fun c1 => fvL (mk1 c1) (lamB lam1E)) (fun _ => clb1 G_number_at) C hr1 h1)))))))
  exact ⟨_, hps.nox, hbody⟩
end
end K43
set_option Elab.async false
set_option maxRecDepth 100000
set_option maxHeartbeats 4000000
set_option linter.all false
set_option autoImplicit false
/-! plain laws: points at told moments; what is asked, what is answered -/
namespace K43
variable [DW.Tb]
open DW
theorem sorted_split {l : List Pt} {ms : List Int} {x : Int} (hl : Sorted l) (hm : ∀ y ∈ ms, y < x) :
    l.filter (fun y => decide (y.1 ∈ ms ++ [x])) = l.filter (fun y => decide (y.1 ∈ ms)) ++ l.filter (fun y => decide (y.1 = x)) := by
  induction l with
  | nil => rfl
  | cons a t ih =>
    have ih := ih (List.pairwise_cons.mp hl).2
    have at_ := sorted_not hl
    rw [List.filter_cons, List.filter_cons, List.filter_cons, ih]
    by_cases h1 : a.1 ∈ ms
    · have h2 : a.1 ≠ x := fun e => by have := hm _ h1; omega
      simp [h1, h2]
    · by_cases h2 : a.1 = x
      · have e1 : t.filter (fun y => decide (y.1 ∈ ms)) = [] := List.filter_eq_nil_iff.mpr fun y hy z => by
          have := hm _ (of_decide_eq_true z)
          have := at_ y hy
          omega
        have h3 : ¬ x ∈ ms := by rw [← h2]; exact h1
        rw [e1]
        simp [h1, h2, h3]
      · simp [h1, h2]
theorem sorted_one {l : List Pt} {y : Pt} (hl : Sorted l) (h : y ∈ l) : l.filter (fun z => decide (z.1 = y.1)) = [y] := by
  induction l with
  | nil => cases h
  | cons a t ih =>
    have at_ := sorted_not hl
    rw [List.filter_cons]
    rcases List.mem_cons.mp h with rfl | h
    · have e1 : t.filter (fun z => decide (z.1 = y.1)) = [] := List.filter_eq_nil_iff.mpr fun z hz q => by
        have := at_ z hz
        have := of_decide_eq_true q
        omega
      rw [e1]; simp
    · have := at_ y h
      have h2 : a.1 ≠ y.1 := by omega
      simp only [decide_eq_true_eq, h2, if_false]
      exact ih (List.pairwise_cons.mp hl).2 h
/-- the one point of a piece at a moment -/
theorem pts_at_one {p : Pc} (g : Good p) (x : Int) : (pts p).filter (fun z => decide (z.1 = x)) = if belowN p x < p.c ∧ p.m + p.s * belowN p x = x then [ptAt p (belowN p x)] else [] := by
  obtain ⟨b0, b1, bs⟩ := below_spec g x
  split
  · rename_i h
    have := sorted_one (pts_sorted g) (pts_mem.mpr ⟨belowN p x, b0, h.1, rfl⟩)
    have e : (ptAt p (belowN p x)).1 = x := h.2
    rw [e] at this
    exact this
  · rename_i h
    refine List.filter_eq_nil_iff.mpr fun y hy q => ?_
    obtain ⟨i, i0, i1, rfl⟩ := pts_mem.mp hy
    have q : p.m + p.s * i = x := of_decide_eq_true q
    have h1 : ¬ i < belowN p x := fun z => by have := (bs i i0 i1).mp z; omega
    have h2 : belowN p x < p.c := by omega
    refine h ⟨h2, ?_⟩
    have h3 : ¬ p.m + p.s * belowN p x < x := fun z => by have := (bs _ b0 h2).mpr z; omega
    have h4 : p.s * belowN p x ≤ p.s * i := Int.mul_le_mul_of_nonneg_left (by omega) g.s_nn
    omega
theorem len_pts : ∀ {ps : List Pc}, (∀ p ∈ ps, Good p) → ps.length ≤ (ptsR ps).length
  | [], _ => Nat.le_refl _
  | p :: ps, h => by
    have c1 := (h p (List.mem_cons_self ..)).c1
    have := len_pts fun q hq => h q (List.mem_cons_of_mem _ hq)
    rw [ptsR_cons, List.length_append, pts_len, List.length_cons]
    omega
theorem sorted_sub {l : List Pt} {ms : List Int} (hl : Sorted l) (h : ∀ y ∈ l, y.1 ∈ ms) : l.length ≤ ms.length := by
  have nd : (l.map (·.1)).Nodup := by
    unfold Sorted at hl
    exact (List.pairwise_map.mpr hl).imp fun z => Int.ne_of_lt z
  have := List.Nodup.length_le_of_subset nd (l₂ := ms) fun y hy => by
    obtain ⟨z, hz, rfl⟩ := List.mem_map.mp hy
    exact h z hz
  rwa [List.length_map] at this
/-- the points that are found so far, among those of l -/
structure AmI (l : List Pt) (ms : List Int) (acc : List Pc) : Prop where
  row : Row acc
  eq : ptsR acc = l
  sub : ∀ y ∈ l, y.1 ∈ ms
theorem AmI.len {l : List Pt} {ms : List Int} {acc : List Pc} (h : AmI l ms acc) : acc.length ≤ ms.length := by
  have a := len_pts h.row.good
  have s := row_sorted h.row
  rw [h.eq] at a s
  have := sorted_sub s h.sub
  omega
theorem AmI.add {l : List Pt} {ms : List Int} {acc : List Pc} (h : AmI l ms acc) (hz : ms.length ≤ 1000) {p : Pc} (g : Good p) {b : Int} {r : List Int} (b0 : 0 ≤ b) (b1 : b < p.c) (hr : PartOf p.per p.ns b 1 r) (hm : p.m + p.s * b ∈ ms) (hl : ∀ y ∈ l, y.1 < p.m + p.s * b) : AmI (l ++ [ptAt p b]) ms (acc ++ [partPc p b 1 r]) := by
  have G := part_good g b0 (Int.le_refl 1) (by omega) hr
  have e : pts (partPc p b 1 r) = [ptAt p b] := by
    rw [pts_part g b0 (Int.le_refl 1) (by omega) hr, pts_drop_cons b0 b1]
    rfl
  have n := h.len
  refine ⟨h.row.append (Row.one G) (by simp; omega) fun q hq z hz => ?_, ?_, fun y hy => ?_⟩
  · rw [List.mem_singleton] at hz
    subst hz
    have gq := h.row.good q hq
    have := hl _ (by rw [← h.eq]; exact ptsR_mem hq (cutI_mem gq).2)
    exact this
  · rw [ptsR_append, h.eq, ptsR_cons, e]; rfl
  · rcases List.mem_append.mp hy with hy | hy
    · exact h.sub y hy
    · rw [List.mem_singleton] at hy
      subst hy
      exact hm
structure AmongOf (ps : List Pc) (ms : List Int) (qs : List Pc) : Prop where
  row : Row qs
  eq : ptsR qs = (ptsR ps).filter fun y => decide (y.1 ∈ ms)
  len : qs.length ≤ ms.length
/-- what is asked about -/
def inAm (am : Option (List Int)) (x : Int) : Bool := match am with
  | none => true
  | some ms => decide (x ∈ ms)
def askB (st sp : Int) (am : Option (List Int)) : Pt → Bool := fun y => btw st sp y && inAm am y.1
structure AskOf (ps : List Pc) (st sp : Int) (am : Option (List Int)) (qs : List Pc) : Prop where
  row : Row qs
  eq : ptsR qs = (ptsR ps).filter (askB st sp am)
theorem ask_cut {ps qs : List Pc} {st sp : Int} (h : CutOf ps st sp qs) : AskOf ps st sp none qs := by
  refine ⟨h.row, ?_⟩
  rw [h.eq]
  exact List.filter_congr fun y _ => by show _ = (btw st sp y && true); rw [Bool.and_true]
def listedB (st sp : Int) (ms : List Int) : List Int := ms.filter fun m => decide (st ≤ m) && decide (m < sp)
theorem ask_among {ps qs : List Pc} {st sp : Int} {ms : List Int} (h : AmongOf ps (listedB st sp ms) qs) : AskOf ps st sp (some ms) qs := by
  refine ⟨h.row, ?_⟩
  rw [h.eq]
  refine List.filter_congr fun y _ => ?_
  show decide (y.1 ∈ listedB st sp ms) = (btw st sp y && decide (y.1 ∈ ms))
  unfold listedB btw
  by_cases h1 : y.1 ∈ ms <;> by_cases h2 : st ≤ y.1 <;> by_cases h3 : y.1 < sp <;> simp [List.mem_filter, h1, h2, h3]
  all_goals omega
/-- the answer of some points -/
inductive AnsOf (kind : PySem.Str) (num : D) (l : List Pt) : D → Prop
  | count : kind = "count" → AnsOf kind num l (.int l.length)
  | sum : kind = "sum" → AnsOf kind num l (.int (l.map (·.2)).sum)
  | least (o : Option (Int × Int)) : kind = "least" → LowO l o → AnsOf kind num l (oD (o.map (·.1)))
  | great (o : Option (Int × Int)) : kind = "greatest" → HighO l o → AnsOf kind num l (oD (o.map (·.1)))
  | most (x : Int) : kind = "most" → num = .int x → AnsOf kind num l (.int (atMost l x))
  | few (r : Int) : kind = "rank" → num = .int r → l.length < r → AnsOf kind num l .non
  | rank (r v : Int) : kind = "rank" → num = .int r → r ≤ l.length → RankOf l r v → AnsOf kind num l (.int v)
end K43
set_option Elab.async false
set_option maxRecDepth 100000
set_option maxHeartbeats 4000000
set_option linter.all false
set_option autoImplicit false
/-! cuts -/
namespace K43
variable [DW.Tb]
open PySem PySem.Spec PyProof.Rows L2 DW
abbrev cutSp (C : Addr) : DSpW := fun w es n k => ∃ d ps a b, es = [d, .int a, .int b] ∧ IsPs C d ps ∧ Row ps ∧ (-(2 ^ 60) ≤ a ∧ a ≤ 2 ^ 60) ∧ (-(2 ^ 60) ≤ b ∧ b ≤ 2 ^ 60) ∧ ∀ qs, CutOf ps a b qs → k (.tup (qs.map (pcO C))) n
section
variable {K : PySem.W.Frag} {w : Option Addr} {n : Nat} {k : Kn} {es : List D} {C : Addr}
theorem w_cut_in (h : cutSp C w es n k) : WpS K w (r_cut_in K (toSp K (belowSp C)) (toSp K (popSp C))) (dstart ["pieces", "start", "stop", "found", "piece", "begin", "behind"] es) n { nx := fun _ n' => kup k .non n', rt := kup k } := by
  obtain ⟨d, ps, a, b, rfl, hd, R, ha, hb, hk⟩ := h
  have ho := hd.own
  have hz := R.len
  have iter : ∀ {k : List D → Nat → Prop} {n : Nat} {r : List (Option D)}, k (ps.map (pcO C)) n → WpI K w (iSeq K (tVar 0)) (some d :: r) n k := fun {k n r} hk => by
    rcases hd with rfl | rfl
    · exact i_listV ⟨_, rfl, hk⟩
    · exact i_tupV ⟨_, rfl, hk⟩
  unfold r_cut_in
  refine s_seq (s_own (f_lst (a_nil ⟨by simp, ?_⟩)))
  refine s_mid (mid := fun ds' n' => n' = n ∧ ∃ acc v4 v5 v6, CutOf ps a b acc ∧ ds' = [some d, some (.int a), some (.int b), some (.own (acc.map (pcO C))), v4, v5, v6]) (s_for (iter ?_)) ?_
  · refine ⟨fun i ds' n' => n' = n ∧ ∃ acc v4 v5 v6, CutI ps a b i acc ∧ ds' = [some d, some (.int a), some (.int b), some (.own (acc.map (pcO C))), v4, v5, v6], ⟨rfl, [], none, none, none, CutI.nil, rfl⟩, ?_, ?_⟩
    · rintro i x ds' n' hx ⟨rfl, acc, v4, v5, v6, hA, rfl⟩
      rw [List.getElem?_map] at hx
      obtain ⟨p, hp, rfl⟩ := Option.map_eq_some_iff.mp hx
      have g := R.good p (List.mem_of_getElem? hp)
      have hi := (List.getElem?_eq_some_iff.mp hp).1
      have hal := hA.len
      obtain ⟨b0, b1, _⟩ := below_spec g a
      obtain ⟨c0, c1, _⟩ := below_spec g b
      refine ⟨_, _, g_name rfl, ?_⟩
      repeat' (first
    | exact absurd ‹false = true› (by decide)
    | exact absurd ‹true = false› (by decide)
    | (have q := of_decide_eq_true ‹decide (belowN p a < belowN p b) = true›; refine ⟨p, belowN p a, belowN p b - belowN p a, rfl, g, by omega, by omega, by omega, fun r hr => ?_⟩)
    | walk_at "way by rule"
    | refine ⟨p, a, rfl, g, by omega, by omega, ?_⟩
    | refine ⟨p, b, rfl, g, by omega, by omega, ?_⟩
    | with_reducible refine And.intro (by rw [List.length_map]; omega) ?_
    | walk_at "way by form"
    | fail)
      · exact ⟨acc ++ [partPc p (belowN p a) (belowN p b - belowN p a) r], _, _, _, hA.add R hp q hr, by rw [List.map_append]; rfl⟩
      · rename_i q
        have q := of_decide_eq_false q
        exact ⟨acc, _, _, _, hA.skip R hp q, rfl⟩
    · rintro ds' n' ⟨rfl, acc, v4, v5, v6, hA, rfl⟩
      rw [List.length_map] at hA
      exact ⟨rfl, acc, v4, v5, v6, hA, rfl⟩
  rintro ds' n' ⟨rfl, acc, v4, v5, v6, hA, rfl⟩
  refine s_freeze (i := 3) rfl ?_
  repeat' (first
    | exact absurd ‹false = true› (by decide)
    | exact absurd ‹true = false› (by decide)
    | walk_at "way by rule"
    | walk_at "way by form"
    | fail)
  exact kup_of (hk acc hA)
end
end K43
set_option Elab.async false
set_option maxRecDepth 100000
set_option maxHeartbeats 4000000
set_option linter.all false
set_option autoImplicit false
/-! questions, answers: walked -/
namespace K43
variable [DW.Tb]
open PySem PySem.Spec PyProof.Rows L2 DW
def QN : List Str := ["kind", "number", "start", "stop", "among"]
def amD : Option (List Int) → D
  | none => .non
  | some ns => .tup (ns.map .int)
@[reducible] def amL : Option (List Int) → D
  | none => .non
  | some ns => .lst (ns.map .int)
def questionD (C : Addr) (kind : Str) (num : D) (st sp : Int) (am : Option (List Int)) : D := .obj C QN [.str kind, num, .int st, .int sp, amD am]
def Moments (ns : List Int) : Prop := ns.length ≤ 200 ∧ (∀ i ∈ ns, 0 ≤ i ∧ i ≤ 2 ^ 40 - 1) ∧ ns.Pairwise (· < ·)
def kinds : List Str := ["count", "sum", "least", "greatest", "most", "rank"]
def NumOk (kind : Str) (num : D) : Prop := (kind = "most" ∧ ∃ i, num = .int i ∧ -(2 ^ 60) ≤ i ∧ i ≤ 2 ^ 60) ∨ (kind = "rank" ∧ ∃ i, num = .int i ∧ 1 ≤ i ∧ i ≤ 2 ^ 60) ∨ (num = .non ∧ kind ≠ "most" ∧ kind ≠ "rank")
structure Quest (kind : Str) (num : D) (st sp : Int) (am : Option (List Int)) : Prop where
  kin : kind ∈ kinds
  num : NumOk kind num
  st0 : 0 ≤ st
  stsp : st ≤ sp
  sp2 : sp ≤ 2 ^ 40
  am : ∀ ns, am = some ns → Moments ns
abbrev numberedSp : DSpW := fun w es n k => k (.bl true) n ∧ ((∃ i, es = [.str "most", .int i] ∧ -(2 ^ 60) ≤ i ∧ i ≤ 2 ^ 60) ∨ (∃ i, es = [.str "rank", .int i] ∧ 1 ≤ i ∧ i ≤ 2 ^ 60) ∨ (∃ x : Str, es = [.str x, .non] ∧ x ≠ "most" ∧ x ≠ "rank"))
abbrev momentsSp : DSpW := fun w es n k => ∃ ns : List Int, es = [.lst (ns.map .int)] ∧ Moments ns ∧ k (.bl true) n
def gQ : List D → List Str → List D → Prop := fun es ns l => ∃ kind num st sp am, es = [.str kind, num, .int st, .int sp, amL am] ∧ Quest kind num st sp am ∧ ns = QN ∧ l = [.str kind, num, .int st, .int sp, amD am]
abbrev amongSp (C : Addr) : DSpW := fun w es n k => ∃ d ps ms, es = [d, .lst (ms.map .int)] ∧ IsPs C d ps ∧ Row ps ∧ ms.length ≤ 200 ∧ (∀ i ∈ ms, -(2 ^ 60) ≤ i ∧ i ≤ 2 ^ 60) ∧ ms.Pairwise (· < ·) ∧ ∀ qs, AmongOf ps ms qs → k (.tup (qs.map (pcO C))) n
abbrev listedInSp (CQ : Addr) : DSpW := fun w es n k => ∃ kind num st sp ms, es = [questionD CQ kind num st sp (some ms)] ∧ ms.length ≤ 200 ∧ k (.lst ((listedB st sp ms).map .int)) n
abbrev atSp (C CQ : Addr) : DSpW := fun w es n k => ∃ d ps kind num st sp am, es = [d, questionD CQ kind num st sp am] ∧ IsPs C d ps ∧ Row ps ∧ Quest kind num st sp am ∧ ∀ qs, AskOf ps st sp am qs → k (.tup (qs.map (pcO C))) n
abbrev needQSp (CQ : Addr) : DSpW := fun w es n k => ∃ kind num st sp am, es = [questionD CQ kind num st sp am] ∧ k .non n
abbrev ansSp (C CQ : Addr) : DSpW := fun w es n k => ∃ d ps kind num st sp am, es = [d, questionD CQ kind num st sp am] ∧ IsPs C d ps ∧ Row ps ∧ Quest kind num st sp am ∧ ∀ a, AnsOf kind num ((ptsR ps).filter (askB st sp am)) a → k a n
theorem pairs_lt : ∀ {ns : List Int}, ns.Pairwise (· < ·) → ((ns.zip (ns.drop 1)).all fun p => decide (p.1 < p.2)) = true
  | [], _ => rfl
  | [_], _ => rfl
  | a :: b :: r, h => by
    have h1 := List.rel_of_pairwise_cons h List.mem_cons_self
    have ih := pairs_lt (ns := b :: r) (List.Pairwise.of_cons h)
    show (decide (a < b) && ((b :: r).zip r).all fun p => decide (p.1 < p.2)) = true
    rw [decide_eq_true h1]
    exact ih
theorem quest_own {kind : Str} {num : D} (h : NumOk kind num) : isOwn num = false := by
  rcases h with ⟨_, i, rfl, _⟩ | ⟨_, i, rfl, _⟩ | ⟨rfl, _⟩ <;> rfl
section
variable {K : PySem.W.Frag} {w : Option Addr} {n : Nat} {k : Kn} {es : List D} {C CQ : Addr} {ns : List Str} {l : List D}
theorem w_is_numbered (h : numberedSp w es n k) : WpS K w (r_is_numbered K (toSp K withinSp)) (dstart ["kind", "value"] es) n { nx := fun _ n' => kup k .non n', rt := kup k } := by
  obtain ⟨hk, h⟩ := h
  unfold r_is_numbered
  rcases h with ⟨i, rfl, h1, h2⟩ | ⟨i, rfl, h1, h2⟩ | ⟨x, rfl, h1, h2⟩
  all_goals (
  repeat' (first
    | exact absurd ‹false = true› (by decide)
    | exact absurd ‹true = false› (by decide)
    | walk_at "way by rule"
    | walk_at "way by form"
    | fail))
  · have e : (decide ((0 : Int) - 1152921504606846976 ≤ i) && decide (i ≤ 1152921504606846976)) = true := by rw [Bool.and_eq_true]; exact ⟨decide_eq_true (by omega), decide_eq_true (by omega)⟩
    rw [e]
    exact kup_of hk
  · have e : (decide ((1 : Int) ≤ i) && decide (i ≤ 1152921504606846976)) = true := by rw [Bool.and_eq_true]; exact ⟨decide_eq_true (by omega), decide_eq_true (by omega)⟩
    rw [e]
    exact kup_of hk
  · exact absurd (of_decide_eq_true (by assumption)) h1
  · exact absurd (of_decide_eq_true (by assumption)) h2
  · exact kup_of hk
theorem w_are_moments (h : momentsSp w es n k) : WpS K w (r_are_moments K (toSp K listedSp) (toSp K withinSp)) (dstart ["value", "one", "other"] es) n { nx := fun _ n' => kup k .non n', rt := kup k } := by
  obtain ⟨ns, rfl, ⟨hM1, hM2, hM3⟩, hk⟩ := h
  have hz : ns.length ≤ 100000 := by omega
  have ha : ((ns.filter fun _ => true).all fun z => decide (0 ≤ z) && decide (z ≤ 1099511627775)) = true := by
    rw [List.all_eq_true]
    intro z hzm
    have := hM2 z (List.mem_filter.mp hzm).1
    rw [Bool.and_eq_true]
    exact ⟨decide_eq_true this.1, decide_eq_true (by omega)⟩
  have hl : decide ((200 : Int) < ((ns.map D.int).length : Int)) = false := decide_eq_false (by rw [List.length_map]; omega)
  unfold r_are_moments
  repeat' (first
    | exact absurd ‹false = true› (by decide)
    | exact absurd ‹true = false› (by decide)
    | with_reducible refine e_lcIX ⟨fun _ => true, fun z => .bl (decide (0 ≤ z) && decide (z ≤ 1099511627775)), ?_⟩
    | walk_at "way by rule"
    | with_reducible refine ⟨hz, fun _ _ => ?_, ?_⟩
    | walk_at "way by form"
    | fail)
  · exact absurd (hl.symm.trans (by assumption)) (by decide)
  · rename_i z
    rw [ha] at z
    exact absurd z (by decide)
  · refine WpF.toE (f_lcZip (f := fun a b => .bl (decide (a < b))) (by decide) ?_)
    repeat' (first
    | exact absurd ‹false = true› (by decide)
    | exact absurd ‹true = false› (by decide)
    | walk_at "way by rule"
    | walk_at "way by form"
    | fail)
    by_cases h0 : 1 ≤ (ns.map D.int).length
    · rw [show ((1 : Int)) = ((1 : Nat) : Int) from rfl, cutD_from h0]
      refine ⟨ns.zip (ns.drop 1), ?_, ?_, fun p _ => ?_, ?_⟩
      · rw [← List.map_drop, List.zip_map, List.map_map]; rfl
      · rw [List.length_zip]; omega
      · repeat' (first
    | exact absurd ‹false = true› (by decide)
    | exact absurd ‹true = false› (by decide)
    | walk_at "way by rule"
    | walk_at "way by form"
    | fail)
      · repeat' (first
    | exact absurd ‹false = true› (by decide)
    | exact absurd ‹true = false› (by decide)
    | walk_at "way by rule"
    | walk_at "way by form"
    | fail)
        have e : ((ns.zip (ns.drop 1)).map fun p => D.bl (decide (p.1 < p.2))) = ((ns.zip (ns.drop 1)).map fun p => decide (p.1 < p.2)).map D.bl := by rw [List.map_map]; rfl
        rw [e]
        refine rc_all ?_
        rw [List.all_map]
        have := pairs_lt hM3
        rw [show ((ns.zip (ns.drop 1)).all (id ∘ fun p => decide (p.1 < p.2))) = true from this]
        exact kup_of hk
    · have e0 : ns = [] := by
        cases ns with
        | nil => rfl
        | cons a r => simp at h0
      subst e0
      refine ⟨[], rfl, by simp, fun p h => (nomatch h), ?_⟩
      repeat' (first
    | exact absurd ‹false = true› (by decide)
    | exact absurd ‹true = false› (by decide)
    | walk_at "way by rule"
    | walk_at "way by form"
    | fail)
      exact rc_all (bs := []) (kup_of hk)
theorem w_Question_init (T : ClT K C QN) (h : gQ es ns l) : WpN K C (r_Question_init K (toSp K numberedSp) (toSp K withinSp) (toSp K momentsSp)) (nstart ["self", "kind", "number", "start", "stop", "among"] es) [] [] fun _ ns' l' => ns' = ns ∧ l' = l := by
  obtain ⟨kind, num, st, sp, am, rfl, ⟨q1, q2, q3, q4, q5, q6⟩, rfl, rfl⟩ := h
  have hnum : ∀ k : Kn, k (.bl true) 0 → numberedSp none [.str kind, num] 0 k := fun k hk => by
    refine ⟨hk, ?_⟩
    rcases q2 with ⟨rfl, i, rfl, h1, h2⟩ | ⟨rfl, i, rfl, h1, h2⟩ | ⟨rfl, h1, h2⟩
    · exact .inl ⟨i, rfl, h1, h2⟩
    · exact .inr (.inl ⟨i, rfl, h1, h2⟩)
    · exact .inr (.inr ⟨kind, rfl, h1, h2⟩)
  have hno := quest_own q2
  have c1 : (decide ((0 : Int) ≤ st) && decide (st ≤ 1099511627775 + 1)) = true := by rw [Bool.and_eq_true]; exact ⟨decide_eq_true q3, decide_eq_true (by omega)⟩
  have c2 : (decide (st ≤ sp) && decide (sp ≤ 1099511627775 + 1)) = true := by rw [Bool.and_eq_true]; exact ⟨decide_eq_true q4, decide_eq_true (by omega)⟩
  unfold r_Question_init
  cases am with
  | none =>
    repeat' (first
    | exact absurd ‹false = true› (by decide)
    | exact absurd ‹true = false› (by decide)
    | exact absurd ‹(!(decide ((0 : Int) ≤ st) && decide (st ≤ 1099511627775 + 1))) = true› (by rw [c1]; decide)
    | exact absurd ‹(!(decide (st ≤ sp) && decide (sp ≤ 1099511627775 + 1))) = true› (by rw [c2]; decide)
    | (refine hnum _ ?_)
    | ((with_reducible refine e_varX ?_); refine ⟨_, rfl, hno, ?_⟩)
    | (guard_target =~ RD _ _ _ _ _ _ _; first | with_reducible refine rd_isNn ?_ | (refine rd_ninStrs (xs := kinds) ?_; rw [show decide (kind ∈ kinds) = true from decide_eq_true q1]))
    | with_reducible refine n_put T.cls (T.na _ (by decide +kernel)) ?_
    | walk_at "way by rule"
    | with_reducible refine And.intro (by decide +kernel : _ ∉ _) ?_
    | with_reducible refine And.intro (by decide : List.length _ < 1000) ?_
    | with_reducible refine And.intro (q6 _ rfl) ?_
    | walk_at "way by form"
    | fail)
    all_goals rfl
  | some ms =>
    repeat' (first
    | exact absurd ‹false = true› (by decide)
    | exact absurd ‹true = false› (by decide)
    | exact absurd ‹(!(decide ((0 : Int) ≤ st) && decide (st ≤ 1099511627775 + 1))) = true› (by rw [c1]; decide)
    | exact absurd ‹(!(decide (st ≤ sp) && decide (sp ≤ 1099511627775 + 1))) = true› (by rw [c2]; decide)
    | (refine hnum _ ?_)
    | ((with_reducible refine e_varX ?_); refine ⟨_, rfl, hno, ?_⟩)
    | (guard_target =~ RD _ _ _ _ _ _ _; first | with_reducible refine rd_isNn ?_ | (refine rd_ninStrs (xs := kinds) ?_; rw [show decide (kind ∈ kinds) = true from decide_eq_true q1]))
    | with_reducible refine n_put T.cls (T.na _ (by decide +kernel)) ?_
    | walk_at "way by rule"
    | with_reducible refine And.intro (by decide +kernel : _ ∉ _) ?_
    | with_reducible refine And.intro (by decide : List.length _ < 1000) ?_
    | with_reducible refine And.intro (q6 _ rfl) ?_
    | walk_at "way by form"
    | fail)
    all_goals rfl
theorem w_need_question (OQ : ObT K CQ) (h : needQSp CQ w es n k) : WpS K w (r_need_question K CQ) (dstart ["value"] es) n { nx := fun _ n' => kup k .non n', rt := kup k } := by
  obtain ⟨kind, num, st, sp, am, rfl, hk⟩ := h
  unfold r_need_question
  repeat' (first
    | exact absurd ‹false = true› (by decide)
    | exact absurd ‹true = false› (by decide)
    | refine isi_oo OQ (kit_self (by simp)) ?_
    | walk_at "way by rule"
    | walk_at "way by form"
    | fail)
  all_goals exact kup_of hk
theorem w_listed_in (TQ : ClT K CQ QN) (h : listedInSp CQ w es n k) : WpS K w (r_listed_in K) (dstart ["question", "moment"] es) n { nx := fun _ n' => kup k .non n', rt := kup k } := by
  obtain ⟨kind, num, st, sp, ms, rfl, hz, hk⟩ := h
  have iter : ∀ {k : List D → Nat → Prop} {n : Nat}, k (ms.map .int) n → WpI K w (iSeq K (tFld K (tVar 0) "among")) (dstart ["question", "moment"] [questionD CQ kind num st sp (some ms)]) n k := fun {k n} hk => i_tup (e_fldX (by
    refine ⟨_, _, _, rfl, TQ, by decide +kernel, _, rfl, ?_⟩
    exact ⟨_, rfl, hk⟩))
  have e : ((ms.filter fun z => decide (st ≤ z) && decide (z < sp)).map fun z => D.int z) = (listedB st sp ms).map .int := rfl
  unfold r_listed_in
  repeat' (first
    | exact absurd ‹false = true› (by decide)
    | exact absurd ‹true = false› (by decide)
    | (guard_target =~ WpE _ _ _ _ _ _; first | ((with_reducible refine e_lcIX ⟨fun z => decide (st ≤ z) && decide (z < sp), fun z => .int z, ?_⟩); (refine iter ?_)) | ((with_reducible refine e_fldX ?_); refine ⟨_, _, _, rfl, TQ, by decide +kernel, _, rfl, ?_⟩))
    | walk_at "way by rule"
    | refine ⟨ms, rfl, by omega, fun z hz => ?_, ?_⟩
    | walk_at "way by form"
    | fail)
  · rename_i q1
    exact ⟨by show _ = (decide (st ≤ z) && decide (z < sp)); rw [q1]; rfl, rfl, fun _ => e_var rfl ⟨rfl, rfl⟩⟩
  · rename_i q1
    exact ⟨by show _ = (decide (st ≤ z) && decide (z < sp)); rw [q1]; rfl, rfl, fun z => nomatch z⟩
  · rw [e]
    exact kup_of hk
theorem w_points_among (T : ClT K C XN) (h : amongSp C w es n k) : WpS K w (r_points_among K (toSp K (belowSp C)) (toSp K (momSp C)) (toSp K (popSp C))) (dstart ["pieces", "moments", "found", "piece", "moment", "index"] es) n { nx := fun _ n' => kup k .non n', rt := kup k } := by
  obtain ⟨d, ps, ms, rfl, hd, R, hz, hb, hm, hk⟩ := h
  have ho := hd.own
  have iter : ∀ {k : List D → Nat → Prop} {n : Nat} {r : List (Option D)}, k (ps.map (pcO C)) n → WpI K w (iSeq K (tVar 0)) (some d :: r) n k := fun {k n r} hk => by
    rcases hd with rfl | rfl
    · exact i_listV ⟨_, rfl, hk⟩
    · exact i_tupV ⟨_, rfl, hk⟩
  unfold r_points_among
  refine s_seq (s_own (f_lst (a_nil ⟨by simp, ?_⟩)))
  refine s_mid (mid := fun ds' n' => n' = n ∧ ∃ acc v3 v4 v5, AmI ((ptsR ps).filter fun y => decide (y.1 ∈ ms)) ms acc ∧ ds' = [some d, some (.lst (ms.map .int)), some (.own (acc.map (pcO C))), v3, v4, v5]) (s_for (iter ?_)) ?_
  · refine ⟨fun i ds' n' => n' = n ∧ ∃ acc v3 v4 v5, AmI ((ptsR (ps.take i)).filter fun y => decide (y.1 ∈ ms)) ms acc ∧ ds' = [some d, some (.lst (ms.map .int)), some (.own (acc.map (pcO C))), v3, v4, v5], ⟨rfl, [], none, none, none, ⟨Row.nil, rfl, fun y hy => by simp [ptsR] at hy⟩, rfl⟩, ?_, ?_⟩
    · rintro i x ds' n' hx ⟨rfl, acc, v3, v4, v5, hA, rfl⟩
      rw [List.getElem?_map] at hx
      obtain ⟨p, hp, rfl⟩ := Option.map_eq_some_iff.mp hx
      have g := R.good p (List.mem_of_getElem? hp)
      have c2 := g.c2
      have bf := row_before R hp
      refine ⟨_, _, g_name rfl, ?_⟩
      refine s_for (i_listV ⟨_, rfl, ?_⟩)
      refine ⟨fun j ds' n'' => n'' = n' ∧ ∃ acc v4 v5, AmI (((ptsR (ps.take i)).filter fun y => decide (y.1 ∈ ms)) ++ (pts p).filter fun y => decide (y.1 ∈ ms.take j)) ms acc ∧ ds' = [some d, some (.lst (ms.map .int)), some (.own (acc.map (pcO C))), some (pcO C p), v4, v5], ⟨rfl, acc, v4, v5, by rw [List.take_zero, show ((pts p).filter fun y => decide (y.1 ∈ ([] : List Int))) = [] from List.filter_eq_nil_iff.mpr fun y _ => by simp, List.append_nil]; exact hA, rfl⟩, ?_, ?_⟩
      · rintro j x ds' n'' hx ⟨rfl, acc, v4, v5, hA, rfl⟩
        rw [List.getElem?_map] at hx
        obtain ⟨m, hmj, rfl⟩ := Option.map_eq_some_iff.mp hx
        have mem := List.mem_of_getElem? hmj
        have mb := hb m mem
        obtain ⟨b0, b1, _⟩ := below_spec g m
        have hal := hA.len
        have lt : ∀ y ∈ ms.take j, y < m := fun y hy => by
          obtain ⟨q, hq, e⟩ := List.mem_iff_getElem.mp hy
          rw [List.length_take] at hq
          rw [List.getElem_take] at e
          obtain ⟨hj, e2⟩ := List.getElem?_eq_some_iff.mp hmj
          have := List.pairwise_iff_getElem.mp hm q j (by omega) hj (by omega)
          rw [e, e2] at this
          exact this
        have et : ms.take (j + 1) = ms.take j ++ [m] := by rw [List.take_succ, hmj]; rfl
        have sp := sorted_split (pts_sorted g) lt
        rw [← et, pts_at_one g m] at sp
        refine ⟨_, _, g_name rfl, ?_⟩
        repeat' (first
    | exact absurd ‹false = true› (by decide)
    | exact absurd ‹true = false› (by decide)
    | (have q1 := of_decide_eq_true ‹decide (belowN p m < p.c) = true›; refine ⟨p, belowN p m, 1, rfl, g, by omega, by omega, by omega, fun r hr => ?_⟩)
    | ((with_reducible refine e_fldX ?_); refine ⟨_, _, _, rfl, T, by decide +kernel, _, rfl, ?_⟩)
    | walk_at "way by rule"
    | refine ⟨p, m, rfl, g, by omega, by omega, ?_⟩
    | refine ⟨_, _, _, _, _, _, rfl, by omega, by omega, ?_⟩
    | with_reducible refine And.intro (by rw [List.length_map]; omega) ?_
    | walk_at "way by form"
    | fail)
        · rename_i q2
          have q2 := of_decide_eq_true q2
          rw [if_pos ⟨q1, q2⟩] at sp
          refine ⟨acc ++ [partPc p (belowN p m) 1 r], _, _, ?_, by rw [List.map_append]; rfl⟩
          rw [sp, ← List.append_assoc]
          refine hA.add (by omega) g b0 q1 hr (by rw [q2]; exact mem) fun y hy => ?_
          rw [q2]
          rcases List.mem_append.mp hy with hy | hy
          · have := bf y (List.mem_filter.mp hy).1 (ptAt p (belowN p m)) (pts_mem.mpr ⟨_, b0, q1, rfl⟩)
            have this : y.1 < p.m + p.s * belowN p m := this
            omega
          · exact lt _ (of_decide_eq_true (List.mem_filter.mp hy).2)
        · rename_i q1 q2
          have q2 := of_decide_eq_false q2
          rw [if_neg (fun z => q2 z.2), List.append_nil] at sp
          exact ⟨acc, _, _, by rw [sp]; exact hA, rfl⟩
        · rename_i q1 q2
          have q1 := of_decide_eq_false q1
          rw [if_neg (fun z => q1 z.1), List.append_nil] at sp
          exact ⟨acc, _, _, by rw [sp]; exact hA, rfl⟩
      · rintro ds' n'' ⟨rfl, acc, v4, v5, hA, rfl⟩
        rw [List.length_map, List.take_length, ← List.filter_append, ← take_succ_pts hp] at hA
        exact ⟨rfl, acc, _, v4, v5, hA, rfl⟩
    · rintro ds' n' ⟨rfl, acc, v3, v4, v5, hA, rfl⟩
      rw [List.length_map, List.take_length] at hA
      exact ⟨rfl, acc, v3, v4, v5, hA, rfl⟩
  rintro ds' n' ⟨rfl, acc, v3, v4, v5, hA, rfl⟩
  refine s_freeze (i := 2) rfl ?_
  repeat' (first
    | exact absurd ‹false = true› (by decide)
    | exact absurd ‹true = false› (by decide)
    | walk_at "way by rule"
    | walk_at "way by form"
    | fail)
  exact kup_of (hk acc ⟨hA.row, hA.eq, hA.len⟩)
theorem w_pieces_at (TQ : ClT K CQ QN) (h : atSp C CQ w es n k) : WpS K w (r_pieces_at K (toSp K (amongSp C)) (toSp K (listedInSp CQ)) (toSp K (cutSp C))) (dstart ["pieces", "question"] es) n { nx := fun _ n' => kup k .non n', rt := kup k } := by
  obtain ⟨d, ps, kind, num, st, sp, am, rfl, hd, R, Q, hk⟩ := h
  have ho := hd.own
  obtain ⟨q1, q2, q3, q4, q5, q6⟩ := id Q
  unfold r_pieces_at
  cases am with
  | none =>
    have isn : ∀ {k : Kn} {n : Nat}, k (.bl false) n → RD K w rIsNU (amD none) .non n k := fun {k n} hk => rd_isNNn hk
    repeat' (first
    | exact absurd ‹false = true› (by decide)
    | exact absurd ‹true = false› (by decide)
    | with_reducible refine isn ?_
    | (guard_target =~ WpE _ _ _ _ _ _; first | ((with_reducible refine e_varX ?_); refine ⟨_, rfl, ho, ?_⟩) | ((with_reducible refine e_fldX ?_); refine ⟨_, _, _, rfl, TQ, by decide +kernel, _, rfl, ?_⟩))
    | walk_at "way by rule"
    | refine ⟨d, ps, st, sp, rfl, hd, R, by omega, by omega, fun qs hqs => ?_⟩
    | walk_at "way by form"
    | fail)
    exact kup_of (hk qs (ask_cut hqs))
  | some ms =>
    obtain ⟨m1, m2, m3⟩ := q6 ms rfl
    have isn : ∀ {k : Kn} {n : Nat}, k (.bl true) n → RD K w rIsNU (amD (some ms)) .non n k := fun {k n} hk => rd_isNT hk
    have lz : (listedB st sp ms).length ≤ ms.length := List.length_filter_le _ _
    have lb : ∀ i ∈ listedB st sp ms, -(2 ^ 60) ≤ i ∧ i ≤ 2 ^ 60 := fun i hi => by
      have := m2 i (List.mem_filter.mp hi).1
      omega
    repeat' (first
    | exact absurd ‹false = true› (by decide)
    | exact absurd ‹true = false› (by decide)
    | with_reducible refine isn ?_
    | (guard_target =~ WpE _ _ _ _ _ _; first | ((with_reducible refine e_varX ?_); refine ⟨_, rfl, ho, ?_⟩) | ((with_reducible refine e_fldX ?_); refine ⟨_, _, _, rfl, TQ, by decide +kernel, _, rfl, ?_⟩))
    | walk_at "way by rule"
    | refine ⟨kind, num, st, sp, ms, rfl, by omega, ?_⟩
    | refine ⟨d, ps, listedB st sp ms, rfl, hd, R, by omega, lb, m3.filter _, fun qs hqs => ?_⟩
    | walk_at "way by form"
    | fail)
    exact kup_of (hk qs (ask_among hqs))
theorem w_answer_of (TQ : ClT K CQ QN) (h : ansSp C CQ w es n k) : WpS K w (r_answer_of K (toSp K (needPSp C)) (toSp K (needQSp CQ)) (toSp K (atSp C CQ)) (toSp K (countedSp C)) (toSp K (summedSp C)) (toSp K firstSp) (toSp K (lowSp C)) (toSp K (highSp C)) (toSp K (mostBySp C)) (toSp K (rankedSp C))) (dstart ["pieces", "question", "some"] es) n { nx := fun _ n' => kup k .non n', rt := kup k } := by
  obtain ⟨d, ps, kind, num, st, sp, am, rfl, hd, R, Q, hk⟩ := h
  have ho := hd.own
  obtain ⟨q1, q2, q3, q4, q5, q6⟩ := id Q
  unfold r_answer_of
  refine s_mid (mid := fun ds' n' => n' = n ∧ ds' = [some d, some (questionD CQ kind num st sp am), none]) ?_ ?_
  · repeat' (first
    | exact absurd ‹false = true› (by decide)
    | exact absurd ‹true = false› (by decide)
    | ((with_reducible refine e_varX ?_); refine ⟨_, rfl, ho, ?_⟩)
    | walk_at "way by rule"
    | refine ⟨_, d, ps, rfl, hd, R, ?_⟩
    | walk_at "way by form"
    | fail)
    all_goals rfl
  rintro ds' n' ⟨rfl, rfl⟩
  refine s_mid (mid := fun ds' n'' => n'' = n' ∧ ds' = [some d, some (questionD CQ kind num st sp am), none]) ?_ ?_
  · repeat' (first
    | exact absurd ‹false = true› (by decide)
    | exact absurd ‹true = false› (by decide)
    | walk_at "way by rule"
    | refine ⟨kind, num, st, sp, am, rfl, ?_⟩
    | walk_at "way by form"
    | fail)
    all_goals rfl
  rintro ds' n'' ⟨rfl, rfl⟩
  refine s_mid (mid := fun ds' n3 => n3 = n'' ∧ ∃ qs, AskOf ps st sp am qs ∧ ds' = [some d, some (questionD CQ kind num st sp am), some (.tup (qs.map (pcO C)))]) ?_ ?_
  · repeat' (first
    | exact absurd ‹false = true› (by decide)
    | exact absurd ‹true = false› (by decide)
    | ((with_reducible refine e_varX ?_); refine ⟨_, rfl, ho, ?_⟩)
    | walk_at "way by rule"
    | refine ⟨d, ps, kind, num, st, sp, am, rfl, hd, R, Q, fun qs hqs => ?_⟩
    | walk_at "way by form"
    | fail)
    all_goals exact ⟨qs, hqs, rfl⟩
  rintro ds' n3 ⟨rfl, qs, hqs, rfl⟩
  have S := hqs.row
  have hps : IsPs C (.tup (qs.map (pcO C))) qs := .inr rfl
  rw [← hqs.eq] at hk
  have hc := cnt_row S.good
  have ht := tot_row S.good
  simp only [kinds, List.mem_cons, List.not_mem_nil, or_false] at q1
  rcases q1 with rfl | rfl | rfl | rfl | rfl | rfl
  · repeat' (first
    | exact absurd ‹false = true› (by decide)
    | exact absurd ‹true = false› (by decide)
    | exact absurd ‹_› (by decide +kernel)
    | ((with_reducible refine e_fldX ?_); refine ⟨_, _, _, rfl, TQ, by decide +kernel, _, rfl, ?_⟩)
    | walk_at "way by rule"
    | refine ⟨_, qs, rfl, hps, S, ?_⟩
    | walk_at "way by form"
    | fail)
    rw [hc]
    exact kup_of (hk _ (.count rfl))
  · repeat' (first
    | exact absurd ‹false = true› (by decide)
    | exact absurd ‹true = false› (by decide)
    | exact absurd ‹_› (by decide +kernel)
    | ((with_reducible refine e_fldX ?_); refine ⟨_, _, _, rfl, TQ, by decide +kernel, _, rfl, ?_⟩)
    | walk_at "way by rule"
    | refine ⟨_, qs, rfl, hps, S, ?_⟩
    | walk_at "way by form"
    | fail)
    rw [ht]
    exact kup_of (hk _ (.sum rfl))
  · repeat' (first
    | exact absurd ‹false = true› (by decide)
    | exact absurd ‹true = false› (by decide)
    | exact absurd ‹_› (by decide +kernel)
    | ((with_reducible refine e_fldX ?_); refine ⟨_, _, _, rfl, TQ, by decide +kernel, _, rfl, ?_⟩)
    | walk_at "way by rule"
    | refine ⟨_, qs, rfl, hps, S, fun o ho => ?_⟩
    | refine ⟨o, rfl, ?_⟩
    | walk_at "way by form"
    | fail)
    exact kup_of (hk _ (.least o rfl ho))
  · repeat' (first
    | exact absurd ‹false = true› (by decide)
    | exact absurd ‹true = false› (by decide)
    | exact absurd ‹_› (by decide +kernel)
    | ((with_reducible refine e_fldX ?_); refine ⟨_, _, _, rfl, TQ, by decide +kernel, _, rfl, ?_⟩)
    | walk_at "way by rule"
    | refine ⟨_, qs, rfl, hps, S, fun o ho => ?_⟩
    | refine ⟨o, rfl, ?_⟩
    | walk_at "way by form"
    | fail)
    exact kup_of (hk _ (.great o rfl ho))
  · rcases q2 with ⟨_, i, rfl, i1, i2⟩ | ⟨z, _⟩ | ⟨_, z, _⟩
    · repeat' (first
    | exact absurd ‹false = true› (by decide)
    | exact absurd ‹true = false› (by decide)
    | exact absurd ‹_› (by decide +kernel)
    | ((with_reducible refine e_fldX ?_); refine ⟨_, _, _, rfl, TQ, by decide +kernel, _, rfl, ?_⟩)
    | walk_at "way by rule"
    | refine ⟨_, qs, _, rfl, hps, S, ?_⟩
    | walk_at "way by form"
    | fail)
      rw [most_row]
      exact kup_of (hk _ (.most i rfl rfl))
    · exact absurd z (by decide +kernel)
    · exact absurd rfl z
  · rcases q2 with ⟨z, _⟩ | ⟨_, i, rfl, i1, i2⟩ | ⟨_, _, z⟩
    · exact absurd z (by decide +kernel)
    · repeat' (first
    | exact absurd ‹false = true› (by decide)
    | exact absurd ‹true = false› (by decide)
    | exact absurd ‹_› (by decide +kernel)
    | ((with_reducible refine e_fldX ?_); refine ⟨_, _, _, rfl, TQ, by decide +kernel, _, rfl, ?_⟩)
    | walk_at "way by rule"
    | refine ⟨_, qs, _, rfl, hps, S, i1, fun q => ?_, fun q v hv => ?_⟩
    | walk_at "way by form"
    | fail)
      · exact kup_of (hk _ (.few i rfl rfl (by omega)))
      · exact kup_of (hk _ (.rank i v rfl rfl (by omega) hv))
    · exact absurd rfl z
end
end K43
set_option autoImplicit false
set_option linter.all false
/-! plain laws: drawn plain pieces -/
namespace K43
variable [DW.Tb]
theorem mul_bnd {x y B M : Int} (h1 : -B ≤ x) (h2 : x ≤ B) (hB : 0 ≤ B) (y0 : 0 ≤ y) (y1 : y ≤ M) : -(B * M) ≤ x * y ∧ x * y ≤ B * M := by
  have e1 : x * y ≤ B * M := Int.le_trans (Int.mul_le_mul_of_nonneg_right h2 y0) (Int.mul_le_mul_of_nonneg_left y1 hB)
  have e2 : -x * y ≤ B * M := Int.le_trans (Int.mul_le_mul_of_nonneg_right (by omega) y0) (Int.mul_le_mul_of_nonneg_left y1 hB)
  rw [Int.neg_mul] at e2
  omega
theorem pairs_nn {i : Int} (h : 0 ≤ i) : 0 ≤ pairs i := by
  unfold pairs
  refine Int.ediv_nonneg ?_ (by decide)
  by_cases q : i = 0
  · subst q; decide
  · exact Int.mul_nonneg h (by omega)
theorem pairs_mono {i j : Int} (h : 0 ≤ i) (hij : i ≤ j) : pairs i ≤ pairs j := by
  unfold pairs
  refine Int.ediv_le_ediv (by decide) ?_
  by_cases q : i = 0
  · subst q
    by_cases q2 : j = 0
    · subst q2; decide
    · have : 0 ≤ j * (j - 1) := Int.mul_nonneg (by omega) (by omega)
      omega
  · exact Int.le_trans (Int.mul_le_mul_of_nonneg_right hij (by omega)) (Int.mul_le_mul_of_nonneg_left (by omega) (by omega))
theorem num_bnd {per : Bool} {ns : List Int} {B0 B1 B2 M i : Int} (h0 : -B0 ≤ ns.getD 0 0 ∧ ns.getD 0 0 ≤ B0) (h1 : -B1 ≤ ns.getD 1 0 ∧ ns.getD 1 0 ≤ B1) (h2 : -B2 ≤ ns.getD 2 0 ∧ ns.getD 2 0 ≤ B2) (b1 : 0 ≤ B1) (b2 : 0 ≤ B2) (hp : per = true → ∀ j : Nat, -B0 ≤ ns.getD j 0 ∧ ns.getD j 0 ≤ B0) (i0 : 0 ≤ i) (i1 : i ≤ M) :
    -(B0 + B1 * M + B2 * pairs M) ≤ numAt per ns i ∧ numAt per ns i ≤ B0 + B1 * M + B2 * pairs M := by
  have p0 := pairs_nn (i := M) (by omega)
  have n1 : 0 ≤ B1 * M := Int.mul_nonneg b1 (by omega)
  have n2 : 0 ≤ B2 * pairs M := Int.mul_nonneg b2 p0
  cases per with
  | true =>
    unfold numAt
    rw [if_pos rfl]
    have := hp rfl (i % (ns.length : Int)).toNat
    omega
  | false =>
    unfold numAt
    rw [if_neg (by simp)]
    have m1 := mul_bnd h1.1 h1.2 b1 i0 i1
    have m2 := mul_bnd h2.1 h2.2 b2 (pairs_nn i0) (pairs_mono i0 i1)
    omega
/-- a piece of few points, small numbers -/
structure Tiny (p : Pc) : Prop where
  good : Good p
  c30 : p.c ≤ 30
  m : lastM p ≤ 2000
  v : ∀ i, 0 ≤ i → i < p.c → -10000 ≤ numAt p.per p.ns i ∧ numAt p.per p.ns i ≤ 10000
theorem tiny_of {m s c : Int} {per : Bool} {ns : List Int} (m0 : 0 ≤ m) (m1 : m ≤ 1500) (c1 : 1 ≤ c) (c30 : c ≤ 30) (s0 : c = 1 → s = 0) (s1 : 1 < c → 1 ≤ s) (s5 : s ≤ 5) (sn : 0 ≤ s) (n1 : 1 ≤ ns.length) (n2 : (ns.length : Int) ≤ c) (n3 : ns.length ≤ if per = true then 8 else 3) (nz : per = false → ns.length = 1 ∨ ns.getD (ns.length - 1) 0 ≠ 0)
    (nb : ∀ z ∈ ns, -20 ≤ z ∧ z ≤ 20) : Tiny ⟨m, s, c, per, ns⟩ := by
  have hl : m + s * (c - 1) ≤ 2000 := by
    have := (mul_bnd (B := 5) (M := 29) (x := s) (y := c - 1) (by omega) s5 (by decide) (by omega) (by omega)).2
    omega
  have hv : ∀ i, 0 ≤ i → i < c → -10000 ≤ numAt per ns i ∧ numAt per ns i ≤ 10000 := fun i i0 i1 => by
    have g := getD_bnd (B := 20) (by decide) nb
    have b := num_bnd (per := per) (B0 := 20) (B1 := 20) (B2 := 20) (M := 29) (g 0) (g 1) (g 2) (by decide) (by decide) (fun _ => g) i0 (by omega)
    rw [show (20 + 20 * 29 + 20 * pairs 29 : Int) = 8720 by decide] at b
    omega
  have n8 : ns.length ≤ 8 := by split at n3 <;> omega
  exact ⟨⟨c1, by show c ≤ _; omega, s0, s1, m0, by show m + s * (c - 1) ≤ _; omega, ⟨n1, by show ns.length ≤ 1000; omega, fun z hz => by have := nb z hz; omega⟩, n2, n3, nz, fun i i0 i1 => ⟨Int.le_trans (by decide) (hv i i0 i1).1, Int.le_trans (hv i i0 i1).2 (by decide)⟩⟩, c30, hl, hv⟩
structure Plains (ps : List Pc) (m : Nat) (last : Int) : Prop where
  row : Row ps
  tiny : ∀ p ∈ ps, Tiny p
  len : ps.length ≤ m
  lst : ∀ p ∈ ps, lastM p ≤ last
  l0 : -1 ≤ last
  l1 : last ≤ 200 * m
theorem Plains.add {ps : List Pc} {m : Nat} {last : Int} (P : Plains ps m last) (hm : m ≤ 5) {p : Pc} (t : Tiny p) (h : last < p.m) (h2 : p.m ≤ last + 21) (hs : lastM p ≤ p.m + 150) : Plains (ps ++ [p]) (m + 1) (lastM p) := by
  have := P.l0
  have := P.l1
  have ll := P.len
  have lg := last_ge t.good
  refine ⟨Row.append P.row (Row.one t.good) (by simp; omega) fun a ha b hb => ?_, fun q hq => ?_, by simp; omega, fun q hq => ?_, by omega, by omega⟩
  · rw [List.mem_singleton] at hb
    subst hb
    have := P.lst a ha
    omega
  · rcases List.mem_append.mp hq with hq | hq
    · exact P.tiny q hq
    · rw [List.mem_singleton] at hq; subst hq; exact t
  · rcases List.mem_append.mp hq with hq | hq
    · have := P.lst q hq; omega
    · rw [List.mem_singleton] at hq; subst hq; omega
theorem Plains.nil : Plains [] 0 (-1) := ⟨Row.nil, fun p hp => by simp at hp, by simp, fun p hp => by simp at hp, by omega, by omega⟩
theorem Plains.pts {ps : List Pc} {m : Nat} {last : Int} (P : Plains ps m last) {x : Pt} (h : x ∈ ptsR ps) : 0 ≤ x.1 ∧ x.1 ≤ 2000 ∧ -10000 ≤ x.2 ∧ x.2 ≤ 10000 := by
  obtain ⟨p, hp, hx⟩ := List.mem_flatMap.mp h
  have t := P.tiny p hp
  obtain ⟨i, i0, i1, rfl⟩ := pts_mem.mp hx
  have b := pts_bnd t.good hx
  have := t.good.m0
  have := t.m
  have := t.v i i0 i1
  refine ⟨by omega, by omega, this.1, this.2⟩
theorem Plains.size {ps : List Pc} {m : Nat} {last : Int} (P : Plains ps m last) : (ptsR ps).length ≤ 30 * ps.length := by
  have tiny := P.tiny
  clear P
  induction ps with
  | nil => simp [ptsR]
  | cons p ps ih =>
    have := ih fun q hq => tiny q (List.mem_cons_of_mem _ hq)
    have t := tiny p (by simp)
    have := t.c30
    rw [ptsR_cons, List.length_append, pts_len, List.length_cons]
    omega
end K43
set_option Elab.async false
set_option maxRecDepth 100000
set_option maxHeartbeats 4000000
set_option linter.all false
set_option autoImplicit false
/-! plain laws: lines behind one another; parts of a row -/
namespace K43
variable [DW.Tb]
open DW
/-! ### answers of some points, as functions -/
def lowV : List Pt → Option Int
  | [] => none
  | y :: r => some (match lowV r with | none => y.2 | some m => min y.2 m)
def highV : List Pt → Option Int
  | [] => none
  | y :: r => some (match highV r with | none => y.2 | some m => max y.2 m)
def optMin : Option Int → Option Int → Option Int
  | none, b => b
  | a, none => a
  | some a, some b => some (min a b)
def optMax : Option Int → Option Int → Option Int
  | none, b => b
  | a, none => a
  | some a, some b => some (max a b)
theorem lowV_app : ∀ l m : List Pt, lowV (l ++ m) = optMin (lowV l) (lowV m)
  | [], m => by cases h : lowV m <;> simp [lowV, optMin, h]
  | y :: l, m => by
    rw [List.cons_append]
    show some (match lowV (l ++ m) with | none => y.2 | some m => min y.2 m) = optMin (some (match lowV l with | none => y.2 | some m => min y.2 m)) (lowV m)
    rw [lowV_app l m]
    cases lowV l <;> cases lowV m <;> simp [optMin]
    all_goals rw [Int.min_assoc]
theorem highV_app : ∀ l m : List Pt, highV (l ++ m) = optMax (highV l) (highV m)
  | [], m => by cases h : highV m <;> simp [highV, optMax, h]
  | y :: l, m => by
    rw [List.cons_append]
    show some (match highV (l ++ m) with | none => y.2 | some m => max y.2 m) = optMax (some (match highV l with | none => y.2 | some m => max y.2 m)) (highV m)
    rw [highV_app l m]
    cases highV l <;> cases highV m <;> simp [optMax]
    all_goals rw [Int.max_assoc]
theorem lowV_none {l : List Pt} : lowV l = none ↔ l = [] := by cases l <;> simp [lowV]
theorem highV_none {l : List Pt} : highV l = none ↔ l = [] := by cases l <;> simp [highV]
theorem lowV_spec : ∀ {l : List Pt} {m : Int}, lowV l = some m → (∃ y ∈ l, y.2 = m) ∧ ∀ y ∈ l, m ≤ y.2
  | [], m, h => by simp [lowV] at h
  | y :: r, m, h => by
    unfold lowV at h
    cases e : lowV r with
    | none =>
      rw [e] at h
      rw [lowV_none.mp e]
      simp at h
      subst h
      exact ⟨⟨y, by simp, rfl⟩, fun z hz => by simp at hz; subst hz; exact Int.le_refl _⟩
    | some k =>
      rw [e] at h
      simp at h
      obtain ⟨⟨z, hz, ez⟩, hk⟩ := lowV_spec e
      refine ⟨?_, fun x hx => ?_⟩
      · by_cases q : y.2 ≤ k
        · exact ⟨y, by simp, by omega⟩
        · exact ⟨z, by simp [hz], by omega⟩
      · rcases List.mem_cons.mp hx with rfl | hx
        · omega
        · have := hk x hx; omega
theorem highV_spec : ∀ {l : List Pt} {m : Int}, highV l = some m → (∃ y ∈ l, y.2 = m) ∧ ∀ y ∈ l, y.2 ≤ m
  | [], m, h => by simp [highV] at h
  | y :: r, m, h => by
    unfold highV at h
    cases e : highV r with
    | none =>
      rw [e] at h
      rw [highV_none.mp e]
      simp at h
      subst h
      exact ⟨⟨y, by simp, rfl⟩, fun z hz => by simp at hz; subst hz; exact Int.le_refl _⟩
    | some k =>
      rw [e] at h
      simp at h
      obtain ⟨⟨z, hz, ez⟩, hk⟩ := highV_spec e
      refine ⟨?_, fun x hx => ?_⟩
      · by_cases q : k ≤ y.2
        · exact ⟨y, by simp, by omega⟩
        · exact ⟨z, by simp [hz], by omega⟩
      · rcases List.mem_cons.mp hx with rfl | hx
        · omega
        · have := hk x hx; omega
theorem low_val {l : List Pt} {o : Option (Int × Int)} (h : LowO l o) : o.map (·.1) = lowV l := by
  cases o with
  | none => have h : l = [] := h; subst h; rfl
  | some r =>
    have h : LowOf l r := h
    cases e : lowV l with
    | none => rw [lowV_none.mp e] at h; have := h.1; simp at this
    | some m =>
      obtain ⟨⟨y, hy, ey⟩, hm⟩ := lowV_spec e
      have a := (h.2 y hy).1
      have b := hm _ h.1
      have b : m ≤ r.1 := b
      show some r.1 = some m
      congr 1
      omega
theorem high_val {l : List Pt} {o : Option (Int × Int)} (h : HighO l o) : o.map (·.1) = highV l := by
  cases o with
  | none => have h : l = [] := h; subst h; rfl
  | some r =>
    have h : HighOf l r := h
    cases e : highV l with
    | none => rw [highV_none.mp e] at h; have := h.1; simp at this
    | some m =>
      obtain ⟨⟨y, hy, ey⟩, hm⟩ := highV_spec e
      have a := (h.2 y hy).1
      have b := hm _ h.1
      have b : r.1 ≤ m := b
      show some r.1 = some m
      congr 1
      omega
/-! ### a line -/
def lineP (m s c a b : Int) : Pc := ⟨m, s, c, false, if 0 < b then [a, b] else [a]⟩
theorem line_num {a b i : Int} (hb : 0 ≤ b) : numAt false (if 0 < b then [a, b] else [a]) i = a + b * i := by
  unfold numAt
  rw [if_neg (by decide)]
  by_cases q : 0 < b
  · rw [if_pos q]
    show a + b * i + 0 * pairs i = _
    omega
  · rw [if_neg q]
    have : b = 0 := by omega
    subst this
    show a + 0 * i + 0 * pairs i = _
    omega
theorem line_good {m s c a b : Int} (m0 : 0 ≤ m) (s1 : 1 ≤ s) (c2 : 2 ≤ c) (cM : c ≤ 2 ^ 34) (hl : m + s * (c - 1) ≤ 2 ^ 40 - 1) (a0 : -1000 ≤ a) (a1 : a ≤ 10 ^ 9) (b0 : 0 ≤ b) (b1 : b ≤ 30) : Good (lineP m s c a b) := by
  have hlen : (lineP m s c a b).ns.length = if 0 < b then 2 else 1 := by
    show List.length (if 0 < b then [a, b] else [a]) = _
    split <;> rfl
  refine ⟨by show 1 ≤ c; omega, by show c ≤ 2 ^ 41; omega, fun h => by have h : c = 1 := h; omega, fun _ => s1, m0, hl, ⟨?_, ?_, fun z hz => ?_⟩, ?_, ?_, fun _ => ?_, fun i i0 i1 => ?_⟩
  · rw [hlen]; split <;> omega
  · rw [hlen]; split <;> omega
  · have hz : z ∈ (if 0 < b then [a, b] else [a]) := hz
    split at hz <;> simp at hz <;> omega
  · rw [hlen]; show _ ≤ c; split <;> omega
  · rw [hlen]; show _ ≤ 3; split <;> omega
  · by_cases q : 0 < b
    · right
      show (if 0 < b then [a, b] else [a]).getD (List.length (if 0 < b then [a, b] else [a]) - 1) 0 ≠ 0
      rw [if_pos q]
      show b ≠ 0
      omega
    · left
      rw [hlen, if_neg q]
  · have i1 : i < c := i1
    show -(2 ^ 40) ≤ numAt false (if 0 < b then [a, b] else [a]) i ∧ numAt false (if 0 < b then [a, b] else [a]) i ≤ 2 ^ 40
    rw [line_num b0]
    have h1 : 0 ≤ b * i := Int.mul_nonneg b0 i0
    have h2 : b * i ≤ 30 * 2 ^ 34 := Int.mul_le_mul (by omega) (by omega) i0 (by omega)
    omega
/-- the values of a line -/
def lineV (a b : Int) (n : Nat) : List Int := (List.range n).map fun i => a + b * (i : Nat)
theorem lineV_sum (a b : Int) : ∀ n : Nat, (lineV a b n).sum = a * n + b * pairs n
  | 0 => by unfold lineV pairs; simp
  | n + 1 => by
    have ih := lineV_sum a b n
    unfold lineV at ih ⊢
    rw [List.range_succ, List.map_append, List.sum_append, ih, pairs_succ, Int.natCast_succ, Int.mul_add, Int.mul_add]
    simp only [List.map_cons, List.map_nil, List.sum_cons, List.sum_nil]
    omega
theorem lineV_sum2 {a b c : Int} (c0 : 0 ≤ c) : (lineV a b c.toNat).sum = c * (2 * a + b * (c - 1)) / 2 := by
  obtain ⟨n, rfl⟩ := Int.eq_ofNat_of_zero_le c0
  have h := whole_eq a b 0 (n : Int)
  rw [show ((n : Int)).toNat = n by omega, lineV_sum]
  omega
/-- how many of them are at most a bound, as the law says -/
def lineMost (a b c x : Int) : Int := if b = 0 then (if a ≤ x then c else 0) else max 0 (min c ((x - a) / b + 1))
theorem lineV_most {a b x : Int} (b0 : 0 ≤ b) : ∀ n : Nat, ((lineV a b n).countP fun v => decide (v ≤ x) : Nat) = lineMost a b n x
  | 0 => by
    unfold lineMost
    show (0 : Int) = _
    split
    · split <;> rfl
    · omega
  | n + 1 => by
    have ih := lineV_most (a := a) (x := x) b0 n
    unfold lineV at ih ⊢
    rw [List.range_succ, List.map_append, List.countP_append, List.map_cons, List.map_nil, List.countP_singleton]
    unfold lineMost at ih ⊢
    by_cases q : b = 0
    · subst q
      rw [if_pos rfl] at ih ⊢
      rw [Int.zero_mul, Int.add_zero]
      by_cases z : a ≤ x
      · rw [if_pos z] at ih ⊢
        simp only [z, decide_true, if_true]
        omega
      · rw [if_neg z] at ih ⊢
        simp only [z, decide_false, Bool.false_eq_true, if_false]
        omega
    · rw [if_neg q] at ih ⊢
      have bp : 0 < b := by omega
      have key : a + b * (n : Int) ≤ x ↔ (n : Int) ≤ (x - a) / b := by
        rw [Int.le_ediv_iff_mul_le bp, Int.mul_comm]
        omega
      by_cases z : a + b * (n : Int) ≤ x
      · have := key.mp z
        simp only [z, decide_true, if_true]
        omega
      · have : ¬ (n : Int) ≤ (x - a) / b := fun h => z (key.mpr h)
        simp only [z, decide_false, Bool.false_eq_true, if_false]
        omega
theorem lineV_mem {a b v : Int} {n : Nat} : v ∈ lineV a b n ↔ ∃ i : Nat, i < n ∧ v = a + b * (i : Nat) := by
  unfold lineV
  rw [List.mem_map]
  exact ⟨fun ⟨i, hi, e⟩ => ⟨i, List.mem_range.mp hi, e.symm⟩, fun ⟨i, hi, e⟩ => ⟨i, List.mem_range.mpr hi, e.symm⟩⟩
theorem line_drop {m s c a b : Int} (b0 : 0 ≤ b) {k : Int} (k0 : 0 ≤ k) (k1 : k ≤ c) : ((pts (lineP m s c a b)).drop k.toNat).map (·.2) = lineV (a + b * k) b (c - k).toNat := by
  unfold pts lineV
  rw [← List.map_drop, range_drop, List.map_map, List.map_map]
  have e : (lineP m s c a b).c.toNat - k.toNat = (c - k).toNat := by show c.toNat - k.toNat = _; omega
  rw [e]
  apply List.map_congr_left
  intro i _
  show numAt false (if 0 < b then [a, b] else [a]) ((k.toNat + i : Nat) : Int) = _
  rw [line_num b0, show ((k.toNat + i : Nat) : Int) = k + i by omega, Int.mul_add]
  omega
theorem line_take {m s c a b : Int} (b0 : 0 ≤ b) {k : Int} (k0 : 0 ≤ k) (k1 : k ≤ c) : ((pts (lineP m s c a b)).take k.toNat).map (·.2) = lineV a b k.toNat := by
  unfold pts lineV
  rw [← List.map_take, range_take _ _ (by show k.toNat ≤ c.toNat; omega), List.map_map]
  apply List.map_congr_left
  intro i _
  show numAt false (if 0 < b then [a, b] else [a]) (i : Int) = _
  rw [line_num b0]
/-- two lines behind one another, cut -/
structure Two (c d a b f g st sp : Int) : Prop where
  c2 : 2 ≤ c
  c3 : c ≤ 2 ^ 33
  d2 : 2 ≤ d
  d3 : d ≤ 2 ^ 33
  a0 : -1000 ≤ a
  a1 : a ≤ 10 ^ 9
  b0 : 0 ≤ b
  b1 : b ≤ 30
  f0 : -1000 ≤ f
  f1 : f ≤ 10 ^ 9
  g0 : 0 ≤ g
  g1 : g ≤ 30
  s0 : 0 ≤ st
  s1 : st < c
  p0 : c ≤ sp
  p1 : sp < c + 2 * d
theorem Two.row {c d a b f g st sp : Int} (T : Two c d a b f g st sp) : Row [lineP 0 1 c a b, lineP c 2 d f g] := by
  obtain ⟨c2, c3, d2, d3, a0, a1, b0, b1, f0, f1, g0, g1, s0, s1, p0, p1⟩ := T
  refine Row.cons (line_good (by omega) (by omega) c2 (by omega) (by omega) a0 a1 b0 b1) (Row.one (line_good (by omega) (by omega) d2 (by omega) (by omega) f0 f1 g0 g1)) (by simp) fun q hq => ?_
  have hq : q = lineP c 2 d f g := by simpa using hq.symm
  subst hq
  show 0 + 1 * (c - 1) < c
  omega
def twoV (c d a b f g st sp : Int) : List Int := lineV (a + b * st) b (c - st).toNat ++ lineV f g ((sp - c + 1) / 2).toNat
theorem Two.cut {c d a b f g st sp : Int} (T : Two c d a b f g st sp) : ((ptsR [lineP 0 1 c a b, lineP c 2 d f g]).filter (askB st sp none)).map (·.2) = twoV c d a b f g st sp := by
  have R := T.row
  obtain ⟨c2, c3, d2, d3, a0, a1, b0, b1, f0, f1, g0, g1, s0, s1, p0, p1⟩ := T
  have e : askB st sp none = btw st sp := by funext y; show (btw st sp y && true) = _; rw [Bool.and_true]
  have G1 := R.good (lineP 0 1 c a b) (by simp)
  have G2 := R.good (lineP c 2 d f g) (by simp)
  have B1 : belowN (lineP 0 1 c a b) st = st := by
    unfold belowN
    show (if st ≤ 0 then 0 else if c = 1 then 1 else min c ((st - 0 - 1) / 1 + 1)) = st
    rw [Int.ediv_one]
    split
    · omega
    · rw [if_neg (by omega)]; omega
  have B2 : belowN (lineP 0 1 c a b) sp = c := by
    unfold belowN
    show (if sp ≤ 0 then 0 else if c = 1 then 1 else min c ((sp - 0 - 1) / 1 + 1)) = c
    rw [Int.ediv_one, if_neg (by omega), if_neg (by omega)]
    omega
  have B3 : belowN (lineP c 2 d f g) st = 0 := by
    unfold belowN
    show (if st ≤ c then 0 else _) = 0
    rw [if_pos (by omega)]
  have B4 : belowN (lineP c 2 d f g) sp = (sp - c + 1) / 2 := by
    unfold belowN
    show (if sp ≤ c then 0 else if d = 1 then 1 else min d ((sp - c - 1) / 2 + 1)) = _
    split
    · omega
    · rw [if_neg (by omega)]; omega
  have P1 := pts_between G1 st sp
  have P2 := pts_between G2 st sp
  rw [B1, B2] at P1
  rw [B3, B4, Int.sub_zero] at P2
  rw [e, ptsR_cons, List.filter_append, ptsR_cons, List.filter_append]
  have P1' : (pts (lineP 0 1 c a b)).filter (btw st sp) = ((pts (lineP 0 1 c a b)).drop st.toNat).take (c - st).toNat := P1
  have P2' : (pts (lineP c 2 d f g)).filter (btw st sp) = ((pts (lineP c 2 d f g)).drop (0 : Int).toNat).take ((sp - c + 1) / 2).toNat := P2
  rw [P1', P2', show ptsR ([] : List Pc) = [] from rfl, List.filter_nil, List.append_nil, show (0 : Int).toNat = 0 from rfl, List.drop_zero]
  have full : ((pts (lineP 0 1 c a b)).drop st.toNat).take (c - st).toNat = (pts (lineP 0 1 c a b)).drop st.toNat := List.take_of_length_le (by rw [List.length_drop, pts_len]; show c.toNat - st.toNat ≤ _; omega)
  rw [full, List.map_append, line_drop b0 s0 (by omega), line_take g0 (by omega) (by omega)]
  rfl
theorem map_atMost (l : List Pt) (x : Int) : atMost l x = ((l.map (·.2)).countP fun v => decide (v ≤ x) : Nat) := by
  unfold atMost
  rw [List.countP_map]
  rfl
theorem twoV_most {c d a b f g st sp : Int} (T : Two c d a b f g st sp) {x : Int} : ((twoV c d a b f g st sp).countP fun v => decide (v ≤ x) : Nat) = lineMost (a + b * st) b (c - st) x + lineMost f g ((sp - c + 1) / 2) x := by
  unfold twoV
  have h1 := lineV_most (a := a + b * st) (b := b) (x := x) T.b0 (c - st).toNat
  have h2 := lineV_most (a := f) (b := g) (x := x) T.g0 ((sp - c + 1) / 2).toNat
  have s1 := T.s1
  have p0 := T.p0
  rw [List.countP_append, Int.natCast_add, h1, h2, show (((c - st).toNat : Nat) : Int) = c - st by omega, show ((((sp - c + 1) / 2).toNat : Nat) : Int) = (sp - c + 1) / 2 by omega]
theorem twoV_len {c d a b f g st sp : Int} (T : Two c d a b f g st sp) : ((twoV c d a b f g st sp).length : Int) = (c - st) + (sp - c + 1) / 2 := by
  have s1 := T.s1
  have p0 := T.p0
  unfold twoV lineV
  simp
  omega
theorem twoV_sum {c d a b f g st sp : Int} (T : Two c d a b f g st sp) : (twoV c d a b f g st sp).sum = (c - st) * (2 * (a + b * st) + b * (c - st - 1)) / 2 + (sp - c + 1) / 2 * (2 * f + g * ((sp - c + 1) / 2 - 1)) / 2 := by
  have s1 := T.s1
  have p0 := T.p0
  unfold twoV
  rw [List.sum_append, lineV_sum2 (by omega), lineV_sum2 (by omega)]
/-- the ends of two lines -/
def lowsL (a b f st e : Int) : List Int := [a + b * st] ++ if 0 < e then [f] else []
def highsL (a b c f g e : Int) : List Int := [a + b * (c - 1)] ++ if 0 < e then [f + g * (e - 1)] else []
theorem Two.low {c d a b f g st sp m : Int} (T : Two c d a b f g st sp) (h1 : m ∈ lowsL a b f st ((sp - c + 1) / 2)) (h2 : ∀ y ∈ lowsL a b f st ((sp - c + 1) / 2), m ≤ y) : lowV ((ptsR [lineP 0 1 c a b, lineP c 2 d f g]).filter (askB st sp none)) = some m := by
  have C := T.cut
  generalize (ptsR [lineP 0 1 c a b, lineP c 2 d f g]).filter (askB st sp none) = l at C
  have s1 := T.s1
  have p0 := T.p0
  have mem : ∀ v, v ∈ twoV c d a b f g st sp ↔ ∃ y ∈ l, y.2 = v := fun v => by rw [← C, List.mem_map]
  have m1 : m ∈ twoV c d a b f g st sp := by
    unfold twoV
    unfold lowsL at h1
    rcases List.mem_append.mp h1 with h | h
    · rw [List.mem_singleton] at h
      exact List.mem_append_left _ (lineV_mem.mpr ⟨0, by omega, by subst h; simp⟩)
    · split at h
      · rw [List.mem_singleton] at h
        exact List.mem_append_right _ (lineV_mem.mpr ⟨0, by omega, by subst h; simp⟩)
      · simp at h
  have m2 : ∀ v ∈ twoV c d a b f g st sp, m ≤ v := fun v hv => by
    unfold twoV at hv
    unfold lowsL at h2
    rcases List.mem_append.mp hv with h | h
    · obtain ⟨i, hi, rfl⟩ := lineV_mem.mp h
      have := h2 (a + b * st) (by simp)
      have : 0 ≤ b * (i : Int) := Int.mul_nonneg T.b0 (by omega)
      omega
    · obtain ⟨i, hi, rfl⟩ := lineV_mem.mp h
      have := h2 f (List.mem_append_right _ (by rw [if_pos (by omega)]; simp))
      have : 0 ≤ g * (i : Int) := Int.mul_nonneg T.g0 (by omega)
      omega
  cases e : lowV l with
  | none =>
    obtain ⟨y, hy, _⟩ := (mem m).mp m1
    rw [lowV_none.mp e] at hy; cases hy
  | some k =>
    obtain ⟨⟨y, hy, ey⟩, hk⟩ := lowV_spec e
    have a1 := m2 k ((mem k).mpr ⟨y, hy, ey⟩)
    obtain ⟨z, hz, ez⟩ := (mem m).mp m1
    have a2 := hk z hz
    congr 1
    omega
theorem Two.high {c d a b f g st sp m : Int} (T : Two c d a b f g st sp) (h1 : m ∈ highsL a b c f g ((sp - c + 1) / 2)) (h2 : ∀ y ∈ highsL a b c f g ((sp - c + 1) / 2), y ≤ m) : highV ((ptsR [lineP 0 1 c a b, lineP c 2 d f g]).filter (askB st sp none)) = some m := by
  have C := T.cut
  generalize (ptsR [lineP 0 1 c a b, lineP c 2 d f g]).filter (askB st sp none) = l at C
  have s0 := T.s0
  have s1 := T.s1
  have p0 := T.p0
  have mem : ∀ v, v ∈ twoV c d a b f g st sp ↔ ∃ y ∈ l, y.2 = v := fun v => by rw [← C, List.mem_map]
  have m1 : m ∈ twoV c d a b f g st sp := by
    unfold twoV
    unfold highsL at h1
    rcases List.mem_append.mp h1 with h | h
    · rw [List.mem_singleton] at h
      refine List.mem_append_left _ (lineV_mem.mpr ⟨(c - st - 1).toNat, by omega, ?_⟩)
      have e1 : b * (c - 1 - st) = b * (c - 1) - b * st := Int.mul_sub ..
      rw [h, show (((c - st - 1).toNat : Nat) : Int) = c - 1 - st by omega, e1]
      omega
    · split at h
      · rw [List.mem_singleton] at h
        refine List.mem_append_right _ (lineV_mem.mpr ⟨((sp - c + 1) / 2 - 1).toNat, by omega, ?_⟩)
        rw [h, show ((((sp - c + 1) / 2 - 1).toNat : Nat) : Int) = (sp - c + 1) / 2 - 1 by omega]
      · simp at h
  have m2 : ∀ v ∈ twoV c d a b f g st sp, v ≤ m := fun v hv => by
    unfold twoV at hv
    unfold highsL at h2
    rcases List.mem_append.mp hv with h | h
    · obtain ⟨i, hi, rfl⟩ := lineV_mem.mp h
      have := h2 (a + b * (c - 1)) (by simp)
      have e1 : b * (i : Int) ≤ b * (c - 1 - st) := Int.mul_le_mul_of_nonneg_left (by omega) T.b0
      rw [Int.mul_sub] at e1
      omega
    · obtain ⟨i, hi, rfl⟩ := lineV_mem.mp h
      have := h2 (f + g * ((sp - c + 1) / 2 - 1)) (List.mem_append_right _ (by rw [if_pos (by omega)]; simp))
      have e1 : g * (i : Int) ≤ g * ((sp - c + 1) / 2 - 1) := Int.mul_le_mul_of_nonneg_left (by omega) T.g0
      omega
  cases e : highV l with
  | none =>
    obtain ⟨y, hy, _⟩ := (mem m).mp m1
    rw [highV_none.mp e] at hy; cases hy
  | some k =>
    obtain ⟨⟨y, hy, ey⟩, hk⟩ := highV_spec e
    have a1 := m2 k ((mem k).mpr ⟨y, hy, ey⟩)
    obtain ⟨z, hz, ez⟩ := (mem m).mp m1
    have a2 := hk z hz
    congr 1
    omega
end K43
set_option Elab.async false
set_option maxRecDepth 100000
set_option maxHeartbeats 4000000
set_option linter.all false
set_option autoImplicit false
/-! plain laws: what answers are, as functions; parts of a row -/
namespace K43
variable [DW.Tb]
open DW
theorem ans_count {num a : D} {l : List Pt} (h : AnsOf "count" num l a) : a = .int (l.length : Nat) := by
  cases h with
  | count => rfl
  | sum e | least _ e | great _ e | most _ e | few _ e | rank _ _ e => exact absurd e (by decide +kernel)
theorem ans_sum {num a : D} {l : List Pt} (h : AnsOf "sum" num l a) : a = .int (l.map (·.2)).sum := by
  cases h with
  | sum => rfl
  | count e | least _ e | great _ e | most _ e | few _ e | rank _ _ e => exact absurd e (by decide +kernel)
theorem ans_least {num a : D} {l : List Pt} (h : AnsOf "least" num l a) : a = oD (lowV l) := by
  cases h with
  | least o _ ho => rw [low_val ho]
  | count e | sum e | great _ e | most _ e | few _ e | rank _ _ e => exact absurd e (by decide +kernel)
theorem ans_great {num a : D} {l : List Pt} (h : AnsOf "greatest" num l a) : a = oD (highV l) := by
  cases h with
  | great o _ ho => rw [high_val ho]
  | count e | sum e | least _ e | most _ e | few _ e | rank _ _ e => exact absurd e (by decide +kernel)
theorem ans_most {x : Int} {a : D} {l : List Pt} (h : AnsOf "most" (.int x) l a) : a = .int (atMost l x) := by
  cases h with
  | most y _ e => cases e; rfl
  | count e | sum e | least _ e | great _ e | few _ e | rank _ _ e => exact absurd e (by decide +kernel)
theorem ans_rank {r : Int} {a : D} {l : List Pt} (h : AnsOf "rank" (.int r) l a) (hr : r ≤ l.length) : ∃ v, a = .int v ∧ RankOf l r v := by
  cases h with
  | few y _ e q => cases e; omega
  | rank y v _ e _ q => cases e; exact ⟨v, rfl, q⟩
  | count e | sum e | least _ e | great _ e | most _ e => exact absurd e (by decide +kernel)
theorem ans_few {r : Int} {a : D} {l : List Pt} (h : AnsOf "rank" (.int r) l a) (hr : l.length < r) : a = .non := by
  cases h with
  | few => rfl
  | rank y v _ e q => cases e; omega
  | count e | sum e | least _ e | great _ e | most _ e => exact absurd e (by decide +kernel)
/-- an answer that adds -/
structure Addi (kind : PySem.Str) (num : D) (f : List Pt → Int) : Prop where
  det : ∀ l a, AnsOf kind num l a → a = .int (f l)
  app : ∀ l m, f (l ++ m) = f l + f m
theorem addi_count : Addi "count" .non fun l => (l.length : Nat) := ⟨fun l a h => ans_count h, fun l m => by rw [List.length_append]; omega⟩
theorem addi_sum : Addi "sum" .non fun l => (l.map (·.2)).sum := ⟨fun l a h => ans_sum h, fun l m => by rw [List.map_append, List.sum_append]⟩
theorem addi_most (x : Int) : Addi "most" (.int x) fun l => atMost l x := ⟨fun l a h => ans_most h, fun l m => by unfold atMost; rw [List.countP_append]; omega⟩
/-! ### the two pieces -/
def perP (ns : List Int) : Pc := ⟨5, 3, 2 ^ 30, true, ns⟩
def curP (a b : Int) : Pc := ⟨2 ^ 35, 7, 10 ^ 6, false, [a, b, 1]⟩
structure Parts (ns : List Int) (a b : Int) : Prop where
  n1 : 1 ≤ ns.length
  n2 : ns.length ≤ 8
  nb : ∀ z ∈ ns, -49 ≤ z ∧ z ≤ 49
  a0 : 0 ≤ a
  a1 : a ≤ 99
  b0 : 1 ≤ b
  b1 : b ≤ 99
theorem Parts.per {ns : List Int} {a b : Int} (P : Parts ns a b) : Good (perP ns) := by
  obtain ⟨n1, n2, nb, _, _, _, _⟩ := P
  refine ⟨by show (1 : Int) ≤ 2 ^ 30; decide, by show (2 : Int) ^ 30 ≤ 2 ^ 41; decide, fun h => absurd h (by show ¬ (2 : Int) ^ 30 = 1; decide), fun _ => by show (1 : Int) ≤ 3; decide, by show (0 : Int) ≤ 5; decide, by show (5 : Int) + 3 * (2 ^ 30 - 1) ≤ 2 ^ 40 - 1; decide, ⟨n1, by show ns.length ≤ 1000; omega, fun z hz => ?_⟩, by show (ns.length : Int) ≤ 2 ^ 30; omega, n2, fun h => (nomatch (h : true = false)), fun i i0 i1 => ?_⟩
  · have := nb z hz; omega
  · show -(2 ^ 40) ≤ numAt true ns i ∧ numAt true ns i ≤ 2 ^ 40
    unfold numAt
    rw [if_pos rfl]
    have h1 := Int.emod_nonneg i (show (ns.length : Int) ≠ 0 by omega)
    have h2 := Int.emod_lt_of_pos i (show (0 : Int) < ns.length by omega)
    have h3 : (i % (ns.length : Int)).toNat < ns.length := by omega
    rw [List.getD_eq_getElem?_getD, List.getElem?_eq_getElem h3, Option.getD_some]
    have := nb _ (List.getElem_mem h3)
    omega
theorem pairs_bnd {i : Int} (i0 : 0 ≤ i) (i1 : i < 10 ^ 6) : 0 ≤ pairs i ∧ pairs i ≤ 10 ^ 12 / 2 := by
  unfold pairs
  have h1 : 0 ≤ i * (i - 1) := by
    by_cases q : i = 0
    · subst q; decide
    · exact Int.mul_nonneg i0 (by omega)
  have h2 : i * (i - 1) ≤ 10 ^ 6 * 10 ^ 6 := by
    by_cases q : i = 0
    · subst q; decide
    · exact Int.mul_le_mul (by omega) (by omega) (by omega) (by decide)
  omega
theorem Parts.cur {ns : List Int} {a b : Int} (P : Parts ns a b) : Good (curP a b) := by
  obtain ⟨_, _, _, a0, a1, b0, b1⟩ := P
  refine ⟨by show (1 : Int) ≤ 10 ^ 6; decide, by show (10 : Int) ^ 6 ≤ 2 ^ 41; decide, fun h => absurd h (by show ¬ (10 : Int) ^ 6 = 1; decide), fun _ => by show (1 : Int) ≤ 7; decide, by show (0 : Int) ≤ 2 ^ 35; decide, by show (2 : Int) ^ 35 + 7 * (10 ^ 6 - 1) ≤ 2 ^ 40 - 1; decide, ⟨by show 1 ≤ 3; decide, by show 3 ≤ 1000; decide, fun z hz => ?_⟩, by show ((3 : Nat) : Int) ≤ 10 ^ 6; decide, by show 3 ≤ 3; decide, fun _ => .inr (by show (1 : Int) ≠ 0; decide), fun i i0 i1 => ?_⟩
  · have hz : z ∈ [a, b, 1] := hz
    simp at hz
    omega
  · have i1 : i < 10 ^ 6 := i1
    show -(2 ^ 40) ≤ numAt false [a, b, 1] i ∧ numAt false [a, b, 1] i ≤ 2 ^ 40
    have e : numAt false [a, b, 1] i = a + b * i + 1 * pairs i := by unfold numAt; rw [if_neg (by decide)]; rfl
    rw [e]
    obtain ⟨p0, p1⟩ := pairs_bnd i0 i1
    have h1 : 0 ≤ b * i := Int.mul_nonneg (by omega) i0
    have h2 : b * i ≤ 99 * 10 ^ 6 := Int.mul_le_mul (by omega) (by omega) i0 (by omega)
    omega
def rowP (ns : List Int) (a b : Int) : List Pc := [perP ns, curP a b]
theorem Parts.row {ns : List Int} {a b : Int} (P : Parts ns a b) : Row (rowP ns a b) := by
  refine Row.cons P.per (Row.one P.cur) (by simp) fun q hq => ?_
  have hq : q = curP a b := by simpa using hq.symm
  subst hq
  show (5 : Int) + 3 * (2 ^ 30 - 1) < 2 ^ 35
  decide
/-- the points of a part -/
def partF (ps : List Pc) (st sp : Int) : List Pt := (ptsR ps).filter (askB st sp none)
theorem part_btw (ps : List Pc) (st sp : Int) : partF ps st sp = (ptsR ps).filter (btw st sp) := by
  unfold partF
  exact List.filter_congr fun y _ => by show (btw st sp y && true) = _; rw [Bool.and_true]
theorem part_add {ps : List Pc} (R : Row ps) {a b c : Int} (ab : a ≤ b) (bc : b ≤ c) : partF ps a c = partF ps a b ++ partF ps b c := by
  rw [part_btw, part_btw, part_btw, filter_split (row_sorted R) a b c ab bc]
theorem part_four {ps : List Pc} (R : Row ps) {e1 e2 e3 : Int} (h0 : 0 ≤ e1) (h1 : e1 ≤ e2) (h2 : e2 ≤ e3) (h3 : e3 ≤ 2 ^ 40) :
    partF ps 0 (2 ^ 40) = partF ps 0 e1 ++ (partF ps e1 e2 ++ (partF ps e2 e3 ++ partF ps e3 (2 ^ 40))) := by
  rw [part_add R h0 (show e1 ≤ 2 ^ 40 by omega), part_add R h1 (show e2 ≤ 2 ^ 40 by omega), part_add R h2 h3]
def cutsL (e1 e2 e3 : Int) : List (Int × Int) := [(0, e1), (e1, e2), (e2, e3), (e3, 2 ^ 40)]
theorem addi_four {kind : PySem.Str} {num : D} {f : List Pt → Int} (A : Addi kind num f) {ps : List Pc} (R : Row ps) {e1 e2 e3 : Int} (h0 : 0 ≤ e1) (h1 : e1 ≤ e2) (h2 : e2 ≤ e3) (h3 : e3 ≤ 2 ^ 40) :
    ((cutsL e1 e2 e3).map fun p => f (partF ps p.1 p.2)).sum = f (partF ps 0 (2 ^ 40)) := by
  rw [part_four R h0 h1 h2 h3, A.app, A.app, A.app]
  unfold cutsL
  simp only [List.map_cons, List.map_nil, List.sum_cons, List.sum_nil]
  omega
theorem whole_part {ps : List Pc} (R : Row ps) : partF ps 0 (2 ^ 40) = ptsR ps := by
  rw [part_btw]
  refine List.filter_eq_self.mpr fun y hy => ?_
  have := row_pts_bnd R hy
  unfold btw
  rw [Bool.and_eq_true]
  exact ⟨decide_eq_true (by omega), decide_eq_true (by omega)⟩
/-- the least of those that are there -/
theorem optMin_none {a b : Option Int} : optMin a b = none ↔ a = none ∧ b = none := by cases a <;> cases b <;> simp [optMin]
theorem optMin_spec : ∀ {os : List (Option Int)} {m : Int}, m ∈ os.filterMap id → (∀ y ∈ os.filterMap id, m ≤ y) → os.foldr optMin none = some m
  | [], m, h, _ => by simp at h
  | none :: os, m, h1, h2 => by
    have : os.foldr optMin none = some m := optMin_spec (by simpa using h1) (by simpa using h2)
    rw [List.foldr_cons, this]; rfl
  | some x :: os, m, h1, h2 => by
    rw [List.foldr_cons]
    have e : (some x :: os).filterMap id = x :: os.filterMap id := rfl
    rw [e] at h1 h2
    cases q : os.filterMap id with
    | nil =>
      rw [q] at h1 h2
      have hm : m = x := by simpa using h1
      subst hm
      have : os.foldr optMin none = none := by
        clear h1 h2 e
        induction os with
        | nil => rfl
        | cons o os ih =>
          cases o with
          | none => rw [List.foldr_cons, ih (by simpa using q)]; rfl
          | some z => simp at q
      rw [this]; rfl
    | cons y r =>
      obtain ⟨k, hk, hk2⟩ : ∃ k, k ∈ os.filterMap id ∧ ∀ z ∈ os.filterMap id, k ≤ z := by
        rw [q]
        clear h1 h2 e q
        induction r generalizing y with
        | nil => exact ⟨y, by simp, fun z hz => by simp at hz; omega⟩
        | cons u r ih =>
          obtain ⟨k, hk, hk2⟩ := ih u
          by_cases z : y ≤ k
          · exact ⟨y, by simp, fun z hz => by
              rcases List.mem_cons.mp hz with rfl | hz
              · exact Int.le_refl _
              · have := hk2 z hz; omega⟩
          · exact ⟨k, List.mem_cons_of_mem _ hk, fun z hz => by
              rcases List.mem_cons.mp hz with rfl | hz
              · omega
              · exact hk2 z hz⟩
      rw [optMin_spec hk hk2]
      show some (min x k) = some m
      congr 1
      have a1 := h2 x (by simp)
      have a2 := h2 k (List.mem_cons_of_mem _ hk)
      rcases List.mem_cons.mp h1 with rfl | h
      · omega
      · have := hk2 m h; omega
theorem optMax_spec : ∀ {os : List (Option Int)} {m : Int}, m ∈ os.filterMap id → (∀ y ∈ os.filterMap id, y ≤ m) → os.foldr optMax none = some m
  | [], m, h, _ => by simp at h
  | none :: os, m, h1, h2 => by
    have : os.foldr optMax none = some m := optMax_spec (by simpa using h1) (by simpa using h2)
    rw [List.foldr_cons, this]; rfl
  | some x :: os, m, h1, h2 => by
    rw [List.foldr_cons]
    have e : (some x :: os).filterMap id = x :: os.filterMap id := rfl
    rw [e] at h1 h2
    cases q : os.filterMap id with
    | nil =>
      rw [q] at h1 h2
      have hm : m = x := by simpa using h1
      subst hm
      have : os.foldr optMax none = none := by
        clear h1 h2 e
        induction os with
        | nil => rfl
        | cons o os ih =>
          cases o with
          | none => rw [List.foldr_cons, ih (by simpa using q)]; rfl
          | some z => simp at q
      rw [this]; rfl
    | cons y r =>
      obtain ⟨k, hk, hk2⟩ : ∃ k, k ∈ os.filterMap id ∧ ∀ z ∈ os.filterMap id, z ≤ k := by
        rw [q]
        clear h1 h2 e q
        induction r generalizing y with
        | nil => exact ⟨y, by simp, fun z hz => by simp at hz; omega⟩
        | cons u r ih =>
          obtain ⟨k, hk, hk2⟩ := ih u
          by_cases z : k ≤ y
          · exact ⟨y, by simp, fun z hz => by
              rcases List.mem_cons.mp hz with rfl | hz
              · exact Int.le_refl _
              · have := hk2 z hz; omega⟩
          · exact ⟨k, List.mem_cons_of_mem _ hk, fun z hz => by
              rcases List.mem_cons.mp hz with rfl | hz
              · omega
              · exact hk2 z hz⟩
      rw [optMax_spec hk hk2]
      show some (max x k) = some m
      congr 1
      have a1 := h2 x (by simp)
      have a2 := h2 k (List.mem_cons_of_mem _ hk)
      rcases List.mem_cons.mp h1 with rfl | h
      · omega
      · have := hk2 m h; omega
def lowsP (ps : List Pc) (e1 e2 e3 : Int) : List (Option Int) := (cutsL e1 e2 e3).map fun p => lowV (partF ps p.1 p.2)
def highsP (ps : List Pc) (e1 e2 e3 : Int) : List (Option Int) := (cutsL e1 e2 e3).map fun p => highV (partF ps p.1 p.2)
theorem optMin_non (a : Option Int) : optMin a none = a := by cases a <;> rfl
theorem optMax_non (a : Option Int) : optMax a none = a := by cases a <;> rfl
theorem lows_four {ps : List Pc} (R : Row ps) {e1 e2 e3 : Int} (h0 : 0 ≤ e1) (h1 : e1 ≤ e2) (h2 : e2 ≤ e3) (h3 : e3 ≤ 2 ^ 40) :
    (lowsP ps e1 e2 e3).foldr optMin none = lowV (partF ps 0 (2 ^ 40)) := by
  rw [part_four R h0 h1 h2 h3, lowV_app, lowV_app, lowV_app]
  unfold lowsP cutsL
  simp only [List.map_cons, List.map_nil, List.foldr_cons, List.foldr_nil, optMin_non]
theorem highs_four {ps : List Pc} (R : Row ps) {e1 e2 e3 : Int} (h0 : 0 ≤ e1) (h1 : e1 ≤ e2) (h2 : e2 ≤ e3) (h3 : e3 ≤ 2 ^ 40) :
    (highsP ps e1 e2 e3).foldr optMax none = highV (partF ps 0 (2 ^ 40)) := by
  rw [part_four R h0 h1 h2 h3, highV_app, highV_app, highV_app]
  unfold highsP cutsL
  simp only [List.map_cons, List.map_nil, List.foldr_cons, List.foldr_nil, optMax_non]
theorem fold_min_none : ∀ {os : List (Option Int)}, os.filterMap id = [] → os.foldr optMin none = none
  | [], _ => rfl
  | none :: os, h => by rw [List.foldr_cons, fold_min_none (by simpa using h)]; rfl
  | some x :: os, h => by simp at h
theorem fold_max_none : ∀ {os : List (Option Int)}, os.filterMap id = [] → os.foldr optMax none = none
  | [], _ => rfl
  | none :: os, h => by rw [List.foldr_cons, fold_max_none (by simpa using h)]; rfl
  | some x :: os, h => by simp at h
theorem Parts.nonempty {ns : List Int} {a b : Int} (P : Parts ns a b) : ptsR (rowP ns a b) ≠ [] := fun z => by
  have : ptAt (perP ns) 0 ∈ ptsR (rowP ns a b) := by
    unfold rowP
    rw [ptsR_cons]
    exact List.mem_append_left _ (pts_mem.mpr ⟨0, by omega, by show (0 : Int) < 2 ^ 30; decide, rfl⟩)
  rw [z] at this; cases this
/-- every told number stands somewhere -/
theorem Parts.top {ns : List Int} {a b : Int} (P : Parts ns a b) {z : Int} (hz : z ∈ ns) {m : Int} (h : highV (partF (rowP ns a b) 0 (2 ^ 40)) = some m) : z ≤ m := by
  rw [whole_part P.row] at h
  obtain ⟨i, hi, rfl⟩ := List.mem_iff_getElem.mp hz
  have n2 := P.n2
  have : ptAt (perP ns) (i : Int) ∈ ptsR (rowP ns a b) := by
    unfold rowP
    rw [ptsR_cons]
    exact List.mem_append_left _ (pts_mem.mpr ⟨i, by omega, by show (i : Int) < 2 ^ 30; omega, rfl⟩)
  have := (highV_spec h).2 _ this
  have e : (ptAt (perP ns) (i : Int)).2 = ns[i] := by
    show numAt true ns i = _
    unfold numAt
    rw [if_pos rfl, Int.emod_eq_of_lt (by omega) (by omega), List.getD_eq_getElem?_getD, show ((i : Int)).toNat = i by omega, List.getElem?_eq_getElem hi]
    rfl
  omega
/-! ### told moments -/
def hitB (m : Int) : Bool := decide ((m - 5) % 3 = 0)
def hitV (ns : List Int) (m : Int) : Int := numAt true ns ((m - 5) / 3)
def MomP (ms : List Int) : Prop := ms.Pairwise (· < ·) ∧ ∀ m ∈ ms, 5 ≤ m ∧ m ≤ 5 + 3 * (2 ^ 30 - 1) + 1
theorem at_moment {ns : List Int} {a b : Int} (P : Parts ns a b) {m : Int} (m0 : 5 ≤ m) (m1 : m ≤ 5 + 3 * (2 ^ 30 - 1) + 1) :
    (ptsR (rowP ns a b)).filter (fun z => decide (z.1 = m)) = if hitB m = true then [(m, hitV ns m)] else [] := by
  unfold rowP
  rw [ptsR_cons, ptsR_cons, show ptsR ([] : List Pc) = [] from rfl, List.append_nil, List.filter_append, pts_at_one P.per, pts_at_one P.cur]
  have B2 : belowN (curP a b) m = 0 := by
    unfold belowN
    show (if m ≤ 2 ^ 35 then 0 else _) = 0
    rw [if_pos (by omega)]
  rw [B2, if_neg (c := 0 < (curP a b).c ∧ (curP a b).m + (curP a b).s * 0 = m) (fun z => by have z : (2 : Int) ^ 35 + 7 * 0 = m := z.2; omega), List.append_nil]
  have B1 : belowN (perP ns) m = (m - 3) / 3 := by
    unfold belowN
    show (if m ≤ 5 then 0 else if (2 : Int) ^ 30 = 1 then 1 else min (2 ^ 30) ((m - 5 - 1) / 3 + 1)) = _
    split
    · omega
    · rw [if_neg (by decide)]; omega
  rw [B1]
  by_cases q : (m - 5) % 3 = 0
  · have e : (m - 3) / 3 = (m - 5) / 3 := by omega
    rw [if_pos (show hitB m = true from decide_eq_true q), if_pos ⟨by show (m - 3) / 3 < 2 ^ 30; omega, by show 5 + 3 * ((m - 3) / 3) = m; omega⟩, e]
    show [((5 : Int) + 3 * ((m - 5) / 3), numAt true ns ((m - 5) / 3))] = _
    rw [show (5 : Int) + 3 * ((m - 5) / 3) = m by omega]
    rfl
  · rw [if_neg (show ¬ hitB m = true from fun z => q (of_decide_eq_true z)), if_neg (fun z => by have z : (5 : Int) + 3 * ((m - 3) / 3) = m := z.2; omega)]
theorem among_take {ns : List Int} {a b : Int} (P : Parts ns a b) {ms : List Int} (M : MomP ms) : ∀ j, j ≤ ms.length →
    (((ptsR (rowP ns a b)).filter fun y => decide (y.1 ∈ ms.take j)).map (·.2)).sum = (((ms.take j).filter hitB).map (hitV ns)).sum
  | 0, _ => by
    rw [List.take_zero, List.filter_eq_nil_iff.mpr fun y _ z => by simp at z]
    rfl
  | j + 1, h => by
    have hj : j < ms.length := by omega
    have et : ms.take (j + 1) = ms.take j ++ [ms[j]] := by rw [List.take_succ, List.getElem?_eq_getElem hj]; rfl
    have mb := M.2 _ (List.getElem_mem hj)
    have lt : ∀ y ∈ ms.take j, y < ms[j] := fun y hy => by
      obtain ⟨q, hq, e⟩ := List.mem_iff_getElem.mp hy
      rw [List.length_take] at hq
      rw [List.getElem_take] at e
      have := List.pairwise_iff_getElem.mp M.1 q j (by omega) hj (by omega)
      rw [e] at this
      exact this
    have ih := among_take P M j (by omega)
    rw [et, sorted_split (row_sorted P.row) lt, List.map_append, List.sum_append, ih, List.filter_append, List.map_append, List.sum_append, at_moment P mb.1 mb.2]
    refine congrArg (fun z : Int => (((ms.take j).filter hitB).map (hitV ns)).sum + z) ?_
    rw [List.filter_cons, List.filter_nil]
    by_cases q : hitB ms[j] = true
    · rw [if_pos q]
      simp [q]
    · rw [if_neg q]
      have q : hitB ms[j] = false := by simpa using q
      simp [q]
theorem among_sum {ns : List Int} {a b : Int} (P : Parts ns a b) {ms : List Int} (M : MomP ms) :
    (((ptsR (rowP ns a b)).filter (askB 0 (2 ^ 40) (some ms))).map (·.2)).sum = ((ms.filter hitB).map (hitV ns)).sum := by
  have h := among_take P M ms.length (Nat.le_refl _)
  rw [List.take_length] at h
  rw [← h]
  have ef : (ptsR (rowP ns a b)).filter (askB 0 (2 ^ 40) (some ms)) = (ptsR (rowP ns a b)).filter fun y => decide (y.1 ∈ ms) := List.filter_congr fun y hy => by
    show (btw 0 (2 ^ 40) y && decide (y.1 ∈ ms)) = decide (y.1 ∈ ms)
    have := row_pts_bnd P.row hy
    have e : btw 0 (2 ^ 40) y = true := by
      unfold btw
      rw [Bool.and_eq_true]
      exact ⟨decide_eq_true (by omega), decide_eq_true (by omega)⟩
    rw [e, Bool.true_and]
  rw [ef]
end K43
set_option Elab.async false
set_option maxRecDepth 100000
set_option maxHeartbeats 8000000
set_option linter.all false
set_option autoImplicit false
/-! the law's own: lines behind one another -/
namespace K43
variable [DW.Tb]
open PySem PySem.Spec PyProof.Rows L2 DW
abbrev lineMostSp : DSpW := fun w es n k => ∃ a b c x, es = [.int a, .int b, .int c, .int x] ∧ 0 ≤ b ∧ b ≤ 30 ∧ k (.int (lineMost a b c x)) n
abbrev lineSp : DSpW := fun w es n k => ∃ (p : Addr), w = some p ∧ es = [.raw (.ref p)] ∧ n < 2 ^ 18 ∧ ∀ n', n' ≤ n + 10 → k (.bl true) n'
def rowL (c d a b f g : Int) : List Pc := [lineP 0 1 c a b, lineP c 2 d f g]
theorem quest_non {kind : Str} {st sp : Int} (hk : kind ∈ kinds) (h1 : kind ≠ "most") (h2 : kind ≠ "rank") (s0 : 0 ≤ st) (s1 : st ≤ sp) (s2 : sp ≤ 2 ^ 40) : Quest kind .non st sp none := ⟨hk, .inr (.inr ⟨rfl, h1, h2⟩), s0, s1, s2, fun _ z => nomatch z⟩
theorem quest_most {st sp x : Int} (x0 : -(2 ^ 60) ≤ x) (x1 : x ≤ 2 ^ 60) (s0 : 0 ≤ st) (s1 : st ≤ sp) (s2 : sp ≤ 2 ^ 40) : Quest "most" (.int x) st sp none := ⟨by decide +kernel, .inl ⟨rfl, x, rfl, x0, x1⟩, s0, s1, s2, fun _ z => nomatch z⟩
theorem quest_rank {st sp x : Int} (x0 : 1 ≤ x) (x1 : x ≤ 2 ^ 60) (s0 : 0 ≤ st) (s1 : st ≤ sp) (s2 : sp ≤ 2 ^ 40) : Quest "rank" (.int x) st sp none := ⟨by decide +kernel, .inr (.inl ⟨rfl, x, rfl, x0, x1⟩), s0, s1, s2, fun _ z => nomatch z⟩
theorem line_nl {m s c a b : Int} : (lineP m s c a b).ns.length ≤ 100000 := by
  show List.length (if 0 < b then [a, b] else [a]) ≤ _
  split <;> simp
theorem line_ns1 {m s c a b : Int} (h : decide (0 < b) = true) : IsNs (.lst [.int a, .int b]) (lineP m s c a b).ns := .inl (by
  show _ = D.lst ((if 0 < b then [a, b] else [a]).map .int)
  rw [if_pos (of_decide_eq_true h)]; rfl)
theorem line_ns2 {m s c a b : Int} (h : decide (0 < b) = false) : IsNs (.lst [.int a]) (lineP m s c a b).ns := .inl (by
  show _ = D.lst ((if 0 < b then [a, b] else [a]).map .int)
  rw [if_neg (of_decide_eq_false h)]; rfl)
theorem eqv_ints : ∀ l : List Int, PyData.eqvAll (toPys (l.map D.int)) (toPys (l.map D.int)) = true
  | [] => rfl
  | i :: l => by
    have := eqv_ints l
    simp only [List.map_cons, toPys, toPy, PyData.eqvAll, this, Bool.and_true]
    simp [PyData.eqv]
theorem rep_one {z e : Int} : (List.replicate (Int.toNat (if decide (0 < e) = true then 1 else 0)) [D.int z]).flatten = (if 0 < e then [z] else []).map .int := by
  by_cases q : 0 < e
  · rw [if_pos q, decide_eq_true q]; rfl
  · rw [if_neg q, decide_eq_false q]; rfl
theorem highs_mem {a b c f g e : Int} (b0 : 0 ≤ b) (b1 : b < 30) (c2 : 2 ≤ c) (c3 : c < 2 + 2 ^ 32) (a0 : -500 ≤ a) (a1 : a < 500) (f0 : 0 ≤ f) (f1 : f < 10 ^ 9) (g0 : 0 ≤ g) (g1 : g < 30) (e1 : e ≤ 2 ^ 33) {m : Int} (h1 : m ∈ highsL a b c f g e) (h2 : ∀ y ∈ highsL a b c f g e, y ≤ m) : -500 ≤ m ∧ m ≤ 2 ^ 50 := by
  have q := h2 (a + b * (c - 1)) (by unfold highsL; simp)
  have h3 : 0 ≤ b * (c - 1) := Int.mul_nonneg b0 (by omega)
  have h4 : b * (c - 1) ≤ 30 * 2 ^ 33 := Int.mul_le_mul (by omega) (by omega) (by omega) (by omega)
  refine ⟨by omega, ?_⟩
  unfold highsL at h1
  rcases List.mem_append.mp h1 with h | h
  · rw [List.mem_singleton] at h; omega
  · split at h
    · rename_i z
      rw [List.mem_singleton] at h
      have h5 : g * (e - 1) ≤ 30 * 2 ^ 33 := Int.mul_le_mul (by omega) (by omega) (by omega) (by omega)
      omega
    · simp at h
theorem lows_pos {a b f st e : Int} : 0 < (lowsL a b f st e).length := by unfold lowsL; simp
theorem highs_pos {a b c f g e : Int} : 0 < (highsL a b c f g e).length := by unfold highsL; simp
section
variable {K : PySem.W.Frag} {w : Option Addr} {n : Nat} {k : Kn} {es : List D} {C CQ : Addr}
theorem e_mkP {ds : List (Option D)} {tA : TA} {E : XK} (h : WpA K w tA ds n fun es n1 => ∃ (p : Pc) (nd : D), es = pcIn p.m p.s p.c p.per nd ∧ IsNs nd p.ns ∧ p.ns.length ≤ 100000 ∧ k (pcO C p) n1) : WpE K w (tMake C (initSp K C gX) [] E tA) ds n k :=
  e_make (fun S H0 σ H Q re ok P => h S H0 σ H Q re ok fun vs H1 es n1 ⟨p, nd, e, h1, h2, hk⟩ pr ok1 r => P vs H1 es n1 ⟨XN, _, ⟨p.m, p.s, p.c, p.per, nd, p.ns, e, h1, h2, rfl, rfl⟩, hk⟩ pr ok1 r)
theorem e_makeQ {ds : List (Option D)} {tA : TA} (h : WpA K w tA ds n fun es n1 => ∃ kind num st sp, es = [.str kind, num, .int st, .int sp] ∧ Quest kind num st sp none ∧ k (questionD C kind num st sp none) n1) : WpE K w (tMake C (initSp K C gQ) [V.non] E0 tA) ds n k :=
  e_makeD (des := [.non]) (.cons .non .nil) fun S H0 σ H Q re ok p => h S H0 σ H Q re ok fun vs H' es n' ⟨kind, num, st, sp, e, hq, hk⟩ pr ok' r => p vs H' es n' ⟨QN, _, ⟨kind, num, st, sp, none, by rw [e]; rfl, hq, rfl, rfl⟩, hk⟩ pr ok' r
theorem ne_sameI {i : Int} (hk : k (.bl false) n) : RD K w (rNeU K) (.int i) (.int i) n k := rd_neI (by rw [decide_eq_true rfl]; exact hk)
theorem ne_sameL (l : List Int) {d e : D} (h1 : d = .lst (l.map .int)) (h2 : e = .lst (l.map .int)) (hk : k (.bl false) n) : RD K w (rNeU K) d e n k := by
  subst h1 h2
  have e : PyData.eqv (toPy (.lst (l.map .int))) (toPy (.lst (l.map .int))) = true := eqv_ints l
  exact rd_neD (pure_ints l) (pure_ints l) (shaped_ints l) (shaped_ints l) (by rw [e]; exact hk)
theorem rd_rep01 {z e : Int} (hk : k (.lst ((if 0 < e then [z] else []).map .int)) n) : RD K w rMulU (.lst [.int z]) (.int (if decide (0 < e) = true then 1 else 0)) n k := by
  refine rd_rep (by split <;> decide) (by split <;> decide) (by split <;> simp) ?_
  rw [rep_one]
  exact hk
theorem w__law_line_most (h : lineMostSp w es n k) : WpS K w (r__law_line_most K) (dstart ["first", "more", "count", "bound"] es) n { nx := fun _ n' => kup k .non n', rt := kup k } := by
  obtain ⟨a, b, c, x, rfl, b0, b1, hk⟩ := h
  unfold lineMost at hk
  unfold r__law_line_most
  repeat' (first
    | exact absurd ‹false = true› (by decide)
    | exact absurd ‹true = false› (by decide)
    | walk_at "way by rule"
    | with_reducible refine And.intro (by have := of_decide_eq_false ‹decide (b = 0) = false›; omega : 0 < b) ?_
    | with_reducible refine And.intro (by omega : b < 2 ^ 64) ?_
    | walk_at "way by form"
    | fail)
  all_goals first
    | (rw [if_pos (of_decide_eq_true ‹decide (b = 0) = true›), if_pos (of_decide_eq_true ‹decide (a ≤ x) = true›)] at hk; exact kup_of hk)
    | (rw [if_pos (of_decide_eq_true ‹decide (b = 0) = true›), if_neg (of_decide_eq_false ‹decide (a ≤ x) = false›)] at hk; exact kup_of hk)
    | (rw [if_neg (of_decide_eq_false ‹decide (b = 0) = false›)] at hk; exact kup_of hk)
theorem call_ans {ps : List Pc} {kind : Str} {num : D} {st sp : Int} {am : Option (List Int)} (R : Row ps) (Q : Quest kind num st sp am) (h : ∀ a, AnsOf kind num ((ptsR ps).filter (askB st sp am)) a → k a n) : ansSp C CQ w [.lst (ps.map (pcO C)), questionD CQ kind num st sp am] n k :=
  ⟨_, ps, kind, num, st, sp, am, rfl, .inl rfl, R, Q, h⟩
theorem w__law_line_right (h : lineSp w es n k) : WpS K w (r__law_line_right K (toSp K drawSp) C (initSp K C gX) (toSp K (ansSp C CQ)) CQ (initSp K CQ gQ) [V.non] (toSp K lineMostSp)) (dstart ["pen", "more", "other", "count", "many", "first", "last", "row", "start", "stop", "ahead", "low", "size", "due", "highs", "lows", "bound", "most", "rank", "value", "upto", "below"] es) n { nx := fun _ n' => kup k .non n', rt := kup k } := by
  obtain ⟨p, rfl, rfl, hn, hk⟩ := h
  unfold r__law_line_right
  refine s_mid (mid := fun ds' n1 => n1 ≤ n + 4 ∧ ∃ b g c d : Int, 0 ≤ b ∧ b < 30 ∧ 0 ≤ g ∧ g < 30 ∧ 2 ≤ c ∧ c < 2 + 2 ^ 32 ∧ 2 ≤ d ∧ d < 2 + 2 ^ 32 ∧ ds' = [some (.raw (.ref p)), some (.int b), some (.int g), some (.int c), some (.int d), none, none, none, none, none, none, none, none, none, none, none, none, none, none, none, none, none]) ?_ ?_
  · repeat' (first
    | exact absurd ‹false = true› (by decide)
    | exact absurd ‹true = false› (by decide)
    | (guard_target =~ RD _ _ (rI _ _) _ _ _ _; first | with_reducible refine rd_powL (v := 4294967296) (by decide +kernel) (by decide) ?_ | with_reducible refine rd_powL (v := 1000000000) (by decide +kernel) (by decide) ?_ | with_reducible refine rd_powL (v := 100000) (by decide +kernel) (by decide) ?_ | with_reducible refine rd_powL (v := 1099511627776) (by decide +kernel) (by decide) ?_ | with_reducible refine rd_powL (v := 68719476736) (by decide +kernel) (by decide) ?_ | with_reducible refine rd_powL (v := 1073741824) (by decide +kernel) (by decide) ?_ | with_reducible refine rd_powL (v := 2199023255552) (by decide +kernel) (by decide) ?_ | with_reducible refine rd_powL (v := 8589934592) (by decide +kernel) (by decide) ?_ | with_reducible refine rd_powL (v := 1048576) (by decide +kernel) (by decide) ?_ | with_reducible refine rd_powL (v := 4096) (by decide +kernel) (by decide) ?_ | with_reducible refine rd_powL (v := 34359738368) (by decide +kernel) (by decide) ?_ | with_reducible refine rd_powL (v := 17179869184) (by decide +kernel) (by decide) ?_ | with_reducible refine rd_powL (v := 1000000) (by decide +kernel) (by decide) ?_ | with_reducible refine rd_powL (v := 10000) (by decide +kernel) (by decide) ?_ | with_reducible refine rd_powL (v := 549755813888) (by decide +kernel) (by decide) ?_ | with_reducible refine rd_powL (v := 100000000000) (by decide +kernel) (by decide) ?_ | with_reducible refine rd_powL (v := 10000000000) (by decide +kernel) (by decide) ?_ | with_reducible refine rd_powL (v := 1000) (by decide +kernel) (by decide) ?_ | with_reducible refine rd_powL (v := 2147483648) (by decide +kernel) (by decide) ?_)
    | walk_at "way by rule"
    | (refine ⟨p, _, rfl, rfl, by omega, by omega, by omega, fun y y0 y1 => ?_⟩)
    | refine ⟨_, _, g_tup (gs_cons g_name (gs_cons g_name (gs_cons g_name (gs_cons g_name gs_nil)))) rfl, ?_⟩
    | walk_at "way by form"
    | fail)
    exact ⟨_, _, _, _, by assumption, by assumption, by assumption, by assumption, by omega, by omega, by omega, by omega, rfl⟩
  rintro ds' n1 ⟨hn1, b, g, c, d, b0, b1, g0, g1, c2, c3, d2, d3, rfl⟩
  refine s_mid (mid := fun ds' n2 => n2 ≤ n1 + 2 ∧ ∃ a f : Int, -500 ≤ a ∧ a < 500 ∧ 0 ≤ f ∧ f < 10 ^ 9 ∧ ds' = [some (.raw (.ref p)), some (.int b), some (.int g), some (.int c), some (.int d), some (.int a), some (.int f), none, none, none, none, none, none, none, none, none, none, none, none, none, none, none]) ?_ ?_
  · repeat' (first
    | exact absurd ‹false = true› (by decide)
    | exact absurd ‹true = false› (by decide)
    | (guard_target =~ RD _ _ (rI _ _) _ _ _ _; first | with_reducible refine rd_powL (v := 4294967296) (by decide +kernel) (by decide) ?_ | with_reducible refine rd_powL (v := 1000000000) (by decide +kernel) (by decide) ?_ | with_reducible refine rd_powL (v := 100000) (by decide +kernel) (by decide) ?_ | with_reducible refine rd_powL (v := 1099511627776) (by decide +kernel) (by decide) ?_ | with_reducible refine rd_powL (v := 68719476736) (by decide +kernel) (by decide) ?_ | with_reducible refine rd_powL (v := 1073741824) (by decide +kernel) (by decide) ?_ | with_reducible refine rd_powL (v := 2199023255552) (by decide +kernel) (by decide) ?_ | with_reducible refine rd_powL (v := 8589934592) (by decide +kernel) (by decide) ?_ | with_reducible refine rd_powL (v := 1048576) (by decide +kernel) (by decide) ?_ | with_reducible refine rd_powL (v := 4096) (by decide +kernel) (by decide) ?_ | with_reducible refine rd_powL (v := 34359738368) (by decide +kernel) (by decide) ?_ | with_reducible refine rd_powL (v := 17179869184) (by decide +kernel) (by decide) ?_ | with_reducible refine rd_powL (v := 1000000) (by decide +kernel) (by decide) ?_ | with_reducible refine rd_powL (v := 10000) (by decide +kernel) (by decide) ?_ | with_reducible refine rd_powL (v := 549755813888) (by decide +kernel) (by decide) ?_ | with_reducible refine rd_powL (v := 100000000000) (by decide +kernel) (by decide) ?_ | with_reducible refine rd_powL (v := 10000000000) (by decide +kernel) (by decide) ?_ | with_reducible refine rd_powL (v := 1000) (by decide +kernel) (by decide) ?_ | with_reducible refine rd_powL (v := 2147483648) (by decide +kernel) (by decide) ?_)
    | walk_at "way by rule"
    | (refine ⟨p, _, rfl, rfl, by omega, by omega, by omega, fun y y0 y1 => ?_⟩)
    | walk_at "way by form"
    | fail)
    exact ⟨_, _, by omega, by omega, by assumption, by omega, rfl⟩
  rintro ds' n2 ⟨hn2, a, f, a0, a1, f0, f1, rfl⟩
  refine s_mid (mid := fun ds' n3 => n3 = n2 ∧ ds' = [some (.raw (.ref p)), some (.int b), some (.int g), some (.int c), some (.int d), some (.int a), some (.int f), some (.lst ((rowL c d a b f g).map (pcO C))), none, none, none, none, none, none, none, none, none, none, none, none, none, none]) ?_ ?_
  · repeat' (first
    | exact absurd ‹false = true› (by decide)
    | exact absurd ‹true = false› (by decide)
    | with_reducible refine e_mkP ?_
    | walk_at "way by rule"
    | refine ⟨lineP 0 1 c a b, _, rfl, ?_, ?_, ?_⟩
    | refine ⟨lineP c 2 d f g, _, rfl, ?_, ?_, ?_⟩
    | walk_at "way by form"
    | fail)
    all_goals first
      | rfl
      | exact line_nl
      | exact line_ns1 ‹decide (0 < b) = true›
      | exact line_ns1 ‹decide (0 < g) = true›
      | exact line_ns2 ‹decide (0 < b) = false›
      | exact line_ns2 ‹decide (0 < g) = false›
  rintro ds' n3 ⟨rfl, rfl⟩
  refine s_mid (mid := fun ds' n4 => n4 ≤ n3 + 2 ∧ ∃ st sp : Int, 0 ≤ st ∧ st < c ∧ c ≤ sp ∧ sp < c + 2 * d ∧ ds' = [some (.raw (.ref p)), some (.int b), some (.int g), some (.int c), some (.int d), some (.int a), some (.int f), some (.lst ((rowL c d a b f g).map (pcO C))), some (.int st), some (.int sp), none, none, none, none, none, none, none, none, none, none, none, none]) ?_ ?_
  · repeat' (first
    | exact absurd ‹false = true› (by decide)
    | exact absurd ‹true = false› (by decide)
    | (guard_target =~ RD _ _ (rI _ _) _ _ _ _; first | with_reducible refine rd_powL (v := 4294967296) (by decide +kernel) (by decide) ?_ | with_reducible refine rd_powL (v := 1000000000) (by decide +kernel) (by decide) ?_ | with_reducible refine rd_powL (v := 100000) (by decide +kernel) (by decide) ?_ | with_reducible refine rd_powL (v := 1099511627776) (by decide +kernel) (by decide) ?_ | with_reducible refine rd_powL (v := 68719476736) (by decide +kernel) (by decide) ?_ | with_reducible refine rd_powL (v := 1073741824) (by decide +kernel) (by decide) ?_ | with_reducible refine rd_powL (v := 2199023255552) (by decide +kernel) (by decide) ?_ | with_reducible refine rd_powL (v := 8589934592) (by decide +kernel) (by decide) ?_ | with_reducible refine rd_powL (v := 1048576) (by decide +kernel) (by decide) ?_ | with_reducible refine rd_powL (v := 4096) (by decide +kernel) (by decide) ?_ | with_reducible refine rd_powL (v := 34359738368) (by decide +kernel) (by decide) ?_ | with_reducible refine rd_powL (v := 17179869184) (by decide +kernel) (by decide) ?_ | with_reducible refine rd_powL (v := 1000000) (by decide +kernel) (by decide) ?_ | with_reducible refine rd_powL (v := 10000) (by decide +kernel) (by decide) ?_ | with_reducible refine rd_powL (v := 549755813888) (by decide +kernel) (by decide) ?_ | with_reducible refine rd_powL (v := 100000000000) (by decide +kernel) (by decide) ?_ | with_reducible refine rd_powL (v := 10000000000) (by decide +kernel) (by decide) ?_ | with_reducible refine rd_powL (v := 1000) (by decide +kernel) (by decide) ?_ | with_reducible refine rd_powL (v := 2147483648) (by decide +kernel) (by decide) ?_)
    | walk_at "way by rule"
    | (refine ⟨p, _, rfl, rfl, by omega, by omega, by omega, fun y y0 y1 => ?_⟩)
    | walk_at "way by form"
    | fail)
    exact ⟨_, _, by assumption, by assumption, by omega, by omega, rfl⟩
  rintro ds' n4 ⟨hn4, st, sp, s0, s1, p0, p1, rfl⟩
  have T : Two c d a b f g st sp := ⟨c2, by omega, d2, by omega, by omega, by omega, b0, by omega, by omega, by omega, g0, by omega, s0, s1, p0, p1⟩
  refine s_mid (mid := fun ds' n5 => n5 = n4 ∧ ds' = [some (.raw (.ref p)), some (.int b), some (.int g), some (.int c), some (.int d), some (.int a), some (.int f), some (.lst ((rowL c d a b f g).map (pcO C))), some (.int st), some (.int sp), some (.int ((sp - c + 1) / 2)), none, none, none, none, none, none, none, none, none, none, none]) ?_ ?_
  · repeat' (first
    | exact absurd ‹false = true› (by decide)
    | exact absurd ‹true = false› (by decide)
    | walk_at "way by rule"
    | walk_at "way by form"
    | fail)
    all_goals rfl
  rintro ds' n5 ⟨rfl, rfl⟩
  have tlen := twoV_len T
  have tsum := twoV_sum T
  have tcut := T.cut
  have tlow := fun m => T.low (m := m)
  have thigh := fun m => T.high (m := m)
  have tmost := fun x => twoV_most (x := x) T
  have trow : Row (rowL c d a b f g) := T.row
  have e0 : 0 ≤ (sp - c + 1) / 2 := by omega
  have e1 : (sp - c + 1) / 2 ≤ d := by omega
  have hF : partF (rowL c d a b f g) st sp = (ptsR [lineP 0 1 c a b, lineP c 2 d f g]).filter (askB st sp none) := rfl
  rw [← hF] at tcut tlow thigh
  generalize (sp - c + 1) / 2 = e at *
  have plen : ((partF (rowL c d a b f g) st sp).length : Int) = c - st + e := by rw [← tlen, ← tcut, List.length_map]
  have pmost : ∀ x, atMost (partF (rowL c d a b f g) st sp) x = lineMost (a + b * st) b (c - st) x + lineMost f g e x := fun x => by rw [map_atMost, tcut, tmost]
  rw [← tcut] at tsum
  clear tlen tmost tcut hF T
  generalize hP : partF (rowL c d a b f g) st sp = P at *
  have cA : ∀ {k : Kn} {n : Nat} {kind : Str} {num : D}, Quest kind num st sp none → (∀ r, AnsOf kind num P r → k r n) → ansSp C CQ (some p) [.lst ((rowL c d a b f g).map (pcO C)), questionD CQ kind num st sp none] n k := fun {k n kind num} h1 h2 => call_ans trow h1 (by
    have e : (ptsR (rowL c d a b f g)).filter (askB st sp none) = P := hP
    rw [e]; exact h2)
  have bs : 0 ≤ b * st ∧ b * st ≤ 30 * 2 ^ 33 := ⟨Int.mul_nonneg b0 s0, Int.mul_le_mul (by omega) (by omega) s0 (by omega)⟩
  refine s_mid (mid := fun ds' n6 => n6 = n5 ∧ ds' = [some (.raw (.ref p)), some (.int b), some (.int g), some (.int c), some (.int d), some (.int a), some (.int f), some (.lst ((rowL c d a b f g).map (pcO C))), some (.int st), some (.int sp), some (.int e), some (.int (a + b * st)), some (.int (c - st)), none, none, none, none, none, none, none, none, none]) ?_ ?_
  · repeat' (first
    | exact absurd ‹false = true› (by decide)
    | exact absurd ‹true = false› (by decide)
    | walk_at "way by rule"
    | walk_at "way by form"
    | fail)
    all_goals rfl
  rintro ds' n6 ⟨rfl, rfl⟩
  refine s_mid (mid := fun ds' n7 => n7 = n6 ∧ ds' = [some (.raw (.ref p)), some (.int b), some (.int g), some (.int c), some (.int d), some (.int a), some (.int f), some (.lst ((rowL c d a b f g).map (pcO C))), some (.int st), some (.int sp), some (.int e), some (.int (a + b * st)), some (.int (c - st)), some (.int (P.map (·.2)).sum), none, none, none, none, none, none, none, none]) ?_ ?_
  · repeat' (first
    | exact absurd ‹false = true› (by decide)
    | exact absurd ‹true = false› (by decide)
    | walk_at "way by rule"
    | walk_at "way by form"
    | fail)
    all_goals (rw [tsum]; rfl)
  rintro ds' n7 ⟨rfl, rfl⟩
  refine s_mid (mid := fun ds' n8 => n8 = n7 ∧ ds' = [some (.raw (.ref p)), some (.int b), some (.int g), some (.int c), some (.int d), some (.int a), some (.int f), some (.lst ((rowL c d a b f g).map (pcO C))), some (.int st), some (.int sp), some (.int e), some (.int (a + b * st)), some (.int (c - st)), some (.int (P.map (·.2)).sum), none, none, none, none, none, none, none, none]) ?_ ?_
  · repeat' (first
    | exact absurd ‹false = true› (by decide)
    | exact absurd ‹true = false› (by decide)
    | with_reducible refine e_makeQ ?_
    | (refine cA (quest_non (by decide +kernel) (by decide +kernel) (by decide +kernel) s0 (by omega) (by omega)) (fun r hr => ?_); first | (obtain rfl := ans_count hr; rw [plen]) | obtain rfl := ans_sum hr | obtain rfl := ans_least hr | obtain rfl := ans_great hr)
    | with_reducible refine ne_sameI ?_
    | walk_at "way by rule"
    | refine ⟨_, _, _, _, rfl, quest_non (by decide +kernel) (by decide +kernel) (by decide +kernel) s0 (by omega) (by omega), ?_⟩
    | walk_at "way by form"
    | fail)
    all_goals rfl
  rintro ds' n8 ⟨rfl, rfl⟩
  refine s_mid (mid := fun ds' n9 => n9 = n8 ∧ ds' = [some (.raw (.ref p)), some (.int b), some (.int g), some (.int c), some (.int d), some (.int a), some (.int f), some (.lst ((rowL c d a b f g).map (pcO C))), some (.int st), some (.int sp), some (.int e), some (.int (a + b * st)), some (.int (c - st)), some (.int (P.map (·.2)).sum), some (.lst ((highsL a b c f g e).map .int)), none, none, none, none, none, none, none]) ?_ ?_
  · repeat' (first
    | exact absurd ‹false = true› (by decide)
    | exact absurd ‹true = false› (by decide)
    | with_reducible refine rd_rep01 ?_
    | walk_at "way by rule"
    | refine And.intro (by split <;> simp : _ + _ ≤ 100000) ?_
    | refine And.intro (rfl : isOwn (D.lst _) = false) ?_
    | walk_at "way by form"
    | fail)
    all_goals rfl
  rintro ds' n9 ⟨rfl, rfl⟩
  refine s_mid (mid := fun ds' n10 => n10 = n9 ∧ ds' = [some (.raw (.ref p)), some (.int b), some (.int g), some (.int c), some (.int d), some (.int a), some (.int f), some (.lst ((rowL c d a b f g).map (pcO C))), some (.int st), some (.int sp), some (.int e), some (.int (a + b * st)), some (.int (c - st)), some (.int (P.map (·.2)).sum), some (.lst ((highsL a b c f g e).map .int)), some (.lst ((lowsL a b f st e).map .int)), none, none, none, none, none, none]) ?_ ?_
  · repeat' (first
    | exact absurd ‹false = true› (by decide)
    | exact absurd ‹true = false› (by decide)
    | with_reducible refine rd_rep01 ?_
    | walk_at "way by rule"
    | refine And.intro (by split <;> simp : _ + _ ≤ 100000) ?_
    | refine And.intro (rfl : isOwn (D.lst _) = false) ?_
    | walk_at "way by form"
    | fail)
    all_goals rfl
  rintro ds' n10 ⟨rfl, rfl⟩
  refine s_mid (mid := fun ds' n11 => n11 = n10 ∧ ds' = [some (.raw (.ref p)), some (.int b), some (.int g), some (.int c), some (.int d), some (.int a), some (.int f), some (.lst ((rowL c d a b f g).map (pcO C))), some (.int st), some (.int sp), some (.int e), some (.int (a + b * st)), some (.int (c - st)), some (.int (P.map (·.2)).sum), some (.lst ((highsL a b c f g e).map .int)), some (.lst ((lowsL a b f st e).map .int)), none, none, none, none, none, none]) ?_ ?_
  · repeat' (first
    | exact absurd ‹false = true› (by decide)
    | exact absurd ‹true = false› (by decide)
    | with_reducible refine e_makeQ ?_
    | (refine cA (quest_non (by decide +kernel) (by decide +kernel) (by decide +kernel) s0 (by omega) (by omega)) (fun r hr => ?_); first | (obtain rfl := ans_count hr; rw [plen]) | obtain rfl := ans_sum hr | obtain rfl := ans_least hr | obtain rfl := ans_great hr)
    | refine ne_sameL [m, x] rfl rfl ?_
    | (guard_target =~ RC _ _ _ _ _ _; first | refine rc_minL lows_pos (fun m hm1 hm2 => ?_) | (refine rc_maxL highs_pos (fun x hx1 hx2 => ?_); rw [tlow _ hm1 hm2, thigh _ hx1 hx2]))
    | walk_at "way by rule"
    | refine ⟨_, _, _, _, rfl, quest_non (by decide +kernel) (by decide +kernel) (by decide +kernel) s0 (by omega) (by omega), ?_⟩
    | walk_at "way by form"
    | fail)
    all_goals rfl
  rintro ds' n11 ⟨rfl, rfl⟩
  refine s_mid (mid := fun ds' n12 => n12 ≤ n11 + 1 ∧ ∃ x : Int, -600 ≤ x ∧ x ≤ 2 ^ 51 ∧ ds' = [some (.raw (.ref p)), some (.int b), some (.int g), some (.int c), some (.int d), some (.int a), some (.int f), some (.lst ((rowL c d a b f g).map (pcO C))), some (.int st), some (.int sp), some (.int e), some (.int (a + b * st)), some (.int (c - st)), some (.int (P.map (·.2)).sum), some (.lst ((highsL a b c f g e).map .int)), some (.lst ((lowsL a b f st e).map .int)), some (.int x), none, none, none, none, none]) ?_ ?_
  · repeat' (first
    | exact absurd ‹false = true› (by decide)
    | exact absurd ‹true = false› (by decide)
    | (refine rc_maxL highs_pos (fun m hx1 hx2 => ?_); have mb := highs_mem b0 b1 c2 c3 a0 a1 f0 f1 g0 g1 (by omega) hx1 hx2)
    | walk_at "way by rule"
    | (refine ⟨p, _, rfl, rfl, by omega, by omega, by omega, fun y y0 y1 => ?_⟩)
    | walk_at "way by form"
    | fail)
    exact ⟨_, by omega, by omega, rfl⟩
  rintro ds' n12 ⟨hn12, x, x0, x1, rfl⟩
  refine s_mid (mid := fun ds' n13 => n13 = n12 ∧ ds' = [some (.raw (.ref p)), some (.int b), some (.int g), some (.int c), some (.int d), some (.int a), some (.int f), some (.lst ((rowL c d a b f g).map (pcO C))), some (.int st), some (.int sp), some (.int e), some (.int (a + b * st)), some (.int (c - st)), some (.int (P.map (·.2)).sum), some (.lst ((highsL a b c f g e).map .int)), some (.lst ((lowsL a b f st e).map .int)), some (.int x), some (.int (atMost P x)), none, none, none, none]) ?_ ?_
  · repeat' (first
    | exact absurd ‹false = true› (by decide)
    | exact absurd ‹true = false› (by decide)
    | walk_at "way by rule"
    | refine ⟨_, _, _, _, rfl, b0, by omega, ?_⟩
    | refine ⟨_, _, _, _, rfl, g0, by omega, ?_⟩
    | walk_at "way by form"
    | fail)
    all_goals (rw [pmost x]; rfl)
  rintro ds' n13 ⟨rfl, rfl⟩
  refine s_mid (mid := fun ds' n14 => n14 = n13 ∧ ds' = [some (.raw (.ref p)), some (.int b), some (.int g), some (.int c), some (.int d), some (.int a), some (.int f), some (.lst ((rowL c d a b f g).map (pcO C))), some (.int st), some (.int sp), some (.int e), some (.int (a + b * st)), some (.int (c - st)), some (.int (P.map (·.2)).sum), some (.lst ((highsL a b c f g e).map .int)), some (.lst ((lowsL a b f st e).map .int)), some (.int x), some (.int (atMost P x)), none, none, none, none]) ?_ ?_
  · repeat' (first
    | exact absurd ‹false = true› (by decide)
    | exact absurd ‹true = false› (by decide)
    | with_reducible refine e_makeQ ?_
    | (refine cA (quest_most (by omega) (by omega) s0 (by omega) (by omega)) (fun r hr => ?_); obtain rfl := ans_most hr)
    | with_reducible refine ne_sameI ?_
    | walk_at "way by rule"
    | refine ⟨_, _, _, _, rfl, quest_most (by omega) (by omega) s0 (by omega) (by omega), ?_⟩
    | walk_at "way by form"
    | fail)
    all_goals rfl
  rintro ds' n14 ⟨rfl, rfl⟩
  refine s_mid (mid := fun ds' n15 => n15 ≤ n14 + 1 ∧ ∃ r : Int, 1 ≤ r ∧ r ≤ c - st + e ∧ ds' = [some (.raw (.ref p)), some (.int b), some (.int g), some (.int c), some (.int d), some (.int a), some (.int f), some (.lst ((rowL c d a b f g).map (pcO C))), some (.int st), some (.int sp), some (.int e), some (.int (a + b * st)), some (.int (c - st)), some (.int (P.map (·.2)).sum), some (.lst ((highsL a b c f g e).map .int)), some (.lst ((lowsL a b f st e).map .int)), some (.int x), some (.int (atMost P x)), some (.int r), none, none, none]) ?_ ?_
  · repeat' (first
    | exact absurd ‹false = true› (by decide)
    | exact absurd ‹true = false› (by decide)
    | walk_at "way by rule"
    | (refine ⟨p, _, rfl, rfl, by omega, by omega, by omega, fun y y0 y1 => ?_⟩)
    | walk_at "way by form"
    | fail)
    exact ⟨_, by omega, by omega, rfl⟩
  rintro ds' n15 ⟨hn15, r, r1, r2, rfl⟩
  refine s_mid (mid := fun ds' n16 => n16 = n15 ∧ ∃ v : Int, RankOf P r v ∧ ds' = [some (.raw (.ref p)), some (.int b), some (.int g), some (.int c), some (.int d), some (.int a), some (.int f), some (.lst ((rowL c d a b f g).map (pcO C))), some (.int st), some (.int sp), some (.int e), some (.int (a + b * st)), some (.int (c - st)), some (.int (P.map (·.2)).sum), some (.lst ((highsL a b c f g e).map .int)), some (.lst ((lowsL a b f st e).map .int)), some (.int x), some (.int (atMost P x)), some (.int r), some (.int v), none, none]) ?_ ?_
  · repeat' (first
    | exact absurd ‹false = true› (by decide)
    | exact absurd ‹true = false› (by decide)
    | with_reducible refine e_makeQ ?_
    | (refine cA (quest_rank (by omega) (by omega) s0 (by omega) (by omega)) (fun u hr => ?_); obtain ⟨v, rfl, hv⟩ := ans_rank hr (by omega))
    | walk_at "way by rule"
    | refine ⟨_, _, _, _, rfl, quest_rank (by omega) (by omega) s0 (by omega) (by omega), ?_⟩
    | walk_at "way by form"
    | fail)
    all_goals exact ⟨v, hv, rfl⟩
  rintro ds' n16 ⟨rfl, v, hv, rfl⟩
  refine s_mid (mid := fun ds' n17 => n17 = n16 ∧ ds' = [some (.raw (.ref p)), some (.int b), some (.int g), some (.int c), some (.int d), some (.int a), some (.int f), some (.lst ((rowL c d a b f g).map (pcO C))), some (.int st), some (.int sp), some (.int e), some (.int (a + b * st)), some (.int (c - st)), some (.int (P.map (·.2)).sum), some (.lst ((highsL a b c f g e).map .int)), some (.lst ((lowsL a b f st e).map .int)), some (.int x), some (.int (atMost P x)), some (.int r), some (.int v), some (.int (atMost P v)), none]) ?_ ?_
  · repeat' (first
    | exact absurd ‹false = true› (by decide)
    | exact absurd ‹true = false› (by decide)
    | walk_at "way by rule"
    | refine ⟨_, _, _, _, rfl, b0, by omega, ?_⟩
    | refine ⟨_, _, _, _, rfl, g0, by omega, ?_⟩
    | walk_at "way by form"
    | fail)
    all_goals (rw [pmost v]; rfl)
  rintro ds' n17 ⟨rfl, rfl⟩
  refine s_mid (mid := fun ds' n18 => n18 = n17 ∧ ds' = [some (.raw (.ref p)), some (.int b), some (.int g), some (.int c), some (.int d), some (.int a), some (.int f), some (.lst ((rowL c d a b f g).map (pcO C))), some (.int st), some (.int sp), some (.int e), some (.int (a + b * st)), some (.int (c - st)), some (.int (P.map (·.2)).sum), some (.lst ((highsL a b c f g e).map .int)), some (.lst ((lowsL a b f st e).map .int)), some (.int x), some (.int (atMost P x)), some (.int r), some (.int v), some (.int (atMost P v)), some (.int (atMost P (v - 1)))]) ?_ ?_
  · repeat' (first
    | exact absurd ‹false = true› (by decide)
    | exact absurd ‹true = false› (by decide)
    | walk_at "way by rule"
    | refine ⟨_, _, _, _, rfl, b0, by omega, ?_⟩
    | refine ⟨_, _, _, _, rfl, g0, by omega, ?_⟩
    | walk_at "way by form"
    | fail)
    all_goals (rw [pmost (v - 1)]; rfl)
  rintro ds' n18 ⟨rfl, rfl⟩
  obtain ⟨v1, v2⟩ := hv
  repeat' (first
    | exact absurd ‹false = true› (by decide)
    | exact absurd ‹true = false› (by decide)
    | with_reducible refine e_makeQ ?_
    | (refine cA (quest_rank (by omega) (by omega) s0 (by omega) (by omega)) (fun u hr => ?_); obtain rfl := ans_few hr (by omega))
    | with_reducible refine rd_isN ?_
    | walk_at "way by rule"
    | refine ⟨_, _, _, _, rfl, quest_rank (by omega) (by omega) s0 (by omega) (by omega), ?_⟩
    | walk_at "way by form"
    | fail)
  all_goals first
    | exact absurd v1 (of_decide_eq_false ‹decide (atMost P (v - 1) < r) = false›)
    | exact absurd v2 (of_decide_eq_false ‹decide (r ≤ atMost P v) = false›)
    | exact kup_of (hk _ (by omega))
end
end K43
set_option Elab.async false
set_option maxRecDepth 100000
set_option maxHeartbeats 8000000
set_option linter.all false
set_option autoImplicit false
/-! the law's own: cuts behind one another -/
namespace K43
variable [DW.Tb]
open PySem PySem.Spec PyProof.Rows L2 DW
abbrev partsSp : DSpW := fun w es n k => ∃ (p : Addr), w = some p ∧ es = [.raw (.ref p)] ∧ n < 2 ^ 18 ∧ ∀ n', n' ≤ n + 90 → k (.bl true) n'
theorem oD_own (o : Option Int) : isOwn (oD o) = false := by cases o <;> rfl
theorem lows_eq (ps : List Pc) (e1 e2 e3 : Int) (l : List (Option D)) : l.set 8 (some (.lst ((cutsL e1 e2 e3).map fun q => oD (lowV (partF ps q.1 q.2))))) = l.set 8 (some (.lst ((lowsP ps e1 e2 e3).map oD))) := by
  unfold lowsP
  rw [List.map_map]
  rfl
theorem highs_eq (ps : List Pc) (e1 e2 e3 : Int) (l : List (Option D)) : l.set 9 (some (.lst ((cutsL e1 e2 e3).map fun q => oD (highV (partF ps q.1 q.2))))) = l.set 9 (some (.lst ((highsP ps e1 e2 e3).map oD))) := by
  unfold highsP
  rw [List.map_map]
  rfl
theorem filt_some : ∀ os : List (Option Int), (os.filter Option.isSome).map oD = (os.filterMap id).map .int
  | [] => rfl
  | none :: os => by rw [List.filter_cons_of_neg (by decide), filt_some os]; rfl
  | some x :: os => by
    rw [List.filter_cons_of_pos (by simp), List.map_cons, filt_some os]
    rfl
section
variable {K : PySem.W.Frag} {w : Option Addr} {n : Nat} {k : Kn} {es : List D} {C CQ p : Addr} {ds : List (Option D)}
theorem e_makeA {tA : TA} (h : WpA K w tA ds n fun es n1 => ∃ kind num st sp ms, es = [.str kind, num, .int st, .int sp, .lst (ms.map .int)] ∧ Quest kind num st sp (some ms) ∧ k (questionD C kind num st sp (some ms)) n1) : WpE K w (tMake C (initSp K C gQ) [] E0 tA) ds n k :=
  e_make fun S H0 σ H Q re ok p => h S H0 σ H Q re ok fun vs H' es n' ⟨kind, num, st, sp, ms, e, hq, hk⟩ pr ok' r => p vs H' es n' ⟨QN, _, ⟨kind, num, st, sp, some ms, e, hq, rfl, rfl⟩, hk⟩ pr ok' r
theorem rc_sumF {l : List Int} {P : Int → Bool} {f : Int → Int} (hk : k (.int ((l.filter P).map f).sum) n) : RC K w (rSumU K) [.lst ((l.filter P).map fun z => D.int (f z))] n k := by
  have e : ((l.filter P).map fun z => D.int (f z)) = ((l.filter P).map f).map D.int := by rw [List.map_map]; rfl
  rw [e]
  exact rc_sum hk
theorem rd_ixNum {ns : List Int} {i : Int} (h : 1 ≤ ns.length) (hk : k (.int (numAt true ns i)) n) : RD K w (rIx K) (.lst (ns.map .int)) (.int (i % ((ns.map D.int).length : Int))) n k := by
  rw [List.length_map]
  have h1 := Int.emod_nonneg i (show (ns.length : Int) ≠ 0 by omega)
  have h2 := Int.emod_lt_of_pos i (show (0 : Int) < ns.length by omega)
  refine rd_ixIntsX ⟨⟨h1, h2⟩, fun z hz hg => ?_⟩
  have e : numAt true ns i = z := by
    unfold numAt
    rw [if_pos rfl, List.getD_eq_getElem?_getD, hg]
    rfl
  rw [← e]
  exact hk
theorem e_sorted3 (h0 : ds[0]? = some (some (.raw (.ref p)))) (hn : n < 2 ^ 19) (hk : ∀ e1 e2 e3 : Int, ∀ n', n' ≤ n + 3 → 0 ≤ e1 → e1 ≤ e2 → e2 ≤ e3 → e3 < 2 ^ 36 → k (.lst [.int e1, .int e2, .int e3]) n') :
    WpE K (some p) (tCB (rSortedI K) (tCons (tLc (iRng1 (tCons (tC (.int 3)) tNil)) (gName 13) tYes (tCall (toSp K drawSp) [] E0 (tCons (tVar 0) (tCons (tOp (rI CPow fun i j => .int (i ^ j.toNat)) (tC (.int 2)) (tC (.int 36))) tNil))) [13]) tNil)) ds n k := by
  refine e_cb (a_cons (e_lcInts (P := fun z => 0 ≤ z ∧ z < 2 ^ 36) 1 (i_rng1 (a_cons (e_int (a_nil ⟨3, rfl, by decide, by decide, ?_⟩))))))
  refine ⟨by rw [rgD_len]; decide, fun q x n5 hx hn5 => ?_, fun ns hl hb n5 hn5 => ?_⟩
  · obtain ⟨hq, rfl⟩ := rgD_get hx
    have hq : q < 3 := hq
    have h0' : (ds.set 13 (some (.int (0 + (q : Nat)))))[0]? = some (some (.raw (.ref p))) := by
      rw [List.getElem?_set]; simpa using h0
    refine ⟨rfl, ?_⟩
    refine e_call (a_cons (e_var h0' (a_cons (e_op (e_int (e_int (rd_powL (v := 68719476736) (by decide +kernel) (by decide) (a_nil ?_))))))))
    exact ⟨p, _, rfl, rfl, by decide, by decide, by omega, fun y y0 y1 => ⟨y, rfl, ⟨y0, by omega⟩, Nat.le_refl _⟩⟩
  · rw [rgD_len] at hn5 hl
    have hl : ns.length = 3 := hl
    have hn5 : n5 ≤ n + 1 * 3 := hn5
    refine a_nil (rc_sorted fun ms hp hs => ?_)
    have lm : ms.length = 3 := by rw [hp.length_eq]; exact hl
    match ms, lm with
    | [e1, e2, e3], _ =>
      have b1 := hb e1 (hp.mem_iff.mp (by simp))
      have b3 := hb e3 (hp.mem_iff.mp (by simp))
      simp at hs
      exact hk e1 e2 e3 n5 (by omega) b1.1 hs.1.1 hs.2 b3.2
theorem w__law_parts_right (h : partsSp w es n k) : WpS K w (r__law_parts_right K (toSp K drawSp) C (initSp K C gX) (toSp K (ansSp C CQ)) CQ (initSp K CQ gQ) [V.non]) (dstart ["pen", "numbers", "row", "ends", "cuts", "kind", "number", "parts", "lows", "highs", "whole", "some", "due", "turn", "start", "stop", "one", "moment"] es) n { nx := fun _ n' => kup k .non n', rt := kup k } := by
  obtain ⟨p, rfl, rfl, hn, hk⟩ := h
  unfold r__law_parts_right
  refine s_mid (mid := fun ds' n1 => n1 ≤ n + 9 ∧ ∃ ns : List Int, 1 ≤ ns.length ∧ ns.length ≤ 8 ∧ (∀ z ∈ ns, -49 ≤ z ∧ z ≤ 49) ∧ ds' = [some (.raw (.ref p)), some (.lst (ns.map .int)), none, none, none, none, none, none, none, none, none, none, none, none, none, none, none, none]) ?_ ?_
  · refine s_set (e_lcInts (P := fun z => -49 ≤ z ∧ z ≤ 49) 1 (i_rng1 ?_))
    repeat' (first
    | exact absurd ‹false = true› (by decide)
    | exact absurd ‹true = false› (by decide)
    | walk_at "way by rule"
    | (refine ⟨p, _, rfl, rfl, by omega, by omega, by omega, fun y y0 y1 => ?_⟩)
    | walk_at "way by form"
    | fail)
    refine ⟨by rw [rgD_len]; omega, fun q x n5 hx hn5 => ?_, fun ns hl hb n5 hn5 => ?_⟩
    · obtain ⟨hq, rfl⟩ := rgD_get hx
      refine ⟨rfl, ?_⟩
      repeat' (first
    | exact absurd ‹false = true› (by decide)
    | exact absurd ‹true = false› (by decide)
    | walk_at "way by rule"
    | (refine ⟨p, _, rfl, rfl, by omega, by omega, by omega, fun y y0 y1 => ?_⟩)
    | walk_at "way by form"
    | fail)
      all_goals first | exact ⟨⟨by omega, by omega⟩, Nat.le_refl _⟩ | exact Nat.le_refl _ | trace_state
    · rw [rgD_len] at hl hn5
      exact ⟨rfl, by omega, ns, by omega, by omega, hb, rfl⟩
  rintro ds' n1 ⟨hn1, ns, l1, l2, nb, rfl⟩
  refine s_mid (mid := fun ds' n2 => n2 ≤ n1 + 2 ∧ ∃ a b : Int, Parts ns a b ∧ ds' = [some (.raw (.ref p)), some (.lst (ns.map .int)), some (.lst ((rowP ns a b).map (pcO C))), none, none, none, none, none, none, none, none, none, none, none, none, none, none, none]) ?_ ?_
  · repeat' (first
    | exact absurd ‹false = true› (by decide)
    | exact absurd ‹true = false› (by decide)
    | with_reducible refine e_mkP ?_
    | (guard_target =~ RD _ _ (rI _ _) _ _ _ _; first | with_reducible refine rd_powL (v := 4294967296) (by decide +kernel) (by decide) ?_ | with_reducible refine rd_powL (v := 1000000000) (by decide +kernel) (by decide) ?_ | with_reducible refine rd_powL (v := 100000) (by decide +kernel) (by decide) ?_ | with_reducible refine rd_powL (v := 1099511627776) (by decide +kernel) (by decide) ?_ | with_reducible refine rd_powL (v := 68719476736) (by decide +kernel) (by decide) ?_ | with_reducible refine rd_powL (v := 1073741824) (by decide +kernel) (by decide) ?_ | with_reducible refine rd_powL (v := 2199023255552) (by decide +kernel) (by decide) ?_ | with_reducible refine rd_powL (v := 8589934592) (by decide +kernel) (by decide) ?_ | with_reducible refine rd_powL (v := 1048576) (by decide +kernel) (by decide) ?_ | with_reducible refine rd_powL (v := 4096) (by decide +kernel) (by decide) ?_ | with_reducible refine rd_powL (v := 34359738368) (by decide +kernel) (by decide) ?_ | with_reducible refine rd_powL (v := 17179869184) (by decide +kernel) (by decide) ?_ | with_reducible refine rd_powL (v := 1000000) (by decide +kernel) (by decide) ?_ | with_reducible refine rd_powL (v := 10000) (by decide +kernel) (by decide) ?_ | with_reducible refine rd_powL (v := 549755813888) (by decide +kernel) (by decide) ?_ | with_reducible refine rd_powL (v := 100000000000) (by decide +kernel) (by decide) ?_ | with_reducible refine rd_powL (v := 10000000000) (by decide +kernel) (by decide) ?_ | with_reducible refine rd_powL (v := 1000) (by decide +kernel) (by decide) ?_ | with_reducible refine rd_powL (v := 2147483648) (by decide +kernel) (by decide) ?_)
    | walk_at "way by rule"
    | (refine ⟨p, _, rfl, rfl, by omega, by omega, by omega, fun y y0 y1 => ?_⟩)
    | refine ⟨perP ns, _, rfl, .inl rfl, (by show ns.length ≤ 100000; omega), ?_⟩
    | refine ⟨curP _ _, _, rfl, .inl rfl, (by show 3 ≤ 100000; decide), ?_⟩
    | walk_at "way by form"
    | fail)
    all_goals exact ⟨_, _, ⟨l1, l2, nb, by assumption, by omega, by omega, by omega⟩, rfl⟩
  rintro ds' n2 ⟨hn2, a, b, P, rfl⟩
  refine s_mid (mid := fun ds' n3 => n3 ≤ n2 + 3 ∧ ∃ e1 e2 e3 : Int, 0 ≤ e1 ∧ e1 ≤ e2 ∧ e2 ≤ e3 ∧ e3 < 2 ^ 36 ∧ ds' = [some (.raw (.ref p)), some (.lst (ns.map .int)), some (.lst ((rowP ns a b).map (pcO C))), some (.lst [.int 0, .int e1, .int e2, .int e3, .int (2 ^ 40)]), none, none, none, none, none, none, none, none, none, none, none, none, none, none]) ?_ ?_
  · repeat' (first
    | exact absurd ‹false = true› (by decide)
    | exact absurd ‹true = false› (by decide)
    | refine e_sorted3 rfl (by omega) (fun e1 e2 e3 n6 hn6 q0 q1 q2 q3 => ?_)
    | (guard_target =~ RD _ _ (rI _ _) _ _ _ _; first | with_reducible refine rd_powL (v := 4294967296) (by decide +kernel) (by decide) ?_ | with_reducible refine rd_powL (v := 1000000000) (by decide +kernel) (by decide) ?_ | with_reducible refine rd_powL (v := 100000) (by decide +kernel) (by decide) ?_ | with_reducible refine rd_powL (v := 1099511627776) (by decide +kernel) (by decide) ?_ | with_reducible refine rd_powL (v := 68719476736) (by decide +kernel) (by decide) ?_ | with_reducible refine rd_powL (v := 1073741824) (by decide +kernel) (by decide) ?_ | with_reducible refine rd_powL (v := 2199023255552) (by decide +kernel) (by decide) ?_ | with_reducible refine rd_powL (v := 8589934592) (by decide +kernel) (by decide) ?_ | with_reducible refine rd_powL (v := 1048576) (by decide +kernel) (by decide) ?_ | with_reducible refine rd_powL (v := 4096) (by decide +kernel) (by decide) ?_ | with_reducible refine rd_powL (v := 34359738368) (by decide +kernel) (by decide) ?_ | with_reducible refine rd_powL (v := 17179869184) (by decide +kernel) (by decide) ?_ | with_reducible refine rd_powL (v := 1000000) (by decide +kernel) (by decide) ?_ | with_reducible refine rd_powL (v := 10000) (by decide +kernel) (by decide) ?_ | with_reducible refine rd_powL (v := 549755813888) (by decide +kernel) (by decide) ?_ | with_reducible refine rd_powL (v := 100000000000) (by decide +kernel) (by decide) ?_ | with_reducible refine rd_powL (v := 10000000000) (by decide +kernel) (by decide) ?_ | with_reducible refine rd_powL (v := 1000) (by decide +kernel) (by decide) ?_ | with_reducible refine rd_powL (v := 2147483648) (by decide +kernel) (by decide) ?_)
    | walk_at "way by rule"
    | walk_at "way by form"
    | fail)
    all_goals exact ⟨_, _, _, q0, q1, q2, q3, rfl⟩
  rintro ds' n3 ⟨hn3, e1, e2, e3, q0, q1, q2, q3, rfl⟩
  refine s_mid (mid := fun ds' n4 => n4 = n3 ∧ ds' = [some (.raw (.ref p)), some (.lst (ns.map .int)), some (.lst ((rowP ns a b).map (pcO C))), some (.lst [.int 0, .int e1, .int e2, .int e3, .int (2 ^ 40)]), some (.lst ((cutsL e1 e2 e3).map fun x => .tup [.int x.1, .int x.2])), none, none, none, none, none, none, none, none, none, none, none, none, none]) ?_ ?_
  · repeat' (first
    | exact absurd ‹false = true› (by decide)
    | exact absurd ‹true = false› (by decide)
    | with_reducible refine e_listZip ?_
    | walk_at "way by rule"
    | refine ⟨_, _, rfl, by simp, ?_⟩
    | refine And.intro (rfl : isOwn (D.lst _) = false) ?_
    | walk_at "way by form"
    | fail)
    all_goals rfl
  rintro ds' n4 ⟨rfl, rfl⟩
  have trow := P.row
  have cA : ∀ {k : Kn} {n : Nat} {kind : Str} {num : D} {st sp : Int}, Quest kind num st sp none → (∀ r, AnsOf kind num (partF (rowP ns a b) st sp) r → k r n) → ansSp C CQ (some p) [.lst ((rowP ns a b).map (pcO C)), questionD CQ kind num st sp none] n k := fun {k n kind num st sp} h1 h2 => call_ans trow h1 h2
  have four : ∀ {kind : Str} {num : D} {f : List Pt → Int}, Addi kind num f → ((cutsL e1 e2 e3).map fun q => f (partF (rowP ns a b) q.1 q.2)).sum = f (partF (rowP ns a b) 0 1099511627776) := fun A => addi_four A trow q0 q1 q2 (by omega)
  have fl : ((cutsL e1 e2 e3).map fun q => lowV (partF (rowP ns a b) q.1 q.2)).foldr optMin none = lowV (partF (rowP ns a b) 0 1099511627776) := lows_four trow q0 q1 q2 (by omega)
  have fh : ((cutsL e1 e2 e3).map fun q => highV (partF (rowP ns a b) q.1 q.2)).foldr optMax none = highV (partF (rowP ns a b) 0 1099511627776) := highs_four trow q0 q1 q2 (by omega)
  have hne : partF (rowP ns a b) 0 1099511627776 ≠ [] := by
    have h := P.nonempty
    rw [← whole_part trow] at h
    exact h
  have ptop : ∀ z ∈ ns, ∀ m, highV (partF (rowP ns a b) 0 1099511627776) = some m → z ≤ m := fun z hz m => P.top hz
  generalize partF (rowP ns a b) = F at cA four fl fh hne ptop
  have cuts : ∀ z ∈ cutsL e1 e2 e3, 0 ≤ z.1 ∧ z.1 ≤ z.2 ∧ z.2 ≤ 2 ^ 40 := fun z hz => by
    unfold cutsL at hz
    simp only [List.mem_cons, List.not_mem_nil, or_false] at hz
    rcases hz with rfl | rfl | rfl | rfl
    · exact ⟨by show (0 : Int) ≤ 0; omega, by show 0 ≤ e1; omega, by show e1 ≤ 2 ^ 40; omega⟩
    · exact ⟨by show 0 ≤ e1; omega, by show e1 ≤ e2; omega, by show e2 ≤ 2 ^ 40; omega⟩
    · exact ⟨by show 0 ≤ e2; omega, by show e2 ≤ e3; omega, by show e3 ≤ 2 ^ 40; omega⟩
    · exact ⟨by show 0 ≤ e3; omega, by show e3 ≤ 2 ^ 40; omega, by show (2 : Int) ^ 40 ≤ 2 ^ 40; omega⟩
  have clen : (cutsL e1 e2 e3).length ≤ 100000 := by unfold cutsL; simp
  refine s_mid (mid := fun ds' n5 => n5 ≤ n4 + 1 ∧ ∃ v5 v6 v7, ds' = [some (.raw (.ref p)), some (.lst (ns.map .int)), some (.lst ((rowP ns a b).map (pcO C))), some (.lst [.int 0, .int e1, .int e2, .int e3, .int (2 ^ 40)]), some (.lst ((cutsL e1 e2 e3).map fun x => .tup [.int x.1, .int x.2])), v5, v6, v7, none, none, none, none, none, none, none, none, none, none]) (s_for (i_list ?_)) ?_
  · repeat' (first
    | exact absurd ‹false = true› (by decide)
    | exact absurd ‹true = false› (by decide)
    | (guard_target =~ RD _ _ (rI _ _) _ _ _ _; first | with_reducible refine rd_powL (v := 4294967296) (by decide +kernel) (by decide) ?_ | with_reducible refine rd_powL (v := 1000000000) (by decide +kernel) (by decide) ?_ | with_reducible refine rd_powL (v := 100000) (by decide +kernel) (by decide) ?_ | with_reducible refine rd_powL (v := 1099511627776) (by decide +kernel) (by decide) ?_ | with_reducible refine rd_powL (v := 68719476736) (by decide +kernel) (by decide) ?_ | with_reducible refine rd_powL (v := 1073741824) (by decide +kernel) (by decide) ?_ | with_reducible refine rd_powL (v := 2199023255552) (by decide +kernel) (by decide) ?_ | with_reducible refine rd_powL (v := 8589934592) (by decide +kernel) (by decide) ?_ | with_reducible refine rd_powL (v := 1048576) (by decide +kernel) (by decide) ?_ | with_reducible refine rd_powL (v := 4096) (by decide +kernel) (by decide) ?_ | with_reducible refine rd_powL (v := 34359738368) (by decide +kernel) (by decide) ?_ | with_reducible refine rd_powL (v := 17179869184) (by decide +kernel) (by decide) ?_ | with_reducible refine rd_powL (v := 1000000) (by decide +kernel) (by decide) ?_ | with_reducible refine rd_powL (v := 10000) (by decide +kernel) (by decide) ?_ | with_reducible refine rd_powL (v := 549755813888) (by decide +kernel) (by decide) ?_ | with_reducible refine rd_powL (v := 100000000000) (by decide +kernel) (by decide) ?_ | with_reducible refine rd_powL (v := 10000000000) (by decide +kernel) (by decide) ?_ | with_reducible refine rd_powL (v := 1000) (by decide +kernel) (by decide) ?_ | with_reducible refine rd_powL (v := 2147483648) (by decide +kernel) (by decide) ?_)
    | walk_at "way by rule"
    | (refine ⟨p, _, rfl, rfl, by omega, by omega, by omega, fun y y0 y1 => ?_⟩)
    | walk_at "way by form"
    | fail)
    refine ⟨fun i ds1 n' => n' = n4 + 1 ∧ ∃ v5 v6 v7, ds1 = [some (.raw (.ref p)), some (.lst (ns.map .int)), some (.lst ((rowP ns a b).map (pcO C))), some (.lst [.int 0, .int e1, .int e2, .int e3, .int (2 ^ 40)]), some (.lst ((cutsL e1 e2 e3).map fun x => .tup [.int x.1, .int x.2])), v5, v6, v7, none, none, none, none, none, none, none, none, none, none], ⟨rfl, none, none, none, rfl⟩, ?_, ?_⟩
    · rintro i x ds1 n' hx ⟨rfl, v5, v6, v7, rfl⟩
      obtain ⟨kind, num, f, rfl, A, Qk, hno⟩ : ∃ (kind : Str) (num : D) (f : List Pt → Int), x = .tup [.str kind, num] ∧ Addi kind num f ∧ (∀ st sp, 0 ≤ st → st ≤ sp → sp ≤ 2 ^ 40 → Quest kind num st sp none) ∧ isOwn num = false := by
        rcases i with _ | _ | _ | i
        · cases hx; exact ⟨_, _, _, rfl, addi_count, fun st sp h1 h2 h3 => quest_non (by decide +kernel) (by decide +kernel) (by decide +kernel) h1 h2 h3, rfl⟩
        · cases hx; exact ⟨_, _, _, rfl, addi_sum, fun st sp h1 h2 h3 => quest_non (by decide +kernel) (by decide +kernel) (by decide +kernel) h1 h2 h3, rfl⟩
        · cases hx; exact ⟨_, _, _, rfl, addi_most y, fun st sp h1 h2 h3 => quest_most (by omega) (by omega) h1 h2 h3, rfl⟩
        · simp at hx
      have sumE := four A
      refine ⟨_, _, g_tup (gs_cons g_name (gs_cons (g_name (ho := hno)) gs_nil)) rfl, ?_⟩
      refine s_mid (mid := fun ds' n6 => n6 = n4 + 1 ∧ ds' = [some (.raw (.ref p)), some (.lst (ns.map .int)), some (.lst ((rowP ns a b).map (pcO C))), some (.lst [.int 0, .int e1, .int e2, .int e3, .int (2 ^ 40)]), some (.lst ((cutsL e1 e2 e3).map fun x => .tup [.int x.1, .int x.2])), some (.str kind), some (num), some (.lst (((cutsL e1 e2 e3).map fun q => f (F q.1 q.2)).map .int)), none, none, none, none, none, none, none, none, none, none]) ?_ ?_
      · repeat' (first
    | exact absurd ‹false = true› (by decide)
    | exact absurd ‹true = false› (by decide)
    | (have cz := cuts _ ‹_ ∈ cutsL e1 e2 e3›; with_reducible refine e_makeQ ?_)
    | (refine cA (Qk _ _ cz.1 cz.2.1 cz.2.2) (fun r hr => ?_); obtain rfl := A.det _ _ hr)
    | (guard_target =~ WpE _ _ _ _ _ _; first | ((with_reducible refine e_lcG2X ⟨fun q : Int × Int => .int q.1, fun q => .int q.2, fun _ => true, fun q => .int (f (F q.1 q.2)), fun _ => rfl, fun _ => rfl, by decide, ?_⟩); refine i_listV ⟨_, rfl, ?_⟩) | ((with_reducible refine e_varX ?_); refine ⟨_, rfl, hno, ?_⟩))
    | walk_at "way by rule"
    | refine ⟨cutsL e1 e2 e3, rfl, clen, fun z hz => ?_, ?_⟩
    | refine ⟨_, _, _, _, rfl, Qk _ _ cz.1 cz.2.1 cz.2.2, ?_⟩
    | walk_at "way by form"
    | fail)
        all_goals first
          | (rw [map_yes, List.map_map]; rfl)
          | exact ⟨rfl, rfl⟩
          | trace_state
      rintro ds' n6 ⟨rfl, rfl⟩
      repeat' (first
    | exact absurd ‹false = true› (by decide)
    | exact absurd ‹true = false› (by decide)
    | with_reducible refine e_makeQ ?_
    | (refine cA (Qk _ _ (by omega) (by omega) (by omega)) (fun r hr => ?_); obtain rfl := A.det _ _ hr)
    | with_reducible refine ne_sameI ?_
    | ((with_reducible refine e_varX ?_); refine ⟨_, rfl, hno, ?_⟩)
    | (guard_target =~ RD _ _ (rI _ _) _ _ _ _; first | with_reducible refine rd_powL (v := 4294967296) (by decide +kernel) (by decide) ?_ | with_reducible refine rd_powL (v := 1000000000) (by decide +kernel) (by decide) ?_ | with_reducible refine rd_powL (v := 100000) (by decide +kernel) (by decide) ?_ | with_reducible refine rd_powL (v := 1099511627776) (by decide +kernel) (by decide) ?_ | with_reducible refine rd_powL (v := 68719476736) (by decide +kernel) (by decide) ?_ | with_reducible refine rd_powL (v := 1073741824) (by decide +kernel) (by decide) ?_ | with_reducible refine rd_powL (v := 2199023255552) (by decide +kernel) (by decide) ?_ | with_reducible refine rd_powL (v := 8589934592) (by decide +kernel) (by decide) ?_ | with_reducible refine rd_powL (v := 1048576) (by decide +kernel) (by decide) ?_ | with_reducible refine rd_powL (v := 4096) (by decide +kernel) (by decide) ?_ | with_reducible refine rd_powL (v := 34359738368) (by decide +kernel) (by decide) ?_ | with_reducible refine rd_powL (v := 17179869184) (by decide +kernel) (by decide) ?_ | with_reducible refine rd_powL (v := 1000000) (by decide +kernel) (by decide) ?_ | with_reducible refine rd_powL (v := 10000) (by decide +kernel) (by decide) ?_ | with_reducible refine rd_powL (v := 549755813888) (by decide +kernel) (by decide) ?_ | with_reducible refine rd_powL (v := 100000000000) (by decide +kernel) (by decide) ?_ | with_reducible refine rd_powL (v := 10000000000) (by decide +kernel) (by decide) ?_ | with_reducible refine rd_powL (v := 1000) (by decide +kernel) (by decide) ?_ | with_reducible refine rd_powL (v := 2147483648) (by decide +kernel) (by decide) ?_)
    | (with_reducible refine rc_sum ?_; rw [sumE])
    | walk_at "way by rule"
    | refine ⟨_, _, _, _, rfl, Qk _ _ (by omega) (by omega) (by omega), ?_⟩
    | walk_at "way by form"
    | fail)
      all_goals first | exact ⟨rfl, _, _, _, rfl⟩ | exact ⟨_, _, _, rfl⟩ | trace_state
    · rintro ds1 n' ⟨rfl, v5, v6, v7, rfl⟩
      exact ⟨by omega, v5, v6, v7, rfl⟩
  rintro ds' n5 ⟨hn5, v5, v6, v7, rfl⟩
  refine s_mid (mid := fun ds' n6 => n6 = n5 ∧ ds' = [some (.raw (.ref p)), some (.lst (ns.map .int)), some (.lst ((rowP ns a b).map (pcO C))), some (.lst [.int 0, .int e1, .int e2, .int e3, .int (2 ^ 40)]), some (.lst ((cutsL e1 e2 e3).map fun x => .tup [.int x.1, .int x.2])), v5, v6, v7, some (.lst (((cutsL e1 e2 e3).map fun q => lowV (F q.1 q.2)).map oD)), none, none, none, none, none, none, none, none, none]) ?_ ?_
  · repeat' (first
    | exact absurd ‹false = true› (by decide)
    | exact absurd ‹true = false› (by decide)
    | (have cz := cuts _ ‹_ ∈ cutsL e1 e2 e3›; with_reducible refine e_makeQ ?_)
    | (refine cA (quest_non (by decide +kernel) (by decide +kernel) (by decide +kernel) cz.1 cz.2.1 cz.2.2) (fun r hr => ?_); obtain rfl := ans_least hr)
    | ((with_reducible refine e_lcG2X ⟨fun q : Int × Int => .int q.1, fun q => .int q.2, fun _ => true, fun q => oD (lowV (F q.1 q.2)), fun _ => rfl, fun _ => rfl, by decide, ?_⟩); refine i_listV ⟨_, rfl, ?_⟩)
    | walk_at "way by rule"
    | refine ⟨cutsL e1 e2 e3, rfl, clen, fun z hz => ?_, ?_⟩
    | refine ⟨_, _, _, _, rfl, quest_non (by decide +kernel) (by decide +kernel) (by decide +kernel) cz.1 cz.2.1 cz.2.2, ?_⟩
    | walk_at "way by form"
    | fail)
    all_goals first | (rw [map_yes]; rw [List.map_map]; rfl) | exact ⟨rfl, rfl⟩ | trace_state
  rintro ds' n6 ⟨rfl, rfl⟩
  refine s_mid (mid := fun ds' n7 => n7 = n6 ∧ ds' = [some (.raw (.ref p)), some (.lst (ns.map .int)), some (.lst ((rowP ns a b).map (pcO C))), some (.lst [.int 0, .int e1, .int e2, .int e3, .int (2 ^ 40)]), some (.lst ((cutsL e1 e2 e3).map fun x => .tup [.int x.1, .int x.2])), v5, v6, v7, some (.lst (((cutsL e1 e2 e3).map fun q => lowV (F q.1 q.2)).map oD)), some (.lst (((cutsL e1 e2 e3).map fun q => highV (F q.1 q.2)).map oD)), none, none, none, none, none, none, none, none]) ?_ ?_
  · repeat' (first
    | exact absurd ‹false = true› (by decide)
    | exact absurd ‹true = false› (by decide)
    | (have cz := cuts _ ‹_ ∈ cutsL e1 e2 e3›; with_reducible refine e_makeQ ?_)
    | (refine cA (quest_non (by decide +kernel) (by decide +kernel) (by decide +kernel) cz.1 cz.2.1 cz.2.2) (fun r hr => ?_); obtain rfl := ans_great hr)
    | ((with_reducible refine e_lcG2X ⟨fun q : Int × Int => .int q.1, fun q => .int q.2, fun _ => true, fun q => oD (highV (F q.1 q.2)), fun _ => rfl, fun _ => rfl, by decide, ?_⟩); refine i_listV ⟨_, rfl, ?_⟩)
    | walk_at "way by rule"
    | refine ⟨cutsL e1 e2 e3, rfl, clen, fun z hz => ?_, ?_⟩
    | refine ⟨_, _, _, _, rfl, quest_non (by decide +kernel) (by decide +kernel) (by decide +kernel) cz.1 cz.2.1 cz.2.2, ?_⟩
    | walk_at "way by form"
    | fail)
    all_goals first | (rw [map_yes]; rw [List.map_map]; rfl) | exact ⟨rfl, rfl⟩ | trace_state
  rintro ds' n7 ⟨rfl, rfl⟩
  have ll : ((cutsL e1 e2 e3).map fun q => lowV (F q.1 q.2)).length ≤ 100000 := by unfold cutsL; simp
  have lh : ((cutsL e1 e2 e3).map fun q => highV (F q.1 q.2)).length ≤ 100000 := by unfold cutsL; simp
  obtain ⟨lo, hlo⟩ : ∃ lo, lowV (F 0 1099511627776) = some lo := by
    cases hq : lowV (F 0 1099511627776) with
    | none => exact absurd (lowV_none.mp hq) hne
    | some lo => exact ⟨lo, rfl⟩
  obtain ⟨hi, hhi⟩ : ∃ hi, highV (F 0 1099511627776) = some hi := by
    cases hq : highV (F 0 1099511627776) with
    | none => exact absurd (highV_none.mp hq) hne
    | some hi => exact ⟨hi, rfl⟩
  rw [hlo] at fl
  rw [hhi] at fh
  have ptop : ∀ z ∈ ns, z ≤ hi := fun z hz => ptop z hz hi hhi
  generalize ((cutsL e1 e2 e3).map fun q => lowV (F q.1 q.2)) = lows at *
  generalize ((cutsL e1 e2 e3).map fun q => highV (F q.1 q.2)) = highs at *
  have nl : 0 < (lows.filterMap id).length := List.length_pos_iff.mpr fun z => by rw [fold_min_none z] at fl; cases fl
  have nh : 0 < (highs.filterMap id).length := List.length_pos_iff.mpr fun z => by rw [fold_max_none z] at fh; cases fh
  refine s_mid (mid := fun ds' n8 => n8 = n7 ∧ ds' = [some (.raw (.ref p)), some (.lst (ns.map .int)), some (.lst ((rowP ns a b).map (pcO C))), some (.lst [.int 0, .int e1, .int e2, .int e3, .int (2 ^ 40)]), some (.lst ((cutsL e1 e2 e3).map fun x => .tup [.int x.1, .int x.2])), v5, v6, v7, some (.lst ((lows.filterMap id).map .int)), some (.lst ((highs.filterMap id).map .int)), none, none, none, none, none, none, none, none]) ?_ ?_
  · repeat' (first
    | exact absurd ‹false = true› (by decide)
    | exact absurd ‹true = false› (by decide)
    | (rcases z with _ | v)
    | (guard_target =~ WpE _ _ _ _ _ _; first | ((with_reducible refine e_lcGX ⟨oD, Option.isSome, oD, oD_own, ?_⟩); refine i_listV ⟨_, rfl, ?_⟩) | ((with_reducible refine e_varX ?_); refine ⟨_, rfl, oD_own _, ?_⟩))
    | (guard_target =~ RD _ _ _ _ _ _ _; first | with_reducible refine rd_isNNn ?_ | with_reducible refine rd_isNT ?_)
    | walk_at "way by rule"
    | refine ⟨lows, rfl, ll, fun z hz => ?_, ?_⟩
    | refine ⟨highs, rfl, lh, fun z hz => ?_, ?_⟩
    | walk_at "way by form"
    | fail)
    all_goals first | (rw [filt_some, filt_some]; rfl) | exact ⟨rfl, rfl⟩ | trace_state
  rintro ds' n8 ⟨rfl, rfl⟩
  refine s_mid (mid := fun ds' n9 => n9 = n8 ∧ ds' = [some (.raw (.ref p)), some (.lst (ns.map .int)), some (.lst ((rowP ns a b).map (pcO C))), some (.lst [.int 0, .int e1, .int e2, .int e3, .int (2 ^ 40)]), some (.lst ((cutsL e1 e2 e3).map fun x => .tup [.int x.1, .int x.2])), v5, v6, v7, some (.lst ((lows.filterMap id).map .int)), some (.lst ((highs.filterMap id).map .int)), some (.lst [.int lo, .int hi]), none, none, none, none, none, none, none]) ?_ ?_
  · repeat' (first
    | exact absurd ‹false = true› (by decide)
    | exact absurd ‹true = false› (by decide)
    | with_reducible refine e_makeQ ?_
    | (refine cA (quest_non (by decide +kernel) (by decide +kernel) (by decide +kernel) (by omega) (by omega) (by omega)) (fun r hr => ?_); first | rw [ans_least hr, hlo] | rw [ans_great hr, hhi])
    | (guard_target =~ RD _ _ (rI _ _) _ _ _ _; first | with_reducible refine rd_powL (v := 4294967296) (by decide +kernel) (by decide) ?_ | with_reducible refine rd_powL (v := 1000000000) (by decide +kernel) (by decide) ?_ | with_reducible refine rd_powL (v := 100000) (by decide +kernel) (by decide) ?_ | with_reducible refine rd_powL (v := 1099511627776) (by decide +kernel) (by decide) ?_ | with_reducible refine rd_powL (v := 68719476736) (by decide +kernel) (by decide) ?_ | with_reducible refine rd_powL (v := 1073741824) (by decide +kernel) (by decide) ?_ | with_reducible refine rd_powL (v := 2199023255552) (by decide +kernel) (by decide) ?_ | with_reducible refine rd_powL (v := 8589934592) (by decide +kernel) (by decide) ?_ | with_reducible refine rd_powL (v := 1048576) (by decide +kernel) (by decide) ?_ | with_reducible refine rd_powL (v := 4096) (by decide +kernel) (by decide) ?_ | with_reducible refine rd_powL (v := 34359738368) (by decide +kernel) (by decide) ?_ | with_reducible refine rd_powL (v := 17179869184) (by decide +kernel) (by decide) ?_ | with_reducible refine rd_powL (v := 1000000) (by decide +kernel) (by decide) ?_ | with_reducible refine rd_powL (v := 10000) (by decide +kernel) (by decide) ?_ | with_reducible refine rd_powL (v := 549755813888) (by decide +kernel) (by decide) ?_ | with_reducible refine rd_powL (v := 100000000000) (by decide +kernel) (by decide) ?_ | with_reducible refine rd_powL (v := 10000000000) (by decide +kernel) (by decide) ?_ | with_reducible refine rd_powL (v := 1000) (by decide +kernel) (by decide) ?_ | with_reducible refine rd_powL (v := 2147483648) (by decide +kernel) (by decide) ?_)
    | walk_at "way by rule"
    | refine ⟨_, _, _, _, rfl, quest_non (by decide +kernel) (by decide +kernel) (by decide +kernel) (by omega) (by omega) (by omega), ?_⟩
    | walk_at "way by form"
    | fail)
    all_goals rfl
  rintro ds' n9 ⟨rfl, rfl⟩
  refine s_mid (mid := fun ds' n10 => n10 = n9 ∧ ds' = [some (.raw (.ref p)), some (.lst (ns.map .int)), some (.lst ((rowP ns a b).map (pcO C))), some (.lst [.int 0, .int e1, .int e2, .int e3, .int (2 ^ 40)]), some (.lst ((cutsL e1 e2 e3).map fun x => .tup [.int x.1, .int x.2])), v5, v6, v7, some (.lst ((lows.filterMap id).map .int)), some (.lst ((highs.filterMap id).map .int)), some (.lst [.int lo, .int hi]), none, none, none, none, none, none, none]) ?_ ?_
  · repeat' (first
    | exact absurd ‹false = true› (by decide)
    | exact absurd ‹true = false› (by decide)
    | refine ne_sameL [_, _] rfl rfl ?_
    | (guard_target =~ RC _ _ _ _ _ _; first | (refine rc_minL nl (fun m hm1 hm2 => ?_); obtain rfl : m = lo := Option.some.inj ((optMin_spec hm1 hm2).symm.trans fl)) | (refine rc_maxL nh (fun m hm1 hm2 => ?_); obtain rfl : m = hi := Option.some.inj ((optMax_spec hm1 hm2).symm.trans fh)) | (refine rc_maxL (by omega) (fun x hx1 hx2 => ?_); have hx3 := ptop x hx1))
    | walk_at "way by rule"
    | walk_at "way by form"
    | fail)
    all_goals first
      | (have q := of_decide_eq_true ‹decide (_ < x) = true›; omega)
      | rfl
      | exact ⟨rfl, rfl⟩
      | trace_state
  rintro ds' n10 ⟨rfl, rfl⟩
  refine s_mid (mid := fun ds' n11 => n11 ≤ n10 + 60 ∧ ∃ ms : List Int, MomP ms ∧ Moments ms ∧ ds' = [some (.raw (.ref p)), some (.lst (ns.map .int)), some (.lst ((rowP ns a b).map (pcO C))), some (.lst [.int 0, .int e1, .int e2, .int e3, .int (2 ^ 40)]), some (.lst ((cutsL e1 e2 e3).map fun x => .tup [.int x.1, .int x.2])), v5, v6, v7, some (.lst ((lows.filterMap id).map .int)), some (.lst ((highs.filterMap id).map .int)), some (.lst [.int lo, .int hi]), some (.lst (ms.map .int)), none, none, none, none, none, none]) ?_ ?_
  · refine s_set (e_sortSet (e_lcInts (P := fun z => 5 ≤ z ∧ z ≤ 5 + 3 * (2 ^ 30 - 1) + 1) 2 (i_rng1 (a_cons (e_int (a_nil ⟨30, rfl, by decide, by decide, ?_⟩))))))
    refine ⟨by rw [rgD_len]; decide, fun q x n5 hx hn5 => ?_, fun zs hl hb n5 hn5 => ⟨zs, rfl, ?_, fun ms hs hm => ?_⟩⟩
    · obtain ⟨hq, rfl⟩ := rgD_get hx
      have hq : q < 30 := hq
      refine ⟨rfl, ?_⟩
      repeat' (first
    | exact absurd ‹false = true› (by decide)
    | exact absurd ‹true = false› (by decide)
    | (guard_target =~ RD _ _ (rI _ _) _ _ _ _; first | with_reducible refine rd_powL (v := 4294967296) (by decide +kernel) (by decide) ?_ | with_reducible refine rd_powL (v := 1000000000) (by decide +kernel) (by decide) ?_ | with_reducible refine rd_powL (v := 100000) (by decide +kernel) (by decide) ?_ | with_reducible refine rd_powL (v := 1099511627776) (by decide +kernel) (by decide) ?_ | with_reducible refine rd_powL (v := 68719476736) (by decide +kernel) (by decide) ?_ | with_reducible refine rd_powL (v := 1073741824) (by decide +kernel) (by decide) ?_ | with_reducible refine rd_powL (v := 2199023255552) (by decide +kernel) (by decide) ?_ | with_reducible refine rd_powL (v := 8589934592) (by decide +kernel) (by decide) ?_ | with_reducible refine rd_powL (v := 1048576) (by decide +kernel) (by decide) ?_ | with_reducible refine rd_powL (v := 4096) (by decide +kernel) (by decide) ?_ | with_reducible refine rd_powL (v := 34359738368) (by decide +kernel) (by decide) ?_ | with_reducible refine rd_powL (v := 17179869184) (by decide +kernel) (by decide) ?_ | with_reducible refine rd_powL (v := 1000000) (by decide +kernel) (by decide) ?_ | with_reducible refine rd_powL (v := 10000) (by decide +kernel) (by decide) ?_ | with_reducible refine rd_powL (v := 549755813888) (by decide +kernel) (by decide) ?_ | with_reducible refine rd_powL (v := 100000000000) (by decide +kernel) (by decide) ?_ | with_reducible refine rd_powL (v := 10000000000) (by decide +kernel) (by decide) ?_ | with_reducible refine rd_powL (v := 1000) (by decide +kernel) (by decide) ?_ | with_reducible refine rd_powL (v := 2147483648) (by decide +kernel) (by decide) ?_)
    | walk_at "way by rule"
    | (refine ⟨p, _, rfl, rfl, by omega, by omega, by omega, fun y y0 y1 => ?_⟩)
    | walk_at "way by form"
    | fail)
      all_goals first | exact ⟨_, rfl, ⟨by omega, by omega⟩, by omega⟩ | exact ⟨⟨by omega, by omega⟩, by omega⟩ | omega | trace_state
    · rw [rgD_len] at hl
      have hl : zs.length = 30 := hl
      omega
    · rw [rgD_len] at hn5 hl
      have hl : zs.length = 30 := hl
      have hn5 : n5 ≤ n10 + 2 * 30 := hn5
      have nd : ms.Nodup := hs.imp fun z => Int.ne_of_lt z
      have ml := List.Nodup.length_le_of_subset nd (l₂ := zs) fun y hy => (hm y).mp hy
      have mb : ∀ m ∈ ms, 5 ≤ m ∧ m ≤ 5 + 3 * (2 ^ 30 - 1) + 1 := fun m h => hb m ((hm m).mp h)
      exact ⟨rfl, by omega, ms, ⟨hs, mb⟩, ⟨by omega, fun i h => by have := mb i h; omega, hs⟩, rfl⟩
  rintro ds' n11 ⟨hn11, ms, M, M2, rfl⟩
  have m2 := M2.1
  refine s_mid (mid := fun ds' n12 => n12 = n11 ∧ ds' = [some (.raw (.ref p)), some (.lst (ns.map .int)), some (.lst ((rowP ns a b).map (pcO C))), some (.lst [.int 0, .int e1, .int e2, .int e3, .int (2 ^ 40)]), some (.lst ((cutsL e1 e2 e3).map fun x => .tup [.int x.1, .int x.2])), v5, v6, v7, some (.lst ((lows.filterMap id).map .int)), some (.lst ((highs.filterMap id).map .int)), some (.lst [.int lo, .int hi]), some (.lst (ms.map .int)), some (.int ((ms.filter hitB).map (hitV ns)).sum), none, none, none, none, none]) ?_ ?_
  · repeat' (first
    | exact absurd ‹false = true› (by decide)
    | exact absurd ‹true = false› (by decide)
    | (with_reducible refine rc_sumF ?_)
    | (with_reducible refine rd_ixNum l1 ?_)
    | ((with_reducible refine e_lcIX ⟨hitB, fun z => .int (hitV ns z), ?_⟩); refine i_listV ⟨_, rfl, ?_⟩)
    | walk_at "way by rule"
    | refine ⟨ms, rfl, by omega, fun z hz => ?_, ?_⟩
    | walk_at "way by form"
    | fail)
    all_goals first
      | rfl
      | exact ⟨rfl, rfl, fun _ => ⟨rfl, rfl⟩⟩
      | trace_state
  rintro ds' n12 ⟨rfl, rfl⟩
  have Qs : Quest "sum" .non 0 1099511627776 (some ms) := ⟨by decide +kernel, .inr (.inr ⟨rfl, by decide +kernel, by decide +kernel⟩), by omega, by omega, by omega, fun ns e => by cases e; exact M2⟩
  have asum : (((ptsR (rowP ns a b)).filter (askB 0 1099511627776 (some ms))).map (·.2)).sum = ((ms.filter hitB).map (hitV ns)).sum := among_sum P M
  have cB : ∀ {k : Kn} {n : Nat}, k (.int ((ms.filter hitB).map (hitV ns)).sum) n → ansSp C CQ (some p) [.lst ((rowP ns a b).map (pcO C)), questionD CQ "sum" .non 0 1099511627776 (some ms)] n k := fun {k n} h => call_ans trow Qs (fun r hr => by
    rw [ans_sum hr, asum]
    exact h)
  clear asum
  repeat' (first
    | exact absurd ‹false = true› (by decide)
    | exact absurd ‹true = false› (by decide)
    | with_reducible refine e_makeA ?_
    | refine cB ?_
    | (guard_target =~ RD _ _ (rI _ _) _ _ _ _; first | with_reducible refine rd_powL (v := 4294967296) (by decide +kernel) (by decide) ?_ | with_reducible refine rd_powL (v := 1000000000) (by decide +kernel) (by decide) ?_ | with_reducible refine rd_powL (v := 100000) (by decide +kernel) (by decide) ?_ | with_reducible refine rd_powL (v := 1099511627776) (by decide +kernel) (by decide) ?_ | with_reducible refine rd_powL (v := 68719476736) (by decide +kernel) (by decide) ?_ | with_reducible refine rd_powL (v := 1073741824) (by decide +kernel) (by decide) ?_ | with_reducible refine rd_powL (v := 2199023255552) (by decide +kernel) (by decide) ?_ | with_reducible refine rd_powL (v := 8589934592) (by decide +kernel) (by decide) ?_ | with_reducible refine rd_powL (v := 1048576) (by decide +kernel) (by decide) ?_ | with_reducible refine rd_powL (v := 4096) (by decide +kernel) (by decide) ?_ | with_reducible refine rd_powL (v := 34359738368) (by decide +kernel) (by decide) ?_ | with_reducible refine rd_powL (v := 17179869184) (by decide +kernel) (by decide) ?_ | with_reducible refine rd_powL (v := 1000000) (by decide +kernel) (by decide) ?_ | with_reducible refine rd_powL (v := 10000) (by decide +kernel) (by decide) ?_ | with_reducible refine rd_powL (v := 549755813888) (by decide +kernel) (by decide) ?_ | with_reducible refine rd_powL (v := 100000000000) (by decide +kernel) (by decide) ?_ | with_reducible refine rd_powL (v := 10000000000) (by decide +kernel) (by decide) ?_ | with_reducible refine rd_powL (v := 1000) (by decide +kernel) (by decide) ?_ | with_reducible refine rd_powL (v := 2147483648) (by decide +kernel) (by decide) ?_)
    | walk_at "way by rule"
    | refine ⟨_, _, _, _, _, rfl, Qs, ?_⟩
    | walk_at "way by form"
    | fail)
  rw [decide_eq_true rfl]
  exact kup_of (hk _ (by omega))
end
end K43
set_option Elab.async false
set_option maxRecDepth 100000
set_option maxHeartbeats 8000000
set_option linter.all false
set_option autoImplicit false
/-! the law -/
namespace K43
variable [DW.Tb]
open PySem PySem.Spec PyProof.Rows L2 DW
section
variable {K : PySem.W.Frag} {C p : Addr}
abbrev restL (K : PySem.W.Frag) : TS := (tSeq (tFor (iRng1 (tCons (tC (.int 4)) tNil)) (gName 2) (tIfS (tOr (tNot (tB (tCall (toSp K lineSp) [] E0 (tCons (tVar 1) tNil)))) (tNot (tB (tCall (toSp K partsSp) [] E0 (tCons (tVar 1) tNil))))) (tRet (tC (.bl false))) tNext)) (tRet (tC (.bl true))))
theorem w_rest : WpS K (some p) (restL K) [none, some (.raw (.ref p)), none] 0 { nx := fun _ _ => False, rt := fun d _ => d = .bl true } := by
  unfold restL
  refine s_mid (mid := fun ds' n => n ≤ 4000 ∧ ∃ v2, ds' = [none, some (.raw (.ref p)), v2]) (s_for (i_rng1 (a_cons (e_int (a_nil ⟨4, rfl, by decide, by decide, ?_⟩))))) ?_
  · refine ⟨fun j ds' n => n ≤ 100 * j ∧ ∃ v2, ds' = [none, some (.raw (.ref p)), v2], ⟨by omega, none, rfl⟩, ?_, ?_⟩
    · rintro j x ds' n hx ⟨hn, v2, rfl⟩
      obtain ⟨hj, rfl⟩ := rgD_get hx
      have hj' : j < 4 := by simpa using hj
      refine ⟨_, _, g_name rfl, ?_⟩
      repeat' (first
    | exact absurd ‹false = true› (by decide)
    | exact absurd ‹true = false› (by decide)
    | walk_at "way by rule"
    | refine ⟨p, rfl, rfl, by omega, fun n2 hn2 => ?_⟩
    | walk_at "way by form"
    | fail)
      all_goals first
        | exact ⟨_, rfl⟩
        | exact ⟨by omega, _, rfl⟩
        | trace_state
    · rintro ds' n ⟨hn, v2, rfl⟩
      rw [rgD_len] at hn
      have hn : n ≤ 100 * 4 := hn
      exact ⟨by omega, v2, rfl⟩
  rintro ds' n ⟨hn, v2, rfl⟩
  repeat' (first
    | exact absurd ‹false = true› (by decide)
    | exact absurd ‹true = false› (by decide)
    | walk_at "way by rule"
    | walk_at "way by form"
    | fail)
  all_goals first | rfl | trace_state
theorem law_reads {a : Addr} {ns : List Int} {H : Hp} {Q : VK} (hS : SqL K H a (ns.map V.int)) (hl : ns.length ≤ 63) (hT : ∀ T, Tb.tab T = true → H T = some (.tbl #[])) (hQ : ∀ H', Q (.bl true) H') :
    r_law K (penSp K) (toSp K lineSp) (toSp K partsSp)
      { nx := fun _ H' => Q .non H', rt := Q } (start ["script", "pen", "turn"] [.ref a]) H := law_go (m := 1) rfl (fun p => w_rest) hS hl hT hQ
end
end K43
set_option Elab.async false
set_option maxRecDepth 100000
set_option maxHeartbeats 8000000
set_option linter.all false
set_option autoImplicit false
/-! a def within a def: first_beyond -/
namespace K43
variable [DW.Tb]
open PySem PySem.Spec PyProof.Rows L2 DW LamX
section
variable {P : Program} {w : World} {K : PySem.W.Frag} {mg : Str → Option Value} {base : Heap} {C_Piece C_Question : Addr}
variable (T : Txt K mg C_Piece C_Question)
include T
abbrev outN : Str := "is_out"
theorem go_beyond {f cR PR : Addr} {oc kV doc pm ct : Value} {od an : Option Addr} {sl : Array (Option Value)} (lk : K.lookup f = some ⟨oc, od, .func (PySem.W.fnOf "first_beyond" "first_beyond" (defArgs s_first_beyond) (defBody s_first_beyond) (defScope s_first_beyond) .none kV doc pm an (.ref cR) ct), sl⟩)
    (hc : PySem.W.codeIn K (.ref cR) "first_beyond" = true) (hk : PySem.W.keepIn K (.ref f) = true) (hm : mg "first_beyond" = some (.ref f)) (TB : TabB base mg cR PR) (hP : Tb.tab PR = true) (hnm : ∀ a b, Tb.nm PR a b = "first_beyond.<locals>.is_out")
    {g : Addr} {fd : FuncData} (F_first_such : Fun K "first_such" "first_such" s_first_such g fd) (m_first_such : mg "first_such" = some (.ref g)) (b_first_such : Binds K fd ["begin", "behind", "is_such"] [])
    (G_number_at : Go P w K mg base 2 "number_at" (toSp K naSp) []) (G_turn_of : Go P w K mg base 2 "turn_of" (toSp K turnSp) []) : Go P w K mg base 4 "first_beyond" (toSp K beyondSp) [] := by
  have PT : (PR, Tb.nm PR) ∈ (Tb.tabs.map fun a => (a, Tb.nm a)) := List.mem_map.mpr ⟨PR, of_decide_eq_true hP, rfl⟩
  have PU : ∀ p ∈ (Tb.tabs.map fun a => (a, Tb.nm a)), p.1 = PR → p.2 = Tb.nm PR := fun p hp e => by
    obtain ⟨a, _, rfl⟩ := List.mem_map.mp hp
    have e : a = PR := e
    rw [← e]
  refine ⟨f, _, ["kind", "numbers", "count", "low", "high"], [], fn_of lk hc sc_first_beyond (fun vs H Q E h => ?_) (fun A outer s H vs Q E hr h => ?_), hm, hk, (fun_mk lk hc hk).binds fun _ _ _ _ _ _ us hl => match us, hl with | [_, _, _, _, _], _ => rfl, .nil⟩
  · obtain ⟨w, S, es, n, k, r, ok, hs, p⟩ := h
    rw [r.length]
    obtain ⟨_, _, _, _, rfl, _⟩ := hs
    rfl
  obtain ⟨w', S, es, n, k, r, ok, hs, p⟩ := h
  have hu : (A.deeper (envOfC "first_beyond" (defScope s_first_beyond) s.heap.objs.size f (.ref cR))).units + 64 < cLine := by have := hr.un; omega
  let cells := (envOfC "first_beyond" (defScope s_first_beyond) s.heap.objs.size f (.ref cR)).cells
  let mk : Addr → NdefX.NF := NdefX.NF.of s_first_beyond_is_out "is_out" "first_beyond.<locals>.is_out" (cloFrom cells (C8.fnScope s_first_beyond_is_out).names [])
  have hbody := body_ok (w_first_beyond (mk := mk) (G := fun _ _ _ _ _ => False) hP (fun _ => rfl) hs) r ok p.up
  have free0 : ∀ y ∈ (C8.fnScope s_first_beyond_is_out).names, y.2 = .free → (defScope s_first_beyond).names.lookup y.1 = some .cell := fun y hy e => by
    have := (by decide +kernel : (C8.fnScope s_first_beyond_is_out).names.all (fun y => !decide (y.2 = .free) || decide ((defScope s_first_beyond).names.lookup y.1 = some .cell)) = true)
    have := List.all_eq_true.mp this y hy
    rw [e] at this
    exact of_decide_eq_true (by simpa using this)
  have N_is_out : ∀ (f' c' : Addr), NdefX.NOk P w K mg base CX0 3 f' (mk c') ["at"] ["kind", "numbers", "low", "high"] (toSpNL K 4 outSp) := fun f' c' => by
    refine NdefX.nok_of (N := ["at", "kind", "numbers", "low", "high"]) (NdefX.nscope_by (show NdefX.nscB _ _ _ (C8.fnScope s_first_beyond_is_out) = true by decide +kernel)) (fun doc pm ctv us hl => match us, hl with | [_], _ => rfl) (fun ws vs H Q E h => ?_) fun A outer s H vs ws Q E hr h1 h2 hw h => ?_
    · obtain ⟨hw, cvs, rfl, w, S, es, n, k, r, ok, hs, p⟩ := h
      obtain ⟨_, _, _, _, rfl, _⟩ := hs
      have h1 := r.length
      rw [List.length_append] at h1
      rw [List.length_map] at hw
      simp only [List.length_cons, List.length_nil] at *
      omega
    · obtain ⟨_, cvs, rfl, w, S, es, n, k, r, ok, hs, p⟩ := h
      refine ⟨_, (pss_one (ps_ret (pe_not (pe_chain op_le op_le (pv 3) (pe_go G_number_at hr (pa_cons (pv 1) (pa_cons (pv 2) (pa_cons (pv 0) pa_nil)))) (pv 4))))), ?_⟩
      rw [startF_app]
      exact body_ok (w_is_out hs) r ok p.up
  have ND : PS (cxOf CX0 P w K mg base ["kind", "numbers", "count", "low", "high", "found", "is_out", "turn", "at"] "first_beyond" (defScope s_first_beyond) f (.ref cR) A outer s H E).nox s_first_beyond_is_out (NdefX.tNdefM (Tb.tabs.map fun a => (a, Tb.nm a)) 6 mk) :=
    NdefX.ps_ndefMS rfl TB rfl PT (by rw [hnm]; rfl) PU (fun y hy e => .inl (free0 y hy e)) (by decide +kernel) (by decide +kernel) (by rfl) sc_first_beyond.nd rfl (by first | exact Or.inl rfl | exact Or.inr rfl) (by first | exact Or.inl rfl | exact Or.inr rfl)
  have C_is_out : (cxOf CX0 P w K mg base ["kind", "numbers", "count", "low", "high", "found", "is_out", "turn", "at"] "first_beyond" (defScope s_first_beyond) f (.ref cR) A outer s H E).nox.Ok → NdefX.Caps (cxOf CX0 P w K mg base ["kind", "numbers", "count", "low", "high", "found", "is_out", "turn", "at"] "first_beyond" (defScope s_first_beyond) f (.ref cR) A outer s H E).nox (cloFrom cells (C8.fnScope s_first_beyond_is_out).names []) ["kind", "numbers", "low", "high"] [0, 1, 3, 4] := fun okx =>
    NdefX.Caps.made okx (fun y hy e => .inl (free0 y hy e)) (by decide +kernel) rfl
  have hps : PSs (cxOf CX0 P w K mg base ["kind", "numbers", "count", "low", "high", "found", "is_out", "turn", "at"] "first_beyond" (defScope s_first_beyond) f (.ref cR) A outer s H E).nox (defBody s_first_beyond) (r_first_beyond K mk (toSpNL K 4 outSp) (fun _ _ _ _ _ => False) (toSp K turnSp)) := (pss_cons (ps_if (pt_cmpR (op_eqU hu) (pv 0) pe_str (nomark _)) (pss_cons (ps_setLc (i := 5) (own := [("at", 8)]) (by rfl) sc_first_beyond.nd rfl rfl (sw_true rfl rfl rfl (by decide +kernel)) (pi_range1 (by rfl) T.b_range (pa_cons (pe_callB (call_minU rfl hu) (by rfl) T.b_min (by rfl) (pa_cons (pe_callB call_lenU (by rfl) T.b_len (by rfl) (pa_cons (pv 1) pa_nil)) (pa_cons (pv 2) pa_nil))) pa_nil)) (blkOk_by (N := ["kind", "numbers", "count", "low", "high", "found", "is_out", "turn", "at"]) (sc := defScope s_first_beyond) (by decide +kernel)) (fun _ _ _ _ _ => (pg_name (i := 8) sc_first_beyond.nd rfl (by first | exact Or.inl rfl | exact Or.inr rfl))) (fun _ _ _ _ _ => (pts_one (pt_not (pt_chain op_le op_le (pv 3) (pe_ix ix_seq (pv 1) (pv 8) (fun _ _ => rfl)) (pv 4))))) (fun _ _ _ _ _ => (pv 8))) (pss_one (ps_ret (pe_ifExp (pt_cmpR (op_neU hu) (pv 5) (pe_lst pa_nil) (nomark _)) (pe_ix ix_seq (pv 5) pe_int (fun _ _ => rfl)) (pv 2))))) pss_nil) (pss_cons ND (pss_cons (ps_set (i := 7) sc_first_beyond.nd rfl (by first | exact Or.inl rfl | exact Or.inr rfl) (pe_go G_turn_of hr (pa_cons (pv 1) (pa_cons (pv 2) pa_nil)))) (pss_cons (ps_if (pt_val (NdefX.pe_calln N_is_out (fun _ => rfl) C_is_out hr (by decide) pass0 rfl (by first | exact Or.inl rfl | exact Or.inr (Or.inl rfl) | exact Or.inr (Or.inr rfl)) (pa_cons pe_int pa_nil))) (pss_one (ps_ret pe_int)) pss_nil) (pss_cons (ps_if (pt_val (NdefX.pe_calln N_is_out (fun _ => rfl) C_is_out hr (by decide) pass0 rfl (by first | exact Or.inl rfl | exact Or.inr (Or.inl rfl) | exact Or.inr (Or.inr rfl)) (pa_cons (pv 7) pa_nil))) (pss_one (ps_ret (pe_callG F_first_such sc_first_such m_first_such b_first_such (fun _ => rfl) C_is_out hr (pa_cons pe_int (pa_cons (pv 7) (pa_cons (pv 6) pa_nil))) (fun cdv s1 H1 c1 ws1 vs1 Q1 C hr1 h1 => h1.elim)))) pss_nil) (pss_one (ps_ret (pe_ifExp (pt_val (NdefX.pe_calln N_is_out (fun _ => rfl) C_is_out hr (by decide) pass0 rfl (by first | exact Or.inl rfl | exact Or.inr (Or.inl rfl) | exact Or.inr (Or.inr rfl)) (pa_cons (pe_op op_sub (pv 2) pe_int) pa_nil))) (pe_callG F_first_such sc_first_such m_first_such b_first_such (fun _ => rfl) C_is_out hr (pa_cons (pv 7) (pa_cons (pv 2) (pa_cons (pv 6) pa_nil))) (fun cdv s1 H1 c1 ws1 vs1 Q1 C hr1 h1 => h1.elim)) (pv 2)))))))))
  exact ⟨_, hps.nox, hbody⟩
end
end K43
set_option Elab.async false
set_option maxRecDepth 100000
set_option maxHeartbeats 8000000
set_option linter.all false
set_option autoImplicit false
namespace K43
open PySem PySem.Spec PyProof.Rows L2 DW
theorem all_mk [tb0 : DW.Tb] {P : Program} {w : World} {K : PySem.W.Frag} {h : Heap} {mg : Str → Option Value} {fa : Addr} (X : K.In h) (G : h.Ns mainGlobals mg) (hfa : mg "law" = some (.ref fa)) (hown0 : OwnTabX K mg h "first_beyond") (hown1 : OwnTabX K mg h "rising_most")
    {f0 f1 f2 f3 f4 f5 f6 f7 f8 f9 f10 f11 f12 f13 f14 f15 f16 f17 f18 f19 f20 f21 f22 f23 f24 f25 f26 f27 f28 f29 f30 f31 f32 f33 f34 f35 f36 f37 f38 f39 f40 f41 f42 f43 f44 f45 f46 f47 fR0 cR0 PR0 fR1 cR1 PR1 C_Piece fPiece ccPiece cdaPiece fPPiece C_Question fQuestion tQuestion a_ASKED a_KINDS : Addr} {od0 an0 od1 an1 od2 an2 od3 an3 od4 an4 od5 an5 od6 an6 od7 an7 od8 an8 od9 an9 od10 an10 od11 an11 od12 an12 od13 an13 od14 an14 od15 an15 od16 an16 od17 an17 od18 an18 od19 an19 od20 an20 od21 an21 od22 an22 od23 an23 od24 an24 od25 an25 od26 an26 od27 an27 od28 an28 od29 an29 od30 an30 od31 an31 od32 an32 od33 an33 od34 an34 od35 an35 od36 an36 od37 an37 od38 an38 od39 an39 od40 an40 od41 an41 od42 an42 od43 an43 od44 an44 od45 an45 od46 an46 od47 an47 odR0 anR0 ddR0 odR1 anR1 ddR1 odPiece anPiece cddPiece cldPiece odPPiece anPPiece odQuestion anQuestion dQuestion d_ASKED d_KINDS : Option Addr} {sl0 sl1 sl2 sl3 sl4 sl5 sl6 sl7 sl8 sl9 sl10 sl11 sl12 sl13 sl14 sl15 sl16 sl17 sl18 sl19 sl20 sl21 sl22 sl23 sl24 sl25 sl26 sl27 sl28 sl29 sl30 sl31 sl32 sl33 sl34 sl35 sl36 sl37 sl38 sl39 sl40 sl41 sl42 sl43 sl44 sl45 sl46 sl47 slR0 slcR0 slR1 slcR1 slPiece ccsPiece cslPiece slPPiece slQuestion slTQuestion sl_ASKED sl_KINDS : Array (Option Value)} {oc0 kV0 dc0 pm0 cd0 ct0 oc1 kV1 dc1 pm1 cd1 ct1 oc2 kV2 dc2 pm2 cd2 ct2 oc3 kV3 dc3 pm3 cd3 ct3 oc4 kV4 dc4 pm4 cd4 ct4 oc5 kV5 dc5 pm5 cd5 ct5 oc6 kV6 dc6 pm6 cd6 ct6 oc7 kV7 dc7 pm7 cd7 ct7 oc8 kV8 dc8 pm8 cd8 ct8 oc9 kV9 dc9 pm9 cd9 ct9 oc10 kV10 dc10 pm10 cd10 ct10 oc11 kV11 dc11 pm11 cd11 ct11 oc12 kV12 dc12 pm12 cd12 ct12 oc13 kV13 dc13 pm13 cd13 ct13 oc14 kV14 dc14 pm14 cd14 ct14 oc15 kV15 dc15 pm15 cd15 ct15 oc16 kV16 dc16 pm16 cd16 ct16 oc17 kV17 dc17 pm17 cd17 ct17 oc18 kV18 dc18 pm18 cd18 ct18 oc19 kV19 dc19 pm19 cd19 ct19 oc20 kV20 dc20 pm20 cd20 ct20 oc21 kV21 dc21 pm21 cd21 ct21 oc22 kV22 dc22 pm22 cd22 ct22 oc23 kV23 dc23 pm23 cd23 ct23 oc24 kV24 dc24 pm24 cd24 ct24 oc25 kV25 dc25 pm25 cd25 ct25 oc26 kV26 dc26 pm26 cd26 ct26 oc27 kV27 dc27 pm27 cd27 ct27 oc28 kV28 dc28 pm28 cd28 ct28 oc29 kV29 dc29 pm29 cd29 ct29 oc30 kV30 dc30 pm30 cd30 ct30 oc31 kV31 dc31 pm31 cd31 ct31 oc32 kV32 dc32 pm32 cd32 ct32 oc33 kV33 dc33 pm33 cd33 ct33 oc34 kV34 dc34 pm34 cd34 ct34 oc35 kV35 dc35 pm35 cd35 ct35 oc36 kV36 dc36 pm36 cd36 ct36 oc37 kV37 dc37 pm37 cd37 ct37 oc38 kV38 dc38 pm38 cd38 ct38 oc39 kV39 dc39 pm39 cd39 ct39 oc40 kV40 dc40 pm40 cd40 ct40 oc41 kV41 dc41 pm41 cd41 ct41 oc42 kV42 dc42 pm42 cd42 ct42 oc43 kV43 dc43 pm43 cd43 ct43 oc44 kV44 dc44 pm44 cd44 ct44 oc45 kV45 dc45 pm45 cd45 ct45 oc46 kV46 dc46 pm46 cd46 ct46 oc47 kV47 dc47 pm47 cd47 ct47 ocR0 kVR0 dcR0 pmR0 ctR0 eR0 ocR1 kVR1 dcR1 pmR1 ctR1 eR1 ocPiece kVPiece dcPiece pmPiece ctPiece cclPiece cl_Piece ocPPiece kVPPiece dcPPiece pmPPiece cdPPiece ctPPiece ocQuestion kVQuestion dcQuestion pmQuestion cdQuestion ctQuestion : Value} {vsR0 : Array Value} {vsR1 : Array Value} {vsPiece : Array Value} {filePiece : Str} {tfPiece : Tok} {nQ : Nat} {n_ASKED : Nat} {ta_ASKED0 : Tok} {ta_ASKED1 : Tok} {ta_ASKED2 : Tok} {ta_ASKED3 : Tok} {ta_ASKED4 : Tok} {ta_ASKED5 : Tok} {n_KINDS : Nat} {ta_KINDS0 : Tok} {ta_KINDS1 : Tok} {tk_MOST_COUNT : Tok} {tk_MOST_LISTED : Tok} {tk_MOST_MOMENT : Tok} {tk_MOST_NUMBER : Tok} {tk_MOST_PERIOD : Tok} {tk_MOST_VALUE : Tok}
    (a0 : PySem.W.nsIn K mainGlobals "_law_pen" = some (some (.ref f0)))
    (l0 : K.lookup f0 = some ⟨oc0, od0, .func (PySem.W.fnOf "_law_pen" "_law_pen" (defArgs s__law_pen) (defBody s__law_pen) (defScope s__law_pen) .none kV0 dc0 pm0 an0 cd0 ct0), sl0⟩)
    (c0 : PySem.W.codeIn K cd0 "_law_pen" = true)
    (k0 : PySem.W.keepIn K (.ref f0) = true)
    (a1 : PySem.W.nsIn K mainGlobals "_law_draw" = some (some (.ref f1)))
    (l1 : K.lookup f1 = some ⟨oc1, od1, .func (PySem.W.fnOf "_law_draw" "_law_draw" (defArgs s__law_draw) (defBody s__law_draw) (defScope s__law_draw) .none kV1 dc1 pm1 an1 cd1 ct1), sl1⟩)
    (c1 : PySem.W.codeIn K cd1 "_law_draw" = true)
    (k1 : PySem.W.keepIn K (.ref f1) = true)
    (a2 : PySem.W.nsIn K mainGlobals "fixed" = some (some (.ref f2)))
    (l2 : K.lookup f2 = some ⟨oc2, od2, .func (PySem.W.fnOf "fixed" "fixed" (defArgs s_fixed) (defBody s_fixed) (defScope s_fixed) .none kV2 dc2 pm2 an2 cd2 ct2), sl2⟩)
    (c2 : PySem.W.codeIn K cd2 "fixed" = true)
    (k2 : PySem.W.keepIn K (.ref f2) = true)
    (a3 : PySem.W.nsIn K mainGlobals "is_listed" = some (some (.ref f3)))
    (l3 : K.lookup f3 = some ⟨oc3, od3, .func (PySem.W.fnOf "is_listed" "is_listed" (defArgs s_is_listed) (defBody s_is_listed) (defScope s_is_listed) .none kV3 dc3 pm3 an3 cd3 ct3), sl3⟩)
    (c3 : PySem.W.codeIn K cd3 "is_listed" = true)
    (k3 : PySem.W.keepIn K (.ref f3) = true)
    (a4 : PySem.W.nsIn K mainGlobals "is_integer" = some (some (.ref f4)))
    (l4 : K.lookup f4 = some ⟨oc4, od4, .func (PySem.W.fnOf "is_integer" "is_integer" (defArgs s_is_integer) (defBody s_is_integer) (defScope s_is_integer) .none kV4 dc4 pm4 an4 cd4 ct4), sl4⟩)
    (c4 : PySem.W.codeIn K cd4 "is_integer" = true)
    (k4 : PySem.W.keepIn K (.ref f4) = true)
    (a5 : PySem.W.nsIn K mainGlobals "is_within" = some (some (.ref f5)))
    (l5 : K.lookup f5 = some ⟨oc5, od5, .func (PySem.W.fnOf "is_within" "is_within" (defArgs s_is_within) (defBody s_is_within) (defScope s_is_within) .none kV5 dc5 pm5 an5 cd5 ct5), sl5⟩)
    (c5 : PySem.W.codeIn K cd5 "is_within" = true)
    (k5 : PySem.W.keepIn K (.ref f5) = true)
    (a6 : PySem.W.nsIn K mainGlobals "is_piece" = some (some (.ref f6)))
    (l6 : K.lookup f6 = some ⟨oc6, od6, .func (PySem.W.fnOf "is_piece" "is_piece" (defArgs s_is_piece) (defBody s_is_piece) (defScope s_is_piece) .none kV6 dc6 pm6 an6 cd6 ct6), sl6⟩)
    (c6 : PySem.W.codeIn K cd6 "is_piece" = true)
    (k6 : PySem.W.keepIn K (.ref f6) = true)
    (a7 : PySem.W.nsIn K mainGlobals "padded" = some (some (.ref f7)))
    (l7 : K.lookup f7 = some ⟨oc7, od7, .func (PySem.W.fnOf "padded" "padded" (defArgs s_padded) (defBody s_padded) (defScope s_padded) .none kV7 dc7 pm7 an7 cd7 ct7), sl7⟩)
    (c7 : PySem.W.codeIn K cd7 "padded" = true)
    (k7 : PySem.W.keepIn K (.ref f7) = true)
    (a8 : PySem.W.nsIn K mainGlobals "pairs_of" = some (some (.ref f8)))
    (l8 : K.lookup f8 = some ⟨oc8, od8, .func (PySem.W.fnOf "pairs_of" "pairs_of" (defArgs s_pairs_of) (defBody s_pairs_of) (defScope s_pairs_of) .none kV8 dc8 pm8 an8 cd8 ct8), sl8⟩)
    (c8 : PySem.W.codeIn K cd8 "pairs_of" = true)
    (k8 : PySem.W.keepIn K (.ref f8) = true)
    (a9 : PySem.W.nsIn K mainGlobals "number_at" = some (some (.ref f9)))
    (l9 : K.lookup f9 = some ⟨oc9, od9, .func (PySem.W.fnOf "number_at" "number_at" (defArgs s_number_at) (defBody s_number_at) (defScope s_number_at) .none kV9 dc9 pm9 an9 cd9 ct9), sl9⟩)
    (c9 : PySem.W.codeIn K cd9 "number_at" = true)
    (k9 : PySem.W.keepIn K (.ref f9) = true)
    (a10 : PySem.W.nsIn K mainGlobals "turn_of" = some (some (.ref f10)))
    (l10 : K.lookup f10 = some ⟨oc10, od10, .func (PySem.W.fnOf "turn_of" "turn_of" (defArgs s_turn_of) (defBody s_turn_of) (defScope s_turn_of) .none kV10 dc10 pm10 an10 cd10 ct10), sl10⟩)
    (c10 : PySem.W.codeIn K cd10 "turn_of" = true)
    (k10 : PySem.W.keepIn K (.ref f10) = true)
    (a11 : PySem.W.nsIn K mainGlobals "first_bad_moment" = some (some (.ref f11)))
    (l11 : K.lookup f11 = some ⟨oc11, od11, .func (PySem.W.fnOf "first_bad_moment" "first_bad_moment" (defArgs s_first_bad_moment) (defBody s_first_bad_moment) (defScope s_first_bad_moment) .none kV11 dc11 pm11 an11 cd11 ct11), sl11⟩)
    (c11 : PySem.W.codeIn K cd11 "first_bad_moment" = true)
    (k11 : PySem.W.keepIn K (.ref f11) = true)
    (a12 : PySem.W.nsIn K mainGlobals "wrong_in" = some (some (.ref f12)))
    (l12 : K.lookup f12 = some ⟨oc12, od12, .func (PySem.W.fnOf "wrong_in" "wrong_in" (defArgs s_wrong_in) (defBody s_wrong_in) (defScope s_wrong_in) .none kV12 dc12 pm12 an12 cd12 ct12), sl12⟩)
    (c12 : PySem.W.codeIn K cd12 "wrong_in" = true)
    (k12 : PySem.W.keepIn K (.ref f12) = true)
    (a13 : PySem.W.nsIn K mainGlobals "moment_at" = some (some (.ref f13)))
    (l13 : K.lookup f13 = some ⟨oc13, od13, .func (PySem.W.fnOf "moment_at" "moment_at" (defArgs s_moment_at) (defBody s_moment_at) (defScope s_moment_at) .none kV13 dc13 pm13 an13 cd13 ct13), sl13⟩)
    (c13 : PySem.W.codeIn K cd13 "moment_at" = true)
    (k13 : PySem.W.keepIn K (.ref f13) = true)
    (a14 : PySem.W.nsIn K mainGlobals "last_moment" = some (some (.ref f14)))
    (l14 : K.lookup f14 = some ⟨oc14, od14, .func (PySem.W.fnOf "last_moment" "last_moment" (defArgs s_last_moment) (defBody s_last_moment) (defScope s_last_moment) .none kV14 dc14 pm14 an14 cd14 ct14), sl14⟩)
    (c14 : PySem.W.codeIn K cd14 "last_moment" = true)
    (k14 : PySem.W.keepIn K (.ref f14) = true)
    (a15 : PySem.W.nsIn K mainGlobals "first_wrong" = some (some (.ref f15)))
    (l15 : K.lookup f15 = some ⟨oc15, od15, .func (PySem.W.fnOf "first_wrong" "first_wrong" (defArgs s_first_wrong) (defBody s_first_wrong) (defScope s_first_wrong) .none kV15 dc15 pm15 an15 cd15 ct15), sl15⟩)
    (c15 : PySem.W.codeIn K cd15 "first_wrong" = true)
    (k15 : PySem.W.keepIn K (.ref f15) = true)
    (a16 : PySem.W.nsIn K mainGlobals "are_pieces" = some (some (.ref f16)))
    (l16 : K.lookup f16 = some ⟨oc16, od16, .func (PySem.W.fnOf "are_pieces" "are_pieces" (defArgs s_are_pieces) (defBody s_are_pieces) (defScope s_are_pieces) .none kV16 dc16 pm16 an16 cd16 ct16), sl16⟩)
    (c16 : PySem.W.codeIn K cd16 "are_pieces" = true)
    (k16 : PySem.W.keepIn K (.ref f16) = true)
    (a17 : PySem.W.nsIn K mainGlobals "need_pieces" = some (some (.ref f17)))
    (l17 : K.lookup f17 = some ⟨oc17, od17, .func (PySem.W.fnOf "need_pieces" "need_pieces" (defArgs s_need_pieces) (defBody s_need_pieces) (defScope s_need_pieces) .none kV17 dc17 pm17 an17 cd17 ct17), sl17⟩)
    (c17 : PySem.W.codeIn K cd17 "need_pieces" = true)
    (k17 : PySem.W.keepIn K (.ref f17) = true)
    (a18 : PySem.W.nsIn K mainGlobals "need_question" = some (some (.ref f18)))
    (l18 : K.lookup f18 = some ⟨oc18, od18, .func (PySem.W.fnOf "need_question" "need_question" (defArgs s_need_question) (defBody s_need_question) (defScope s_need_question) .none kV18 dc18 pm18 an18 cd18 ct18), sl18⟩)
    (c18 : PySem.W.codeIn K cd18 "need_question" = true)
    (k18 : PySem.W.keepIn K (.ref f18) = true)
    (a19 : PySem.W.nsIn K mainGlobals "below_in" = some (some (.ref f19)))
    (l19 : K.lookup f19 = some ⟨oc19, od19, .func (PySem.W.fnOf "below_in" "below_in" (defArgs s_below_in) (defBody s_below_in) (defScope s_below_in) .none kV19 dc19 pm19 an19 cd19 ct19), sl19⟩)
    (c19 : PySem.W.codeIn K cd19 "below_in" = true)
    (k19 : PySem.W.keepIn K (.ref f19) = true)
    (a20 : PySem.W.nsIn K mainGlobals "trimmed" = some (some (.ref f20)))
    (l20 : K.lookup f20 = some ⟨oc20, od20, .func (PySem.W.fnOf "trimmed" "trimmed" (defArgs s_trimmed) (defBody s_trimmed) (defScope s_trimmed) .none kV20 dc20 pm20 an20 cd20 ct20), sl20⟩)
    (c20 : PySem.W.codeIn K cd20 "trimmed" = true)
    (k20 : PySem.W.keepIn K (.ref f20) = true)
    (a21 : PySem.W.nsIn K mainGlobals "part_of" = some (some (.ref f21)))
    (l21 : K.lookup f21 = some ⟨oc21, od21, .func (PySem.W.fnOf "part_of" "part_of" (defArgs s_part_of) (defBody s_part_of) (defScope s_part_of) .none kV21 dc21 pm21 an21 cd21 ct21), sl21⟩)
    (c21 : PySem.W.codeIn K cd21 "part_of" = true)
    (k21 : PySem.W.keepIn K (.ref f21) = true)
    (a22 : PySem.W.nsIn K mainGlobals "part_of_piece" = some (some (.ref f22)))
    (l22 : K.lookup f22 = some ⟨oc22, od22, .func (PySem.W.fnOf "part_of_piece" "part_of_piece" (defArgs s_part_of_piece) (defBody s_part_of_piece) (defScope s_part_of_piece) .none kV22 dc22 pm22 an22 cd22 ct22), sl22⟩)
    (c22 : PySem.W.codeIn K cd22 "part_of_piece" = true)
    (k22 : PySem.W.keepIn K (.ref f22) = true)
    (a23 : PySem.W.nsIn K mainGlobals "points_among" = some (some (.ref f23)))
    (l23 : K.lookup f23 = some ⟨oc23, od23, .func (PySem.W.fnOf "points_among" "points_among" (defArgs s_points_among) (defBody s_points_among) (defScope s_points_among) .none kV23 dc23 pm23 an23 cd23 ct23), sl23⟩)
    (c23 : PySem.W.codeIn K cd23 "points_among" = true)
    (k23 : PySem.W.keepIn K (.ref f23) = true)
    (a24 : PySem.W.nsIn K mainGlobals "listed_in" = some (some (.ref f24)))
    (l24 : K.lookup f24 = some ⟨oc24, od24, .func (PySem.W.fnOf "listed_in" "listed_in" (defArgs s_listed_in) (defBody s_listed_in) (defScope s_listed_in) .none kV24 dc24 pm24 an24 cd24 ct24), sl24⟩)
    (c24 : PySem.W.codeIn K cd24 "listed_in" = true)
    (k24 : PySem.W.keepIn K (.ref f24) = true)
    (a25 : PySem.W.nsIn K mainGlobals "cut_in" = some (some (.ref f25)))
    (l25 : K.lookup f25 = some ⟨oc25, od25, .func (PySem.W.fnOf "cut_in" "cut_in" (defArgs s_cut_in) (defBody s_cut_in) (defScope s_cut_in) .none kV25 dc25 pm25 an25 cd25 ct25), sl25⟩)
    (c25 : PySem.W.codeIn K cd25 "cut_in" = true)
    (k25 : PySem.W.keepIn K (.ref f25) = true)
    (a26 : PySem.W.nsIn K mainGlobals "pieces_at" = some (some (.ref f26)))
    (l26 : K.lookup f26 = some ⟨oc26, od26, .func (PySem.W.fnOf "pieces_at" "pieces_at" (defArgs s_pieces_at) (defBody s_pieces_at) (defScope s_pieces_at) .none kV26 dc26 pm26 an26 cd26 ct26), sl26⟩)
    (c26 : PySem.W.codeIn K cd26 "pieces_at" = true)
    (k26 : PySem.W.keepIn K (.ref f26) = true)
    (a27 : PySem.W.nsIn K mainGlobals "counted" = some (some (.ref f27)))
    (l27 : K.lookup f27 = some ⟨oc27, od27, .func (PySem.W.fnOf "counted" "counted" (defArgs s_counted) (defBody s_counted) (defScope s_counted) .none kV27 dc27 pm27 an27 cd27 ct27), sl27⟩)
    (c27 : PySem.W.codeIn K cd27 "counted" = true)
    (k27 : PySem.W.keepIn K (.ref f27) = true)
    (a28 : PySem.W.nsIn K mainGlobals "threes_of" = some (some (.ref f28)))
    (l28 : K.lookup f28 = some ⟨oc28, od28, .func (PySem.W.fnOf "threes_of" "threes_of" (defArgs s_threes_of) (defBody s_threes_of) (defScope s_threes_of) .none kV28 dc28 pm28 an28 cd28 ct28), sl28⟩)
    (c28 : PySem.W.codeIn K cd28 "threes_of" = true)
    (k28 : PySem.W.keepIn K (.ref f28) = true)
    (a29 : PySem.W.nsIn K mainGlobals "total_of" = some (some (.ref f29)))
    (l29 : K.lookup f29 = some ⟨oc29, od29, .func (PySem.W.fnOf "total_of" "total_of" (defArgs s_total_of) (defBody s_total_of) (defScope s_total_of) .none kV29 dc29 pm29 an29 cd29 ct29), sl29⟩)
    (c29 : PySem.W.codeIn K cd29 "total_of" = true)
    (k29 : PySem.W.keepIn K (.ref f29) = true)
    (a30 : PySem.W.nsIn K mainGlobals "summed" = some (some (.ref f30)))
    (l30 : K.lookup f30 = some ⟨oc30, od30, .func (PySem.W.fnOf "summed" "summed" (defArgs s_summed) (defBody s_summed) (defScope s_summed) .none kV30 dc30 pm30 an30 cd30 ct30), sl30⟩)
    (c30 : PySem.W.codeIn K cd30 "summed" = true)
    (k30 : PySem.W.keepIn K (.ref f30) = true)
    (a31 : PySem.W.nsIn K mainGlobals "first_of" = some (some (.ref f31)))
    (l31 : K.lookup f31 = some ⟨oc31, od31, .func (PySem.W.fnOf "first_of" "first_of" (defArgs s_first_of) (defBody s_first_of) (defScope s_first_of) .none kV31 dc31 pm31 an31 cd31 ct31), sl31⟩)
    (c31 : PySem.W.codeIn K cd31 "first_of" = true)
    (k31 : PySem.W.keepIn K (.ref f31) = true)
    (a32 : PySem.W.nsIn K mainGlobals "corners_of" = some (some (.ref f32)))
    (l32 : K.lookup f32 = some ⟨oc32, od32, .func (PySem.W.fnOf "corners_of" "corners_of" (defArgs s_corners_of) (defBody s_corners_of) (defScope s_corners_of) .none kV32 dc32 pm32 an32 cd32 ct32), sl32⟩)
    (c32 : PySem.W.codeIn K cd32 "corners_of" = true)
    (k32 : PySem.W.keepIn K (.ref f32) = true)
    (a33 : PySem.W.nsIn K mainGlobals "least_at" = some (some (.ref f33)))
    (l33 : K.lookup f33 = some ⟨oc33, od33, .func (PySem.W.fnOf "least_at" "least_at" (defArgs s_least_at) (defBody s_least_at) (defScope s_least_at) .none kV33 dc33 pm33 an33 cd33 ct33), sl33⟩)
    (c33 : PySem.W.codeIn K cd33 "least_at" = true)
    (k33 : PySem.W.keepIn K (.ref f33) = true)
    (a34 : PySem.W.nsIn K mainGlobals "lowest" = some (some (.ref f34)))
    (l34 : K.lookup f34 = some ⟨oc34, od34, .func (PySem.W.fnOf "lowest" "lowest" (defArgs s_lowest) (defBody s_lowest) (defScope s_lowest) .none kV34 dc34 pm34 an34 cd34 ct34), sl34⟩)
    (c34 : PySem.W.codeIn K cd34 "lowest" = true)
    (k34 : PySem.W.keepIn K (.ref f34) = true)
    (a35 : PySem.W.nsIn K mainGlobals "greatest_at" = some (some (.ref f35)))
    (l35 : K.lookup f35 = some ⟨oc35, od35, .func (PySem.W.fnOf "greatest_at" "greatest_at" (defArgs s_greatest_at) (defBody s_greatest_at) (defScope s_greatest_at) .none kV35 dc35 pm35 an35 cd35 ct35), sl35⟩)
    (c35 : PySem.W.codeIn K cd35 "greatest_at" = true)
    (k35 : PySem.W.keepIn K (.ref f35) = true)
    (a36 : PySem.W.nsIn K mainGlobals "highest" = some (some (.ref f36)))
    (l36 : K.lookup f36 = some ⟨oc36, od36, .func (PySem.W.fnOf "highest" "highest" (defArgs s_highest) (defBody s_highest) (defScope s_highest) .none kV36 dc36 pm36 an36 cd36 ct36), sl36⟩)
    (c36 : PySem.W.codeIn K cd36 "highest" = true)
    (k36 : PySem.W.keepIn K (.ref f36) = true)
    (a37 : PySem.W.nsIn K mainGlobals "most_of_curve" = some (some (.ref f37)))
    (l37 : K.lookup f37 = some ⟨oc37, od37, .func (PySem.W.fnOf "most_of_curve" "most_of_curve" (defArgs s_most_of_curve) (defBody s_most_of_curve) (defScope s_most_of_curve) .none kV37 dc37 pm37 an37 cd37 ct37), sl37⟩)
    (c37 : PySem.W.codeIn K cd37 "most_of_curve" = true)
    (k37 : PySem.W.keepIn K (.ref f37) = true)
    (a38 : PySem.W.nsIn K mainGlobals "most_by" = some (some (.ref f38)))
    (l38 : K.lookup f38 = some ⟨oc38, od38, .func (PySem.W.fnOf "most_by" "most_by" (defArgs s_most_by) (defBody s_most_by) (defScope s_most_by) .none kV38 dc38 pm38 an38 cd38 ct38), sl38⟩)
    (c38 : PySem.W.codeIn K cd38 "most_by" = true)
    (k38 : PySem.W.keepIn K (.ref f38) = true)
    (a39 : PySem.W.nsIn K mainGlobals "ranked" = some (some (.ref f39)))
    (l39 : K.lookup f39 = some ⟨oc39, od39, .func (PySem.W.fnOf "ranked" "ranked" (defArgs s_ranked) (defBody s_ranked) (defScope s_ranked) .none kV39 dc39 pm39 an39 cd39 ct39), sl39⟩)
    (c39 : PySem.W.codeIn K cd39 "ranked" = true)
    (k39 : PySem.W.keepIn K (.ref f39) = true)
    (a40 : PySem.W.nsIn K mainGlobals "answer_of" = some (some (.ref f40)))
    (l40 : K.lookup f40 = some ⟨oc40, od40, .func (PySem.W.fnOf "answer_of" "answer_of" (defArgs s_answer_of) (defBody s_answer_of) (defScope s_answer_of) .none kV40 dc40 pm40 an40 cd40 ct40), sl40⟩)
    (c40 : PySem.W.codeIn K cd40 "answer_of" = true)
    (k40 : PySem.W.keepIn K (.ref f40) = true)
    (a41 : PySem.W.nsIn K mainGlobals "is_numbered" = some (some (.ref f41)))
    (l41 : K.lookup f41 = some ⟨oc41, od41, .func (PySem.W.fnOf "is_numbered" "is_numbered" (defArgs s_is_numbered) (defBody s_is_numbered) (defScope s_is_numbered) .none kV41 dc41 pm41 an41 cd41 ct41), sl41⟩)
    (c41 : PySem.W.codeIn K cd41 "is_numbered" = true)
    (k41 : PySem.W.keepIn K (.ref f41) = true)
    (a42 : PySem.W.nsIn K mainGlobals "are_moments" = some (some (.ref f42)))
    (l42 : K.lookup f42 = some ⟨oc42, od42, .func (PySem.W.fnOf "are_moments" "are_moments" (defArgs s_are_moments) (defBody s_are_moments) (defScope s_are_moments) .none kV42 dc42 pm42 an42 cd42 ct42), sl42⟩)
    (c42 : PySem.W.codeIn K cd42 "are_moments" = true)
    (k42 : PySem.W.keepIn K (.ref f42) = true)
    (a43 : PySem.W.nsIn K mainGlobals "_law_line_most" = some (some (.ref f43)))
    (l43 : K.lookup f43 = some ⟨oc43, od43, .func (PySem.W.fnOf "_law_line_most" "_law_line_most" (defArgs s__law_line_most) (defBody s__law_line_most) (defScope s__law_line_most) .none kV43 dc43 pm43 an43 cd43 ct43), sl43⟩)
    (c43 : PySem.W.codeIn K cd43 "_law_line_most" = true)
    (k43 : PySem.W.keepIn K (.ref f43) = true)
    (a44 : PySem.W.nsIn K mainGlobals "_law_line_right" = some (some (.ref f44)))
    (l44 : K.lookup f44 = some ⟨oc44, od44, .func (PySem.W.fnOf "_law_line_right" "_law_line_right" (defArgs s__law_line_right) (defBody s__law_line_right) (defScope s__law_line_right) .none kV44 dc44 pm44 an44 cd44 ct44), sl44⟩)
    (c44 : PySem.W.codeIn K cd44 "_law_line_right" = true)
    (k44 : PySem.W.keepIn K (.ref f44) = true)
    (a45 : PySem.W.nsIn K mainGlobals "_law_parts_right" = some (some (.ref f45)))
    (l45 : K.lookup f45 = some ⟨oc45, od45, .func (PySem.W.fnOf "_law_parts_right" "_law_parts_right" (defArgs s__law_parts_right) (defBody s__law_parts_right) (defScope s__law_parts_right) .none kV45 dc45 pm45 an45 cd45 ct45), sl45⟩)
    (c45 : PySem.W.codeIn K cd45 "_law_parts_right" = true)
    (k45 : PySem.W.keepIn K (.ref f45) = true)
    (a46 : PySem.W.nsIn K mainGlobals "law" = some (some (.ref f46)))
    (l46 : K.lookup f46 = some ⟨oc46, od46, .func (PySem.W.fnOf "law" "law" (defArgs s_law) (defBody s_law) (defScope s_law) .none kV46 dc46 pm46 an46 cd46 ct46), sl46⟩)
    (c46 : PySem.W.codeIn K cd46 "law" = true)
    (k46 : PySem.W.keepIn K (.ref f46) = true)
    (a47 : PySem.W.nsIn K mainGlobals "first_such" = some (some (.ref f47)))
    (l47 : K.lookup f47 = some ⟨oc47, od47, .func (PySem.W.fnOf "first_such" "first_such" (defArgs s_first_such) (defBody s_first_such) (defScope s_first_such) .none kV47 dc47 pm47 an47 cd47 ct47), sl47⟩)
    (c47 : PySem.W.codeIn K cd47 "first_such" = true)
    (k47 : PySem.W.keepIn K (.ref f47) = true)
    (aR0 : PySem.W.nsIn K mainGlobals "first_beyond" = some (some (.ref fR0)))
    (lR0 : K.lookup fR0 = some ⟨ocR0, odR0, .func (PySem.W.fnOf "first_beyond" "first_beyond" (defArgs s_first_beyond) (defBody s_first_beyond) (defScope s_first_beyond) .none kVR0 dcR0 pmR0 anR0 (.ref cR0) ctR0), slR0⟩)
    (cR0R : PySem.W.codeIn K (.ref cR0) "first_beyond" = true)
    (kR0 : PySem.W.keepIn K (.ref fR0) = true)
    (lcR0 : K.lookup cR0 = some ⟨eR0, ddR0, .fields vsR0, slcR0⟩)
    (v11R0 : vsR0[11]? = some (.ref PR0))
    (hPR0 : K.lookup PR0 = none)
    (hcR0 : PySem.W.codeHdIn K cR0 PR0 = true)
    (aR1 : PySem.W.nsIn K mainGlobals "rising_most" = some (some (.ref fR1)))
    (lR1 : K.lookup fR1 = some ⟨ocR1, odR1, .func (PySem.W.fnOf "rising_most" "rising_most" (defArgs s_rising_most) (defBody s_rising_most) (defScope s_rising_most) .none kVR1 dcR1 pmR1 anR1 (.ref cR1) ctR1), slR1⟩)
    (cR1R : PySem.W.codeIn K (.ref cR1) "rising_most" = true)
    (kR1 : PySem.W.keepIn K (.ref fR1) = true)
    (lcR1 : K.lookup cR1 = some ⟨eR1, ddR1, .fields vsR1, slcR1⟩)
    (v11R1 : vsR1[11]? = some (.ref PR1))
    (hPR1 : K.lookup PR1 = none)
    (hcR1 : PySem.W.codeHdIn K cR1 PR1 = true)
    (nPiece : PySem.W.nsIn K mainGlobals "Piece" = some (some (.ref C_Piece)))
    (pgPiece : PySem.W.plainGet K C_Piece Str.empty = true)
    (hdPiece : PySem.W.hasDictIn K C_Piece = true)
    (poPiece : PySem.W.plainOver K C_Piece = true)
    (saPiece : PySem.W.findIn K (.ref C_Piece) "__setattr__" = some (some (.builtin "object.__setattr__")))
    (mkPiece : PySem.W.makesIn K C_Piece = true)
    (kcPiece : PySem.W.keepIn K (.ref C_Piece) = true)
    (naPiece0 : PySem.W.findIn K (.ref C_Piece) "word" = some none)
    (naPiece1 : PySem.W.findIn K (.ref C_Piece) "parts" = some none)
    (naPiece2 : PySem.W.findIn K (.ref C_Piece) "moment" = some none)
    (naPiece3 : PySem.W.findIn K (.ref C_Piece) "step" = some none)
    (naPiece4 : PySem.W.findIn K (.ref C_Piece) "count" = some none)
    (naPiece5 : PySem.W.findIn K (.ref C_Piece) "kind" = some none)
    (naPiece6 : PySem.W.findIn K (.ref C_Piece) "numbers" = some none)
    (haPiece : PySem.W.findIn K (.ref C_Piece) "__class__" = some (some (.builtin "object.__class__")))
    (omPiece : PySem.W.mroIn K C_Piece (.type "object") = some true)
    (aPiece : PySem.W.findIn K (.ref C_Piece) "__init__" = some (some (.ref fPiece)))
    (iPiece : PySem.W.isFn K (.ref fPiece) = true)
    (lPiece : K.lookup fPiece = some ⟨ocPiece, odPiece, .func (PySem.W.fnX "__init__" "Piece.__init__" (defArgs s_Piece_init) (defBody s_Piece_init) (defScope s_Piece_init) [("__class__", ccPiece)] .none kVPiece dcPiece pmPiece anPiece (.ref cdaPiece) ctPiece), slPiece⟩)
    (cEPiece : PySem.W.codeIn K (.ref cdaPiece) "Piece.__init__" = true)
    (dclPiece : PySem.W.isClsIn K C_Piece = true)
    (cdlPiece : K.lookup cdaPiece = some ⟨cclPiece, cddPiece, .fields vsPiece, ccsPiece⟩)
    (vs2Piece : vsPiece[2]? = some (.str filePiece tfPiece))
    (filPiece : ((P.main.file : Str) == filePiece) = true)
    (cclxPiece : K.lookup ccPiece = some ⟨cl_Piece, cldPiece, .cell (some (.ref C_Piece)), cslPiece⟩)
    (supPiece : PySem.W.mroIn K C_Piece (.ref C_Piece) = some true)
    (satPiece : PySem.W.ks_superIn K C_Piece C_Piece "__init__" = some (some (.ref fPPiece)))
    (tyPPiece : PySem.W.typeIn K (.ref fPPiece) = some (.type "function"))
    (fiPPiece : PySem.W.fnIn K fPPiece = true)
    (lPPiece : K.lookup fPPiece = some ⟨ocPPiece, odPPiece, .func (PySem.W.fnOf "__init__" "Paper.__init__" (defArgs s_Paper_init) (defBody s_Paper_init) (defScope s_Paper_init) .none kVPPiece dcPPiece pmPPiece anPPiece cdPPiece ctPPiece), slPPiece⟩)
    (cPPiece : PySem.W.codeIn K cdPPiece "Paper.__init__" = true)
    (nQuestion : PySem.W.nsIn K mainGlobals "Question" = some (some (.ref C_Question)))
    (pgQuestion : PySem.W.plainGet K C_Question Str.empty = true)
    (hdQuestion : PySem.W.hasDictIn K C_Question = true)
    (poQuestion : PySem.W.plainOver K C_Question = true)
    (saQuestion : PySem.W.findIn K (.ref C_Question) "__setattr__" = some (some (.builtin "object.__setattr__")))
    (mkQuestion : PySem.W.makesIn K C_Question = true)
    (kcQuestion : PySem.W.keepIn K (.ref C_Question) = true)
    (naQuestion0 : PySem.W.findIn K (.ref C_Question) "kind" = some none)
    (naQuestion1 : PySem.W.findIn K (.ref C_Question) "number" = some none)
    (naQuestion2 : PySem.W.findIn K (.ref C_Question) "start" = some none)
    (naQuestion3 : PySem.W.findIn K (.ref C_Question) "stop" = some none)
    (naQuestion4 : PySem.W.findIn K (.ref C_Question) "among" = some none)
    (haQuestion : PySem.W.findIn K (.ref C_Question) "__class__" = some (some (.builtin "object.__class__")))
    (omQuestion : PySem.W.mroIn K C_Question (.type "object") = some true)
    (aQuestion : PySem.W.findIn K (.ref C_Question) "__init__" = some (some (.ref fQuestion)))
    (lQuestion : K.lookup fQuestion = some ⟨ocQuestion, odQuestion, .func (PySem.W.fnOf "__init__" "Question.__init__" (defArgs s_Question_init) (defBody s_Question_init) (defScope s_Question_init) (.ref tQuestion) kVQuestion dcQuestion pmQuestion anQuestion cdQuestion ctQuestion), slQuestion⟩)
    (cQuestion : PySem.W.codeIn K cdQuestion "Question.__init__" = true)
    (kQuestion : PySem.W.keepIn K (.ref fQuestion) = true)
    (iQuestion : PySem.W.isFn K (.ref fQuestion) = true)
    (tQ1 : K.lookup tQuestion = some ⟨.type "tuple", dQuestion, .seq #[.none] nQ, slTQuestion⟩)
    (ne01 : PR1 ≠ PR0)
    (hn : PySem.W.specialIn K (.builtin "object.__class__") "__get__" = some (some (.builtin "getset_descriptor.__get__")))
    (ht : PySem.W.takesIn K (.builtin "object.__class__") = some true)
    (opq : PySem.W.nsIn K cStatics "thirdparty.any" = some none)
    (topS : (P.main.scope.names.lookup ("super" : Str)).isSome = false)
    (nsup : PySem.W.nsIn K mainGlobals "super" = some none)
    (b_abs : PySem.W.nsIn K mainGlobals "abs" = some none)
    (b_all : PySem.W.nsIn K mainGlobals "all" = some none)
    (b_bool : PySem.W.nsIn K mainGlobals "bool" = some none)
    (b_divmod : PySem.W.nsIn K mainGlobals "divmod" = some none)
    (b_int : PySem.W.nsIn K mainGlobals "int" = some none)
    (b_isinstance : PySem.W.nsIn K mainGlobals "isinstance" = some none)
    (b_len : PySem.W.nsIn K mainGlobals "len" = some none)
    (b_list : PySem.W.nsIn K mainGlobals "list" = some none)
    (b_max : PySem.W.nsIn K mainGlobals "max" = some none)
    (b_min : PySem.W.nsIn K mainGlobals "min" = some none)
    (b_range : PySem.W.nsIn K mainGlobals "range" = some none)
    (b_set : PySem.W.nsIn K mainGlobals "set" = some none)
    (b_sorted : PySem.W.nsIn K mainGlobals "sorted" = some none)
    (b_str : PySem.W.nsIn K mainGlobals "str" = some none)
    (b_sum : PySem.W.nsIn K mainGlobals "sum" = some none)
    (b_tuple : PySem.W.nsIn K mainGlobals "tuple" = some none)
    (b_zip : PySem.W.nsIn K mainGlobals "zip" = some none)
    (g_ASKED : PySem.W.nsIn K mainGlobals "ASKED" = some (some (.ref a_ASKED)))
    (lt_ASKED : K.lookup a_ASKED = some ⟨.type "tuple", d_ASKED, .seq #[.str "count" ta_ASKED0, .str "sum" ta_ASKED1, .str "least" ta_ASKED2, .str "greatest" ta_ASKED3, .str "most" ta_ASKED4, .str "rank" ta_ASKED5] n_ASKED, sl_ASKED⟩)
    (g_KINDS : PySem.W.nsIn K mainGlobals "KINDS" = some (some (.ref a_KINDS)))
    (lt_KINDS : K.lookup a_KINDS = some ⟨.type "tuple", d_KINDS, .seq #[.str "order" ta_KINDS0, .str "period" ta_KINDS1] n_KINDS, sl_KINDS⟩)
    (g_MOST_COUNT : PySem.W.nsIn K mainGlobals "MOST_COUNT" = some (some (.int 2199023255552 tk_MOST_COUNT)))
    (g_MOST_LISTED : PySem.W.nsIn K mainGlobals "MOST_LISTED" = some (some (.int 200 tk_MOST_LISTED)))
    (g_MOST_MOMENT : PySem.W.nsIn K mainGlobals "MOST_MOMENT" = some (some (.int 1099511627775 tk_MOST_MOMENT)))
    (g_MOST_NUMBER : PySem.W.nsIn K mainGlobals "MOST_NUMBER" = some (some (.int 1152921504606846976 tk_MOST_NUMBER)))
    (g_MOST_PERIOD : PySem.W.nsIn K mainGlobals "MOST_PERIOD" = some (some (.int 8 tk_MOST_PERIOD)))
    (g_MOST_VALUE : PySem.W.nsIn K mainGlobals "MOST_VALUE" = some (some (.int 1099511627776 tk_MOST_VALUE)))
    (hr9 : Room 12 callerA) : ∃ (Ps : List Addr) (sp : Sp), (∀ T ∈ Ps, h.get? T = some emptyTab ∧ K.lookup T = none ∧ isCodeTable h T) ∧ (∀ T ∈ Ps, h.BuiltinsAt mg T) ∧ AtCaller P w K mg Ps fa sp ∧
      ∀ (H : Hp) (a : Addr) (ns : List Int), ns.length ≤ 63 → (∀ T ∈ Ps, H T = some (.tbl #[])) → SqL K H a (ns.map V.int) → sp [.ref a] H (fun v _ => v = .bl true) fun _ _ _ => False := by
  have tabF0 := hown0 fR0 cR0 PR0 _ _ _ _ _ _ (PySem.W.mg_of X G aR0) lR0 rfl rfl lcR0 v11R0
  have tabF1 := hown1 fR1 cR1 PR1 _ _ _ _ _ _ (PySem.W.mg_of X G aR1) lR1 rfl rfl lcR1 v11R1
  letI tb1 : DW.Tb := ⟨[PR0, PR1], fun a _ _ => if a = PR0 then "first_beyond.<locals>.is_out" else if a = PR1 then "rising_most.<locals>.<lambda>" else ""⟩
  have tabA : ∀ T ∈ [PR0, PR1], h.get? T = some emptyTab ∧ K.lookup T = none ∧ isCodeTable h T := fun T hT => by
    simp only [List.mem_cons, List.not_mem_nil, or_false] at hT
    rcases hT with rfl | rfl
    · exact ⟨tabF0.1, hPR0, tabF0.2.1⟩
    · exact ⟨tabF1.1, hPR1, tabF1.2.1⟩
  have tabB : ∀ T ∈ [PR0, PR1], h.BuiltinsAt mg T := fun T hT => by
    simp only [List.mem_cons, List.not_mem_nil, or_false] at hT
    rcases hT with rfl | rfl
    · exact tabF0.2.2
    · exact tabF1.2.2
  have tabP : ∀ T, DW.Tb.tab T = true → T ∈ [PR0, PR1] := fun T hT => of_decide_eq_true hT
  have tabR0 : DW.Tb.tab PR0 = true := decide_eq_true (show PR0 ∈ [PR0, PR1] by simp)
  have tabR1 : DW.Tb.tab PR1 = true := decide_eq_true (show PR1 ∈ [PR0, PR1] by simp)
  refine ⟨[PR0, PR1], lawSp K, tabA, tabB, ?_, fun H a ns hl hT hS => ⟨a, ns, rfl, hS, hl, fun T hh => hT T (tabP T hh), fun _ => rfl⟩⟩
  cases hfa.symm.trans (PySem.W.mg_of X G a46)
  have KK : ∀ {x : Str} {a : Addr}, PySem.W.nsIn K mainGlobals x = some (some (.ref a)) → mg x = some (.ref a) := fun e => PySem.W.mg_of X G e
  have T : Txt K mg C_Piece C_Question := ⟨PySem.W.mg_none_of X G b_abs, PySem.W.mg_none_of X G b_all, PySem.W.mg_none_of X G b_bool, PySem.W.mg_none_of X G b_divmod, PySem.W.mg_none_of X G b_int, PySem.W.mg_none_of X G b_isinstance, PySem.W.mg_none_of X G b_len, PySem.W.mg_none_of X G b_list, PySem.W.mg_none_of X G b_max, PySem.W.mg_none_of X G b_min, PySem.W.mg_none_of X G b_range, PySem.W.mg_none_of X G b_set, PySem.W.mg_none_of X G b_sorted, PySem.W.mg_none_of X G b_str, PySem.W.mg_none_of X G b_sum, PySem.W.mg_none_of X G b_tuple, PySem.W.mg_none_of X G b_zip, ⟨a_ASKED, [.str "count", .str "sum", .str "least", .str "greatest", .str "most", .str "rank"], PySem.W.mg_of X G g_ASKED, .inr ⟨_, _, _, lt_ASKED, rfl, rfl, (by show 6 ≤ sizeLine; decide), .cons ⟨_, rfl⟩ (.cons ⟨_, rfl⟩ (.cons ⟨_, rfl⟩ (.cons ⟨_, rfl⟩ (.cons ⟨_, rfl⟩ (.cons ⟨_, rfl⟩ (.nil))))))⟩, .cons (.str _) (.cons (.str _) (.cons (.str _) (.cons (.str _) (.cons (.str _) (.cons (.str _) (.nil))))))⟩, ⟨a_KINDS, [.str "order", .str "period"], PySem.W.mg_of X G g_KINDS, .inr ⟨_, _, _, lt_KINDS, rfl, rfl, (by show 2 ≤ sizeLine; decide), .cons ⟨_, rfl⟩ (.cons ⟨_, rfl⟩ (.nil))⟩, .cons (.str _) (.cons (.str _) (.nil))⟩, ⟨_, PySem.W.mg_of X G g_MOST_COUNT⟩, ⟨_, PySem.W.mg_of X G g_MOST_LISTED⟩, ⟨_, PySem.W.mg_of X G g_MOST_MOMENT⟩, ⟨_, PySem.W.mg_of X G g_MOST_NUMBER⟩, ⟨_, PySem.W.mg_of X G g_MOST_PERIOD⟩, ⟨_, PySem.W.mg_of X G g_MOST_VALUE⟩, PySem.W.mg_of X G nPiece, PySem.W.mg_of X G nQuestion⟩
  have clPiece : Cls K C_Piece := ⟨pgPiece, hdPiece, poPiece, saPiece⟩
  have T_Piece : ClT K C_Piece XN := ⟨clPiece, fun f hf => by
    simp only [XN, List.mem_cons, List.not_mem_nil, or_false] at hf
    rcases hf with rfl | rfl | rfl | rfl | rfl | rfl | rfl
    · exact naPiece0
    · exact naPiece1
    · exact naPiece2
    · exact naPiece3
    · exact naPiece4
    · exact naPiece5
    · exact naPiece6⟩
  have O_Piece : ObT K C_Piece := ⟨clPiece, haPiece, hn, ht, omPiece⟩
  have TP_Piece : ClT K C_Piece PN := ⟨clPiece, fun f hf => T_Piece.na f (by
    simp only [PN, List.mem_cons, List.not_mem_nil, or_false] at hf
    rcases hf with rfl | rfl
    · decide +kernel
    · decide +kernel)⟩
  have clQuestion : Cls K C_Question := ⟨pgQuestion, hdQuestion, poQuestion, saQuestion⟩
  have T_Question : ClT K C_Question QN := ⟨clQuestion, fun f hf => by
    simp only [QN, List.mem_cons, List.not_mem_nil, or_false] at hf
    rcases hf with rfl | rfl | rfl | rfl | rfl
    · exact naQuestion0
    · exact naQuestion1
    · exact naQuestion2
    · exact naQuestion3
    · exact naQuestion4⟩
  have O_Question : ObT K C_Question := ⟨clQuestion, haQuestion, hn, ht, omQuestion⟩
  have F0 := fun_mk (st := s__law_pen) l0 c0 k0
  have B0 := F0.binds (ps := ["script"]) fun _ _ _ _ _ _ us hl => match us, hl with | [_], _ => rfl
  have F1 := fun_mk (st := s__law_draw) l1 c1 k1
  have B1 := F1.binds (ps := ["pen", "many"]) fun _ _ _ _ _ _ us hl => match us, hl with | [_, _], _ => rfl
  have F2 := fun_mk (st := s_fixed) l2 c2 k2
  have B2 := F2.binds (ps := ["value"]) fun _ _ _ _ _ _ us hl => match us, hl with | [_], _ => rfl
  have F3 := fun_mk (st := s_is_listed) l3 c3 k3
  have B3 := F3.binds (ps := ["value"]) fun _ _ _ _ _ _ us hl => match us, hl with | [_], _ => rfl
  have F4 := fun_mk (st := s_is_integer) l4 c4 k4
  have B4 := F4.binds (ps := ["value"]) fun _ _ _ _ _ _ us hl => match us, hl with | [_], _ => rfl
  have F5 := fun_mk (st := s_is_within) l5 c5 k5
  have B5 := F5.binds (ps := ["value", "least", "most"]) fun _ _ _ _ _ _ us hl => match us, hl with | [_, _, _], _ => rfl
  have F6 := fun_mk (st := s_is_piece) l6 c6 k6
  have B6 := F6.binds (ps := ["value"]) fun _ _ _ _ _ _ us hl => match us, hl with | [_], _ => rfl
  have F7 := fun_mk (st := s_padded) l7 c7 k7
  have B7 := F7.binds (ps := ["numbers"]) fun _ _ _ _ _ _ us hl => match us, hl with | [_], _ => rfl
  have F8 := fun_mk (st := s_pairs_of) l8 c8 k8
  have B8 := F8.binds (ps := ["many"]) fun _ _ _ _ _ _ us hl => match us, hl with | [_], _ => rfl
  have F9 := fun_mk (st := s_number_at) l9 c9 k9
  have B9 := F9.binds (ps := ["kind", "numbers", "index"]) fun _ _ _ _ _ _ us hl => match us, hl with | [_, _, _], _ => rfl
  have F10 := fun_mk (st := s_turn_of) l10 c10 k10
  have B10 := F10.binds (ps := ["numbers", "count"]) fun _ _ _ _ _ _ us hl => match us, hl with | [_, _], _ => rfl
  have F11 := fun_mk (st := s_first_bad_moment) l11 c11 k11
  have B11 := F11.binds (ps := ["piece"]) fun _ _ _ _ _ _ us hl => match us, hl with | [_], _ => rfl
  have F12 := fun_mk (st := s_wrong_in) l12 c12 k12
  have B12 := F12.binds (ps := ["piece", "ahead"]) fun _ _ _ _ _ _ us hl => match us, hl with | [_, _], _ => rfl
  have F13 := fun_mk (st := s_moment_at) l13 c13 k13
  have B13 := F13.binds (ps := ["piece", "index"]) fun _ _ _ _ _ _ us hl => match us, hl with | [_, _], _ => rfl
  have F14 := fun_mk (st := s_last_moment) l14 c14 k14
  have B14 := F14.binds (ps := ["piece"]) fun _ _ _ _ _ _ us hl => match us, hl with | [_], _ => rfl
  have F15 := fun_mk (st := s_first_wrong) l15 c15 k15
  have B15 := F15.binds (ps := ["pieces"]) fun _ _ _ _ _ _ us hl => match us, hl with | [_], _ => rfl
  have F16 := fun_mk (st := s_are_pieces) l16 c16 k16
  have B16 := F16.binds (ps := ["value"]) fun _ _ _ _ _ _ us hl => match us, hl with | [_], _ => rfl
  have F17 := fun_mk (st := s_need_pieces) l17 c17 k17
  have B17 := F17.binds (ps := ["part", "value"]) fun _ _ _ _ _ _ us hl => match us, hl with | [_, _], _ => rfl
  have F18 := fun_mk (st := s_need_question) l18 c18 k18
  have B18 := F18.binds (ps := ["value"]) fun _ _ _ _ _ _ us hl => match us, hl with | [_], _ => rfl
  have F19 := fun_mk (st := s_below_in) l19 c19 k19
  have B19 := F19.binds (ps := ["piece", "moment"]) fun _ _ _ _ _ _ us hl => match us, hl with | [_, _], _ => rfl
  have F20 := fun_mk (st := s_trimmed) l20 c20 k20
  have B20 := F20.binds (ps := ["numbers", "count"]) fun _ _ _ _ _ _ us hl => match us, hl with | [_, _], _ => rfl
  have F21 := fun_mk (st := s_part_of) l21 c21 k21
  have B21 := F21.binds (ps := ["kind", "numbers", "begin", "count"]) fun _ _ _ _ _ _ us hl => match us, hl with | [_, _, _, _], _ => rfl
  have F22 := fun_mk (st := s_part_of_piece) l22 c22 k22
  have B22 := F22.binds (ps := ["piece", "begin", "count"]) fun _ _ _ _ _ _ us hl => match us, hl with | [_, _, _], _ => rfl
  have F23 := fun_mk (st := s_points_among) l23 c23 k23
  have B23 := F23.binds (ps := ["pieces", "moments"]) fun _ _ _ _ _ _ us hl => match us, hl with | [_, _], _ => rfl
  have F24 := fun_mk (st := s_listed_in) l24 c24 k24
  have B24 := F24.binds (ps := ["question"]) fun _ _ _ _ _ _ us hl => match us, hl with | [_], _ => rfl
  have F25 := fun_mk (st := s_cut_in) l25 c25 k25
  have B25 := F25.binds (ps := ["pieces", "start", "stop"]) fun _ _ _ _ _ _ us hl => match us, hl with | [_, _, _], _ => rfl
  have F26 := fun_mk (st := s_pieces_at) l26 c26 k26
  have B26 := F26.binds (ps := ["pieces", "question"]) fun _ _ _ _ _ _ us hl => match us, hl with | [_, _], _ => rfl
  have F27 := fun_mk (st := s_counted) l27 c27 k27
  have B27 := F27.binds (ps := ["pieces"]) fun _ _ _ _ _ _ us hl => match us, hl with | [_], _ => rfl
  have F28 := fun_mk (st := s_threes_of) l28 c28 k28
  have B28 := F28.binds (ps := ["many"]) fun _ _ _ _ _ _ us hl => match us, hl with | [_], _ => rfl
  have F29 := fun_mk (st := s_total_of) l29 c29 k29
  have B29 := F29.binds (ps := ["kind", "numbers", "count"]) fun _ _ _ _ _ _ us hl => match us, hl with | [_, _, _], _ => rfl
  have F30 := fun_mk (st := s_summed) l30 c30 k30
  have B30 := F30.binds (ps := ["pieces"]) fun _ _ _ _ _ _ us hl => match us, hl with | [_], _ => rfl
  have F31 := fun_mk (st := s_first_of) l31 c31 k31
  have B31 := F31.binds (ps := ["found"]) fun _ _ _ _ _ _ us hl => match us, hl with | [_], _ => rfl
  have F32 := fun_mk (st := s_corners_of) l32 c32 k32
  have B32 := F32.binds (ps := ["kind", "numbers", "count"]) fun _ _ _ _ _ _ us hl => match us, hl with | [_, _, _], _ => rfl
  have F33 := fun_mk (st := s_least_at) l33 c33 k33
  have B33 := F33.binds (ps := ["kind", "numbers", "count"]) fun _ _ _ _ _ _ us hl => match us, hl with | [_, _, _], _ => rfl
  have F34 := fun_mk (st := s_lowest) l34 c34 k34
  have B34 := F34.binds (ps := ["pieces"]) fun _ _ _ _ _ _ us hl => match us, hl with | [_], _ => rfl
  have F35 := fun_mk (st := s_greatest_at) l35 c35 k35
  have B35 := F35.binds (ps := ["kind", "numbers", "count"]) fun _ _ _ _ _ _ us hl => match us, hl with | [_, _, _], _ => rfl
  have F36 := fun_mk (st := s_highest) l36 c36 k36
  have B36 := F36.binds (ps := ["pieces"]) fun _ _ _ _ _ _ us hl => match us, hl with | [_], _ => rfl
  have F37 := fun_mk (st := s_most_of_curve) l37 c37 k37
  have B37 := F37.binds (ps := ["kind", "numbers", "count", "bound"]) fun _ _ _ _ _ _ us hl => match us, hl with | [_, _, _, _], _ => rfl
  have F38 := fun_mk (st := s_most_by) l38 c38 k38
  have B38 := F38.binds (ps := ["pieces", "bound"]) fun _ _ _ _ _ _ us hl => match us, hl with | [_, _], _ => rfl
  have F39 := fun_mk (st := s_ranked) l39 c39 k39
  have B39 := F39.binds (ps := ["pieces", "rank"]) fun _ _ _ _ _ _ us hl => match us, hl with | [_, _], _ => rfl
  have F40 := fun_mk (st := s_answer_of) l40 c40 k40
  have B40 := F40.binds (ps := ["pieces", "question"]) fun _ _ _ _ _ _ us hl => match us, hl with | [_, _], _ => rfl
  have F41 := fun_mk (st := s_is_numbered) l41 c41 k41
  have B41 := F41.binds (ps := ["kind", "value"]) fun _ _ _ _ _ _ us hl => match us, hl with | [_, _], _ => rfl
  have F42 := fun_mk (st := s_are_moments) l42 c42 k42
  have B42 := F42.binds (ps := ["value"]) fun _ _ _ _ _ _ us hl => match us, hl with | [_], _ => rfl
  have F43 := fun_mk (st := s__law_line_most) l43 c43 k43
  have B43 := F43.binds (ps := ["first", "more", "count", "bound"]) fun _ _ _ _ _ _ us hl => match us, hl with | [_, _, _, _], _ => rfl
  have F44 := fun_mk (st := s__law_line_right) l44 c44 k44
  have B44 := F44.binds (ps := ["pen"]) fun _ _ _ _ _ _ us hl => match us, hl with | [_], _ => rfl
  have F45 := fun_mk (st := s__law_parts_right) l45 c45 k45
  have B45 := F45.binds (ps := ["pen"]) fun _ _ _ _ _ _ us hl => match us, hl with | [_], _ => rfl
  have F46 := fun_mk (st := s_law) l46 c46 k46
  have F47 := fun_mk (st := s_first_such) l47 c47 k47
  have B47 := F47.binds (ps := ["begin", "behind", "is_such"]) fun _ _ _ _ _ _ us hl => match us, hl with | [_, _, _], _ => rfl
  refine at_def F46 sc_law hr9 (fun us hl s => match us, hl with | [_], _ => .of_eq rfl) (fun vs H Q E h => by obtain ⟨a, ns, rfl, _⟩ := h; rfl) fun base cdv s H vs Q E KB tb hr hgd hsp => ?_
  obtain ⟨a, ns, rfl, hS, hl, hTT, hQ⟩ := hsp
  have G__law_pen : Go P w K mg base 1 "_law_pen" (penSp K) [] := ⟨f0, _, ["script"], [], F0.ok sc__law_pen (fun vs H Q E h => by obtain ⟨_, _, rfl, _⟩ := h; rfl) (fun cdv A outer s H vs Q E hr h => by
    obtain ⟨a, ns, rfl, hS, hl, hk⟩ := h
    exact ⟨_, der__law_pen T hr, pen_list rfl hS hl rfl hk⟩), KK a0, F0.kp, B0, .nil⟩
  have G__law_draw : Go P w K mg base 1 "_law_draw" (toSp K drawSp) [] := fn_data F1 sc__law_draw (fun w es n k h => by first | (obtain ⟨rfl, _⟩ := h; rfl; done) | (obtain ⟨_, rfl, _⟩ := h; rfl; done) | (obtain ⟨_, _, rfl, _⟩ := h; rfl; done) | (obtain ⟨_, _, _, rfl, _⟩ := h; rfl; done) | (obtain ⟨_, _, _, _, rfl, _⟩ := h; rfl; done) | (obtain ⟨_, _, _, _, _, rfl, _⟩ := h; rfl; done) | (obtain ⟨_, _, _, _, _, _, rfl, _⟩ := h; rfl; done) | (obtain ⟨_, _, _, _, _, _, _, rfl, _⟩ := h; rfl; done) | (obtain ⟨_, _, _, _, _, _, _, _, rfl, _⟩ := h; rfl; done) | (obtain ⟨_, _, _, _, _, _, _, _, _, rfl, _⟩ := h; rfl; done) | (obtain ⟨_, _, _, _, _, _, _, _, _, _, rfl, _⟩ := h; rfl; done) | (obtain ⟨_, _, _, _, _, _, _, _, _, _, _, rfl, _⟩ := h; rfl; done) | (obtain ⟨_, _, _, _, _, _, _, _, _, _, _, _, rfl, _⟩ := h; rfl; done) | (obtain ⟨_, _, _, _, _, _, _, _, _, _, _, _, _, rfl, _⟩ := h; rfl; done) | (obtain ⟨_, _, _, _, _, _, _, _, _, _, _, _, _, _, rfl, _⟩ := h; rfl; done) | (rcases h with ⟨_, rfl, _⟩ | ⟨_, rfl, _⟩ <;> rfl; done) | (rcases h with ⟨_, rfl, _⟩ | ⟨_, rfl, _⟩ | ⟨_, rfl, _⟩ <;> rfl; done) | (obtain ⟨_, h⟩ := h; rcases h with ⟨_, rfl, _⟩ | ⟨_, rfl, _⟩ | ⟨_, rfl, _⟩ <;> rfl; done) | (obtain ⟨_, rfl, rfl, _⟩ := h; rfl; done) | (obtain ⟨_, _, rfl, rfl, _⟩ := h; rfl; done) | (obtain ⟨_, _, _, rfl, rfl, _⟩ := h; rfl; done) | (obtain ⟨_, _, _, _, rfl, rfl, _⟩ := h; rfl; done) | (obtain ⟨_, _, _, _, _, rfl, rfl, _⟩ := h; rfl; done) | (obtain ⟨_, _, _, _, _, _, rfl, rfl, _⟩ := h; rfl; done) | (obtain ⟨_, _, _, _, _, _, _, rfl, rfl, _⟩ := h; rfl; done) | (obtain ⟨_, _, _, _, _, _, _, _, rfl, rfl, _⟩ := h; rfl; done) | (obtain ⟨_, _, _, _, _, _, _, _, _, rfl, rfl, _⟩ := h; rfl; done) | (obtain ⟨_, _, _, _, _, _, _, _, _, _, rfl, rfl, _⟩ := h; rfl; done) | (obtain ⟨_, _, _, _, _, _, _, _, _, _, _, rfl, rfl, _⟩ := h; rfl; done)) B1 (KK a1) (fun cdv A outer s H E hr => der__law_draw T  hr) (fun w es n k h => w__law_draw  h)
  have Gn_fixed : Go P w K mg base 0 "fixed" (toSp K fun _ _ _ _ => False) [] := ⟨_, _, _, _, ⟨fun vs H Q E h => (by obtain ⟨w, S, es, n, k, _, _, z, _⟩ := h; exact z.elim), fun A outer s H args us vs Q E _ _ _ _ h => (by obtain ⟨w, S, es, n, k, _, _, z, _⟩ := h; exact z.elim)⟩, KK a2, F2.kp, B2, .nil⟩
  have G0_fixed : Go P w K mg base 1 "fixed" (toSp K fixed0Sp) [] := fn_data F2 sc_fixed (fun w es n k h => by rcases h with ⟨_, rfl, _⟩ | ⟨_, rfl, _⟩ <;> rfl) B2 (KK a2) (fun cdv A outer s H E hr => der_fixed T Gn_fixed hr) (fun w es n k h => w_fixed0 h)
  have G1_fixed : Go P w K mg base 2 "fixed" (toSp K fixed1Sp) [] := fn_data F2 sc_fixed (fun w es n k h => by rcases h with (⟨_, rfl, _⟩ | ⟨_, rfl, _⟩) | ⟨_, (rfl | rfl), _⟩ <;> rfl) B2 (KK a2) (fun cdv A outer s H E hr => der_fixed T G0_fixed hr) (fun w es n k h => w_fixed1 h)
  have G_fixed : Go P w K mg base 3 "fixed" (toSp K fixedSp) [] := fn_data F2 sc_fixed (fun w es n k h => by obtain ⟨_, _, _, _, _, _, rfl, _⟩ := h; rfl) B2 (KK a2) (fun cdv A outer s H E hr => der_fixed T G1_fixed hr) (fun w es n k h => w_fixed h)
  have FP_Piece : FnR P w K mg base CX0 4 fPPiece (superSp K C_Piece gP) := StX.fn_star (pv := "parts") (ps := ["self", "word"]) (sp := initSp K C_Piece gP) lPPiece cPPiece sc_Paper_init StX.cxUp_none (StX.bind_star2 (B := fun us => bindArgs (PySem.W.fnOf "__init__" "Paper.__init__" (defArgs s_Paper_init) (defBody s_Paper_init) (defScope s_Paper_init) .none kVPPiece dcPPiece pmPPiece anPPiece cdPPiece ctPPiece) ⟨us, []⟩) (p1 := "self") (p2 := "word") (pv := "parts") (fun a b => rfl) (fun a b r rs => rfl)) (fun A outer s H vs Q E hr h =>
    ⟨_, (der_Paper_init T G_fixed hr).nox, init_ok (fun es ns l hg => w_Paper_init TP_Piece hg) h⟩)
  have SF_Piece : SupFn K P C_Piece ccPiece cdaPiece fPPiece := ⟨Option.isSome_iff_exists.mp dclPiece, ⟨_, _, _, _, _, _, cdlPiece, vs2Piece, filPiece⟩, ⟨_, _, _, cclxPiece⟩, opq, tyPPiece, fiPPiece, topS⟩
  have FE_Piece : FnOk P w K mg base CX0 5 fPiece _ ["self", "moment", "step", "count", "kind", "numbers"] (initSp K C_Piece gX) := fn_super (ar := ⟨"self", none, _⟩) lPiece cEPiece sc_Piece_init (by simp) SF_Piece FP_Piece (by decide) (PySem.W.mg_none_of X G nsup) rfl rfl rfl
    (fun vs H Q E h => initSp_len (j := 5) (fun es ns l hg => by obtain ⟨_, _, _, _, _, _, rfl, _⟩ := hg; rfl) h) (by decide) (fun _ => rfl) (fun _ => rfl) _ (fun _ => rfl) (fun A outer s H vs Q E hr h => by
      obtain ⟨x, dx, h1, h2, h3⟩ := super_ok (E2 := E0) (N := ["self", "moment", "step", "count", "kind", "numbers", "__class__"]) (Dc := C_Piece) (g2 := gP) (tA := a_Piece_init K) (t := r_Piece_init K) (fun es ns l hg => w_Piece_init T_Piece hg) h
      exact ⟨x, C_Piece, dx, [], E0, _, _, h1, h2, ⟨supPiece, satPiece⟩, pass0, dera_Piece_init T hr, (der_Piece_init T hr).nox, h3⟩)
  have M_Piece : Mkc P w K mg base 5 "Piece" C_Piece (initSp K C_Piece gX) [] := ⟨fPiece, _, _, [], ⟨mkPiece, aPiece, iPiece, kcPiece⟩, FE_Piece, KK nPiece, .all (fun us hl => match us, hl with | [_, _, _, _, _, _], _ => rfl), .nil⟩
  have G_is_listed : Go P w K mg base 1 "is_listed" (toSp K listedSp) [] := fn_data F3 sc_is_listed (fun w es n k h => by first | (obtain ⟨rfl, _⟩ := h; rfl; done) | (obtain ⟨_, rfl, _⟩ := h; rfl; done) | (obtain ⟨_, _, rfl, _⟩ := h; rfl; done) | (obtain ⟨_, _, _, rfl, _⟩ := h; rfl; done) | (obtain ⟨_, _, _, _, rfl, _⟩ := h; rfl; done) | (obtain ⟨_, _, _, _, _, rfl, _⟩ := h; rfl; done) | (obtain ⟨_, _, _, _, _, _, rfl, _⟩ := h; rfl; done) | (obtain ⟨_, _, _, _, _, _, _, rfl, _⟩ := h; rfl; done) | (obtain ⟨_, _, _, _, _, _, _, _, rfl, _⟩ := h; rfl; done) | (obtain ⟨_, _, _, _, _, _, _, _, _, rfl, _⟩ := h; rfl; done) | (obtain ⟨_, _, _, _, _, _, _, _, _, _, rfl, _⟩ := h; rfl; done) | (obtain ⟨_, _, _, _, _, _, _, _, _, _, _, rfl, _⟩ := h; rfl; done) | (obtain ⟨_, _, _, _, _, _, _, _, _, _, _, _, rfl, _⟩ := h; rfl; done) | (obtain ⟨_, _, _, _, _, _, _, _, _, _, _, _, _, rfl, _⟩ := h; rfl; done) | (obtain ⟨_, _, _, _, _, _, _, _, _, _, _, _, _, _, rfl, _⟩ := h; rfl; done) | (rcases h with ⟨_, rfl, _⟩ | ⟨_, rfl, _⟩ <;> rfl; done) | (rcases h with ⟨_, rfl, _⟩ | ⟨_, rfl, _⟩ | ⟨_, rfl, _⟩ <;> rfl; done) | (obtain ⟨_, h⟩ := h; rcases h with ⟨_, rfl, _⟩ | ⟨_, rfl, _⟩ | ⟨_, rfl, _⟩ <;> rfl; done) | (obtain ⟨_, rfl, rfl, _⟩ := h; rfl; done) | (obtain ⟨_, _, rfl, rfl, _⟩ := h; rfl; done) | (obtain ⟨_, _, _, rfl, rfl, _⟩ := h; rfl; done) | (obtain ⟨_, _, _, _, rfl, rfl, _⟩ := h; rfl; done) | (obtain ⟨_, _, _, _, _, rfl, rfl, _⟩ := h; rfl; done) | (obtain ⟨_, _, _, _, _, _, rfl, rfl, _⟩ := h; rfl; done) | (obtain ⟨_, _, _, _, _, _, _, rfl, rfl, _⟩ := h; rfl; done) | (obtain ⟨_, _, _, _, _, _, _, _, rfl, rfl, _⟩ := h; rfl; done) | (obtain ⟨_, _, _, _, _, _, _, _, _, rfl, rfl, _⟩ := h; rfl; done) | (obtain ⟨_, _, _, _, _, _, _, _, _, _, rfl, rfl, _⟩ := h; rfl; done) | (obtain ⟨_, _, _, _, _, _, _, _, _, _, _, rfl, rfl, _⟩ := h; rfl; done)) B3 (KK a3) (fun cdv A outer s H E hr => der_is_listed T  hr) (fun w es n k h => w_is_listed  h)
  have G_is_integer : Go P w K mg base 1 "is_integer" (toSp K integerSp) [] := fn_data F4 sc_is_integer (fun w es n k h => by first | (obtain ⟨rfl, _⟩ := h; rfl; done) | (obtain ⟨_, rfl, _⟩ := h; rfl; done) | (obtain ⟨_, _, rfl, _⟩ := h; rfl; done) | (obtain ⟨_, _, _, rfl, _⟩ := h; rfl; done) | (obtain ⟨_, _, _, _, rfl, _⟩ := h; rfl; done) | (obtain ⟨_, _, _, _, _, rfl, _⟩ := h; rfl; done) | (obtain ⟨_, _, _, _, _, _, rfl, _⟩ := h; rfl; done) | (obtain ⟨_, _, _, _, _, _, _, rfl, _⟩ := h; rfl; done) | (obtain ⟨_, _, _, _, _, _, _, _, rfl, _⟩ := h; rfl; done) | (obtain ⟨_, _, _, _, _, _, _, _, _, rfl, _⟩ := h; rfl; done) | (obtain ⟨_, _, _, _, _, _, _, _, _, _, rfl, _⟩ := h; rfl; done) | (obtain ⟨_, _, _, _, _, _, _, _, _, _, _, rfl, _⟩ := h; rfl; done) | (obtain ⟨_, _, _, _, _, _, _, _, _, _, _, _, rfl, _⟩ := h; rfl; done) | (obtain ⟨_, _, _, _, _, _, _, _, _, _, _, _, _, rfl, _⟩ := h; rfl; done) | (obtain ⟨_, _, _, _, _, _, _, _, _, _, _, _, _, _, rfl, _⟩ := h; rfl; done) | (rcases h with ⟨_, rfl, _⟩ | ⟨_, rfl, _⟩ <;> rfl; done) | (rcases h with ⟨_, rfl, _⟩ | ⟨_, rfl, _⟩ | ⟨_, rfl, _⟩ <;> rfl; done) | (obtain ⟨_, h⟩ := h; rcases h with ⟨_, rfl, _⟩ | ⟨_, rfl, _⟩ | ⟨_, rfl, _⟩ <;> rfl; done) | (obtain ⟨_, rfl, rfl, _⟩ := h; rfl; done) | (obtain ⟨_, _, rfl, rfl, _⟩ := h; rfl; done) | (obtain ⟨_, _, _, rfl, rfl, _⟩ := h; rfl; done) | (obtain ⟨_, _, _, _, rfl, rfl, _⟩ := h; rfl; done) | (obtain ⟨_, _, _, _, _, rfl, rfl, _⟩ := h; rfl; done) | (obtain ⟨_, _, _, _, _, _, rfl, rfl, _⟩ := h; rfl; done) | (obtain ⟨_, _, _, _, _, _, _, rfl, rfl, _⟩ := h; rfl; done) | (obtain ⟨_, _, _, _, _, _, _, _, rfl, rfl, _⟩ := h; rfl; done) | (obtain ⟨_, _, _, _, _, _, _, _, _, rfl, rfl, _⟩ := h; rfl; done) | (obtain ⟨_, _, _, _, _, _, _, _, _, _, rfl, rfl, _⟩ := h; rfl; done) | (obtain ⟨_, _, _, _, _, _, _, _, _, _, _, rfl, rfl, _⟩ := h; rfl; done)) B4 (KK a4) (fun cdv A outer s H E hr => der_is_integer T  hr) (fun w es n k h => w_is_integer  h)
  have G_is_within : Go P w K mg base 2 "is_within" (toSp K withinSp) [] := fn_data F5 sc_is_within (fun w es n k h => by first | (obtain ⟨rfl, _⟩ := h; rfl; done) | (obtain ⟨_, rfl, _⟩ := h; rfl; done) | (obtain ⟨_, _, rfl, _⟩ := h; rfl; done) | (obtain ⟨_, _, _, rfl, _⟩ := h; rfl; done) | (obtain ⟨_, _, _, _, rfl, _⟩ := h; rfl; done) | (obtain ⟨_, _, _, _, _, rfl, _⟩ := h; rfl; done) | (obtain ⟨_, _, _, _, _, _, rfl, _⟩ := h; rfl; done) | (obtain ⟨_, _, _, _, _, _, _, rfl, _⟩ := h; rfl; done) | (obtain ⟨_, _, _, _, _, _, _, _, rfl, _⟩ := h; rfl; done) | (obtain ⟨_, _, _, _, _, _, _, _, _, rfl, _⟩ := h; rfl; done) | (obtain ⟨_, _, _, _, _, _, _, _, _, _, rfl, _⟩ := h; rfl; done) | (obtain ⟨_, _, _, _, _, _, _, _, _, _, _, rfl, _⟩ := h; rfl; done) | (obtain ⟨_, _, _, _, _, _, _, _, _, _, _, _, rfl, _⟩ := h; rfl; done) | (obtain ⟨_, _, _, _, _, _, _, _, _, _, _, _, _, rfl, _⟩ := h; rfl; done) | (obtain ⟨_, _, _, _, _, _, _, _, _, _, _, _, _, _, rfl, _⟩ := h; rfl; done) | (rcases h with ⟨_, rfl, _⟩ | ⟨_, rfl, _⟩ <;> rfl; done) | (rcases h with ⟨_, rfl, _⟩ | ⟨_, rfl, _⟩ | ⟨_, rfl, _⟩ <;> rfl; done) | (obtain ⟨_, h⟩ := h; rcases h with ⟨_, rfl, _⟩ | ⟨_, rfl, _⟩ | ⟨_, rfl, _⟩ <;> rfl; done) | (obtain ⟨_, rfl, rfl, _⟩ := h; rfl; done) | (obtain ⟨_, _, rfl, rfl, _⟩ := h; rfl; done) | (obtain ⟨_, _, _, rfl, rfl, _⟩ := h; rfl; done) | (obtain ⟨_, _, _, _, rfl, rfl, _⟩ := h; rfl; done) | (obtain ⟨_, _, _, _, _, rfl, rfl, _⟩ := h; rfl; done) | (obtain ⟨_, _, _, _, _, _, rfl, rfl, _⟩ := h; rfl; done) | (obtain ⟨_, _, _, _, _, _, _, rfl, rfl, _⟩ := h; rfl; done) | (obtain ⟨_, _, _, _, _, _, _, _, rfl, rfl, _⟩ := h; rfl; done) | (obtain ⟨_, _, _, _, _, _, _, _, _, rfl, rfl, _⟩ := h; rfl; done) | (obtain ⟨_, _, _, _, _, _, _, _, _, _, rfl, rfl, _⟩ := h; rfl; done) | (obtain ⟨_, _, _, _, _, _, _, _, _, _, _, rfl, rfl, _⟩ := h; rfl; done)) B5 (KK a5) (fun cdv A outer s H E hr => der_is_within T G_is_integer hr) (fun w es n k h => w_is_within  h)
  have G_is_piece : Go P w K mg base 3 "is_piece" (toSp K (pieceSp C_Piece)) [] := fn_data F6 sc_is_piece (fun w es n k h => by first | (obtain ⟨rfl, _⟩ := h; rfl; done) | (obtain ⟨_, rfl, _⟩ := h; rfl; done) | (obtain ⟨_, _, rfl, _⟩ := h; rfl; done) | (obtain ⟨_, _, _, rfl, _⟩ := h; rfl; done) | (obtain ⟨_, _, _, _, rfl, _⟩ := h; rfl; done) | (obtain ⟨_, _, _, _, _, rfl, _⟩ := h; rfl; done) | (obtain ⟨_, _, _, _, _, _, rfl, _⟩ := h; rfl; done) | (obtain ⟨_, _, _, _, _, _, _, rfl, _⟩ := h; rfl; done) | (obtain ⟨_, _, _, _, _, _, _, _, rfl, _⟩ := h; rfl; done) | (obtain ⟨_, _, _, _, _, _, _, _, _, rfl, _⟩ := h; rfl; done) | (obtain ⟨_, _, _, _, _, _, _, _, _, _, rfl, _⟩ := h; rfl; done) | (obtain ⟨_, _, _, _, _, _, _, _, _, _, _, rfl, _⟩ := h; rfl; done) | (obtain ⟨_, _, _, _, _, _, _, _, _, _, _, _, rfl, _⟩ := h; rfl; done) | (obtain ⟨_, _, _, _, _, _, _, _, _, _, _, _, _, rfl, _⟩ := h; rfl; done) | (obtain ⟨_, _, _, _, _, _, _, _, _, _, _, _, _, _, rfl, _⟩ := h; rfl; done) | (rcases h with ⟨_, rfl, _⟩ | ⟨_, rfl, _⟩ <;> rfl; done) | (rcases h with ⟨_, rfl, _⟩ | ⟨_, rfl, _⟩ | ⟨_, rfl, _⟩ <;> rfl; done) | (obtain ⟨_, h⟩ := h; rcases h with ⟨_, rfl, _⟩ | ⟨_, rfl, _⟩ | ⟨_, rfl, _⟩ <;> rfl; done) | (obtain ⟨_, rfl, rfl, _⟩ := h; rfl; done) | (obtain ⟨_, _, rfl, rfl, _⟩ := h; rfl; done) | (obtain ⟨_, _, _, rfl, rfl, _⟩ := h; rfl; done) | (obtain ⟨_, _, _, _, rfl, rfl, _⟩ := h; rfl; done) | (obtain ⟨_, _, _, _, _, rfl, rfl, _⟩ := h; rfl; done) | (obtain ⟨_, _, _, _, _, _, rfl, rfl, _⟩ := h; rfl; done) | (obtain ⟨_, _, _, _, _, _, _, rfl, rfl, _⟩ := h; rfl; done) | (obtain ⟨_, _, _, _, _, _, _, _, rfl, rfl, _⟩ := h; rfl; done) | (obtain ⟨_, _, _, _, _, _, _, _, _, rfl, rfl, _⟩ := h; rfl; done) | (obtain ⟨_, _, _, _, _, _, _, _, _, _, rfl, rfl, _⟩ := h; rfl; done) | (obtain ⟨_, _, _, _, _, _, _, _, _, _, _, rfl, rfl, _⟩ := h; rfl; done)) B6 (KK a6) (fun cdv A outer s H E hr => der_is_piece T G_is_within G_is_listed G_is_integer hr) (fun w es n k h => w_is_piece T_Piece O_Piece h)
  have G_padded : Go P w K mg base 1 "padded" (toSp K padSp) [] := fn_data F7 sc_padded (fun w es n k h => by first | (obtain ⟨rfl, _⟩ := h; rfl; done) | (obtain ⟨_, rfl, _⟩ := h; rfl; done) | (obtain ⟨_, _, rfl, _⟩ := h; rfl; done) | (obtain ⟨_, _, _, rfl, _⟩ := h; rfl; done) | (obtain ⟨_, _, _, _, rfl, _⟩ := h; rfl; done) | (obtain ⟨_, _, _, _, _, rfl, _⟩ := h; rfl; done) | (obtain ⟨_, _, _, _, _, _, rfl, _⟩ := h; rfl; done) | (obtain ⟨_, _, _, _, _, _, _, rfl, _⟩ := h; rfl; done) | (obtain ⟨_, _, _, _, _, _, _, _, rfl, _⟩ := h; rfl; done) | (obtain ⟨_, _, _, _, _, _, _, _, _, rfl, _⟩ := h; rfl; done) | (obtain ⟨_, _, _, _, _, _, _, _, _, _, rfl, _⟩ := h; rfl; done) | (obtain ⟨_, _, _, _, _, _, _, _, _, _, _, rfl, _⟩ := h; rfl; done) | (obtain ⟨_, _, _, _, _, _, _, _, _, _, _, _, rfl, _⟩ := h; rfl; done) | (obtain ⟨_, _, _, _, _, _, _, _, _, _, _, _, _, rfl, _⟩ := h; rfl; done) | (obtain ⟨_, _, _, _, _, _, _, _, _, _, _, _, _, _, rfl, _⟩ := h; rfl; done) | (rcases h with ⟨_, rfl, _⟩ | ⟨_, rfl, _⟩ <;> rfl; done) | (rcases h with ⟨_, rfl, _⟩ | ⟨_, rfl, _⟩ | ⟨_, rfl, _⟩ <;> rfl; done) | (obtain ⟨_, h⟩ := h; rcases h with ⟨_, rfl, _⟩ | ⟨_, rfl, _⟩ | ⟨_, rfl, _⟩ <;> rfl; done) | (obtain ⟨_, rfl, rfl, _⟩ := h; rfl; done) | (obtain ⟨_, _, rfl, rfl, _⟩ := h; rfl; done) | (obtain ⟨_, _, _, rfl, rfl, _⟩ := h; rfl; done) | (obtain ⟨_, _, _, _, rfl, rfl, _⟩ := h; rfl; done) | (obtain ⟨_, _, _, _, _, rfl, rfl, _⟩ := h; rfl; done) | (obtain ⟨_, _, _, _, _, _, rfl, rfl, _⟩ := h; rfl; done) | (obtain ⟨_, _, _, _, _, _, _, rfl, rfl, _⟩ := h; rfl; done) | (obtain ⟨_, _, _, _, _, _, _, _, rfl, rfl, _⟩ := h; rfl; done) | (obtain ⟨_, _, _, _, _, _, _, _, _, rfl, rfl, _⟩ := h; rfl; done) | (obtain ⟨_, _, _, _, _, _, _, _, _, _, rfl, rfl, _⟩ := h; rfl; done) | (obtain ⟨_, _, _, _, _, _, _, _, _, _, _, rfl, rfl, _⟩ := h; rfl; done)) B7 (KK a7) (fun cdv A outer s H E hr => der_padded T  hr) (fun w es n k h => w_padded  h)
  have G_pairs_of : Go P w K mg base 1 "pairs_of" (toSp K pairsSp) [] := fn_data F8 sc_pairs_of (fun w es n k h => by first | (obtain ⟨rfl, _⟩ := h; rfl; done) | (obtain ⟨_, rfl, _⟩ := h; rfl; done) | (obtain ⟨_, _, rfl, _⟩ := h; rfl; done) | (obtain ⟨_, _, _, rfl, _⟩ := h; rfl; done) | (obtain ⟨_, _, _, _, rfl, _⟩ := h; rfl; done) | (obtain ⟨_, _, _, _, _, rfl, _⟩ := h; rfl; done) | (obtain ⟨_, _, _, _, _, _, rfl, _⟩ := h; rfl; done) | (obtain ⟨_, _, _, _, _, _, _, rfl, _⟩ := h; rfl; done) | (obtain ⟨_, _, _, _, _, _, _, _, rfl, _⟩ := h; rfl; done) | (obtain ⟨_, _, _, _, _, _, _, _, _, rfl, _⟩ := h; rfl; done) | (obtain ⟨_, _, _, _, _, _, _, _, _, _, rfl, _⟩ := h; rfl; done) | (obtain ⟨_, _, _, _, _, _, _, _, _, _, _, rfl, _⟩ := h; rfl; done) | (obtain ⟨_, _, _, _, _, _, _, _, _, _, _, _, rfl, _⟩ := h; rfl; done) | (obtain ⟨_, _, _, _, _, _, _, _, _, _, _, _, _, rfl, _⟩ := h; rfl; done) | (obtain ⟨_, _, _, _, _, _, _, _, _, _, _, _, _, _, rfl, _⟩ := h; rfl; done) | (rcases h with ⟨_, rfl, _⟩ | ⟨_, rfl, _⟩ <;> rfl; done) | (rcases h with ⟨_, rfl, _⟩ | ⟨_, rfl, _⟩ | ⟨_, rfl, _⟩ <;> rfl; done) | (obtain ⟨_, h⟩ := h; rcases h with ⟨_, rfl, _⟩ | ⟨_, rfl, _⟩ | ⟨_, rfl, _⟩ <;> rfl; done) | (obtain ⟨_, rfl, rfl, _⟩ := h; rfl; done) | (obtain ⟨_, _, rfl, rfl, _⟩ := h; rfl; done) | (obtain ⟨_, _, _, rfl, rfl, _⟩ := h; rfl; done) | (obtain ⟨_, _, _, _, rfl, rfl, _⟩ := h; rfl; done) | (obtain ⟨_, _, _, _, _, rfl, rfl, _⟩ := h; rfl; done) | (obtain ⟨_, _, _, _, _, _, rfl, rfl, _⟩ := h; rfl; done) | (obtain ⟨_, _, _, _, _, _, _, rfl, rfl, _⟩ := h; rfl; done) | (obtain ⟨_, _, _, _, _, _, _, _, rfl, rfl, _⟩ := h; rfl; done) | (obtain ⟨_, _, _, _, _, _, _, _, _, rfl, rfl, _⟩ := h; rfl; done) | (obtain ⟨_, _, _, _, _, _, _, _, _, _, rfl, rfl, _⟩ := h; rfl; done) | (obtain ⟨_, _, _, _, _, _, _, _, _, _, _, rfl, rfl, _⟩ := h; rfl; done)) B8 (KK a8) (fun cdv A outer s H E hr => der_pairs_of T  hr) (fun w es n k h => w_pairs_of  h)
  have G_number_at : Go P w K mg base 2 "number_at" (toSp K naSp) [] := fn_data F9 sc_number_at (fun w es n k h => by first | (obtain ⟨rfl, _⟩ := h; rfl; done) | (obtain ⟨_, rfl, _⟩ := h; rfl; done) | (obtain ⟨_, _, rfl, _⟩ := h; rfl; done) | (obtain ⟨_, _, _, rfl, _⟩ := h; rfl; done) | (obtain ⟨_, _, _, _, rfl, _⟩ := h; rfl; done) | (obtain ⟨_, _, _, _, _, rfl, _⟩ := h; rfl; done) | (obtain ⟨_, _, _, _, _, _, rfl, _⟩ := h; rfl; done) | (obtain ⟨_, _, _, _, _, _, _, rfl, _⟩ := h; rfl; done) | (obtain ⟨_, _, _, _, _, _, _, _, rfl, _⟩ := h; rfl; done) | (obtain ⟨_, _, _, _, _, _, _, _, _, rfl, _⟩ := h; rfl; done) | (obtain ⟨_, _, _, _, _, _, _, _, _, _, rfl, _⟩ := h; rfl; done) | (obtain ⟨_, _, _, _, _, _, _, _, _, _, _, rfl, _⟩ := h; rfl; done) | (obtain ⟨_, _, _, _, _, _, _, _, _, _, _, _, rfl, _⟩ := h; rfl; done) | (obtain ⟨_, _, _, _, _, _, _, _, _, _, _, _, _, rfl, _⟩ := h; rfl; done) | (obtain ⟨_, _, _, _, _, _, _, _, _, _, _, _, _, _, rfl, _⟩ := h; rfl; done) | (rcases h with ⟨_, rfl, _⟩ | ⟨_, rfl, _⟩ <;> rfl; done) | (rcases h with ⟨_, rfl, _⟩ | ⟨_, rfl, _⟩ | ⟨_, rfl, _⟩ <;> rfl; done) | (obtain ⟨_, h⟩ := h; rcases h with ⟨_, rfl, _⟩ | ⟨_, rfl, _⟩ | ⟨_, rfl, _⟩ <;> rfl; done) | (obtain ⟨_, rfl, rfl, _⟩ := h; rfl; done) | (obtain ⟨_, _, rfl, rfl, _⟩ := h; rfl; done) | (obtain ⟨_, _, _, rfl, rfl, _⟩ := h; rfl; done) | (obtain ⟨_, _, _, _, rfl, rfl, _⟩ := h; rfl; done) | (obtain ⟨_, _, _, _, _, rfl, rfl, _⟩ := h; rfl; done) | (obtain ⟨_, _, _, _, _, _, rfl, rfl, _⟩ := h; rfl; done) | (obtain ⟨_, _, _, _, _, _, _, rfl, rfl, _⟩ := h; rfl; done) | (obtain ⟨_, _, _, _, _, _, _, _, rfl, rfl, _⟩ := h; rfl; done) | (obtain ⟨_, _, _, _, _, _, _, _, _, rfl, rfl, _⟩ := h; rfl; done) | (obtain ⟨_, _, _, _, _, _, _, _, _, _, rfl, rfl, _⟩ := h; rfl; done) | (obtain ⟨_, _, _, _, _, _, _, _, _, _, _, rfl, rfl, _⟩ := h; rfl; done)) B9 (KK a9) (fun cdv A outer s H E hr => der_number_at T G_padded G_pairs_of hr) (fun w es n k h => w_number_at  h)
  have G_turn_of : Go P w K mg base 2 "turn_of" (toSp K turnSp) [] := fn_data F10 sc_turn_of (fun w es n k h => by first | (obtain ⟨rfl, _⟩ := h; rfl; done) | (obtain ⟨_, rfl, _⟩ := h; rfl; done) | (obtain ⟨_, _, rfl, _⟩ := h; rfl; done) | (obtain ⟨_, _, _, rfl, _⟩ := h; rfl; done) | (obtain ⟨_, _, _, _, rfl, _⟩ := h; rfl; done) | (obtain ⟨_, _, _, _, _, rfl, _⟩ := h; rfl; done) | (obtain ⟨_, _, _, _, _, _, rfl, _⟩ := h; rfl; done) | (obtain ⟨_, _, _, _, _, _, _, rfl, _⟩ := h; rfl; done) | (obtain ⟨_, _, _, _, _, _, _, _, rfl, _⟩ := h; rfl; done) | (obtain ⟨_, _, _, _, _, _, _, _, _, rfl, _⟩ := h; rfl; done) | (obtain ⟨_, _, _, _, _, _, _, _, _, _, rfl, _⟩ := h; rfl; done) | (obtain ⟨_, _, _, _, _, _, _, _, _, _, _, rfl, _⟩ := h; rfl; done) | (obtain ⟨_, _, _, _, _, _, _, _, _, _, _, _, rfl, _⟩ := h; rfl; done) | (obtain ⟨_, _, _, _, _, _, _, _, _, _, _, _, _, rfl, _⟩ := h; rfl; done) | (obtain ⟨_, _, _, _, _, _, _, _, _, _, _, _, _, _, rfl, _⟩ := h; rfl; done) | (rcases h with ⟨_, rfl, _⟩ | ⟨_, rfl, _⟩ <;> rfl; done) | (rcases h with ⟨_, rfl, _⟩ | ⟨_, rfl, _⟩ | ⟨_, rfl, _⟩ <;> rfl; done) | (obtain ⟨_, h⟩ := h; rcases h with ⟨_, rfl, _⟩ | ⟨_, rfl, _⟩ | ⟨_, rfl, _⟩ <;> rfl; done) | (obtain ⟨_, rfl, rfl, _⟩ := h; rfl; done) | (obtain ⟨_, _, rfl, rfl, _⟩ := h; rfl; done) | (obtain ⟨_, _, _, rfl, rfl, _⟩ := h; rfl; done) | (obtain ⟨_, _, _, _, rfl, rfl, _⟩ := h; rfl; done) | (obtain ⟨_, _, _, _, _, rfl, rfl, _⟩ := h; rfl; done) | (obtain ⟨_, _, _, _, _, _, rfl, rfl, _⟩ := h; rfl; done) | (obtain ⟨_, _, _, _, _, _, _, rfl, rfl, _⟩ := h; rfl; done) | (obtain ⟨_, _, _, _, _, _, _, _, rfl, rfl, _⟩ := h; rfl; done) | (obtain ⟨_, _, _, _, _, _, _, _, _, rfl, rfl, _⟩ := h; rfl; done) | (obtain ⟨_, _, _, _, _, _, _, _, _, _, rfl, rfl, _⟩ := h; rfl; done) | (obtain ⟨_, _, _, _, _, _, _, _, _, _, _, rfl, rfl, _⟩ := h; rfl; done)) B10 (KK a10) (fun cdv A outer s H E hr => der_turn_of T G_padded hr) (fun w es n k h => w_turn_of  h)
  have G_first_bad_moment : Go P w K mg base 1 "first_bad_moment" (toSp K (badmSp C_Piece)) [] := fn_data F11 sc_first_bad_moment (fun w es n k h => by first | (obtain ⟨rfl, _⟩ := h; rfl; done) | (obtain ⟨_, rfl, _⟩ := h; rfl; done) | (obtain ⟨_, _, rfl, _⟩ := h; rfl; done) | (obtain ⟨_, _, _, rfl, _⟩ := h; rfl; done) | (obtain ⟨_, _, _, _, rfl, _⟩ := h; rfl; done) | (obtain ⟨_, _, _, _, _, rfl, _⟩ := h; rfl; done) | (obtain ⟨_, _, _, _, _, _, rfl, _⟩ := h; rfl; done) | (obtain ⟨_, _, _, _, _, _, _, rfl, _⟩ := h; rfl; done) | (obtain ⟨_, _, _, _, _, _, _, _, rfl, _⟩ := h; rfl; done) | (obtain ⟨_, _, _, _, _, _, _, _, _, rfl, _⟩ := h; rfl; done) | (obtain ⟨_, _, _, _, _, _, _, _, _, _, rfl, _⟩ := h; rfl; done) | (obtain ⟨_, _, _, _, _, _, _, _, _, _, _, rfl, _⟩ := h; rfl; done) | (obtain ⟨_, _, _, _, _, _, _, _, _, _, _, _, rfl, _⟩ := h; rfl; done) | (obtain ⟨_, _, _, _, _, _, _, _, _, _, _, _, _, rfl, _⟩ := h; rfl; done) | (obtain ⟨_, _, _, _, _, _, _, _, _, _, _, _, _, _, rfl, _⟩ := h; rfl; done) | (rcases h with ⟨_, rfl, _⟩ | ⟨_, rfl, _⟩ <;> rfl; done) | (rcases h with ⟨_, rfl, _⟩ | ⟨_, rfl, _⟩ | ⟨_, rfl, _⟩ <;> rfl; done) | (obtain ⟨_, h⟩ := h; rcases h with ⟨_, rfl, _⟩ | ⟨_, rfl, _⟩ | ⟨_, rfl, _⟩ <;> rfl; done) | (obtain ⟨_, rfl, rfl, _⟩ := h; rfl; done) | (obtain ⟨_, _, rfl, rfl, _⟩ := h; rfl; done) | (obtain ⟨_, _, _, rfl, rfl, _⟩ := h; rfl; done) | (obtain ⟨_, _, _, _, rfl, rfl, _⟩ := h; rfl; done) | (obtain ⟨_, _, _, _, _, rfl, rfl, _⟩ := h; rfl; done) | (obtain ⟨_, _, _, _, _, _, rfl, rfl, _⟩ := h; rfl; done) | (obtain ⟨_, _, _, _, _, _, _, rfl, rfl, _⟩ := h; rfl; done) | (obtain ⟨_, _, _, _, _, _, _, _, rfl, rfl, _⟩ := h; rfl; done) | (obtain ⟨_, _, _, _, _, _, _, _, _, rfl, rfl, _⟩ := h; rfl; done) | (obtain ⟨_, _, _, _, _, _, _, _, _, _, rfl, rfl, _⟩ := h; rfl; done) | (obtain ⟨_, _, _, _, _, _, _, _, _, _, _, rfl, rfl, _⟩ := h; rfl; done)) B11 (KK a11) (fun cdv A outer s H E hr => der_first_bad_moment T  hr) (fun w es n k h => w_first_bad_moment T_Piece h)
  have G_first_beyond : Go P w K mg base 4 "first_beyond" (toSp K beyondSp) [] := go_beyond T lR0 cR0R kR0 (KK aR0) (NdefX.tabB_of_K KB hcR0 (tb PR0 (by simp)).1 (tb PR0 (by simp)).2) tabR0 (fun _ _ => if_pos rfl) F47 (KK a47) B47 G_number_at G_turn_of
  have G_wrong_in : Go P w K mg base 5 "wrong_in" (toSp K (wrongSp C_Piece)) [] := fn_data F12 sc_wrong_in (fun w es n k h => by first | (obtain ⟨rfl, _⟩ := h; rfl; done) | (obtain ⟨_, rfl, _⟩ := h; rfl; done) | (obtain ⟨_, _, rfl, _⟩ := h; rfl; done) | (obtain ⟨_, _, _, rfl, _⟩ := h; rfl; done) | (obtain ⟨_, _, _, _, rfl, _⟩ := h; rfl; done) | (obtain ⟨_, _, _, _, _, rfl, _⟩ := h; rfl; done) | (obtain ⟨_, _, _, _, _, _, rfl, _⟩ := h; rfl; done) | (obtain ⟨_, _, _, _, _, _, _, rfl, _⟩ := h; rfl; done) | (obtain ⟨_, _, _, _, _, _, _, _, rfl, _⟩ := h; rfl; done) | (obtain ⟨_, _, _, _, _, _, _, _, _, rfl, _⟩ := h; rfl; done) | (obtain ⟨_, _, _, _, _, _, _, _, _, _, rfl, _⟩ := h; rfl; done) | (obtain ⟨_, _, _, _, _, _, _, _, _, _, _, rfl, _⟩ := h; rfl; done) | (obtain ⟨_, _, _, _, _, _, _, _, _, _, _, _, rfl, _⟩ := h; rfl; done) | (obtain ⟨_, _, _, _, _, _, _, _, _, _, _, _, _, rfl, _⟩ := h; rfl; done) | (obtain ⟨_, _, _, _, _, _, _, _, _, _, _, _, _, _, rfl, _⟩ := h; rfl; done) | (rcases h with ⟨_, rfl, _⟩ | ⟨_, rfl, _⟩ <;> rfl; done) | (rcases h with ⟨_, rfl, _⟩ | ⟨_, rfl, _⟩ | ⟨_, rfl, _⟩ <;> rfl; done) | (obtain ⟨_, h⟩ := h; rcases h with ⟨_, rfl, _⟩ | ⟨_, rfl, _⟩ | ⟨_, rfl, _⟩ <;> rfl; done) | (obtain ⟨_, rfl, rfl, _⟩ := h; rfl; done) | (obtain ⟨_, _, rfl, rfl, _⟩ := h; rfl; done) | (obtain ⟨_, _, _, rfl, rfl, _⟩ := h; rfl; done) | (obtain ⟨_, _, _, _, rfl, rfl, _⟩ := h; rfl; done) | (obtain ⟨_, _, _, _, _, rfl, rfl, _⟩ := h; rfl; done) | (obtain ⟨_, _, _, _, _, _, rfl, rfl, _⟩ := h; rfl; done) | (obtain ⟨_, _, _, _, _, _, _, rfl, rfl, _⟩ := h; rfl; done) | (obtain ⟨_, _, _, _, _, _, _, _, rfl, rfl, _⟩ := h; rfl; done) | (obtain ⟨_, _, _, _, _, _, _, _, _, rfl, rfl, _⟩ := h; rfl; done) | (obtain ⟨_, _, _, _, _, _, _, _, _, _, rfl, rfl, _⟩ := h; rfl; done) | (obtain ⟨_, _, _, _, _, _, _, _, _, _, _, rfl, rfl, _⟩ := h; rfl; done)) B12 (KK a12) (fun cdv A outer s H E hr => der_wrong_in T G_first_beyond G_first_bad_moment hr) (fun w es n k h => w_wrong_in T_Piece h)
  have G_moment_at : Go P w K mg base 1 "moment_at" (toSp K (momSp C_Piece)) [] := fn_data F13 sc_moment_at (fun w es n k h => by first | (obtain ⟨rfl, _⟩ := h; rfl; done) | (obtain ⟨_, rfl, _⟩ := h; rfl; done) | (obtain ⟨_, _, rfl, _⟩ := h; rfl; done) | (obtain ⟨_, _, _, rfl, _⟩ := h; rfl; done) | (obtain ⟨_, _, _, _, rfl, _⟩ := h; rfl; done) | (obtain ⟨_, _, _, _, _, rfl, _⟩ := h; rfl; done) | (obtain ⟨_, _, _, _, _, _, rfl, _⟩ := h; rfl; done) | (obtain ⟨_, _, _, _, _, _, _, rfl, _⟩ := h; rfl; done) | (obtain ⟨_, _, _, _, _, _, _, _, rfl, _⟩ := h; rfl; done) | (obtain ⟨_, _, _, _, _, _, _, _, _, rfl, _⟩ := h; rfl; done) | (obtain ⟨_, _, _, _, _, _, _, _, _, _, rfl, _⟩ := h; rfl; done) | (obtain ⟨_, _, _, _, _, _, _, _, _, _, _, rfl, _⟩ := h; rfl; done) | (obtain ⟨_, _, _, _, _, _, _, _, _, _, _, _, rfl, _⟩ := h; rfl; done) | (obtain ⟨_, _, _, _, _, _, _, _, _, _, _, _, _, rfl, _⟩ := h; rfl; done) | (obtain ⟨_, _, _, _, _, _, _, _, _, _, _, _, _, _, rfl, _⟩ := h; rfl; done) | (rcases h with ⟨_, rfl, _⟩ | ⟨_, rfl, _⟩ <;> rfl; done) | (rcases h with ⟨_, rfl, _⟩ | ⟨_, rfl, _⟩ | ⟨_, rfl, _⟩ <;> rfl; done) | (obtain ⟨_, h⟩ := h; rcases h with ⟨_, rfl, _⟩ | ⟨_, rfl, _⟩ | ⟨_, rfl, _⟩ <;> rfl; done) | (obtain ⟨_, rfl, rfl, _⟩ := h; rfl; done) | (obtain ⟨_, _, rfl, rfl, _⟩ := h; rfl; done) | (obtain ⟨_, _, _, rfl, rfl, _⟩ := h; rfl; done) | (obtain ⟨_, _, _, _, rfl, rfl, _⟩ := h; rfl; done) | (obtain ⟨_, _, _, _, _, rfl, rfl, _⟩ := h; rfl; done) | (obtain ⟨_, _, _, _, _, _, rfl, rfl, _⟩ := h; rfl; done) | (obtain ⟨_, _, _, _, _, _, _, rfl, rfl, _⟩ := h; rfl; done) | (obtain ⟨_, _, _, _, _, _, _, _, rfl, rfl, _⟩ := h; rfl; done) | (obtain ⟨_, _, _, _, _, _, _, _, _, rfl, rfl, _⟩ := h; rfl; done) | (obtain ⟨_, _, _, _, _, _, _, _, _, _, rfl, rfl, _⟩ := h; rfl; done) | (obtain ⟨_, _, _, _, _, _, _, _, _, _, _, rfl, rfl, _⟩ := h; rfl; done)) B13 (KK a13) (fun cdv A outer s H E hr => der_moment_at T  hr) (fun w es n k h => w_moment_at T_Piece h)
  have G_last_moment : Go P w K mg base 2 "last_moment" (toSp K (lastSp C_Piece)) [] := fn_data F14 sc_last_moment (fun w es n k h => by first | (obtain ⟨rfl, _⟩ := h; rfl; done) | (obtain ⟨_, rfl, _⟩ := h; rfl; done) | (obtain ⟨_, _, rfl, _⟩ := h; rfl; done) | (obtain ⟨_, _, _, rfl, _⟩ := h; rfl; done) | (obtain ⟨_, _, _, _, rfl, _⟩ := h; rfl; done) | (obtain ⟨_, _, _, _, _, rfl, _⟩ := h; rfl; done) | (obtain ⟨_, _, _, _, _, _, rfl, _⟩ := h; rfl; done) | (obtain ⟨_, _, _, _, _, _, _, rfl, _⟩ := h; rfl; done) | (obtain ⟨_, _, _, _, _, _, _, _, rfl, _⟩ := h; rfl; done) | (obtain ⟨_, _, _, _, _, _, _, _, _, rfl, _⟩ := h; rfl; done) | (obtain ⟨_, _, _, _, _, _, _, _, _, _, rfl, _⟩ := h; rfl; done) | (obtain ⟨_, _, _, _, _, _, _, _, _, _, _, rfl, _⟩ := h; rfl; done) | (obtain ⟨_, _, _, _, _, _, _, _, _, _, _, _, rfl, _⟩ := h; rfl; done) | (obtain ⟨_, _, _, _, _, _, _, _, _, _, _, _, _, rfl, _⟩ := h; rfl; done) | (obtain ⟨_, _, _, _, _, _, _, _, _, _, _, _, _, _, rfl, _⟩ := h; rfl; done) | (rcases h with ⟨_, rfl, _⟩ | ⟨_, rfl, _⟩ <;> rfl; done) | (rcases h with ⟨_, rfl, _⟩ | ⟨_, rfl, _⟩ | ⟨_, rfl, _⟩ <;> rfl; done) | (obtain ⟨_, h⟩ := h; rcases h with ⟨_, rfl, _⟩ | ⟨_, rfl, _⟩ | ⟨_, rfl, _⟩ <;> rfl; done) | (obtain ⟨_, rfl, rfl, _⟩ := h; rfl; done) | (obtain ⟨_, _, rfl, rfl, _⟩ := h; rfl; done) | (obtain ⟨_, _, _, rfl, rfl, _⟩ := h; rfl; done) | (obtain ⟨_, _, _, _, rfl, rfl, _⟩ := h; rfl; done) | (obtain ⟨_, _, _, _, _, rfl, rfl, _⟩ := h; rfl; done) | (obtain ⟨_, _, _, _, _, _, rfl, rfl, _⟩ := h; rfl; done) | (obtain ⟨_, _, _, _, _, _, _, rfl, rfl, _⟩ := h; rfl; done) | (obtain ⟨_, _, _, _, _, _, _, _, rfl, rfl, _⟩ := h; rfl; done) | (obtain ⟨_, _, _, _, _, _, _, _, _, rfl, rfl, _⟩ := h; rfl; done) | (obtain ⟨_, _, _, _, _, _, _, _, _, _, rfl, rfl, _⟩ := h; rfl; done) | (obtain ⟨_, _, _, _, _, _, _, _, _, _, _, rfl, rfl, _⟩ := h; rfl; done)) B14 (KK a14) (fun cdv A outer s H E hr => der_last_moment T G_moment_at hr) (fun w es n k h => w_last_moment T_Piece h)
  have G_first_wrong : Go P w K mg base 6 "first_wrong" (toSp K (fwSp C_Piece)) [] := fn_data F15 sc_first_wrong (fun w es n k h => by first | (obtain ⟨rfl, _⟩ := h; rfl; done) | (obtain ⟨_, rfl, _⟩ := h; rfl; done) | (obtain ⟨_, _, rfl, _⟩ := h; rfl; done) | (obtain ⟨_, _, _, rfl, _⟩ := h; rfl; done) | (obtain ⟨_, _, _, _, rfl, _⟩ := h; rfl; done) | (obtain ⟨_, _, _, _, _, rfl, _⟩ := h; rfl; done) | (obtain ⟨_, _, _, _, _, _, rfl, _⟩ := h; rfl; done) | (obtain ⟨_, _, _, _, _, _, _, rfl, _⟩ := h; rfl; done) | (obtain ⟨_, _, _, _, _, _, _, _, rfl, _⟩ := h; rfl; done) | (obtain ⟨_, _, _, _, _, _, _, _, _, rfl, _⟩ := h; rfl; done) | (obtain ⟨_, _, _, _, _, _, _, _, _, _, rfl, _⟩ := h; rfl; done) | (obtain ⟨_, _, _, _, _, _, _, _, _, _, _, rfl, _⟩ := h; rfl; done) | (obtain ⟨_, _, _, _, _, _, _, _, _, _, _, _, rfl, _⟩ := h; rfl; done) | (obtain ⟨_, _, _, _, _, _, _, _, _, _, _, _, _, rfl, _⟩ := h; rfl; done) | (obtain ⟨_, _, _, _, _, _, _, _, _, _, _, _, _, _, rfl, _⟩ := h; rfl; done) | (rcases h with ⟨_, rfl, _⟩ | ⟨_, rfl, _⟩ <;> rfl; done) | (rcases h with ⟨_, rfl, _⟩ | ⟨_, rfl, _⟩ | ⟨_, rfl, _⟩ <;> rfl; done) | (obtain ⟨_, h⟩ := h; rcases h with ⟨_, rfl, _⟩ | ⟨_, rfl, _⟩ | ⟨_, rfl, _⟩ <;> rfl; done) | (obtain ⟨_, rfl, rfl, _⟩ := h; rfl; done) | (obtain ⟨_, _, rfl, rfl, _⟩ := h; rfl; done) | (obtain ⟨_, _, _, rfl, rfl, _⟩ := h; rfl; done) | (obtain ⟨_, _, _, _, rfl, rfl, _⟩ := h; rfl; done) | (obtain ⟨_, _, _, _, _, rfl, rfl, _⟩ := h; rfl; done) | (obtain ⟨_, _, _, _, _, _, rfl, rfl, _⟩ := h; rfl; done) | (obtain ⟨_, _, _, _, _, _, _, rfl, rfl, _⟩ := h; rfl; done) | (obtain ⟨_, _, _, _, _, _, _, _, rfl, rfl, _⟩ := h; rfl; done) | (obtain ⟨_, _, _, _, _, _, _, _, _, rfl, rfl, _⟩ := h; rfl; done) | (obtain ⟨_, _, _, _, _, _, _, _, _, _, rfl, rfl, _⟩ := h; rfl; done) | (obtain ⟨_, _, _, _, _, _, _, _, _, _, _, rfl, rfl, _⟩ := h; rfl; done)) B15 (KK a15) (fun cdv A outer s H E hr => der_first_wrong T G_wrong_in G_last_moment hr) (fun w es n k h => w_first_wrong T_Piece h)
  have G_are_pieces : Go P w K mg base 7 "are_pieces" (toSp K (piecesSp C_Piece)) [] := fn_data F16 sc_are_pieces (fun w es n k h => by first | (obtain ⟨rfl, _⟩ := h; rfl; done) | (obtain ⟨_, rfl, _⟩ := h; rfl; done) | (obtain ⟨_, _, rfl, _⟩ := h; rfl; done) | (obtain ⟨_, _, _, rfl, _⟩ := h; rfl; done) | (obtain ⟨_, _, _, _, rfl, _⟩ := h; rfl; done) | (obtain ⟨_, _, _, _, _, rfl, _⟩ := h; rfl; done) | (obtain ⟨_, _, _, _, _, _, rfl, _⟩ := h; rfl; done) | (obtain ⟨_, _, _, _, _, _, _, rfl, _⟩ := h; rfl; done) | (obtain ⟨_, _, _, _, _, _, _, _, rfl, _⟩ := h; rfl; done) | (obtain ⟨_, _, _, _, _, _, _, _, _, rfl, _⟩ := h; rfl; done) | (obtain ⟨_, _, _, _, _, _, _, _, _, _, rfl, _⟩ := h; rfl; done) | (obtain ⟨_, _, _, _, _, _, _, _, _, _, _, rfl, _⟩ := h; rfl; done) | (obtain ⟨_, _, _, _, _, _, _, _, _, _, _, _, rfl, _⟩ := h; rfl; done) | (obtain ⟨_, _, _, _, _, _, _, _, _, _, _, _, _, rfl, _⟩ := h; rfl; done) | (obtain ⟨_, _, _, _, _, _, _, _, _, _, _, _, _, _, rfl, _⟩ := h; rfl; done) | (rcases h with ⟨_, rfl, _⟩ | ⟨_, rfl, _⟩ <;> rfl; done) | (rcases h with ⟨_, rfl, _⟩ | ⟨_, rfl, _⟩ | ⟨_, rfl, _⟩ <;> rfl; done) | (obtain ⟨_, h⟩ := h; rcases h with ⟨_, rfl, _⟩ | ⟨_, rfl, _⟩ | ⟨_, rfl, _⟩ <;> rfl; done) | (obtain ⟨_, rfl, rfl, _⟩ := h; rfl; done) | (obtain ⟨_, _, rfl, rfl, _⟩ := h; rfl; done) | (obtain ⟨_, _, _, rfl, rfl, _⟩ := h; rfl; done) | (obtain ⟨_, _, _, _, rfl, rfl, _⟩ := h; rfl; done) | (obtain ⟨_, _, _, _, _, rfl, rfl, _⟩ := h; rfl; done) | (obtain ⟨_, _, _, _, _, _, rfl, rfl, _⟩ := h; rfl; done) | (obtain ⟨_, _, _, _, _, _, _, rfl, rfl, _⟩ := h; rfl; done) | (obtain ⟨_, _, _, _, _, _, _, _, rfl, rfl, _⟩ := h; rfl; done) | (obtain ⟨_, _, _, _, _, _, _, _, _, rfl, rfl, _⟩ := h; rfl; done) | (obtain ⟨_, _, _, _, _, _, _, _, _, _, rfl, rfl, _⟩ := h; rfl; done) | (obtain ⟨_, _, _, _, _, _, _, _, _, _, _, rfl, rfl, _⟩ := h; rfl; done)) B16 (KK a16) (fun cdv A outer s H E hr => der_are_pieces T G_is_listed G_is_piece G_first_wrong hr) (fun w es n k h => w_are_pieces  h)
  have G_need_pieces : Go P w K mg base 8 "need_pieces" (toSp K (needPSp C_Piece)) [] := fn_data F17 sc_need_pieces (fun w es n k h => by first | (obtain ⟨rfl, _⟩ := h; rfl; done) | (obtain ⟨_, rfl, _⟩ := h; rfl; done) | (obtain ⟨_, _, rfl, _⟩ := h; rfl; done) | (obtain ⟨_, _, _, rfl, _⟩ := h; rfl; done) | (obtain ⟨_, _, _, _, rfl, _⟩ := h; rfl; done) | (obtain ⟨_, _, _, _, _, rfl, _⟩ := h; rfl; done) | (obtain ⟨_, _, _, _, _, _, rfl, _⟩ := h; rfl; done) | (obtain ⟨_, _, _, _, _, _, _, rfl, _⟩ := h; rfl; done) | (obtain ⟨_, _, _, _, _, _, _, _, rfl, _⟩ := h; rfl; done) | (obtain ⟨_, _, _, _, _, _, _, _, _, rfl, _⟩ := h; rfl; done) | (obtain ⟨_, _, _, _, _, _, _, _, _, _, rfl, _⟩ := h; rfl; done) | (obtain ⟨_, _, _, _, _, _, _, _, _, _, _, rfl, _⟩ := h; rfl; done) | (obtain ⟨_, _, _, _, _, _, _, _, _, _, _, _, rfl, _⟩ := h; rfl; done) | (obtain ⟨_, _, _, _, _, _, _, _, _, _, _, _, _, rfl, _⟩ := h; rfl; done) | (obtain ⟨_, _, _, _, _, _, _, _, _, _, _, _, _, _, rfl, _⟩ := h; rfl; done) | (rcases h with ⟨_, rfl, _⟩ | ⟨_, rfl, _⟩ <;> rfl; done) | (rcases h with ⟨_, rfl, _⟩ | ⟨_, rfl, _⟩ | ⟨_, rfl, _⟩ <;> rfl; done) | (obtain ⟨_, h⟩ := h; rcases h with ⟨_, rfl, _⟩ | ⟨_, rfl, _⟩ | ⟨_, rfl, _⟩ <;> rfl; done) | (obtain ⟨_, rfl, rfl, _⟩ := h; rfl; done) | (obtain ⟨_, _, rfl, rfl, _⟩ := h; rfl; done) | (obtain ⟨_, _, _, rfl, rfl, _⟩ := h; rfl; done) | (obtain ⟨_, _, _, _, rfl, rfl, _⟩ := h; rfl; done) | (obtain ⟨_, _, _, _, _, rfl, rfl, _⟩ := h; rfl; done) | (obtain ⟨_, _, _, _, _, _, rfl, rfl, _⟩ := h; rfl; done) | (obtain ⟨_, _, _, _, _, _, _, rfl, rfl, _⟩ := h; rfl; done) | (obtain ⟨_, _, _, _, _, _, _, _, rfl, rfl, _⟩ := h; rfl; done) | (obtain ⟨_, _, _, _, _, _, _, _, _, rfl, rfl, _⟩ := h; rfl; done) | (obtain ⟨_, _, _, _, _, _, _, _, _, _, rfl, rfl, _⟩ := h; rfl; done) | (obtain ⟨_, _, _, _, _, _, _, _, _, _, _, rfl, rfl, _⟩ := h; rfl; done)) B17 (KK a17) (fun cdv A outer s H E hr => der_need_pieces T G_are_pieces hr) (fun w es n k h => w_need_pieces  h)
  have G_need_question : Go P w K mg base 1 "need_question" (toSp K (needQSp C_Question)) [] := fn_data F18 sc_need_question (fun w es n k h => by first | (obtain ⟨rfl, _⟩ := h; rfl; done) | (obtain ⟨_, rfl, _⟩ := h; rfl; done) | (obtain ⟨_, _, rfl, _⟩ := h; rfl; done) | (obtain ⟨_, _, _, rfl, _⟩ := h; rfl; done) | (obtain ⟨_, _, _, _, rfl, _⟩ := h; rfl; done) | (obtain ⟨_, _, _, _, _, rfl, _⟩ := h; rfl; done) | (obtain ⟨_, _, _, _, _, _, rfl, _⟩ := h; rfl; done) | (obtain ⟨_, _, _, _, _, _, _, rfl, _⟩ := h; rfl; done) | (obtain ⟨_, _, _, _, _, _, _, _, rfl, _⟩ := h; rfl; done) | (obtain ⟨_, _, _, _, _, _, _, _, _, rfl, _⟩ := h; rfl; done) | (obtain ⟨_, _, _, _, _, _, _, _, _, _, rfl, _⟩ := h; rfl; done) | (obtain ⟨_, _, _, _, _, _, _, _, _, _, _, rfl, _⟩ := h; rfl; done) | (obtain ⟨_, _, _, _, _, _, _, _, _, _, _, _, rfl, _⟩ := h; rfl; done) | (obtain ⟨_, _, _, _, _, _, _, _, _, _, _, _, _, rfl, _⟩ := h; rfl; done) | (obtain ⟨_, _, _, _, _, _, _, _, _, _, _, _, _, _, rfl, _⟩ := h; rfl; done) | (rcases h with ⟨_, rfl, _⟩ | ⟨_, rfl, _⟩ <;> rfl; done) | (rcases h with ⟨_, rfl, _⟩ | ⟨_, rfl, _⟩ | ⟨_, rfl, _⟩ <;> rfl; done) | (obtain ⟨_, h⟩ := h; rcases h with ⟨_, rfl, _⟩ | ⟨_, rfl, _⟩ | ⟨_, rfl, _⟩ <;> rfl; done) | (obtain ⟨_, rfl, rfl, _⟩ := h; rfl; done) | (obtain ⟨_, _, rfl, rfl, _⟩ := h; rfl; done) | (obtain ⟨_, _, _, rfl, rfl, _⟩ := h; rfl; done) | (obtain ⟨_, _, _, _, rfl, rfl, _⟩ := h; rfl; done) | (obtain ⟨_, _, _, _, _, rfl, rfl, _⟩ := h; rfl; done) | (obtain ⟨_, _, _, _, _, _, rfl, rfl, _⟩ := h; rfl; done) | (obtain ⟨_, _, _, _, _, _, _, rfl, rfl, _⟩ := h; rfl; done) | (obtain ⟨_, _, _, _, _, _, _, _, rfl, rfl, _⟩ := h; rfl; done) | (obtain ⟨_, _, _, _, _, _, _, _, _, rfl, rfl, _⟩ := h; rfl; done) | (obtain ⟨_, _, _, _, _, _, _, _, _, _, rfl, rfl, _⟩ := h; rfl; done) | (obtain ⟨_, _, _, _, _, _, _, _, _, _, _, rfl, rfl, _⟩ := h; rfl; done)) B18 (KK a18) (fun cdv A outer s H E hr => der_need_question T  hr) (fun w es n k h => w_need_question O_Question h)
  have G_below_in : Go P w K mg base 1 "below_in" (toSp K (belowSp C_Piece)) [] := fn_data F19 sc_below_in (fun w es n k h => by first | (obtain ⟨rfl, _⟩ := h; rfl; done) | (obtain ⟨_, rfl, _⟩ := h; rfl; done) | (obtain ⟨_, _, rfl, _⟩ := h; rfl; done) | (obtain ⟨_, _, _, rfl, _⟩ := h; rfl; done) | (obtain ⟨_, _, _, _, rfl, _⟩ := h; rfl; done) | (obtain ⟨_, _, _, _, _, rfl, _⟩ := h; rfl; done) | (obtain ⟨_, _, _, _, _, _, rfl, _⟩ := h; rfl; done) | (obtain ⟨_, _, _, _, _, _, _, rfl, _⟩ := h; rfl; done) | (obtain ⟨_, _, _, _, _, _, _, _, rfl, _⟩ := h; rfl; done) | (obtain ⟨_, _, _, _, _, _, _, _, _, rfl, _⟩ := h; rfl; done) | (obtain ⟨_, _, _, _, _, _, _, _, _, _, rfl, _⟩ := h; rfl; done) | (obtain ⟨_, _, _, _, _, _, _, _, _, _, _, rfl, _⟩ := h; rfl; done) | (obtain ⟨_, _, _, _, _, _, _, _, _, _, _, _, rfl, _⟩ := h; rfl; done) | (obtain ⟨_, _, _, _, _, _, _, _, _, _, _, _, _, rfl, _⟩ := h; rfl; done) | (obtain ⟨_, _, _, _, _, _, _, _, _, _, _, _, _, _, rfl, _⟩ := h; rfl; done) | (rcases h with ⟨_, rfl, _⟩ | ⟨_, rfl, _⟩ <;> rfl; done) | (rcases h with ⟨_, rfl, _⟩ | ⟨_, rfl, _⟩ | ⟨_, rfl, _⟩ <;> rfl; done) | (obtain ⟨_, h⟩ := h; rcases h with ⟨_, rfl, _⟩ | ⟨_, rfl, _⟩ | ⟨_, rfl, _⟩ <;> rfl; done) | (obtain ⟨_, rfl, rfl, _⟩ := h; rfl; done) | (obtain ⟨_, _, rfl, rfl, _⟩ := h; rfl; done) | (obtain ⟨_, _, _, rfl, rfl, _⟩ := h; rfl; done) | (obtain ⟨_, _, _, _, rfl, rfl, _⟩ := h; rfl; done) | (obtain ⟨_, _, _, _, _, rfl, rfl, _⟩ := h; rfl; done) | (obtain ⟨_, _, _, _, _, _, rfl, rfl, _⟩ := h; rfl; done) | (obtain ⟨_, _, _, _, _, _, _, rfl, rfl, _⟩ := h; rfl; done) | (obtain ⟨_, _, _, _, _, _, _, _, rfl, rfl, _⟩ := h; rfl; done) | (obtain ⟨_, _, _, _, _, _, _, _, _, rfl, rfl, _⟩ := h; rfl; done) | (obtain ⟨_, _, _, _, _, _, _, _, _, _, rfl, rfl, _⟩ := h; rfl; done) | (obtain ⟨_, _, _, _, _, _, _, _, _, _, _, rfl, rfl, _⟩ := h; rfl; done)) B19 (KK a19) (fun cdv A outer s H E hr => der_below_in T  hr) (fun w es n k h => w_below_in T_Piece h)
  have G_trimmed : Go P w K mg base 1 "trimmed" (toSp K trimSp) [] := fn_data F20 sc_trimmed (fun w es n k h => by first | (obtain ⟨rfl, _⟩ := h; rfl; done) | (obtain ⟨_, rfl, _⟩ := h; rfl; done) | (obtain ⟨_, _, rfl, _⟩ := h; rfl; done) | (obtain ⟨_, _, _, rfl, _⟩ := h; rfl; done) | (obtain ⟨_, _, _, _, rfl, _⟩ := h; rfl; done) | (obtain ⟨_, _, _, _, _, rfl, _⟩ := h; rfl; done) | (obtain ⟨_, _, _, _, _, _, rfl, _⟩ := h; rfl; done) | (obtain ⟨_, _, _, _, _, _, _, rfl, _⟩ := h; rfl; done) | (obtain ⟨_, _, _, _, _, _, _, _, rfl, _⟩ := h; rfl; done) | (obtain ⟨_, _, _, _, _, _, _, _, _, rfl, _⟩ := h; rfl; done) | (obtain ⟨_, _, _, _, _, _, _, _, _, _, rfl, _⟩ := h; rfl; done) | (obtain ⟨_, _, _, _, _, _, _, _, _, _, _, rfl, _⟩ := h; rfl; done) | (obtain ⟨_, _, _, _, _, _, _, _, _, _, _, _, rfl, _⟩ := h; rfl; done) | (obtain ⟨_, _, _, _, _, _, _, _, _, _, _, _, _, rfl, _⟩ := h; rfl; done) | (obtain ⟨_, _, _, _, _, _, _, _, _, _, _, _, _, _, rfl, _⟩ := h; rfl; done) | (rcases h with ⟨_, rfl, _⟩ | ⟨_, rfl, _⟩ <;> rfl; done) | (rcases h with ⟨_, rfl, _⟩ | ⟨_, rfl, _⟩ | ⟨_, rfl, _⟩ <;> rfl; done) | (obtain ⟨_, h⟩ := h; rcases h with ⟨_, rfl, _⟩ | ⟨_, rfl, _⟩ | ⟨_, rfl, _⟩ <;> rfl; done) | (obtain ⟨_, rfl, rfl, _⟩ := h; rfl; done) | (obtain ⟨_, _, rfl, rfl, _⟩ := h; rfl; done) | (obtain ⟨_, _, _, rfl, rfl, _⟩ := h; rfl; done) | (obtain ⟨_, _, _, _, rfl, rfl, _⟩ := h; rfl; done) | (obtain ⟨_, _, _, _, _, rfl, rfl, _⟩ := h; rfl; done) | (obtain ⟨_, _, _, _, _, _, rfl, rfl, _⟩ := h; rfl; done) | (obtain ⟨_, _, _, _, _, _, _, rfl, rfl, _⟩ := h; rfl; done) | (obtain ⟨_, _, _, _, _, _, _, _, rfl, rfl, _⟩ := h; rfl; done) | (obtain ⟨_, _, _, _, _, _, _, _, _, rfl, rfl, _⟩ := h; rfl; done) | (obtain ⟨_, _, _, _, _, _, _, _, _, _, rfl, rfl, _⟩ := h; rfl; done) | (obtain ⟨_, _, _, _, _, _, _, _, _, _, _, rfl, rfl, _⟩ := h; rfl; done)) B20 (KK a20) (fun cdv A outer s H E hr => der_trimmed T  hr) (fun w es n k h => w_trimmed  h)
  have G_part_of : Go P w K mg base 3 "part_of" (toSp K partSp) [] := fn_data F21 sc_part_of (fun w es n k h => by first | (obtain ⟨rfl, _⟩ := h; rfl; done) | (obtain ⟨_, rfl, _⟩ := h; rfl; done) | (obtain ⟨_, _, rfl, _⟩ := h; rfl; done) | (obtain ⟨_, _, _, rfl, _⟩ := h; rfl; done) | (obtain ⟨_, _, _, _, rfl, _⟩ := h; rfl; done) | (obtain ⟨_, _, _, _, _, rfl, _⟩ := h; rfl; done) | (obtain ⟨_, _, _, _, _, _, rfl, _⟩ := h; rfl; done) | (obtain ⟨_, _, _, _, _, _, _, rfl, _⟩ := h; rfl; done) | (obtain ⟨_, _, _, _, _, _, _, _, rfl, _⟩ := h; rfl; done) | (obtain ⟨_, _, _, _, _, _, _, _, _, rfl, _⟩ := h; rfl; done) | (obtain ⟨_, _, _, _, _, _, _, _, _, _, rfl, _⟩ := h; rfl; done) | (obtain ⟨_, _, _, _, _, _, _, _, _, _, _, rfl, _⟩ := h; rfl; done) | (obtain ⟨_, _, _, _, _, _, _, _, _, _, _, _, rfl, _⟩ := h; rfl; done) | (obtain ⟨_, _, _, _, _, _, _, _, _, _, _, _, _, rfl, _⟩ := h; rfl; done) | (obtain ⟨_, _, _, _, _, _, _, _, _, _, _, _, _, _, rfl, _⟩ := h; rfl; done) | (rcases h with ⟨_, rfl, _⟩ | ⟨_, rfl, _⟩ <;> rfl; done) | (rcases h with ⟨_, rfl, _⟩ | ⟨_, rfl, _⟩ | ⟨_, rfl, _⟩ <;> rfl; done) | (obtain ⟨_, h⟩ := h; rcases h with ⟨_, rfl, _⟩ | ⟨_, rfl, _⟩ | ⟨_, rfl, _⟩ <;> rfl; done) | (obtain ⟨_, rfl, rfl, _⟩ := h; rfl; done) | (obtain ⟨_, _, rfl, rfl, _⟩ := h; rfl; done) | (obtain ⟨_, _, _, rfl, rfl, _⟩ := h; rfl; done) | (obtain ⟨_, _, _, _, rfl, rfl, _⟩ := h; rfl; done) | (obtain ⟨_, _, _, _, _, rfl, rfl, _⟩ := h; rfl; done) | (obtain ⟨_, _, _, _, _, _, rfl, rfl, _⟩ := h; rfl; done) | (obtain ⟨_, _, _, _, _, _, _, rfl, rfl, _⟩ := h; rfl; done) | (obtain ⟨_, _, _, _, _, _, _, _, rfl, rfl, _⟩ := h; rfl; done) | (obtain ⟨_, _, _, _, _, _, _, _, _, rfl, rfl, _⟩ := h; rfl; done) | (obtain ⟨_, _, _, _, _, _, _, _, _, _, rfl, rfl, _⟩ := h; rfl; done) | (obtain ⟨_, _, _, _, _, _, _, _, _, _, _, rfl, rfl, _⟩ := h; rfl; done)) B21 (KK a21) (fun cdv A outer s H E hr => der_part_of T G_padded G_trimmed G_number_at hr) (fun w es n k h => w_part_of  h)
  have G_part_of_piece : Go P w K mg base 7 "part_of_piece" (toSp K (popSp C_Piece)) [] := fn_data F22 sc_part_of_piece (fun w es n k h => by first | (obtain ⟨rfl, _⟩ := h; rfl; done) | (obtain ⟨_, rfl, _⟩ := h; rfl; done) | (obtain ⟨_, _, rfl, _⟩ := h; rfl; done) | (obtain ⟨_, _, _, rfl, _⟩ := h; rfl; done) | (obtain ⟨_, _, _, _, rfl, _⟩ := h; rfl; done) | (obtain ⟨_, _, _, _, _, rfl, _⟩ := h; rfl; done) | (obtain ⟨_, _, _, _, _, _, rfl, _⟩ := h; rfl; done) | (obtain ⟨_, _, _, _, _, _, _, rfl, _⟩ := h; rfl; done) | (obtain ⟨_, _, _, _, _, _, _, _, rfl, _⟩ := h; rfl; done) | (obtain ⟨_, _, _, _, _, _, _, _, _, rfl, _⟩ := h; rfl; done) | (obtain ⟨_, _, _, _, _, _, _, _, _, _, rfl, _⟩ := h; rfl; done) | (obtain ⟨_, _, _, _, _, _, _, _, _, _, _, rfl, _⟩ := h; rfl; done) | (obtain ⟨_, _, _, _, _, _, _, _, _, _, _, _, rfl, _⟩ := h; rfl; done) | (obtain ⟨_, _, _, _, _, _, _, _, _, _, _, _, _, rfl, _⟩ := h; rfl; done) | (obtain ⟨_, _, _, _, _, _, _, _, _, _, _, _, _, _, rfl, _⟩ := h; rfl; done) | (rcases h with ⟨_, rfl, _⟩ | ⟨_, rfl, _⟩ <;> rfl; done) | (rcases h with ⟨_, rfl, _⟩ | ⟨_, rfl, _⟩ | ⟨_, rfl, _⟩ <;> rfl; done) | (obtain ⟨_, h⟩ := h; rcases h with ⟨_, rfl, _⟩ | ⟨_, rfl, _⟩ | ⟨_, rfl, _⟩ <;> rfl; done) | (obtain ⟨_, rfl, rfl, _⟩ := h; rfl; done) | (obtain ⟨_, _, rfl, rfl, _⟩ := h; rfl; done) | (obtain ⟨_, _, _, rfl, rfl, _⟩ := h; rfl; done) | (obtain ⟨_, _, _, _, rfl, rfl, _⟩ := h; rfl; done) | (obtain ⟨_, _, _, _, _, rfl, rfl, _⟩ := h; rfl; done) | (obtain ⟨_, _, _, _, _, _, rfl, rfl, _⟩ := h; rfl; done) | (obtain ⟨_, _, _, _, _, _, _, rfl, rfl, _⟩ := h; rfl; done) | (obtain ⟨_, _, _, _, _, _, _, _, rfl, rfl, _⟩ := h; rfl; done) | (obtain ⟨_, _, _, _, _, _, _, _, _, rfl, rfl, _⟩ := h; rfl; done) | (obtain ⟨_, _, _, _, _, _, _, _, _, _, rfl, rfl, _⟩ := h; rfl; done) | (obtain ⟨_, _, _, _, _, _, _, _, _, _, _, rfl, rfl, _⟩ := h; rfl; done)) B22 (KK a22) (fun cdv A outer s H E hr => der_part_of_piece T G_part_of G_moment_at M_Piece hr) (fun w es n k h => w_part_of_piece T_Piece h)
  have G_points_among : Go P w K mg base 8 "points_among" (toSp K (amongSp C_Piece)) [] := fn_data F23 sc_points_among (fun w es n k h => by first | (obtain ⟨rfl, _⟩ := h; rfl; done) | (obtain ⟨_, rfl, _⟩ := h; rfl; done) | (obtain ⟨_, _, rfl, _⟩ := h; rfl; done) | (obtain ⟨_, _, _, rfl, _⟩ := h; rfl; done) | (obtain ⟨_, _, _, _, rfl, _⟩ := h; rfl; done) | (obtain ⟨_, _, _, _, _, rfl, _⟩ := h; rfl; done) | (obtain ⟨_, _, _, _, _, _, rfl, _⟩ := h; rfl; done) | (obtain ⟨_, _, _, _, _, _, _, rfl, _⟩ := h; rfl; done) | (obtain ⟨_, _, _, _, _, _, _, _, rfl, _⟩ := h; rfl; done) | (obtain ⟨_, _, _, _, _, _, _, _, _, rfl, _⟩ := h; rfl; done) | (obtain ⟨_, _, _, _, _, _, _, _, _, _, rfl, _⟩ := h; rfl; done) | (obtain ⟨_, _, _, _, _, _, _, _, _, _, _, rfl, _⟩ := h; rfl; done) | (obtain ⟨_, _, _, _, _, _, _, _, _, _, _, _, rfl, _⟩ := h; rfl; done) | (obtain ⟨_, _, _, _, _, _, _, _, _, _, _, _, _, rfl, _⟩ := h; rfl; done) | (obtain ⟨_, _, _, _, _, _, _, _, _, _, _, _, _, _, rfl, _⟩ := h; rfl; done) | (rcases h with ⟨_, rfl, _⟩ | ⟨_, rfl, _⟩ <;> rfl; done) | (rcases h with ⟨_, rfl, _⟩ | ⟨_, rfl, _⟩ | ⟨_, rfl, _⟩ <;> rfl; done) | (obtain ⟨_, h⟩ := h; rcases h with ⟨_, rfl, _⟩ | ⟨_, rfl, _⟩ | ⟨_, rfl, _⟩ <;> rfl; done) | (obtain ⟨_, rfl, rfl, _⟩ := h; rfl; done) | (obtain ⟨_, _, rfl, rfl, _⟩ := h; rfl; done) | (obtain ⟨_, _, _, rfl, rfl, _⟩ := h; rfl; done) | (obtain ⟨_, _, _, _, rfl, rfl, _⟩ := h; rfl; done) | (obtain ⟨_, _, _, _, _, rfl, rfl, _⟩ := h; rfl; done) | (obtain ⟨_, _, _, _, _, _, rfl, rfl, _⟩ := h; rfl; done) | (obtain ⟨_, _, _, _, _, _, _, rfl, rfl, _⟩ := h; rfl; done) | (obtain ⟨_, _, _, _, _, _, _, _, rfl, rfl, _⟩ := h; rfl; done) | (obtain ⟨_, _, _, _, _, _, _, _, _, rfl, rfl, _⟩ := h; rfl; done) | (obtain ⟨_, _, _, _, _, _, _, _, _, _, rfl, rfl, _⟩ := h; rfl; done) | (obtain ⟨_, _, _, _, _, _, _, _, _, _, _, rfl, rfl, _⟩ := h; rfl; done)) B23 (KK a23) (fun cdv A outer s H E hr => der_points_among T G_below_in G_moment_at G_part_of_piece hr) (fun w es n k h => w_points_among T_Piece h)
  have G_listed_in : Go P w K mg base 1 "listed_in" (toSp K (listedInSp C_Question)) [] := fn_data F24 sc_listed_in (fun w es n k h => by first | (obtain ⟨rfl, _⟩ := h; rfl; done) | (obtain ⟨_, rfl, _⟩ := h; rfl; done) | (obtain ⟨_, _, rfl, _⟩ := h; rfl; done) | (obtain ⟨_, _, _, rfl, _⟩ := h; rfl; done) | (obtain ⟨_, _, _, _, rfl, _⟩ := h; rfl; done) | (obtain ⟨_, _, _, _, _, rfl, _⟩ := h; rfl; done) | (obtain ⟨_, _, _, _, _, _, rfl, _⟩ := h; rfl; done) | (obtain ⟨_, _, _, _, _, _, _, rfl, _⟩ := h; rfl; done) | (obtain ⟨_, _, _, _, _, _, _, _, rfl, _⟩ := h; rfl; done) | (obtain ⟨_, _, _, _, _, _, _, _, _, rfl, _⟩ := h; rfl; done) | (obtain ⟨_, _, _, _, _, _, _, _, _, _, rfl, _⟩ := h; rfl; done) | (obtain ⟨_, _, _, _, _, _, _, _, _, _, _, rfl, _⟩ := h; rfl; done) | (obtain ⟨_, _, _, _, _, _, _, _, _, _, _, _, rfl, _⟩ := h; rfl; done) | (obtain ⟨_, _, _, _, _, _, _, _, _, _, _, _, _, rfl, _⟩ := h; rfl; done) | (obtain ⟨_, _, _, _, _, _, _, _, _, _, _, _, _, _, rfl, _⟩ := h; rfl; done) | (rcases h with ⟨_, rfl, _⟩ | ⟨_, rfl, _⟩ <;> rfl; done) | (rcases h with ⟨_, rfl, _⟩ | ⟨_, rfl, _⟩ | ⟨_, rfl, _⟩ <;> rfl; done) | (obtain ⟨_, h⟩ := h; rcases h with ⟨_, rfl, _⟩ | ⟨_, rfl, _⟩ | ⟨_, rfl, _⟩ <;> rfl; done) | (obtain ⟨_, rfl, rfl, _⟩ := h; rfl; done) | (obtain ⟨_, _, rfl, rfl, _⟩ := h; rfl; done) | (obtain ⟨_, _, _, rfl, rfl, _⟩ := h; rfl; done) | (obtain ⟨_, _, _, _, rfl, rfl, _⟩ := h; rfl; done) | (obtain ⟨_, _, _, _, _, rfl, rfl, _⟩ := h; rfl; done) | (obtain ⟨_, _, _, _, _, _, rfl, rfl, _⟩ := h; rfl; done) | (obtain ⟨_, _, _, _, _, _, _, rfl, rfl, _⟩ := h; rfl; done) | (obtain ⟨_, _, _, _, _, _, _, _, rfl, rfl, _⟩ := h; rfl; done) | (obtain ⟨_, _, _, _, _, _, _, _, _, rfl, rfl, _⟩ := h; rfl; done) | (obtain ⟨_, _, _, _, _, _, _, _, _, _, rfl, rfl, _⟩ := h; rfl; done) | (obtain ⟨_, _, _, _, _, _, _, _, _, _, _, rfl, rfl, _⟩ := h; rfl; done)) B24 (KK a24) (fun cdv A outer s H E hr => der_listed_in T  hr) (fun w es n k h => w_listed_in T_Question h)
  have G_cut_in : Go P w K mg base 8 "cut_in" (toSp K (cutSp C_Piece)) [] := fn_data F25 sc_cut_in (fun w es n k h => by first | (obtain ⟨rfl, _⟩ := h; rfl; done) | (obtain ⟨_, rfl, _⟩ := h; rfl; done) | (obtain ⟨_, _, rfl, _⟩ := h; rfl; done) | (obtain ⟨_, _, _, rfl, _⟩ := h; rfl; done) | (obtain ⟨_, _, _, _, rfl, _⟩ := h; rfl; done) | (obtain ⟨_, _, _, _, _, rfl, _⟩ := h; rfl; done) | (obtain ⟨_, _, _, _, _, _, rfl, _⟩ := h; rfl; done) | (obtain ⟨_, _, _, _, _, _, _, rfl, _⟩ := h; rfl; done) | (obtain ⟨_, _, _, _, _, _, _, _, rfl, _⟩ := h; rfl; done) | (obtain ⟨_, _, _, _, _, _, _, _, _, rfl, _⟩ := h; rfl; done) | (obtain ⟨_, _, _, _, _, _, _, _, _, _, rfl, _⟩ := h; rfl; done) | (obtain ⟨_, _, _, _, _, _, _, _, _, _, _, rfl, _⟩ := h; rfl; done) | (obtain ⟨_, _, _, _, _, _, _, _, _, _, _, _, rfl, _⟩ := h; rfl; done) | (obtain ⟨_, _, _, _, _, _, _, _, _, _, _, _, _, rfl, _⟩ := h; rfl; done) | (obtain ⟨_, _, _, _, _, _, _, _, _, _, _, _, _, _, rfl, _⟩ := h; rfl; done) | (rcases h with ⟨_, rfl, _⟩ | ⟨_, rfl, _⟩ <;> rfl; done) | (rcases h with ⟨_, rfl, _⟩ | ⟨_, rfl, _⟩ | ⟨_, rfl, _⟩ <;> rfl; done) | (obtain ⟨_, h⟩ := h; rcases h with ⟨_, rfl, _⟩ | ⟨_, rfl, _⟩ | ⟨_, rfl, _⟩ <;> rfl; done) | (obtain ⟨_, rfl, rfl, _⟩ := h; rfl; done) | (obtain ⟨_, _, rfl, rfl, _⟩ := h; rfl; done) | (obtain ⟨_, _, _, rfl, rfl, _⟩ := h; rfl; done) | (obtain ⟨_, _, _, _, rfl, rfl, _⟩ := h; rfl; done) | (obtain ⟨_, _, _, _, _, rfl, rfl, _⟩ := h; rfl; done) | (obtain ⟨_, _, _, _, _, _, rfl, rfl, _⟩ := h; rfl; done) | (obtain ⟨_, _, _, _, _, _, _, rfl, rfl, _⟩ := h; rfl; done) | (obtain ⟨_, _, _, _, _, _, _, _, rfl, rfl, _⟩ := h; rfl; done) | (obtain ⟨_, _, _, _, _, _, _, _, _, rfl, rfl, _⟩ := h; rfl; done) | (obtain ⟨_, _, _, _, _, _, _, _, _, _, rfl, rfl, _⟩ := h; rfl; done) | (obtain ⟨_, _, _, _, _, _, _, _, _, _, _, rfl, rfl, _⟩ := h; rfl; done)) B25 (KK a25) (fun cdv A outer s H E hr => der_cut_in T G_below_in G_part_of_piece hr) (fun w es n k h => w_cut_in  h)
  have G_pieces_at : Go P w K mg base 9 "pieces_at" (toSp K (atSp C_Piece C_Question)) [] := fn_data F26 sc_pieces_at (fun w es n k h => by first | (obtain ⟨rfl, _⟩ := h; rfl; done) | (obtain ⟨_, rfl, _⟩ := h; rfl; done) | (obtain ⟨_, _, rfl, _⟩ := h; rfl; done) | (obtain ⟨_, _, _, rfl, _⟩ := h; rfl; done) | (obtain ⟨_, _, _, _, rfl, _⟩ := h; rfl; done) | (obtain ⟨_, _, _, _, _, rfl, _⟩ := h; rfl; done) | (obtain ⟨_, _, _, _, _, _, rfl, _⟩ := h; rfl; done) | (obtain ⟨_, _, _, _, _, _, _, rfl, _⟩ := h; rfl; done) | (obtain ⟨_, _, _, _, _, _, _, _, rfl, _⟩ := h; rfl; done) | (obtain ⟨_, _, _, _, _, _, _, _, _, rfl, _⟩ := h; rfl; done) | (obtain ⟨_, _, _, _, _, _, _, _, _, _, rfl, _⟩ := h; rfl; done) | (obtain ⟨_, _, _, _, _, _, _, _, _, _, _, rfl, _⟩ := h; rfl; done) | (obtain ⟨_, _, _, _, _, _, _, _, _, _, _, _, rfl, _⟩ := h; rfl; done) | (obtain ⟨_, _, _, _, _, _, _, _, _, _, _, _, _, rfl, _⟩ := h; rfl; done) | (obtain ⟨_, _, _, _, _, _, _, _, _, _, _, _, _, _, rfl, _⟩ := h; rfl; done) | (rcases h with ⟨_, rfl, _⟩ | ⟨_, rfl, _⟩ <;> rfl; done) | (rcases h with ⟨_, rfl, _⟩ | ⟨_, rfl, _⟩ | ⟨_, rfl, _⟩ <;> rfl; done) | (obtain ⟨_, h⟩ := h; rcases h with ⟨_, rfl, _⟩ | ⟨_, rfl, _⟩ | ⟨_, rfl, _⟩ <;> rfl; done) | (obtain ⟨_, rfl, rfl, _⟩ := h; rfl; done) | (obtain ⟨_, _, rfl, rfl, _⟩ := h; rfl; done) | (obtain ⟨_, _, _, rfl, rfl, _⟩ := h; rfl; done) | (obtain ⟨_, _, _, _, rfl, rfl, _⟩ := h; rfl; done) | (obtain ⟨_, _, _, _, _, rfl, rfl, _⟩ := h; rfl; done) | (obtain ⟨_, _, _, _, _, _, rfl, rfl, _⟩ := h; rfl; done) | (obtain ⟨_, _, _, _, _, _, _, rfl, rfl, _⟩ := h; rfl; done) | (obtain ⟨_, _, _, _, _, _, _, _, rfl, rfl, _⟩ := h; rfl; done) | (obtain ⟨_, _, _, _, _, _, _, _, _, rfl, rfl, _⟩ := h; rfl; done) | (obtain ⟨_, _, _, _, _, _, _, _, _, _, rfl, rfl, _⟩ := h; rfl; done) | (obtain ⟨_, _, _, _, _, _, _, _, _, _, _, rfl, rfl, _⟩ := h; rfl; done)) B26 (KK a26) (fun cdv A outer s H E hr => der_pieces_at T G_points_among G_listed_in G_cut_in hr) (fun w es n k h => w_pieces_at T_Question h)
  have G_counted : Go P w K mg base 1 "counted" (toSp K (countedSp C_Piece)) [] := fn_data F27 sc_counted (fun w es n k h => by first | (obtain ⟨rfl, _⟩ := h; rfl; done) | (obtain ⟨_, rfl, _⟩ := h; rfl; done) | (obtain ⟨_, _, rfl, _⟩ := h; rfl; done) | (obtain ⟨_, _, _, rfl, _⟩ := h; rfl; done) | (obtain ⟨_, _, _, _, rfl, _⟩ := h; rfl; done) | (obtain ⟨_, _, _, _, _, rfl, _⟩ := h; rfl; done) | (obtain ⟨_, _, _, _, _, _, rfl, _⟩ := h; rfl; done) | (obtain ⟨_, _, _, _, _, _, _, rfl, _⟩ := h; rfl; done) | (obtain ⟨_, _, _, _, _, _, _, _, rfl, _⟩ := h; rfl; done) | (obtain ⟨_, _, _, _, _, _, _, _, _, rfl, _⟩ := h; rfl; done) | (obtain ⟨_, _, _, _, _, _, _, _, _, _, rfl, _⟩ := h; rfl; done) | (obtain ⟨_, _, _, _, _, _, _, _, _, _, _, rfl, _⟩ := h; rfl; done) | (obtain ⟨_, _, _, _, _, _, _, _, _, _, _, _, rfl, _⟩ := h; rfl; done) | (obtain ⟨_, _, _, _, _, _, _, _, _, _, _, _, _, rfl, _⟩ := h; rfl; done) | (obtain ⟨_, _, _, _, _, _, _, _, _, _, _, _, _, _, rfl, _⟩ := h; rfl; done) | (rcases h with ⟨_, rfl, _⟩ | ⟨_, rfl, _⟩ <;> rfl; done) | (rcases h with ⟨_, rfl, _⟩ | ⟨_, rfl, _⟩ | ⟨_, rfl, _⟩ <;> rfl; done) | (obtain ⟨_, h⟩ := h; rcases h with ⟨_, rfl, _⟩ | ⟨_, rfl, _⟩ | ⟨_, rfl, _⟩ <;> rfl; done) | (obtain ⟨_, rfl, rfl, _⟩ := h; rfl; done) | (obtain ⟨_, _, rfl, rfl, _⟩ := h; rfl; done) | (obtain ⟨_, _, _, rfl, rfl, _⟩ := h; rfl; done) | (obtain ⟨_, _, _, _, rfl, rfl, _⟩ := h; rfl; done) | (obtain ⟨_, _, _, _, _, rfl, rfl, _⟩ := h; rfl; done) | (obtain ⟨_, _, _, _, _, _, rfl, rfl, _⟩ := h; rfl; done) | (obtain ⟨_, _, _, _, _, _, _, rfl, rfl, _⟩ := h; rfl; done) | (obtain ⟨_, _, _, _, _, _, _, _, rfl, rfl, _⟩ := h; rfl; done) | (obtain ⟨_, _, _, _, _, _, _, _, _, rfl, rfl, _⟩ := h; rfl; done) | (obtain ⟨_, _, _, _, _, _, _, _, _, _, rfl, rfl, _⟩ := h; rfl; done) | (obtain ⟨_, _, _, _, _, _, _, _, _, _, _, rfl, rfl, _⟩ := h; rfl; done)) B27 (KK a27) (fun cdv A outer s H E hr => der_counted T  hr) (fun w es n k h => w_counted T_Piece h)
  have G_threes_of : Go P w K mg base 1 "threes_of" (toSp K threesSp) [] := fn_data F28 sc_threes_of (fun w es n k h => by first | (obtain ⟨rfl, _⟩ := h; rfl; done) | (obtain ⟨_, rfl, _⟩ := h; rfl; done) | (obtain ⟨_, _, rfl, _⟩ := h; rfl; done) | (obtain ⟨_, _, _, rfl, _⟩ := h; rfl; done) | (obtain ⟨_, _, _, _, rfl, _⟩ := h; rfl; done) | (obtain ⟨_, _, _, _, _, rfl, _⟩ := h; rfl; done) | (obtain ⟨_, _, _, _, _, _, rfl, _⟩ := h; rfl; done) | (obtain ⟨_, _, _, _, _, _, _, rfl, _⟩ := h; rfl; done) | (obtain ⟨_, _, _, _, _, _, _, _, rfl, _⟩ := h; rfl; done) | (obtain ⟨_, _, _, _, _, _, _, _, _, rfl, _⟩ := h; rfl; done) | (obtain ⟨_, _, _, _, _, _, _, _, _, _, rfl, _⟩ := h; rfl; done) | (obtain ⟨_, _, _, _, _, _, _, _, _, _, _, rfl, _⟩ := h; rfl; done) | (obtain ⟨_, _, _, _, _, _, _, _, _, _, _, _, rfl, _⟩ := h; rfl; done) | (obtain ⟨_, _, _, _, _, _, _, _, _, _, _, _, _, rfl, _⟩ := h; rfl; done) | (obtain ⟨_, _, _, _, _, _, _, _, _, _, _, _, _, _, rfl, _⟩ := h; rfl; done) | (rcases h with ⟨_, rfl, _⟩ | ⟨_, rfl, _⟩ <;> rfl; done) | (rcases h with ⟨_, rfl, _⟩ | ⟨_, rfl, _⟩ | ⟨_, rfl, _⟩ <;> rfl; done) | (obtain ⟨_, h⟩ := h; rcases h with ⟨_, rfl, _⟩ | ⟨_, rfl, _⟩ | ⟨_, rfl, _⟩ <;> rfl; done) | (obtain ⟨_, rfl, rfl, _⟩ := h; rfl; done) | (obtain ⟨_, _, rfl, rfl, _⟩ := h; rfl; done) | (obtain ⟨_, _, _, rfl, rfl, _⟩ := h; rfl; done) | (obtain ⟨_, _, _, _, rfl, rfl, _⟩ := h; rfl; done) | (obtain ⟨_, _, _, _, _, rfl, rfl, _⟩ := h; rfl; done) | (obtain ⟨_, _, _, _, _, _, rfl, rfl, _⟩ := h; rfl; done) | (obtain ⟨_, _, _, _, _, _, _, rfl, rfl, _⟩ := h; rfl; done) | (obtain ⟨_, _, _, _, _, _, _, _, rfl, rfl, _⟩ := h; rfl; done) | (obtain ⟨_, _, _, _, _, _, _, _, _, rfl, rfl, _⟩ := h; rfl; done) | (obtain ⟨_, _, _, _, _, _, _, _, _, _, rfl, rfl, _⟩ := h; rfl; done) | (obtain ⟨_, _, _, _, _, _, _, _, _, _, _, rfl, rfl, _⟩ := h; rfl; done)) B28 (KK a28) (fun cdv A outer s H E hr => der_threes_of T  hr) (fun w es n k h => w_threes_of  h)
  have G_total_of : Go P w K mg base 2 "total_of" (toSp K totalSp) [] := fn_data F29 sc_total_of (fun w es n k h => by first | (obtain ⟨rfl, _⟩ := h; rfl; done) | (obtain ⟨_, rfl, _⟩ := h; rfl; done) | (obtain ⟨_, _, rfl, _⟩ := h; rfl; done) | (obtain ⟨_, _, _, rfl, _⟩ := h; rfl; done) | (obtain ⟨_, _, _, _, rfl, _⟩ := h; rfl; done) | (obtain ⟨_, _, _, _, _, rfl, _⟩ := h; rfl; done) | (obtain ⟨_, _, _, _, _, _, rfl, _⟩ := h; rfl; done) | (obtain ⟨_, _, _, _, _, _, _, rfl, _⟩ := h; rfl; done) | (obtain ⟨_, _, _, _, _, _, _, _, rfl, _⟩ := h; rfl; done) | (obtain ⟨_, _, _, _, _, _, _, _, _, rfl, _⟩ := h; rfl; done) | (obtain ⟨_, _, _, _, _, _, _, _, _, _, rfl, _⟩ := h; rfl; done) | (obtain ⟨_, _, _, _, _, _, _, _, _, _, _, rfl, _⟩ := h; rfl; done) | (obtain ⟨_, _, _, _, _, _, _, _, _, _, _, _, rfl, _⟩ := h; rfl; done) | (obtain ⟨_, _, _, _, _, _, _, _, _, _, _, _, _, rfl, _⟩ := h; rfl; done) | (obtain ⟨_, _, _, _, _, _, _, _, _, _, _, _, _, _, rfl, _⟩ := h; rfl; done) | (rcases h with ⟨_, rfl, _⟩ | ⟨_, rfl, _⟩ <;> rfl; done) | (rcases h with ⟨_, rfl, _⟩ | ⟨_, rfl, _⟩ | ⟨_, rfl, _⟩ <;> rfl; done) | (obtain ⟨_, h⟩ := h; rcases h with ⟨_, rfl, _⟩ | ⟨_, rfl, _⟩ | ⟨_, rfl, _⟩ <;> rfl; done) | (obtain ⟨_, rfl, rfl, _⟩ := h; rfl; done) | (obtain ⟨_, _, rfl, rfl, _⟩ := h; rfl; done) | (obtain ⟨_, _, _, rfl, rfl, _⟩ := h; rfl; done) | (obtain ⟨_, _, _, _, rfl, rfl, _⟩ := h; rfl; done) | (obtain ⟨_, _, _, _, _, rfl, rfl, _⟩ := h; rfl; done) | (obtain ⟨_, _, _, _, _, _, rfl, rfl, _⟩ := h; rfl; done) | (obtain ⟨_, _, _, _, _, _, _, rfl, rfl, _⟩ := h; rfl; done) | (obtain ⟨_, _, _, _, _, _, _, _, rfl, rfl, _⟩ := h; rfl; done) | (obtain ⟨_, _, _, _, _, _, _, _, _, rfl, rfl, _⟩ := h; rfl; done) | (obtain ⟨_, _, _, _, _, _, _, _, _, _, rfl, rfl, _⟩ := h; rfl; done) | (obtain ⟨_, _, _, _, _, _, _, _, _, _, _, rfl, rfl, _⟩ := h; rfl; done)) B29 (KK a29) (fun cdv A outer s H E hr => der_total_of T G_padded G_pairs_of G_threes_of hr) (fun w es n k h => w_total_of  h)
  have G_summed : Go P w K mg base 3 "summed" (toSp K (summedSp C_Piece)) [] := fn_data F30 sc_summed (fun w es n k h => by first | (obtain ⟨rfl, _⟩ := h; rfl; done) | (obtain ⟨_, rfl, _⟩ := h; rfl; done) | (obtain ⟨_, _, rfl, _⟩ := h; rfl; done) | (obtain ⟨_, _, _, rfl, _⟩ := h; rfl; done) | (obtain ⟨_, _, _, _, rfl, _⟩ := h; rfl; done) | (obtain ⟨_, _, _, _, _, rfl, _⟩ := h; rfl; done) | (obtain ⟨_, _, _, _, _, _, rfl, _⟩ := h; rfl; done) | (obtain ⟨_, _, _, _, _, _, _, rfl, _⟩ := h; rfl; done) | (obtain ⟨_, _, _, _, _, _, _, _, rfl, _⟩ := h; rfl; done) | (obtain ⟨_, _, _, _, _, _, _, _, _, rfl, _⟩ := h; rfl; done) | (obtain ⟨_, _, _, _, _, _, _, _, _, _, rfl, _⟩ := h; rfl; done) | (obtain ⟨_, _, _, _, _, _, _, _, _, _, _, rfl, _⟩ := h; rfl; done) | (obtain ⟨_, _, _, _, _, _, _, _, _, _, _, _, rfl, _⟩ := h; rfl; done) | (obtain ⟨_, _, _, _, _, _, _, _, _, _, _, _, _, rfl, _⟩ := h; rfl; done) | (obtain ⟨_, _, _, _, _, _, _, _, _, _, _, _, _, _, rfl, _⟩ := h; rfl; done) | (rcases h with ⟨_, rfl, _⟩ | ⟨_, rfl, _⟩ <;> rfl; done) | (rcases h with ⟨_, rfl, _⟩ | ⟨_, rfl, _⟩ | ⟨_, rfl, _⟩ <;> rfl; done) | (obtain ⟨_, h⟩ := h; rcases h with ⟨_, rfl, _⟩ | ⟨_, rfl, _⟩ | ⟨_, rfl, _⟩ <;> rfl; done) | (obtain ⟨_, rfl, rfl, _⟩ := h; rfl; done) | (obtain ⟨_, _, rfl, rfl, _⟩ := h; rfl; done) | (obtain ⟨_, _, _, rfl, rfl, _⟩ := h; rfl; done) | (obtain ⟨_, _, _, _, rfl, rfl, _⟩ := h; rfl; done) | (obtain ⟨_, _, _, _, _, rfl, rfl, _⟩ := h; rfl; done) | (obtain ⟨_, _, _, _, _, _, rfl, rfl, _⟩ := h; rfl; done) | (obtain ⟨_, _, _, _, _, _, _, rfl, rfl, _⟩ := h; rfl; done) | (obtain ⟨_, _, _, _, _, _, _, _, rfl, rfl, _⟩ := h; rfl; done) | (obtain ⟨_, _, _, _, _, _, _, _, _, rfl, rfl, _⟩ := h; rfl; done) | (obtain ⟨_, _, _, _, _, _, _, _, _, _, rfl, rfl, _⟩ := h; rfl; done) | (obtain ⟨_, _, _, _, _, _, _, _, _, _, _, rfl, rfl, _⟩ := h; rfl; done)) B30 (KK a30) (fun cdv A outer s H E hr => der_summed T G_total_of hr) (fun w es n k h => w_summed T_Piece h)
  have G_first_of : Go P w K mg base 1 "first_of" (toSp K firstSp) [] := fn_data F31 sc_first_of (fun w es n k h => by first | (obtain ⟨rfl, _⟩ := h; rfl; done) | (obtain ⟨_, rfl, _⟩ := h; rfl; done) | (obtain ⟨_, _, rfl, _⟩ := h; rfl; done) | (obtain ⟨_, _, _, rfl, _⟩ := h; rfl; done) | (obtain ⟨_, _, _, _, rfl, _⟩ := h; rfl; done) | (obtain ⟨_, _, _, _, _, rfl, _⟩ := h; rfl; done) | (obtain ⟨_, _, _, _, _, _, rfl, _⟩ := h; rfl; done) | (obtain ⟨_, _, _, _, _, _, _, rfl, _⟩ := h; rfl; done) | (obtain ⟨_, _, _, _, _, _, _, _, rfl, _⟩ := h; rfl; done) | (obtain ⟨_, _, _, _, _, _, _, _, _, rfl, _⟩ := h; rfl; done) | (obtain ⟨_, _, _, _, _, _, _, _, _, _, rfl, _⟩ := h; rfl; done) | (obtain ⟨_, _, _, _, _, _, _, _, _, _, _, rfl, _⟩ := h; rfl; done) | (obtain ⟨_, _, _, _, _, _, _, _, _, _, _, _, rfl, _⟩ := h; rfl; done) | (obtain ⟨_, _, _, _, _, _, _, _, _, _, _, _, _, rfl, _⟩ := h; rfl; done) | (obtain ⟨_, _, _, _, _, _, _, _, _, _, _, _, _, _, rfl, _⟩ := h; rfl; done) | (rcases h with ⟨_, rfl, _⟩ | ⟨_, rfl, _⟩ <;> rfl; done) | (rcases h with ⟨_, rfl, _⟩ | ⟨_, rfl, _⟩ | ⟨_, rfl, _⟩ <;> rfl; done) | (obtain ⟨_, h⟩ := h; rcases h with ⟨_, rfl, _⟩ | ⟨_, rfl, _⟩ | ⟨_, rfl, _⟩ <;> rfl; done) | (obtain ⟨_, rfl, rfl, _⟩ := h; rfl; done) | (obtain ⟨_, _, rfl, rfl, _⟩ := h; rfl; done) | (obtain ⟨_, _, _, rfl, rfl, _⟩ := h; rfl; done) | (obtain ⟨_, _, _, _, rfl, rfl, _⟩ := h; rfl; done) | (obtain ⟨_, _, _, _, _, rfl, rfl, _⟩ := h; rfl; done) | (obtain ⟨_, _, _, _, _, _, rfl, rfl, _⟩ := h; rfl; done) | (obtain ⟨_, _, _, _, _, _, _, rfl, rfl, _⟩ := h; rfl; done) | (obtain ⟨_, _, _, _, _, _, _, _, rfl, rfl, _⟩ := h; rfl; done) | (obtain ⟨_, _, _, _, _, _, _, _, _, rfl, rfl, _⟩ := h; rfl; done) | (obtain ⟨_, _, _, _, _, _, _, _, _, _, rfl, rfl, _⟩ := h; rfl; done) | (obtain ⟨_, _, _, _, _, _, _, _, _, _, _, rfl, rfl, _⟩ := h; rfl; done)) B31 (KK a31) (fun cdv A outer s H E hr => der_first_of T  hr) (fun w es n k h => w_first_of  h)
  have G_corners_of : Go P w K mg base 3 "corners_of" (toSp K cornSp) [] := fn_data F32 sc_corners_of (fun w es n k h => by first | (obtain ⟨rfl, _⟩ := h; rfl; done) | (obtain ⟨_, rfl, _⟩ := h; rfl; done) | (obtain ⟨_, _, rfl, _⟩ := h; rfl; done) | (obtain ⟨_, _, _, rfl, _⟩ := h; rfl; done) | (obtain ⟨_, _, _, _, rfl, _⟩ := h; rfl; done) | (obtain ⟨_, _, _, _, _, rfl, _⟩ := h; rfl; done) | (obtain ⟨_, _, _, _, _, _, rfl, _⟩ := h; rfl; done) | (obtain ⟨_, _, _, _, _, _, _, rfl, _⟩ := h; rfl; done) | (obtain ⟨_, _, _, _, _, _, _, _, rfl, _⟩ := h; rfl; done) | (obtain ⟨_, _, _, _, _, _, _, _, _, rfl, _⟩ := h; rfl; done) | (obtain ⟨_, _, _, _, _, _, _, _, _, _, rfl, _⟩ := h; rfl; done) | (obtain ⟨_, _, _, _, _, _, _, _, _, _, _, rfl, _⟩ := h; rfl; done) | (obtain ⟨_, _, _, _, _, _, _, _, _, _, _, _, rfl, _⟩ := h; rfl; done) | (obtain ⟨_, _, _, _, _, _, _, _, _, _, _, _, _, rfl, _⟩ := h; rfl; done) | (obtain ⟨_, _, _, _, _, _, _, _, _, _, _, _, _, _, rfl, _⟩ := h; rfl; done) | (rcases h with ⟨_, rfl, _⟩ | ⟨_, rfl, _⟩ <;> rfl; done) | (rcases h with ⟨_, rfl, _⟩ | ⟨_, rfl, _⟩ | ⟨_, rfl, _⟩ <;> rfl; done) | (obtain ⟨_, h⟩ := h; rcases h with ⟨_, rfl, _⟩ | ⟨_, rfl, _⟩ | ⟨_, rfl, _⟩ <;> rfl; done) | (obtain ⟨_, rfl, rfl, _⟩ := h; rfl; done) | (obtain ⟨_, _, rfl, rfl, _⟩ := h; rfl; done) | (obtain ⟨_, _, _, rfl, rfl, _⟩ := h; rfl; done) | (obtain ⟨_, _, _, _, rfl, rfl, _⟩ := h; rfl; done) | (obtain ⟨_, _, _, _, _, rfl, rfl, _⟩ := h; rfl; done) | (obtain ⟨_, _, _, _, _, _, rfl, rfl, _⟩ := h; rfl; done) | (obtain ⟨_, _, _, _, _, _, _, rfl, rfl, _⟩ := h; rfl; done) | (obtain ⟨_, _, _, _, _, _, _, _, rfl, rfl, _⟩ := h; rfl; done) | (obtain ⟨_, _, _, _, _, _, _, _, _, rfl, rfl, _⟩ := h; rfl; done) | (obtain ⟨_, _, _, _, _, _, _, _, _, _, rfl, rfl, _⟩ := h; rfl; done) | (obtain ⟨_, _, _, _, _, _, _, _, _, _, _, rfl, rfl, _⟩ := h; rfl; done)) B32 (KK a32) (fun cdv A outer s H E hr => der_corners_of T G_turn_of hr) (fun w es n k h => w_corners_of  h)
  have G_least_at : Go P w K mg base 4 "least_at" (toSp K leastSp) [] := fn_data F33 sc_least_at (fun w es n k h => by first | (obtain ⟨rfl, _⟩ := h; rfl; done) | (obtain ⟨_, rfl, _⟩ := h; rfl; done) | (obtain ⟨_, _, rfl, _⟩ := h; rfl; done) | (obtain ⟨_, _, _, rfl, _⟩ := h; rfl; done) | (obtain ⟨_, _, _, _, rfl, _⟩ := h; rfl; done) | (obtain ⟨_, _, _, _, _, rfl, _⟩ := h; rfl; done) | (obtain ⟨_, _, _, _, _, _, rfl, _⟩ := h; rfl; done) | (obtain ⟨_, _, _, _, _, _, _, rfl, _⟩ := h; rfl; done) | (obtain ⟨_, _, _, _, _, _, _, _, rfl, _⟩ := h; rfl; done) | (obtain ⟨_, _, _, _, _, _, _, _, _, rfl, _⟩ := h; rfl; done) | (obtain ⟨_, _, _, _, _, _, _, _, _, _, rfl, _⟩ := h; rfl; done) | (obtain ⟨_, _, _, _, _, _, _, _, _, _, _, rfl, _⟩ := h; rfl; done) | (obtain ⟨_, _, _, _, _, _, _, _, _, _, _, _, rfl, _⟩ := h; rfl; done) | (obtain ⟨_, _, _, _, _, _, _, _, _, _, _, _, _, rfl, _⟩ := h; rfl; done) | (obtain ⟨_, _, _, _, _, _, _, _, _, _, _, _, _, _, rfl, _⟩ := h; rfl; done) | (rcases h with ⟨_, rfl, _⟩ | ⟨_, rfl, _⟩ <;> rfl; done) | (rcases h with ⟨_, rfl, _⟩ | ⟨_, rfl, _⟩ | ⟨_, rfl, _⟩ <;> rfl; done) | (obtain ⟨_, h⟩ := h; rcases h with ⟨_, rfl, _⟩ | ⟨_, rfl, _⟩ | ⟨_, rfl, _⟩ <;> rfl; done) | (obtain ⟨_, rfl, rfl, _⟩ := h; rfl; done) | (obtain ⟨_, _, rfl, rfl, _⟩ := h; rfl; done) | (obtain ⟨_, _, _, rfl, rfl, _⟩ := h; rfl; done) | (obtain ⟨_, _, _, _, rfl, rfl, _⟩ := h; rfl; done) | (obtain ⟨_, _, _, _, _, rfl, rfl, _⟩ := h; rfl; done) | (obtain ⟨_, _, _, _, _, _, rfl, rfl, _⟩ := h; rfl; done) | (obtain ⟨_, _, _, _, _, _, _, rfl, rfl, _⟩ := h; rfl; done) | (obtain ⟨_, _, _, _, _, _, _, _, rfl, rfl, _⟩ := h; rfl; done) | (obtain ⟨_, _, _, _, _, _, _, _, _, rfl, rfl, _⟩ := h; rfl; done) | (obtain ⟨_, _, _, _, _, _, _, _, _, _, rfl, rfl, _⟩ := h; rfl; done) | (obtain ⟨_, _, _, _, _, _, _, _, _, _, _, rfl, rfl, _⟩ := h; rfl; done)) B33 (KK a33) (fun cdv A outer s H E hr => der_least_at T G_corners_of G_number_at hr) (fun w es n k h => w_least_at  h)
  have G_lowest : Go P w K mg base 5 "lowest" (toSp K (lowSp C_Piece)) [] := fn_data F34 sc_lowest (fun w es n k h => by first | (obtain ⟨rfl, _⟩ := h; rfl; done) | (obtain ⟨_, rfl, _⟩ := h; rfl; done) | (obtain ⟨_, _, rfl, _⟩ := h; rfl; done) | (obtain ⟨_, _, _, rfl, _⟩ := h; rfl; done) | (obtain ⟨_, _, _, _, rfl, _⟩ := h; rfl; done) | (obtain ⟨_, _, _, _, _, rfl, _⟩ := h; rfl; done) | (obtain ⟨_, _, _, _, _, _, rfl, _⟩ := h; rfl; done) | (obtain ⟨_, _, _, _, _, _, _, rfl, _⟩ := h; rfl; done) | (obtain ⟨_, _, _, _, _, _, _, _, rfl, _⟩ := h; rfl; done) | (obtain ⟨_, _, _, _, _, _, _, _, _, rfl, _⟩ := h; rfl; done) | (obtain ⟨_, _, _, _, _, _, _, _, _, _, rfl, _⟩ := h; rfl; done) | (obtain ⟨_, _, _, _, _, _, _, _, _, _, _, rfl, _⟩ := h; rfl; done) | (obtain ⟨_, _, _, _, _, _, _, _, _, _, _, _, rfl, _⟩ := h; rfl; done) | (obtain ⟨_, _, _, _, _, _, _, _, _, _, _, _, _, rfl, _⟩ := h; rfl; done) | (obtain ⟨_, _, _, _, _, _, _, _, _, _, _, _, _, _, rfl, _⟩ := h; rfl; done) | (rcases h with ⟨_, rfl, _⟩ | ⟨_, rfl, _⟩ <;> rfl; done) | (rcases h with ⟨_, rfl, _⟩ | ⟨_, rfl, _⟩ | ⟨_, rfl, _⟩ <;> rfl; done) | (obtain ⟨_, h⟩ := h; rcases h with ⟨_, rfl, _⟩ | ⟨_, rfl, _⟩ | ⟨_, rfl, _⟩ <;> rfl; done) | (obtain ⟨_, rfl, rfl, _⟩ := h; rfl; done) | (obtain ⟨_, _, rfl, rfl, _⟩ := h; rfl; done) | (obtain ⟨_, _, _, rfl, rfl, _⟩ := h; rfl; done) | (obtain ⟨_, _, _, _, rfl, rfl, _⟩ := h; rfl; done) | (obtain ⟨_, _, _, _, _, rfl, rfl, _⟩ := h; rfl; done) | (obtain ⟨_, _, _, _, _, _, rfl, rfl, _⟩ := h; rfl; done) | (obtain ⟨_, _, _, _, _, _, _, rfl, rfl, _⟩ := h; rfl; done) | (obtain ⟨_, _, _, _, _, _, _, _, rfl, rfl, _⟩ := h; rfl; done) | (obtain ⟨_, _, _, _, _, _, _, _, _, rfl, rfl, _⟩ := h; rfl; done) | (obtain ⟨_, _, _, _, _, _, _, _, _, _, rfl, rfl, _⟩ := h; rfl; done) | (obtain ⟨_, _, _, _, _, _, _, _, _, _, _, rfl, rfl, _⟩ := h; rfl; done)) B34 (KK a34) (fun cdv A outer s H E hr => der_lowest T G_least_at G_moment_at hr) (fun w es n k h => w_lowest T_Piece h)
  have G_greatest_at : Go P w K mg base 4 "greatest_at" (toSp K greatSp) [] := fn_data F35 sc_greatest_at (fun w es n k h => by first | (obtain ⟨rfl, _⟩ := h; rfl; done) | (obtain ⟨_, rfl, _⟩ := h; rfl; done) | (obtain ⟨_, _, rfl, _⟩ := h; rfl; done) | (obtain ⟨_, _, _, rfl, _⟩ := h; rfl; done) | (obtain ⟨_, _, _, _, rfl, _⟩ := h; rfl; done) | (obtain ⟨_, _, _, _, _, rfl, _⟩ := h; rfl; done) | (obtain ⟨_, _, _, _, _, _, rfl, _⟩ := h; rfl; done) | (obtain ⟨_, _, _, _, _, _, _, rfl, _⟩ := h; rfl; done) | (obtain ⟨_, _, _, _, _, _, _, _, rfl, _⟩ := h; rfl; done) | (obtain ⟨_, _, _, _, _, _, _, _, _, rfl, _⟩ := h; rfl; done) | (obtain ⟨_, _, _, _, _, _, _, _, _, _, rfl, _⟩ := h; rfl; done) | (obtain ⟨_, _, _, _, _, _, _, _, _, _, _, rfl, _⟩ := h; rfl; done) | (obtain ⟨_, _, _, _, _, _, _, _, _, _, _, _, rfl, _⟩ := h; rfl; done) | (obtain ⟨_, _, _, _, _, _, _, _, _, _, _, _, _, rfl, _⟩ := h; rfl; done) | (obtain ⟨_, _, _, _, _, _, _, _, _, _, _, _, _, _, rfl, _⟩ := h; rfl; done) | (rcases h with ⟨_, rfl, _⟩ | ⟨_, rfl, _⟩ <;> rfl; done) | (rcases h with ⟨_, rfl, _⟩ | ⟨_, rfl, _⟩ | ⟨_, rfl, _⟩ <;> rfl; done) | (obtain ⟨_, h⟩ := h; rcases h with ⟨_, rfl, _⟩ | ⟨_, rfl, _⟩ | ⟨_, rfl, _⟩ <;> rfl; done) | (obtain ⟨_, rfl, rfl, _⟩ := h; rfl; done) | (obtain ⟨_, _, rfl, rfl, _⟩ := h; rfl; done) | (obtain ⟨_, _, _, rfl, rfl, _⟩ := h; rfl; done) | (obtain ⟨_, _, _, _, rfl, rfl, _⟩ := h; rfl; done) | (obtain ⟨_, _, _, _, _, rfl, rfl, _⟩ := h; rfl; done) | (obtain ⟨_, _, _, _, _, _, rfl, rfl, _⟩ := h; rfl; done) | (obtain ⟨_, _, _, _, _, _, _, rfl, rfl, _⟩ := h; rfl; done) | (obtain ⟨_, _, _, _, _, _, _, _, rfl, rfl, _⟩ := h; rfl; done) | (obtain ⟨_, _, _, _, _, _, _, _, _, rfl, rfl, _⟩ := h; rfl; done) | (obtain ⟨_, _, _, _, _, _, _, _, _, _, rfl, rfl, _⟩ := h; rfl; done) | (obtain ⟨_, _, _, _, _, _, _, _, _, _, _, rfl, rfl, _⟩ := h; rfl; done)) B35 (KK a35) (fun cdv A outer s H E hr => der_greatest_at T G_corners_of G_number_at hr) (fun w es n k h => w_greatest_at  h)
  have G_highest : Go P w K mg base 5 "highest" (toSp K (highSp C_Piece)) [] := fn_data F36 sc_highest (fun w es n k h => by first | (obtain ⟨rfl, _⟩ := h; rfl; done) | (obtain ⟨_, rfl, _⟩ := h; rfl; done) | (obtain ⟨_, _, rfl, _⟩ := h; rfl; done) | (obtain ⟨_, _, _, rfl, _⟩ := h; rfl; done) | (obtain ⟨_, _, _, _, rfl, _⟩ := h; rfl; done) | (obtain ⟨_, _, _, _, _, rfl, _⟩ := h; rfl; done) | (obtain ⟨_, _, _, _, _, _, rfl, _⟩ := h; rfl; done) | (obtain ⟨_, _, _, _, _, _, _, rfl, _⟩ := h; rfl; done) | (obtain ⟨_, _, _, _, _, _, _, _, rfl, _⟩ := h; rfl; done) | (obtain ⟨_, _, _, _, _, _, _, _, _, rfl, _⟩ := h; rfl; done) | (obtain ⟨_, _, _, _, _, _, _, _, _, _, rfl, _⟩ := h; rfl; done) | (obtain ⟨_, _, _, _, _, _, _, _, _, _, _, rfl, _⟩ := h; rfl; done) | (obtain ⟨_, _, _, _, _, _, _, _, _, _, _, _, rfl, _⟩ := h; rfl; done) | (obtain ⟨_, _, _, _, _, _, _, _, _, _, _, _, _, rfl, _⟩ := h; rfl; done) | (obtain ⟨_, _, _, _, _, _, _, _, _, _, _, _, _, _, rfl, _⟩ := h; rfl; done) | (rcases h with ⟨_, rfl, _⟩ | ⟨_, rfl, _⟩ <;> rfl; done) | (rcases h with ⟨_, rfl, _⟩ | ⟨_, rfl, _⟩ | ⟨_, rfl, _⟩ <;> rfl; done) | (obtain ⟨_, h⟩ := h; rcases h with ⟨_, rfl, _⟩ | ⟨_, rfl, _⟩ | ⟨_, rfl, _⟩ <;> rfl; done) | (obtain ⟨_, rfl, rfl, _⟩ := h; rfl; done) | (obtain ⟨_, _, rfl, rfl, _⟩ := h; rfl; done) | (obtain ⟨_, _, _, rfl, rfl, _⟩ := h; rfl; done) | (obtain ⟨_, _, _, _, rfl, rfl, _⟩ := h; rfl; done) | (obtain ⟨_, _, _, _, _, rfl, rfl, _⟩ := h; rfl; done) | (obtain ⟨_, _, _, _, _, _, rfl, rfl, _⟩ := h; rfl; done) | (obtain ⟨_, _, _, _, _, _, _, rfl, rfl, _⟩ := h; rfl; done) | (obtain ⟨_, _, _, _, _, _, _, _, rfl, rfl, _⟩ := h; rfl; done) | (obtain ⟨_, _, _, _, _, _, _, _, _, rfl, rfl, _⟩ := h; rfl; done) | (obtain ⟨_, _, _, _, _, _, _, _, _, _, rfl, rfl, _⟩ := h; rfl; done) | (obtain ⟨_, _, _, _, _, _, _, _, _, _, _, rfl, rfl, _⟩ := h; rfl; done)) B36 (KK a36) (fun cdv A outer s H E hr => der_highest T G_greatest_at G_moment_at hr) (fun w es n k h => w_highest T_Piece h)
  have G_rising_most : Go P w K mg base 5 "rising_most" (toSp K riseSp) [] := go_rising lR1 cR1R kR1 (KK aR1) (NdefX.tabB_of_K KB hcR1 (tb PR1 (by simp)).1 (tb PR1 (by simp)).2) tabR1 (fun _ _ => (if_neg ne01).trans (if_pos rfl)) F47 (KK a47) B47 G_number_at
  have G_most_of_curve : Go P w K mg base 6 "most_of_curve" (toSp K mostSp) [] := fn_data F37 sc_most_of_curve (fun w es n k h => by first | (obtain ⟨rfl, _⟩ := h; rfl; done) | (obtain ⟨_, rfl, _⟩ := h; rfl; done) | (obtain ⟨_, _, rfl, _⟩ := h; rfl; done) | (obtain ⟨_, _, _, rfl, _⟩ := h; rfl; done) | (obtain ⟨_, _, _, _, rfl, _⟩ := h; rfl; done) | (obtain ⟨_, _, _, _, _, rfl, _⟩ := h; rfl; done) | (obtain ⟨_, _, _, _, _, _, rfl, _⟩ := h; rfl; done) | (obtain ⟨_, _, _, _, _, _, _, rfl, _⟩ := h; rfl; done) | (obtain ⟨_, _, _, _, _, _, _, _, rfl, _⟩ := h; rfl; done) | (obtain ⟨_, _, _, _, _, _, _, _, _, rfl, _⟩ := h; rfl; done) | (obtain ⟨_, _, _, _, _, _, _, _, _, _, rfl, _⟩ := h; rfl; done) | (obtain ⟨_, _, _, _, _, _, _, _, _, _, _, rfl, _⟩ := h; rfl; done) | (obtain ⟨_, _, _, _, _, _, _, _, _, _, _, _, rfl, _⟩ := h; rfl; done) | (obtain ⟨_, _, _, _, _, _, _, _, _, _, _, _, _, rfl, _⟩ := h; rfl; done) | (obtain ⟨_, _, _, _, _, _, _, _, _, _, _, _, _, _, rfl, _⟩ := h; rfl; done) | (rcases h with ⟨_, rfl, _⟩ | ⟨_, rfl, _⟩ <;> rfl; done) | (rcases h with ⟨_, rfl, _⟩ | ⟨_, rfl, _⟩ | ⟨_, rfl, _⟩ <;> rfl; done) | (obtain ⟨_, h⟩ := h; rcases h with ⟨_, rfl, _⟩ | ⟨_, rfl, _⟩ | ⟨_, rfl, _⟩ <;> rfl; done) | (obtain ⟨_, rfl, rfl, _⟩ := h; rfl; done) | (obtain ⟨_, _, rfl, rfl, _⟩ := h; rfl; done) | (obtain ⟨_, _, _, rfl, rfl, _⟩ := h; rfl; done) | (obtain ⟨_, _, _, _, rfl, rfl, _⟩ := h; rfl; done) | (obtain ⟨_, _, _, _, _, rfl, rfl, _⟩ := h; rfl; done) | (obtain ⟨_, _, _, _, _, _, rfl, rfl, _⟩ := h; rfl; done) | (obtain ⟨_, _, _, _, _, _, _, rfl, rfl, _⟩ := h; rfl; done) | (obtain ⟨_, _, _, _, _, _, _, _, rfl, rfl, _⟩ := h; rfl; done) | (obtain ⟨_, _, _, _, _, _, _, _, _, rfl, rfl, _⟩ := h; rfl; done) | (obtain ⟨_, _, _, _, _, _, _, _, _, _, rfl, rfl, _⟩ := h; rfl; done) | (obtain ⟨_, _, _, _, _, _, _, _, _, _, _, rfl, rfl, _⟩ := h; rfl; done)) B37 (KK a37) (fun cdv A outer s H E hr => der_most_of_curve T G_turn_of G_rising_most hr) (fun w es n k h => w_most_of_curve  h)
  have G_most_by : Go P w K mg base 7 "most_by" (toSp K (mostBySp C_Piece)) [] := fn_data F38 sc_most_by (fun w es n k h => by first | (obtain ⟨rfl, _⟩ := h; rfl; done) | (obtain ⟨_, rfl, _⟩ := h; rfl; done) | (obtain ⟨_, _, rfl, _⟩ := h; rfl; done) | (obtain ⟨_, _, _, rfl, _⟩ := h; rfl; done) | (obtain ⟨_, _, _, _, rfl, _⟩ := h; rfl; done) | (obtain ⟨_, _, _, _, _, rfl, _⟩ := h; rfl; done) | (obtain ⟨_, _, _, _, _, _, rfl, _⟩ := h; rfl; done) | (obtain ⟨_, _, _, _, _, _, _, rfl, _⟩ := h; rfl; done) | (obtain ⟨_, _, _, _, _, _, _, _, rfl, _⟩ := h; rfl; done) | (obtain ⟨_, _, _, _, _, _, _, _, _, rfl, _⟩ := h; rfl; done) | (obtain ⟨_, _, _, _, _, _, _, _, _, _, rfl, _⟩ := h; rfl; done) | (obtain ⟨_, _, _, _, _, _, _, _, _, _, _, rfl, _⟩ := h; rfl; done) | (obtain ⟨_, _, _, _, _, _, _, _, _, _, _, _, rfl, _⟩ := h; rfl; done) | (obtain ⟨_, _, _, _, _, _, _, _, _, _, _, _, _, rfl, _⟩ := h; rfl; done) | (obtain ⟨_, _, _, _, _, _, _, _, _, _, _, _, _, _, rfl, _⟩ := h; rfl; done) | (rcases h with ⟨_, rfl, _⟩ | ⟨_, rfl, _⟩ <;> rfl; done) | (rcases h with ⟨_, rfl, _⟩ | ⟨_, rfl, _⟩ | ⟨_, rfl, _⟩ <;> rfl; done) | (obtain ⟨_, h⟩ := h; rcases h with ⟨_, rfl, _⟩ | ⟨_, rfl, _⟩ | ⟨_, rfl, _⟩ <;> rfl; done) | (obtain ⟨_, rfl, rfl, _⟩ := h; rfl; done) | (obtain ⟨_, _, rfl, rfl, _⟩ := h; rfl; done) | (obtain ⟨_, _, _, rfl, rfl, _⟩ := h; rfl; done) | (obtain ⟨_, _, _, _, rfl, rfl, _⟩ := h; rfl; done) | (obtain ⟨_, _, _, _, _, rfl, rfl, _⟩ := h; rfl; done) | (obtain ⟨_, _, _, _, _, _, rfl, rfl, _⟩ := h; rfl; done) | (obtain ⟨_, _, _, _, _, _, _, rfl, rfl, _⟩ := h; rfl; done) | (obtain ⟨_, _, _, _, _, _, _, _, rfl, rfl, _⟩ := h; rfl; done) | (obtain ⟨_, _, _, _, _, _, _, _, _, rfl, rfl, _⟩ := h; rfl; done) | (obtain ⟨_, _, _, _, _, _, _, _, _, _, rfl, rfl, _⟩ := h; rfl; done) | (obtain ⟨_, _, _, _, _, _, _, _, _, _, _, rfl, rfl, _⟩ := h; rfl; done)) B38 (KK a38) (fun cdv A outer s H E hr => der_most_by T G_most_of_curve hr) (fun w es n k h => w_most_by T_Piece h)
  have G_ranked : Go P w K mg base 8 "ranked" (toSp K (rankedSp C_Piece)) [] := fn_data F39 sc_ranked (fun w es n k h => by first | (obtain ⟨rfl, _⟩ := h; rfl; done) | (obtain ⟨_, rfl, _⟩ := h; rfl; done) | (obtain ⟨_, _, rfl, _⟩ := h; rfl; done) | (obtain ⟨_, _, _, rfl, _⟩ := h; rfl; done) | (obtain ⟨_, _, _, _, rfl, _⟩ := h; rfl; done) | (obtain ⟨_, _, _, _, _, rfl, _⟩ := h; rfl; done) | (obtain ⟨_, _, _, _, _, _, rfl, _⟩ := h; rfl; done) | (obtain ⟨_, _, _, _, _, _, _, rfl, _⟩ := h; rfl; done) | (obtain ⟨_, _, _, _, _, _, _, _, rfl, _⟩ := h; rfl; done) | (obtain ⟨_, _, _, _, _, _, _, _, _, rfl, _⟩ := h; rfl; done) | (obtain ⟨_, _, _, _, _, _, _, _, _, _, rfl, _⟩ := h; rfl; done) | (obtain ⟨_, _, _, _, _, _, _, _, _, _, _, rfl, _⟩ := h; rfl; done) | (obtain ⟨_, _, _, _, _, _, _, _, _, _, _, _, rfl, _⟩ := h; rfl; done) | (obtain ⟨_, _, _, _, _, _, _, _, _, _, _, _, _, rfl, _⟩ := h; rfl; done) | (obtain ⟨_, _, _, _, _, _, _, _, _, _, _, _, _, _, rfl, _⟩ := h; rfl; done) | (rcases h with ⟨_, rfl, _⟩ | ⟨_, rfl, _⟩ <;> rfl; done) | (rcases h with ⟨_, rfl, _⟩ | ⟨_, rfl, _⟩ | ⟨_, rfl, _⟩ <;> rfl; done) | (obtain ⟨_, h⟩ := h; rcases h with ⟨_, rfl, _⟩ | ⟨_, rfl, _⟩ | ⟨_, rfl, _⟩ <;> rfl; done) | (obtain ⟨_, rfl, rfl, _⟩ := h; rfl; done) | (obtain ⟨_, _, rfl, rfl, _⟩ := h; rfl; done) | (obtain ⟨_, _, _, rfl, rfl, _⟩ := h; rfl; done) | (obtain ⟨_, _, _, _, rfl, rfl, _⟩ := h; rfl; done) | (obtain ⟨_, _, _, _, _, rfl, rfl, _⟩ := h; rfl; done) | (obtain ⟨_, _, _, _, _, _, rfl, rfl, _⟩ := h; rfl; done) | (obtain ⟨_, _, _, _, _, _, _, rfl, rfl, _⟩ := h; rfl; done) | (obtain ⟨_, _, _, _, _, _, _, _, rfl, rfl, _⟩ := h; rfl; done) | (obtain ⟨_, _, _, _, _, _, _, _, _, rfl, rfl, _⟩ := h; rfl; done) | (obtain ⟨_, _, _, _, _, _, _, _, _, _, rfl, rfl, _⟩ := h; rfl; done) | (obtain ⟨_, _, _, _, _, _, _, _, _, _, _, rfl, rfl, _⟩ := h; rfl; done)) B39 (KK a39) (fun cdv A outer s H E hr => der_ranked T G_counted G_lowest G_highest G_most_by hr) (fun w es n k h => w_ranked  h)
  have G_answer_of : Go P w K mg base 10 "answer_of" (toSp K (ansSp C_Piece C_Question)) [] := fn_data F40 sc_answer_of (fun w es n k h => by first | (obtain ⟨rfl, _⟩ := h; rfl; done) | (obtain ⟨_, rfl, _⟩ := h; rfl; done) | (obtain ⟨_, _, rfl, _⟩ := h; rfl; done) | (obtain ⟨_, _, _, rfl, _⟩ := h; rfl; done) | (obtain ⟨_, _, _, _, rfl, _⟩ := h; rfl; done) | (obtain ⟨_, _, _, _, _, rfl, _⟩ := h; rfl; done) | (obtain ⟨_, _, _, _, _, _, rfl, _⟩ := h; rfl; done) | (obtain ⟨_, _, _, _, _, _, _, rfl, _⟩ := h; rfl; done) | (obtain ⟨_, _, _, _, _, _, _, _, rfl, _⟩ := h; rfl; done) | (obtain ⟨_, _, _, _, _, _, _, _, _, rfl, _⟩ := h; rfl; done) | (obtain ⟨_, _, _, _, _, _, _, _, _, _, rfl, _⟩ := h; rfl; done) | (obtain ⟨_, _, _, _, _, _, _, _, _, _, _, rfl, _⟩ := h; rfl; done) | (obtain ⟨_, _, _, _, _, _, _, _, _, _, _, _, rfl, _⟩ := h; rfl; done) | (obtain ⟨_, _, _, _, _, _, _, _, _, _, _, _, _, rfl, _⟩ := h; rfl; done) | (obtain ⟨_, _, _, _, _, _, _, _, _, _, _, _, _, _, rfl, _⟩ := h; rfl; done) | (rcases h with ⟨_, rfl, _⟩ | ⟨_, rfl, _⟩ <;> rfl; done) | (rcases h with ⟨_, rfl, _⟩ | ⟨_, rfl, _⟩ | ⟨_, rfl, _⟩ <;> rfl; done) | (obtain ⟨_, h⟩ := h; rcases h with ⟨_, rfl, _⟩ | ⟨_, rfl, _⟩ | ⟨_, rfl, _⟩ <;> rfl; done) | (obtain ⟨_, rfl, rfl, _⟩ := h; rfl; done) | (obtain ⟨_, _, rfl, rfl, _⟩ := h; rfl; done) | (obtain ⟨_, _, _, rfl, rfl, _⟩ := h; rfl; done) | (obtain ⟨_, _, _, _, rfl, rfl, _⟩ := h; rfl; done) | (obtain ⟨_, _, _, _, _, rfl, rfl, _⟩ := h; rfl; done) | (obtain ⟨_, _, _, _, _, _, rfl, rfl, _⟩ := h; rfl; done) | (obtain ⟨_, _, _, _, _, _, _, rfl, rfl, _⟩ := h; rfl; done) | (obtain ⟨_, _, _, _, _, _, _, _, rfl, rfl, _⟩ := h; rfl; done) | (obtain ⟨_, _, _, _, _, _, _, _, _, rfl, rfl, _⟩ := h; rfl; done) | (obtain ⟨_, _, _, _, _, _, _, _, _, _, rfl, rfl, _⟩ := h; rfl; done) | (obtain ⟨_, _, _, _, _, _, _, _, _, _, _, rfl, rfl, _⟩ := h; rfl; done)) B40 (KK a40) (fun cdv A outer s H E hr => der_answer_of T G_need_pieces G_need_question G_pieces_at G_counted G_summed G_first_of G_lowest G_highest G_most_by G_ranked hr) (fun w es n k h => w_answer_of T_Question h)
  have G_is_numbered : Go P w K mg base 3 "is_numbered" (toSp K numberedSp) [] := fn_data F41 sc_is_numbered (fun w es n k h => by first | (obtain ⟨rfl, _⟩ := h; rfl; done) | (obtain ⟨_, rfl, _⟩ := h; rfl; done) | (obtain ⟨_, _, rfl, _⟩ := h; rfl; done) | (obtain ⟨_, _, _, rfl, _⟩ := h; rfl; done) | (obtain ⟨_, _, _, _, rfl, _⟩ := h; rfl; done) | (obtain ⟨_, _, _, _, _, rfl, _⟩ := h; rfl; done) | (obtain ⟨_, _, _, _, _, _, rfl, _⟩ := h; rfl; done) | (obtain ⟨_, _, _, _, _, _, _, rfl, _⟩ := h; rfl; done) | (obtain ⟨_, _, _, _, _, _, _, _, rfl, _⟩ := h; rfl; done) | (obtain ⟨_, _, _, _, _, _, _, _, _, rfl, _⟩ := h; rfl; done) | (obtain ⟨_, _, _, _, _, _, _, _, _, _, rfl, _⟩ := h; rfl; done) | (obtain ⟨_, _, _, _, _, _, _, _, _, _, _, rfl, _⟩ := h; rfl; done) | (obtain ⟨_, _, _, _, _, _, _, _, _, _, _, _, rfl, _⟩ := h; rfl; done) | (obtain ⟨_, _, _, _, _, _, _, _, _, _, _, _, _, rfl, _⟩ := h; rfl; done) | (obtain ⟨_, _, _, _, _, _, _, _, _, _, _, _, _, _, rfl, _⟩ := h; rfl; done) | (rcases h with ⟨_, rfl, _⟩ | ⟨_, rfl, _⟩ <;> rfl; done) | (rcases h with ⟨_, rfl, _⟩ | ⟨_, rfl, _⟩ | ⟨_, rfl, _⟩ <;> rfl; done) | (obtain ⟨_, h⟩ := h; rcases h with ⟨_, rfl, _⟩ | ⟨_, rfl, _⟩ | ⟨_, rfl, _⟩ <;> rfl; done) | (obtain ⟨_, rfl, rfl, _⟩ := h; rfl; done) | (obtain ⟨_, _, rfl, rfl, _⟩ := h; rfl; done) | (obtain ⟨_, _, _, rfl, rfl, _⟩ := h; rfl; done) | (obtain ⟨_, _, _, _, rfl, rfl, _⟩ := h; rfl; done) | (obtain ⟨_, _, _, _, _, rfl, rfl, _⟩ := h; rfl; done) | (obtain ⟨_, _, _, _, _, _, rfl, rfl, _⟩ := h; rfl; done) | (obtain ⟨_, _, _, _, _, _, _, rfl, rfl, _⟩ := h; rfl; done) | (obtain ⟨_, _, _, _, _, _, _, _, rfl, rfl, _⟩ := h; rfl; done) | (obtain ⟨_, _, _, _, _, _, _, _, _, rfl, rfl, _⟩ := h; rfl; done) | (obtain ⟨_, _, _, _, _, _, _, _, _, _, rfl, rfl, _⟩ := h; rfl; done) | (obtain ⟨_, _, _, _, _, _, _, _, _, _, _, rfl, rfl, _⟩ := h; rfl; done)) B41 (KK a41) (fun cdv A outer s H E hr => der_is_numbered T G_is_within hr) (fun w es n k h => w_is_numbered  h)
  have G_are_moments : Go P w K mg base 3 "are_moments" (toSp K momentsSp) [] := fn_data F42 sc_are_moments (fun w es n k h => by first | (obtain ⟨rfl, _⟩ := h; rfl; done) | (obtain ⟨_, rfl, _⟩ := h; rfl; done) | (obtain ⟨_, _, rfl, _⟩ := h; rfl; done) | (obtain ⟨_, _, _, rfl, _⟩ := h; rfl; done) | (obtain ⟨_, _, _, _, rfl, _⟩ := h; rfl; done) | (obtain ⟨_, _, _, _, _, rfl, _⟩ := h; rfl; done) | (obtain ⟨_, _, _, _, _, _, rfl, _⟩ := h; rfl; done) | (obtain ⟨_, _, _, _, _, _, _, rfl, _⟩ := h; rfl; done) | (obtain ⟨_, _, _, _, _, _, _, _, rfl, _⟩ := h; rfl; done) | (obtain ⟨_, _, _, _, _, _, _, _, _, rfl, _⟩ := h; rfl; done) | (obtain ⟨_, _, _, _, _, _, _, _, _, _, rfl, _⟩ := h; rfl; done) | (obtain ⟨_, _, _, _, _, _, _, _, _, _, _, rfl, _⟩ := h; rfl; done) | (obtain ⟨_, _, _, _, _, _, _, _, _, _, _, _, rfl, _⟩ := h; rfl; done) | (obtain ⟨_, _, _, _, _, _, _, _, _, _, _, _, _, rfl, _⟩ := h; rfl; done) | (obtain ⟨_, _, _, _, _, _, _, _, _, _, _, _, _, _, rfl, _⟩ := h; rfl; done) | (rcases h with ⟨_, rfl, _⟩ | ⟨_, rfl, _⟩ <;> rfl; done) | (rcases h with ⟨_, rfl, _⟩ | ⟨_, rfl, _⟩ | ⟨_, rfl, _⟩ <;> rfl; done) | (obtain ⟨_, h⟩ := h; rcases h with ⟨_, rfl, _⟩ | ⟨_, rfl, _⟩ | ⟨_, rfl, _⟩ <;> rfl; done) | (obtain ⟨_, rfl, rfl, _⟩ := h; rfl; done) | (obtain ⟨_, _, rfl, rfl, _⟩ := h; rfl; done) | (obtain ⟨_, _, _, rfl, rfl, _⟩ := h; rfl; done) | (obtain ⟨_, _, _, _, rfl, rfl, _⟩ := h; rfl; done) | (obtain ⟨_, _, _, _, _, rfl, rfl, _⟩ := h; rfl; done) | (obtain ⟨_, _, _, _, _, _, rfl, rfl, _⟩ := h; rfl; done) | (obtain ⟨_, _, _, _, _, _, _, rfl, rfl, _⟩ := h; rfl; done) | (obtain ⟨_, _, _, _, _, _, _, _, rfl, rfl, _⟩ := h; rfl; done) | (obtain ⟨_, _, _, _, _, _, _, _, _, rfl, rfl, _⟩ := h; rfl; done) | (obtain ⟨_, _, _, _, _, _, _, _, _, _, rfl, rfl, _⟩ := h; rfl; done) | (obtain ⟨_, _, _, _, _, _, _, _, _, _, _, rfl, rfl, _⟩ := h; rfl; done)) B42 (KK a42) (fun cdv A outer s H E hr => der_are_moments T G_is_listed G_is_within hr) (fun w es n k h => w_are_moments  h)
  have FD_Question : FunD K "__init__" "Question.__init__" (defArgs s_Question_init) (defBody s_Question_init) (defScope s_Question_init) [.non] [] fQuestion _ := ⟨⟨_, _, _, _, _, _, _, _, _, _, rfl, lQuestion, cQuestion, .inr ⟨by simp, tQuestion, _, [.none], _, rfl, tQ1, rfl, .cons rfl .nil⟩, .inl rfl⟩, kQuestion⟩
  have FQ : FnOk P w K mg base CX0 4 fQuestion _ ["self", "kind", "number", "start", "stop", "among"] (initSp K C_Question gQ) := FD_Question.ok sc_Question_init (fun vs H Q E h => initSp_len (j := 5) (fun es ns l hg => by obtain ⟨_, _, _, _, _, rfl, _⟩ := hg; rfl) h) (fun cdv A outer s H vs Q E hr h =>
    ⟨_, (der_Question_init T G_is_numbered G_is_within G_are_moments hr).nox, init_ok (fun es ns l hg => w_Question_init T_Question hg) h⟩)
  have M_Question : Mkc P w K mg base 4 "Question" C_Question (initSp K C_Question gQ) [] := by
    obtain ⟨ds, hv, hb⟩ := FD_Question.binds1 (ps := ["self", "kind", "number", "start", "stop", "among"]) 6 1 (by simp) rfl (fun T kV doc pm an cdv ct us its h1 h2 => match us, its, h1, h2 with | [_, _, _, _, _, _], [_], _, _ => ⟨_, rfl, rfl⟩)
    exact ⟨fQuestion, _, _, ds, ⟨mkQuestion, aQuestion, iQuestion, kcQuestion⟩, FQ, KK nQuestion, hb, hv⟩
  have M1_Question : Mkc P w K mg base 4 "Question" C_Question (initSp K C_Question gQ) [.non] := by
    obtain ⟨ds, hv, hb⟩ := FD_Question.binds1 (ps := ["self", "kind", "number", "start", "stop", "among"]) 5 0 (by simp) rfl (fun T kV doc pm an cdv ct us its h1 h2 => match us, its, h1, h2 with | [_, _, _, _, _], [_], _, _ => ⟨_, rfl, rfl⟩)
    exact ⟨fQuestion, _, _, ds, ⟨mkQuestion, aQuestion, iQuestion, kcQuestion⟩, FQ, KK nQuestion, hb, hv⟩
  have G__law_line_most : Go P w K mg base 1 "_law_line_most" (toSp K lineMostSp) [] := fn_data F43 sc__law_line_most (fun w es n k h => by first | (obtain ⟨rfl, _⟩ := h; rfl; done) | (obtain ⟨_, rfl, _⟩ := h; rfl; done) | (obtain ⟨_, _, rfl, _⟩ := h; rfl; done) | (obtain ⟨_, _, _, rfl, _⟩ := h; rfl; done) | (obtain ⟨_, _, _, _, rfl, _⟩ := h; rfl; done) | (obtain ⟨_, _, _, _, _, rfl, _⟩ := h; rfl; done) | (obtain ⟨_, _, _, _, _, _, rfl, _⟩ := h; rfl; done) | (obtain ⟨_, _, _, _, _, _, _, rfl, _⟩ := h; rfl; done) | (obtain ⟨_, _, _, _, _, _, _, _, rfl, _⟩ := h; rfl; done) | (obtain ⟨_, _, _, _, _, _, _, _, _, rfl, _⟩ := h; rfl; done) | (obtain ⟨_, _, _, _, _, _, _, _, _, _, rfl, _⟩ := h; rfl; done) | (obtain ⟨_, _, _, _, _, _, _, _, _, _, _, rfl, _⟩ := h; rfl; done) | (obtain ⟨_, _, _, _, _, _, _, _, _, _, _, _, rfl, _⟩ := h; rfl; done) | (obtain ⟨_, _, _, _, _, _, _, _, _, _, _, _, _, rfl, _⟩ := h; rfl; done) | (obtain ⟨_, _, _, _, _, _, _, _, _, _, _, _, _, _, rfl, _⟩ := h; rfl; done) | (rcases h with ⟨_, rfl, _⟩ | ⟨_, rfl, _⟩ <;> rfl; done) | (rcases h with ⟨_, rfl, _⟩ | ⟨_, rfl, _⟩ | ⟨_, rfl, _⟩ <;> rfl; done) | (obtain ⟨_, h⟩ := h; rcases h with ⟨_, rfl, _⟩ | ⟨_, rfl, _⟩ | ⟨_, rfl, _⟩ <;> rfl; done) | (obtain ⟨_, rfl, rfl, _⟩ := h; rfl; done) | (obtain ⟨_, _, rfl, rfl, _⟩ := h; rfl; done) | (obtain ⟨_, _, _, rfl, rfl, _⟩ := h; rfl; done) | (obtain ⟨_, _, _, _, rfl, rfl, _⟩ := h; rfl; done) | (obtain ⟨_, _, _, _, _, rfl, rfl, _⟩ := h; rfl; done) | (obtain ⟨_, _, _, _, _, _, rfl, rfl, _⟩ := h; rfl; done) | (obtain ⟨_, _, _, _, _, _, _, rfl, rfl, _⟩ := h; rfl; done) | (obtain ⟨_, _, _, _, _, _, _, _, rfl, rfl, _⟩ := h; rfl; done) | (obtain ⟨_, _, _, _, _, _, _, _, _, rfl, rfl, _⟩ := h; rfl; done) | (obtain ⟨_, _, _, _, _, _, _, _, _, _, rfl, rfl, _⟩ := h; rfl; done) | (obtain ⟨_, _, _, _, _, _, _, _, _, _, _, rfl, rfl, _⟩ := h; rfl; done)) B43 (KK a43) (fun cdv A outer s H E hr => der__law_line_most T  hr) (fun w es n k h => w__law_line_most  h)
  have G__law_line_right : Go P w K mg base 11 "_law_line_right" (toSp K lineSp) [] := fn_data F44 sc__law_line_right (fun w es n k h => by first | (obtain ⟨rfl, _⟩ := h; rfl; done) | (obtain ⟨_, rfl, _⟩ := h; rfl; done) | (obtain ⟨_, _, rfl, _⟩ := h; rfl; done) | (obtain ⟨_, _, _, rfl, _⟩ := h; rfl; done) | (obtain ⟨_, _, _, _, rfl, _⟩ := h; rfl; done) | (obtain ⟨_, _, _, _, _, rfl, _⟩ := h; rfl; done) | (obtain ⟨_, _, _, _, _, _, rfl, _⟩ := h; rfl; done) | (obtain ⟨_, _, _, _, _, _, _, rfl, _⟩ := h; rfl; done) | (obtain ⟨_, _, _, _, _, _, _, _, rfl, _⟩ := h; rfl; done) | (obtain ⟨_, _, _, _, _, _, _, _, _, rfl, _⟩ := h; rfl; done) | (obtain ⟨_, _, _, _, _, _, _, _, _, _, rfl, _⟩ := h; rfl; done) | (obtain ⟨_, _, _, _, _, _, _, _, _, _, _, rfl, _⟩ := h; rfl; done) | (obtain ⟨_, _, _, _, _, _, _, _, _, _, _, _, rfl, _⟩ := h; rfl; done) | (obtain ⟨_, _, _, _, _, _, _, _, _, _, _, _, _, rfl, _⟩ := h; rfl; done) | (obtain ⟨_, _, _, _, _, _, _, _, _, _, _, _, _, _, rfl, _⟩ := h; rfl; done) | (rcases h with ⟨_, rfl, _⟩ | ⟨_, rfl, _⟩ <;> rfl; done) | (rcases h with ⟨_, rfl, _⟩ | ⟨_, rfl, _⟩ | ⟨_, rfl, _⟩ <;> rfl; done) | (obtain ⟨_, h⟩ := h; rcases h with ⟨_, rfl, _⟩ | ⟨_, rfl, _⟩ | ⟨_, rfl, _⟩ <;> rfl; done) | (obtain ⟨_, rfl, rfl, _⟩ := h; rfl; done) | (obtain ⟨_, _, rfl, rfl, _⟩ := h; rfl; done) | (obtain ⟨_, _, _, rfl, rfl, _⟩ := h; rfl; done) | (obtain ⟨_, _, _, _, rfl, rfl, _⟩ := h; rfl; done) | (obtain ⟨_, _, _, _, _, rfl, rfl, _⟩ := h; rfl; done) | (obtain ⟨_, _, _, _, _, _, rfl, rfl, _⟩ := h; rfl; done) | (obtain ⟨_, _, _, _, _, _, _, rfl, rfl, _⟩ := h; rfl; done) | (obtain ⟨_, _, _, _, _, _, _, _, rfl, rfl, _⟩ := h; rfl; done) | (obtain ⟨_, _, _, _, _, _, _, _, _, rfl, rfl, _⟩ := h; rfl; done) | (obtain ⟨_, _, _, _, _, _, _, _, _, _, rfl, rfl, _⟩ := h; rfl; done) | (obtain ⟨_, _, _, _, _, _, _, _, _, _, _, rfl, rfl, _⟩ := h; rfl; done)) B44 (KK a44) (fun cdv A outer s H E hr => der__law_line_right T G__law_draw G_answer_of M1_Question G__law_line_most M_Piece hr) (fun w es n k h => w__law_line_right  h)
  have G__law_parts_right : Go P w K mg base 11 "_law_parts_right" (toSp K partsSp) [] := fn_data F45 sc__law_parts_right (fun w es n k h => by first | (obtain ⟨rfl, _⟩ := h; rfl; done) | (obtain ⟨_, rfl, _⟩ := h; rfl; done) | (obtain ⟨_, _, rfl, _⟩ := h; rfl; done) | (obtain ⟨_, _, _, rfl, _⟩ := h; rfl; done) | (obtain ⟨_, _, _, _, rfl, _⟩ := h; rfl; done) | (obtain ⟨_, _, _, _, _, rfl, _⟩ := h; rfl; done) | (obtain ⟨_, _, _, _, _, _, rfl, _⟩ := h; rfl; done) | (obtain ⟨_, _, _, _, _, _, _, rfl, _⟩ := h; rfl; done) | (obtain ⟨_, _, _, _, _, _, _, _, rfl, _⟩ := h; rfl; done) | (obtain ⟨_, _, _, _, _, _, _, _, _, rfl, _⟩ := h; rfl; done) | (obtain ⟨_, _, _, _, _, _, _, _, _, _, rfl, _⟩ := h; rfl; done) | (obtain ⟨_, _, _, _, _, _, _, _, _, _, _, rfl, _⟩ := h; rfl; done) | (obtain ⟨_, _, _, _, _, _, _, _, _, _, _, _, rfl, _⟩ := h; rfl; done) | (obtain ⟨_, _, _, _, _, _, _, _, _, _, _, _, _, rfl, _⟩ := h; rfl; done) | (obtain ⟨_, _, _, _, _, _, _, _, _, _, _, _, _, _, rfl, _⟩ := h; rfl; done) | (rcases h with ⟨_, rfl, _⟩ | ⟨_, rfl, _⟩ <;> rfl; done) | (rcases h with ⟨_, rfl, _⟩ | ⟨_, rfl, _⟩ | ⟨_, rfl, _⟩ <;> rfl; done) | (obtain ⟨_, h⟩ := h; rcases h with ⟨_, rfl, _⟩ | ⟨_, rfl, _⟩ | ⟨_, rfl, _⟩ <;> rfl; done) | (obtain ⟨_, rfl, rfl, _⟩ := h; rfl; done) | (obtain ⟨_, _, rfl, rfl, _⟩ := h; rfl; done) | (obtain ⟨_, _, _, rfl, rfl, _⟩ := h; rfl; done) | (obtain ⟨_, _, _, _, rfl, rfl, _⟩ := h; rfl; done) | (obtain ⟨_, _, _, _, _, rfl, rfl, _⟩ := h; rfl; done) | (obtain ⟨_, _, _, _, _, _, rfl, rfl, _⟩ := h; rfl; done) | (obtain ⟨_, _, _, _, _, _, _, rfl, rfl, _⟩ := h; rfl; done) | (obtain ⟨_, _, _, _, _, _, _, _, rfl, rfl, _⟩ := h; rfl; done) | (obtain ⟨_, _, _, _, _, _, _, _, _, rfl, rfl, _⟩ := h; rfl; done) | (obtain ⟨_, _, _, _, _, _, _, _, _, _, rfl, rfl, _⟩ := h; rfl; done) | (obtain ⟨_, _, _, _, _, _, _, _, _, _, _, rfl, rfl, _⟩ := h; rfl; done)) B45 (KK a45) (fun cdv A outer s H E hr => der__law_parts_right T G__law_draw G_answer_of M1_Question M_Piece M_Question hr) (fun w es n k h => w__law_parts_right  h)
  exact ⟨_, der_law T G__law_pen G__law_line_right G__law_parts_right hr, law_reads  hS hl hTT hQ⟩
end K43
open PySem PySem.W PyProof.Rows in
set_option maxRecDepth 100000 in
set_option maxHeartbeats 0 in
theorem PySem.Challenge.cw_askedcodes_k43_whole_answers_of_long_row_holds : PySem.Challenge.rw_askedcodes_k43_whole_answers_of_long_row.Holds := by
  w_on; o_law; k_head; (case hw => w_witness2)
  k_fill
  letI tb0 : DW.Tb := ⟨[], fun _ _ _ => ""⟩
  refine DW.walk_at (n := 63) (l := PySem.Challenge.rw_askedcodes_k43_whole_answers_of_long_row) rfl (by decide) rfl (fun w h Y => PySem.W.km_in_of Y) ?F
  case F =>
    intro w mg fa h KX G hmg hown
    refine' K43.all_mk KX G hmg (hown "first_beyond" (by first | rfl | decide +kernel)) (hown "rising_most" (by first | rfl | decide +kernel)) ?a0 ?l0 ?c0 ?k0 ?a1 ?l1 ?c1 ?k1 ?a2 ?l2 ?c2 ?k2 ?a3 ?l3 ?c3 ?k3 ?a4 ?l4 ?c4 ?k4 ?a5 ?l5 ?c5 ?k5 ?a6 ?l6 ?c6 ?k6 ?a7 ?l7 ?c7 ?k7 ?a8 ?l8 ?c8 ?k8 ?a9 ?l9 ?c9 ?k9 ?a10 ?l10 ?c10 ?k10 ?a11 ?l11 ?c11 ?k11 ?a12 ?l12 ?c12 ?k12 ?a13 ?l13 ?c13 ?k13 ?a14 ?l14 ?c14 ?k14 ?a15 ?l15 ?c15 ?k15 ?a16 ?l16 ?c16 ?k16 ?a17 ?l17 ?c17 ?k17 ?a18 ?l18 ?c18 ?k18 ?a19 ?l19 ?c19 ?k19 ?a20 ?l20 ?c20 ?k20 ?a21 ?l21 ?c21 ?k21 ?a22 ?l22 ?c22 ?k22 ?a23 ?l23 ?c23 ?k23 ?a24 ?l24 ?c24 ?k24 ?a25 ?l25 ?c25 ?k25 ?a26 ?l26 ?c26 ?k26 ?a27 ?l27 ?c27 ?k27 ?a28 ?l28 ?c28 ?k28 ?a29 ?l29 ?c29 ?k29 ?a30 ?l30 ?c30 ?k30 ?a31 ?l31 ?c31 ?k31 ?a32 ?l32 ?c32 ?k32 ?a33 ?l33 ?c33 ?k33 ?a34 ?l34 ?c34 ?k34 ?a35 ?l35 ?c35 ?k35 ?a36 ?l36 ?c36 ?k36 ?a37 ?l37 ?c37 ?k37 ?a38 ?l38 ?c38 ?k38 ?a39 ?l39 ?c39 ?k39 ?a40 ?l40 ?c40 ?k40 ?a41 ?l41 ?c41 ?k41 ?a42 ?l42 ?c42 ?k42 ?a43 ?l43 ?c43 ?k43 ?a44 ?l44 ?c44 ?k44 ?a45 ?l45 ?c45 ?k45 ?a46 ?l46 ?c46 ?k46 ?a47 ?l47 ?c47 ?k47 ?aR0 ?lR0 ?cR0R ?kR0 ?lcR0 ?v11R0 ?hPR0 ?hcR0 ?aR1 ?lR1 ?cR1R ?kR1 ?lcR1 ?v11R1 ?hPR1 ?hcR1 ?nPiece ?pgPiece ?hdPiece ?poPiece ?saPiece ?mkPiece ?kcPiece ?naPiece0 ?naPiece1 ?naPiece2 ?naPiece3 ?naPiece4 ?naPiece5 ?naPiece6 ?haPiece ?omPiece ?aPiece ?iPiece ?lPiece ?cEPiece ?dclPiece ?cdlPiece ?vs2Piece ?filPiece ?cclxPiece ?supPiece ?satPiece ?tyPPiece ?fiPPiece ?lPPiece ?cPPiece ?nQuestion ?pgQuestion ?hdQuestion ?poQuestion ?saQuestion ?mkQuestion ?kcQuestion ?naQuestion0 ?naQuestion1 ?naQuestion2 ?naQuestion3 ?naQuestion4 ?haQuestion ?omQuestion ?aQuestion ?lQuestion ?cQuestion ?kQuestion ?iQuestion ?tQ1 ?ne01 ?hn ?ht ?opq ?topS ?nsup ?b_abs ?b_all ?b_bool ?b_divmod ?b_int ?b_isinstance ?b_len ?b_list ?b_max ?b_min ?b_range ?b_set ?b_sorted ?b_str ?b_sum ?b_tuple ?b_zip ?g_ASKED ?lt_ASKED ?g_KINDS ?lt_KINDS ?g_MOST_COUNT ?g_MOST_LISTED ?g_MOST_MOMENT ?g_MOST_NUMBER ?g_MOST_PERIOD ?g_MOST_VALUE ?hr9
    (case a0 => k_is)
    (case l0 => k_is)
    (case c0 => k_is)
    (case k0 => k_is)
    (case a1 => k_is)
    (case l1 => k_is)
    (case c1 => k_is)
    (case k1 => k_is)
    (case a2 => k_is)
    (case l2 => k_is)
    (case c2 => k_is)
    (case k2 => k_is)
    (case a3 => k_is)
    (case l3 => k_is)
    (case c3 => k_is)
    (case k3 => k_is)
    (case a4 => k_is)
    (case l4 => k_is)
    (case c4 => k_is)
    (case k4 => k_is)
    (case a5 => k_is)
    (case l5 => k_is)
    (case c5 => k_is)
    (case k5 => k_is)
    (case a6 => k_is)
    (case l6 => k_is)
    (case c6 => k_is)
    (case k6 => k_is)
    (case a7 => k_is)
    (case l7 => k_is)
    (case c7 => k_is)
    (case k7 => k_is)
    (case a8 => k_is)
    (case l8 => k_is)
    (case c8 => k_is)
    (case k8 => k_is)
    (case a9 => k_is)
    (case l9 => k_is)
    (case c9 => k_is)
    (case k9 => k_is)
    (case a10 => k_is)
    (case l10 => k_is)
    (case c10 => k_is)
    (case k10 => k_is)
    (case a11 => k_is)
    (case l11 => k_is)
    (case c11 => k_is)
    (case k11 => k_is)
    (case a12 => k_is)
    (case l12 => k_is)
    (case c12 => k_is)
    (case k12 => k_is)
    (case a13 => k_is)
    (case l13 => k_is)
    (case c13 => k_is)
    (case k13 => k_is)
    (case a14 => k_is)
    (case l14 => k_is)
    (case c14 => k_is)
    (case k14 => k_is)
    (case a15 => k_is)
    (case l15 => k_is)
    (case c15 => k_is)
    (case k15 => k_is)
    (case a16 => k_is)
    (case l16 => k_is)
    (case c16 => k_is)
    (case k16 => k_is)
    (case a17 => k_is)
    (case l17 => k_is)
    (case c17 => k_is)
    (case k17 => k_is)
    (case a18 => k_is)
    (case l18 => k_is)
    (case c18 => k_is)
    (case k18 => k_is)
    (case a19 => k_is)
    (case l19 => k_is)
    (case c19 => k_is)
    (case k19 => k_is)
    (case a20 => k_is)
    (case l20 => k_is)
    (case c20 => k_is)
    (case k20 => k_is)
    (case a21 => k_is)
    (case l21 => k_is)
    (case c21 => k_is)
    (case k21 => k_is)
    (case a22 => k_is)
    (case l22 => k_is)
    (case c22 => k_is)
    (case k22 => k_is)
    (case a23 => k_is)
    (case l23 => k_is)
    (case c23 => k_is)
    (case k23 => k_is)
    (case a24 => k_is)
    (case l24 => k_is)
    (case c24 => k_is)
    (case k24 => k_is)
    (case a25 => k_is)
    (case l25 => k_is)
    (case c25 => k_is)
    (case k25 => k_is)
    (case a26 => k_is)
    (case l26 => k_is)
    (case c26 => k_is)
    (case k26 => k_is)
    (case a27 => k_is)
    (case l27 => k_is)
    (case c27 => k_is)
    (case k27 => k_is)
    (case a28 => k_is)
    (case l28 => k_is)
    (case c28 => k_is)
    (case k28 => k_is)
    (case a29 => k_is)
    (case l29 => k_is)
    (case c29 => k_is)
    (case k29 => k_is)
    (case a30 => k_is)
    (case l30 => k_is)
    (case c30 => k_is)
    (case k30 => k_is)
    (case a31 => k_is)
    (case l31 => k_is)
    (case c31 => k_is)
    (case k31 => k_is)
    (case a32 => k_is)
    (case l32 => k_is)
    (case c32 => k_is)
    (case k32 => k_is)
    (case a33 => k_is)
    (case l33 => k_is)
    (case c33 => k_is)
    (case k33 => k_is)
    (case a34 => k_is)
    (case l34 => k_is)
    (case c34 => k_is)
    (case k34 => k_is)
    (case a35 => k_is)
    (case l35 => k_is)
    (case c35 => k_is)
    (case k35 => k_is)
    (case a36 => k_is)
    (case l36 => k_is)
    (case c36 => k_is)
    (case k36 => k_is)
    (case a37 => k_is)
    (case l37 => k_is)
    (case c37 => k_is)
    (case k37 => k_is)
    (case a38 => k_is)
    (case l38 => k_is)
    (case c38 => k_is)
    (case k38 => k_is)
    (case a39 => k_is)
    (case l39 => k_is)
    (case c39 => k_is)
    (case k39 => k_is)
    (case a40 => k_is)
    (case l40 => k_is)
    (case c40 => k_is)
    (case k40 => k_is)
    (case a41 => k_is)
    (case l41 => k_is)
    (case c41 => k_is)
    (case k41 => k_is)
    (case a42 => k_is)
    (case l42 => k_is)
    (case c42 => k_is)
    (case k42 => k_is)
    (case a43 => k_is)
    (case l43 => k_is)
    (case c43 => k_is)
    (case k43 => k_is)
    (case a44 => k_is)
    (case l44 => k_is)
    (case c44 => k_is)
    (case k44 => k_is)
    (case a45 => k_is)
    (case l45 => k_is)
    (case c45 => k_is)
    (case k45 => k_is)
    (case a46 => k_is)
    (case l46 => k_is)
    (case c46 => k_is)
    (case k46 => k_is)
    (case a47 => k_is)
    (case l47 => k_is)
    (case c47 => k_is)
    (case k47 => k_is)
    (case aR0 => k_is)
    (case lR0 => k_is)
    (case cR0R => k_is)
    (case kR0 => k_is)
    (case lcR0 => k_is)
    (case v11R0 => rfl)
    (case hPR0 => first | rfl | k_is | decide +kernel)
    (case hcR0 => first | kernel_rfl | rfl | decide +kernel)
    (case aR1 => k_is)
    (case lR1 => k_is)
    (case cR1R => k_is)
    (case kR1 => k_is)
    (case lcR1 => k_is)
    (case v11R1 => rfl)
    (case hPR1 => first | rfl | k_is | decide +kernel)
    (case hcR1 => first | kernel_rfl | rfl | decide +kernel)
    (case nPiece => k_is)
    (case pgPiece => k_is)
    (case hdPiece => k_is)
    (case poPiece => k_is)
    (case saPiece => k_is)
    (case mkPiece => k_is)
    (case kcPiece => k_is)
    (case naPiece0 => k_is)
    (case naPiece1 => k_is)
    (case naPiece2 => k_is)
    (case naPiece3 => k_is)
    (case naPiece4 => k_is)
    (case naPiece5 => k_is)
    (case naPiece6 => k_is)
    (case haPiece => k_is)
    (case omPiece => k_is)
    (case aPiece => k_is)
    (case iPiece => k_is)
    (case lPiece => k_is)
    (case cEPiece => k_is)
    (case dclPiece => k_is)
    (case cdlPiece => k_is)
    (case vs2Piece => rfl)
    (case filPiece => first | rfl | decide +kernel)
    (case cclxPiece => k_is)
    (case supPiece => k_is)
    (case satPiece => ks_is)
    (case tyPPiece => k_is)
    (case fiPPiece => k_is)
    (case lPPiece => k_is)
    (case cPPiece => k_is)
    (case nQuestion => k_is)
    (case pgQuestion => k_is)
    (case hdQuestion => k_is)
    (case poQuestion => k_is)
    (case saQuestion => k_is)
    (case mkQuestion => k_is)
    (case kcQuestion => k_is)
    (case naQuestion0 => k_is)
    (case naQuestion1 => k_is)
    (case naQuestion2 => k_is)
    (case naQuestion3 => k_is)
    (case naQuestion4 => k_is)
    (case haQuestion => k_is)
    (case omQuestion => k_is)
    (case aQuestion => k_is)
    (case lQuestion => k_is)
    (case cQuestion => k_is)
    (case kQuestion => k_is)
    (case iQuestion => k_is)
    (case tQ1 => k_is)
    (case ne01 => decide +kernel)
    (case hn => k_is)
    (case ht => k_is)
    (case opq => k_is)
    (case topS => first | rfl | decide +kernel)
    (case nsup => k_is)
    (case b_abs => k_is)
    (case b_all => k_is)
    (case b_bool => k_is)
    (case b_divmod => k_is)
    (case b_int => k_is)
    (case b_isinstance => k_is)
    (case b_len => k_is)
    (case b_list => k_is)
    (case b_max => k_is)
    (case b_min => k_is)
    (case b_range => k_is)
    (case b_set => k_is)
    (case b_sorted => k_is)
    (case b_str => k_is)
    (case b_sum => k_is)
    (case b_tuple => k_is)
    (case b_zip => k_is)
    (case g_ASKED => k_is)
    (case lt_ASKED => k_is)
    (case g_KINDS => k_is)
    (case lt_KINDS => k_is)
    (case g_MOST_COUNT => k_is)
    (case g_MOST_LISTED => k_is)
    (case g_MOST_MOMENT => k_is)
    (case g_MOST_NUMBER => k_is)
    (case g_MOST_PERIOD => k_is)
    (case g_MOST_VALUE => k_is)
    (case hr9 => exact ⟨by decide, by decide, by decide⟩)
