import PyProof.Rows.All
import Wide.All
import OpenK.AllK
import Wide.FinOn
import HandS.ForMost
import HandS.Evl
import HandS.Wide
import HandS.IsInst
import HandS.Star
import HandS.Defaults
import HandS.TupAny
import HandS.Conv
import HandS.More
import HandS.SortInts
import KE.KSuper
import KE.KSuperObj
import HandS.ClsMeth
import HandS.Nested
import HandS.Style
import HandS.Ends
import PySem.Challenge.RW_askedcodes_k51_points_of_lost_blocks_at
import KE.RegKSuper
set_option Elab.async false
set_option maxRecDepth 100000
set_option maxHeartbeats 4000000
set_option linter.all false
set_option autoImplicit false
/-! Data and what stands for it: a calculus of weakest conditions over plain data. -/
namespace DW
open PySem L2

inductive D where
  | non | bl (b : Bool) | int (i : Int) | str (x : Str) | lst (l : List D) | tup (l : List D) | obj (C : Addr) (ns : List Str) (l : List D) | raw (v : V) | own (l : List D) | dk (ks : List Key) (l : List D)

abbrev Ex := Evl.Ex

mutual
inductive Rp (K : PySem.W.Frag) (H : Hp) : V → D → Prop
  | non : Rp K H .non .non
  | bl (b : Bool) : Rp K H (.bl b) (.bl b)
  | int (i : Int) : Rp K H (.int i) (.int i)
  | str (x : Str) : Rp K H (.str x) (.str x)
  | lst {a : Addr} {xs : List V} {ds : List D} : H a = some (.lst xs) → Rps K H xs ds → Rp K H (.ref a) (.lst ds)
  | tup {a : Addr} {xs : List V} {ds : List D} : SqT K H a xs → Rps K H xs ds → Rp K H (.ref a) (.tup ds)
  | obj {a C dx : Addr} {ns : List Str} {xs : List V} {ds : List D} : H a = some (.ins C dx (ns.zip xs)) → xs.length = ns.length → Rps K H xs ds → Rp K H (.ref a) (.obj C ns ds)
  | raw (v : V) : Rp K H v (.raw v)
  | dk {a : Addr} {ks : List Key} {xs : List V} {ds : List D} : H a = some (.dK (ks.zip xs)) → xs.length = ks.length → Rps K H xs ds → Rp K H (.ref a) (.dk ks ds)
inductive Rps (K : PySem.W.Frag) (H : Hp) : List V → List D → Prop
  | nil : Rps K H [] []
  | cons {v : V} {vs : List V} {d : D} {ds : List D} : Rp K H v d → Rps K H vs ds → Rps K H (v :: vs) (d :: ds)
end

mutual
theorem Rp.mono {K : PySem.W.Frag} {H H' : Hp} (e : Ex H H') : ∀ {v : V} {d : D}, Rp K H v d → Rp K H' v d
  | _, _, .non => .non
  | _, _, .bl b => .bl b
  | _, _, .int i => .int i
  | _, _, .str x => .str x
  | _, _, .lst h r => .lst (e _ _ h) (Rps.mono e r)
  | _, _, .tup h r => .tup (Evl.ex_t e h) (Rps.mono e r)
  | _, _, .obj h l r => .obj (e _ _ h) l (Rps.mono e r)
  | _, _, .raw v => .raw v
  | _, _, .dk h l r => .dk (e _ _ h) l (Rps.mono e r)
theorem Rps.mono {K : PySem.W.Frag} {H H' : Hp} (e : Ex H H') : ∀ {vs : List V} {ds : List D}, Rps K H vs ds → Rps K H' vs ds
  | _, _, .nil => .nil
  | _, _, .cons a b => .cons (Rp.mono e a) (Rps.mono e b)
end

section
variable {K : PySem.W.Frag} {H H' : Hp}
theorem Rps.length : ∀ {vs : List V} {ds : List D}, Rps K H vs ds → vs.length = ds.length
  | _, _, .nil => rfl
  | _, _, .cons _ b => by simp [Rps.length b]
theorem Rps.get : ∀ {vs : List V} {ds : List D} {i : Nat} {d : D}, Rps K H vs ds → ds[i]? = some d → ∃ v, vs[i]? = some v ∧ Rp K H v d
  | _, _, i, d, .nil, h => by simp at h
  | _, _, 0, d, .cons a b, h => by simp at h; subst h; exact ⟨_, rfl, a⟩
  | _, _, i + 1, d, .cons a b, h => by
    obtain ⟨v, h1, h2⟩ := Rps.get (i := i) b (by simpa using h)
    exact ⟨v, by simpa using h1, h2⟩
theorem Rps.getV : ∀ {vs : List V} {ds : List D} {i : Nat} {v : V}, Rps K H vs ds → vs[i]? = some v → ∃ d, ds[i]? = some d ∧ Rp K H v d
  | _, _, i, d, .nil, h => by simp at h
  | _, _, 0, d, .cons a b, h => by simp at h; subst h; exact ⟨_, rfl, a⟩
  | _, _, i + 1, d, .cons a b, h => by
    obtain ⟨v, h1, h2⟩ := Rps.getV (i := i) b (by simpa using h)
    exact ⟨v, by simpa using h1, h2⟩
theorem Rps.append : ∀ {xs : List V} {ds : List D} {ys : List V} {es : List D}, Rps K H xs ds → Rps K H ys es → Rps K H (xs ++ ys) (ds ++ es)
  | _, _, _, _, .nil, s => s
  | _, _, _, _, .cons r t, s => .cons r (Rps.append t s)
theorem Rps.take : ∀ {xs : List V} {ds : List D} (n : Nat), Rps K H xs ds → Rps K H (xs.take n) (ds.take n)
  | _, _, 0, _ => .nil
  | _, _, _ + 1, .nil => .nil
  | _, _, n + 1, .cons r t => .cons r (Rps.take n t)
theorem Rps.drop : ∀ {xs : List V} {ds : List D} (n : Nat), Rps K H xs ds → Rps K H (xs.drop n) (ds.drop n)
  | _, _, 0, r => r
  | _, _, _ + 1, .nil => .nil
  | _, _, n + 1, .cons _ t => Rps.drop n t
theorem Rps.set {v : V} {d : D} (r : Rp K H v d) : ∀ {xs : List V} {ds : List D} (i : Nat), Rps K H xs ds → Rps K H (xs.set i v) (ds.set i d)
  | _, _, _, .nil => .nil
  | _, _, 0, .cons _ t => .cons r t
  | _, _, i + 1, .cons q t => .cons q (Rps.set r i t)
theorem Rps.ints : ∀ {xs : List V} {ns : List Int}, Rps K H xs (ns.map D.int) → xs = ns.map V.int
  | _, [], .nil => rfl
  | _, n :: ns, .cons a b => by cases a; rw [Rps.ints b]; rfl
theorem Rps.bls : ∀ {xs : List V} {ns : List Bool}, Rps K H xs (ns.map D.bl) → xs = ns.map V.bl
  | _, [], .nil => rfl
  | _, n :: ns, .cons a b => by cases a; rw [Rps.bls b]; rfl
theorem Rps.strs : ∀ {xs : List V} {ns : List Str}, Rps K H xs (ns.map D.str) → xs = ns.map V.str
  | _, [], .nil => rfl
  | _, n :: ns, .cons a b => by cases a; rw [Rps.strs b]; rfl
theorem Rps.of_ints : ∀ (ns : List Int), Rps K H (ns.map V.int) (ns.map D.int)
  | [] => .nil
  | _ :: ns => .cons (.int _) (Rps.of_ints ns)
end

def cut (S : Addr → Bool) (H : Hp) : Hp := fun a => if S a = true then none else H a
theorem cut_some {S : Addr → Bool} {H : Hp} {a : Addr} {o : HO} (h : cut S H a = some o) : S a = false ∧ H a = some o := by
  unfold cut at h
  split at h
  · cases h
  · rename_i q
    exact ⟨by simpa using q, h⟩
theorem cut_of {S : Addr → Bool} {H : Hp} {a : Addr} (h : S a = false) : cut S H a = H a := by
  unfold cut; rw [h]; rfl
theorem cut_ex (S : Addr → Bool) (H : Hp) : Ex (cut S H) H := fun a o h => (cut_some h).2

/-- the pen: cells, the next one's index, what is left of a great one -/
def PenOk (K : PySem.W.Frag) (S : Addr → Bool) (H : Hp) (p : Addr) (n : Nat) : Prop := ∃ (c : Addr) (ix left : Int) (ns : List Int),
  H p = some (.lst [.ref c, .int ix, .int left]) ∧ cut S H c = some (.lst (ns.map V.int)) ∧ ns.length ≤ 63 ∧ 0 ≤ ix ∧ ix ≤ n ∧ 0 ≤ left
def OkW (K : PySem.W.Frag) (w : Option Addr) (S : Addr → Bool) (H : Hp) (n : Nat) : Prop := (∀ p, w = some p → S p = true ∧ PenOk K S H p n) ∧ ∀ a, S a = true → ∃ o, H a = some o
def Pres (w : Option Addr) (H H' : Hp) : Prop := ∀ a o, w ≠ some a → H a = some o → H' a = some o

section
variable {K : PySem.W.Frag} {w : Option Addr} {S : Addr → Bool} {H H0 H1 H2 H' : Hp} {n m : Nat}
theorem Pres.refl : Pres w H H := fun _ _ _ h => h
theorem Pres.trans (a : Pres w H H1) (b : Pres w H1 H2) : Pres w H H2 := fun x o n h => b x o n (a x o n h)
theorem Pres.of (e : Ex H H') : Pres w H H' := fun a o _ h => e a o h
theorem Pres.new {p : Addr} {o : HO} (h : H p = none) : Pres w H (upd H p o) := Pres.of (Evl.Ex.new h)
theorem ex_cut (ok : OkW K w S H n) (h : Pres w H H') : Ex (cut S H) (cut S H') := fun a o e => by
  obtain ⟨h1, h2⟩ := cut_some e
  rw [cut_of h1]
  refine h a o (fun q => ?_) h2
  have := (ok.1 a q).1
  rw [h1] at this; cases this
theorem OkW.fresh (ok : OkW K w S H n) {p : Addr} (h : H p = none) : S p = false := by
  cases q : S p with
  | false => rfl
  | true =>
    obtain ⟨o, e⟩ := ok.2 p q
    rw [h] at e; cases e
theorem OkW.w_ne (ok : OkW K w S H n) {p : Addr} (h : S p = false) : w ≠ some p := fun q => by
  have := (ok.1 p q).1
  rw [h] at this; cases this
/-- what does not touch the pen keeps all -/
theorem OkW.ex (ok : OkW K w S H n) (e : Ex H H') : OkW K w S H' n := by
  refine ⟨fun p hp => ⟨(ok.1 p hp).1, ?_⟩, fun a h => ?_⟩
  · obtain ⟨c, ix, left, ns, h1, h2, h3⟩ := (ok.1 p hp).2
    exact ⟨c, ix, left, ns, e _ _ h1, ex_cut ok (Pres.of e) _ _ h2, h3⟩
  · obtain ⟨o, h⟩ := ok.2 a h
    exact ⟨o, e _ _ h⟩
theorem OkW.new (ok : OkW K w S H n) {p : Addr} {o : HO} (h : H p = none) : OkW K w S (upd H p o) n := ok.ex (Evl.Ex.new h)
theorem OkW.mono (ok : OkW K w S H n) (h : n ≤ m) : OkW K w S H m := by
  refine ⟨fun p hp => ⟨(ok.1 p hp).1, ?_⟩, ok.2⟩
  obtain ⟨c, ix, left, ns, h1, h2, h3, h4, h5, h6⟩ := (ok.1 p hp).2
  exact ⟨c, ix, left, ns, h1, h2, h3, h4, by omega, h6⟩
theorem cut_new (ok : OkW K w S H n) {p : Addr} {o : HO} (h : H p = none) : cut S (upd H p o) p = some o := by
  rw [cut_of (ok.fresh h), upd_same]
end

def isOwn : D → Bool
  | .own _ => true
  | _ => false

/-- the frame's slots stand for data; none: nothing is known -/
structure RpE (K : PySem.W.Frag) (w : Option Addr) (S : Addr → Bool) (H0 H : Hp) (σ : St) (ds : List (Option D)) : Prop where
  len : σ.length = ds.length
  get : ∀ (i : Nat) (d : D), ds[i]? = some (some d) → isOwn d = false → ∃ v : V, σ[i]? = some (some v) ∧ Rp K (cut S H) v d
  own : ∀ (i : Nat) (l : List D), ds[i]? = some (some (.own l)) → ∃ (a : Addr) (xs : List V), σ[i]? = some (some (.ref a)) ∧ S a = true ∧ w ≠ some a ∧ H0 a = none ∧ H a = some (.lst xs) ∧ Rps K (cut S H) xs l
  dis : ∀ (i j : Nat) (l m : List D) (a : Addr), i ≠ j → ds[i]? = some (some (.own l)) → ds[j]? = some (some (.own m)) → σ[i]? = some (some (.ref a)) → σ[j]? ≠ some (some (.ref a))
section
variable {K : PySem.W.Frag} {w : Option Addr} {S : Addr → Bool} {H H0 H1 H2 H' : Hp} {n m : Nat} {σ : St} {ds : List (Option D)}
theorem RpE.up (r : RpE K w S H0 H σ ds) (ok : OkW K w S H n) (h : Pres w H H') : RpE K w S H0 H' σ ds where
  len := r.len
  get := fun i d e o => by
    obtain ⟨v, h1, h2⟩ := r.get i d e o
    exact ⟨v, h1, h2.mono (ex_cut ok h)⟩
  own := fun i l e => by
    obtain ⟨a, xs, h1, h2, h3, h0, h4, h5⟩ := r.own i l e
    exact ⟨a, xs, h1, h2, h3, h0, h a _ h3 h4, h5.mono (ex_cut ok h)⟩
  dis := r.dis
end
abbrev Kn := D → Nat → Prop
def Po (K : PySem.W.Frag) (w : Option Addr) (S : Addr → Bool) (H : Hp) (k : Kn) (Q : VK) : Prop :=
  ∀ (v : V) (H' : Hp) (d : D) (n' : Nat), k d n' → Pres w H H' → OkW K w S H' n' → Rp K (cut S H') v d → Q v H'
def WpE (K : PySem.W.Frag) (w : Option Addr) (te : TE) (ds : List (Option D)) (n : Nat) (k : Kn) : Prop :=
  ∀ (S : Addr → Bool) (H0 : Hp) (σ : St) (H : Hp) (Q : VK), RpE K w S H0 H σ ds → OkW K w S H n → Po K w S H k Q → te σ H Q
def WpT (K : PySem.W.Frag) (w : Option Addr) (tt : TT) (ds : List (Option D)) (n : Nat) (k : Bool → Nat → Prop) : Prop :=
  ∀ (S : Addr → Bool) (H0 : Hp) (σ : St) (H : Hp) (Q : Bool → Hp → Prop), RpE K w S H0 H σ ds → OkW K w S H n → (∀ (b : Bool) (H' : Hp) (n' : Nat), k b n' → Pres w H H' → OkW K w S H' n' → Q b H') → tt σ H Q
def WpA (K : PySem.W.Frag) (w : Option Addr) (ta : TA) (ds : List (Option D)) (n : Nat) (k : List D → Nat → Prop) : Prop :=
  ∀ (S : Addr → Bool) (H0 : Hp) (σ : St) (H : Hp) (Q : List V → Hp → Prop), RpE K w S H0 H σ ds → OkW K w S H n → (∀ (vs : List V) (H' : Hp) (es : List D) (n' : Nat), k es n' → Pres w H H' → OkW K w S H' n' → Rps K (cut S H') vs es → Q vs H') → ta σ H Q
def RD (K : PySem.W.Frag) (w : Option Addr) (r : R2) (d e : D) (n : Nat) (k : Kn) : Prop :=
  ∀ (S : Addr → Bool) (v u : V) (H : Hp) (Q : VK), Rp K (cut S H) v d → Rp K (cut S H) u e → OkW K w S H n → Po K w S H k Q → r v u H Q
def RU (K : PySem.W.Frag) (w : Option Addr) (r : V → Hp → VK → Prop) (d : D) (n : Nat) (k : Kn) : Prop :=
  ∀ (S : Addr → Bool) (v : V) (H : Hp) (Q : VK), Rp K (cut S H) v d → OkW K w S H n → Po K w S H k Q → r v H Q
/-- a call by values -/
def RC (K : PySem.W.Frag) (w : Option Addr) (r : List V → Hp → VK → Prop) (es : List D) (n : Nat) (k : Kn) : Prop :=
  ∀ (S : Addr → Bool) (vs : List V) (H : Hp) (Q : VK), Rps K (cut S H) vs es → OkW K w S H n → Po K w S H k Q → r vs H Q

section
variable {K : PySem.W.Frag} {w : Option Addr} {S : Addr → Bool} {H H0 H1 H2 H' : Hp} {n m : Nat} {σ : St} {ds : List (Option D)} {ta tb te : TE} {t u : TT} {tA tR : TA} {k k' : Kn} {d e : D}
theorem Po.from {Q : VK} (p : Po K w S H k Q) (h : Pres w H H') : Po K w S H' k Q := fun v H2 d n2 hk pr ok r => p v H2 d n2 hk (h.trans pr) ok r
theorem Po.imp {Q : VK} (p : Po K w S H k' Q) (h : ∀ d n, k d n → k' d n) : Po K w S H k Q := fun v H2 d n2 hk pr ok r => p v H2 d n2 (h _ _ hk) pr ok r
theorem WpE.imp (h : WpE K w te ds n k) (hk : ∀ d n, k d n → k' d n) : WpE K w te ds n k' := fun S H0 σ H Q r ok p => h S H0 σ H Q r ok (p.imp hk)
theorem e_var {i : Nat} (h : ds[i]? = some (some d)) (hk : k d n) (ho : isOwn d = false := by rfl) : WpE K w (tVar i) ds n k := fun S H0 σ H Q r ok p => by
  obtain ⟨v, h1, h2⟩ := r.get i d h ho
  exact ⟨v, h1, p v H d n hk Pres.refl ok h2⟩
theorem e_int {i : Int} (hk : k (.int i) n) : WpE K w (tC (.int i)) ds n k := fun S H0 σ H Q r ok p => p _ H _ n hk Pres.refl ok (.int i)
theorem e_str {i : Str} (hk : k (.str i) n) : WpE K w (tC (.str i)) ds n k := fun S H0 σ H Q r ok p => p _ H _ n hk Pres.refl ok (.str i)
theorem e_bl {i : Bool} (hk : k (.bl i) n) : WpE K w (tC (.bl i)) ds n k := fun S H0 σ H Q r ok p => p _ H _ n hk Pres.refl ok (.bl i)
theorem e_non (hk : k .non n) : WpE K w (tC .non) ds n k := fun S H0 σ H Q r ok p => p _ H _ n hk Pres.refl ok .non
theorem e_raw {v : V} (hk : k (.raw v) n) : WpE K w (tC v) ds n k := fun S H0 σ H Q r ok p => p _ H _ n hk Pres.refl ok (.raw v)
/-- a tuple of the module -/
theorem e_tupK {a : Addr} {xs : List V} {l : List D} (hT : SqT K (fun _ => none) a xs) (hx : Rps K (fun _ => none) xs l) (hk : k (.tup l) n) : WpE K w (tC (.ref a)) ds n k := fun S H0 σ H Q r ok p => by
  have e : Ex (fun _ => none) (cut S H) := fun _ _ h => by cases h
  exact p _ H _ n hk Pres.refl ok (.tup (Evl.ex_t e hT) (hx.mono e))
theorem e_op {r : R2} (h : WpE K w ta ds n fun d n1 => WpE K w tb ds n1 fun e n2 => RD K w r d e n2 k) : WpE K w (tOp r ta tb) ds n k := fun S H0 σ H Q re ok p =>
  h S H0 σ H _ re ok fun v H1 d n1 h1 p1 ok1 r1 => h1 S H0 σ H1 _ (re.up ok p1) ok1 fun u H2 e n2 h2 p2 ok2 r2 =>
    h2 S v u H2 Q (r1.mono (ex_cut ok1 p2)) r2 ok2 ((p.from p1).from p2)
theorem e_un {r : V → Hp → VK → Prop} (h : WpE K w ta ds n fun d n1 => RU K w r d n1 k) : WpE K w (tUn r ta) ds n k := fun S H0 σ H Q re ok p =>
  h S H0 σ H _ re ok fun v H1 d n1 h1 p1 ok1 r1 => h1 S v H1 Q r1 ok1 (p.from p1)
theorem a_nil {k : List D → Nat → Prop} (h : k [] n) : WpA K w tNil ds n k := fun S H0 σ H Q re ok p => p [] H [] n h Pres.refl ok .nil
theorem a_cons {k : List D → Nat → Prop} (h : WpE K w te ds n fun d n1 => WpA K w tR ds n1 fun es n2 => k (d :: es) n2) : WpA K w (tCons te tR) ds n k := fun S H0 σ H Q re ok p =>
  h S H0 σ H _ re ok fun v H1 d n1 h1 p1 ok1 r1 => h1 S H0 σ H1 _ (re.up ok p1) ok1 fun vs H2 es n2 h2 p2 ok2 r2 =>
    p (v :: vs) H2 (d :: es) n2 h2 (p1.trans p2) ok2 (.cons (r1.mono (ex_cut ok1 p2)) r2)
theorem e_tup (h : WpA K w tA ds n fun es n1 => es.length ≤ 100000 ∧ k (.tup es) n1) : WpE K w (tTup tA) ds n k := fun S H0 σ H Q re ok p =>
  h S H0 σ H _ re ok fun vs H1 es n1 h1 p1 ok1 r1 => ⟨Evl.sz_of (by rw [r1.length]; exact h1.1), fun q hq =>
    p _ _ _ n1 h1.2 (p1.trans (Pres.new hq)) (ok1.new hq) (.tup (SqT.of (cut_new ok1 hq)) (r1.mono (ex_cut ok1 (Pres.new hq))))⟩
theorem e_lst (h : WpA K w tA ds n fun es n1 => es.length ≤ 100000 ∧ k (.lst es) n1) : WpE K w (tLst tA) ds n k := fun S H0 σ H Q re ok p =>
  h S H0 σ H _ re ok fun vs H1 es n1 h1 p1 ok1 r1 => ⟨Evl.sz_of (by rw [r1.length]; exact h1.1), fun q hq =>
    p _ _ _ n1 h1.2 (p1.trans (Pres.new hq)) (ok1.new hq) (.lst (cut_new ok1 hq) (r1.mono (ex_cut ok1 (Pres.new hq))))⟩
theorem e_cb {r : List V → Hp → VK → Prop} (h : WpA K w tA ds n fun es n1 => RC K w r es n1 k) : WpE K w (tCB r tA) ds n k := fun S H0 σ H Q re ok p =>
  h S H0 σ H _ re ok fun vs H1 es n1 h1 p1 ok1 r1 => h1 S vs H1 Q r1 ok1 (p.from p1)
/-! tests -/
theorem t_test {k : Bool → Nat → Prop} (h : WpE K w te ds n fun d n1 => ∃ b, d = .bl b ∧ k b n1) : WpT K w (tTest te) ds n k := fun S H0 σ H Q re ok p =>
  h S H0 σ H _ re ok fun v H1 d n1 ⟨b, e, hk⟩ p1 ok1 r1 => by
    subst e; cases r1; exact ⟨b, rfl, p b H1 n1 hk p1 ok1⟩
theorem t_B {k : Bool → Nat → Prop} (h : WpE K w te ds n fun d n1 => ∃ b, d = .bl b ∧ k b n1) : WpT K w (tB te) ds n k := fun S H0 σ H Q re ok p =>
  h S H0 σ H _ re ok fun v H1 d n1 ⟨b, e, hk⟩ p1 ok1 r1 => by
    subst e; cases r1; exact ⟨b, rfl, p b H1 n1 hk p1 ok1⟩
theorem t_and {k : Bool → Nat → Prop} (h : WpT K w t ds n fun b n1 => (b = true → WpT K w u ds n1 k) ∧ (b = false → k false n1)) : WpT K w (tAnd t u) ds n k := fun S H0 σ H Q re ok p =>
  h S H0 σ H _ re ok fun b H1 n1 ⟨h1, h2⟩ p1 ok1 => by
    cases b with
    | true => exact h1 rfl S H0 σ H1 Q (re.up ok p1) ok1 fun b H2 n2 hk p2 ok2 => p b H2 n2 hk (p1.trans p2) ok2
    | false => exact p false H1 n1 (h2 rfl) p1 ok1
theorem t_or {k : Bool → Nat → Prop} (h : WpT K w t ds n fun b n1 => (b = true → k true n1) ∧ (b = false → WpT K w u ds n1 k)) : WpT K w (tOr t u) ds n k := fun S H0 σ H Q re ok p =>
  h S H0 σ H _ re ok fun b H1 n1 ⟨h1, h2⟩ p1 ok1 => by
    cases b with
    | false => exact h2 rfl S H0 σ H1 Q (re.up ok p1) ok1 fun b H2 n2 hk p2 ok2 => p b H2 n2 hk (p1.trans p2) ok2
    | true => exact p true H1 n1 (h1 rfl) p1 ok1
theorem t_not {k : Bool → Nat → Prop} (h : WpT K w t ds n fun b n1 => k (!b) n1) : WpT K w (tNot t) ds n k := fun S H0 σ H Q re ok p =>
  h S H0 σ H _ re ok fun b H1 n1 h1 p1 ok1 => p (!b) H1 n1 h1 p1 ok1
theorem e_andV (h : WpE K w ta ds n fun d n1 => ∃ b, d = .bl b ∧ (b = true → WpE K w tb ds n1 k) ∧ (b = false → k (.bl false) n1)) : WpE K w (tAndV ta tb) ds n k := fun S H0 σ H Q re ok p =>
  h S H0 σ H _ re ok fun v H1 d n1 ⟨b, e, h1, h2⟩ p1 ok1 r1 => by
    subst e; cases r1
    refine ⟨b, rfl, ?_⟩
    cases b with
    | true => exact h1 rfl S H0 σ H1 Q (re.up ok p1) ok1 (p.from p1)
    | false => exact p _ H1 _ n1 (h2 rfl) p1 ok1 (.bl false)
theorem e_orV (h : WpE K w ta ds n fun d n1 => ∃ b, d = .bl b ∧ (b = false → WpE K w tb ds n1 k) ∧ (b = true → k (.bl true) n1)) : WpE K w (tOrV ta tb) ds n k := fun S H0 σ H Q re ok p =>
  h S H0 σ H _ re ok fun v H1 d n1 ⟨b, e, h1, h2⟩ p1 ok1 r1 => by
    subst e; cases r1
    refine ⟨b, rfl, ?_⟩
    cases b with
    | false => exact h1 rfl S H0 σ H1 Q (re.up ok p1) ok1 (p.from p1)
    | true => exact p _ H1 _ n1 (h2 rfl) p1 ok1 (.bl true)
theorem e_notV (h : WpE K w ta ds n fun d n1 => ∃ b, d = .bl b ∧ k (.bl (!b)) n1) : WpE K w (tNotV ta) ds n k := fun S H0 σ H Q re ok p =>
  h S H0 σ H _ re ok fun v H1 d n1 ⟨b, e, h1⟩ p1 ok1 r1 => by
    subst e; cases r1
    exact ⟨b, rfl, p _ H1 _ n1 h1 p1 ok1 (.bl _)⟩
theorem e_if (h : WpT K w t ds n fun b n1 => (b = true → WpE K w ta ds n1 k) ∧ (b = false → WpE K w tb ds n1 k)) : WpE K w (tIf t ta tb) ds n k := fun S H0 σ H Q re ok p =>
  h S H0 σ H _ re ok fun b H1 n1 ⟨h1, h2⟩ p1 ok1 => by
    cases b with
    | true => exact h1 rfl S H0 σ H1 Q (re.up ok p1) ok1 (p.from p1)
    | false => exact h2 rfl S H0 σ H1 Q (re.up ok p1) ok1 (p.from p1)
end
end DW
set_option Elab.async false
set_option maxRecDepth 100000
set_option maxHeartbeats 4000000
set_option linter.all false
set_option autoImplicit false
namespace DW
open PySem L2

def addS (S : Addr → Bool) (p : Addr) : Addr → Bool := fun a => S a || decide (a = p)
theorem addS_of {S : Addr → Bool} {p a : Addr} (h : S a = true) : addS S p a = true := by unfold addS; rw [h]; rfl
theorem addS_same {S : Addr → Bool} {p : Addr} : addS S p p = true := by unfold addS; simp
theorem addS_ne {S : Addr → Bool} {p a : Addr} (h : addS S p a = true) (n : a ≠ p) : S a = true := by unfold addS at h; simpa [n] using h
theorem addS_or {S : Addr → Bool} {p a : Addr} (h : addS S p a = true) : S a = true ∨ a = p := by unfold addS at h; simpa using h

section
variable {K : PySem.W.Frag} {w : Option Addr} {S : Addr → Bool} {H H0 H1 H2 H' : Hp} {n m : Nat} {σ : St} {ds : List (Option D)}
/-- a new object at p that may change -/
theorem cut_addS {p : Addr} {o : HO} (hp : H p = none) : Ex (cut S H) (cut (addS S p) (upd H p o)) := fun a u e => by
  obtain ⟨h1, h2⟩ := cut_some e
  have ne : a ≠ p := ne_of_none h2 hp
  rw [cut_of (by unfold addS; simp [h1, ne]), upd_ne ne]
  exact h2
theorem cut_sub {S' : Addr → Bool} (h : ∀ a, S a = true → S' a = true) : Ex (cut S' H) (cut S H) := fun a u e => by
  obtain ⟨h1, h2⟩ := cut_some e
  rw [cut_of (by cases q : S a with
    | false => rfl
    | true => rw [h a q] at h1; cases h1)]
  exact h2
theorem cut_upd {p : Addr} {o : HO} (h : S p = true) : cut S (upd H p o) = cut S H := by
  funext a
  unfold cut
  by_cases e : a = p
  · subst e; rw [if_pos h, if_pos h]
  · rw [upd_ne e]
theorem OkW.addS (ok : OkW K w S H n) {p : Addr} {o : HO} (hp : H p = none) : OkW K w (DW.addS S p) (upd H p o) n := by
  refine ⟨fun q hq => ⟨addS_of (ok.1 q hq).1, ?_⟩, fun a h => ?_⟩
  · obtain ⟨c, ix, left, ns, h1, h2, h3⟩ := (ok.1 q hq).2
    exact ⟨c, ix, left, ns, by rw [upd_ne (ne_of_none h1 hp)]; exact h1, cut_addS hp _ _ h2, h3⟩
  · rcases addS_or h with h | h
    · obtain ⟨u, hu⟩ := ok.2 a h
      exact ⟨u, by rw [upd_ne (ne_of_none hu hp)]; exact hu⟩
    · subst h; exact ⟨o, upd_same⟩
/-- an object that may change, changed -/
theorem OkW.mut (ok : OkW K w S H n) {p : Addr} {o : HO} (hp : S p = true) (hw : w ≠ some p) : OkW K w S (upd H p o) n := by
  refine ⟨fun q hq => ⟨(ok.1 q hq).1, ?_⟩, fun a h => ?_⟩
  · obtain ⟨c, ix, left, ns, h1, h2, h3⟩ := (ok.1 q hq).2
    have ne : q ≠ p := fun e => hw (by rw [hq, e])
    exact ⟨c, ix, left, ns, by rw [upd_ne ne]; exact h1, by rw [cut_upd hp]; exact h2, h3⟩
  · by_cases e : a = p
    · subst e; exact ⟨o, upd_same⟩
    · obtain ⟨u, hu⟩ := ok.2 a h
      exact ⟨u, by rw [upd_ne e]; exact hu⟩
theorem OkW.less {S0 : Addr → Bool} (ok : OkW K w S H n) (hs : ∀ a, S0 a = true → S a = true) (hw : ∀ p, w = some p → S0 p = true) : OkW K w S0 H n := by
  refine ⟨fun q hq => ⟨hw q hq, ?_⟩, fun a h => ok.2 a (hs a h)⟩
  obtain ⟨c, ix, left, ns, h1, h2, h3⟩ := (ok.1 q hq).2
  exact ⟨c, ix, left, ns, h1, cut_sub hs _ _ h2, h3⟩
theorem RpE.set (r : RpE K w S H0 H σ ds) {i : Nat} {v : V} {d : D} (hv : Rp K (cut S H) v d) (ho : isOwn d = false) : RpE K w S H0 H (σ.set i (some v)) (ds.set i (some d)) where
  len := by simp [r.len]
  get := fun j e h o => by
    by_cases hj : i = j
    · subst hj
      by_cases hl : i < ds.length
      · rw [List.getElem?_set_self hl] at h
        cases h
        exact ⟨v, by rw [List.getElem?_set_self (by rw [r.len]; exact hl)], hv⟩
      · rw [List.getElem?_eq_none (by simpa using hl)] at h; cases h
    · rw [List.getElem?_set_ne hj] at h ⊢
      exact r.get j e h o
  own := fun j l h => by
    by_cases hj : i = j
    · subst hj
      by_cases hl : i < ds.length
      · rw [List.getElem?_set_self hl] at h
        cases h; cases ho
      · rw [List.getElem?_eq_none (by simpa using hl)] at h; cases h
    · rw [List.getElem?_set_ne hj] at h ⊢
      exact r.own j l h
  dis := fun j k l m a hjk h1 h2 => by
    have nj : i ≠ j := fun e => by
      subst e
      by_cases hl : i < ds.length
      · rw [List.getElem?_set_self hl] at h1; cases h1; cases ho
      · rw [List.getElem?_eq_none (by simpa using hl)] at h1; cases h1
    have nk : i ≠ k := fun e => by
      subst e
      by_cases hl : i < ds.length
      · rw [List.getElem?_set_self hl] at h2; cases h2; cases ho
      · rw [List.getElem?_eq_none (by simpa using hl)] at h2; cases h2
    rw [List.getElem?_set_ne nj] at h1 ⊢
    rw [List.getElem?_set_ne nk] at h2 ⊢
    exact r.dis j k l m a hjk h1 h2
/-- forgetting -/
theorem RpE.forget (r : RpE K w S H0 H σ ds) {ds' : List (Option D)} (hl : ds'.length = ds.length) (h : ∀ (i : Nat) (d : D), ds'[i]? = some (some d) → ds[i]? = some (some d)) : RpE K w S H0 H σ ds' where
  len := by rw [hl]; exact r.len
  get := fun i d e o => r.get i d (h i d e) o
  own := fun i l e => r.own i l (h _ _ e)
  dis := fun i j l m a hij h1 h2 => r.dis i j l m a hij (h _ _ h1) (h _ _ h2)
def dwipe (ds : List (Option D)) : List Nat → List (Option D)
  | [] => ds
  | v :: vs => (dwipe ds vs).set v none
theorem RpE.set0 (r : RpE K w S H0 H σ ds) (i : Nat) : RpE K w S H0 H (σ.set i none) (ds.set i none) := by
  have no : ∀ (j : Nat) (d : D), (ds.set i none)[j]? = some (some d) → i ≠ j ∧ ds[j]? = some (some d) := fun j d h => by
    by_cases hj : i = j
    · subst hj
      by_cases hl : i < ds.length
      · rw [List.getElem?_set_self hl] at h; cases h
      · rw [List.getElem?_eq_none (by simpa using hl)] at h; cases h
    · rw [List.getElem?_set_ne hj] at h
      exact ⟨hj, h⟩
  refine ⟨by simp [r.len], fun j d h o => ?_, fun j l h => ?_, fun j k l m a hjk h1 h2 => ?_⟩
  · obtain ⟨hj, h⟩ := no j d h
    rw [List.getElem?_set_ne hj]; exact r.get j d h o
  · obtain ⟨hj, h⟩ := no j _ h
    rw [List.getElem?_set_ne hj]; exact r.own j l h
  · obtain ⟨hj, h1⟩ := no j _ h1
    obtain ⟨hk, h2⟩ := no k _ h2
    rw [List.getElem?_set_ne hj, List.getElem?_set_ne hk]; exact r.dis j k l m a hjk h1 h2
theorem RpE.wipe (r : RpE K w S H0 H σ ds) : ∀ vs : List Nat, RpE K w S H0 H (L2.wipe σ vs) (dwipe ds vs)
  | [] => r
  | v :: vs => (RpE.wipe r vs).set0 v
theorem wipe_in {σ : St} {i : Nat} : ∀ {vs : List Nat}, i ∈ vs → i < σ.length → (L2.wipe σ vs)[i]? = some none
  | v :: vs, h, hl => by
    unfold L2.wipe
    by_cases e : v = i
    · subst e; rw [List.getElem?_set_self (by rw [wipe_length]; exact hl)]
    · rw [List.getElem?_set_ne e]
      rcases List.mem_cons.mp h with z | z
      · exact absurd z.symm e
      · exact wipe_in z hl
theorem wipe_set {σ : St} {i : Nat} {x : Option V} {vs : List Nat} (h : i ∈ vs) : L2.wipe (σ.set i x) vs = L2.wipe σ vs := by
  apply List.ext_getElem?
  intro j
  by_cases hj : j ∈ vs
  · by_cases hl : j < σ.length
    · rw [wipe_in hj hl, wipe_in hj (by simpa using hl)]
    · rw [List.getElem?_eq_none (by rw [wipe_length]; simpa using hl), List.getElem?_eq_none (by rw [wipe_length]; simpa using hl)]
  · rw [wipe_out hj, wipe_out hj, List.getElem?_set_ne (fun e => hj (by rw [← e]; exact h))]
theorem wipe_wipe {σ : St} {vs : List Nat} : L2.wipe (L2.wipe σ vs) vs = L2.wipe σ vs := by
  apply List.ext_getElem?
  intro j
  by_cases hj : j ∈ vs
  · by_cases hl : j < σ.length
    · rw [wipe_in hj hl, wipe_in hj (by rw [wipe_length]; exact hl)]
    · rw [List.getElem?_eq_none (by rw [wipe_length, wipe_length]; simpa using hl), List.getElem?_eq_none (by rw [wipe_length]; simpa using hl)]
  · rw [wipe_out hj]

/-! ### targets: names, tuples of such -/
/-- the store of d goes from ds to ds', within the slots vs -/
def GD (K : PySem.W.Frag) (w : Option Addr) (g : TG) (d : D) (ds ds' : List (Option D)) (vs : List Nat) : Prop :=
  ∀ (S : Addr → Bool) (H0 : Hp) (σ : St) (H : Hp) (v : V) (Q : St → Hp → Prop), RpE K w S H0 H σ ds → Rp K (cut S H) v d →
    (∀ σ', RpE K w S H0 H σ' ds' → (∀ us, (∀ i ∈ vs, i ∈ us) → L2.wipe σ' us = L2.wipe σ us) → Q σ' H) → g v σ H Q
def GDs (K : PySem.W.Frag) (w : Option Addr) (g : TGs) (es : List D) (ds ds' : List (Option D)) (vs : List Nat) : Prop :=
  ∀ (S : Addr → Bool) (H0 : Hp) (σ : St) (H : Hp) (xs : List V) (Q : St → Hp → Prop), RpE K w S H0 H σ ds → Rps K (cut S H) xs es →
    (∀ σ', RpE K w S H0 H σ' ds' → (∀ us, (∀ i ∈ vs, i ∈ us) → L2.wipe σ' us = L2.wipe σ us) → Q σ' H) → g xs σ H Q
theorem g_name {i : Nat} {d : D} (ho : isOwn d = false := by rfl) : GD K w (gName i) d ds (ds.set i (some d)) [i] := fun S H0 σ H v Q r hv k =>
  k _ (r.set hv ho) fun us h => wipe_set (h i (List.mem_singleton.mpr rfl))
theorem gs_nil : GDs K w gNil [] ds ds [] := fun S H0 σ H xs Q r hv k => by
  cases hv; exact ⟨rfl, k σ r fun _ _ => rfl⟩
theorem gs_cons {t : TG} {u : TGs} {d : D} {es : List D} {ds1 ds2 : List (Option D)} {vs us : List Nat} (h1 : GD K w t d ds ds1 vs) (h2 : GDs K w u es ds1 ds2 us) : GDs K w (gCons t u) (d :: es) ds ds2 (vs ++ us) := fun S H0 σ H xs Q r hv k => by
  cases hv with
  | cons a b => exact ⟨_, _, rfl, h1 S H0 σ H _ _ r a fun σ' r' w' => h2 S H0 σ' H _ _ r' b fun σ2 r2 w2 => k σ2 r2 fun zs hz =>
      (w2 zs fun i hi => hz i (List.mem_append_right _ hi)).trans (w' zs fun i hi => hz i (List.mem_append_left _ hi))⟩
theorem g_tup {u : TGs} {es : List D} {ds1 : List (Option D)} {vs : List Nat} {k : Nat} (h : GDs K w u es ds ds1 vs) (hl : es.length = k) : GD K w (gTup K k u) (.tup es) ds ds1 vs := fun S H0 σ H v Q r hv kk => by
  cases hv with
  | tup hT hx => exact ⟨_, _, rfl, Evl.ex_t (cut_ex S H) hT, by rw [hx.length]; exact hl, h S H0 σ H _ Q r hx kk⟩

/-! ### what is walked -/
def Wk (K : PySem.W.Frag) (Hk : Hp) (J : It) (items : List D) : Prop := ∀ (i : Nat) (H : Hp), Ex Hk H →
  (∀ d, items[i]? = some d → J.go i H ∧ ∀ x H', J.yld i H x H' → Ex H H' ∧ ∀ S : Addr → Bool, Ex Hk (cut S H) → (∀ a, S a = true → ∃ o, H a = some o) → Rp K (cut S H') x d) ∧ (items.length ≤ i → J.stop i H)
def WpI (K : PySem.W.Frag) (w : Option Addr) (wi : TI) (ds : List (Option D)) (n : Nat) (k : List D → Nat → Prop) : Prop :=
  ∀ (S : Addr → Bool) (H0 : Hp) (σ : St) (H : Hp) (R : It → Hp → Prop), RpE K w S H0 H σ ds → OkW K w S H n →
    (∀ (J : It) (H1 : Hp) (items : List D) (n1 : Nat), k items n1 → Pres w H H1 → OkW K w S H1 n1 → Wk K (cut S H1) J items → R J H1) → wi σ H R
theorem wk_list {a : Addr} {xs : List V} {l : List D} {Hk : Hp} (h : Hk a = some (.lst xs)) (r : Rps K Hk xs l) : Wk K Hk (Itl K a) l := fun i H e => by
  have hl := r.length
  have q : SqL K H a xs := SqL.of (e _ _ h)
  refine ⟨fun d hd => ?_, fun hi => ⟨xs, q, by omega⟩⟩
  obtain ⟨v, hv, rv⟩ := r.get hd
  refine ⟨⟨xs, v, q, hv⟩, fun x H' ⟨e1, e2⟩ => ?_⟩
  subst e1
  have := e2 xs q
  rw [hv] at this; cases this
  exact ⟨Evl.Ex.refl _, fun S e _ => rv.mono e⟩
theorem wk_tup {a : Addr} {xs : List V} {l : List D} {Hk : Hp} (h : SqT K Hk a xs) (r : Rps K Hk xs l) : Wk K Hk (Itt K a) l := fun i H e => by
  have hl := r.length
  have q : SqT K H a xs := Evl.ex_t e h
  refine ⟨fun d hd => ?_, fun hi => ⟨xs, q, by omega⟩⟩
  obtain ⟨v, hv, rv⟩ := r.get hd
  refine ⟨⟨xs, v, q, hv⟩, fun x H' ⟨e1, e2⟩ => ?_⟩
  subst e1
  have := e2 xs q
  rw [hv] at this; cases this
  exact ⟨Evl.Ex.refl _, fun S e _ => rv.mono e⟩
def rgD (lo : Int) (k : Nat) : List D := (List.range k).map fun i => D.int (lo + (i : Nat))
theorem rgD_len {lo : Int} {k : Nat} : (rgD lo k).length = k := by unfold rgD; simp
theorem rgD_get {lo : Int} {k i : Nat} {d : D} (h : (rgD lo k)[i]? = some d) : i < k ∧ d = .int (lo + (i : Nat)) := by
  unfold rgD at h
  rw [List.getElem?_map] at h
  by_cases hi : i < k
  · rw [List.getElem?_range hi] at h; cases h; exact ⟨hi, rfl⟩
  · rw [List.getElem?_eq_none (by simpa using hi)] at h; cases h
theorem wk_rng {lo : Int} {k : Nat} {Hk : Hp} : Wk K Hk (Itr lo k) (rgD lo k) := fun i H e => by
  refine ⟨fun d hd => ?_, fun hi => by rw [rgD_len] at hi; exact hi⟩
  obtain ⟨h1, h2⟩ := rgD_get hd
  subst h2
  exact ⟨h1, fun x H' ⟨e1, e2⟩ => by subst e1 e2; exact ⟨Evl.Ex.refl _, fun S e _ => .int _⟩⟩
/-- over a list or a tuple -/
def iSeq (K : PySem.W.Frag) (tl : TE) : TI := fun σ H R => iList K tl σ H R ∨ iTup K tl σ H R
theorem pi_seq {X : Cx} {tg l : Expr} {tl : TE} (hl : PE X l tl) : PI X tg l (iSeq X.K tl) := ⟨fun pins s σ H R I h => by
  rcases h with h | h
  · exact (pi_list hl).run pins s σ H R I h
  · exact (pi_tup hl).run pins s σ H R I h⟩
theorem i_list {tl : TE} {k : List D → Nat → Prop} (h : WpE K w tl ds n fun d n1 => ∃ l, d = .lst l ∧ k l n1) : WpI K w (iSeq K tl) ds n k := fun S H0 σ H R re ok p =>
  .inl (h S H0 σ H _ re ok fun v H1 d n1 ⟨l, e, hk⟩ p1 ok1 r1 => by
    subst e
    cases r1 with
    | lst hL hx => exact ⟨_, rfl, ⟨_, SqL.of (cut_some hL).2⟩, p _ H1 l n1 hk p1 ok1 (wk_list hL hx)⟩)
theorem i_tup {tl : TE} {k : List D → Nat → Prop} (h : WpE K w tl ds n fun d n1 => ∃ l, d = .tup l ∧ k l n1) : WpI K w (iSeq K tl) ds n k := fun S H0 σ H R re ok p =>
  .inr (h S H0 σ H _ re ok fun v H1 d n1 ⟨l, e, hk⟩ p1 ok1 r1 => by
    subst e
    cases r1 with
    | tup hL hx => exact ⟨_, rfl, ⟨_, Evl.ex_t (cut_ex S H1) hL⟩, p _ H1 l n1 hk p1 ok1 (wk_tup hL hx)⟩)
theorem i_rng1 {ta : TA} {k : List D → Nat → Prop} (h : WpA K w ta ds n fun es n1 => ∃ j : Int, es = [.int j] ∧ -(2 ^ 62) ≤ j ∧ j < 2 ^ 62 ∧ k (rgD 0 j.toNat) n1) : WpI K w (iRng1 ta) ds n k := fun S H0 σ H R re ok p =>
  h S H0 σ H _ re ok fun vs H1 es n1 ⟨j, e, h1, h2, hk⟩ p1 ok1 r1 => by
    subst e
    cases r1 with
    | cons a b => cases a; cases b; exact ⟨j, rfl, h1, h2, p _ H1 _ n1 hk p1 ok1 wk_rng⟩
theorem i_rng2 {ta : TA} {k : List D → Nat → Prop} (h : WpA K w ta ds n fun es n1 => ∃ i j : Int, es = [.int i, .int j] ∧ (-(2 ^ 62) ≤ i ∧ i < 2 ^ 62 ∧ -(2 ^ 62) ≤ j ∧ j < 2 ^ 62) ∧ k (rgD i (j - i).toNat) n1) : WpI K w (iRng2 ta) ds n k := fun S H0 σ H R re ok p =>
  h S H0 σ H _ re ok fun vs H1 es n1 ⟨i, j, e, h1, hk⟩ p1 ok1 r1 => by
    subst e
    cases r1 with
    | cons a b =>
      cases a
      cases b with
      | cons a b => cases a; cases b; exact ⟨i, j, rfl, h1, p _ H1 _ n1 hk p1 ok1 wk_rng⟩
theorem wk_zip {a b : Addr} {xs ys : List V} {l m : List D} {Hk : Hp} (ha : Hk a = some (.lst xs)) (hb : Hk b = some (.lst ys)) (r : Rps K Hk xs l) (q : Rps K Hk ys m) :
    Wk K Hk (Itz K a b) ((l.zip m).map fun p => D.tup [p.1, p.2]) := fun i H e => by
  have hl := r.length
  have hm := q.length
  have qa : SqL K H a xs := SqL.of (e _ _ ha)
  have qb : SqL K H b ys := SqL.of (e _ _ hb)
  refine ⟨fun d hd => ?_, fun hi => ⟨xs, ys, qa, qb, by simp at hi; omega⟩⟩
  rw [List.getElem?_map] at hd
  obtain ⟨⟨d1, d2⟩, h1, h2⟩ := Option.map_eq_some_iff.mp hd
  subst h2
  obtain ⟨h3, h4⟩ := List.getElem?_zip_eq_some.mp h1
  obtain ⟨v, hv, rv⟩ := r.get h3
  obtain ⟨u, hu, ru⟩ := q.get h4
  refine ⟨⟨xs, ys, v, u, qa, qb, hv, hu⟩, fun x H' ⟨T, x', y', e1, e2, e3, e4, e5⟩ => ?_⟩
  have z1 := e4 xs qa
  rw [hv] at z1; cases z1
  have z2 := e5 ys qb
  rw [hu] at z2; cases z2
  subst e1 e3
  refine ⟨Evl.Ex.new e2, fun S e hS => ?_⟩
  have hT : S T = false := by
    cases z : S T with
    | false => rfl
    | true => obtain ⟨o, ho⟩ := hS T z; rw [e2] at ho; cases ho
  have e' : Ex Hk (cut S (upd H T (.tup [v, u]))) := fun b o hb' => by
    obtain ⟨g1, g2⟩ := cut_some (e b o hb')
    rw [cut_of g1, upd_ne (ne_of_none g2 e2)]; exact g2
  exact .tup (SqT.of (by rw [cut_of hT, upd_same])) (.cons (rv.mono e') (.cons (ru.mono e') .nil))
theorem i_zip {ta : TA} {k : List D → Nat → Prop} (h : WpA K w ta ds n fun es n1 => ∃ l m, es = [.lst l, .lst m] ∧ k ((l.zip m).map fun p => D.tup [p.1, p.2]) n1) : WpI K w (iZip K ta) ds n k := fun S H0 σ H R re ok p =>
  h S H0 σ H _ re ok fun vs H1 es n1 ⟨l, m, e, hk⟩ p1 ok1 r1 => by
    subst e
    cases r1 with
    | cons a b =>
      cases a with
      | lst hL hx =>
        cases b with
        | cons a b =>
          cases b
          cases a with
          | lst hM hy => exact ⟨_, _, _, _, rfl, SqL.of (cut_some hL).2, SqL.of (cut_some hM).2, p _ H1 _ n1 hk p1 ok1 (wk_zip hL hM hx hy)⟩

/-! ### new lists that may be changed later -/
def WpF (K : PySem.W.Frag) (w : Option Addr) (te : TE) (ds : List (Option D)) (n : Nat) (k : List D → Nat → Prop) : Prop :=
  ∀ (S : Addr → Bool) (H0 : Hp) (σ : St) (H : Hp) (Q : VK), RpE K w S H0 H σ ds → OkW K w S H n →
    (∀ (a : Addr) (H' : Hp) (xs : List V) (l : List D) (n' : Nat), k l n' → H a = none → Pres w H H' → OkW K w (addS S a) H' n' → H' a = some (.lst xs) → Rps K (cut (addS S a) H') xs l → Q (.ref a) H') → te σ H Q
theorem WpF.toE {te : TE} {k : Kn} (h : WpF K w te ds n fun l n1 => k (.lst l) n1) : WpE K w te ds n k := fun S H0 σ H Q re ok p =>
  h S H0 σ H Q re ok fun a H' xs l n' hk ha pr ok' hl hx => by
    have hsub : ∀ b, S b = true → addS S a b = true := fun b hb => addS_of hb
    have okS : OkW K w S H' n' := ok'.less hsub fun q hq => (ok.1 q hq).1
    exact p _ _ _ n' hk pr okS (.lst (by rw [cut_of (ok.fresh ha)]; exact hl) (hx.mono (cut_sub hsub)))
theorem f_lst {tA : TA} {k : List D → Nat → Prop} (h : WpA K w tA ds n fun es n1 => es.length ≤ 100000 ∧ k es n1) : WpF K w (tLst tA) ds n k := fun S H0 σ H Q re ok p =>
  h S H0 σ H _ re ok fun vs H1 es n1 h1 p1 ok1 r1 => ⟨Evl.sz_of (by rw [r1.length]; exact h1.1), fun q hq => by
    have hq0 : H q = none := by
      cases z : H q with
      | none => rfl
      | some o =>
        by_cases e : w = some q
        · obtain ⟨c, ix, left, ns, h1, _⟩ := (ok1.1 q e).2
          rw [hq] at h1; cases h1
        · rw [p1 q o e z] at hq; cases hq
    exact p q _ vs es n1 h1.2 hq0 (p1.trans (Pres.new hq)) (ok1.addS hq) upd_same (r1.mono (cut_addS hq))⟩
theorem f_lc {wi : TI} {g : TG} {tt : TT} {te : TE} {vs : List Nat} {k : List D → Nat → Prop}
    (h : WpI K w wi ds n fun items n1 => items.length ≤ 100000 ∧ ∃ I : Nat → List D → Nat → Prop, I 0 [] n1 ∧
      (∀ i x acc n', items[i]? = some x → I i acc n' → ∃ ds', GD K w g x (dwipe ds vs) ds' vs ∧ WpT K w tt ds' n' fun b n2 => (b = true → WpE K w te ds' n2 fun d n3 => I (i + 1) (acc ++ [d]) n3) ∧ (b = false → I (i + 1) acc n2)) ∧
      ∀ acc n', I items.length acc n' → k acc n') : WpF K w (tLc wi g tt te vs) ds n k := fun S H0 σ H Q re ok p =>
  h S H0 σ H _ re ok fun J H1 items n1 ⟨hz, I, hI0, hs, hd⟩ p1 ok1 hwk => fun Dl hD => by
    have hq0 : H Dl = none := by
      cases z : H Dl with
      | none => rfl
      | some o =>
        by_cases e : w = some Dl
        · obtain ⟨c, ix, left, ns, h1, _⟩ := (ok1.1 Dl e).2
          rw [hD] at h1; cases h1
        · rw [p1 Dl o e z] at hD; cases hD
    have hwD : w ≠ some Dl := ok1.w_ne (ok1.fresh hD)
    have re1 : RpE K w S H0 H1 σ ds := re.up ok p1
    -- the block's frame over any later heap
    have reU : ∀ (H3 : Hp), (∀ a o, a ≠ Dl → w ≠ some a → H1 a = some o → H3 a = some o) → RpE K w (addS S Dl) H0 H3 (L2.wipe σ vs) (dwipe ds vs) := fun H3 hp => by
      have ex : Ex (cut S H1) (cut (addS S Dl) H3) := fun a o e => by
        obtain ⟨g1, g2⟩ := cut_some e
        have ne : a ≠ Dl := ne_of_none g2 hD
        rw [cut_of (by unfold addS; simp [g1, ne])]
        exact hp a o ne (ok1.w_ne g1) g2
      refine RpE.wipe ⟨re1.len, fun i d e o => ?_, fun i l e => ?_, re1.dis⟩ vs
      · obtain ⟨v, h1, h2⟩ := re1.get i d e o
        exact ⟨v, h1, h2.mono ex⟩
      · obtain ⟨a, xs, h1, h2, h3, h0, h4, h5⟩ := re1.own i l e
        exact ⟨a, xs, h1, addS_of h2, h3, h0, hp a _ (ne_of_none h4 hD) h3 h4, h5.mono ex⟩
    let W : Nat → Hp → Prop := fun i H3 => ∃ acc n' ys, I i acc n' ∧ acc.length ≤ i ∧ (∀ a o, a ≠ Dl → w ≠ some a → H1 a = some o → H3 a = some o) ∧ OkW K w (addS S Dl) H3 n' ∧ H3 Dl = some (.lst ys) ∧ Rps K (cut (addS S Dl) H3) ys acc
    refine ⟨fun i m H3 => m = items.length - i ∧ i ≤ items.length ∧ W i H3, ⟨items.length, by simp, Nat.zero_le _, [], n1, [], hI0, Nat.le_refl _, fun a o ne _ e => by rw [upd_ne ne]; exact e, ok1.addS hD, upd_same, .nil⟩, ?_⟩
    rintro i m H3 ⟨rfl, hi, acc, n', ys, hI, hal, hp, ok3, hl3, hy⟩
    have exk : Ex (cut S H1) (cut (addS S Dl) H3) := fun a o e => by
      obtain ⟨g1, g2⟩ := cut_some e
      have ne : a ≠ Dl := ne_of_none g2 hD
      rw [cut_of (by unfold addS; simp [g1, ne])]
      exact hp a o ne (ok1.w_ne g1) g2
    have exk' : Ex (cut S H1) H3 := exk.trans (cut_ex _ _)
    obtain ⟨wgo, wst⟩ := hwk i H3 exk'
    by_cases hlt : i < items.length
    · refine .inr ?_
      obtain ⟨go, yl⟩ := wgo items[i] (by simp [hlt])
      refine ⟨go, W (i + 1), fun H' p' => ⟨items.length - (i + 1), by omega, rfl, hlt, p'⟩, fun x H4 hx => ?_⟩
      obtain ⟨e4, rx⟩ := yl x H4 hx
      have rx' := rx (addS S Dl) exk ok3.2
      have hp4 : ∀ a o, a ≠ Dl → w ≠ some a → H1 a = some o → H4 a = some o := fun a o ne hw e => e4 a o (hp a o ne hw e)
      have ok4 : OkW K w (addS S Dl) H4 n' := ok3.ex e4
      obtain ⟨ds', hg, ht⟩ := hs i items[i] acc n' (by simp [hlt]) hI
      refine hg (addS S Dl) H0 _ H4 x _ (reU H4 hp4) rx' fun σ' r' hw' => ?_
      refine ⟨by rw [hw' vs fun i hi => hi, wipe_wipe], ?_⟩
      refine ht (addS S Dl) H0 σ' H4 _ r' ok4 fun b H5 n5 ⟨hb1, hb2⟩ p5 ok5 => ?_
      have hp5 : ∀ a o, a ≠ Dl → w ≠ some a → H1 a = some o → H5 a = some o := fun a o ne hw e => p5 a o hw (hp4 a o ne hw e)
      have e45 : Ex (cut (addS S Dl) H3) (cut (addS S Dl) H5) := (ex_cut ok3 (Pres.of e4)).trans (ex_cut ok4 p5)
      have hl5 : H5 Dl = some (.lst ys) := p5 _ _ hwD (e4 _ _ hl3)
      cases b with
      | false =>
        show W (i + 1) H5
        exact ⟨acc, n5, ys, hb2 rfl, by omega, hp5, ok5, hl5, hy.mono e45⟩
      | true =>
        refine hb1 rfl (addS S Dl) H0 σ' H5 _ (r'.up ok4 p5) ok5 fun y H6 d n6 hk p6 ok6 r6 => ?_
        have hl6 : H6 Dl = some (.lst ys) := p6 _ _ hwD hl5
        have hyl := hy.length
        refine ⟨ys, hl6, Evl.sz_lt (by omega), acc ++ [d], n6, ys ++ [y], hk, by simp; omega, fun a o ne hw e => by rw [upd_ne ne]; exact p6 a o hw (hp5 a o ne hw e), ok6.mut addS_same hwD, upd_same, ?_⟩
        rw [cut_upd addS_same]
        exact (hy.mono (e45.trans (ex_cut ok5 p6))).append (.cons r6 .nil)
    · have e : i = items.length := by omega
      subst e
      refine .inl ⟨wst (Nat.le_refl _), ?_⟩
      refine p Dl H3 ys acc n' (hd acc n' hI) hq0 (fun a o hw e => ?_) ok3 hl3 hy
      have ne : a ≠ Dl := ne_of_none e hq0
      exact hp a o ne hw (p1 a o hw e)
end
end DW
set_option Elab.async false
set_option maxRecDepth 100000
set_option maxHeartbeats 4000000
set_option linter.all false
set_option autoImplicit false
namespace DW
open PySem L2

/-! ### statements -/
abbrev Kd := List (Option D) → Nat → Prop
structure KS where
  nx : Kd
  rt : Kn
  bk : Kd := fun _ _ => False
  ct : Kd := fun _ _ => False
structure Base (w : Option Addr) (K : PySem.W.Frag) (S0 : Addr → Bool) (H0 : Hp) (S : Addr → Bool) (H : Hp) (n : Nat) : Prop where
  pres : Pres w H0 H
  ok : OkW K w S H n
  sub : ∀ a, S0 a = true → S a = true
  new : ∀ a, S a = true → S0 a = true ∨ H0 a = none
  pen : ∀ p, w = some p → S0 p = true
  old : ∀ a, S0 a = true → ∃ o, H0 a = some o
def EndOk (w : Option Addr) (K : PySem.W.Frag) (S0 : Addr → Bool) (H0 : Hp) (S : Addr → Bool) (H : Hp) (q : St → Hp → Prop) (k : Kd) : Prop :=
  ∀ (S' : Addr → Bool) (σ' : St) (H' : Hp) (ds' : List (Option D)) (n' : Nat), k ds' n' → Base w K S0 H0 S' H' n' → RpE K w S' H0 H' σ' ds' → Ex (cut S H) (cut S' H') → q σ' H'
def RtOk (w : Option Addr) (K : PySem.W.Frag) (S0 : Addr → Bool) (H0 : Hp) (q : VK) (k : Kn) : Prop :=
  ∀ (v : V) (H' : Hp) (d : D) (n' : Nat), k d n' → Pres w H0 H' → OkW K w S0 H' n' → Rp K (cut S0 H') v d → q v H'
structure Ends4 (w : Option Addr) (K : PySem.W.Frag) (S0 : Addr → Bool) (H0 : Hp) (S : Addr → Bool) (H : Hp) (E : Ends) (k : KS) : Prop where
  nx : EndOk w K S0 H0 S H E.nx k.nx
  rt : RtOk w K S0 H0 E.rt k.rt
  bk : EndOk w K S0 H0 S H E.bk k.bk
  ct : EndOk w K S0 H0 S H E.ct k.ct
def WpS (K : PySem.W.Frag) (w : Option Addr) (t : TS) (ds : List (Option D)) (n : Nat) (k : KS) : Prop :=
  ∀ (S0 : Addr → Bool) (H0 : Hp) (S : Addr → Bool) (σ : St) (H : Hp) (E : Ends), Base w K S0 H0 S H n → RpE K w S H0 H σ ds → Ends4 w K S0 H0 S H E k → t E σ H

section
variable {K : PySem.W.Frag} {w : Option Addr} {S S0 S1 : Addr → Bool} {H H0 H1 H2 H' : Hp} {n m : Nat} {σ : St} {ds : List (Option D)} {ta tb te : TE} {t u : TS} {c : TT} {tA : TA} {k : KS} {E : Ends}
theorem Base.up (b : Base w K S0 H0 S H n) (p : Pres w H H1) (ok : OkW K w S H1 m) : Base w K S0 H0 S H1 m := ⟨b.pres.trans p, ok, b.sub, b.new, b.pen, b.old⟩
theorem EndOk.from {q : St → Hp → Prop} {kd : Kd} (h : EndOk w K S0 H0 S H q kd) (e : Ex (cut S H) (cut S1 H1)) : EndOk w K S0 H0 S1 H1 q kd := fun S' σ' H' ds' n' hk b r e' => h S' σ' H' ds' n' hk b r (e.trans e')
theorem Ends4.from (h : Ends4 w K S0 H0 S H E k) (e : Ex (cut S H) (cut S1 H1)) : Ends4 w K S0 H0 S1 H1 E k := ⟨h.nx.from e, h.rt, h.bk.from e, h.ct.from e⟩
theorem WpS.imp {k' : KS} (h : WpS K w t ds n k) (h1 : ∀ ds n, k.nx ds n → k'.nx ds n) (h2 : ∀ d n, k.rt d n → k'.rt d n) (h3 : ∀ ds n, k.bk ds n → k'.bk ds n) (h4 : ∀ ds n, k.ct ds n → k'.ct ds n) : WpS K w t ds n k' :=
  fun S0 H0 S σ H E b r e => h S0 H0 S σ H E b r ⟨fun S' σ' H' ds' n' hk => e.nx S' σ' H' ds' n' (h1 _ _ hk), fun v H' d n' hk => e.rt v H' d n' (h2 _ _ hk), fun S' σ' H' ds' n' hk => e.bk S' σ' H' ds' n' (h3 _ _ hk), fun S' σ' H' ds' n' hk => e.ct S' σ' H' ds' n' (h4 _ _ hk)⟩
theorem s_seq (h : WpS K w t ds n { k with nx := fun ds' n' => WpS K w u ds' n' k }) : WpS K w (tSeq t u) ds n k := fun S0 H0 S σ H E b r e =>
  h S0 H0 S σ H _ b r ⟨fun S' σ' H' ds' n' hk b' r' e' => hk S0 H0 S' σ' H' E b' r' (e.from e'), e.rt, e.bk, e.ct⟩
theorem s_next (h : k.nx ds n) : WpS K w tNext ds n k := fun S0 H0 S σ H E b r e => e.nx S σ H ds n h b r (Evl.Ex.refl _)
theorem s_brk (h : k.bk ds n) : WpS K w tBreak ds n k := fun S0 H0 S σ H E b r e => e.bk S σ H ds n h b r (Evl.Ex.refl _)
theorem s_cont (h : k.ct ds n) : WpS K w tCont ds n k := fun S0 H0 S σ H E b r e => e.ct S σ H ds n h b r (Evl.Ex.refl _)
theorem s_never (h : False) : WpS K w tNever ds n k := h.elim
theorem s_if (h : WpT K w c ds n fun b n1 => (b = true → WpS K w t ds n1 k) ∧ (b = false → WpS K w u ds n1 k)) : WpS K w (tIfS c t u) ds n k := fun S0 H0 S σ H E b r e =>
  h S H0 σ H _ r b.ok fun x H1 n1 ⟨h1, h2⟩ p1 ok1 => by
    have e1 := ex_cut b.ok p1
    cases x with
    | true => exact h1 rfl S0 H0 S σ H1 E (b.up p1 ok1) (r.up b.ok p1) (e.from e1)
    | false => exact h2 rfl S0 H0 S σ H1 E (b.up p1 ok1) (r.up b.ok p1) (e.from e1)
/-- target = value -/
theorem s_asg {g : TG} (h : WpE K w te ds n fun d n1 => ∃ ds' vs, GD K w g d ds ds' vs ∧ k.nx ds' n1) : WpS K w (tAsg te g) ds n k := fun S0 H0 S σ H E b r e =>
  h S H0 σ H _ r b.ok fun v H1 d n1 ⟨ds', vs, hg, hk⟩ p1 ok1 r1 => hg S H0 σ H1 v _ (r.up b.ok p1) r1 fun σ' r' _ =>
    e.nx S σ' H1 ds' n1 hk (b.up p1 ok1) r' (ex_cut b.ok p1)
/-- name = value -/
theorem s_set {i : Nat} (h : WpE K w te ds n fun d n1 => isOwn d = false ∧ k.nx (ds.set i (some d)) n1) : WpS K w (tAsg te (gName i)) ds n k :=
  s_asg (h.imp fun d n1 ⟨h1, h2⟩ => ⟨_, _, g_name h1, h2⟩)
/-- name = a new list, that may be changed -/
theorem s_own {i : Nat} (h : WpF K w te ds n fun l n1 => k.nx (ds.set i (some (.own l))) n1) : WpS K w (tAsg te (gName i)) ds n k := fun S0 H0 S σ H E b r e =>
  h S H0 σ H _ r b.ok fun a H1 xs l n1 hk ha p1 ok1 hl hx => by
    have ex1 : Ex (cut S H) (cut (addS S a) H1) := fun c o z => by
      obtain ⟨g1, g2⟩ := cut_some z
      have ne : c ≠ a := ne_of_none g2 ha
      rw [cut_of (by unfold addS; simp [g1, ne])]
      exact p1 c o (b.ok.w_ne g1) g2
    have hw : w ≠ some a := b.ok.w_ne (b.ok.fresh ha)
    have h0 : H0 a = none := by
      cases z : H0 a with
      | none => rfl
      | some o => rw [b.pres a o hw z] at ha; cases ha
    have notr : ∀ (j : Nat), ds[j]? ≠ none → True := fun _ _ => trivial
    have ro : ∀ (j : Nat) (m : List D), ds[j]? = some (some (.own m)) → σ[j]? ≠ some (some (.ref a)) := fun j m hj q => by
      obtain ⟨c, ys, g1, _, _, _, g4, _⟩ := r.own j m hj
      rw [g1] at q; cases q
      rw [ha] at g4; cases g4
    refine e.nx (addS S a) _ H1 _ n1 hk ⟨b.pres.trans p1, ok1, fun c hc => addS_of (b.sub c hc), fun c hc => ?_, b.pen, b.old⟩ ?_ ex1
    · rcases addS_or hc with z | z
      · exact b.new c z
      · subst z; exact .inr h0
    · refine ⟨by simp [r.len], fun j d hj o => ?_, fun j m hj => ?_, fun j q l1 l2 c hjq h1 h2 h3 => ?_⟩
      · by_cases hij : i = j
        · subst hij
          by_cases hlt : i < ds.length
          · rw [List.getElem?_set_self hlt] at hj; cases hj; cases o
          · rw [List.getElem?_eq_none (by simpa using hlt)] at hj; cases hj
        · rw [List.getElem?_set_ne hij] at hj ⊢
          obtain ⟨v, g1, g2⟩ := r.get j d hj o
          exact ⟨v, g1, g2.mono ex1⟩
      · by_cases hij : i = j
        · subst hij
          by_cases hlt : i < ds.length
          · rw [List.getElem?_set_self hlt] at hj; cases hj
            exact ⟨a, xs, by rw [List.getElem?_set_self (by rw [r.len]; exact hlt)], addS_same, hw, h0, hl, hx⟩
          · rw [List.getElem?_eq_none (by simpa using hlt)] at hj; cases hj
        · rw [List.getElem?_set_ne hij] at hj ⊢
          obtain ⟨c, ys, g1, g2, g3, g0, g4, g5⟩ := r.own j m hj
          exact ⟨c, ys, g1, addS_of g2, g3, g0, p1 c _ g3 g4, g5.mono ex1⟩
      · by_cases hij : i = j
        · subst hij
          have hiq : i ≠ q := hjq
          rw [List.getElem?_set_ne hiq] at h2 ⊢
          by_cases hlt : i < ds.length
          · rw [List.getElem?_set_self (by rw [r.len]; exact hlt)] at h3
            cases h3
            exact ro q l2 h2
          · rw [List.getElem?_eq_none (by simpa using hlt)] at h1; cases h1
        · rw [List.getElem?_set_ne hij] at h1 h3
          by_cases hiq : i = q
          · subst hiq
            by_cases hlt : i < σ.length
            · rw [List.getElem?_set_self hlt]
              intro z
              cases z
              exact ro j l1 h1 h3
            · rw [List.getElem?_eq_none (by simpa using hlt)]
              intro z; cases z
          · rw [List.getElem?_set_ne hiq] at h2 ⊢
            exact r.dis j q l1 l2 c hjq h1 h2 h3
theorem s_ret (h : WpE K w te ds n k.rt) : WpS K w (tRet te) ds n k := fun S0 H0 S σ H E b r e =>
  h S H0 σ H _ r b.ok fun v H1 d n1 hk p1 ok1 r1 => e.rt v H1 d n1 hk (b.pres.trans p1) (ok1.less b.sub b.pen) (r1.mono (cut_sub b.sub))
theorem s_retN (h : k.rt .non n) : WpS K w tRetN ds n k := fun S0 H0 S σ H E b r e => e.rt .non H .non n h b.pres (b.ok.less b.sub b.pen) .non
/-- return of a list of one's own -/
theorem s_retOwn {i : Nat} {l : List D} (hi : ds[i]? = some (some (.own l))) (h : k.rt (.lst l) n) : WpS K w (tRet (tVar i)) ds n k := fun S0 H0 S σ H E b r e => by
  obtain ⟨a, xs, h1, h2, h3, h4, h5, h6⟩ := r.own i l hi
  refine ⟨.ref a, h1, e.rt _ H _ n h b.pres (b.ok.less b.sub b.pen) (.lst ?_ (h6.mono (cut_sub b.sub)))⟩
  have z : S0 a = false := by
    cases q : S0 a with
    | false => rfl
    | true =>
      obtain ⟨o, z⟩ := b.old a q
      rw [h4] at z; cases z
  rw [cut_of z]; exact h5
theorem s_drop (h : WpE K w te ds n fun _ n1 => k.nx ds n1) : WpS K w (tDrop te) ds n k := fun S0 H0 S σ H E b r e =>
  h S H0 σ H _ r b.ok fun v H1 d n1 hk p1 ok1 r1 => e.nx S σ H1 ds n1 hk (b.up p1 ok1) (r.up b.ok p1) (ex_cut b.ok p1)
/-- a, b = x, y -/
theorem s_par {i j : Nat} (h : WpA K w tA ds n fun es n1 => ∃ d e, es = [d, e] ∧ isOwn d = false ∧ isOwn e = false ∧ k.nx ((ds.set i (some d)).set j (some e)) n1) : WpS K w (tPar i j tA) ds n k := fun S0 H0 S σ H E b r e =>
  h S H0 σ H _ r b.ok fun vs H1 es n1 ⟨d, d', ee, o1, o2, hk⟩ p1 ok1 r1 => by
    subst ee
    cases r1 with
    | cons a b' =>
      cases b' with
      | cons a' b' =>
        cases b'
        exact ⟨_, _, rfl, e.nx S _ H1 _ n1 hk (b.up p1 ok1) (((r.up b.ok p1).set a o1).set a' o2) (ex_cut b.ok p1)⟩
/-! a list of one's own, changed -/
theorem RpE.mutOwn (r : RpE K w S H0 H σ ds) {i : Nat} {l l' : List D} {a : Addr} {xs' : List V} (hi : ds[i]? = some (some (.own l))) (ha : σ[i]? = some (some (.ref a))) (hx : Rps K (cut S H) xs' l') :
    RpE K w S H0 (upd H a (.lst xs')) σ (ds.set i (some (.own l'))) := by
  obtain ⟨a', xs, h1, h2, h3, h4, h5, h6⟩ := r.own i l hi
  rw [ha] at h1; cases h1
  have hlt : i < ds.length := by
    rcases Nat.lt_or_ge i ds.length with z | z
    · exact z
    · rw [List.getElem?_eq_none z] at hi; cases hi
  refine ⟨by simp [r.len], fun j d hj o => ?_, fun j m hj => ?_, fun j q l1 l2 c hjq g1 g2 g3 => ?_⟩
  · by_cases hij : i = j
    · subst hij; rw [List.getElem?_set_self hlt] at hj; cases hj; cases o
    · rw [List.getElem?_set_ne hij] at hj
      rw [cut_upd h2]
      exact r.get j d hj o
  · rw [cut_upd h2]
    by_cases hij : i = j
    · subst hij; rw [List.getElem?_set_self hlt] at hj; cases hj
      exact ⟨a, xs', ha, h2, h3, h4, upd_same, hx⟩
    · rw [List.getElem?_set_ne hij] at hj
      obtain ⟨c, ys, g1, g2, g3, g4, g5, g6⟩ := r.own j m hj
      refine ⟨c, ys, g1, g2, g3, g4, ?_, g6⟩
      rw [upd_ne]; · exact g5
      intro z
      subst z
      exact r.dis i j l m c hij hi hj ha g1
  · have back : ∀ (j : Nat) (m : List D), (ds.set i (some (.own l')))[j]? = some (some (.own m)) → ∃ m', ds[j]? = some (some (.own m')) := fun j m z => by
      by_cases hij : i = j
      · subst hij; exact ⟨l, hi⟩
      · rw [List.getElem?_set_ne hij] at z; exact ⟨m, z⟩
    obtain ⟨m1, z1⟩ := back j l1 g1
    obtain ⟨m2, z2⟩ := back q l2 g2
    exact r.dis j q m1 m2 c hjq z1 z2 g3
theorem Base.mut (b : Base w K S0 H0 S H n) {a : Addr} {o : HO} (h2 : S a = true) (h3 : w ≠ some a) (h4 : H0 a = none) : Base w K S0 H0 S (upd H a o) n :=
  ⟨fun c u hc e => by rw [upd_ne (ne_of_none e h4)]; exact b.pres c u hc e, b.ok.mut h2 h3, b.sub, b.new, b.pen, b.old⟩
/-- xs.append(e) -/
theorem s_app {i : Nat} {l : List D} (hi : ds[i]? = some (some (.own l))) (h : WpE K w te ds n fun d n1 => l.length < 100000 ∧ k.nx (ds.set i (some (.own (l ++ [d])))) n1) :
    WpS K w (tDrop (tBM K "list" rAppend (tVar i) (tCons te tNil))) ds n k := fun S0 H0 S σ H E b r e => by
  obtain ⟨a, xs, h1, h2, h3, h4, h5, h6⟩ := r.own i l hi
  refine ⟨.ref a, h1, Or.inl ⟨rfl, xs, Evl.sq_of h5⟩, ?_⟩
  refine h S H0 σ H _ r b.ok fun v H1 d n1 ⟨hz, hk⟩ p1 ok1 r1 => ?_
  have g5 : H1 a = some (.lst xs) := p1 a _ h3 h5
  have hl := h6.length
  have ex1 := ex_cut b.ok p1
  refine ⟨a, xs, v, rfl, rfl, g5, Evl.sz_lt (by omega), ?_⟩
  have r' := (r.up b.ok p1).mutOwn (xs' := xs ++ [v]) (l' := l ++ [d]) hi h1 ((h6.mono ex1).append (.cons r1 .nil))
  refine e.nx S σ _ _ n1 hk ((b.up p1 ok1).mut h2 h3 h4) r' ?_
  rw [cut_upd h2]; exact ex1
/-- xs[j] = e -/
theorem s_setL {i : Nat} {l : List D} {ti : TE} (hi : ds[i]? = some (some (.own l))) (h : WpE K w te ds n fun d n1 => WpE K w ti ds n1 fun x n2 => ∃ (z : Int) (j : Nat), x = .int z ∧ ixN l.length z = some j ∧ k.nx (ds.set i (some (.own (l.set j d)))) n2) :
    WpS K w (tAsg te (gSub (tVar i) ti rSetL)) ds n k := fun S0 H0 S σ H E b r e => by
  refine h S H0 σ H _ r b.ok fun v H1 d n1 h1 p1 ok1 r1 => ?_
  obtain ⟨a, xs, g1, g2, g3, g4, g5, g6⟩ := r.own i l hi
  refine ⟨.ref a, g1, ?_⟩
  refine h1 S H0 σ H1 _ (r.up b.ok p1) ok1 fun x H2 y n2 ⟨z, j, ey, hj, hk⟩ p2 ok2 r2 => ?_
  subst ey
  cases r2
  have q5 : H2 a = some (.lst xs) := p2 a _ g3 (p1 a _ g3 g5)
  have hl := g6.length
  have ex2 := (ex_cut b.ok p1).trans (ex_cut ok1 p2)
  refine ⟨a, xs, z, j, rfl, rfl, q5, by rw [hl]; exact hj, ?_⟩
  have r' := ((r.up b.ok p1).up ok1 p2).mutOwn (xs' := xs.set j v) (l' := l.set j d) hi g1 ((g6.mono ex2).set (r1.mono (ex_cut ok1 p2)) j)
  refine e.nx S σ _ _ n2 hk (((b.up p1 ok1).up p2 ok2).mut g2 g3 g4) r' ?_
  rw [cut_upd g2]; exact ex2
/-- a loop over what is walked -/
theorem s_for {wi : TI} {g : TG} {tb : TS} (h : WpI K w wi ds n fun items n1 => ∃ I : Nat → List (Option D) → Nat → Prop, I 0 ds n1 ∧
      (∀ i x ds1 n', items[i]? = some x → I i ds1 n' → ∃ ds2 vs, GD K w g x ds1 ds2 vs ∧ WpS K w tb ds2 n' { nx := I (i + 1), rt := k.rt, bk := k.nx, ct := I (i + 1) }) ∧
      ∀ ds1 n', I items.length ds1 n' → k.nx ds1 n') : WpS K w (tFor wi g tb) ds n k := fun S0 H0 S σ H E b r e =>
  h S H0 σ H _ r b.ok fun J H1 items n1 ⟨I, hI0, hs, hd⟩ p1 ok1 hwk => by
    have e1 := ex_cut b.ok p1
    let W : Nat → St → Hp → Prop := fun i σ' H' => ∃ S' ds' n', I i ds' n' ∧ Base w K S0 H0 S' H' n' ∧ RpE K w S' H0 H' σ' ds' ∧ Ex (cut S H1) (cut S' H')
    refine ⟨fun i m σ' H' => m = items.length - i ∧ i ≤ items.length ∧ W i σ' H', ⟨items.length, by simp, Nat.zero_le _, S, ds, n1, hI0, b.up p1 ok1, r.up b.ok p1, Evl.Ex.refl _⟩, ?_⟩
    rintro i m σ' H' ⟨rfl, hi, S', ds', n', hI, b', r', ex'⟩
    obtain ⟨wgo, wst⟩ := hwk i H' (ex'.trans (cut_ex _ _))
    by_cases hlt : i < items.length
    · refine .inr ?_
      obtain ⟨go, yl⟩ := wgo items[i] (by simp [hlt])
      refine ⟨go, W (i + 1), fun σ2 H2 p' => ⟨items.length - (i + 1), by omega, rfl, hlt, p'⟩, fun x H4 hx => ?_⟩
      obtain ⟨e4, rx⟩ := yl x H4 hx
      have rx' := rx S' ex' b'.ok.2
      obtain ⟨ds2, vs, hg, hb⟩ := hs i items[i] ds' n' (by simp [hlt]) hI
      have p4 : Pres w H' H4 := Pres.of e4
      have b4 : Base w K S0 H0 S' H4 n' := b'.up p4 (b'.ok.ex e4)
      have ex4 := ex_cut b'.ok p4
      refine hg S' H0 σ' H4 x _ (r'.up b'.ok p4) rx' fun σ2 r2 _ => ?_
      refine hb S0 H0 S' σ2 H4 _ b4 r2 ⟨fun S5 σ5 H5 ds5 n5 hk b5 r5 e5 => ⟨S5, ds5, n5, hk, b5, r5, (ex'.trans ex4).trans e5⟩, e.rt, fun S5 σ5 H5 ds5 n5 hk b5 r5 e5 => ?_, fun S5 σ5 H5 ds5 n5 hk b5 r5 e5 => ⟨S5, ds5, n5, hk, b5, r5, (ex'.trans ex4).trans e5⟩⟩
      exact e.nx S5 σ5 H5 ds5 n5 hk b5 r5 (((e1.trans ex').trans ex4).trans e5)
    · have ee : i = items.length := by omega
      subst ee
      exact .inl ⟨wst (Nat.le_refl _), e.nx S' σ' H' ds' n' (hd ds' n' hI) b' r' (e1.trans ex')⟩
theorem s_while {tb : TS} (I : Nat → List (Option D) → Nat → Prop) (m0 : Nat) (h0 : I m0 ds n)
    (h : ∀ m ds1 n1, I m ds1 n1 → WpT K w c ds1 n1 fun b n2 => (b = true → WpS K w tb ds1 n2 { nx := fun ds' n' => ∃ m', m' < m ∧ I m' ds' n', rt := k.rt, bk := k.nx, ct := fun ds' n' => ∃ m', m' < m ∧ I m' ds' n' }) ∧ (b = false → k.nx ds1 n2)) :
    WpS K w (tWhile c tb) ds n k := fun S0 H0 S σ H E b r e => by
  let W : Nat → St → Hp → Prop := fun m σ' H' => ∃ S' ds' n', I m ds' n' ∧ Base w K S0 H0 S' H' n' ∧ RpE K w S' H0 H' σ' ds' ∧ Ex (cut S H) (cut S' H')
  refine ⟨W, ⟨m0, S, ds, n, h0, b, r, Evl.Ex.refl _⟩, ?_⟩
  rintro m σ' H' ⟨S', ds', n', hI, b', r', ex'⟩
  refine h m ds' n' hI S' H0 σ' H' _ r' b'.ok fun x H1 n1 ⟨h1, h2⟩ p1 ok1 => ?_
  have ex1 := ex'.trans (ex_cut b'.ok p1)
  cases x with
  | false => exact e.nx S' σ' H1 ds' n1 (h2 rfl) (b'.up p1 ok1) (r'.up b'.ok p1) ex1
  | true =>
    refine ⟨fun σ2 H2 => ∃ m', m' < m ∧ W m' σ2 H2, fun σ2 H2 z => z, ?_⟩
    refine h1 rfl S0 H0 S' σ' H1 _ (b'.up p1 ok1) (r'.up b'.ok p1) ⟨fun S5 σ5 H5 ds5 n5 ⟨m', hm, hk⟩ b5 r5 e5 => ⟨m', hm, S5, ds5, n5, hk, b5, r5, ex1.trans e5⟩, e.rt, fun S5 σ5 H5 ds5 n5 hk b5 r5 e5 => e.nx S5 σ5 H5 ds5 n5 hk b5 r5 (ex1.trans e5), fun S5 σ5 H5 ds5 n5 ⟨m', hm, hk⟩ b5 r5 e5 => ⟨m', hm, S5, ds5, n5, hk, b5, r5, ex1.trans e5⟩⟩
end
end DW
set_option Elab.async false
set_option maxRecDepth 100000
set_option maxHeartbeats 4000000
set_option linter.all false
set_option autoImplicit false
namespace DW
open PySem L2

/-! ### promises by data -/
abbrev DSp := List D → Nat → Kn → Prop
/-- .. told for each pen -/
abbrev DSpW := Option Addr → DSp
def toSp (K : PySem.W.Frag) (sp : DSpW) : Sp := fun vs H Q _ => ∃ (w : Option Addr) (S : Addr → Bool) (ds : List D) (n : Nat) (k : Kn), Rps K (cut S H) vs ds ∧ OkW K w S H n ∧ sp w ds n k ∧ Po K w S H k Q
def dstart (N : List Str) (ds : List D) : List (Option D) := ds.map some ++ List.replicate (N.length - ds.length) none
section
variable {K : PySem.W.Frag} {w : Option Addr} {S : Addr → Bool} {H H0 H1 H2 H' : Hp} {n m : Nat} {σ : St} {ds : List (Option D)} {ta tb te : TE} {tA tB : TA} {k : Kn}
theorem Rps.noOwn : ∀ {vs : List V} {es : List D}, Rps K H vs es → ∀ l, D.own l ∉ es
  | _, _, .nil, l, h => by cases h
  | _, _, .cons a b, l, h => by
    rcases List.mem_cons.mp h with z | z
    · subst z; cases a
    · exact Rps.noOwn b l z
theorem rpE_start {N : List Str} {vs : List V} {es : List D} (r : Rps K (cut S H) vs es) : RpE K w S H H (L2.start N vs) (dstart N es) := by
  have hl := r.length
  have g : ∀ (i : Nat) (d : D), (dstart N es)[i]? = some (some d) → es[i]? = some d := fun i d h => by
    unfold dstart at h
    by_cases hi : i < es.length
    · rw [List.getElem?_append_left (by simpa using hi), List.getElem?_map] at h
      obtain ⟨d', h1, h2⟩ := Option.map_eq_some_iff.mp h
      cases h2; exact h1
    · rw [List.getElem?_append_right (by simpa using hi), List.getElem?_replicate] at h
      split at h <;> cases h
  refine ⟨by unfold L2.start dstart; simp [hl], fun i d h o => ?_, fun i l h => ?_, fun i j l m a hij h => ?_⟩
  · obtain ⟨v, h1, h2⟩ := r.get (g i d h)
    refine ⟨v, ?_, h2⟩
    unfold L2.start
    have hi : i < vs.length := (List.getElem?_eq_some_iff.mp h1).1
    rw [List.getElem?_append_left (by simpa using hi), List.getElem?_map, h1]; rfl
  · exact absurd (List.mem_of_getElem? (g i _ h)) (r.noOwn l)
  · exact absurd (List.mem_of_getElem? (g i _ h)) (r.noOwn l)
theorem body_ok {N : List Str} {t : TS} {vs : List V} {es : List D} {Q : VK} (hw : WpS K w t (dstart N es) n { nx := fun _ n' => k .non n', rt := k }) (r : Rps K (cut S H) vs es) (ok : OkW K w S H n) (p : Po K w S H k Q) :
    t { nx := fun _ H' => Q .non H', rt := Q } (L2.start N vs) H := by
  refine hw S H S _ H _ ⟨Pres.refl, ok, fun a h => h, fun a h => .inl h, fun p hp => (ok.1 p hp).1, ok.2⟩ (rpE_start r) ⟨fun S' σ' H' ds' n' hk b r' e' => ?_, fun v H' d n' hk pr ok' r' => p v H' d n' hk pr ok' r', fun S' σ' H' ds' n' hk => hk.elim, fun S' σ' H' ds' n' hk => hk.elim⟩
  exact p .non H' .non n' hk b.pres (b.ok.less b.sub b.pen) .non
theorem e_call {sp : DSpW} {E : XK} (h : WpA K w tA ds n fun es n1 => sp w es n1 k) : WpE K w (tCall (toSp K sp) [] E tA) ds n k := fun S H0 σ H Q re ok p =>
  h S H0 σ H _ re ok fun vs H1 es n1 h1 p1 ok1 r1 => ⟨w, S, es, n1, k, by rw [List.append_nil]; exact r1, ok1, h1, p.from p1⟩
/-- the rest by defaults -/
theorem e_callD {sp : DSpW} {E : XK} {dvs : List V} {des : List D} (hd : Rps K (fun _ => none) dvs des) (h : WpA K w tA ds n fun es n1 => sp w (es ++ des) n1 k) : WpE K w (tCall (toSp K sp) dvs E tA) ds n k := fun S H0 σ H Q re ok p =>
  h S H0 σ H _ re ok fun vs H1 es n1 h1 p1 ok1 r1 => ⟨w, S, es ++ des, n1, k, r1.append (hd.mono fun _ _ z => by cases z), ok1, h1, p.from p1⟩
/-- keywords alone: zs by the order of the text, gV their places -/
theorem e_callK {sp : DSpW} {E : XK} {tk : TA} {gV : List V → List V → List V} {gD : List D → List D → List D} {a b : Nat} (hg : ∀ {H : Hp} {vs zs : List V} {es fs : List D}, Rps K H vs es → Rps K H zs fs → Rps K H (gV vs zs) (gD es fs))
    (h : WpA K w tA ds n fun es n1 => WpA K w tk ds n1 fun fs n2 => es.length = a ∧ fs.length = b ∧ sp w (gD es fs) n2 k) : WpE K w (tCallN a b (toSp K sp) gV E tA tk) ds n k := fun S H0 σ H Q re ok p =>
  h S H0 σ H _ re ok fun vs H1 es n1 h1 p1 ok1 r1 => h1 S H0 σ H1 _ (re.up ok p1) ok1 fun zs H2 fs n2 ⟨la, lb, hs⟩ p2 ok2 r2 =>
    ⟨by rw [r1.length]; exact la, by rw [r2.length]; exact lb, w, S, gD es fs, n2, k, hg (r1.mono (ex_cut ok1 p2)) r2, ok2, hs, (p.from p1).from p2⟩

/-! ### attributes -/
theorem zip_lookup : ∀ {ns : List Str} {xs : List V} {l : List D} {f : Str} {d : D}, Rps K H xs l → xs.length = ns.length → (ns.zip l).lookup f = some d → ∃ v, (ns.zip xs).lookup f = some v ∧ Rp K H v d
  | [], _, _, _, _, _, _, h => by simp at h
  | _ :: _, [], _, _, _, _, hl, _ => by simp at hl
  | nm :: ns, x :: xs, _, f, d, .cons a b, hl, h => by
    rw [List.zip_cons_cons, List.lookup_cons] at h ⊢
    cases e : f == nm with
    | true => rw [e] at h; cases h; exact ⟨x, rfl, a⟩
    | false => rw [e] at h; exact zip_lookup b (by simpa using hl) h
theorem e_fld {f : Str} (h : WpE K w ta ds n fun d n1 => ∃ C ns l e, d = .obj C ns l ∧ Cls K C ∧ NoAttr K C f ∧ (ns.zip l).lookup f = some e ∧ k e n1) : WpE K w (tFld K ta f) ds n k := fun S H0 σ H Q re ok p =>
  h S H0 σ H _ re ok fun v H1 d n1 ⟨C, ns, l, e, ed, hc, hn, hl, hk⟩ p1 ok1 r1 => by
    subst ed
    cases r1 with
    | obj hO hlen hx =>
      obtain ⟨v', h1, h2⟩ := zip_lookup hx hlen hl
      exact ⟨_, C, _, _, v', rfl, (cut_some hO).2, hc, hn, h1, p v' H1 e n1 hk p1 ok1 h2⟩
/-! ### a new instance: x stands for the object while its __init__ runs -/
def initSp (K : PySem.W.Frag) (C : Addr) (g : List D → List Str → List D → Prop) : Sp := fun vs H Q _ => ∃ (x dx : Addr) (S : Addr → Bool) (avs : List V) (es : List D) (ns : List Str) (l : List D),
  vs = .ref x :: avs ∧ S x = true ∧ (∀ a, S a = true → ∃ o, H a = some o) ∧ H x = some (.ins C dx []) ∧ Rps K (cut S H) avs es ∧ g es ns l ∧
  ∀ (H' : Hp) (xs : List V), (∀ a o, a ≠ x → H a = some o → H' a = some o) → H' x = some (.ins C dx (ns.zip xs)) → xs.length = ns.length → Rps K (cut S H') xs l → Q .non H'
theorem init_use {C x dx : Addr} {g : List D → List Str → List D → Prop} {vs : List V} {es : List D} {ns : List Str} {l : List D} {Q : VK} {E : XK} (ok : OkW K w S H n) (r : Rps K (cut S H) vs es) (hg : g es ns l) (hx : H x = none) (hdx : H dx = none) (hne : dx ≠ x)
    (p : Po K w S H k Q) (hk : k (.obj C ns l) n) : initSp K C g (.ref x :: vs) (upd (upd H dx (.own x)) x (.ins C dx [])) (fun v H2 => v = .non ∧ Q (.ref x) H2) E := by
  have hx1 : (upd H dx (.own x)) x = none := by rw [upd_ne (Ne.symm hne)]; exact hx
  have ok1 : OkW K w S (upd H dx (.own x)) n := ok.new hdx
  have pr1 : Pres w H (upd H dx (.own x)) := Pres.new hdx
  have hS : S x = false := ok.fresh hx
  refine ⟨x, dx, addS S x, vs, es, ns, l, rfl, addS_same, (ok1.addS hx1).2, upd_same, (r.mono (ex_cut ok pr1)).mono (cut_addS hx1), hg, fun H' xs hp hx' hlen hxs => ⟨rfl, ?_⟩⟩
  have exH : Ex H H' := fun a o e => hp a o (ne_of_none e hx) (by rw [upd_ne (ne_of_none e hx), upd_ne (ne_of_none e hdx)]; exact e)
  have sub : ∀ a, S a = true → addS S x a = true := fun a h => addS_of h
  refine p (.ref x) H' _ n hk (Pres.of exH) (ok.ex exH) (.obj (dx := dx) (xs := xs) ?_ hlen (hxs.mono (cut_sub sub)))
  rw [cut_of hS]; exact hx'
theorem e_makeR {C : Addr} {sp : Sp} {g : List D → List Str → List D → Prop} {E : XK} (hsp : ∀ vs H Q E, initSp K C g vs H Q E → sp vs H Q E) (h : WpA K w tA ds n fun es n1 => ∃ ns l, g es ns l ∧ k (.obj C ns l) n1) : WpE K w (StX.tMakeR C sp E tA) ds n k := fun S H0 σ H Q re ok p =>
  h S H0 σ H _ re ok fun vs H1 es n1 ⟨ns, l, hg, hk⟩ p1 ok1 r1 => fun x dx hx hdx hne => hsp _ _ _ _ (init_use ok1 r1 hg hx hdx hne (p.from p1) hk)
theorem e_make {C : Addr} {g : List D → List Str → List D → Prop} {E : XK} (h : WpA K w tA ds n fun es n1 => ∃ ns l, g es ns l ∧ k (.obj C ns l) n1) : WpE K w (tMake C (initSp K C g) [] E tA) ds n k := fun S H0 σ H Q re ok p =>
  h S H0 σ H _ re ok fun vs H1 es n1 ⟨ns, l, hg, hk⟩ p1 ok1 r1 => fun x dx hx hdx hne => by rw [List.append_nil]; exact init_use ok1 r1 hg hx hdx hne (p.from p1) hk
theorem e_makeD {C : Addr} {g : List D → List Str → List D → Prop} {E : XK} {dvs : List V} {des : List D} (hd : Rps K (fun _ => none) dvs des) (h : WpA K w tA ds n fun es n1 => ∃ ns l, g (es ++ des) ns l ∧ k (.obj C ns l) n1) : WpE K w (tMake C (initSp K C g) dvs E tA) ds n k := fun S H0 σ H Q re ok p =>
  h S H0 σ H _ re ok fun vs H1 es n1 ⟨ns, l, hg, hk⟩ p1 ok1 r1 => fun x dx hx hdx hne => init_use ok1 (r1.append (hd.mono fun _ _ z => by cases z)) hg hx hdx hne (p.from p1) hk

/-! ### operators by data -/
section
variable {X : Cx}
abbrev rAddS : R2 := fun x y H Q => ∃ i j, x = .str i ∧ y = .str j ∧ i.length + j.length ≤ sizeLine ∧ Q (.str (i ++ j)) H
def rAddU (K : PySem.W.Frag) : R2 := fun x y H Q => rI0 (fun i j => .int (i + j)) x y H Q ∨ rAddS x y H Q ∨ rCat x y H Q ∨ rCatA K x y H Q ∨ ∃ i k, x = .int i ∧ y = .bl k ∧ Q (.int (i + PyProof.Rows.b2i k)) H
theorem op_addU : OpR X (binaryOp .Add) (rAddU X.K) := op_add.or (op_add_str.or (op_cat.or (op_catA.or op_add_ib)))
def rMulU : R2 := fun x y H Q => rI CMul (fun i j => .int (i * j)) x y H Q ∨ rI CMulW (fun i j => .int (i * j)) x y H Q ∨ rRep x y H Q
theorem op_mulU : OpR X (binaryOp .Mult) rMulU := op_mul.or (op_mulW.or op_rep)
def rDivU : R2 := fun x y H Q => rI CDivW (fun i j => .int (i / j)) x y H Q ∨ rI CDivN (fun i j => .int (i.fdiv j)) x y H Q
theorem op_divU : OpR X (binaryOp .FloorDiv) rDivU := op_fdivW.or op_fdivN
def rModU : R2 := fun x y H Q => rI (fun _ j => 0 < j) (fun i j => .int (i % j)) x y H Q ∨ rI (fun _ j => j ≠ 0) (fun i j => .int (i.fmod j)) x y H Q
theorem op_modU : OpR X (binaryOp .Mod) rModU := op_mod.or op_modN
def rEqU (K : PySem.W.Frag) : R2 := fun x y H Q => rEq x y H Q ∨ rEqD K x y H Q
theorem op_eqU (hu : X.A.units + 64 < cLine) : OpR X (compareOp .Eq) (rEqU X.K) := op_eq.or (op_eqD hu)
def rNeU (K : PySem.W.Frag) : R2 := fun x y H Q => rNe x y H Q ∨ rNeD K x y H Q
theorem op_neU (hu : X.A.units + 64 < cLine) : OpR X (compareOp .NotEq) (rNeU X.K) := op_ne.or (op_neD hu)
def rIsU : R2 := fun x y H Q => y = .non ∧ Q (.bl (decide (x = .non))) H
def rIsNU : R2 := fun x y H Q => y = .non ∧ Q (.bl (!decide (x = .non))) H
theorem op_isU : OpR X (compareOp .Is) rIsU := op_isN
theorem op_isNU : OpR X (compareOp .IsNot) rIsNU := op_notN
end
theorem rd_I0 {g : Int → Int → V} {d' : Int → Int → D} {i j : Int} (hg : ∀ (H : Hp) i j, Rp K H (g i j) (d' i j)) (hk : k (d' i j) n) : RD K w (rI0 g) (.int i) (.int j) n k := fun S v u H Q a b ok p => by
  cases a; cases b; exact ⟨i, j, rfl, rfl, p _ H _ n hk Pres.refl ok (hg _ i j)⟩
theorem rd_addI {i j : Int} (hk : k (.int (i + j)) n) : RD K w (rAddU K) (.int i) (.int j) n k := fun S v u H Q a b ok p => by
  cases a; cases b; exact .inl ⟨i, j, rfl, rfl, p _ H _ n hk Pres.refl ok (.int _)⟩
theorem rd_addIB {i : Int} {j : Bool} (hk : k (.int (i + PyProof.Rows.b2i j)) n) : RD K w (rAddU K) (.int i) (.bl j) n k := fun S v u H Q a b ok p => by
  cases a; cases b; exact .inr (.inr (.inr (.inr ⟨i, j, rfl, rfl, p _ H _ n hk Pres.refl ok (.int _)⟩)))
theorem rd_addS {i j : Str} (hz : i.length + j.length ≤ 100000) (hk : k (.str (i ++ j)) n) : RD K w (rAddU K) (.str i) (.str j) n k := fun S v u H Q a b ok p => by
  cases a; cases b; exact .inr (.inl ⟨i, j, rfl, rfl, Evl.sz_of hz, p _ H _ n hk Pres.refl ok (.str _)⟩)
theorem rd_addL {i j : List D} (hz : i.length + j.length ≤ 100000) (hk : k (.lst (i ++ j)) n) : RD K w (rAddU K) (.lst i) (.lst j) n k := fun S v u H Q a b ok p => by
  cases a with
  | lst hA xA =>
    cases b with
    | lst hB xB =>
      exact .inr (.inr (.inl ⟨_, _, _, _, rfl, rfl, (cut_some hA).2, (cut_some hB).2, Evl.sz_of (by rw [xA.length, xB.length]; exact hz), fun q hq =>
        p _ _ _ n hk (Pres.new hq) (ok.new hq) (.lst (cut_new ok hq) ((xA.append xB).mono (ex_cut ok (Pres.new hq))))⟩))
theorem rd_addT {i j : List D} (hz : i.length + j.length ≤ 100000) (hk : k (.tup (i ++ j)) n) : RD K w (rAddU K) (.tup i) (.tup j) n k := fun S v u H Q a b ok p => by
  cases a with
  | @tup aa xs _ hA xA =>
    cases b with
    | @tup bb ys _ hB xB =>
      have e := cut_ex S H
      have lA := xA.length
      have lB := xB.length
      refine .inr (.inr (.inr (.inl ⟨aa, bb, xs, ys, rfl, rfl, Evl.ex_t e hA, Evl.ex_t e hB, Evl.sz_of (by omega), fun z => ?_, fun _ z => ?_, fun _ _ q hq => ?_⟩)))
      · subst z
        have : i = [] := by cases i with
          | nil => rfl
          | cons _ _ => simp at lA
        subst this
        exact p _ H _ n hk Pres.refl ok (.tup hB xB)
      · subst z
        have : j = [] := by cases j with
          | nil => rfl
          | cons _ _ => simp at lB
        subst this
        rw [List.append_nil] at hk
        exact p _ H _ n hk Pres.refl ok (.tup hA xA)
      · exact p _ _ _ n hk (Pres.new hq) (ok.new hq) (.tup (SqT.of (cut_new ok hq)) ((xA.append xB).mono (ex_cut ok (Pres.new hq))))
theorem rd_sub {i j : Int} (hk : k (.int (i - j)) n) : RD K w (rI0 fun i j => .int (i - j)) (.int i) (.int j) n k := rd_I0 (d' := fun i j => .int (i - j)) (fun _ _ _ => .int _) hk
theorem rd_mul {i j : Int} (hc : CMul i j ∨ CMulW i j) (hk : k (.int (i * j)) n) : RD K w rMulU (.int i) (.int j) n k := fun S v u H Q a b ok p => by
  cases a; cases b
  rcases hc with hc | hc
  · exact .inl ⟨i, j, rfl, rfl, hc, p _ H _ n hk Pres.refl ok (.int _)⟩
  · exact .inr (.inl ⟨i, j, rfl, rfl, hc, p _ H _ n hk Pres.refl ok (.int _)⟩)
theorem rd_rep {l : List D} {j : Int} (h1 : -(2 ^ 63) ≤ j) (h2 : j < 2 ^ 63) (hz : l.length * j.toNat ≤ 100000) (hk : k (.lst (List.replicate j.toNat l).flatten) n) : RD K w rMulU (.lst l) (.int j) n k := fun S v u H Q a b ok p => by
  cases b
  cases a with
  | lst hA xA =>
    have rep : ∀ m : Nat, Rps K (cut S H) (List.replicate m _).flatten (List.replicate m l).flatten := fun m => by
      induction m with
      | zero => exact .nil
      | succ m ih => rw [List.replicate_succ, List.replicate_succ, List.flatten_cons, List.flatten_cons]; exact xA.append ih
    exact .inr (.inr ⟨_, j, _, rfl, rfl, (cut_some hA).2, h1, h2, Evl.sz_of (by rw [xA.length]; exact hz), fun q hq =>
      p _ _ _ n hk (Pres.new hq) (ok.new hq) (.lst (cut_new ok hq) ((rep j.toNat).mono (ex_cut ok (Pres.new hq))))⟩)
theorem rd_div {i j : Int} (hc : CDivW i j) (hk : k (.int (i / j)) n) : RD K w rDivU (.int i) (.int j) n k := fun S v u H Q a b ok p => by
  cases a; cases b; exact .inl ⟨i, j, rfl, rfl, hc, p _ H _ n hk Pres.refl ok (.int _)⟩
theorem rd_mod {i j : Int} (hc : 0 < j) (hk : k (.int (i % j)) n) : RD K w rModU (.int i) (.int j) n k := fun S v u H Q a b ok p => by
  cases a; cases b; exact .inl ⟨i, j, rfl, rfl, hc, p _ H _ n hk Pres.refl ok (.int _)⟩
theorem rd_pow {i j : Int} (hc : CPow i j) (hk : k (.int (i ^ j.toNat)) n) : RD K w (rI CPow fun i j => .int (i ^ j.toNat)) (.int i) (.int j) n k := fun S v u H Q a b ok p => by
  cases a; cases b; exact ⟨i, j, rfl, rfl, hc, p _ H _ n hk Pres.refl ok (.int _)⟩
theorem ru_neg {i : Int} (hk : k (.int (-i)) n) : RU K w (rU fun i => .int (-i)) (.int i) n k := fun S v H Q a ok p => by
  cases a; exact ⟨i, rfl, p _ H _ n hk Pres.refl ok (.int _)⟩
theorem rd_lt {i j : Int} (hk : k (.bl (decide (i < j))) n) : RD K w (rI0 fun i j => .bl (decide (i < j))) (.int i) (.int j) n k := rd_I0 (d' := fun i j => .bl (decide (i < j))) (fun _ _ _ => .bl _) hk
theorem rd_le {i j : Int} (hk : k (.bl (decide (i ≤ j))) n) : RD K w (rI0 fun i j => .bl (decide (i ≤ j))) (.int i) (.int j) n k := rd_I0 (d' := fun i j => .bl (decide (i ≤ j))) (fun _ _ _ => .bl _) hk
theorem rd_gt {i j : Int} (hk : k (.bl (decide (j < i))) n) : RD K w (rI0 fun i j => .bl (decide (j < i))) (.int i) (.int j) n k := rd_I0 (d' := fun i j => .bl (decide (j < i))) (fun _ _ _ => .bl _) hk
theorem rd_ge {i j : Int} (hk : k (.bl (decide (j ≤ i))) n) : RD K w (rI0 fun i j => .bl (decide (j ≤ i))) (.int i) (.int j) n k := rd_I0 (d' := fun i j => .bl (decide (j ≤ i))) (fun _ _ _ => .bl _) hk
theorem dI {i j : Int} : decide (V.int i = V.int j) = decide (i = j) := by
  by_cases h : i = j
  · subst h; simp
  · rw [decide_eq_false h, decide_eq_false (fun e => h (V.int.inj e))]
theorem dS {i j : Str} : decide (V.str i = V.str j) = decide (i = j) := by
  by_cases h : i = j
  · subst h; simp
  · rw [decide_eq_false h, decide_eq_false (fun e => h (V.str.inj e))]
theorem dB {i j : Bool} : decide (V.bl i = V.bl j) = decide (i = j) := by cases i <;> cases j <;> rfl
theorem rd_eqI {i j : Int} (hk : k (.bl (decide (i = j))) n) : RD K w (rEqU K) (.int i) (.int j) n k := fun S v u H Q a b ok p => by
  cases a; cases b; exact .inl ⟨rfl, by rw [dI]; exact p _ H _ n hk Pres.refl ok (.bl _)⟩
theorem rd_eqS {i j : Str} (hk : k (.bl (decide (i = j))) n) : RD K w (rEqU K) (.str i) (.str j) n k := fun S v u H Q a b ok p => by
  cases a; cases b; exact .inl ⟨rfl, by rw [dS]; exact p _ H _ n hk Pres.refl ok (.bl _)⟩
theorem rd_neI {i j : Int} (hk : k (.bl (!decide (i = j))) n) : RD K w (rNeU K) (.int i) (.int j) n k := fun S v u H Q a b ok p => by
  cases a; cases b; exact .inl ⟨rfl, by rw [dI]; exact p _ H _ n hk Pres.refl ok (.bl _)⟩
theorem rd_neS {i j : Str} (hk : k (.bl (!decide (i = j))) n) : RD K w (rNeU K) (.str i) (.str j) n k := fun S v u H Q a b ok p => by
  cases a; cases b; exact .inl ⟨rfl, by rw [dS]; exact p _ H _ n hk Pres.refl ok (.bl _)⟩
def isNon : D → Bool
  | .non => true
  | _ => false
def isRaw : D → Bool
  | .raw _ => true
  | _ => false
theorem rd_is {d : D} (hr : isRaw d = false) (hk : k (.bl (isNon d)) n) : RD K w rIsU d .non n k := fun S v u H Q a b ok p => by
  cases b
  refine ⟨rfl, ?_⟩
  have e : decide (v = V.non) = isNon d := by cases a <;> first | rfl | (exact absurd hr (by simp [isRaw])) | simp [isNon]
  rw [e]; exact p _ H _ n hk Pres.refl ok (.bl _)
theorem rd_isN {d : D} (hr : isRaw d = false) (hk : k (.bl (!isNon d)) n) : RD K w rIsNU d .non n k := fun S v u H Q a b ok p => by
  cases b
  refine ⟨rfl, ?_⟩
  have e : decide (v = V.non) = isNon d := by cases a <;> first | rfl | (exact absurd hr (by simp [isRaw])) | simp [isNon]
  rw [e]; exact p _ H _ n hk Pres.refl ok (.bl _)

/-! ### subscripts -/
theorem rd_ixL {l : List D} {i : Int} {d : D} (ha : atI l i = some d) (hk : k d n) : RD K w (rIx K) (.lst l) (.int i) n k := fun S v u H Q a b ok p => by
  cases b
  cases a with
  | @lst aa xs _ hA xA =>
    obtain ⟨j, h1, h2⟩ := Option.bind_eq_some_iff.mp ha
    obtain ⟨x, hx, rx⟩ := xA.get h2
    refine .inl ⟨aa, xs, i, x, rfl, rfl, SqL.of (cut_some hA).2, ?_, p _ H _ n hk Pres.refl ok rx⟩
    unfold atI; rw [xA.length, h1]; exact hx
theorem rd_ixT {l : List D} {i : Int} {d : D} (ha : atI l i = some d) (hk : k d n) : RD K w (rIx K) (.tup l) (.int i) n k := fun S v u H Q a b ok p => by
  cases b
  cases a with
  | @tup aa xs _ hA xA =>
    obtain ⟨j, h1, h2⟩ := Option.bind_eq_some_iff.mp ha
    obtain ⟨x, hx, rx⟩ := xA.get h2
    refine .inr (.inl ⟨aa, xs, i, x, rfl, rfl, Evl.ex_t (cut_ex S H) hA, ?_, p _ H _ n hk Pres.refl ok rx⟩)
    unfold atI; rw [xA.length, h1]; exact hx
/-! ### slices -/
def cutD (l : List D) (lo hi : Option Int) : List D := (l.drop (HT.sIx l.length 0 lo)).take (HT.sIx l.length l.length hi - HT.sIx l.length 0 lo)
def WpO (K : PySem.W.Frag) (w : Option Addr) (t : TO) (ds : List (Option D)) (n : Nat) (k : Option Int → Nat → Prop) : Prop :=
  ∀ (S : Addr → Bool) (H0 : Hp) (σ : St) (H : Hp) (Q : Option Int → Hp → Prop), RpE K w S H0 H σ ds → OkW K w S H n → (∀ (b : Option Int) (H' : Hp) (n' : Nat), k b n' → Pres w H H' → OkW K w S H' n' → Q b H') → t σ H Q
theorem o_none {k : Option Int → Nat → Prop} (hk : k none n) : WpO K w tNoPart ds n k := fun S H0 σ H Q re ok p => p none H n hk Pres.refl ok
theorem o_some {k : Option Int → Nat → Prop} (h : WpE K w te ds n fun d n1 => ∃ i, d = .int i ∧ k (some i) n1) : WpO K w (tPart te) ds n k := fun S H0 σ H Q re ok p =>
  h S H0 σ H _ re ok fun v H1 d n1 ⟨i, e, hk⟩ p1 ok1 r1 => by subst e; cases r1; exact ⟨i, rfl, p _ H1 n1 hk p1 ok1⟩
def rSlU (K : PySem.W.Frag) : V → Option Int → Option Int → Hp → VK → Prop := fun x lo hi H Q => rSlL K x lo hi H Q ∨ rSlA K x lo hi H Q
theorem sl_U {X : Cx} : SlR X (rSlU X.K) := sl_list.or sl_tupA
theorem e_slL {tl th : TO} (h : WpE K w te ds n fun d n1 => ∃ l, d = .lst l ∧ WpO K w tl ds n1 fun lo n2 => WpO K w th ds n2 fun hi n3 => k (.lst (cutD l lo hi)) n3) : WpE K w (tSl (rSlU K) te tl th) ds n k := fun S H0 σ H Q re ok p =>
  h S H0 σ H _ re ok fun v H1 d n1 ⟨l, e, h1⟩ p1 ok1 r1 => by
    subst e
    refine h1 S H0 σ H1 _ (re.up ok p1) ok1 fun lo H2 n2 h2 p2 ok2 => h2 S H0 σ H2 _ ((re.up ok p1).up ok1 p2) ok2 fun hi H3 n3 h3 p3 ok3 => ?_
    have r3 := (r1.mono (ex_cut ok1 p2)).mono (ex_cut ok2 p3)
    cases r3 with
    | @lst aa xs _ hA xA =>
      refine .inl ⟨aa, xs, rfl, SqL.of (cut_some hA).2, fun q hq => p _ _ _ n3 h3 (((p1.trans p2).trans p3).trans (Pres.new hq)) (ok3.new hq) (.lst (cut_new ok3 hq) ?_)⟩
      have := (((xA.drop (HT.sIx xs.length 0 lo)).take (HT.sIx xs.length xs.length hi - HT.sIx xs.length 0 lo)).mono (ex_cut ok3 (Pres.new (o := .lst (cutV xs lo hi)) hq)))
      unfold cutV cutD
      rw [← xA.length]; exact this
end
end DW
set_option Elab.async false
set_option maxRecDepth 100000
set_option maxHeartbeats 4000000
set_option linter.all false
set_option autoImplicit false
namespace DW
open PySem L2

section
variable {K : PySem.W.Frag} {w : Option Addr} {S : Addr → Bool} {H H0 H1 H2 H' : Hp} {n m : Nat} {σ : St} {ds : List (Option D)} {ta tb te : TE} {tA tB : TA} {k : Kn}
theorem e_slT {tl th : TO} (h : WpE K w te ds n fun d n1 => ∃ l, d = .tup l ∧ WpO K w tl ds n1 fun lo n2 => WpO K w th ds n2 fun hi n3 => k (.tup (cutD l lo hi)) n3) : WpE K w (tSl (rSlU K) te tl th) ds n k := fun S H0 σ H Q re ok p =>
  h S H0 σ H _ re ok fun v H1 d n1 ⟨l, e, h1⟩ p1 ok1 r1 => by
    subst e
    refine h1 S H0 σ H1 _ (re.up ok p1) ok1 fun lo H2 n2 h2 p2 ok2 => h2 S H0 σ H2 _ ((re.up ok p1).up ok1 p2) ok2 fun hi H3 n3 h3 p3 ok3 => ?_
    have r3 := (r1.mono (ex_cut ok1 p2)).mono (ex_cut ok2 p3)
    cases r3 with
    | @tup aa xs _ hA xA =>
      have hl := xA.length
      refine .inr ⟨aa, xs, rfl, Evl.ex_t (cut_ex S H3) hA, fun hw => ?_, fun hw q hq => ?_⟩
      · have e : cutD l lo hi = l := by
          unfold cutD
          rw [← hl, hw.1, hw.2, List.drop_zero, Nat.sub_zero, hl, List.take_length]
        have h3' : k (D.tup (cutD l lo hi)) n3 := h3
        rw [e] at h3'
        exact p _ H3 _ n3 h3' ((p1.trans p2).trans p3) ok3 (.tup hA xA)
      · refine p _ _ _ n3 h3 (((p1.trans p2).trans p3).trans (Pres.new hq)) (ok3.new hq) (.tup (SqT.of (cut_new ok3 hq)) ?_)
        have := (((xA.drop (HT.sIx xs.length 0 lo)).take (HT.sIx xs.length xs.length hi - HT.sIx xs.length 0 lo)).mono (ex_cut ok3 (Pres.new (o := .tup (cutV xs lo hi)) hq)))
        unfold cutV cutD
        rw [← xA.length]; exact this

/-! ### built-in functions by data -/
abbrev RCT := List V → Hp → VK → Prop
def rLenU (K : PySem.W.Frag) : RCT := fun xs H Q => ∃ x n, xs = [x] ∧ LenV K x H n ∧ Q (.int n) H
theorem call_lenU {X : Cx} : CallR X (.builtin "len") (rLenU X.K) := call_len
theorem rc_lenL {l : List D} (hk : k (.int l.length) n) : RC K w (rLenU K) [.lst l] n k := fun S vs H Q r ok p => by
  cases r with
  | cons a b =>
    cases b
    cases a with
    | lst hA xA => exact ⟨_, _, rfl, .inl ⟨_, SqL.of (cut_some hA).2, xA.length.symm⟩, p _ H _ n hk Pres.refl ok (.int _)⟩
theorem rc_lenT {l : List D} (hk : k (.int l.length) n) : RC K w (rLenU K) [.tup l] n k := fun S vs H Q r ok p => by
  cases r with
  | cons a b =>
    cases b
    cases a with
    | tup hA xA => exact ⟨_, _, rfl, .inr ⟨_, Evl.ex_t (cut_ex S H) hA, xA.length.symm⟩, p _ H _ n hk Pres.refl ok (.int _)⟩
theorem rc_lenS {l : Str} (hz : l.length ≤ 100000) (hk : k (.int l.length) n) : RC K w (rLenU K) [.str l] n k := fun S vs H Q r ok p => by
  cases r with
  | cons a b => cases b; cases a; exact ⟨_, _, rfl, ⟨Evl.sz_of hz, rfl⟩, p _ H _ n hk Pres.refl ok (.int _)⟩
def rMax2 : RCT := fun xs H Q => ∃ i j, xs = [.int i, .int j] ∧ Q (.int (if j > i then j else i)) H
def rMin2 : RCT := fun xs H Q => ∃ i j, xs = [.int i, .int j] ∧ Q (.int (if j < i then j else i)) H
def rMaxU (K : PySem.W.Frag) : RCT := fun xs H Q => rMax2 xs H Q ∨ rMax K xs H Q
def rMinU (K : PySem.W.Frag) : RCT := fun xs H Q => rMin2 xs H Q ∨ rMin K xs H Q
theorem call_maxU {X : Cx} (hc : X.calm = true) : CallR X (.builtin "max") (rMaxU X.K) := (call_max2 hc).or (cr_max hc)
theorem call_minU {X : Cx} (hc : X.calm = true) : CallR X (.builtin "min") (rMinU X.K) := (call_min2 hc).or (cr_min hc)
theorem rc_max2 {i j : Int} (hk : k (.int (max i j)) n) : RC K w (rMaxU K) [.int i, .int j] n k := fun S vs H Q r ok p => by
  cases r with
  | cons a b =>
    cases a
    cases b with
    | cons a b =>
      cases a; cases b
      refine .inl ⟨i, j, rfl, ?_⟩
      have e : (if j > i then j else i) = max i j := by split <;> omega
      rw [e]; exact p _ H _ n hk Pres.refl ok (.int _)
theorem rc_min2 {i j : Int} (hk : k (.int (min i j)) n) : RC K w (rMinU K) [.int i, .int j] n k := fun S vs H Q r ok p => by
  cases r with
  | cons a b =>
    cases a
    cases b with
    | cons a b =>
      cases a; cases b
      refine .inl ⟨i, j, rfl, ?_⟩
      have e : (if j < i then j else i) = min i j := by split <;> omega
      rw [e]; exact p _ H _ n hk Pres.refl ok (.int _)
theorem lst_ints {S : Addr → Bool} {v : V} {ns : List Int} (r : Rp K (cut S H) v (.lst (ns.map D.int))) : ∃ a, v = .ref a ∧ H a = some (.lst (ns.map V.int)) := by
  cases r with
  | lst hA xA => exact ⟨_, rfl, by rw [← xA.ints]; exact (cut_some hA).2⟩
theorem rc_maxL {ns : List Int} (h0 : 0 < ns.length) (hk : ∀ m, m ∈ ns → (∀ y, y ∈ ns → y ≤ m) → k (.int m) n) : RC K w (rMaxU K) [.lst (ns.map D.int)] n k := fun S vs H Q r ok p => by
  cases r with
  | cons a b =>
    cases b
    obtain ⟨c, rfl, hc⟩ := lst_ints a
    exact .inr ⟨c, ns, rfl, SqL.of hc, h0, fun m h1 h2 => p _ H _ n (hk m h1 h2) Pres.refl ok (.int _)⟩
theorem rc_minL {ns : List Int} (h0 : 0 < ns.length) (hk : ∀ m, m ∈ ns → (∀ y, y ∈ ns → m ≤ y) → k (.int m) n) : RC K w (rMinU K) [.lst (ns.map D.int)] n k := fun S vs H Q r ok p => by
  cases r with
  | cons a b =>
    cases b
    obtain ⟨c, rfl, hc⟩ := lst_ints a
    exact .inr ⟨c, ns, rfl, SqL.of hc, h0, fun m h1 h2 => p _ H _ n (hk m h1 h2) Pres.refl ok (.int _)⟩
theorem rc_sum {ns : List Int} (hk : k (.int ns.sum) n) : RC K w (rSum K) [.lst (ns.map D.int)] n k := fun S vs H Q r ok p => by
  cases r with
  | cons a b =>
    cases b
    obtain ⟨c, rfl, hc⟩ := lst_ints a
    exact ⟨c, ns, rfl, SqL.of hc, p _ H _ n hk Pres.refl ok (.int _)⟩
theorem rc_all {bs : List Bool} (hk : k (.bl (bs.all id)) n) : RC K w (rAll K) [.lst (bs.map D.bl)] n k := fun S vs H Q r ok p => by
  cases r with
  | cons a b =>
    cases b
    cases a with
    | lst hA xA => exact ⟨_, bs, rfl, SqL.of (by rw [← xA.bls]; exact (cut_some hA).2), p _ H _ n hk Pres.refl ok (.bl _)⟩
theorem rc_any {bs : List Bool} (hk : k (.bl (bs.any id)) n) : RC K w (rAny K) [.lst (bs.map D.bl)] n k := fun S vs H Q r ok p => by
  cases r with
  | cons a b =>
    cases b
    cases a with
    | lst hA xA => exact ⟨_, bs, rfl, SqL.of (by rw [← xA.bls]; exact (cut_some hA).2), p _ H _ n hk Pres.refl ok (.bl _)⟩
def rAbsU : RCT := fun xs H Q => ∃ i, xs = [.int i] ∧ Q (.int (if i < 0 then -i else i)) H
theorem call_absU {X : Cx} : CallR X (.builtin "abs") rAbsU := call_abs
theorem rc_abs {i : Int} (hk : k (.int (i.natAbs : Int)) n) : RC K w rAbsU [.int i] n k := fun S vs H Q r ok p => by
  cases r with
  | cons a b =>
    cases a; cases b
    refine ⟨i, rfl, ?_⟩
    have e : (if i < 0 then -i else i) = (i.natAbs : Int) := by split <;> omega
    rw [e]; exact p _ H _ n hk Pres.refl ok (.int _)
def rIntU : RCT := fun xs H Q => (∃ i, xs = [.int i] ∧ Q (.int i) H) ∨ ∃ k, xs = [.bl k] ∧ Q (.int (if k then 1 else 0)) H
theorem call_intU {X : Cx} : CallR X (.type "int") rIntU := call_int1
theorem rc_int {i : Int} (hk : k (.int i) n) : RC K w rIntU [.int i] n k := fun S vs H Q r ok p => by
  cases r with
  | cons a b => cases a; cases b; exact .inl ⟨i, rfl, p _ H _ n hk Pres.refl ok (.int _)⟩
theorem rc_intB {i : Bool} (hk : k (.int (if i then 1 else 0)) n) : RC K w rIntU [.bl i] n k := fun S vs H Q r ok p => by
  cases r with
  | cons a b => cases a; cases b; exact .inr ⟨i, rfl, p _ H _ n hk Pres.refl ok (.int _)⟩
def rListU (K : PySem.W.Frag) : RCT := fun xs H Q => (∃ p ys, xs = [.ref p] ∧ (SqL K H p ys ∨ SqT K H p ys) ∧ ∀ l, H l = none → Q (.ref l) (upd H l (.lst ys))) ∨
  ∃ (a : Addr) (kvs : List (Key × V)), xs = [.ref a] ∧ Rd H a (.dK kvs) ∧ ∀ p, H p = none → Q (.ref p) (upd H p (.lst (kvs.map fun kv => kV kv.1)))
theorem call_listU {X : Cx} (hc : X.calm = true) : CallR X (.type "list") (rListU X.K) := call_list_of.or (call_listD hc)
theorem rc_listL {l : List D} (hk : k (.lst l) n) : RC K w (rListU K) [.lst l] n k := fun S vs H Q r ok p => by
  cases r with
  | cons a b =>
    cases b
    cases a with
    | lst hA xA => exact .inl ⟨_, _, rfl, .inl (SqL.of (cut_some hA).2), fun q hq => p _ _ _ n hk (Pres.new hq) (ok.new hq) (.lst (cut_new ok hq) (xA.mono (ex_cut ok (Pres.new hq))))⟩
theorem rc_listT {l : List D} (hk : k (.lst l) n) : RC K w (rListU K) [.tup l] n k := fun S vs H Q r ok p => by
  cases r with
  | cons a b =>
    cases b
    cases a with
    | tup hA xA => exact .inl ⟨_, _, rfl, .inr (Evl.ex_t (cut_ex S H) hA), fun q hq => p _ _ _ n hk (Pres.new hq) (ok.new hq) (.lst (cut_new ok hq) (xA.mono (ex_cut ok (Pres.new hq))))⟩
def kD : Key → D
  | .inl i => .int i
  | .inr x => .str x
theorem rps_keys : ∀ ks : List Key, Rps K H (ks.map kV) (ks.map kD)
  | [] => .nil
  | .inl i :: r => .cons (.int i) (rps_keys r)
  | .inr i :: r => .cons (.str i) (rps_keys r)
theorem rc_listD {ks : List Key} {l : List D} (hk : k (.lst (ks.map kD)) n) : RC K w (rListU K) [.dk ks l] n k := fun S vs H Q r ok p => by
  cases r with
  | cons a b =>
    cases b
    cases a with
    | @dk aa _ xs _ hA hlen xA =>
      have e : ((ks.zip xs).map fun kv => kV kv.1) = ks.map kV := by
        have : ((ks.zip xs).map fun kv => kV kv.1) = ((ks.zip xs).map (·.1)).map kV := by rw [List.map_map]; rfl
        rw [this, List.map_fst_zip (by omega)]
      refine .inr ⟨aa, _, rfl, .inl (cut_some hA).2, fun q hq => ?_⟩
      rw [e]
      exact p _ _ _ n hk (Pres.new hq) (ok.new hq) (.lst (cut_new ok hq) (rps_keys ks))
def rTupU (K : PySem.W.Frag) : RCT := fun xs H Q => ∃ p ys, xs = [.ref p] ∧ ((SqL K H p ys ∧ ∀ l, H l = none → Q (.ref l) (upd H l (.tup ys))) ∨ (SqT K H p ys ∧ Q (.ref p) H))
theorem call_tupU {X : Cx} : CallR X (.type "tuple") (rTupU X.K) := call_tuple_of
theorem rc_tupL {l : List D} (hk : k (.tup l) n) : RC K w (rTupU K) [.lst l] n k := fun S vs H Q r ok p => by
  cases r with
  | cons a b =>
    cases b
    cases a with
    | lst hA xA => exact ⟨_, _, rfl, .inl ⟨SqL.of (cut_some hA).2, fun q hq => p _ _ _ n hk (Pres.new hq) (ok.new hq) (.tup (SqT.of (cut_new ok hq)) (xA.mono (ex_cut ok (Pres.new hq))))⟩⟩
theorem rc_tupT {l : List D} (hk : k (.tup l) n) : RC K w (rTupU K) [.tup l] n k := fun S vs H Q r ok p => by
  cases r with
  | cons a b =>
    cases b
    cases a with
    | tup hA xA => exact ⟨_, _, rfl, .inr ⟨Evl.ex_t (cut_ex S H) hA, p _ H _ n hk Pres.refl ok (.tup hA xA)⟩⟩
theorem rc_sorted {ns : List Int} (hk : ∀ ms : List Int, ms.Perm ns → ms.Pairwise (· ≤ ·) → k (.lst (ms.map D.int)) n) : RC K w (rSortedI K) [.lst (ns.map D.int)] n k := fun S vs H Q r ok p => by
  cases r with
  | cons a b =>
    cases b
    obtain ⟨c, rfl, hc⟩ := lst_ints a
    exact ⟨c, ns, rfl, SqL.of hc, fun ms q h1 h2 hq => p _ _ _ n (hk ms h1 h2) (Pres.new hq) (ok.new hq) (.lst (cut_new ok hq) (Rps.of_ints ms))⟩
/-- dict of a list of pairs -/
def rDictP (K : PySem.W.Frag) : RCT := fun xs H Q => ∃ (a : Addr) (ps : List Addr) (kvs : List (Key × V)), xs = [.ref a] ∧ SqL K H a (ps.map V.ref) ∧ Paired (fun p kv => SqT K H p [kV kv.1, kv.2]) ps kvs ∧ ∀ p, H p = none → Q (.ref p) (upd H p (.dK (mergeK [] kvs)))
theorem call_dictU {X : Cx} (hc : X.calm = true) : CallR X (.type "dict") (rDictP X.K) := call_dictP hc
theorem Rp.int_inv {v : V} {i : Int} (r : Rp K H v (.int i)) : v = .int i := by cases r; rfl
theorem Rp.bl_inv {v : V} {i : Bool} (r : Rp K H v (.bl i)) : v = .bl i := by cases r; rfl
theorem pairs_of {S : Addr → Bool} : ∀ {xs : List V} {is : List (Int × Bool)}, Rps K (cut S H) xs (is.map fun p => D.tup [.int p.1, .bl p.2]) →
    ∃ ps : List Addr, xs = ps.map V.ref ∧ Paired (fun p (kv : Key × V) => SqT K H p [kV kv.1, kv.2]) ps (is.map fun p => ((Sum.inl p.1 : Key), V.bl p.2))
  | _, [], .nil => ⟨[], rfl, .nil⟩
  | _, (i, b) :: r, .cons x y => by
    obtain ⟨ps, rfl, h⟩ := pairs_of (is := r) y
    cases x with
    | @tup aa zs _ hT hx =>
      have e : zs = [.int i, .bl b] := by
        cases hx with
        | cons a1 a2 =>
          cases a2 with
          | cons a3 a4 => cases a4; rw [a1.int_inv, a3.bl_inv]
      subst e
      exact ⟨aa :: ps, rfl, .cons (Evl.ex_t (cut_ex S H) hT) h⟩
def keysOf (is : List (Int × Bool)) : List (Key × V) := mergeK [] (is.map fun p => ((Sum.inl p.1 : Key), V.bl p.2))
theorem rps_raws : ∀ xs : List V, Rps K H xs (xs.map D.raw)
  | [] => .nil
  | x :: r => .cons (.raw x) (rps_raws r)
theorem rc_dict {is : List (Int × Bool)} (hk : k (.dk ((keysOf is).map (·.1)) (((keysOf is).map (·.2)).map D.raw)) n) : RC K w (rDictP K) [.lst (is.map fun p => D.tup [.int p.1, .bl p.2])] n k := fun S vs H Q r ok p => by
  cases r with
  | cons a b =>
    cases b
    cases a with
    | lst hA xA =>
      obtain ⟨ps, rfl, hp⟩ := pairs_of xA
      refine ⟨_, ps, _, rfl, SqL.of (cut_some hA).2, hp, fun q hq => p _ _ _ n hk (Pres.new hq) (ok.new hq) (.dk (xs := (keysOf is).map (·.2)) ?_ (by simp) (rps_raws _))⟩
      have e : ((keysOf is).map (·.1)).zip ((keysOf is).map (·.2)) = keysOf is := by
        induction keysOf is with
        | nil => rfl
        | cons x r ih => simp [ih]
      rw [e]
      exact cut_new ok hq
end
end DW
set_option Elab.async false
set_option maxRecDepth 100000
set_option maxHeartbeats 4000000
set_option linter.all false
set_option autoImplicit false
namespace DW
open PySem PySem.Spec PyProof.Rows L2

/-! ### a < b < c < d -/
def tChain3 (r1 r2 r3 : R2) (ta tb tc td : TE) : TE := fun σ H Q => ta σ H fun x H1 => tb σ H1 fun y H2 => r1 x y H2 fun z H3 => ∃ k, z = .bl k ∧
  (if k = true then tc σ H3 fun u H4 => r2 y u H4 fun z' H5 => ∃ k', z' = .bl k' ∧ (if k' = true then td σ H5 fun v H6 => r3 u v H6 Q else Q (.bl false) H5) else Q (.bl false) H3)
section
variable {X : Cx} {a b c d : Expr} {ta tb tc td : TE} {pos : Pos} {o1 o2 o3 : CmpOp} {r1 r2 r3 : R2}
theorem pe_chain3 (h1 : OpR X (compareOp o1) r1) (h2 : OpR X (compareOp o2) r2) (h3 : OpR X (compareOp o3) r3) (ha : PE X a ta) (hb : PE X b tb) (hc : PE X c tc) (hd : PE X d td)
    (hm : lastMarks [o1, o2, o3] [b, c, d] = false := by with_unfolding_all rfl) : PE X (.Compare a [o1, o2, o3] [b, c, d] pos) (tChain3 r1 r2 r3 ta tb tc td) := by
  constructor
  intro pins s σ H Q I h
  apply Compare_chain (hm := hm)
  refine thn (ha.run pins s σ H _ I h) fun v s1 ⟨x, H1, I1, q1, k1⟩ => chain_link ?_
  refine thn (hb.run pins s1 σ H1 _ I1 k1) fun u s2 ⟨y, H2, I2, q2, k2⟩ => ?_
  refine thn (h1 pins s2 σ H2 x y v u _ I2 q1 q2 k2) fun _ s3 ⟨_, H3, I3, q3, k, e, k3⟩ => ?_
  subst e; cases q3
  apply wpAny_truthy_bool
  by_cases e : k = true
  · subst e
    apply ite_tt
    apply chain_link
    refine thn (hc.run pins s3 σ H3 _ I3 k3) fun u' s4 ⟨y', H4, I4, q4, k4⟩ => ?_
    refine thn (h2 pins s4 σ H4 y y' u u' _ I4 q2 q4 k4) fun _ s5 ⟨_, H5, I5, q5, k', e, k5⟩ => ?_
    subst e; cases q5
    apply wpAny_truthy_bool
    by_cases e : k' = true
    · subst e
      apply ite_tt
      apply chain_last
      exact thn (hd.run pins s5 σ H5 _ I5 k5) fun v' s6 ⟨x', H6, I6, q6, k6⟩ => h3 pins s6 σ H6 y' x' u' v' Q I6 q4 q6 k6
    · obtain rfl : k' = false := by simpa using e
      exact ite_ff ⟨.bl false, H5, I5, rfl, k5⟩
  · obtain rfl : k = false := by simpa using e
    exact ite_ff ⟨.bl false, H3, I3, rfl, k3⟩
theorem pt_chain3 (h1 : OpR X (compareOp o1) r1) (h2 : OpR X (compareOp o2) r2) (h3 : OpR X (compareOp o3) r3) (ha : PE X a ta) (hb : PE X b tb) (hc : PE X c tc) (hd : PE X d td)
    (hm : lastMarks [o1, o2, o3] [b, c, d] = false := by with_unfolding_all rfl) : PT X (.Compare a [o1, o2, o3] [b, c, d] pos) (tTest (tChain3 r1 r2 r3 ta tb tc td)) := by
  constructor
  intro pins s σ H Q I h
  apply isTrue_chain (hm := hm)
  refine thn (ha.run pins s σ H _ I h) fun v s1 ⟨x, H1, I1, q1, k1⟩ => test_link ?_
  refine thn (hb.run pins s1 σ H1 _ I1 k1) fun u s2 ⟨y, H2, I2, q2, k2⟩ => ?_
  refine thn (h1 pins s2 σ H2 x y v u _ I2 q1 q2 k2) fun _ s3 ⟨_, H3, I3, q3, k, e, k3⟩ => ?_
  subst e; cases q3
  apply wpAny_truthy_bool
  by_cases e : k = true
  · subst e
    apply ite_tt
    apply test_link
    refine thn (hc.run pins s3 σ H3 _ I3 k3) fun u' s4 ⟨y', H4, I4, q4, k4⟩ => ?_
    refine thn (h2 pins s4 σ H4 y y' u u' _ I4 q2 q4 k4) fun _ s5 ⟨_, H5, I5, q5, k', e, k5⟩ => ?_
    subst e; cases q5
    apply wpAny_truthy_bool
    by_cases e : k' = true
    · subst e
      apply ite_tt
      apply test_last
      refine thn (hd.run pins s5 σ H5 _ I5 k5) fun v' s6 ⟨x', H6, I6, q6, k6⟩ => ?_
      refine thn (h3 pins s6 σ H6 y' x' u' v' _ I6 q4 q6 k6) fun _ s7 ⟨_, H7, I7, q7, k'', e, k7⟩ => ?_
      subst e; cases q7
      exact wpAny_truthy_bool ⟨H7, I7, k7⟩
    · obtain rfl : k' = false := by simpa using e
      obtain ⟨j, ej, k5⟩ := k5
      cases ej
      exact ite_ff ⟨H5, I5, k5⟩
  · obtain rfl : k = false := by simpa using e
    obtain ⟨j, ej, k3⟩ := k3
    cases ej
    exact ite_ff ⟨H3, I3, k3⟩
end
/-! ### f(k = v, ..), keywords alone -/
section
variable {X : Cx} {CX : CXT} {k : Nat} {f : Addr} {fd : FuncData} {ps ks : List Str} {sp : Sp} {E : XK} {x : Str} {kws : List Keyword} {p pos : Pos} {tk : TA} {g : List Value → List Value → List Value} {gV : List V → List V → List V}
theorem pe_callN0 (F : FnOk X.prog X.w X.K X.mg X.base CX k f fd ps sp) (hr : Room k X.A) (hg : Gl X x) (hm : X.mg x = some (.ref f)) (hk : PySem.W.keepIn X.K (.ref f) = true) (hb : KBn X.K fd ps 0 ks g gV) (hx : Passes CX X E) (hkw : PK X kws tk)
    (hall : (backToKw pos (keywordEach kws X.env)).all (·.1.isSome) = true := by rfl) (hks : (backToKw pos (keywordEach kws X.env)).filterMap (·.1) = ks := by rfl) (hdb : (x == ("__debug__" : Str)) = false := by decide)
    (hpl : ((backTo pos (starEach [] X.env)).any (·.1) || (backToKw pos (keywordEach kws X.env)).any (·.1.isNone)) = false := by rfl) :
    PE X (.Call (.Name x p) [] kws pos) (tCallN 0 ks.length sp gV E tNil tk) := by
  constructor
  intro pins s σ H Q I h
  apply wpAny_Call_Name_kw
  apply ld_glob I hg hm _ hdb
  apply PySem.W.callWith_KW0 (h₀ := X.base) I.ok.mod.kin hk hall _ hpl
  refine thn (hkw.run pos pins s σ H _ I h) fun ws s2 ⟨zs, H2, I2, rz, l1, l2, q2⟩ => ?_
  refine ⟨I2.kIn, ?_⟩
  rw [hks]
  exact run_fnN (us := []) (vs := []) F hr hb hx I2 .nil rz rfl l2 q2
end

/-! ### isinstance by data -/
section
variable {K : PySem.W.Frag} {w : Option Addr} {S : Addr → Bool} {H H0 H1 H2 H' : Hp} {n m : Nat} {σ : L2.St} {ds : List (Option D)} {ta tb tc td te : TE} {tA tB : TA} {k : Kn} {d e : D}
def tyD : D → Option String
  | .non => some "NoneType"
  | .bl _ => some "bool"
  | .int _ => some "int"
  | .str _ => some "str"
  | .lst _ => some "list"
  | .tup _ => some "tuple"
  | _ => none
structure ObT (K : PySem.W.Frag) (C : Addr) : Prop where
  cl : Cls K C
  ha : PySem.W.findIn K (.ref C) "__class__" = some (some (.builtin "object.__class__"))
  hn : PySem.W.specialIn K (.builtin "object.__class__") "__get__" = some (some (.builtin "getset_descriptor.__get__"))
  htk : PySem.W.takesIn K (.builtin "object.__class__") = some true
  hm : PySem.W.mroIn K C (.type "object") = some true
theorem rp_ty {v : V} {T : String} (r : Rp K (cut S H) v d) (h : tyD d = some T) : TyX K H v (.type T) := by
  cases r with
  | non => cases h; exact .base .non
  | bl b => cases h; exact .base (.bl b)
  | int b => cases h; exact .base (.int b)
  | str b => cases h; exact .base (.str b)
  | lst hA xA => cases h; exact .base (.lst (cut_some hA).2)
  | tup hT xA =>
    cases h
    rcases Evl.ex_t (cut_ex S H) hT with (z | ⟨o, z⟩) | ⟨o, its, n, z, c, _⟩
    · exact .base (.tup z)
    · exact .fTuple z
    · exact .kTuple z c
  | obj _ _ _ => cases h
  | raw _ => cases h
  | dk _ _ _ => cases h
theorem rp_tyO {v : V} {C : Addr} {ns : List Str} {l : List D} (o : ObT K C) (r : Rp K (cut S H) v (.obj C ns l)) : TyX K H v (.ref C) := by
  cases r with
  | obj hO hl hx => exact .base (.ins (cut_some hO).2 o.cl o.ha o.hn o.htk o.hm)
def rIsiU (K : PySem.W.Frag) : RCT := fun xs H Q => rIsi K xs H Q ∨ rIsiT K xs H Q
theorem call_isiU {X : Cx} : CallR X (.builtin "isinstance") (rIsiU X.K) := call_isi.or call_isiT
theorem isi_go {c : V} {u t : Value} {b : Bool} (hc : ClsV c u) (ht : ∀ (S : Addr → Bool) (H : Hp) (v : V), Rp K (cut S H) v d → TyX K H v t) (hk2 : PySem.W.kitOne K t u = some b) (hk : k (.bl b) n) : RC K w (rIsiU K) [d, .raw c] n k := fun S vs H Q r ok p => by
  cases r with
  | cons a b' =>
    cases b' with
    | cons a' b' => cases b'; cases a'; exact .inl ⟨_, _, t, u, b, rfl, hc, ht S H _ a, hk2, p _ H _ n hk Pres.refl ok (.bl _)⟩
/-- a plain value, a built-in class -/
theorem isi_bb {T U : String} {b : Bool} (h1 : tyD d = some T) (h2 : kitB T U = some b) (hk : k (.bl b) n) : RC K w (rIsiU K) [d, .raw (.ty U)] n k := isi_go (.ty U) (fun S H v r => rp_ty r h1) (kit_ty h2) hk
theorem isi_bo {T : String} {C : Addr} {b : Bool} (h1 : tyD d = some T) (h2 : PySem.W.kitOne K (.type T) (.ref C) = some b) (hk : k (.bl b) n) : RC K w (rIsiU K) [d, .raw (.ref C)] n k := isi_go (.own C) (fun S H v r => rp_ty r h1) h2 hk
theorem isi_ob {C : Addr} {ns : List Str} {l : List D} {U : String} {b : Bool} (o : ObT K C) (h2 : PySem.W.kitOne K (.ref C) (.type U) = some b) (hk : k (.bl b) n) : RC K w (rIsiU K) [.obj C ns l, .raw (.ty U)] n k := isi_go (.ty U) (fun S H v r => rp_tyO o r) h2 hk
theorem isi_oo {C C' : Addr} {ns : List Str} {l : List D} {b : Bool} (o : ObT K C) (h2 : PySem.W.kitOne K (.ref C) (.ref C') = some b) (hk : k (.bl b) n) : RC K w (rIsiU K) [.obj C ns l, .raw (.ref C')] n k := isi_go (.own C') (fun S H v r => rp_tyO o r) h2 hk
theorem tup2_inv {H : Hp} {v : V} {a b : V} (r : Rp K (cut S H) v (.tup [.raw a, .raw b])) : ∃ p, v = .ref p ∧ SqT K H p [a, b] := by
  cases r with
  | @tup p xs _ hT hx =>
    cases hx with
    | cons h1 h2 =>
      cases h2 with
      | cons h3 h4 => cases h4; cases h1; cases h3; exact ⟨p, rfl, Evl.ex_t (cut_ex S H) hT⟩
/-- isinstance(x, (A, B)), the pair written there: its reading -/
def tIsi2 (K : PySem.W.Frag) (te : TE) (a b : V) : TE := tCB (rIsiT K) (tCons te (tCons (tTup (tCons (tC a) (tCons (tC b) tNil))) tNil))
theorem e_isi2 {t : D → Value} {u1 u2 : Value} {a b : V} (h1 : ClsV a u1) (h2 : ClsV b u2)
    (h : WpE K w te ds n fun d n1 => ∃ t r, (∀ (S : Addr → Bool) (H : Hp) (v : V), Rp K (cut S H) v d → TyX K H v t) ∧ PySem.W.kitAny K t [u1, u2] = some r ∧ k (.bl r) n1) : WpE K w (tIsi2 K te a b) ds n k := fun S H0 σ H Q re ok p =>
  h S H0 σ H _ re ok fun v H1 d n1 ⟨t, r, ht, hr, hk⟩ p1 ok1 r1 => by
    refine ⟨by show 2 ≤ sizeLine; decide, fun q hq => ?_⟩
    have ex := ex_cut ok1 (Pres.new (w := w) (o := .tup [a, b]) hq)
    exact ⟨v, q, [a, b], t, [u1, u2], r, rfl, upd_same, .cons h1 (.cons h2 .nil), ht S _ v (r1.mono ex), hr, p _ _ _ n1 hk (p1.trans (Pres.new hq)) (ok1.new hq) (.bl r)⟩
/-! ### deep == -/
mutual
def toPy : D → PyData
  | .non => .none
  | .bl b => .bool b
  | .int i => .int i
  | .str x => .str x
  | .lst l => .list (toPys l)
  | .tup l => .tuple (toPys l)
  | .obj _ _ _ => .none
  | .raw _ => .none
  | .own _ => .none
  | .dk _ _ => .none
def toPys : List D → List PyData
  | [] => []
  | d :: r => toPy d :: toPys r
end
mutual
def pureD : D → Bool
  | .non => true
  | .bl _ => true
  | .int _ => true
  | .str _ => true
  | .lst l => pureDs l
  | .tup l => pureDs l
  | .obj _ _ _ => false
  | .raw _ => false
  | .own _ => false
  | .dk _ _ => false
def pureDs : List D → Bool
  | [] => true
  | d :: r => pureD d && pureDs r
end
mutual
theorem Rp.dp : ∀ {v : V} {d : D}, Rp K (cut S H) v d → pureD d = true → Dp K H v (toPy d)
  | _, _, .non, _ => by unfold toPy; exact .non
  | _, _, .bl b, _ => by unfold toPy; exact .bl b
  | _, _, .int b, _ => by unfold toPy; exact .int b
  | _, _, .str b, _ => by unfold toPy; exact .str b
  | _, _, .lst hA xA, h => by
    unfold toPy
    unfold pureD at h
    exact .lst (SqL.of (cut_some hA).2) (Rps.dp xA h)
  | _, _, .tup hT xA, h => by
    unfold toPy
    unfold pureD at h
    exact .tup (Evl.ex_t (cut_ex S H) hT) (Rps.dp xA h)
  | _, _, .obj _ _ _, h => by unfold pureD at h; cases h
  | _, _, .raw _, h => by unfold pureD at h; cases h
  | _, _, .dk _ _ _, h => by unfold pureD at h; cases h
theorem Rps.dp : ∀ {vs : List V} {l : List D}, Rps K (cut S H) vs l → pureDs l = true → DpAll K H vs (toPys l)
  | _, _, .nil, _ => by unfold toPys; exact .nil
  | _, _, .cons a b, h => by
    unfold pureDs at h
    rw [Bool.and_eq_true] at h
    unfold toPys
    exact .cons (Rp.dp a h.1) (Rps.dp b h.2)
end
theorem rd_eqD (h1 : pureD d = true) (h2 : pureD e = true) (s1 : SeqAt.shaped (toPy d) = true) (s2 : SeqAt.shaped (toPy e) = true) (hk : k (.bl (PyData.eqv (toPy d) (toPy e))) n) : RD K w (rEqU K) d e n k := fun S v u H Q a b ok p =>
  .inr ⟨_, _, a.dp h1, b.dp h2, s1, s2, p _ H _ n hk Pres.refl ok (.bl _)⟩
theorem rd_neD (h1 : pureD d = true) (h2 : pureD e = true) (s1 : SeqAt.shaped (toPy d) = true) (s2 : SeqAt.shaped (toPy e) = true) (hk : k (.bl (!PyData.eqv (toPy d) (toPy e))) n) : RD K w (rNeU K) d e n k := fun S v u H Q a b ok p =>
  .inr ⟨_, _, a.dp h1, b.dp h2, s1, s2, p _ H _ n hk Pres.refl ok (.bl _)⟩
/-! ### repr of lists and tuples -/
def rReprU (K : PySem.W.Frag) : RCT := fun xs H Q => ∃ (a : Addr) (d : PyData), xs = [.ref a] ∧ Dp K H (.ref a) d ∧ d.showable = true ∧ d.hasDict = false ∧ d.depth ≤ 60 ∧ d.shown.length ≤ sizeLine ∧ Q (.str d.shown) H
theorem call_reprU {X : Cx} (hg : X.A.guards = some []) (hu : X.A.units + 64 < cLine) : CallR X (.builtin "repr") (rReprU X.K) := by
  intro pins s σ H xs us Q I r h
  obtain ⟨a, d, rfl, hd, h1, h2, h3, h4, q⟩ := h
  cases r with
  | cons ra rb =>
    cases rb
    have ea := ra
    cases ra
    obtain ⟨as, hr⟩ := Dp.reads I d (.ref a) _ hd ea
    refine repr_of_reads' hr h1 (fun z => ?_) hg (by omega) (fun _ _ z => z) (fun h' u tk hk => ?_) h4
    · rw [h2] at z; cases z
    · exact ⟨.str d.shown, H, I.kept (t' := tk) hk, ⟨_, rfl⟩, q⟩
theorem rc_reprL {l : List D} (h1 : pureDs l = true) (h2 : (toPy (.lst l)).showable = true) (h3 : (toPy (.lst l)).hasDict = false) (h4 : (toPy (.lst l)).depth ≤ 60) (h5 : (toPy (.lst l)).shown.length ≤ sizeLine) (hk : k (.str (toPy (.lst l)).shown) n) :
    RC K w (rReprU K) [.lst l] n k := fun S vs H Q r ok p => by
  cases r with
  | cons a b =>
    cases b
    have hd := a.dp (by unfold pureD; exact h1)
    cases a
    exact ⟨_, _, rfl, hd, h2, h3, h4, h5, p _ H _ n hk Pres.refl ok (.str _)⟩
/-! ### chains of comparisons by data -/
theorem e_chain {r r' : R2} (h : WpE K w ta ds n fun d1 n1 => WpE K w tb ds n1 fun d2 n2 => RD K w r d1 d2 n2 fun z n3 => ∃ b, z = .bl b ∧
      (b = true → WpE K w tc ds n3 fun d3 n4 => RD K w r' d2 d3 n4 k) ∧ (b = false → k (.bl false) n3)) : WpE K w (tChain r r' ta tb tc) ds n k := fun S H0 σ H Q re ok p =>
  h S H0 σ H _ re ok fun v H1 d1 n1 h1 p1 ok1 r1 => h1 S H0 σ H1 _ (re.up ok p1) ok1 fun u H2 d2 n2 h2 p2 ok2 r2 => by
    have re2 := (re.up ok p1).up ok1 p2
    refine h2 S v u H2 _ (r1.mono (ex_cut ok1 p2)) r2 ok2 fun z H3 dz n3 ⟨b, e, hb1, hb2⟩ p3 ok3 r3 => ?_
    subst e
    cases r3
    refine ⟨b, rfl, ?_⟩
    cases b with
    | false => exact p _ H3 _ n3 (hb2 rfl) ((p1.trans p2).trans p3) ok3 (.bl false)
    | true =>
      refine hb1 rfl S H0 σ H3 _ (re2.up ok2 p3) ok3 fun y H4 d3 n4 h4 p4 ok4 r4 => ?_
      exact h4 S u y H4 Q (r2.mono ((ex_cut ok2 p3).trans (ex_cut ok3 p4))) r4 ok4 (p.from (((p1.trans p2).trans p3).trans p4))
theorem e_chain3 {r r' r'' : R2} (h : WpE K w ta ds n fun d1 n1 => WpE K w tb ds n1 fun d2 n2 => RD K w r d1 d2 n2 fun z n3 => ∃ b, z = .bl b ∧
      (b = true → WpE K w tc ds n3 fun d3 n4 => RD K w r' d2 d3 n4 fun z' n5 => ∃ b', z' = .bl b' ∧ (b' = true → WpE K w td ds n5 fun d4 n6 => RD K w r'' d3 d4 n6 k) ∧ (b' = false → k (.bl false) n5)) ∧ (b = false → k (.bl false) n3)) :
    WpE K w (tChain3 r r' r'' ta tb tc td) ds n k := fun S H0 σ H Q re ok p =>
  h S H0 σ H _ re ok fun v H1 d1 n1 h1 p1 ok1 r1 => h1 S H0 σ H1 _ (re.up ok p1) ok1 fun u H2 d2 n2 h2 p2 ok2 r2 => by
    have re2 := (re.up ok p1).up ok1 p2
    refine h2 S v u H2 _ (r1.mono (ex_cut ok1 p2)) r2 ok2 fun z H3 dz n3 ⟨b, e, hb1, hb2⟩ p3 ok3 r3 => ?_
    subst e
    cases r3
    refine ⟨b, rfl, ?_⟩
    have p123 := (p1.trans p2).trans p3
    cases b with
    | false => exact p _ H3 _ n3 (hb2 rfl) p123 ok3 (.bl false)
    | true =>
      refine hb1 rfl S H0 σ H3 _ (re2.up ok2 p3) ok3 fun y H4 d3 n4 h4 p4 ok4 r4 => ?_
      refine h4 S u y H4 _ (r2.mono ((ex_cut ok2 p3).trans (ex_cut ok3 p4))) r4 ok4 fun z' H5 dz' n5 ⟨b', e', hc1, hc2⟩ p5 ok5 r5 => ?_
      subst e'
      cases r5
      refine ⟨b', rfl, ?_⟩
      cases b' with
      | false => exact p _ H5 _ n5 (hc2 rfl) ((p123.trans p4).trans p5) ok5 (.bl false)
      | true =>
        refine hc1 rfl S H0 σ H5 _ (((re2.up ok2 p3).up ok3 p4).up ok4 p5) ok5 fun y' H6 d4 n6 h6 p6 ok6 r6 => ?_
        exact h6 S y y' H6 Q (r4.mono ((ex_cut ok4 p5).trans (ex_cut ok5 p6))) r6 ok6 (p.from (((p123.trans p4).trans p5).trans p6))
/-! ### in, not in, over flat values -/
def flatD : D → Bool
  | .non => true
  | .bl _ => true
  | .int _ => true
  | .str _ => true
  | _ => false
def vD : D → V
  | .non => .non
  | .bl b => .bl b
  | .int i => .int i
  | .str x => .str x
  | _ => .non
theorem rp_flat {v : V} (r : Rp K H v d) (h : flatD d = true) : v = vD d ∧ flatV v = true := by cases r <;> first | exact ⟨rfl, rfl⟩ | cases h
theorem rps_flat : ∀ {vs : List V} {l : List D}, Rps K H vs l → l.all flatD = true → vs = l.map vD ∧ vs.all flatV = true
  | _, _, .nil, _ => ⟨rfl, rfl⟩
  | _, _, .cons a b, h => by
    rw [List.all_cons, Bool.and_eq_true] at h
    obtain ⟨e1, f1⟩ := rp_flat a h.1
    obtain ⟨e2, f2⟩ := rps_flat b h.2
    exact ⟨by rw [e1, e2]; rfl, by rw [List.all_cons, f1, f2]; rfl⟩
theorem rd_inL {l : List D} {neg : Bool} (h1 : flatD d = true) (h2 : l.all flatD = true) (hk : k (.bl (if neg then !inV (vD d) (l.map vD) else inV (vD d) (l.map vD))) n) : RD K w (rIn K neg) d (.lst l) n k := fun S v u H Q a b ok p => by
  obtain ⟨e1, f1⟩ := rp_flat a h1
  cases b with
  | lst hA xA =>
    obtain ⟨e2, f2⟩ := rps_flat xA h2
    exact ⟨_, _, rfl, .inl (SqL.of (cut_some hA).2), f1, f2, by rw [e1, e2]; exact p _ H _ n hk Pres.refl ok (.bl _)⟩
theorem rd_inT {l : List D} {neg : Bool} (h1 : flatD d = true) (h2 : l.all flatD = true) (hk : k (.bl (if neg then !inV (vD d) (l.map vD) else inV (vD d) (l.map vD))) n) : RD K w (rIn K neg) d (.tup l) n k := fun S v u H Q a b ok p => by
  obtain ⟨e1, f1⟩ := rp_flat a h1
  cases b with
  | tup hA xA =>
    obtain ⟨e2, f2⟩ := rps_flat xA h2
    exact ⟨_, _, rfl, .inr (Evl.ex_t (cut_ex S H) hA), f1, f2, by rw [e1, e2]; exact p _ H _ n hk Pres.refl ok (.bl _)⟩
/-! ### truth of any value -/
def tTruU (K : PySem.W.Frag) (ta : TE) : TT := fun σ H Q => ta σ H fun x H' => ∃ k, TruV K x H' k ∧ Q k H'
/-! ### list(range(..)) -/
theorem e_lstRg1 (h : WpE K w ta ds n fun d n1 => ∃ j : Int, d = .int j ∧ (-(2 ^ 62) ≤ j ∧ j ≤ 100000) ∧ k (.lst (rgD 0 j.toNat)) n1) : WpE K w (tLstRg (tRg1 ta)) ds n k := fun S H0 σ H Q re ok p =>
  h S H0 σ H _ re ok fun v H1 d n1 ⟨j, e, hj, hk⟩ p1 ok1 r1 => by
    subst e
    cases r1
    refine ⟨j, rfl, ⟨by omega, by omega, hj.1, by omega, by omega⟩, fun q hq => p _ _ _ n1 hk (p1.trans (Pres.new hq)) (ok1.new hq) (.lst (xs := rgV 0 j) (cut_new ok1 hq) ?_)⟩
    have e : rgV 0 j = ((List.range j.toNat).map fun i => (0 : Int) + (i : Nat)).map V.int := by unfold rgV; rw [List.map_map, Int.sub_zero]; rfl
    have e' : rgD 0 j.toNat = ((List.range j.toNat).map fun i => (0 : Int) + (i : Nat)).map D.int := by unfold rgD; rw [List.map_map]; rfl
    rw [e, e']; exact Rps.of_ints _
theorem e_lstRg2 (h : WpE K w ta ds n fun d n1 => WpE K w tb ds n1 fun d' n2 => ∃ i j : Int, d = .int i ∧ d' = .int j ∧ (-(2 ^ 61) ≤ i ∧ i < 2 ^ 61 ∧ -(2 ^ 61) ≤ j ∧ j ≤ i + 100000) ∧ k (.lst (rgD i (j - i).toNat)) n2) : WpE K w (tLstRg (tRg2 ta tb)) ds n k := fun S H0 σ H Q re ok p =>
  h S H0 σ H _ re ok fun v H1 d n1 h1 p1 ok1 r1 => h1 S H0 σ H1 _ (re.up ok p1) ok1 fun u H2 d' n2 ⟨i, j, e, e', hj, hk⟩ p2 ok2 r2 => by
    subst e e'
    cases r1; cases r2
    refine ⟨i, j, rfl, rfl, ⟨by omega, by omega, by omega, by omega, by omega⟩, fun q hq => p _ _ _ n2 hk ((p1.trans p2).trans (Pres.new hq)) (ok2.new hq) (.lst (xs := rgV i j) (cut_new ok2 hq) ?_)⟩
    have e : rgV i j = ((List.range (j - i).toNat).map fun m => i + (m : Nat)).map V.int := by unfold rgV; rw [List.map_map]; rfl
    have e' : rgD i (j - i).toNat = ((List.range (j - i).toNat).map fun m => i + (m : Nat)).map D.int := by unfold rgD; rw [List.map_map]; rfl
    rw [e, e']; exact Rps.of_ints _
end
end DW
set_option Elab.async false
set_option maxRecDepth 100000
set_option maxHeartbeats 4000000
set_option linter.all false
set_option autoImplicit false
/-! super().__init__(..) of a class of the text -/
namespace DW
open PySem PySem.Spec PyProof.Rows L2 NdefX

/-- super().m within a method of D, for an instance of C: the def at f2 -/
structure SupAt (K : PySem.W.Frag) (D C f2 : Addr) (m : Str) : Prop where
  sub : PySem.W.mroIn K C (.ref D) = some true
  at_ : PySem.W.ks_superIn K C D m = some (some (.ref f2))
/-- what of the text a def with super() must have -/
structure SupFn (K : PySem.W.Frag) (P : Program) (D cc cda f2 : Addr) : Prop where
  dc : ∃ cd, PySem.W.clsIn K D = some cd
  code : ∃ ccl cdd vs ccs file tf, K.lookup cda = some ⟨ccl, cdd, .fields vs, ccs⟩ ∧ vs[2]? = some (.str file tf) ∧ ((P.main.file : Str) == file) = true
  cell : ∃ cl cld csl, K.lookup cc = some ⟨cl, cld, .cell (some (.ref D)), csl⟩
  op : PySem.W.nsIn K cStatics "thirdparty.any" = some none
  ty : PySem.W.typeIn K (.ref f2) = some (.type "function")
  fi : PySem.W.fnIn K f2 = true
  top : (P.main.scope.names.lookup ("super" : Str)).isSome = false
section
variable {X : Cx} {pins : List (Addr × Obj)} {σ : L2.St} {H : Hp} {s : Shared}
/-- the record of a bound method, laid -/
theorem bound_new {g x : Addr} (I : Inv X pins σ H s) : Inv X ((s.heap.objs.size, PySem.W.methodObj (.ref g) (.ref x)) :: pins) σ H { s with heap := s.heap.push (PySem.W.methodObj (.ref g) (.ref x)), toks := s.toks + 1 } :=
  ClX.pin_new I (fun _ _ z => Heap.get?_push_of_some _ z) (Nat.le_refl _) (Heap.get?_push_size s.heap rfl) (fun v z => nomatch z)
theorem super_stmt {CX : CXT} {k : Nat} {sp : Sp} {E : XK} {D C f f2 cc cda x dx : Addr} {q : Str} {scope : Scope} {L : Addr} {body : List Stmt} {p0 p1 apos pos pos2 : Pos} {m : Str} {e : Expr} {es : List Expr} {t : TA} {oc : Value} {od : Option Addr} {osl : Array (Option Value)} {fd : FuncData} {ar : Arg} {fs : List (Str × V)} {Q : Hp → Prop} {pl : Sem Bool}
    (he : X.env = PySem.W.ksEnv q scope L f (.ref cda) cc) (S : SupFn X.K X.prog D cc cda f2) (A : SupAt X.K D C f2 m) (hf : X.K.lookup f = some ⟨oc, od, .func fd, osl⟩) (hp : (fd.params.posonlyargs ++ fd.params.args).head? = some ar)
    (hself : X.N[0]? = some ar.arg) (hx0 : σ[0]? = some (some (.ref x))) (hH : H x = some (.ins C dx fs)) (hm : X.mg "super" = none)
    (hks : scope.names.lookup ("super" : Str) = some .globalImplicit) (hkc : scope.names.lookup ("__class__" : Str) = some .free) (hka : scope.names.lookup ar.arg = some .local)
    (F : FnR X.prog X.w X.K X.mg X.base CX k f2 sp) (hr : Room k X.A) (hps : Passes CX X E) (ha : PA X (e :: es) t) (I : Inv X pins σ H s) (h : t σ H fun ws H1 => sp (.ref x :: ws) H1 (fun _ H2 => Q H2) E)
    (hn : (m == ("__class__" : Str)) = false := by decide)
    (hst : starEach (e :: es) X.env = (false, eval e X.env) :: starEach es X.env := by rfl) (hpl : (backTo pos (starEach es X.env)).any (·.1) = false := by rfl)
    (hev : eval (.Call (.Attribute (.Call (.Name "super" p0) [] [] p1) m apos) (e :: es) [] pos) X.env = (do
      let ov ← attributeBase (.Call (.Name "super" p0) [] [] p1) m X.env (eval (.Call (.Name "super" p0) [] [] p1) X.env)
      standAt apos.atName
      let (f, first) ← holding [ov] (getMethod ov m pl)
      callWith pos f first (backTo pos (starEach (e :: es) X.env)) []) := by rfl) :
    _root_.PySem.wpAt (model X.prog X.w) X.A (.func body X.env) (exec (.Expr (.Call (.Attribute (.Call (.Name "super" p0) [] [] p1) m apos) (e :: es) [] pos) pos2) X.env)
      (fun fl s' => fl = .next ∧ ∃ H', Inv X pins σ H' s' ∧ Q H') X.xe s := by
  obtain ⟨cdD, hD⟩ := S.dc
  obtain ⟨ccl, cdd, vs, ccs, file, tf, hcode, hvs, hfile⟩ := S.code
  obtain ⟨cl, cld, csl, hcell⟩ := S.cell
  obtain ⟨mA, O, -⟩ := ins_get I.hok hH
  obtain ⟨od', J, -⟩ := O.look
  have KX := I.kIn
  obtain ⟨oD, hD1, hD2⟩ : ∃ oD, s.heap.get? D = some oD ∧ oD.data = .cls cdD := by
    unfold PySem.W.clsIn at hD
    split at hD
    · rename_i c d cd' sl ho
      cases hD
      exact ⟨_, KX _ _ ho, rfl⟩
    · cases hD
  obtain ⟨cdC, hC⟩ : ∃ cdC, PySem.W.clsIn X.K C = some cdC := by
    have a := A.at_
    unfold PySem.W.ks_superIn at a
    cases z : PySem.W.clsIn X.K C with
    | none => rw [z] at a; cases a
    | some cd => exact ⟨cd, rfl⟩
  have hal := A.at_
  unfold PySem.W.ks_superIn at hal
  rw [hC] at hal
  obtain ⟨of, hof, hofc⟩ : ∃ of, X.K.lookup f2 = some of ∧ of.cls = .type "function" := by
    have ht' : (X.K.lookup f2).map (·.cls) = some (.type "function") := S.ty
    cases z : X.K.lookup f2 with
    | none => rw [z] at ht'; cases ht'
    | some of => rw [z] at ht'; exact ⟨of, rfl, Option.some.inj ht'⟩
  obtain ⟨mb, hb1, hb2⟩ := I.mod.blt
  have hk : X.env.scope.kind = .function := I.ok.kind
  have kS : X.env.kindOf "super" = some .globalImplicit := by rw [he]; exact hks
  have kC : X.env.kindOf "__class__" = some .free := by rw [he]; exact hkc
  have kA : X.env.kindOf ar.arg = some .local := by rw [he]; exact hka
  have xC : x ≠ C := PySem.W.ks_ne KX J hC
  refine ks_wpAt_Expr_any ?_ (by unfold interactive; simp [hk]) (by rfl)
  refine ks_wpAt_MethodCall (pl := pl) ?_ hev
  refine ks_wpAt_super_base kS kC hn (f := f) (by rw [he]) (KX _ _ hf) rfl hp (cc := cda) (by rw [he]) (KX _ _ hcode) rfl hvs hfile S.top ?_
  refine PySem.W.ks_loadName_global hk kS (Calls.loadGlobal_builtin (by rw [I.ok.glob]; exact I.mod.glob.keeps I.bk) hm (by rw [I.ok.blt]; exact hb1.keeps I.bk) ((hb2 "super" (by decide)).trans (show bootBuiltins "super" = some (.type "super") from by rfl)) ⟨rfl, ?_⟩)
  refine wpAny_loadName_free hk kC (c := cc) (by rw [he]; rfl) ⟨_, KX _ _ hcell, rfl⟩ ?_
  obtain ⟨mm, hns, hlk⟩ := I.loc
  obtain ⟨u, ru, hl⟩ := hlk 0 ar.arg (.ref x) hself hx0 (.inl (by rw [he]; exact hka))
  obtain rfl : u = Value.ref x := ru
  have hv : mm ar.arg = some (.ref x) := by
    rcases hl with ⟨_, z⟩ | ⟨z, _⟩
    · exact z
    · rw [kA] at z
      rcases z with z | z <;> cases z
  refine wpAny_loadName_local hk kA hns hv ?_
  refine ks_wpAny_isType_cls hD1 hD2 ⟨rfl, ?_⟩
  refine ks_wpAny_call_super hD1 hD2 J.at_ J.cls (fun c z => ?_) (PySem.W.looks_mroIn KX A.sub) (fun h' e0 kp => ?_)
  · have := J.no
    unfold PySem.W.notCls at this
    rw [z] at this
    exact Bool.noConfusion this
  have I1 : Inv X pins σ H { s with heap := h', toks := s.toks } := I.kept kp
  have KX1 := I1.kIn
  refine ks_wpAny_getMethod_super (l₀ := cdC.mro) e0 (PySem.W.looks_opaque KX1 S.op) ?_ rfl KX1 hal (KX1 _ _ hof) hofc xC hn ?_
  · exact fun A Q E s k q => wpAny_bind ((PySem.W.looks_clsIn KX1 hC) A _ E s k (wpAny_pure q))
  have I2 := bound_new (g := f2) (x := x) I1
  refine ClX.callwith_cm (C := x) (g := f2) I2 (ClX.base_none I1 (Nat.le_refl _)) S.fi ?_ hst hpl
  refine thn (ha.run pos _ _ σ H _ I2 h) fun us s3 ⟨ws, H1, I3, rv, q3⟩ => ?_
  have hq := ClX.pin_at I3
  refine ⟨⟨hq, I3.kIn⟩, ?_⟩
  refine thn (ClX.run_cm (C := x) (g := f2) F hr hps I3 rv q3) fun v s4 ⟨v', H4, I4, rv4, q4⟩ => ?_
  exact ⟨rfl, H4, I4, q4⟩
end
/-! ### a def whose first statement is super().m(..) -/
section
variable {CX : CXT} {P : Program} {w : World} {K : PySem.W.Frag} {mg : Str → Option Value} {base : Heap} {k k2 : Nat} {f D cc cda f2 : Addr} {name qual : Str} {params : Arguments} {scope : Scope} {dV kV doc pm ct oc : Value} {an od : Option Addr}
  {osl : Array (Option Value)} {N ps : List Str} {sp sp2 : Sp} {p0 p1 apos pos pos2 : Pos} {m : Str} {e : Expr} {es : List Expr} {rest : List Stmt} {ar : Arg}
abbrev supF (name qual : Str) (params : Arguments) (body : List Stmt) (scope : Scope) (cc cda : Addr) : NF := ⟨name, qual, params, body, scope, [("__class__", cc)], cda⟩
abbrev supS (p0 p1 apos pos pos2 : Pos) (m : Str) (e : Expr) (es : List Expr) : Stmt := .Expr (.Call (.Attribute (.Call (.Name "super" p0) [] [] p1) m apos) (e :: es) [] pos) pos2
theorem fn_super (lk : K.lookup f = some ⟨oc, od, .func (PySem.W.fnX name qual params (supS p0 p1 apos pos pos2 m e es :: rest) scope [("__class__", cc)] dV kV doc pm an (.ref cda) ct), osl⟩) (hcd : PySem.W.codeIn K (.ref cda) qual = true) (S : NScope N ps ["__class__"] scope) (hp0 : ps ≠ [])
    (Sf : SupFn K P D cc cda f2) (F2 : FnR P w K mg base CX k2 f2 sp2) (hk2 : k2 ≤ k) (hm : mg "super" = none) (hp : (params.posonlyargs ++ params.args).head? = some ar) (ha0 : ps[0]? = some ar.arg)
    (hks : scope.names.lookup ("super" : Str) = some .globalImplicit) (len : ∀ vs H Q E, sp vs H Q E → vs.length = ps.length) (hn : (m == ("__class__" : Str)) = false)
    (hst : ∀ env : Env, starEach (e :: es) env = (false, eval e env) :: starEach es env) (hpl : ∀ env : Env, (backTo pos (starEach es env)).any (·.1) = false) (pl : Sem Bool)
    (hev : ∀ env : Env, eval (.Call (.Attribute (.Call (.Name "super" p0) [] [] p1) m apos) (e :: es) [] pos) env = (do
      let ov ← attributeBase (.Call (.Name "super" p0) [] [] p1) m env (eval (.Call (.Name "super" p0) [] [] p1) env)
      standAt apos.atName
      let (f, first) ← holding [ov] (getMethod ov m pl)
      callWith pos f first (backTo pos (starEach (e :: es) env)) []))
    (hbody : ∀ (A : Around) (outer : List Env) (s : Shared) (H : Hp) (vs : List V) (Q : VK) (E : XK), Room k (A.deeper (envF (supF name qual params (supS p0 p1 apos pos pos2 m e es :: rest) scope cc cda) f s.heap.objs.size)) → sp vs H Q E →
      ∃ x C dx fs E2 ta t, vs.head? = some (.ref x) ∧ H x = some (.ins C dx fs) ∧ SupAt K D C f2 m ∧
        Passes CX (ncx CX P w K mg base N (supF name qual params (supS p0 p1 apos pos pos2 m e es :: rest) scope cc cda) f A outer s H E) E2 ∧
        PA (ncx CX P w K mg base N (supF name qual params (supS p0 p1 apos pos pos2 m e es :: rest) scope cc cda) f A outer s H E) (e :: es) ta ∧
        PSs (ncx CX P w K mg base N (supF name qual params (supS p0 p1 apos pos pos2 m e es :: rest) scope cc cda) f A outer s H E) rest t ∧
        ta (startF N vs [some (.ref D)]) H (fun ws H1 => sp2 (.ref x :: ws) H1 (fun _ H2 => t { nx := fun _ H' => Q .non H', rt := Q } (startF N vs [some (.ref D)]) H2) E2)) :
    FnOk P w K mg base CX (k + 1) f (PySem.W.fnX name qual params (supS p0 p1 apos pos pos2 m e es :: rest) scope [("__class__", cc)] dV kV doc pm an (.ref cda) ct) ps sp := by
  refine ⟨len, fun A outer s H args us vs Q E hr e0 hb r hsp => ?_⟩
  have hl := len _ _ _ _ hsp
  have KX : K.In s.heap := e0.mod.kin.keeps fun b o e => (e0.bs b o e).1
  have lim : s.heap.NoLimit := e0.mod.nolimit.keeps fun b o e => (e0.bs b o e).1
  obtain ⟨cl, cld, csl, hcell⟩ := Sf.cell
  have hccb := e0.mod.kin _ _ hcell
  have hcc := e0.bs _ _ hccb
  refine codeAny_call_function hr.depth (KX _ _ lk) rfl S.co S.gen rfl (PySem.W.codeRec_of KX hcd) (hb _ _ _ _ ?_)
  refine wpAny_newFunctionEnv S.nocell (fun ⟨n, _⟩ hy => S.par n (List.of_mem_zip hy).1) (fun h₁ hns hsb => ⟨lim.fresh _ hsb, ?_⟩) S.kind
  have kp : ∀ b o, s.heap.get? b = some o → h₁.get? b = some o := fun b o e => hsb.extBut b o (Nat.ne_of_lt (Heap.lt_size e)) (Heap.get?_push_of_some _ e)
  have C : CellsAt [("__class__", cc)] ["__class__"] [some (.ref D)] s.heap H := by
    refine ⟨rfl, fun y c z => ?_, fun x y c z1 z2 => ?_, fun i y hi => ?_⟩
    · rw [List.lookup_cons] at z
      split at z
      · cases z; exact ⟨hcc.2, _, _, hcc.1, rfl⟩
      · cases z
    · rw [List.lookup_cons] at z1 z2
      split at z1
      · rename_i q1
        split at z2
        · rename_i q2
          rw [beq_iff_eq.mp q1, beq_iff_eq.mp q2]
        · cases z2
      · cases z1
    · cases i with
      | zero =>
        simp at hi
        subst hi
        refine ⟨cc, by simp [List.lookup_cons], fun v hv => ?_⟩
        simp at hv
        subst hv
        exact ⟨.ref D, rfl, _, hcc.1, rfl⟩
      | succ i => simp at hi
  obtain ⟨x, C0, dx, fs, E2, ta, t, hx0, hxH, hA, hps, hta, ht, hq⟩ := hbody A outer s H vs Q E (hr.deeper _) hsp
  have I : Inv (ncx CX P w K mg base N (supF name qual params (supS p0 p1 apos pos pos2 m e es :: rest) scope cc cda) f A outer s H E) [] (startF N vs [some (.ref D)]) H { s with heap := h₁, toks := s.toks + (ps.zip us).length } := inv_startN S hr.hd e0 hl r C hns kp
  have h0N : N[0]? = some ar.arg := by
    have z := congrArg (fun l => l[0]?) S.pre
    have hpl' : 0 < ps.length := List.length_pos_iff.mpr hp0
    rw [List.getElem?_take_of_lt (by simp), List.getElem?_append_left hpl'] at z
    rw [z]; exact ha0
  have hx0' : (startF N vs [some (V.ref D)])[0]? = some (some (.ref x)) := by
    cases vs with
    | nil => simp at hx0
    | cons v r => simp at hx0; subst hx0; rfl
  refine ks_codeAny_funcAt ?_
  show _root_.PySem.wpAt _ (A.deeper (envF (supF name qual params (supS p0 p1 apos pos pos2 m e es :: rest) scope cc cda) f s.heap.objs.size)) (.func _ (envF (supF name qual params (supS p0 p1 apos pos pos2 m e es :: rest) scope cc cda) f s.heap.objs.size)) (execs (supS p0 p1 apos pos pos2 m e es :: rest) (envF (supF name qual params (supS p0 p1 apos pos pos2 m e es :: rest) scope cc cda) f s.heap.objs.size)) _ _ _
  refine ks_wpAt_execs_cons (ks_wpAt_mono (super_stmt (X := ncx CX P w K mg base N (supF name qual params (supS p0 p1 apos pos pos2 m e es :: rest) scope cc cda) f A outer s H E) (pl := pl) rfl Sf hA lk hp h0N hx0' hxH hm hks (S.frk _ List.mem_cons_self) (S.par _ (List.mem_of_getElem? ha0)) F2 (hr.deeper _ |>.mono hk2) hps hta I hq hn (hst _) (hpl _) (hev _)) (fun fl s' hs => ?_) fun e s' z => z)
  obtain ⟨rfl, H2, I2, q2⟩ := hs
  refine wpAt_of_wpAny ?_
  refine wpAny_mono (ht.run [] s' _ H2 _ I2 q2) (fun fl s' hs => ?_) fun e s' hs => hs
  have fin : ∀ {σ' : L2.St} {H' : Hp} {v : V} {u : Value}, Inv (ncx CX P w K mg base N (supF name qual params (supS p0 p1 apos pos pos2 m e es :: rest) scope cc cda) f A outer s H E) [] σ' H' s' → L2.RelV v u → Q v H' → CE outer P w H s Q u s' :=
    fun {σ' H' v u} J rv q => ⟨v, H', J.os, J.bare, J.base, J.hok, rv, q⟩
  cases fl with
  | ret u =>
    obtain ⟨v, σ', H', J, rv, q⟩ := hs
    exact fin J rv q
  | next =>
    obtain ⟨σ', H', J, q⟩ := hs
    exact fin (v := V.non) (u := Value.none) J rfl q
  | brk =>
    obtain ⟨_, _, _, q⟩ := hs
    exact False.elim q
  | cont =>
    obtain ⟨_, _, _, q⟩ := hs
    exact False.elim q
end
end DW
set_option Elab.async false
set_option maxRecDepth 100000
set_option maxHeartbeats 4000000
set_option linter.all false
set_option autoImplicit false
/-! the bodies of __init__ -/
namespace DW
open PySem PySem.Spec PyProof.Rows L2 NdefX

/-! ### attributes as targets -/
def gAttr (K : PySem.W.Frag) (ta : TE) (f : Str) : TG := fun v σ H Q => ta σ H fun x H2 => ∃ a C dx fs, x = .ref a ∧ H2 a = some (.ins C dx fs) ∧ Cls K C ∧ NoAttr K C f ∧ fs.length < 1000 ∧ Q σ (upd H2 a (.ins C dx (putF f v fs)))
theorem pg_attr {X : Cx} {o : Expr} {f : Str} {pos : Pos} {ta : TE} (ha : PE X o ta) : PG X (.Attribute o f pos) (gAttr X.K ta f) := by
  refine ⟨fun pins s σ H v u Q I r h => ?_⟩
  rw [assign_Attribute]
  refine wpAny_bind (wpAny_holding (thn (ha.run pins s σ H _ I h) fun ov s1 ⟨x, H1, I1, rx, a, C, dx, fs, ex, ea, c, n, l, q⟩ => ?_))
  subst ex
  obtain rfl : ov = Value.ref a := rx
  refine wpAny_bind (wpAny_standAt (wpAny_bind (wpAny_holding ?_)))
  exact setattr_ok I1 ea c n l r fun s3 I3 => wpAny_release ⟨σ, _, I3, q⟩
def gAttrs (K : PySem.W.Frag) (ta : TE) : List Str → TGs
  | [] => gNil
  | f :: r => gCons (gAttr K ta f) (gAttrs K ta r)

abbrev Kf := List (Option D) → List Str → List D → Prop
section
variable {K : PySem.W.Frag} {w : Option Addr} {C : Addr} {S : Addr → Bool} {H H0 H1 H2 H' : Hp} {n m : Nat} {σ : L2.St} {ds : List (Option D)} {ta tb te : TE} {tA tB : TA} {t u : TS} {c : TT} {x dx : Addr} {ns : List Str} {xs : List V} {l : List D} {k k' : Kf}
theorem okN (ok : OkW K none S H n) : OkW K none S H m := ⟨fun p h => (nomatch h), ok.2⟩
/-- in the midst of an __init__: x is the object, ns its attributes so far -/
structure NSt (K : PySem.W.Frag) (C : Addr) (S : Addr → Bool) (H0 : Hp) (x dx : Addr) (σ : L2.St) (H : Hp) (ds : List (Option D)) (ns : List Str) (xs : List V) (l : List D) : Prop where
  re : RpE K none S H0 H σ ds
  ok : OkW K none S H 0
  sx : S x = true
  s0 : σ[0]? = some (some (.ref x))
  d0 : ds[0]? = some none
  hx : H x = some (.ins C dx (ns.zip xs))
  len : xs.length = ns.length
  rps : Rps K (cut S H) xs l
def WpN (K : PySem.W.Frag) (C : Addr) (t : TS) (ds : List (Option D)) (ns : List Str) (l : List D) (k : Kf) : Prop :=
  ∀ (S : Addr → Bool) (H0 : Hp) (x dx : Addr) (σ : L2.St) (H : Hp) (xs : List V) (E : Ends), NSt K C S H0 x dx σ H ds ns xs l →
    (∀ (σ' : L2.St) (H' : Hp) (ds' : List (Option D)) (ns' : List Str) (xs' : List V) (l' : List D), k ds' ns' l' → (∀ a o, a ≠ x → H a = some o → H' a = some o) → NSt K C S H0 x dx σ' H' ds' ns' xs' l' → E.nx σ' H') → t E σ H
theorem NSt.up (N : NSt K C S H0 x dx σ H ds ns xs l) (p : Pres none H H') (ok : OkW K none S H' n) : NSt K C S H0 x dx σ H' ds ns xs l :=
  ⟨N.re.up N.ok p, okN ok, N.sx, N.s0, N.d0, p _ _ (by simp) N.hx, N.len, N.rps.mono (ex_cut N.ok p)⟩
/-- x alone changed -/
theorem NSt.mut (N : NSt K C S H0 x dx σ H ds ns xs l) {ns' : List Str} {xs' : List V} {l' : List D} (kp : ∀ a o, a ≠ x → H a = some o → H' a = some o) (hx : H' x = some (.ins C dx (ns'.zip xs'))) (hl : xs'.length = ns'.length) (r : Rps K (cut S H') xs' l') : NSt K C S H0 x dx σ H' ds ns' xs' l' := by
  have ex : Ex (cut S H) (cut S H') := fun a o z => by
    obtain ⟨h1, h2⟩ := cut_some z
    rw [cut_of h1]
    exact kp a o (fun e => by subst e; rw [N.sx] at h1; cases h1) h2
  refine ⟨⟨N.re.len, fun i d h o => ?_, fun i m h => ?_, N.re.dis⟩, ⟨fun p h => (nomatch h), fun a h => ?_⟩, N.sx, N.s0, N.d0, hx, hl, r⟩
  · obtain ⟨v, h1, h2⟩ := N.re.get i d h o
    exact ⟨v, h1, h2.mono ex⟩
  · obtain ⟨a, ys, h1, h2, h3, h4, h5, h6⟩ := N.re.own i m h
    refine ⟨a, ys, h1, h2, h3, h4, kp a _ (fun e => ?_) h5, h6.mono ex⟩
    subst e
    rw [N.hx] at h5; cases h5
  · by_cases e : a = x
    · subst e; exact ⟨_, hx⟩
    · obtain ⟨o, ho⟩ := N.ok.2 a h
      exact ⟨o, kp a o e ho⟩
theorem n_seq (h : WpN K C t ds ns l fun ds' ns' l' => WpN K C u ds' ns' l' k) : WpN K C (tSeq t u) ds ns l k := fun S H0 x dx σ H xs E N f =>
  h S H0 x dx σ H xs { E with nx := u E } N fun σ' H' ds' ns' xs' l' hk kp N' => hk S H0 x dx σ' H' xs' E N' fun σ2 H2 ds2 ns2 xs2 l2 hk2 kp2 N2 => f σ2 H2 ds2 ns2 xs2 l2 hk2 (fun a o ne z => kp2 a o ne (kp a o ne z)) N2
theorem n_next (h : k ds ns l) : WpN K C tNext ds ns l k := fun S H0 x dx σ H xs E N f => f σ H ds ns xs l h (fun _ _ _ z => z) N
theorem n_never (h : False) : WpN K C tNever ds ns l k := h.elim
theorem n_if (h : WpT K none c ds 0 fun b _ => (b = true → WpN K C t ds ns l k) ∧ (b = false → WpN K C u ds ns l k)) : WpN K C (tIfS c t u) ds ns l k := fun S H0 x dx σ H xs E N f =>
  h S H0 σ H _ N.re N.ok fun b H1 n1 ⟨h1, h2⟩ p1 ok1 => by
    cases b with
    | true => exact h1 rfl S H0 x dx σ H1 xs E (N.up p1 ok1) fun σ2 H2 ds2 ns2 xs2 l2 hk2 kp2 N2 => f σ2 H2 ds2 ns2 xs2 l2 hk2 (fun a o ne z => kp2 a o ne (p1 a o (by simp) z)) N2
    | false => exact h2 rfl S H0 x dx σ H1 xs E (N.up p1 ok1) fun σ2 H2 ds2 ns2 xs2 l2 hk2 kp2 N2 => f σ2 H2 ds2 ns2 xs2 l2 hk2 (fun a o ne z => kp2 a o ne (p1 a o (by simp) z)) N2
/-- name = e -/
theorem n_set {i : Nat} (hi : i ≠ 0) (h : WpE K none te ds 0 fun d _ => isOwn d = false ∧ k (ds.set i (some d)) ns l) : WpN K C (tAsg te (gName i)) ds ns l k := fun S H0 x dx σ H xs E N f =>
  h S H0 σ H _ N.re N.ok fun v H1 d n1 ⟨ho, hk⟩ p1 ok1 r1 => by
    have N1 := N.up p1 ok1
    refine f _ H1 _ ns xs l hk (fun a o _ z => p1 a o (by simp) z) ⟨N1.re.set r1 ho, N1.ok, N1.sx, ?_, ?_, N1.hx, N1.len, N1.rps⟩
    · rw [List.getElem?_set_ne hi]; exact N1.s0
    · rw [List.getElem?_set_ne hi]; exact N1.d0
theorem putF_new {f : Str} {v : V} : ∀ {ns : List Str} {xs : List V}, f ∉ ns → xs.length = ns.length → putF f v (ns.zip xs) = (ns ++ [f]).zip (xs ++ [v])
  | [], [], _, _ => rfl
  | g :: ns, y :: xs, h, hl => by
    have hg : g ≠ f := fun e => h (by rw [e]; exact List.mem_cons_self)
    show putF f v ((g, y) :: ns.zip xs) = (g, y) :: (ns ++ [f]).zip (xs ++ [v])
    unfold putF
    rw [if_neg hg, putF_new (fun z => h (List.mem_cons_of_mem _ z)) (by simpa using hl)]
  | _ :: _, [], _, hl => by simp at hl
  | [], _ :: _, _, hl => by simp at hl
theorem NSt.put (N : NSt K C S H0 x dx σ H ds ns xs l) {f : Str} {v : V} {d : D} (hf : f ∉ ns) (r : Rp K (cut S H) v d) : NSt K C S H0 x dx σ (upd H x (.ins C dx (putF f v (ns.zip xs)))) ds (ns ++ [f]) (xs ++ [v]) (l ++ [d]) := by
  refine N.mut (fun a o ne z => by rw [upd_ne ne]; exact z) (by rw [upd_same, putF_new hf N.len]) (by simp [N.len]) ?_
  rw [cut_upd N.sx]
  exact N.rps.append (.cons r .nil)
/-- self.f = e -/
theorem n_put {f : Str} (hc : Cls K C) (hn : NoAttr K C f) (h : WpE K none te ds 0 fun d _ => f ∉ ns ∧ ns.length < 1000 ∧ k ds (ns ++ [f]) (l ++ [d])) : WpN K C (sFld K (tVar 0) te f) ds ns l k := fun S H0 x dx σ H xs E N fin =>
  h S H0 σ H _ N.re N.ok fun v H1 d n1 ⟨hf, hl, hk⟩ p1 ok1 r1 => by
    have N1 := N.up p1 ok1
    refine ⟨.ref x, N1.s0, x, C, dx, _, rfl, N1.hx, hc, hn, by rw [List.length_zip, N1.len]; omega, ?_⟩
    exact fin _ _ _ _ _ _ hk (fun a o ne z => by rw [upd_ne ne]; exact p1 a o (by simp) z) (N1.put hf r1)
theorem gattrs_go (hc : Cls K C) : ∀ {fs : List Str} {vs : List V} {es : List D} {σ : L2.St} {H : Hp} {ns : List Str} {xs : List V} {l : List D} {Q : L2.St → Hp → Prop}, NSt K C S H0 x dx σ H ds ns xs l → Rps K (cut S H) vs es → vs.length = fs.length → (∀ f ∈ fs, NoAttr K C f) → (ns ++ fs).Nodup → ns.length + fs.length < 1000 →
    (∀ H' xs', (∀ a o, a ≠ x → H a = some o → H' a = some o) → NSt K C S H0 x dx σ H' ds (ns ++ fs) xs' (l ++ es) → Q σ H') → gAttrs K (tVar 0) fs vs σ H Q
  | [], [], _, σ, H, ns, xs, l, Q, N, .nil, _, _, _, _, q => ⟨rfl, q H xs (fun _ _ _ z => z) (by simpa using N)⟩
  | f :: fs, v :: vs, _, σ, H, ns, xs, l, Q, N, .cons r rs, hl, hn, nd, hz, q => by
    have hf : f ∉ ns := fun z => by
      rw [List.nodup_append] at nd
      exact nd.2.2 f z f List.mem_cons_self rfl
    refine ⟨v, vs, rfl, .ref x, N.s0, x, C, dx, _, rfl, N.hx, hc, hn f List.mem_cons_self, ?_, ?_⟩
    · rw [List.length_zip, N.len]; simp at hz; omega
    have N1 := N.put hf r
    refine gattrs_go hc N1 (by rw [cut_upd N.sx]; exact rs) (by simpa using hl) (fun g hg => hn g (List.mem_cons_of_mem _ hg)) (by simpa [List.append_assoc] using nd) (by simp at hz ⊢; omega) fun H' xs' kp N' => ?_
    refine q H' xs' (fun a o ne z => kp a o ne (by rw [upd_ne ne]; exact z)) ?_
    simpa [List.append_assoc] using N'
  | [], _ :: _, _, _, _, _, _, _, _, _, _, hl, _, _, _, _ => by simp at hl
  | _ :: _, [], _, _, _, _, _, _, _, _, _, hl, _, _, _, _ => by simp at hl
/-- self.a, self.b, .. = self.f -/
theorem n_unpack {f : Str} {fs : List Str} {es : List D} {j : Nat} (hc : Cls K C) (hn0 : NoAttr K C f) (hl : (ns.zip l).lookup f = some (.tup es)) (hlen : es.length = fs.length) (hj : j = fs.length) (hn : ∀ g ∈ fs, NoAttr K C g) (nd : (ns ++ fs).Nodup) (hz : ns.length + fs.length < 1000) (h : k ds (ns ++ fs) (l ++ es)) :
    WpN K C (tAsg (tFld K (tVar 0) f) (gTup K j (gAttrs K (tVar 0) fs))) ds ns l k := fun S H0 x dx σ H xs E N fin => by
  obtain ⟨v, hv, rv⟩ := zip_lookup N.rps N.len hl
  refine ⟨.ref x, N.s0, x, C, dx, _, v, rfl, N.hx, hc, hn0, hv, ?_⟩
  cases rv with
  | @tup a ys _ hT hy =>
    refine ⟨a, ys, rfl, Evl.ex_t (cut_ex S H) hT, by rw [hy.length, hlen, hj], ?_⟩
    refine gattrs_go hc N hy (by rw [hy.length, hlen]) hn nd hz fun H' xs' kp N' => ?_
    exact fin σ H' ds _ xs' _ h kp N'
/-! ### the start of an __init__ -/
def nstart (N : List Str) (es : List D) : List (Option D) := none :: (es.map some ++ List.replicate (N.length - (es.length + 1)) none)
theorem init_ok {N : List Str} {g : List D → List Str → List D → Prop} {vs : List V} {Q : VK} {E : XK} (hw : ∀ es ns l, g es ns l → WpN K C t (nstart N es) [] [] fun _ ns' l' => ns' = ns ∧ l' = l) (h : initSp K C g vs H Q E) :
    t { nx := fun _ H' => Q .non H', rt := Q } (L2.start N vs) H := by
  obtain ⟨x, dx, S, avs, es, ns, l, rfl, hS, hall, hx, r, hg, fin⟩ := h
  have r0 : Rps K (cut S H) (.ref x :: avs) (.raw (.ref x) :: es) := .cons (.raw _) r
  have re := rpE_start (w := none) (N := N) r0
  refine hw es ns l hg S H x dx _ H [] _ ⟨re.forget (by unfold nstart dstart; simp) fun i d hi => ?_, ⟨fun p h => (nomatch h), hall⟩, hS, rfl, rfl, hx, rfl, .nil⟩ fun σ' H' ds' ns' xs' l' ⟨e1, e2⟩ kp N' => ?_
  · cases i with
    | zero => unfold nstart at hi; simp at hi
    | succ i =>
      unfold nstart at hi
      unfold dstart
      simpa using hi
  · subst e1 e2
    exact fin H' xs' kp N'.hx N'.len N'.rps
theorem initSp_len {g : List D → List Str → List D → Prop} {j : Nat} (hg : ∀ es ns l, g es ns l → es.length = j) {vs : List V} {Q : VK} {E : XK} (h : initSp K C g vs H Q E) : vs.length = j + 1 := by
  obtain ⟨x, dx, S, avs, es, ns, l, rfl, hS, hall, hx, r, hgs, fin⟩ := h
  rw [List.length_cons, r.length, hg _ _ _ hgs]
/-! ### super().__init__(e, ..), a def(self, a, *parts) -/
/-- the promise of def __init__(self, a, *parts) of any class -/
def superSp (K : PySem.W.Frag) (C : Addr) (g : List D → List Str → List D → Prop) : Sp := fun vs H Q E => ∃ ws rest, vs = ws ++ rest ∧ ws.length = 2 ∧ rest.length ≤ sizeLine ∧ ∀ p, H p = none → initSp K C g (ws ++ [.ref p]) (upd H p (.tup rest)) Q E
theorem n_super {g : List D → List Str → List D → Prop} {E2 : XK} {E : Ends} (h : WpA K none tA ds 0 fun es _ => ∃ d r ns l, es = d :: r ∧ r.length ≤ 100000 ∧ g [d, .tup r] ns l ∧ WpN K C t ds ns l k) (N : NSt K C S H0 x dx σ H ds [] [] [])
    (fin : ∀ (σ' : L2.St) (H' : Hp) (ds' : List (Option D)) (ns' : List Str) (xs' : List V) (l' : List D), k ds' ns' l' → (∀ a o, a ≠ x → H a = some o → H' a = some o) → NSt K C S H0 x dx σ' H' ds' ns' xs' l' → E.nx σ' H') :
    tA σ H (fun ws H1 => superSp K C g (.ref x :: ws) H1 (fun _ H2 => t E σ H2) E2) :=
  h S H0 σ H _ N.re N.ok fun ws H1 es n1 ⟨d, r, ns, l, e, hr, hg, hk⟩ p1 ok1 r1 => by
    subst e
    cases r1 with
    | @cons v vs _ _ ra rb =>
      have N1 := N.up p1 ok1
      have hxH : H1 x = some (.ins C dx []) := N1.hx
      refine ⟨[.ref x, v], vs, rfl, rfl, Evl.sz_of (by rw [rb.length]; exact hr), fun p hp => ⟨x, dx, S, [v, .ref p], [d, .tup r], ns, l, rfl, N.sx, ?_, ?_, ?_, hg, fun H' xs kp hx hl hxs => ?_⟩⟩
      · exact (ok1.new hp).2
      · rw [upd_ne (ne_of_none hxH hp)]; exact hxH
      · have ex := ex_cut ok1 (Pres.new (w := none) (o := .tup vs) hp)
        exact .cons (ra.mono ex) (.cons (.tup (SqT.of (cut_new ok1 hp)) (rb.mono ex)) .nil)
      · have kp1 : ∀ a o, a ≠ x → H1 a = some o → H' a = some o := fun a o ne z => kp a o ne (by rw [upd_ne (ne_of_none z hp)]; exact z)
        have N2 : NSt K C S H0 x dx σ H' ds ns xs l := N1.mut kp1 hx hl hxs
        exact hk S H0 x dx σ H' xs E N2 fun σ' H2 ds' ns' xs' l' hk' kp2 N' => fin σ' H2 ds' ns' xs' l' hk' (fun a o ne z => kp2 a o ne (kp1 a o ne (p1 a o (by simp) z))) N'
/-- .. its start, within the frame that knows its class -/
theorem super_ok {N : List Str} {g g2 : List D → List Str → List D → Prop} {vs : List V} {Q : VK} {E E2 : XK} {Dc : Addr} (hw : ∀ es ns l, g es ns l → WpA K none tA (none :: (es.map some ++ none :: List.replicate (N.length - (es.length + 2)) none)) 0 fun fs _ => ∃ d r ns1 l1, fs = d :: r ∧ r.length ≤ 100000 ∧ g2 [d, .tup r] ns1 l1 ∧
      WpN K C t (none :: (es.map some ++ none :: List.replicate (N.length - (es.length + 2)) none)) ns1 l1 fun _ ns' l' => ns' = ns ∧ l' = l) (h : initSp K C g vs H Q E) :
    ∃ x dx, vs.head? = some (.ref x) ∧ H x = some (.ins C dx []) ∧ tA (startF N vs [some (.ref Dc)]) H (fun ws H1 => superSp K C g2 (.ref x :: ws) H1 (fun _ H2 => t { nx := fun _ H' => Q .non H', rt := Q } (startF N vs [some (.ref Dc)]) H2) E2) := by
  obtain ⟨x, dx, S, avs, es, ns, l, rfl, hS, hall, hx, r, hg, fin⟩ := h
  have hlr := r.length
  refine ⟨x, dx, rfl, hx, n_super (C := C) (S := S) (H0 := H) (x := x) (dx := dx) (hw es ns l hg) ⟨⟨?_, fun i d hi o => ?_, fun i l hi => ?_, fun i j l m a hij h1 h2 => ?_⟩, ⟨fun p h => (nomatch h), hall⟩, hS, rfl, rfl, hx, rfl, .nil⟩ fun σ' H' ds' ns' xs' l' ⟨e1, e2⟩ kp N' => ?_⟩
  · unfold startF; simp [hlr]; omega
  · cases i with
    | zero => simp at hi
    | succ i =>
      simp only [List.getElem?_cons_succ] at hi
      by_cases h1 : i < es.length
      · rw [List.getElem?_append_left (by simpa using h1), List.getElem?_map] at hi
        obtain ⟨d', hd, e⟩ := Option.map_eq_some_iff.mp hi
        cases e
        obtain ⟨v, hv, rv⟩ := r.get hd
        refine ⟨v, ?_, rv⟩
        unfold startF
        rw [List.map_cons, List.cons_append, List.getElem?_cons_succ, List.getElem?_append_left (by simp; omega), List.getElem?_map, hv]; rfl
      · rw [List.getElem?_append_right (by simp; omega)] at hi
        cases z : i - (es.map some).length with
        | zero => rw [z] at hi; simp at hi
        | succ q => rw [z] at hi; simp [List.getElem?_replicate] at hi
  · exact absurd hi (by
      cases i with
      | zero => simp
      | succ i =>
        simp only [List.getElem?_cons_succ]
        intro hi
        by_cases h1 : i < es.length
        · rw [List.getElem?_append_left (by simpa using h1), List.getElem?_map] at hi
          obtain ⟨d', hd, e⟩ := Option.map_eq_some_iff.mp hi
          cases e
          exact r.noOwn _ (List.mem_of_getElem? hd)
        · rw [List.getElem?_append_right (by simp; omega)] at hi
          cases z : i - (es.map some).length with
          | zero => rw [z] at hi; simp at hi
          | succ q => rw [z] at hi; simp [List.getElem?_replicate] at hi)
  · exact absurd h1 (by
      cases i with
      | zero => simp
      | succ i =>
        simp only [List.getElem?_cons_succ]
        intro hi
        by_cases h1 : i < es.length
        · rw [List.getElem?_append_left (by simpa using h1), List.getElem?_map] at hi
          obtain ⟨d', hd, e⟩ := Option.map_eq_some_iff.mp hi
          cases e
          exact r.noOwn _ (List.mem_of_getElem? hd)
        · rw [List.getElem?_append_right (by simp; omega)] at hi
          cases z : i - (es.map some).length with
          | zero => rw [z] at hi; simp at hi
          | succ q => rw [z] at hi; simp [List.getElem?_replicate] at hi)
  · subst e1 e2
    exact fin H' xs' kp N'.hx N'.len N'.rps
end
end DW
set_option Elab.async false
set_option maxRecDepth 100000
set_option maxHeartbeats 4000000
set_option linter.all false
set_option autoImplicit false
/-! defs by name; the pen -/
namespace DW
open PySem PySem.Spec PyProof.Rows L2

/-- a def of the module that may be called by its name -/
structure Go (P : Program) (w : World) (K : PySem.W.Frag) (mg : Str → Option Value) (base : Heap) (k : Nat) (x : Str) (sp : Sp) (dvs : List V) : Prop where
  ex : ∃ (f : Addr) (fd : FuncData) (ps : List Str) (ds : List Value), FnOk P w K mg base CX0 k f fd ps sp ∧ mg x = some (.ref f) ∧ PySem.W.keepIn K (.ref f) = true ∧ Binds K fd ps ds ∧ Vals dvs ds
section
variable {X : Cx} {k j : Nat} {x : Str} {sp : Sp} {dvs : List V} {e : Expr} {es : List Expr} {t : TA} {p pos : Pos}
theorem pe_go (G : Go X.prog X.w X.K X.mg X.base j x sp dvs) (hr : Room k X.A) (ha : PA X (e :: es) t) (hj : j ≤ k := by decide) (hg : Gl X x := by rfl) (hdb : (x == ("__debug__" : Str)) = false := by decide) (he : starEach (e :: es) X.env = (false, eval e X.env) :: starEach es X.env := by rfl) (hpl : (backTo pos (starEach es X.env)).any (·.1) = false := by rfl) :
    PE X (.Call (.Name x p) (e :: es) [] pos) (tCall sp dvs E0 t) := by
  obtain ⟨f, fd, ps, ds, F, hm, hk, hb, hd⟩ := G.ex
  exact pe_call F (hr.mono hj) hg hm hk hb hd pass0 ha hdb he hpl
theorem pe_go0 (G : Go X.prog X.w X.K X.mg X.base j x sp dvs) (hr : Room k X.A) (hj : j ≤ k := by decide) (hg : Gl X x := by rfl) (hdb : (x == ("__debug__" : Str)) = false := by decide) : PE X (.Call (.Name x p) [] [] pos) (tCall sp dvs E0 tNil) := by
  obtain ⟨f, fd, ps, ds, F, hm, hk, hb, hd⟩ := G.ex
  exact pe_call0 F (hr.mono hj) hg hm hk hb hd pass0 hdb
theorem pw_last {t : TT} {a : Expr} {op : BoolOp} (h : PW X (.BoolOp op [a] pos) t) : PW X (.BoolOp op [a] pos) t := h
theorem op_inU : OpR X (compareOp .In) (rIn X.K false) := op_in_seq
theorem op_notInU : OpR X (compareOp .NotIn) (rIn X.K true) := op_notIn_seq
end
/-- .. within a greater budget -/
def kup (k : Kn) : Kn := fun d n => ∃ m, n ≤ m ∧ k d m
theorem Po.up {K : PySem.W.Frag} {w : Option Addr} {S : Addr → Bool} {H : Hp} {k : Kn} {Q : VK} (p : Po K w S H k Q) : Po K w S H (kup k) Q := fun v H' d n' ⟨m, hm, hk⟩ pr ok r => p v H' d m hk pr (ok.mono hm) r
theorem kup_of {k : Kn} {d : D} {n : Nat} (h : k d n) : kup k d n := ⟨n, Nat.le_refl _, h⟩
/-- the promise of a def by data -/
theorem fn_data {P : Program} {w : World} {K : PySem.W.Frag} {mg : Str → Option Value} {base : Heap} {k : Nat} {x qual : Str} {st : Stmt} {f : Addr} {fd : FuncData} {N ps : List Str} {sp : DSpW} {t : TS} (F : Fun K x qual st f fd) (S : FnScope N ps (defScope st))
    (hl : ∀ w es n k, sp w es n k → es.length = ps.length) (hb : Binds K fd ps []) (hm : mg x = some (.ref f))
    (hd : ∀ (cdv : Value) (A : Around) (outer : List Env) (s : Shared) (H : Hp) (E : XK), Room k (A.deeper (envOfC qual (defScope st) s.heap.objs.size f cdv)) → PSs (cxOf CX0 P w K mg base N qual (defScope st) f cdv A outer s H E).nox (defBody st) t)
    (hw : ∀ w es n k, sp w es n k → WpS K w t (dstart N es) n { nx := fun _ n' => kup k .non n', rt := kup k }) : Go P w K mg base (k + 1) x (toSp K sp) [] :=
  ⟨f, fd, ps, [], F.ok S (fun vs H Q E h => by
      obtain ⟨w, S, es, n, k, r, ok, hs, p⟩ := h
      rw [r.length]; exact hl w es n k hs) (fun cdv A outer s H vs Q E hr h => by
      obtain ⟨w, S, es, n, k, r, ok, hs, p⟩ := h
      exact ⟨t, hd cdv A outer s H E hr, body_ok (hw w es n k hs) r ok p.up⟩), hm, F.kp, hb, .nil⟩

/-! ### the pen -/
section
variable {K : PySem.W.Frag} {w : Option Addr} {S : Addr → Bool} {H H0 H1 H2 H' : Hp} {n m : Nat} {σ : L2.St} {ds : List (Option D)} {ta tb te : TE} {i : Nat} {k : Kn} {p : Addr}
theorem e_pen2 (hw : w = some p) (hi : ds[i]? = some (some (.raw (.ref p)))) (hk : ∀ z : Int, 0 ≤ z → k (.int z) n) : WpE K w (tOp (rIx K) (tVar i) (tC (.int 2))) ds n k := fun S H0 σ H Q re ok po => by
  obtain ⟨v, h1, h2⟩ := re.get i _ hi rfl
  cases h2
  obtain ⟨hS, c, ix, left, ns, g1, g2, g3, g4, g5, g6⟩ := ok.1 p hw
  exact ⟨_, h1, .inl ⟨p, _, 2, .int left, rfl, rfl, SqL.of g1, rfl, po _ H _ n (hk left g6) Pres.refl ok (.int _)⟩⟩
theorem e_pen1 (hw : w = some p) (hi : ds[i]? = some (some (.raw (.ref p)))) (hk : ∀ z : Int, 0 ≤ z → z ≤ n → k (.int z) n) : WpE K w (tOp (rIx K) (tVar i) (tC (.int 1))) ds n k := fun S H0 σ H Q re ok po => by
  obtain ⟨v, h1, h2⟩ := re.get i _ hi rfl
  cases h2
  obtain ⟨hS, c, ix, left, ns, g1, g2, g3, g4, g5, g6⟩ := ok.1 p hw
  exact ⟨_, h1, .inl ⟨p, _, 1, .int ix, rfl, rfl, SqL.of g1, rfl, po _ H _ n (hk ix g4 g5) Pres.refl ok (.int _)⟩⟩
theorem e_pen0 (hw : w = some p) (hi : ds[i]? = some (some (.raw (.ref p)))) (hk : ∀ ns : List Int, ns.length ≤ 63 → k (.lst (ns.map .int)) n) : WpE K w (tOp (rIx K) (tVar i) (tC (.int 0))) ds n k := fun S H0 σ H Q re ok po => by
  obtain ⟨v, h1, h2⟩ := re.get i _ hi rfl
  cases h2
  obtain ⟨hS, c, ix, left, ns, g1, g2, g3, g4, g5, g6⟩ := ok.1 p hw
  exact ⟨_, h1, .inl ⟨p, _, 0, .ref c, rfl, rfl, SqL.of g1, rfl, po _ H _ n (hk ns g3) Pres.refl ok (.lst g2 (Rps.of_ints ns))⟩⟩
/-- the pen itself written -/
theorem pen_put {kd : Kd} {S0 : Addr → Bool} {E : Ends} {ks : KS} {c : Addr} {ix left : Int} {ns : List Int} (hw : w = some p) (b : Base w K S0 H0 S H n) (r : RpE K w S H0 H σ ds) (e : Ends4 w K S0 H0 S H E ks) (g2 : cut S H c = some (.lst (ns.map V.int))) (g3 : ns.length ≤ 63) (hx : 0 ≤ ix) (hxm : ix ≤ m) (hl : 0 ≤ left)
    (hk : ks.nx ds m) : E.nx σ (upd H p (.lst [.ref c, .int ix, .int left])) := by
  have hS := (b.ok.1 p hw).1
  have ec : cut S (upd H p (.lst [.ref c, .int ix, .int left])) = cut S H := cut_upd hS
  have pr : Pres w H (upd H p (.lst [.ref c, .int ix, .int left])) := fun a o hne z => by
    rw [upd_ne (fun q => hne (by rw [q]; exact hw))]; exact z
  have ok' : OkW K w S (upd H p (.lst [.ref c, .int ix, .int left])) m := by
    refine ⟨fun q hq => ?_, fun a ha => ?_⟩
    · have : q = p := by rw [hw] at hq; cases hq; rfl
      subst this
      exact ⟨hS, c, ix, left, ns, upd_same, by rw [ec]; exact g2, g3, hx, hxm, hl⟩
    · by_cases q : a = p
      · subst q; exact ⟨_, upd_same⟩
      · obtain ⟨o, ho⟩ := b.ok.2 a ha
        exact ⟨o, by rw [upd_ne q]; exact ho⟩
  exact e.nx S σ _ ds m hk (b.up pr ok') (r.up b.ok pr) (by rw [ec]; exact Evl.Ex.refl _)
/-- pen[2] = e -/
theorem s_pen2 {ks : KS} (hw : w = some p) (hi : ds[i]? = some (some (.raw (.ref p)))) (h : WpE K w te ds n fun d n1 => ∃ z : Int, d = .int z ∧ 0 ≤ z ∧ ks.nx ds n1) : WpS K w (tAsg te (gSub (tVar i) (tC (.int 2)) rSetL)) ds n ks := fun S0 H0 S σ H E b r e =>
  h S H0 σ H _ r b.ok fun v H1 d n1 ⟨z, ed, hz, hk⟩ p1 ok1 r1 => by
    subst ed
    cases r1
    have b1 := b.up p1 ok1
    have r' := r.up b.ok p1
    obtain ⟨v, h1, h2⟩ := r'.get i _ hi rfl
    cases h2
    obtain ⟨hS, c, ix, left, ns, g1, g2, g3, g4, g5, g6⟩ := ok1.1 p hw
    exact ⟨_, h1, p, _, 2, 2, rfl, rfl, g1, rfl, pen_put (kd := ks.nx) hw b1 r' (e.from (ex_cut b.ok p1)) g2 g3 g4 g5 hz hk⟩
/-- pen[1] = e -/
theorem s_pen1 {ks : KS} (hw : w = some p) (hi : ds[i]? = some (some (.raw (.ref p)))) (h : WpE K w te ds n fun d n1 => ∃ (z : Int) (m : Nat), d = .int z ∧ 0 ≤ z ∧ z ≤ m ∧ ks.nx ds m) : WpS K w (tAsg te (gSub (tVar i) (tC (.int 1)) rSetL)) ds n ks := fun S0 H0 S σ H E b r e =>
  h S H0 σ H _ r b.ok fun v H1 d n1 ⟨z, m, ed, hz, hm, hk⟩ p1 ok1 r1 => by
    subst ed
    cases r1
    have b1 := b.up p1 ok1
    have r' := r.up b.ok p1
    obtain ⟨v, h1, h2⟩ := r'.get i _ hi rfl
    cases h2
    obtain ⟨hS, c, ix, left, ns, g1, g2, g3, g4, g5, g6⟩ := ok1.1 p hw
    exact ⟨_, h1, p, _, 1, 1, rfl, rfl, g1, rfl, pen_put (kd := ks.nx) hw b1 r' (e.from (ex_cut b.ok p1)) g2 g3 hz hm g6 hk⟩
end
/-- the draw: a number below many -/
abbrev drawSp : DSpW := fun w es n k => ∃ (p : Addr) (many : Int), w = some p ∧ es = [.raw (.ref p), .int many] ∧ 0 < many ∧ many < 2 ^ 64 ∧ n < 2 ^ 20 ∧ ∀ d : Int, 0 ≤ d → d < many → k (.int d) (n + 1)
end DW
set_option Elab.async false
set_option maxRecDepth 100000
set_option maxHeartbeats 4000000
set_option linter.all false
set_option autoImplicit false
/-! what the printed derivations use -/
namespace DW
open PySem PySem.Spec PyProof.Rows L2

section
variable {X : Cx} {x : Str} {pos : Pos}
theorem pe_globI {i : Int} (hg : Gl X x) (hm : ∃ t, X.mg x = some (.int i t)) (hd : (x == ("__debug__" : Str)) = false := by decide) : PE X (.Name x pos) (tC (.int i)) := by
  obtain ⟨t, h⟩ := hm
  exact pe_glob hg h ⟨_, rfl⟩ hd
/-- a tuple of the module -/
def KTup (K : PySem.W.Frag) (mg : Str → Option Value) (x : Str) (l : List D) : Prop := ∃ (a : Addr) (xs : List V), mg x = some (.ref a) ∧ SqT K (fun _ => none) a xs ∧ Rps K (fun _ => none) xs l
def tKT (K : PySem.W.Frag) (l : List D) : TE := fun _ H Q => ∀ (a : Addr) (xs : List V), SqT K (fun _ => none) a xs → Rps K (fun _ => none) xs l → Q (.ref a) H
theorem pe_globT {l : List D} (hg : Gl X x) (hm : KTup X.K X.mg x l) (hd : (x == ("__debug__" : Str)) = false := by decide) : PE X (.Name x pos) (tKT X.K l) := by
  obtain ⟨a, xs, h1, h2, h3⟩ := hm
  refine ⟨fun pins s σ H Q I h => ?_⟩
  exact (pe_glob (v := .ref a) hg h1 rfl hd).run pins s σ H Q I (h a xs h2 h3)
end
theorem e_kt {K : PySem.W.Frag} {w : Option Addr} {n : Nat} {ds : List (Option D)} {l : List D} {k : Kn} (hk : k (.tup l) n) : WpE K w (tKT K l) ds n k := fun S H0 σ H Q re ok p a xs hT hx => by
  have e : Ex (fun _ => none) (cut S H) := fun _ _ h => by cases h
  exact p _ H _ n hk Pres.refl ok (.tup (Evl.ex_t e hT) (hx.mono e))
/-- a class of the module that may be made -/
structure Mkc (P : Program) (w : World) (K : PySem.W.Frag) (mg : Str → Option Value) (base : Heap) (k : Nat) (x : Str) (C : Addr) (sp : Sp) (dvs : List V) : Prop where
  ex : ∃ (f : Addr) (fd : FuncData) (ps : List Str) (ds : List Value), Mk K C f ∧ FnOk P w K mg base CX0 k f fd ps sp ∧ mg x = some (.ref C) ∧ Binds K fd ps ds ∧ Vals dvs ds
section
variable {X : Cx} {k j : Nat} {x : Str} {sp : Sp} {dvs : List V} {e : Expr} {es : List Expr} {t : TA} {p pos : Pos} {C : Addr}
theorem pe_mk (M : Mkc X.prog X.w X.K X.mg X.base j x C sp dvs) (hr : Room k X.A) (ha : PA X (e :: es) t) (hj : j + 1 ≤ k := by decide) (hg : Gl X x := by rfl) (hdb : (x == ("__debug__" : Str)) = false := by decide) (he : starEach (e :: es) X.env = (false, eval e X.env) :: starEach es X.env := by rfl) (hpl : (backTo pos (starEach es X.env)).any (·.1) = false := by rfl) :
    PE X (.Call (.Name x p) (e :: es) [] pos) (tMake C sp dvs E0 t) := by
  obtain ⟨f, fd, ps, ds, M, F, hm, hb, hd⟩ := M.ex
  exact pe_make M F (hr.mono hj) hg hm hb hd pass0 ha hdb he hpl
end
/-- a def called by keywords alone -/
structure Gok (P : Program) (w : World) (K : PySem.W.Frag) (mg : Str → Option Value) (base : Heap) (k : Nat) (x : Str) (ks : List Str) (sp : Sp) (gV : List V → List V → List V) : Prop where
  ex : ∃ (f : Addr) (fd : FuncData) (ps : List Str) (g : List Value → List Value → List Value), FnOk P w K mg base CX0 k f fd ps sp ∧ mg x = some (.ref f) ∧ PySem.W.keepIn K (.ref f) = true ∧ KBn K fd ps 0 ks g gV
section
variable {X : Cx} {k j : Nat} {x : Str} {ks : List Str} {sp : Sp} {gV : List V → List V → List V} {kws : List Keyword} {t tk : TA} {p pos : Pos}
theorem pe_gok {b : Nat} (G : Gok X.prog X.w X.K X.mg X.base j x ks sp gV) (hr : Room k X.A) (hkw : PK X kws tk) (hb : ks.length = b := by rfl) (hj : j ≤ k := by decide) (hg : Gl X x := by rfl) (hall : (backToKw pos (keywordEach kws X.env)).all (·.1.isSome) = true := by rfl) (hks : (backToKw pos (keywordEach kws X.env)).filterMap (·.1) = ks := by rfl) (hdb : (x == ("__debug__" : Str)) = false := by decide)
    (hpl : ((backTo pos (starEach [] X.env)).any (·.1) || (backToKw pos (keywordEach kws X.env)).any (·.1.isNone)) = false := by rfl) : PE X (.Call (.Name x p) [] kws pos) (L2.tCallN 0 b sp gV E0 tNil tk) := by
  subst hb
  obtain ⟨f, fd, ps, g, F, hm, hk, hb⟩ := G.ex
  exact pe_callN0 F (hr.mono hj) hg hm hk hb pass0 hkw hall hks hdb hpl
end
def supArgs (s : Stmt) : List Expr := match defBody s with
  | .Expr (.Call _ es _ _) _ :: _ => es
  | _ => []
end DW
set_option Elab.async false
set_option maxRecDepth 100000
set_option maxHeartbeats 4000000
set_option linter.all false
set_option autoImplicit false
/-! the rules in the shape that the stepping wants -/
namespace DW
open PySem PySem.Spec PyProof.Rows L2
section
variable {K : PySem.W.Frag} {w : Option Addr} {n : Nat} {ds : List (Option D)} {ta tb te : TE} {i : Nat} {k : Kn} {ks : KS}
theorem e_varX (h : ∃ d, ds[i]? = some (some d) ∧ isOwn d = false ∧ k d n) : WpE K w (tVar i) ds n k := by
  obtain ⟨d, h1, h2, h3⟩ := h
  exact e_var h1 h3 h2
theorem e_pen2X (h : ∃ p, w = some p ∧ ds[i]? = some (some (.raw (.ref p))) ∧ ∀ z : Int, 0 ≤ z → k (.int z) n) : WpE K w (tOp (rIx K) (tVar i) (tC (.int 2))) ds n k := by
  obtain ⟨p, h1, h2, h3⟩ := h
  exact e_pen2 h1 h2 h3
theorem e_pen1X (h : ∃ p, w = some p ∧ ds[i]? = some (some (.raw (.ref p))) ∧ ∀ z : Int, 0 ≤ z → z ≤ n → k (.int z) n) : WpE K w (tOp (rIx K) (tVar i) (tC (.int 1))) ds n k := by
  obtain ⟨p, h1, h2, h3⟩ := h
  exact e_pen1 h1 h2 h3
theorem e_pen0X (h : ∃ p, w = some p ∧ ds[i]? = some (some (.raw (.ref p))) ∧ ∀ ns : List Int, ns.length ≤ 63 → k (.lst (ns.map .int)) n) : WpE K w (tOp (rIx K) (tVar i) (tC (.int 0))) ds n k := by
  obtain ⟨p, h1, h2, h3⟩ := h
  exact e_pen0 h1 h2 h3
theorem s_pen2X (h : ∃ p, w = some p ∧ ds[i]? = some (some (.raw (.ref p))) ∧ WpE K w te ds n fun d n1 => ∃ z : Int, d = .int z ∧ 0 ≤ z ∧ ks.nx ds n1) : WpS K w (tAsg te (gSub (tVar i) (tC (.int 2)) rSetL)) ds n ks := by
  obtain ⟨p, h1, h2, h3⟩ := h
  exact s_pen2 h1 h2 h3
theorem s_pen1X (h : ∃ p, w = some p ∧ ds[i]? = some (some (.raw (.ref p))) ∧ WpE K w te ds n fun d n1 => ∃ z : Int, d = .int z ∧ 0 ≤ z ∧ z ≤ ((n1 + 1 : Nat) : Int) ∧ ks.nx ds (n1 + 1)) : WpS K w (tAsg te (gSub (tVar i) (tC (.int 1)) rSetL)) ds n ks := by
  obtain ⟨p, h1, h2, h3⟩ := h
  refine s_pen1 h1 h2 (h3.imp fun d n1 ⟨z, a, b, c, e⟩ => ⟨z, n1 + 1, a, b, c, e⟩)
theorem rd_modX {i j : Int} (h : 0 < j ∧ k (.int (i % j)) n) : RD K w rModU (.int i) (.int j) n k := rd_mod h.1 h.2
theorem rd_divX {i j : Int} (h : 0 < j ∧ j < 2 ^ 64 ∧ k (.int (i / j)) n) : RD K w rDivU (.int i) (.int j) n k := rd_div ⟨h.1, by
  have h1 := h.1
  have h2 := h.2.1
  have e : j.natAbs < 2 ^ 64 := by omega
  by_cases z : j.natAbs = 0
  · omega
  · exact Nat.lt_trans ((Nat.log2_lt z).mpr e) (by decide)⟩ h.2.2
theorem rd_mulX {i j : Int} (h : ((-(2 ^ 64) < i ∧ i < 2 ^ 64) ∨ (-(2 ^ 64) < j ∧ j < 2 ^ 64)) ∧ k (.int (i * j)) n) : RD K w rMulU (.int i) (.int j) n k := rd_mul (.inl h.1) h.2
theorem rd_powX {i j : Int} (h : (0 ≤ j ∧ j ≤ 1000000 ∧ i.natAbs < 2 ^ 64) ∧ k (.int (i ^ j.toNat)) n) : RD K w (rI CPow fun i j => .int (i ^ j.toNat)) (.int i) (.int j) n k := rd_pow h.1 h.2
theorem rd_ixLX {l : List D} {i : Int} (h : ∃ d, atI l i = some d ∧ k d n) : RD K w (rIx K) (.lst l) (.int i) n k := by
  obtain ⟨d, h1, h2⟩ := h
  exact rd_ixL h1 h2
theorem rd_ixTX {l : List D} {i : Int} (h : ∃ d, atI l i = some d ∧ k d n) : RD K w (rIx K) (.tup l) (.int i) n k := by
  obtain ⟨d, h1, h2⟩ := h
  exact rd_ixT h1 h2
theorem toPys_ints : ∀ ns : List Int, toPys (ns.map .int) = ns.map PyData.int
  | [] => rfl
  | i :: r => by
    show toPy (.int i) :: toPys (r.map .int) = .int i :: r.map PyData.int
    rw [toPys_ints r]; rfl
theorem pure_ints : ∀ ns : List Int, pureDs (ns.map .int) = true
  | [] => rfl
  | i :: r => by
    show (pureD (.int i) && pureDs (r.map .int)) = true
    rw [pure_ints r]; rfl
theorem canLay_ints : ∀ ns : List Int, PyData.canLayAll0 (ns.map PyData.int) = true
  | [] => rfl
  | i :: r => by
    show (PyData.canLay0 (.int i) && PyData.canLayAll0 (r.map PyData.int)) = true
    rw [canLay_ints r]; rfl
theorem shaped_ints (ns : List Int) : SeqAt.shaped (toPy (.lst (ns.map .int))) = true := by
  show SeqAt.shaped (.list (toPys (ns.map .int))) = true
  rw [toPys_ints]
  show (PyData.canLayAll0 (ns.map PyData.int) && decide (PyData.depth (.list (ns.map PyData.int)) ≤ 64)) = true
  rw [canLay_ints]
  have e : PyData.depth (.list (ns.map PyData.int)) = PyData.depthAll (ns.map PyData.int) + 1 := rfl
  rw [e, PyProof.Rows.depthAll_ints]
  rfl
theorem rd_neNilX {ns : List Int} (h : (ns ≠ [] → k (.bl true) n) ∧ (ns = [] → k (.bl false) n)) : RD K w (rNeU K) (.lst (ns.map .int)) (.lst []) n k := by
  refine rd_neD (pure_ints ns) rfl (shaped_ints ns) (shaped_ints []) ?_
  cases ns with
  | nil => exact h.2 rfl
  | cons i r => exact h.1 (by simp)
theorem rd_isI {i : Int} (hk : k (.bl false) n) : RD K w rIsU (.int i) .non n k := rd_is rfl hk
theorem rd_isL {l : List D} (hk : k (.bl false) n) : RD K w rIsU (.lst l) .non n k := rd_is rfl hk
theorem rd_isT {l : List D} (hk : k (.bl false) n) : RD K w rIsU (.tup l) .non n k := rd_is rfl hk
theorem rd_isS {l : Str} (hk : k (.bl false) n) : RD K w rIsU (.str l) .non n k := rd_is rfl hk
theorem rd_isNn (hk : k (.bl true) n) : RD K w rIsU .non .non n k := rd_is rfl hk
theorem rd_isNI {i : Int} (hk : k (.bl true) n) : RD K w rIsNU (.int i) .non n k := rd_isN rfl hk
theorem rd_isNL {l : List D} (hk : k (.bl true) n) : RD K w rIsNU (.lst l) .non n k := rd_isN rfl hk
theorem rd_isNT {l : List D} (hk : k (.bl true) n) : RD K w rIsNU (.tup l) .non n k := rd_isN rfl hk
theorem rd_isNS {l : Str} (hk : k (.bl true) n) : RD K w rIsNU (.str l) .non n k := rd_isN rfl hk
theorem rd_isNNn (hk : k (.bl false) n) : RD K w rIsNU .non .non n k := rd_isN rfl hk
theorem rd_ixAnyX {l : List D} {i : Int} (h : (0 ≤ i ∧ i < l.length) ∧ ∀ d, d ∈ l → l[i.toNat]? = some d → k d n) : RD K w (rIx K) (.lst l) (.int i) n k := by
  obtain ⟨⟨h1, h2⟩, h3⟩ := h
  obtain ⟨j, rfl⟩ := Int.eq_ofNat_of_zero_le h1
  have hj : j < l.length := by omega
  refine rd_ixL (atI_nat (j := j) (by simp [hj])) (h3 l[j] (List.getElem_mem hj) (by simp [hj]))
theorem rc_isiBX {d : D} {U : String} (h : ∃ T, tyD d = some T ∧ ∃ b, kitB T U = some b ∧ k (.bl b) n) : RC K w (rIsiU K) [d, .raw (.ty U)] n k := by
  obtain ⟨T, h1, b, h2, h3⟩ := h
  exact isi_bb h1 h2 h3
theorem kit_self {K : PySem.W.Frag} {v : Value} (h : (v == v) = true) : PySem.W.kitOne K v v = some true := by
  unfold PySem.W.kitOne
  rw [if_pos h]
theorem kit_any2 {K : PySem.W.Frag} {T U1 U2 : String} {b1 b2 : Bool} (h1 : kitB T U1 = some b1) (h2 : kitB T U2 = some b2) : PySem.W.kitAny K (.type T) [.type U1, .type U2] = some (b1 || b2) := by
  unfold PySem.W.kitAny
  rw [kit_ty h1]
  cases b1 with
  | true => rfl
  | false =>
    show (match PySem.W.kitOne K (.type T) (.type U2) with | some true => some true | some false => PySem.W.kitAny K (.type T) [] | none => none) = _
    rw [kit_ty h2]
    cases b2 <;> rfl
theorem e_isi2X {U1 U2 : String} (h : WpE K w te ds n fun d n1 => ∃ T, tyD d = some T ∧ ∃ b1, kitB T U1 = some b1 ∧ ∃ b2, kitB T U2 = some b2 ∧ k (.bl (b1 || b2)) n1) : WpE K w (tIsi2 K te (.ty U1) (.ty U2)) ds n k :=
  e_isi2 (t := fun _ => .none) (.ty U1) (.ty U2) (h.imp fun d n1 ⟨T, h1, b1, h2, b2, h3, hk⟩ => ⟨.type T, b1 || b2, fun S H v r => rp_ty r h1, kit_any2 h2 h3, hk⟩)
theorem rd_ixIntsX {ns : List Int} {i : Int} (h : (0 ≤ i ∧ i < ns.length) ∧ ∀ z : Int, z ∈ ns → ns[i.toNat]? = some z → k (.int z) n) : RD K w (rIx K) (.lst (ns.map .int)) (.int i) n k := by
  obtain ⟨⟨h1, h2⟩, h3⟩ := h
  obtain ⟨j, rfl⟩ := Int.eq_ofNat_of_zero_le h1
  have hj : j < ns.length := by omega
  refine rd_ixL (atI_nat (j := j) ?_) (h3 ns[j] (List.getElem_mem hj) (by simp [hj]))
  rw [List.getElem?_map, List.getElem?_eq_getElem hj]; rfl
end
end DW
set_option Elab.async false
set_option maxRecDepth 100000
set_option maxHeartbeats 4000000
set_option linter.all false
set_option autoImplicit false
/-! the pen's cells within the draw -/
namespace DW
open PySem PySem.Spec PyProof.Rows L2
section
variable {K : PySem.W.Frag} {w : Option Addr} {S : Addr → Bool} {H H0 H1 H2 H' : Hp} {n m : Nat} {σ : L2.St} {ds : List (Option D)} {ta tb te : TE} {i : Nat} {k : Kn} {ks : KS} {p c : Addr} {ix left : Int} {ns : List Int}
def subS (S : Addr → Bool) (p : Addr) : Addr → Bool := fun a => S a && !decide (a = p)
/-- an expression that reads the pen as a plain list and gives a flat value -/
theorem pen_eval {P : D → Prop} {Q : VK} (ok : OkW K (some p) S H n) (g1 : H p = some (.lst [.ref c, .int ix, .int left])) (g2 : cut S H c = some (.lst (ns.map V.int))) (re : RpE K (some p) S H0 H σ ds) (hi : ds[i]? = some (some (.raw (.ref p))))
    (h : WpE K none te (ds.set i (some (.lst [.lst (ns.map .int), .int ix, .int left]))) n fun d _ => flatD d = true ∧ P d)
    (hq : ∀ (d : D) (H' : Hp), P d → (∀ a o, H a = some o → H' a = some o) → Q (vD d) H') : te σ H Q := by
  have hS := (ok.1 p rfl).1
  have ex : Ex (cut S H) (cut (subS S p) H) := cut_sub (S' := S) (S := subS S p) fun a ha => by
    unfold subS at ha
    simp at ha; exact ha.1
  have pf : subS S p p = false := by unfold subS; simp
  obtain ⟨v0, h1, h2⟩ := re.get i _ hi rfl
  cases h2
  have hlt : i < ds.length := (List.getElem?_eq_some_iff.mp hi).1
  have rp : Rp K (cut (subS S p) H) (.ref p) (.lst [.lst (ns.map .int), .int ix, .int left]) :=
    .lst (by rw [cut_of pf]; exact g1) (.cons (.lst (ex _ _ g2) (Rps.of_ints ns)) (.cons (.int _) (.cons (.int _) .nil)))
  have rs : RpE K none (subS S p) (fun a => if a = p then H p else H0 a) H σ ds := by
    refine ⟨re.len, fun j d hj o => ?_, fun j l hj => ?_, re.dis⟩
    · obtain ⟨v, a1, a2⟩ := re.get j d hj o
      exact ⟨v, a1, a2.mono ex⟩
    · obtain ⟨a, xs, b1, b2, b3, b4, b5, b6⟩ := re.own j l hj
      have ne : a ≠ p := fun q => b3 (by rw [q])
      exact ⟨a, xs, b1, by unfold subS; simp [b2, ne], by simp, by simp [ne, b4], b5, b6.mono ex⟩
  have rs2 := rs.set (i := i) rp rfl
  have e : σ.set i (some (.ref p)) = σ := by
    apply List.ext_getElem?
    intro j
    by_cases q : i = j
    · subst q
      rw [List.getElem?_set_self (by rw [re.len]; exact hlt)]; exact h1.symm
    · rw [List.getElem?_set_ne q]
  rw [e] at rs2
  refine h (subS S p) _ σ H Q rs2 ⟨fun q hq => (nomatch hq), fun a ha => ok.2 a (by unfold subS at ha; simp at ha; exact ha.1)⟩ fun v H' d n' ⟨hf, hP⟩ pr ok' r => ?_
  obtain ⟨e1, _⟩ := rp_flat r hf
  subst e1
  exact hq d H' hP fun a o z => pr a o (by simp) z
theorem keep_pen (ok : OkW K (some p) S H n) (g1 : H p = some (.lst [.ref c, .int ix, .int left])) (g2 : cut S H c = some (.lst (ns.map V.int))) (kp : ∀ a o, H a = some o → H' a = some o) : H' p = some (.lst [.ref c, .int ix, .int left]) ∧ cut S H' c = some (.lst (ns.map V.int)) := by
  obtain ⟨z1, z2⟩ := cut_some g2
  exact ⟨kp _ _ g1, by rw [cut_of z1]; exact kp _ _ z2⟩
/-- if pen[0] != []: cell = pen[0][int(at) % len(pen[0])] -/
theorem s_cell {x : Int} (h : ∃ q, w = some q ∧ ds[0]? = some (some (.raw (.ref q))) ∧ ds[3]? = some (some (.int x)) ∧ (∀ z : Int, ks.nx (ds.set 4 (some (.int z))) n) ∧ ks.nx ds n) :
    WpS K w (tIfS (tTest (tOp (rNeU K) (tOp (rIx K) (tVar 0) (tC (.int 0))) (tLst tNil))) (tAsg (tOp (rIx K) (tOp (rIx K) (tVar 0) (tC (.int 0))) (tOp rModU (tCB rIntU (tCons (tVar 3) tNil)) (tCB (rLenU K) (tCons (tOp (rIx K) (tVar 0) (tC (.int 0))) tNil)))) (gName 4)) tNext) ds n ks := fun S0 H0 S σ H E b r e => by
  obtain ⟨q, rfl, h0, h3, hz, hn⟩ := h
  obtain ⟨hS, c, ix, left, ns, g1, g2, g3, g4, g5, g6⟩ := b.ok.1 q rfl
  have hlt : 0 < ds.length := (List.getElem?_eq_some_iff.mp h0).1
  have d0 : (ds.set 0 (some (D.lst [.lst (ns.map .int), .int ix, .int left])))[0]? = some (some (D.lst [.lst (ns.map .int), .int ix, .int left])) := List.getElem?_set_self hlt
  have d3 : (ds.set 0 (some (D.lst [.lst (ns.map .int), .int ix, .int left])))[3]? = some (some (.int x)) := by rw [List.getElem?_set_ne (by decide)]; exact h3
  show (tOp (rNeU K) (tOp (rIx K) (tVar 0) (tC (.int 0))) (tLst tNil)) σ H _
  refine pen_eval (P := fun d => d = .bl (!decide (ns = []))) b.ok g1 g2 r h0 ?_ fun d H1 hP kp => ?_
  · refine e_op (e_op (e_var d0 (e_int (rd_ixL rfl (e_lst (a_nil ⟨by decide, rd_neNilX ⟨fun z => ⟨rfl, by simp [z]⟩, fun z => ⟨rfl, by simp [z]⟩⟩⟩))))))
  · subst hP
    refine ⟨!decide (ns = []), rfl, ?_⟩
    have pr1 : Pres (some q) H H1 := fun a o _ z => kp a o z
    have ok1 : OkW K (some q) S H1 n := b.ok.ex kp
    by_cases hns : ns = []
    · rw [show (!decide (ns = [])) = false by simp [hns]]
      exact e.nx S σ H1 ds n hn (b.up pr1 ok1) (r.up b.ok pr1) (ex_cut b.ok pr1)
    · rw [show (!decide (ns = [])) = true by simp [hns]]
      obtain ⟨k1, k2⟩ := keep_pen b.ok g1 g2 kp
      have hl0 : 0 < ns.length := List.length_pos_iff.mpr hns
      show (tOp (rIx K) (tOp (rIx K) (tVar 0) (tC (.int 0))) (tOp rModU (tCB rIntU (tCons (tVar 3) tNil)) (tCB (rLenU K) (tCons (tOp (rIx K) (tVar 0) (tC (.int 0))) tNil)))) σ H1 _
      refine pen_eval (P := fun d => ∃ z : Int, d = .int z) ok1 k1 k2 (r.up b.ok pr1) h0 ?_ fun d H2 hP kp2 => ?_
      · refine e_op (e_op (e_var d0 (e_int (rd_ixL rfl ?_))))
        refine e_op (e_cb (a_cons (e_var d3 (a_nil (rc_int ?_)))))
        refine e_cb (a_cons (e_op (e_var d0 (e_int (rd_ixL rfl ?_)))))
        refine a_nil (rc_lenL (rd_modX ⟨?_, rd_ixIntsX ⟨⟨?_, ?_⟩, fun z _ _ => ⟨rfl, z, rfl⟩⟩⟩))
        · rw [List.length_map]; omega
        · exact Int.emod_nonneg _ (by rw [List.length_map]; omega)
        · rw [List.length_map]; exact Int.emod_lt_of_pos _ (by omega)
      · obtain ⟨z, rfl⟩ := hP
        have pr2 : Pres (some q) H1 H2 := fun a o _ z => kp2 a o z
        have ok2 : OkW K (some q) S H2 n := ok1.ex kp2
        exact e.nx S _ H2 _ n (hz z) ((b.up pr1 ok1).up pr2 ok2) (((r.up b.ok pr1).up ok1 pr2).set (.int z) rfl) ((ex_cut b.ok pr1).trans (ex_cut ok1 pr2))
theorem s_cellX (h : ∃ q, w = some q ∧ ds[0]? = some (some (.raw (.ref q))) ∧ ∃ x, ds[3]? = some (some (.int x)) ∧ (∀ z : Int, ks.nx (ds.set 4 (some (.int z))) n) ∧ ks.nx ds n) :
    WpS K w (tIfS (tTest (tOp (rNeU K) (tOp (rIx K) (tVar 0) (tC (.int 0))) (tLst tNil))) (tAsg (tOp (rIx K) (tOp (rIx K) (tVar 0) (tC (.int 0))) (tOp rModU (tCB rIntU (tCons (tVar 3) tNil)) (tCB (rLenU K) (tCons (tOp (rIx K) (tVar 0) (tC (.int 0))) tNil)))) (gName 4)) tNext) ds n ks := by
  obtain ⟨q, h1, h2, x, h3⟩ := h
  exact s_cell ⟨q, h1, h2, h3⟩
end
end DW
set_option Elab.async false
set_option maxRecDepth 100000
set_option maxHeartbeats 4000000
set_option linter.all false
set_option autoImplicit false
/-! comprehensions over ints, pure ones -/
namespace DW
open PySem PySem.Spec PyProof.Rows L2
section
variable {K : PySem.W.Frag} {w : Option Addr} {n m : Nat} {ds : List (Option D)} {ta tb te : TE} {i : Nat} {k : Kn} {ks : KS} {wi : TI} {tt : TT}
theorem t_yes {k : Bool → Nat → Prop} (h : k true n) : WpT K w tYes ds n k := fun S H0 σ H Q re ok p => p true H n h Pres.refl ok
theorem WpI.imp {k k' : List D → Nat → Prop} (h : WpI K w wi ds n k) (hk : ∀ l n, k l n → k' l n) : WpI K w wi ds n k' := fun S H0 σ H R re ok p => h S H0 σ H R re ok fun J H1 items n1 hk1 pr ok1 wk => p J H1 items n1 (hk _ _ hk1) pr ok1 wk
theorem WpT.imp {k k' : Bool → Nat → Prop} (h : WpT K w tt ds n k) (hk : ∀ l n, k l n → k' l n) : WpT K w tt ds n k' := fun S H0 σ H R re ok p => h S H0 σ H R re ok fun b H1 n1 hk1 pr ok1 => p b H1 n1 (hk _ _ hk1) pr ok1
theorem f_lcI {k : List D → Nat → Prop} {P : Int → Bool} {f : Int → D} (h : WpI K w wi ds n fun items n1 => ∃ ns : List Int, items = ns.map .int ∧ ns.length ≤ 100000 ∧
      (∀ z, z ∈ ns → WpT K w tt (ds.set i (some (.int z))) n1 fun b n2 => b = P z ∧ n2 = n1 ∧ (b = true → WpE K w te (ds.set i (some (.int z))) n1 fun d n3 => d = f z ∧ n3 = n1)) ∧ k ((ns.filter P).map f) n1) :
    WpF K w (tLc wi (gName i) tt te [i]) ds n k := by
  refine f_lc (h.imp fun items n1 ⟨ns, e, hz, hb, hk⟩ => ?_)
  subst e
  refine ⟨by rw [List.length_map]; exact hz, fun j acc n' => n' = n1 ∧ acc = ((ns.take j).filter P).map f, ⟨rfl, by simp⟩, fun j x acc n' hx ⟨e1, e2⟩ => ?_, fun acc n' ⟨e1, e2⟩ => ?_⟩
  · subst e1 e2
    rw [List.getElem?_map] at hx
    obtain ⟨z, hz1, hz2⟩ := Option.map_eq_some_iff.mp hx
    subst hz2
    have hmem := List.mem_of_getElem? hz1
    have hj : j < ns.length := (List.getElem?_eq_some_iff.mp hz1).1
    have hgz : ns[j] = z := (List.getElem?_eq_some_iff.mp hz1).2
    have et : ns.take (j + 1) = ns.take j ++ [z] := by rw [List.take_succ, hz1]; rfl
    have ed : (dwipe ds [i]).set i (some (.int z)) = ds.set i (some (.int z)) := by
      show ((dwipe ds []).set i none).set i _ = _
      rw [List.set_set]; rfl
    refine ⟨_, g_name rfl, ?_⟩
    rw [ed]
    refine (hb z hmem).imp fun b n2 ⟨e1, e2, hb2⟩ => ?_
    subst e2
    refine ⟨fun hbt => (hb2 hbt).imp fun d n3 ⟨e3, e4⟩ => ⟨e4, ?_⟩, fun hbf => ⟨rfl, ?_⟩⟩
    · rw [et, List.filter_append, List.map_append, e3]
      congr 1
      rw [List.filter_cons, ← e1, hbt]; rfl
    · rw [et, List.filter_append, List.map_append]
      rw [show List.filter P [z] = [] by rw [List.filter_cons, ← e1, hbf]; rfl]
      simp
  · subst e1 e2
    rw [List.length_map, List.take_length]
    exact hk
theorem e_lcIX (h : ∃ (P : Int → Bool) (f : Int → D), WpI K w wi ds n fun items n1 => ∃ ns : List Int, items = ns.map .int ∧ ns.length ≤ 100000 ∧
      (∀ z, z ∈ ns → WpT K w tt (ds.set i (some (.int z))) n1 fun b n2 => b = P z ∧ n2 = n1 ∧ (b = true → WpE K w te (ds.set i (some (.int z))) n1 fun d n3 => d = f z ∧ n3 = n1)) ∧ k (.lst ((ns.filter P).map f)) n1) :
    WpE K w (tLc wi (gName i) tt te [i]) ds n k := by
  obtain ⟨P, f, h⟩ := h
  exact WpF.toE (k := k) (f_lcI h)
/-- iterables that stand in a slot -/
theorem i_listV {j : Nat} {k : List D → Nat → Prop} (h : ∃ l, ds[j]? = some (some (.lst l)) ∧ k l n) : WpI K w (iSeq K (tVar j)) ds n k := by
  obtain ⟨l, h1, h2⟩ := h
  exact i_list (e_var h1 ⟨l, rfl, h2⟩)
theorem i_tupV {j : Nat} {k : List D → Nat → Prop} (h : ∃ l, ds[j]? = some (some (.tup l)) ∧ k l n) : WpI K w (iSeq K (tVar j)) ds n k := by
  obtain ⟨l, h1, h2⟩ := h
  exact i_tup (e_var h1 ⟨l, rfl, h2⟩)
theorem e_slLV {tl th : TO} {j : Nat} (h : ∃ l, ds[j]? = some (some (.lst l)) ∧ WpO K w tl ds n fun lo n2 => WpO K w th ds n2 fun hi n3 => k (.lst (cutD l lo hi)) n3) : WpE K w (tSl (rSlU K) (tVar j) tl th) ds n k := by
  obtain ⟨l, h1, h2⟩ := h
  exact e_slL (e_var h1 ⟨l, rfl, h2⟩)
theorem e_slTV {tl th : TO} {j : Nat} (h : ∃ l, ds[j]? = some (some (.tup l)) ∧ WpO K w tl ds n fun lo n2 => WpO K w th ds n2 fun hi n3 => k (.tup (cutD l lo hi)) n3) : WpE K w (tSl (rSlU K) (tVar j) tl th) ds n k := by
  obtain ⟨l, h1, h2⟩ := h
  exact e_slT (e_var h1 ⟨l, rfl, h2⟩)
theorem cutD_to {l : List D} {j : Nat} (h : j ≤ l.length) : cutD l none (some (j : Int)) = l.take j := by
  unfold cutD
  rw [HT.sIx_none, HT.sIx_nat, Nat.min_eq_left h]
  simp
theorem cutD_from {l : List D} {j : Nat} (h : j ≤ l.length) : cutD l (some (j : Int)) none = l.drop j := by
  unfold cutD
  rw [HT.sIx_none, HT.sIx_nat, Nat.min_eq_left h]
  rw [List.take_of_length_le (by rw [List.length_drop]; omega)]
theorem rc_allX {ns : List Int} {q : Int → Bool} (hk : k (.bl (ns.all q)) n) : RC K w (rAll K) [.lst (ns.map fun z => D.bl (q z))] n k := by
  have e : (ns.map fun z => D.bl (q z)) = (ns.map q).map D.bl := by rw [List.map_map]; rfl
  rw [e]
  refine rc_all ?_
  rw [List.all_map]
  exact hk
theorem rc_anyX {ns : List Int} {q : Int → Bool} (hk : k (.bl (ns.any q)) n) : RC K w (rAny K) [.lst (ns.map fun z => D.bl (q z))] n k := by
  have e : (ns.map fun z => D.bl (q z)) = (ns.map q).map D.bl := by rw [List.map_map]; rfl
  rw [e]
  refine rc_any ?_
  rw [List.any_map]
  exact hk
/-- all([test(z) for z in zs]), the zip of zs and zs[1:] with a test of the pair -/
theorem f_lcZip {k : List D → Nat → Prop} {i j : Nat} {f : Int → Int → D} (hij : i ≠ j) (h : WpI K w wi ds n fun items n1 => ∃ ps : List (Int × Int), items = ps.map (fun p => D.tup [.int p.1, .int p.2]) ∧ ps.length ≤ 100000 ∧
      (∀ p, p ∈ ps → WpE K w te ((((dwipe ds [i, j]).set i (some (.int p.1))).set j (some (.int p.2)))) n1 fun d n3 => d = f p.1 p.2 ∧ n3 = n1) ∧ k (ps.map fun p => f p.1 p.2) n1) :
    WpF K w (tLc wi (gTup K 2 (gCons (gName i) (gCons (gName j) gNil))) tYes te [i, j]) ds n k := by
  refine f_lc (h.imp fun items n1 ⟨ps, e, hz, hb, hk⟩ => ?_)
  subst e
  refine ⟨by rw [List.length_map]; exact hz, fun j acc n' => n' = n1 ∧ acc = (ps.take j).map fun p => f p.1 p.2, ⟨rfl, by simp⟩, fun q x acc n' hx ⟨e1, e2⟩ => ?_, fun acc n' ⟨e1, e2⟩ => ?_⟩
  · subst e1 e2
    rw [List.getElem?_map] at hx
    obtain ⟨z, hz1, hz2⟩ := Option.map_eq_some_iff.mp hx
    subst hz2
    have hmem := List.mem_of_getElem? hz1
    have et : ps.take (q + 1) = ps.take q ++ [z] := by rw [List.take_succ, hz1]; rfl
    refine ⟨_, g_tup (gs_cons (g_name rfl) (gs_cons (g_name rfl) gs_nil)) rfl, t_yes ⟨fun _ => (hb z hmem).imp fun d n3 ⟨e3, e4⟩ => ⟨e4, ?_⟩, fun z => (nomatch z)⟩⟩
    rw [et, List.map_append, e3]; rfl
  · subst e1 e2
    rw [List.length_map, List.take_length]
    exact hk
end
end DW
namespace DW
open PySem PySem.Spec PyProof.Rows L2
section
variable {K : PySem.W.Frag} {w : Option Addr} {n m : Nat} {ds : List (Option D)} {k : Kn}
theorem inV_ints {i : Int} : ∀ ns : List Int, inV (vD (.int i)) ((ns.map D.int).map vD) = decide (i ∈ ns)
  | [] => rfl
  | a :: r => by
    have ih := inV_ints (i := i) r
    unfold inV at ih ⊢
    rw [List.map_cons, List.map_cons, List.any_cons, ih]
    show (eqV (.int a) (.int i) || decide (i ∈ r)) = decide (i ∈ a :: r)
    have e : eqV (.int a) (.int i) = decide (a = i) := by
      first
        | rfl
        | (unfold eqV; by_cases h : a = i <;> simp [h])
    rw [e]
    by_cases h : a = i
    · subst h; simp
    · have h' : ¬ i = a := fun z => h z.symm
      simp [h, h']
theorem rd_inIntsX {ns : List Int} {i : Int} (hk : k (.bl (decide (i ∈ ns))) n) : RD K w (rIn K false) (.int i) (.lst (ns.map .int)) n k := by
  refine rd_inL rfl (by simp [flatD]) ?_
  rw [if_neg (by decide), inV_ints]
  exact hk
/-- what of the text a class must have whose instances' fields are read and written -/
structure ClT (K : PySem.W.Frag) (C : Addr) (fs : List Str) : Prop where
  cls : Cls K C
  na : ∀ f ∈ fs, NoAttr K C f
/-- o.f, o in a slot, an instance with all fields known -/
theorem e_fldX {f : Str} {j : Nat} (h : ∃ C ns l, ds[j]? = some (some (.obj C ns l)) ∧ ClT K C ns ∧ f ∈ ns ∧ ∃ e, (ns.zip l).lookup f = some e ∧ k e n) : WpE K w (tFld K (tVar j) f) ds n k := by
  obtain ⟨C, ns, l, h1, T, hf, e, h2, h3⟩ := h
  exact e_fld (e_var h1 ⟨C, ns, l, e, rfl, T.cls, T.na f hf, h2, h3⟩)
end
end DW
set_option Elab.async false
set_option maxRecDepth 100000
set_option maxHeartbeats 4000000
set_option linter.all false
set_option autoImplicit false
/-! comprehensions over anything; own lists frozen -/
namespace DW
open PySem PySem.Spec PyProof.Rows L2
section
variable {K : PySem.W.Frag} {w : Option Addr} {S S0 : Addr → Bool} {H H0 : Hp} {n m : Nat} {ds : List (Option D)} {ta tb te : TE} {i : Nat} {k : Kn} {ks : KS} {wi : TI} {tt : TT} {t : TS}
theorem f_lcG {α : Type} {φ : α → D} (hφ : ∀ x, isOwn (φ x) = false) {k : List D → Nat → Prop} {P : α → Bool} {f : α → D} (h : WpI K w wi ds n fun items n1 => ∃ ns : List α, items = ns.map φ ∧ ns.length ≤ 100000 ∧
      (∀ z, z ∈ ns → WpT K w tt (ds.set i (some (φ z))) n1 fun b n2 => b = P z ∧ n2 = n1 ∧ (b = true → WpE K w te (ds.set i (some (φ z))) n1 fun d n3 => d = f z ∧ n3 = n1)) ∧ k ((ns.filter P).map f) n1) :
    WpF K w (tLc wi (gName i) tt te [i]) ds n k := by
  refine f_lc (h.imp fun items n1 ⟨ns, e, hz, hb, hk⟩ => ?_)
  subst e
  refine ⟨by rw [List.length_map]; exact hz, fun j acc n' => n' = n1 ∧ acc = ((ns.take j).filter P).map f, ⟨rfl, by simp⟩, fun j x acc n' hx ⟨e1, e2⟩ => ?_, fun acc n' ⟨e1, e2⟩ => ?_⟩
  · subst e1 e2
    rw [List.getElem?_map] at hx
    obtain ⟨z, hz1, hz2⟩ := Option.map_eq_some_iff.mp hx
    subst hz2
    have hmem := List.mem_of_getElem? hz1
    have et : ns.take (j + 1) = ns.take j ++ [z] := by rw [List.take_succ, hz1]; rfl
    have ed : (dwipe ds [i]).set i (some (φ z)) = ds.set i (some (φ z)) := by
      show ((dwipe ds []).set i none).set i _ = _
      rw [List.set_set]; rfl
    refine ⟨_, g_name (hφ z), ?_⟩
    rw [ed]
    refine (hb z hmem).imp fun b n2 ⟨e1, e2, hb2⟩ => ?_
    subst e2
    refine ⟨fun hbt => (hb2 hbt).imp fun d n3 ⟨e3, e4⟩ => ⟨e4, ?_⟩, fun hbf => ⟨rfl, ?_⟩⟩
    · rw [et, List.filter_append, List.map_append, e3]
      congr 1
      rw [List.filter_cons, ← e1, hbt]; rfl
    · rw [et, List.filter_append, List.map_append]
      rw [show List.filter P [z] = [] by rw [List.filter_cons, ← e1, hbf]; rfl]
      simp
  · subst e1 e2
    rw [List.length_map, List.take_length]
    exact hk
theorem e_lcGX {α : Type} (h : ∃ (φ : α → D) (P : α → Bool) (f : α → D), (∀ x, isOwn (φ x) = false) ∧ WpI K w wi ds n fun items n1 => ∃ ns : List α, items = ns.map φ ∧ ns.length ≤ 100000 ∧
      (∀ z, z ∈ ns → WpT K w tt (ds.set i (some (φ z))) n1 fun b n2 => b = P z ∧ n2 = n1 ∧ (b = true → WpE K w te (ds.set i (some (φ z))) n1 fun d n3 => d = f z ∧ n3 = n1)) ∧ k (.lst ((ns.filter P).map f)) n1) :
    WpE K w (tLc wi (gName i) tt te [i]) ds n k := by
  obtain ⟨φ, P, f, h0, h⟩ := h
  exact WpF.toE (k := k) (f_lcG h0 h)
/-- an own list that is changed no more -/
theorem s_freeze {l : List D} (hi : ds[i]? = some (some (.own l))) (h : WpS K w t (ds.set i (some (.lst l))) n ks) : WpS K w t ds n ks := fun S0 H0 S σ H E b r e => by
  obtain ⟨a, xs, h1, h2, h3, h4, h5, h6⟩ := r.own i l hi
  have hlt : i < ds.length := (List.getElem?_eq_some_iff.mp hi).1
  have sub : ∀ c, subS S a c = true → S c = true := fun c hc => by unfold subS at hc; simp at hc; exact hc.1
  have ex : Ex (cut S H) (cut (subS S a) H) := cut_sub sub
  have af : subS S a a = false := by unfold subS; simp
  have aS0 : S0 a = false := by
    cases q : S0 a with
    | false => rfl
    | true =>
      obtain ⟨o, z⟩ := b.old a q
      rw [h4] at z; cases z
  have mem : ∀ c, c ≠ a → S c = true → subS S a c = true := fun c hc z => by unfold subS; simp [z, hc]
  have b' : Base w K S0 H0 (subS S a) H n := by
    refine ⟨b.pres, b.ok.less sub fun p hp => mem p (fun q => h3 (by rw [hp, q])) (b.ok.1 p hp).1, fun c hc => mem c (fun q => by rw [q, aS0] at hc; cases hc) (b.sub c hc), fun c hc => b.new c (sub c hc), b.pen, b.old⟩
  have rp : Rp K (cut (subS S a) H) (.ref a) (.lst l) := .lst (by rw [cut_of af]; exact h5) (h6.mono ex)
  have r' : RpE K w (subS S a) H0 H (σ.set i (some (.ref a))) (ds.set i (some (.lst l))) := by
    refine ⟨by simp [r.len], fun j d hj o => ?_, fun j m hj => ?_, fun j q l1 l2 c hjq g1 g2 g3 => ?_⟩
    · by_cases hij : i = j
      · subst hij
        rw [List.getElem?_set_self hlt] at hj; cases hj
        exact ⟨.ref a, by rw [List.getElem?_set_self (by rw [r.len]; exact hlt)], rp⟩
      · rw [List.getElem?_set_ne hij] at hj ⊢
        obtain ⟨v, g1, g2⟩ := r.get j d hj o
        exact ⟨v, g1, g2.mono ex⟩
    · by_cases hij : i = j
      · subst hij
        rw [List.getElem?_set_self hlt] at hj; cases hj
      · rw [List.getElem?_set_ne hij] at hj ⊢
        obtain ⟨c, ys, g1, g2, g3, g4, g5, g6⟩ := r.own j m hj
        have ne : c ≠ a := fun q => by
          subst q
          exact r.dis i j l m c hij hi hj h1 g1
        exact ⟨c, ys, g1, mem c ne g2, g3, g4, g5, g6.mono ex⟩
    · have nj : i ≠ j := fun z => by
        subst z
        rw [List.getElem?_set_self hlt] at g1; cases g1
      have nq : i ≠ q := fun z => by
        subst z
        rw [List.getElem?_set_self hlt] at g2; cases g2
      rw [List.getElem?_set_ne nj] at g1 g3
      rw [List.getElem?_set_ne nq] at g2 ⊢
      exact r.dis j q l1 l2 c hjq g1 g2 g3
  have eσ : σ.set i (some (.ref a)) = σ := by
    apply List.ext_getElem?
    intro j
    by_cases q : i = j
    · subst q
      rw [List.getElem?_set_self (by rw [r.len]; exact hlt)]; exact h1.symm
    · rw [List.getElem?_set_ne q]
  rw [eσ] at r'
  exact h S0 H0 (subS S a) σ H E b' r' (e.from ex)
theorem s_appX (h : ∃ l, ds[i]? = some (some (.own l)) ∧ WpE K w te ds n fun d n1 => l.length < 100000 ∧ ks.nx (ds.set i (some (.own (l ++ [d])))) n1) : WpS K w (tDrop (tBM K "list" rAppend (tVar i) (tCons te tNil))) ds n ks := by
  obtain ⟨l, h1, h2⟩ := h
  exact s_app h1 h2
theorem inV_strs {x : Str} : ∀ xs : List Str, inV (vD (.str x)) ((xs.map D.str).map vD) = decide (x ∈ xs)
  | [] => rfl
  | a :: r => by
    have ih := inV_strs (x := x) r
    unfold inV at ih ⊢
    rw [List.map_cons, List.map_cons, List.any_cons, ih]
    show (eqV (.str a) (.str x) || decide (x ∈ r)) = decide (x ∈ a :: r)
    have e : eqV (.str a) (.str x) = decide (a = x) := by
      first
        | rfl
        | (unfold eqV; by_cases h : a = x <;> simp [h])
    rw [e]
    by_cases h : a = x
    · subst h; simp
    · have h' : ¬ x = a := fun z => h z.symm
      simp [h, h']
theorem rd_ninStrs {x : Str} {xs : List Str} (hk : k (.bl (!decide (x ∈ xs))) n) : RD K w (rIn K true) (.str x) (.tup (xs.map .str)) n k := by
  refine rd_inT rfl (by simp [flatD]) ?_
  rw [if_pos rfl, inV_strs]
  exact hk
theorem rd_addLX {i j : List D} (h : i.length + j.length ≤ 100000 ∧ k (.lst (i ++ j)) n) : RD K w (rAddU K) (.lst i) (.lst j) n k := rd_addL h.1 h.2
theorem rd_addTX {i j : List D} (h : i.length + j.length ≤ 100000 ∧ k (.tup (i ++ j)) n) : RD K w (rAddU K) (.tup i) (.tup j) n k := rd_addT h.1 h.2
theorem rd_addSX {i j : Str} (h : i.length + j.length ≤ 100000 ∧ k (.str (i ++ j)) n) : RD K w (rAddU K) (.str i) (.str j) n k := rd_addS h.1 h.2
theorem rgD_ints (lo : Int) (c : Nat) : rgD lo c = ((List.range c).map fun i => lo + (i : Nat)).map D.int := by unfold rgD; rw [List.map_map]; rfl
end
end DW
set_option Elab.async false
set_option maxRecDepth 100000
set_option maxHeartbeats 4000000
set_option linter.all false
set_option autoImplicit false
/-! the law's own call, where the law asks for a repr: it stands at the caller's place, no container is being told there -/
namespace DW
open PySem PySem.Spec PyProof.Rows L2

/-- a def's promise at the caller's place alone -/
def AtCaller (P : Program) (w : World) (K : PySem.W.Frag) (mg : Str → Option Value) (fa : Addr) (sp : Sp) : Prop :=
  ∀ (base : Heap) (s : Shared) (H : Hp) (us : List Value) (vs : List V) (Q : VK) (E : XK), Env0 P w K mg base callerA [] s H → Vals vs us → sp vs H Q E → codeAny (model P w) callerA (.call (.ref fa) ⟨us, []⟩) (CR CX0 [] P w H s Q E) s
section
variable {P : Program} {w : World} {K : PySem.W.Frag} {mg mb : Str → Option Value} {fa a : Addr} {sp : Sp} {s₁ : Shared} {vs : List Value} {ns : List Int}
/-- where the script stands: it is tracked, or an object of the module -/
theorem script_heap (KX : K.In s₁.heap) (ha : s₁.heap.get? a = some { cls := .type "list", data := .seq vs.toArray }) (hi : IntsAre vs ns) (hl : ns.length ≤ sizeLine) :
    ∃ H : Hp, Only H ∧ SqL K H a (ns.map V.int) ∧ HOk P w H s₁.heap ∧ (∀ b, H b ≠ none → b = a) ∧ (H a ≠ none → K.lookup a = none) := by
  have rv := vals_ints hi
  cases hk : K.lookup a with
  | some o =>
    have e : s₁.heap.get? a = some o := KX a o hk
    obtain rfl : o = { cls := .type "list", data := .seq vs.toArray } := by rw [ha] at e; exact (Option.some.inj e).symm
    exact ⟨fun _ => none, fun _ => .inl rfl, .inr ⟨_, vs.toArray, _, hk, rfl, rfl, rfl, by rw [List.size_toArray, hi.length]; exact hl, by simpa using rv⟩, fun b u z => absurd (show (none : Option HO) = some u from z) (by simp), fun _ z => absurd rfl z, fun z => absurd rfl z⟩
  | none =>
    refine ⟨fun b => if b = a then some (.frz { cls := .type "list", data := .seq vs.toArray } (.lst (ns.map V.int))) else none, fun b => ?_, .inl (.inr ⟨_, if_pos rfl⟩), fun b u z => ?_, fun b z => ?_, fun _ => rfl⟩
    · by_cases q : b = a
      · right; exact ⟨_, _, if_pos q⟩
      · left; exact if_neg q
    · by_cases q : b = a
      · subst q
        dsimp only at z
        rw [if_pos rfl] at z
        cases z
        exact ⟨ha, by rw [List.length_map]; exact hl, vs, _, rv, ha⟩
      · dsimp only at z; rw [if_neg q] at z; cases z
    · by_cases q : b = a
      · exact q
      · dsimp only at z; rw [if_neg q] at z; exact absurd rfl z
theorem law_at (KX : K.In s₁.heap) (hns : s₁.heap.Ns mainGlobals mg) (hb : s₁.heap.Ns builtinsNs mb) (hbb : ∀ x : Str, x ≠ "__name__" → mb x = bootBuiltins x) (hlim : s₁.heap.NoLimit) (hg : s₁.gens = #[])
    (ha : s₁.heap.get? a = some { cls := .type "list", data := .seq vs.toArray }) (hi : IntsAre vs ns) (hl : ns.length ≤ sizeLine) (F : AtCaller P w K mg fa sp)
    (hsp : ∀ H : Hp, SqL K H a (ns.map V.int) → sp [.ref a] H (fun v _ => v = .bl true) fun _ _ _ => False) :
    codeAny (model P w) callerA (.call (.ref fa) ⟨[.ref a], []⟩) (fun r s' => r = .ok (.ret (.bool true)) ∧ OldK s₁.heap s'.heap ∧ s'.os = s₁.os ∧ AllBare s'.gens) s₁ := by
  obtain ⟨H, hO, hS, hok, hA, hK⟩ := script_heap (P := P) (w := w) KX ha hi hl
  -- what is no list of the heap's isn't tracked
  have free : ∀ {b : Addr} {o : Obj}, s₁.heap.get? b = some o → (∀ its n, o.data ≠ .seq its n) → H b = none := fun {b o} e h => by
    cases q : H b with
    | none => rfl
    | some u =>
      obtain rfl : b = a := hA b (by rw [q]; exact fun z => nomatch z)
      obtain rfl : o = { cls := .type "list", data := .seq vs.toArray } := Option.some.inj (e.symm.trans ha)
      exact absurd rfl (h vs.toArray _)
  have keepNs : ∀ {b : Addr} {m : Str → Option Value}, s₁.heap.Ns b m → (hidT s₁.heap H).Ns b m := fun {b m} h => by
    obtain ⟨o, es, ep, e, d, r⟩ := h
    exact ⟨o, es, ep, hidT_get e (free e fun its n z => by rw [d] at z; cases z), d, r⟩
  have inB : K.In (hidT s₁.heap H) := fun b o e => by
    refine hidT_get (KX b o e) ?_
    cases q : H b with
    | none => rfl
    | some u =>
      obtain rfl : b = a := hA b (by rw [q]; exact fun z => nomatch z)
      have := hK (by rw [q]; exact fun z => nomatch z)
      rw [this] at e; cases e
  obtain ⟨mc, hc1, hc2⟩ := hlim
  have md : Mod K mg (hidT s₁.heap H) := { kin := inB, glob := keepNs hns, blt := ⟨mb, keepNs hb, hbb⟩, nolimit := ⟨mc, keepNs hc1, hc2⟩ }
  have e0 : Env0 P w K mg (hidT s₁.heap H) callerA [] s₁ H := by
    refine ⟨rfl, md, fun b o e => of_hidT e, ?_, trivial, fun b hb => ?_, hok, .of_eq hg⟩
    · rw [hidT_size]; exact Nat.le_refl _
    · exact absurd (show b ∈ ([] : List Addr) from hb) List.not_mem_nil
  refine codeAny_mono (F _ s₁ H [.ref a] [.ref a] _ _ e0 (.cons rfl .nil) (hsp H hS)) fun r s' h => ?_
  match r, h with
  | .ok (.ret u), h =>
    obtain ⟨v, H', os, bare, un, hok', r', q⟩ := h
    obtain rfl : v = V.bl true := q
    obtain rfl : u = Value.bool true := r'
    refine ⟨rfl, OldK.of_keep fun b o e => ?_, os, bare⟩
    rcases hO b with z | ⟨ob, xs, z⟩
    · exact un.keep b o e z (fun y => absurd (show b ∈ ([] : List Addr) from y) List.not_mem_nil) List.not_mem_nil
    · obtain ⟨e1, _⟩ := hok b _ z
      obtain ⟨e2, _⟩ := hok' b _ (un.frzs b ob _ z)
      rw [Option.some.inj (e.symm.trans e1)]; exact e2
theorem walk_at {l : PySem.W.OpenLaw} {n : Nat} {q : Program} {loose : List Str} {XP : (Str → Option Value) → Heap → Prop} {YP : World → Heap → Prop} {d : DefRec} {KP : Params → PySem.W.Frag} {sp : World → Sp} (hn : l.most = some n) (hn2 : n ≤ sizeLine) (hdf : d.params.defaults = [])
    (hY : ∀ (w : World) (h : Heap), YP w h → (KP w.params).In h)
    (F : ∀ (w : World) (mg : Str → Option Value) (fa : Addr) (h : Heap), (KP w.params).In h → h.Ns mainGlobals mg → mg d.name = some (.ref fa) → AtCaller l.prog w (KP w.params) mg fa (sp w))
    (hsp : ∀ (w : World) (H : Hp) (a : Addr) (ns : List Int), ns.length ≤ n → SqL (KP w.params) H a (ns.map V.int) → sp w [.ref a] H (fun v _ => v = .bl true) fun _ _ _ => False) :
    PySem.W.WalkO q loose XP YP l.row.toRowW d [] (fun f vs => PySem.call f vs) := by
  refine Att.attach_call hn hdf fun w s₀ s₁ mg mb fa o pm cd doc a vs ns G Y _ _ _ hmg hobj hints hlen hg => ?_
  have KX := hY w _ Y
  exact law_at KX G.T.g G.T.b G.T.builtins G.T.nolimit hg hobj hints (Nat.le_trans hlen hn2) (F w mg fa _ KX G.T.g hmg) fun H hS => hsp w H a ns hlen hS
/-- the law's def at the caller's place: no container is being told -/
theorem at_def {x qual : Str} {st : Stmt} {fd : FuncData} {N ps : List Str} {k : Nat} (Fn : Fun K x qual st fa fd) (S : FnScope N ps (defScope st)) (hr : Room (k + 1) callerA) (hbd : ∀ us : List Value, us.length = ps.length → ∀ s : Shared, BindsTo s fd ⟨us, []⟩ (ps.zip us)) (len : ∀ vs H Q E, sp vs H Q E → vs.length = ps.length)
    (hbody : ∀ (base : Heap) (cdv : Value) (s : Shared) (H : Hp) (vs : List V) (Q : VK) (E : XK), Room k (callerA.deeper (envOfC qual (defScope st) s.heap.objs.size fa cdv)) → (callerA.deeper (envOfC qual (defScope st) s.heap.objs.size fa cdv)).guards = some [] → sp vs H Q E →
      ∃ t, PSs (cxOf CX0 P w K mg base N qual (defScope st) fa cdv callerA [] s H E).nox (defBody st) t ∧ t { nx := fun _ H' => Q .non H', rt := Q } (start N vs) H) : AtCaller P w K mg fa sp := by
  intro base s H us vs Q E e0 r h
  obtain ⟨oc, od, kV, doc, pm, an, cdv, ct, osl, rfl, lk, hcd⟩ := Fn.ex
  have hl := len _ _ _ _ h
  have KX : K.In s.heap := e0.mod.kin.keeps fun b o e => (e0.bs b o e).1
  have lim : s.heap.NoLimit := e0.mod.nolimit.keeps fun b o e => (e0.bs b o e).1
  refine codeAny_call_function hr.depth (KX _ _ lk) rfl S.co S.gen rfl (PySem.W.codeRec_of KX hcd) (hbd us (by rw [← r.length]; exact hl) s _ _ _ _ ?_)
  refine wpAny_newFunctionEnv_cells S.kind (fun y hy => ?_) fun env he s1 x => ?_
  · rcases S.par y.1 (List.of_mem_zip hy).1 with z | z
    · exact .inl z
    · exact .inr ⟨z, PySem.W.cellsFrom_some _ _ _ (.inl z)⟩
  · subst he
    refine ⟨lim.keeps x.toInCall.keep, codeAny_func ?_⟩
    obtain ⟨t, ht, hq⟩ := hbody base cdv s H vs Q E (hr.deeper _) rfl h
    have I := inv_start (CX := CX0) (E := E) (f := fa) (cd := cdv) (qual := qual) S hr.hd e0 hl r x
    refine wpAny_mono (ht.nox.run [] s1 _ H _ I hq) (fun fl s' hs => ?_) fun _ _ z => z
    have fin : ∀ {σ' : L2.St} {H' : Hp} {v : V} {u : Value}, Inv (cxOf CX0 P w K mg base N qual (defScope st) fa cdv callerA [] s H E) [] σ' H' s' → RelV v u → Q v H' → CE [] P w H s Q u s' := fun {σ' H' v u} J rv q => ⟨v, H', J.os, J.bare, J.base, J.hok, rv, q⟩
    match fl, hs with
    | .ret u, hs =>
      obtain ⟨v, σ', H', J, rv, q⟩ := hs
      exact fin J rv q
    | .next, hs =>
      obtain ⟨σ', H', J, q⟩ := hs
      exact fin (v := V.non) (u := Value.none) J rfl q
    | .brk, hs => obtain ⟨_, _, _, q⟩ := hs; exact q.elim
    | .cont, hs => obtain ⟨_, _, _, q⟩ := hs; exact q.elim
end
end DW
set_option Elab.async false
set_option maxRecDepth 100000
set_option maxHeartbeats 4000000
set_option linter.all false
set_option autoImplicit false
namespace K51
open PySem PySem.Spec PyProof.Rows L2 DW
def k_ASKED : List D := [.str "count", .str "sum", .str "least", .str "greatest", .str "most", .str "rank"]
def r__law_pen (K : PySem.W.Frag)  : TS :=
  (tRet (tLst (tCons (tLc (iSeq K (tSl (rSlU K) (tVar 0) tNoPart (tPart (tC (.int 63))))) (gName 1) tYes (tCB rIntU (tCons (tVar 1) tNil)) [1]) (tCons (tC (.int 0)) (tCons (tC (.int 0)) tNil)))))
def r__law_draw (K : PySem.W.Frag)  : TS :=
  (tSeq (tIfS (tTest (tOp (rI0 fun i j => .bl (decide (j < i))) (tOp (rIx K) (tVar 0) (tC (.int 2))) (tC (.int 0)))) (tSeq (tAsg (tOp rModU (tCB rIntU (tCons (tOp (rIx K) (tVar 0) (tC (.int 2))) tNil)) (tVar 1)) (gName 2)) (tSeq (tAsg (tOp rDivU (tCB rIntU (tCons (tOp (rIx K) (tVar 0) (tC (.int 2))) tNil)) (tVar 1)) (gSub (tVar 0) (tC (.int 2)) rSetL)) (tRet (tVar 2)))) tNext) (tSeq (tAsg (tOp (rIx K) (tVar 0) (tC (.int 1))) (gName 3)) (tSeq (tAsg (tOp (rAddU K) (tVar 3) (tC (.int 1))) (gSub (tVar 0) (tC (.int 1)) rSetL)) (tSeq (tAsg (tOp (rAddU K) (tOp rMulU (tC (.int 61357)) (tVar 3)) (tC (.int 20921))) (gName 4)) (tSeq (tIfS (tTest (tOp (rNeU K) (tOp (rIx K) (tVar 0) (tC (.int 0))) (tLst tNil))) (tAsg (tOp (rIx K) (tOp (rIx K) (tVar 0) (tC (.int 0))) (tOp rModU (tCB rIntU (tCons (tVar 3) tNil)) (tCB (rLenU K) (tCons (tOp (rIx K) (tVar 0) (tC (.int 0))) tNil)))) (gName 4)) tNext) (tSeq (tIfS (tAnd (tTest (tOp (rI0 fun i j => .bl (decide (i < j))) (tVar 3) (tCB (rLenU K) (tCons (tOp (rIx K) (tVar 0) (tC (.int 0))) tNil)))) (tTest (tOp (rI0 fun i j => .bl (decide (j ≤ i))) (tCB rAbsU (tCons (tVar 4) tNil)) (tOp (rI CPow fun i j => .int (i ^ j.toNat)) (tC (.int 10)) (tC (.int 18)))))) (tSeq (tAsg (tOp (rAddU K) (tOp rMulU (tC (.int 2)) (tOp (rI0 fun i j => .int (i - j)) (tCB rAbsU (tCons (tVar 4) tNil)) (tOp (rI CPow fun i j => .int (i ^ j.toNat)) (tC (.int 10)) (tC (.int 18))))) (tCB rIntU (tCons (tOp (rI0 fun i j => .bl (decide (i < j))) (tVar 4) (tC (.int 0))) tNil))) (gName 5)) (tSeq (tAsg (tOp rDivU (tCB rIntU (tCons (tVar 5) tNil)) (tVar 1)) (gSub (tVar 0) (tC (.int 2)) rSetL)) (tRet (tOp rModU (tCB rIntU (tCons (tVar 5) tNil)) (tVar 1))))) tNext) (tSeq (tAsg (tOp rModU (tCB rIntU (tCons (tOp (rI CPow fun i j => .int (i ^ j.toNat)) (tOp (rAddU K) (tOp (rAddU K) (tOp rModU (tCB rIntU (tCons (tVar 4) tNil)) (tC (.int 2147483549))) (tOp rMulU (tC (.int 61357)) (tVar 3))) (tC (.int 20921))) (tC (.int 5))) tNil)) (tC (.int 2147483587))) (gName 6)) (tSeq (tAsg (tOp rModU (tCB rIntU (tCons (tOp (rI CPow fun i j => .int (i ^ j.toNat)) (tOp (rAddU K) (tOp (rAddU K) (tOp rMulU (tVar 6) (tOp (rAddU K) (tOp rMulU (tC (.int 2)) (tVar 3)) (tC (.int 1301)))) (tOp rMulU (tOp rMulU (tC (.int 20921)) (tVar 3)) (tVar 3))) (tC (.int 57))) (tC (.int 3))) tNil)) (tC (.int 2147483563))) (gName 6)) (tRet (tOp rModU (tCB rIntU (tCons (tOp rDivU (tVar 6) (tC (.int 16))) tNil)) (tVar 1)))))))))))
def r__law_hole (K : PySem.W.Frag) (S__law_draw : Sp) : TS :=
  (tSeq (tAsg (tOp (rAddU K) (tVar 1) (tCall S__law_draw [] E0 (tCons (tVar 0) (tCons (tC (.int 2)) tNil)))) (gName 4)) (tSeq (tIfS (tTest (tOp (rEqU K) (tVar 2) (tC (.int 1)))) (tSeq (tAsg (tOp (rI0 fun i j => .int (i - j)) (tCall S__law_draw [] E0 (tCons (tVar 0) (tCons (tOp (rAddU K) (tOp rMulU (tC (.int 2)) (tVar 3)) (tC (.int 1))) tNil))) (tVar 3)) (gName 5)) (tRet (tTup (tCons (tC (.int 1)) (tCons (tVar 4) (tCons (tVar 4) (tCons (tVar 5) (tCons (tVar 5) (tCons (tVar 5) tNil))))))))) tNext) (tSeq (tPar 6 7 (tCons (tOp (rAddU K) (tOp (rI0 fun i j => .int (i - j)) (tOp (rAddU K) (tVar 4) (tVar 2)) (tC (.int 1))) (tCall S__law_draw [] E0 (tCons (tVar 0) (tCons (tC (.int 4)) tNil)))) (tCons (tOp (rI0 fun i j => .int (i - j)) (tCall S__law_draw [] E0 (tCons (tVar 0) (tCons (tOp (rAddU K) (tVar 3) (tC (.int 1))) tNil))) (tVar 3)) tNil))) (tSeq (tAsg (tOp (rAddU K) (tVar 7) (tCall S__law_draw [] E0 (tCons (tVar 0) (tCons (tOp (rAddU K) (tVar 3) (tC (.int 1))) tNil)))) (gName 8)) (tSeq (tAsg (tOp (rAddU K) (tOp (rAddU K) (tOp rMulU (tOp (rI0 fun i j => .int (i - j)) (tVar 2) (tC (.int 1))) (tVar 7)) (tVar 8)) (tCall S__law_draw [] E0 (tCons (tVar 0) (tCons (tOp (rAddU K) (tOp rMulU (tOp (rI0 fun i j => .int (i - j)) (tVar 2) (tC (.int 2))) (tOp (rI0 fun i j => .int (i - j)) (tVar 8) (tVar 7))) (tC (.int 1))) tNil)))) (gName 9)) (tRet (tTup (tCons (tVar 2) (tCons (tVar 4) (tCons (tVar 6) (tCons (tVar 9) (tCons (tVar 7) (tCons (tVar 8) tNil)))))))))))))
def r__law_pick (K : PySem.W.Frag) (S__law_draw : Sp) : TS :=
  (tRet (tOp (rIx K) (tVar 1) (tCall S__law_draw [] E0 (tCons (tVar 0) (tCons (tCB (rLenU K) (tCons (tVar 1) tNil)) tNil)))))
def r__law_question (K : PySem.W.Frag) (S__law_pick : Sp) (S__law_draw : Sp) : TS :=
  (tSeq (tAsg (tCall S__law_pick [] E0 (tCons (tVar 0) (tCons (tLst (tCons (tC (.str "count")) (tCons (tC (.str "sum")) (tCons (tC (.str "least")) (tCons (tC (.str "greatest")) (tCons (tC (.str "most")) (tCons (tC (.str "rank")) tNil))))))) tNil))) (gName 3)) (tSeq (tAsg (tCB (rMaxU K) (tCons (tLc (iSeq K (tVar 1)) (gName 9) tYes (tIf (tB (tCB (rIsiU K) (tCons (tVar 9) (tCons (tC (.ty "list")) tNil)))) (tOp (rIx K) (tOp (rIx K) (tVar 9) (tUn (rU fun i => .int (-i)) (tC (.int 1)))) (tC (.int 0))) (tOp (rIx K) (tVar 9) (tC (.int 2)))) [9]) tNil)) (gName 4)) (tSeq (tAsg (tIf (tTest (tOp (rI0 fun i j => .bl (decide (j < i))) (tCall S__law_draw [] E0 (tCons (tVar 0) (tCons (tC (.int 3)) tNil))) (tC (.int 0)))) (tCall S__law_draw [] E0 (tCons (tVar 0) (tCons (tOp (rAddU K) (tVar 4) (tC (.int 2))) tNil))) (tC (.int 0))) (gName 5)) (tSeq (tAsg (tIf (tTest (tOp (rI0 fun i j => .bl (decide (j < i))) (tCall S__law_draw [] E0 (tCons (tVar 0) (tCons (tC (.int 3)) tNil))) (tC (.int 0)))) (tOp (rAddU K) (tVar 5) (tCall S__law_draw [] E0 (tCons (tVar 0) (tCons (tOp (rI0 fun i j => .int (i - j)) (tOp (rAddU K) (tVar 4) (tC (.int 3))) (tVar 5)) tNil)))) (tOp (rAddU K) (tOp (rAddU K) (tVar 4) (tC (.int 1))) (tCall S__law_draw [] E0 (tCons (tVar 0) (tCons (tC (.int 9)) tNil))))) (gName 6)) (tSeq (tAsg (tIf (tTest (tOp (rEqU K) (tCall S__law_draw [] E0 (tCons (tVar 0) (tCons (tC (.int 3)) tNil))) (tC (.int 0)))) (tLc (iRng1 (tCons (tOp (rAddU K) (tVar 4) (tC (.int 2))) tNil)) (gName 10) (tTest (tOp (rI0 fun i j => .bl (decide (j < i))) (tCall S__law_draw [] E0 (tCons (tVar 0) (tCons (tC (.int 3)) tNil))) (tC (.int 0)))) (tVar 10) [10]) (tC .non)) (gName 7)) (tSeq (tAsg (tIf (tTest (tOp (rEqU K) (tVar 3) (tC (.str "most")))) (tOp (rI0 fun i j => .int (i - j)) (tOp (rI0 fun i j => .int (i - j)) (tCall S__law_draw [] E0 (tCons (tVar 0) (tCons (tOp (rAddU K) (tOp rMulU (tC (.int 2)) (tVar 2)) (tC (.int 4))) tNil))) (tVar 2)) (tC (.int 2))) (tIf (tTest (tOp (rEqU K) (tVar 3) (tC (.str "rank")))) (tOp (rAddU K) (tC (.int 1)) (tCall S__law_draw [] E0 (tCons (tVar 0) (tCons (tC (.int 6)) tNil)))) (tC .non))) (gName 8)) (tRet (tTup (tCons (tVar 3) (tCons (tVar 8) (tCons (tVar 5) (tCons (tCB (rMaxU K) (tCons (tVar 5) (tCons (tVar 6) tNil))) (tCons (tVar 7) tNil)))))))))))))
def r__law_chosen (K : PySem.W.Frag)  : TS :=
  (tSeq (tAsg (tLst (tCons (tTup tNil) tNil)) (gName 2)) (tSeq (tFor (iRng1 (tCons (tCB (rLenU K) (tCons (tVar 0) tNil)) tNil)) (gName 3) (tAsg (tOp (rAddU K) (tCB (rListU K) (tCons (tVar 2) tNil)) (tLc (iSeq K (tVar 2)) (gName 4) (tTest (tOp (rI0 fun i j => .bl (decide (i < j))) (tCB (rLenU K) (tCons (tVar 4) tNil)) (tVar 1))) (tOp (rAddU K) (tVar 4) (tTup (tCons (tOp (rIx K) (tVar 0) (tVar 3)) tNil))) [4])) (gName 2))) (tRet (tLc (iSeq K (tVar 2)) (gName 4) (tTest (tOp (rEqU K) (tCB (rLenU K) (tCons (tVar 4) tNil)) (tVar 1))) (tVar 4) [4]))))
def r__law_asked (K : PySem.W.Frag)  : TS :=
  (tRet (tAndV (tChain (rI0 fun i j => .bl (decide (i ≤ j))) (rI0 fun i j => .bl (decide (i < j))) (tOp (rIx K) (tVar 0) (tC (.int 2))) (tVar 1) (tOp (rIx K) (tVar 0) (tC (.int 3)))) (tOrV (tOp rIsU (tOp (rIx K) (tVar 0) (tC (.int 4))) (tC .non)) (tOp (rIn K false) (tVar 1) (tOp (rIx K) (tVar 0) (tC (.int 4)))))))
def r__law_tried (K : PySem.W.Frag) (S__law_chosen : Sp) (S__law_asked : Sp) : TS :=
  (tSeq (tAsg (tSl (rSlU K) (tVar 0) tNoPart (tPart (tC (.int 3)))) (gTup K 3 (gCons (gName 2) (gCons (gName 3) (gCons (gName 4) gNil))))) (tSeq (tAsg (tLst tNil) (gName 5)) (tSeq (tFor (iSeq K (tIf (tTest (tOp (rI0 fun i j => .bl (decide (j < i))) (tVar 2) (tC (.int 1)))) (tCall S__law_chosen [] E0 (tCons (tLstRg (tRg2 (tOp (rAddU K) (tVar 3) (tC (.int 1))) (tVar 4))) (tCons (tOp (rI0 fun i j => .int (i - j)) (tVar 2) (tC (.int 2))) tNil))) (tLst (tCons (tTup tNil) tNil)))) (gName 6) (tSeq (tAsg (tOp (rAddU K) (tOp (rAddU K) (tTup (tCons (tVar 3) tNil)) (tVar 6)) (tIf (tTest (tOp (rI0 fun i j => .bl (decide (j < i))) (tVar 2) (tC (.int 1)))) (tTup (tCons (tVar 4) tNil)) (tTup tNil))) (gName 7)) (tDrop (tBM K "list" rAppend (tVar 5) (tCons (tCB (rLenU K) (tCons (tLc (iSeq K (tVar 7)) (gName 8) (tB (tCall S__law_asked [] E0 (tCons (tVar 1) (tCons (tVar 8) tNil)))) (tVar 8) [8]) tNil)) tNil))))) (tRet (tTup (tCons (tCB (rMinU K) (tCons (tVar 5) tNil)) (tCons (tCB (rMaxU K) (tCons (tVar 5) tNil)) tNil)))))))
def r_fixed (K : PySem.W.Frag) (S_fixed : Sp) : TS :=
  (tSeq (tIfS (tB (tIsi2 K (tVar 0) (.ty "list") (.ty "tuple"))) (tRet (tCB (rTupU K) (tCons (tLc (iSeq K (tVar 0)) (gName 1) tYes (tCall S_fixed [] E0 (tCons (tVar 1) tNil)) [1]) tNil))) tNext) (tRet (tVar 0)))
def r_Paper_init (K : PySem.W.Frag) (S_fixed : Sp) : TS :=
  (tSeq (sFld K (tVar 0) (tVar 1) "word") (sFld K (tVar 0) (tCall S_fixed [] E0 (tCons (tVar 2) tNil)) "parts"))
def r_Entry_init (K : PySem.W.Frag)  : TS :=
  (tAsg (tFld K (tVar 0) "parts") (gTup K 7 (gCons (gAttr K (tVar 0) "bits") (gCons (gAttr K (tVar 0) "count") (gCons (gAttr K (tVar 0) "first") (gCons (gAttr K (tVar 0) "last") (gCons (gAttr K (tVar 0) "total") (gCons (gAttr K (tVar 0) "least") (gCons (gAttr K (tVar 0) "greatest") gNil)))))))))
def a_Entry_init (K : PySem.W.Frag)  : TA :=
  (tCons (tC (.str "entry")) (tCons (tVar 1) (tCons (tVar 2) (tCons (tVar 3) (tCons (tVar 4) (tCons (tVar 5) (tCons (tVar 6) (tCons (tVar 7) tNil))))))))
def r_is_listed (K : PySem.W.Frag)  : TS :=
  (tRet (tIsi2 K (tVar 0) (.ty "list") (.ty "tuple")))
def r_is_integer (K : PySem.W.Frag)  : TS :=
  (tRet (tAndV (tCB (rIsiU K) (tCons (tVar 0) (tCons (tC (.ty "int")) tNil))) (tNotV (tCB (rIsiU K) (tCons (tVar 0) (tCons (tC (.ty "bool")) tNil))))))
def r_are_integers (K : PySem.W.Frag) (S_is_listed : Sp) (S_is_integer : Sp) : TS :=
  (tRet (tAndV (tCall S_is_listed [] E0 (tCons (tVar 0) tNil)) (tAndV (tOp (rEqU K) (tCB (rLenU K) (tCons (tVar 0) tNil)) (tVar 1)) (tCB (rAll K) (tCons (tLc (iSeq K (tVar 0)) (gName 2) tYes (tCall S_is_integer [] E0 (tCons (tVar 2) tNil)) [2]) tNil)))))
def r_is_possible (K : PySem.W.Frag)  : TS :=
  (tSeq (tAsg (tTup (tCons (tFld K (tVar 0) "count") (tCons (tFld K (tVar 0) "least") (tCons (tFld K (tVar 0) "greatest") (tCons (tFld K (tVar 0) "total") tNil))))) (gTup K 4 (gCons (gName 1) (gCons (gName 2) (gCons (gName 3) (gCons (gName 4) gNil)))))) (tSeq (tIfS (tOr (tTest (tOp (rI0 fun i j => .bl (decide (i < j))) (tFld K (tVar 0) "bits") (tC (.int 0)))) (tOr (tNot (tTest (tChain (rI0 fun i j => .bl (decide (i ≤ j))) (rI0 fun i j => .bl (decide (i ≤ j))) (tC (.int 1)) (tVar 1) (tC (.int 68719476736))))) (tNot (tTest (tChain3 (rI0 fun i j => .bl (decide (i ≤ j))) (rI0 fun i j => .bl (decide (i ≤ j))) (rI0 fun i j => .bl (decide (i < j))) (tC (.int 0)) (tFld K (tVar 0) "first") (tFld K (tVar 0) "last") (tC (.int 1099511627776))))))) (tRet (tC (.bl false))) tNext) (tSeq (tIfS (tNot (tTest (tChain3 (rI0 fun i j => .bl (decide (i ≤ j))) (rI0 fun i j => .bl (decide (i ≤ j))) (rI0 fun i j => .bl (decide (i ≤ j))) (tUn (rU fun i => .int (-i)) (tC (.int 1099511627776))) (tVar 2) (tVar 3) (tC (.int 1099511627776))))) (tRet (tC (.bl false))) tNext) (tSeq (tIfS (tTest (tOp (rEqU K) (tVar 1) (tC (.int 1)))) (tRet (tAndV (tOp (rEqU K) (tFld K (tVar 0) "first") (tFld K (tVar 0) "last")) (tChain (rEqU K) (rEqU K) (tVar 2) (tVar 3) (tVar 4)))) tNext) (tSeq (tIfS (tTest (tOp (rI0 fun i j => .bl (decide (i < j))) (tOp (rI0 fun i j => .int (i - j)) (tFld K (tVar 0) "last") (tFld K (tVar 0) "first")) (tOp (rI0 fun i j => .int (i - j)) (tVar 1) (tC (.int 1))))) (tRet (tC (.bl false))) tNext) (tRet (tChain (rI0 fun i j => .bl (decide (i ≤ j))) (rI0 fun i j => .bl (decide (i ≤ j))) (tOp (rAddU K) (tOp rMulU (tOp (rI0 fun i j => .int (i - j)) (tVar 1) (tC (.int 1))) (tVar 2)) (tVar 3)) (tVar 4) (tOp (rAddU K) (tVar 2) (tOp rMulU (tOp (rI0 fun i j => .int (i - j)) (tVar 1) (tC (.int 1))) (tVar 3))))))))))
def r_need_entry (K : PySem.W.Frag) (C_Entry : Addr) (S_are_integers : Sp) (S_is_possible : Sp) : TS :=
  (tIfS (tOr (tNot (tB (tCB (rIsiU K) (tCons (tVar 0) (tCons (tC (.ref C_Entry)) tNil))))) (tOr (tNot (tB (tCall S_are_integers [] E0 (tCons (tFld K (tVar 0) "parts") (tCons (tC (.int 7)) tNil))))) (tNot (tB (tCall S_is_possible [] E0 (tCons (tVar 0) tNil)))))) tNever tNext)
def r_need_question (K : PySem.W.Frag) (C_Question : Addr) : TS :=
  (tIfS (tNot (tB (tCB (rIsiU K) (tCons (tVar 0) (tCons (tC (.ref C_Question)) tNil))))) tNever tNext)
def r_asked_between (K : PySem.W.Frag)  : TS :=
  (tSeq (tAsg (tTup (tCons (tCB (rMaxU K) (tCons (tFld K (tVar 0) "start") (tCons (tVar 1) tNil))) (tCons (tCB (rMinU K) (tCons (tFld K (tVar 0) "stop") (tCons (tVar 2) tNil))) tNil))) (gTup K 2 (gCons (gName 3) (gCons (gName 4) gNil)))) (tSeq (tIfS (tTest (tOp rIsU (tFld K (tVar 0) "among") (tC .non))) (tRet (tCB (rMaxU K) (tCons (tC (.int 0)) (tCons (tOp (rI0 fun i j => .int (i - j)) (tVar 4) (tVar 3)) tNil)))) tNext) (tRet (tCB (rLenU K) (tCons (tLc (iSeq K (tFld K (tVar 0) "among")) (gName 5) (tTest (tChain (rI0 fun i j => .bl (decide (i ≤ j))) (rI0 fun i j => .bl (decide (i < j))) (tVar 3) (tVar 5) (tVar 4))) (tVar 5) [5]) tNil)))))
def r_points_asked (K : PySem.W.Frag) (S_asked_between : Sp) : TS :=
  (tSeq (tAsg (tCall S_asked_between [] E0 (tCons (tVar 1) (tCons (tFld K (tVar 0) "first") (tCons (tOp (rAddU K) (tFld K (tVar 0) "first") (tC (.int 1))) tNil)))) (gName 2)) (tSeq (tIfS (tTest (tOp (rEqU K) (tFld K (tVar 0) "count") (tC (.int 1)))) (tRet (tTup (tCons (tVar 2) (tCons (tVar 2) tNil)))) tNext) (tSeq (tAsg (tOp (rAddU K) (tVar 2) (tCall S_asked_between [] E0 (tCons (tVar 1) (tCons (tFld K (tVar 0) "last") (tCons (tOp (rAddU K) (tFld K (tVar 0) "last") (tC (.int 1))) tNil))))) (gName 2)) (tSeq (tPar 3 4 (tCons (tOp (rI0 fun i j => .int (i - j)) (tFld K (tVar 0) "count") (tC (.int 2))) (tCons (tCall S_asked_between [] E0 (tCons (tVar 1) (tCons (tOp (rAddU K) (tFld K (tVar 0) "first") (tC (.int 1))) (tCons (tFld K (tVar 0) "last") tNil)))) tNil))) (tSeq (tAsg (tOp (rI0 fun i j => .int (i - j)) (tOp (rI0 fun i j => .int (i - j)) (tOp (rI0 fun i j => .int (i - j)) (tFld K (tVar 0) "last") (tFld K (tVar 0) "first")) (tC (.int 1))) (tVar 4)) (gName 5)) (tRet (tTup (tCons (tOp (rAddU K) (tVar 2) (tCB (rMaxU K) (tCons (tC (.int 0)) (tCons (tOp (rI0 fun i j => .int (i - j)) (tVar 3) (tVar 5)) tNil)))) (tCons (tOp (rAddU K) (tVar 2) (tCB (rMinU K) (tCons (tVar 3) (tCons (tVar 4) tNil)))) tNil)))))))))
def r_points_in (K : PySem.W.Frag) (S_need_entry : Sp) (V1_need_entry : List V) (S_need_question : Sp) (S_points_asked : Sp) : TS :=
  (tSeq (tDrop (tCall S_need_entry V1_need_entry E0 (tCons (tVar 0) tNil))) (tSeq (tDrop (tCall S_need_question [] E0 (tCons (tVar 1) tNil))) (tRet (tCall S_points_asked [] E0 (tCons (tVar 0) (tCons (tVar 1) tNil))))))
def r_is_within (K : PySem.W.Frag) (S_is_integer : Sp) : TS :=
  (tRet (tAndV (tCall S_is_integer [] E0 (tCons (tVar 0) tNil)) (tAndV (tOrV (tOp rIsU (tVar 1) (tC .non)) (tOp (rI0 fun i j => .bl (decide (j ≤ i))) (tVar 0) (tVar 1))) (tOrV (tOp rIsU (tVar 2) (tC .non)) (tOp (rI0 fun i j => .bl (decide (i ≤ j))) (tVar 0) (tVar 2))))))
def r_is_numbered (K : PySem.W.Frag) (S_is_within : Sp) : TS :=
  (tSeq (tIfS (tTest (tOp (rEqU K) (tVar 0) (tC (.str "most")))) (tRet (tCall S_is_within [] E0 (tCons (tVar 1) (tCons (tOp (rI0 fun i j => .int (i - j)) (tC (.int 0)) (tC (.int 1152921504606846976))) (tCons (tC (.int 1152921504606846976)) tNil))))) tNext) (tRet (tIf (tTest (tOp (rEqU K) (tVar 0) (tC (.str "rank")))) (tCall S_is_within [] E0 (tCons (tVar 1) (tCons (tC (.int 1)) (tCons (tC (.int 1152921504606846976)) tNil)))) (tOp rIsU (tVar 1) (tC .non)))))
def r_are_moments (K : PySem.W.Frag) (S_is_listed : Sp) (S_is_within : Sp) : TS :=
  (tSeq (tIfS (tOr (tNot (tB (tCall S_is_listed [] E0 (tCons (tVar 0) tNil)))) (tOr (tTest (tOp (rI0 fun i j => .bl (decide (j < i))) (tCB (rLenU K) (tCons (tVar 0) tNil)) (tC (.int 200)))) (tNot (tB (tCB (rAll K) (tCons (tLc (iSeq K (tVar 0)) (gName 1) tYes (tCall S_is_within [] E0 (tCons (tVar 1) (tCons (tC (.int 0)) (tCons (tC (.int 1099511627775)) tNil)))) [1]) tNil)))))) (tRet (tC (.bl false))) tNext) (tRet (tCB (rAll K) (tCons (tLc (iZip K (tCons (tVar 0) (tCons (tSl (rSlU K) (tVar 0) (tPart (tC (.int 1))) tNoPart) tNil))) (gTup K 2 (gCons (gName 1) (gCons (gName 2) gNil))) tYes (tOp (rI0 fun i j => .bl (decide (i < j))) (tVar 1) (tVar 2)) [1, 2]) tNil))))
def r_Question_init (K : PySem.W.Frag) (S_is_numbered : Sp) (S_is_within : Sp) (S_are_moments : Sp) : TS :=
  (tSeq (tIfS (tOr (tNot (tB (tCB (rIsiU K) (tCons (tVar 1) (tCons (tC (.ty "str")) tNil))))) (tTest (tOp (rIn K true) (tVar 1) (tKT K k_ASKED)))) tNever tNext) (tSeq (tIfS (tNot (tB (tCall S_is_numbered [] E0 (tCons (tVar 1) (tCons (tVar 2) tNil))))) tNever tNext) (tSeq (tIfS (tOr (tNot (tB (tCall S_is_within [] E0 (tCons (tVar 3) (tCons (tC (.int 0)) (tCons (tOp (rAddU K) (tC (.int 1099511627775)) (tC (.int 1))) tNil)))))) (tNot (tB (tCall S_is_within [] E0 (tCons (tVar 4) (tCons (tVar 3) (tCons (tOp (rAddU K) (tC (.int 1099511627775)) (tC (.int 1))) tNil))))))) tNever tNext) (tSeq (tIfS (tAnd (tTest (tOp rIsNU (tVar 5) (tC .non))) (tNot (tB (tCall S_are_moments [] E0 (tCons (tVar 5) tNil))))) tNever tNext) (tSeq (sFld K (tVar 0) (tVar 1) "kind") (tSeq (sFld K (tVar 0) (tVar 2) "number") (tSeq (sFld K (tVar 0) (tVar 3) "start") (tSeq (sFld K (tVar 0) (tVar 4) "stop") (sFld K (tVar 0) (tIf (tTest (tOp rIsNU (tVar 5) (tC .non))) (tCB (rTupU K) (tCons (tVar 5) tNil)) (tC .non)) "among")))))))))
def r__law_made (K : PySem.W.Frag) (C_Question : Addr) (S_Question : Sp) : TS :=
  (tRet (tMake C_Question S_Question [] E0 (tCons (tOp (rIx K) (tVar 0) (tC (.int 0))) (tCons (tOp (rIx K) (tVar 0) (tC (.int 1))) (tCons (tOp (rIx K) (tVar 0) (tC (.int 2))) (tCons (tOp (rIx K) (tVar 0) (tC (.int 3))) (tCons (tOp (rIx K) (tVar 0) (tC (.int 4))) tNil)))))))
def r__law_span (K : PySem.W.Frag) (S__law_asked : Sp) : TS :=
  (tSeq (tAsg (tSl (rSlU K) (tVar 0) tNoPart (tPart (tC (.int 3)))) (gTup K 3 (gCons (gName 2) (gCons (gName 3) (gCons (gName 4) gNil))))) (tSeq (tIfS (tTest (tOp rIsU (tOp (rIx K) (tVar 1) (tC (.int 4))) (tC .non))) (tAsg (tCB (rMaxU K) (tCons (tC (.int 0)) (tCons (tOp (rI0 fun i j => .int (i - j)) (tCB (rMinU K) (tCons (tVar 4) (tCons (tOp (rIx K) (tVar 1) (tC (.int 3))) tNil))) (tCB (rMaxU K) (tCons (tOp (rAddU K) (tVar 3) (tC (.int 1))) (tCons (tOp (rIx K) (tVar 1) (tC (.int 2))) tNil)))) tNil))) (gName 5)) (tAsg (tCB (rLenU K) (tCons (tLc (iSeq K (tOp (rIx K) (tVar 1) (tC (.int 4)))) (gName 7) (tAnd (tTest (tChain (rI0 fun i j => .bl (decide (i < j))) (rI0 fun i j => .bl (decide (i < j))) (tVar 3) (tVar 7) (tVar 4))) (tB (tCall S__law_asked [] E0 (tCons (tVar 1) (tCons (tVar 7) tNil))))) (tVar 7) [7]) tNil)) (gName 5))) (tSeq (tAsg (tOp (rAddU K) (tCB rIntU (tCons (tCall S__law_asked [] E0 (tCons (tVar 1) (tCons (tVar 3) tNil))) tNil)) (tCB rIntU (tCons (tAndV (tOp (rI0 fun i j => .bl (decide (j < i))) (tVar 2) (tC (.int 1))) (tCall S__law_asked [] E0 (tCons (tVar 1) (tCons (tVar 4) tNil)))) tNil))) (gName 6)) (tSeq (tIfS (tTest (tOp (rEqU K) (tVar 2) (tC (.int 1)))) (tRet (tTup (tCons (tVar 6) (tCons (tVar 6) tNil)))) tNext) (tRet (tTup (tCons (tOp (rAddU K) (tVar 6) (tCB (rMaxU K) (tCons (tC (.int 0)) (tCons (tOp (rI0 fun i j => .int (i - j)) (tOp (rI0 fun i j => .int (i - j)) (tVar 2) (tC (.int 2))) (tOp (rI0 fun i j => .int (i - j)) (tOp (rI0 fun i j => .int (i - j)) (tOp (rI0 fun i j => .int (i - j)) (tVar 4) (tVar 3)) (tC (.int 1))) (tVar 5))) tNil)))) (tCons (tOp (rAddU K) (tVar 6) (tCB (rMinU K) (tCons (tOp (rI0 fun i j => .int (i - j)) (tVar 2) (tC (.int 2))) (tCons (tVar 5) tNil)))) tNil))))))))
def r_law (K : PySem.W.Frag) (S__law_pen : Sp) (S__law_hole : Sp) (S__law_draw : Sp) (S__law_question : Sp) (S__law_tried : Sp) (C_Entry : Addr) (S_Entry : Sp) (S_points_in : Sp) (S__law_made : Sp) (W_points_in : List V → List V → List V) (S__law_span : Sp) (S__law_pick : Sp) (C_Question : Addr) (S_Question : Sp) (V1_Question : List V) : TS :=
  (tSeq (tAsg (tCall S__law_pen [] E0 (tCons (tVar 0) tNil)) (gName 1)) (tSeq (tFor (iRng1 (tCons (tC (.int 10)) tNil)) (gName 2) (tSeq (tAsg (tCall S__law_hole [] E0 (tCons (tVar 1) (tCons (tCall S__law_draw [] E0 (tCons (tVar 1) (tCons (tC (.int 4)) tNil))) (tCons (tOp (rAddU K) (tC (.int 1)) (tCall S__law_draw [] E0 (tCons (tVar 1) (tCons (tC (.int 5)) tNil)))) (tCons (tC (.int 3)) tNil))))) (gName 3)) (tSeq (tAsg (tCall S__law_question [] E0 (tCons (tVar 1) (tCons (tLst (tCons (tVar 3) tNil)) (tCons (tC (.int 3)) tNil)))) (gName 4)) (tSeq (tPar 5 6 (tCons (tCall S__law_tried [] E0 (tCons (tVar 3) (tCons (tVar 4) tNil))) (tCons (tMake C_Entry S_Entry [] E0 (tCons (tCall S__law_draw [] E0 (tCons (tVar 1) (tCons (tC (.int 4)) tNil))) (tCons (tOp (rIx K) (tVar 3) (tC (.int 0))) (tCons (tOp (rIx K) (tVar 3) (tC (.int 1))) (tCons (tOp (rIx K) (tVar 3) (tC (.int 2))) (tCons (tOp (rIx K) (tVar 3) (tC (.int 3))) (tCons (tOp (rIx K) (tVar 3) (tC (.int 4))) (tCons (tOp (rIx K) (tVar 3) (tC (.int 5))) tNil)))))))) tNil))) (tIfS (tOr (tTest (tOp (rNeU K) (tCB (rReprU K) (tCons (tLst (tCons (tCall S_points_in [] E0 (tCons (tVar 6) (tCons (tCall S__law_made [] E0 (tCons (tVar 4) tNil)) tNil))) (tCons (tCallN 0 2 S_points_in W_points_in E0 tNil (tCons (tCall S__law_made [] E0 (tCons (tVar 4) tNil)) (tCons (tVar 6) tNil))) tNil))) tNil)) (tCB (rReprU K) (tCons (tLst (tCons (tVar 5) (tCons (tVar 5) tNil))) tNil)))) (tTest (tOp (rNeU K) (tCall S__law_span [] E0 (tCons (tVar 3) (tCons (tVar 4) tNil))) (tVar 5)))) (tRet (tC (.bl false))) tNext))))) (tSeq (tFor (iRng1 (tCons (tC (.int 5)) tNil)) (gName 2) (tSeq (tPar 7 8 (tCons (tOp (rI0 fun i j => .int (i - j)) (tOp (rI CPow fun i j => .int (i ^ j.toNat)) (tC (.int 2)) (tC (.int 36))) (tCall S__law_draw [] E0 (tCons (tVar 1) (tCons (tOp (rI CPow fun i j => .int (i ^ j.toNat)) (tC (.int 10)) (tC (.int 9))) tNil)))) (tCons (tCall S__law_draw [] E0 (tCons (tVar 1) (tCons (tOp (rI CPow fun i j => .int (i ^ j.toNat)) (tC (.int 10)) (tC (.int 9))) tNil))) tNil))) (tSeq (tAsg (tOp (rAddU K) (tOp (rI0 fun i j => .int (i - j)) (tOp (rAddU K) (tVar 8) (tVar 7)) (tC (.int 1))) (tCall S__law_pick [] E0 (tCons (tVar 1) (tCons (tLst (tCons (tC (.int 0)) (tCons (tC (.int 1)) (tCons (tCall S__law_draw [] E0 (tCons (tVar 1) (tCons (tOp (rI CPow fun i j => .int (i ^ j.toNat)) (tC (.int 10)) (tC (.int 6))) tNil))) (tCons (tCall S__law_draw [] E0 (tCons (tVar 1) (tCons (tOp (rI CPow fun i j => .int (i ^ j.toNat)) (tC (.int 10)) (tC (.int 11))) tNil))) tNil))))) tNil)))) (gName 9)) (tSeq (tAsg (tCall S__law_draw [] E0 (tCons (tVar 1) (tCons (tOp (rAddU K) (tVar 9) (tC (.int 9))) tNil))) (gName 10)) (tSeq (tAsg (tIf (tTest (tOp (rEqU K) (tCall S__law_draw [] E0 (tCons (tVar 1) (tCons (tC (.int 2)) tNil))) (tC (.int 0)))) (tCB (rSortedI K) (tCons (tCB (rListU K) (tCons (tCB (rDictP K) (tCons (tLc (iRng1 (tCons (tC (.int 9)) tNil)) (gName 12) tYes (tTup (tCons (tCall S__law_draw [] E0 (tCons (tVar 1) (tCons (tOp (rAddU K) (tVar 9) (tC (.int 5))) tNil))) (tCons (tC (.bl true)) tNil))) [12]) tNil)) tNil)) tNil)) (tC .non)) (gName 11)) (tSeq (tAsg (tTup (tCons (tC (.str "count")) (tCons (tC .non) (tCons (tVar 10) (tCons (tOp (rAddU K) (tVar 10) (tCall S__law_draw [] E0 (tCons (tVar 1) (tCons (tOp (rI0 fun i j => .int (i - j)) (tOp (rAddU K) (tVar 9) (tC (.int 99))) (tCB (rMinU K) (tCons (tVar 10) (tCons (tVar 9) tNil)))) tNil)))) (tCons (tVar 11) tNil)))))) (gName 4)) (tSeq (tAsg (tTup (tCons (tVar 7) (tCons (tVar 8) (tCons (tVar 9) (tCons (tC (.int 0)) (tCons (tUn (rU fun i => .int (-i)) (tC (.int 1))) (tCons (tC (.int 1)) tNil))))))) (gName 3)) (tSeq (tIfS (tTest (tOp (rNeU K) (tCall S_points_in [] E0 (tCons (tMake C_Entry S_Entry [] E0 (tCons (tC (.int 0)) (tCons (tVar 7) (tCons (tVar 8) (tCons (tVar 9) (tCons (tC (.int 0)) (tCons (tUn (rU fun i => .int (-i)) (tC (.int 1))) (tCons (tC (.int 1)) tNil)))))))) (tCons (tCall S__law_made [] E0 (tCons (tVar 4) tNil)) tNil))) (tCall S__law_span [] E0 (tCons (tVar 3) (tCons (tVar 4) tNil))))) (tRet (tC (.bl false))) tNext) (tSeq (tAsg (tMake C_Entry S_Entry [] E0 (tCons (tC (.int 0)) (tCons (tVar 7) (tCons (tVar 8) (tCons (tVar 9) (tCons (tC (.int 0)) (tCons (tUn (rU fun i => .int (-i)) (tC (.int 1))) (tCons (tC (.int 1)) tNil)))))))) (gName 6)) (tIfS (tOr (tTest (tOp (rNeU K) (tCall S_points_in [] E0 (tCons (tVar 6) (tCons (tMake C_Question S_Question V1_Question E0 (tCons (tC (.str "sum")) (tCons (tC .non) (tCons (tVar 8) (tCons (tOp (rAddU K) (tVar 9) (tC (.int 1))) tNil))))) tNil))) (tTup (tCons (tVar 7) (tCons (tVar 7) tNil))))) (tTest (tOp (rNeU K) (tCall S_points_in [] E0 (tCons (tVar 6) (tCons (tMake C_Question S_Question V1_Question E0 (tCons (tC (.str "least")) (tCons (tC .non) (tCons (tVar 8) (tCons (tVar 8) tNil))))) tNil))) (tTup (tCons (tC (.int 0)) (tCons (tC (.int 0)) tNil)))))) (tRet (tC (.bl false))) tNext)))))))))) (tRet (tC (.bl true))))))
end K51
set_option Elab.async false
set_option maxRecDepth 100000
set_option maxHeartbeats 4000000
set_option linter.all false
set_option autoImplicit false
namespace K51
open PySem PySem.Spec PyProof.Rows L2 DW
section
variable {K : PySem.W.Frag} {w : Option Addr} {n : Nat} {k : Kn} {es : List D}
theorem draw_bound {y a : Int} (h1 : 0 ≤ y) (h2 : y < 2147483587) (h3 : 0 ≤ a) (h4 : a < 2 ^ 20) : (y * (2 * a + 1301) + 20921 * a * a + 57).natAbs < 2 ^ 64 := by
  have e1 : y * (2 * a + 1301) ≤ 2147483587 * (2 * 2 ^ 20 + 1301) := Int.mul_le_mul (by omega) (by omega) (by omega) (by omega)
  have e2 : 0 ≤ y * (2 * a + 1301) := Int.mul_nonneg h1 (by omega)
  have e3 : 20921 * a * a ≤ (20921 * 2 ^ 20) * 2 ^ 20 := Int.mul_le_mul (by omega) (by omega) h3 (by omega)
  have e4 : 0 ≤ 20921 * a * a := Int.mul_nonneg (by omega) h3
  omega
theorem great_nn {c : Int} {b : Bool} (h : decide ((10 : Int) ^ Int.toNat 18 ≤ (c.natAbs : Int)) = true) : 0 ≤ 2 * ((c.natAbs : Int) - (10 : Int) ^ Int.toNat 18) + (if b = true then (1 : Int) else 0) := by
  have h := of_decide_eq_true h
  split <;> omega
theorem w__law_draw (h : drawSp w es n k) : WpS K w (r__law_draw K) (dstart ["pen", "many", "digit", "at", "cell", "great", "mixed"] es) n { nx := fun _ n' => kup k .non n', rt := kup k } := by
  obtain ⟨p, many, rfl, rfl, h0, h1, hn, hk⟩ := h
  unfold r__law_draw
  repeat' (first
    | exact absurd ‹false = true› (by decide) | exact absurd ‹true = false› (by decide)
    | with_reducible refine ⟨Int.ediv_nonneg (great_nn (by assumption)) (by omega), ?_⟩
    | with_reducible refine ⟨⟨by decide, by decide, draw_bound (Int.emod_nonneg _ (by decide)) (Int.emod_lt_of_pos _ (by decide)) (by omega) (by omega)⟩, ?_⟩
    | ((with_reducible refine s_cellX ?_); refine ⟨_, rfl, rfl, _, rfl, fun _ => ?_, ?_⟩)
    | ((with_reducible refine e_pen2X ?_); refine ⟨_, rfl, rfl, fun _ _ => ?_⟩)
    | ((with_reducible refine e_pen1X ?_); refine ⟨_, rfl, rfl, fun _ _ _ => ?_⟩)
    | ((with_reducible refine e_pen0X ?_); refine ⟨_, rfl, rfl, fun _ _ => ?_⟩)
    | ((with_reducible refine s_pen2X ?_); refine ⟨_, rfl, rfl, ?_⟩)
    | ((with_reducible refine s_pen1X ?_); refine ⟨_, rfl, rfl, ?_⟩)
    | ((with_reducible refine e_varX ?_); refine ⟨_, rfl, rfl, ?_⟩)
    | with_reducible refine rd_ixIntsX ⟨⟨?_, ?_⟩, fun _ _ _ => ?_⟩
    | ((with_reducible refine rd_ixLX ?_); refine ⟨_, rfl, ?_⟩)
    | ((with_reducible refine rd_ixTX ?_); refine ⟨_, rfl, ?_⟩)
    | with_reducible refine s_seq ?_
    | with_reducible refine s_if ?_
    | with_reducible refine s_ret ?_
    | with_reducible refine s_set ?_
    | with_reducible refine s_par ?_
    | with_reducible refine s_next ?_
    | with_reducible refine s_retN ?_
    | with_reducible refine s_drop ?_
    | with_reducible refine e_int ?_
    | with_reducible refine e_str ?_
    | with_reducible refine e_bl ?_
    | with_reducible refine e_non ?_
    | with_reducible refine e_raw ?_
    | with_reducible refine e_op ?_
    | with_reducible refine e_un ?_
    | with_reducible refine e_cb ?_
    | with_reducible refine a_cons ?_
    | with_reducible refine a_nil ?_
    | with_reducible refine t_test ?_
    | with_reducible refine t_B ?_
    | with_reducible refine t_and ?_
    | with_reducible refine t_or ?_
    | with_reducible refine t_not ?_
    | with_reducible refine e_if ?_
    | with_reducible refine e_andV ?_
    | with_reducible refine e_orV ?_
    | with_reducible refine e_notV ?_
    | with_reducible refine e_chain ?_
    | with_reducible refine e_chain3 ?_
    | with_reducible refine rd_addI ?_
    | with_reducible refine rd_sub ?_
    | with_reducible refine rd_lt ?_
    | with_reducible refine rd_le ?_
    | with_reducible refine rd_gt ?_
    | with_reducible refine rd_ge ?_
    | with_reducible refine rd_eqI ?_
    | with_reducible refine rd_neI ?_
    | with_reducible refine rd_eqS ?_
    | with_reducible refine rd_neS ?_
    | with_reducible refine ru_neg ?_
    | with_reducible refine rc_int ?_
    | with_reducible refine rc_intB ?_
    | with_reducible refine rc_abs ?_
    | with_reducible refine rc_max2 ?_
    | with_reducible refine rc_min2 ?_
    | with_reducible refine rc_lenL ?_
    | with_reducible refine rc_lenT ?_
    | with_reducible refine rc_listL ?_
    | with_reducible refine rc_tupL ?_
    | with_reducible refine rc_tupT ?_
    | with_reducible refine e_call ?_
    | with_reducible refine rd_modX ?_
    | with_reducible refine rd_divX ?_
    | with_reducible refine rd_mulX ?_
    | with_reducible refine rd_powX ?_
    | with_reducible refine rd_neNilX ?_
    | with_reducible refine e_fld ?_
    | with_reducible refine e_tup ?_
    | with_reducible refine e_lst ?_
    | with_reducible refine rd_is rfl ?_ | with_reducible refine rd_isN rfl ?_
    | with_reducible refine ⟨_, rfl, ?_⟩ | with_reducible refine ⟨rfl, ?_⟩ | with_reducible refine ⟨fun _ => ?_, fun _ => ?_⟩ | with_reducible refine ⟨by omega, ?_⟩ | with_reducible refine ⟨by decide, ?_⟩ | with_reducible refine ⟨Int.ediv_nonneg (by omega) (by omega), ?_⟩ | fail)
  all_goals try exact ⟨n + 1, by omega, hk _ (Int.emod_nonneg _ (by omega)) (Int.emod_lt_of_pos _ h0)⟩
end
end K51
set_option Elab.async false
set_option maxRecDepth 100000
set_option maxHeartbeats 4000000
set_option linter.all false
set_option autoImplicit false
namespace K51
open PySem PySem.Spec PyProof.Rows L2 DW
/-! ### promises -/
abbrev listedSp : DSpW := fun w es n k => (∃ l, es = [.lst l] ∧ k (.bl true) n) ∨ (∃ l, es = [.tup l] ∧ k (.bl true) n)
abbrev integerSp : DSpW := fun w es n k => ∃ i, es = [.int i] ∧ k (.bl true) n
abbrev integersSp : DSpW := fun w es n k => ∃ (ns : List Int) (m : Int), es = [.tup (ns.map .int), .int m] ∧ ns.length ≤ 100000 ∧ k (.bl (decide ((ns.length : Int) = m))) n
abbrev withinSp : DSpW := fun w es n k => ∃ i a b, es = [.int i, .int a, .int b] ∧ k (.bl (decide (a ≤ i) && decide (i ≤ b))) n
abbrev numberedSp : DSpW := fun w es n k => k (.bl true) n ∧ ((∃ i, es = [.str "most", .int i] ∧ -(2 ^ 60) ≤ i ∧ i ≤ 2 ^ 60) ∨ (∃ i, es = [.str "rank", .int i] ∧ 1 ≤ i ∧ i ≤ 2 ^ 60) ∨ (∃ x : Str, es = [.str x, .non] ∧ x ≠ "most" ∧ x ≠ "rank"))
def Moments (ns : List Int) : Prop := ns.length ≤ 200 ∧ (∀ i ∈ ns, 0 ≤ i ∧ i ≤ 2 ^ 40 - 1) ∧ ns.Pairwise (· < ·)
abbrev momentsSp : DSpW := fun w es n k => ∃ ns : List Int, es = [.lst (ns.map .int)] ∧ Moments ns ∧ k (.bl true) n
abbrev fixed0Sp : DSpW := fun w es n k => ∃ i, es = [.int i] ∧ k (.int i) n
abbrev fixedSp : DSpW := fun w es n k => ∃ ns : List Int, es = [.tup (ns.map .int)] ∧ ns.length ≤ 100000 ∧ k (.tup (ns.map .int)) n
section
variable {K : PySem.W.Frag} {w : Option Addr} {n : Nat} {k : Kn} {es : List D}
theorem w_is_listed (h : listedSp w es n k) : WpS K w (r_is_listed K) (dstart ["value"] es) n { nx := fun _ n' => kup k .non n', rt := kup k } := by
  rcases h with ⟨l, rfl, hk⟩ | ⟨l, rfl, hk⟩ <;> unfold r_is_listed <;> (
  repeat' (first
    | exact absurd ‹false = true› (by decide) | exact absurd ‹true = false› (by decide)
    | ((with_reducible refine s_cellX ?_); refine ⟨_, rfl, rfl, _, rfl, fun _ => ?_, ?_⟩)
    | ((with_reducible refine e_pen2X ?_); refine ⟨_, rfl, rfl, fun _ _ => ?_⟩)
    | ((with_reducible refine e_pen1X ?_); refine ⟨_, rfl, rfl, fun _ _ _ => ?_⟩)
    | ((with_reducible refine e_pen0X ?_); refine ⟨_, rfl, rfl, fun _ _ => ?_⟩)
    | ((with_reducible refine s_pen2X ?_); refine ⟨_, rfl, rfl, ?_⟩)
    | ((with_reducible refine s_pen1X ?_); refine ⟨_, rfl, rfl, ?_⟩)
    | ((with_reducible refine e_varX ?_); refine ⟨_, rfl, rfl, ?_⟩)
    | ((with_reducible refine e_slLV ?_); refine ⟨_, rfl, ?_⟩)
    | ((with_reducible refine e_slTV ?_); refine ⟨_, rfl, ?_⟩)
    | ((with_reducible refine i_listV ?_); refine ⟨_, rfl, ?_⟩)
    | ((with_reducible refine i_tupV ?_); refine ⟨_, rfl, ?_⟩)
    | with_reducible refine rd_ixIntsX ⟨⟨?_, ?_⟩, fun _ _ _ => ?_⟩
    | ((with_reducible refine rd_ixLX ?_); refine ⟨_, rfl, ?_⟩)
    | ((with_reducible refine rd_ixTX ?_); refine ⟨_, rfl, ?_⟩)
    | with_reducible refine s_seq ?_
    | with_reducible refine s_if ?_
    | with_reducible refine s_ret ?_
    | with_reducible refine s_set ?_
    | with_reducible refine s_par ?_
    | with_reducible refine s_next ?_
    | with_reducible refine s_retN ?_
    | with_reducible refine s_drop ?_
    | with_reducible refine e_int ?_
    | with_reducible refine e_str ?_
    | with_reducible refine e_bl ?_
    | with_reducible refine e_non ?_
    | with_reducible refine e_raw ?_
    | with_reducible refine e_op ?_
    | with_reducible refine e_un ?_
    | with_reducible refine e_cb ?_
    | with_reducible refine a_cons ?_
    | with_reducible refine a_nil ?_
    | with_reducible refine t_test ?_
    | with_reducible refine t_B ?_
    | with_reducible refine t_and ?_
    | with_reducible refine t_or ?_
    | with_reducible refine t_not ?_
    | with_reducible refine e_if ?_
    | with_reducible refine e_andV ?_
    | with_reducible refine e_orV ?_
    | with_reducible refine e_notV ?_
    | with_reducible refine e_chain ?_
    | with_reducible refine e_chain3 ?_
    | with_reducible refine rd_addI ?_
    | with_reducible refine rd_sub ?_
    | with_reducible refine rd_lt ?_
    | with_reducible refine rd_le ?_
    | with_reducible refine rd_gt ?_
    | with_reducible refine rd_ge ?_
    | with_reducible refine rd_eqI ?_
    | with_reducible refine rd_neI ?_
    | with_reducible refine rd_eqS ?_
    | with_reducible refine rd_neS ?_
    | with_reducible refine ru_neg ?_
    | with_reducible refine rc_int ?_
    | with_reducible refine rc_intB ?_
    | with_reducible refine rc_abs ?_
    | with_reducible refine rc_max2 ?_
    | with_reducible refine rc_min2 ?_
    | with_reducible refine rc_lenL ?_
    | with_reducible refine rc_lenT ?_
    | with_reducible refine rc_listL ?_
    | with_reducible refine rc_tupL ?_
    | with_reducible refine rc_tupT ?_
    | with_reducible refine e_call ?_
    | with_reducible refine rd_modX ?_
    | with_reducible refine rd_divX ?_
    | with_reducible refine rd_mulX ?_
    | with_reducible refine rd_powX ?_
    | with_reducible refine rd_neNilX ?_
    | with_reducible refine rd_isI ?_
    | with_reducible refine rd_isL ?_
    | with_reducible refine rd_isT ?_
    | with_reducible refine rd_isS ?_
    | with_reducible refine rd_isNn ?_
    | with_reducible refine rd_isNI ?_
    | with_reducible refine rd_isNL ?_
    | with_reducible refine rd_isNT ?_
    | with_reducible refine rd_isNS ?_
    | with_reducible refine rd_isNNn ?_
    | with_reducible refine rc_allX ?_
    | with_reducible refine rc_anyX ?_
    | with_reducible refine t_yes ?_
    | with_reducible refine o_none ?_
    | with_reducible refine o_some ?_
    | with_reducible refine i_rng1 ?_
    | with_reducible refine i_rng2 ?_
    | with_reducible refine i_zip ?_
    | with_reducible refine e_fld ?_
    | with_reducible refine e_tup ?_
    | with_reducible refine e_lst ?_
    | with_reducible refine rd_is rfl ?_ | with_reducible refine rd_isN rfl ?_
    | ((with_reducible refine rc_isiBX ?_); refine ⟨_, rfl, _, rfl, ?_⟩)
    | ((with_reducible refine e_isi2X ?_))
    | with_reducible refine Or.inl ⟨_, rfl, ?_⟩ | with_reducible refine Or.inr ⟨_, rfl, ?_⟩
    | with_reducible refine ⟨_, rfl, ?_⟩ | with_reducible refine ⟨rfl, ?_⟩ | with_reducible refine ⟨_, _, rfl, ?_⟩ | with_reducible refine ⟨_, _, _, rfl, ?_⟩ | with_reducible refine ⟨_, _, rfl, rfl, ?_⟩ | with_reducible refine ⟨fun _ => ?_, fun _ => ?_⟩ | with_reducible refine fun (_ : _ = true) => ?_ | with_reducible exact rfl | with_reducible refine ⟨by omega, ?_⟩ | with_reducible refine ⟨by decide, ?_⟩ | with_reducible refine ⟨Int.ediv_nonneg (by omega) (by omega), ?_⟩ | fail)) <;> exact kup_of hk
theorem w_is_integer (h : integerSp w es n k) : WpS K w (r_is_integer K) (dstart ["value"] es) n { nx := fun _ n' => kup k .non n', rt := kup k } := by
  obtain ⟨i, rfl, hk⟩ := h
  unfold r_is_integer
  repeat' (first
    | exact absurd ‹false = true› (by decide) | exact absurd ‹true = false› (by decide)
    | ((with_reducible refine s_cellX ?_); refine ⟨_, rfl, rfl, _, rfl, fun _ => ?_, ?_⟩)
    | ((with_reducible refine e_pen2X ?_); refine ⟨_, rfl, rfl, fun _ _ => ?_⟩)
    | ((with_reducible refine e_pen1X ?_); refine ⟨_, rfl, rfl, fun _ _ _ => ?_⟩)
    | ((with_reducible refine e_pen0X ?_); refine ⟨_, rfl, rfl, fun _ _ => ?_⟩)
    | ((with_reducible refine s_pen2X ?_); refine ⟨_, rfl, rfl, ?_⟩)
    | ((with_reducible refine s_pen1X ?_); refine ⟨_, rfl, rfl, ?_⟩)
    | ((with_reducible refine e_varX ?_); refine ⟨_, rfl, rfl, ?_⟩)
    | ((with_reducible refine e_slLV ?_); refine ⟨_, rfl, ?_⟩)
    | ((with_reducible refine e_slTV ?_); refine ⟨_, rfl, ?_⟩)
    | ((with_reducible refine i_listV ?_); refine ⟨_, rfl, ?_⟩)
    | ((with_reducible refine i_tupV ?_); refine ⟨_, rfl, ?_⟩)
    | with_reducible refine rd_ixIntsX ⟨⟨?_, ?_⟩, fun _ _ _ => ?_⟩
    | ((with_reducible refine rd_ixLX ?_); refine ⟨_, rfl, ?_⟩)
    | ((with_reducible refine rd_ixTX ?_); refine ⟨_, rfl, ?_⟩)
    | with_reducible refine s_seq ?_
    | with_reducible refine s_if ?_
    | with_reducible refine s_ret ?_
    | with_reducible refine s_set ?_
    | with_reducible refine s_par ?_
    | with_reducible refine s_next ?_
    | with_reducible refine s_retN ?_
    | with_reducible refine s_drop ?_
    | with_reducible refine e_int ?_
    | with_reducible refine e_str ?_
    | with_reducible refine e_bl ?_
    | with_reducible refine e_non ?_
    | with_reducible refine e_raw ?_
    | with_reducible refine e_op ?_
    | with_reducible refine e_un ?_
    | with_reducible refine e_cb ?_
    | with_reducible refine a_cons ?_
    | with_reducible refine a_nil ?_
    | with_reducible refine t_test ?_
    | with_reducible refine t_B ?_
    | with_reducible refine t_and ?_
    | with_reducible refine t_or ?_
    | with_reducible refine t_not ?_
    | with_reducible refine e_if ?_
    | with_reducible refine e_andV ?_
    | with_reducible refine e_orV ?_
    | with_reducible refine e_notV ?_
    | with_reducible refine e_chain ?_
    | with_reducible refine e_chain3 ?_
    | with_reducible refine rd_addI ?_
    | with_reducible refine rd_sub ?_
    | with_reducible refine rd_lt ?_
    | with_reducible refine rd_le ?_
    | with_reducible refine rd_gt ?_
    | with_reducible refine rd_ge ?_
    | with_reducible refine rd_eqI ?_
    | with_reducible refine rd_neI ?_
    | with_reducible refine rd_eqS ?_
    | with_reducible refine rd_neS ?_
    | with_reducible refine ru_neg ?_
    | with_reducible refine rc_int ?_
    | with_reducible refine rc_intB ?_
    | with_reducible refine rc_abs ?_
    | with_reducible refine rc_max2 ?_
    | with_reducible refine rc_min2 ?_
    | with_reducible refine rc_lenL ?_
    | with_reducible refine rc_lenT ?_
    | with_reducible refine rc_listL ?_
    | with_reducible refine rc_tupL ?_
    | with_reducible refine rc_tupT ?_
    | with_reducible refine e_call ?_
    | with_reducible refine rd_modX ?_
    | with_reducible refine rd_divX ?_
    | with_reducible refine rd_mulX ?_
    | with_reducible refine rd_powX ?_
    | with_reducible refine rd_neNilX ?_
    | with_reducible refine rd_isI ?_
    | with_reducible refine rd_isL ?_
    | with_reducible refine rd_isT ?_
    | with_reducible refine rd_isS ?_
    | with_reducible refine rd_isNn ?_
    | with_reducible refine rd_isNI ?_
    | with_reducible refine rd_isNL ?_
    | with_reducible refine rd_isNT ?_
    | with_reducible refine rd_isNS ?_
    | with_reducible refine rd_isNNn ?_
    | with_reducible refine rc_allX ?_
    | with_reducible refine rc_anyX ?_
    | with_reducible refine t_yes ?_
    | with_reducible refine o_none ?_
    | with_reducible refine o_some ?_
    | with_reducible refine i_rng1 ?_
    | with_reducible refine i_rng2 ?_
    | with_reducible refine i_zip ?_
    | with_reducible refine e_fld ?_
    | with_reducible refine e_tup ?_
    | with_reducible refine e_lst ?_
    | with_reducible refine rd_is rfl ?_ | with_reducible refine rd_isN rfl ?_
    | ((with_reducible refine rc_isiBX ?_); refine ⟨_, rfl, _, rfl, ?_⟩)
    | ((with_reducible refine e_isi2X ?_))
    | with_reducible refine Or.inl ⟨_, rfl, ?_⟩ | with_reducible refine Or.inr ⟨_, rfl, ?_⟩
    | with_reducible refine ⟨_, rfl, ?_⟩ | with_reducible refine ⟨rfl, ?_⟩ | with_reducible refine ⟨_, _, rfl, ?_⟩ | with_reducible refine ⟨_, _, _, rfl, ?_⟩ | with_reducible refine ⟨_, _, rfl, rfl, ?_⟩ | with_reducible refine ⟨fun _ => ?_, fun _ => ?_⟩ | with_reducible refine fun (_ : _ = true) => ?_ | with_reducible exact rfl | with_reducible refine ⟨by omega, ?_⟩ | with_reducible refine ⟨by decide, ?_⟩ | with_reducible refine ⟨Int.ediv_nonneg (by omega) (by omega), ?_⟩ | fail)
  all_goals exact kup_of hk
theorem w_is_within (h : withinSp w es n k) : WpS K w (r_is_within K (toSp K integerSp)) (dstart ["value", "least", "most"] es) n { nx := fun _ n' => kup k .non n', rt := kup k } := by
  obtain ⟨i, a, b, rfl, hk⟩ := h
  unfold r_is_within
  repeat' (first
    | exact absurd ‹false = true› (by decide) | exact absurd ‹true = false› (by decide)
    | ((with_reducible refine s_cellX ?_); refine ⟨_, rfl, rfl, _, rfl, fun _ => ?_, ?_⟩)
    | ((with_reducible refine e_pen2X ?_); refine ⟨_, rfl, rfl, fun _ _ => ?_⟩)
    | ((with_reducible refine e_pen1X ?_); refine ⟨_, rfl, rfl, fun _ _ _ => ?_⟩)
    | ((with_reducible refine e_pen0X ?_); refine ⟨_, rfl, rfl, fun _ _ => ?_⟩)
    | ((with_reducible refine s_pen2X ?_); refine ⟨_, rfl, rfl, ?_⟩)
    | ((with_reducible refine s_pen1X ?_); refine ⟨_, rfl, rfl, ?_⟩)
    | ((with_reducible refine e_varX ?_); refine ⟨_, rfl, rfl, ?_⟩)
    | ((with_reducible refine e_slLV ?_); refine ⟨_, rfl, ?_⟩)
    | ((with_reducible refine e_slTV ?_); refine ⟨_, rfl, ?_⟩)
    | ((with_reducible refine i_listV ?_); refine ⟨_, rfl, ?_⟩)
    | ((with_reducible refine i_tupV ?_); refine ⟨_, rfl, ?_⟩)
    | with_reducible refine rd_ixIntsX ⟨⟨?_, ?_⟩, fun _ _ _ => ?_⟩
    | ((with_reducible refine rd_ixLX ?_); refine ⟨_, rfl, ?_⟩)
    | ((with_reducible refine rd_ixTX ?_); refine ⟨_, rfl, ?_⟩)
    | with_reducible refine s_seq ?_
    | with_reducible refine s_if ?_
    | with_reducible refine s_ret ?_
    | with_reducible refine s_set ?_
    | with_reducible refine s_par ?_
    | with_reducible refine s_next ?_
    | with_reducible refine s_retN ?_
    | with_reducible refine s_drop ?_
    | with_reducible refine e_int ?_
    | with_reducible refine e_str ?_
    | with_reducible refine e_bl ?_
    | with_reducible refine e_non ?_
    | with_reducible refine e_raw ?_
    | with_reducible refine e_op ?_
    | with_reducible refine e_un ?_
    | with_reducible refine e_cb ?_
    | with_reducible refine a_cons ?_
    | with_reducible refine a_nil ?_
    | with_reducible refine t_test ?_
    | with_reducible refine t_B ?_
    | with_reducible refine t_and ?_
    | with_reducible refine t_or ?_
    | with_reducible refine t_not ?_
    | with_reducible refine e_if ?_
    | with_reducible refine e_andV ?_
    | with_reducible refine e_orV ?_
    | with_reducible refine e_notV ?_
    | with_reducible refine e_chain ?_
    | with_reducible refine e_chain3 ?_
    | with_reducible refine rd_addI ?_
    | with_reducible refine rd_sub ?_
    | with_reducible refine rd_lt ?_
    | with_reducible refine rd_le ?_
    | with_reducible refine rd_gt ?_
    | with_reducible refine rd_ge ?_
    | with_reducible refine rd_eqI ?_
    | with_reducible refine rd_neI ?_
    | with_reducible refine rd_eqS ?_
    | with_reducible refine rd_neS ?_
    | with_reducible refine ru_neg ?_
    | with_reducible refine rc_int ?_
    | with_reducible refine rc_intB ?_
    | with_reducible refine rc_abs ?_
    | with_reducible refine rc_max2 ?_
    | with_reducible refine rc_min2 ?_
    | with_reducible refine rc_lenL ?_
    | with_reducible refine rc_lenT ?_
    | with_reducible refine rc_listL ?_
    | with_reducible refine rc_tupL ?_
    | with_reducible refine rc_tupT ?_
    | with_reducible refine e_call ?_
    | with_reducible refine rd_modX ?_
    | with_reducible refine rd_divX ?_
    | with_reducible refine rd_mulX ?_
    | with_reducible refine rd_powX ?_
    | with_reducible refine rd_neNilX ?_
    | with_reducible refine rd_isI ?_
    | with_reducible refine rd_isL ?_
    | with_reducible refine rd_isT ?_
    | with_reducible refine rd_isS ?_
    | with_reducible refine rd_isNn ?_
    | with_reducible refine rd_isNI ?_
    | with_reducible refine rd_isNL ?_
    | with_reducible refine rd_isNT ?_
    | with_reducible refine rd_isNS ?_
    | with_reducible refine rd_isNNn ?_
    | with_reducible refine rc_allX ?_
    | with_reducible refine rc_anyX ?_
    | with_reducible refine t_yes ?_
    | with_reducible refine o_none ?_
    | with_reducible refine o_some ?_
    | with_reducible refine i_rng1 ?_
    | with_reducible refine i_rng2 ?_
    | with_reducible refine i_zip ?_
    | with_reducible refine e_fld ?_
    | with_reducible refine e_tup ?_
    | with_reducible refine e_lst ?_
    | with_reducible refine rd_is rfl ?_ | with_reducible refine rd_isN rfl ?_
    | ((with_reducible refine rc_isiBX ?_); refine ⟨_, rfl, _, rfl, ?_⟩)
    | ((with_reducible refine e_isi2X ?_))
    | with_reducible refine Or.inl ⟨_, rfl, ?_⟩ | with_reducible refine Or.inr ⟨_, rfl, ?_⟩
    | with_reducible refine ⟨_, rfl, ?_⟩ | with_reducible refine ⟨rfl, ?_⟩ | with_reducible refine ⟨_, _, rfl, ?_⟩ | with_reducible refine ⟨_, _, _, rfl, ?_⟩ | with_reducible refine ⟨_, _, rfl, rfl, ?_⟩ | with_reducible refine ⟨fun _ => ?_, fun _ => ?_⟩ | with_reducible refine fun (_ : _ = true) => ?_ | with_reducible exact rfl | with_reducible refine ⟨by omega, ?_⟩ | with_reducible refine ⟨by decide, ?_⟩ | with_reducible refine ⟨Int.ediv_nonneg (by omega) (by omega), ?_⟩ | fail)
  all_goals (refine kup_of ?_; simp_all)
theorem w_is_numbered (h : numberedSp w es n k) : WpS K w (r_is_numbered K (toSp K withinSp)) (dstart ["kind", "value"] es) n { nx := fun _ n' => kup k .non n', rt := kup k } := by
  obtain ⟨hk, h⟩ := h
  unfold r_is_numbered
  rcases h with ⟨i, rfl, h1, h2⟩ | ⟨i, rfl, h1, h2⟩ | ⟨x, rfl, h1, h2⟩
  all_goals (
  repeat' (first
    | exact absurd ‹false = true› (by decide) | exact absurd ‹true = false› (by decide)
    | ((with_reducible refine s_cellX ?_); refine ⟨_, rfl, rfl, _, rfl, fun _ => ?_, ?_⟩)
    | ((with_reducible refine e_pen2X ?_); refine ⟨_, rfl, rfl, fun _ _ => ?_⟩)
    | ((with_reducible refine e_pen1X ?_); refine ⟨_, rfl, rfl, fun _ _ _ => ?_⟩)
    | ((with_reducible refine e_pen0X ?_); refine ⟨_, rfl, rfl, fun _ _ => ?_⟩)
    | ((with_reducible refine s_pen2X ?_); refine ⟨_, rfl, rfl, ?_⟩)
    | ((with_reducible refine s_pen1X ?_); refine ⟨_, rfl, rfl, ?_⟩)
    | ((with_reducible refine e_varX ?_); refine ⟨_, rfl, rfl, ?_⟩)
    | ((with_reducible refine e_slLV ?_); refine ⟨_, rfl, ?_⟩)
    | ((with_reducible refine e_slTV ?_); refine ⟨_, rfl, ?_⟩)
    | ((with_reducible refine i_listV ?_); refine ⟨_, rfl, ?_⟩)
    | ((with_reducible refine i_tupV ?_); refine ⟨_, rfl, ?_⟩)
    | with_reducible refine rd_ixIntsX ⟨⟨?_, ?_⟩, fun _ _ _ => ?_⟩
    | ((with_reducible refine rd_ixLX ?_); refine ⟨_, rfl, ?_⟩)
    | ((with_reducible refine rd_ixTX ?_); refine ⟨_, rfl, ?_⟩)
    | with_reducible refine s_seq ?_
    | with_reducible refine s_if ?_
    | with_reducible refine s_ret ?_
    | with_reducible refine s_set ?_
    | with_reducible refine s_par ?_
    | with_reducible refine s_next ?_
    | with_reducible refine s_retN ?_
    | with_reducible refine s_drop ?_
    | with_reducible refine e_int ?_
    | with_reducible refine e_str ?_
    | with_reducible refine e_bl ?_
    | with_reducible refine e_non ?_
    | with_reducible refine e_raw ?_
    | with_reducible refine e_op ?_
    | with_reducible refine e_un ?_
    | with_reducible refine e_cb ?_
    | with_reducible refine a_cons ?_
    | with_reducible refine a_nil ?_
    | with_reducible refine t_test ?_
    | with_reducible refine t_B ?_
    | with_reducible refine t_and ?_
    | with_reducible refine t_or ?_
    | with_reducible refine t_not ?_
    | with_reducible refine e_if ?_
    | with_reducible refine e_andV ?_
    | with_reducible refine e_orV ?_
    | with_reducible refine e_notV ?_
    | with_reducible refine e_chain ?_
    | with_reducible refine e_chain3 ?_
    | with_reducible refine rd_addI ?_
    | with_reducible refine rd_sub ?_
    | with_reducible refine rd_lt ?_
    | with_reducible refine rd_le ?_
    | with_reducible refine rd_gt ?_
    | with_reducible refine rd_ge ?_
    | with_reducible refine rd_eqI ?_
    | with_reducible refine rd_neI ?_
    | with_reducible refine rd_eqS ?_
    | with_reducible refine rd_neS ?_
    | with_reducible refine ru_neg ?_
    | with_reducible refine rc_int ?_
    | with_reducible refine rc_intB ?_
    | with_reducible refine rc_abs ?_
    | with_reducible refine rc_max2 ?_
    | with_reducible refine rc_min2 ?_
    | with_reducible refine rc_lenL ?_
    | with_reducible refine rc_lenT ?_
    | with_reducible refine rc_listL ?_
    | with_reducible refine rc_tupL ?_
    | with_reducible refine rc_tupT ?_
    | with_reducible refine e_call ?_
    | with_reducible refine rd_modX ?_
    | with_reducible refine rd_divX ?_
    | with_reducible refine rd_mulX ?_
    | with_reducible refine rd_powX ?_
    | with_reducible refine rd_neNilX ?_
    | with_reducible refine rd_isI ?_
    | with_reducible refine rd_isL ?_
    | with_reducible refine rd_isT ?_
    | with_reducible refine rd_isS ?_
    | with_reducible refine rd_isNn ?_
    | with_reducible refine rd_isNI ?_
    | with_reducible refine rd_isNL ?_
    | with_reducible refine rd_isNT ?_
    | with_reducible refine rd_isNS ?_
    | with_reducible refine rd_isNNn ?_
    | with_reducible refine rc_allX ?_
    | with_reducible refine rc_anyX ?_
    | with_reducible refine t_yes ?_
    | with_reducible refine o_none ?_
    | with_reducible refine o_some ?_
    | with_reducible refine i_rng1 ?_
    | with_reducible refine i_rng2 ?_
    | with_reducible refine i_zip ?_
    | with_reducible refine e_fld ?_
    | with_reducible refine e_tup ?_
    | with_reducible refine e_lst ?_
    | with_reducible refine rd_is rfl ?_ | with_reducible refine rd_isN rfl ?_
    | ((with_reducible refine rc_isiBX ?_); refine ⟨_, rfl, _, rfl, ?_⟩)
    | ((with_reducible refine e_isi2X ?_))
    | with_reducible refine Or.inl ⟨_, rfl, ?_⟩ | with_reducible refine Or.inr ⟨_, rfl, ?_⟩
    | with_reducible refine ⟨_, rfl, ?_⟩ | with_reducible refine ⟨rfl, ?_⟩ | with_reducible refine ⟨_, _, rfl, ?_⟩ | with_reducible refine ⟨_, _, _, rfl, ?_⟩ | with_reducible refine ⟨_, _, rfl, rfl, ?_⟩ | with_reducible refine ⟨fun _ => ?_, fun _ => ?_⟩ | with_reducible refine fun (_ : _ = true) => ?_ | with_reducible exact rfl | with_reducible refine ⟨by omega, ?_⟩ | with_reducible refine ⟨by decide, ?_⟩ | with_reducible refine ⟨Int.ediv_nonneg (by omega) (by omega), ?_⟩ | fail))
  · have e : (decide ((0 : Int) - 1152921504606846976 ≤ i) && decide (i ≤ 1152921504606846976)) = true := by rw [Bool.and_eq_true]; exact ⟨decide_eq_true (by omega), decide_eq_true (by omega)⟩
    rw [e]
    exact kup_of hk
  · have e : (decide ((1 : Int) ≤ i) && decide (i ≤ 1152921504606846976)) = true := by rw [Bool.and_eq_true]; exact ⟨decide_eq_true (by omega), decide_eq_true (by omega)⟩
    rw [e]
    exact kup_of hk
  · exact absurd (of_decide_eq_true (by assumption)) h1
  · exact absurd (of_decide_eq_true (by assumption)) h2
  · exact kup_of hk
theorem all_true (ns : List Int) : (ns.all fun _ => true) = true := by simp
theorem w_are_integers (h : integersSp w es n k) : WpS K w (r_are_integers K (toSp K listedSp) (toSp K integerSp)) (dstart ["value", "many", "part"] es) n { nx := fun _ n' => kup k .non n', rt := kup k } := by
  obtain ⟨ns, m, rfl, hz, hk⟩ := h
  unfold r_are_integers
  repeat' (first
    | exact absurd ‹false = true› (by decide) | exact absurd ‹true = false› (by decide)
    | with_reducible refine e_lcIX ⟨fun _ => true, fun _ => .bl true, ?_⟩
    | with_reducible refine ⟨hz, fun _ _ => ?_, ?_⟩
    | ((with_reducible refine s_cellX ?_); refine ⟨_, rfl, rfl, _, rfl, fun _ => ?_, ?_⟩)
    | ((with_reducible refine e_pen2X ?_); refine ⟨_, rfl, rfl, fun _ _ => ?_⟩)
    | ((with_reducible refine e_pen1X ?_); refine ⟨_, rfl, rfl, fun _ _ _ => ?_⟩)
    | ((with_reducible refine e_pen0X ?_); refine ⟨_, rfl, rfl, fun _ _ => ?_⟩)
    | ((with_reducible refine s_pen2X ?_); refine ⟨_, rfl, rfl, ?_⟩)
    | ((with_reducible refine s_pen1X ?_); refine ⟨_, rfl, rfl, ?_⟩)
    | ((with_reducible refine e_varX ?_); refine ⟨_, rfl, rfl, ?_⟩)
    | ((with_reducible refine e_slLV ?_); refine ⟨_, rfl, ?_⟩)
    | ((with_reducible refine e_slTV ?_); refine ⟨_, rfl, ?_⟩)
    | ((with_reducible refine i_listV ?_); refine ⟨_, rfl, ?_⟩)
    | ((with_reducible refine i_tupV ?_); refine ⟨_, rfl, ?_⟩)
    | with_reducible refine rd_ixIntsX ⟨⟨?_, ?_⟩, fun _ _ _ => ?_⟩
    | ((with_reducible refine rd_ixLX ?_); refine ⟨_, rfl, ?_⟩)
    | ((with_reducible refine rd_ixTX ?_); refine ⟨_, rfl, ?_⟩)
    | with_reducible refine s_seq ?_
    | with_reducible refine s_if ?_
    | with_reducible refine s_ret ?_
    | with_reducible refine s_set ?_
    | with_reducible refine s_par ?_
    | with_reducible refine s_next ?_
    | with_reducible refine s_retN ?_
    | with_reducible refine s_drop ?_
    | with_reducible refine e_int ?_
    | with_reducible refine e_str ?_
    | with_reducible refine e_bl ?_
    | with_reducible refine e_non ?_
    | with_reducible refine e_raw ?_
    | with_reducible refine e_op ?_
    | with_reducible refine e_un ?_
    | with_reducible refine e_cb ?_
    | with_reducible refine a_cons ?_
    | with_reducible refine a_nil ?_
    | with_reducible refine t_test ?_
    | with_reducible refine t_B ?_
    | with_reducible refine t_and ?_
    | with_reducible refine t_or ?_
    | with_reducible refine t_not ?_
    | with_reducible refine e_if ?_
    | with_reducible refine e_andV ?_
    | with_reducible refine e_orV ?_
    | with_reducible refine e_notV ?_
    | with_reducible refine e_chain ?_
    | with_reducible refine e_chain3 ?_
    | with_reducible refine rd_addI ?_
    | with_reducible refine rd_sub ?_
    | with_reducible refine rd_lt ?_
    | with_reducible refine rd_le ?_
    | with_reducible refine rd_gt ?_
    | with_reducible refine rd_ge ?_
    | with_reducible refine rd_eqI ?_
    | with_reducible refine rd_neI ?_
    | with_reducible refine rd_eqS ?_
    | with_reducible refine rd_neS ?_
    | with_reducible refine ru_neg ?_
    | with_reducible refine rc_int ?_
    | with_reducible refine rc_intB ?_
    | with_reducible refine rc_abs ?_
    | with_reducible refine rc_max2 ?_
    | with_reducible refine rc_min2 ?_
    | with_reducible refine rc_lenL ?_
    | with_reducible refine rc_lenT ?_
    | with_reducible refine rc_listL ?_
    | with_reducible refine rc_tupL ?_
    | with_reducible refine rc_tupT ?_
    | with_reducible refine e_call ?_
    | with_reducible refine rd_modX ?_
    | with_reducible refine rd_divX ?_
    | with_reducible refine rd_mulX ?_
    | with_reducible refine rd_powX ?_
    | with_reducible refine rd_neNilX ?_
    | with_reducible refine rd_isI ?_
    | with_reducible refine rd_isL ?_
    | with_reducible refine rd_isT ?_
    | with_reducible refine rd_isS ?_
    | with_reducible refine rd_isNn ?_
    | with_reducible refine rd_isNI ?_
    | with_reducible refine rd_isNL ?_
    | with_reducible refine rd_isNT ?_
    | with_reducible refine rd_isNS ?_
    | with_reducible refine rd_isNNn ?_
    | with_reducible refine rc_allX ?_
    | with_reducible refine rc_anyX ?_
    | with_reducible refine t_yes ?_
    | with_reducible refine o_none ?_
    | with_reducible refine o_some ?_
    | with_reducible refine i_rng1 ?_
    | with_reducible refine i_rng2 ?_
    | with_reducible refine i_zip ?_
    | with_reducible refine e_fld ?_
    | with_reducible refine e_tup ?_
    | with_reducible refine e_lst ?_
    | with_reducible refine rd_is rfl ?_ | with_reducible refine rd_isN rfl ?_
    | ((with_reducible refine rc_isiBX ?_); refine ⟨_, rfl, _, rfl, ?_⟩)
    | ((with_reducible refine e_isi2X ?_))
    | with_reducible refine Or.inl ⟨_, rfl, ?_⟩ | with_reducible refine Or.inr ⟨_, rfl, ?_⟩
    | with_reducible refine ⟨_, rfl, ?_⟩ | with_reducible refine ⟨rfl, ?_⟩ | with_reducible refine ⟨_, _, rfl, ?_⟩ | with_reducible refine ⟨_, _, _, rfl, ?_⟩ | with_reducible refine ⟨_, _, rfl, rfl, ?_⟩ | with_reducible refine ⟨fun _ => ?_, fun _ => ?_⟩ | with_reducible refine fun (_ : _ = true) => ?_ | with_reducible exact rfl | with_reducible refine ⟨by omega, ?_⟩ | with_reducible refine ⟨by decide, ?_⟩ | with_reducible refine ⟨Int.ediv_nonneg (by omega) (by omega), ?_⟩ | fail)
  all_goals (refine kup_of ?_; first | (simp_all; done) | (simp_all; rw [all_true]; assumption))
theorem pairs_lt : ∀ {ns : List Int}, ns.Pairwise (· < ·) → ((ns.zip (ns.drop 1)).all fun p => decide (p.1 < p.2)) = true
  | [], _ => rfl
  | [_], _ => rfl
  | a :: b :: r, h => by
    have h1 := List.rel_of_pairwise_cons h List.mem_cons_self
    have ih := pairs_lt (ns := b :: r) (List.Pairwise.of_cons h)
    show (decide (a < b) && ((b :: r).zip r).all fun p => decide (p.1 < p.2)) = true
    rw [decide_eq_true h1]
    exact ih
theorem w_are_moments (h : momentsSp w es n k) : WpS K w (r_are_moments K (toSp K listedSp) (toSp K withinSp)) (dstart ["value", "one", "other"] es) n { nx := fun _ n' => kup k .non n', rt := kup k } := by
  obtain ⟨ns, rfl, ⟨hM1, hM2, hM3⟩, hk⟩ := h
  have hz : ns.length ≤ 100000 := by omega
  have ha : ((ns.filter fun _ => true).all fun z => decide (0 ≤ z) && decide (z ≤ 1099511627775)) = true := by
    rw [List.all_eq_true]
    intro z hzm
    have := hM2 z (List.mem_filter.mp hzm).1
    rw [Bool.and_eq_true]
    exact ⟨decide_eq_true this.1, decide_eq_true (by omega)⟩
  have hl : decide ((200 : Int) < ((ns.map D.int).length : Int)) = false := decide_eq_false (by rw [List.length_map]; omega)
  unfold r_are_moments
  repeat' (first
    | exact absurd ‹false = true› (by decide) | exact absurd ‹true = false› (by decide)
    | with_reducible refine e_lcIX ⟨fun _ => true, fun z => .bl (decide (0 ≤ z) && decide (z ≤ 1099511627775)), ?_⟩
    | with_reducible refine ⟨hz, fun _ _ => ?_, ?_⟩
    | ((with_reducible refine s_cellX ?_); refine ⟨_, rfl, rfl, _, rfl, fun _ => ?_, ?_⟩)
    | ((with_reducible refine e_pen2X ?_); refine ⟨_, rfl, rfl, fun _ _ => ?_⟩)
    | ((with_reducible refine e_pen1X ?_); refine ⟨_, rfl, rfl, fun _ _ _ => ?_⟩)
    | ((with_reducible refine e_pen0X ?_); refine ⟨_, rfl, rfl, fun _ _ => ?_⟩)
    | ((with_reducible refine s_pen2X ?_); refine ⟨_, rfl, rfl, ?_⟩)
    | ((with_reducible refine s_pen1X ?_); refine ⟨_, rfl, rfl, ?_⟩)
    | ((with_reducible refine e_varX ?_); refine ⟨_, rfl, rfl, ?_⟩)
    | ((with_reducible refine e_slLV ?_); refine ⟨_, rfl, ?_⟩)
    | ((with_reducible refine e_slTV ?_); refine ⟨_, rfl, ?_⟩)
    | ((with_reducible refine i_listV ?_); refine ⟨_, rfl, ?_⟩)
    | ((with_reducible refine i_tupV ?_); refine ⟨_, rfl, ?_⟩)
    | with_reducible refine rd_ixIntsX ⟨⟨?_, ?_⟩, fun _ _ _ => ?_⟩
    | ((with_reducible refine rd_ixLX ?_); refine ⟨_, rfl, ?_⟩)
    | ((with_reducible refine rd_ixTX ?_); refine ⟨_, rfl, ?_⟩)
    | with_reducible refine s_seq ?_
    | with_reducible refine s_if ?_
    | with_reducible refine s_ret ?_
    | with_reducible refine s_set ?_
    | with_reducible refine s_par ?_
    | with_reducible refine s_next ?_
    | with_reducible refine s_retN ?_
    | with_reducible refine s_drop ?_
    | with_reducible refine e_int ?_
    | with_reducible refine e_str ?_
    | with_reducible refine e_bl ?_
    | with_reducible refine e_non ?_
    | with_reducible refine e_raw ?_
    | with_reducible refine e_op ?_
    | with_reducible refine e_un ?_
    | with_reducible refine e_cb ?_
    | with_reducible refine a_cons ?_
    | with_reducible refine a_nil ?_
    | with_reducible refine t_test ?_
    | with_reducible refine t_B ?_
    | with_reducible refine t_and ?_
    | with_reducible refine t_or ?_
    | with_reducible refine t_not ?_
    | with_reducible refine e_if ?_
    | with_reducible refine e_andV ?_
    | with_reducible refine e_orV ?_
    | with_reducible refine e_notV ?_
    | with_reducible refine e_chain ?_
    | with_reducible refine e_chain3 ?_
    | with_reducible refine rd_addI ?_
    | with_reducible refine rd_sub ?_
    | with_reducible refine rd_lt ?_
    | with_reducible refine rd_le ?_
    | with_reducible refine rd_gt ?_
    | with_reducible refine rd_ge ?_
    | with_reducible refine rd_eqI ?_
    | with_reducible refine rd_neI ?_
    | with_reducible refine rd_eqS ?_
    | with_reducible refine rd_neS ?_
    | with_reducible refine ru_neg ?_
    | with_reducible refine rc_int ?_
    | with_reducible refine rc_intB ?_
    | with_reducible refine rc_abs ?_
    | with_reducible refine rc_max2 ?_
    | with_reducible refine rc_min2 ?_
    | with_reducible refine rc_lenL ?_
    | with_reducible refine rc_lenT ?_
    | with_reducible refine rc_listL ?_
    | with_reducible refine rc_tupL ?_
    | with_reducible refine rc_tupT ?_
    | with_reducible refine e_call ?_
    | with_reducible refine rd_modX ?_
    | with_reducible refine rd_divX ?_
    | with_reducible refine rd_mulX ?_
    | with_reducible refine rd_powX ?_
    | with_reducible refine rd_neNilX ?_
    | with_reducible refine rd_isI ?_
    | with_reducible refine rd_isL ?_
    | with_reducible refine rd_isT ?_
    | with_reducible refine rd_isS ?_
    | with_reducible refine rd_isNn ?_
    | with_reducible refine rd_isNI ?_
    | with_reducible refine rd_isNL ?_
    | with_reducible refine rd_isNT ?_
    | with_reducible refine rd_isNS ?_
    | with_reducible refine rd_isNNn ?_
    | with_reducible refine rc_allX ?_
    | with_reducible refine rc_anyX ?_
    | with_reducible refine t_yes ?_
    | with_reducible refine o_none ?_
    | with_reducible refine o_some ?_
    | with_reducible refine i_rng1 ?_
    | with_reducible refine i_rng2 ?_
    | with_reducible refine i_zip ?_
    | with_reducible refine e_fld ?_
    | with_reducible refine e_tup ?_
    | with_reducible refine e_lst ?_
    | with_reducible refine rd_is rfl ?_ | with_reducible refine rd_isN rfl ?_
    | ((with_reducible refine rc_isiBX ?_); refine ⟨_, rfl, _, rfl, ?_⟩)
    | ((with_reducible refine e_isi2X ?_))
    | with_reducible refine Or.inl ⟨_, rfl, ?_⟩ | with_reducible refine Or.inr ⟨_, rfl, ?_⟩
    | with_reducible refine ⟨_, rfl, ?_⟩ | with_reducible refine ⟨rfl, ?_⟩ | with_reducible refine ⟨_, _, rfl, ?_⟩ | with_reducible refine ⟨_, _, _, rfl, ?_⟩ | with_reducible refine ⟨_, _, rfl, rfl, ?_⟩ | with_reducible refine ⟨fun _ => ?_, fun _ => ?_⟩ | with_reducible refine fun (_ : _ = true) => ?_ | with_reducible exact rfl | with_reducible refine ⟨by omega, ?_⟩ | with_reducible refine ⟨by decide, ?_⟩ | with_reducible refine ⟨Int.ediv_nonneg (by omega) (by omega), ?_⟩ | fail)
  · exact absurd (hl.symm.trans (by assumption)) (by decide)
  · rename_i z
    rw [ha] at z
    exact absurd z (by decide)
  · refine WpF.toE (f_lcZip (f := fun a b => .bl (decide (a < b))) (by decide) ?_)
    repeat' (first
    | exact absurd ‹false = true› (by decide) | exact absurd ‹true = false› (by decide)
    | ((with_reducible refine s_cellX ?_); refine ⟨_, rfl, rfl, _, rfl, fun _ => ?_, ?_⟩)
    | ((with_reducible refine e_pen2X ?_); refine ⟨_, rfl, rfl, fun _ _ => ?_⟩)
    | ((with_reducible refine e_pen1X ?_); refine ⟨_, rfl, rfl, fun _ _ _ => ?_⟩)
    | ((with_reducible refine e_pen0X ?_); refine ⟨_, rfl, rfl, fun _ _ => ?_⟩)
    | ((with_reducible refine s_pen2X ?_); refine ⟨_, rfl, rfl, ?_⟩)
    | ((with_reducible refine s_pen1X ?_); refine ⟨_, rfl, rfl, ?_⟩)
    | ((with_reducible refine e_varX ?_); refine ⟨_, rfl, rfl, ?_⟩)
    | ((with_reducible refine e_slLV ?_); refine ⟨_, rfl, ?_⟩)
    | ((with_reducible refine e_slTV ?_); refine ⟨_, rfl, ?_⟩)
    | ((with_reducible refine i_listV ?_); refine ⟨_, rfl, ?_⟩)
    | ((with_reducible refine i_tupV ?_); refine ⟨_, rfl, ?_⟩)
    | with_reducible refine rd_ixIntsX ⟨⟨?_, ?_⟩, fun _ _ _ => ?_⟩
    | ((with_reducible refine rd_ixLX ?_); refine ⟨_, rfl, ?_⟩)
    | ((with_reducible refine rd_ixTX ?_); refine ⟨_, rfl, ?_⟩)
    | with_reducible refine s_seq ?_
    | with_reducible refine s_if ?_
    | with_reducible refine s_ret ?_
    | with_reducible refine s_set ?_
    | with_reducible refine s_par ?_
    | with_reducible refine s_next ?_
    | with_reducible refine s_retN ?_
    | with_reducible refine s_drop ?_
    | with_reducible refine e_int ?_
    | with_reducible refine e_str ?_
    | with_reducible refine e_bl ?_
    | with_reducible refine e_non ?_
    | with_reducible refine e_raw ?_
    | with_reducible refine e_op ?_
    | with_reducible refine e_un ?_
    | with_reducible refine e_cb ?_
    | with_reducible refine a_cons ?_
    | with_reducible refine a_nil ?_
    | with_reducible refine t_test ?_
    | with_reducible refine t_B ?_
    | with_reducible refine t_and ?_
    | with_reducible refine t_or ?_
    | with_reducible refine t_not ?_
    | with_reducible refine e_if ?_
    | with_reducible refine e_andV ?_
    | with_reducible refine e_orV ?_
    | with_reducible refine e_notV ?_
    | with_reducible refine e_chain ?_
    | with_reducible refine e_chain3 ?_
    | with_reducible refine rd_addI ?_
    | with_reducible refine rd_sub ?_
    | with_reducible refine rd_lt ?_
    | with_reducible refine rd_le ?_
    | with_reducible refine rd_gt ?_
    | with_reducible refine rd_ge ?_
    | with_reducible refine rd_eqI ?_
    | with_reducible refine rd_neI ?_
    | with_reducible refine rd_eqS ?_
    | with_reducible refine rd_neS ?_
    | with_reducible refine ru_neg ?_
    | with_reducible refine rc_int ?_
    | with_reducible refine rc_intB ?_
    | with_reducible refine rc_abs ?_
    | with_reducible refine rc_max2 ?_
    | with_reducible refine rc_min2 ?_
    | with_reducible refine rc_lenL ?_
    | with_reducible refine rc_lenT ?_
    | with_reducible refine rc_listL ?_
    | with_reducible refine rc_tupL ?_
    | with_reducible refine rc_tupT ?_
    | with_reducible refine e_call ?_
    | with_reducible refine rd_modX ?_
    | with_reducible refine rd_divX ?_
    | with_reducible refine rd_mulX ?_
    | with_reducible refine rd_powX ?_
    | with_reducible refine rd_neNilX ?_
    | with_reducible refine rd_isI ?_
    | with_reducible refine rd_isL ?_
    | with_reducible refine rd_isT ?_
    | with_reducible refine rd_isS ?_
    | with_reducible refine rd_isNn ?_
    | with_reducible refine rd_isNI ?_
    | with_reducible refine rd_isNL ?_
    | with_reducible refine rd_isNT ?_
    | with_reducible refine rd_isNS ?_
    | with_reducible refine rd_isNNn ?_
    | with_reducible refine rc_allX ?_
    | with_reducible refine rc_anyX ?_
    | with_reducible refine t_yes ?_
    | with_reducible refine o_none ?_
    | with_reducible refine o_some ?_
    | with_reducible refine i_rng1 ?_
    | with_reducible refine i_rng2 ?_
    | with_reducible refine i_zip ?_
    | with_reducible refine e_fld ?_
    | with_reducible refine e_tup ?_
    | with_reducible refine e_lst ?_
    | with_reducible refine rd_is rfl ?_ | with_reducible refine rd_isN rfl ?_
    | ((with_reducible refine rc_isiBX ?_); refine ⟨_, rfl, _, rfl, ?_⟩)
    | ((with_reducible refine e_isi2X ?_))
    | with_reducible refine Or.inl ⟨_, rfl, ?_⟩ | with_reducible refine Or.inr ⟨_, rfl, ?_⟩
    | with_reducible refine ⟨_, rfl, ?_⟩ | with_reducible refine ⟨rfl, ?_⟩ | with_reducible refine ⟨_, _, rfl, ?_⟩ | with_reducible refine ⟨_, _, _, rfl, ?_⟩ | with_reducible refine ⟨_, _, rfl, rfl, ?_⟩ | with_reducible refine ⟨fun _ => ?_, fun _ => ?_⟩ | with_reducible refine fun (_ : _ = true) => ?_ | with_reducible exact rfl | with_reducible refine ⟨by omega, ?_⟩ | with_reducible refine ⟨by decide, ?_⟩ | with_reducible refine ⟨Int.ediv_nonneg (by omega) (by omega), ?_⟩ | fail)
    by_cases h0 : 1 ≤ (ns.map D.int).length
    · rw [show ((1 : Int)) = ((1 : Nat) : Int) from rfl, cutD_from h0]
      refine ⟨ns.zip (ns.drop 1), ?_, ?_, fun p _ => ?_, ?_⟩
      · rw [← List.map_drop, List.zip_map, List.map_map]; rfl
      · rw [List.length_zip]; omega
      · repeat' (first
    | exact absurd ‹false = true› (by decide) | exact absurd ‹true = false› (by decide)
    | ((with_reducible refine s_cellX ?_); refine ⟨_, rfl, rfl, _, rfl, fun _ => ?_, ?_⟩)
    | ((with_reducible refine e_pen2X ?_); refine ⟨_, rfl, rfl, fun _ _ => ?_⟩)
    | ((with_reducible refine e_pen1X ?_); refine ⟨_, rfl, rfl, fun _ _ _ => ?_⟩)
    | ((with_reducible refine e_pen0X ?_); refine ⟨_, rfl, rfl, fun _ _ => ?_⟩)
    | ((with_reducible refine s_pen2X ?_); refine ⟨_, rfl, rfl, ?_⟩)
    | ((with_reducible refine s_pen1X ?_); refine ⟨_, rfl, rfl, ?_⟩)
    | ((with_reducible refine e_varX ?_); refine ⟨_, rfl, rfl, ?_⟩)
    | ((with_reducible refine e_slLV ?_); refine ⟨_, rfl, ?_⟩)
    | ((with_reducible refine e_slTV ?_); refine ⟨_, rfl, ?_⟩)
    | ((with_reducible refine i_listV ?_); refine ⟨_, rfl, ?_⟩)
    | ((with_reducible refine i_tupV ?_); refine ⟨_, rfl, ?_⟩)
    | with_reducible refine rd_ixIntsX ⟨⟨?_, ?_⟩, fun _ _ _ => ?_⟩
    | ((with_reducible refine rd_ixLX ?_); refine ⟨_, rfl, ?_⟩)
    | ((with_reducible refine rd_ixTX ?_); refine ⟨_, rfl, ?_⟩)
    | with_reducible refine s_seq ?_
    | with_reducible refine s_if ?_
    | with_reducible refine s_ret ?_
    | with_reducible refine s_set ?_
    | with_reducible refine s_par ?_
    | with_reducible refine s_next ?_
    | with_reducible refine s_retN ?_
    | with_reducible refine s_drop ?_
    | with_reducible refine e_int ?_
    | with_reducible refine e_str ?_
    | with_reducible refine e_bl ?_
    | with_reducible refine e_non ?_
    | with_reducible refine e_raw ?_
    | with_reducible refine e_op ?_
    | with_reducible refine e_un ?_
    | with_reducible refine e_cb ?_
    | with_reducible refine a_cons ?_
    | with_reducible refine a_nil ?_
    | with_reducible refine t_test ?_
    | with_reducible refine t_B ?_
    | with_reducible refine t_and ?_
    | with_reducible refine t_or ?_
    | with_reducible refine t_not ?_
    | with_reducible refine e_if ?_
    | with_reducible refine e_andV ?_
    | with_reducible refine e_orV ?_
    | with_reducible refine e_notV ?_
    | with_reducible refine e_chain ?_
    | with_reducible refine e_chain3 ?_
    | with_reducible refine rd_addI ?_
    | with_reducible refine rd_sub ?_
    | with_reducible refine rd_lt ?_
    | with_reducible refine rd_le ?_
    | with_reducible refine rd_gt ?_
    | with_reducible refine rd_ge ?_
    | with_reducible refine rd_eqI ?_
    | with_reducible refine rd_neI ?_
    | with_reducible refine rd_eqS ?_
    | with_reducible refine rd_neS ?_
    | with_reducible refine ru_neg ?_
    | with_reducible refine rc_int ?_
    | with_reducible refine rc_intB ?_
    | with_reducible refine rc_abs ?_
    | with_reducible refine rc_max2 ?_
    | with_reducible refine rc_min2 ?_
    | with_reducible refine rc_lenL ?_
    | with_reducible refine rc_lenT ?_
    | with_reducible refine rc_listL ?_
    | with_reducible refine rc_tupL ?_
    | with_reducible refine rc_tupT ?_
    | with_reducible refine e_call ?_
    | with_reducible refine rd_modX ?_
    | with_reducible refine rd_divX ?_
    | with_reducible refine rd_mulX ?_
    | with_reducible refine rd_powX ?_
    | with_reducible refine rd_neNilX ?_
    | with_reducible refine rd_isI ?_
    | with_reducible refine rd_isL ?_
    | with_reducible refine rd_isT ?_
    | with_reducible refine rd_isS ?_
    | with_reducible refine rd_isNn ?_
    | with_reducible refine rd_isNI ?_
    | with_reducible refine rd_isNL ?_
    | with_reducible refine rd_isNT ?_
    | with_reducible refine rd_isNS ?_
    | with_reducible refine rd_isNNn ?_
    | with_reducible refine rc_allX ?_
    | with_reducible refine rc_anyX ?_
    | with_reducible refine t_yes ?_
    | with_reducible refine o_none ?_
    | with_reducible refine o_some ?_
    | with_reducible refine i_rng1 ?_
    | with_reducible refine i_rng2 ?_
    | with_reducible refine i_zip ?_
    | with_reducible refine e_fld ?_
    | with_reducible refine e_tup ?_
    | with_reducible refine e_lst ?_
    | with_reducible refine rd_is rfl ?_ | with_reducible refine rd_isN rfl ?_
    | ((with_reducible refine rc_isiBX ?_); refine ⟨_, rfl, _, rfl, ?_⟩)
    | ((with_reducible refine e_isi2X ?_))
    | with_reducible refine Or.inl ⟨_, rfl, ?_⟩ | with_reducible refine Or.inr ⟨_, rfl, ?_⟩
    | with_reducible refine ⟨_, rfl, ?_⟩ | with_reducible refine ⟨rfl, ?_⟩ | with_reducible refine ⟨_, _, rfl, ?_⟩ | with_reducible refine ⟨_, _, _, rfl, ?_⟩ | with_reducible refine ⟨_, _, rfl, rfl, ?_⟩ | with_reducible refine ⟨fun _ => ?_, fun _ => ?_⟩ | with_reducible refine fun (_ : _ = true) => ?_ | with_reducible exact rfl | with_reducible refine ⟨by omega, ?_⟩ | with_reducible refine ⟨by decide, ?_⟩ | with_reducible refine ⟨Int.ediv_nonneg (by omega) (by omega), ?_⟩ | fail)
      · repeat' (first
    | exact absurd ‹false = true› (by decide) | exact absurd ‹true = false› (by decide)
    | ((with_reducible refine s_cellX ?_); refine ⟨_, rfl, rfl, _, rfl, fun _ => ?_, ?_⟩)
    | ((with_reducible refine e_pen2X ?_); refine ⟨_, rfl, rfl, fun _ _ => ?_⟩)
    | ((with_reducible refine e_pen1X ?_); refine ⟨_, rfl, rfl, fun _ _ _ => ?_⟩)
    | ((with_reducible refine e_pen0X ?_); refine ⟨_, rfl, rfl, fun _ _ => ?_⟩)
    | ((with_reducible refine s_pen2X ?_); refine ⟨_, rfl, rfl, ?_⟩)
    | ((with_reducible refine s_pen1X ?_); refine ⟨_, rfl, rfl, ?_⟩)
    | ((with_reducible refine e_varX ?_); refine ⟨_, rfl, rfl, ?_⟩)
    | ((with_reducible refine e_slLV ?_); refine ⟨_, rfl, ?_⟩)
    | ((with_reducible refine e_slTV ?_); refine ⟨_, rfl, ?_⟩)
    | ((with_reducible refine i_listV ?_); refine ⟨_, rfl, ?_⟩)
    | ((with_reducible refine i_tupV ?_); refine ⟨_, rfl, ?_⟩)
    | with_reducible refine rd_ixIntsX ⟨⟨?_, ?_⟩, fun _ _ _ => ?_⟩
    | ((with_reducible refine rd_ixLX ?_); refine ⟨_, rfl, ?_⟩)
    | ((with_reducible refine rd_ixTX ?_); refine ⟨_, rfl, ?_⟩)
    | with_reducible refine s_seq ?_
    | with_reducible refine s_if ?_
    | with_reducible refine s_ret ?_
    | with_reducible refine s_set ?_
    | with_reducible refine s_par ?_
    | with_reducible refine s_next ?_
    | with_reducible refine s_retN ?_
    | with_reducible refine s_drop ?_
    | with_reducible refine e_int ?_
    | with_reducible refine e_str ?_
    | with_reducible refine e_bl ?_
    | with_reducible refine e_non ?_
    | with_reducible refine e_raw ?_
    | with_reducible refine e_op ?_
    | with_reducible refine e_un ?_
    | with_reducible refine e_cb ?_
    | with_reducible refine a_cons ?_
    | with_reducible refine a_nil ?_
    | with_reducible refine t_test ?_
    | with_reducible refine t_B ?_
    | with_reducible refine t_and ?_
    | with_reducible refine t_or ?_
    | with_reducible refine t_not ?_
    | with_reducible refine e_if ?_
    | with_reducible refine e_andV ?_
    | with_reducible refine e_orV ?_
    | with_reducible refine e_notV ?_
    | with_reducible refine e_chain ?_
    | with_reducible refine e_chain3 ?_
    | with_reducible refine rd_addI ?_
    | with_reducible refine rd_sub ?_
    | with_reducible refine rd_lt ?_
    | with_reducible refine rd_le ?_
    | with_reducible refine rd_gt ?_
    | with_reducible refine rd_ge ?_
    | with_reducible refine rd_eqI ?_
    | with_reducible refine rd_neI ?_
    | with_reducible refine rd_eqS ?_
    | with_reducible refine rd_neS ?_
    | with_reducible refine ru_neg ?_
    | with_reducible refine rc_int ?_
    | with_reducible refine rc_intB ?_
    | with_reducible refine rc_abs ?_
    | with_reducible refine rc_max2 ?_
    | with_reducible refine rc_min2 ?_
    | with_reducible refine rc_lenL ?_
    | with_reducible refine rc_lenT ?_
    | with_reducible refine rc_listL ?_
    | with_reducible refine rc_tupL ?_
    | with_reducible refine rc_tupT ?_
    | with_reducible refine e_call ?_
    | with_reducible refine rd_modX ?_
    | with_reducible refine rd_divX ?_
    | with_reducible refine rd_mulX ?_
    | with_reducible refine rd_powX ?_
    | with_reducible refine rd_neNilX ?_
    | with_reducible refine rd_isI ?_
    | with_reducible refine rd_isL ?_
    | with_reducible refine rd_isT ?_
    | with_reducible refine rd_isS ?_
    | with_reducible refine rd_isNn ?_
    | with_reducible refine rd_isNI ?_
    | with_reducible refine rd_isNL ?_
    | with_reducible refine rd_isNT ?_
    | with_reducible refine rd_isNS ?_
    | with_reducible refine rd_isNNn ?_
    | with_reducible refine rc_allX ?_
    | with_reducible refine rc_anyX ?_
    | with_reducible refine t_yes ?_
    | with_reducible refine o_none ?_
    | with_reducible refine o_some ?_
    | with_reducible refine i_rng1 ?_
    | with_reducible refine i_rng2 ?_
    | with_reducible refine i_zip ?_
    | with_reducible refine e_fld ?_
    | with_reducible refine e_tup ?_
    | with_reducible refine e_lst ?_
    | with_reducible refine rd_is rfl ?_ | with_reducible refine rd_isN rfl ?_
    | ((with_reducible refine rc_isiBX ?_); refine ⟨_, rfl, _, rfl, ?_⟩)
    | ((with_reducible refine e_isi2X ?_))
    | with_reducible refine Or.inl ⟨_, rfl, ?_⟩ | with_reducible refine Or.inr ⟨_, rfl, ?_⟩
    | with_reducible refine ⟨_, rfl, ?_⟩ | with_reducible refine ⟨rfl, ?_⟩ | with_reducible refine ⟨_, _, rfl, ?_⟩ | with_reducible refine ⟨_, _, _, rfl, ?_⟩ | with_reducible refine ⟨_, _, rfl, rfl, ?_⟩ | with_reducible refine ⟨fun _ => ?_, fun _ => ?_⟩ | with_reducible refine fun (_ : _ = true) => ?_ | with_reducible exact rfl | with_reducible refine ⟨by omega, ?_⟩ | with_reducible refine ⟨by decide, ?_⟩ | with_reducible refine ⟨Int.ediv_nonneg (by omega) (by omega), ?_⟩ | fail)
        have e : ((ns.zip (ns.drop 1)).map fun p => D.bl (decide (p.1 < p.2))) = ((ns.zip (ns.drop 1)).map fun p => decide (p.1 < p.2)).map D.bl := by rw [List.map_map]; rfl
        rw [e]
        refine rc_all ?_
        rw [List.all_map]
        have := pairs_lt hM3
        rw [show ((ns.zip (ns.drop 1)).all (id ∘ fun p => decide (p.1 < p.2))) = true from this]
        exact kup_of hk
    · have e0 : ns = [] := by
        cases ns with
        | nil => rfl
        | cons a r => simp at h0
      subst e0
      refine ⟨[], rfl, by simp, fun p h => (nomatch h), ?_⟩
      repeat' (first
    | exact absurd ‹false = true› (by decide) | exact absurd ‹true = false› (by decide)
    | ((with_reducible refine s_cellX ?_); refine ⟨_, rfl, rfl, _, rfl, fun _ => ?_, ?_⟩)
    | ((with_reducible refine e_pen2X ?_); refine ⟨_, rfl, rfl, fun _ _ => ?_⟩)
    | ((with_reducible refine e_pen1X ?_); refine ⟨_, rfl, rfl, fun _ _ _ => ?_⟩)
    | ((with_reducible refine e_pen0X ?_); refine ⟨_, rfl, rfl, fun _ _ => ?_⟩)
    | ((with_reducible refine s_pen2X ?_); refine ⟨_, rfl, rfl, ?_⟩)
    | ((with_reducible refine s_pen1X ?_); refine ⟨_, rfl, rfl, ?_⟩)
    | ((with_reducible refine e_varX ?_); refine ⟨_, rfl, rfl, ?_⟩)
    | ((with_reducible refine e_slLV ?_); refine ⟨_, rfl, ?_⟩)
    | ((with_reducible refine e_slTV ?_); refine ⟨_, rfl, ?_⟩)
    | ((with_reducible refine i_listV ?_); refine ⟨_, rfl, ?_⟩)
    | ((with_reducible refine i_tupV ?_); refine ⟨_, rfl, ?_⟩)
    | with_reducible refine rd_ixIntsX ⟨⟨?_, ?_⟩, fun _ _ _ => ?_⟩
    | ((with_reducible refine rd_ixLX ?_); refine ⟨_, rfl, ?_⟩)
    | ((with_reducible refine rd_ixTX ?_); refine ⟨_, rfl, ?_⟩)
    | with_reducible refine s_seq ?_
    | with_reducible refine s_if ?_
    | with_reducible refine s_ret ?_
    | with_reducible refine s_set ?_
    | with_reducible refine s_par ?_
    | with_reducible refine s_next ?_
    | with_reducible refine s_retN ?_
    | with_reducible refine s_drop ?_
    | with_reducible refine e_int ?_
    | with_reducible refine e_str ?_
    | with_reducible refine e_bl ?_
    | with_reducible refine e_non ?_
    | with_reducible refine e_raw ?_
    | with_reducible refine e_op ?_
    | with_reducible refine e_un ?_
    | with_reducible refine e_cb ?_
    | with_reducible refine a_cons ?_
    | with_reducible refine a_nil ?_
    | with_reducible refine t_test ?_
    | with_reducible refine t_B ?_
    | with_reducible refine t_and ?_
    | with_reducible refine t_or ?_
    | with_reducible refine t_not ?_
    | with_reducible refine e_if ?_
    | with_reducible refine e_andV ?_
    | with_reducible refine e_orV ?_
    | with_reducible refine e_notV ?_
    | with_reducible refine e_chain ?_
    | with_reducible refine e_chain3 ?_
    | with_reducible refine rd_addI ?_
    | with_reducible refine rd_sub ?_
    | with_reducible refine rd_lt ?_
    | with_reducible refine rd_le ?_
    | with_reducible refine rd_gt ?_
    | with_reducible refine rd_ge ?_
    | with_reducible refine rd_eqI ?_
    | with_reducible refine rd_neI ?_
    | with_reducible refine rd_eqS ?_
    | with_reducible refine rd_neS ?_
    | with_reducible refine ru_neg ?_
    | with_reducible refine rc_int ?_
    | with_reducible refine rc_intB ?_
    | with_reducible refine rc_abs ?_
    | with_reducible refine rc_max2 ?_
    | with_reducible refine rc_min2 ?_
    | with_reducible refine rc_lenL ?_
    | with_reducible refine rc_lenT ?_
    | with_reducible refine rc_listL ?_
    | with_reducible refine rc_tupL ?_
    | with_reducible refine rc_tupT ?_
    | with_reducible refine e_call ?_
    | with_reducible refine rd_modX ?_
    | with_reducible refine rd_divX ?_
    | with_reducible refine rd_mulX ?_
    | with_reducible refine rd_powX ?_
    | with_reducible refine rd_neNilX ?_
    | with_reducible refine rd_isI ?_
    | with_reducible refine rd_isL ?_
    | with_reducible refine rd_isT ?_
    | with_reducible refine rd_isS ?_
    | with_reducible refine rd_isNn ?_
    | with_reducible refine rd_isNI ?_
    | with_reducible refine rd_isNL ?_
    | with_reducible refine rd_isNT ?_
    | with_reducible refine rd_isNS ?_
    | with_reducible refine rd_isNNn ?_
    | with_reducible refine rc_allX ?_
    | with_reducible refine rc_anyX ?_
    | with_reducible refine t_yes ?_
    | with_reducible refine o_none ?_
    | with_reducible refine o_some ?_
    | with_reducible refine i_rng1 ?_
    | with_reducible refine i_rng2 ?_
    | with_reducible refine i_zip ?_
    | with_reducible refine e_fld ?_
    | with_reducible refine e_tup ?_
    | with_reducible refine e_lst ?_
    | with_reducible refine rd_is rfl ?_ | with_reducible refine rd_isN rfl ?_
    | ((with_reducible refine rc_isiBX ?_); refine ⟨_, rfl, _, rfl, ?_⟩)
    | ((with_reducible refine e_isi2X ?_))
    | with_reducible refine Or.inl ⟨_, rfl, ?_⟩ | with_reducible refine Or.inr ⟨_, rfl, ?_⟩
    | with_reducible refine ⟨_, rfl, ?_⟩ | with_reducible refine ⟨rfl, ?_⟩ | with_reducible refine ⟨_, _, rfl, ?_⟩ | with_reducible refine ⟨_, _, _, rfl, ?_⟩ | with_reducible refine ⟨_, _, rfl, rfl, ?_⟩ | with_reducible refine ⟨fun _ => ?_, fun _ => ?_⟩ | with_reducible refine fun (_ : _ = true) => ?_ | with_reducible exact rfl | with_reducible refine ⟨by omega, ?_⟩ | with_reducible refine ⟨by decide, ?_⟩ | with_reducible refine ⟨Int.ediv_nonneg (by omega) (by omega), ?_⟩ | fail)
      exact rc_all (bs := []) (kup_of hk)
theorem w_fixed0 (h : fixed0Sp w es n k) {sp : DSpW} : WpS K w (r_fixed K (toSp K sp)) (dstart ["value", "part"] es) n { nx := fun _ n' => kup k .non n', rt := kup k } := by
  obtain ⟨i, rfl, hk⟩ := h
  unfold r_fixed
  repeat' (first
    | exact absurd ‹false = true› (by decide) | exact absurd ‹true = false› (by decide)
    | ((with_reducible refine s_cellX ?_); refine ⟨_, rfl, rfl, _, rfl, fun _ => ?_, ?_⟩)
    | ((with_reducible refine e_pen2X ?_); refine ⟨_, rfl, rfl, fun _ _ => ?_⟩)
    | ((with_reducible refine e_pen1X ?_); refine ⟨_, rfl, rfl, fun _ _ _ => ?_⟩)
    | ((with_reducible refine e_pen0X ?_); refine ⟨_, rfl, rfl, fun _ _ => ?_⟩)
    | ((with_reducible refine s_pen2X ?_); refine ⟨_, rfl, rfl, ?_⟩)
    | ((with_reducible refine s_pen1X ?_); refine ⟨_, rfl, rfl, ?_⟩)
    | ((with_reducible refine e_varX ?_); refine ⟨_, rfl, rfl, ?_⟩)
    | ((with_reducible refine e_slLV ?_); refine ⟨_, rfl, ?_⟩)
    | ((with_reducible refine e_slTV ?_); refine ⟨_, rfl, ?_⟩)
    | ((with_reducible refine i_listV ?_); refine ⟨_, rfl, ?_⟩)
    | ((with_reducible refine i_tupV ?_); refine ⟨_, rfl, ?_⟩)
    | with_reducible refine rd_ixIntsX ⟨⟨?_, ?_⟩, fun _ _ _ => ?_⟩
    | ((with_reducible refine rd_ixLX ?_); refine ⟨_, rfl, ?_⟩)
    | ((with_reducible refine rd_ixTX ?_); refine ⟨_, rfl, ?_⟩)
    | with_reducible refine s_seq ?_
    | with_reducible refine s_if ?_
    | with_reducible refine s_ret ?_
    | with_reducible refine s_set ?_
    | with_reducible refine s_par ?_
    | with_reducible refine s_next ?_
    | with_reducible refine s_retN ?_
    | with_reducible refine s_drop ?_
    | with_reducible refine e_int ?_
    | with_reducible refine e_str ?_
    | with_reducible refine e_bl ?_
    | with_reducible refine e_non ?_
    | with_reducible refine e_raw ?_
    | with_reducible refine e_op ?_
    | with_reducible refine e_un ?_
    | with_reducible refine e_cb ?_
    | with_reducible refine a_cons ?_
    | with_reducible refine a_nil ?_
    | with_reducible refine t_test ?_
    | with_reducible refine t_B ?_
    | with_reducible refine t_and ?_
    | with_reducible refine t_or ?_
    | with_reducible refine t_not ?_
    | with_reducible refine e_if ?_
    | with_reducible refine e_andV ?_
    | with_reducible refine e_orV ?_
    | with_reducible refine e_notV ?_
    | with_reducible refine e_chain ?_
    | with_reducible refine e_chain3 ?_
    | with_reducible refine rd_addI ?_
    | with_reducible refine rd_sub ?_
    | with_reducible refine rd_lt ?_
    | with_reducible refine rd_le ?_
    | with_reducible refine rd_gt ?_
    | with_reducible refine rd_ge ?_
    | with_reducible refine rd_eqI ?_
    | with_reducible refine rd_neI ?_
    | with_reducible refine rd_eqS ?_
    | with_reducible refine rd_neS ?_
    | with_reducible refine ru_neg ?_
    | with_reducible refine rc_int ?_
    | with_reducible refine rc_intB ?_
    | with_reducible refine rc_abs ?_
    | with_reducible refine rc_max2 ?_
    | with_reducible refine rc_min2 ?_
    | with_reducible refine rc_lenL ?_
    | with_reducible refine rc_lenT ?_
    | with_reducible refine rc_listL ?_
    | with_reducible refine rc_tupL ?_
    | with_reducible refine rc_tupT ?_
    | with_reducible refine e_call ?_
    | with_reducible refine rd_modX ?_
    | with_reducible refine rd_divX ?_
    | with_reducible refine rd_mulX ?_
    | with_reducible refine rd_powX ?_
    | with_reducible refine rd_neNilX ?_
    | with_reducible refine rd_isI ?_
    | with_reducible refine rd_isL ?_
    | with_reducible refine rd_isT ?_
    | with_reducible refine rd_isS ?_
    | with_reducible refine rd_isNn ?_
    | with_reducible refine rd_isNI ?_
    | with_reducible refine rd_isNL ?_
    | with_reducible refine rd_isNT ?_
    | with_reducible refine rd_isNS ?_
    | with_reducible refine rd_isNNn ?_
    | with_reducible refine rc_allX ?_
    | with_reducible refine rc_anyX ?_
    | with_reducible refine t_yes ?_
    | with_reducible refine o_none ?_
    | with_reducible refine o_some ?_
    | with_reducible refine i_rng1 ?_
    | with_reducible refine i_rng2 ?_
    | with_reducible refine i_zip ?_
    | with_reducible refine e_fld ?_
    | with_reducible refine e_tup ?_
    | with_reducible refine e_lst ?_
    | with_reducible refine rd_is rfl ?_ | with_reducible refine rd_isN rfl ?_
    | ((with_reducible refine rc_isiBX ?_); refine ⟨_, rfl, _, rfl, ?_⟩)
    | ((with_reducible refine e_isi2X ?_))
    | with_reducible refine Or.inl ⟨_, rfl, ?_⟩ | with_reducible refine Or.inr ⟨_, rfl, ?_⟩
    | with_reducible refine ⟨_, rfl, ?_⟩ | with_reducible refine ⟨rfl, ?_⟩ | with_reducible refine ⟨_, _, rfl, ?_⟩ | with_reducible refine ⟨_, _, _, rfl, ?_⟩ | with_reducible refine ⟨_, _, rfl, rfl, ?_⟩ | with_reducible refine ⟨fun _ => ?_, fun _ => ?_⟩ | with_reducible refine fun (_ : _ = true) => ?_ | with_reducible exact rfl | with_reducible refine ⟨by omega, ?_⟩ | with_reducible refine ⟨by decide, ?_⟩ | with_reducible refine ⟨Int.ediv_nonneg (by omega) (by omega), ?_⟩ | fail)
  all_goals exact kup_of hk
theorem w_fixed (h : fixedSp w es n k) : WpS K w (r_fixed K (toSp K fixed0Sp)) (dstart ["value", "part"] es) n { nx := fun _ n' => kup k .non n', rt := kup k } := by
  obtain ⟨ns, rfl, hz, hk⟩ := h
  have e : ((ns.filter fun _ => true).map fun z => D.int z) = ns.map .int := by rw [List.filter_eq_self.mpr (fun _ _ => rfl)]
  unfold r_fixed
  repeat' (first
    | exact absurd ‹false = true› (by decide) | exact absurd ‹true = false› (by decide)
    | with_reducible refine e_lcIX ⟨fun _ => true, fun z => .int z, ?_⟩
    | with_reducible refine ⟨hz, fun _ _ => ?_, ?_⟩
    | ((with_reducible refine s_cellX ?_); refine ⟨_, rfl, rfl, _, rfl, fun _ => ?_, ?_⟩)
    | ((with_reducible refine e_pen2X ?_); refine ⟨_, rfl, rfl, fun _ _ => ?_⟩)
    | ((with_reducible refine e_pen1X ?_); refine ⟨_, rfl, rfl, fun _ _ _ => ?_⟩)
    | ((with_reducible refine e_pen0X ?_); refine ⟨_, rfl, rfl, fun _ _ => ?_⟩)
    | ((with_reducible refine s_pen2X ?_); refine ⟨_, rfl, rfl, ?_⟩)
    | ((with_reducible refine s_pen1X ?_); refine ⟨_, rfl, rfl, ?_⟩)
    | ((with_reducible refine e_varX ?_); refine ⟨_, rfl, rfl, ?_⟩)
    | ((with_reducible refine e_slLV ?_); refine ⟨_, rfl, ?_⟩)
    | ((with_reducible refine e_slTV ?_); refine ⟨_, rfl, ?_⟩)
    | ((with_reducible refine i_listV ?_); refine ⟨_, rfl, ?_⟩)
    | ((with_reducible refine i_tupV ?_); refine ⟨_, rfl, ?_⟩)
    | with_reducible refine rd_ixIntsX ⟨⟨?_, ?_⟩, fun _ _ _ => ?_⟩
    | ((with_reducible refine rd_ixLX ?_); refine ⟨_, rfl, ?_⟩)
    | ((with_reducible refine rd_ixTX ?_); refine ⟨_, rfl, ?_⟩)
    | with_reducible refine s_seq ?_
    | with_reducible refine s_if ?_
    | with_reducible refine s_ret ?_
    | with_reducible refine s_set ?_
    | with_reducible refine s_par ?_
    | with_reducible refine s_next ?_
    | with_reducible refine s_retN ?_
    | with_reducible refine s_drop ?_
    | with_reducible refine e_int ?_
    | with_reducible refine e_str ?_
    | with_reducible refine e_bl ?_
    | with_reducible refine e_non ?_
    | with_reducible refine e_raw ?_
    | with_reducible refine e_op ?_
    | with_reducible refine e_un ?_
    | with_reducible refine e_cb ?_
    | with_reducible refine a_cons ?_
    | with_reducible refine a_nil ?_
    | with_reducible refine t_test ?_
    | with_reducible refine t_B ?_
    | with_reducible refine t_and ?_
    | with_reducible refine t_or ?_
    | with_reducible refine t_not ?_
    | with_reducible refine e_if ?_
    | with_reducible refine e_andV ?_
    | with_reducible refine e_orV ?_
    | with_reducible refine e_notV ?_
    | with_reducible refine e_chain ?_
    | with_reducible refine e_chain3 ?_
    | with_reducible refine rd_addI ?_
    | with_reducible refine rd_sub ?_
    | with_reducible refine rd_lt ?_
    | with_reducible refine rd_le ?_
    | with_reducible refine rd_gt ?_
    | with_reducible refine rd_ge ?_
    | with_reducible refine rd_eqI ?_
    | with_reducible refine rd_neI ?_
    | with_reducible refine rd_eqS ?_
    | with_reducible refine rd_neS ?_
    | with_reducible refine ru_neg ?_
    | with_reducible refine rc_int ?_
    | with_reducible refine rc_intB ?_
    | with_reducible refine rc_abs ?_
    | with_reducible refine rc_max2 ?_
    | with_reducible refine rc_min2 ?_
    | with_reducible refine rc_lenL ?_
    | with_reducible refine rc_lenT ?_
    | with_reducible refine rc_listL ?_
    | with_reducible refine rc_tupL ?_
    | with_reducible refine rc_tupT ?_
    | with_reducible refine e_call ?_
    | with_reducible refine rd_modX ?_
    | with_reducible refine rd_divX ?_
    | with_reducible refine rd_mulX ?_
    | with_reducible refine rd_powX ?_
    | with_reducible refine rd_neNilX ?_
    | with_reducible refine rd_isI ?_
    | with_reducible refine rd_isL ?_
    | with_reducible refine rd_isT ?_
    | with_reducible refine rd_isS ?_
    | with_reducible refine rd_isNn ?_
    | with_reducible refine rd_isNI ?_
    | with_reducible refine rd_isNL ?_
    | with_reducible refine rd_isNT ?_
    | with_reducible refine rd_isNS ?_
    | with_reducible refine rd_isNNn ?_
    | with_reducible refine rc_allX ?_
    | with_reducible refine rc_anyX ?_
    | with_reducible refine t_yes ?_
    | with_reducible refine o_none ?_
    | with_reducible refine o_some ?_
    | with_reducible refine i_rng1 ?_
    | with_reducible refine i_rng2 ?_
    | with_reducible refine i_zip ?_
    | with_reducible refine e_fld ?_
    | with_reducible refine e_tup ?_
    | with_reducible refine e_lst ?_
    | with_reducible refine rd_is rfl ?_ | with_reducible refine rd_isN rfl ?_
    | ((with_reducible refine rc_isiBX ?_); refine ⟨_, rfl, _, rfl, ?_⟩)
    | ((with_reducible refine e_isi2X ?_))
    | with_reducible refine Or.inl ⟨_, rfl, ?_⟩ | with_reducible refine Or.inr ⟨_, rfl, ?_⟩
    | with_reducible refine ⟨_, rfl, ?_⟩ | with_reducible refine ⟨rfl, ?_⟩ | with_reducible refine ⟨_, _, rfl, ?_⟩ | with_reducible refine ⟨_, _, _, rfl, ?_⟩ | with_reducible refine ⟨_, _, rfl, rfl, ?_⟩ | with_reducible refine ⟨fun _ => ?_, fun _ => ?_⟩ | with_reducible refine fun (_ : _ = true) => ?_ | with_reducible exact rfl | with_reducible refine ⟨by omega, ?_⟩ | with_reducible refine ⟨by decide, ?_⟩ | with_reducible refine ⟨Int.ediv_nonneg (by omega) (by omega), ?_⟩ | fail)
  all_goals (rw [e]; exact kup_of hk)
end
end K51
set_option Elab.async false
set_option maxRecDepth 100000
set_option maxHeartbeats 4000000
set_option linter.all false
set_option autoImplicit false
namespace K51
open PySem PySem.Spec PyProof.Rows L2 DW
def EN : List Str := ["word", "parts", "bits", "count", "first", "last", "total", "least", "greatest"]
def entryD (C : Addr) (b c f l t lo hi : Int) : D := .obj C EN [.str "entry", .tup ([b, c, f, l, t, lo, hi].map .int), .int b, .int c, .int f, .int l, .int t, .int lo, .int hi]
def QN : List Str := ["kind", "number", "start", "stop", "among"]
def amD : Option (List Int) → D
  | none => .non
  | some ns => .tup (ns.map .int)
def questionD (C : Addr) (kind : Str) (num : D) (st sp : Int) (am : Option (List Int)) : D := .obj C QN [.str kind, num, .int st, .int sp, amD am]
structure Possible (b c f l t lo hi : Int) : Prop where
  b0 : 0 ≤ b
  c1 : 1 ≤ c
  c2 : c ≤ 2 ^ 36
  f0 : 0 ≤ f
  fl : f ≤ l
  l2 : l < 2 ^ 40
  lo0 : -(2 ^ 40) ≤ lo
  lohi : lo ≤ hi
  hi2 : hi ≤ 2 ^ 40
  one : c = 1 → f = l ∧ lo = hi ∧ hi = t
  more : c ≠ 1 → c - 1 ≤ l - f ∧ (c - 1) * lo + hi ≤ t ∧ t ≤ lo + (c - 1) * hi
def betweenP (st sp : Int) (am : Option (List Int)) (a b : Int) : Int := match am with
  | none => max 0 (min sp b - max st a)
  | some ns => ((ns.filter fun m => decide (max st a ≤ m) && decide (m < min sp b)).length : Int)
def ptsP (c f l st sp : Int) (am : Option (List Int)) : Int × Int :=
  let e1 := betweenP st sp am f (f + 1)
  if c = 1 then (e1, e1) else
    let e2 := e1 + betweenP st sp am l (l + 1)
    let asked := betweenP st sp am (f + 1) l
    (e2 + max 0 (c - 2 - (l - f - 1 - asked)), e2 + min (c - 2) asked)
abbrev possibleSp (C : Addr) : DSpW := fun w es n k => ∃ b c f l t lo hi, es = [entryD C b c f l t lo hi] ∧ Possible b c f l t lo hi ∧ k (.bl true) n
abbrev betweenSp (C : Addr) : DSpW := fun w es n k => ∃ kind num st sp am a b, es = [questionD C kind num st sp am, .int a, .int b] ∧ (∀ ns, am = some ns → ns.length ≤ 100000) ∧ k (.int (betweenP st sp am a b)) n
section
variable {K : PySem.W.Frag} {w : Option Addr} {n : Nat} {k : Kn} {es : List D} {CE CQ : Addr}
theorem w_is_possible (T : ClT K CE EN) (h : possibleSp CE w es n k) : WpS K w (r_is_possible K) (dstart ["entry", "many", "low", "high", "total"] es) n { nx := fun _ n' => kup k .non n', rt := kup k } := by
  obtain ⟨b, c, f, l, t, lo, hi, rfl, ⟨p1, p2, p3, p4, p5, p6, p7, p8, p9, p10, p11⟩, hk⟩ := h
  unfold r_is_possible
  refine s_seq (s_asg (e_tup ?_))
  repeat' (first
    | exact absurd ‹false = true› (by decide) | exact absurd ‹true = false› (by decide)
    | ((with_reducible refine e_fldX ?_); refine ⟨_, _, _, rfl, T, by decide +kernel, _, rfl, ?_⟩)
    | ((with_reducible refine s_cellX ?_); refine ⟨_, rfl, rfl, _, rfl, fun _ => ?_, ?_⟩)
    | ((with_reducible refine e_pen2X ?_); refine ⟨_, rfl, rfl, fun _ _ => ?_⟩)
    | ((with_reducible refine e_pen1X ?_); refine ⟨_, rfl, rfl, fun _ _ _ => ?_⟩)
    | ((with_reducible refine e_pen0X ?_); refine ⟨_, rfl, rfl, fun _ _ => ?_⟩)
    | ((with_reducible refine s_pen2X ?_); refine ⟨_, rfl, rfl, ?_⟩)
    | ((with_reducible refine s_pen1X ?_); refine ⟨_, rfl, rfl, ?_⟩)
    | ((with_reducible refine e_varX ?_); refine ⟨_, rfl, rfl, ?_⟩)
    | ((with_reducible refine e_slLV ?_); refine ⟨_, rfl, ?_⟩)
    | ((with_reducible refine e_slTV ?_); refine ⟨_, rfl, ?_⟩)
    | ((with_reducible refine i_listV ?_); refine ⟨_, rfl, ?_⟩)
    | ((with_reducible refine i_tupV ?_); refine ⟨_, rfl, ?_⟩)
    | with_reducible refine rd_ixIntsX ⟨⟨?_, ?_⟩, fun _ _ _ => ?_⟩
    | ((with_reducible refine rd_ixLX ?_); refine ⟨_, rfl, ?_⟩)
    | ((with_reducible refine rd_ixTX ?_); refine ⟨_, rfl, ?_⟩)
    | with_reducible refine s_seq ?_
    | with_reducible refine s_if ?_
    | with_reducible refine s_ret ?_
    | with_reducible refine s_set ?_
    | with_reducible refine s_par ?_
    | with_reducible refine s_next ?_
    | with_reducible refine s_retN ?_
    | with_reducible refine s_drop ?_
    | with_reducible refine e_int ?_
    | with_reducible refine e_str ?_
    | with_reducible refine e_bl ?_
    | with_reducible refine e_non ?_
    | with_reducible refine e_raw ?_
    | with_reducible refine e_op ?_
    | with_reducible refine e_un ?_
    | with_reducible refine e_cb ?_
    | with_reducible refine a_cons ?_
    | with_reducible refine a_nil ?_
    | with_reducible refine t_test ?_
    | with_reducible refine t_B ?_
    | with_reducible refine t_and ?_
    | with_reducible refine t_or ?_
    | with_reducible refine t_not ?_
    | with_reducible refine e_if ?_
    | with_reducible refine e_andV ?_
    | with_reducible refine e_orV ?_
    | with_reducible refine e_notV ?_
    | with_reducible refine e_chain ?_
    | with_reducible refine e_chain3 ?_
    | with_reducible refine rd_addI ?_
    | with_reducible refine rd_sub ?_
    | with_reducible refine rd_lt ?_
    | with_reducible refine rd_le ?_
    | with_reducible refine rd_gt ?_
    | with_reducible refine rd_ge ?_
    | with_reducible refine rd_eqI ?_
    | with_reducible refine rd_neI ?_
    | with_reducible refine rd_eqS ?_
    | with_reducible refine rd_neS ?_
    | with_reducible refine ru_neg ?_
    | with_reducible refine rc_int ?_
    | with_reducible refine rc_intB ?_
    | with_reducible refine rc_abs ?_
    | with_reducible refine rc_max2 ?_
    | with_reducible refine rc_min2 ?_
    | with_reducible refine rc_lenL ?_
    | with_reducible refine rc_lenT ?_
    | with_reducible refine rc_listL ?_
    | with_reducible refine rc_tupL ?_
    | with_reducible refine rc_tupT ?_
    | with_reducible refine e_call ?_
    | with_reducible refine rd_modX ?_
    | with_reducible refine rd_divX ?_
    | with_reducible refine rd_mulX ?_
    | with_reducible refine rd_powX ?_
    | with_reducible refine rd_neNilX ?_
    | with_reducible refine rd_isI ?_
    | with_reducible refine rd_isL ?_
    | with_reducible refine rd_isT ?_
    | with_reducible refine rd_isS ?_
    | with_reducible refine rd_isNn ?_
    | with_reducible refine rd_isNI ?_
    | with_reducible refine rd_isNL ?_
    | with_reducible refine rd_isNT ?_
    | with_reducible refine rd_isNS ?_
    | with_reducible refine rd_isNNn ?_
    | with_reducible refine rc_allX ?_
    | with_reducible refine rc_anyX ?_
    | with_reducible refine t_yes ?_
    | with_reducible refine o_none ?_
    | with_reducible refine o_some ?_
    | with_reducible refine i_rng1 ?_
    | with_reducible refine i_rng2 ?_
    | with_reducible refine i_zip ?_
    | with_reducible refine e_fld ?_
    | with_reducible refine e_tup ?_
    | with_reducible refine e_lst ?_
    | with_reducible refine rd_is rfl ?_ | with_reducible refine rd_isN rfl ?_
    | ((with_reducible refine rc_isiBX ?_); refine ⟨_, rfl, _, rfl, ?_⟩)
    | ((with_reducible refine e_isi2X ?_))
    | with_reducible refine Or.inl ⟨_, rfl, ?_⟩ | with_reducible refine Or.inr ⟨_, rfl, ?_⟩
    | with_reducible refine ⟨_, rfl, ?_⟩ | with_reducible refine ⟨rfl, ?_⟩ | with_reducible refine ⟨_, _, rfl, ?_⟩ | with_reducible refine ⟨_, _, _, rfl, ?_⟩ | with_reducible refine ⟨_, _, rfl, rfl, ?_⟩ | with_reducible refine ⟨fun _ => ?_, fun _ => ?_⟩ | with_reducible refine fun (_ : _ = true) => ?_ | with_reducible exact rfl | with_reducible refine ⟨(by simp : List.length _ ≤ 100000), ?_⟩ | with_reducible refine ⟨by omega, ?_⟩ | with_reducible refine ⟨by decide, ?_⟩ | with_reducible refine ⟨Int.ediv_nonneg (by omega) (by omega), ?_⟩ | fail)
  refine ⟨_, _, g_tup (gs_cons g_name (gs_cons g_name (gs_cons g_name (gs_cons g_name gs_nil)))) rfl, ?_⟩
  repeat' (first
    | exact absurd ‹false = true› (by decide) | exact absurd ‹true = false› (by decide)
    | ((with_reducible refine e_fldX ?_); refine ⟨_, _, _, rfl, T, by decide +kernel, _, rfl, ?_⟩)
    | ((with_reducible refine s_cellX ?_); refine ⟨_, rfl, rfl, _, rfl, fun _ => ?_, ?_⟩)
    | ((with_reducible refine e_pen2X ?_); refine ⟨_, rfl, rfl, fun _ _ => ?_⟩)
    | ((with_reducible refine e_pen1X ?_); refine ⟨_, rfl, rfl, fun _ _ _ => ?_⟩)
    | ((with_reducible refine e_pen0X ?_); refine ⟨_, rfl, rfl, fun _ _ => ?_⟩)
    | ((with_reducible refine s_pen2X ?_); refine ⟨_, rfl, rfl, ?_⟩)
    | ((with_reducible refine s_pen1X ?_); refine ⟨_, rfl, rfl, ?_⟩)
    | ((with_reducible refine e_varX ?_); refine ⟨_, rfl, rfl, ?_⟩)
    | ((with_reducible refine e_slLV ?_); refine ⟨_, rfl, ?_⟩)
    | ((with_reducible refine e_slTV ?_); refine ⟨_, rfl, ?_⟩)
    | ((with_reducible refine i_listV ?_); refine ⟨_, rfl, ?_⟩)
    | ((with_reducible refine i_tupV ?_); refine ⟨_, rfl, ?_⟩)
    | with_reducible refine rd_ixIntsX ⟨⟨?_, ?_⟩, fun _ _ _ => ?_⟩
    | ((with_reducible refine rd_ixLX ?_); refine ⟨_, rfl, ?_⟩)
    | ((with_reducible refine rd_ixTX ?_); refine ⟨_, rfl, ?_⟩)
    | with_reducible refine s_seq ?_
    | with_reducible refine s_if ?_
    | with_reducible refine s_ret ?_
    | with_reducible refine s_set ?_
    | with_reducible refine s_par ?_
    | with_reducible refine s_next ?_
    | with_reducible refine s_retN ?_
    | with_reducible refine s_drop ?_
    | with_reducible refine e_int ?_
    | with_reducible refine e_str ?_
    | with_reducible refine e_bl ?_
    | with_reducible refine e_non ?_
    | with_reducible refine e_raw ?_
    | with_reducible refine e_op ?_
    | with_reducible refine e_un ?_
    | with_reducible refine e_cb ?_
    | with_reducible refine a_cons ?_
    | with_reducible refine a_nil ?_
    | with_reducible refine t_test ?_
    | with_reducible refine t_B ?_
    | with_reducible refine t_and ?_
    | with_reducible refine t_or ?_
    | with_reducible refine t_not ?_
    | with_reducible refine e_if ?_
    | with_reducible refine e_andV ?_
    | with_reducible refine e_orV ?_
    | with_reducible refine e_notV ?_
    | with_reducible refine e_chain ?_
    | with_reducible refine e_chain3 ?_
    | with_reducible refine rd_addI ?_
    | with_reducible refine rd_sub ?_
    | with_reducible refine rd_lt ?_
    | with_reducible refine rd_le ?_
    | with_reducible refine rd_gt ?_
    | with_reducible refine rd_ge ?_
    | with_reducible refine rd_eqI ?_
    | with_reducible refine rd_neI ?_
    | with_reducible refine rd_eqS ?_
    | with_reducible refine rd_neS ?_
    | with_reducible refine ru_neg ?_
    | with_reducible refine rc_int ?_
    | with_reducible refine rc_intB ?_
    | with_reducible refine rc_abs ?_
    | with_reducible refine rc_max2 ?_
    | with_reducible refine rc_min2 ?_
    | with_reducible refine rc_lenL ?_
    | with_reducible refine rc_lenT ?_
    | with_reducible refine rc_listL ?_
    | with_reducible refine rc_tupL ?_
    | with_reducible refine rc_tupT ?_
    | with_reducible refine e_call ?_
    | with_reducible refine rd_modX ?_
    | with_reducible refine rd_divX ?_
    | with_reducible refine rd_mulX ?_
    | with_reducible refine rd_powX ?_
    | with_reducible refine rd_neNilX ?_
    | with_reducible refine rd_isI ?_
    | with_reducible refine rd_isL ?_
    | with_reducible refine rd_isT ?_
    | with_reducible refine rd_isS ?_
    | with_reducible refine rd_isNn ?_
    | with_reducible refine rd_isNI ?_
    | with_reducible refine rd_isNL ?_
    | with_reducible refine rd_isNT ?_
    | with_reducible refine rd_isNS ?_
    | with_reducible refine rd_isNNn ?_
    | with_reducible refine rc_allX ?_
    | with_reducible refine rc_anyX ?_
    | with_reducible refine t_yes ?_
    | with_reducible refine o_none ?_
    | with_reducible refine o_some ?_
    | with_reducible refine i_rng1 ?_
    | with_reducible refine i_rng2 ?_
    | with_reducible refine i_zip ?_
    | with_reducible refine e_fld ?_
    | with_reducible refine e_tup ?_
    | with_reducible refine e_lst ?_
    | with_reducible refine rd_is rfl ?_ | with_reducible refine rd_isN rfl ?_
    | ((with_reducible refine rc_isiBX ?_); refine ⟨_, rfl, _, rfl, ?_⟩)
    | ((with_reducible refine e_isi2X ?_))
    | with_reducible refine Or.inl ⟨_, rfl, ?_⟩ | with_reducible refine Or.inr ⟨_, rfl, ?_⟩
    | with_reducible refine ⟨_, rfl, ?_⟩ | with_reducible refine ⟨rfl, ?_⟩ | with_reducible refine ⟨_, _, rfl, ?_⟩ | with_reducible refine ⟨_, _, _, rfl, ?_⟩ | with_reducible refine ⟨_, _, rfl, rfl, ?_⟩ | with_reducible refine ⟨fun _ => ?_, fun _ => ?_⟩ | with_reducible refine fun (_ : _ = true) => ?_ | with_reducible exact rfl | with_reducible refine ⟨(by simp : List.length _ ≤ 100000), ?_⟩ | with_reducible refine ⟨by omega, ?_⟩ | with_reducible refine ⟨by decide, ?_⟩ | with_reducible refine ⟨Int.ediv_nonneg (by omega) (by omega), ?_⟩ | fail)
  all_goals first
    | exact kup_of hk
    | (exfalso; simp only [decide_eq_true_eq, decide_eq_false_iff_not, Bool.not_eq_true', Bool.not_eq_false', Bool.not_true, Bool.not_false] at *; omega)
    | (simp only [decide_eq_true_eq, decide_eq_false_iff_not, Bool.not_eq_true', Bool.not_eq_false', Bool.not_true, Bool.not_false] at *; refine kup_of ?_; refine Eq.mp (congrArg (fun z => k (D.bl z) n) (decide_eq_true ?_).symm) hk; omega)
theorem w_asked_between (T : ClT K CQ QN) (h : betweenSp CQ w es n k) : WpS K w (r_asked_between K) (dstart ["question", "start", "stop", "low", "high", "moment"] es) n { nx := fun _ n' => kup k .non n', rt := kup k } := by
  obtain ⟨kind, num, st, sp, am, a, b, rfl, hz, hk⟩ := h
  unfold r_asked_between
  refine s_seq (s_asg (e_tup ?_))
  cases am with
  | none =>
    repeat' (first
    | exact absurd ‹false = true› (by decide) | exact absurd ‹true = false› (by decide)
    | ((with_reducible refine e_fldX ?_); refine ⟨_, _, _, rfl, T, by decide +kernel, _, rfl, ?_⟩)
    | ((with_reducible refine s_cellX ?_); refine ⟨_, rfl, rfl, _, rfl, fun _ => ?_, ?_⟩)
    | ((with_reducible refine e_pen2X ?_); refine ⟨_, rfl, rfl, fun _ _ => ?_⟩)
    | ((with_reducible refine e_pen1X ?_); refine ⟨_, rfl, rfl, fun _ _ _ => ?_⟩)
    | ((with_reducible refine e_pen0X ?_); refine ⟨_, rfl, rfl, fun _ _ => ?_⟩)
    | ((with_reducible refine s_pen2X ?_); refine ⟨_, rfl, rfl, ?_⟩)
    | ((with_reducible refine s_pen1X ?_); refine ⟨_, rfl, rfl, ?_⟩)
    | ((with_reducible refine e_varX ?_); refine ⟨_, rfl, rfl, ?_⟩)
    | ((with_reducible refine e_slLV ?_); refine ⟨_, rfl, ?_⟩)
    | ((with_reducible refine e_slTV ?_); refine ⟨_, rfl, ?_⟩)
    | ((with_reducible refine i_listV ?_); refine ⟨_, rfl, ?_⟩)
    | ((with_reducible refine i_tupV ?_); refine ⟨_, rfl, ?_⟩)
    | with_reducible refine rd_ixIntsX ⟨⟨?_, ?_⟩, fun _ _ _ => ?_⟩
    | ((with_reducible refine rd_ixLX ?_); refine ⟨_, rfl, ?_⟩)
    | ((with_reducible refine rd_ixTX ?_); refine ⟨_, rfl, ?_⟩)
    | with_reducible refine s_seq ?_
    | with_reducible refine s_if ?_
    | with_reducible refine s_ret ?_
    | with_reducible refine s_set ?_
    | with_reducible refine s_par ?_
    | with_reducible refine s_next ?_
    | with_reducible refine s_retN ?_
    | with_reducible refine s_drop ?_
    | with_reducible refine e_int ?_
    | with_reducible refine e_str ?_
    | with_reducible refine e_bl ?_
    | with_reducible refine e_non ?_
    | with_reducible refine e_raw ?_
    | with_reducible refine e_op ?_
    | with_reducible refine e_un ?_
    | with_reducible refine e_cb ?_
    | with_reducible refine a_cons ?_
    | with_reducible refine a_nil ?_
    | with_reducible refine t_test ?_
    | with_reducible refine t_B ?_
    | with_reducible refine t_and ?_
    | with_reducible refine t_or ?_
    | with_reducible refine t_not ?_
    | with_reducible refine e_if ?_
    | with_reducible refine e_andV ?_
    | with_reducible refine e_orV ?_
    | with_reducible refine e_notV ?_
    | with_reducible refine e_chain ?_
    | with_reducible refine e_chain3 ?_
    | with_reducible refine rd_addI ?_
    | with_reducible refine rd_sub ?_
    | with_reducible refine rd_lt ?_
    | with_reducible refine rd_le ?_
    | with_reducible refine rd_gt ?_
    | with_reducible refine rd_ge ?_
    | with_reducible refine rd_eqI ?_
    | with_reducible refine rd_neI ?_
    | with_reducible refine rd_eqS ?_
    | with_reducible refine rd_neS ?_
    | with_reducible refine ru_neg ?_
    | with_reducible refine rc_int ?_
    | with_reducible refine rc_intB ?_
    | with_reducible refine rc_abs ?_
    | with_reducible refine rc_max2 ?_
    | with_reducible refine rc_min2 ?_
    | with_reducible refine rc_lenL ?_
    | with_reducible refine rc_lenT ?_
    | with_reducible refine rc_listL ?_
    | with_reducible refine rc_tupL ?_
    | with_reducible refine rc_tupT ?_
    | with_reducible refine e_call ?_
    | with_reducible refine rd_modX ?_
    | with_reducible refine rd_divX ?_
    | with_reducible refine rd_mulX ?_
    | with_reducible refine rd_powX ?_
    | with_reducible refine rd_neNilX ?_
    | with_reducible refine rd_isI ?_
    | with_reducible refine rd_isL ?_
    | with_reducible refine rd_isT ?_
    | with_reducible refine rd_isS ?_
    | with_reducible refine rd_isNn ?_
    | with_reducible refine rd_isNI ?_
    | with_reducible refine rd_isNL ?_
    | with_reducible refine rd_isNT ?_
    | with_reducible refine rd_isNS ?_
    | with_reducible refine rd_isNNn ?_
    | with_reducible refine rc_allX ?_
    | with_reducible refine rc_anyX ?_
    | with_reducible refine t_yes ?_
    | with_reducible refine o_none ?_
    | with_reducible refine o_some ?_
    | with_reducible refine i_rng1 ?_
    | with_reducible refine i_rng2 ?_
    | with_reducible refine i_zip ?_
    | with_reducible refine e_fld ?_
    | with_reducible refine e_tup ?_
    | with_reducible refine e_lst ?_
    | with_reducible refine rd_is rfl ?_ | with_reducible refine rd_isN rfl ?_
    | ((with_reducible refine rc_isiBX ?_); refine ⟨_, rfl, _, rfl, ?_⟩)
    | ((with_reducible refine e_isi2X ?_))
    | with_reducible refine Or.inl ⟨_, rfl, ?_⟩ | with_reducible refine Or.inr ⟨_, rfl, ?_⟩
    | with_reducible refine ⟨_, rfl, ?_⟩ | with_reducible refine ⟨rfl, ?_⟩ | with_reducible refine ⟨_, _, rfl, ?_⟩ | with_reducible refine ⟨_, _, _, rfl, ?_⟩ | with_reducible refine ⟨_, _, rfl, rfl, ?_⟩ | with_reducible refine ⟨fun _ => ?_, fun _ => ?_⟩ | with_reducible refine fun (_ : _ = true) => ?_ | with_reducible exact rfl | with_reducible refine ⟨(by simp : List.length _ ≤ 100000), ?_⟩ | with_reducible refine ⟨by omega, ?_⟩ | with_reducible refine ⟨by decide, ?_⟩ | with_reducible refine ⟨Int.ediv_nonneg (by omega) (by omega), ?_⟩ | fail)
    refine ⟨_, _, g_tup (gs_cons g_name (gs_cons g_name gs_nil)) rfl, ?_⟩
    repeat' (first
    | exact absurd ‹false = true› (by decide) | exact absurd ‹true = false› (by decide)
    | ((with_reducible refine e_fldX ?_); refine ⟨_, _, _, rfl, T, by decide +kernel, _, rfl, ?_⟩)
    | ((with_reducible refine s_cellX ?_); refine ⟨_, rfl, rfl, _, rfl, fun _ => ?_, ?_⟩)
    | ((with_reducible refine e_pen2X ?_); refine ⟨_, rfl, rfl, fun _ _ => ?_⟩)
    | ((with_reducible refine e_pen1X ?_); refine ⟨_, rfl, rfl, fun _ _ _ => ?_⟩)
    | ((with_reducible refine e_pen0X ?_); refine ⟨_, rfl, rfl, fun _ _ => ?_⟩)
    | ((with_reducible refine s_pen2X ?_); refine ⟨_, rfl, rfl, ?_⟩)
    | ((with_reducible refine s_pen1X ?_); refine ⟨_, rfl, rfl, ?_⟩)
    | ((with_reducible refine e_varX ?_); refine ⟨_, rfl, rfl, ?_⟩)
    | ((with_reducible refine e_slLV ?_); refine ⟨_, rfl, ?_⟩)
    | ((with_reducible refine e_slTV ?_); refine ⟨_, rfl, ?_⟩)
    | ((with_reducible refine i_listV ?_); refine ⟨_, rfl, ?_⟩)
    | ((with_reducible refine i_tupV ?_); refine ⟨_, rfl, ?_⟩)
    | with_reducible refine rd_ixIntsX ⟨⟨?_, ?_⟩, fun _ _ _ => ?_⟩
    | ((with_reducible refine rd_ixLX ?_); refine ⟨_, rfl, ?_⟩)
    | ((with_reducible refine rd_ixTX ?_); refine ⟨_, rfl, ?_⟩)
    | with_reducible refine s_seq ?_
    | with_reducible refine s_if ?_
    | with_reducible refine s_ret ?_
    | with_reducible refine s_set ?_
    | with_reducible refine s_par ?_
    | with_reducible refine s_next ?_
    | with_reducible refine s_retN ?_
    | with_reducible refine s_drop ?_
    | with_reducible refine e_int ?_
    | with_reducible refine e_str ?_
    | with_reducible refine e_bl ?_
    | with_reducible refine e_non ?_
    | with_reducible refine e_raw ?_
    | with_reducible refine e_op ?_
    | with_reducible refine e_un ?_
    | with_reducible refine e_cb ?_
    | with_reducible refine a_cons ?_
    | with_reducible refine a_nil ?_
    | with_reducible refine t_test ?_
    | with_reducible refine t_B ?_
    | with_reducible refine t_and ?_
    | with_reducible refine t_or ?_
    | with_reducible refine t_not ?_
    | with_reducible refine e_if ?_
    | with_reducible refine e_andV ?_
    | with_reducible refine e_orV ?_
    | with_reducible refine e_notV ?_
    | with_reducible refine e_chain ?_
    | with_reducible refine e_chain3 ?_
    | with_reducible refine rd_addI ?_
    | with_reducible refine rd_sub ?_
    | with_reducible refine rd_lt ?_
    | with_reducible refine rd_le ?_
    | with_reducible refine rd_gt ?_
    | with_reducible refine rd_ge ?_
    | with_reducible refine rd_eqI ?_
    | with_reducible refine rd_neI ?_
    | with_reducible refine rd_eqS ?_
    | with_reducible refine rd_neS ?_
    | with_reducible refine ru_neg ?_
    | with_reducible refine rc_int ?_
    | with_reducible refine rc_intB ?_
    | with_reducible refine rc_abs ?_
    | with_reducible refine rc_max2 ?_
    | with_reducible refine rc_min2 ?_
    | with_reducible refine rc_lenL ?_
    | with_reducible refine rc_lenT ?_
    | with_reducible refine rc_listL ?_
    | with_reducible refine rc_tupL ?_
    | with_reducible refine rc_tupT ?_
    | with_reducible refine e_call ?_
    | with_reducible refine rd_modX ?_
    | with_reducible refine rd_divX ?_
    | with_reducible refine rd_mulX ?_
    | with_reducible refine rd_powX ?_
    | with_reducible refine rd_neNilX ?_
    | with_reducible refine rd_isI ?_
    | with_reducible refine rd_isL ?_
    | with_reducible refine rd_isT ?_
    | with_reducible refine rd_isS ?_
    | with_reducible refine rd_isNn ?_
    | with_reducible refine rd_isNI ?_
    | with_reducible refine rd_isNL ?_
    | with_reducible refine rd_isNT ?_
    | with_reducible refine rd_isNS ?_
    | with_reducible refine rd_isNNn ?_
    | with_reducible refine rc_allX ?_
    | with_reducible refine rc_anyX ?_
    | with_reducible refine t_yes ?_
    | with_reducible refine o_none ?_
    | with_reducible refine o_some ?_
    | with_reducible refine i_rng1 ?_
    | with_reducible refine i_rng2 ?_
    | with_reducible refine i_zip ?_
    | with_reducible refine e_fld ?_
    | with_reducible refine e_tup ?_
    | with_reducible refine e_lst ?_
    | with_reducible refine rd_is rfl ?_ | with_reducible refine rd_isN rfl ?_
    | ((with_reducible refine rc_isiBX ?_); refine ⟨_, rfl, _, rfl, ?_⟩)
    | ((with_reducible refine e_isi2X ?_))
    | with_reducible refine Or.inl ⟨_, rfl, ?_⟩ | with_reducible refine Or.inr ⟨_, rfl, ?_⟩
    | with_reducible refine ⟨_, rfl, ?_⟩ | with_reducible refine ⟨rfl, ?_⟩ | with_reducible refine ⟨_, _, rfl, ?_⟩ | with_reducible refine ⟨_, _, _, rfl, ?_⟩ | with_reducible refine ⟨_, _, rfl, rfl, ?_⟩ | with_reducible refine ⟨fun _ => ?_, fun _ => ?_⟩ | with_reducible refine fun (_ : _ = true) => ?_ | with_reducible exact rfl | with_reducible refine ⟨(by simp : List.length _ ≤ 100000), ?_⟩ | with_reducible refine ⟨by omega, ?_⟩ | with_reducible refine ⟨by decide, ?_⟩ | with_reducible refine ⟨Int.ediv_nonneg (by omega) (by omega), ?_⟩ | fail)
    all_goals exact kup_of hk
  | some ns =>
    repeat' (first
    | exact absurd ‹false = true› (by decide) | exact absurd ‹true = false› (by decide)
    | ((with_reducible refine e_fldX ?_); refine ⟨_, _, _, rfl, T, by decide +kernel, _, rfl, ?_⟩)
    | ((with_reducible refine s_cellX ?_); refine ⟨_, rfl, rfl, _, rfl, fun _ => ?_, ?_⟩)
    | ((with_reducible refine e_pen2X ?_); refine ⟨_, rfl, rfl, fun _ _ => ?_⟩)
    | ((with_reducible refine e_pen1X ?_); refine ⟨_, rfl, rfl, fun _ _ _ => ?_⟩)
    | ((with_reducible refine e_pen0X ?_); refine ⟨_, rfl, rfl, fun _ _ => ?_⟩)
    | ((with_reducible refine s_pen2X ?_); refine ⟨_, rfl, rfl, ?_⟩)
    | ((with_reducible refine s_pen1X ?_); refine ⟨_, rfl, rfl, ?_⟩)
    | ((with_reducible refine e_varX ?_); refine ⟨_, rfl, rfl, ?_⟩)
    | ((with_reducible refine e_slLV ?_); refine ⟨_, rfl, ?_⟩)
    | ((with_reducible refine e_slTV ?_); refine ⟨_, rfl, ?_⟩)
    | ((with_reducible refine i_listV ?_); refine ⟨_, rfl, ?_⟩)
    | ((with_reducible refine i_tupV ?_); refine ⟨_, rfl, ?_⟩)
    | with_reducible refine rd_ixIntsX ⟨⟨?_, ?_⟩, fun _ _ _ => ?_⟩
    | ((with_reducible refine rd_ixLX ?_); refine ⟨_, rfl, ?_⟩)
    | ((with_reducible refine rd_ixTX ?_); refine ⟨_, rfl, ?_⟩)
    | with_reducible refine s_seq ?_
    | with_reducible refine s_if ?_
    | with_reducible refine s_ret ?_
    | with_reducible refine s_set ?_
    | with_reducible refine s_par ?_
    | with_reducible refine s_next ?_
    | with_reducible refine s_retN ?_
    | with_reducible refine s_drop ?_
    | with_reducible refine e_int ?_
    | with_reducible refine e_str ?_
    | with_reducible refine e_bl ?_
    | with_reducible refine e_non ?_
    | with_reducible refine e_raw ?_
    | with_reducible refine e_op ?_
    | with_reducible refine e_un ?_
    | with_reducible refine e_cb ?_
    | with_reducible refine a_cons ?_
    | with_reducible refine a_nil ?_
    | with_reducible refine t_test ?_
    | with_reducible refine t_B ?_
    | with_reducible refine t_and ?_
    | with_reducible refine t_or ?_
    | with_reducible refine t_not ?_
    | with_reducible refine e_if ?_
    | with_reducible refine e_andV ?_
    | with_reducible refine e_orV ?_
    | with_reducible refine e_notV ?_
    | with_reducible refine e_chain ?_
    | with_reducible refine e_chain3 ?_
    | with_reducible refine rd_addI ?_
    | with_reducible refine rd_sub ?_
    | with_reducible refine rd_lt ?_
    | with_reducible refine rd_le ?_
    | with_reducible refine rd_gt ?_
    | with_reducible refine rd_ge ?_
    | with_reducible refine rd_eqI ?_
    | with_reducible refine rd_neI ?_
    | with_reducible refine rd_eqS ?_
    | with_reducible refine rd_neS ?_
    | with_reducible refine ru_neg ?_
    | with_reducible refine rc_int ?_
    | with_reducible refine rc_intB ?_
    | with_reducible refine rc_abs ?_
    | with_reducible refine rc_max2 ?_
    | with_reducible refine rc_min2 ?_
    | with_reducible refine rc_lenL ?_
    | with_reducible refine rc_lenT ?_
    | with_reducible refine rc_listL ?_
    | with_reducible refine rc_tupL ?_
    | with_reducible refine rc_tupT ?_
    | with_reducible refine e_call ?_
    | with_reducible refine rd_modX ?_
    | with_reducible refine rd_divX ?_
    | with_reducible refine rd_mulX ?_
    | with_reducible refine rd_powX ?_
    | with_reducible refine rd_neNilX ?_
    | with_reducible refine rd_isI ?_
    | with_reducible refine rd_isL ?_
    | with_reducible refine rd_isT ?_
    | with_reducible refine rd_isS ?_
    | with_reducible refine rd_isNn ?_
    | with_reducible refine rd_isNI ?_
    | with_reducible refine rd_isNL ?_
    | with_reducible refine rd_isNT ?_
    | with_reducible refine rd_isNS ?_
    | with_reducible refine rd_isNNn ?_
    | with_reducible refine rc_allX ?_
    | with_reducible refine rc_anyX ?_
    | with_reducible refine t_yes ?_
    | with_reducible refine o_none ?_
    | with_reducible refine o_some ?_
    | with_reducible refine i_rng1 ?_
    | with_reducible refine i_rng2 ?_
    | with_reducible refine i_zip ?_
    | with_reducible refine e_fld ?_
    | with_reducible refine e_tup ?_
    | with_reducible refine e_lst ?_
    | with_reducible refine rd_is rfl ?_ | with_reducible refine rd_isN rfl ?_
    | ((with_reducible refine rc_isiBX ?_); refine ⟨_, rfl, _, rfl, ?_⟩)
    | ((with_reducible refine e_isi2X ?_))
    | with_reducible refine Or.inl ⟨_, rfl, ?_⟩ | with_reducible refine Or.inr ⟨_, rfl, ?_⟩
    | with_reducible refine ⟨_, rfl, ?_⟩ | with_reducible refine ⟨rfl, ?_⟩ | with_reducible refine ⟨_, _, rfl, ?_⟩ | with_reducible refine ⟨_, _, _, rfl, ?_⟩ | with_reducible refine ⟨_, _, rfl, rfl, ?_⟩ | with_reducible refine ⟨fun _ => ?_, fun _ => ?_⟩ | with_reducible refine fun (_ : _ = true) => ?_ | with_reducible exact rfl | with_reducible refine ⟨(by simp : List.length _ ≤ 100000), ?_⟩ | with_reducible refine ⟨by omega, ?_⟩ | with_reducible refine ⟨by decide, ?_⟩ | with_reducible refine ⟨Int.ediv_nonneg (by omega) (by omega), ?_⟩ | fail)
    refine ⟨_, _, g_tup (gs_cons g_name (gs_cons g_name gs_nil)) rfl, ?_⟩
    have hz' := hz ns rfl
    repeat' (first
    | exact absurd ‹false = true› (by decide) | exact absurd ‹true = false› (by decide)
    | ((with_reducible refine e_fldX ?_); refine ⟨_, _, _, rfl, T, by decide +kernel, _, rfl, ?_⟩)
    | with_reducible refine e_lcIX ⟨fun m => decide (max st a ≤ m) && decide (m < min sp b), fun z => .int z, ?_⟩
    | with_reducible refine i_tup ?_
    | refine ⟨ns.map .int, rfl, ns, rfl, hz', fun _ _ => ?_, ?_⟩
    | refine ⟨by first | (simp_all; done) | (simp_all; omega), rfl, fun _ => ?_⟩
    | ((with_reducible refine s_cellX ?_); refine ⟨_, rfl, rfl, _, rfl, fun _ => ?_, ?_⟩)
    | ((with_reducible refine e_pen2X ?_); refine ⟨_, rfl, rfl, fun _ _ => ?_⟩)
    | ((with_reducible refine e_pen1X ?_); refine ⟨_, rfl, rfl, fun _ _ _ => ?_⟩)
    | ((with_reducible refine e_pen0X ?_); refine ⟨_, rfl, rfl, fun _ _ => ?_⟩)
    | ((with_reducible refine s_pen2X ?_); refine ⟨_, rfl, rfl, ?_⟩)
    | ((with_reducible refine s_pen1X ?_); refine ⟨_, rfl, rfl, ?_⟩)
    | ((with_reducible refine e_varX ?_); refine ⟨_, rfl, rfl, ?_⟩)
    | ((with_reducible refine e_slLV ?_); refine ⟨_, rfl, ?_⟩)
    | ((with_reducible refine e_slTV ?_); refine ⟨_, rfl, ?_⟩)
    | ((with_reducible refine i_listV ?_); refine ⟨_, rfl, ?_⟩)
    | ((with_reducible refine i_tupV ?_); refine ⟨_, rfl, ?_⟩)
    | with_reducible refine rd_ixIntsX ⟨⟨?_, ?_⟩, fun _ _ _ => ?_⟩
    | ((with_reducible refine rd_ixLX ?_); refine ⟨_, rfl, ?_⟩)
    | ((with_reducible refine rd_ixTX ?_); refine ⟨_, rfl, ?_⟩)
    | with_reducible refine s_seq ?_
    | with_reducible refine s_if ?_
    | with_reducible refine s_ret ?_
    | with_reducible refine s_set ?_
    | with_reducible refine s_par ?_
    | with_reducible refine s_next ?_
    | with_reducible refine s_retN ?_
    | with_reducible refine s_drop ?_
    | with_reducible refine e_int ?_
    | with_reducible refine e_str ?_
    | with_reducible refine e_bl ?_
    | with_reducible refine e_non ?_
    | with_reducible refine e_raw ?_
    | with_reducible refine e_op ?_
    | with_reducible refine e_un ?_
    | with_reducible refine e_cb ?_
    | with_reducible refine a_cons ?_
    | with_reducible refine a_nil ?_
    | with_reducible refine t_test ?_
    | with_reducible refine t_B ?_
    | with_reducible refine t_and ?_
    | with_reducible refine t_or ?_
    | with_reducible refine t_not ?_
    | with_reducible refine e_if ?_
    | with_reducible refine e_andV ?_
    | with_reducible refine e_orV ?_
    | with_reducible refine e_notV ?_
    | with_reducible refine e_chain ?_
    | with_reducible refine e_chain3 ?_
    | with_reducible refine rd_addI ?_
    | with_reducible refine rd_sub ?_
    | with_reducible refine rd_lt ?_
    | with_reducible refine rd_le ?_
    | with_reducible refine rd_gt ?_
    | with_reducible refine rd_ge ?_
    | with_reducible refine rd_eqI ?_
    | with_reducible refine rd_neI ?_
    | with_reducible refine rd_eqS ?_
    | with_reducible refine rd_neS ?_
    | with_reducible refine ru_neg ?_
    | with_reducible refine rc_int ?_
    | with_reducible refine rc_intB ?_
    | with_reducible refine rc_abs ?_
    | with_reducible refine rc_max2 ?_
    | with_reducible refine rc_min2 ?_
    | with_reducible refine rc_lenL ?_
    | with_reducible refine rc_lenT ?_
    | with_reducible refine rc_listL ?_
    | with_reducible refine rc_tupL ?_
    | with_reducible refine rc_tupT ?_
    | with_reducible refine e_call ?_
    | with_reducible refine rd_modX ?_
    | with_reducible refine rd_divX ?_
    | with_reducible refine rd_mulX ?_
    | with_reducible refine rd_powX ?_
    | with_reducible refine rd_neNilX ?_
    | with_reducible refine rd_isI ?_
    | with_reducible refine rd_isL ?_
    | with_reducible refine rd_isT ?_
    | with_reducible refine rd_isS ?_
    | with_reducible refine rd_isNn ?_
    | with_reducible refine rd_isNI ?_
    | with_reducible refine rd_isNL ?_
    | with_reducible refine rd_isNT ?_
    | with_reducible refine rd_isNS ?_
    | with_reducible refine rd_isNNn ?_
    | with_reducible refine rc_allX ?_
    | with_reducible refine rc_anyX ?_
    | with_reducible refine t_yes ?_
    | with_reducible refine o_none ?_
    | with_reducible refine o_some ?_
    | with_reducible refine i_rng1 ?_
    | with_reducible refine i_rng2 ?_
    | with_reducible refine i_zip ?_
    | with_reducible refine e_fld ?_
    | with_reducible refine e_tup ?_
    | with_reducible refine e_lst ?_
    | with_reducible refine rd_is rfl ?_ | with_reducible refine rd_isN rfl ?_
    | ((with_reducible refine rc_isiBX ?_); refine ⟨_, rfl, _, rfl, ?_⟩)
    | ((with_reducible refine e_isi2X ?_))
    | with_reducible refine Or.inl ⟨_, rfl, ?_⟩ | with_reducible refine Or.inr ⟨_, rfl, ?_⟩
    | with_reducible refine ⟨_, rfl, ?_⟩ | with_reducible refine ⟨rfl, ?_⟩ | with_reducible refine ⟨_, _, rfl, ?_⟩ | with_reducible refine ⟨_, _, _, rfl, ?_⟩ | with_reducible refine ⟨_, _, rfl, rfl, ?_⟩ | with_reducible refine ⟨fun _ => ?_, fun _ => ?_⟩ | with_reducible refine fun (_ : _ = true) => ?_ | with_reducible exact rfl | with_reducible refine ⟨(by simp : List.length _ ≤ 100000), ?_⟩ | with_reducible refine ⟨by omega, ?_⟩ | with_reducible refine ⟨by decide, ?_⟩ | with_reducible refine ⟨Int.ediv_nonneg (by omega) (by omega), ?_⟩ | fail)
    all_goals (first | exact kup_of (by simpa [betweenP] using hk) | trace_state)
abbrev ptsSp (CE CQ : Addr) : DSpW := fun w es n k => ∃ b c f l t lo hi kind num st sp am, es = [entryD CE b c f l t lo hi, questionD CQ kind num st sp am] ∧ (∀ ns, am = some ns → ns.length ≤ 100000) ∧ k (.tup [.int (ptsP c f l st sp am).1, .int (ptsP c f l st sp am).2]) n
theorem w_points_asked (TE : ClT K CE EN) (TQ : ClT K CQ QN) (h : ptsSp CE CQ w es n k) : WpS K w (r_points_asked K (toSp K (betweenSp CQ))) (dstart ["entry", "question", "ends", "inner", "asked", "others"] es) n { nx := fun _ n' => kup k .non n', rt := kup k } := by
  obtain ⟨b, c, f, l, t, lo, hi, kind, num, st, sp, am, rfl, hz, hk⟩ := h
  unfold r_points_asked
  repeat' (first
    | exact absurd ‹false = true› (by decide) | exact absurd ‹true = false› (by decide)
    | ((with_reducible refine e_fldX ?_); refine ⟨_, _, _, rfl, TE, by decide +kernel, _, rfl, ?_⟩)
    | refine ⟨kind, num, st, sp, am, _, _, rfl, hz, ?_⟩
    | ((with_reducible refine s_cellX ?_); refine ⟨_, rfl, rfl, _, rfl, fun _ => ?_, ?_⟩)
    | ((with_reducible refine e_pen2X ?_); refine ⟨_, rfl, rfl, fun _ _ => ?_⟩)
    | ((with_reducible refine e_pen1X ?_); refine ⟨_, rfl, rfl, fun _ _ _ => ?_⟩)
    | ((with_reducible refine e_pen0X ?_); refine ⟨_, rfl, rfl, fun _ _ => ?_⟩)
    | ((with_reducible refine s_pen2X ?_); refine ⟨_, rfl, rfl, ?_⟩)
    | ((with_reducible refine s_pen1X ?_); refine ⟨_, rfl, rfl, ?_⟩)
    | ((with_reducible refine e_varX ?_); refine ⟨_, rfl, rfl, ?_⟩)
    | ((with_reducible refine e_slLV ?_); refine ⟨_, rfl, ?_⟩)
    | ((with_reducible refine e_slTV ?_); refine ⟨_, rfl, ?_⟩)
    | ((with_reducible refine i_listV ?_); refine ⟨_, rfl, ?_⟩)
    | ((with_reducible refine i_tupV ?_); refine ⟨_, rfl, ?_⟩)
    | with_reducible refine rd_ixIntsX ⟨⟨?_, ?_⟩, fun _ _ _ => ?_⟩
    | ((with_reducible refine rd_ixLX ?_); refine ⟨_, rfl, ?_⟩)
    | ((with_reducible refine rd_ixTX ?_); refine ⟨_, rfl, ?_⟩)
    | with_reducible refine s_seq ?_
    | with_reducible refine s_if ?_
    | with_reducible refine s_ret ?_
    | with_reducible refine s_set ?_
    | with_reducible refine s_par ?_
    | with_reducible refine s_next ?_
    | with_reducible refine s_retN ?_
    | with_reducible refine s_drop ?_
    | with_reducible refine e_int ?_
    | with_reducible refine e_str ?_
    | with_reducible refine e_bl ?_
    | with_reducible refine e_non ?_
    | with_reducible refine e_raw ?_
    | with_reducible refine e_op ?_
    | with_reducible refine e_un ?_
    | with_reducible refine e_cb ?_
    | with_reducible refine a_cons ?_
    | with_reducible refine a_nil ?_
    | with_reducible refine t_test ?_
    | with_reducible refine t_B ?_
    | with_reducible refine t_and ?_
    | with_reducible refine t_or ?_
    | with_reducible refine t_not ?_
    | with_reducible refine e_if ?_
    | with_reducible refine e_andV ?_
    | with_reducible refine e_orV ?_
    | with_reducible refine e_notV ?_
    | with_reducible refine e_chain ?_
    | with_reducible refine e_chain3 ?_
    | with_reducible refine rd_addI ?_
    | with_reducible refine rd_sub ?_
    | with_reducible refine rd_lt ?_
    | with_reducible refine rd_le ?_
    | with_reducible refine rd_gt ?_
    | with_reducible refine rd_ge ?_
    | with_reducible refine rd_eqI ?_
    | with_reducible refine rd_neI ?_
    | with_reducible refine rd_eqS ?_
    | with_reducible refine rd_neS ?_
    | with_reducible refine ru_neg ?_
    | with_reducible refine rc_int ?_
    | with_reducible refine rc_intB ?_
    | with_reducible refine rc_abs ?_
    | with_reducible refine rc_max2 ?_
    | with_reducible refine rc_min2 ?_
    | with_reducible refine rc_lenL ?_
    | with_reducible refine rc_lenT ?_
    | with_reducible refine rc_listL ?_
    | with_reducible refine rc_tupL ?_
    | with_reducible refine rc_tupT ?_
    | with_reducible refine e_call ?_
    | with_reducible refine rd_modX ?_
    | with_reducible refine rd_divX ?_
    | with_reducible refine rd_mulX ?_
    | with_reducible refine rd_powX ?_
    | with_reducible refine rd_neNilX ?_
    | with_reducible refine rd_isI ?_
    | with_reducible refine rd_isL ?_
    | with_reducible refine rd_isT ?_
    | with_reducible refine rd_isS ?_
    | with_reducible refine rd_isNn ?_
    | with_reducible refine rd_isNI ?_
    | with_reducible refine rd_isNL ?_
    | with_reducible refine rd_isNT ?_
    | with_reducible refine rd_isNS ?_
    | with_reducible refine rd_isNNn ?_
    | with_reducible refine rc_allX ?_
    | with_reducible refine rc_anyX ?_
    | with_reducible refine t_yes ?_
    | with_reducible refine o_none ?_
    | with_reducible refine o_some ?_
    | with_reducible refine i_rng1 ?_
    | with_reducible refine i_rng2 ?_
    | with_reducible refine i_zip ?_
    | with_reducible refine e_fld ?_
    | with_reducible refine e_tup ?_
    | with_reducible refine e_lst ?_
    | with_reducible refine rd_is rfl ?_ | with_reducible refine rd_isN rfl ?_
    | ((with_reducible refine rc_isiBX ?_); refine ⟨_, rfl, _, rfl, ?_⟩)
    | ((with_reducible refine e_isi2X ?_))
    | with_reducible refine Or.inl ⟨_, rfl, ?_⟩ | with_reducible refine Or.inr ⟨_, rfl, ?_⟩
    | with_reducible refine ⟨_, rfl, ?_⟩ | with_reducible refine ⟨rfl, ?_⟩ | with_reducible refine ⟨_, _, rfl, ?_⟩ | with_reducible refine ⟨_, _, _, rfl, ?_⟩ | with_reducible refine ⟨_, _, rfl, rfl, ?_⟩ | with_reducible refine ⟨fun _ => ?_, fun _ => ?_⟩ | with_reducible refine fun (_ : _ = true) => ?_ | with_reducible exact rfl | with_reducible refine ⟨(by simp : List.length _ ≤ 100000), ?_⟩ | with_reducible refine ⟨by omega, ?_⟩ | with_reducible refine ⟨by decide, ?_⟩ | with_reducible refine ⟨Int.ediv_nonneg (by omega) (by omega), ?_⟩ | fail)
  · have hc : c = 1 := of_decide_eq_true (by assumption)
    refine kup_of ?_
    simpa [ptsP, hc] using hk
  · have hc : ¬ c = 1 := of_decide_eq_false (by assumption)
    refine kup_of ?_
    simpa [ptsP, hc] using hk
abbrev needESp (CE : Addr) : DSpW := fun w es n k => ∃ b c f l t lo hi x, es = [entryD CE b c f l t lo hi, x] ∧ Possible b c f l t lo hi ∧ k .non n
theorem w_need_entry (TE : ClT K CE EN) (OE : ObT K CE) (h : needESp CE w es n k) : WpS K w (r_need_entry K CE (toSp K integersSp) (toSp K (possibleSp CE))) (dstart ["value", "part"] es) n { nx := fun _ n' => kup k .non n', rt := kup k } := by
  obtain ⟨b, c, f, l, t, lo, hi, x, rfl, P, hk⟩ := h
  unfold r_need_entry
  repeat' (first
    | exact absurd ‹false = true› (by decide) | exact absurd ‹true = false› (by decide)
    | ((with_reducible refine e_fldX ?_); refine ⟨_, _, _, rfl, TE, by decide +kernel, _, rfl, ?_⟩)
    | refine isi_oo OE (kit_self (by simp)) ?_
    | refine ⟨[b, c, f, l, t, lo, hi], 7, rfl, ?_⟩
    | refine ⟨_, _, _, _, _, _, _, rfl, P, ?_⟩
    | ((with_reducible refine s_cellX ?_); refine ⟨_, rfl, rfl, _, rfl, fun _ => ?_, ?_⟩)
    | ((with_reducible refine e_pen2X ?_); refine ⟨_, rfl, rfl, fun _ _ => ?_⟩)
    | ((with_reducible refine e_pen1X ?_); refine ⟨_, rfl, rfl, fun _ _ _ => ?_⟩)
    | ((with_reducible refine e_pen0X ?_); refine ⟨_, rfl, rfl, fun _ _ => ?_⟩)
    | ((with_reducible refine s_pen2X ?_); refine ⟨_, rfl, rfl, ?_⟩)
    | ((with_reducible refine s_pen1X ?_); refine ⟨_, rfl, rfl, ?_⟩)
    | ((with_reducible refine e_varX ?_); refine ⟨_, rfl, rfl, ?_⟩)
    | ((with_reducible refine e_slLV ?_); refine ⟨_, rfl, ?_⟩)
    | ((with_reducible refine e_slTV ?_); refine ⟨_, rfl, ?_⟩)
    | ((with_reducible refine i_listV ?_); refine ⟨_, rfl, ?_⟩)
    | ((with_reducible refine i_tupV ?_); refine ⟨_, rfl, ?_⟩)
    | with_reducible refine rd_ixIntsX ⟨⟨?_, ?_⟩, fun _ _ _ => ?_⟩
    | ((with_reducible refine rd_ixLX ?_); refine ⟨_, rfl, ?_⟩)
    | ((with_reducible refine rd_ixTX ?_); refine ⟨_, rfl, ?_⟩)
    | with_reducible refine s_seq ?_
    | with_reducible refine s_if ?_
    | with_reducible refine s_ret ?_
    | with_reducible refine s_set ?_
    | with_reducible refine s_par ?_
    | with_reducible refine s_next ?_
    | with_reducible refine s_retN ?_
    | with_reducible refine s_drop ?_
    | with_reducible refine e_int ?_
    | with_reducible refine e_str ?_
    | with_reducible refine e_bl ?_
    | with_reducible refine e_non ?_
    | with_reducible refine e_raw ?_
    | with_reducible refine e_op ?_
    | with_reducible refine e_un ?_
    | with_reducible refine e_cb ?_
    | with_reducible refine a_cons ?_
    | with_reducible refine a_nil ?_
    | with_reducible refine t_test ?_
    | with_reducible refine t_B ?_
    | with_reducible refine t_and ?_
    | with_reducible refine t_or ?_
    | with_reducible refine t_not ?_
    | with_reducible refine e_if ?_
    | with_reducible refine e_andV ?_
    | with_reducible refine e_orV ?_
    | with_reducible refine e_notV ?_
    | with_reducible refine e_chain ?_
    | with_reducible refine e_chain3 ?_
    | with_reducible refine rd_addI ?_
    | with_reducible refine rd_sub ?_
    | with_reducible refine rd_lt ?_
    | with_reducible refine rd_le ?_
    | with_reducible refine rd_gt ?_
    | with_reducible refine rd_ge ?_
    | with_reducible refine rd_eqI ?_
    | with_reducible refine rd_neI ?_
    | with_reducible refine rd_eqS ?_
    | with_reducible refine rd_neS ?_
    | with_reducible refine ru_neg ?_
    | with_reducible refine rc_int ?_
    | with_reducible refine rc_intB ?_
    | with_reducible refine rc_abs ?_
    | with_reducible refine rc_max2 ?_
    | with_reducible refine rc_min2 ?_
    | with_reducible refine rc_lenL ?_
    | with_reducible refine rc_lenT ?_
    | with_reducible refine rc_listL ?_
    | with_reducible refine rc_tupL ?_
    | with_reducible refine rc_tupT ?_
    | with_reducible refine e_call ?_
    | with_reducible refine rd_modX ?_
    | with_reducible refine rd_divX ?_
    | with_reducible refine rd_mulX ?_
    | with_reducible refine rd_powX ?_
    | with_reducible refine rd_neNilX ?_
    | with_reducible refine rd_isI ?_
    | with_reducible refine rd_isL ?_
    | with_reducible refine rd_isT ?_
    | with_reducible refine rd_isS ?_
    | with_reducible refine rd_isNn ?_
    | with_reducible refine rd_isNI ?_
    | with_reducible refine rd_isNL ?_
    | with_reducible refine rd_isNT ?_
    | with_reducible refine rd_isNS ?_
    | with_reducible refine rd_isNNn ?_
    | with_reducible refine rc_allX ?_
    | with_reducible refine rc_anyX ?_
    | with_reducible refine t_yes ?_
    | with_reducible refine o_none ?_
    | with_reducible refine o_some ?_
    | with_reducible refine i_rng1 ?_
    | with_reducible refine i_rng2 ?_
    | with_reducible refine i_zip ?_
    | with_reducible refine e_fld ?_
    | with_reducible refine e_tup ?_
    | with_reducible refine e_lst ?_
    | with_reducible refine rd_is rfl ?_ | with_reducible refine rd_isN rfl ?_
    | ((with_reducible refine rc_isiBX ?_); refine ⟨_, rfl, _, rfl, ?_⟩)
    | ((with_reducible refine e_isi2X ?_))
    | with_reducible refine Or.inl ⟨_, rfl, ?_⟩ | with_reducible refine Or.inr ⟨_, rfl, ?_⟩
    | with_reducible refine ⟨_, rfl, ?_⟩ | with_reducible refine ⟨rfl, ?_⟩ | with_reducible refine ⟨_, _, rfl, ?_⟩ | with_reducible refine ⟨_, _, _, rfl, ?_⟩ | with_reducible refine ⟨_, _, rfl, rfl, ?_⟩ | with_reducible refine ⟨fun _ => ?_, fun _ => ?_⟩ | with_reducible refine fun (_ : _ = true) => ?_ | with_reducible exact rfl | with_reducible refine ⟨(by simp : List.length _ ≤ 100000), ?_⟩ | with_reducible refine ⟨by omega, ?_⟩ | with_reducible refine ⟨by decide, ?_⟩ | with_reducible refine ⟨Int.ediv_nonneg (by omega) (by omega), ?_⟩ | fail)
  all_goals (first | exact kup_of hk | trace_state)
abbrev needQSp (CQ : Addr) : DSpW := fun w es n k => ∃ kind num st sp am, es = [questionD CQ kind num st sp am] ∧ k .non n
theorem w_need_question (OQ : ObT K CQ) (h : needQSp CQ w es n k) : WpS K w (r_need_question K CQ) (dstart ["value"] es) n { nx := fun _ n' => kup k .non n', rt := kup k } := by
  obtain ⟨kind, num, st, sp, am, rfl, hk⟩ := h
  unfold r_need_question
  repeat' (first
    | exact absurd ‹false = true› (by decide) | exact absurd ‹true = false› (by decide)
    | refine isi_oo OQ (kit_self (by simp)) ?_
    | ((with_reducible refine s_cellX ?_); refine ⟨_, rfl, rfl, _, rfl, fun _ => ?_, ?_⟩)
    | ((with_reducible refine e_pen2X ?_); refine ⟨_, rfl, rfl, fun _ _ => ?_⟩)
    | ((with_reducible refine e_pen1X ?_); refine ⟨_, rfl, rfl, fun _ _ _ => ?_⟩)
    | ((with_reducible refine e_pen0X ?_); refine ⟨_, rfl, rfl, fun _ _ => ?_⟩)
    | ((with_reducible refine s_pen2X ?_); refine ⟨_, rfl, rfl, ?_⟩)
    | ((with_reducible refine s_pen1X ?_); refine ⟨_, rfl, rfl, ?_⟩)
    | ((with_reducible refine e_varX ?_); refine ⟨_, rfl, rfl, ?_⟩)
    | ((with_reducible refine e_slLV ?_); refine ⟨_, rfl, ?_⟩)
    | ((with_reducible refine e_slTV ?_); refine ⟨_, rfl, ?_⟩)
    | ((with_reducible refine i_listV ?_); refine ⟨_, rfl, ?_⟩)
    | ((with_reducible refine i_tupV ?_); refine ⟨_, rfl, ?_⟩)
    | with_reducible refine rd_ixIntsX ⟨⟨?_, ?_⟩, fun _ _ _ => ?_⟩
    | ((with_reducible refine rd_ixLX ?_); refine ⟨_, rfl, ?_⟩)
    | ((with_reducible refine rd_ixTX ?_); refine ⟨_, rfl, ?_⟩)
    | with_reducible refine s_seq ?_
    | with_reducible refine s_if ?_
    | with_reducible refine s_ret ?_
    | with_reducible refine s_set ?_
    | with_reducible refine s_par ?_
    | with_reducible refine s_next ?_
    | with_reducible refine s_retN ?_
    | with_reducible refine s_drop ?_
    | with_reducible refine e_int ?_
    | with_reducible refine e_str ?_
    | with_reducible refine e_bl ?_
    | with_reducible refine e_non ?_
    | with_reducible refine e_raw ?_
    | with_reducible refine e_op ?_
    | with_reducible refine e_un ?_
    | with_reducible refine e_cb ?_
    | with_reducible refine a_cons ?_
    | with_reducible refine a_nil ?_
    | with_reducible refine t_test ?_
    | with_reducible refine t_B ?_
    | with_reducible refine t_and ?_
    | with_reducible refine t_or ?_
    | with_reducible refine t_not ?_
    | with_reducible refine e_if ?_
    | with_reducible refine e_andV ?_
    | with_reducible refine e_orV ?_
    | with_reducible refine e_notV ?_
    | with_reducible refine e_chain ?_
    | with_reducible refine e_chain3 ?_
    | with_reducible refine rd_addI ?_
    | with_reducible refine rd_sub ?_
    | with_reducible refine rd_lt ?_
    | with_reducible refine rd_le ?_
    | with_reducible refine rd_gt ?_
    | with_reducible refine rd_ge ?_
    | with_reducible refine rd_eqI ?_
    | with_reducible refine rd_neI ?_
    | with_reducible refine rd_eqS ?_
    | with_reducible refine rd_neS ?_
    | with_reducible refine ru_neg ?_
    | with_reducible refine rc_int ?_
    | with_reducible refine rc_intB ?_
    | with_reducible refine rc_abs ?_
    | with_reducible refine rc_max2 ?_
    | with_reducible refine rc_min2 ?_
    | with_reducible refine rc_lenL ?_
    | with_reducible refine rc_lenT ?_
    | with_reducible refine rc_listL ?_
    | with_reducible refine rc_tupL ?_
    | with_reducible refine rc_tupT ?_
    | with_reducible refine e_call ?_
    | with_reducible refine rd_modX ?_
    | with_reducible refine rd_divX ?_
    | with_reducible refine rd_mulX ?_
    | with_reducible refine rd_powX ?_
    | with_reducible refine rd_neNilX ?_
    | with_reducible refine rd_isI ?_
    | with_reducible refine rd_isL ?_
    | with_reducible refine rd_isT ?_
    | with_reducible refine rd_isS ?_
    | with_reducible refine rd_isNn ?_
    | with_reducible refine rd_isNI ?_
    | with_reducible refine rd_isNL ?_
    | with_reducible refine rd_isNT ?_
    | with_reducible refine rd_isNS ?_
    | with_reducible refine rd_isNNn ?_
    | with_reducible refine rc_allX ?_
    | with_reducible refine rc_anyX ?_
    | with_reducible refine t_yes ?_
    | with_reducible refine o_none ?_
    | with_reducible refine o_some ?_
    | with_reducible refine i_rng1 ?_
    | with_reducible refine i_rng2 ?_
    | with_reducible refine i_zip ?_
    | with_reducible refine e_fld ?_
    | with_reducible refine e_tup ?_
    | with_reducible refine e_lst ?_
    | with_reducible refine rd_is rfl ?_ | with_reducible refine rd_isN rfl ?_
    | ((with_reducible refine rc_isiBX ?_); refine ⟨_, rfl, _, rfl, ?_⟩)
    | ((with_reducible refine e_isi2X ?_))
    | with_reducible refine Or.inl ⟨_, rfl, ?_⟩ | with_reducible refine Or.inr ⟨_, rfl, ?_⟩
    | with_reducible refine ⟨_, rfl, ?_⟩ | with_reducible refine ⟨rfl, ?_⟩ | with_reducible refine ⟨_, _, rfl, ?_⟩ | with_reducible refine ⟨_, _, _, rfl, ?_⟩ | with_reducible refine ⟨_, _, rfl, rfl, ?_⟩ | with_reducible refine ⟨fun _ => ?_, fun _ => ?_⟩ | with_reducible refine fun (_ : _ = true) => ?_ | with_reducible exact rfl | with_reducible refine ⟨(by simp : List.length _ ≤ 100000), ?_⟩ | with_reducible refine ⟨by omega, ?_⟩ | with_reducible refine ⟨by decide, ?_⟩ | with_reducible refine ⟨Int.ediv_nonneg (by omega) (by omega), ?_⟩ | fail)
  all_goals exact kup_of hk
abbrev ptsInSp (CE CQ : Addr) : DSpW := fun w es n k => ∃ b c f l t lo hi kind num st sp am, es = [entryD CE b c f l t lo hi, questionD CQ kind num st sp am] ∧ Possible b c f l t lo hi ∧ (∀ ns, am = some ns → ns.length ≤ 100000) ∧ k (.tup [.int (ptsP c f l st sp am).1, .int (ptsP c f l st sp am).2]) n
theorem w_points_in {V : List V} (hV : V = [.str "entry"]) (h : ptsInSp CE CQ w es n k) : WpS K w (r_points_in K (toSp K (needESp CE)) V (toSp K (needQSp CQ)) (toSp K (ptsSp CE CQ))) (dstart ["entry", "question"] es) n { nx := fun _ n' => kup k .non n', rt := kup k } := by
  obtain ⟨b, c, f, l, t, lo, hi, kind, num, st, sp, am, rfl, P, hz, hk⟩ := h
  subst hV
  unfold r_points_in
  refine s_seq (s_drop (e_callD (des := [.str "entry"]) (.cons (.str _) .nil) ?_))
  repeat' (first
    | exact absurd ‹false = true› (by decide) | exact absurd ‹true = false› (by decide)
    | refine ⟨_, _, _, _, _, _, _, _, rfl, P, ?_⟩
    | refine ⟨_, _, _, _, _, rfl, ?_⟩
    | refine ⟨_, _, _, _, _, _, _, _, _, _, _, _, rfl, hz, ?_⟩
    | ((with_reducible refine s_cellX ?_); refine ⟨_, rfl, rfl, _, rfl, fun _ => ?_, ?_⟩)
    | ((with_reducible refine e_pen2X ?_); refine ⟨_, rfl, rfl, fun _ _ => ?_⟩)
    | ((with_reducible refine e_pen1X ?_); refine ⟨_, rfl, rfl, fun _ _ _ => ?_⟩)
    | ((with_reducible refine e_pen0X ?_); refine ⟨_, rfl, rfl, fun _ _ => ?_⟩)
    | ((with_reducible refine s_pen2X ?_); refine ⟨_, rfl, rfl, ?_⟩)
    | ((with_reducible refine s_pen1X ?_); refine ⟨_, rfl, rfl, ?_⟩)
    | ((with_reducible refine e_varX ?_); refine ⟨_, rfl, rfl, ?_⟩)
    | ((with_reducible refine e_slLV ?_); refine ⟨_, rfl, ?_⟩)
    | ((with_reducible refine e_slTV ?_); refine ⟨_, rfl, ?_⟩)
    | ((with_reducible refine i_listV ?_); refine ⟨_, rfl, ?_⟩)
    | ((with_reducible refine i_tupV ?_); refine ⟨_, rfl, ?_⟩)
    | with_reducible refine rd_ixIntsX ⟨⟨?_, ?_⟩, fun _ _ _ => ?_⟩
    | ((with_reducible refine rd_ixLX ?_); refine ⟨_, rfl, ?_⟩)
    | ((with_reducible refine rd_ixTX ?_); refine ⟨_, rfl, ?_⟩)
    | with_reducible refine s_seq ?_
    | with_reducible refine s_if ?_
    | with_reducible refine s_ret ?_
    | with_reducible refine s_set ?_
    | with_reducible refine s_par ?_
    | with_reducible refine s_next ?_
    | with_reducible refine s_retN ?_
    | with_reducible refine s_drop ?_
    | with_reducible refine e_int ?_
    | with_reducible refine e_str ?_
    | with_reducible refine e_bl ?_
    | with_reducible refine e_non ?_
    | with_reducible refine e_raw ?_
    | with_reducible refine e_op ?_
    | with_reducible refine e_un ?_
    | with_reducible refine e_cb ?_
    | with_reducible refine a_cons ?_
    | with_reducible refine a_nil ?_
    | with_reducible refine t_test ?_
    | with_reducible refine t_B ?_
    | with_reducible refine t_and ?_
    | with_reducible refine t_or ?_
    | with_reducible refine t_not ?_
    | with_reducible refine e_if ?_
    | with_reducible refine e_andV ?_
    | with_reducible refine e_orV ?_
    | with_reducible refine e_notV ?_
    | with_reducible refine e_chain ?_
    | with_reducible refine e_chain3 ?_
    | with_reducible refine rd_addI ?_
    | with_reducible refine rd_sub ?_
    | with_reducible refine rd_lt ?_
    | with_reducible refine rd_le ?_
    | with_reducible refine rd_gt ?_
    | with_reducible refine rd_ge ?_
    | with_reducible refine rd_eqI ?_
    | with_reducible refine rd_neI ?_
    | with_reducible refine rd_eqS ?_
    | with_reducible refine rd_neS ?_
    | with_reducible refine ru_neg ?_
    | with_reducible refine rc_int ?_
    | with_reducible refine rc_intB ?_
    | with_reducible refine rc_abs ?_
    | with_reducible refine rc_max2 ?_
    | with_reducible refine rc_min2 ?_
    | with_reducible refine rc_lenL ?_
    | with_reducible refine rc_lenT ?_
    | with_reducible refine rc_listL ?_
    | with_reducible refine rc_tupL ?_
    | with_reducible refine rc_tupT ?_
    | with_reducible refine e_call ?_
    | with_reducible refine rd_modX ?_
    | with_reducible refine rd_divX ?_
    | with_reducible refine rd_mulX ?_
    | with_reducible refine rd_powX ?_
    | with_reducible refine rd_neNilX ?_
    | with_reducible refine rd_isI ?_
    | with_reducible refine rd_isL ?_
    | with_reducible refine rd_isT ?_
    | with_reducible refine rd_isS ?_
    | with_reducible refine rd_isNn ?_
    | with_reducible refine rd_isNI ?_
    | with_reducible refine rd_isNL ?_
    | with_reducible refine rd_isNT ?_
    | with_reducible refine rd_isNS ?_
    | with_reducible refine rd_isNNn ?_
    | with_reducible refine rc_allX ?_
    | with_reducible refine rc_anyX ?_
    | with_reducible refine t_yes ?_
    | with_reducible refine o_none ?_
    | with_reducible refine o_some ?_
    | with_reducible refine i_rng1 ?_
    | with_reducible refine i_rng2 ?_
    | with_reducible refine i_zip ?_
    | with_reducible refine e_fld ?_
    | with_reducible refine e_tup ?_
    | with_reducible refine e_lst ?_
    | with_reducible refine rd_is rfl ?_ | with_reducible refine rd_isN rfl ?_
    | ((with_reducible refine rc_isiBX ?_); refine ⟨_, rfl, _, rfl, ?_⟩)
    | ((with_reducible refine e_isi2X ?_))
    | with_reducible refine Or.inl ⟨_, rfl, ?_⟩ | with_reducible refine Or.inr ⟨_, rfl, ?_⟩
    | with_reducible refine ⟨_, rfl, ?_⟩ | with_reducible refine ⟨rfl, ?_⟩ | with_reducible refine ⟨_, _, rfl, ?_⟩ | with_reducible refine ⟨_, _, _, rfl, ?_⟩ | with_reducible refine ⟨_, _, rfl, rfl, ?_⟩ | with_reducible refine ⟨fun _ => ?_, fun _ => ?_⟩ | with_reducible refine fun (_ : _ = true) => ?_ | with_reducible exact rfl | with_reducible refine ⟨(by simp : List.length _ ≤ 100000), ?_⟩ | with_reducible refine ⟨by omega, ?_⟩ | with_reducible refine ⟨by decide, ?_⟩ | with_reducible refine ⟨Int.ediv_nonneg (by omega) (by omega), ?_⟩ | fail)
  all_goals exact kup_of hk
end
end K51
set_option Elab.async false
set_option maxRecDepth 100000
set_option maxHeartbeats 4000000
set_option linter.all false
set_option autoImplicit false
namespace K51
open PySem PySem.Spec PyProof.Rows L2 DW
@[reducible] def amL : Option (List Int) → D
  | none => .non
  | some ns => .lst (ns.map .int)
abbrev qT (kind : Str) (num : D) (st sp : Int) (am : Option (List Int)) : D := .tup [.str kind, num, .int st, .int sp, amL am]
abbrev hT (c f l t lo hi : Int) : D := .tup [.int c, .int f, .int l, .int t, .int lo, .int hi]
def inA : Option (List Int) → Int → Bool
  | none, _ => true
  | some ns, m => decide (m ∈ ns)
def askedP (st sp : Int) (am : Option (List Int)) (m : Int) : Bool := decide (st ≤ m) && (decide (m < sp) && inA am m)
abbrev pickSp : DSpW := fun w es n k => ∃ (p : Addr) (l : List D), w = some p ∧ es = [.raw (.ref p), .lst l] ∧ 0 < l.length ∧ l.length < 2 ^ 20 ∧ n < 2 ^ 20 ∧ ∀ d, d ∈ l → k d (n + 1)
structure Hole (since c f l t lo hi : Int) : Prop where
  f0 : since ≤ f
  f1 : f ≤ since + 1
  one : c = 1 → l = f ∧ lo = t ∧ hi = t ∧ -3 ≤ t ∧ t ≤ 3
  more : c ≠ 1 → f + c - 1 ≤ l ∧ l ≤ f + c + 2 ∧ -3 ≤ lo ∧ lo ≤ 0 ∧ lo ≤ hi ∧ hi ≤ lo + 3 ∧ (c - 1) * lo + hi ≤ t ∧ t ≤ (c - 1) * lo + hi + (c - 2) * (hi - lo)
abbrev holeSp : DSpW := fun w es n k => ∃ (p : Addr) (since many : Int), w = some p ∧ es = [.raw (.ref p), .int since, .int many, .int 3] ∧ 0 ≤ since ∧ since ≤ 3 ∧ 1 ≤ many ∧ many ≤ 5 ∧ n < 2 ^ 19 ∧ ∀ f l t lo hi n', Hole since many f l t lo hi → n' ≤ n + 10 → k (hT many f l t lo hi) n'
abbrev askedSp : DSpW := fun w es n k => ∃ kind num st sp am m, es = [qT kind num st sp am, .int m] ∧ k (.bl (askedP st sp am m)) n
section
variable {K : PySem.W.Frag} {w : Option Addr} {n : Nat} {k : Kn} {es : List D} {CE CQ : Addr}
theorem w__law_pick (h : pickSp w es n k) : WpS K w (r__law_pick K (toSp K drawSp)) (dstart ["pen", "some"] es) n { nx := fun _ n' => kup k .non n', rt := kup k } := by
  obtain ⟨p, l, rfl, rfl, h0, h1, hn, hk⟩ := h
  unfold r__law_pick
  repeat' (first
    | exact absurd ‹false = true› (by decide) | exact absurd ‹true = false› (by decide)
    | with_reducible refine rd_ixAnyX ⟨⟨?_, ?_⟩, fun _ _ _ => ?_⟩
    | refine ⟨_, _, rfl, rfl, by omega, by omega, by omega, fun _ _ _ => ?_⟩
    | ((with_reducible refine s_cellX ?_); refine ⟨_, rfl, rfl, _, rfl, fun _ => ?_, ?_⟩)
    | ((with_reducible refine e_pen2X ?_); refine ⟨_, rfl, rfl, fun _ _ => ?_⟩)
    | ((with_reducible refine e_pen1X ?_); refine ⟨_, rfl, rfl, fun _ _ _ => ?_⟩)
    | ((with_reducible refine e_pen0X ?_); refine ⟨_, rfl, rfl, fun _ _ => ?_⟩)
    | ((with_reducible refine s_pen2X ?_); refine ⟨_, rfl, rfl, ?_⟩)
    | ((with_reducible refine s_pen1X ?_); refine ⟨_, rfl, rfl, ?_⟩)
    | ((with_reducible refine e_varX ?_); refine ⟨_, rfl, rfl, ?_⟩)
    | ((with_reducible refine e_slLV ?_); refine ⟨_, rfl, ?_⟩)
    | ((with_reducible refine e_slTV ?_); refine ⟨_, rfl, ?_⟩)
    | ((with_reducible refine i_listV ?_); refine ⟨_, rfl, ?_⟩)
    | ((with_reducible refine i_tupV ?_); refine ⟨_, rfl, ?_⟩)
    | with_reducible refine rd_ixIntsX ⟨⟨?_, ?_⟩, fun _ _ _ => ?_⟩
    | ((with_reducible refine rd_ixLX ?_); refine ⟨_, rfl, ?_⟩)
    | ((with_reducible refine rd_ixTX ?_); refine ⟨_, rfl, ?_⟩)
    | with_reducible refine s_seq ?_
    | with_reducible refine s_if ?_
    | with_reducible refine s_ret ?_
    | with_reducible refine s_set ?_
    | with_reducible refine s_asg ?_
    | with_reducible refine s_par ?_
    | with_reducible refine s_next ?_
    | with_reducible refine s_retN ?_
    | with_reducible refine s_drop ?_
    | with_reducible refine e_int ?_
    | with_reducible refine e_str ?_
    | with_reducible refine e_bl ?_
    | with_reducible refine e_non ?_
    | with_reducible refine e_raw ?_
    | with_reducible refine e_op ?_
    | with_reducible refine e_un ?_
    | with_reducible refine e_cb ?_
    | with_reducible refine a_cons ?_
    | with_reducible refine a_nil ?_
    | with_reducible refine t_test ?_
    | with_reducible refine t_B ?_
    | with_reducible refine t_and ?_
    | with_reducible refine t_or ?_
    | with_reducible refine t_not ?_
    | with_reducible refine e_if ?_
    | with_reducible refine e_andV ?_
    | with_reducible refine e_orV ?_
    | with_reducible refine e_notV ?_
    | with_reducible refine e_chain ?_
    | with_reducible refine e_chain3 ?_
    | with_reducible refine rd_addI ?_
    | with_reducible refine rd_sub ?_
    | with_reducible refine rd_lt ?_
    | with_reducible refine rd_le ?_
    | with_reducible refine rd_gt ?_
    | with_reducible refine rd_ge ?_
    | with_reducible refine rd_eqI ?_
    | with_reducible refine rd_neI ?_
    | with_reducible refine rd_eqS ?_
    | with_reducible refine rd_neS ?_
    | with_reducible refine ru_neg ?_
    | with_reducible refine rc_int ?_
    | with_reducible refine rc_intB ?_
    | with_reducible refine rc_abs ?_
    | with_reducible refine rc_max2 ?_
    | with_reducible refine rc_min2 ?_
    | with_reducible refine rc_lenL ?_
    | with_reducible refine rc_lenT ?_
    | with_reducible refine rc_listL ?_
    | with_reducible refine rc_tupL ?_
    | with_reducible refine rc_tupT ?_
    | with_reducible refine e_call ?_
    | with_reducible refine rd_modX ?_
    | with_reducible refine rd_divX ?_
    | with_reducible refine rd_mulX ?_
    | with_reducible refine rd_powX ?_
    | with_reducible refine rd_neNilX ?_
    | with_reducible refine rd_isI ?_
    | with_reducible refine rd_isL ?_
    | with_reducible refine rd_isT ?_
    | with_reducible refine rd_isS ?_
    | with_reducible refine rd_isNn ?_
    | with_reducible refine rd_isNI ?_
    | with_reducible refine rd_isNL ?_
    | with_reducible refine rd_isNT ?_
    | with_reducible refine rd_isNS ?_
    | with_reducible refine rd_isNNn ?_
    | with_reducible refine rc_allX ?_
    | with_reducible refine rc_anyX ?_
    | with_reducible refine t_yes ?_
    | with_reducible refine rd_inIntsX ?_
    | with_reducible refine o_none ?_
    | with_reducible refine o_some ?_
    | with_reducible refine i_rng1 ?_
    | with_reducible refine i_rng2 ?_
    | with_reducible refine i_zip ?_
    | with_reducible refine e_fld ?_
    | with_reducible refine e_tup ?_
    | with_reducible refine e_lst ?_
    | with_reducible refine rd_is rfl ?_ | with_reducible refine rd_isN rfl ?_
    | ((with_reducible refine rc_isiBX ?_); refine ⟨_, rfl, _, rfl, ?_⟩)
    | ((with_reducible refine e_isi2X ?_))
    | refine ⟨_, _, g_tup (gs_cons g_name (gs_cons g_name gs_nil)) rfl, ?_⟩
    | refine ⟨_, _, g_tup (gs_cons g_name (gs_cons g_name (gs_cons g_name gs_nil))) rfl, ?_⟩
    | refine ⟨_, _, g_tup (gs_cons g_name (gs_cons g_name (gs_cons g_name (gs_cons g_name gs_nil)))) rfl, ?_⟩
    | with_reducible refine Or.inl ⟨_, rfl, ?_⟩ | with_reducible refine Or.inr ⟨_, rfl, ?_⟩
    | with_reducible refine ⟨_, rfl, ?_⟩ | with_reducible refine ⟨rfl, ?_⟩ | with_reducible refine ⟨_, _, rfl, ?_⟩ | with_reducible refine ⟨_, _, _, rfl, ?_⟩ | with_reducible refine ⟨_, _, rfl, rfl, ?_⟩ | with_reducible refine ⟨fun _ => ?_, fun _ => ?_⟩ | with_reducible refine fun (_ : _ = true) => ?_ | with_reducible exact rfl | with_reducible refine ⟨(by simp : List.length _ ≤ 100000), ?_⟩ | with_reducible refine ⟨by omega, ?_⟩ | with_reducible refine ⟨by decide, ?_⟩ | with_reducible refine ⟨Int.ediv_nonneg (by omega) (by omega), ?_⟩ | fail)
  · omega
  · omega
  · exact ⟨n + 1, Nat.le_refl _, hk _ (by assumption)⟩
theorem mul_bd {c e : Int} (h1 : 0 ≤ c) (h2 : c ≤ 3) (h3 : 0 ≤ e) (h4 : e ≤ 3) : 0 ≤ c * e ∧ c * e ≤ 9 := by
  have a := Int.mul_nonneg h1 h3
  have b : c * e ≤ 3 * 3 := Int.mul_le_mul h2 h4 h3 (by decide)
  omega
theorem w__law_hole (h : holeSp w es n k) : WpS K w (r__law_hole K (toSp K drawSp)) (dstart ["pen", "since", "many", "wide", "first", "value", "last", "low", "high", "total"] es) n { nx := fun _ n' => kup k .non n', rt := kup k } := by
  obtain ⟨p, since, many, rfl, rfl, h0, h1, h2, h3, hn, hk⟩ := h
  unfold r__law_hole
  repeat' (first
    | exact absurd ‹false = true› (by decide) | exact absurd ‹true = false› (by decide)
    | refine ⟨_, _, rfl, rfl, by omega, by omega, by omega, fun _ _ _ => ?_⟩
    | ((with_reducible refine s_cellX ?_); refine ⟨_, rfl, rfl, _, rfl, fun _ => ?_, ?_⟩)
    | ((with_reducible refine e_pen2X ?_); refine ⟨_, rfl, rfl, fun _ _ => ?_⟩)
    | ((with_reducible refine e_pen1X ?_); refine ⟨_, rfl, rfl, fun _ _ _ => ?_⟩)
    | ((with_reducible refine e_pen0X ?_); refine ⟨_, rfl, rfl, fun _ _ => ?_⟩)
    | ((with_reducible refine s_pen2X ?_); refine ⟨_, rfl, rfl, ?_⟩)
    | ((with_reducible refine s_pen1X ?_); refine ⟨_, rfl, rfl, ?_⟩)
    | ((with_reducible refine e_varX ?_); refine ⟨_, rfl, rfl, ?_⟩)
    | ((with_reducible refine e_slLV ?_); refine ⟨_, rfl, ?_⟩)
    | ((with_reducible refine e_slTV ?_); refine ⟨_, rfl, ?_⟩)
    | ((with_reducible refine i_listV ?_); refine ⟨_, rfl, ?_⟩)
    | ((with_reducible refine i_tupV ?_); refine ⟨_, rfl, ?_⟩)
    | with_reducible refine rd_ixIntsX ⟨⟨?_, ?_⟩, fun _ _ _ => ?_⟩
    | ((with_reducible refine rd_ixLX ?_); refine ⟨_, rfl, ?_⟩)
    | ((with_reducible refine rd_ixTX ?_); refine ⟨_, rfl, ?_⟩)
    | with_reducible refine s_seq ?_
    | with_reducible refine s_if ?_
    | with_reducible refine s_ret ?_
    | with_reducible refine s_set ?_
    | with_reducible refine s_asg ?_
    | with_reducible refine s_par ?_
    | with_reducible refine s_next ?_
    | with_reducible refine s_retN ?_
    | with_reducible refine s_drop ?_
    | with_reducible refine e_int ?_
    | with_reducible refine e_str ?_
    | with_reducible refine e_bl ?_
    | with_reducible refine e_non ?_
    | with_reducible refine e_raw ?_
    | with_reducible refine e_op ?_
    | with_reducible refine e_un ?_
    | with_reducible refine e_cb ?_
    | with_reducible refine a_cons ?_
    | with_reducible refine a_nil ?_
    | with_reducible refine t_test ?_
    | with_reducible refine t_B ?_
    | with_reducible refine t_and ?_
    | with_reducible refine t_or ?_
    | with_reducible refine t_not ?_
    | with_reducible refine e_if ?_
    | with_reducible refine e_andV ?_
    | with_reducible refine e_orV ?_
    | with_reducible refine e_notV ?_
    | with_reducible refine e_chain ?_
    | with_reducible refine e_chain3 ?_
    | with_reducible refine rd_addI ?_
    | with_reducible refine rd_sub ?_
    | with_reducible refine rd_lt ?_
    | with_reducible refine rd_le ?_
    | with_reducible refine rd_gt ?_
    | with_reducible refine rd_ge ?_
    | with_reducible refine rd_eqI ?_
    | with_reducible refine rd_neI ?_
    | with_reducible refine rd_eqS ?_
    | with_reducible refine rd_neS ?_
    | with_reducible refine ru_neg ?_
    | with_reducible refine rc_int ?_
    | with_reducible refine rc_intB ?_
    | with_reducible refine rc_abs ?_
    | with_reducible refine rc_max2 ?_
    | with_reducible refine rc_min2 ?_
    | with_reducible refine rc_lenL ?_
    | with_reducible refine rc_lenT ?_
    | with_reducible refine rc_listL ?_
    | with_reducible refine rc_tupL ?_
    | with_reducible refine rc_tupT ?_
    | with_reducible refine e_call ?_
    | with_reducible refine rd_modX ?_
    | with_reducible refine rd_divX ?_
    | with_reducible refine rd_mulX ?_
    | with_reducible refine rd_powX ?_
    | with_reducible refine rd_neNilX ?_
    | with_reducible refine rd_isI ?_
    | with_reducible refine rd_isL ?_
    | with_reducible refine rd_isT ?_
    | with_reducible refine rd_isS ?_
    | with_reducible refine rd_isNn ?_
    | with_reducible refine rd_isNI ?_
    | with_reducible refine rd_isNL ?_
    | with_reducible refine rd_isNT ?_
    | with_reducible refine rd_isNS ?_
    | with_reducible refine rd_isNNn ?_
    | with_reducible refine rc_allX ?_
    | with_reducible refine rc_anyX ?_
    | with_reducible refine t_yes ?_
    | with_reducible refine rd_inIntsX ?_
    | with_reducible refine o_none ?_
    | with_reducible refine o_some ?_
    | with_reducible refine i_rng1 ?_
    | with_reducible refine i_rng2 ?_
    | with_reducible refine i_zip ?_
    | with_reducible refine e_fld ?_
    | with_reducible refine e_tup ?_
    | with_reducible refine e_lst ?_
    | with_reducible refine rd_is rfl ?_ | with_reducible refine rd_isN rfl ?_
    | ((with_reducible refine rc_isiBX ?_); refine ⟨_, rfl, _, rfl, ?_⟩)
    | ((with_reducible refine e_isi2X ?_))
    | refine ⟨_, _, g_tup (gs_cons g_name (gs_cons g_name gs_nil)) rfl, ?_⟩
    | refine ⟨_, _, g_tup (gs_cons g_name (gs_cons g_name (gs_cons g_name gs_nil))) rfl, ?_⟩
    | refine ⟨_, _, g_tup (gs_cons g_name (gs_cons g_name (gs_cons g_name (gs_cons g_name gs_nil)))) rfl, ?_⟩
    | with_reducible refine Or.inl ⟨_, rfl, ?_⟩ | with_reducible refine Or.inr ⟨_, rfl, ?_⟩
    | with_reducible refine ⟨_, rfl, ?_⟩ | with_reducible refine ⟨rfl, ?_⟩ | with_reducible refine ⟨_, _, rfl, ?_⟩ | with_reducible refine ⟨_, _, _, rfl, ?_⟩ | with_reducible refine ⟨_, _, rfl, rfl, ?_⟩ | with_reducible refine ⟨fun _ => ?_, fun _ => ?_⟩ | with_reducible refine fun (_ : _ = true) => ?_ | with_reducible exact rfl | with_reducible refine ⟨(by simp : List.length _ ≤ 100000), ?_⟩ | with_reducible refine ⟨by omega, ?_⟩ | with_reducible refine ⟨by decide, ?_⟩ | with_reducible refine ⟨Int.ediv_nonneg (by omega) (by omega), ?_⟩ | fail)
  · obtain rfl : many = 1 := of_decide_eq_true (by assumption)
    exact ⟨_, Nat.le_refl _, hk _ _ _ _ _ _ ⟨by omega, by omega, fun _ => ⟨rfl, rfl, rfl, by omega, by omega⟩, fun z => absurd rfl z⟩ (by omega)⟩
  · rename_i d1 hd1 hd1' hc d2 hd2 hd2' d3 hd3 hd3' d4 hd4 hd4'
    have hc' : ¬ many = 1 := of_decide_eq_false hc
    have hb := mul_bd (c := many - 2) (e := d3 - 3 + d4 - (d3 - 3)) (by omega) (by omega) (by omega) (by omega)
    refine ⟨by omega, by omega, by omega, fun d5 hd5 hd5' => ?_⟩
    repeat' (first
    | exact absurd ‹false = true› (by decide) | exact absurd ‹true = false› (by decide)
    | ((with_reducible refine s_cellX ?_); refine ⟨_, rfl, rfl, _, rfl, fun _ => ?_, ?_⟩)
    | ((with_reducible refine e_pen2X ?_); refine ⟨_, rfl, rfl, fun _ _ => ?_⟩)
    | ((with_reducible refine e_pen1X ?_); refine ⟨_, rfl, rfl, fun _ _ _ => ?_⟩)
    | ((with_reducible refine e_pen0X ?_); refine ⟨_, rfl, rfl, fun _ _ => ?_⟩)
    | ((with_reducible refine s_pen2X ?_); refine ⟨_, rfl, rfl, ?_⟩)
    | ((with_reducible refine s_pen1X ?_); refine ⟨_, rfl, rfl, ?_⟩)
    | ((with_reducible refine e_varX ?_); refine ⟨_, rfl, rfl, ?_⟩)
    | ((with_reducible refine e_slLV ?_); refine ⟨_, rfl, ?_⟩)
    | ((with_reducible refine e_slTV ?_); refine ⟨_, rfl, ?_⟩)
    | ((with_reducible refine i_listV ?_); refine ⟨_, rfl, ?_⟩)
    | ((with_reducible refine i_tupV ?_); refine ⟨_, rfl, ?_⟩)
    | with_reducible refine rd_ixIntsX ⟨⟨?_, ?_⟩, fun _ _ _ => ?_⟩
    | ((with_reducible refine rd_ixLX ?_); refine ⟨_, rfl, ?_⟩)
    | ((with_reducible refine rd_ixTX ?_); refine ⟨_, rfl, ?_⟩)
    | with_reducible refine s_seq ?_
    | with_reducible refine s_if ?_
    | with_reducible refine s_ret ?_
    | with_reducible refine s_set ?_
    | with_reducible refine s_asg ?_
    | with_reducible refine s_par ?_
    | with_reducible refine s_next ?_
    | with_reducible refine s_retN ?_
    | with_reducible refine s_drop ?_
    | with_reducible refine e_int ?_
    | with_reducible refine e_str ?_
    | with_reducible refine e_bl ?_
    | with_reducible refine e_non ?_
    | with_reducible refine e_raw ?_
    | with_reducible refine e_op ?_
    | with_reducible refine e_un ?_
    | with_reducible refine e_cb ?_
    | with_reducible refine a_cons ?_
    | with_reducible refine a_nil ?_
    | with_reducible refine t_test ?_
    | with_reducible refine t_B ?_
    | with_reducible refine t_and ?_
    | with_reducible refine t_or ?_
    | with_reducible refine t_not ?_
    | with_reducible refine e_if ?_
    | with_reducible refine e_andV ?_
    | with_reducible refine e_orV ?_
    | with_reducible refine e_notV ?_
    | with_reducible refine e_chain ?_
    | with_reducible refine e_chain3 ?_
    | with_reducible refine rd_addI ?_
    | with_reducible refine rd_sub ?_
    | with_reducible refine rd_lt ?_
    | with_reducible refine rd_le ?_
    | with_reducible refine rd_gt ?_
    | with_reducible refine rd_ge ?_
    | with_reducible refine rd_eqI ?_
    | with_reducible refine rd_neI ?_
    | with_reducible refine rd_eqS ?_
    | with_reducible refine rd_neS ?_
    | with_reducible refine ru_neg ?_
    | with_reducible refine rc_int ?_
    | with_reducible refine rc_intB ?_
    | with_reducible refine rc_abs ?_
    | with_reducible refine rc_max2 ?_
    | with_reducible refine rc_min2 ?_
    | with_reducible refine rc_lenL ?_
    | with_reducible refine rc_lenT ?_
    | with_reducible refine rc_listL ?_
    | with_reducible refine rc_tupL ?_
    | with_reducible refine rc_tupT ?_
    | with_reducible refine e_call ?_
    | with_reducible refine rd_modX ?_
    | with_reducible refine rd_divX ?_
    | with_reducible refine rd_mulX ?_
    | with_reducible refine rd_powX ?_
    | with_reducible refine rd_neNilX ?_
    | with_reducible refine rd_isI ?_
    | with_reducible refine rd_isL ?_
    | with_reducible refine rd_isT ?_
    | with_reducible refine rd_isS ?_
    | with_reducible refine rd_isNn ?_
    | with_reducible refine rd_isNI ?_
    | with_reducible refine rd_isNL ?_
    | with_reducible refine rd_isNT ?_
    | with_reducible refine rd_isNS ?_
    | with_reducible refine rd_isNNn ?_
    | with_reducible refine rc_allX ?_
    | with_reducible refine rc_anyX ?_
    | with_reducible refine t_yes ?_
    | with_reducible refine rd_inIntsX ?_
    | with_reducible refine o_none ?_
    | with_reducible refine o_some ?_
    | with_reducible refine i_rng1 ?_
    | with_reducible refine i_rng2 ?_
    | with_reducible refine i_zip ?_
    | with_reducible refine e_fld ?_
    | with_reducible refine e_tup ?_
    | with_reducible refine e_lst ?_
    | with_reducible refine rd_is rfl ?_ | with_reducible refine rd_isN rfl ?_
    | ((with_reducible refine rc_isiBX ?_); refine ⟨_, rfl, _, rfl, ?_⟩)
    | ((with_reducible refine e_isi2X ?_))
    | refine ⟨_, _, g_tup (gs_cons g_name (gs_cons g_name gs_nil)) rfl, ?_⟩
    | refine ⟨_, _, g_tup (gs_cons g_name (gs_cons g_name (gs_cons g_name gs_nil))) rfl, ?_⟩
    | refine ⟨_, _, g_tup (gs_cons g_name (gs_cons g_name (gs_cons g_name (gs_cons g_name gs_nil)))) rfl, ?_⟩
    | with_reducible refine Or.inl ⟨_, rfl, ?_⟩ | with_reducible refine Or.inr ⟨_, rfl, ?_⟩
    | with_reducible refine ⟨_, rfl, ?_⟩ | with_reducible refine ⟨rfl, ?_⟩ | with_reducible refine ⟨_, _, rfl, ?_⟩ | with_reducible refine ⟨_, _, _, rfl, ?_⟩ | with_reducible refine ⟨_, _, rfl, rfl, ?_⟩ | with_reducible refine ⟨fun _ => ?_, fun _ => ?_⟩ | with_reducible refine fun (_ : _ = true) => ?_ | with_reducible exact rfl | with_reducible refine ⟨(by simp : List.length _ ≤ 100000), ?_⟩ | with_reducible refine ⟨by omega, ?_⟩ | with_reducible refine ⟨by decide, ?_⟩ | with_reducible refine ⟨Int.ediv_nonneg (by omega) (by omega), ?_⟩ | fail)
    exact ⟨_, Nat.le_refl _, hk _ _ _ _ _ _ ⟨by omega, by omega, fun z => absurd z hc', fun _ => ⟨by omega, by omega, by omega, by omega, by omega, by omega, by omega, by omega⟩⟩ (by omega)⟩
theorem w__law_asked (h : askedSp w es n k) : WpS K w (r__law_asked K) (dstart ["question", "moment"] es) n { nx := fun _ n' => kup k .non n', rt := kup k } := by
  obtain ⟨kind, num, st, sp, am, m, rfl, hk⟩ := h
  unfold r__law_asked
  cases am <;> (
  repeat' (first
    | exact absurd ‹false = true› (by decide) | exact absurd ‹true = false› (by decide)
    | ((with_reducible refine s_cellX ?_); refine ⟨_, rfl, rfl, _, rfl, fun _ => ?_, ?_⟩)
    | ((with_reducible refine e_pen2X ?_); refine ⟨_, rfl, rfl, fun _ _ => ?_⟩)
    | ((with_reducible refine e_pen1X ?_); refine ⟨_, rfl, rfl, fun _ _ _ => ?_⟩)
    | ((with_reducible refine e_pen0X ?_); refine ⟨_, rfl, rfl, fun _ _ => ?_⟩)
    | ((with_reducible refine s_pen2X ?_); refine ⟨_, rfl, rfl, ?_⟩)
    | ((with_reducible refine s_pen1X ?_); refine ⟨_, rfl, rfl, ?_⟩)
    | ((with_reducible refine e_varX ?_); refine ⟨_, rfl, rfl, ?_⟩)
    | ((with_reducible refine e_slLV ?_); refine ⟨_, rfl, ?_⟩)
    | ((with_reducible refine e_slTV ?_); refine ⟨_, rfl, ?_⟩)
    | ((with_reducible refine i_listV ?_); refine ⟨_, rfl, ?_⟩)
    | ((with_reducible refine i_tupV ?_); refine ⟨_, rfl, ?_⟩)
    | with_reducible refine rd_ixIntsX ⟨⟨?_, ?_⟩, fun _ _ _ => ?_⟩
    | ((with_reducible refine rd_ixLX ?_); refine ⟨_, rfl, ?_⟩)
    | ((with_reducible refine rd_ixTX ?_); refine ⟨_, rfl, ?_⟩)
    | with_reducible refine s_seq ?_
    | with_reducible refine s_if ?_
    | with_reducible refine s_ret ?_
    | with_reducible refine s_set ?_
    | with_reducible refine s_asg ?_
    | with_reducible refine s_par ?_
    | with_reducible refine s_next ?_
    | with_reducible refine s_retN ?_
    | with_reducible refine s_drop ?_
    | with_reducible refine e_int ?_
    | with_reducible refine e_str ?_
    | with_reducible refine e_bl ?_
    | with_reducible refine e_non ?_
    | with_reducible refine e_raw ?_
    | with_reducible refine e_op ?_
    | with_reducible refine e_un ?_
    | with_reducible refine e_cb ?_
    | with_reducible refine a_cons ?_
    | with_reducible refine a_nil ?_
    | with_reducible refine t_test ?_
    | with_reducible refine t_B ?_
    | with_reducible refine t_and ?_
    | with_reducible refine t_or ?_
    | with_reducible refine t_not ?_
    | with_reducible refine e_if ?_
    | with_reducible refine e_andV ?_
    | with_reducible refine e_orV ?_
    | with_reducible refine e_notV ?_
    | with_reducible refine e_chain ?_
    | with_reducible refine e_chain3 ?_
    | with_reducible refine rd_addI ?_
    | with_reducible refine rd_sub ?_
    | with_reducible refine rd_lt ?_
    | with_reducible refine rd_le ?_
    | with_reducible refine rd_gt ?_
    | with_reducible refine rd_ge ?_
    | with_reducible refine rd_eqI ?_
    | with_reducible refine rd_neI ?_
    | with_reducible refine rd_eqS ?_
    | with_reducible refine rd_neS ?_
    | with_reducible refine ru_neg ?_
    | with_reducible refine rc_int ?_
    | with_reducible refine rc_intB ?_
    | with_reducible refine rc_abs ?_
    | with_reducible refine rc_max2 ?_
    | with_reducible refine rc_min2 ?_
    | with_reducible refine rc_lenL ?_
    | with_reducible refine rc_lenT ?_
    | with_reducible refine rc_listL ?_
    | with_reducible refine rc_tupL ?_
    | with_reducible refine rc_tupT ?_
    | with_reducible refine e_call ?_
    | with_reducible refine rd_modX ?_
    | with_reducible refine rd_divX ?_
    | with_reducible refine rd_mulX ?_
    | with_reducible refine rd_powX ?_
    | with_reducible refine rd_neNilX ?_
    | with_reducible refine rd_isI ?_
    | with_reducible refine rd_isL ?_
    | with_reducible refine rd_isT ?_
    | with_reducible refine rd_isS ?_
    | with_reducible refine rd_isNn ?_
    | with_reducible refine rd_isNI ?_
    | with_reducible refine rd_isNL ?_
    | with_reducible refine rd_isNT ?_
    | with_reducible refine rd_isNS ?_
    | with_reducible refine rd_isNNn ?_
    | with_reducible refine rc_allX ?_
    | with_reducible refine rc_anyX ?_
    | with_reducible refine t_yes ?_
    | with_reducible refine rd_inIntsX ?_
    | with_reducible refine o_none ?_
    | with_reducible refine o_some ?_
    | with_reducible refine i_rng1 ?_
    | with_reducible refine i_rng2 ?_
    | with_reducible refine i_zip ?_
    | with_reducible refine e_fld ?_
    | with_reducible refine e_tup ?_
    | with_reducible refine e_lst ?_
    | with_reducible refine rd_is rfl ?_ | with_reducible refine rd_isN rfl ?_
    | ((with_reducible refine rc_isiBX ?_); refine ⟨_, rfl, _, rfl, ?_⟩)
    | ((with_reducible refine e_isi2X ?_))
    | refine ⟨_, _, g_tup (gs_cons g_name (gs_cons g_name gs_nil)) rfl, ?_⟩
    | refine ⟨_, _, g_tup (gs_cons g_name (gs_cons g_name (gs_cons g_name gs_nil))) rfl, ?_⟩
    | refine ⟨_, _, g_tup (gs_cons g_name (gs_cons g_name (gs_cons g_name (gs_cons g_name gs_nil)))) rfl, ?_⟩
    | with_reducible refine Or.inl ⟨_, rfl, ?_⟩ | with_reducible refine Or.inr ⟨_, rfl, ?_⟩
    | with_reducible refine ⟨_, rfl, ?_⟩ | with_reducible refine ⟨rfl, ?_⟩ | with_reducible refine ⟨_, _, rfl, ?_⟩ | with_reducible refine ⟨_, _, _, rfl, ?_⟩ | with_reducible refine ⟨_, _, rfl, rfl, ?_⟩ | with_reducible refine ⟨fun _ => ?_, fun _ => ?_⟩ | with_reducible refine fun (_ : _ = true) => ?_ | with_reducible exact rfl | with_reducible refine ⟨(by simp : List.length _ ≤ 100000), ?_⟩ | with_reducible refine ⟨by omega, ?_⟩ | with_reducible refine ⟨by decide, ?_⟩ | with_reducible refine ⟨Int.ediv_nonneg (by omega) (by omega), ?_⟩ | fail))
  all_goals (refine kup_of ?_; simp_all [askedP, inA])
/-- what the law itself says of the points -/
def EntL (c f l : Int) : Prop := f ≤ l ∧ (c = 1 → f = l) ∧ (c ≠ 1 → 2 ≤ c ∧ f < l)
theorem between_one (st sp : Int) (am : Option (List Int)) (hd : ∀ ns, am = some ns → ns.Nodup) (f : Int) : betweenP st sp am f (f + 1) = if askedP st sp am f then 1 else 0 := by
  unfold betweenP askedP
  cases am with
  | none =>
    simp only [inA, Bool.and_true, Bool.and_eq_true, decide_eq_true_eq]
    split <;> omega
  | some ns =>
    have hnd := hd ns rfl
    show ((ns.filter fun m => decide (max st f ≤ m) && decide (m < min sp (f + 1))).length : Int) = if (decide (st ≤ f) && (decide (f < sp) && decide (f ∈ ns))) = true then 1 else 0
    have e : (ns.filter fun m => decide (max st f ≤ m) && decide (m < min sp (f + 1))) = ns.filter fun m => decide (m = f) && (decide (st ≤ f) && decide (f < sp)) := by
      apply List.filter_congr
      intro m _
      rw [Bool.eq_iff_iff]
      simp only [Bool.and_eq_true, decide_eq_true_eq]
      omega
    rw [e]
    by_cases h1 : (decide (st ≤ f) && decide (f < sp)) = true
    · rw [h1]
      simp only [Bool.and_eq_true, decide_eq_true_eq] at h1
      simp only [Bool.and_true]
      by_cases hm : f ∈ ns
      · have : (ns.filter fun m => decide (m = f)) = [f] := by
          clear e hd
          induction ns with
          | nil => cases hm
          | cons a r ih =>
            rw [List.nodup_cons] at hnd
            rw [List.filter_cons]
            by_cases ha : a = f
            · subst ha
              rw [if_pos (by simp)]
              congr 1
              rw [List.filter_eq_nil_iff]
              intro x hx
              simp
              intro z
              subst z
              exact hnd.1 hx
            · rw [if_neg (by simp [ha])]
              rcases List.mem_cons.mp hm with z | z
              · exact absurd z.symm ha
              · exact ih hnd.2 z
        rw [this]
        simp [h1.1, h1.2, hm]
      · have : (ns.filter fun m => decide (m = f)) = [] := by
          rw [List.filter_eq_nil_iff]
          intro x hx
          simp
          intro z
          subst z
          exact hm hx
        rw [this]
        simp [hm]
    · have h1' : (decide (st ≤ f) && decide (f < sp)) = false := by simpa using h1
      rw [h1']
      have e2 : (decide (st ≤ f) && (decide (f < sp) && decide (f ∈ ns))) = false := by rw [← Bool.and_assoc, h1']; rfl
      have e3 : ¬ ((decide (st ≤ f) && (decide (f < sp) && decide (f ∈ ns))) = true) := by rw [e2]; decide
      split
      · rename_i hh
        exact absurd hh e3
      · simp
theorem ptsP_one {c f l st sp : Int} {am : Option (List Int)} (hd : ∀ ns, am = some ns → ns.Nodup) (hc : c = 1) : ptsP c f l st sp am = (if askedP st sp am f then 1 else 0, if askedP st sp am f then 1 else 0) := by
  unfold ptsP
  rw [if_pos hc, between_one st sp am hd]
theorem pts_more {c f l st sp : Int} {am : Option (List Int)} (hd : ∀ ns, am = some ns → ns.Nodup) (hc : ¬ c = 1) : ptsP c f l st sp am =
    ((if askedP st sp am f then 1 else 0) + (if askedP st sp am l then 1 else 0) + max 0 (c - 2 - (l - f - 1 - betweenP st sp am (f + 1) l)), (if askedP st sp am f then 1 else 0) + (if askedP st sp am l then 1 else 0) + min (c - 2) (betweenP st sp am (f + 1) l)) := by
  unfold ptsP
  rw [if_neg hc, between_one st sp am hd, between_one st sp am hd]
theorem between_none (f l st sp : Int) : betweenP st sp none (f + 1) l = max 0 (min l sp - max (f + 1) st) := by
  unfold betweenP
  rw [Int.min_comm, Int.max_comm st]
theorem between_some (f l st sp : Int) (ns : List Int) : betweenP st sp (some ns) (f + 1) l = ((ns.filter fun m => decide (f < m) && (decide (m < l) && askedP st sp (some ns) m)).length : Int) := by
  show ((ns.filter fun m => decide (max st (f + 1) ≤ m) && decide (m < min sp l)).length : Int) = _
  congr 2
  apply List.filter_congr
  intro m hm
  rw [Bool.eq_iff_iff]
  simp only [askedP, inA, Bool.and_eq_true, decide_eq_true_eq, hm, decide_true]
  constructor
  · intro ⟨h1, h2⟩
    exact ⟨by omega, by omega, by omega, by omega, trivial⟩
  · intro ⟨h1, h2, h3, h4, _⟩
    exact ⟨by omega, by omega⟩
abbrev spanSp : DSpW := fun w es n k => ∃ c f l t lo hi kind num st sp am, es = [hT c f l t lo hi, qT kind num st sp am] ∧ EntL c f l ∧ (∀ ns, am = some ns → ns.Nodup ∧ ns.length ≤ 100000) ∧ k (.tup [.int (ptsP c f l st sp am).1, .int (ptsP c f l st sp am).2]) n
theorem w__law_span (h : spanSp w es n k) : WpS K w (r__law_span K (toSp K askedSp)) (dstart ["hole", "question", "many", "first", "last", "inner", "ends", "moment"] es) n { nx := fun _ n' => kup k .non n', rt := kup k } := by
  obtain ⟨c, f, l, t, lo, hi, kind, num, st, sp, am, rfl, hE, hz, hk⟩ := h
  unfold r__law_span
  have hd : ∀ ns, am = some ns → ns.Nodup := fun ns e => (hz ns e).1
  cases am with
  | none =>
    repeat' (first
    | exact absurd ‹false = true› (by decide) | exact absurd ‹true = false› (by decide)
    | refine ⟨kind, num, st, sp, none, _, rfl, ?_⟩
    | ((with_reducible refine s_cellX ?_); refine ⟨_, rfl, rfl, _, rfl, fun _ => ?_, ?_⟩)
    | ((with_reducible refine e_pen2X ?_); refine ⟨_, rfl, rfl, fun _ _ => ?_⟩)
    | ((with_reducible refine e_pen1X ?_); refine ⟨_, rfl, rfl, fun _ _ _ => ?_⟩)
    | ((with_reducible refine e_pen0X ?_); refine ⟨_, rfl, rfl, fun _ _ => ?_⟩)
    | ((with_reducible refine s_pen2X ?_); refine ⟨_, rfl, rfl, ?_⟩)
    | ((with_reducible refine s_pen1X ?_); refine ⟨_, rfl, rfl, ?_⟩)
    | ((with_reducible refine e_varX ?_); refine ⟨_, rfl, rfl, ?_⟩)
    | ((with_reducible refine e_slLV ?_); refine ⟨_, rfl, ?_⟩)
    | ((with_reducible refine e_slTV ?_); refine ⟨_, rfl, ?_⟩)
    | ((with_reducible refine i_listV ?_); refine ⟨_, rfl, ?_⟩)
    | ((with_reducible refine i_tupV ?_); refine ⟨_, rfl, ?_⟩)
    | with_reducible refine rd_ixIntsX ⟨⟨?_, ?_⟩, fun _ _ _ => ?_⟩
    | ((with_reducible refine rd_ixLX ?_); refine ⟨_, rfl, ?_⟩)
    | ((with_reducible refine rd_ixTX ?_); refine ⟨_, rfl, ?_⟩)
    | with_reducible refine s_seq ?_
    | with_reducible refine s_if ?_
    | with_reducible refine s_ret ?_
    | with_reducible refine s_set ?_
    | with_reducible refine s_asg ?_
    | with_reducible refine s_par ?_
    | with_reducible refine s_next ?_
    | with_reducible refine s_retN ?_
    | with_reducible refine s_drop ?_
    | with_reducible refine e_int ?_
    | with_reducible refine e_str ?_
    | with_reducible refine e_bl ?_
    | with_reducible refine e_non ?_
    | with_reducible refine e_raw ?_
    | with_reducible refine e_op ?_
    | with_reducible refine e_un ?_
    | with_reducible refine e_cb ?_
    | with_reducible refine a_cons ?_
    | with_reducible refine a_nil ?_
    | with_reducible refine t_test ?_
    | with_reducible refine t_B ?_
    | with_reducible refine t_and ?_
    | with_reducible refine t_or ?_
    | with_reducible refine t_not ?_
    | with_reducible refine e_if ?_
    | with_reducible refine e_andV ?_
    | with_reducible refine e_orV ?_
    | with_reducible refine e_notV ?_
    | with_reducible refine e_chain ?_
    | with_reducible refine e_chain3 ?_
    | with_reducible refine rd_addI ?_
    | with_reducible refine rd_sub ?_
    | with_reducible refine rd_lt ?_
    | with_reducible refine rd_le ?_
    | with_reducible refine rd_gt ?_
    | with_reducible refine rd_ge ?_
    | with_reducible refine rd_eqI ?_
    | with_reducible refine rd_neI ?_
    | with_reducible refine rd_eqS ?_
    | with_reducible refine rd_neS ?_
    | with_reducible refine ru_neg ?_
    | with_reducible refine rc_int ?_
    | with_reducible refine rc_intB ?_
    | with_reducible refine rc_abs ?_
    | with_reducible refine rc_max2 ?_
    | with_reducible refine rc_min2 ?_
    | with_reducible refine rc_lenL ?_
    | with_reducible refine rc_lenT ?_
    | with_reducible refine rc_listL ?_
    | with_reducible refine rc_tupL ?_
    | with_reducible refine rc_tupT ?_
    | with_reducible refine e_call ?_
    | with_reducible refine rd_modX ?_
    | with_reducible refine rd_divX ?_
    | with_reducible refine rd_mulX ?_
    | with_reducible refine rd_powX ?_
    | with_reducible refine rd_neNilX ?_
    | with_reducible refine rd_isI ?_
    | with_reducible refine rd_isL ?_
    | with_reducible refine rd_isT ?_
    | with_reducible refine rd_isS ?_
    | with_reducible refine rd_isNn ?_
    | with_reducible refine rd_isNI ?_
    | with_reducible refine rd_isNL ?_
    | with_reducible refine rd_isNT ?_
    | with_reducible refine rd_isNS ?_
    | with_reducible refine rd_isNNn ?_
    | with_reducible refine rc_allX ?_
    | with_reducible refine rc_anyX ?_
    | with_reducible refine t_yes ?_
    | with_reducible refine rd_inIntsX ?_
    | with_reducible refine o_none ?_
    | with_reducible refine o_some ?_
    | with_reducible refine i_rng1 ?_
    | with_reducible refine i_rng2 ?_
    | with_reducible refine i_zip ?_
    | with_reducible refine e_fld ?_
    | with_reducible refine e_tup ?_
    | with_reducible refine e_lst ?_
    | with_reducible refine rd_is rfl ?_ | with_reducible refine rd_isN rfl ?_
    | ((with_reducible refine rc_isiBX ?_); refine ⟨_, rfl, _, rfl, ?_⟩)
    | ((with_reducible refine e_isi2X ?_))
    | refine ⟨_, _, g_tup (gs_cons g_name (gs_cons g_name gs_nil)) rfl, ?_⟩
    | refine ⟨_, _, g_tup (gs_cons g_name (gs_cons g_name (gs_cons g_name gs_nil))) rfl, ?_⟩
    | refine ⟨_, _, g_tup (gs_cons g_name (gs_cons g_name (gs_cons g_name (gs_cons g_name gs_nil)))) rfl, ?_⟩
    | with_reducible refine Or.inl ⟨_, rfl, ?_⟩ | with_reducible refine Or.inr ⟨_, rfl, ?_⟩
    | with_reducible refine ⟨_, rfl, ?_⟩ | with_reducible refine ⟨rfl, ?_⟩ | with_reducible refine ⟨_, _, rfl, ?_⟩ | with_reducible refine ⟨_, _, _, rfl, ?_⟩ | with_reducible refine ⟨_, _, rfl, rfl, ?_⟩ | with_reducible refine ⟨fun _ => ?_, fun _ => ?_⟩ | with_reducible refine fun (_ : _ = true) => ?_ | with_reducible exact rfl | with_reducible refine ⟨(by simp : List.length _ ≤ 100000), ?_⟩ | with_reducible refine ⟨by omega, ?_⟩ | with_reducible refine ⟨by decide, ?_⟩ | with_reducible refine ⟨Int.ediv_nonneg (by omega) (by omega), ?_⟩ | fail)
    · have h1 : c = 1 := of_decide_eq_true (by assumption)
      have h2 : 1 < c := of_decide_eq_true (by assumption)
      omega
    · have h1 : ¬ c = 1 := of_decide_eq_false (by assumption)
      rw [pts_more hd h1, between_none] at hk
      exact kup_of hk
    · have h1 : c = 1 := of_decide_eq_true (by assumption)
      rw [ptsP_one hd h1] at hk
      refine kup_of ?_
      simpa using hk
    · have h1 : ¬ c = 1 := of_decide_eq_false (by assumption)
      have h2 : ¬ 1 < c := of_decide_eq_false (by assumption)
      have := hE.2.2 h1
      omega
  | some ns =>
    have hz2 := (hz ns rfl).2
    repeat' (first
    | exact absurd ‹false = true› (by decide) | exact absurd ‹true = false› (by decide)
    | refine ⟨kind, num, st, sp, some ns, _, rfl, ?_⟩
    | with_reducible refine e_lcIX ⟨fun m => decide (f < m) && (decide (m < l) && askedP st sp (some ns) m), fun z => .int z, ?_⟩
    | with_reducible refine i_list ?_
    | refine ⟨ns.map .int, rfl, ns, rfl, hz2, fun _ _ => ?_, ?_⟩
    | refine ⟨by first | (simp_all; done) | (simp_all; omega), rfl, fun _ => ?_⟩
    | ((with_reducible refine s_cellX ?_); refine ⟨_, rfl, rfl, _, rfl, fun _ => ?_, ?_⟩)
    | ((with_reducible refine e_pen2X ?_); refine ⟨_, rfl, rfl, fun _ _ => ?_⟩)
    | ((with_reducible refine e_pen1X ?_); refine ⟨_, rfl, rfl, fun _ _ _ => ?_⟩)
    | ((with_reducible refine e_pen0X ?_); refine ⟨_, rfl, rfl, fun _ _ => ?_⟩)
    | ((with_reducible refine s_pen2X ?_); refine ⟨_, rfl, rfl, ?_⟩)
    | ((with_reducible refine s_pen1X ?_); refine ⟨_, rfl, rfl, ?_⟩)
    | ((with_reducible refine e_varX ?_); refine ⟨_, rfl, rfl, ?_⟩)
    | ((with_reducible refine e_slLV ?_); refine ⟨_, rfl, ?_⟩)
    | ((with_reducible refine e_slTV ?_); refine ⟨_, rfl, ?_⟩)
    | ((with_reducible refine i_listV ?_); refine ⟨_, rfl, ?_⟩)
    | ((with_reducible refine i_tupV ?_); refine ⟨_, rfl, ?_⟩)
    | with_reducible refine rd_ixIntsX ⟨⟨?_, ?_⟩, fun _ _ _ => ?_⟩
    | ((with_reducible refine rd_ixLX ?_); refine ⟨_, rfl, ?_⟩)
    | ((with_reducible refine rd_ixTX ?_); refine ⟨_, rfl, ?_⟩)
    | with_reducible refine s_seq ?_
    | with_reducible refine s_if ?_
    | with_reducible refine s_ret ?_
    | with_reducible refine s_set ?_
    | with_reducible refine s_asg ?_
    | with_reducible refine s_par ?_
    | with_reducible refine s_next ?_
    | with_reducible refine s_retN ?_
    | with_reducible refine s_drop ?_
    | with_reducible refine e_int ?_
    | with_reducible refine e_str ?_
    | with_reducible refine e_bl ?_
    | with_reducible refine e_non ?_
    | with_reducible refine e_raw ?_
    | with_reducible refine e_op ?_
    | with_reducible refine e_un ?_
    | with_reducible refine e_cb ?_
    | with_reducible refine a_cons ?_
    | with_reducible refine a_nil ?_
    | with_reducible refine t_test ?_
    | with_reducible refine t_B ?_
    | with_reducible refine t_and ?_
    | with_reducible refine t_or ?_
    | with_reducible refine t_not ?_
    | with_reducible refine e_if ?_
    | with_reducible refine e_andV ?_
    | with_reducible refine e_orV ?_
    | with_reducible refine e_notV ?_
    | with_reducible refine e_chain ?_
    | with_reducible refine e_chain3 ?_
    | with_reducible refine rd_addI ?_
    | with_reducible refine rd_sub ?_
    | with_reducible refine rd_lt ?_
    | with_reducible refine rd_le ?_
    | with_reducible refine rd_gt ?_
    | with_reducible refine rd_ge ?_
    | with_reducible refine rd_eqI ?_
    | with_reducible refine rd_neI ?_
    | with_reducible refine rd_eqS ?_
    | with_reducible refine rd_neS ?_
    | with_reducible refine ru_neg ?_
    | with_reducible refine rc_int ?_
    | with_reducible refine rc_intB ?_
    | with_reducible refine rc_abs ?_
    | with_reducible refine rc_max2 ?_
    | with_reducible refine rc_min2 ?_
    | with_reducible refine rc_lenL ?_
    | with_reducible refine rc_lenT ?_
    | with_reducible refine rc_listL ?_
    | with_reducible refine rc_tupL ?_
    | with_reducible refine rc_tupT ?_
    | with_reducible refine e_call ?_
    | with_reducible refine rd_modX ?_
    | with_reducible refine rd_divX ?_
    | with_reducible refine rd_mulX ?_
    | with_reducible refine rd_powX ?_
    | with_reducible refine rd_neNilX ?_
    | with_reducible refine rd_isI ?_
    | with_reducible refine rd_isL ?_
    | with_reducible refine rd_isT ?_
    | with_reducible refine rd_isS ?_
    | with_reducible refine rd_isNn ?_
    | with_reducible refine rd_isNI ?_
    | with_reducible refine rd_isNL ?_
    | with_reducible refine rd_isNT ?_
    | with_reducible refine rd_isNS ?_
    | with_reducible refine rd_isNNn ?_
    | with_reducible refine rc_allX ?_
    | with_reducible refine rc_anyX ?_
    | with_reducible refine t_yes ?_
    | with_reducible refine rd_inIntsX ?_
    | with_reducible refine o_none ?_
    | with_reducible refine o_some ?_
    | with_reducible refine i_rng1 ?_
    | with_reducible refine i_rng2 ?_
    | with_reducible refine i_zip ?_
    | with_reducible refine e_fld ?_
    | with_reducible refine e_tup ?_
    | with_reducible refine e_lst ?_
    | with_reducible refine rd_is rfl ?_ | with_reducible refine rd_isN rfl ?_
    | ((with_reducible refine rc_isiBX ?_); refine ⟨_, rfl, _, rfl, ?_⟩)
    | ((with_reducible refine e_isi2X ?_))
    | refine ⟨_, _, g_tup (gs_cons g_name (gs_cons g_name gs_nil)) rfl, ?_⟩
    | refine ⟨_, _, g_tup (gs_cons g_name (gs_cons g_name (gs_cons g_name gs_nil))) rfl, ?_⟩
    | refine ⟨_, _, g_tup (gs_cons g_name (gs_cons g_name (gs_cons g_name (gs_cons g_name gs_nil)))) rfl, ?_⟩
    | with_reducible refine Or.inl ⟨_, rfl, ?_⟩ | with_reducible refine Or.inr ⟨_, rfl, ?_⟩
    | with_reducible refine ⟨_, rfl, ?_⟩ | with_reducible refine ⟨rfl, ?_⟩ | with_reducible refine ⟨_, _, rfl, ?_⟩ | with_reducible refine ⟨_, _, _, rfl, ?_⟩ | with_reducible refine ⟨_, _, rfl, rfl, ?_⟩ | with_reducible refine ⟨fun _ => ?_, fun _ => ?_⟩ | with_reducible refine fun (_ : _ = true) => ?_ | with_reducible exact rfl | with_reducible refine ⟨(by simp : List.length _ ≤ 100000), ?_⟩ | with_reducible refine ⟨by omega, ?_⟩ | with_reducible refine ⟨by decide, ?_⟩ | with_reducible refine ⟨Int.ediv_nonneg (by omega) (by omega), ?_⟩ | fail)
    · have h1 : c = 1 := of_decide_eq_true (by assumption)
      have h2 : 1 < c := of_decide_eq_true (by assumption)
      omega
    · have h1 : ¬ c = 1 := of_decide_eq_false (by assumption)
      rw [pts_more hd h1, between_some] at hk
      rw [List.length_map]
      exact kup_of hk
    · have h1 : c = 1 := of_decide_eq_true (by assumption)
      rw [ptsP_one hd h1] at hk
      refine kup_of ?_
      simpa using hk
    · have h1 : ¬ c = 1 := of_decide_eq_false (by assumption)
      have h2 : ¬ 1 < c := of_decide_eq_false (by assumption)
      have := hE.2.2 h1
      omega
end
end K51
/-! plain laws: rows of so many, counts -/
set_option autoImplicit false
namespace K51
def rowsP (ns : List Int) (m : Int) : List (List Int) := ns.foldl (fun rows x => rows ++ (rows.filter fun r => decide ((r.length : Int) < m)).map fun r => r ++ [x]) [[]]
def chosenP (ns : List Int) (m : Int) : List (List Int) := (rowsP ns m).filter fun r => decide ((r.length : Int) = m)
theorem rowsP_snoc (ns : List Int) (x : Int) (m : Int) : rowsP (ns ++ [x]) m = rowsP ns m ++ ((rowsP ns m).filter fun r => decide ((r.length : Int) < m)).map fun r => r ++ [x] := by
  unfold rowsP
  rw [List.foldl_append]; rfl
theorem snocInd {P : List Int → Prop} (h0 : P []) (hs : ∀ l x, P l → P (l ++ [x])) : ∀ l, P l := by
  intro l
  have : ∀ r : List Int, P r.reverse := by
    intro r
    induction r with
    | nil => exact h0
    | cons a r ih => rw [List.reverse_cons]; exact hs _ _ ih
  have z := this l.reverse
  rwa [List.reverse_reverse] at z
theorem rowsP_len (ns : List Int) (m : Int) : (rowsP ns m).length ≤ 2 ^ ns.length := by
  refine snocInd (P := fun ns => (rowsP ns m).length ≤ 2 ^ ns.length) ?_ ?_ ns
  · exact Nat.le_refl _
  · intro l x ih
    rw [rowsP_snoc, List.length_append, List.length_map, List.length_append, List.length_singleton, Nat.pow_succ]
    have := List.length_filter_le (fun r : List Int => decide ((r.length : Int) < m)) (rowsP l m)
    omega
theorem mem_rowsP (ns : List Int) (m : Int) (hm : 0 ≤ m) : ∀ r, r ∈ rowsP ns m ↔ r.Sublist ns ∧ (r.length : Int) ≤ m := by
  refine snocInd (P := fun ns => ∀ r, r ∈ rowsP ns m ↔ r.Sublist ns ∧ (r.length : Int) ≤ m) ?_ ?_ ns
  · intro r
    constructor
    · intro h
      have : r = [] := by simpa [rowsP] using h
      subst this
      exact ⟨List.Sublist.refl _, by simpa using hm⟩
    · intro ⟨h, _⟩
      have : r = [] := List.sublist_nil.mp h
      subst this
      simp [rowsP]
  · intro l x ih r
    rw [rowsP_snoc, List.mem_append, ih, List.mem_map]
    constructor
    · rintro (⟨h1, h2⟩ | ⟨q, hq, rfl⟩)
      · exact ⟨h1.trans (List.sublist_append_left _ _), h2⟩
      · obtain ⟨q1, q2⟩ := List.mem_filter.mp hq
        have q2 := of_decide_eq_true q2
        refine ⟨((ih q).mp q1).1.append (List.Sublist.refl _), ?_⟩
        rw [List.length_append, List.length_singleton]
        omega
    · rintro ⟨h1, h2⟩
      obtain ⟨a, b, rfl, ha, hb⟩ := List.sublist_append_iff.mp h1
      rw [List.length_append] at h2
      cases b with
      | nil => left; rw [List.append_nil]; exact ⟨ha, by simpa using h2⟩
      | cons y b =>
        have hb' : b = [] ∧ y = x := by
          cases hb with
          | cons _ z => cases z
          | cons_cons _ z => exact ⟨List.sublist_nil.mp z, rfl⟩
        obtain ⟨rfl, rfl⟩ := hb'
        right
        refine ⟨a, List.mem_filter.mpr ⟨(ih a).mpr ⟨ha, by simp at h2; omega⟩, decide_eq_true (by simp at h2; omega)⟩, rfl⟩
theorem mem_chosenP (ns : List Int) (m : Int) (hm : 0 ≤ m) (r : List Int) : r ∈ chosenP ns m ↔ r.Sublist ns ∧ (r.length : Int) = m := by
  unfold chosenP
  rw [List.mem_filter, mem_rowsP ns m hm]
  constructor
  · rintro ⟨⟨h1, h2⟩, h3⟩
    exact ⟨h1, of_decide_eq_true h3⟩
  · rintro ⟨h1, h2⟩
    exact ⟨⟨h1, by omega⟩, decide_eq_true h2⟩
/-- a row of m of them with as many as can be -/
theorem best {p : Int → Bool} : ∀ (l : List Int) (m : Nat), m ≤ l.length → ∃ r : List Int, r.Sublist l ∧ r.length = m ∧ (r.filter p).length = min m (l.filter p).length
  | l, 0, _ => ⟨[], List.nil_sublist _, rfl, by simp⟩
  | [], m + 1, h => by simp at h
  | a :: l, m + 1, h => by
    by_cases pa : p a = true
    · obtain ⟨r, h1, h2, h3⟩ := best (p := p) l m (by simpa using h)
      refine ⟨a :: r, h1.cons_cons a, by simp [h2], ?_⟩
      rw [List.filter_cons, List.filter_cons, if_pos pa, if_pos pa, List.length_cons, List.length_cons, h3]
      omega
    · by_cases hl : m + 1 ≤ l.length
      · obtain ⟨r, h1, h2, h3⟩ := best (p := p) l (m + 1) hl
        refine ⟨r, h1.cons a, h2, ?_⟩
        rw [h3, List.filter_cons, if_neg pa]
      · refine ⟨a :: l, List.Sublist.refl _, by simp at h ⊢; omega, ?_⟩
        have := List.length_filter_le p l
        rw [List.filter_cons, if_neg pa]
        omega
theorem split_len {p : Int → Bool} : ∀ l : List Int, (l.filter p).length + (l.filter fun x => !p x).length = l.length
  | [] => rfl
  | a :: l => by
    have ih := split_len (p := p) l
    rw [List.filter_cons, List.filter_cons]
    cases h : p a
    · simp; omega
    · simp; omega
/-- what any row of m of them has -/
theorem row_bounds {p : Int → Bool} {r l : List Int} (h : r.Sublist l) : (r.filter p).length ≤ min r.length (l.filter p).length ∧ r.length - (l.filter fun x => !p x).length ≤ (r.filter p).length := by
  have h1 := List.length_filter_le p r
  have h2 := (h.filter p).length_le
  have h3 := (h.filter fun x => !p x).length_le
  have h4 := split_len (p := p) r
  omega
theorem worst {p : Int → Bool} (l : List Int) (m : Nat) (hm : m ≤ l.length) : ∃ r : List Int, r.Sublist l ∧ r.length = m ∧ (r.filter p).length = m - (l.filter fun x => !p x).length := by
  obtain ⟨r, h1, h2, h3⟩ := best (p := fun x => !p x) l m hm
  refine ⟨r, h1, h2, ?_⟩
  have h4 := split_len (p := p) r
  omega
end K51
set_option Elab.async false
set_option maxRecDepth 100000
set_option maxHeartbeats 4000000
set_option linter.all false
set_option autoImplicit false
namespace K51
open PySem PySem.Spec PyProof.Rows L2 DW
abbrev rowD (r : List Int) : D := .tup (r.map .int)
abbrev chosenSp : DSpW := fun w es n k => ∃ (ns : List Int) (m : Int), es = [.lst (ns.map .int), .int m] ∧ 0 ≤ m ∧ ns.length ≤ 10 ∧ k (.lst ((chosenP ns m).map rowD)) n
section
variable {K : PySem.W.Frag} {w : Option Addr} {n : Nat} {k : Kn} {es : List D} {CE CQ : Addr}
theorem w__law_chosen (h : chosenSp w es n k) : WpS K w (r__law_chosen K) (dstart ["some", "many", "rows", "thing", "row"] es) n { nx := fun _ n' => kup k .non n', rt := kup k } := by
  obtain ⟨ns, m, rfl, hm, hz, hk⟩ := h
  unfold r__law_chosen
  repeat' (first
    | exact absurd ‹false = true› (by decide) | exact absurd ‹true = false› (by decide)
    | ((with_reducible refine s_cellX ?_); refine ⟨_, rfl, rfl, _, rfl, fun _ => ?_, ?_⟩)
    | ((with_reducible refine e_pen2X ?_); refine ⟨_, rfl, rfl, fun _ _ => ?_⟩)
    | ((with_reducible refine e_pen1X ?_); refine ⟨_, rfl, rfl, fun _ _ _ => ?_⟩)
    | ((with_reducible refine e_pen0X ?_); refine ⟨_, rfl, rfl, fun _ _ => ?_⟩)
    | ((with_reducible refine s_pen2X ?_); refine ⟨_, rfl, rfl, ?_⟩)
    | ((with_reducible refine s_pen1X ?_); refine ⟨_, rfl, rfl, ?_⟩)
    | ((with_reducible refine e_varX ?_); refine ⟨_, rfl, rfl, ?_⟩)
    | ((with_reducible refine e_slLV ?_); refine ⟨_, rfl, ?_⟩)
    | ((with_reducible refine e_slTV ?_); refine ⟨_, rfl, ?_⟩)
    | ((with_reducible refine i_listV ?_); refine ⟨_, rfl, ?_⟩)
    | ((with_reducible refine i_tupV ?_); refine ⟨_, rfl, ?_⟩)
    | with_reducible refine rd_ixIntsX ⟨⟨?_, ?_⟩, fun _ _ _ => ?_⟩
    | ((with_reducible refine rd_ixLX ?_); refine ⟨_, rfl, ?_⟩)
    | ((with_reducible refine rd_ixTX ?_); refine ⟨_, rfl, ?_⟩)
    | with_reducible refine s_seq ?_
    | with_reducible refine s_if ?_
    | with_reducible refine s_ret ?_
    | with_reducible refine s_set ?_
    | with_reducible refine s_asg ?_
    | with_reducible refine s_par ?_
    | with_reducible refine s_next ?_
    | with_reducible refine s_retN ?_
    | with_reducible refine s_drop ?_
    | with_reducible refine e_int ?_
    | with_reducible refine e_str ?_
    | with_reducible refine e_bl ?_
    | with_reducible refine e_non ?_
    | with_reducible refine e_raw ?_
    | with_reducible refine e_op ?_
    | with_reducible refine e_un ?_
    | with_reducible refine e_cb ?_
    | with_reducible refine a_cons ?_
    | with_reducible refine a_nil ?_
    | with_reducible refine t_test ?_
    | with_reducible refine t_B ?_
    | with_reducible refine t_and ?_
    | with_reducible refine t_or ?_
    | with_reducible refine t_not ?_
    | with_reducible refine e_if ?_
    | with_reducible refine e_andV ?_
    | with_reducible refine e_orV ?_
    | with_reducible refine e_notV ?_
    | with_reducible refine e_chain ?_
    | with_reducible refine e_chain3 ?_
    | with_reducible refine rd_addI ?_
    | with_reducible refine rd_sub ?_
    | with_reducible refine rd_lt ?_
    | with_reducible refine rd_le ?_
    | with_reducible refine rd_gt ?_
    | with_reducible refine rd_ge ?_
    | with_reducible refine rd_eqI ?_
    | with_reducible refine rd_neI ?_
    | with_reducible refine rd_eqS ?_
    | with_reducible refine rd_neS ?_
    | with_reducible refine ru_neg ?_
    | with_reducible refine rc_int ?_
    | with_reducible refine rc_intB ?_
    | with_reducible refine rc_abs ?_
    | with_reducible refine rc_max2 ?_
    | with_reducible refine rc_min2 ?_
    | with_reducible refine rc_lenL ?_
    | with_reducible refine rc_lenT ?_
    | with_reducible refine rc_listL ?_
    | with_reducible refine rc_tupL ?_
    | with_reducible refine rc_tupT ?_
    | with_reducible refine e_call ?_
    | with_reducible refine rd_modX ?_
    | with_reducible refine rd_divX ?_
    | with_reducible refine rd_mulX ?_
    | with_reducible refine rd_powX ?_
    | with_reducible refine rd_neNilX ?_
    | with_reducible refine rd_isI ?_
    | with_reducible refine rd_isL ?_
    | with_reducible refine rd_isT ?_
    | with_reducible refine rd_isS ?_
    | with_reducible refine rd_isNn ?_
    | with_reducible refine rd_isNI ?_
    | with_reducible refine rd_isNL ?_
    | with_reducible refine rd_isNT ?_
    | with_reducible refine rd_isNS ?_
    | with_reducible refine rd_isNNn ?_
    | with_reducible refine rc_allX ?_
    | with_reducible refine rc_anyX ?_
    | with_reducible refine t_yes ?_
    | with_reducible refine rd_addLX ?_
    | with_reducible refine rd_addTX ?_
    | with_reducible refine rd_addSX ?_
    | with_reducible refine rd_inIntsX ?_
    | with_reducible refine o_none ?_
    | with_reducible refine o_some ?_
    | with_reducible refine i_rng1 ?_
    | with_reducible refine i_rng2 ?_
    | with_reducible refine i_zip ?_
    | with_reducible refine e_fld ?_
    | with_reducible refine e_tup ?_
    | with_reducible refine e_lst ?_
    | with_reducible refine rd_is rfl ?_ | with_reducible refine rd_isN rfl ?_
    | ((with_reducible refine rc_isiBX ?_); refine ⟨_, rfl, _, rfl, ?_⟩)
    | ((with_reducible refine e_isi2X ?_))
    | refine ⟨_, _, g_tup (gs_cons g_name (gs_cons g_name gs_nil)) rfl, ?_⟩
    | refine ⟨_, _, g_tup (gs_cons g_name (gs_cons g_name (gs_cons g_name gs_nil))) rfl, ?_⟩
    | refine ⟨_, _, g_tup (gs_cons g_name (gs_cons g_name (gs_cons g_name (gs_cons g_name gs_nil)))) rfl, ?_⟩
    | with_reducible refine Or.inl ⟨_, rfl, ?_⟩ | with_reducible refine Or.inr ⟨_, rfl, ?_⟩
    | with_reducible refine ⟨_, rfl, ?_⟩ | with_reducible refine ⟨rfl, ?_⟩ | with_reducible refine ⟨_, _, rfl, ?_⟩ | with_reducible refine ⟨_, _, _, rfl, ?_⟩ | with_reducible refine ⟨_, _, rfl, rfl, ?_⟩ | with_reducible refine ⟨fun _ => ?_, fun _ => ?_⟩ | with_reducible refine fun (_ : _ = true) => ?_ | with_reducible exact rfl | with_reducible refine And.intro ((by simp; done : List.length _ ≤ 100000)) ?_ | with_reducible refine And.intro ((by simp only [List.length_map, List.length_append, List.length_cons, List.length_nil]; omega : List.length _ + List.length _ ≤ 100000)) ?_ | with_reducible refine And.intro (by omega) ?_ | with_reducible refine And.intro (by simp only [List.length_map]; omega) ?_ | with_reducible refine And.intro ((by first | omega | decide : (0 : Int) ≤ _ ∧ _ ≤ 1000000 ∧ Int.natAbs _ < 2 ^ 64)) ?_ | fail)
  refine s_for ?_
  repeat' (first
    | exact absurd ‹false = true› (by decide) | exact absurd ‹true = false› (by decide)
    | ((with_reducible refine s_cellX ?_); refine ⟨_, rfl, rfl, _, rfl, fun _ => ?_, ?_⟩)
    | ((with_reducible refine e_pen2X ?_); refine ⟨_, rfl, rfl, fun _ _ => ?_⟩)
    | ((with_reducible refine e_pen1X ?_); refine ⟨_, rfl, rfl, fun _ _ _ => ?_⟩)
    | ((with_reducible refine e_pen0X ?_); refine ⟨_, rfl, rfl, fun _ _ => ?_⟩)
    | ((with_reducible refine s_pen2X ?_); refine ⟨_, rfl, rfl, ?_⟩)
    | ((with_reducible refine s_pen1X ?_); refine ⟨_, rfl, rfl, ?_⟩)
    | ((with_reducible refine e_varX ?_); refine ⟨_, rfl, rfl, ?_⟩)
    | ((with_reducible refine e_slLV ?_); refine ⟨_, rfl, ?_⟩)
    | ((with_reducible refine e_slTV ?_); refine ⟨_, rfl, ?_⟩)
    | ((with_reducible refine i_listV ?_); refine ⟨_, rfl, ?_⟩)
    | ((with_reducible refine i_tupV ?_); refine ⟨_, rfl, ?_⟩)
    | with_reducible refine rd_ixIntsX ⟨⟨?_, ?_⟩, fun _ _ _ => ?_⟩
    | ((with_reducible refine rd_ixLX ?_); refine ⟨_, rfl, ?_⟩)
    | ((with_reducible refine rd_ixTX ?_); refine ⟨_, rfl, ?_⟩)
    | with_reducible refine s_seq ?_
    | with_reducible refine s_if ?_
    | with_reducible refine s_ret ?_
    | with_reducible refine s_set ?_
    | with_reducible refine s_asg ?_
    | with_reducible refine s_par ?_
    | with_reducible refine s_next ?_
    | with_reducible refine s_retN ?_
    | with_reducible refine s_drop ?_
    | with_reducible refine e_int ?_
    | with_reducible refine e_str ?_
    | with_reducible refine e_bl ?_
    | with_reducible refine e_non ?_
    | with_reducible refine e_raw ?_
    | with_reducible refine e_op ?_
    | with_reducible refine e_un ?_
    | with_reducible refine e_cb ?_
    | with_reducible refine a_cons ?_
    | with_reducible refine a_nil ?_
    | with_reducible refine t_test ?_
    | with_reducible refine t_B ?_
    | with_reducible refine t_and ?_
    | with_reducible refine t_or ?_
    | with_reducible refine t_not ?_
    | with_reducible refine e_if ?_
    | with_reducible refine e_andV ?_
    | with_reducible refine e_orV ?_
    | with_reducible refine e_notV ?_
    | with_reducible refine e_chain ?_
    | with_reducible refine e_chain3 ?_
    | with_reducible refine rd_addI ?_
    | with_reducible refine rd_sub ?_
    | with_reducible refine rd_lt ?_
    | with_reducible refine rd_le ?_
    | with_reducible refine rd_gt ?_
    | with_reducible refine rd_ge ?_
    | with_reducible refine rd_eqI ?_
    | with_reducible refine rd_neI ?_
    | with_reducible refine rd_eqS ?_
    | with_reducible refine rd_neS ?_
    | with_reducible refine ru_neg ?_
    | with_reducible refine rc_int ?_
    | with_reducible refine rc_intB ?_
    | with_reducible refine rc_abs ?_
    | with_reducible refine rc_max2 ?_
    | with_reducible refine rc_min2 ?_
    | with_reducible refine rc_lenL ?_
    | with_reducible refine rc_lenT ?_
    | with_reducible refine rc_listL ?_
    | with_reducible refine rc_tupL ?_
    | with_reducible refine rc_tupT ?_
    | with_reducible refine e_call ?_
    | with_reducible refine rd_modX ?_
    | with_reducible refine rd_divX ?_
    | with_reducible refine rd_mulX ?_
    | with_reducible refine rd_powX ?_
    | with_reducible refine rd_neNilX ?_
    | with_reducible refine rd_isI ?_
    | with_reducible refine rd_isL ?_
    | with_reducible refine rd_isT ?_
    | with_reducible refine rd_isS ?_
    | with_reducible refine rd_isNn ?_
    | with_reducible refine rd_isNI ?_
    | with_reducible refine rd_isNL ?_
    | with_reducible refine rd_isNT ?_
    | with_reducible refine rd_isNS ?_
    | with_reducible refine rd_isNNn ?_
    | with_reducible refine rc_allX ?_
    | with_reducible refine rc_anyX ?_
    | with_reducible refine t_yes ?_
    | with_reducible refine rd_addLX ?_
    | with_reducible refine rd_addTX ?_
    | with_reducible refine rd_addSX ?_
    | with_reducible refine rd_inIntsX ?_
    | with_reducible refine o_none ?_
    | with_reducible refine o_some ?_
    | with_reducible refine i_rng1 ?_
    | with_reducible refine i_rng2 ?_
    | with_reducible refine i_zip ?_
    | with_reducible refine e_fld ?_
    | with_reducible refine e_tup ?_
    | with_reducible refine e_lst ?_
    | with_reducible refine rd_is rfl ?_ | with_reducible refine rd_isN rfl ?_
    | ((with_reducible refine rc_isiBX ?_); refine ⟨_, rfl, _, rfl, ?_⟩)
    | ((with_reducible refine e_isi2X ?_))
    | refine ⟨_, _, g_tup (gs_cons g_name (gs_cons g_name gs_nil)) rfl, ?_⟩
    | refine ⟨_, _, g_tup (gs_cons g_name (gs_cons g_name (gs_cons g_name gs_nil))) rfl, ?_⟩
    | refine ⟨_, _, g_tup (gs_cons g_name (gs_cons g_name (gs_cons g_name (gs_cons g_name gs_nil)))) rfl, ?_⟩
    | with_reducible refine Or.inl ⟨_, rfl, ?_⟩ | with_reducible refine Or.inr ⟨_, rfl, ?_⟩
    | with_reducible refine ⟨_, rfl, ?_⟩ | with_reducible refine ⟨rfl, ?_⟩ | with_reducible refine ⟨_, _, rfl, ?_⟩ | with_reducible refine ⟨_, _, _, rfl, ?_⟩ | with_reducible refine ⟨_, _, rfl, rfl, ?_⟩ | with_reducible refine ⟨fun _ => ?_, fun _ => ?_⟩ | with_reducible refine fun (_ : _ = true) => ?_ | with_reducible exact rfl | with_reducible refine And.intro ((by simp; done : List.length _ ≤ 100000)) ?_ | with_reducible refine And.intro ((by simp only [List.length_map, List.length_append, List.length_cons, List.length_nil]; omega : List.length _ + List.length _ ≤ 100000)) ?_ | with_reducible refine And.intro (by omega) ?_ | with_reducible refine And.intro (by simp only [List.length_map]; omega) ?_ | with_reducible refine And.intro ((by first | omega | decide : (0 : Int) ≤ _ ∧ _ ≤ 1000000 ∧ Int.natAbs _ < 2 ^ 64)) ?_ | fail)
  refine ⟨fun j ds' n' => n' = n ∧ ∃ v, ds' = [some (.lst (ns.map .int)), some (.int m), some (.lst ((rowsP (ns.take j) m).map rowD)), v, none], ⟨rfl, none, rfl⟩, ?_, ?_⟩
  · rintro i x ds' n' hx ⟨rfl, v, rfl⟩
    obtain ⟨hi, rfl⟩ := rgD_get hx
    have hi' : i < ns.length := by simpa using hi
    have hl : (rowsP (ns.take i) m).length ≤ 1024 := by
      have h1 := rowsP_len (ns.take i) m
      have h2 : (2 : Nat) ^ (ns.take i).length ≤ 2 ^ 10 := Nat.pow_le_pow_right (by decide) (by rw [List.length_take]; omega)
      omega
    refine ⟨_, _, g_name rfl, ?_⟩
    repeat' (first
    | exact absurd ‹false = true› (by decide) | exact absurd ‹true = false› (by decide)
    | refine e_lcGX ⟨rowD, fun r => decide ((r.length : Int) < m), fun r => rowD (r ++ [ns[i]]), fun _ => rfl, ?_⟩
    | refine ⟨_, rfl, by omega, fun r hr => ?_, ?_⟩
    | refine And.intro (fun r hr => ?_) ?_
    | refine And.intro hi' ?_
    | ((with_reducible refine s_cellX ?_); refine ⟨_, rfl, rfl, _, rfl, fun _ => ?_, ?_⟩)
    | ((with_reducible refine e_pen2X ?_); refine ⟨_, rfl, rfl, fun _ _ => ?_⟩)
    | ((with_reducible refine e_pen1X ?_); refine ⟨_, rfl, rfl, fun _ _ _ => ?_⟩)
    | ((with_reducible refine e_pen0X ?_); refine ⟨_, rfl, rfl, fun _ _ => ?_⟩)
    | ((with_reducible refine s_pen2X ?_); refine ⟨_, rfl, rfl, ?_⟩)
    | ((with_reducible refine s_pen1X ?_); refine ⟨_, rfl, rfl, ?_⟩)
    | ((with_reducible refine e_varX ?_); refine ⟨_, rfl, rfl, ?_⟩)
    | ((with_reducible refine e_slLV ?_); refine ⟨_, rfl, ?_⟩)
    | ((with_reducible refine e_slTV ?_); refine ⟨_, rfl, ?_⟩)
    | ((with_reducible refine i_listV ?_); refine ⟨_, rfl, ?_⟩)
    | ((with_reducible refine i_tupV ?_); refine ⟨_, rfl, ?_⟩)
    | with_reducible refine rd_ixIntsX ⟨⟨?_, ?_⟩, fun _ _ _ => ?_⟩
    | ((with_reducible refine rd_ixLX ?_); refine ⟨_, rfl, ?_⟩)
    | ((with_reducible refine rd_ixTX ?_); refine ⟨_, rfl, ?_⟩)
    | with_reducible refine s_seq ?_
    | with_reducible refine s_if ?_
    | with_reducible refine s_ret ?_
    | with_reducible refine s_set ?_
    | with_reducible refine s_asg ?_
    | with_reducible refine s_par ?_
    | with_reducible refine s_next ?_
    | with_reducible refine s_retN ?_
    | with_reducible refine s_drop ?_
    | with_reducible refine e_int ?_
    | with_reducible refine e_str ?_
    | with_reducible refine e_bl ?_
    | with_reducible refine e_non ?_
    | with_reducible refine e_raw ?_
    | with_reducible refine e_op ?_
    | with_reducible refine e_un ?_
    | with_reducible refine e_cb ?_
    | with_reducible refine a_cons ?_
    | with_reducible refine a_nil ?_
    | with_reducible refine t_test ?_
    | with_reducible refine t_B ?_
    | with_reducible refine t_and ?_
    | with_reducible refine t_or ?_
    | with_reducible refine t_not ?_
    | with_reducible refine e_if ?_
    | with_reducible refine e_andV ?_
    | with_reducible refine e_orV ?_
    | with_reducible refine e_notV ?_
    | with_reducible refine e_chain ?_
    | with_reducible refine e_chain3 ?_
    | with_reducible refine rd_addI ?_
    | with_reducible refine rd_sub ?_
    | with_reducible refine rd_lt ?_
    | with_reducible refine rd_le ?_
    | with_reducible refine rd_gt ?_
    | with_reducible refine rd_ge ?_
    | with_reducible refine rd_eqI ?_
    | with_reducible refine rd_neI ?_
    | with_reducible refine rd_eqS ?_
    | with_reducible refine rd_neS ?_
    | with_reducible refine ru_neg ?_
    | with_reducible refine rc_int ?_
    | with_reducible refine rc_intB ?_
    | with_reducible refine rc_abs ?_
    | with_reducible refine rc_max2 ?_
    | with_reducible refine rc_min2 ?_
    | with_reducible refine rc_lenL ?_
    | with_reducible refine rc_lenT ?_
    | with_reducible refine rc_listL ?_
    | with_reducible refine rc_tupL ?_
    | with_reducible refine rc_tupT ?_
    | with_reducible refine e_call ?_
    | with_reducible refine rd_modX ?_
    | with_reducible refine rd_divX ?_
    | with_reducible refine rd_mulX ?_
    | with_reducible refine rd_powX ?_
    | with_reducible refine rd_neNilX ?_
    | with_reducible refine rd_isI ?_
    | with_reducible refine rd_isL ?_
    | with_reducible refine rd_isT ?_
    | with_reducible refine rd_isS ?_
    | with_reducible refine rd_isNn ?_
    | with_reducible refine rd_isNI ?_
    | with_reducible refine rd_isNL ?_
    | with_reducible refine rd_isNT ?_
    | with_reducible refine rd_isNS ?_
    | with_reducible refine rd_isNNn ?_
    | with_reducible refine rc_allX ?_
    | with_reducible refine rc_anyX ?_
    | with_reducible refine t_yes ?_
    | with_reducible refine rd_addLX ?_
    | with_reducible refine rd_addTX ?_
    | with_reducible refine rd_addSX ?_
    | with_reducible refine rd_inIntsX ?_
    | with_reducible refine o_none ?_
    | with_reducible refine o_some ?_
    | with_reducible refine i_rng1 ?_
    | with_reducible refine i_rng2 ?_
    | with_reducible refine i_zip ?_
    | with_reducible refine e_fld ?_
    | with_reducible refine e_tup ?_
    | with_reducible refine e_lst ?_
    | with_reducible refine rd_is rfl ?_ | with_reducible refine rd_isN rfl ?_
    | ((with_reducible refine rc_isiBX ?_); refine ⟨_, rfl, _, rfl, ?_⟩)
    | ((with_reducible refine e_isi2X ?_))
    | refine ⟨_, _, g_tup (gs_cons g_name (gs_cons g_name gs_nil)) rfl, ?_⟩
    | refine ⟨_, _, g_tup (gs_cons g_name (gs_cons g_name (gs_cons g_name gs_nil))) rfl, ?_⟩
    | refine ⟨_, _, g_tup (gs_cons g_name (gs_cons g_name (gs_cons g_name (gs_cons g_name gs_nil)))) rfl, ?_⟩
    | with_reducible refine Or.inl ⟨_, rfl, ?_⟩ | with_reducible refine Or.inr ⟨_, rfl, ?_⟩
    | with_reducible refine ⟨_, rfl, ?_⟩ | with_reducible refine ⟨rfl, ?_⟩ | with_reducible refine ⟨_, _, rfl, ?_⟩ | with_reducible refine ⟨_, _, _, rfl, ?_⟩ | with_reducible refine ⟨_, _, rfl, rfl, ?_⟩ | with_reducible refine ⟨fun _ => ?_, fun _ => ?_⟩ | with_reducible refine fun (_ : _ = true) => ?_ | with_reducible exact rfl | with_reducible refine And.intro ((by simp; done : List.length _ ≤ 100000)) ?_ | with_reducible refine And.intro ((by simp only [List.length_map, List.length_append, List.length_cons, List.length_nil]; omega : List.length _ + List.length _ ≤ 100000)) ?_ | with_reducible refine And.intro (by omega) ?_ | with_reducible refine And.intro (by simp only [List.length_map]; omega) ?_ | with_reducible refine And.intro ((by first | omega | decide : (0 : Int) ≤ _ ∧ _ ≤ 1000000 ∧ Int.natAbs _ < 2 ^ 64)) ?_ | fail)
    · refine ⟨by rw [List.length_map], rfl, fun hb => ?_⟩
      have hrl : r.length ≤ 10 := by
        have h1 := ((mem_rowsP (ns.take i) m hm r).mp hr).1.length_le
        rw [List.length_take] at h1
        omega
      repeat' (first
    | exact absurd ‹false = true› (by decide) | exact absurd ‹true = false› (by decide)
    | refine rd_ixIntsX ⟨⟨by omega, by omega⟩, fun z hz1 hz2 => ?_⟩
    | ((with_reducible refine s_cellX ?_); refine ⟨_, rfl, rfl, _, rfl, fun _ => ?_, ?_⟩)
    | ((with_reducible refine e_pen2X ?_); refine ⟨_, rfl, rfl, fun _ _ => ?_⟩)
    | ((with_reducible refine e_pen1X ?_); refine ⟨_, rfl, rfl, fun _ _ _ => ?_⟩)
    | ((with_reducible refine e_pen0X ?_); refine ⟨_, rfl, rfl, fun _ _ => ?_⟩)
    | ((with_reducible refine s_pen2X ?_); refine ⟨_, rfl, rfl, ?_⟩)
    | ((with_reducible refine s_pen1X ?_); refine ⟨_, rfl, rfl, ?_⟩)
    | ((with_reducible refine e_varX ?_); refine ⟨_, rfl, rfl, ?_⟩)
    | ((with_reducible refine e_slLV ?_); refine ⟨_, rfl, ?_⟩)
    | ((with_reducible refine e_slTV ?_); refine ⟨_, rfl, ?_⟩)
    | ((with_reducible refine i_listV ?_); refine ⟨_, rfl, ?_⟩)
    | ((with_reducible refine i_tupV ?_); refine ⟨_, rfl, ?_⟩)
    | with_reducible refine rd_ixIntsX ⟨⟨?_, ?_⟩, fun _ _ _ => ?_⟩
    | ((with_reducible refine rd_ixLX ?_); refine ⟨_, rfl, ?_⟩)
    | ((with_reducible refine rd_ixTX ?_); refine ⟨_, rfl, ?_⟩)
    | with_reducible refine s_seq ?_
    | with_reducible refine s_if ?_
    | with_reducible refine s_ret ?_
    | with_reducible refine s_set ?_
    | with_reducible refine s_asg ?_
    | with_reducible refine s_par ?_
    | with_reducible refine s_next ?_
    | with_reducible refine s_retN ?_
    | with_reducible refine s_drop ?_
    | with_reducible refine e_int ?_
    | with_reducible refine e_str ?_
    | with_reducible refine e_bl ?_
    | with_reducible refine e_non ?_
    | with_reducible refine e_raw ?_
    | with_reducible refine e_op ?_
    | with_reducible refine e_un ?_
    | with_reducible refine e_cb ?_
    | with_reducible refine a_cons ?_
    | with_reducible refine a_nil ?_
    | with_reducible refine t_test ?_
    | with_reducible refine t_B ?_
    | with_reducible refine t_and ?_
    | with_reducible refine t_or ?_
    | with_reducible refine t_not ?_
    | with_reducible refine e_if ?_
    | with_reducible refine e_andV ?_
    | with_reducible refine e_orV ?_
    | with_reducible refine e_notV ?_
    | with_reducible refine e_chain ?_
    | with_reducible refine e_chain3 ?_
    | with_reducible refine rd_addI ?_
    | with_reducible refine rd_sub ?_
    | with_reducible refine rd_lt ?_
    | with_reducible refine rd_le ?_
    | with_reducible refine rd_gt ?_
    | with_reducible refine rd_ge ?_
    | with_reducible refine rd_eqI ?_
    | with_reducible refine rd_neI ?_
    | with_reducible refine rd_eqS ?_
    | with_reducible refine rd_neS ?_
    | with_reducible refine ru_neg ?_
    | with_reducible refine rc_int ?_
    | with_reducible refine rc_intB ?_
    | with_reducible refine rc_abs ?_
    | with_reducible refine rc_max2 ?_
    | with_reducible refine rc_min2 ?_
    | with_reducible refine rc_lenL ?_
    | with_reducible refine rc_lenT ?_
    | with_reducible refine rc_listL ?_
    | with_reducible refine rc_tupL ?_
    | with_reducible refine rc_tupT ?_
    | with_reducible refine e_call ?_
    | with_reducible refine rd_modX ?_
    | with_reducible refine rd_divX ?_
    | with_reducible refine rd_mulX ?_
    | with_reducible refine rd_powX ?_
    | with_reducible refine rd_neNilX ?_
    | with_reducible refine rd_isI ?_
    | with_reducible refine rd_isL ?_
    | with_reducible refine rd_isT ?_
    | with_reducible refine rd_isS ?_
    | with_reducible refine rd_isNn ?_
    | with_reducible refine rd_isNI ?_
    | with_reducible refine rd_isNL ?_
    | with_reducible refine rd_isNT ?_
    | with_reducible refine rd_isNS ?_
    | with_reducible refine rd_isNNn ?_
    | with_reducible refine rc_allX ?_
    | with_reducible refine rc_anyX ?_
    | with_reducible refine t_yes ?_
    | with_reducible refine rd_addLX ?_
    | with_reducible refine rd_addTX ?_
    | with_reducible refine rd_addSX ?_
    | with_reducible refine rd_inIntsX ?_
    | with_reducible refine o_none ?_
    | with_reducible refine o_some ?_
    | with_reducible refine i_rng1 ?_
    | with_reducible refine i_rng2 ?_
    | with_reducible refine i_zip ?_
    | with_reducible refine e_fld ?_
    | with_reducible refine e_tup ?_
    | with_reducible refine e_lst ?_
    | with_reducible refine rd_is rfl ?_ | with_reducible refine rd_isN rfl ?_
    | ((with_reducible refine rc_isiBX ?_); refine ⟨_, rfl, _, rfl, ?_⟩)
    | ((with_reducible refine e_isi2X ?_))
    | refine ⟨_, _, g_tup (gs_cons g_name (gs_cons g_name gs_nil)) rfl, ?_⟩
    | refine ⟨_, _, g_tup (gs_cons g_name (gs_cons g_name (gs_cons g_name gs_nil))) rfl, ?_⟩
    | refine ⟨_, _, g_tup (gs_cons g_name (gs_cons g_name (gs_cons g_name (gs_cons g_name gs_nil)))) rfl, ?_⟩
    | with_reducible refine Or.inl ⟨_, rfl, ?_⟩ | with_reducible refine Or.inr ⟨_, rfl, ?_⟩
    | with_reducible refine ⟨_, rfl, ?_⟩ | with_reducible refine ⟨rfl, ?_⟩ | with_reducible refine ⟨_, _, rfl, ?_⟩ | with_reducible refine ⟨_, _, _, rfl, ?_⟩ | with_reducible refine ⟨_, _, rfl, rfl, ?_⟩ | with_reducible refine ⟨fun _ => ?_, fun _ => ?_⟩ | with_reducible refine fun (_ : _ = true) => ?_ | with_reducible exact rfl | with_reducible refine And.intro ((by simp; done : List.length _ ≤ 100000)) ?_ | with_reducible refine And.intro ((by simp only [List.length_map, List.length_append, List.length_cons, List.length_nil]; omega : List.length _ + List.length _ ≤ 100000)) ?_ | with_reducible refine And.intro (by omega) ?_ | with_reducible refine And.intro (by simp only [List.length_map]; omega) ?_ | with_reducible refine And.intro ((by first | omega | decide : (0 : Int) ≤ _ ∧ _ ≤ 1000000 ∧ Int.natAbs _ < 2 ^ 64)) ?_ | fail)
      · refine ⟨?_, rfl⟩
        have e1 : ((0 : Int) + (i : Nat)).toNat = i := by omega
        rw [e1, List.getElem?_eq_getElem hi'] at hz2
        obtain rfl : ns[i] = z := by simpa using hz2
        show D.tup (r.map D.int ++ [D.int ns[i]]) = D.tup ((r ++ [ns[i]]).map D.int)
        rw [List.map_append]; rfl
    · have hf := List.length_filter_le (fun r : List Int => decide ((r.length : Int) < m)) (rowsP (ns.take i) m)
      refine ⟨by rw [List.length_map, List.length_map]; omega, rfl, rfl, some (.int (0 + (i : Nat))), ?_⟩
      have et : ns.take (i + 1) = ns.take i ++ [ns[i]] := by rw [List.take_succ, List.getElem?_eq_getElem hi']; rfl
      rw [et, rowsP_snoc, List.map_append, List.map_map]
      rfl
  · rintro ds' n' ⟨rfl, v, rfl⟩
    have et : ns.take (rgD 0 ((ns.map D.int).length : Int).toNat).length = ns := by
      rw [rgD_len, List.length_map, Int.toNat_natCast, List.take_length]
    rw [et]
    have hl : (rowsP ns m).length ≤ 1024 := by
      have h1 := rowsP_len ns m
      have h2 : (2 : Nat) ^ ns.length ≤ 2 ^ 10 := Nat.pow_le_pow_right (by decide) hz
      omega
    repeat' (first
    | exact absurd ‹false = true› (by decide) | exact absurd ‹true = false› (by decide)
    | refine e_lcGX ⟨rowD, fun r => decide ((r.length : Int) = m), rowD, fun _ => rfl, ?_⟩
    | refine And.intro (fun r hr => ?_) ?_
    | ((with_reducible refine s_cellX ?_); refine ⟨_, rfl, rfl, _, rfl, fun _ => ?_, ?_⟩)
    | ((with_reducible refine e_pen2X ?_); refine ⟨_, rfl, rfl, fun _ _ => ?_⟩)
    | ((with_reducible refine e_pen1X ?_); refine ⟨_, rfl, rfl, fun _ _ _ => ?_⟩)
    | ((with_reducible refine e_pen0X ?_); refine ⟨_, rfl, rfl, fun _ _ => ?_⟩)
    | ((with_reducible refine s_pen2X ?_); refine ⟨_, rfl, rfl, ?_⟩)
    | ((with_reducible refine s_pen1X ?_); refine ⟨_, rfl, rfl, ?_⟩)
    | ((with_reducible refine e_varX ?_); refine ⟨_, rfl, rfl, ?_⟩)
    | ((with_reducible refine e_slLV ?_); refine ⟨_, rfl, ?_⟩)
    | ((with_reducible refine e_slTV ?_); refine ⟨_, rfl, ?_⟩)
    | ((with_reducible refine i_listV ?_); refine ⟨_, rfl, ?_⟩)
    | ((with_reducible refine i_tupV ?_); refine ⟨_, rfl, ?_⟩)
    | with_reducible refine rd_ixIntsX ⟨⟨?_, ?_⟩, fun _ _ _ => ?_⟩
    | ((with_reducible refine rd_ixLX ?_); refine ⟨_, rfl, ?_⟩)
    | ((with_reducible refine rd_ixTX ?_); refine ⟨_, rfl, ?_⟩)
    | with_reducible refine s_seq ?_
    | with_reducible refine s_if ?_
    | with_reducible refine s_ret ?_
    | with_reducible refine s_set ?_
    | with_reducible refine s_asg ?_
    | with_reducible refine s_par ?_
    | with_reducible refine s_next ?_
    | with_reducible refine s_retN ?_
    | with_reducible refine s_drop ?_
    | with_reducible refine e_int ?_
    | with_reducible refine e_str ?_
    | with_reducible refine e_bl ?_
    | with_reducible refine e_non ?_
    | with_reducible refine e_raw ?_
    | with_reducible refine e_op ?_
    | with_reducible refine e_un ?_
    | with_reducible refine e_cb ?_
    | with_reducible refine a_cons ?_
    | with_reducible refine a_nil ?_
    | with_reducible refine t_test ?_
    | with_reducible refine t_B ?_
    | with_reducible refine t_and ?_
    | with_reducible refine t_or ?_
    | with_reducible refine t_not ?_
    | with_reducible refine e_if ?_
    | with_reducible refine e_andV ?_
    | with_reducible refine e_orV ?_
    | with_reducible refine e_notV ?_
    | with_reducible refine e_chain ?_
    | with_reducible refine e_chain3 ?_
    | with_reducible refine rd_addI ?_
    | with_reducible refine rd_sub ?_
    | with_reducible refine rd_lt ?_
    | with_reducible refine rd_le ?_
    | with_reducible refine rd_gt ?_
    | with_reducible refine rd_ge ?_
    | with_reducible refine rd_eqI ?_
    | with_reducible refine rd_neI ?_
    | with_reducible refine rd_eqS ?_
    | with_reducible refine rd_neS ?_
    | with_reducible refine ru_neg ?_
    | with_reducible refine rc_int ?_
    | with_reducible refine rc_intB ?_
    | with_reducible refine rc_abs ?_
    | with_reducible refine rc_max2 ?_
    | with_reducible refine rc_min2 ?_
    | with_reducible refine rc_lenL ?_
    | with_reducible refine rc_lenT ?_
    | with_reducible refine rc_listL ?_
    | with_reducible refine rc_tupL ?_
    | with_reducible refine rc_tupT ?_
    | with_reducible refine e_call ?_
    | with_reducible refine rd_modX ?_
    | with_reducible refine rd_divX ?_
    | with_reducible refine rd_mulX ?_
    | with_reducible refine rd_powX ?_
    | with_reducible refine rd_neNilX ?_
    | with_reducible refine rd_isI ?_
    | with_reducible refine rd_isL ?_
    | with_reducible refine rd_isT ?_
    | with_reducible refine rd_isS ?_
    | with_reducible refine rd_isNn ?_
    | with_reducible refine rd_isNI ?_
    | with_reducible refine rd_isNL ?_
    | with_reducible refine rd_isNT ?_
    | with_reducible refine rd_isNS ?_
    | with_reducible refine rd_isNNn ?_
    | with_reducible refine rc_allX ?_
    | with_reducible refine rc_anyX ?_
    | with_reducible refine t_yes ?_
    | with_reducible refine rd_addLX ?_
    | with_reducible refine rd_addTX ?_
    | with_reducible refine rd_addSX ?_
    | with_reducible refine rd_inIntsX ?_
    | with_reducible refine o_none ?_
    | with_reducible refine o_some ?_
    | with_reducible refine i_rng1 ?_
    | with_reducible refine i_rng2 ?_
    | with_reducible refine i_zip ?_
    | with_reducible refine e_fld ?_
    | with_reducible refine e_tup ?_
    | with_reducible refine e_lst ?_
    | with_reducible refine rd_is rfl ?_ | with_reducible refine rd_isN rfl ?_
    | ((with_reducible refine rc_isiBX ?_); refine ⟨_, rfl, _, rfl, ?_⟩)
    | ((with_reducible refine e_isi2X ?_))
    | refine ⟨_, _, g_tup (gs_cons g_name (gs_cons g_name gs_nil)) rfl, ?_⟩
    | refine ⟨_, _, g_tup (gs_cons g_name (gs_cons g_name (gs_cons g_name gs_nil))) rfl, ?_⟩
    | refine ⟨_, _, g_tup (gs_cons g_name (gs_cons g_name (gs_cons g_name (gs_cons g_name gs_nil)))) rfl, ?_⟩
    | with_reducible refine Or.inl ⟨_, rfl, ?_⟩ | with_reducible refine Or.inr ⟨_, rfl, ?_⟩
    | with_reducible refine ⟨_, rfl, ?_⟩ | with_reducible refine ⟨rfl, ?_⟩ | with_reducible refine ⟨_, _, rfl, ?_⟩ | with_reducible refine ⟨_, _, _, rfl, ?_⟩ | with_reducible refine ⟨_, _, rfl, rfl, ?_⟩ | with_reducible refine ⟨fun _ => ?_, fun _ => ?_⟩ | with_reducible refine fun (_ : _ = true) => ?_ | with_reducible exact rfl | with_reducible refine And.intro ((by simp; done : List.length _ ≤ 100000)) ?_ | with_reducible refine And.intro ((by simp only [List.length_map, List.length_append, List.length_cons, List.length_nil]; omega : List.length _ + List.length _ ≤ 100000)) ?_ | with_reducible refine And.intro (by omega) ?_ | with_reducible refine And.intro (by simp only [List.length_map]; omega) ?_ | with_reducible refine And.intro ((by first | omega | decide : (0 : Int) ≤ _ ∧ _ ≤ 1000000 ∧ Int.natAbs _ < 2 ^ 64)) ?_ | fail)
    · refine ⟨by rw [List.length_map], rfl, fun hb => ?_⟩
      repeat' (first
    | exact absurd ‹false = true› (by decide) | exact absurd ‹true = false› (by decide)
    | ((with_reducible refine s_cellX ?_); refine ⟨_, rfl, rfl, _, rfl, fun _ => ?_, ?_⟩)
    | ((with_reducible refine e_pen2X ?_); refine ⟨_, rfl, rfl, fun _ _ => ?_⟩)
    | ((with_reducible refine e_pen1X ?_); refine ⟨_, rfl, rfl, fun _ _ _ => ?_⟩)
    | ((with_reducible refine e_pen0X ?_); refine ⟨_, rfl, rfl, fun _ _ => ?_⟩)
    | ((with_reducible refine s_pen2X ?_); refine ⟨_, rfl, rfl, ?_⟩)
    | ((with_reducible refine s_pen1X ?_); refine ⟨_, rfl, rfl, ?_⟩)
    | ((with_reducible refine e_varX ?_); refine ⟨_, rfl, rfl, ?_⟩)
    | ((with_reducible refine e_slLV ?_); refine ⟨_, rfl, ?_⟩)
    | ((with_reducible refine e_slTV ?_); refine ⟨_, rfl, ?_⟩)
    | ((with_reducible refine i_listV ?_); refine ⟨_, rfl, ?_⟩)
    | ((with_reducible refine i_tupV ?_); refine ⟨_, rfl, ?_⟩)
    | with_reducible refine rd_ixIntsX ⟨⟨?_, ?_⟩, fun _ _ _ => ?_⟩
    | ((with_reducible refine rd_ixLX ?_); refine ⟨_, rfl, ?_⟩)
    | ((with_reducible refine rd_ixTX ?_); refine ⟨_, rfl, ?_⟩)
    | with_reducible refine s_seq ?_
    | with_reducible refine s_if ?_
    | with_reducible refine s_ret ?_
    | with_reducible refine s_set ?_
    | with_reducible refine s_asg ?_
    | with_reducible refine s_par ?_
    | with_reducible refine s_next ?_
    | with_reducible refine s_retN ?_
    | with_reducible refine s_drop ?_
    | with_reducible refine e_int ?_
    | with_reducible refine e_str ?_
    | with_reducible refine e_bl ?_
    | with_reducible refine e_non ?_
    | with_reducible refine e_raw ?_
    | with_reducible refine e_op ?_
    | with_reducible refine e_un ?_
    | with_reducible refine e_cb ?_
    | with_reducible refine a_cons ?_
    | with_reducible refine a_nil ?_
    | with_reducible refine t_test ?_
    | with_reducible refine t_B ?_
    | with_reducible refine t_and ?_
    | with_reducible refine t_or ?_
    | with_reducible refine t_not ?_
    | with_reducible refine e_if ?_
    | with_reducible refine e_andV ?_
    | with_reducible refine e_orV ?_
    | with_reducible refine e_notV ?_
    | with_reducible refine e_chain ?_
    | with_reducible refine e_chain3 ?_
    | with_reducible refine rd_addI ?_
    | with_reducible refine rd_sub ?_
    | with_reducible refine rd_lt ?_
    | with_reducible refine rd_le ?_
    | with_reducible refine rd_gt ?_
    | with_reducible refine rd_ge ?_
    | with_reducible refine rd_eqI ?_
    | with_reducible refine rd_neI ?_
    | with_reducible refine rd_eqS ?_
    | with_reducible refine rd_neS ?_
    | with_reducible refine ru_neg ?_
    | with_reducible refine rc_int ?_
    | with_reducible refine rc_intB ?_
    | with_reducible refine rc_abs ?_
    | with_reducible refine rc_max2 ?_
    | with_reducible refine rc_min2 ?_
    | with_reducible refine rc_lenL ?_
    | with_reducible refine rc_lenT ?_
    | with_reducible refine rc_listL ?_
    | with_reducible refine rc_tupL ?_
    | with_reducible refine rc_tupT ?_
    | with_reducible refine e_call ?_
    | with_reducible refine rd_modX ?_
    | with_reducible refine rd_divX ?_
    | with_reducible refine rd_mulX ?_
    | with_reducible refine rd_powX ?_
    | with_reducible refine rd_neNilX ?_
    | with_reducible refine rd_isI ?_
    | with_reducible refine rd_isL ?_
    | with_reducible refine rd_isT ?_
    | with_reducible refine rd_isS ?_
    | with_reducible refine rd_isNn ?_
    | with_reducible refine rd_isNI ?_
    | with_reducible refine rd_isNL ?_
    | with_reducible refine rd_isNT ?_
    | with_reducible refine rd_isNS ?_
    | with_reducible refine rd_isNNn ?_
    | with_reducible refine rc_allX ?_
    | with_reducible refine rc_anyX ?_
    | with_reducible refine t_yes ?_
    | with_reducible refine rd_addLX ?_
    | with_reducible refine rd_addTX ?_
    | with_reducible refine rd_addSX ?_
    | with_reducible refine rd_inIntsX ?_
    | with_reducible refine o_none ?_
    | with_reducible refine o_some ?_
    | with_reducible refine i_rng1 ?_
    | with_reducible refine i_rng2 ?_
    | with_reducible refine i_zip ?_
    | with_reducible refine e_fld ?_
    | with_reducible refine e_tup ?_
    | with_reducible refine e_lst ?_
    | with_reducible refine rd_is rfl ?_ | with_reducible refine rd_isN rfl ?_
    | ((with_reducible refine rc_isiBX ?_); refine ⟨_, rfl, _, rfl, ?_⟩)
    | ((with_reducible refine e_isi2X ?_))
    | refine ⟨_, _, g_tup (gs_cons g_name (gs_cons g_name gs_nil)) rfl, ?_⟩
    | refine ⟨_, _, g_tup (gs_cons g_name (gs_cons g_name (gs_cons g_name gs_nil))) rfl, ?_⟩
    | refine ⟨_, _, g_tup (gs_cons g_name (gs_cons g_name (gs_cons g_name (gs_cons g_name gs_nil)))) rfl, ?_⟩
    | with_reducible refine Or.inl ⟨_, rfl, ?_⟩ | with_reducible refine Or.inr ⟨_, rfl, ?_⟩
    | with_reducible refine ⟨_, rfl, ?_⟩ | with_reducible refine ⟨rfl, ?_⟩ | with_reducible refine ⟨_, _, rfl, ?_⟩ | with_reducible refine ⟨_, _, _, rfl, ?_⟩ | with_reducible refine ⟨_, _, rfl, rfl, ?_⟩ | with_reducible refine ⟨fun _ => ?_, fun _ => ?_⟩ | with_reducible refine fun (_ : _ = true) => ?_ | with_reducible exact rfl | with_reducible refine And.intro ((by simp; done : List.length _ ≤ 100000)) ?_ | with_reducible refine And.intro ((by simp only [List.length_map, List.length_append, List.length_cons, List.length_nil]; omega : List.length _ + List.length _ ≤ 100000)) ?_ | with_reducible refine And.intro (by omega) ?_ | with_reducible refine And.intro (by simp only [List.length_map]; omega) ?_ | with_reducible refine And.intro ((by first | omega | decide : (0 : Int) ≤ _ ∧ _ ≤ 1000000 ∧ Int.natAbs _ < 2 ^ 64)) ?_ | fail)
    · exact kup_of hk
end
end K51
set_option Elab.async false
set_option maxRecDepth 100000
set_option maxHeartbeats 4000000
set_option linter.all false
set_option autoImplicit false
namespace K51
open PySem PySem.Spec PyProof.Rows L2 DW
def rgI (lo : Int) (c : Nat) : List Int := (List.range c).map fun i => lo + (i : Nat)
theorem rgI_len (lo : Int) (c : Nat) : (rgI lo c).length = c := by unfold rgI; simp
theorem mem_rgI {lo x : Int} {c : Nat} : x ∈ rgI lo c ↔ lo ≤ x ∧ x < lo + c := by
  unfold rgI
  rw [List.mem_map]
  constructor
  · rintro ⟨i, hi, rfl⟩
    have := List.mem_range.mp hi
    omega
  · rintro ⟨h1, h2⟩
    exact ⟨(x - lo).toNat, List.mem_range.mpr (by omega), by omega⟩
theorem nodup_rgI (lo : Int) (c : Nat) : (rgI lo c).Nodup := by
  unfold rgI
  rw [List.nodup_iff_pairwise_ne, List.pairwise_map]
  exact (List.nodup_iff_pairwise_ne.mp List.nodup_range).imp fun h z => h (by omega)
theorem same_len {a b : List Int} (ha : a.Nodup) (hb : b.Nodup) (h : ∀ x, x ∈ a ↔ x ∈ b) : a.length = b.length := ((List.perm_ext_iff_of_nodup ha hb).mpr h).length_eq
theorem inner_eq {st sp f l : Int} {am : Option (List Int)} (hd : ∀ ns, am = some ns → ns.Nodup) (hfl : f < l) : (((rgI (f + 1) (l - (f + 1)).toNat).filter (askedP st sp am)).length : Int) = betweenP st sp am (f + 1) l := by
  cases am with
  | none =>
    have e : ((rgI (f + 1) (l - (f + 1)).toNat).filter (askedP st sp none)).length = (rgI (max st (f + 1)) (min sp l - max st (f + 1)).toNat).length := by
      refine same_len ((nodup_rgI _ _).filter _) (nodup_rgI _ _) fun x => ?_
      rw [List.mem_filter, mem_rgI, mem_rgI]
      simp only [askedP, inA, Bool.and_true, Bool.and_eq_true, decide_eq_true_eq]
      constructor
      · rintro ⟨⟨h1, h2⟩, h3, h4⟩
        omega
      · rintro ⟨h1, h2⟩
        omega
    rw [e, rgI_len]
    unfold betweenP
    simp only
    omega
  | some ns =>
    rw [between_some]
    congr 1
    refine same_len ((nodup_rgI _ _).filter _) ((hd ns rfl).filter _) fun x => ?_
    rw [List.mem_filter, mem_rgI, List.mem_filter]
    simp only [askedP, inA, Bool.and_eq_true, decide_eq_true_eq]
    constructor
    · rintro ⟨⟨h1, h2⟩, h3, h4, h5⟩
      exact ⟨h5, by omega, by omega, h3, h4, h5⟩
    · rintro ⟨h5, h1, h2, h3, h4, _⟩
      exact ⟨⟨by omega, by omega⟩, h3, h4, h5⟩
def tlP (c l : Int) : List Int := if 1 < c then [l] else []
def fullP (c f l : Int) (r : List Int) : List Int := [f] ++ r ++ tlP c l
def cntP (c f l st sp : Int) (am : Option (List Int)) (r : List Int) : Int := (((fullP c f l r).filter (askedP st sp am)).length : Int)
def RP (c f l : Int) : List (List Int) := if 1 < c then chosenP (rgI (f + 1) (l - (f + 1)).toNat) (c - 2) else [[]]
theorem cnt_more {c f l st sp : Int} {am : Option (List Int)} (hc : 1 < c) (r : List Int) : cntP c f l st sp am r = (if askedP st sp am f then 1 else 0) + ((r.filter (askedP st sp am)).length : Int) + (if askedP st sp am l then 1 else 0) := by
  unfold cntP fullP tlP
  rw [if_pos hc, List.filter_append, List.filter_append, List.length_append, List.length_append]
  have e : ∀ x : Int, ((List.filter (askedP st sp am) [x]).length : Int) = if askedP st sp am x then 1 else 0 := fun x => by
    rw [List.filter_cons]
    split <;> rfl
  rw [Int.natCast_add, Int.natCast_add, e, e]
theorem cnt_one {c f l st sp : Int} {am : Option (List Int)} (hc : ¬ 1 < c) : cntP c f l st sp am [] = (if askedP st sp am f then 1 else 0) := by
  unfold cntP fullP tlP
  rw [if_neg hc, List.append_nil, List.append_nil, List.filter_cons]
  split <;> rfl
structure Fit (c f l : Int) : Prop where
  c1 : 1 ≤ c
  c5 : c ≤ 5
  one : c = 1 → l = f
  more : c ≠ 1 → f + c - 1 ≤ l ∧ l ≤ f + c + 2
/-- the plain law -/
theorem tried_law {c f l st sp a b : Int} {am : Option (List Int)} (hd : ∀ ns, am = some ns → ns.Nodup) (F : Fit c f l) (ha : a ∈ (RP c f l).map (cntP c f l st sp am)) (ha' : ∀ y, y ∈ (RP c f l).map (cntP c f l st sp am) → a ≤ y)
    (hb : b ∈ (RP c f l).map (cntP c f l st sp am)) (hb' : ∀ y, y ∈ (RP c f l).map (cntP c f l st sp am) → y ≤ b) : ptsP c f l st sp am = (a, b) := by
  by_cases hc : c = 1
  · rw [ptsP_one hd hc]
    have hc' : ¬ 1 < c := by omega
    unfold RP at ha hb
    rw [if_neg hc', List.map_singleton, List.mem_singleton, cnt_one hc'] at ha hb
    rw [ha, hb]
  · have hc' : 1 < c := by have := F.c1; omega
    rw [pts_more hd hc]
    have hm := F.more hc
    have hL : (rgI (f + 1) (l - (f + 1)).toNat).length = (l - (f + 1)).toNat := rgI_len _ _
    have hin := inner_eq (st := st) (sp := sp) hd (show f < l by omega)
    have hsp := split_len (p := askedP st sp am) (rgI (f + 1) (l - (f + 1)).toNat)
    unfold RP at ha ha' hb hb'
    rw [if_pos hc'] at ha ha' hb hb'
    generalize hLd : rgI (f + 1) (l - (f + 1)).toNat = L at *
    have hc2 : (0 : Int) ≤ c - 2 := by omega
    have hle : (c - 2).toNat ≤ L.length := by omega
    obtain ⟨r1, s1, l1, e1⟩ := best (p := askedP st sp am) L (c - 2).toNat hle
    obtain ⟨r2, s2, l2, e2⟩ := worst (p := askedP st sp am) L (c - 2).toNat hle
    have m1 : r1 ∈ chosenP L (c - 2) := (mem_chosenP L _ hc2 r1).mpr ⟨s1, by omega⟩
    have m2 : r2 ∈ chosenP L (c - 2) := (mem_chosenP L _ hc2 r2).mpr ⟨s2, by omega⟩
    have b1 := hb' _ (List.mem_map_of_mem m1)
    have a2 := ha' _ (List.mem_map_of_mem m2)
    rw [cnt_more hc'] at b1 a2
    obtain ⟨ra, mra, rfl⟩ := List.mem_map.mp ha
    obtain ⟨rb, mrb, rfl⟩ := List.mem_map.mp hb
    obtain ⟨sa, la⟩ := (mem_chosenP L _ hc2 ra).mp mra
    obtain ⟨sb, lb⟩ := (mem_chosenP L _ hc2 rb).mp mrb
    have ba := row_bounds (p := askedP st sp am) sa
    have bb := row_bounds (p := askedP st sp am) sb
    rw [cnt_more hc'] at a2 ⊢
    rw [cnt_more hc'] at b1 ⊢
    generalize (if askedP st sp am f then (1 : Int) else 0) = u at *
    generalize (if askedP st sp am l then (1 : Int) else 0) = v at *
    ext
    · simp only; omega
    · simp only; omega
abbrev triedSp : DSpW := fun w es n k => ∃ c f l t lo hi kind num st sp am, es = [hT c f l t lo hi, qT kind num st sp am] ∧ Fit c f l ∧ (∀ ns, am = some ns → ns.Nodup) ∧ 0 ≤ f ∧ f ≤ 10 ∧ k (.tup [.int (ptsP c f l st sp am).1, .int (ptsP c f l st sp am).2]) n
section
variable {K : PySem.W.Frag} {w : Option Addr} {n : Nat} {k : Kn} {es : List D}
theorem RP_bound {c f l : Int} (F : Fit c f l) : (RP c f l).length ≤ 1024 ∧ 0 < (RP c f l).length ∧ ∀ r ∈ RP c f l, r.length ≤ 10 := by
  unfold RP
  by_cases hc : 1 < c
  · rw [if_pos hc]
    have hm := F.more (by omega)
    have h5 := F.c5
    have hL : (rgI (f + 1) (l - (f + 1)).toNat).length = (l - (f + 1)).toNat := rgI_len _ _
    generalize rgI (f + 1) (l - (f + 1)).toNat = L at *
    have hc2 : (0 : Int) ≤ c - 2 := by omega
    refine ⟨?_, ?_, fun r hr => ?_⟩
    · have h1 := List.length_filter_le (fun r : List Int => decide ((r.length : Int) = c - 2)) (rowsP L (c - 2))
      have h2 := rowsP_len L (c - 2)
      have h3 : (2 : Nat) ^ L.length ≤ 2 ^ 10 := Nat.pow_le_pow_right (by decide) (by omega)
      unfold chosenP
      omega
    · obtain ⟨r1, s1, l1, e1⟩ := best (p := fun _ => true) L (c - 2).toNat (by omega)
      exact List.length_pos_of_mem ((mem_chosenP L _ hc2 r1).mpr ⟨s1, by omega⟩)
    · have := ((mem_chosenP L _ hc2 r).mp hr).2
      omega
  · rw [if_neg hc]
    exact ⟨by decide, by decide, fun r hr => by rw [List.mem_singleton.mp hr]; decide⟩
theorem w__law_tried (h : triedSp w es n k) : WpS K w (r__law_tried K (toSp K chosenSp) (toSp K askedSp)) (dstart ["hole", "question", "many", "first", "last", "counts", "row", "moments", "moment"] es) n { nx := fun _ n' => kup k .non n', rt := kup k } := by
  obtain ⟨c, f, l, t, lo, hi, kind, num, st, sp, am, rfl, F, hd, hf0, hf1, hk⟩ := h
  have hRb := RP_bound F
  have F1 := F.c1
  have F5 := F.c5
  unfold r__law_tried
  refine s_seq ?_
  repeat' (first
    | exact absurd ‹false = true› (by decide) | exact absurd ‹true = false› (by decide)
    | with_reducible refine s_own (i := 5) (f_lst (a_nil ⟨by decide, ?_⟩))
    | ((with_reducible refine s_cellX ?_); refine ⟨_, rfl, rfl, _, rfl, fun _ => ?_, ?_⟩)
    | ((with_reducible refine e_pen2X ?_); refine ⟨_, rfl, rfl, fun _ _ => ?_⟩)
    | ((with_reducible refine e_pen1X ?_); refine ⟨_, rfl, rfl, fun _ _ _ => ?_⟩)
    | ((with_reducible refine e_pen0X ?_); refine ⟨_, rfl, rfl, fun _ _ => ?_⟩)
    | ((with_reducible refine s_pen2X ?_); refine ⟨_, rfl, rfl, ?_⟩)
    | ((with_reducible refine s_pen1X ?_); refine ⟨_, rfl, rfl, ?_⟩)
    | ((with_reducible refine e_varX ?_); refine ⟨_, rfl, rfl, ?_⟩)
    | ((with_reducible refine e_slLV ?_); refine ⟨_, rfl, ?_⟩)
    | ((with_reducible refine e_slTV ?_); refine ⟨_, rfl, ?_⟩)
    | ((with_reducible refine s_appX ?_); refine ⟨_, rfl, ?_⟩)
    | ((with_reducible refine i_listV ?_); refine ⟨_, rfl, ?_⟩)
    | ((with_reducible refine i_tupV ?_); refine ⟨_, rfl, ?_⟩)
    | with_reducible refine rd_ixIntsX ⟨⟨?_, ?_⟩, fun _ _ _ => ?_⟩
    | ((with_reducible refine rd_ixLX ?_); refine ⟨_, rfl, ?_⟩)
    | ((with_reducible refine rd_ixTX ?_); refine ⟨_, rfl, ?_⟩)
    | with_reducible refine s_seq ?_
    | with_reducible refine s_if ?_
    | with_reducible refine s_ret ?_
    | with_reducible refine s_set ?_
    | with_reducible refine s_asg ?_
    | with_reducible refine s_par ?_
    | with_reducible refine s_next ?_
    | with_reducible refine s_retN ?_
    | with_reducible refine s_drop ?_
    | with_reducible refine e_int ?_
    | with_reducible refine e_str ?_
    | with_reducible refine e_bl ?_
    | with_reducible refine e_non ?_
    | with_reducible refine e_raw ?_
    | with_reducible refine e_op ?_
    | with_reducible refine e_un ?_
    | with_reducible refine e_cb ?_
    | with_reducible refine a_cons ?_
    | with_reducible refine a_nil ?_
    | with_reducible refine t_test ?_
    | with_reducible refine t_B ?_
    | with_reducible refine t_and ?_
    | with_reducible refine t_or ?_
    | with_reducible refine t_not ?_
    | with_reducible refine e_if ?_
    | with_reducible refine e_andV ?_
    | with_reducible refine e_orV ?_
    | with_reducible refine e_notV ?_
    | with_reducible refine e_chain ?_
    | with_reducible refine e_chain3 ?_
    | with_reducible refine rd_addI ?_
    | with_reducible refine rd_sub ?_
    | with_reducible refine rd_lt ?_
    | with_reducible refine rd_le ?_
    | with_reducible refine rd_gt ?_
    | with_reducible refine rd_ge ?_
    | with_reducible refine rd_eqI ?_
    | with_reducible refine rd_neI ?_
    | with_reducible refine rd_eqS ?_
    | with_reducible refine rd_neS ?_
    | with_reducible refine ru_neg ?_
    | with_reducible refine rc_int ?_
    | with_reducible refine rc_intB ?_
    | with_reducible refine rc_abs ?_
    | with_reducible refine rc_max2 ?_
    | with_reducible refine rc_min2 ?_
    | with_reducible refine rc_lenL ?_
    | with_reducible refine rc_lenT ?_
    | with_reducible refine rc_listL ?_
    | with_reducible refine rc_tupL ?_
    | with_reducible refine rc_tupT ?_
    | with_reducible refine e_call ?_
    | with_reducible refine rd_modX ?_
    | with_reducible refine rd_divX ?_
    | with_reducible refine rd_mulX ?_
    | with_reducible refine rd_powX ?_
    | with_reducible refine rd_neNilX ?_
    | with_reducible refine rd_isI ?_
    | with_reducible refine rd_isL ?_
    | with_reducible refine rd_isT ?_
    | with_reducible refine rd_isS ?_
    | with_reducible refine rd_isNn ?_
    | with_reducible refine rd_isNI ?_
    | with_reducible refine rd_isNL ?_
    | with_reducible refine rd_isNT ?_
    | with_reducible refine rd_isNS ?_
    | with_reducible refine rd_isNNn ?_
    | with_reducible refine rc_allX ?_
    | with_reducible refine rc_anyX ?_
    | with_reducible refine t_yes ?_
    | with_reducible refine rd_addLX ?_
    | with_reducible refine rd_addTX ?_
    | with_reducible refine rd_addSX ?_
    | with_reducible refine rd_inIntsX ?_
    | with_reducible refine o_none ?_
    | with_reducible refine o_some ?_
    | with_reducible refine i_rng1 ?_
    | with_reducible refine i_rng2 ?_
    | with_reducible refine i_zip ?_
    | with_reducible refine e_fld ?_
    | with_reducible refine e_tup ?_
    | with_reducible refine e_lst ?_
    | with_reducible refine rd_is rfl ?_ | with_reducible refine rd_isN rfl ?_
    | ((with_reducible refine rc_isiBX ?_); refine ⟨_, rfl, _, rfl, ?_⟩)
    | ((with_reducible refine e_isi2X ?_))
    | refine ⟨_, _, g_tup (gs_cons g_name (gs_cons g_name gs_nil)) rfl, ?_⟩
    | refine ⟨_, _, g_tup (gs_cons g_name (gs_cons g_name (gs_cons g_name gs_nil))) rfl, ?_⟩
    | refine ⟨_, _, g_tup (gs_cons g_name (gs_cons g_name (gs_cons g_name (gs_cons g_name gs_nil)))) rfl, ?_⟩
    | with_reducible refine Or.inl ⟨_, rfl, ?_⟩ | with_reducible refine Or.inr ⟨_, rfl, ?_⟩
    | with_reducible refine ⟨_, rfl, ?_⟩ | with_reducible refine ⟨rfl, ?_⟩ | with_reducible refine ⟨_, _, rfl, ?_⟩ | with_reducible refine ⟨_, _, _, rfl, ?_⟩ | with_reducible refine ⟨_, _, rfl, rfl, ?_⟩ | with_reducible refine ⟨fun _ => ?_, fun _ => ?_⟩ | with_reducible refine fun (_ : _ = true) => ?_ | with_reducible exact rfl | with_reducible refine And.intro ((by simp <;> fail : List.length _ ≤ 100000)) ?_ | with_reducible refine And.intro ((by simp only [List.length_map, List.length_append, List.length_cons, List.length_nil]; omega : List.length _ + List.length _ ≤ 100000)) ?_ | with_reducible refine And.intro (by omega) ?_ | with_reducible refine And.intro (by simp only [List.length_map]; omega) ?_ | with_reducible refine And.intro ((by first | omega | decide : (0 : Int) ≤ _ ∧ _ ≤ 1000000 ∧ Int.natAbs _ < 2 ^ 64)) ?_ | fail)
  refine s_for ?_
  have key : ∀ items : List D, items = (RP c f l).map rowD → ∃ I : Nat → List (Option D) → Nat → Prop, I 0 [some (hT c f l t lo hi), some (qT kind num st sp am), some (.int c), some (.int f), some (.int l), some (.own []), none, none, none] n ∧
      (∀ i x ds1 n', items[i]? = some x → I i ds1 n' → ∃ ds2 vs, GD K w (gName 6) x ds1 ds2 vs ∧ WpS K w
        (tSeq (tAsg (tOp (rAddU K) (tOp (rAddU K) (tTup (tCons (tVar 3) tNil)) (tVar 6)) (tIf (tTest (tOp (rI0 fun i j => .bl (decide (j < i))) (tVar 2) (tC (.int 1)))) (tTup (tCons (tVar 4) tNil)) (tTup tNil))) (gName 7)) (tDrop (tBM K "list" rAppend (tVar 5) (tCons (tCB (rLenU K) (tCons (tLc (iSeq K (tVar 7)) (gName 8) (tB (tCall (toSp K askedSp) [] E0 (tCons (tVar 1) (tCons (tVar 8) tNil)))) (tVar 8) [8]) tNil)) tNil))))
        ds2 n' { nx := I (i + 1), rt := kup k, bk := fun ds1 n' => WpS K w (tRet (tTup (tCons (tCB (rMinU K) (tCons (tVar 5) tNil)) (tCons (tCB (rMaxU K) (tCons (tVar 5) tNil)) tNil)))) ds1 n' { nx := fun _ n' => kup k .non n', rt := kup k }, ct := I (i + 1) }) ∧
      ∀ ds1 n', I items.length ds1 n' → WpS K w (tRet (tTup (tCons (tCB (rMinU K) (tCons (tVar 5) tNil)) (tCons (tCB (rMaxU K) (tCons (tVar 5) tNil)) tNil)))) ds1 n' { nx := fun _ n' => kup k .non n', rt := kup k } := by
    rintro items rfl
    refine ⟨fun j ds' n' => n' = n ∧ ∃ v6 v7, ds' = [some (hT c f l t lo hi), some (qT kind num st sp am), some (.int c), some (.int f), some (.int l), some (.own ((((RP c f l).take j).map (cntP c f l st sp am)).map D.int)), v6, v7, none], ⟨rfl, none, none, rfl⟩, ?_, ?_⟩
    · rintro i x ds' n' hx ⟨rfl, v6, v7, rfl⟩
      rw [List.getElem?_map] at hx
      obtain ⟨r, hr1, rfl⟩ := Option.map_eq_some_iff.mp hx
      have hil := (List.getElem?_eq_some_iff.mp hr1).1
      have hrl := hRb.2.2 r (List.mem_of_getElem? hr1)
      refine ⟨_, _, g_name rfl, ?_⟩
      have fin : ∀ (tl : List D) (hz : (tl.length ≤ 1)), tl = (tlP c l).map D.int → WpS K w (tDrop (tBM K "list" rAppend (tVar 5) (tCons (tCB (rLenU K) (tCons (tLc (iSeq K (tVar 7)) (gName 8) (tB (tCall (toSp K askedSp) [] E0 (tCons (tVar 1) (tCons (tVar 8) tNil)))) (tVar 8) [8]) tNil)) tNil)))
          [some (hT c f l t lo hi), some (qT kind num st sp am), some (.int c), some (.int f), some (.int l), some (.own ((((RP c f l).take i).map (cntP c f l st sp am)).map D.int)), some (rowD r), some (.tup ([D.int f] ++ r.map D.int ++ tl)), none] n'
          { nx := fun ds' n'_1 => n'_1 = n' ∧ ∃ v6 v7, ds' = [some (hT c f l t lo hi), some (qT kind num st sp am), some (.int c), some (.int f), some (.int l), some (.own ((((RP c f l).take (i + 1)).map (cntP c f l st sp am)).map D.int)), v6, v7, none], rt := kup k, bk := fun ds1 n' => WpS K w (tRet (tTup (tCons (tCB (rMinU K) (tCons (tVar 5) tNil)) (tCons (tCB (rMaxU K) (tCons (tVar 5) tNil)) tNil)))) ds1 n' { nx := fun _ n' => kup k .non n', rt := kup k }, ct := fun ds' n'_1 => n'_1 = n' ∧ ∃ v6 v7, ds' = [some (hT c f l t lo hi), some (qT kind num st sp am), some (.int c), some (.int f), some (.int l), some (.own ((((RP c f l).take (i + 1)).map (cntP c f l st sp am)).map D.int)), v6, v7, none] } := by
        rintro tl hz rfl
        refine s_app rfl ?_
        repeat' (first
    | exact absurd ‹false = true› (by decide) | exact absurd ‹true = false› (by decide)
    | refine e_lcIX ⟨askedP st sp am, D.int, ?_⟩
    | refine ⟨fullP c f l r, ?_, ?_, fun z hz => ?_, ?_⟩
    | refine ⟨kind, num, st, sp, am, _, rfl, ?_⟩
    | with_reducible refine ⟨_, rfl, rfl, rfl, fun _ => ?_⟩
    | ((with_reducible refine s_cellX ?_); refine ⟨_, rfl, rfl, _, rfl, fun _ => ?_, ?_⟩)
    | ((with_reducible refine e_pen2X ?_); refine ⟨_, rfl, rfl, fun _ _ => ?_⟩)
    | ((with_reducible refine e_pen1X ?_); refine ⟨_, rfl, rfl, fun _ _ _ => ?_⟩)
    | ((with_reducible refine e_pen0X ?_); refine ⟨_, rfl, rfl, fun _ _ => ?_⟩)
    | ((with_reducible refine s_pen2X ?_); refine ⟨_, rfl, rfl, ?_⟩)
    | ((with_reducible refine s_pen1X ?_); refine ⟨_, rfl, rfl, ?_⟩)
    | ((with_reducible refine e_varX ?_); refine ⟨_, rfl, rfl, ?_⟩)
    | ((with_reducible refine e_slLV ?_); refine ⟨_, rfl, ?_⟩)
    | ((with_reducible refine e_slTV ?_); refine ⟨_, rfl, ?_⟩)
    | ((with_reducible refine s_appX ?_); refine ⟨_, rfl, ?_⟩)
    | ((with_reducible refine i_listV ?_); refine ⟨_, rfl, ?_⟩)
    | ((with_reducible refine i_tupV ?_); refine ⟨_, rfl, ?_⟩)
    | with_reducible refine rd_ixIntsX ⟨⟨?_, ?_⟩, fun _ _ _ => ?_⟩
    | ((with_reducible refine rd_ixLX ?_); refine ⟨_, rfl, ?_⟩)
    | ((with_reducible refine rd_ixTX ?_); refine ⟨_, rfl, ?_⟩)
    | with_reducible refine s_seq ?_
    | with_reducible refine s_if ?_
    | with_reducible refine s_ret ?_
    | with_reducible refine s_set ?_
    | with_reducible refine s_asg ?_
    | with_reducible refine s_par ?_
    | with_reducible refine s_next ?_
    | with_reducible refine s_retN ?_
    | with_reducible refine s_drop ?_
    | with_reducible refine e_int ?_
    | with_reducible refine e_str ?_
    | with_reducible refine e_bl ?_
    | with_reducible refine e_non ?_
    | with_reducible refine e_raw ?_
    | with_reducible refine e_op ?_
    | with_reducible refine e_un ?_
    | with_reducible refine e_cb ?_
    | with_reducible refine a_cons ?_
    | with_reducible refine a_nil ?_
    | with_reducible refine t_test ?_
    | with_reducible refine t_B ?_
    | with_reducible refine t_and ?_
    | with_reducible refine t_or ?_
    | with_reducible refine t_not ?_
    | with_reducible refine e_if ?_
    | with_reducible refine e_andV ?_
    | with_reducible refine e_orV ?_
    | with_reducible refine e_notV ?_
    | with_reducible refine e_chain ?_
    | with_reducible refine e_chain3 ?_
    | with_reducible refine rd_addI ?_
    | with_reducible refine rd_sub ?_
    | with_reducible refine rd_lt ?_
    | with_reducible refine rd_le ?_
    | with_reducible refine rd_gt ?_
    | with_reducible refine rd_ge ?_
    | with_reducible refine rd_eqI ?_
    | with_reducible refine rd_neI ?_
    | with_reducible refine rd_eqS ?_
    | with_reducible refine rd_neS ?_
    | with_reducible refine ru_neg ?_
    | with_reducible refine rc_int ?_
    | with_reducible refine rc_intB ?_
    | with_reducible refine rc_abs ?_
    | with_reducible refine rc_max2 ?_
    | with_reducible refine rc_min2 ?_
    | with_reducible refine rc_lenL ?_
    | with_reducible refine rc_lenT ?_
    | with_reducible refine rc_listL ?_
    | with_reducible refine rc_tupL ?_
    | with_reducible refine rc_tupT ?_
    | with_reducible refine e_call ?_
    | with_reducible refine rd_modX ?_
    | with_reducible refine rd_divX ?_
    | with_reducible refine rd_mulX ?_
    | with_reducible refine rd_powX ?_
    | with_reducible refine rd_neNilX ?_
    | with_reducible refine rd_isI ?_
    | with_reducible refine rd_isL ?_
    | with_reducible refine rd_isT ?_
    | with_reducible refine rd_isS ?_
    | with_reducible refine rd_isNn ?_
    | with_reducible refine rd_isNI ?_
    | with_reducible refine rd_isNL ?_
    | with_reducible refine rd_isNT ?_
    | with_reducible refine rd_isNS ?_
    | with_reducible refine rd_isNNn ?_
    | with_reducible refine rc_allX ?_
    | with_reducible refine rc_anyX ?_
    | with_reducible refine t_yes ?_
    | with_reducible refine rd_addLX ?_
    | with_reducible refine rd_addTX ?_
    | with_reducible refine rd_addSX ?_
    | with_reducible refine rd_inIntsX ?_
    | with_reducible refine o_none ?_
    | with_reducible refine o_some ?_
    | with_reducible refine i_rng1 ?_
    | with_reducible refine i_rng2 ?_
    | with_reducible refine i_zip ?_
    | with_reducible refine e_fld ?_
    | with_reducible refine e_tup ?_
    | with_reducible refine e_lst ?_
    | with_reducible refine rd_is rfl ?_ | with_reducible refine rd_isN rfl ?_
    | ((with_reducible refine rc_isiBX ?_); refine ⟨_, rfl, _, rfl, ?_⟩)
    | ((with_reducible refine e_isi2X ?_))
    | refine ⟨_, _, g_tup (gs_cons g_name (gs_cons g_name gs_nil)) rfl, ?_⟩
    | refine ⟨_, _, g_tup (gs_cons g_name (gs_cons g_name (gs_cons g_name gs_nil))) rfl, ?_⟩
    | refine ⟨_, _, g_tup (gs_cons g_name (gs_cons g_name (gs_cons g_name (gs_cons g_name gs_nil)))) rfl, ?_⟩
    | with_reducible refine Or.inl ⟨_, rfl, ?_⟩ | with_reducible refine Or.inr ⟨_, rfl, ?_⟩
    | with_reducible refine ⟨_, rfl, ?_⟩ | with_reducible refine ⟨rfl, ?_⟩ | with_reducible refine ⟨_, _, rfl, ?_⟩ | with_reducible refine ⟨_, _, _, rfl, ?_⟩ | with_reducible refine ⟨_, _, rfl, rfl, ?_⟩ | with_reducible refine ⟨fun _ => ?_, fun _ => ?_⟩ | with_reducible refine fun (_ : _ = true) => ?_ | with_reducible exact rfl | with_reducible refine And.intro ((by simp <;> fail : List.length _ ≤ 100000)) ?_ | with_reducible refine And.intro ((by simp only [List.length_map, List.length_append, List.length_cons, List.length_nil]; omega : List.length _ + List.length _ ≤ 100000)) ?_ | with_reducible refine And.intro (by omega) ?_ | with_reducible refine And.intro (by simp only [List.length_map]; omega) ?_ | with_reducible refine And.intro ((by first | omega | decide : (0 : Int) ≤ _ ∧ _ ≤ 1000000 ∧ Int.natAbs _ < 2 ^ 64)) ?_ | fail)
        · show [D.int f] ++ r.map D.int ++ (tlP c l).map D.int = (fullP c f l r).map D.int
          unfold fullP
          rw [List.map_append, List.map_append]; rfl
        · unfold fullP tlP
          rw [List.length_append, List.length_append, List.length_singleton]
          split <;> simp <;> omega
        · rw [List.length_map, List.length_map, List.length_take]
          refine ⟨by omega, rfl, some (rowD r), some (.tup ([D.int f] ++ r.map D.int ++ (tlP c l).map D.int)), ?_⟩
          have et : (RP c f l).take (i + 1) = (RP c f l).take i ++ [r] := by rw [List.take_succ, hr1]; rfl
          rw [et, List.map_append, List.map_append, List.length_map]
          rfl
      refine s_seq ?_
      repeat' (first
    | exact absurd ‹false = true› (by decide) | exact absurd ‹true = false› (by decide)
    | exact fin [D.int l] (by simp) (by simp [tlP, of_decide_eq_true ‹decide (1 < c) = true›])
    | exact fin [] (by simp) (by simp [tlP, of_decide_eq_false ‹decide (1 < c) = false›])
    | with_reducible refine And.intro (by simp only [List.length_map, List.length_append, List.length_cons, List.length_nil]; omega) ?_
    | ((with_reducible refine s_cellX ?_); refine ⟨_, rfl, rfl, _, rfl, fun _ => ?_, ?_⟩)
    | ((with_reducible refine e_pen2X ?_); refine ⟨_, rfl, rfl, fun _ _ => ?_⟩)
    | ((with_reducible refine e_pen1X ?_); refine ⟨_, rfl, rfl, fun _ _ _ => ?_⟩)
    | ((with_reducible refine e_pen0X ?_); refine ⟨_, rfl, rfl, fun _ _ => ?_⟩)
    | ((with_reducible refine s_pen2X ?_); refine ⟨_, rfl, rfl, ?_⟩)
    | ((with_reducible refine s_pen1X ?_); refine ⟨_, rfl, rfl, ?_⟩)
    | ((with_reducible refine e_varX ?_); refine ⟨_, rfl, rfl, ?_⟩)
    | ((with_reducible refine e_slLV ?_); refine ⟨_, rfl, ?_⟩)
    | ((with_reducible refine e_slTV ?_); refine ⟨_, rfl, ?_⟩)
    | ((with_reducible refine s_appX ?_); refine ⟨_, rfl, ?_⟩)
    | ((with_reducible refine i_listV ?_); refine ⟨_, rfl, ?_⟩)
    | ((with_reducible refine i_tupV ?_); refine ⟨_, rfl, ?_⟩)
    | with_reducible refine rd_ixIntsX ⟨⟨?_, ?_⟩, fun _ _ _ => ?_⟩
    | ((with_reducible refine rd_ixLX ?_); refine ⟨_, rfl, ?_⟩)
    | ((with_reducible refine rd_ixTX ?_); refine ⟨_, rfl, ?_⟩)
    | with_reducible refine s_seq ?_
    | with_reducible refine s_if ?_
    | with_reducible refine s_ret ?_
    | with_reducible refine s_set ?_
    | with_reducible refine s_asg ?_
    | with_reducible refine s_par ?_
    | with_reducible refine s_next ?_
    | with_reducible refine s_retN ?_
    | with_reducible refine s_drop ?_
    | with_reducible refine e_int ?_
    | with_reducible refine e_str ?_
    | with_reducible refine e_bl ?_
    | with_reducible refine e_non ?_
    | with_reducible refine e_raw ?_
    | with_reducible refine e_op ?_
    | with_reducible refine e_un ?_
    | with_reducible refine e_cb ?_
    | with_reducible refine a_cons ?_
    | with_reducible refine a_nil ?_
    | with_reducible refine t_test ?_
    | with_reducible refine t_B ?_
    | with_reducible refine t_and ?_
    | with_reducible refine t_or ?_
    | with_reducible refine t_not ?_
    | with_reducible refine e_if ?_
    | with_reducible refine e_andV ?_
    | with_reducible refine e_orV ?_
    | with_reducible refine e_notV ?_
    | with_reducible refine e_chain ?_
    | with_reducible refine e_chain3 ?_
    | with_reducible refine rd_addI ?_
    | with_reducible refine rd_sub ?_
    | with_reducible refine rd_lt ?_
    | with_reducible refine rd_le ?_
    | with_reducible refine rd_gt ?_
    | with_reducible refine rd_ge ?_
    | with_reducible refine rd_eqI ?_
    | with_reducible refine rd_neI ?_
    | with_reducible refine rd_eqS ?_
    | with_reducible refine rd_neS ?_
    | with_reducible refine ru_neg ?_
    | with_reducible refine rc_int ?_
    | with_reducible refine rc_intB ?_
    | with_reducible refine rc_abs ?_
    | with_reducible refine rc_max2 ?_
    | with_reducible refine rc_min2 ?_
    | with_reducible refine rc_lenL ?_
    | with_reducible refine rc_lenT ?_
    | with_reducible refine rc_listL ?_
    | with_reducible refine rc_tupL ?_
    | with_reducible refine rc_tupT ?_
    | with_reducible refine e_call ?_
    | with_reducible refine rd_modX ?_
    | with_reducible refine rd_divX ?_
    | with_reducible refine rd_mulX ?_
    | with_reducible refine rd_powX ?_
    | with_reducible refine rd_neNilX ?_
    | with_reducible refine rd_isI ?_
    | with_reducible refine rd_isL ?_
    | with_reducible refine rd_isT ?_
    | with_reducible refine rd_isS ?_
    | with_reducible refine rd_isNn ?_
    | with_reducible refine rd_isNI ?_
    | with_reducible refine rd_isNL ?_
    | with_reducible refine rd_isNT ?_
    | with_reducible refine rd_isNS ?_
    | with_reducible refine rd_isNNn ?_
    | with_reducible refine rc_allX ?_
    | with_reducible refine rc_anyX ?_
    | with_reducible refine t_yes ?_
    | with_reducible refine rd_addLX ?_
    | with_reducible refine rd_addTX ?_
    | with_reducible refine rd_addSX ?_
    | with_reducible refine rd_inIntsX ?_
    | with_reducible refine o_none ?_
    | with_reducible refine o_some ?_
    | with_reducible refine i_rng1 ?_
    | with_reducible refine i_rng2 ?_
    | with_reducible refine i_zip ?_
    | with_reducible refine e_fld ?_
    | with_reducible refine e_tup ?_
    | with_reducible refine e_lst ?_
    | with_reducible refine rd_is rfl ?_ | with_reducible refine rd_isN rfl ?_
    | ((with_reducible refine rc_isiBX ?_); refine ⟨_, rfl, _, rfl, ?_⟩)
    | ((with_reducible refine e_isi2X ?_))
    | refine ⟨_, _, g_tup (gs_cons g_name (gs_cons g_name gs_nil)) rfl, ?_⟩
    | refine ⟨_, _, g_tup (gs_cons g_name (gs_cons g_name (gs_cons g_name gs_nil))) rfl, ?_⟩
    | refine ⟨_, _, g_tup (gs_cons g_name (gs_cons g_name (gs_cons g_name (gs_cons g_name gs_nil)))) rfl, ?_⟩
    | with_reducible refine Or.inl ⟨_, rfl, ?_⟩ | with_reducible refine Or.inr ⟨_, rfl, ?_⟩
    | with_reducible refine ⟨_, rfl, ?_⟩ | with_reducible refine ⟨rfl, ?_⟩ | with_reducible refine ⟨_, _, rfl, ?_⟩ | with_reducible refine ⟨_, _, _, rfl, ?_⟩ | with_reducible refine ⟨_, _, rfl, rfl, ?_⟩ | with_reducible refine ⟨fun _ => ?_, fun _ => ?_⟩ | with_reducible refine fun (_ : _ = true) => ?_ | with_reducible exact rfl | with_reducible refine And.intro ((by simp <;> fail : List.length _ ≤ 100000)) ?_ | with_reducible refine And.intro ((by simp only [List.length_map, List.length_append, List.length_cons, List.length_nil]; omega : List.length _ + List.length _ ≤ 100000)) ?_ | with_reducible refine And.intro (by omega) ?_ | with_reducible refine And.intro (by simp only [List.length_map]; omega) ?_ | with_reducible refine And.intro ((by first | omega | decide : (0 : Int) ≤ _ ∧ _ ≤ 1000000 ∧ Int.natAbs _ < 2 ^ 64)) ?_ | fail)
    · rintro ds' n' ⟨rfl, v6, v7, rfl⟩
      refine s_freeze (i := 5) rfl ?_
      rw [List.length_map, List.take_length]
      repeat' (first
    | exact absurd ‹false = true› (by decide) | exact absurd ‹true = false› (by decide)
    | refine rc_minL (by rw [List.length_map]; exact hRb.2.1) fun m1 hm1 hm1' => ?_
    | refine rc_maxL (by rw [List.length_map]; exact hRb.2.1) fun m2 hm2 hm2' => ?_
    | ((with_reducible refine s_cellX ?_); refine ⟨_, rfl, rfl, _, rfl, fun _ => ?_, ?_⟩)
    | ((with_reducible refine e_pen2X ?_); refine ⟨_, rfl, rfl, fun _ _ => ?_⟩)
    | ((with_reducible refine e_pen1X ?_); refine ⟨_, rfl, rfl, fun _ _ _ => ?_⟩)
    | ((with_reducible refine e_pen0X ?_); refine ⟨_, rfl, rfl, fun _ _ => ?_⟩)
    | ((with_reducible refine s_pen2X ?_); refine ⟨_, rfl, rfl, ?_⟩)
    | ((with_reducible refine s_pen1X ?_); refine ⟨_, rfl, rfl, ?_⟩)
    | ((with_reducible refine e_varX ?_); refine ⟨_, rfl, rfl, ?_⟩)
    | ((with_reducible refine e_slLV ?_); refine ⟨_, rfl, ?_⟩)
    | ((with_reducible refine e_slTV ?_); refine ⟨_, rfl, ?_⟩)
    | ((with_reducible refine s_appX ?_); refine ⟨_, rfl, ?_⟩)
    | ((with_reducible refine i_listV ?_); refine ⟨_, rfl, ?_⟩)
    | ((with_reducible refine i_tupV ?_); refine ⟨_, rfl, ?_⟩)
    | with_reducible refine rd_ixIntsX ⟨⟨?_, ?_⟩, fun _ _ _ => ?_⟩
    | ((with_reducible refine rd_ixLX ?_); refine ⟨_, rfl, ?_⟩)
    | ((with_reducible refine rd_ixTX ?_); refine ⟨_, rfl, ?_⟩)
    | with_reducible refine s_seq ?_
    | with_reducible refine s_if ?_
    | with_reducible refine s_ret ?_
    | with_reducible refine s_set ?_
    | with_reducible refine s_asg ?_
    | with_reducible refine s_par ?_
    | with_reducible refine s_next ?_
    | with_reducible refine s_retN ?_
    | with_reducible refine s_drop ?_
    | with_reducible refine e_int ?_
    | with_reducible refine e_str ?_
    | with_reducible refine e_bl ?_
    | with_reducible refine e_non ?_
    | with_reducible refine e_raw ?_
    | with_reducible refine e_op ?_
    | with_reducible refine e_un ?_
    | with_reducible refine e_cb ?_
    | with_reducible refine a_cons ?_
    | with_reducible refine a_nil ?_
    | with_reducible refine t_test ?_
    | with_reducible refine t_B ?_
    | with_reducible refine t_and ?_
    | with_reducible refine t_or ?_
    | with_reducible refine t_not ?_
    | with_reducible refine e_if ?_
    | with_reducible refine e_andV ?_
    | with_reducible refine e_orV ?_
    | with_reducible refine e_notV ?_
    | with_reducible refine e_chain ?_
    | with_reducible refine e_chain3 ?_
    | with_reducible refine rd_addI ?_
    | with_reducible refine rd_sub ?_
    | with_reducible refine rd_lt ?_
    | with_reducible refine rd_le ?_
    | with_reducible refine rd_gt ?_
    | with_reducible refine rd_ge ?_
    | with_reducible refine rd_eqI ?_
    | with_reducible refine rd_neI ?_
    | with_reducible refine rd_eqS ?_
    | with_reducible refine rd_neS ?_
    | with_reducible refine ru_neg ?_
    | with_reducible refine rc_int ?_
    | with_reducible refine rc_intB ?_
    | with_reducible refine rc_abs ?_
    | with_reducible refine rc_max2 ?_
    | with_reducible refine rc_min2 ?_
    | with_reducible refine rc_lenL ?_
    | with_reducible refine rc_lenT ?_
    | with_reducible refine rc_listL ?_
    | with_reducible refine rc_tupL ?_
    | with_reducible refine rc_tupT ?_
    | with_reducible refine e_call ?_
    | with_reducible refine rd_modX ?_
    | with_reducible refine rd_divX ?_
    | with_reducible refine rd_mulX ?_
    | with_reducible refine rd_powX ?_
    | with_reducible refine rd_neNilX ?_
    | with_reducible refine rd_isI ?_
    | with_reducible refine rd_isL ?_
    | with_reducible refine rd_isT ?_
    | with_reducible refine rd_isS ?_
    | with_reducible refine rd_isNn ?_
    | with_reducible refine rd_isNI ?_
    | with_reducible refine rd_isNL ?_
    | with_reducible refine rd_isNT ?_
    | with_reducible refine rd_isNS ?_
    | with_reducible refine rd_isNNn ?_
    | with_reducible refine rc_allX ?_
    | with_reducible refine rc_anyX ?_
    | with_reducible refine t_yes ?_
    | with_reducible refine rd_addLX ?_
    | with_reducible refine rd_addTX ?_
    | with_reducible refine rd_addSX ?_
    | with_reducible refine rd_inIntsX ?_
    | with_reducible refine o_none ?_
    | with_reducible refine o_some ?_
    | with_reducible refine i_rng1 ?_
    | with_reducible refine i_rng2 ?_
    | with_reducible refine i_zip ?_
    | with_reducible refine e_fld ?_
    | with_reducible refine e_tup ?_
    | with_reducible refine e_lst ?_
    | with_reducible refine rd_is rfl ?_ | with_reducible refine rd_isN rfl ?_
    | ((with_reducible refine rc_isiBX ?_); refine ⟨_, rfl, _, rfl, ?_⟩)
    | ((with_reducible refine e_isi2X ?_))
    | refine ⟨_, _, g_tup (gs_cons g_name (gs_cons g_name gs_nil)) rfl, ?_⟩
    | refine ⟨_, _, g_tup (gs_cons g_name (gs_cons g_name (gs_cons g_name gs_nil))) rfl, ?_⟩
    | refine ⟨_, _, g_tup (gs_cons g_name (gs_cons g_name (gs_cons g_name (gs_cons g_name gs_nil)))) rfl, ?_⟩
    | with_reducible refine Or.inl ⟨_, rfl, ?_⟩ | with_reducible refine Or.inr ⟨_, rfl, ?_⟩
    | with_reducible refine ⟨_, rfl, ?_⟩ | with_reducible refine ⟨rfl, ?_⟩ | with_reducible refine ⟨_, _, rfl, ?_⟩ | with_reducible refine ⟨_, _, _, rfl, ?_⟩ | with_reducible refine ⟨_, _, rfl, rfl, ?_⟩ | with_reducible refine ⟨fun _ => ?_, fun _ => ?_⟩ | with_reducible refine fun (_ : _ = true) => ?_ | with_reducible exact rfl | with_reducible refine And.intro ((by simp <;> fail : List.length _ ≤ 100000)) ?_ | with_reducible refine And.intro ((by simp only [List.length_map, List.length_append, List.length_cons, List.length_nil]; omega : List.length _ + List.length _ ≤ 100000)) ?_ | with_reducible refine And.intro (by omega) ?_ | with_reducible refine And.intro (by simp only [List.length_map]; omega) ?_ | with_reducible refine And.intro ((by first | omega | decide : (0 : Int) ≤ _ ∧ _ ≤ 1000000 ∧ Int.natAbs _ < 2 ^ 64)) ?_ | fail)
      have e := tried_law hd F hm1 hm1' hm2 hm2'
      rw [e] at hk
      exact kup_of hk
  refine i_list ?_
  repeat' (first
    | exact absurd ‹false = true› (by decide) | exact absurd ‹true = false› (by decide)
    | refine e_lstRg2 ?_
    | refine ⟨_, _, rfl, rfl, ⟨by omega, by omega, by omega, by omega⟩, ?_⟩
    | with_reducible refine ⟨rgI (f + 1) (l - (f + 1)).toNat, c - 2, ?_, ?_, ?_, ?_⟩
    | ((with_reducible refine s_cellX ?_); refine ⟨_, rfl, rfl, _, rfl, fun _ => ?_, ?_⟩)
    | ((with_reducible refine e_pen2X ?_); refine ⟨_, rfl, rfl, fun _ _ => ?_⟩)
    | ((with_reducible refine e_pen1X ?_); refine ⟨_, rfl, rfl, fun _ _ _ => ?_⟩)
    | ((with_reducible refine e_pen0X ?_); refine ⟨_, rfl, rfl, fun _ _ => ?_⟩)
    | ((with_reducible refine s_pen2X ?_); refine ⟨_, rfl, rfl, ?_⟩)
    | ((with_reducible refine s_pen1X ?_); refine ⟨_, rfl, rfl, ?_⟩)
    | ((with_reducible refine e_varX ?_); refine ⟨_, rfl, rfl, ?_⟩)
    | ((with_reducible refine e_slLV ?_); refine ⟨_, rfl, ?_⟩)
    | ((with_reducible refine e_slTV ?_); refine ⟨_, rfl, ?_⟩)
    | ((with_reducible refine s_appX ?_); refine ⟨_, rfl, ?_⟩)
    | ((with_reducible refine i_listV ?_); refine ⟨_, rfl, ?_⟩)
    | ((with_reducible refine i_tupV ?_); refine ⟨_, rfl, ?_⟩)
    | with_reducible refine rd_ixIntsX ⟨⟨?_, ?_⟩, fun _ _ _ => ?_⟩
    | ((with_reducible refine rd_ixLX ?_); refine ⟨_, rfl, ?_⟩)
    | ((with_reducible refine rd_ixTX ?_); refine ⟨_, rfl, ?_⟩)
    | with_reducible refine s_seq ?_
    | with_reducible refine s_if ?_
    | with_reducible refine s_ret ?_
    | with_reducible refine s_set ?_
    | with_reducible refine s_asg ?_
    | with_reducible refine s_par ?_
    | with_reducible refine s_next ?_
    | with_reducible refine s_retN ?_
    | with_reducible refine s_drop ?_
    | with_reducible refine e_int ?_
    | with_reducible refine e_str ?_
    | with_reducible refine e_bl ?_
    | with_reducible refine e_non ?_
    | with_reducible refine e_raw ?_
    | with_reducible refine e_op ?_
    | with_reducible refine e_un ?_
    | with_reducible refine e_cb ?_
    | with_reducible refine a_cons ?_
    | with_reducible refine a_nil ?_
    | with_reducible refine t_test ?_
    | with_reducible refine t_B ?_
    | with_reducible refine t_and ?_
    | with_reducible refine t_or ?_
    | with_reducible refine t_not ?_
    | with_reducible refine e_if ?_
    | with_reducible refine e_andV ?_
    | with_reducible refine e_orV ?_
    | with_reducible refine e_notV ?_
    | with_reducible refine e_chain ?_
    | with_reducible refine e_chain3 ?_
    | with_reducible refine rd_addI ?_
    | with_reducible refine rd_sub ?_
    | with_reducible refine rd_lt ?_
    | with_reducible refine rd_le ?_
    | with_reducible refine rd_gt ?_
    | with_reducible refine rd_ge ?_
    | with_reducible refine rd_eqI ?_
    | with_reducible refine rd_neI ?_
    | with_reducible refine rd_eqS ?_
    | with_reducible refine rd_neS ?_
    | with_reducible refine ru_neg ?_
    | with_reducible refine rc_int ?_
    | with_reducible refine rc_intB ?_
    | with_reducible refine rc_abs ?_
    | with_reducible refine rc_max2 ?_
    | with_reducible refine rc_min2 ?_
    | with_reducible refine rc_lenL ?_
    | with_reducible refine rc_lenT ?_
    | with_reducible refine rc_listL ?_
    | with_reducible refine rc_tupL ?_
    | with_reducible refine rc_tupT ?_
    | with_reducible refine e_call ?_
    | with_reducible refine rd_modX ?_
    | with_reducible refine rd_divX ?_
    | with_reducible refine rd_mulX ?_
    | with_reducible refine rd_powX ?_
    | with_reducible refine rd_neNilX ?_
    | with_reducible refine rd_isI ?_
    | with_reducible refine rd_isL ?_
    | with_reducible refine rd_isT ?_
    | with_reducible refine rd_isS ?_
    | with_reducible refine rd_isNn ?_
    | with_reducible refine rd_isNI ?_
    | with_reducible refine rd_isNL ?_
    | with_reducible refine rd_isNT ?_
    | with_reducible refine rd_isNS ?_
    | with_reducible refine rd_isNNn ?_
    | with_reducible refine rc_allX ?_
    | with_reducible refine rc_anyX ?_
    | with_reducible refine t_yes ?_
    | with_reducible refine rd_addLX ?_
    | with_reducible refine rd_addTX ?_
    | with_reducible refine rd_addSX ?_
    | with_reducible refine rd_inIntsX ?_
    | with_reducible refine o_none ?_
    | with_reducible refine o_some ?_
    | with_reducible refine i_rng1 ?_
    | with_reducible refine i_rng2 ?_
    | with_reducible refine i_zip ?_
    | with_reducible refine e_fld ?_
    | with_reducible refine e_tup ?_
    | with_reducible refine e_lst ?_
    | with_reducible refine rd_is rfl ?_ | with_reducible refine rd_isN rfl ?_
    | ((with_reducible refine rc_isiBX ?_); refine ⟨_, rfl, _, rfl, ?_⟩)
    | ((with_reducible refine e_isi2X ?_))
    | refine ⟨_, _, g_tup (gs_cons g_name (gs_cons g_name gs_nil)) rfl, ?_⟩
    | refine ⟨_, _, g_tup (gs_cons g_name (gs_cons g_name (gs_cons g_name gs_nil))) rfl, ?_⟩
    | refine ⟨_, _, g_tup (gs_cons g_name (gs_cons g_name (gs_cons g_name (gs_cons g_name gs_nil)))) rfl, ?_⟩
    | with_reducible refine Or.inl ⟨_, rfl, ?_⟩ | with_reducible refine Or.inr ⟨_, rfl, ?_⟩
    | with_reducible refine ⟨_, rfl, ?_⟩ | with_reducible refine ⟨rfl, ?_⟩ | with_reducible refine ⟨_, _, rfl, ?_⟩ | with_reducible refine ⟨_, _, _, rfl, ?_⟩ | with_reducible refine ⟨_, _, rfl, rfl, ?_⟩ | with_reducible refine ⟨fun _ => ?_, fun _ => ?_⟩ | with_reducible refine fun (_ : _ = true) => ?_ | with_reducible exact rfl | with_reducible refine And.intro ((by simp <;> fail : List.length _ ≤ 100000)) ?_ | with_reducible refine And.intro ((by simp only [List.length_map, List.length_append, List.length_cons, List.length_nil]; omega : List.length _ + List.length _ ≤ 100000)) ?_ | with_reducible refine And.intro (by omega) ?_ | with_reducible refine And.intro (by simp only [List.length_map]; omega) ?_ | with_reducible refine And.intro ((by first | omega | decide : (0 : Int) ≤ _ ∧ _ ≤ 1000000 ∧ Int.natAbs _ < 2 ^ 64)) ?_ | fail)
  · have hc : 1 < c := of_decide_eq_true (by assumption)
    have hm := F.more (by omega)
    refine ⟨⟨by omega, by omega, by omega, by omega⟩, ?_⟩
    repeat' (first
    | exact absurd ‹false = true› (by decide) | exact absurd ‹true = false› (by decide)
    | ((with_reducible refine s_cellX ?_); refine ⟨_, rfl, rfl, _, rfl, fun _ => ?_, ?_⟩)
    | ((with_reducible refine e_pen2X ?_); refine ⟨_, rfl, rfl, fun _ _ => ?_⟩)
    | ((with_reducible refine e_pen1X ?_); refine ⟨_, rfl, rfl, fun _ _ _ => ?_⟩)
    | ((with_reducible refine e_pen0X ?_); refine ⟨_, rfl, rfl, fun _ _ => ?_⟩)
    | ((with_reducible refine s_pen2X ?_); refine ⟨_, rfl, rfl, ?_⟩)
    | ((with_reducible refine s_pen1X ?_); refine ⟨_, rfl, rfl, ?_⟩)
    | ((with_reducible refine e_varX ?_); refine ⟨_, rfl, rfl, ?_⟩)
    | ((with_reducible refine e_slLV ?_); refine ⟨_, rfl, ?_⟩)
    | ((with_reducible refine e_slTV ?_); refine ⟨_, rfl, ?_⟩)
    | ((with_reducible refine s_appX ?_); refine ⟨_, rfl, ?_⟩)
    | ((with_reducible refine i_listV ?_); refine ⟨_, rfl, ?_⟩)
    | ((with_reducible refine i_tupV ?_); refine ⟨_, rfl, ?_⟩)
    | with_reducible refine rd_ixIntsX ⟨⟨?_, ?_⟩, fun _ _ _ => ?_⟩
    | ((with_reducible refine rd_ixLX ?_); refine ⟨_, rfl, ?_⟩)
    | ((with_reducible refine rd_ixTX ?_); refine ⟨_, rfl, ?_⟩)
    | with_reducible refine s_seq ?_
    | with_reducible refine s_if ?_
    | with_reducible refine s_ret ?_
    | with_reducible refine s_set ?_
    | with_reducible refine s_asg ?_
    | with_reducible refine s_par ?_
    | with_reducible refine s_next ?_
    | with_reducible refine s_retN ?_
    | with_reducible refine s_drop ?_
    | with_reducible refine e_int ?_
    | with_reducible refine e_str ?_
    | with_reducible refine e_bl ?_
    | with_reducible refine e_non ?_
    | with_reducible refine e_raw ?_
    | with_reducible refine e_op ?_
    | with_reducible refine e_un ?_
    | with_reducible refine e_cb ?_
    | with_reducible refine a_cons ?_
    | with_reducible refine a_nil ?_
    | with_reducible refine t_test ?_
    | with_reducible refine t_B ?_
    | with_reducible refine t_and ?_
    | with_reducible refine t_or ?_
    | with_reducible refine t_not ?_
    | with_reducible refine e_if ?_
    | with_reducible refine e_andV ?_
    | with_reducible refine e_orV ?_
    | with_reducible refine e_notV ?_
    | with_reducible refine e_chain ?_
    | with_reducible refine e_chain3 ?_
    | with_reducible refine rd_addI ?_
    | with_reducible refine rd_sub ?_
    | with_reducible refine rd_lt ?_
    | with_reducible refine rd_le ?_
    | with_reducible refine rd_gt ?_
    | with_reducible refine rd_ge ?_
    | with_reducible refine rd_eqI ?_
    | with_reducible refine rd_neI ?_
    | with_reducible refine rd_eqS ?_
    | with_reducible refine rd_neS ?_
    | with_reducible refine ru_neg ?_
    | with_reducible refine rc_int ?_
    | with_reducible refine rc_intB ?_
    | with_reducible refine rc_abs ?_
    | with_reducible refine rc_max2 ?_
    | with_reducible refine rc_min2 ?_
    | with_reducible refine rc_lenL ?_
    | with_reducible refine rc_lenT ?_
    | with_reducible refine rc_listL ?_
    | with_reducible refine rc_tupL ?_
    | with_reducible refine rc_tupT ?_
    | with_reducible refine e_call ?_
    | with_reducible refine rd_modX ?_
    | with_reducible refine rd_divX ?_
    | with_reducible refine rd_mulX ?_
    | with_reducible refine rd_powX ?_
    | with_reducible refine rd_neNilX ?_
    | with_reducible refine rd_isI ?_
    | with_reducible refine rd_isL ?_
    | with_reducible refine rd_isT ?_
    | with_reducible refine rd_isS ?_
    | with_reducible refine rd_isNn ?_
    | with_reducible refine rd_isNI ?_
    | with_reducible refine rd_isNL ?_
    | with_reducible refine rd_isNT ?_
    | with_reducible refine rd_isNS ?_
    | with_reducible refine rd_isNNn ?_
    | with_reducible refine rc_allX ?_
    | with_reducible refine rc_anyX ?_
    | with_reducible refine t_yes ?_
    | with_reducible refine rd_addLX ?_
    | with_reducible refine rd_addTX ?_
    | with_reducible refine rd_addSX ?_
    | with_reducible refine rd_inIntsX ?_
    | with_reducible refine o_none ?_
    | with_reducible refine o_some ?_
    | with_reducible refine i_rng1 ?_
    | with_reducible refine i_rng2 ?_
    | with_reducible refine i_zip ?_
    | with_reducible refine e_fld ?_
    | with_reducible refine e_tup ?_
    | with_reducible refine e_lst ?_
    | with_reducible refine rd_is rfl ?_ | with_reducible refine rd_isN rfl ?_
    | ((with_reducible refine rc_isiBX ?_); refine ⟨_, rfl, _, rfl, ?_⟩)
    | ((with_reducible refine e_isi2X ?_))
    | refine ⟨_, _, g_tup (gs_cons g_name (gs_cons g_name gs_nil)) rfl, ?_⟩
    | refine ⟨_, _, g_tup (gs_cons g_name (gs_cons g_name (gs_cons g_name gs_nil))) rfl, ?_⟩
    | refine ⟨_, _, g_tup (gs_cons g_name (gs_cons g_name (gs_cons g_name (gs_cons g_name gs_nil)))) rfl, ?_⟩
    | with_reducible refine Or.inl ⟨_, rfl, ?_⟩ | with_reducible refine Or.inr ⟨_, rfl, ?_⟩
    | with_reducible refine ⟨_, rfl, ?_⟩ | with_reducible refine ⟨rfl, ?_⟩ | with_reducible refine ⟨_, _, rfl, ?_⟩ | with_reducible refine ⟨_, _, _, rfl, ?_⟩ | with_reducible refine ⟨_, _, rfl, rfl, ?_⟩ | with_reducible refine ⟨fun _ => ?_, fun _ => ?_⟩ | with_reducible refine fun (_ : _ = true) => ?_ | with_reducible exact rfl | with_reducible refine And.intro ((by simp <;> fail : List.length _ ≤ 100000)) ?_ | with_reducible refine And.intro ((by simp only [List.length_map, List.length_append, List.length_cons, List.length_nil]; omega : List.length _ + List.length _ ≤ 100000)) ?_ | with_reducible refine And.intro (by omega) ?_ | with_reducible refine And.intro (by simp only [List.length_map]; omega) ?_ | with_reducible refine And.intro ((by first | omega | decide : (0 : Int) ≤ _ ∧ _ ≤ 1000000 ∧ Int.natAbs _ < 2 ^ 64)) ?_ | fail)
    refine ⟨rgI (f + 1) (l - (f + 1)).toNat, c - 2, by rw [rgD_ints]; rfl, by omega, by rw [rgI_len]; omega, _, rfl, ?_⟩
    exact key _ (by unfold RP; rw [if_pos hc])
  · have hc : ¬ 1 < c := of_decide_eq_false (by assumption)
    exact key _ (by unfold RP; rw [if_neg hc]; first | rfl | done)
end
end K51
set_option Elab.async false
set_option maxRecDepth 100000
set_option maxHeartbeats 4000000
set_option linter.all false
set_option autoImplicit false
namespace K51
open PySem PySem.Spec PyProof.Rows L2 DW
def kinds : List Str := ["count", "sum", "least", "greatest", "most", "rank"]
def NumOk (kind : Str) (num : D) : Prop := (kind = "most" ∧ ∃ i, num = .int i ∧ -(2 ^ 60) ≤ i ∧ i ≤ 2 ^ 60) ∨ (kind = "rank" ∧ ∃ i, num = .int i ∧ 1 ≤ i ∧ i ≤ 2 ^ 60) ∨ (num = .non ∧ kind ≠ "most" ∧ kind ≠ "rank")
structure Quest (kind : Str) (num : D) (st sp : Int) (am : Option (List Int)) : Prop where
  kin : kind ∈ kinds
  num : NumOk kind num
  st0 : 0 ≤ st
  stsp : st ≤ sp
  sp2 : sp ≤ 2 ^ 40
  am : ∀ ns, am = some ns → Moments ns
theorem kind_of {d : D} (h : d ∈ [D.str "count", .str "sum", .str "least", .str "greatest", .str "most", .str "rank"]) : ∃ x, d = .str x ∧ x ∈ kinds := by
  have e : [D.str "count", .str "sum", .str "least", .str "greatest", .str "most", .str "rank"] = kinds.map D.str := rfl
  rw [e] at h
  obtain ⟨x, h1, h2⟩ := List.mem_map.mp h
  exact ⟨x, h2.symm, h1⟩
abbrev questSp : DSpW := fun w es n k => ∃ (p : Addr) (c f l t lo hi : Int), w = some p ∧ es = [.raw (.ref p), .lst [hT c f l t lo hi], .int 3] ∧ 0 ≤ l ∧ l ≤ 20 ∧ n < 2 ^ 19 ∧ ∀ kind num st sp am n', Quest kind num st sp am → n' ≤ n + 100 → k (qT kind num st sp am) n'
section
variable {K : PySem.W.Frag} {w : Option Addr} {n : Nat} {k : Kn} {es : List D} {ds : List (Option D)} {p : Addr} {l : Int}
theorem among_ok (h0 : ds[0]? = some (some (.raw (.ref p)))) (h4 : ds[4]? = some (some (.int l))) (hlen : 10 < ds.length) (hl0 : 0 ≤ l) (hl1 : l ≤ 20) (hn : n < 2 ^ 19 + 100) (hk : ∀ (ns : List Int) (n' : Nat), Moments ns → n' ≤ n + 22 → k (.lst (ns.map .int)) n') :
    WpE K (some p) (tLc (iRng1 (tCons (tOp (rAddU K) (tVar 4) (tC (.int 2))) tNil)) (gName 10) (tTest (tOp (rI0 fun i j => .bl (decide (j < i))) (tCall (toSp K drawSp) [] E0 (tCons (tVar 0) (tCons (tC (.int 3)) tNil))) (tC (.int 0)))) (tVar 10) [10]) ds n k := by
  refine WpF.toE (f_lc (i_rng1 (a_cons (e_op (e_var h4 (e_int (rd_addI (a_nil ⟨_, rfl, by omega, by omega, ?_⟩))))))))
  refine ⟨by rw [rgD_len]; omega, fun i acc n' => n' ≤ n + i ∧ i ≤ 22 ∧ ∃ ns : List Int, acc = ns.map .int ∧ ns.length ≤ i ∧ (∀ z ∈ ns, 0 ≤ z ∧ z < i) ∧ ns.Pairwise (· < ·), ⟨by omega, by omega, [], rfl, by simp, fun z hz => (by cases hz), .nil⟩, ?_, ?_⟩
  · rintro i x acc n' hx ⟨h1, h2, ns, rfl, h3, h5, h6⟩
    obtain ⟨hi, rfl⟩ := rgD_get hx
    have d0 : ((dwipe ds [10]).set 10 (some (D.int (0 + (i : Nat)))))[0]? = some (some (.raw (.ref p))) := by
      show (((dwipe ds []).set 10 none).set 10 _)[0]? = _
      rw [List.set_set, List.getElem?_set_ne (by decide)]; exact h0
    have d10 : ((dwipe ds [10]).set 10 (some (D.int (0 + (i : Nat)))))[10]? = some (some (D.int (0 + (i : Nat)))) := by
      show (((dwipe ds []).set 10 none).set 10 _)[10]? = _
      rw [List.set_set, List.getElem?_set_self]
      exact hlen
    refine ⟨_, g_name rfl, t_test (e_op (e_call (a_cons (e_var d0 (a_cons (e_int (a_nil ?_)))))))⟩
    refine ⟨p, 3, rfl, rfl, by decide, by decide, by omega, fun d hd1 hd2 => e_int (rd_gt ⟨_, rfl, fun hb => e_var d10 ?_, fun hb => ?_⟩)⟩
    · refine ⟨by omega, by omega, ns ++ [(0 : Int) + (i : Int)], by rw [List.map_append]; rfl, by rw [List.length_append, List.length_singleton]; omega, fun z hz => ?_, ?_⟩
      · rcases List.mem_append.mp hz with z1 | z1
        · have := h5 z z1; omega
        · rw [List.mem_singleton] at z1; omega
      · rw [List.pairwise_append]
        refine ⟨h6, by simp, fun a ha b hb => ?_⟩
        rw [List.mem_singleton] at hb
        have := h5 a ha
        omega
    · refine ⟨by omega, by omega, ns, rfl, by omega, fun z hz => ?_, h6⟩
      have := h5 z hz; omega
  · rintro acc n' ⟨h1, h2, ns, rfl, h3, h5, h6⟩
    rw [rgD_len] at h1 h3 h5
    refine hk ns n' ⟨by omega, fun z hz => ?_, h6⟩ (by omega)
    have := h5 z hz
    omega
theorem w__law_question (h : questSp w es n k) : WpS K w (r__law_question K (toSp K pickSp) (toSp K drawSp)) (dstart ["pen", "parts", "wide", "kind", "last", "start", "stop", "among", "number", "part", "moment"] es) n { nx := fun _ n' => kup k .non n', rt := kup k } := by
  obtain ⟨p, c, f, l, t, lo, hi, rfl, rfl, hl0, hl1, hn, hk⟩ := h
  unfold r__law_question
  repeat' (first
    | exact absurd ‹false = true› (by decide) | exact absurd ‹true = false› (by decide)
    | (refine ⟨_, _, rfl, rfl, by decide, by decide, by omega, fun d hd => ?_⟩; obtain ⟨x, rfl, hx⟩ := kind_of hd)
    | refine e_lcGX (α := Unit) ⟨fun _ => hT c f l t lo hi, fun _ => true, fun _ => .int l, fun _ => rfl, ?_⟩
    | refine ⟨[()], rfl, by decide, fun _ _ => ?_, ?_⟩
    | refine among_ok rfl rfl (show 10 < 11 from by decide) hl0 hl1 (by omega) fun ns n' hns hn' => ?_
    | refine ⟨_, _, rfl, rfl, by omega, by omega, by omega, fun _ _ _ => ?_⟩
    | refine And.intro trivial ?_
    | (refine rc_maxL (ns := [l]) (by simp) fun m hm _ => ?_; obtain rfl : m = l := by simpa using hm)
    | ((with_reducible refine s_cellX ?_); refine ⟨_, rfl, rfl, _, rfl, fun _ => ?_, ?_⟩)
    | ((with_reducible refine e_pen2X ?_); refine ⟨_, rfl, rfl, fun _ _ => ?_⟩)
    | ((with_reducible refine e_pen1X ?_); refine ⟨_, rfl, rfl, fun _ _ _ => ?_⟩)
    | ((with_reducible refine e_pen0X ?_); refine ⟨_, rfl, rfl, fun _ _ => ?_⟩)
    | ((with_reducible refine s_pen2X ?_); refine ⟨_, rfl, rfl, ?_⟩)
    | ((with_reducible refine s_pen1X ?_); refine ⟨_, rfl, rfl, ?_⟩)
    | ((with_reducible refine e_varX ?_); refine ⟨_, rfl, rfl, ?_⟩)
    | ((with_reducible refine e_slLV ?_); refine ⟨_, rfl, ?_⟩)
    | ((with_reducible refine e_slTV ?_); refine ⟨_, rfl, ?_⟩)
    | ((with_reducible refine s_appX ?_); refine ⟨_, rfl, ?_⟩)
    | ((with_reducible refine i_listV ?_); refine ⟨_, rfl, ?_⟩)
    | ((with_reducible refine i_tupV ?_); refine ⟨_, rfl, ?_⟩)
    | with_reducible refine rd_ixIntsX ⟨⟨?_, ?_⟩, fun _ _ _ => ?_⟩
    | ((with_reducible refine rd_ixLX ?_); refine ⟨_, rfl, ?_⟩)
    | ((with_reducible refine rd_ixTX ?_); refine ⟨_, rfl, ?_⟩)
    | with_reducible refine s_seq ?_
    | with_reducible refine s_if ?_
    | with_reducible refine s_ret ?_
    | with_reducible refine s_set ?_
    | with_reducible refine s_asg ?_
    | with_reducible refine s_par ?_
    | with_reducible refine s_next ?_
    | with_reducible refine s_retN ?_
    | with_reducible refine s_drop ?_
    | with_reducible refine e_int ?_
    | with_reducible refine e_str ?_
    | with_reducible refine e_bl ?_
    | with_reducible refine e_non ?_
    | with_reducible refine e_raw ?_
    | with_reducible refine e_op ?_
    | with_reducible refine e_un ?_
    | with_reducible refine e_cb ?_
    | with_reducible refine a_cons ?_
    | with_reducible refine a_nil ?_
    | with_reducible refine t_test ?_
    | with_reducible refine t_B ?_
    | with_reducible refine t_and ?_
    | with_reducible refine t_or ?_
    | with_reducible refine t_not ?_
    | with_reducible refine e_if ?_
    | with_reducible refine e_andV ?_
    | with_reducible refine e_orV ?_
    | with_reducible refine e_notV ?_
    | with_reducible refine e_chain ?_
    | with_reducible refine e_chain3 ?_
    | with_reducible refine rd_addI ?_
    | with_reducible refine rd_sub ?_
    | with_reducible refine rd_lt ?_
    | with_reducible refine rd_le ?_
    | with_reducible refine rd_gt ?_
    | with_reducible refine rd_ge ?_
    | with_reducible refine rd_eqI ?_
    | with_reducible refine rd_neI ?_
    | with_reducible refine rd_eqS ?_
    | with_reducible refine rd_neS ?_
    | with_reducible refine ru_neg ?_
    | with_reducible refine rc_int ?_
    | with_reducible refine rc_intB ?_
    | with_reducible refine rc_abs ?_
    | with_reducible refine rc_max2 ?_
    | with_reducible refine rc_min2 ?_
    | with_reducible refine rc_lenL ?_
    | with_reducible refine rc_lenT ?_
    | with_reducible refine rc_listL ?_
    | with_reducible refine rc_tupL ?_
    | with_reducible refine rc_tupT ?_
    | with_reducible refine e_call ?_
    | with_reducible refine rd_modX ?_
    | with_reducible refine rd_divX ?_
    | with_reducible refine rd_mulX ?_
    | with_reducible refine rd_powX ?_
    | with_reducible refine rd_neNilX ?_
    | with_reducible refine rd_isI ?_
    | with_reducible refine rd_isL ?_
    | with_reducible refine rd_isT ?_
    | with_reducible refine rd_isS ?_
    | with_reducible refine rd_isNn ?_
    | with_reducible refine rd_isNI ?_
    | with_reducible refine rd_isNL ?_
    | with_reducible refine rd_isNT ?_
    | with_reducible refine rd_isNS ?_
    | with_reducible refine rd_isNNn ?_
    | with_reducible refine rc_allX ?_
    | with_reducible refine rc_anyX ?_
    | with_reducible refine t_yes ?_
    | with_reducible refine rd_addLX ?_
    | with_reducible refine rd_addTX ?_
    | with_reducible refine rd_addSX ?_
    | with_reducible refine rd_inIntsX ?_
    | with_reducible refine o_none ?_
    | with_reducible refine o_some ?_
    | with_reducible refine i_rng1 ?_
    | with_reducible refine i_rng2 ?_
    | with_reducible refine i_zip ?_
    | with_reducible refine e_fld ?_
    | with_reducible refine e_tup ?_
    | with_reducible refine e_lst ?_
    | with_reducible refine rd_is rfl ?_ | with_reducible refine rd_isN rfl ?_
    | ((with_reducible refine rc_isiBX ?_); refine ⟨_, rfl, _, rfl, ?_⟩)
    | ((with_reducible refine e_isi2X ?_))
    | refine ⟨_, _, g_tup (gs_cons g_name (gs_cons g_name gs_nil)) rfl, ?_⟩
    | refine ⟨_, _, g_tup (gs_cons g_name (gs_cons g_name (gs_cons g_name gs_nil))) rfl, ?_⟩
    | refine ⟨_, _, g_tup (gs_cons g_name (gs_cons g_name (gs_cons g_name (gs_cons g_name gs_nil)))) rfl, ?_⟩
    | with_reducible refine Or.inl ⟨_, rfl, ?_⟩ | with_reducible refine Or.inr ⟨_, rfl, ?_⟩
    | with_reducible refine ⟨_, rfl, ?_⟩ | with_reducible refine ⟨rfl, ?_⟩ | with_reducible refine ⟨_, _, rfl, ?_⟩ | with_reducible refine ⟨_, _, _, rfl, ?_⟩ | with_reducible refine ⟨_, _, rfl, rfl, ?_⟩ | with_reducible refine ⟨fun _ => ?_, fun _ => ?_⟩ | with_reducible refine fun (_ : _ = true) => ?_ | with_reducible exact rfl | with_reducible refine And.intro ((by simp <;> fail : List.length _ ≤ 100000)) ?_ | with_reducible refine And.intro ((by simp only [List.length_map, List.length_append, List.length_cons, List.length_nil]; omega : List.length _ + List.length _ ≤ 100000)) ?_ | with_reducible refine And.intro (by omega) ?_ | with_reducible refine And.intro (by simp only [List.length_map]; omega) ?_ | with_reducible refine And.intro ((by first | omega | decide : (0 : Int) ≤ _ ∧ _ ≤ 1000000 ∧ Int.natAbs _ < 2 ^ 64)) ?_ | fail)
  all_goals (
    have hnum : ∀ (num : D), ((∃ i, num = .int i ∧ -(2 ^ 60) ≤ i ∧ i ≤ 2 ^ 60 ∧ decide (x = "most") = true) ∨ (∃ i, num = .int i ∧ 1 ≤ i ∧ i ≤ 2 ^ 60 ∧ decide (x = "rank") = true) ∨ (num = .non ∧ decide (x = "most") = false ∧ decide (x = "rank") = false)) → NumOk x num := fun num h => by
      rcases h with ⟨i, rfl, h1, h2, h3⟩ | ⟨i, rfl, h1, h2, h3⟩ | ⟨rfl, h1, h2⟩
      · exact .inl ⟨of_decide_eq_true h3, i, rfl, h1, h2⟩
      · exact .inr (.inl ⟨of_decide_eq_true h3, i, rfl, h1, h2⟩)
      · exact .inr (.inr ⟨rfl, of_decide_eq_false h1, of_decide_eq_false h2⟩)
    first
      | exact ⟨_, Nat.le_refl _, hk x _ _ _ none _ ⟨hx, hnum _ (by first | exact .inl ⟨_, rfl, by omega, by omega, by assumption⟩ | exact .inr (.inl ⟨_, rfl, by omega, by omega, by assumption⟩) | exact .inr (.inr ⟨rfl, by assumption, by assumption⟩)), by omega, by omega, by omega, fun ns e => (nomatch e)⟩ (by omega)⟩
      | exact ⟨_, Nat.le_refl _, hk x _ _ _ (some ns) _ ⟨hx, hnum _ (by first | exact .inl ⟨_, rfl, by omega, by omega, by assumption⟩ | exact .inr (.inl ⟨_, rfl, by omega, by omega, by assumption⟩) | exact .inr (.inr ⟨rfl, by assumption, by assumption⟩)), by omega, by omega, by omega, fun ns' e => by cases e; exact hns⟩ (by omega)⟩
      | trace_state)
end
end K51
set_option Elab.async false
set_option maxRecDepth 100000
set_option maxHeartbeats 4000000
set_option linter.all false
set_option autoImplicit false
namespace K51
open PySem PySem.Spec PyProof.Rows L2 DW
def gQ : List D → List Str → List D → Prop := fun es ns l => ∃ kind num st sp am, es = [.str kind, num, .int st, .int sp, amL am] ∧ Quest kind num st sp am ∧ ns = QN ∧ l = [.str kind, num, .int st, .int sp, amD am]
def PN : List Str := ["word", "parts"]
def gP : List D → List Str → List D → Prop := fun es ns l => ∃ (x : Str) (is : List Int), es = [.str x, .tup (is.map .int)] ∧ is.length ≤ 100000 ∧ ns = PN ∧ l = [.str x, .tup (is.map .int)]
def gE : List D → List Str → List D → Prop := fun es ns l => ∃ b c f la t lo hi : Int, es = [.int b, .int c, .int f, .int la, .int t, .int lo, .int hi] ∧ ns = EN ∧ l = [.str "entry", .tup ([b, c, f, la, t, lo, hi].map .int), .int b, .int c, .int f, .int la, .int t, .int lo, .int hi]
section
variable {K : PySem.W.Frag} {w : Option Addr} {n : Nat} {k : Kn} {es : List D} {C : Addr} {ns : List Str} {l : List D}
theorem w_Question_init (T : ClT K C QN) (h : gQ es ns l) : WpN K C (r_Question_init K (toSp K numberedSp) (toSp K withinSp) (toSp K momentsSp)) (nstart ["self", "kind", "number", "start", "stop", "among"] es) [] [] fun _ ns' l' => ns' = ns ∧ l' = l := by
  obtain ⟨kind, num, st, sp, am, rfl, ⟨q1, q2, q3, q4, q5, q6⟩, rfl, rfl⟩ := h
  have hnum : ∀ k : Kn, k (.bl true) 0 → numberedSp none [.str kind, num] 0 k := fun k hk => by
    refine ⟨hk, ?_⟩
    rcases q2 with ⟨rfl, i, rfl, h1, h2⟩ | ⟨rfl, i, rfl, h1, h2⟩ | ⟨rfl, h1, h2⟩
    · exact .inl ⟨i, rfl, h1, h2⟩
    · exact .inr (.inl ⟨i, rfl, h1, h2⟩)
    · exact .inr (.inr ⟨kind, rfl, h1, h2⟩)
  have hno : isOwn num = false := by
    rcases q2 with ⟨_, i, rfl, _⟩ | ⟨_, i, rfl, _⟩ | ⟨rfl, _⟩ <;> rfl
  have c1 : (decide ((0 : Int) ≤ st) && decide (st ≤ 1099511627775 + 1)) = true := by rw [Bool.and_eq_true]; exact ⟨decide_eq_true q3, decide_eq_true (by omega)⟩
  have c2 : (decide (st ≤ sp) && decide (sp ≤ 1099511627775 + 1)) = true := by rw [Bool.and_eq_true]; exact ⟨decide_eq_true q4, decide_eq_true (by omega)⟩
  unfold r_Question_init
  cases am with
  | none =>
    repeat' (first
    | exact absurd ‹false = true› (by decide) | exact absurd ‹true = false› (by decide)
    | exact absurd ‹(!(decide ((0 : Int) ≤ st) && decide (st ≤ 1099511627775 + 1))) = true› (by rw [c1]; decide)
    | exact absurd ‹(!(decide (st ≤ sp) && decide (sp ≤ 1099511627775 + 1))) = true› (by rw [c2]; decide)
    | with_reducible refine And.intro (by decide +kernel : _ ∉ _) ?_
    | with_reducible refine And.intro (by decide : List.length _ < 1000) ?_
    | with_reducible refine And.intro (q6 _ rfl) ?_
    | ((with_reducible refine e_varX ?_); refine ⟨_, rfl, hno, ?_⟩)
    | (refine hnum _ ?_)
    | with_reducible refine n_put T.cls (T.na _ (by decide +kernel)) ?_
    | with_reducible refine rd_isNn ?_
    | (refine rd_ninStrs (xs := kinds) ?_; rw [show decide (kind ∈ kinds) = true from decide_eq_true q1])
    | ((with_reducible refine s_cellX ?_); refine ⟨_, rfl, rfl, _, rfl, fun _ => ?_, ?_⟩)
    | ((with_reducible refine e_pen2X ?_); refine ⟨_, rfl, rfl, fun _ _ => ?_⟩)
    | ((with_reducible refine e_pen1X ?_); refine ⟨_, rfl, rfl, fun _ _ _ => ?_⟩)
    | ((with_reducible refine e_pen0X ?_); refine ⟨_, rfl, rfl, fun _ _ => ?_⟩)
    | ((with_reducible refine s_pen2X ?_); refine ⟨_, rfl, rfl, ?_⟩)
    | ((with_reducible refine s_pen1X ?_); refine ⟨_, rfl, rfl, ?_⟩)
    | ((with_reducible refine e_varX ?_); refine ⟨_, rfl, rfl, ?_⟩)
    | ((with_reducible refine e_slLV ?_); refine ⟨_, rfl, ?_⟩)
    | ((with_reducible refine e_slTV ?_); refine ⟨_, rfl, ?_⟩)
    | ((with_reducible refine s_appX ?_); refine ⟨_, rfl, ?_⟩)
    | ((with_reducible refine i_listV ?_); refine ⟨_, rfl, ?_⟩)
    | ((with_reducible refine i_tupV ?_); refine ⟨_, rfl, ?_⟩)
    | with_reducible refine rd_ixIntsX ⟨⟨?_, ?_⟩, fun _ _ _ => ?_⟩
    | ((with_reducible refine rd_ixLX ?_); refine ⟨_, rfl, ?_⟩)
    | ((with_reducible refine rd_ixTX ?_); refine ⟨_, rfl, ?_⟩)
    | with_reducible refine n_seq ?_
    | with_reducible refine n_if ?_
    | with_reducible refine n_next ?_
    | with_reducible refine s_seq ?_
    | with_reducible refine s_if ?_
    | with_reducible refine s_ret ?_
    | with_reducible refine s_set ?_
    | with_reducible refine s_asg ?_
    | with_reducible refine s_par ?_
    | with_reducible refine s_next ?_
    | with_reducible refine s_retN ?_
    | with_reducible refine s_drop ?_
    | with_reducible refine e_int ?_
    | with_reducible refine e_str ?_
    | with_reducible refine e_bl ?_
    | with_reducible refine e_non ?_
    | with_reducible refine e_raw ?_
    | with_reducible refine e_kt ?_
    | with_reducible refine e_op ?_
    | with_reducible refine e_un ?_
    | with_reducible refine e_cb ?_
    | with_reducible refine a_cons ?_
    | with_reducible refine a_nil ?_
    | with_reducible refine t_test ?_
    | with_reducible refine t_B ?_
    | with_reducible refine t_and ?_
    | with_reducible refine t_or ?_
    | with_reducible refine t_not ?_
    | with_reducible refine e_if ?_
    | with_reducible refine e_andV ?_
    | with_reducible refine e_orV ?_
    | with_reducible refine e_notV ?_
    | with_reducible refine e_chain ?_
    | with_reducible refine e_chain3 ?_
    | with_reducible refine rd_addI ?_
    | with_reducible refine rd_sub ?_
    | with_reducible refine rd_lt ?_
    | with_reducible refine rd_le ?_
    | with_reducible refine rd_gt ?_
    | with_reducible refine rd_ge ?_
    | with_reducible refine rd_eqI ?_
    | with_reducible refine rd_neI ?_
    | with_reducible refine rd_eqS ?_
    | with_reducible refine rd_neS ?_
    | with_reducible refine ru_neg ?_
    | with_reducible refine rc_int ?_
    | with_reducible refine rc_intB ?_
    | with_reducible refine rc_abs ?_
    | with_reducible refine rc_max2 ?_
    | with_reducible refine rc_min2 ?_
    | with_reducible refine rc_lenL ?_
    | with_reducible refine rc_lenT ?_
    | with_reducible refine rc_listL ?_
    | with_reducible refine rc_tupL ?_
    | with_reducible refine rc_tupT ?_
    | with_reducible refine e_call ?_
    | with_reducible refine rd_modX ?_
    | with_reducible refine rd_divX ?_
    | with_reducible refine rd_mulX ?_
    | with_reducible refine rd_powX ?_
    | with_reducible refine rd_neNilX ?_
    | with_reducible refine rd_isI ?_
    | with_reducible refine rd_isL ?_
    | with_reducible refine rd_isT ?_
    | with_reducible refine rd_isS ?_
    | with_reducible refine rd_isNn ?_
    | with_reducible refine rd_isNI ?_
    | with_reducible refine rd_isNL ?_
    | with_reducible refine rd_isNT ?_
    | with_reducible refine rd_isNS ?_
    | with_reducible refine rd_isNNn ?_
    | with_reducible refine rc_allX ?_
    | with_reducible refine rc_anyX ?_
    | with_reducible refine t_yes ?_
    | with_reducible refine rd_addLX ?_
    | with_reducible refine rd_addTX ?_
    | with_reducible refine rd_addSX ?_
    | with_reducible refine rd_inIntsX ?_
    | with_reducible refine o_none ?_
    | with_reducible refine o_some ?_
    | with_reducible refine i_rng1 ?_
    | with_reducible refine i_rng2 ?_
    | with_reducible refine i_zip ?_
    | with_reducible refine e_fld ?_
    | with_reducible refine e_tup ?_
    | with_reducible refine e_lst ?_
    | with_reducible refine rd_is rfl ?_ | with_reducible refine rd_isN rfl ?_
    | ((with_reducible refine rc_isiBX ?_); refine ⟨_, rfl, _, rfl, ?_⟩)
    | ((with_reducible refine e_isi2X ?_))
    | refine ⟨_, _, g_tup (gs_cons g_name (gs_cons g_name gs_nil)) rfl, ?_⟩
    | refine ⟨_, _, g_tup (gs_cons g_name (gs_cons g_name (gs_cons g_name gs_nil))) rfl, ?_⟩
    | refine ⟨_, _, g_tup (gs_cons g_name (gs_cons g_name (gs_cons g_name (gs_cons g_name gs_nil)))) rfl, ?_⟩
    | with_reducible refine Or.inl ⟨_, rfl, ?_⟩ | with_reducible refine Or.inr ⟨_, rfl, ?_⟩
    | with_reducible refine ⟨_, rfl, ?_⟩ | with_reducible refine ⟨rfl, ?_⟩ | with_reducible refine ⟨_, _, rfl, ?_⟩ | with_reducible refine ⟨_, _, _, rfl, ?_⟩ | with_reducible refine ⟨_, _, rfl, rfl, ?_⟩ | with_reducible refine ⟨fun _ => ?_, fun _ => ?_⟩ | with_reducible refine fun (_ : _ = true) => ?_ | with_reducible exact rfl | with_reducible refine And.intro ((by simp <;> fail : List.length _ ≤ 100000)) ?_ | with_reducible refine And.intro ((by simp only [List.length_map, List.length_append, List.length_cons, List.length_nil]; omega : List.length _ + List.length _ ≤ 100000)) ?_ | with_reducible refine And.intro (by omega) ?_ | with_reducible refine And.intro (by simp only [List.length_map]; omega) ?_ | with_reducible refine And.intro ((by first | omega | decide : (0 : Int) ≤ _ ∧ _ ≤ 1000000 ∧ Int.natAbs _ < 2 ^ 64)) ?_ | fail)
    all_goals rfl
  | some ms =>
    repeat' (first
    | exact absurd ‹false = true› (by decide) | exact absurd ‹true = false› (by decide)
    | exact absurd ‹(!(decide ((0 : Int) ≤ st) && decide (st ≤ 1099511627775 + 1))) = true› (by rw [c1]; decide)
    | exact absurd ‹(!(decide (st ≤ sp) && decide (sp ≤ 1099511627775 + 1))) = true› (by rw [c2]; decide)
    | with_reducible refine And.intro (by decide +kernel : _ ∉ _) ?_
    | with_reducible refine And.intro (by decide : List.length _ < 1000) ?_
    | with_reducible refine And.intro (q6 _ rfl) ?_
    | ((with_reducible refine e_varX ?_); refine ⟨_, rfl, hno, ?_⟩)
    | (refine hnum _ ?_)
    | with_reducible refine n_put T.cls (T.na _ (by decide +kernel)) ?_
    | with_reducible refine rd_isNn ?_
    | (refine rd_ninStrs (xs := kinds) ?_; rw [show decide (kind ∈ kinds) = true from decide_eq_true q1])
    | ((with_reducible refine s_cellX ?_); refine ⟨_, rfl, rfl, _, rfl, fun _ => ?_, ?_⟩)
    | ((with_reducible refine e_pen2X ?_); refine ⟨_, rfl, rfl, fun _ _ => ?_⟩)
    | ((with_reducible refine e_pen1X ?_); refine ⟨_, rfl, rfl, fun _ _ _ => ?_⟩)
    | ((with_reducible refine e_pen0X ?_); refine ⟨_, rfl, rfl, fun _ _ => ?_⟩)
    | ((with_reducible refine s_pen2X ?_); refine ⟨_, rfl, rfl, ?_⟩)
    | ((with_reducible refine s_pen1X ?_); refine ⟨_, rfl, rfl, ?_⟩)
    | ((with_reducible refine e_varX ?_); refine ⟨_, rfl, rfl, ?_⟩)
    | ((with_reducible refine e_slLV ?_); refine ⟨_, rfl, ?_⟩)
    | ((with_reducible refine e_slTV ?_); refine ⟨_, rfl, ?_⟩)
    | ((with_reducible refine s_appX ?_); refine ⟨_, rfl, ?_⟩)
    | ((with_reducible refine i_listV ?_); refine ⟨_, rfl, ?_⟩)
    | ((with_reducible refine i_tupV ?_); refine ⟨_, rfl, ?_⟩)
    | with_reducible refine rd_ixIntsX ⟨⟨?_, ?_⟩, fun _ _ _ => ?_⟩
    | ((with_reducible refine rd_ixLX ?_); refine ⟨_, rfl, ?_⟩)
    | ((with_reducible refine rd_ixTX ?_); refine ⟨_, rfl, ?_⟩)
    | with_reducible refine n_seq ?_
    | with_reducible refine n_if ?_
    | with_reducible refine n_next ?_
    | with_reducible refine s_seq ?_
    | with_reducible refine s_if ?_
    | with_reducible refine s_ret ?_
    | with_reducible refine s_set ?_
    | with_reducible refine s_asg ?_
    | with_reducible refine s_par ?_
    | with_reducible refine s_next ?_
    | with_reducible refine s_retN ?_
    | with_reducible refine s_drop ?_
    | with_reducible refine e_int ?_
    | with_reducible refine e_str ?_
    | with_reducible refine e_bl ?_
    | with_reducible refine e_non ?_
    | with_reducible refine e_raw ?_
    | with_reducible refine e_kt ?_
    | with_reducible refine e_op ?_
    | with_reducible refine e_un ?_
    | with_reducible refine e_cb ?_
    | with_reducible refine a_cons ?_
    | with_reducible refine a_nil ?_
    | with_reducible refine t_test ?_
    | with_reducible refine t_B ?_
    | with_reducible refine t_and ?_
    | with_reducible refine t_or ?_
    | with_reducible refine t_not ?_
    | with_reducible refine e_if ?_
    | with_reducible refine e_andV ?_
    | with_reducible refine e_orV ?_
    | with_reducible refine e_notV ?_
    | with_reducible refine e_chain ?_
    | with_reducible refine e_chain3 ?_
    | with_reducible refine rd_addI ?_
    | with_reducible refine rd_sub ?_
    | with_reducible refine rd_lt ?_
    | with_reducible refine rd_le ?_
    | with_reducible refine rd_gt ?_
    | with_reducible refine rd_ge ?_
    | with_reducible refine rd_eqI ?_
    | with_reducible refine rd_neI ?_
    | with_reducible refine rd_eqS ?_
    | with_reducible refine rd_neS ?_
    | with_reducible refine ru_neg ?_
    | with_reducible refine rc_int ?_
    | with_reducible refine rc_intB ?_
    | with_reducible refine rc_abs ?_
    | with_reducible refine rc_max2 ?_
    | with_reducible refine rc_min2 ?_
    | with_reducible refine rc_lenL ?_
    | with_reducible refine rc_lenT ?_
    | with_reducible refine rc_listL ?_
    | with_reducible refine rc_tupL ?_
    | with_reducible refine rc_tupT ?_
    | with_reducible refine e_call ?_
    | with_reducible refine rd_modX ?_
    | with_reducible refine rd_divX ?_
    | with_reducible refine rd_mulX ?_
    | with_reducible refine rd_powX ?_
    | with_reducible refine rd_neNilX ?_
    | with_reducible refine rd_isI ?_
    | with_reducible refine rd_isL ?_
    | with_reducible refine rd_isT ?_
    | with_reducible refine rd_isS ?_
    | with_reducible refine rd_isNn ?_
    | with_reducible refine rd_isNI ?_
    | with_reducible refine rd_isNL ?_
    | with_reducible refine rd_isNT ?_
    | with_reducible refine rd_isNS ?_
    | with_reducible refine rd_isNNn ?_
    | with_reducible refine rc_allX ?_
    | with_reducible refine rc_anyX ?_
    | with_reducible refine t_yes ?_
    | with_reducible refine rd_addLX ?_
    | with_reducible refine rd_addTX ?_
    | with_reducible refine rd_addSX ?_
    | with_reducible refine rd_inIntsX ?_
    | with_reducible refine o_none ?_
    | with_reducible refine o_some ?_
    | with_reducible refine i_rng1 ?_
    | with_reducible refine i_rng2 ?_
    | with_reducible refine i_zip ?_
    | with_reducible refine e_fld ?_
    | with_reducible refine e_tup ?_
    | with_reducible refine e_lst ?_
    | with_reducible refine rd_is rfl ?_ | with_reducible refine rd_isN rfl ?_
    | ((with_reducible refine rc_isiBX ?_); refine ⟨_, rfl, _, rfl, ?_⟩)
    | ((with_reducible refine e_isi2X ?_))
    | refine ⟨_, _, g_tup (gs_cons g_name (gs_cons g_name gs_nil)) rfl, ?_⟩
    | refine ⟨_, _, g_tup (gs_cons g_name (gs_cons g_name (gs_cons g_name gs_nil))) rfl, ?_⟩
    | refine ⟨_, _, g_tup (gs_cons g_name (gs_cons g_name (gs_cons g_name (gs_cons g_name gs_nil)))) rfl, ?_⟩
    | with_reducible refine Or.inl ⟨_, rfl, ?_⟩ | with_reducible refine Or.inr ⟨_, rfl, ?_⟩
    | with_reducible refine ⟨_, rfl, ?_⟩ | with_reducible refine ⟨rfl, ?_⟩ | with_reducible refine ⟨_, _, rfl, ?_⟩ | with_reducible refine ⟨_, _, _, rfl, ?_⟩ | with_reducible refine ⟨_, _, rfl, rfl, ?_⟩ | with_reducible refine ⟨fun _ => ?_, fun _ => ?_⟩ | with_reducible refine fun (_ : _ = true) => ?_ | with_reducible exact rfl | with_reducible refine And.intro ((by simp <;> fail : List.length _ ≤ 100000)) ?_ | with_reducible refine And.intro ((by simp only [List.length_map, List.length_append, List.length_cons, List.length_nil]; omega : List.length _ + List.length _ ≤ 100000)) ?_ | with_reducible refine And.intro (by omega) ?_ | with_reducible refine And.intro (by simp only [List.length_map]; omega) ?_ | with_reducible refine And.intro ((by first | omega | decide : (0 : Int) ≤ _ ∧ _ ≤ 1000000 ∧ Int.natAbs _ < 2 ^ 64)) ?_ | fail)
    all_goals rfl
theorem w_Paper_init (T : ClT K C PN) (h : gP es ns l) : WpN K C (r_Paper_init K (toSp K fixedSp)) (nstart ["self", "word", "parts"] es) [] [] fun _ ns' l' => ns' = ns ∧ l' = l := by
  obtain ⟨x, is, rfl, hz, rfl, rfl⟩ := h
  unfold r_Paper_init
  repeat' (first
    | exact absurd ‹false = true› (by decide) | exact absurd ‹true = false› (by decide)
    | with_reducible refine And.intro (by decide +kernel : _ ∉ _) ?_
    | with_reducible refine And.intro (by decide : List.length _ < 1000) ?_
    | with_reducible refine n_put T.cls (T.na _ (by decide +kernel)) ?_
    | refine ⟨is, rfl, hz, ?_⟩
    | ((with_reducible refine s_cellX ?_); refine ⟨_, rfl, rfl, _, rfl, fun _ => ?_, ?_⟩)
    | ((with_reducible refine e_pen2X ?_); refine ⟨_, rfl, rfl, fun _ _ => ?_⟩)
    | ((with_reducible refine e_pen1X ?_); refine ⟨_, rfl, rfl, fun _ _ _ => ?_⟩)
    | ((with_reducible refine e_pen0X ?_); refine ⟨_, rfl, rfl, fun _ _ => ?_⟩)
    | ((with_reducible refine s_pen2X ?_); refine ⟨_, rfl, rfl, ?_⟩)
    | ((with_reducible refine s_pen1X ?_); refine ⟨_, rfl, rfl, ?_⟩)
    | ((with_reducible refine e_varX ?_); refine ⟨_, rfl, rfl, ?_⟩)
    | ((with_reducible refine e_slLV ?_); refine ⟨_, rfl, ?_⟩)
    | ((with_reducible refine e_slTV ?_); refine ⟨_, rfl, ?_⟩)
    | ((with_reducible refine s_appX ?_); refine ⟨_, rfl, ?_⟩)
    | ((with_reducible refine i_listV ?_); refine ⟨_, rfl, ?_⟩)
    | ((with_reducible refine i_tupV ?_); refine ⟨_, rfl, ?_⟩)
    | with_reducible refine rd_ixIntsX ⟨⟨?_, ?_⟩, fun _ _ _ => ?_⟩
    | ((with_reducible refine rd_ixLX ?_); refine ⟨_, rfl, ?_⟩)
    | ((with_reducible refine rd_ixTX ?_); refine ⟨_, rfl, ?_⟩)
    | with_reducible refine n_seq ?_
    | with_reducible refine n_if ?_
    | with_reducible refine n_next ?_
    | with_reducible refine s_seq ?_
    | with_reducible refine s_if ?_
    | with_reducible refine s_ret ?_
    | with_reducible refine s_set ?_
    | with_reducible refine s_asg ?_
    | with_reducible refine s_par ?_
    | with_reducible refine s_next ?_
    | with_reducible refine s_retN ?_
    | with_reducible refine s_drop ?_
    | with_reducible refine e_int ?_
    | with_reducible refine e_str ?_
    | with_reducible refine e_bl ?_
    | with_reducible refine e_non ?_
    | with_reducible refine e_raw ?_
    | with_reducible refine e_kt ?_
    | with_reducible refine e_op ?_
    | with_reducible refine e_un ?_
    | with_reducible refine e_cb ?_
    | with_reducible refine a_cons ?_
    | with_reducible refine a_nil ?_
    | with_reducible refine t_test ?_
    | with_reducible refine t_B ?_
    | with_reducible refine t_and ?_
    | with_reducible refine t_or ?_
    | with_reducible refine t_not ?_
    | with_reducible refine e_if ?_
    | with_reducible refine e_andV ?_
    | with_reducible refine e_orV ?_
    | with_reducible refine e_notV ?_
    | with_reducible refine e_chain ?_
    | with_reducible refine e_chain3 ?_
    | with_reducible refine rd_addI ?_
    | with_reducible refine rd_sub ?_
    | with_reducible refine rd_lt ?_
    | with_reducible refine rd_le ?_
    | with_reducible refine rd_gt ?_
    | with_reducible refine rd_ge ?_
    | with_reducible refine rd_eqI ?_
    | with_reducible refine rd_neI ?_
    | with_reducible refine rd_eqS ?_
    | with_reducible refine rd_neS ?_
    | with_reducible refine ru_neg ?_
    | with_reducible refine rc_int ?_
    | with_reducible refine rc_intB ?_
    | with_reducible refine rc_abs ?_
    | with_reducible refine rc_max2 ?_
    | with_reducible refine rc_min2 ?_
    | with_reducible refine rc_lenL ?_
    | with_reducible refine rc_lenT ?_
    | with_reducible refine rc_listL ?_
    | with_reducible refine rc_tupL ?_
    | with_reducible refine rc_tupT ?_
    | with_reducible refine e_call ?_
    | with_reducible refine rd_modX ?_
    | with_reducible refine rd_divX ?_
    | with_reducible refine rd_mulX ?_
    | with_reducible refine rd_powX ?_
    | with_reducible refine rd_neNilX ?_
    | with_reducible refine rd_isI ?_
    | with_reducible refine rd_isL ?_
    | with_reducible refine rd_isT ?_
    | with_reducible refine rd_isS ?_
    | with_reducible refine rd_isNn ?_
    | with_reducible refine rd_isNI ?_
    | with_reducible refine rd_isNL ?_
    | with_reducible refine rd_isNT ?_
    | with_reducible refine rd_isNS ?_
    | with_reducible refine rd_isNNn ?_
    | with_reducible refine rc_allX ?_
    | with_reducible refine rc_anyX ?_
    | with_reducible refine t_yes ?_
    | with_reducible refine rd_addLX ?_
    | with_reducible refine rd_addTX ?_
    | with_reducible refine rd_addSX ?_
    | with_reducible refine rd_inIntsX ?_
    | with_reducible refine o_none ?_
    | with_reducible refine o_some ?_
    | with_reducible refine i_rng1 ?_
    | with_reducible refine i_rng2 ?_
    | with_reducible refine i_zip ?_
    | with_reducible refine e_fld ?_
    | with_reducible refine e_tup ?_
    | with_reducible refine e_lst ?_
    | with_reducible refine rd_is rfl ?_ | with_reducible refine rd_isN rfl ?_
    | ((with_reducible refine rc_isiBX ?_); refine ⟨_, rfl, _, rfl, ?_⟩)
    | ((with_reducible refine e_isi2X ?_))
    | refine ⟨_, _, g_tup (gs_cons g_name (gs_cons g_name gs_nil)) rfl, ?_⟩
    | refine ⟨_, _, g_tup (gs_cons g_name (gs_cons g_name (gs_cons g_name gs_nil))) rfl, ?_⟩
    | refine ⟨_, _, g_tup (gs_cons g_name (gs_cons g_name (gs_cons g_name (gs_cons g_name gs_nil)))) rfl, ?_⟩
    | with_reducible refine Or.inl ⟨_, rfl, ?_⟩ | with_reducible refine Or.inr ⟨_, rfl, ?_⟩
    | with_reducible refine ⟨_, rfl, ?_⟩ | with_reducible refine ⟨rfl, ?_⟩ | with_reducible refine ⟨_, _, rfl, ?_⟩ | with_reducible refine ⟨_, _, _, rfl, ?_⟩ | with_reducible refine ⟨_, _, rfl, rfl, ?_⟩ | with_reducible refine ⟨fun _ => ?_, fun _ => ?_⟩ | with_reducible refine fun (_ : _ = true) => ?_ | with_reducible exact rfl | with_reducible refine And.intro ((by simp <;> fail : List.length _ ≤ 100000)) ?_ | with_reducible refine And.intro ((by simp only [List.length_map, List.length_append, List.length_cons, List.length_nil]; omega : List.length _ + List.length _ ≤ 100000)) ?_ | with_reducible refine And.intro (by omega) ?_ | with_reducible refine And.intro (by simp only [List.length_map]; omega) ?_ | with_reducible refine And.intro ((by first | omega | decide : (0 : Int) ≤ _ ∧ _ ≤ 1000000 ∧ Int.natAbs _ < 2 ^ 64)) ?_ | fail)
  all_goals rfl
theorem w_Entry_init (T : ClT K C EN) (h : gE es ns l) : WpA K none (a_Entry_init K) (none :: (es.map some ++ none :: List.replicate (9 - (es.length + 2)) none)) 0 fun fs _ => ∃ d r ns1 l1, fs = d :: r ∧ r.length ≤ 100000 ∧ gP [d, .tup r] ns1 l1 ∧
    WpN K C (r_Entry_init K) (none :: (es.map some ++ none :: List.replicate (9 - (es.length + 2)) none)) ns1 l1 fun _ ns' l' => ns' = ns ∧ l' = l := by
  obtain ⟨b, c, f, la, t, lo, hi, rfl, rfl, rfl⟩ := h
  unfold a_Entry_init
  repeat' (first
    | exact absurd ‹false = true› (by decide) | exact absurd ‹true = false› (by decide)
    | ((with_reducible refine s_cellX ?_); refine ⟨_, rfl, rfl, _, rfl, fun _ => ?_, ?_⟩)
    | ((with_reducible refine e_pen2X ?_); refine ⟨_, rfl, rfl, fun _ _ => ?_⟩)
    | ((with_reducible refine e_pen1X ?_); refine ⟨_, rfl, rfl, fun _ _ _ => ?_⟩)
    | ((with_reducible refine e_pen0X ?_); refine ⟨_, rfl, rfl, fun _ _ => ?_⟩)
    | ((with_reducible refine s_pen2X ?_); refine ⟨_, rfl, rfl, ?_⟩)
    | ((with_reducible refine s_pen1X ?_); refine ⟨_, rfl, rfl, ?_⟩)
    | ((with_reducible refine e_varX ?_); refine ⟨_, rfl, rfl, ?_⟩)
    | ((with_reducible refine e_slLV ?_); refine ⟨_, rfl, ?_⟩)
    | ((with_reducible refine e_slTV ?_); refine ⟨_, rfl, ?_⟩)
    | ((with_reducible refine s_appX ?_); refine ⟨_, rfl, ?_⟩)
    | ((with_reducible refine i_listV ?_); refine ⟨_, rfl, ?_⟩)
    | ((with_reducible refine i_tupV ?_); refine ⟨_, rfl, ?_⟩)
    | with_reducible refine rd_ixIntsX ⟨⟨?_, ?_⟩, fun _ _ _ => ?_⟩
    | ((with_reducible refine rd_ixLX ?_); refine ⟨_, rfl, ?_⟩)
    | ((with_reducible refine rd_ixTX ?_); refine ⟨_, rfl, ?_⟩)
    | with_reducible refine n_seq ?_
    | with_reducible refine n_if ?_
    | with_reducible refine n_next ?_
    | with_reducible refine s_seq ?_
    | with_reducible refine s_if ?_
    | with_reducible refine s_ret ?_
    | with_reducible refine s_set ?_
    | with_reducible refine s_asg ?_
    | with_reducible refine s_par ?_
    | with_reducible refine s_next ?_
    | with_reducible refine s_retN ?_
    | with_reducible refine s_drop ?_
    | with_reducible refine e_int ?_
    | with_reducible refine e_str ?_
    | with_reducible refine e_bl ?_
    | with_reducible refine e_non ?_
    | with_reducible refine e_raw ?_
    | with_reducible refine e_kt ?_
    | with_reducible refine e_op ?_
    | with_reducible refine e_un ?_
    | with_reducible refine e_cb ?_
    | with_reducible refine a_cons ?_
    | with_reducible refine a_nil ?_
    | with_reducible refine t_test ?_
    | with_reducible refine t_B ?_
    | with_reducible refine t_and ?_
    | with_reducible refine t_or ?_
    | with_reducible refine t_not ?_
    | with_reducible refine e_if ?_
    | with_reducible refine e_andV ?_
    | with_reducible refine e_orV ?_
    | with_reducible refine e_notV ?_
    | with_reducible refine e_chain ?_
    | with_reducible refine e_chain3 ?_
    | with_reducible refine rd_addI ?_
    | with_reducible refine rd_sub ?_
    | with_reducible refine rd_lt ?_
    | with_reducible refine rd_le ?_
    | with_reducible refine rd_gt ?_
    | with_reducible refine rd_ge ?_
    | with_reducible refine rd_eqI ?_
    | with_reducible refine rd_neI ?_
    | with_reducible refine rd_eqS ?_
    | with_reducible refine rd_neS ?_
    | with_reducible refine ru_neg ?_
    | with_reducible refine rc_int ?_
    | with_reducible refine rc_intB ?_
    | with_reducible refine rc_abs ?_
    | with_reducible refine rc_max2 ?_
    | with_reducible refine rc_min2 ?_
    | with_reducible refine rc_lenL ?_
    | with_reducible refine rc_lenT ?_
    | with_reducible refine rc_listL ?_
    | with_reducible refine rc_tupL ?_
    | with_reducible refine rc_tupT ?_
    | with_reducible refine e_call ?_
    | with_reducible refine rd_modX ?_
    | with_reducible refine rd_divX ?_
    | with_reducible refine rd_mulX ?_
    | with_reducible refine rd_powX ?_
    | with_reducible refine rd_neNilX ?_
    | with_reducible refine rd_isI ?_
    | with_reducible refine rd_isL ?_
    | with_reducible refine rd_isT ?_
    | with_reducible refine rd_isS ?_
    | with_reducible refine rd_isNn ?_
    | with_reducible refine rd_isNI ?_
    | with_reducible refine rd_isNL ?_
    | with_reducible refine rd_isNT ?_
    | with_reducible refine rd_isNS ?_
    | with_reducible refine rd_isNNn ?_
    | with_reducible refine rc_allX ?_
    | with_reducible refine rc_anyX ?_
    | with_reducible refine t_yes ?_
    | with_reducible refine rd_addLX ?_
    | with_reducible refine rd_addTX ?_
    | with_reducible refine rd_addSX ?_
    | with_reducible refine rd_inIntsX ?_
    | with_reducible refine o_none ?_
    | with_reducible refine o_some ?_
    | with_reducible refine i_rng1 ?_
    | with_reducible refine i_rng2 ?_
    | with_reducible refine i_zip ?_
    | with_reducible refine e_fld ?_
    | with_reducible refine e_tup ?_
    | with_reducible refine e_lst ?_
    | with_reducible refine rd_is rfl ?_ | with_reducible refine rd_isN rfl ?_
    | ((with_reducible refine rc_isiBX ?_); refine ⟨_, rfl, _, rfl, ?_⟩)
    | ((with_reducible refine e_isi2X ?_))
    | refine ⟨_, _, g_tup (gs_cons g_name (gs_cons g_name gs_nil)) rfl, ?_⟩
    | refine ⟨_, _, g_tup (gs_cons g_name (gs_cons g_name (gs_cons g_name gs_nil))) rfl, ?_⟩
    | refine ⟨_, _, g_tup (gs_cons g_name (gs_cons g_name (gs_cons g_name (gs_cons g_name gs_nil)))) rfl, ?_⟩
    | with_reducible refine Or.inl ⟨_, rfl, ?_⟩ | with_reducible refine Or.inr ⟨_, rfl, ?_⟩
    | with_reducible refine ⟨_, rfl, ?_⟩ | with_reducible refine ⟨rfl, ?_⟩ | with_reducible refine ⟨_, _, rfl, ?_⟩ | with_reducible refine ⟨_, _, _, rfl, ?_⟩ | with_reducible refine ⟨_, _, rfl, rfl, ?_⟩ | with_reducible refine ⟨fun _ => ?_, fun _ => ?_⟩ | with_reducible refine fun (_ : _ = true) => ?_ | with_reducible exact rfl | with_reducible refine And.intro ((by simp <;> fail : List.length _ ≤ 100000)) ?_ | with_reducible refine And.intro ((by simp only [List.length_map, List.length_append, List.length_cons, List.length_nil]; omega : List.length _ + List.length _ ≤ 100000)) ?_ | with_reducible refine And.intro (by omega) ?_ | with_reducible refine And.intro (by simp only [List.length_map]; omega) ?_ | with_reducible refine And.intro ((by first | omega | decide : (0 : Int) ≤ _ ∧ _ ≤ 1000000 ∧ Int.natAbs _ < 2 ^ 64)) ?_ | fail)
  refine ⟨_, _, PN, _, rfl, by simp, ⟨"entry", [b, c, f, la, t, lo, hi], rfl, by simp, rfl, rfl⟩, ?_⟩
  unfold r_Entry_init
  refine n_unpack (fs := ["bits", "count", "first", "last", "total", "least", "greatest"]) (es := [b, c, f, la, t, lo, hi].map .int) T.cls (T.na _ (by decide +kernel)) rfl rfl rfl (fun g hg => T.na g ?_) (by decide +kernel) (by decide) ⟨rfl, rfl⟩
  revert g hg
  decide +kernel
abbrev madeSp (CQ : Addr) : DSpW := fun w es n k => ∃ kind num st sp am, es = [qT kind num st sp am] ∧ Quest kind num st sp am ∧ k (questionD CQ kind num st sp am) n
theorem w__law_made (h : madeSp C w es n k) : WpS K w (r__law_made K C (initSp K C gQ)) (dstart ["question"] es) n { nx := fun _ n' => kup k .non n', rt := kup k } := by
  obtain ⟨kind, num, st, sp, am, rfl, hq, hk⟩ := h
  unfold r__law_made
  repeat' (first
    | exact absurd ‹false = true› (by decide) | exact absurd ‹true = false› (by decide)
    | with_reducible refine e_make ?_
    | ((with_reducible refine s_cellX ?_); refine ⟨_, rfl, rfl, _, rfl, fun _ => ?_, ?_⟩)
    | ((with_reducible refine e_pen2X ?_); refine ⟨_, rfl, rfl, fun _ _ => ?_⟩)
    | ((with_reducible refine e_pen1X ?_); refine ⟨_, rfl, rfl, fun _ _ _ => ?_⟩)
    | ((with_reducible refine e_pen0X ?_); refine ⟨_, rfl, rfl, fun _ _ => ?_⟩)
    | ((with_reducible refine s_pen2X ?_); refine ⟨_, rfl, rfl, ?_⟩)
    | ((with_reducible refine s_pen1X ?_); refine ⟨_, rfl, rfl, ?_⟩)
    | ((with_reducible refine e_varX ?_); refine ⟨_, rfl, rfl, ?_⟩)
    | ((with_reducible refine e_slLV ?_); refine ⟨_, rfl, ?_⟩)
    | ((with_reducible refine e_slTV ?_); refine ⟨_, rfl, ?_⟩)
    | ((with_reducible refine s_appX ?_); refine ⟨_, rfl, ?_⟩)
    | ((with_reducible refine i_listV ?_); refine ⟨_, rfl, ?_⟩)
    | ((with_reducible refine i_tupV ?_); refine ⟨_, rfl, ?_⟩)
    | with_reducible refine rd_ixIntsX ⟨⟨?_, ?_⟩, fun _ _ _ => ?_⟩
    | ((with_reducible refine rd_ixLX ?_); refine ⟨_, rfl, ?_⟩)
    | ((with_reducible refine rd_ixTX ?_); refine ⟨_, rfl, ?_⟩)
    | with_reducible refine n_seq ?_
    | with_reducible refine n_if ?_
    | with_reducible refine n_next ?_
    | with_reducible refine s_seq ?_
    | with_reducible refine s_if ?_
    | with_reducible refine s_ret ?_
    | with_reducible refine s_set ?_
    | with_reducible refine s_asg ?_
    | with_reducible refine s_par ?_
    | with_reducible refine s_next ?_
    | with_reducible refine s_retN ?_
    | with_reducible refine s_drop ?_
    | with_reducible refine e_int ?_
    | with_reducible refine e_str ?_
    | with_reducible refine e_bl ?_
    | with_reducible refine e_non ?_
    | with_reducible refine e_raw ?_
    | with_reducible refine e_kt ?_
    | with_reducible refine e_op ?_
    | with_reducible refine e_un ?_
    | with_reducible refine e_cb ?_
    | with_reducible refine a_cons ?_
    | with_reducible refine a_nil ?_
    | with_reducible refine t_test ?_
    | with_reducible refine t_B ?_
    | with_reducible refine t_and ?_
    | with_reducible refine t_or ?_
    | with_reducible refine t_not ?_
    | with_reducible refine e_if ?_
    | with_reducible refine e_andV ?_
    | with_reducible refine e_orV ?_
    | with_reducible refine e_notV ?_
    | with_reducible refine e_chain ?_
    | with_reducible refine e_chain3 ?_
    | with_reducible refine rd_addI ?_
    | with_reducible refine rd_sub ?_
    | with_reducible refine rd_lt ?_
    | with_reducible refine rd_le ?_
    | with_reducible refine rd_gt ?_
    | with_reducible refine rd_ge ?_
    | with_reducible refine rd_eqI ?_
    | with_reducible refine rd_neI ?_
    | with_reducible refine rd_eqS ?_
    | with_reducible refine rd_neS ?_
    | with_reducible refine ru_neg ?_
    | with_reducible refine rc_int ?_
    | with_reducible refine rc_intB ?_
    | with_reducible refine rc_abs ?_
    | with_reducible refine rc_max2 ?_
    | with_reducible refine rc_min2 ?_
    | with_reducible refine rc_lenL ?_
    | with_reducible refine rc_lenT ?_
    | with_reducible refine rc_listL ?_
    | with_reducible refine rc_tupL ?_
    | with_reducible refine rc_tupT ?_
    | with_reducible refine e_call ?_
    | with_reducible refine rd_modX ?_
    | with_reducible refine rd_divX ?_
    | with_reducible refine rd_mulX ?_
    | with_reducible refine rd_powX ?_
    | with_reducible refine rd_neNilX ?_
    | with_reducible refine rd_isI ?_
    | with_reducible refine rd_isL ?_
    | with_reducible refine rd_isT ?_
    | with_reducible refine rd_isS ?_
    | with_reducible refine rd_isNn ?_
    | with_reducible refine rd_isNI ?_
    | with_reducible refine rd_isNL ?_
    | with_reducible refine rd_isNT ?_
    | with_reducible refine rd_isNS ?_
    | with_reducible refine rd_isNNn ?_
    | with_reducible refine rc_allX ?_
    | with_reducible refine rc_anyX ?_
    | with_reducible refine t_yes ?_
    | with_reducible refine rd_addLX ?_
    | with_reducible refine rd_addTX ?_
    | with_reducible refine rd_addSX ?_
    | with_reducible refine rd_inIntsX ?_
    | with_reducible refine o_none ?_
    | with_reducible refine o_some ?_
    | with_reducible refine i_rng1 ?_
    | with_reducible refine i_rng2 ?_
    | with_reducible refine i_zip ?_
    | with_reducible refine e_fld ?_
    | with_reducible refine e_tup ?_
    | with_reducible refine e_lst ?_
    | with_reducible refine rd_is rfl ?_ | with_reducible refine rd_isN rfl ?_
    | ((with_reducible refine rc_isiBX ?_); refine ⟨_, rfl, _, rfl, ?_⟩)
    | ((with_reducible refine e_isi2X ?_))
    | refine ⟨_, _, g_tup (gs_cons g_name (gs_cons g_name gs_nil)) rfl, ?_⟩
    | refine ⟨_, _, g_tup (gs_cons g_name (gs_cons g_name (gs_cons g_name gs_nil))) rfl, ?_⟩
    | refine ⟨_, _, g_tup (gs_cons g_name (gs_cons g_name (gs_cons g_name (gs_cons g_name gs_nil)))) rfl, ?_⟩
    | with_reducible refine Or.inl ⟨_, rfl, ?_⟩ | with_reducible refine Or.inr ⟨_, rfl, ?_⟩
    | with_reducible refine ⟨_, rfl, ?_⟩ | with_reducible refine ⟨rfl, ?_⟩ | with_reducible refine ⟨_, _, rfl, ?_⟩ | with_reducible refine ⟨_, _, _, rfl, ?_⟩ | with_reducible refine ⟨_, _, rfl, rfl, ?_⟩ | with_reducible refine ⟨fun _ => ?_, fun _ => ?_⟩ | with_reducible refine fun (_ : _ = true) => ?_ | with_reducible exact rfl | with_reducible refine And.intro ((by simp <;> fail : List.length _ ≤ 100000)) ?_ | with_reducible refine And.intro ((by simp only [List.length_map, List.length_append, List.length_cons, List.length_nil]; omega : List.length _ + List.length _ ≤ 100000)) ?_ | with_reducible refine And.intro (by omega) ?_ | with_reducible refine And.intro (by simp only [List.length_map]; omega) ?_ | with_reducible refine And.intro ((by first | omega | decide : (0 : Int) ≤ _ ∧ _ ≤ 1000000 ∧ Int.natAbs _ < 2 ^ 64)) ?_ | fail)
  exact ⟨QN, _, ⟨kind, num, st, sp, am, rfl, hq, rfl, rfl⟩, kup_of hk⟩
end
end K51
set_option Elab.async false
set_option maxRecDepth 100000
set_option maxHeartbeats 4000000
set_option linter.all false
set_option autoImplicit false
namespace K51
open PySem PySem.Spec PyProof.Rows L2 DW
theorem great_poss {c f l x : Int} (c1 : 2 ≤ c) (c2 : c ≤ 2 ^ 36) (f0 : 0 ≤ f) (e : l = f + c - 1 + x) (x0 : 0 ≤ x) (l2 : l < 2 ^ 40) : Possible 0 c f l 0 (-1) 1 ∧ EntL c f l := by
  refine ⟨⟨by omega, by omega, c2, f0, by omega, l2, by omega, by omega, by omega, fun z => by omega, fun _ => ⟨by omega, by omega, by omega⟩⟩, by omega, fun z => by omega, fun _ => ⟨c1, by omega⟩⟩
theorem great_all {c f l : Int} (c1 : 2 ≤ c) (h : c - 1 ≤ l - f) : ptsP c f l f (l + 1) none = (c, c) := by
  rw [pts_more (am := none) (fun ns e => by cases e) (by omega)]
  have e1 : askedP f (l + 1) none f = true := by simp [askedP, inA]; omega
  have e2 : askedP f (l + 1) none l = true := by simp [askedP, inA]; omega
  rw [e1, e2, between_none]
  ext
  · simp; omega
  · simp; omega
theorem great_none {c f l : Int} (c1 : 2 ≤ c) (h : c - 1 ≤ l - f) : ptsP c f l f f none = (0, 0) := by
  rw [pts_more (am := none) (fun ns e => by cases e) (by omega)]
  have e1 : askedP f f none f = false := by simp [askedP, inA]
  have e2 : askedP f f none l = false := by simp [askedP, inA]
  rw [e1, e2, between_none]
  ext
  · simp; omega
  · simp; omega
theorem pick4 {a b : Int} {d : D} (h : d ∈ [D.int 0, .int 1, .int a, .int b]) (a0 : 0 ≤ a) (a1 : a < 1000000) (b0 : 0 ≤ b) (b1 : b < 100000000000) : ∃ z, d = .int z ∧ 0 ≤ z ∧ z < 100000000000 := by
  simp only [List.mem_cons, List.not_mem_nil, or_false] at h
  rcases h with rfl | rfl | rfl | rfl
  · exact ⟨0, rfl, by omega, by omega⟩
  · exact ⟨1, rfl, by omega, by omega⟩
  · exact ⟨a, rfl, a0, by omega⟩
  · exact ⟨b, rfl, b0, b1⟩
section
variable {K : PySem.W.Frag} {w : Option Addr} {n : Nat} {k : Kn} {ds : List (Option D)} {p : Addr} {last : Int} {C : Addr} {tA : TA}
theorem pow_a (hk : k (.int 68719476736) n) : RD K w (rI CPow fun i j => .int (i ^ j.toNat)) (.int 2) (.int 36) n k := rd_pow ⟨by decide, by decide, by decide⟩ hk
theorem pow_b (hk : k (.int 1000000000) n) : RD K w (rI CPow fun i j => .int (i ^ j.toNat)) (.int 10) (.int 9) n k := rd_pow ⟨by decide, by decide, by decide⟩ hk
theorem pow_c (hk : k (.int 1000000) n) : RD K w (rI CPow fun i j => .int (i ^ j.toNat)) (.int 10) (.int 6) n k := rd_pow ⟨by decide, by decide, by decide⟩ hk
theorem pow_d (hk : k (.int 100000000000) n) : RD K w (rI CPow fun i j => .int (i ^ j.toNat)) (.int 10) (.int 11) n k := rd_pow ⟨by decide, by decide, by decide⟩ hk
theorem e_makeQ (h : WpA K w tA ds n fun es n1 => ∃ kind num st sp, es = [.str kind, num, .int st, .int sp] ∧ Quest kind num st sp none ∧ k (questionD C kind num st sp none) n1) : WpE K w (tMake C (initSp K C gQ) [V.non] E0 tA) ds n k :=
  e_makeD (des := [.non]) (.cons .non .nil) fun S H0 σ H Q re ok p => h S H0 σ H Q re ok fun vs H' es n' ⟨kind, num, st, sp, e, hq, hk⟩ pr ok' r => p vs H' es n' ⟨QN, _, ⟨kind, num, st, sp, none, by rw [e]; rfl, hq, rfl, rfl⟩, hk⟩ pr ok' r
theorem among2_ok (h0 : ds[1]? = some (some (.raw (.ref p)))) (h4 : ds[9]? = some (some (.int last))) (hl0 : 0 ≤ last) (hl1 : last < 2 ^ 41) (hn : n < 2 ^ 19 + 100) (hk : ∀ is : List (Int × Bool), is.length ≤ 9 → (∀ q ∈ is, 0 ≤ q.1 ∧ q.1 < last + 5) → k (.lst (is.map fun p => .tup [.int p.1, .bl p.2])) (n + 9)) :
    WpE K (some p) (tLc (iRng1 (tCons (tC (.int 9)) tNil)) (gName 12) tYes (tTup (tCons (tCall (toSp K drawSp) [] E0 (tCons (tVar 1) (tCons (tOp (rAddU K) (tVar 9) (tC (.int 5))) tNil))) (tCons (tC (.bl true)) tNil))) [12]) ds n k := by
  refine WpF.toE (f_lc (i_rng1 (a_cons (e_int (a_nil ⟨_, rfl, by omega, by omega, ?_⟩)))))
  refine ⟨by rw [rgD_len]; decide, fun i acc n' => n' = n + i ∧ i ≤ 9 ∧ ∃ is : List (Int × Bool), acc = is.map (fun p => D.tup [.int p.1, .bl p.2]) ∧ is.length = i ∧ (∀ q ∈ is, 0 ≤ q.1 ∧ q.1 < last + 5), ⟨rfl, by omega, [], rfl, rfl, fun z hz => (by cases hz)⟩, ?_, ?_⟩
  · rintro i x acc n' hx ⟨h1, h2, is, rfl, h3, h5⟩
    obtain ⟨hi, rfl⟩ := rgD_get hx
    have dd : ∀ j : Nat, j ≠ 12 → ((dwipe ds [12]).set 12 (some (D.int (0 + (i : Nat)))))[j]? = ds[j]? := fun j hj => by
      show (((dwipe ds []).set 12 none).set 12 _)[j]? = _
      rw [List.set_set, List.getElem?_set_ne (fun z => hj z.symm)]; rfl
    refine ⟨_, g_name rfl, t_yes ⟨fun _ => e_tup (a_cons (e_call (a_cons (e_var ((dd 1 (by decide)).trans h0) (a_cons (e_op (e_var ((dd 9 (by decide)).trans h4) (e_int (rd_addI (a_nil ?_)))))))))), fun z => (nomatch z)⟩⟩
    refine ⟨p, _, rfl, rfl, by omega, by omega, by omega, fun d hd1 hd2 => a_cons (e_bl (a_nil ⟨by simp, by omega, ?_, is ++ [(d, true)], ?_, ?_, ?_⟩))⟩
    · have : i < 9 := by simpa using hi
      omega
    · rw [List.map_append]; rfl
    · rw [List.length_append, h3]; rfl
    · intro q hq
      rcases List.mem_append.mp hq with z | z
      · exact h5 q z
      · rw [List.mem_singleton] at z
        subst z
        exact ⟨hd1, hd2⟩
  · rintro acc n' ⟨h1, h2, is, rfl, h3, h5⟩
    rw [rgD_len] at h1 h3
    subst h1
    exact hk is (by rw [h3]; decide) h5
/-! ### keys of a dict of pairs -/
theorem putK_in {i : Int} {v : V} {kvs : List (Key × V)} (h : (Sum.inl i : Key) ∈ kvs.map (·.1)) : (putK kvs (Sum.inl i) v).map (·.1) = kvs.map (·.1) := by
  unfold putK
  obtain ⟨q, hq, e⟩ := List.mem_map.mp h
  rw [if_pos (List.any_eq_true.mpr ⟨q, hq, decide_eq_true e⟩), List.map_map]
  apply List.map_congr_left
  intro x _
  show (if x.1 = Sum.inl i then (x.1, v) else x).1 = x.1
  split <;> rfl
theorem putK_out {i : Int} {v : V} {kvs : List (Key × V)} (h : (Sum.inl i : Key) ∉ kvs.map (·.1)) : (putK kvs (Sum.inl i) v).map (·.1) = kvs.map (·.1) ++ [Sum.inl i] := by
  unfold putK
  have hn : ¬ (kvs.any fun kv => decide (kv.1 = Sum.inl i)) = true := fun z => by
    obtain ⟨q, hq, e⟩ := List.any_eq_true.mp z
    exact h (List.mem_map.mpr ⟨q, hq, of_decide_eq_true e⟩)
  rw [if_neg hn, List.map_append]; rfl
theorem merge_keys : ∀ (is : List (Int × Bool)) (kvs : List (Key × V)) (ns : List Int), kvs.map (·.1) = ns.map Sum.inl → ns.Nodup →
    ∃ ms : List Int, (mergeK kvs (is.map fun p => ((Sum.inl p.1 : Key), V.bl p.2))).map (·.1) = ms.map Sum.inl ∧ ms.Nodup ∧ (∀ z ∈ ms, z ∈ ns ∨ ∃ q ∈ is, q.1 = z) ∧ ms.length ≤ ns.length + is.length
  | [], kvs, ns, h, hd => ⟨ns, h, hd, fun z hz => .inl hz, by simp⟩
  | q :: is, kvs, ns, h, hd => by
    have hmem : (Sum.inl q.1 : Key) ∈ kvs.map (·.1) ↔ q.1 ∈ ns := by
      rw [h, List.mem_map]
      constructor
      · rintro ⟨z, hz, e⟩
        cases e; exact hz
      · intro z; exact ⟨q.1, z, rfl⟩
    by_cases hq : q.1 ∈ ns
    · have hp := putK_in (v := V.bl q.2) (hmem.mpr hq)
      rw [h] at hp
      obtain ⟨ms, m1, m2, m3, m4⟩ := merge_keys is (putK kvs (Sum.inl q.1) (V.bl q.2)) ns hp hd
      refine ⟨ms, m1, m2, fun z hz => ?_, by simp; omega⟩
      rcases m3 z hz with a | ⟨q', a, b⟩
      · exact .inl a
      · exact .inr ⟨q', List.mem_cons_of_mem _ a, b⟩
    · have hp := putK_out (v := V.bl q.2) (fun z => hq (hmem.mp z))
      rw [h] at hp
      obtain ⟨ms, m1, m2, m3, m4⟩ := merge_keys is (putK kvs (Sum.inl q.1) (V.bl q.2)) (ns ++ [q.1]) (by rw [hp, List.map_append]; rfl) (by
        rw [List.nodup_append]
        exact ⟨hd, by simp, fun a ha b hb => by
          rw [List.mem_singleton] at hb
          subst hb
          exact fun e => hq (by rw [← e]; exact ha)⟩)
      refine ⟨ms, m1, m2, fun z hz => ?_, by simp at m4 ⊢; omega⟩
      rcases m3 z hz with a | ⟨q', a, b⟩
      · rcases List.mem_append.mp a with c | c
        · exact .inl c
        · rw [List.mem_singleton] at c
          exact .inr ⟨q, List.mem_cons_self, c.symm⟩
      · exact .inr ⟨q', List.mem_cons_of_mem _ a, b⟩
theorem rc_sortedKeys {is : List (Int × Bool)} (hk : ∀ ms : List Int, ms.Pairwise (· < ·) → (∀ z ∈ ms, ∃ q ∈ is, q.1 = z) → ms.length ≤ is.length → k (.lst (ms.map .int)) n) : RC K w (rSortedI K) [.lst (((keysOf is).map (·.1)).map kD)] n k := by
  obtain ⟨ns, m1, m2, m3, m4⟩ := merge_keys is [] [] rfl List.nodup_nil
  have e : ((keysOf is).map (·.1)).map kD = ns.map D.int := by
    show ((mergeK [] (is.map fun p => ((Sum.inl p.1 : Key), V.bl p.2))).map (·.1)).map kD = _
    rw [m1, List.map_map]; rfl
  rw [e]
  refine rc_sorted fun ms h1 h2 => hk ms ?_ (fun z hz => ?_) ?_
  · have hd : ms.Nodup := h1.nodup_iff.mpr m2
    have h3 := List.nodup_iff_pairwise_ne.mp hd
    exact (h2.and h3).imp fun ⟨a, b⟩ => by omega
  · rcases m3 z (h1.mem_iff.mp hz) with a | a
    · cases a
    · exact a
  · rw [h1.length_eq]
    simpa using m4
end
end K51
set_option Elab.async false
set_option maxRecDepth 100000
set_option maxHeartbeats 4000000
set_option linter.all false
set_option autoImplicit false
namespace K51
open PySem PySem.Spec PyProof.Rows L2 DW
def penSp (K : PySem.W.Frag) : Sp := fun vs H Q _ => ∃ (a : Addr) (ns : List Int), vs = [.ref a] ∧ SqL K H a (ns.map V.int) ∧ ns.length ≤ 63 ∧
  ∀ (p c : Addr) (H' : Hp), H p = none → H c = none → c ≠ p → (∀ b o, H b = some o → H' b = some o) → H' p = some (.lst [.ref c, .int 0, .int 0]) → H' c = some (.lst (ns.map V.int)) → Q (.ref p) H'
section
variable {K : PySem.W.Frag}
theorem pen_ok {a : Addr} {ns : List Int} {H : Hp} {Q : VK} {E : Ends} (hS : SqL K H a (ns.map V.int)) (hl : ns.length ≤ 63) (he : E.rt = Q)
    (k : ∀ (p c : Addr) (H' : Hp), H p = none → H c = none → c ≠ p → (∀ b o, H b = some o → H' b = some o) → H' p = some (.lst [.ref c, .int 0, .int 0]) → H' c = some (.lst (ns.map V.int)) → Q (.ref p) H') :
    r__law_pen K E [some (.ref a), none] H := by
  unfold r__law_pen
  subst he
  refine Or.inl ?_
  refine ⟨.ref a, rfl, ⟨63, rfl, Or.inl ⟨a, _, rfl, hS, fun q hq => ⟨q, rfl, ⟨_, SqL.of upd_same⟩, fun Dl hD => ?_⟩⟩⟩⟩
  have hD0 : H Dl = none := by
    by_cases e : Dl = q
    · subst e; rw [upd_same] at hD; cases hD
    · rw [upd_ne e] at hD; exact hD
  have hqD : q ≠ Dl := fun e => by subst e; rw [upd_same] at hD; cases hD
  have ecut : cutV (ns.map V.int) none (some 63) = ns.map V.int := by
    unfold cutV
    have e1 : HT.sIx (ns.map V.int).length 0 none = 0 := rfl
    have e2 : HT.sIx (ns.map V.int).length (ns.map V.int).length (some 63) = (ns.map V.int).length := by
      rw [show (63 : Int) = ((63 : Nat) : Int) from rfl, HT.sIx_nat, List.length_map]
      omega
    rw [e1, e2, List.drop_zero, Nat.sub_zero, List.take_length]
  rw [ecut]
  refine lc_list (K := K) (a := q) (xs := ns.map V.int) (fun i H' => (∀ b o, b ≠ Dl → (upd H q (.lst (ns.map V.int))) b = some o → H' b = some o) ∧ H' Dl = some (.lst ((ns.take i).map V.int))) ⟨fun b o hb e => by rw [upd_ne hb]; exact e, by rw [upd_same]; rfl⟩ (fun i H' _ h => SqL.of (h.1 q _ hqD upd_same)) ?_ ?_
  · intro i x H' hx h
    rw [List.getElem?_map] at hx
    obtain ⟨z, hz, rfl⟩ := Option.map_eq_some_iff.mp hx
    have hi := (List.getElem?_eq_some_iff.mp hz).1
    refine ⟨rfl, ?_⟩
    unfold tYes
    dsimp only
    rw [if_pos rfl]
    refine ⟨.int z, rfl, Or.inl ⟨z, rfl, _, h.2, ?_, ?_, ?_⟩⟩
    · rw [List.length_map, List.length_take]
      exact Evl.sz_lt (by omega)
    · intro b o hb e
      rw [upd_ne hb]; exact h.1 b o hb e
    · rw [upd_same, show ns.take (i + 1) = ns.take i ++ [z] by rw [List.take_succ, hz]; rfl, List.map_append]; rfl
  · intro H' h
    refine ⟨Evl.sz_of (by simp), fun p hp => ?_⟩
    have h2 := h.2
    rw [List.length_map, List.take_length] at h2
    have up : ∀ b o, H b = some o → H' b = some o := fun b o e => h.1 b o (ne_of_none e hD0) (by rw [upd_ne (ne_of_none e hq)]; exact e)
    have hpD : Dl ≠ p := fun e => by subst e; rw [h2] at hp; cases hp
    refine k p Dl _ ?_ hD0 hpD (fun b o e => ?_) upd_same ?_
    · cases z : H p with
      | none => rfl
      | some o => rw [up p o z] at hp; cases hp
    · rw [upd_ne (ne_of_none (up b o e) hp)]; exact up b o e
    · rw [upd_ne hpD]; exact h2
end
/-! ### what the law's turns want -/
theorem pts_bd {c f l st sp : Int} {am : Option (List Int)} (hd : ∀ ns, am = some ns → ns.Nodup) (F : Fit c f l) : (0 ≤ (ptsP c f l st sp am).1 ∧ (ptsP c f l st sp am).1 ≤ 5) ∧ 0 ≤ (ptsP c f l st sp am).2 ∧ (ptsP c f l st sp am).2 ≤ 5 := by
  by_cases hc : c = 1
  · rw [ptsP_one hd hc]
    split <;> simp
  · have h1 := F.c1
    have h5 := F.c5
    have hm := F.more hc
    have hin := inner_eq (st := st) (sp := sp) hd (show f < l by omega)
    have hle := List.length_filter_le (askedP st sp am) (rgI (f + 1) (l - (f + 1)).toNat)
    rw [rgI_len] at hle
    rw [pts_more hd hc]
    have u : ∀ b : Bool, (0 : Int) ≤ (if b then 1 else 0) ∧ (if b then (1 : Int) else 0) ≤ 1 := fun b => by cases b <;> simp
    have u1 := u (askedP st sp am f)
    have u2 := u (askedP st sp am l)
    generalize (if askedP st sp am f then (1 : Int) else 0) = a at *
    generalize (if askedP st sp am l then (1 : Int) else 0) = b at *
    simp only
    omega
def shD (x y : Int) : List D := [.tup [.int x, .int y], .tup [.int x, .int y]]
theorem shown_ok {x y : Int} (hx : 0 ≤ x ∧ x ≤ 5) (hy : 0 ≤ y ∧ y ≤ 5) : (toPy (.lst (shD x y))).shown.length ≤ 100000 := by
  have h1 : x = 0 ∨ x = 1 ∨ x = 2 ∨ x = 3 ∨ x = 4 ∨ x = 5 := by omega
  have h2 : y = 0 ∨ y = 1 ∨ y = 2 ∨ y = 3 ∨ y = 4 ∨ y = 5 := by omega
  rcases h1 with rfl | rfl | rfl | rfl | rfl | rfl <;> rcases h2 with rfl | rfl | rfl | rfl | rfl | rfl <;> decide +kernel
theorem rc_reprX {K : PySem.W.Frag} {w : Option Addr} {n : Nat} {k : Kn} {x y : Int} (hx : 0 ≤ x ∧ x ≤ 5) (hy : 0 ≤ y ∧ y ≤ 5) (hk : k (.str (toPy (.lst (shD x y))).shown) n) : RC K w (rReprU K) [.lst [.tup [.int x, .int y], .tup [.int x, .int y]]] n k :=
  rc_reprL (l := shD x y) rfl (by simp [shD, toPy, toPys, PyData.showable, PyData.showableAll]; exact ⟨Nat.lt_of_le_of_lt (Nat.log2_le_self _) (by omega), Nat.lt_of_le_of_lt (Nat.log2_le_self _) (by omega)⟩) (by simp [shD, toPy, toPys, PyData.hasDict, PyData.hasDictAll]) (by simp [shD, toPy, toPys, PyData.depth, PyData.depthAll]) (Evl.sz_of (shown_ok hx hy)) hk
theorem rd_neTT {K : PySem.W.Frag} {w : Option Addr} {n : Nat} {k : Kn} {a b c d : Int} (hk : k (.bl (!(decide (a = c) && decide (b = d)))) n) : RD K w (rNeU K) (.tup [.int a, .int b]) (.tup [.int c, .int d]) n k := by
  refine rd_neD rfl rfl rfl rfl ?_
  have e : PyData.eqv (toPy (.tup [.int a, .int b])) (toPy (.tup [.int c, .int d])) = (decide (a = c) && decide (b = d)) := by
    show ((a == c) && ((b == d) && true)) = _
    rw [Bool.and_true]
    by_cases h1 : a = c <;> by_cases h2 : b = d <;> simp [h1, h2]
  rw [e]; exact hk
def swap2 {α : Type} (_ zs : List α) : List α := match zs with
  | [q, e] => [e, q]
  | _ => []
theorem swap2_ok {K : PySem.W.Frag} {H : Hp} {vs zs : List V} {es fs : List D} (h1 : Rps K H vs es) (h2 : Rps K H zs fs) : Rps K H (swap2 vs zs) (swap2 es fs) := by
  cases h2 with
  | nil => exact .nil
  | cons a b =>
    cases b with
    | nil => exact .nil
    | cons a' b' =>
      cases b' with
      | nil => exact .cons a' (.cons a .nil)
      | cons _ _ => exact .nil
theorem mom_nodup {ns : List Int} (h : Moments ns) : ns.Nodup := List.nodup_iff_pairwise_ne.mpr (h.2.2.imp fun z e => by omega)
theorem hole_facts {since c f l t lo hi b : Int} (h : Hole since c f l t lo hi) (s0 : 0 ≤ since) (s3 : since ≤ 3) (c1 : 1 ≤ c) (c5 : c ≤ 5) (b0 : 0 ≤ b) : (0 ≤ l ∧ l ≤ 20) ∧ (0 ≤ f ∧ f ≤ 10) ∧ Fit c f l ∧ Possible b c f l t lo hi ∧ EntL c f l := by
  have h0 := h.f0
  have h1 := h.f1
  by_cases hc : c = 1
  · have := h.one hc
    refine ⟨by omega, by omega, ⟨c1, c5, fun _ => this.1, fun z => absurd hc z⟩, ⟨b0, c1, by omega, by omega, by omega, by omega, by omega, by omega, by omega, fun _ => ⟨by omega, by omega, by omega⟩, fun z => absurd hc z⟩, by omega, fun _ => by omega, fun z => absurd hc z⟩
  · have m := h.more hc
    have c24 : c = 2 ∨ c = 3 ∨ c = 4 ∨ c = 5 := by omega
    refine ⟨by omega, by omega, ⟨c1, c5, fun z => absurd z hc, fun _ => ⟨by omega, by omega⟩⟩, ⟨b0, c1, by omega, by omega, by omega, by omega, by omega, by omega, by omega, fun z => absurd z hc, fun _ => ⟨by omega, by omega, ?_⟩⟩, by omega, fun z => absurd z hc, fun _ => ⟨by omega, by omega⟩⟩
    rcases c24 with rfl | rfl | rfl | rfl <;> omega
theorem e_makeE {K : PySem.W.Frag} {w : Option Addr} {n : Nat} {k : Kn} {C : Addr} {ds : List (Option D)} {tA : TA} (h : WpA K w tA ds n fun es n1 => ∃ b c f l t lo hi, es = [.int b, .int c, .int f, .int l, .int t, .int lo, .int hi] ∧ k (entryD C b c f l t lo hi) n1) : WpE K w (tMake C (initSp K C gE) [] E0 tA) ds n k :=
  e_make fun S H0 σ H Q re ok p => h S H0 σ H Q re ok fun vs H' es n' ⟨b, c, f, l, t, lo, hi, e, hk⟩ pr ok' r => p vs H' es n' ⟨EN, _, ⟨b, c, f, l, t, lo, hi, e, rfl, rfl⟩, hk⟩ pr ok' r
section
variable {K : PySem.W.Frag} {n : Nat} {CE CQ : Addr} {p : Addr}
abbrev turn1 (K : PySem.W.Frag) (CE CQ : Addr) : TS := (tSeq (tAsg (tCall (toSp K holeSp) [] E0 (tCons (tVar 1) (tCons (tCall (toSp K drawSp) [] E0 (tCons (tVar 1) (tCons (tC (.int 4)) tNil))) (tCons (tOp (rAddU K) (tC (.int 1)) (tCall (toSp K drawSp) [] E0 (tCons (tVar 1) (tCons (tC (.int 5)) tNil)))) (tCons (tC (.int 3)) tNil))))) (gName 3)) (tSeq (tAsg (tCall (toSp K questSp) [] E0 (tCons (tVar 1) (tCons (tLst (tCons (tVar 3) tNil)) (tCons (tC (.int 3)) tNil)))) (gName 4)) (tSeq (tPar 5 6 (tCons (tCall (toSp K triedSp) [] E0 (tCons (tVar 3) (tCons (tVar 4) tNil))) (tCons (tMake CE (initSp K CE gE) [] E0 (tCons (tCall (toSp K drawSp) [] E0 (tCons (tVar 1) (tCons (tC (.int 4)) tNil))) (tCons (tOp (rIx K) (tVar 3) (tC (.int 0))) (tCons (tOp (rIx K) (tVar 3) (tC (.int 1))) (tCons (tOp (rIx K) (tVar 3) (tC (.int 2))) (tCons (tOp (rIx K) (tVar 3) (tC (.int 3))) (tCons (tOp (rIx K) (tVar 3) (tC (.int 4))) (tCons (tOp (rIx K) (tVar 3) (tC (.int 5))) tNil)))))))) tNil))) (tIfS (tOr (tTest (tOp (rNeU K) (tCB (rReprU K) (tCons (tLst (tCons (tCall (toSp K (ptsInSp CE CQ)) [] E0 (tCons (tVar 6) (tCons (tCall (toSp K (madeSp CQ)) [] E0 (tCons (tVar 4) tNil)) tNil))) (tCons (tCallN 0 2 (toSp K (ptsInSp CE CQ)) swap2 E0 tNil (tCons (tCall (toSp K (madeSp CQ)) [] E0 (tCons (tVar 4) tNil)) (tCons (tVar 6) tNil))) tNil))) tNil)) (tCB (rReprU K) (tCons (tLst (tCons (tVar 5) (tCons (tVar 5) tNil))) tNil)))) (tTest (tOp (rNeU K) (tCall (toSp K spanSp) [] E0 (tCons (tVar 3) (tCons (tVar 4) tNil))) (tVar 5)))) (tRet (tC (.bl false))) tNext))))
theorem w_turn1 {v0 v3 v4 v5 v6 v7 v8 v9 v10 v11 v12 : Option D} {tu : D} {n0 : Nat} (hn : n ≤ n0) (hn0 : n0 < 2 ^ 15) {ks : KS} (hk : ∀ n' w0 w3 w4 w5 w6 w7 w8 w9 w10 w11 w12, n' ≤ n0 + 200 → ks.nx [w0, some (.raw (.ref p)), some tu, w3, w4, w5, w6, w7, w8, w9, w10, w11, w12] n') :
    WpS K (some p) (turn1 K CE CQ) [v0, some (.raw (.ref p)), some tu, v3, v4, v5, v6, v7, v8, v9, v10, v11, v12] n ks := by
  unfold turn1
  repeat' (first
    | exact absurd ‹false = true› (by decide) | exact absurd ‹true = false› (by decide)
    | with_reducible refine ⟨_, _, rfl, rfl, by decide, by decide, by omega, fun _ _ _ => ?_⟩
    | ((with_reducible refine ⟨_, _, _, rfl, rfl, by omega, by omega, by omega, by omega, by omega, fun f l t lo hi n1 hH hn1 => ?_⟩); have hF := fun (b : Int) (hb : 0 ≤ b) => hole_facts (b := b) hH (by omega) (by omega) (by omega) (by omega) hb; have hF0 := hF 0 (by decide))
    | ((with_reducible refine ⟨_, _, _, _, _, _, _, rfl, rfl, hF0.1.1, hF0.1.2, by omega, fun kind num st sp am n2 hQ hn2 => ?_⟩); have hA : ∀ ns, am = some ns → ns.length ≤ 100000 := fun ns e => Nat.le_trans (hQ.am ns e).1 (by decide); have hB : ∀ ns, am = some ns → ns.Nodup := fun ns e => mom_nodup (hQ.am ns e); have hP := pts_bd hB hF0.2.2.1 (st := st) (sp := sp); have hC : ∀ ns, am = some ns → ns.Nodup ∧ ns.length ≤ 100000 := fun ns e => ⟨hB ns e, hA ns e⟩)
    | with_reducible refine ⟨_, _, _, _, _, _, _, _, _, _, _, rfl, hF0.2.2.1, hB, hF0.2.1.1, hF0.2.1.2, ?_⟩
    | with_reducible refine e_makeE ?_
    | with_reducible refine ⟨_, _, _, _, _, _, _, rfl, ?_⟩
    | with_reducible refine ⟨_, _, _, _, _, rfl, hQ, ?_⟩
    | with_reducible refine ⟨_, _, _, _, _, _, _, _, _, _, _, _, rfl, (hF _ (by omega)).2.2.2.1, hA, ?_⟩
    | with_reducible refine e_callK (gD := swap2) swap2_ok ?_
    | with_reducible refine rc_reprX hP.1 hP.2 ?_
    | with_reducible refine ⟨_, _, _, _, _, _, _, _, _, _, _, rfl, hF0.2.2.2.2, hC, ?_⟩
    | with_reducible refine rd_neTT ?_
    | ((with_reducible refine s_cellX ?_); refine ⟨_, rfl, rfl, _, rfl, fun _ => ?_, ?_⟩)
    | ((with_reducible refine e_pen2X ?_); refine ⟨_, rfl, rfl, fun _ _ => ?_⟩)
    | ((with_reducible refine e_pen1X ?_); refine ⟨_, rfl, rfl, fun _ _ _ => ?_⟩)
    | ((with_reducible refine e_pen0X ?_); refine ⟨_, rfl, rfl, fun _ _ => ?_⟩)
    | ((with_reducible refine s_pen2X ?_); refine ⟨_, rfl, rfl, ?_⟩)
    | ((with_reducible refine s_pen1X ?_); refine ⟨_, rfl, rfl, ?_⟩)
    | ((with_reducible refine e_varX ?_); refine ⟨_, rfl, rfl, ?_⟩)
    | ((with_reducible refine e_slLV ?_); refine ⟨_, rfl, ?_⟩)
    | ((with_reducible refine e_slTV ?_); refine ⟨_, rfl, ?_⟩)
    | ((with_reducible refine s_appX ?_); refine ⟨_, rfl, ?_⟩)
    | ((with_reducible refine i_listV ?_); refine ⟨_, rfl, ?_⟩)
    | ((with_reducible refine i_tupV ?_); refine ⟨_, rfl, ?_⟩)
    | with_reducible refine rd_ixIntsX ⟨⟨?_, ?_⟩, fun _ _ _ => ?_⟩
    | ((with_reducible refine rd_ixLX ?_); refine ⟨_, rfl, ?_⟩)
    | ((with_reducible refine rd_ixTX ?_); refine ⟨_, rfl, ?_⟩)
    | with_reducible refine n_seq ?_
    | with_reducible refine n_if ?_
    | with_reducible refine n_next ?_
    | with_reducible refine s_seq ?_
    | with_reducible refine s_if ?_
    | with_reducible refine s_ret ?_
    | with_reducible refine s_set ?_
    | with_reducible refine s_asg ?_
    | with_reducible refine s_par ?_
    | with_reducible refine s_next ?_
    | with_reducible refine s_retN ?_
    | with_reducible refine s_drop ?_
    | with_reducible refine e_int ?_
    | with_reducible refine e_str ?_
    | with_reducible refine e_bl ?_
    | with_reducible refine e_non ?_
    | with_reducible refine e_raw ?_
    | with_reducible refine e_kt ?_
    | with_reducible refine e_op ?_
    | with_reducible refine e_un ?_
    | with_reducible refine e_cb ?_
    | with_reducible refine a_cons ?_
    | with_reducible refine a_nil ?_
    | with_reducible refine t_test ?_
    | with_reducible refine t_B ?_
    | with_reducible refine t_and ?_
    | with_reducible refine t_or ?_
    | with_reducible refine t_not ?_
    | with_reducible refine e_if ?_
    | with_reducible refine e_andV ?_
    | with_reducible refine e_orV ?_
    | with_reducible refine e_notV ?_
    | with_reducible refine e_chain ?_
    | with_reducible refine e_chain3 ?_
    | with_reducible refine rd_addI ?_
    | with_reducible refine rd_sub ?_
    | with_reducible refine rd_lt ?_
    | with_reducible refine rd_le ?_
    | with_reducible refine rd_gt ?_
    | with_reducible refine rd_ge ?_
    | with_reducible refine rd_eqI ?_
    | with_reducible refine rd_neI ?_
    | with_reducible refine rd_eqS ?_
    | with_reducible refine rd_neS ?_
    | with_reducible refine ru_neg ?_
    | with_reducible refine rc_int ?_
    | with_reducible refine rc_intB ?_
    | with_reducible refine rc_abs ?_
    | with_reducible refine rc_max2 ?_
    | with_reducible refine rc_min2 ?_
    | with_reducible refine rc_lenL ?_
    | with_reducible refine rc_lenT ?_
    | with_reducible refine rc_listL ?_
    | with_reducible refine rc_tupL ?_
    | with_reducible refine rc_tupT ?_
    | with_reducible refine e_call ?_
    | with_reducible refine rd_modX ?_
    | with_reducible refine rd_divX ?_
    | with_reducible refine rd_mulX ?_
    | with_reducible refine rd_powX ?_
    | with_reducible refine rd_neNilX ?_
    | with_reducible refine rd_isI ?_
    | with_reducible refine rd_isL ?_
    | with_reducible refine rd_isT ?_
    | with_reducible refine rd_isS ?_
    | with_reducible refine rd_isNn ?_
    | with_reducible refine rd_isNI ?_
    | with_reducible refine rd_isNL ?_
    | with_reducible refine rd_isNT ?_
    | with_reducible refine rd_isNS ?_
    | with_reducible refine rd_isNNn ?_
    | with_reducible refine rc_allX ?_
    | with_reducible refine rc_anyX ?_
    | with_reducible refine t_yes ?_
    | with_reducible refine rd_addLX ?_
    | with_reducible refine rd_addTX ?_
    | with_reducible refine rd_addSX ?_
    | with_reducible refine rd_inIntsX ?_
    | with_reducible refine o_none ?_
    | with_reducible refine o_some ?_
    | with_reducible refine i_rng1 ?_
    | with_reducible refine i_rng2 ?_
    | with_reducible refine i_zip ?_
    | with_reducible refine e_fld ?_
    | with_reducible refine e_tup ?_
    | with_reducible refine e_lst ?_
    | with_reducible refine rd_is rfl ?_ | with_reducible refine rd_isN rfl ?_
    | ((with_reducible refine rc_isiBX ?_); refine ⟨_, rfl, _, rfl, ?_⟩)
    | ((with_reducible refine e_isi2X ?_))
    | refine ⟨_, _, g_tup (gs_cons g_name (gs_cons g_name gs_nil)) rfl, ?_⟩
    | refine ⟨_, _, g_tup (gs_cons g_name (gs_cons g_name (gs_cons g_name gs_nil))) rfl, ?_⟩
    | refine ⟨_, _, g_tup (gs_cons g_name (gs_cons g_name (gs_cons g_name (gs_cons g_name gs_nil)))) rfl, ?_⟩
    | with_reducible refine Or.inl ⟨_, rfl, ?_⟩ | with_reducible refine Or.inr ⟨_, rfl, ?_⟩
    | with_reducible refine ⟨_, rfl, ?_⟩ | with_reducible refine ⟨rfl, ?_⟩ | with_reducible refine ⟨_, _, rfl, ?_⟩ | with_reducible refine ⟨_, _, _, rfl, ?_⟩ | with_reducible refine ⟨_, _, rfl, rfl, ?_⟩ | with_reducible refine ⟨fun _ => ?_, fun _ => ?_⟩ | with_reducible refine fun (_ : _ = true) => ?_ | with_reducible exact rfl | with_reducible refine And.intro ((by simp <;> fail : List.length _ ≤ 100000)) ?_ | with_reducible refine And.intro ((by simp only [List.length_map, List.length_append, List.length_cons, List.length_nil]; omega : List.length _ + List.length _ ≤ 100000)) ?_ | with_reducible refine And.intro (by omega) ?_ | with_reducible refine And.intro (by simp only [List.length_map]; omega) ?_ | with_reducible refine And.intro ((by first | omega | decide : (0 : Int) ≤ _ ∧ _ ≤ 1000000 ∧ Int.natAbs _ < 2 ^ 64)) ?_ | fail)
  · rename_i h1 _
    exact absurd h1 (by simp)
  · rename_i h1
    exact absurd h1 (by simp)
  · exact hk _ _ _ _ _ _ _ _ _ _ _ _ (by omega)
end
end K51
set_option Elab.async false
set_option maxRecDepth 100000
set_option maxHeartbeats 8000000
set_option linter.all false
set_option autoImplicit false
namespace K51
open PySem PySem.Spec PyProof.Rows L2 DW
section
variable {K : PySem.W.Frag} {n : Nat} {CE CQ : Addr} {p : Addr}
abbrev tail2 (K : PySem.W.Frag) (CE CQ : Addr) : TS := (tSeq (tIfS (tTest (tOp (rNeU K) (tCall (toSp K (ptsInSp CE CQ)) [] E0 (tCons (tMake CE (initSp K CE gE) [] E0 (tCons (tC (.int 0)) (tCons (tVar 7) (tCons (tVar 8) (tCons (tVar 9) (tCons (tC (.int 0)) (tCons (tUn (rU fun i => .int (-i)) (tC (.int 1))) (tCons (tC (.int 1)) tNil)))))))) (tCons (tCall (toSp K (madeSp CQ)) [] E0 (tCons (tVar 4) tNil)) tNil))) (tCall (toSp K spanSp) [] E0 (tCons (tVar 3) (tCons (tVar 4) tNil))))) (tRet (tC (.bl false))) tNext) (tSeq (tAsg (tMake CE (initSp K CE gE) [] E0 (tCons (tC (.int 0)) (tCons (tVar 7) (tCons (tVar 8) (tCons (tVar 9) (tCons (tC (.int 0)) (tCons (tUn (rU fun i => .int (-i)) (tC (.int 1))) (tCons (tC (.int 1)) tNil)))))))) (gName 6)) (tIfS (tOr (tTest (tOp (rNeU K) (tCall (toSp K (ptsInSp CE CQ)) [] E0 (tCons (tVar 6) (tCons (tMake CQ (initSp K CQ gQ) [V.non] E0 (tCons (tC (.str "sum")) (tCons (tC .non) (tCons (tVar 8) (tCons (tOp (rAddU K) (tVar 9) (tC (.int 1))) tNil))))) tNil))) (tTup (tCons (tVar 7) (tCons (tVar 7) tNil))))) (tTest (tOp (rNeU K) (tCall (toSp K (ptsInSp CE CQ)) [] E0 (tCons (tVar 6) (tCons (tMake CQ (initSp K CQ gQ) [V.non] E0 (tCons (tC (.str "least")) (tCons (tC .non) (tCons (tVar 8) (tCons (tVar 8) tNil))))) tNil))) (tTup (tCons (tC (.int 0)) (tCons (tC (.int 0)) tNil)))))) (tRet (tC (.bl false))) tNext)))
theorem w_tail2 {c f l x st sp : Int} {am : Option (List Int)} {v0 v2 v5 v6 v10 v11 v12 : Option D} (c1 : 2 ≤ c) (c2 : c ≤ 2 ^ 36) (f0 : 0 ≤ f) (e : l = f + c - 1 + x) (x0 : 0 ≤ x) (l2 : l < 2 ^ 40) (hQ : Quest "count" .non st sp am) {ks : KS}
    (hk : ∀ w6, ks.nx [v0, some (.raw (.ref p)), v2, some (hT c f l 0 (-1) 1), some (qT "count" .non st sp am), v5, w6, some (.int c), some (.int f), some (.int l), v10, v11, v12] n) :
    WpS K (some p) (tail2 K CE CQ) [v0, some (.raw (.ref p)), v2, some (hT c f l 0 (-1) 1), some (qT "count" .non st sp am), v5, v6, some (.int c), some (.int f), some (.int l), v10, v11, v12] n ks := by
  obtain ⟨hP, hE⟩ := great_poss c1 c2 f0 e x0 l2
  have hA : ∀ ns, am = some ns → ns.length ≤ 100000 := fun ns e => Nat.le_trans (hQ.am ns e).1 (by decide)
  have hC : ∀ ns, am = some ns → ns.Nodup ∧ ns.length ≤ 100000 := fun ns e => ⟨mom_nodup (hQ.am ns e), hA ns e⟩
  have hN : ∀ ns : List Int, (none : Option (List Int)) = some ns → ns.length ≤ 100000 := fun ns e => (by cases e)
  have q1 : Quest "sum" .non f (l + 1) none := ⟨by decide +kernel, .inr (.inr ⟨rfl, by decide +kernel, by decide +kernel⟩), f0, by omega, by omega, fun ns e => by cases e⟩
  have q2 : Quest "least" .non f f none := ⟨by decide +kernel, .inr (.inr ⟨rfl, by decide +kernel, by decide +kernel⟩), f0, by omega, by omega, fun ns e => by cases e⟩
  have g1 := great_all (c := c) (f := f) (l := l) c1 (by omega)
  have g2 := great_none (c := c) (f := f) (l := l) c1 (by omega)
  unfold tail2
  repeat' (first
    | exact absurd ‹false = true› (by decide) | exact absurd ‹true = false› (by decide)
    | with_reducible refine e_makeE ?_
    | with_reducible refine e_makeQ ?_
    | with_reducible refine ⟨_, _, _, _, rfl, q1, ?_⟩
    | with_reducible refine ⟨_, _, _, _, rfl, q2, ?_⟩
    | with_reducible refine ⟨_, _, _, _, _, _, _, rfl, ?_⟩
    | with_reducible refine ⟨_, _, _, _, _, rfl, hQ, ?_⟩
    | with_reducible refine ⟨_, _, _, _, _, _, _, _, _, _, _, _, rfl, hP, hA, ?_⟩
    | with_reducible refine ⟨_, _, _, _, _, _, _, _, _, _, _, _, rfl, hP, hN, ?_⟩
    | with_reducible refine ⟨_, _, _, _, _, _, _, _, _, _, _, rfl, hE, hC, ?_⟩
    | with_reducible refine rd_neTT ?_
    | ((with_reducible refine s_cellX ?_); refine ⟨_, rfl, rfl, _, rfl, fun _ => ?_, ?_⟩)
    | ((with_reducible refine e_pen2X ?_); refine ⟨_, rfl, rfl, fun _ _ => ?_⟩)
    | ((with_reducible refine e_pen1X ?_); refine ⟨_, rfl, rfl, fun _ _ _ => ?_⟩)
    | ((with_reducible refine e_pen0X ?_); refine ⟨_, rfl, rfl, fun _ _ => ?_⟩)
    | ((with_reducible refine s_pen2X ?_); refine ⟨_, rfl, rfl, ?_⟩)
    | ((with_reducible refine s_pen1X ?_); refine ⟨_, rfl, rfl, ?_⟩)
    | ((with_reducible refine e_varX ?_); refine ⟨_, rfl, rfl, ?_⟩)
    | ((with_reducible refine e_slLV ?_); refine ⟨_, rfl, ?_⟩)
    | ((with_reducible refine e_slTV ?_); refine ⟨_, rfl, ?_⟩)
    | ((with_reducible refine s_appX ?_); refine ⟨_, rfl, ?_⟩)
    | ((with_reducible refine i_listV ?_); refine ⟨_, rfl, ?_⟩)
    | ((with_reducible refine i_tupV ?_); refine ⟨_, rfl, ?_⟩)
    | with_reducible refine rd_ixIntsX ⟨⟨?_, ?_⟩, fun _ _ _ => ?_⟩
    | ((with_reducible refine rd_ixLX ?_); refine ⟨_, rfl, ?_⟩)
    | ((with_reducible refine rd_ixTX ?_); refine ⟨_, rfl, ?_⟩)
    | with_reducible refine n_seq ?_
    | with_reducible refine n_if ?_
    | with_reducible refine n_next ?_
    | with_reducible refine s_seq ?_
    | with_reducible refine s_if ?_
    | with_reducible refine s_ret ?_
    | with_reducible refine s_set ?_
    | with_reducible refine s_asg ?_
    | with_reducible refine s_par ?_
    | with_reducible refine s_next ?_
    | with_reducible refine s_retN ?_
    | with_reducible refine s_drop ?_
    | with_reducible refine e_int ?_
    | with_reducible refine e_str ?_
    | with_reducible refine e_bl ?_
    | with_reducible refine e_non ?_
    | with_reducible refine e_raw ?_
    | with_reducible refine e_kt ?_
    | with_reducible refine e_op ?_
    | with_reducible refine e_un ?_
    | with_reducible refine e_cb ?_
    | with_reducible refine a_cons ?_
    | with_reducible refine a_nil ?_
    | with_reducible refine t_test ?_
    | with_reducible refine t_B ?_
    | with_reducible refine t_and ?_
    | with_reducible refine t_or ?_
    | with_reducible refine t_not ?_
    | with_reducible refine e_if ?_
    | with_reducible refine e_andV ?_
    | with_reducible refine e_orV ?_
    | with_reducible refine e_notV ?_
    | with_reducible refine e_chain ?_
    | with_reducible refine e_chain3 ?_
    | with_reducible refine rd_addI ?_
    | with_reducible refine rd_sub ?_
    | with_reducible refine rd_lt ?_
    | with_reducible refine rd_le ?_
    | with_reducible refine rd_gt ?_
    | with_reducible refine rd_ge ?_
    | with_reducible refine rd_eqI ?_
    | with_reducible refine rd_neI ?_
    | with_reducible refine rd_eqS ?_
    | with_reducible refine rd_neS ?_
    | with_reducible refine ru_neg ?_
    | with_reducible refine rc_int ?_
    | with_reducible refine rc_intB ?_
    | with_reducible refine rc_abs ?_
    | with_reducible refine rc_max2 ?_
    | with_reducible refine rc_min2 ?_
    | with_reducible refine rc_lenL ?_
    | with_reducible refine rc_lenT ?_
    | with_reducible refine rc_listL ?_
    | with_reducible refine rc_tupL ?_
    | with_reducible refine rc_tupT ?_
    | with_reducible refine e_call ?_
    | with_reducible refine rd_modX ?_
    | with_reducible refine rd_divX ?_
    | with_reducible refine rd_mulX ?_
    | with_reducible refine rd_powX ?_
    | with_reducible refine rd_neNilX ?_
    | with_reducible refine rd_isI ?_
    | with_reducible refine rd_isL ?_
    | with_reducible refine rd_isT ?_
    | with_reducible refine rd_isS ?_
    | with_reducible refine rd_isNn ?_
    | with_reducible refine rd_isNI ?_
    | with_reducible refine rd_isNL ?_
    | with_reducible refine rd_isNT ?_
    | with_reducible refine rd_isNS ?_
    | with_reducible refine rd_isNNn ?_
    | with_reducible refine rc_allX ?_
    | with_reducible refine rc_anyX ?_
    | with_reducible refine t_yes ?_
    | with_reducible refine rd_addLX ?_
    | with_reducible refine rd_addTX ?_
    | with_reducible refine rd_addSX ?_
    | with_reducible refine rd_inIntsX ?_
    | with_reducible refine o_none ?_
    | with_reducible refine o_some ?_
    | with_reducible refine i_rng1 ?_
    | with_reducible refine i_rng2 ?_
    | with_reducible refine i_zip ?_
    | with_reducible refine e_fld ?_
    | with_reducible refine e_tup ?_
    | with_reducible refine e_lst ?_
    | with_reducible refine rd_is rfl ?_ | with_reducible refine rd_isN rfl ?_
    | ((with_reducible refine rc_isiBX ?_); refine ⟨_, rfl, _, rfl, ?_⟩)
    | ((with_reducible refine e_isi2X ?_))
    | refine ⟨_, _, g_tup (gs_cons g_name (gs_cons g_name gs_nil)) rfl, ?_⟩
    | refine ⟨_, _, g_tup (gs_cons g_name (gs_cons g_name (gs_cons g_name gs_nil))) rfl, ?_⟩
    | refine ⟨_, _, g_tup (gs_cons g_name (gs_cons g_name (gs_cons g_name (gs_cons g_name gs_nil)))) rfl, ?_⟩
    | with_reducible refine Or.inl ⟨_, rfl, ?_⟩ | with_reducible refine Or.inr ⟨_, rfl, ?_⟩
    | with_reducible refine ⟨_, rfl, ?_⟩ | with_reducible refine ⟨rfl, ?_⟩ | with_reducible refine ⟨_, _, rfl, ?_⟩ | with_reducible refine ⟨_, _, _, rfl, ?_⟩ | with_reducible refine ⟨_, _, rfl, rfl, ?_⟩ | with_reducible refine ⟨fun _ => ?_, fun _ => ?_⟩ | with_reducible refine fun (_ : _ = true) => ?_ | with_reducible exact rfl | with_reducible refine And.intro ((by simp <;> fail : List.length _ ≤ 100000)) ?_ | with_reducible refine And.intro ((by simp only [List.length_map, List.length_append, List.length_cons, List.length_nil]; omega : List.length _ + List.length _ ≤ 100000)) ?_ | with_reducible refine And.intro (by omega) ?_ | with_reducible refine And.intro (by simp only [List.length_map]; omega) ?_ | with_reducible refine And.intro ((by first | omega | decide : (0 : Int) ≤ _ ∧ _ ≤ 1000000 ∧ Int.natAbs _ < 2 ^ 64)) ?_ | fail)
  · rename_i h1
    exact absurd h1 (by simp)
  · rename_i _ h1 _
    rw [g1] at h1
    exact absurd h1 (by simp)
  · rename_i _ _ h1
    rw [g2] at h1
    exact absurd h1 (by simp)
  · exact hk _
abbrev turn2 (K : PySem.W.Frag) (CE CQ : Addr) : TS := (tSeq (tPar 7 8 (tCons (tOp (rI0 fun i j => .int (i - j)) (tOp (rI CPow fun i j => .int (i ^ j.toNat)) (tC (.int 2)) (tC (.int 36))) (tCall (toSp K drawSp) [] E0 (tCons (tVar 1) (tCons (tOp (rI CPow fun i j => .int (i ^ j.toNat)) (tC (.int 10)) (tC (.int 9))) tNil)))) (tCons (tCall (toSp K drawSp) [] E0 (tCons (tVar 1) (tCons (tOp (rI CPow fun i j => .int (i ^ j.toNat)) (tC (.int 10)) (tC (.int 9))) tNil))) tNil))) (tSeq (tAsg (tOp (rAddU K) (tOp (rI0 fun i j => .int (i - j)) (tOp (rAddU K) (tVar 8) (tVar 7)) (tC (.int 1))) (tCall (toSp K pickSp) [] E0 (tCons (tVar 1) (tCons (tLst (tCons (tC (.int 0)) (tCons (tC (.int 1)) (tCons (tCall (toSp K drawSp) [] E0 (tCons (tVar 1) (tCons (tOp (rI CPow fun i j => .int (i ^ j.toNat)) (tC (.int 10)) (tC (.int 6))) tNil))) (tCons (tCall (toSp K drawSp) [] E0 (tCons (tVar 1) (tCons (tOp (rI CPow fun i j => .int (i ^ j.toNat)) (tC (.int 10)) (tC (.int 11))) tNil))) tNil))))) tNil)))) (gName 9)) (tSeq (tAsg (tCall (toSp K drawSp) [] E0 (tCons (tVar 1) (tCons (tOp (rAddU K) (tVar 9) (tC (.int 9))) tNil))) (gName 10)) (tSeq (tAsg (tIf (tTest (tOp (rEqU K) (tCall (toSp K drawSp) [] E0 (tCons (tVar 1) (tCons (tC (.int 2)) tNil))) (tC (.int 0)))) (tCB (rSortedI K) (tCons (tCB (rListU K) (tCons (tCB (rDictP K) (tCons (tLc (iRng1 (tCons (tC (.int 9)) tNil)) (gName 12) tYes (tTup (tCons (tCall (toSp K drawSp) [] E0 (tCons (tVar 1) (tCons (tOp (rAddU K) (tVar 9) (tC (.int 5))) tNil))) (tCons (tC (.bl true)) tNil))) [12]) tNil)) tNil)) tNil)) (tC .non)) (gName 11)) (tSeq (tAsg (tTup (tCons (tC (.str "count")) (tCons (tC .non) (tCons (tVar 10) (tCons (tOp (rAddU K) (tVar 10) (tCall (toSp K drawSp) [] E0 (tCons (tVar 1) (tCons (tOp (rI0 fun i j => .int (i - j)) (tOp (rAddU K) (tVar 9) (tC (.int 99))) (tCB (rMinU K) (tCons (tVar 10) (tCons (tVar 9) tNil)))) tNil)))) (tCons (tVar 11) tNil)))))) (gName 4)) (tSeq (tAsg (tTup (tCons (tVar 7) (tCons (tVar 8) (tCons (tVar 9) (tCons (tC (.int 0)) (tCons (tUn (rU fun i => .int (-i)) (tC (.int 1))) (tCons (tC (.int 1)) tNil))))))) (gName 3)) (tail2 K CE CQ)))))))
theorem w_turn2 {v0 v3 v4 v5 v6 v7 v8 v9 v10 v11 v12 : Option D} {tu : D} {n0 : Nat} (hn : n ≤ n0) (hn0 : n0 < 2 ^ 15) {ks : KS} (hk : ∀ n' w0 w3 w4 w5 w6 w7 w8 w9 w10 w11 w12, n' ≤ n0 + 200 → ks.nx [w0, some (.raw (.ref p)), some tu, w3, w4, w5, w6, w7, w8, w9, w10, w11, w12] n') :
    WpS K (some p) (turn2 K CE CQ) [v0, some (.raw (.ref p)), some tu, v3, v4, v5, v6, v7, v8, v9, v10, v11, v12] n ks := by
  unfold turn2
  repeat' (first
    | exact absurd ‹false = true› (by decide) | exact absurd ‹true = false› (by decide)
    | with_reducible refine pow_a ?_
    | with_reducible refine pow_b ?_
    | with_reducible refine pow_c ?_
    | with_reducible refine pow_d ?_
    | with_reducible refine ⟨_, _, rfl, rfl, by decide, by decide, by omega, fun _ _ _ => ?_⟩
    | with_reducible refine ⟨_, _, rfl, rfl, by omega, by omega, by omega, fun _ _ _ => ?_⟩
    | ((with_reducible refine ⟨_, _, rfl, rfl, by simp, by simp, by omega, fun d hd => ?_⟩); obtain ⟨z, rfl, hz0, hz1⟩ := pick4 hd (by omega) (by omega) (by omega) (by omega))
    | refine among2_ok rfl rfl (by omega) (by omega) (by omega) fun is his1 his2 => ?_
    | with_reducible refine rc_dict ?_
    | with_reducible refine rc_listD ?_
    | ((with_reducible refine rc_sortedKeys fun ms hms1 hms2 hms3 => ?_); have hMs : Moments ms := ⟨by omega, fun i hi => (by obtain ⟨q, hq, e⟩ := hms2 i hi; have := his2 q hq; omega), hms1⟩)
    | refine w_tail2 (x := z) (am := some ms) (by omega) (by omega) (by omega) (by omega) hz0 (by omega) ⟨by decide +kernel, .inr (.inr ⟨rfl, by decide +kernel, by decide +kernel⟩), by omega, by omega, by omega, fun ns e => by cases e; exact hMs⟩ fun w6 => ?_
    | refine w_tail2 (x := z) (am := none) (by omega) (by omega) (by omega) (by omega) hz0 (by omega) ⟨by decide +kernel, .inr (.inr ⟨rfl, by decide +kernel, by decide +kernel⟩), by omega, by omega, by omega, fun ns e => by cases e⟩ fun w6 => ?_
    | ((with_reducible refine s_cellX ?_); refine ⟨_, rfl, rfl, _, rfl, fun _ => ?_, ?_⟩)
    | ((with_reducible refine e_pen2X ?_); refine ⟨_, rfl, rfl, fun _ _ => ?_⟩)
    | ((with_reducible refine e_pen1X ?_); refine ⟨_, rfl, rfl, fun _ _ _ => ?_⟩)
    | ((with_reducible refine e_pen0X ?_); refine ⟨_, rfl, rfl, fun _ _ => ?_⟩)
    | ((with_reducible refine s_pen2X ?_); refine ⟨_, rfl, rfl, ?_⟩)
    | ((with_reducible refine s_pen1X ?_); refine ⟨_, rfl, rfl, ?_⟩)
    | ((with_reducible refine e_varX ?_); refine ⟨_, rfl, rfl, ?_⟩)
    | ((with_reducible refine e_slLV ?_); refine ⟨_, rfl, ?_⟩)
    | ((with_reducible refine e_slTV ?_); refine ⟨_, rfl, ?_⟩)
    | ((with_reducible refine s_appX ?_); refine ⟨_, rfl, ?_⟩)
    | ((with_reducible refine i_listV ?_); refine ⟨_, rfl, ?_⟩)
    | ((with_reducible refine i_tupV ?_); refine ⟨_, rfl, ?_⟩)
    | with_reducible refine rd_ixIntsX ⟨⟨?_, ?_⟩, fun _ _ _ => ?_⟩
    | ((with_reducible refine rd_ixLX ?_); refine ⟨_, rfl, ?_⟩)
    | ((with_reducible refine rd_ixTX ?_); refine ⟨_, rfl, ?_⟩)
    | with_reducible refine n_seq ?_
    | with_reducible refine n_if ?_
    | with_reducible refine n_next ?_
    | with_reducible refine s_seq ?_
    | with_reducible refine s_if ?_
    | with_reducible refine s_ret ?_
    | with_reducible refine s_set ?_
    | with_reducible refine s_asg ?_
    | with_reducible refine s_par ?_
    | with_reducible refine s_next ?_
    | with_reducible refine s_retN ?_
    | with_reducible refine s_drop ?_
    | with_reducible refine e_int ?_
    | with_reducible refine e_str ?_
    | with_reducible refine e_bl ?_
    | with_reducible refine e_non ?_
    | with_reducible refine e_raw ?_
    | with_reducible refine e_kt ?_
    | with_reducible refine e_op ?_
    | with_reducible refine e_un ?_
    | with_reducible refine e_cb ?_
    | with_reducible refine a_cons ?_
    | with_reducible refine a_nil ?_
    | with_reducible refine t_test ?_
    | with_reducible refine t_B ?_
    | with_reducible refine t_and ?_
    | with_reducible refine t_or ?_
    | with_reducible refine t_not ?_
    | with_reducible refine e_if ?_
    | with_reducible refine e_andV ?_
    | with_reducible refine e_orV ?_
    | with_reducible refine e_notV ?_
    | with_reducible refine e_chain ?_
    | with_reducible refine e_chain3 ?_
    | with_reducible refine rd_addI ?_
    | with_reducible refine rd_sub ?_
    | with_reducible refine rd_lt ?_
    | with_reducible refine rd_le ?_
    | with_reducible refine rd_gt ?_
    | with_reducible refine rd_ge ?_
    | with_reducible refine rd_eqI ?_
    | with_reducible refine rd_neI ?_
    | with_reducible refine rd_eqS ?_
    | with_reducible refine rd_neS ?_
    | with_reducible refine ru_neg ?_
    | with_reducible refine rc_int ?_
    | with_reducible refine rc_intB ?_
    | with_reducible refine rc_abs ?_
    | with_reducible refine rc_max2 ?_
    | with_reducible refine rc_min2 ?_
    | with_reducible refine rc_lenL ?_
    | with_reducible refine rc_lenT ?_
    | with_reducible refine rc_listL ?_
    | with_reducible refine rc_tupL ?_
    | with_reducible refine rc_tupT ?_
    | with_reducible refine e_call ?_
    | with_reducible refine rd_modX ?_
    | with_reducible refine rd_divX ?_
    | with_reducible refine rd_mulX ?_
    | with_reducible refine rd_powX ?_
    | with_reducible refine rd_neNilX ?_
    | with_reducible refine rd_isI ?_
    | with_reducible refine rd_isL ?_
    | with_reducible refine rd_isT ?_
    | with_reducible refine rd_isS ?_
    | with_reducible refine rd_isNn ?_
    | with_reducible refine rd_isNI ?_
    | with_reducible refine rd_isNL ?_
    | with_reducible refine rd_isNT ?_
    | with_reducible refine rd_isNS ?_
    | with_reducible refine rd_isNNn ?_
    | with_reducible refine rc_allX ?_
    | with_reducible refine rc_anyX ?_
    | with_reducible refine t_yes ?_
    | with_reducible refine rd_addLX ?_
    | with_reducible refine rd_addTX ?_
    | with_reducible refine rd_addSX ?_
    | with_reducible refine rd_inIntsX ?_
    | with_reducible refine o_none ?_
    | with_reducible refine o_some ?_
    | with_reducible refine i_rng1 ?_
    | with_reducible refine i_rng2 ?_
    | with_reducible refine i_zip ?_
    | with_reducible refine e_fld ?_
    | with_reducible refine e_tup ?_
    | with_reducible refine e_lst ?_
    | with_reducible refine rd_is rfl ?_ | with_reducible refine rd_isN rfl ?_
    | ((with_reducible refine rc_isiBX ?_); refine ⟨_, rfl, _, rfl, ?_⟩)
    | ((with_reducible refine e_isi2X ?_))
    | refine ⟨_, _, g_tup (gs_cons g_name (gs_cons g_name gs_nil)) rfl, ?_⟩
    | refine ⟨_, _, g_tup (gs_cons g_name (gs_cons g_name (gs_cons g_name gs_nil))) rfl, ?_⟩
    | refine ⟨_, _, g_tup (gs_cons g_name (gs_cons g_name (gs_cons g_name (gs_cons g_name gs_nil)))) rfl, ?_⟩
    | with_reducible refine Or.inl ⟨_, rfl, ?_⟩ | with_reducible refine Or.inr ⟨_, rfl, ?_⟩
    | with_reducible refine ⟨_, rfl, ?_⟩ | with_reducible refine ⟨rfl, ?_⟩ | with_reducible refine ⟨_, _, rfl, ?_⟩ | with_reducible refine ⟨_, _, _, rfl, ?_⟩ | with_reducible refine ⟨_, _, rfl, rfl, ?_⟩ | with_reducible refine ⟨fun _ => ?_, fun _ => ?_⟩ | with_reducible refine fun (_ : _ = true) => ?_ | with_reducible exact rfl | with_reducible refine And.intro ((by simp <;> fail : List.length _ ≤ 100000)) ?_ | with_reducible refine And.intro ((by simp only [List.length_map, List.length_append, List.length_cons, List.length_nil]; omega : List.length _ + List.length _ ≤ 100000)) ?_ | with_reducible refine And.intro (by omega) ?_ | with_reducible refine And.intro (by simp only [List.length_map]; omega) ?_ | with_reducible refine And.intro ((by first | omega | decide : (0 : Int) ≤ _ ∧ _ ≤ 1000000 ∧ Int.natAbs _ < 2 ^ 64)) ?_ | fail)
  all_goals exact hk _ _ _ _ _ _ _ _ _ _ _ _ (by omega)
end
end K51
set_option Elab.async false
set_option maxRecDepth 100000
set_option maxHeartbeats 4000000
set_option linter.all false
set_option autoImplicit false
namespace K51
open PySem PySem.Spec PyProof.Rows L2 DW
def top (i : Nat) : Stmt := PySem.Challenge.pw_askedcodes_k51_points_of_lost_blocks_at.main.body.getD i (.Pass ⟨0, 0, 0, 0⟩)
abbrev s__law_pen : Stmt := top 34
abbrev s__law_draw : Stmt := top 35
abbrev s__law_hole : Stmt := top 37
abbrev s__law_pick : Stmt := top 36
abbrev s__law_question : Stmt := top 40
abbrev s__law_chosen : Stmt := top 39
abbrev s__law_asked : Stmt := top 38
abbrev s__law_tried : Stmt := top 43
abbrev s_fixed : Stmt := top 10
abbrev s_Paper_init : Stmt := inClass (top 11) 0
abbrev s_Entry_init : Stmt := inClass (top 17) 0
abbrev s_is_listed : Stmt := top 7
abbrev s_is_integer : Stmt := top 5
abbrev s_are_integers : Stmt := top 8
abbrev s_is_possible : Stmt := top 18
abbrev s_need_entry : Stmt := top 19
abbrev s_need_question : Stmt := top 28
abbrev s_asked_between : Stmt := top 30
abbrev s_points_asked : Stmt := top 31
abbrev s_points_in : Stmt := top 32
abbrev s_is_within : Stmt := top 6
abbrev s_is_numbered : Stmt := top 25
abbrev s_are_moments : Stmt := top 26
abbrev s_Question_init : Stmt := inClass (top 27) 0
abbrev s__law_made : Stmt := top 41
abbrev s__law_span : Stmt := top 42
abbrev s_law : Stmt := top 44
/-! ### _law_pen -/
theorem sc__law_pen : FnScope ["script", "cell"] ["script"] (defScope s__law_pen) := ⟨rfl, rfl, rfl, by decide +kernel, rfl, by decide +kernel, by decide +kernel⟩
/-! ### _law_draw -/
theorem sc__law_draw : FnScope ["pen", "many", "digit", "at", "cell", "great", "mixed"] ["pen", "many"] (defScope s__law_draw) := ⟨rfl, rfl, rfl, by decide +kernel, rfl, by decide +kernel, by decide +kernel⟩
/-! ### _law_hole -/
theorem sc__law_hole : FnScope ["pen", "since", "many", "wide", "first", "value", "last", "low", "high", "total"] ["pen", "since", "many", "wide"] (defScope s__law_hole) := ⟨rfl, rfl, rfl, by decide +kernel, rfl, by decide +kernel, by decide +kernel⟩
/-! ### _law_pick -/
theorem sc__law_pick : FnScope ["pen", "some"] ["pen", "some"] (defScope s__law_pick) := ⟨rfl, rfl, rfl, by decide +kernel, rfl, by decide +kernel, by decide +kernel⟩
/-! ### _law_question -/
theorem sc__law_question : FnScope ["pen", "parts", "wide", "kind", "last", "start", "stop", "among", "number", "part", "moment"] ["pen", "parts", "wide"] (defScope s__law_question) := ⟨rfl, rfl, rfl, by decide +kernel, rfl, by decide +kernel, by decide +kernel⟩
/-! ### _law_chosen -/
theorem sc__law_chosen : FnScope ["some", "many", "rows", "thing", "row"] ["some", "many"] (defScope s__law_chosen) := ⟨rfl, rfl, rfl, by decide +kernel, rfl, by decide +kernel, by decide +kernel⟩
/-! ### _law_asked -/
theorem sc__law_asked : FnScope ["question", "moment"] ["question", "moment"] (defScope s__law_asked) := ⟨rfl, rfl, rfl, by decide +kernel, rfl, by decide +kernel, by decide +kernel⟩
/-! ### _law_tried -/
theorem sc__law_tried : FnScope ["hole", "question", "many", "first", "last", "counts", "row", "moments", "moment"] ["hole", "question"] (defScope s__law_tried) := ⟨rfl, rfl, rfl, by decide +kernel, rfl, by decide +kernel, by decide +kernel⟩
/-! ### fixed -/
theorem sc_fixed : FnScope ["value", "part"] ["value"] (defScope s_fixed) := ⟨rfl, rfl, rfl, by decide +kernel, rfl, by decide +kernel, by decide +kernel⟩
/-! ### Paper_init -/
theorem sc_Paper_init : FnScope ["self", "word", "parts"] ["self", "word", "parts"] (defScope s_Paper_init) := ⟨rfl, rfl, rfl, by decide +kernel, rfl, by decide +kernel, by decide +kernel⟩
/-! ### Entry_init -/
theorem sc_Entry_init : NdefX.NScope ["self", "bits", "count", "first", "last", "total", "least", "greatest", "__class__"] ["self", "bits", "count", "first", "last", "total", "least", "greatest"] ["__class__"] (defScope s_Entry_init) := NdefX.nscope_by (by decide +kernel)
/-! ### is_listed -/
theorem sc_is_listed : FnScope ["value"] ["value"] (defScope s_is_listed) := ⟨rfl, rfl, rfl, by decide +kernel, rfl, by decide +kernel, by decide +kernel⟩
/-! ### is_integer -/
theorem sc_is_integer : FnScope ["value"] ["value"] (defScope s_is_integer) := ⟨rfl, rfl, rfl, by decide +kernel, rfl, by decide +kernel, by decide +kernel⟩
/-! ### are_integers -/
theorem sc_are_integers : FnScope ["value", "many", "part"] ["value", "many"] (defScope s_are_integers) := ⟨rfl, rfl, rfl, by decide +kernel, rfl, by decide +kernel, by decide +kernel⟩
/-! ### is_possible -/
theorem sc_is_possible : FnScope ["entry", "many", "low", "high", "total"] ["entry"] (defScope s_is_possible) := ⟨rfl, rfl, rfl, by decide +kernel, rfl, by decide +kernel, by decide +kernel⟩
/-! ### need_entry -/
theorem sc_need_entry : FnScope ["value", "part"] ["value", "part"] (defScope s_need_entry) := ⟨rfl, rfl, rfl, by decide +kernel, rfl, by decide +kernel, by decide +kernel⟩
/-! ### need_question -/
theorem sc_need_question : FnScope ["value"] ["value"] (defScope s_need_question) := ⟨rfl, rfl, rfl, by decide +kernel, rfl, by decide +kernel, by decide +kernel⟩
/-! ### asked_between -/
theorem sc_asked_between : FnScope ["question", "start", "stop", "low", "high", "moment"] ["question", "start", "stop"] (defScope s_asked_between) := ⟨rfl, rfl, rfl, by decide +kernel, rfl, by decide +kernel, by decide +kernel⟩
/-! ### points_asked -/
theorem sc_points_asked : FnScope ["entry", "question", "ends", "inner", "asked", "others"] ["entry", "question"] (defScope s_points_asked) := ⟨rfl, rfl, rfl, by decide +kernel, rfl, by decide +kernel, by decide +kernel⟩
/-! ### points_in -/
theorem sc_points_in : FnScope ["entry", "question"] ["entry", "question"] (defScope s_points_in) := ⟨rfl, rfl, rfl, by decide +kernel, rfl, by decide +kernel, by decide +kernel⟩
/-! ### is_within -/
theorem sc_is_within : FnScope ["value", "least", "most"] ["value", "least", "most"] (defScope s_is_within) := ⟨rfl, rfl, rfl, by decide +kernel, rfl, by decide +kernel, by decide +kernel⟩
/-! ### is_numbered -/
theorem sc_is_numbered : FnScope ["kind", "value"] ["kind", "value"] (defScope s_is_numbered) := ⟨rfl, rfl, rfl, by decide +kernel, rfl, by decide +kernel, by decide +kernel⟩
/-! ### are_moments -/
theorem sc_are_moments : FnScope ["value", "one", "other"] ["value"] (defScope s_are_moments) := ⟨rfl, rfl, rfl, by decide +kernel, rfl, by decide +kernel, by decide +kernel⟩
/-! ### Question_init -/
theorem sc_Question_init : FnScope ["self", "kind", "number", "start", "stop", "among"] ["self", "kind", "number", "start", "stop", "among"] (defScope s_Question_init) := ⟨rfl, rfl, rfl, by decide +kernel, rfl, by decide +kernel, by decide +kernel⟩
/-! ### _law_made -/
theorem sc__law_made : FnScope ["question"] ["question"] (defScope s__law_made) := ⟨rfl, rfl, rfl, by decide +kernel, rfl, by decide +kernel, by decide +kernel⟩
/-! ### _law_span -/
theorem sc__law_span : FnScope ["hole", "question", "many", "first", "last", "inner", "ends", "moment"] ["hole", "question"] (defScope s__law_span) := ⟨rfl, rfl, rfl, by decide +kernel, rfl, by decide +kernel, by decide +kernel⟩
/-! ### law -/
theorem sc_law : FnScope ["script", "pen", "turn", "hole", "question", "due", "entry", "many", "first", "last", "start", "among", "lap"] ["script"] (defScope s_law) := ⟨rfl, rfl, rfl, by decide +kernel, rfl, by decide +kernel, by decide +kernel⟩
structure Txt (K : PySem.W.Frag) (mg : Str → Option Value) (C_Entry : Addr) (C_Question : Addr) : Prop where
  b_abs : mg "abs" = none
  b_all : mg "all" = none
  b_bool : mg "bool" = none
  b_dict : mg "dict" = none
  b_int : mg "int" = none
  b_isinstance : mg "isinstance" = none
  b_len : mg "len" = none
  b_list : mg "list" = none
  b_max : mg "max" = none
  b_min : mg "min" = none
  b_range : mg "range" = none
  b_repr : mg "repr" = none
  b_sorted : mg "sorted" = none
  b_str : mg "str" = none
  b_tuple : mg "tuple" = none
  b_zip : mg "zip" = none
  k_ASKED : KTup K mg "ASKED" k_ASKED
  k_FIELDS : ∃ t, mg "FIELDS" = some (.int 7 t)
  k_MOMENTS : ∃ t, mg "MOMENTS" = some (.int 1099511627776 t)
  k_MOST_LISTED : ∃ t, mg "MOST_LISTED" = some (.int 200 t)
  k_MOST_MOMENT : ∃ t, mg "MOST_MOMENT" = some (.int 1099511627775 t)
  k_MOST_NUMBER : ∃ t, mg "MOST_NUMBER" = some (.int 1152921504606846976 t)
  k_POINTS : ∃ t, mg "POINTS" = some (.int 68719476736 t)
  k_VALUES : ∃ t, mg "VALUES" = some (.int 1099511627776 t)
  c_Entry : mg "Entry" = some (.ref C_Entry)
  c_Question : mg "Question" = some (.ref C_Question)
section
variable {P : Program} {w : World} {K : PySem.W.Frag} {mg : Str → Option Value} {base : Heap} {C_Entry : Addr} {C_Question : Addr}
variable (T : Txt K mg C_Entry C_Question)
include T
theorem der__law_pen  {f : Addr} {cdv : Value} {A : Around} {outer : List Env} {s : Shared} {H : Hp} {E : XK}  (hr : Room 0 (A.deeper (envOfC "_law_pen" (defScope s__law_pen) s.heap.objs.size f cdv))) :
    PSs (cxOf CX0 P w K mg base ["script", "cell"] "_law_pen" (defScope s__law_pen) f cdv A outer s H E).nox (defBody s__law_pen) (r__law_pen K ) := by
  exact (pss_one (ps_ret (pe_lst (pa_cons (pe_lc (own := [("cell", 1)]) (by rfl) sc__law_pen.nd (pi_seq (pe_slice sl_U (pv 0) po_none (po_some pe_int))) (blkOk_by (N := ["script", "cell"]) (sc := defScope s__law_pen) (by decide +kernel)) (fun _ _ _ _ _ => (pg_name (i := 1) sc__law_pen.nd rfl (by first | exact Or.inl rfl | exact Or.inr rfl))) (fun _ _ _ _ _ => pts_nil) (fun _ _ _ _ _ => (pe_callTy call_intU (by rfl) T.b_int (by rfl) (pa_cons (pv 1) pa_nil)))) (pa_cons pe_int (pa_cons pe_int pa_nil))))))
theorem der__law_draw  {f : Addr} {cdv : Value} {A : Around} {outer : List Env} {s : Shared} {H : Hp} {E : XK}  (hr : Room 0 (A.deeper (envOfC "_law_draw" (defScope s__law_draw) s.heap.objs.size f cdv))) :
    PSs (cxOf CX0 P w K mg base ["pen", "many", "digit", "at", "cell", "great", "mixed"] "_law_draw" (defScope s__law_draw) f cdv A outer s H E).nox (defBody s__law_draw) (r__law_draw K ) := by
  have hu : (A.deeper (envOfC "_law_draw" (defScope s__law_draw) s.heap.objs.size f cdv)).units + 64 < cLine := by have := hr.un; omega
  exact (pss_cons (ps_if (pt_cmpR op_gt (pe_ix ix_seq (pv 0) pe_int (fun _ _ => rfl)) pe_int (nomark _)) (pss_cons (ps_set (i := 2) sc__law_draw.nd rfl (by first | exact Or.inl rfl | exact Or.inr rfl) (pe_op op_modU (pe_callTy call_intU (by rfl) T.b_int (by rfl) (pa_cons (pe_ix ix_seq (pv 0) pe_int (fun _ _ => rfl)) pa_nil)) (pv 1))) (pss_cons (ps_asg (pe_op op_divU (pe_callTy call_intU (by rfl) T.b_int (by rfl) (pa_cons (pe_ix ix_seq (pv 0) pe_int (fun _ _ => rfl)) pa_nil)) (pv 1)) (pg_sub (pv 0) pe_int set_list)) (pss_one (ps_ret (pv 2))))) pss_nil) (pss_cons (ps_set (i := 3) sc__law_draw.nd rfl (by first | exact Or.inl rfl | exact Or.inr rfl) (pe_ix ix_seq (pv 0) pe_int (fun _ _ => rfl))) (pss_cons (ps_asg (pe_op op_addU (pv 3) pe_int) (pg_sub (pv 0) pe_int set_list)) (pss_cons (ps_set (i := 4) sc__law_draw.nd rfl (by first | exact Or.inl rfl | exact Or.inr rfl) (pe_op op_addU (pe_op op_mulU pe_int (pv 3)) pe_int)) (pss_cons (ps_if (pt_cmpR (op_neU hu) (pe_ix ix_seq (pv 0) pe_int (fun _ _ => rfl)) (pe_lst pa_nil) (nomark _)) (pss_one (ps_set (i := 4) sc__law_draw.nd rfl (by first | exact Or.inl rfl | exact Or.inr rfl) (pe_ix ix_seq (pe_ix ix_seq (pv 0) pe_int (fun _ _ => rfl)) (pe_op op_modU (pe_callTy call_intU (by rfl) T.b_int (by rfl) (pa_cons (pv 3) pa_nil)) (pe_callB call_lenU (by rfl) T.b_len (by rfl) (pa_cons (pe_ix ix_seq (pv 0) pe_int (fun _ _ => rfl)) pa_nil))) (fun _ _ => rfl)))) pss_nil) (pss_cons (ps_if (PW.pt (pw_and (pt_cmpR op_lt (pv 3) (pe_callB call_lenU (by rfl) T.b_len (by rfl) (pa_cons (pe_ix ix_seq (pv 0) pe_int (fun _ _ => rfl)) pa_nil)) (nomark _)) (pw_and1 (pt_cmpR op_ge (pe_callB call_absU (by rfl) T.b_abs (by rfl) (pa_cons (pv 4) pa_nil)) (pe_op op_pow pe_int pe_int) (nomark _))))) (pss_cons (ps_set (i := 5) sc__law_draw.nd rfl (by first | exact Or.inl rfl | exact Or.inr rfl) (pe_op op_addU (pe_op op_mulU pe_int (pe_op op_sub (pe_callB call_absU (by rfl) T.b_abs (by rfl) (pa_cons (pv 4) pa_nil)) (pe_op op_pow pe_int pe_int))) (pe_callTy call_intU (by rfl) T.b_int (by rfl) (pa_cons (pe_cmpR op_lt (pv 4) pe_int (nomark _)) pa_nil)))) (pss_cons (ps_asg (pe_op op_divU (pe_callTy call_intU (by rfl) T.b_int (by rfl) (pa_cons (pv 5) pa_nil)) (pv 1)) (pg_sub (pv 0) pe_int set_list)) (pss_one (ps_ret (pe_op op_modU (pe_callTy call_intU (by rfl) T.b_int (by rfl) (pa_cons (pv 5) pa_nil)) (pv 1)))))) pss_nil) (pss_cons (ps_set (i := 6) sc__law_draw.nd rfl (by first | exact Or.inl rfl | exact Or.inr rfl) (pe_op op_modU (pe_callTy call_intU (by rfl) T.b_int (by rfl) (pa_cons (pe_op op_pow (pe_op op_addU (pe_op op_addU (pe_op op_modU (pe_callTy call_intU (by rfl) T.b_int (by rfl) (pa_cons (pv 4) pa_nil)) pe_int) (pe_op op_mulU pe_int (pv 3))) pe_int) pe_int) pa_nil)) pe_int)) (pss_cons (ps_set (i := 6) sc__law_draw.nd rfl (by first | exact Or.inl rfl | exact Or.inr rfl) (pe_op op_modU (pe_callTy call_intU (by rfl) T.b_int (by rfl) (pa_cons (pe_op op_pow (pe_op op_addU (pe_op op_addU (pe_op op_mulU (pv 6) (pe_op op_addU (pe_op op_mulU pe_int (pv 3)) pe_int)) (pe_op op_mulU (pe_op op_mulU pe_int (pv 3)) (pv 3))) pe_int) pe_int) pa_nil)) pe_int)) (pss_one (ps_ret (pe_op op_modU (pe_callTy call_intU (by rfl) T.b_int (by rfl) (pa_cons (pe_op op_divU (pv 6) pe_int) pa_nil)) (pv 1))))))))))))
theorem der__law_hole {S__law_draw : Sp} {f : Addr} {cdv : Value} {A : Around} {outer : List Env} {s : Shared} {H : Hp} {E : XK} (G__law_draw : Go P w K mg base 1 "_law_draw" S__law_draw []) (hr : Room 1 (A.deeper (envOfC "_law_hole" (defScope s__law_hole) s.heap.objs.size f cdv))) :
    PSs (cxOf CX0 P w K mg base ["pen", "since", "many", "wide", "first", "value", "last", "low", "high", "total"] "_law_hole" (defScope s__law_hole) f cdv A outer s H E).nox (defBody s__law_hole) (r__law_hole K S__law_draw) := by
  have hu : (A.deeper (envOfC "_law_hole" (defScope s__law_hole) s.heap.objs.size f cdv)).units + 64 < cLine := by have := hr.un; omega
  exact (pss_cons (ps_set (i := 4) sc__law_hole.nd rfl (by first | exact Or.inl rfl | exact Or.inr rfl) (pe_op op_addU (pv 1) (pe_go G__law_draw hr (pa_cons (pv 0) (pa_cons pe_int pa_nil))))) (pss_cons (ps_if (pt_cmpR (op_eqU hu) (pv 2) pe_int (nomark _)) (pss_cons (ps_set (i := 5) sc__law_hole.nd rfl (by first | exact Or.inl rfl | exact Or.inr rfl) (pe_op op_sub (pe_go G__law_draw hr (pa_cons (pv 0) (pa_cons (pe_op op_addU (pe_op op_mulU pe_int (pv 3)) pe_int) pa_nil))) (pv 3))) (pss_one (ps_ret (pe_tup (pa_cons pe_int (pa_cons (pv 4) (pa_cons (pv 4) (pa_cons (pv 5) (pa_cons (pv 5) (pa_cons (pv 5) pa_nil)))))))))) pss_nil) (pss_cons (ps_par (i := 6) (j := 7) rfl sc__law_hole.nd rfl rfl (by decide) rfl rfl (pa_cons (pe_op op_addU (pe_op op_sub (pe_op op_addU (pv 4) (pv 2)) pe_int) (pe_go G__law_draw hr (pa_cons (pv 0) (pa_cons pe_int pa_nil)))) (pa_cons (pe_op op_sub (pe_go G__law_draw hr (pa_cons (pv 0) (pa_cons (pe_op op_addU (pv 3) pe_int) pa_nil))) (pv 3)) pa_nil)) (by rfl)) (pss_cons (ps_set (i := 8) sc__law_hole.nd rfl (by first | exact Or.inl rfl | exact Or.inr rfl) (pe_op op_addU (pv 7) (pe_go G__law_draw hr (pa_cons (pv 0) (pa_cons (pe_op op_addU (pv 3) pe_int) pa_nil))))) (pss_cons (ps_set (i := 9) sc__law_hole.nd rfl (by first | exact Or.inl rfl | exact Or.inr rfl) (pe_op op_addU (pe_op op_addU (pe_op op_mulU (pe_op op_sub (pv 2) pe_int) (pv 7)) (pv 8)) (pe_go G__law_draw hr (pa_cons (pv 0) (pa_cons (pe_op op_addU (pe_op op_mulU (pe_op op_sub (pv 2) pe_int) (pe_op op_sub (pv 8) (pv 7))) pe_int) pa_nil))))) (pss_one (ps_ret (pe_tup (pa_cons (pv 2) (pa_cons (pv 4) (pa_cons (pv 6) (pa_cons (pv 9) (pa_cons (pv 7) (pa_cons (pv 8) pa_nil))))))))))))))
theorem der__law_pick {S__law_draw : Sp} {f : Addr} {cdv : Value} {A : Around} {outer : List Env} {s : Shared} {H : Hp} {E : XK} (G__law_draw : Go P w K mg base 1 "_law_draw" S__law_draw []) (hr : Room 1 (A.deeper (envOfC "_law_pick" (defScope s__law_pick) s.heap.objs.size f cdv))) :
    PSs (cxOf CX0 P w K mg base ["pen", "some"] "_law_pick" (defScope s__law_pick) f cdv A outer s H E).nox (defBody s__law_pick) (r__law_pick K S__law_draw) := by
  exact (pss_one (ps_ret (pe_ix ix_seq (pv 1) (pe_go G__law_draw hr (pa_cons (pv 0) (pa_cons (pe_callB call_lenU (by rfl) T.b_len (by rfl) (pa_cons (pv 1) pa_nil)) pa_nil))) (fun _ _ => rfl))))
theorem der__law_question {S__law_pick : Sp} {S__law_draw : Sp} {f : Addr} {cdv : Value} {A : Around} {outer : List Env} {s : Shared} {H : Hp} {E : XK} (G__law_pick : Go P w K mg base 2 "_law_pick" S__law_pick []) (G__law_draw : Go P w K mg base 1 "_law_draw" S__law_draw []) (hr : Room 2 (A.deeper (envOfC "_law_question" (defScope s__law_question) s.heap.objs.size f cdv))) :
    PSs (cxOf CX0 P w K mg base ["pen", "parts", "wide", "kind", "last", "start", "stop", "among", "number", "part", "moment"] "_law_question" (defScope s__law_question) f cdv A outer s H E).nox (defBody s__law_question) (r__law_question K S__law_pick S__law_draw) := by
  have hu : (A.deeper (envOfC "_law_question" (defScope s__law_question) s.heap.objs.size f cdv)).units + 64 < cLine := by have := hr.un; omega
  exact (pss_cons (ps_set (i := 3) sc__law_question.nd rfl (by first | exact Or.inl rfl | exact Or.inr rfl) (pe_go G__law_pick hr (pa_cons (pv 0) (pa_cons (pe_lst (pa_cons pe_str (pa_cons pe_str (pa_cons pe_str (pa_cons pe_str (pa_cons pe_str (pa_cons pe_str pa_nil))))))) pa_nil)))) (pss_cons (ps_set (i := 4) sc__law_question.nd rfl (by first | exact Or.inl rfl | exact Or.inr rfl) (pe_callB (call_maxU rfl) (by rfl) T.b_max (by rfl) (pa_cons (pe_lc (own := [("part", 9)]) (by rfl) sc__law_question.nd (pi_seq (pv 1)) (blkOk_by (N := ["pen", "parts", "wide", "kind", "last", "start", "stop", "among", "number", "part", "moment"]) (sc := defScope s__law_question) (by decide +kernel)) (fun _ _ _ _ _ => (pg_name (i := 9) sc__law_question.nd rfl (by first | exact Or.inl rfl | exact Or.inr rfl))) (fun _ _ _ _ _ => pts_nil) (fun _ _ _ _ _ => (pe_ifExp (pt_val (pe_callB call_isiU (by rfl) T.b_isinstance (by rfl) (pa_cons (pv 9) (pa_cons (pe_bltn (by rfl) T.b_list (by rfl) rfl) pa_nil)))) (pe_ix ix_seq (pe_ix ix_seq (pv 9) (pe_un un_neg pe_int) (fun _ _ => rfl)) pe_int (fun _ _ => rfl)) (pe_ix ix_seq (pv 9) pe_int (fun _ _ => rfl))))) pa_nil))) (pss_cons (ps_set (i := 5) sc__law_question.nd rfl (by first | exact Or.inl rfl | exact Or.inr rfl) (pe_ifExp (pt_cmpR op_gt (pe_go G__law_draw hr (pa_cons (pv 0) (pa_cons pe_int pa_nil))) pe_int (nomark _)) (pe_go G__law_draw hr (pa_cons (pv 0) (pa_cons (pe_op op_addU (pv 4) pe_int) pa_nil))) pe_int)) (pss_cons (ps_set (i := 6) sc__law_question.nd rfl (by first | exact Or.inl rfl | exact Or.inr rfl) (pe_ifExp (pt_cmpR op_gt (pe_go G__law_draw hr (pa_cons (pv 0) (pa_cons pe_int pa_nil))) pe_int (nomark _)) (pe_op op_addU (pv 5) (pe_go G__law_draw hr (pa_cons (pv 0) (pa_cons (pe_op op_sub (pe_op op_addU (pv 4) pe_int) (pv 5)) pa_nil)))) (pe_op op_addU (pe_op op_addU (pv 4) pe_int) (pe_go G__law_draw hr (pa_cons (pv 0) (pa_cons pe_int pa_nil)))))) (pss_cons (ps_set (i := 7) sc__law_question.nd rfl (by first | exact Or.inl rfl | exact Or.inr rfl) (pe_ifExp (pt_cmpR (op_eqU hu) (pe_go G__law_draw hr (pa_cons (pv 0) (pa_cons pe_int pa_nil))) pe_int (nomark _)) (pe_lc (own := [("moment", 10)]) (by rfl) sc__law_question.nd (pi_range1 (by rfl) T.b_range (pa_cons (pe_op op_addU (pv 4) pe_int) pa_nil)) (blkOk_by (N := ["pen", "parts", "wide", "kind", "last", "start", "stop", "among", "number", "part", "moment"]) (sc := defScope s__law_question) (by decide +kernel)) (fun _ _ _ _ _ => (pg_name (i := 10) sc__law_question.nd rfl (by first | exact Or.inl rfl | exact Or.inr rfl))) (fun _ _ _ _ _ => (pts_one (pt_cmpR op_gt (pe_go G__law_draw hr (pa_cons (pv 0) (pa_cons pe_int pa_nil))) pe_int (nomark _)))) (fun _ _ _ _ _ => (pv 10))) pe_non)) (pss_cons (ps_set (i := 8) sc__law_question.nd rfl (by first | exact Or.inl rfl | exact Or.inr rfl) (pe_ifExp (pt_cmpR (op_eqU hu) (pv 3) pe_str (nomark _)) (pe_op op_sub (pe_op op_sub (pe_go G__law_draw hr (pa_cons (pv 0) (pa_cons (pe_op op_addU (pe_op op_mulU pe_int (pv 2)) pe_int) pa_nil))) (pv 2)) pe_int) (pe_ifExp (pt_cmpR (op_eqU hu) (pv 3) pe_str (nomark _)) (pe_op op_addU pe_int (pe_go G__law_draw hr (pa_cons (pv 0) (pa_cons pe_int pa_nil)))) pe_non))) (pss_one (ps_ret (pe_tup (pa_cons (pv 3) (pa_cons (pv 8) (pa_cons (pv 5) (pa_cons (pe_callB (call_maxU rfl) (by rfl) T.b_max (by rfl) (pa_cons (pv 5) (pa_cons (pv 6) pa_nil))) (pa_cons (pv 7) pa_nil))))))))))))))
theorem der__law_chosen  {f : Addr} {cdv : Value} {A : Around} {outer : List Env} {s : Shared} {H : Hp} {E : XK}  (hr : Room 0 (A.deeper (envOfC "_law_chosen" (defScope s__law_chosen) s.heap.objs.size f cdv))) :
    PSs (cxOf CX0 P w K mg base ["some", "many", "rows", "thing", "row"] "_law_chosen" (defScope s__law_chosen) f cdv A outer s H E).nox (defBody s__law_chosen) (r__law_chosen K ) := by
  have hu : (A.deeper (envOfC "_law_chosen" (defScope s__law_chosen) s.heap.objs.size f cdv)).units + 64 < cLine := by have := hr.un; omega
  exact (pss_cons (ps_set (i := 2) sc__law_chosen.nd rfl (by first | exact Or.inl rfl | exact Or.inr rfl) (pe_lst (pa_cons (pe_tup pa_nil) pa_nil))) (pss_cons (ps_for PassesOwn.never rfl (pi_range1 (by rfl) T.b_range (pa_cons (pe_callB call_lenU (by rfl) T.b_len (by rfl) (pa_cons (pv 0) pa_nil)) pa_nil)) (pg_name (i := 3) sc__law_chosen.nd rfl (by first | exact Or.inl rfl | exact Or.inr rfl)) (pss_one (ps_set (i := 2) sc__law_chosen.nd rfl (by first | exact Or.inl rfl | exact Or.inr rfl) (pe_op op_addU (pe_callTy (call_listU rfl) (by rfl) T.b_list (by rfl) (pa_cons (pv 2) pa_nil)) (pe_lc (own := [("row", 4)]) (by rfl) sc__law_chosen.nd (pi_seq (pv 2)) (blkOk_by (N := ["some", "many", "rows", "thing", "row"]) (sc := defScope s__law_chosen) (by decide +kernel)) (fun _ _ _ _ _ => (pg_name (i := 4) sc__law_chosen.nd rfl (by first | exact Or.inl rfl | exact Or.inr rfl))) (fun _ _ _ _ _ => (pts_one (pt_cmpR op_lt (pe_callB call_lenU (by rfl) T.b_len (by rfl) (pa_cons (pv 4) pa_nil)) (pv 1) (nomark _)))) (fun _ _ _ _ _ => (pe_op op_addU (pv 4) (pe_tup (pa_cons (pe_ix ix_seq (pv 0) (pv 3) (fun _ _ => rfl)) pa_nil))))))))) (pss_one (ps_ret (pe_lc (own := [("row", 4)]) (by rfl) sc__law_chosen.nd (pi_seq (pv 2)) (blkOk_by (N := ["some", "many", "rows", "thing", "row"]) (sc := defScope s__law_chosen) (by decide +kernel)) (fun _ _ _ _ _ => (pg_name (i := 4) sc__law_chosen.nd rfl (by first | exact Or.inl rfl | exact Or.inr rfl))) (fun _ _ _ _ _ => (pts_one (pt_cmpR (op_eqU hu) (pe_callB call_lenU (by rfl) T.b_len (by rfl) (pa_cons (pv 4) pa_nil)) (pv 1) (nomark _)))) (fun _ _ _ _ _ => (pv 4)))))))
theorem der__law_asked  {f : Addr} {cdv : Value} {A : Around} {outer : List Env} {s : Shared} {H : Hp} {E : XK}  (hr : Room 0 (A.deeper (envOfC "_law_asked" (defScope s__law_asked) s.heap.objs.size f cdv))) :
    PSs (cxOf CX0 P w K mg base ["question", "moment"] "_law_asked" (defScope s__law_asked) f cdv A outer s H E).nox (defBody s__law_asked) (r__law_asked K ) := by
  exact (pss_one (ps_ret (pe_and (pe_chain op_le op_lt (pe_ix ix_seq (pv 0) pe_int (fun _ _ => rfl)) (pv 1) (pe_ix ix_seq (pv 0) pe_int (fun _ _ => rfl))) (pe_one (pe_or (pe_cmpR op_isU (pe_ix ix_seq (pv 0) pe_int (fun _ _ => rfl)) pe_non (nomark _)) (pe_one (pe_cmpR op_inU (pv 1) (pe_ix ix_seq (pv 0) pe_int (fun _ _ => rfl)) (by with_unfolding_all rfl))))))))
theorem der__law_tried {S__law_chosen : Sp} {S__law_asked : Sp} {f : Addr} {cdv : Value} {A : Around} {outer : List Env} {s : Shared} {H : Hp} {E : XK} (G__law_chosen : Go P w K mg base 1 "_law_chosen" S__law_chosen []) (G__law_asked : Go P w K mg base 1 "_law_asked" S__law_asked []) (hr : Room 1 (A.deeper (envOfC "_law_tried" (defScope s__law_tried) s.heap.objs.size f cdv))) :
    PSs (cxOf CX0 P w K mg base ["hole", "question", "many", "first", "last", "counts", "row", "moments", "moment"] "_law_tried" (defScope s__law_tried) f cdv A outer s H E).nox (defBody s__law_tried) (r__law_tried K S__law_chosen S__law_asked) := by
  exact (pss_cons (ps_asg (pe_slice sl_U (pv 0) po_none (po_some pe_int)) (pg_tup rfl (pgs_cons (pg_name (i := 2) sc__law_tried.nd rfl (by first | exact Or.inl rfl | exact Or.inr rfl)) (pgs_cons (pg_name (i := 3) sc__law_tried.nd rfl (by first | exact Or.inl rfl | exact Or.inr rfl)) (pgs_cons (pg_name (i := 4) sc__law_tried.nd rfl (by first | exact Or.inl rfl | exact Or.inr rfl)) pgs_nil))))) (pss_cons (ps_set (i := 5) sc__law_tried.nd rfl (by first | exact Or.inl rfl | exact Or.inr rfl) (pe_lst pa_nil)) (pss_cons (ps_for PassesOwn.never rfl (pi_seq (pe_ifExp (pt_cmpR op_gt (pv 2) pe_int (nomark _)) (pe_go G__law_chosen hr (pa_cons (pe_listRg rfl (by rfl) T.b_list (prg_2 (by rfl) T.b_range (pe_op op_addU (pv 3) pe_int) (pv 4))) (pa_cons (pe_op op_sub (pv 2) pe_int) pa_nil))) (pe_lst (pa_cons (pe_tup pa_nil) pa_nil)))) (pg_name (i := 6) sc__law_tried.nd rfl (by first | exact Or.inl rfl | exact Or.inr rfl)) (pss_cons (ps_set (i := 7) sc__law_tried.nd rfl (by first | exact Or.inl rfl | exact Or.inr rfl) (pe_op op_addU (pe_op op_addU (pe_tup (pa_cons (pv 3) pa_nil)) (pv 6)) (pe_ifExp (pt_cmpR op_gt (pv 2) pe_int (nomark _)) (pe_tup (pa_cons (pv 4) pa_nil)) (pe_tup pa_nil)))) (pss_one (ps_expr (pe_bm PySem.F.plainAttrs_list PySem.F.slot_list_append PySem.F.type_list_append mt_append (pv 5) (pa_cons (pe_callB call_lenU (by rfl) T.b_len (by rfl) (pa_cons (pe_lc (own := [("moment", 8)]) (by rfl) sc__law_tried.nd (pi_seq (pv 7)) (blkOk_by (N := ["hole", "question", "many", "first", "last", "counts", "row", "moments", "moment"]) (sc := defScope s__law_tried) (by decide +kernel)) (fun _ _ _ _ _ => (pg_name (i := 8) sc__law_tried.nd rfl (by first | exact Or.inl rfl | exact Or.inr rfl))) (fun _ _ _ _ _ => (pts_one (pt_val (pe_go G__law_asked hr (pa_cons (pv 1) (pa_cons (pv 8) pa_nil)))))) (fun _ _ _ _ _ => (pv 8))) pa_nil)) pa_nil)))))) (pss_one (ps_ret (pe_tup (pa_cons (pe_callB (call_minU rfl) (by rfl) T.b_min (by rfl) (pa_cons (pv 5) pa_nil)) (pa_cons (pe_callB (call_maxU rfl) (by rfl) T.b_max (by rfl) (pa_cons (pv 5) pa_nil)) pa_nil))))))))
theorem der_fixed {S_fixed : Sp} {f : Addr} {cdv : Value} {A : Around} {outer : List Env} {s : Shared} {H : Hp} {E : XK} {lv : Nat} (G_fixed : Go P w K mg base lv "fixed" S_fixed []) (hr : Room lv (A.deeper (envOfC "fixed" (defScope s_fixed) s.heap.objs.size f cdv))) :
    PSs (cxOf CX0 P w K mg base ["value", "part"] "fixed" (defScope s_fixed) f cdv A outer s H E).nox (defBody s_fixed) (r_fixed K S_fixed) := by
  exact (pss_cons (ps_if (pt_val (pe_callB call_isiT (by rfl) T.b_isinstance (by rfl) (pa_cons (pv 0) (pa_cons (pe_tup (pa_cons (pe_bltn (by rfl) T.b_list (by rfl) rfl) (pa_cons (pe_bltn (by rfl) T.b_tuple (by rfl) rfl) pa_nil))) pa_nil)))) (pss_one (ps_ret (pe_callTy call_tupU (by rfl) T.b_tuple (by rfl) (pa_cons (pe_lc (own := [("part", 1)]) (by rfl) sc_fixed.nd (pi_seq (pv 0)) (blkOk_by (N := ["value", "part"]) (sc := defScope s_fixed) (by decide +kernel)) (fun _ _ _ _ _ => (pg_name (i := 1) sc_fixed.nd rfl (by first | exact Or.inl rfl | exact Or.inr rfl))) (fun _ _ _ _ _ => pts_nil) (fun _ _ _ _ _ => (pe_go G_fixed hr (pa_cons (pv 1) pa_nil) (Nat.le_refl _)))) pa_nil)))) pss_nil) (pss_one (ps_ret (pv 0))))
theorem der_Paper_init {S_fixed : Sp} {f : Addr} {cdv : Value} {A : Around} {outer : List Env} {s : Shared} {H : Hp} {E : XK} (G_fixed : Go P w K mg base 2 "fixed" S_fixed []) (hr : Room 2 (A.deeper (envOfC "Paper.__init__" (defScope s_Paper_init) s.heap.objs.size f cdv))) :
    PSs (cxOf CX0 P w K mg base ["self", "word", "parts"] "Paper.__init__" (defScope s_Paper_init) f cdv A outer s H E).nox (defBody s_Paper_init) (r_Paper_init K S_fixed) := by
  exact (pss_cons (ps_fld (pv 0) (pv 1) rfl) (pss_one (ps_fld (pv 0) (pe_go G_fixed hr (pa_cons (pv 2) pa_nil)) rfl)))
theorem der_Entry_init  {f cc cda : Addr} {A : Around} {outer : List Env} {s : Shared} {H : Hp} {E : XK}  (hr : Room 3 (A.deeper (NdefX.envF (supF "__init__" "Entry.__init__" (defArgs s_Entry_init) (defBody s_Entry_init) (defScope s_Entry_init) cc cda) f s.heap.objs.size))) :
    PSs (NdefX.ncx CX0 P w K mg base ["self", "bits", "count", "first", "last", "total", "least", "greatest", "__class__"] (supF "__init__" "Entry.__init__" (defArgs s_Entry_init) (defBody s_Entry_init) (defScope s_Entry_init) cc cda) f A outer s H E).nox ((defBody s_Entry_init).drop 1) (r_Entry_init K ) := by
  exact (pss_one (ps_asg (pe_fld (pv 0) rfl) (pg_tup rfl (pgs_cons (pg_attr (pv 0)) (pgs_cons (pg_attr (pv 0)) (pgs_cons (pg_attr (pv 0)) (pgs_cons (pg_attr (pv 0)) (pgs_cons (pg_attr (pv 0)) (pgs_cons (pg_attr (pv 0)) (pgs_cons (pg_attr (pv 0)) pgs_nil))))))))))
theorem dera_Entry_init  {f cc cda : Addr} {A : Around} {outer : List Env} {s : Shared} {H : Hp} {E : XK}  (hr : Room 3 (A.deeper (NdefX.envF (supF "__init__" "Entry.__init__" (defArgs s_Entry_init) (defBody s_Entry_init) (defScope s_Entry_init) cc cda) f s.heap.objs.size))) :
    PA (NdefX.ncx CX0 P w K mg base ["self", "bits", "count", "first", "last", "total", "least", "greatest", "__class__"] (supF "__init__" "Entry.__init__" (defArgs s_Entry_init) (defBody s_Entry_init) (defScope s_Entry_init) cc cda) f A outer s H E) (supArgs s_Entry_init) (a_Entry_init K ) := by
  exact (pa_cons pe_str (pa_cons (pv 1) (pa_cons (pv 2) (pa_cons (pv 3) (pa_cons (pv 4) (pa_cons (pv 5) (pa_cons (pv 6) (pa_cons (pv 7) pa_nil))))))))
theorem der_is_listed  {f : Addr} {cdv : Value} {A : Around} {outer : List Env} {s : Shared} {H : Hp} {E : XK}  (hr : Room 0 (A.deeper (envOfC "is_listed" (defScope s_is_listed) s.heap.objs.size f cdv))) :
    PSs (cxOf CX0 P w K mg base ["value"] "is_listed" (defScope s_is_listed) f cdv A outer s H E).nox (defBody s_is_listed) (r_is_listed K ) := by
  exact (pss_one (ps_ret (pe_callB call_isiT (by rfl) T.b_isinstance (by rfl) (pa_cons (pv 0) (pa_cons (pe_tup (pa_cons (pe_bltn (by rfl) T.b_list (by rfl) rfl) (pa_cons (pe_bltn (by rfl) T.b_tuple (by rfl) rfl) pa_nil))) pa_nil)))))
theorem der_is_integer  {f : Addr} {cdv : Value} {A : Around} {outer : List Env} {s : Shared} {H : Hp} {E : XK}  (hr : Room 0 (A.deeper (envOfC "is_integer" (defScope s_is_integer) s.heap.objs.size f cdv))) :
    PSs (cxOf CX0 P w K mg base ["value"] "is_integer" (defScope s_is_integer) f cdv A outer s H E).nox (defBody s_is_integer) (r_is_integer K ) := by
  exact (pss_one (ps_ret (pe_and (pe_callB call_isiU (by rfl) T.b_isinstance (by rfl) (pa_cons (pv 0) (pa_cons (pe_bltn (by rfl) T.b_int (by rfl) rfl) pa_nil))) (pe_one (pe_not (pe_callB call_isiU (by rfl) T.b_isinstance (by rfl) (pa_cons (pv 0) (pa_cons (pe_bltn (by rfl) T.b_bool (by rfl) rfl) pa_nil))))))))
theorem der_are_integers {S_is_listed : Sp} {S_is_integer : Sp} {f : Addr} {cdv : Value} {A : Around} {outer : List Env} {s : Shared} {H : Hp} {E : XK} (G_is_listed : Go P w K mg base 1 "is_listed" S_is_listed []) (G_is_integer : Go P w K mg base 1 "is_integer" S_is_integer []) (hr : Room 1 (A.deeper (envOfC "are_integers" (defScope s_are_integers) s.heap.objs.size f cdv))) :
    PSs (cxOf CX0 P w K mg base ["value", "many", "part"] "are_integers" (defScope s_are_integers) f cdv A outer s H E).nox (defBody s_are_integers) (r_are_integers K S_is_listed S_is_integer) := by
  have hu : (A.deeper (envOfC "are_integers" (defScope s_are_integers) s.heap.objs.size f cdv)).units + 64 < cLine := by have := hr.un; omega
  exact (pss_one (ps_ret (pe_and (pe_go G_is_listed hr (pa_cons (pv 0) pa_nil)) (pe_and (pe_cmpR (op_eqU hu) (pe_callB call_lenU (by rfl) T.b_len (by rfl) (pa_cons (pv 0) pa_nil)) (pv 1) (nomark _)) (pe_one (pe_callB (cr_all rfl) (by rfl) T.b_all (by rfl) (pa_cons (pe_lc (own := [("part", 2)]) (by rfl) sc_are_integers.nd (pi_seq (pv 0)) (blkOk_by (N := ["value", "many", "part"]) (sc := defScope s_are_integers) (by decide +kernel)) (fun _ _ _ _ _ => (pg_name (i := 2) sc_are_integers.nd rfl (by first | exact Or.inl rfl | exact Or.inr rfl))) (fun _ _ _ _ _ => pts_nil) (fun _ _ _ _ _ => (pe_go G_is_integer hr (pa_cons (pv 2) pa_nil)))) pa_nil)))))))
theorem der_is_possible  {f : Addr} {cdv : Value} {A : Around} {outer : List Env} {s : Shared} {H : Hp} {E : XK}  (hr : Room 0 (A.deeper (envOfC "is_possible" (defScope s_is_possible) s.heap.objs.size f cdv))) :
    PSs (cxOf CX0 P w K mg base ["entry", "many", "low", "high", "total"] "is_possible" (defScope s_is_possible) f cdv A outer s H E).nox (defBody s_is_possible) (r_is_possible K ) := by
  have hu : (A.deeper (envOfC "is_possible" (defScope s_is_possible) s.heap.objs.size f cdv)).units + 64 < cLine := by have := hr.un; omega
  exact (pss_cons (ps_asg (pe_tup (pa_cons (pe_fld (pv 0) rfl) (pa_cons (pe_fld (pv 0) rfl) (pa_cons (pe_fld (pv 0) rfl) (pa_cons (pe_fld (pv 0) rfl) pa_nil))))) (pg_tup rfl (pgs_cons (pg_name (i := 1) sc_is_possible.nd rfl (by first | exact Or.inl rfl | exact Or.inr rfl)) (pgs_cons (pg_name (i := 2) sc_is_possible.nd rfl (by first | exact Or.inl rfl | exact Or.inr rfl)) (pgs_cons (pg_name (i := 3) sc_is_possible.nd rfl (by first | exact Or.inl rfl | exact Or.inr rfl)) (pgs_cons (pg_name (i := 4) sc_is_possible.nd rfl (by first | exact Or.inl rfl | exact Or.inr rfl)) pgs_nil)))))) (pss_cons (ps_if (PW.pt (pw_or (pt_cmpR op_lt (pe_fld (pv 0) rfl) pe_int (nomark _)) (pw_or (pt_not (pt_chain op_le op_le pe_int (pv 1) (pe_globI (by rfl) T.k_POINTS))) (pw_or1 (pt_not (pt_chain3 op_le op_le op_lt pe_int (pe_fld (pv 0) rfl) (pe_fld (pv 0) rfl) (pe_globI (by rfl) T.k_MOMENTS))))))) (pss_one (ps_ret pe_bl)) pss_nil) (pss_cons (ps_if (pt_not (pt_chain3 op_le op_le op_le (pe_un un_neg (pe_globI (by rfl) T.k_VALUES)) (pv 2) (pv 3) (pe_globI (by rfl) T.k_VALUES))) (pss_one (ps_ret pe_bl)) pss_nil) (pss_cons (ps_if (pt_cmpR (op_eqU hu) (pv 1) pe_int (nomark _)) (pss_one (ps_ret (pe_and (pe_cmpR (op_eqU hu) (pe_fld (pv 0) rfl) (pe_fld (pv 0) rfl) (nomark _)) (pe_one (pe_chain (op_eqU hu) (op_eqU hu) (pv 2) (pv 3) (pv 4)))))) pss_nil) (pss_cons (ps_if (pt_cmpR op_lt (pe_op op_sub (pe_fld (pv 0) rfl) (pe_fld (pv 0) rfl)) (pe_op op_sub (pv 1) pe_int) (nomark _)) (pss_one (ps_ret pe_bl)) pss_nil) (pss_one (ps_ret (pe_chain op_le op_le (pe_op op_addU (pe_op op_mulU (pe_op op_sub (pv 1) pe_int) (pv 2)) (pv 3)) (pv 4) (pe_op op_addU (pv 2) (pe_op op_mulU (pe_op op_sub (pv 1) pe_int) (pv 3)))))))))))
theorem der_need_entry {S_are_integers : Sp} {S_is_possible : Sp} {f : Addr} {cdv : Value} {A : Around} {outer : List Env} {s : Shared} {H : Hp} {E : XK} (G_are_integers : Go P w K mg base 2 "are_integers" S_are_integers []) (G_is_possible : Go P w K mg base 1 "is_possible" S_is_possible []) (hr : Room 2 (A.deeper (envOfC "need_entry" (defScope s_need_entry) s.heap.objs.size f cdv))) :
    PSs (cxOf CX0 P w K mg base ["value", "part"] "need_entry" (defScope s_need_entry) f cdv A outer s H E).nox (defBody s_need_entry) (r_need_entry K C_Entry S_are_integers S_is_possible) := by
  exact (pss_one (ps_if (PW.pt (pw_or (pt_not (pt_val (pe_callB call_isiU (by rfl) T.b_isinstance (by rfl) (pa_cons (pv 0) (pa_cons (pe_glob (by rfl) T.c_Entry rfl) pa_nil))))) (pw_or (pt_not (pt_val (pe_go G_are_integers hr (pa_cons (pe_fld (pv 0) rfl) (pa_cons (pe_globI (by rfl) T.k_FIELDS) pa_nil))))) (pw_or1 (pt_not (pt_val (pe_go G_is_possible hr (pa_cons (pv 0) pa_nil)))))))) pss_never pss_nil))
theorem der_need_question  {f : Addr} {cdv : Value} {A : Around} {outer : List Env} {s : Shared} {H : Hp} {E : XK}  (hr : Room 0 (A.deeper (envOfC "need_question" (defScope s_need_question) s.heap.objs.size f cdv))) :
    PSs (cxOf CX0 P w K mg base ["value"] "need_question" (defScope s_need_question) f cdv A outer s H E).nox (defBody s_need_question) (r_need_question K C_Question) := by
  exact (pss_one (ps_if (pt_not (pt_val (pe_callB call_isiU (by rfl) T.b_isinstance (by rfl) (pa_cons (pv 0) (pa_cons (pe_glob (by rfl) T.c_Question rfl) pa_nil))))) pss_never pss_nil))
theorem der_asked_between  {f : Addr} {cdv : Value} {A : Around} {outer : List Env} {s : Shared} {H : Hp} {E : XK}  (hr : Room 0 (A.deeper (envOfC "asked_between" (defScope s_asked_between) s.heap.objs.size f cdv))) :
    PSs (cxOf CX0 P w K mg base ["question", "start", "stop", "low", "high", "moment"] "asked_between" (defScope s_asked_between) f cdv A outer s H E).nox (defBody s_asked_between) (r_asked_between K ) := by
  exact (pss_cons (ps_asg (pe_tup (pa_cons (pe_callB (call_maxU rfl) (by rfl) T.b_max (by rfl) (pa_cons (pe_fld (pv 0) rfl) (pa_cons (pv 1) pa_nil))) (pa_cons (pe_callB (call_minU rfl) (by rfl) T.b_min (by rfl) (pa_cons (pe_fld (pv 0) rfl) (pa_cons (pv 2) pa_nil))) pa_nil))) (pg_tup rfl (pgs_cons (pg_name (i := 3) sc_asked_between.nd rfl (by first | exact Or.inl rfl | exact Or.inr rfl)) (pgs_cons (pg_name (i := 4) sc_asked_between.nd rfl (by first | exact Or.inl rfl | exact Or.inr rfl)) pgs_nil)))) (pss_cons (ps_if (pt_cmpR op_isU (pe_fld (pv 0) rfl) pe_non (nomark _)) (pss_one (ps_ret (pe_callB (call_maxU rfl) (by rfl) T.b_max (by rfl) (pa_cons pe_int (pa_cons (pe_op op_sub (pv 4) (pv 3)) pa_nil))))) pss_nil) (pss_one (ps_ret (pe_callB call_lenU (by rfl) T.b_len (by rfl) (pa_cons (pe_lc (own := [("moment", 5)]) (by rfl) sc_asked_between.nd (pi_seq (pe_fld (pv 0) rfl)) (blkOk_by (N := ["question", "start", "stop", "low", "high", "moment"]) (sc := defScope s_asked_between) (by decide +kernel)) (fun _ _ _ _ _ => (pg_name (i := 5) sc_asked_between.nd rfl (by first | exact Or.inl rfl | exact Or.inr rfl))) (fun _ _ _ _ _ => (pts_one (pt_chain op_le op_lt (pv 3) (pv 5) (pv 4)))) (fun _ _ _ _ _ => (pv 5))) pa_nil))))))
theorem der_points_asked {S_asked_between : Sp} {f : Addr} {cdv : Value} {A : Around} {outer : List Env} {s : Shared} {H : Hp} {E : XK} (G_asked_between : Go P w K mg base 1 "asked_between" S_asked_between []) (hr : Room 1 (A.deeper (envOfC "points_asked" (defScope s_points_asked) s.heap.objs.size f cdv))) :
    PSs (cxOf CX0 P w K mg base ["entry", "question", "ends", "inner", "asked", "others"] "points_asked" (defScope s_points_asked) f cdv A outer s H E).nox (defBody s_points_asked) (r_points_asked K S_asked_between) := by
  have hu : (A.deeper (envOfC "points_asked" (defScope s_points_asked) s.heap.objs.size f cdv)).units + 64 < cLine := by have := hr.un; omega
  exact (pss_cons (ps_set (i := 2) sc_points_asked.nd rfl (by first | exact Or.inl rfl | exact Or.inr rfl) (pe_go G_asked_between hr (pa_cons (pv 1) (pa_cons (pe_fld (pv 0) rfl) (pa_cons (pe_op op_addU (pe_fld (pv 0) rfl) pe_int) pa_nil))))) (pss_cons (ps_if (pt_cmpR (op_eqU hu) (pe_fld (pv 0) rfl) pe_int (nomark _)) (pss_one (ps_ret (pe_tup (pa_cons (pv 2) (pa_cons (pv 2) pa_nil))))) pss_nil) (pss_cons (ps_set (i := 2) sc_points_asked.nd rfl (by first | exact Or.inl rfl | exact Or.inr rfl) (pe_op op_addU (pv 2) (pe_go G_asked_between hr (pa_cons (pv 1) (pa_cons (pe_fld (pv 0) rfl) (pa_cons (pe_op op_addU (pe_fld (pv 0) rfl) pe_int) pa_nil)))))) (pss_cons (ps_par (i := 3) (j := 4) rfl sc_points_asked.nd rfl rfl (by decide) rfl rfl (pa_cons (pe_op op_sub (pe_fld (pv 0) rfl) pe_int) (pa_cons (pe_go G_asked_between hr (pa_cons (pv 1) (pa_cons (pe_op op_addU (pe_fld (pv 0) rfl) pe_int) (pa_cons (pe_fld (pv 0) rfl) pa_nil)))) pa_nil)) (by rfl)) (pss_cons (ps_set (i := 5) sc_points_asked.nd rfl (by first | exact Or.inl rfl | exact Or.inr rfl) (pe_op op_sub (pe_op op_sub (pe_op op_sub (pe_fld (pv 0) rfl) (pe_fld (pv 0) rfl)) pe_int) (pv 4))) (pss_one (ps_ret (pe_tup (pa_cons (pe_op op_addU (pv 2) (pe_callB (call_maxU rfl) (by rfl) T.b_max (by rfl) (pa_cons pe_int (pa_cons (pe_op op_sub (pv 3) (pv 5)) pa_nil)))) (pa_cons (pe_op op_addU (pv 2) (pe_callB (call_minU rfl) (by rfl) T.b_min (by rfl) (pa_cons (pv 3) (pa_cons (pv 4) pa_nil)))) pa_nil))))))))))
theorem der_points_in {S_need_entry : Sp} {V1_need_entry : List V} {S_need_question : Sp} {S_points_asked : Sp} {f : Addr} {cdv : Value} {A : Around} {outer : List Env} {s : Shared} {H : Hp} {E : XK} (G1_need_entry : Go P w K mg base 3 "need_entry" S_need_entry V1_need_entry) (G_need_question : Go P w K mg base 1 "need_question" S_need_question []) (G_points_asked : Go P w K mg base 2 "points_asked" S_points_asked []) (hr : Room 3 (A.deeper (envOfC "points_in" (defScope s_points_in) s.heap.objs.size f cdv))) :
    PSs (cxOf CX0 P w K mg base ["entry", "question"] "points_in" (defScope s_points_in) f cdv A outer s H E).nox (defBody s_points_in) (r_points_in K S_need_entry V1_need_entry S_need_question S_points_asked) := by
  exact (pss_cons (ps_expr (pe_go G1_need_entry hr (pa_cons (pv 0) pa_nil))) (pss_cons (ps_expr (pe_go G_need_question hr (pa_cons (pv 1) pa_nil))) (pss_one (ps_ret (pe_go G_points_asked hr (pa_cons (pv 0) (pa_cons (pv 1) pa_nil)))))))
theorem der_is_within {S_is_integer : Sp} {f : Addr} {cdv : Value} {A : Around} {outer : List Env} {s : Shared} {H : Hp} {E : XK} (G_is_integer : Go P w K mg base 1 "is_integer" S_is_integer []) (hr : Room 1 (A.deeper (envOfC "is_within" (defScope s_is_within) s.heap.objs.size f cdv))) :
    PSs (cxOf CX0 P w K mg base ["value", "least", "most"] "is_within" (defScope s_is_within) f cdv A outer s H E).nox (defBody s_is_within) (r_is_within K S_is_integer) := by
  exact (pss_one (ps_ret (pe_and (pe_go G_is_integer hr (pa_cons (pv 0) pa_nil)) (pe_and (pe_or (pe_cmpR op_isU (pv 1) pe_non (nomark _)) (pe_one (pe_cmpR op_ge (pv 0) (pv 1) (nomark _)))) (pe_one (pe_or (pe_cmpR op_isU (pv 2) pe_non (nomark _)) (pe_one (pe_cmpR op_le (pv 0) (pv 2) (nomark _)))))))))
theorem der_is_numbered {S_is_within : Sp} {f : Addr} {cdv : Value} {A : Around} {outer : List Env} {s : Shared} {H : Hp} {E : XK} (G_is_within : Go P w K mg base 2 "is_within" S_is_within []) (hr : Room 2 (A.deeper (envOfC "is_numbered" (defScope s_is_numbered) s.heap.objs.size f cdv))) :
    PSs (cxOf CX0 P w K mg base ["kind", "value"] "is_numbered" (defScope s_is_numbered) f cdv A outer s H E).nox (defBody s_is_numbered) (r_is_numbered K S_is_within) := by
  have hu : (A.deeper (envOfC "is_numbered" (defScope s_is_numbered) s.heap.objs.size f cdv)).units + 64 < cLine := by have := hr.un; omega
  exact (pss_cons (ps_if (pt_cmpR (op_eqU hu) (pv 0) pe_str (nomark _)) (pss_one (ps_ret (pe_go G_is_within hr (pa_cons (pv 1) (pa_cons (pe_op op_sub pe_int (pe_globI (by rfl) T.k_MOST_NUMBER)) (pa_cons (pe_globI (by rfl) T.k_MOST_NUMBER) pa_nil)))))) pss_nil) (pss_one (ps_ret (pe_ifExp (pt_cmpR (op_eqU hu) (pv 0) pe_str (nomark _)) (pe_go G_is_within hr (pa_cons (pv 1) (pa_cons pe_int (pa_cons (pe_globI (by rfl) T.k_MOST_NUMBER) pa_nil)))) (pe_cmpR op_isU (pv 1) pe_non (nomark _))))))
theorem der_are_moments {S_is_listed : Sp} {S_is_within : Sp} {f : Addr} {cdv : Value} {A : Around} {outer : List Env} {s : Shared} {H : Hp} {E : XK} (G_is_listed : Go P w K mg base 1 "is_listed" S_is_listed []) (G_is_within : Go P w K mg base 2 "is_within" S_is_within []) (hr : Room 2 (A.deeper (envOfC "are_moments" (defScope s_are_moments) s.heap.objs.size f cdv))) :
    PSs (cxOf CX0 P w K mg base ["value", "one", "other"] "are_moments" (defScope s_are_moments) f cdv A outer s H E).nox (defBody s_are_moments) (r_are_moments K S_is_listed S_is_within) := by
  exact (pss_cons (ps_if (PW.pt (pw_or (pt_not (pt_val (pe_go G_is_listed hr (pa_cons (pv 0) pa_nil)))) (pw_or (pt_cmpR op_gt (pe_callB call_lenU (by rfl) T.b_len (by rfl) (pa_cons (pv 0) pa_nil)) (pe_globI (by rfl) T.k_MOST_LISTED) (nomark _)) (pw_or1 (pt_not (pt_val (pe_callB (cr_all rfl) (by rfl) T.b_all (by rfl) (pa_cons (pe_lc (own := [("one", 1)]) (by rfl) sc_are_moments.nd (pi_seq (pv 0)) (blkOk_by (N := ["value", "one", "other"]) (sc := defScope s_are_moments) (by decide +kernel)) (fun _ _ _ _ _ => (pg_name (i := 1) sc_are_moments.nd rfl (by first | exact Or.inl rfl | exact Or.inr rfl))) (fun _ _ _ _ _ => pts_nil) (fun _ _ _ _ _ => (pe_go G_is_within hr (pa_cons (pv 1) (pa_cons pe_int (pa_cons (pe_globI (by rfl) T.k_MOST_MOMENT) pa_nil)))))) pa_nil)))))))) (pss_one (ps_ret pe_bl)) pss_nil) (pss_one (ps_ret (pe_callB (cr_all rfl) (by rfl) T.b_all (by rfl) (pa_cons (pe_lc (own := [("one", 1), ("other", 2)]) (by rfl) sc_are_moments.nd (pi_zip (by rfl) T.b_zip (pa_cons (pv 0) (pa_cons (pe_slice sl_U (pv 0) (po_some pe_int) po_none) pa_nil))) (blkOk_by (N := ["value", "one", "other"]) (sc := defScope s_are_moments) (by decide +kernel)) (fun _ _ _ _ _ => (pg_tup rfl (pgs_cons (pg_name (i := 1) sc_are_moments.nd rfl (by first | exact Or.inl rfl | exact Or.inr rfl)) (pgs_cons (pg_name (i := 2) sc_are_moments.nd rfl (by first | exact Or.inl rfl | exact Or.inr rfl)) pgs_nil)))) (fun _ _ _ _ _ => pts_nil) (fun _ _ _ _ _ => (pe_cmpR op_lt (pv 1) (pv 2) (nomark _)))) pa_nil)))))
theorem der_Question_init {S_is_numbered : Sp} {S_is_within : Sp} {S_are_moments : Sp} {f : Addr} {cdv : Value} {A : Around} {outer : List Env} {s : Shared} {H : Hp} {E : XK} (G_is_numbered : Go P w K mg base 3 "is_numbered" S_is_numbered []) (G_is_within : Go P w K mg base 2 "is_within" S_is_within []) (G_are_moments : Go P w K mg base 3 "are_moments" S_are_moments []) (hr : Room 3 (A.deeper (envOfC "Question.__init__" (defScope s_Question_init) s.heap.objs.size f cdv))) :
    PSs (cxOf CX0 P w K mg base ["self", "kind", "number", "start", "stop", "among"] "Question.__init__" (defScope s_Question_init) f cdv A outer s H E).nox (defBody s_Question_init) (r_Question_init K S_is_numbered S_is_within S_are_moments) := by
  exact (pss_cons (ps_if (PW.pt (pw_or (pt_not (pt_val (pe_callB call_isiU (by rfl) T.b_isinstance (by rfl) (pa_cons (pv 1) (pa_cons (pe_bltn (by rfl) T.b_str (by rfl) rfl) pa_nil))))) (pw_or1 (pt_cmpR op_notInU (pv 1) (pe_globT (by rfl) T.k_ASKED) (by with_unfolding_all rfl))))) pss_never pss_nil) (pss_cons (ps_if (pt_not (pt_val (pe_go G_is_numbered hr (pa_cons (pv 1) (pa_cons (pv 2) pa_nil))))) pss_never pss_nil) (pss_cons (ps_if (PW.pt (pw_or (pt_not (pt_val (pe_go G_is_within hr (pa_cons (pv 3) (pa_cons pe_int (pa_cons (pe_op op_addU (pe_globI (by rfl) T.k_MOST_MOMENT) pe_int) pa_nil)))))) (pw_or1 (pt_not (pt_val (pe_go G_is_within hr (pa_cons (pv 4) (pa_cons (pv 3) (pa_cons (pe_op op_addU (pe_globI (by rfl) T.k_MOST_MOMENT) pe_int) pa_nil))))))))) pss_never pss_nil) (pss_cons (ps_if (PW.pt (pw_and (pt_cmpR op_isNU (pv 5) pe_non (nomark _)) (pw_and1 (pt_not (pt_val (pe_go G_are_moments hr (pa_cons (pv 5) pa_nil))))))) pss_never pss_nil) (pss_cons (ps_fld (pv 0) (pv 1) rfl) (pss_cons (ps_fld (pv 0) (pv 2) rfl) (pss_cons (ps_fld (pv 0) (pv 3) rfl) (pss_cons (ps_fld (pv 0) (pv 4) rfl) (pss_one (ps_fld (pv 0) (pe_ifExp (pt_cmpR op_isNU (pv 5) pe_non (nomark _)) (pe_callTy call_tupU (by rfl) T.b_tuple (by rfl) (pa_cons (pv 5) pa_nil)) pe_non) rfl))))))))))
theorem der__law_made {S_Question : Sp} {f : Addr} {cdv : Value} {A : Around} {outer : List Env} {s : Shared} {H : Hp} {E : XK} (M_Question : Mkc P w K mg base 4 "Question" C_Question S_Question []) (hr : Room 5 (A.deeper (envOfC "_law_made" (defScope s__law_made) s.heap.objs.size f cdv))) :
    PSs (cxOf CX0 P w K mg base ["question"] "_law_made" (defScope s__law_made) f cdv A outer s H E).nox (defBody s__law_made) (r__law_made K C_Question S_Question) := by
  exact (pss_one (ps_ret (pe_mk M_Question hr (pa_cons (pe_ix ix_seq (pv 0) pe_int (fun _ _ => rfl)) (pa_cons (pe_ix ix_seq (pv 0) pe_int (fun _ _ => rfl)) (pa_cons (pe_ix ix_seq (pv 0) pe_int (fun _ _ => rfl)) (pa_cons (pe_ix ix_seq (pv 0) pe_int (fun _ _ => rfl)) (pa_cons (pe_ix ix_seq (pv 0) pe_int (fun _ _ => rfl)) pa_nil))))))))
theorem der__law_span {S__law_asked : Sp} {f : Addr} {cdv : Value} {A : Around} {outer : List Env} {s : Shared} {H : Hp} {E : XK} (G__law_asked : Go P w K mg base 1 "_law_asked" S__law_asked []) (hr : Room 1 (A.deeper (envOfC "_law_span" (defScope s__law_span) s.heap.objs.size f cdv))) :
    PSs (cxOf CX0 P w K mg base ["hole", "question", "many", "first", "last", "inner", "ends", "moment"] "_law_span" (defScope s__law_span) f cdv A outer s H E).nox (defBody s__law_span) (r__law_span K S__law_asked) := by
  have hu : (A.deeper (envOfC "_law_span" (defScope s__law_span) s.heap.objs.size f cdv)).units + 64 < cLine := by have := hr.un; omega
  exact (pss_cons (ps_asg (pe_slice sl_U (pv 0) po_none (po_some pe_int)) (pg_tup rfl (pgs_cons (pg_name (i := 2) sc__law_span.nd rfl (by first | exact Or.inl rfl | exact Or.inr rfl)) (pgs_cons (pg_name (i := 3) sc__law_span.nd rfl (by first | exact Or.inl rfl | exact Or.inr rfl)) (pgs_cons (pg_name (i := 4) sc__law_span.nd rfl (by first | exact Or.inl rfl | exact Or.inr rfl)) pgs_nil))))) (pss_cons (ps_if (pt_cmpR op_isU (pe_ix ix_seq (pv 1) pe_int (fun _ _ => rfl)) pe_non (nomark _)) (pss_one (ps_set (i := 5) sc__law_span.nd rfl (by first | exact Or.inl rfl | exact Or.inr rfl) (pe_callB (call_maxU rfl) (by rfl) T.b_max (by rfl) (pa_cons pe_int (pa_cons (pe_op op_sub (pe_callB (call_minU rfl) (by rfl) T.b_min (by rfl) (pa_cons (pv 4) (pa_cons (pe_ix ix_seq (pv 1) pe_int (fun _ _ => rfl)) pa_nil))) (pe_callB (call_maxU rfl) (by rfl) T.b_max (by rfl) (pa_cons (pe_op op_addU (pv 3) pe_int) (pa_cons (pe_ix ix_seq (pv 1) pe_int (fun _ _ => rfl)) pa_nil)))) pa_nil))))) (pss_one (ps_set (i := 5) sc__law_span.nd rfl (by first | exact Or.inl rfl | exact Or.inr rfl) (pe_callB call_lenU (by rfl) T.b_len (by rfl) (pa_cons (pe_lc (own := [("moment", 7)]) (by rfl) sc__law_span.nd (pi_seq (pe_ix ix_seq (pv 1) pe_int (fun _ _ => rfl))) (blkOk_by (N := ["hole", "question", "many", "first", "last", "inner", "ends", "moment"]) (sc := defScope s__law_span) (by decide +kernel)) (fun _ _ _ _ _ => (pg_name (i := 7) sc__law_span.nd rfl (by first | exact Or.inl rfl | exact Or.inr rfl))) (fun _ _ _ _ _ => (pts_one (PW.pt (pw_and (pt_chain op_lt op_lt (pv 3) (pv 7) (pv 4)) (pw_and1 (pt_val (pe_go G__law_asked hr (pa_cons (pv 1) (pa_cons (pv 7) pa_nil))))))))) (fun _ _ _ _ _ => (pv 7))) pa_nil))))) (pss_cons (ps_set (i := 6) sc__law_span.nd rfl (by first | exact Or.inl rfl | exact Or.inr rfl) (pe_op op_addU (pe_callTy call_intU (by rfl) T.b_int (by rfl) (pa_cons (pe_go G__law_asked hr (pa_cons (pv 1) (pa_cons (pv 3) pa_nil))) pa_nil)) (pe_callTy call_intU (by rfl) T.b_int (by rfl) (pa_cons (pe_and (pe_cmpR op_gt (pv 2) pe_int (nomark _)) (pe_one (pe_go G__law_asked hr (pa_cons (pv 1) (pa_cons (pv 4) pa_nil))))) pa_nil)))) (pss_cons (ps_if (pt_cmpR (op_eqU hu) (pv 2) pe_int (nomark _)) (pss_one (ps_ret (pe_tup (pa_cons (pv 6) (pa_cons (pv 6) pa_nil))))) pss_nil) (pss_one (ps_ret (pe_tup (pa_cons (pe_op op_addU (pv 6) (pe_callB (call_maxU rfl) (by rfl) T.b_max (by rfl) (pa_cons pe_int (pa_cons (pe_op op_sub (pe_op op_sub (pv 2) pe_int) (pe_op op_sub (pe_op op_sub (pe_op op_sub (pv 4) (pv 3)) pe_int) (pv 5))) pa_nil)))) (pa_cons (pe_op op_addU (pv 6) (pe_callB (call_minU rfl) (by rfl) T.b_min (by rfl) (pa_cons (pe_op op_sub (pv 2) pe_int) (pa_cons (pv 5) pa_nil)))) pa_nil)))))))))
theorem der_law {S__law_pen : Sp} {S__law_hole : Sp} {S__law_draw : Sp} {S__law_question : Sp} {S__law_tried : Sp} {S_Entry : Sp} {S_points_in : Sp} {S__law_made : Sp} {W_points_in : List V → List V → List V} {S__law_span : Sp} {S__law_pick : Sp} {S_Question : Sp} {V1_Question : List V} {f : Addr} {cdv : Value} {A : Around} {outer : List Env} {s : Shared} {H : Hp} {E : XK} (G__law_pen : Go P w K mg base 1 "_law_pen" S__law_pen []) (G__law_hole : Go P w K mg base 2 "_law_hole" S__law_hole []) (G__law_draw : Go P w K mg base 1 "_law_draw" S__law_draw []) (G__law_question : Go P w K mg base 3 "_law_question" S__law_question []) (G__law_tried : Go P w K mg base 2 "_law_tried" S__law_tried []) (G_points_in : Go P w K mg base 4 "points_in" S_points_in []) (G__law_made : Go P w K mg base 6 "_law_made" S__law_made []) (K_points_in : Gok P w K mg base 4 "points_in" ["question", "entry"] S_points_in W_points_in) (G__law_span : Go P w K mg base 2 "_law_span" S__law_span []) (G__law_pick : Go P w K mg base 2 "_law_pick" S__law_pick []) (M1_Question : Mkc P w K mg base 4 "Question" C_Question S_Question V1_Question) (M_Entry : Mkc P w K mg base 4 "Entry" C_Entry S_Entry []) (hr : Room 6 (A.deeper (envOfC "law" (defScope s_law) s.heap.objs.size f cdv))) (hgd : (A.deeper (envOfC "law" (defScope s_law) s.heap.objs.size f cdv)).guards = some []) :
    PSs (cxOf CX0 P w K mg base ["script", "pen", "turn", "hole", "question", "due", "entry", "many", "first", "last", "start", "among", "lap"] "law" (defScope s_law) f cdv A outer s H E).nox (defBody s_law) (r_law K S__law_pen S__law_hole S__law_draw S__law_question S__law_tried C_Entry S_Entry S_points_in S__law_made W_points_in S__law_span S__law_pick C_Question S_Question V1_Question) := by
  have hu : (A.deeper (envOfC "law" (defScope s_law) s.heap.objs.size f cdv)).units + 64 < cLine := by have := hr.un; omega
  exact (pss_cons (ps_set (i := 1) sc_law.nd rfl (by first | exact Or.inl rfl | exact Or.inr rfl) (pe_go G__law_pen hr (pa_cons (pv 0) pa_nil))) (pss_cons (ps_for PassesOwn.never rfl (pi_range1 (by rfl) T.b_range (pa_cons pe_int pa_nil)) (pg_name (i := 2) sc_law.nd rfl (by first | exact Or.inl rfl | exact Or.inr rfl)) (pss_cons (ps_set (i := 3) sc_law.nd rfl (by first | exact Or.inl rfl | exact Or.inr rfl) (pe_go G__law_hole hr (pa_cons (pv 1) (pa_cons (pe_go G__law_draw hr (pa_cons (pv 1) (pa_cons pe_int pa_nil))) (pa_cons (pe_op op_addU pe_int (pe_go G__law_draw hr (pa_cons (pv 1) (pa_cons pe_int pa_nil)))) (pa_cons pe_int pa_nil)))))) (pss_cons (ps_set (i := 4) sc_law.nd rfl (by first | exact Or.inl rfl | exact Or.inr rfl) (pe_go G__law_question hr (pa_cons (pv 1) (pa_cons (pe_lst (pa_cons (pv 3) pa_nil)) (pa_cons pe_int pa_nil))))) (pss_cons (ps_par (i := 5) (j := 6) rfl sc_law.nd rfl rfl (by decide) rfl rfl (pa_cons (pe_go G__law_tried hr (pa_cons (pv 3) (pa_cons (pv 4) pa_nil))) (pa_cons (pe_mk M_Entry hr (pa_cons (pe_go G__law_draw hr (pa_cons (pv 1) (pa_cons pe_int pa_nil))) (pa_cons (pe_ix ix_seq (pv 3) pe_int (fun _ _ => rfl)) (pa_cons (pe_ix ix_seq (pv 3) pe_int (fun _ _ => rfl)) (pa_cons (pe_ix ix_seq (pv 3) pe_int (fun _ _ => rfl)) (pa_cons (pe_ix ix_seq (pv 3) pe_int (fun _ _ => rfl)) (pa_cons (pe_ix ix_seq (pv 3) pe_int (fun _ _ => rfl)) (pa_cons (pe_ix ix_seq (pv 3) pe_int (fun _ _ => rfl)) pa_nil)))))))) pa_nil)) (by rfl)) (pss_one (ps_if (PW.pt (pw_or (pt_cmpR (op_neU hu) (pe_callB (call_reprU hgd hu) (by rfl) T.b_repr (by rfl) (pa_cons (pe_lst (pa_cons (pe_go G_points_in hr (pa_cons (pv 6) (pa_cons (pe_go G__law_made hr (pa_cons (pv 4) pa_nil)) pa_nil))) (pa_cons (pe_gok K_points_in hr (pk_cons (pe_go G__law_made hr (pa_cons (pv 4) pa_nil)) (pk_cons (pv 6) pk_nil))) pa_nil))) pa_nil)) (pe_callB (call_reprU hgd hu) (by rfl) T.b_repr (by rfl) (pa_cons (pe_lst (pa_cons (pv 5) (pa_cons (pv 5) pa_nil))) pa_nil)) (nomark _)) (pw_or1 (pt_cmpR (op_neU hu) (pe_go G__law_span hr (pa_cons (pv 3) (pa_cons (pv 4) pa_nil))) (pv 5) (nomark _))))) (pss_one (ps_ret pe_bl)) pss_nil)))))) (pss_cons (ps_for PassesOwn.never rfl (pi_range1 (by rfl) T.b_range (pa_cons pe_int pa_nil)) (pg_name (i := 2) sc_law.nd rfl (by first | exact Or.inl rfl | exact Or.inr rfl)) (pss_cons (ps_par (i := 7) (j := 8) rfl sc_law.nd rfl rfl (by decide) rfl rfl (pa_cons (pe_op op_sub (pe_op op_pow pe_int pe_int) (pe_go G__law_draw hr (pa_cons (pv 1) (pa_cons (pe_op op_pow pe_int pe_int) pa_nil)))) (pa_cons (pe_go G__law_draw hr (pa_cons (pv 1) (pa_cons (pe_op op_pow pe_int pe_int) pa_nil))) pa_nil)) (by rfl)) (pss_cons (ps_set (i := 9) sc_law.nd rfl (by first | exact Or.inl rfl | exact Or.inr rfl) (pe_op op_addU (pe_op op_sub (pe_op op_addU (pv 8) (pv 7)) pe_int) (pe_go G__law_pick hr (pa_cons (pv 1) (pa_cons (pe_lst (pa_cons pe_int (pa_cons pe_int (pa_cons (pe_go G__law_draw hr (pa_cons (pv 1) (pa_cons (pe_op op_pow pe_int pe_int) pa_nil))) (pa_cons (pe_go G__law_draw hr (pa_cons (pv 1) (pa_cons (pe_op op_pow pe_int pe_int) pa_nil))) pa_nil))))) pa_nil))))) (pss_cons (ps_set (i := 10) sc_law.nd rfl (by first | exact Or.inl rfl | exact Or.inr rfl) (pe_go G__law_draw hr (pa_cons (pv 1) (pa_cons (pe_op op_addU (pv 9) pe_int) pa_nil)))) (pss_cons (ps_set (i := 11) sc_law.nd rfl (by first | exact Or.inl rfl | exact Or.inr rfl) (pe_ifExp (pt_cmpR (op_eqU hu) (pe_go G__law_draw hr (pa_cons (pv 1) (pa_cons pe_int pa_nil))) pe_int (nomark _)) (pe_callB cr_sortedI (by rfl) T.b_sorted (by rfl) (pa_cons (pe_callTy (call_listU rfl) (by rfl) T.b_list (by rfl) (pa_cons (pe_callTy (call_dictU rfl) (by rfl) T.b_dict (by rfl) (pa_cons (pe_lc (own := [("lap", 12)]) (by rfl) sc_law.nd (pi_range1 (by rfl) T.b_range (pa_cons pe_int pa_nil)) (blkOk_by (N := ["script", "pen", "turn", "hole", "question", "due", "entry", "many", "first", "last", "start", "among", "lap"]) (sc := defScope s_law) (by decide +kernel)) (fun _ _ _ _ _ => (pg_name (i := 12) sc_law.nd rfl (by first | exact Or.inl rfl | exact Or.inr rfl))) (fun _ _ _ _ _ => pts_nil) (fun _ _ _ _ _ => (pe_tup (pa_cons (pe_go G__law_draw hr (pa_cons (pv 1) (pa_cons (pe_op op_addU (pv 9) pe_int) pa_nil))) (pa_cons pe_bl pa_nil))))) pa_nil)) pa_nil)) pa_nil)) pe_non)) (pss_cons (ps_set (i := 4) sc_law.nd rfl (by first | exact Or.inl rfl | exact Or.inr rfl) (pe_tup (pa_cons pe_str (pa_cons pe_non (pa_cons (pv 10) (pa_cons (pe_op op_addU (pv 10) (pe_go G__law_draw hr (pa_cons (pv 1) (pa_cons (pe_op op_sub (pe_op op_addU (pv 9) pe_int) (pe_callB (call_minU rfl) (by rfl) T.b_min (by rfl) (pa_cons (pv 10) (pa_cons (pv 9) pa_nil)))) pa_nil)))) (pa_cons (pv 11) pa_nil))))))) (pss_cons (ps_set (i := 3) sc_law.nd rfl (by first | exact Or.inl rfl | exact Or.inr rfl) (pe_tup (pa_cons (pv 7) (pa_cons (pv 8) (pa_cons (pv 9) (pa_cons pe_int (pa_cons (pe_un un_neg pe_int) (pa_cons pe_int pa_nil)))))))) (pss_cons (ps_if (pt_cmpR (op_neU hu) (pe_go G_points_in hr (pa_cons (pe_mk M_Entry hr (pa_cons pe_int (pa_cons (pv 7) (pa_cons (pv 8) (pa_cons (pv 9) (pa_cons pe_int (pa_cons (pe_un un_neg pe_int) (pa_cons pe_int pa_nil)))))))) (pa_cons (pe_go G__law_made hr (pa_cons (pv 4) pa_nil)) pa_nil))) (pe_go G__law_span hr (pa_cons (pv 3) (pa_cons (pv 4) pa_nil))) (nomark _)) (pss_one (ps_ret pe_bl)) pss_nil) (pss_cons (ps_set (i := 6) sc_law.nd rfl (by first | exact Or.inl rfl | exact Or.inr rfl) (pe_mk M_Entry hr (pa_cons pe_int (pa_cons (pv 7) (pa_cons (pv 8) (pa_cons (pv 9) (pa_cons pe_int (pa_cons (pe_un un_neg pe_int) (pa_cons pe_int pa_nil))))))))) (pss_one (ps_if (PW.pt (pw_or (pt_cmpR (op_neU hu) (pe_go G_points_in hr (pa_cons (pv 6) (pa_cons (pe_mk M1_Question hr (pa_cons pe_str (pa_cons pe_non (pa_cons (pv 8) (pa_cons (pe_op op_addU (pv 9) pe_int) pa_nil))))) pa_nil))) (pe_tup (pa_cons (pv 7) (pa_cons (pv 7) pa_nil))) (nomark _)) (pw_or1 (pt_cmpR (op_neU hu) (pe_go G_points_in hr (pa_cons (pv 6) (pa_cons (pe_mk M1_Question hr (pa_cons pe_str (pa_cons pe_non (pa_cons (pv 8) (pa_cons (pv 8) pa_nil))))) pa_nil))) (pe_tup (pa_cons pe_int (pa_cons pe_int pa_nil))) (nomark _))))) (pss_one (ps_ret pe_bl)) pss_nil))))))))))) (pss_one (ps_ret pe_bl)))))
end
end K51
set_option Elab.async false
set_option maxRecDepth 100000
set_option maxHeartbeats 8000000
set_option linter.all false
set_option autoImplicit false
namespace K51
open PySem PySem.Spec PyProof.Rows L2 DW
def lawSp (K : PySem.W.Frag) : Sp := fun vs H Q _ => ∃ (a : Addr) (ns : List Int), vs = [.ref a] ∧ SqL K H a (ns.map V.int) ∧ ns.length ≤ 63 ∧ ∀ H', Q (.bl true) H'
section
variable {K : PySem.W.Frag} {n : Nat} {CE CQ : Addr} {p : Addr}
abbrev restL (K : PySem.W.Frag) (CE CQ : Addr) : TS := (tSeq (tFor (iRng1 (tCons (tC (.int 10)) tNil)) (gName 2) (turn1 K CE CQ)) (tSeq (tFor (iRng1 (tCons (tC (.int 5)) tNil)) (gName 2) (turn2 K CE CQ)) (tRet (tC (.bl true)))))
theorem w_rest : WpS K (some p) (restL K CE CQ) [none, some (.raw (.ref p)), none, none, none, none, none, none, none, none, none, none, none] 0 { nx := fun _ _ => False, rt := fun d _ => d = .bl true } := by
  unfold restL
  refine s_seq (s_for (i_rng1 (a_cons (e_int (a_nil ⟨10, rfl, by decide, by decide, ?_⟩)))))
  refine ⟨fun j ds' n' => n' ≤ j * 200 ∧ j ≤ 10 ∧ ∃ w0 w2 w3 w4 w5 w6 w7 w8 w9 w10 w11 w12, ds' = [w0, some (.raw (.ref p)), w2, w3, w4, w5, w6, w7, w8, w9, w10, w11, w12], ⟨by omega, by omega, _, _, _, _, _, _, _, _, _, _, _, _, rfl⟩, ?_, ?_⟩
  · rintro j x ds' n' hx ⟨h1, h2, w0, w2, w3, w4, w5, w6, w7, w8, w9, w10, w11, w12, rfl⟩
    obtain ⟨hj, rfl⟩ := rgD_get hx
    have hj' : j < 10 := by simpa using hj
    refine ⟨_, _, g_name rfl, w_turn1 h1 (by omega) fun n2 y0 y3 y4 y5 y6 y7 y8 y9 y10 y11 y12 hn2 => ⟨by omega, by omega, _, _, _, _, _, _, _, _, _, _, _, _, rfl⟩⟩
  · rintro ds' n' ⟨h1, h2, w0, w2, w3, w4, w5, w6, w7, w8, w9, w10, w11, w12, rfl⟩
    have h1' : n' ≤ 2000 := by
      rw [rgD_len] at h1
      simpa using h1
    refine s_seq (s_for (i_rng1 (a_cons (e_int (a_nil ⟨5, rfl, by decide, by decide, ?_⟩)))))
    refine ⟨fun j ds' n' => n' ≤ 2000 + j * 200 ∧ j ≤ 5 ∧ ∃ w0 w2 w3 w4 w5 w6 w7 w8 w9 w10 w11 w12, ds' = [w0, some (.raw (.ref p)), w2, w3, w4, w5, w6, w7, w8, w9, w10, w11, w12], ⟨by omega, by omega, _, _, _, _, _, _, _, _, _, _, _, _, rfl⟩, ?_, ?_⟩
    · rintro j x ds' n' hx ⟨h1, h2, w0, w2, w3, w4, w5, w6, w7, w8, w9, w10, w11, w12, rfl⟩
      obtain ⟨hj, rfl⟩ := rgD_get hx
      have hj' : j < 5 := by simpa using hj
      refine ⟨_, _, g_name rfl, w_turn2 h1 (by omega) fun n2 y0 y3 y4 y5 y6 y7 y8 y9 y10 y11 y12 hn2 => ⟨by omega, by omega, _, _, _, _, _, _, _, _, _, _, _, _, rfl⟩⟩
    · rintro ds' n' ⟨h1, h2, w0, w2, w3, w4, w5, w6, w7, w8, w9, w10, w11, w12, rfl⟩
      exact s_ret (e_bl rfl)
theorem law_reads {a : Addr} {ns : List Int} {H : Hp} {Q : VK} (hS : SqL K H a (ns.map V.int)) (hl : ns.length ≤ 63) (hQ : ∀ H', Q (.bl true) H') :
    r_law K (penSp K) (toSp K holeSp) (toSp K drawSp) (toSp K questSp) (toSp K triedSp) CE (initSp K CE gE) (toSp K (ptsInSp CE CQ)) (toSp K (madeSp CQ)) swap2 (toSp K spanSp) (toSp K pickSp) CQ (initSp K CQ gQ) [V.non]
      { nx := fun _ H' => Q .non H', rt := Q } (start ["script", "pen", "turn", "hole", "question", "due", "entry", "many", "first", "last", "start", "among", "lap"] [.ref a]) H := by
  show (tSeq (tAsg (tCall (penSp K) [] E0 (tCons (tVar 0) tNil)) (gName 1)) (restL K CE CQ)) _ _ _
  refine ⟨.ref a, rfl, a, ns, rfl, hS, hl, fun p c H' hp hc hcp hkeep h1 h2 => ?_⟩
  have hS' : ∀ b, decide (b = p) = true → b = p := fun b h => of_decide_eq_true h
  have hcc : cut (fun b => decide (b = p)) H' c = some (.lst (ns.map V.int)) := by rw [cut_of (decide_eq_false hcp)]; exact h2
  have ok : OkW K (some p) (fun b => decide (b = p)) H' 0 := by
    refine ⟨fun q hq => ?_, fun b hb => ⟨.lst [.ref c, .int 0, .int 0], by have e := hS' b hb; subst e; exact h1⟩⟩
    cases hq
    exact ⟨decide_eq_true rfl, c, 0, 0, ns, h1, hcc, hl, by omega, by omega, by omega⟩
  refine w_rest (CE := CE) (CQ := CQ) (p := p) (fun b => decide (b = p)) H' (fun b => decide (b = p)) ((start ["script", "pen", "turn", "hole", "question", "due", "entry", "many", "first", "last", "start", "among", "lap"] [.ref a]).set 1 (some (.ref p))) H' _ ⟨Pres.refl, ok, fun _ h => h, fun _ h => .inl h, fun q hq => (by cases hq; exact decide_eq_true rfl), ok.2⟩ ⟨rfl, fun i d hi _ => ?_, fun i l hi => ?_, fun i j l m b hij hi => ?_⟩ ⟨fun _ _ _ _ _ z => z.elim, fun v H2 d n2 hd pr ok2 r => ?_, fun _ _ _ _ _ z => z.elim, fun _ _ _ _ _ z => z.elim⟩
  · match i, hi with
    | 0, hi => simp at hi
    | 1, hi =>
      simp at hi
      subst hi
      exact ⟨.ref p, rfl, .raw _⟩
    | i + 2, hi =>
      have : ∀ (k : Nat) (d : D), (List.replicate 11 (none : Option D))[k]? = some (some d) → False := fun k d h => by
        rw [List.getElem?_replicate] at h
        split at h <;> cases h
      exact (this i d hi).elim
  · exfalso
    match i, hi with
    | 0, hi => simp at hi
    | 1, hi => simp at hi
    | i + 2, hi =>
      have : ∀ (k : Nat) (d : D), (List.replicate 11 (none : Option D))[k]? = some (some d) → False := fun k d h => by
        rw [List.getElem?_replicate] at h
        split at h <;> cases h
      exact this i _ hi
  · exfalso
    match i, hi with
    | 0, hi => simp at hi
    | 1, hi => simp at hi
    | i + 2, hi =>
      have : ∀ (k : Nat) (d : D), (List.replicate 11 (none : Option D))[k]? = some (some d) → False := fun k d h => by
        rw [List.getElem?_replicate] at h
        split at h <;> cases h
      exact this i _ hi
  · subst hd
    cases r
    exact hQ H2
end
end K51
set_option Elab.async false
set_option maxRecDepth 100000
set_option maxHeartbeats 8000000
set_option linter.all false
set_option autoImplicit false
namespace K51
open PySem PySem.Spec PyProof.Rows L2 DW
theorem vals_swap {vs zs : List V} {us ws : List Value} (h1 : Vals vs us) (h2 : Vals zs ws) : Vals (swap2 vs zs) (swap2 us ws) := by
  cases h2 with
  | nil => exact .nil
  | cons a b =>
    cases b with
    | nil => exact .nil
    | cons a' b' =>
      cases b' with
      | nil => exact .cons a' (.cons a .nil)
      | cons _ _ => exact .nil
theorem all_mk {P : Program} {w : World} {K : PySem.W.Frag} {h : Heap} {mg : Str → Option Value} {fa : Addr} (X : K.In h) (G : h.Ns mainGlobals mg) (hfa : mg "law" = some (.ref fa))
    {f0 f1 f2 f3 f4 f5 f6 f7 f8 f9 f10 f11 f12 f13 f14 f15 f16 f17 f18 f19 f20 f21 f22 fN tN CE CQ fQ tQ fE cc cda fP aA : Addr} {od0 an0 od1 an1 od2 an2 od3 an3 od4 an4 od5 an5 od6 an6 od7 an7 od8 an8 od9 an9 od10 an10 od11 an11 od12 an12 od13 an13 od14 an14 od15 an15 od16 an16 od17 an17 od18 an18 od19 an19 od20 an20 od21 an21 od22 an22 odN anN dN odQ anQ dQ odE anE cddE cldE odP anP dA : Option Addr} {sl0 sl1 sl2 sl3 sl4 sl5 sl6 sl7 sl8 sl9 sl10 sl11 sl12 sl13 sl14 sl15 sl16 sl17 sl18 sl19 sl20 sl21 sl22 slN slTN slQ slTQ slE ccsE cslE slP slA : Array (Option Value)} {oc0 kV0 dc0 pm0 cd0 ct0 oc1 kV1 dc1 pm1 cd1 ct1 oc2 kV2 dc2 pm2 cd2 ct2 oc3 kV3 dc3 pm3 cd3 ct3 oc4 kV4 dc4 pm4 cd4 ct4 oc5 kV5 dc5 pm5 cd5 ct5 oc6 kV6 dc6 pm6 cd6 ct6 oc7 kV7 dc7 pm7 cd7 ct7 oc8 kV8 dc8 pm8 cd8 ct8 oc9 kV9 dc9 pm9 cd9 ct9 oc10 kV10 dc10 pm10 cd10 ct10 oc11 kV11 dc11 pm11 cd11 ct11 oc12 kV12 dc12 pm12 cd12 ct12 oc13 kV13 dc13 pm13 cd13 ct13 oc14 kV14 dc14 pm14 cd14 ct14 oc15 kV15 dc15 pm15 cd15 ct15 oc16 kV16 dc16 pm16 cd16 ct16 oc17 kV17 dc17 pm17 cd17 ct17 oc18 kV18 dc18 pm18 cd18 ct18 oc19 kV19 dc19 pm19 cd19 ct19 oc20 kV20 dc20 pm20 cd20 ct20 oc21 kV21 dc21 pm21 cd21 ct21 oc22 kV22 dc22 pm22 cd22 ct22 ocN kVN dcN pmN cdN ctN ocQ kVQ dcQ pmQ cdQ ctQ ocE kVE dcE pmE ctE cclE clE ocP kVP dcP pmP cdP ctP : Value} {tkN : Tok} {nN : Nat} {nQ : Nat} {vsE : Array Value} {fileE : Str} {tfE : Tok} {tk_FIELDS : Tok} {tk_MOMENTS : Tok} {tk_MOST_LISTED : Tok} {tk_MOST_MOMENT : Tok} {tk_MOST_NUMBER : Tok} {tk_POINTS : Tok} {tk_VALUES : Tok} {nA : Nat} {ta0 : Tok} {ta1 : Tok} {ta2 : Tok} {ta3 : Tok} {ta4 : Tok} {ta5 : Tok}
    (a0 : PySem.W.nsIn K mainGlobals "_law_draw" = some (some (.ref f0)))
    (l0 : K.lookup f0 = some ⟨oc0, od0, .func (PySem.W.fnOf "_law_draw" "_law_draw" (defArgs s__law_draw) (defBody s__law_draw) (defScope s__law_draw) .none kV0 dc0 pm0 an0 cd0 ct0), sl0⟩)
    (c0 : PySem.W.codeIn K cd0 "_law_draw" = true)
    (k0 : PySem.W.keepIn K (.ref f0) = true)
    (a1 : PySem.W.nsIn K mainGlobals "_law_hole" = some (some (.ref f1)))
    (l1 : K.lookup f1 = some ⟨oc1, od1, .func (PySem.W.fnOf "_law_hole" "_law_hole" (defArgs s__law_hole) (defBody s__law_hole) (defScope s__law_hole) .none kV1 dc1 pm1 an1 cd1 ct1), sl1⟩)
    (c1 : PySem.W.codeIn K cd1 "_law_hole" = true)
    (k1 : PySem.W.keepIn K (.ref f1) = true)
    (a2 : PySem.W.nsIn K mainGlobals "_law_pick" = some (some (.ref f2)))
    (l2 : K.lookup f2 = some ⟨oc2, od2, .func (PySem.W.fnOf "_law_pick" "_law_pick" (defArgs s__law_pick) (defBody s__law_pick) (defScope s__law_pick) .none kV2 dc2 pm2 an2 cd2 ct2), sl2⟩)
    (c2 : PySem.W.codeIn K cd2 "_law_pick" = true)
    (k2 : PySem.W.keepIn K (.ref f2) = true)
    (a3 : PySem.W.nsIn K mainGlobals "_law_question" = some (some (.ref f3)))
    (l3 : K.lookup f3 = some ⟨oc3, od3, .func (PySem.W.fnOf "_law_question" "_law_question" (defArgs s__law_question) (defBody s__law_question) (defScope s__law_question) .none kV3 dc3 pm3 an3 cd3 ct3), sl3⟩)
    (c3 : PySem.W.codeIn K cd3 "_law_question" = true)
    (k3 : PySem.W.keepIn K (.ref f3) = true)
    (a4 : PySem.W.nsIn K mainGlobals "_law_chosen" = some (some (.ref f4)))
    (l4 : K.lookup f4 = some ⟨oc4, od4, .func (PySem.W.fnOf "_law_chosen" "_law_chosen" (defArgs s__law_chosen) (defBody s__law_chosen) (defScope s__law_chosen) .none kV4 dc4 pm4 an4 cd4 ct4), sl4⟩)
    (c4 : PySem.W.codeIn K cd4 "_law_chosen" = true)
    (k4 : PySem.W.keepIn K (.ref f4) = true)
    (a5 : PySem.W.nsIn K mainGlobals "_law_asked" = some (some (.ref f5)))
    (l5 : K.lookup f5 = some ⟨oc5, od5, .func (PySem.W.fnOf "_law_asked" "_law_asked" (defArgs s__law_asked) (defBody s__law_asked) (defScope s__law_asked) .none kV5 dc5 pm5 an5 cd5 ct5), sl5⟩)
    (c5 : PySem.W.codeIn K cd5 "_law_asked" = true)
    (k5 : PySem.W.keepIn K (.ref f5) = true)
    (a6 : PySem.W.nsIn K mainGlobals "_law_tried" = some (some (.ref f6)))
    (l6 : K.lookup f6 = some ⟨oc6, od6, .func (PySem.W.fnOf "_law_tried" "_law_tried" (defArgs s__law_tried) (defBody s__law_tried) (defScope s__law_tried) .none kV6 dc6 pm6 an6 cd6 ct6), sl6⟩)
    (c6 : PySem.W.codeIn K cd6 "_law_tried" = true)
    (k6 : PySem.W.keepIn K (.ref f6) = true)
    (a7 : PySem.W.nsIn K mainGlobals "is_listed" = some (some (.ref f7)))
    (l7 : K.lookup f7 = some ⟨oc7, od7, .func (PySem.W.fnOf "is_listed" "is_listed" (defArgs s_is_listed) (defBody s_is_listed) (defScope s_is_listed) .none kV7 dc7 pm7 an7 cd7 ct7), sl7⟩)
    (c7 : PySem.W.codeIn K cd7 "is_listed" = true)
    (k7 : PySem.W.keepIn K (.ref f7) = true)
    (a8 : PySem.W.nsIn K mainGlobals "is_integer" = some (some (.ref f8)))
    (l8 : K.lookup f8 = some ⟨oc8, od8, .func (PySem.W.fnOf "is_integer" "is_integer" (defArgs s_is_integer) (defBody s_is_integer) (defScope s_is_integer) .none kV8 dc8 pm8 an8 cd8 ct8), sl8⟩)
    (c8 : PySem.W.codeIn K cd8 "is_integer" = true)
    (k8 : PySem.W.keepIn K (.ref f8) = true)
    (a9 : PySem.W.nsIn K mainGlobals "are_integers" = some (some (.ref f9)))
    (l9 : K.lookup f9 = some ⟨oc9, od9, .func (PySem.W.fnOf "are_integers" "are_integers" (defArgs s_are_integers) (defBody s_are_integers) (defScope s_are_integers) .none kV9 dc9 pm9 an9 cd9 ct9), sl9⟩)
    (c9 : PySem.W.codeIn K cd9 "are_integers" = true)
    (k9 : PySem.W.keepIn K (.ref f9) = true)
    (a10 : PySem.W.nsIn K mainGlobals "is_possible" = some (some (.ref f10)))
    (l10 : K.lookup f10 = some ⟨oc10, od10, .func (PySem.W.fnOf "is_possible" "is_possible" (defArgs s_is_possible) (defBody s_is_possible) (defScope s_is_possible) .none kV10 dc10 pm10 an10 cd10 ct10), sl10⟩)
    (c10 : PySem.W.codeIn K cd10 "is_possible" = true)
    (k10 : PySem.W.keepIn K (.ref f10) = true)
    (a11 : PySem.W.nsIn K mainGlobals "need_question" = some (some (.ref f11)))
    (l11 : K.lookup f11 = some ⟨oc11, od11, .func (PySem.W.fnOf "need_question" "need_question" (defArgs s_need_question) (defBody s_need_question) (defScope s_need_question) .none kV11 dc11 pm11 an11 cd11 ct11), sl11⟩)
    (c11 : PySem.W.codeIn K cd11 "need_question" = true)
    (k11 : PySem.W.keepIn K (.ref f11) = true)
    (a12 : PySem.W.nsIn K mainGlobals "asked_between" = some (some (.ref f12)))
    (l12 : K.lookup f12 = some ⟨oc12, od12, .func (PySem.W.fnOf "asked_between" "asked_between" (defArgs s_asked_between) (defBody s_asked_between) (defScope s_asked_between) .none kV12 dc12 pm12 an12 cd12 ct12), sl12⟩)
    (c12 : PySem.W.codeIn K cd12 "asked_between" = true)
    (k12 : PySem.W.keepIn K (.ref f12) = true)
    (a13 : PySem.W.nsIn K mainGlobals "points_asked" = some (some (.ref f13)))
    (l13 : K.lookup f13 = some ⟨oc13, od13, .func (PySem.W.fnOf "points_asked" "points_asked" (defArgs s_points_asked) (defBody s_points_asked) (defScope s_points_asked) .none kV13 dc13 pm13 an13 cd13 ct13), sl13⟩)
    (c13 : PySem.W.codeIn K cd13 "points_asked" = true)
    (k13 : PySem.W.keepIn K (.ref f13) = true)
    (a14 : PySem.W.nsIn K mainGlobals "is_within" = some (some (.ref f14)))
    (l14 : K.lookup f14 = some ⟨oc14, od14, .func (PySem.W.fnOf "is_within" "is_within" (defArgs s_is_within) (defBody s_is_within) (defScope s_is_within) .none kV14 dc14 pm14 an14 cd14 ct14), sl14⟩)
    (c14 : PySem.W.codeIn K cd14 "is_within" = true)
    (k14 : PySem.W.keepIn K (.ref f14) = true)
    (a15 : PySem.W.nsIn K mainGlobals "is_numbered" = some (some (.ref f15)))
    (l15 : K.lookup f15 = some ⟨oc15, od15, .func (PySem.W.fnOf "is_numbered" "is_numbered" (defArgs s_is_numbered) (defBody s_is_numbered) (defScope s_is_numbered) .none kV15 dc15 pm15 an15 cd15 ct15), sl15⟩)
    (c15 : PySem.W.codeIn K cd15 "is_numbered" = true)
    (k15 : PySem.W.keepIn K (.ref f15) = true)
    (a16 : PySem.W.nsIn K mainGlobals "are_moments" = some (some (.ref f16)))
    (l16 : K.lookup f16 = some ⟨oc16, od16, .func (PySem.W.fnOf "are_moments" "are_moments" (defArgs s_are_moments) (defBody s_are_moments) (defScope s_are_moments) .none kV16 dc16 pm16 an16 cd16 ct16), sl16⟩)
    (c16 : PySem.W.codeIn K cd16 "are_moments" = true)
    (k16 : PySem.W.keepIn K (.ref f16) = true)
    (a17 : PySem.W.nsIn K mainGlobals "_law_span" = some (some (.ref f17)))
    (l17 : K.lookup f17 = some ⟨oc17, od17, .func (PySem.W.fnOf "_law_span" "_law_span" (defArgs s__law_span) (defBody s__law_span) (defScope s__law_span) .none kV17 dc17 pm17 an17 cd17 ct17), sl17⟩)
    (c17 : PySem.W.codeIn K cd17 "_law_span" = true)
    (k17 : PySem.W.keepIn K (.ref f17) = true)
    (a18 : PySem.W.nsIn K mainGlobals "_law_pen" = some (some (.ref f18)))
    (l18 : K.lookup f18 = some ⟨oc18, od18, .func (PySem.W.fnOf "_law_pen" "_law_pen" (defArgs s__law_pen) (defBody s__law_pen) (defScope s__law_pen) .none kV18 dc18 pm18 an18 cd18 ct18), sl18⟩)
    (c18 : PySem.W.codeIn K cd18 "_law_pen" = true)
    (k18 : PySem.W.keepIn K (.ref f18) = true)
    (a19 : PySem.W.nsIn K mainGlobals "fixed" = some (some (.ref f19)))
    (l19 : K.lookup f19 = some ⟨oc19, od19, .func (PySem.W.fnOf "fixed" "fixed" (defArgs s_fixed) (defBody s_fixed) (defScope s_fixed) .none kV19 dc19 pm19 an19 cd19 ct19), sl19⟩)
    (c19 : PySem.W.codeIn K cd19 "fixed" = true)
    (k19 : PySem.W.keepIn K (.ref f19) = true)
    (a20 : PySem.W.nsIn K mainGlobals "points_in" = some (some (.ref f20)))
    (l20 : K.lookup f20 = some ⟨oc20, od20, .func (PySem.W.fnOf "points_in" "points_in" (defArgs s_points_in) (defBody s_points_in) (defScope s_points_in) .none kV20 dc20 pm20 an20 cd20 ct20), sl20⟩)
    (c20 : PySem.W.codeIn K cd20 "points_in" = true)
    (k20 : PySem.W.keepIn K (.ref f20) = true)
    (a21 : PySem.W.nsIn K mainGlobals "_law_made" = some (some (.ref f21)))
    (l21 : K.lookup f21 = some ⟨oc21, od21, .func (PySem.W.fnOf "_law_made" "_law_made" (defArgs s__law_made) (defBody s__law_made) (defScope s__law_made) .none kV21 dc21 pm21 an21 cd21 ct21), sl21⟩)
    (c21 : PySem.W.codeIn K cd21 "_law_made" = true)
    (k21 : PySem.W.keepIn K (.ref f21) = true)
    (a22 : PySem.W.nsIn K mainGlobals "law" = some (some (.ref f22)))
    (l22 : K.lookup f22 = some ⟨oc22, od22, .func (PySem.W.fnOf "law" "law" (defArgs s_law) (defBody s_law) (defScope s_law) .none kV22 dc22 pm22 an22 cd22 ct22), sl22⟩)
    (c22 : PySem.W.codeIn K cd22 "law" = true)
    (k22 : PySem.W.keepIn K (.ref f22) = true)
    (aN : PySem.W.nsIn K mainGlobals "need_entry" = some (some (.ref fN)))
    (lN : K.lookup fN = some ⟨ocN, odN, .func (PySem.W.fnOf "need_entry" "need_entry" (defArgs s_need_entry) (defBody s_need_entry) (defScope s_need_entry) (.ref tN) kVN dcN pmN anN cdN ctN), slN⟩)
    (cN : PySem.W.codeIn K cdN "need_entry" = true)
    (kN : PySem.W.keepIn K (.ref fN) = true)
    (tN1 : K.lookup tN = some ⟨.type "tuple", dN, .seq #[.str "entry" tkN] nN, slTN⟩)
    (nCE : PySem.W.nsIn K mainGlobals "Entry" = some (some (.ref CE)))
    (pgCE : PySem.W.plainGet K CE Str.empty = true)
    (hdCE : PySem.W.hasDictIn K CE = true)
    (poCE : PySem.W.plainOver K CE = true)
    (saCE : PySem.W.findIn K (.ref CE) "__setattr__" = some (some (.builtin "object.__setattr__")))
    (mkCE : PySem.W.makesIn K CE = true)
    (kcCE : PySem.W.keepIn K (.ref CE) = true)
    (naCE0 : PySem.W.findIn K (.ref CE) "word" = some none)
    (naCE1 : PySem.W.findIn K (.ref CE) "parts" = some none)
    (naCE2 : PySem.W.findIn K (.ref CE) "bits" = some none)
    (naCE3 : PySem.W.findIn K (.ref CE) "count" = some none)
    (naCE4 : PySem.W.findIn K (.ref CE) "first" = some none)
    (naCE5 : PySem.W.findIn K (.ref CE) "last" = some none)
    (naCE6 : PySem.W.findIn K (.ref CE) "total" = some none)
    (naCE7 : PySem.W.findIn K (.ref CE) "least" = some none)
    (naCE8 : PySem.W.findIn K (.ref CE) "greatest" = some none)
    (haCE : PySem.W.findIn K (.ref CE) "__class__" = some (some (.builtin "object.__class__")))
    (omCE : PySem.W.mroIn K CE (.type "object") = some true)
    (nCQ : PySem.W.nsIn K mainGlobals "Question" = some (some (.ref CQ)))
    (pgCQ : PySem.W.plainGet K CQ Str.empty = true)
    (hdCQ : PySem.W.hasDictIn K CQ = true)
    (poCQ : PySem.W.plainOver K CQ = true)
    (saCQ : PySem.W.findIn K (.ref CQ) "__setattr__" = some (some (.builtin "object.__setattr__")))
    (mkCQ : PySem.W.makesIn K CQ = true)
    (kcCQ : PySem.W.keepIn K (.ref CQ) = true)
    (naCQ0 : PySem.W.findIn K (.ref CQ) "kind" = some none)
    (naCQ1 : PySem.W.findIn K (.ref CQ) "number" = some none)
    (naCQ2 : PySem.W.findIn K (.ref CQ) "start" = some none)
    (naCQ3 : PySem.W.findIn K (.ref CQ) "stop" = some none)
    (naCQ4 : PySem.W.findIn K (.ref CQ) "among" = some none)
    (haCQ : PySem.W.findIn K (.ref CQ) "__class__" = some (some (.builtin "object.__class__")))
    (omCQ : PySem.W.mroIn K CQ (.type "object") = some true)
    (hn : PySem.W.specialIn K (.builtin "object.__class__") "__get__" = some (some (.builtin "getset_descriptor.__get__")))
    (ht : PySem.W.takesIn K (.builtin "object.__class__") = some true)
    (aQ : PySem.W.findIn K (.ref CQ) "__init__" = some (some (.ref fQ)))
    (lQ : K.lookup fQ = some ⟨ocQ, odQ, .func (PySem.W.fnOf "__init__" "Question.__init__" (defArgs s_Question_init) (defBody s_Question_init) (defScope s_Question_init) (.ref tQ) kVQ dcQ pmQ anQ cdQ ctQ), slQ⟩)
    (cQ : PySem.W.codeIn K cdQ "Question.__init__" = true)
    (kQ : PySem.W.keepIn K (.ref fQ) = true)
    (iQ : PySem.W.isFn K (.ref fQ) = true)
    (tQ1 : K.lookup tQ = some ⟨.type "tuple", dQ, .seq #[.none] nQ, slTQ⟩)
    (aE : PySem.W.findIn K (.ref CE) "__init__" = some (some (.ref fE)))
    (iE : PySem.W.isFn K (.ref fE) = true)
    (lE : K.lookup fE = some ⟨ocE, odE, .func (PySem.W.fnX "__init__" "Entry.__init__" (defArgs s_Entry_init) (defBody s_Entry_init) (defScope s_Entry_init) [("__class__", cc)] .none kVE dcE pmE anE (.ref cda) ctE), slE⟩)
    (cE : PySem.W.codeIn K (.ref cda) "Entry.__init__" = true)
    (dcl : PySem.W.isClsIn K CE = true)
    (cdl : K.lookup cda = some ⟨cclE, cddE, .fields vsE, ccsE⟩)
    (vs2 : vsE[2]? = some (.str fileE tfE))
    (fil : ((P.main.file : Str) == fileE) = true)
    (ccl : K.lookup cc = some ⟨clE, cldE, .cell (some (.ref CE)), cslE⟩)
    (opq : PySem.W.nsIn K cStatics "thirdparty.any" = some none)
    (sup : PySem.W.mroIn K CE (.ref CE) = some true)
    (sat : PySem.W.ks_superIn K CE CE "__init__" = some (some (.ref fP)))
    (tyP : PySem.W.typeIn K (.ref fP) = some (.type "function"))
    (fiP : PySem.W.fnIn K fP = true)
    (topS : (P.main.scope.names.lookup ("super" : Str)).isSome = false)
    (nsup : PySem.W.nsIn K mainGlobals "super" = some none)
    (lP : K.lookup fP = some ⟨ocP, odP, .func (PySem.W.fnOf "__init__" "Paper.__init__" (defArgs s_Paper_init) (defBody s_Paper_init) (defScope s_Paper_init) .none kVP dcP pmP anP cdP ctP), slP⟩)
    (cP : PySem.W.codeIn K cdP "Paper.__init__" = true)
    (b_abs : PySem.W.nsIn K mainGlobals "abs" = some none)
    (b_all : PySem.W.nsIn K mainGlobals "all" = some none)
    (b_bool : PySem.W.nsIn K mainGlobals "bool" = some none)
    (b_dict : PySem.W.nsIn K mainGlobals "dict" = some none)
    (b_int : PySem.W.nsIn K mainGlobals "int" = some none)
    (b_isinstance : PySem.W.nsIn K mainGlobals "isinstance" = some none)
    (b_len : PySem.W.nsIn K mainGlobals "len" = some none)
    (b_list : PySem.W.nsIn K mainGlobals "list" = some none)
    (b_max : PySem.W.nsIn K mainGlobals "max" = some none)
    (b_min : PySem.W.nsIn K mainGlobals "min" = some none)
    (b_range : PySem.W.nsIn K mainGlobals "range" = some none)
    (b_repr : PySem.W.nsIn K mainGlobals "repr" = some none)
    (b_sorted : PySem.W.nsIn K mainGlobals "sorted" = some none)
    (b_str : PySem.W.nsIn K mainGlobals "str" = some none)
    (b_tuple : PySem.W.nsIn K mainGlobals "tuple" = some none)
    (b_zip : PySem.W.nsIn K mainGlobals "zip" = some none)
    (g_FIELDS : PySem.W.nsIn K mainGlobals "FIELDS" = some (some (.int 7 tk_FIELDS)))
    (g_MOMENTS : PySem.W.nsIn K mainGlobals "MOMENTS" = some (some (.int 1099511627776 tk_MOMENTS)))
    (g_MOST_LISTED : PySem.W.nsIn K mainGlobals "MOST_LISTED" = some (some (.int 200 tk_MOST_LISTED)))
    (g_MOST_MOMENT : PySem.W.nsIn K mainGlobals "MOST_MOMENT" = some (some (.int 1099511627775 tk_MOST_MOMENT)))
    (g_MOST_NUMBER : PySem.W.nsIn K mainGlobals "MOST_NUMBER" = some (some (.int 1152921504606846976 tk_MOST_NUMBER)))
    (g_POINTS : PySem.W.nsIn K mainGlobals "POINTS" = some (some (.int 68719476736 tk_POINTS)))
    (g_VALUES : PySem.W.nsIn K mainGlobals "VALUES" = some (some (.int 1099511627776 tk_VALUES)))
    (g_ASKED : PySem.W.nsIn K mainGlobals "ASKED" = some (some (.ref aA)))
    (lA : K.lookup aA = some ⟨.type "tuple", dA, .seq #[.str "count" ta0, .str "sum" ta1, .str "least" ta2, .str "greatest" ta3, .str "most" ta4, .str "rank" ta5] nA, slA⟩)
    (hr9 : Room 7 callerA) : AtCaller P w K mg fa (lawSp K) := by
  cases hfa.symm.trans (PySem.W.mg_of X G a22)
  have KK : ∀ {x : Str} {a : Addr}, PySem.W.nsIn K mainGlobals x = some (some (.ref a)) → mg x = some (.ref a) := fun e => PySem.W.mg_of X G e
  have T : Txt K mg CE CQ := ⟨PySem.W.mg_none_of X G b_abs, PySem.W.mg_none_of X G b_all, PySem.W.mg_none_of X G b_bool, PySem.W.mg_none_of X G b_dict, PySem.W.mg_none_of X G b_int, PySem.W.mg_none_of X G b_isinstance, PySem.W.mg_none_of X G b_len, PySem.W.mg_none_of X G b_list, PySem.W.mg_none_of X G b_max, PySem.W.mg_none_of X G b_min, PySem.W.mg_none_of X G b_range, PySem.W.mg_none_of X G b_repr, PySem.W.mg_none_of X G b_sorted, PySem.W.mg_none_of X G b_str, PySem.W.mg_none_of X G b_tuple, PySem.W.mg_none_of X G b_zip, ⟨aA, [.str "count", .str "sum", .str "least", .str "greatest", .str "most", .str "rank"], PySem.W.mg_of X G g_ASKED, .inr ⟨_, _, _, lA, rfl, rfl, (by show 6 ≤ sizeLine; decide), .cons ⟨_, rfl⟩ (.cons ⟨_, rfl⟩ (.cons ⟨_, rfl⟩ (.cons ⟨_, rfl⟩ (.cons ⟨_, rfl⟩ (.cons ⟨_, rfl⟩ (.nil))))))⟩, .cons (.str _) (.cons (.str _) (.cons (.str _) (.cons (.str _) (.cons (.str _) (.cons (.str _) (.nil))))))⟩, ⟨_, PySem.W.mg_of X G g_FIELDS⟩, ⟨_, PySem.W.mg_of X G g_MOMENTS⟩, ⟨_, PySem.W.mg_of X G g_MOST_LISTED⟩, ⟨_, PySem.W.mg_of X G g_MOST_MOMENT⟩, ⟨_, PySem.W.mg_of X G g_MOST_NUMBER⟩, ⟨_, PySem.W.mg_of X G g_POINTS⟩, ⟨_, PySem.W.mg_of X G g_VALUES⟩, PySem.W.mg_of X G nCE, PySem.W.mg_of X G nCQ⟩
  have clCE : Cls K CE := ⟨pgCE, hdCE, poCE, saCE⟩
  have TE : ClT K CE EN := ⟨clCE, fun f hf => by
    simp only [EN, List.mem_cons, List.not_mem_nil, or_false] at hf
    rcases hf with rfl | rfl | rfl | rfl | rfl | rfl | rfl | rfl | rfl
    · exact naCE0
    · exact naCE1
    · exact naCE2
    · exact naCE3
    · exact naCE4
    · exact naCE5
    · exact naCE6
    · exact naCE7
    · exact naCE8⟩
  have OE : ObT K CE := ⟨clCE, haCE, hn, ht, omCE⟩
  have clCQ : Cls K CQ := ⟨pgCQ, hdCQ, poCQ, saCQ⟩
  have TQ : ClT K CQ QN := ⟨clCQ, fun f hf => by
    simp only [QN, List.mem_cons, List.not_mem_nil, or_false] at hf
    rcases hf with rfl | rfl | rfl | rfl | rfl
    · exact naCQ0
    · exact naCQ1
    · exact naCQ2
    · exact naCQ3
    · exact naCQ4⟩
  have OQ : ObT K CQ := ⟨clCQ, haCQ, hn, ht, omCQ⟩
  have TP : ClT K CE PN := ⟨clCE, fun f hf => TE.na f (by
    simp only [PN, List.mem_cons, List.not_mem_nil, or_false] at hf
    rcases hf with rfl | rfl
    · decide +kernel
    · decide +kernel)⟩
  have F0 := fun_mk (st := s__law_draw) l0 c0 k0
  have B0 := F0.binds (ps := ["pen", "many"]) fun _ _ _ _ _ _ us hl => match us, hl with | [_, _], _ => rfl
  have F1 := fun_mk (st := s__law_hole) l1 c1 k1
  have B1 := F1.binds (ps := ["pen", "since", "many", "wide"]) fun _ _ _ _ _ _ us hl => match us, hl with | [_, _, _, _], _ => rfl
  have F2 := fun_mk (st := s__law_pick) l2 c2 k2
  have B2 := F2.binds (ps := ["pen", "some"]) fun _ _ _ _ _ _ us hl => match us, hl with | [_, _], _ => rfl
  have F3 := fun_mk (st := s__law_question) l3 c3 k3
  have B3 := F3.binds (ps := ["pen", "parts", "wide"]) fun _ _ _ _ _ _ us hl => match us, hl with | [_, _, _], _ => rfl
  have F4 := fun_mk (st := s__law_chosen) l4 c4 k4
  have B4 := F4.binds (ps := ["some", "many"]) fun _ _ _ _ _ _ us hl => match us, hl with | [_, _], _ => rfl
  have F5 := fun_mk (st := s__law_asked) l5 c5 k5
  have B5 := F5.binds (ps := ["question", "moment"]) fun _ _ _ _ _ _ us hl => match us, hl with | [_, _], _ => rfl
  have F6 := fun_mk (st := s__law_tried) l6 c6 k6
  have B6 := F6.binds (ps := ["hole", "question"]) fun _ _ _ _ _ _ us hl => match us, hl with | [_, _], _ => rfl
  have F7 := fun_mk (st := s_is_listed) l7 c7 k7
  have B7 := F7.binds (ps := ["value"]) fun _ _ _ _ _ _ us hl => match us, hl with | [_], _ => rfl
  have F8 := fun_mk (st := s_is_integer) l8 c8 k8
  have B8 := F8.binds (ps := ["value"]) fun _ _ _ _ _ _ us hl => match us, hl with | [_], _ => rfl
  have F9 := fun_mk (st := s_are_integers) l9 c9 k9
  have B9 := F9.binds (ps := ["value", "many"]) fun _ _ _ _ _ _ us hl => match us, hl with | [_, _], _ => rfl
  have F10 := fun_mk (st := s_is_possible) l10 c10 k10
  have B10 := F10.binds (ps := ["entry"]) fun _ _ _ _ _ _ us hl => match us, hl with | [_], _ => rfl
  have F11 := fun_mk (st := s_need_question) l11 c11 k11
  have B11 := F11.binds (ps := ["value"]) fun _ _ _ _ _ _ us hl => match us, hl with | [_], _ => rfl
  have F12 := fun_mk (st := s_asked_between) l12 c12 k12
  have B12 := F12.binds (ps := ["question", "start", "stop"]) fun _ _ _ _ _ _ us hl => match us, hl with | [_, _, _], _ => rfl
  have F13 := fun_mk (st := s_points_asked) l13 c13 k13
  have B13 := F13.binds (ps := ["entry", "question"]) fun _ _ _ _ _ _ us hl => match us, hl with | [_, _], _ => rfl
  have F14 := fun_mk (st := s_is_within) l14 c14 k14
  have B14 := F14.binds (ps := ["value", "least", "most"]) fun _ _ _ _ _ _ us hl => match us, hl with | [_, _, _], _ => rfl
  have F15 := fun_mk (st := s_is_numbered) l15 c15 k15
  have B15 := F15.binds (ps := ["kind", "value"]) fun _ _ _ _ _ _ us hl => match us, hl with | [_, _], _ => rfl
  have F16 := fun_mk (st := s_are_moments) l16 c16 k16
  have B16 := F16.binds (ps := ["value"]) fun _ _ _ _ _ _ us hl => match us, hl with | [_], _ => rfl
  have F17 := fun_mk (st := s__law_span) l17 c17 k17
  have B17 := F17.binds (ps := ["hole", "question"]) fun _ _ _ _ _ _ us hl => match us, hl with | [_, _], _ => rfl
  have F18 := fun_mk (st := s__law_pen) l18 c18 k18
  have B18 := F18.binds (ps := ["script"]) fun _ _ _ _ _ _ us hl => match us, hl with | [_], _ => rfl
  have F19 := fun_mk (st := s_fixed) l19 c19 k19
  have B19 := F19.binds (ps := ["value"]) fun _ _ _ _ _ _ us hl => match us, hl with | [_], _ => rfl
  have F20 := fun_mk (st := s_points_in) l20 c20 k20
  have B20 := F20.binds (ps := ["entry", "question"]) fun _ _ _ _ _ _ us hl => match us, hl with | [_, _], _ => rfl
  have F21 := fun_mk (st := s__law_made) l21 c21 k21
  have B21 := F21.binds (ps := ["question"]) fun _ _ _ _ _ _ us hl => match us, hl with | [_], _ => rfl
  have F22 := fun_mk (st := s_law) l22 c22 k22
  refine at_def F22 sc_law hr9 (fun us hl s => match us, hl with | [_], _ => .of_eq rfl) (fun vs H Q E h => by obtain ⟨a, ns, rfl, _⟩ := h; rfl) fun base cdv s H vs Q E hr hgd hsp => ?_
  obtain ⟨a, ns, rfl, hS, hl, hQ⟩ := hsp
  have G__law_draw : Go P w K mg base 1 "_law_draw" (toSp K drawSp) [] := fn_data F0 sc__law_draw (fun w es n k h => by obtain ⟨_, _, _, rfl, _⟩ := h; rfl) B0 (KK a0) (fun cdv A outer s H E hr => der__law_draw T  hr) (fun w es n k h => w__law_draw  h)
  have G__law_hole : Go P w K mg base 2 "_law_hole" (toSp K holeSp) [] := fn_data F1 sc__law_hole (fun w es n k h => by obtain ⟨_, _, _, _, rfl, _⟩ := h; rfl) B1 (KK a1) (fun cdv A outer s H E hr => der__law_hole T G__law_draw hr) (fun w es n k h => w__law_hole  h)
  have G__law_pick : Go P w K mg base 2 "_law_pick" (toSp K pickSp) [] := fn_data F2 sc__law_pick (fun w es n k h => by obtain ⟨_, _, _, rfl, _⟩ := h; rfl) B2 (KK a2) (fun cdv A outer s H E hr => der__law_pick T G__law_draw hr) (fun w es n k h => w__law_pick  h)
  have G__law_question : Go P w K mg base 3 "_law_question" (toSp K questSp) [] := fn_data F3 sc__law_question (fun w es n k h => by obtain ⟨_, _, _, _, _, _, _, _, rfl, _⟩ := h; rfl) B3 (KK a3) (fun cdv A outer s H E hr => der__law_question T G__law_pick G__law_draw hr) (fun w es n k h => w__law_question  h)
  have G__law_chosen : Go P w K mg base 1 "_law_chosen" (toSp K chosenSp) [] := fn_data F4 sc__law_chosen (fun w es n k h => by obtain ⟨_, _, rfl, _⟩ := h; rfl) B4 (KK a4) (fun cdv A outer s H E hr => der__law_chosen T  hr) (fun w es n k h => w__law_chosen  h)
  have G__law_asked : Go P w K mg base 1 "_law_asked" (toSp K askedSp) [] := fn_data F5 sc__law_asked (fun w es n k h => by obtain ⟨_, _, _, _, _, _, rfl, _⟩ := h; rfl) B5 (KK a5) (fun cdv A outer s H E hr => der__law_asked T  hr) (fun w es n k h => w__law_asked  h)
  have G__law_tried : Go P w K mg base 2 "_law_tried" (toSp K triedSp) [] := fn_data F6 sc__law_tried (fun w es n k h => by obtain ⟨_, _, _, _, _, _, _, _, _, _, _, rfl, _⟩ := h; rfl) B6 (KK a6) (fun cdv A outer s H E hr => der__law_tried T G__law_chosen G__law_asked hr) (fun w es n k h => w__law_tried  h)
  have G_is_listed : Go P w K mg base 1 "is_listed" (toSp K listedSp) [] := fn_data F7 sc_is_listed (fun w es n k h => by rcases h with ⟨_, rfl, _⟩ | ⟨_, rfl, _⟩ <;> rfl) B7 (KK a7) (fun cdv A outer s H E hr => der_is_listed T  hr) (fun w es n k h => w_is_listed  h)
  have G_is_integer : Go P w K mg base 1 "is_integer" (toSp K integerSp) [] := fn_data F8 sc_is_integer (fun w es n k h => by obtain ⟨_, rfl, _⟩ := h; rfl) B8 (KK a8) (fun cdv A outer s H E hr => der_is_integer T  hr) (fun w es n k h => w_is_integer  h)
  have G_are_integers : Go P w K mg base 2 "are_integers" (toSp K integersSp) [] := fn_data F9 sc_are_integers (fun w es n k h => by obtain ⟨_, _, rfl, _⟩ := h; rfl) B9 (KK a9) (fun cdv A outer s H E hr => der_are_integers T G_is_listed G_is_integer hr) (fun w es n k h => w_are_integers  h)
  have G_is_possible : Go P w K mg base 1 "is_possible" (toSp K (possibleSp CE)) [] := fn_data F10 sc_is_possible (fun w es n k h => by obtain ⟨_, _, _, _, _, _, _, rfl, _⟩ := h; rfl) B10 (KK a10) (fun cdv A outer s H E hr => der_is_possible T  hr) (fun w es n k h => w_is_possible TE h)
  have G_need_question : Go P w K mg base 1 "need_question" (toSp K (needQSp CQ)) [] := fn_data F11 sc_need_question (fun w es n k h => by obtain ⟨_, _, _, _, _, rfl, _⟩ := h; rfl) B11 (KK a11) (fun cdv A outer s H E hr => der_need_question T  hr) (fun w es n k h => w_need_question OQ h)
  have G_asked_between : Go P w K mg base 1 "asked_between" (toSp K (betweenSp CQ)) [] := fn_data F12 sc_asked_between (fun w es n k h => by obtain ⟨_, _, _, _, _, _, _, rfl, _⟩ := h; rfl) B12 (KK a12) (fun cdv A outer s H E hr => der_asked_between T  hr) (fun w es n k h => w_asked_between TQ h)
  have G_points_asked : Go P w K mg base 2 "points_asked" (toSp K (ptsSp CE CQ)) [] := fn_data F13 sc_points_asked (fun w es n k h => by obtain ⟨_, _, _, _, _, _, _, _, _, _, _, _, rfl, _⟩ := h; rfl) B13 (KK a13) (fun cdv A outer s H E hr => der_points_asked T G_asked_between hr) (fun w es n k h => w_points_asked TE TQ h)
  have G_is_within : Go P w K mg base 2 "is_within" (toSp K withinSp) [] := fn_data F14 sc_is_within (fun w es n k h => by obtain ⟨_, _, _, rfl, _⟩ := h; rfl) B14 (KK a14) (fun cdv A outer s H E hr => der_is_within T G_is_integer hr) (fun w es n k h => w_is_within  h)
  have G_is_numbered : Go P w K mg base 3 "is_numbered" (toSp K numberedSp) [] := fn_data F15 sc_is_numbered (fun w es n k h => by obtain ⟨_, h⟩ := h; rcases h with ⟨_, rfl, _⟩ | ⟨_, rfl, _⟩ | ⟨_, rfl, _⟩ <;> rfl) B15 (KK a15) (fun cdv A outer s H E hr => der_is_numbered T G_is_within hr) (fun w es n k h => w_is_numbered  h)
  have G_are_moments : Go P w K mg base 3 "are_moments" (toSp K momentsSp) [] := fn_data F16 sc_are_moments (fun w es n k h => by obtain ⟨_, rfl, _⟩ := h; rfl) B16 (KK a16) (fun cdv A outer s H E hr => der_are_moments T G_is_listed G_is_within hr) (fun w es n k h => w_are_moments  h)
  have G__law_span : Go P w K mg base 2 "_law_span" (toSp K spanSp) [] := fn_data F17 sc__law_span (fun w es n k h => by obtain ⟨_, _, _, _, _, _, _, _, _, _, _, rfl, _⟩ := h; rfl) B17 (KK a17) (fun cdv A outer s H E hr => der__law_span T G__law_asked hr) (fun w es n k h => w__law_span  h)
  have Gn_fixed : Go P w K mg base 0 "fixed" (toSp K fun _ _ _ _ => False) [] := ⟨_, _, _, _, ⟨fun vs H Q E h => (by obtain ⟨w, S, es, n, k, _, _, z, _⟩ := h; exact z.elim), fun A outer s H args us vs Q E _ _ _ _ h => (by obtain ⟨w, S, es, n, k, _, _, z, _⟩ := h; exact z.elim)⟩, KK a19, F19.kp, B19, .nil⟩
  have G0_fixed : Go P w K mg base 1 "fixed" (toSp K fixed0Sp) [] := fn_data F19 sc_fixed (fun w es n k h => by obtain ⟨_, rfl, _⟩ := h; rfl) B19 (KK a19) (fun cdv A outer s H E hr => der_fixed T Gn_fixed hr) (fun w es n k h => w_fixed0 h)
  have G_fixed : Go P w K mg base 2 "fixed" (toSp K fixedSp) [] := fn_data F19 sc_fixed (fun w es n k h => by obtain ⟨_, rfl, _⟩ := h; rfl) B19 (KK a19) (fun cdv A outer s H E hr => der_fixed T G0_fixed hr) (fun w es n k h => w_fixed h)
  have FDN : FunD K "need_entry" "need_entry" (defArgs s_need_entry) (defBody s_need_entry) (defScope s_need_entry) [.str "entry"] [] fN _ := ⟨⟨_, _, _, _, _, _, _, _, _, _, rfl, lN, cN, .inr ⟨by simp, tN, _, [.str "entry" tkN], _, rfl, tN1, rfl, .cons ⟨_, rfl⟩ .nil⟩, .inl rfl⟩, kN⟩
  have G1_need_entry : Go P w K mg base 3 "need_entry" (toSp K (needESp CE)) [.str "entry"] := by
    obtain ⟨ds, hv, hb⟩ := FDN.binds1 (ps := ["value", "part"]) 1 0 (by simp) rfl (fun T kV doc pm an cdv ct us its h1 h2 => match us, its, h1, h2 with | [_], [_], _, _ => ⟨_, rfl, rfl⟩)
    refine ⟨fN, _, ["value", "part"], ds, FDN.ok sc_need_entry (fun vs H Q E h => ?_) (fun cdv A outer s H vs Q E hr h => ?_), KK aN, kN, hb, hv⟩
    · obtain ⟨w, S, es, n, k, r, ok, hs, p⟩ := h
      rw [r.length]
      obtain ⟨_, _, _, _, _, _, _, _, rfl, _⟩ := hs
      rfl
    · obtain ⟨w, S, es, n, k, r, ok, hs, p⟩ := h
      exact ⟨_, (der_need_entry T G_are_integers G_is_possible hr).nox, body_ok (w_need_entry TE OE hs) r ok p.up⟩
  have G_points_in : Go P w K mg base 4 "points_in" (toSp K (ptsInSp CE CQ)) [] := fn_data F20 sc_points_in (fun w es n k h => by obtain ⟨_, _, _, _, _, _, _, _, _, _, _, _, rfl, _⟩ := h; rfl) B20 (KK a20) (fun cdv A outer s H E hr => der_points_in T G1_need_entry G_need_question G_points_asked hr) (fun w es n k h => w_points_in rfl h)
  have K_points_in : Gok P w K mg base 4 "points_in" ["question", "entry"] (toSp K (ptsInSp CE CQ)) swap2 := by
    refine ⟨f20, _, ["entry", "question"], swap2, F20.ok sc_points_in (fun vs H Q E h => ?_) (fun cdv A outer s H vs Q E hr h => ?_), KK a20, F20.kp, ⟨fun s us ws _ h1 h2 => match us, ws, h1, h2 with | [], [_, _], _, _ => .of_eq rfl, fun h1 h2 => vals_swap h1 h2⟩⟩
    · obtain ⟨w, S, es, n, k, r, ok, hs, p⟩ := h
      rw [r.length]
      obtain ⟨_, _, _, _, _, _, _, _, _, _, _, _, rfl, _⟩ := hs
      rfl
    · obtain ⟨w, S, es, n, k, r, ok, hs, p⟩ := h
      exact ⟨_, der_points_in T G1_need_entry G_need_question G_points_asked hr, body_ok (w_points_in rfl hs) r ok p.up⟩
  have FDQ : FunD K "__init__" "Question.__init__" (defArgs s_Question_init) (defBody s_Question_init) (defScope s_Question_init) [.non] [] fQ _ := ⟨⟨_, _, _, _, _, _, _, _, _, _, rfl, lQ, cQ, .inr ⟨by simp, tQ, _, [.none], _, rfl, tQ1, rfl, .cons rfl .nil⟩, .inl rfl⟩, kQ⟩
  have FQ : FnOk P w K mg base CX0 4 fQ _ ["self", "kind", "number", "start", "stop", "among"] (initSp K CQ gQ) := FDQ.ok sc_Question_init (fun vs H Q E h => initSp_len (j := 5) (fun es ns l hg => by obtain ⟨_, _, _, _, _, rfl, _⟩ := hg; rfl) h) (fun cdv A outer s H vs Q E hr h =>
    ⟨_, (der_Question_init T G_is_numbered G_is_within G_are_moments hr).nox, init_ok (fun es ns l hg => w_Question_init TQ hg) h⟩)
  have M_Question : Mkc P w K mg base 4 "Question" CQ (initSp K CQ gQ) [] := by
    obtain ⟨ds, hv, hb⟩ := FDQ.binds1 (ps := ["self", "kind", "number", "start", "stop", "among"]) 6 1 (by simp) rfl (fun T kV doc pm an cdv ct us its h1 h2 => match us, its, h1, h2 with | [_, _, _, _, _, _], [_], _, _ => ⟨_, rfl, rfl⟩)
    exact ⟨fQ, _, _, ds, ⟨mkCQ, aQ, iQ, kcCQ⟩, FQ, KK nCQ, hb, hv⟩
  have M1_Question : Mkc P w K mg base 4 "Question" CQ (initSp K CQ gQ) [.non] := by
    obtain ⟨ds, hv, hb⟩ := FDQ.binds1 (ps := ["self", "kind", "number", "start", "stop", "among"]) 5 0 (by simp) rfl (fun T kV doc pm an cdv ct us its h1 h2 => match us, its, h1, h2 with | [_, _, _, _, _], [_], _, _ => ⟨_, rfl, rfl⟩)
    exact ⟨fQ, _, _, ds, ⟨mkCQ, aQ, iQ, kcCQ⟩, FQ, KK nCQ, hb, hv⟩
  have FP : FnR P w K mg base CX0 3 fP (superSp K CE gP) := StX.fn_star (pv := "parts") (ps := ["self", "word"]) (sp := initSp K CE gP) lP cP sc_Paper_init StX.cxUp_none (StX.bind_star2 (B := fun us => bindArgs (PySem.W.fnOf "__init__" "Paper.__init__" (defArgs s_Paper_init) (defBody s_Paper_init) (defScope s_Paper_init) .none kVP dcP pmP anP cdP ctP) ⟨us, []⟩) (p1 := "self") (p2 := "word") (pv := "parts") (fun a b => rfl) (fun a b r rs => rfl)) (fun A outer s H vs Q E hr h =>
    ⟨_, (der_Paper_init T G_fixed hr).nox, init_ok (fun es ns l hg => w_Paper_init TP hg) h⟩)
  have SF : SupFn K P CE cc cda fP := ⟨Option.isSome_iff_exists.mp dcl, ⟨_, _, _, _, _, _, cdl, vs2, fil⟩, ⟨_, _, _, ccl⟩, opq, tyP, fiP, topS⟩
  have FE : FnOk P w K mg base CX0 4 fE _ ["self", "bits", "count", "first", "last", "total", "least", "greatest"] (initSp K CE gE) := fn_super (ar := ⟨"self", none, _⟩) lE cE sc_Entry_init (by simp) SF FP (by decide) (PySem.W.mg_none_of X G nsup) rfl rfl rfl
    (fun vs H Q E h => initSp_len (j := 7) (fun es ns l hg => by obtain ⟨_, _, _, _, _, _, _, rfl, _⟩ := hg; rfl) h) (by decide) (fun _ => rfl) (fun _ => rfl) _ (fun _ => rfl) (fun A outer s H vs Q E hr h => by
      obtain ⟨x, dx, h1, h2, h3⟩ := super_ok (E2 := E0) (N := ["self", "bits", "count", "first", "last", "total", "least", "greatest", "__class__"]) (Dc := CE) (g2 := gP) (tA := a_Entry_init K) (t := r_Entry_init K) (fun es ns l hg => w_Entry_init TE hg) h
      exact ⟨x, CE, dx, [], E0, _, _, h1, h2, ⟨sup, sat⟩, pass0, dera_Entry_init T hr, (der_Entry_init T hr).nox, h3⟩)
  have M_Entry : Mkc P w K mg base 4 "Entry" CE (initSp K CE gE) [] := ⟨fE, _, _, [], ⟨mkCE, aE, iE, kcCE⟩, FE, KK nCE, .all (fun us hl => match us, hl with | [_, _, _, _, _, _, _, _], _ => rfl), .nil⟩
  have G__law_made : Go P w K mg base 6 "_law_made" (toSp K (madeSp CQ)) [] := fn_data F21 sc__law_made (fun w es n k h => by obtain ⟨_, _, _, _, _, rfl, _⟩ := h; rfl) B21 (KK a21) (fun cdv A outer s H E hr => der__law_made T M_Question hr) (fun w es n k h => w__law_made h)
  have G__law_pen : Go P w K mg base 1 "_law_pen" (penSp K) [] := ⟨f18, _, ["script"], [], F18.ok sc__law_pen (fun vs H Q E h => by obtain ⟨_, _, rfl, _⟩ := h; rfl) (fun cdv A outer s H vs Q E hr h => by
    obtain ⟨a, ns, rfl, hS, hl, hk⟩ := h
    exact ⟨_, der__law_pen T hr, pen_ok hS hl rfl hk⟩), KK a18, F18.kp, B18, .nil⟩
  exact ⟨_, der_law T G__law_pen G__law_hole G__law_draw G__law_question G__law_tried G_points_in G__law_made K_points_in G__law_span G__law_pick M1_Question M_Entry hr hgd, law_reads hS hl hQ⟩
end K51
open PySem PySem.W PyProof.Rows in
set_option maxRecDepth 100000 in
set_option maxHeartbeats 0 in
theorem PySem.Challenge.cw_askedcodes_k51_points_of_lost_blocks_at_holds : PySem.Challenge.rw_askedcodes_k51_points_of_lost_blocks_at.Holds := by
  w_on; o_law; k_head; (case hw => w_witness2)
  k_fill
  refine DW.walk_at (n := 63) (sp := fun w => K51.lawSp _) (l := PySem.Challenge.rw_askedcodes_k51_points_of_lost_blocks_at) rfl (by decide) rfl (fun w h Y => PySem.W.kIn_of Y) ?F (fun w H a ns hl hS => ⟨a, ns, rfl, hS, hl, fun _ => rfl⟩)
  case F =>
    intro w mg fa h KX G hmg
    refine' K51.all_mk KX G hmg ?a0 ?l0 ?c0 ?k0 ?a1 ?l1 ?c1 ?k1 ?a2 ?l2 ?c2 ?k2 ?a3 ?l3 ?c3 ?k3 ?a4 ?l4 ?c4 ?k4 ?a5 ?l5 ?c5 ?k5 ?a6 ?l6 ?c6 ?k6 ?a7 ?l7 ?c7 ?k7 ?a8 ?l8 ?c8 ?k8 ?a9 ?l9 ?c9 ?k9 ?a10 ?l10 ?c10 ?k10 ?a11 ?l11 ?c11 ?k11 ?a12 ?l12 ?c12 ?k12 ?a13 ?l13 ?c13 ?k13 ?a14 ?l14 ?c14 ?k14 ?a15 ?l15 ?c15 ?k15 ?a16 ?l16 ?c16 ?k16 ?a17 ?l17 ?c17 ?k17 ?a18 ?l18 ?c18 ?k18 ?a19 ?l19 ?c19 ?k19 ?a20 ?l20 ?c20 ?k20 ?a21 ?l21 ?c21 ?k21 ?a22 ?l22 ?c22 ?k22 ?aN ?lN ?cN ?kN ?tN1 ?nCE ?pgCE ?hdCE ?poCE ?saCE ?mkCE ?kcCE ?naCE0 ?naCE1 ?naCE2 ?naCE3 ?naCE4 ?naCE5 ?naCE6 ?naCE7 ?naCE8 ?haCE ?omCE ?nCQ ?pgCQ ?hdCQ ?poCQ ?saCQ ?mkCQ ?kcCQ ?naCQ0 ?naCQ1 ?naCQ2 ?naCQ3 ?naCQ4 ?haCQ ?omCQ ?hn ?ht ?aQ ?lQ ?cQ ?kQ ?iQ ?tQ1 ?aE ?iE ?lE ?cE ?dcl ?cdl ?vs2 ?fil ?ccl ?opq ?sup ?sat ?tyP ?fiP ?topS ?nsup ?lP ?cP ?b_abs ?b_all ?b_bool ?b_dict ?b_int ?b_isinstance ?b_len ?b_list ?b_max ?b_min ?b_range ?b_repr ?b_sorted ?b_str ?b_tuple ?b_zip ?g_FIELDS ?g_MOMENTS ?g_MOST_LISTED ?g_MOST_MOMENT ?g_MOST_NUMBER ?g_POINTS ?g_VALUES ?g_ASKED ?lA ?hr9
    (case a0 => k_is)
    (case l0 => k_is)
    (case c0 => k_is)
    (case k0 => k_is)
    (case a1 => k_is)
    (case l1 => k_is)
    (case c1 => k_is)
    (case k1 => k_is)
    (case a2 => k_is)
    (case l2 => k_is)
    (case c2 => k_is)
    (case k2 => k_is)
    (case a3 => k_is)
    (case l3 => k_is)
    (case c3 => k_is)
    (case k3 => k_is)
    (case a4 => k_is)
    (case l4 => k_is)
    (case c4 => k_is)
    (case k4 => k_is)
    (case a5 => k_is)
    (case l5 => k_is)
    (case c5 => k_is)
    (case k5 => k_is)
    (case a6 => k_is)
    (case l6 => k_is)
    (case c6 => k_is)
    (case k6 => k_is)
    (case a7 => k_is)
    (case l7 => k_is)
    (case c7 => k_is)
    (case k7 => k_is)
    (case a8 => k_is)
    (case l8 => k_is)
    (case c8 => k_is)
    (case k8 => k_is)
    (case a9 => k_is)
    (case l9 => k_is)
    (case c9 => k_is)
    (case k9 => k_is)
    (case a10 => k_is)
    (case l10 => k_is)
    (case c10 => k_is)
    (case k10 => k_is)
    (case a11 => k_is)
    (case l11 => k_is)
    (case c11 => k_is)
    (case k11 => k_is)
    (case a12 => k_is)
    (case l12 => k_is)
    (case c12 => k_is)
    (case k12 => k_is)
    (case a13 => k_is)
    (case l13 => k_is)
    (case c13 => k_is)
    (case k13 => k_is)
    (case a14 => k_is)
    (case l14 => k_is)
    (case c14 => k_is)
    (case k14 => k_is)
    (case a15 => k_is)
    (case l15 => k_is)
    (case c15 => k_is)
    (case k15 => k_is)
    (case a16 => k_is)
    (case l16 => k_is)
    (case c16 => k_is)
    (case k16 => k_is)
    (case a17 => k_is)
    (case l17 => k_is)
    (case c17 => k_is)
    (case k17 => k_is)
    (case a18 => k_is)
    (case l18 => k_is)
    (case c18 => k_is)
    (case k18 => k_is)
    (case a19 => k_is)
    (case l19 => k_is)
    (case c19 => k_is)
    (case k19 => k_is)
    (case a20 => k_is)
    (case l20 => k_is)
    (case c20 => k_is)
    (case k20 => k_is)
    (case a21 => k_is)
    (case l21 => k_is)
    (case c21 => k_is)
    (case k21 => k_is)
    (case a22 => k_is)
    (case l22 => k_is)
    (case c22 => k_is)
    (case k22 => k_is)
    (case aN => k_is)
    (case lN => k_is)
    (case cN => k_is)
    (case kN => k_is)
    (case tN1 => k_is)
    (case nCE => k_is)
    (case pgCE => k_is)
    (case hdCE => k_is)
    (case poCE => k_is)
    (case saCE => k_is)
    (case mkCE => k_is)
    (case kcCE => k_is)
    (case naCE0 => k_is)
    (case naCE1 => k_is)
    (case naCE2 => k_is)
    (case naCE3 => k_is)
    (case naCE4 => k_is)
    (case naCE5 => k_is)
    (case naCE6 => k_is)
    (case naCE7 => k_is)
    (case naCE8 => k_is)
    (case haCE => k_is)
    (case omCE => k_is)
    (case nCQ => k_is)
    (case pgCQ => k_is)
    (case hdCQ => k_is)
    (case poCQ => k_is)
    (case saCQ => k_is)
    (case mkCQ => k_is)
    (case kcCQ => k_is)
    (case naCQ0 => k_is)
    (case naCQ1 => k_is)
    (case naCQ2 => k_is)
    (case naCQ3 => k_is)
    (case naCQ4 => k_is)
    (case haCQ => k_is)
    (case omCQ => k_is)
    (case hn => k_is)
    (case ht => k_is)
    (case aQ => k_is)
    (case lQ => k_is)
    (case cQ => k_is)
    (case kQ => k_is)
    (case iQ => k_is)
    (case tQ1 => k_is)
    (case aE => k_is)
    (case iE => k_is)
    (case lE => k_is)
    (case cE => k_is)
    (case dcl => k_is)
    (case cdl => k_is)
    (case vs2 => rfl)
    (case fil => first | rfl | decide +kernel)
    (case ccl => k_is)
    (case opq => k_is)
    (case sup => k_is)
    (case sat => ks_is)
    (case tyP => k_is)
    (case fiP => k_is)
    (case topS => first | rfl | decide +kernel)
    (case nsup => k_is)
    (case lP => k_is)
    (case cP => k_is)
    (case b_abs => k_is)
    (case b_all => k_is)
    (case b_bool => k_is)
    (case b_dict => k_is)
    (case b_int => k_is)
    (case b_isinstance => k_is)
    (case b_len => k_is)
    (case b_list => k_is)
    (case b_max => k_is)
    (case b_min => k_is)
    (case b_range => k_is)
    (case b_repr => k_is)
    (case b_sorted => k_is)
    (case b_str => k_is)
    (case b_tuple => k_is)
    (case b_zip => k_is)
    (case g_FIELDS => k_is)
    (case g_MOMENTS => k_is)
    (case g_MOST_LISTED => k_is)
    (case g_MOST_MOMENT => k_is)
    (case g_MOST_NUMBER => k_is)
    (case g_POINTS => k_is)
    (case g_VALUES => k_is)
    (case g_ASKED => k_is)
    (case lA => k_is)
    (case hr9 => exact ⟨by decide, by decide, by decide⟩)
