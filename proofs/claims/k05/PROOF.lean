import PyProof.Rows.All
import Wide.All
import OpenK.AllK
import Wide.FinOn
import HandS.ForMost
import HandS.ForExc
import HandS.Wide
import HandS.Conv
import HandS.TupAny
import HandS.Deep
import HandS.Style
import HandS.IsInst
import HandS.RaiseMore
import HandS.Replace
import HandS.More
import HandS.Ends
import PyProof.ReprRoads
import HandS.Words
import PySem.Challenge.RW_onemeaning_k05_slim_rules
set_option Elab.async false
set_option linter.all false
set_option autoImplicit false
set_option maxRecDepth 100000
set_option maxHeartbeats 4000000
namespace Pv
open PySem PySem.Spec PyProof.Rows L2

/-! deep plain values -/
abbrev Sg := L2.St
inductive D where
  | non
  | bl (b : Bool)
  | int (i : Int)
  | str (l : List Nat)
  | lst (xs : List D)
  | tup (xs : List D)
  | dct (kvs : List (D × D))
  | obj (c : Addr) (fs : List (Str × D))
instance : Inhabited D := ⟨.non⟩

/-- a text of these signs -/
def mkS (l : List Nat) : Str := ⟨l.toArray⟩
structure StrG (l : List Nat) : Prop where
  len : l.length ≤ sizeLine
  cps : ∀ c ∈ l, c < 0x110000
def kD : Key → D
  | .inl i => .int i
  | .inr x => .str x.cps.toList
def tD (k : List Key) : D := .tup (k.map kD)

/-! a value stands for a D -/
mutual
inductive Rp (K : PySem.W.Frag) (H : Hp) : V → D → Prop
  | non : Rp K H .non .non
  | bl (b : Bool) : Rp K H (.bl b) (.bl b)
  | int (i : Int) : Rp K H (.int i) (.int i)
  | str (l : List Nat) (g : StrG l) : Rp K H (.str (mkS l)) (.str l)
  | lst {a : Addr} {xs : List V} {ds : List D} (h : SqL K H a xs) (r : RpL K H xs ds) : Rp K H (.ref a) (.lst ds)
  | tup {a : Addr} {xs : List V} {ds : List D} (h : H a = some (.tup xs)) (r : RpL K H xs ds) : Rp K H (.ref a) (.tup ds)
  | dk {a : Addr} {kvs : List (Key × V)} {ds : List D} {m : List (D × D)} (h : Rd H a (.dK kvs)) (r : RpL K H (kvs.map (·.2)) ds) (e : m = (kvs.map fun q => kD q.1).zip ds) : Rp K H (.ref a) (.dct m)
  | dt {a : Addr} {kvs : List (List Key × V)} {ds : List D} {m : List (D × D)} (h : Rd H a (.dT kvs)) (r : RpL K H (kvs.map (·.2)) ds) (e : m = (kvs.map fun q => tD q.1).zip ds) : Rp K H (.ref a) (.dct m)
  | ins {a C dx : Addr} {fs : List (Str × V)} {ds : List D} {m : List (Str × D)} (h : H a = some (.ins C dx fs)) (r : RpL K H (fs.map (·.2)) ds) (e : m = (fs.map (·.1)).zip ds) : Rp K H (.ref a) (.obj C m)
inductive RpL (K : PySem.W.Frag) (H : Hp) : List V → List D → Prop
  | nil : RpL K H [] []
  | cons {v : V} {vs : List V} {d : D} {ds : List D} (h : Rp K H v d) (r : RpL K H vs ds) : RpL K H (v :: vs) (d :: ds)
end

theorem Same.rd {H H' : Hp} (e : L2.Same H H') {a : Addr} {u : HO} (h : Rd H a u) : Rd H' a u := by
  rcases h with h | ⟨o, h⟩
  · exact .inl (e _ _ h)
  · exact .inr ⟨o, e _ _ h⟩
theorem Same.sqt {K : PySem.W.Frag} {H H' : Hp} {a : Addr} {xs : List V} (e : L2.Same H H') (h : SqT K H a xs) : SqT K H' a xs := by
  rcases h with h | h
  · exact .inl (Same.rd e h)
  · exact .inr h
mutual
theorem Rp.mono {K : PySem.W.Frag} {H H' : Hp} (e : L2.Same H H') : ∀ {v : V} {d : D}, Rp K H v d → Rp K H' v d
  | _, _, .non => .non
  | _, _, .bl b => .bl b
  | _, _, .int i => .int i
  | _, _, .str x g => .str x g
  | _, _, .lst h r => .lst (e.seq h) (RpL.mono e r)
  | _, _, .tup h r => .tup (e _ _ h) (RpL.mono e r)
  | _, _, .dk h r q => .dk (Same.rd e h) (RpL.mono e r) q
  | _, _, .dt h r q => .dt (Same.rd e h) (RpL.mono e r) q
  | _, _, .ins h r q => .ins (e _ _ h) (RpL.mono e r) q
theorem RpL.mono {K : PySem.W.Frag} {H H' : Hp} (e : L2.Same H H') : ∀ {vs : List V} {ds : List D}, RpL K H vs ds → RpL K H' vs ds
  | _, _, .nil => .nil
  | _, _, .cons h r => .cons (Rp.mono e h) (RpL.mono e r)
end
section
variable {K : PySem.W.Frag} {H : Hp}
theorem RpL.length : ∀ {vs : List V} {ds : List D}, RpL K H vs ds → vs.length = ds.length
  | _, _, .nil => rfl
  | _, _, .cons _ r => congrArg (· + 1) (RpL.length r)
theorem RpL.get : ∀ {vs : List V} {ds : List D} {i : Nat} {d : D}, RpL K H vs ds → ds[i]? = some d → ∃ v, vs[i]? = some v ∧ Rp K H v d
  | _, _, _, _, .nil, e => by simp at e
  | _, _, 0, _, .cons h _, e => by simp at e; subst e; exact ⟨_, rfl, h⟩
  | _, _, i + 1, d, .cons _ r, e => by
    obtain ⟨v, h1, h2⟩ := RpL.get (i := i) (d := d) r (by simpa using e)
    exact ⟨v, by simpa using h1, h2⟩
theorem RpL.app : ∀ {vs ws : List V} {ds es : List D}, RpL K H vs ds → RpL K H ws es → RpL K H (vs ++ ws) (ds ++ es)
  | _, _, _, _, .nil, s => s
  | _, _, _, _, .cons h r, s => .cons h (RpL.app r s)
theorem RpL.take : ∀ {vs : List V} {ds : List D} (n : Nat), RpL K H vs ds → RpL K H (vs.take n) (ds.take n)
  | _, _, 0, _ => .nil
  | _, _, _ + 1, .nil => .nil
  | _, _, n + 1, .cons h r => .cons h (RpL.take n r)
theorem RpL.drop : ∀ {vs : List V} {ds : List D} (n : Nat), RpL K H vs ds → RpL K H (vs.drop n) (ds.drop n)
  | _, _, 0, r => r
  | _, _, _ + 1, .nil => .nil
  | _, _, n + 1, .cons _ r => RpL.drop n r
theorem RpL.set {v : V} {d : D} (q : Rp K H v d) : ∀ {vs : List V} {ds : List D} (i : Nat), RpL K H vs ds → RpL K H (vs.set i v) (ds.set i d)
  | _, _, _, .nil => .nil
  | _, _, 0, .cons _ r => .cons q r
  | _, _, i + 1, .cons h r => .cons h (RpL.set q i r)
theorem RpL.one {v : V} {d : D} (q : Rp K H v d) : RpL K H [v] [d] := .cons q .nil
theorem RpL.rev : ∀ {vs : List V} {ds : List D}, RpL K H vs ds → RpL K H vs.reverse ds.reverse
  | _, _, .nil => .nil
  | _, _, .cons h r => by
    rw [List.reverse_cons, List.reverse_cons]
    exact RpL.app (RpL.rev r) (.one h)
theorem RpL.ints : ∀ (ns : List Int), RpL K H (ns.map V.int) (ns.map D.int)
  | [] => .nil
  | n :: ns => .cons (.int n) (RpL.ints ns)
theorem RpL.strs : ∀ (ns : List (List Nat)), (∀ l ∈ ns, StrG l) → RpL K H (ns.map fun l => V.str (mkS l)) (ns.map D.str)
  | [], _ => .nil
  | n :: ns, h => .cons (.str n (h n List.mem_cons_self)) (RpL.strs ns fun l hl => h l (List.mem_cons_of_mem _ hl))
end

/-! results -/
/-- an equation whose proof is kept -/
theorem nd {α : Sort _} {a b : α} (h : a = b) : a = b := h
abbrev Exn := Addr × List (Str × D)
inductive R (α : Type) where
  | ok (a : α)
  | ex (x : Exn)
  | bad
def R.bind {α β : Type} (r : R α) (f : α → R β) : R β := match r with
  | .ok a => f a
  | .ex x => .ex x
  | .bad => .bad
instance : Monad R where
  pure := .ok
  bind := R.bind
@[simp] theorem R.bind_ok {α β : Type} (a : α) (f : α → R β) : (R.ok a >>= f) = f a := nd rfl
@[simp] theorem R.bind_ex {α β : Type} (x : Exn) (f : α → R β) : (R.ex x >>= f) = R.ex x := nd rfl
@[simp] theorem R.bind_bad {α β : Type} (f : α → R β) : ((R.bad : R α) >>= f) = R.bad := nd rfl
@[simp] theorem R.pure_ok {α : Type} (a : α) : (pure a : R α) = R.ok a := nd rfl
def R.sat {α : Type} (r : R α) (P : α → Prop) (N : Exn → Prop) : Prop := match r with
  | .ok a => P a
  | .ex x => N x
  | .bad => False
theorem R.sat_bind {α β : Type} {r : R α} {f : α → R β} {P : β → Prop} {N : Exn → Prop} : (r >>= f).sat P N ↔ r.sat (fun a => (f a).sat P N) N := by
  cases r <;> exact Iff.rfl
theorem R.sat_mono {α : Type} {r : R α} {P P' : α → Prop} {N N' : Exn → Prop} (h : r.sat P N) (hp : ∀ a, P a → P' a) (hn : ∀ x, N x → N' x) : r.sat P' N' := by
  cases r with
  | ok a => exact hp a h
  | ex x => exact hn x h
  | bad => exact h

/-! environments, ownership, the relation of states -/
abbrev En := List (Option D)
abbrev Ms := List Bool
def Ms.at (μ : Ms) (i : Nat) : Bool := μ.getD i false
/-- what stands at an owned address -/
def RpO (K : PySem.W.Frag) (H0 : Hp) : HO → D → Prop
  | .lst vs, .lst ds => RpL K H0 vs ds
  | .dK kvs, .dct m => ∃ ds, RpL K H0 (kvs.map (·.2)) ds ∧ m = (kvs.map fun q => kD q.1).zip ds
  | .dT kvs, .dct m => ∃ ds, RpL K H0 (kvs.map (·.2)) ds ∧ m = (kvs.map fun q => tD q.1).zip ds
  | _, _ => False
theorem RpO.mono {K : PySem.W.Frag} {H H' : Hp} (e : L2.Same H H') {o : HO} {d : D} (h : RpO K H o d) : RpO K H' o d := by
  cases o <;> cases d <;> try exact h
  · exact RpL.mono e h
  · obtain ⟨ds, h, q⟩ := h; exact ⟨ds, RpL.mono e h, q⟩
  · obtain ⟨ds, h, q⟩ := h; exact ⟨ds, RpL.mono e h, q⟩
theorem RpO.shared {K : PySem.W.Frag} {H0 H1 : Hp} {a : Addr} {o : HO} {d : D} (h : RpO K H0 o d) (e : L2.Same H0 H1) (ha : H1 a = some o) : Rp K H1 (.ref a) d := by
  cases o <;> cases d <;> try exact h.elim
  · exact .lst (.of ha) (RpL.mono e h)
  · obtain ⟨ds, h, q⟩ := h; exact .dk (.inl ha) (RpL.mono e h) q
  · obtain ⟨ds, h, q⟩ := h; exact .dt (.inl ha) (RpL.mono e h) q
theorem RpO.mut {K : PySem.W.Frag} {H0 : Hp} {o : HO} {d : D} (h : RpO K H0 o d) : Mut (some o) := by
  cases o <;> cases d <;> first | exact h.elim | trivial

/-- what is fixed for a place in a body: the two heaps at the def's entry (what the arguments lean on; all), the locked slots, the ownership at a loop's head, at a raise, the wish about exceptions, whether the def hands back an object of its own -/
structure Pm where
  G : Hp
  Hin : Hp
  lk : List Nat
  ml : Ms
  mx : Ms
  W : WX
  rm : Bool
def SlOk (K : PySem.W.Frag) (p : Pm) (H0 H : Hp) (b : Bool) (v : V) (d : D) : Prop := match b with
  | false => Rp K H0 v d
  | true => ∃ a o, v = .ref a ∧ H a = some o ∧ H0 a = none ∧ p.Hin a = none ∧ RpO K H0 o d
structure SR (K : PySem.W.Frag) (p : Pm) (H0 : Hp) (μ : Ms) (ρ : En) (σ : Sg) (H : Hp) : Prop where
  g0 : L2.Same p.G H0
  hh : L2.Same p.Hin H
  sub : L2.Same H0 H
  fr : ∀ b o, p.Hin b = some o → Mut (some o) → p.G b = none → H0 b = none
  len : ρ.length = σ.length
  sl : ∀ i d, ρ[i]? = some (some d) → ∃ v, σ[i]? = some (some v) ∧ SlOk K p H0 H (μ.at i) v d
  dj : ∀ i j d e a, i ≠ j → μ.at i = true → μ.at j = true → ρ[i]? = some (some d) → ρ[j]? = some (some e) → σ[i]? = some (some (.ref a)) → σ[j]? = some (some (.ref a)) → False

/-- from H0, H on, expressions only add -/
structure Adv (K : PySem.W.Frag) (p : Pm) (μ : Ms) (ρ : En) (σ : Sg) (H0 H H0' H' : Hp) : Prop where
  s0 : L2.Same H0 H0'
  s1 : L2.Same H H'
  ow : ∀ b o, H b = some o → Mut (some o) → H0 b = none → H0' b = none
  sr : SR K p H0' μ ρ σ H'
theorem Adv.refl {K : PySem.W.Frag} {p : Pm} {μ : Ms} {ρ : En} {σ : Sg} {H0 H : Hp} (s : SR K p H0 μ ρ σ H) : Adv K p μ ρ σ H0 H H0 H := ⟨.refl _, .refl _, fun _ _ _ _ z => z, s⟩
theorem Adv.trans {K : PySem.W.Frag} {p : Pm} {μ : Ms} {ρ : En} {σ : Sg} {H0 H H1 H1' H2 H2' : Hp} (a : Adv K p μ ρ σ H0 H H1 H1') (b : Adv K p μ ρ σ H1 H1' H2 H2') : Adv K p μ ρ σ H0 H H2 H2' :=
  ⟨a.s0.trans b.s0, a.s1.trans b.s1, fun c o e m z => b.ow c o (a.s1 c o e) m (a.ow c o e m z), b.sr⟩

/-- an exception's class and fields -/
def XR (K : PySem.W.Frag) (H0 H : Hp) (x : Exn) (cls : Value) (d : Option Addr) : Prop := cls = .ref x.1 ∧ match d with
  | none => x.2 = []
  | some dd => ∃ (fs : List (Str × V)) (ds : List D), H dd = some (.xd fs) ∧ RpL K H0 (fs.map (·.2)) ds ∧ x.2 = (fs.map (·.1)).zip ds
/-- ownership may only be given up -/
def Ms.le (μ μ' : Ms) : Bool := (List.range μ'.length).all fun i => !μ'.at i || μ.at i
theorem Ms.le_at {μ μ' : Ms} (h : Ms.le μ μ' = true) (i : Nat) (hi : μ'.at i = true) : μ.at i = true := by
  unfold Ms.le at h
  rw [List.all_eq_true] at h
  have hl : i < μ'.length := by
    apply Classical.byContradiction; intro z
    unfold Ms.at at hi
    rw [List.getD_eq_getElem?_getD, List.getElem?_eq_none (by omega)] at hi
    simp at hi
  have := h i (List.mem_range.mpr hl)
  rw [hi] at this
  simpa using this

def NX (K : PySem.W.Frag) (p : Pm) (ρ : En) (σ : Sg) (x : Exn) : Prop := ∀ cls d H0' H', SR K p H0' p.mx ρ σ H' → XR K H0' H' x cls d → p.W cls d σ H'
/-- an expression's reading by its function -/
def tE (K : PySem.W.Frag) (p : Pm) (μ : Ms) (f : En → R D) : TE := fun σ H Q => ∃ H0 ρ, SR K p H0 μ ρ σ H ∧
  (f ρ).sat (fun d => ∀ v H0' H', Adv K p μ ρ σ H0 H H0' H' → Rp K H0' v d → Q v H') (NX K p ρ σ)
def EX (X : Cx) (p : Pm) (μ : Ms) (e : Expr) (f : En → R D) : Prop := PE X e (tE X.K p μ f)
/-- a borrowed value: shared, or what a slot owns -/
def Bor (K : PySem.W.Frag) (H0 : Hp) (μ : Ms) (ρ : En) (σ : Sg) (v : V) (d : D) : Prop :=
  Rp K H0 v d ∨ ∃ i, μ.at i = true ∧ ρ[i]? = some (some d) ∧ σ[i]? = some (some v)
def tB (K : PySem.W.Frag) (p : Pm) (μ : Ms) (f : En → R D) : TE := fun σ H Q => ∃ H0 ρ, SR K p H0 μ ρ σ H ∧
  (f ρ).sat (fun d => ∀ v H0' H', Adv K p μ ρ σ H0 H H0' H' → Bor K H0' μ ρ σ v d → Q v H') (NX K p ρ σ)
def EB (X : Cx) (p : Pm) (μ : Ms) (e : Expr) (f : En → R D) : Prop := PE X e (tB X.K p μ f)
/-- a fresh object -/
def Frs (K : PySem.W.Frag) (p : Pm) (μ : Ms) (ρ : En) (σ : Sg) (Hs H0 H : Hp) (v : V) (d : D) : Prop :=
  ∃ (a : Addr) (o : HO), v = V.ref a ∧ Hs a = none ∧ H a = some o ∧ H0 a = none ∧ p.Hin a = none ∧ RpO K H0 o d ∧ ∀ (i : Nat) (e : D), μ.at i = true → ρ[i]? = some (some e) → σ[i]? ≠ some (some (V.ref a))
def tF (K : PySem.W.Frag) (p : Pm) (μ : Ms) (f : En → R D) : TE := fun σ H Q => ∃ H0 ρ, SR K p H0 μ ρ σ H ∧
  (f ρ).sat (fun d => ∀ v H0' H', Adv K p μ ρ σ H0 H H0' H' → Frs K p μ ρ σ H H0' H' v d → Q v H') (NX K p ρ σ)
def EF (X : Cx) (p : Pm) (μ : Ms) (e : Expr) (f : En → R D) : Prop := PE X e (tF X.K p μ f)
/-- tests -/
def tT (K : PySem.W.Frag) (p : Pm) (μ : Ms) (f : En → R Bool) : TT := fun σ H Q => ∃ H0 ρ, SR K p H0 μ ρ σ H ∧
  (f ρ).sat (fun b => ∀ H0' H', Adv K p μ ρ σ H0 H H0' H' → Q b H') (NX K p ρ σ)
def TX (X : Cx) (p : Pm) (μ : Ms) (e : Expr) (f : En → R Bool) : Prop := PT X e (tT X.K p μ f)
/-- argument lists -/
def tL (K : PySem.W.Frag) (p : Pm) (μ : Ms) (f : En → R (List D)) : TA := fun σ H Q => ∃ H0 ρ, SR K p H0 μ ρ σ H ∧
  (f ρ).sat (fun ds => ∀ vs H0' H', Adv K p μ ρ σ H0 H H0' H' → RpL K H0' vs ds → Q vs H') (NX K p ρ σ)
def AX (X : Cx) (p : Pm) (μ : Ms) (es : List Expr) (f : En → R (List D)) : Prop := PA X es (tL X.K p μ f)
inductive BorL (K : PySem.W.Frag) (H0 : Hp) (μ : Ms) (ρ : En) (σ : Sg) : List V → List D → Prop
  | nil : BorL K H0 μ ρ σ [] []
  | cons {v : V} {vs : List V} {d : D} {ds : List D} (h : Bor K H0 μ ρ σ v d) (r : BorL K H0 μ ρ σ vs ds) : BorL K H0 μ ρ σ (v :: vs) (d :: ds)
def tLB (K : PySem.W.Frag) (p : Pm) (μ : Ms) (f : En → R (List D)) : TA := fun σ H Q => ∃ H0 ρ, SR K p H0 μ ρ σ H ∧
  (f ρ).sat (fun ds => ∀ vs H0' H', Adv K p μ ρ σ H0 H H0' H' → BorL K H0' μ ρ σ vs ds → Q vs H') (NX K p ρ σ)
def AB (X : Cx) (p : Pm) (μ : Ms) (es : List Expr) (f : En → R (List D)) : Prop := PA X es (tLB X.K p μ f)

/-- statements -/
inductive SO where
  | nx (ρ : En)
  | rt (d : D)
  | bk (ρ : En)
  | ct (ρ : En)
  | ex (x : Exn) (ρ : En)
  | bad
def Lks (p : Pm) (ρ : En) (σ : Sg) (ρ' : En) (σ' : Sg) : Prop := ∀ i ∈ p.lk, σ'[i]? = σ[i]? ∧ ρ'[i]? = ρ[i]?
structure Stp (K : PySem.W.Frag) (p : Pm) (μ' : Ms) (ρ : En) (σ : Sg) (H0 : Hp) (ρ' : En) (σ' : Sg) (H0' H' : Hp) : Prop where
  s0 : L2.Same H0 H0'
  lk : Lks p ρ σ ρ' σ'
  sr : SR K p H0' μ' ρ' σ' H'
/-- what a return leaves -/
def Ret (K : PySem.W.Frag) (p : Pm) (H0 H : Hp) (v : V) (d : D) : Prop :=
  L2.Same p.G H0 ∧ L2.Same p.Hin H ∧ L2.Same H0 H ∧ (∀ b o, p.Hin b = some o → Mut (some o) → p.G b = none → H0 b = none) ∧
    match p.rm with
    | false => Rp K H0 v d
    | true => ∃ a o, v = .ref a ∧ H a = some o ∧ H0 a = none ∧ p.Hin a = none ∧ RpO K H0 o d
def SO.go (K : PySem.W.Frag) (p : Pm) (μ' : Ms) (ρ : En) (σ : Sg) (H0 : Hp) (D : Ends) : SO → Prop
  | .nx ρ' => ∀ σ' H0' H', Stp K p μ' ρ σ H0 ρ' σ' H0' H' → D.nx σ' H'
  | .rt d => ∀ v H0' H', Ret K p H0' H' v d → D.rt v H'
  | .bk ρ' => ∀ σ' H0' H', Stp K p p.ml ρ σ H0 ρ' σ' H0' H' → D.bk σ' H'
  | .ct ρ' => ∀ σ' H0' H', Stp K p p.ml ρ σ H0 ρ' σ' H0' H' → D.ct σ' H'
  | .ex x ρ' => ∀ σ', NX K p ρ' σ' x
  | .bad => False
def tS (K : PySem.W.Frag) (p : Pm) (μ μ' : Ms) (f : En → SO) : TS := fun D σ H => ∃ H0 ρ, SR K p H0 μ ρ σ H ∧ (f ρ).go K p μ' ρ σ H0 D
def SX (X : Cx) (p : Pm) (μ μ' : Ms) (st : Stmt) (f : En → SO) : Prop := PS X st (tS X.K p μ μ' f)
def SXs (X : Cx) (p : Pm) (μ μ' : Ms) (st : List Stmt) (f : En → SO) : Prop := PSs X st (tS X.K p μ μ' f)
end Pv

namespace Pv
open PySem PySem.Spec PyProof.Rows L2
open L2 (upd)

/-! weakening a reading -/
theorem PEw {X : Cx} {e : Expr} {t t' : TE} (h : PE X e t) (w : ∀ σ H Q, t' σ H Q → t σ H Q) : PE X e t' := ⟨fun pins s σ H Q I q => h.run pins s σ H Q I (w σ H Q q)⟩
theorem PTw {X : Cx} {e : Expr} {t t' : TT} (h : PT X e t) (w : ∀ σ H Q, t' σ H Q → t σ H Q) : PT X e t' := ⟨fun pins s σ H Q I q => h.run pins s σ H Q I (w σ H Q q)⟩
theorem PAw {X : Cx} {e : List Expr} {t t' : TA} (h : PA X e t) (w : ∀ σ H Q, t' σ H Q → t σ H Q) : PA X e t' := ⟨fun pos pins s σ H Q I q => h.run pos pins s σ H Q I (w σ H Q q)⟩
theorem PSw {X : Cx} {e : Stmt} {t t' : TS} (h : PS X e t) (w : ∀ D σ H, t' D σ H → t D σ H) : PS X e t' := ⟨fun pins s σ H D I q => h.run pins s σ H D I (w D σ H q)⟩
theorem PSsw {X : Cx} {e : List Stmt} {t t' : TS} (h : PSs X e t) (w : ∀ D σ H, t' D σ H → t D σ H) : PSs X e t' := ⟨fun pins s σ H D I q => h.run pins s σ H D I (w D σ H q)⟩

section
variable {K : PySem.W.Frag} {p : Pm} {H0 H : Hp} {μ μ' : Ms} {ρ : En} {σ : Sg}

theorem same_upd {a : Addr} {o : HO} (h : H a = none) : L2.Same H (upd H a o) := fun b x e => by rw [upd_ne (ne_of_none e h)]; exact e
/-- H0 grows within H, away from what is owned -/
theorem SR.grow (s : SR K p H0 μ ρ σ H) {H1 H2 : Hp} (a : L2.Same H0 H1) (b : L2.Same H1 H2) (c : L2.Same H H2) (fr : ∀ b o, p.Hin b = some o → Mut (some o) → p.G b = none → H1 b = none)
    (ow : ∀ b o, H b = some o → Mut (some o) → H0 b = none → H1 b = none) : SR K p H1 μ ρ σ H2 where
  g0 := s.g0.trans a
  hh := s.hh.trans c
  sub := b
  fr := fr
  len := s.len
  sl := fun i d e => by
    obtain ⟨v, ev, q⟩ := s.sl i d e
    refine ⟨v, ev, ?_⟩
    cases hb : μ.at i with
    | false => rw [hb] at q; exact Rp.mono a q
    | true =>
      rw [hb] at q
      obtain ⟨z, o, e1, e2, e3, e4, e5⟩ := q
      exact ⟨z, o, e1, c _ _ e2, ow z o e2 e5.mut e3, e4, e5.mono a⟩
  dj := s.dj
theorem SR.free (s : SR K p H0 μ ρ σ H) {a : Addr} (h : H a = none) : p.Hin a = none ∧ H0 a = none ∧ p.G a = none := ⟨s.hh.free h, s.sub.free h, s.g0.free (s.sub.free h)⟩
/-- a new object, shared at once -/
theorem SR.new (s : SR K p H0 μ ρ σ H) {a : Addr} {o : HO} (h : H a = none) : SR K p (upd H0 a o) μ ρ σ (upd H a o) := by
  obtain ⟨f1, f2, f3⟩ := s.free h
  refine s.grow (same_upd f2) (fun b x e => ?_) (same_upd h) (fun b x e m g => ?_) (fun b u n _ z => ?_)
  · by_cases hb : b = a
    · subst hb; rw [upd_same] at e ⊢; exact e
    · rw [upd_ne hb] at e ⊢; exact s.sub _ _ e
  · have hb : b ≠ a := fun z => by subst z; rw [f1] at e; cases e
    rw [upd_ne hb]; exact s.fr b x e m g
  · have hb : b ≠ a := fun y => by subst y; rw [h] at n; cases n
    rw [upd_ne hb]; exact z
/-- a new object, not yet shared -/
theorem SR.hold (s : SR K p H0 μ ρ σ H) {H2 : Hp} (c : L2.Same H H2) : SR K p H0 μ ρ σ H2 :=
  s.grow (.refl _) (s.sub.trans c) c s.fr fun _ _ _ _ z => z
theorem SR.adv_new (s : SR K p H0 μ ρ σ H) {a : Addr} {o : HO} (h : H a = none) : Adv K p μ ρ σ H0 H (upd H0 a o) (upd H a o) := ⟨same_upd (s.free h).2.1, same_upd h, fun b x e _ z => by
  have hb : b ≠ a := fun y => by subst y; rw [h] at e; cases e
  rw [upd_ne hb]; exact z, s.new h⟩
theorem SR.adv_hold (s : SR K p H0 μ ρ σ H) {a : Addr} {o : HO} (h : H a = none) : Adv K p μ ρ σ H0 H H0 (upd H a o) := ⟨.refl _, same_upd h, fun _ _ _ _ z => z, s.hold (same_upd h)⟩
/-- an object in H that no slot holds becomes shared -/
theorem SR.share (s : SR K p H0 μ ρ σ H) {a : Addr} {o : HO} (h : H a = some o) (h0 : H0 a = none) (hi : p.Hin a = none) (hn : ∀ (i : Nat) (e : D), μ.at i = true → ρ[i]? = some (some e) → σ[i]? ≠ some (some (V.ref a))) : SR K p (upd H0 a o) μ ρ σ H where
  g0 := s.g0.trans (same_upd h0)
  hh := s.hh
  sub := fun b x e => by
    by_cases hb : b = a
    · subst hb; rw [upd_same] at e; rw [h]; exact e
    · rw [upd_ne hb] at e; exact s.sub _ _ e
  fr := fun b x e m g => by
    have hb : b ≠ a := fun z => by subst z; rw [hi] at e; cases e
    rw [upd_ne hb]; exact s.fr b x e m g
  len := s.len
  sl := fun i d e => by
    obtain ⟨v, ev, q⟩ := s.sl i d e
    refine ⟨v, ev, ?_⟩
    cases hb : μ.at i with
    | false => rw [hb] at q; exact Rp.mono (same_upd h0) q
    | true =>
      rw [hb] at q
      obtain ⟨z, u, e1, e2, e3, e4, e5⟩ := q
      have hz : z ≠ a := fun y => by subst y; subst e1; exact hn i d hb e ev
      exact ⟨z, u, e1, e2, by rw [upd_ne hz]; exact e3, e4, e5.mono (same_upd h0)⟩
  dj := s.dj
/-- ownership given up -/
theorem SR.weak (s : SR K p H0 μ ρ σ H) (hle : Ms.le μ μ' = true) : ∃ H1, L2.Same H0 H1 ∧ SR K p H1 μ' ρ σ H := by
  classical
  let F : Addr → Prop := fun a => ∃ i d, μ.at i = true ∧ μ'.at i = false ∧ ρ[i]? = some (some d) ∧ σ[i]? = some (some (.ref a))
  have hF : ∀ a, F a → ∃ o, H a = some o ∧ H0 a = none ∧ p.Hin a = none := by
    rintro a ⟨i, d, h1, h2, h3, h4⟩
    obtain ⟨v, ev, q⟩ := s.sl i d h3
    rw [h1] at q
    obtain ⟨z, o, e1, e2, e3, e4, e5⟩ := q
    rw [h4] at ev
    have : v = .ref a := by simpa using ev.symm
    rw [this] at e1
    have : a = z := by simpa using e1
    subst this
    exact ⟨o, e2, e3, e4⟩
  let H1 : Hp := fun b => if F b then H b else H0 b
  have e0 : L2.Same H0 H1 := fun b x e => by
    show (if F b then H b else H0 b) = _
    by_cases hb : F b
    · obtain ⟨o, _, z, _⟩ := hF b hb; rw [z] at e; cases e
    · rw [if_neg hb]; exact e
  refine ⟨H1, e0, s.g0.trans e0, s.hh, fun b x e => ?_, fun b x e m g => ?_, s.len, fun i d e => ?_, fun i j d e a hij hi hj => s.dj i j d e a hij (Ms.le_at hle i hi) (Ms.le_at hle j hj)⟩
  · have e : (if F b then H b else H0 b) = some x := e
    by_cases hb : F b
    · rw [if_pos hb] at e; exact e
    · rw [if_neg hb] at e; exact s.sub _ _ e
  · show (if F b then H b else H0 b) = _
    by_cases hb : F b
    · obtain ⟨o, _, _, z⟩ := hF b hb; rw [z] at e; cases e
    · rw [if_neg hb]; exact s.fr b x e m g
  · obtain ⟨v, ev, q⟩ := s.sl i d e
    refine ⟨v, ev, ?_⟩
    cases hb : μ.at i with
    | false =>
      rw [hb] at q
      have : μ'.at i = false := by
        cases hc : μ'.at i with
        | false => rfl
        | true => rw [Ms.le_at hle i hc] at hb; cases hb
      rw [this]
      exact Rp.mono e0 q
    | true =>
      rw [hb] at q
      obtain ⟨z, u, e1, e2, e3, e4, e5⟩ := q
      subst e1
      cases hc : μ'.at i with
      | true =>
        refine ⟨z, u, rfl, e2, ?_, e4, e5.mono e0⟩
        show (if F z then H z else H0 z) = _
        have hn : ¬ F z := by
          rintro ⟨j, d', h1, h2, h3, h4⟩
          have hij : i ≠ j := fun y => by subst y; rw [hc] at h2; cases h2
          exact s.dj i j d d' z hij hb h1 e h3 ev h4
        rw [if_neg hn]; exact e3
      | false =>
        refine e5.shared e0 ?_
        show (if F z then H z else H0 z) = _
        rw [if_pos ⟨i, d, hb, hc, e, ev⟩]; exact e2
/-! borrowed values -/
theorem Bor.whole (s : SR K p H0 μ ρ σ H) {v : V} {d : D} (b : Bor K H0 μ ρ σ v d) : Rp K H v d := by
  rcases b with b | ⟨i, h1, h2, h3⟩
  · exact Rp.mono s.sub b
  · obtain ⟨w, e, q⟩ := s.sl i d h2
    rw [h1] at q
    obtain ⟨z, o, e1, e2, e3, e4, e5⟩ := q
    rw [h3] at e
    have : v = w := by simpa using e
    subst this; subst e1
    exact e5.shared s.sub e2
theorem Bor.lst (s : SR K p H0 μ ρ σ H) {v : V} {ds : List D} (b : Bor K H0 μ ρ σ v (.lst ds)) : ∃ a xs, v = .ref a ∧ SqL K H a xs ∧ RpL K H0 xs ds := by
  rcases b with b | ⟨i, h1, h2, h3⟩
  · cases b with
    | lst h r => exact ⟨_, _, rfl, s.sub.seq h, r⟩
  · obtain ⟨w, e, q⟩ := s.sl i _ h2
    rw [h1] at q
    obtain ⟨z, o, e1, e2, e3, e4, e5⟩ := q
    rw [h3] at e
    have : v = w := by simpa using e
    subst this; subst e1
    cases o with
    | lst vs => exact ⟨_, _, rfl, .of e2, e5⟩
    | _ => exact e5.elim
theorem Bor.tup (s : SR K p H0 μ ρ σ H) {v : V} {ds : List D} (b : Bor K H0 μ ρ σ v (.tup ds)) : ∃ a xs, v = .ref a ∧ SqT K H a xs ∧ RpL K H0 xs ds ∧ H0 a = some (.tup xs) := by
  rcases b with b | ⟨i, h1, h2, h3⟩
  · cases b with
    | tup h r => exact ⟨_, _, rfl, .of (s.sub _ _ h), r, h⟩
  · obtain ⟨w, e, q⟩ := s.sl i _ h2
    rw [h1] at q
    obtain ⟨z, o, e1, e2, e3, e4, e5⟩ := q
    cases o <;> exact e5.elim
def D.big : D → Bool
  | .lst _ => true
  | .dct _ => true
  | _ => false
theorem Bor.small {v : V} {d : D} (s : SR K p H0 μ ρ σ H) (b : Bor K H0 μ ρ σ v d) (h : d.big = false) : Rp K H0 v d := by
  rcases b with b | ⟨i, h1, h2, h3⟩
  · exact b
  · obtain ⟨w, e, q⟩ := s.sl i _ h2
    rw [h1] at q
    obtain ⟨z, o, e1, e2, e3, e4, e5⟩ := q
    cases o <;> cases d <;> first | exact e5.elim | cases h
theorem Bor.int (s : SR K p H0 μ ρ σ H) {v : V} {i : Int} (b : Bor K H0 μ ρ σ v (.int i)) : v = .int i := by
  have := b.small s rfl
  cases this; rfl
theorem Bor.bl (s : SR K p H0 μ ρ σ H) {v : V} {i : Bool} (b : Bor K H0 μ ρ σ v (.bl i)) : v = .bl i := by
  have := b.small s rfl
  cases this; rfl
theorem Bor.non (s : SR K p H0 μ ρ σ H) {v : V} (b : Bor K H0 μ ρ σ v .non) : v = .non := by
  have := b.small s rfl
  cases this; rfl
theorem Bor.str (s : SR K p H0 μ ρ σ H) {v : V} {l : List Nat} (b : Bor K H0 μ ρ σ v (.str l)) : v = .str (mkS l) ∧ StrG l := by
  have := b.small s rfl
  cases this with
  | str _ g => exact ⟨rfl, g⟩
theorem Bor.adv {v : V} {d : D} {H0' H' : Hp} (b : Bor K H0 μ ρ σ v d) (a : Adv K p μ ρ σ H0 H H0' H') : Bor K H0' μ ρ σ v d := by
  rcases b with b | b
  · exact .inl (Rp.mono a.s0 b)
  · exact .inr b
end
end Pv

namespace Pv
open PySem PySem.Spec PyProof.Rows L2
open L2 (upd)

section
variable {X : Cx} {p : Pm} {μ : Ms} {e a b c : Expr} {es : List Expr} {f fa fb fc : En → R D} {pos : Pos}

theorem EX.bor (h : EX X p μ e f) : EB X p μ e f := PEw h fun σ H Q ⟨H0, ρ, s, q⟩ => ⟨H0, ρ, s, R.sat_mono q (fun d k v H0' H' ad r => k v H0' H' ad (.inl r)) fun _ n => n⟩
theorem EF.shr (h : EF X p μ e f) : EX X p μ e f := PEw h fun σ H Q ⟨H0, ρ, s, q⟩ => ⟨H0, ρ, s, R.sat_mono q (fun d k v H0' H' ad r => by
  obtain ⟨z, o, e1, e0, e2, e3, e4, e5, e6⟩ := r
  subst e1
  refine k _ (upd H0' z o) H' ⟨ad.s0.trans (same_upd e3), ad.s1, fun b x e m q => ?_, ad.sr.share e2 e3 e4 e6⟩ ?_
  · have hb : b ≠ z := fun y => by subst y; rw [e0] at e; cases e
    rw [upd_ne hb]; exact ad.ow b x e m q
  exact e5.shared (same_upd e3) upd_same) fun _ n => n⟩

/-! names and constants -/
def fV (i : Nat) : En → R D := fun ρ => match ρ[i]? with
  | some (some d) => .ok d
  | _ => .bad
theorem eb_var {i : Nat} (h : PE X e (tVar i)) : EB X p μ e (fV i) := PEw h fun σ H Q ⟨H0, ρ, s, q⟩ => by
  unfold fV at q
  cases hd : ρ[i]? with
  | none => rw [hd] at q; exact q.elim
  | some z =>
    cases z with
    | none => rw [hd] at q; exact q.elim
    | some d =>
      rw [hd] at q
      obtain ⟨v, ev, k⟩ := s.sl i d hd
      refine ⟨v, ev, q v H0 H (.refl s) ?_⟩
      cases hb : μ.at i with
      | false => rw [hb] at k; exact .inl k
      | true => exact .inr ⟨i, hb, hd, ev⟩
theorem ex_var {i : Nat} (h : PE X e (tVar i)) (hm : μ.at i = false) : EX X p μ e (fV i) := PEw h fun σ H Q ⟨H0, ρ, s, q⟩ => by
  unfold fV at q
  cases hd : ρ[i]? with
  | none => rw [hd] at q; exact q.elim
  | some z =>
    cases z with
    | none => rw [hd] at q; exact q.elim
    | some d =>
      rw [hd] at q
      obtain ⟨v, ev, k⟩ := s.sl i d hd
      rw [hm] at k
      exact ⟨v, ev, q v H0 H (.refl s) k⟩
def fC (d : D) : En → R D := fun _ => .ok d
theorem ex_const {v : V} {d : D} (h : PE X e (tC v)) (r : ∀ H, Rp X.K H v d) : EX X p μ e (fC d) := PEw h fun σ H Q ⟨H0, ρ, s, q⟩ => q v H0 H (.refl s) (r H0)
theorem ex_int {i : Int} {j : Nat} : EX X p μ (.Constant (.int i) j pos) (fC (.int i)) := ex_const pe_int fun _ => .int i
theorem ex_bl {i : Bool} {j : Nat} : EX X p μ (.Constant (.bool i) j pos) (fC (.bl i)) := ex_const pe_bl fun _ => .bl i
theorem ex_non {j : Nat} : EX X p μ (.Constant .none j pos) (fC .non) := ex_const pe_non fun _ => .non
theorem strG_lit {l : List Nat} (h : (decide (l.length ≤ 100000) && l.all fun c => decide (c < 0x110000)) = true) : StrG l := by
  rw [Bool.and_eq_true] at h
  have h1 := of_decide_eq_true h.1
  refine ⟨Nat.le_trans h1 (by rw [sizeLine_eq]; decide), fun c hc => ?_⟩
  exact of_decide_eq_true (List.all_eq_true.mp h.2 c hc)
theorem ex_str {x : Str} {j : Nat} (l : List Nat) (hx : x = mkS l := by decide +kernel) (g : (decide (l.length ≤ 100000) && l.all fun c => decide (c < 0x110000)) = true := by decide +kernel) : EX X p μ (.Constant (.str x) j pos) (fC (.str l)) := by
  subst hx
  exact ex_const pe_str fun _ => .str l (strG_lit g)
/-- a module's constant -/
theorem ex_gstr {x : Str} {u : Value} (l : List Nat) (h : PE X e (tC (.str (mkS l)))) (g : (decide (l.length ≤ 100000) && l.all fun c => decide (c < 0x110000)) = true := by decide +kernel) : EX X p μ e (fC (.str l)) := ex_const h fun _ => .str l (strG_lit g)

/-! two operands by a rule over values -/
def f2 (g : D → D → R D) (fa fb : En → R D) : En → R D := fun ρ => fa ρ >>= fun d => fb ρ >>= fun e => g d e
/-- what an operator's rule is worth over D, the outcome shared -/
def VOp (K : PySem.W.Frag) (p : Pm) (r : R2) (g : D → D → R D) : Prop := ∀ (μ : Ms) (ρ : En) (σ : Sg) (H0 H : Hp) (x y : V) (d e : D) (Q : VK), SR K p H0 μ ρ σ H → Bor K H0 μ ρ σ x d → Bor K H0 μ ρ σ y e →
  (g d e).sat (fun c => ∀ v H0' H', Adv K p μ ρ σ H0 H H0' H' → Rp K H0' v c → Q v H') (fun _ => False) → r x y H Q
def VOpF (K : PySem.W.Frag) (p : Pm) (r : R2) (g : D → D → R D) : Prop := ∀ (μ : Ms) (ρ : En) (σ : Sg) (H0 H : Hp) (x y : V) (d e : D) (Q : VK), SR K p H0 μ ρ σ H → Bor K H0 μ ρ σ x d → Bor K H0 μ ρ σ y e →
  (g d e).sat (fun c => ∀ v H0' H', Adv K p μ ρ σ H0 H H0' H' → Frs K p μ ρ σ H H0' H' v c → Q v H') (fun _ => False) → r x y H Q
/-- an operation that raises nothing -/
def NoEx (g : D → D → R D) : Prop := ∀ d e x, g d e ≠ .ex x
theorem t2 {r : R2} {g : D → D → R D} (hv : VOp X.K p r g) (hn : NoEx g) {σ : Sg} {H : Hp} {Q : VK} (h : tE X.K p μ (f2 g fa fb) σ H Q) : tOp r (tB X.K p μ fa) (tB X.K p μ fb) σ H Q := by
  obtain ⟨H0, ρ, s, q⟩ := h
  unfold f2 at q
  rw [R.sat_bind] at q
  refine ⟨H0, ρ, s, R.sat_mono q (fun d k x H0' H1 ad bx => ?_) fun _ n => n⟩
  rw [R.sat_bind] at k
  refine ⟨H0', ρ, ad.sr, R.sat_mono k (fun e k y H0'' H2 ad2 by' => ?_) fun _ n => n⟩
  refine hv μ ρ σ H0'' H2 x y d e Q ad2.sr (bx.adv ad2) by' ?_
  cases hg : g d e with
  | ok c => rw [hg] at k; exact fun v H3 H4 ad3 r => k v H3 H4 ((ad.trans ad2).trans ad3) r
  | ex x => exact absurd hg (hn d e x)
  | bad => rw [hg] at k; exact k.elim
theorem Frs.back {K : PySem.W.Frag} {ρ : En} {σ : Sg} {Hs Hs' H0 H : Hp} {v : V} {d : D} (f : Frs K p μ ρ σ Hs' H0 H v d) (s : L2.Same Hs Hs') : Frs K p μ ρ σ Hs H0 H v d := by
  obtain ⟨a, o, e1, e0, r⟩ := f
  exact ⟨a, o, e1, s.free e0, r⟩
theorem t2F {r : R2} {g : D → D → R D} (hv : VOpF X.K p r g) (hn : NoEx g) {σ : Sg} {H : Hp} {Q : VK} (h : tF X.K p μ (f2 g fa fb) σ H Q) : tOp r (tB X.K p μ fa) (tB X.K p μ fb) σ H Q := by
  obtain ⟨H0, ρ, s, q⟩ := h
  unfold f2 at q
  rw [R.sat_bind] at q
  refine ⟨H0, ρ, s, R.sat_mono q (fun d k x H0' H1 ad bx => ?_) fun _ n => n⟩
  rw [R.sat_bind] at k
  refine ⟨H0', ρ, ad.sr, R.sat_mono k (fun e k y H0'' H2 ad2 by' => ?_) fun _ n => n⟩
  refine hv μ ρ σ H0'' H2 x y d e Q ad2.sr (bx.adv ad2) by' ?_
  cases hg : g d e with
  | ok c => rw [hg] at k; exact fun v H3 H4 ad3 r => k v H3 H4 ((ad.trans ad2).trans ad3) (r.back (ad.s1.trans ad2.s1))
  | ex x => exact absurd hg (hn d e x)
  | bad => rw [hg] at k; exact k.elim
theorem ex_bin {op : Operator} {r : R2} {g : D → D → R D} (ho : OpR X (binaryOp op) r) (hv : VOp X.K p r g) (hn : NoEx g) (ha : EB X p μ a fa) (hb : EB X p μ b fb) : EX X p μ (.BinOp a op b pos) (f2 g fa fb) :=
  PEw (pe_op ho ha hb) fun _ _ _ h => t2 hv hn h
theorem ef_bin {op : Operator} {r : R2} {g : D → D → R D} (ho : OpR X (binaryOp op) r) (hv : VOpF X.K p r g) (hn : NoEx g) (ha : EB X p μ a fa) (hb : EB X p μ b fb) : EF X p μ (.BinOp a op b pos) (f2 g fa fb) :=
  PEw (pe_op ho ha hb) fun _ _ _ h => t2F hv hn h
theorem ex_cmpR {op : CmpOp} {r : R2} {g : D → D → R D} (ho : OpR X (compareOp op) r) (hv : VOp X.K p r g) (hn : NoEx g) (ha : EB X p μ a fa) (hb : EB X p μ b fb) (hm : behindInMarks op b = false) : EX X p μ (.Compare a [op] [b] pos) (f2 g fa fb) :=
  PEw (pe_cmpR ho ha hb hm) fun _ _ _ h => t2 hv hn h
/-- a comparison that gives a Bool, as a test -/
def b2 (g : D → D → R Bool) (fa fb : En → R D) : En → R Bool := fun ρ => fa ρ >>= fun d => fb ρ >>= fun e => g d e
def rB (r : R Bool) : R D := r >>= fun k => .ok (.bl k)
theorem tx_cmpR {op : CmpOp} {r : R2} {g : D → D → R Bool} (ho : OpR X (compareOp op) r) (hv : VOp X.K p r fun d e => rB (g d e)) (hn : ∀ d e x, g d e ≠ .ex x) (ha : EB X p μ a fa) (hb : EB X p μ b fb) (hm : behindInMarks op b = false) : TX X p μ (.Compare a [op] [b] pos) (b2 g fa fb) :=
  PTw (pt_cmpR ho ha hb hm) fun σ H Q h => by
    refine t2 (Q := fun x H' => ∃ k, x = .bl k ∧ Q k H') hv (fun d e x => ?_) ?_
    · show rB (g d e) ≠ .ex x
      have := hn d e
      revert this
      cases g d e with
      | ok c => exact fun _ z => by cases z
      | ex y => exact fun q => absurd rfl (q y)
      | bad => exact fun _ z => by cases z
    · obtain ⟨H0, ρ, s, q⟩ := h
      refine ⟨H0, ρ, s, ?_⟩
      unfold b2 at q
      unfold f2 rB
      rw [R.sat_bind] at q ⊢
      refine R.sat_mono q (fun d k => ?_) fun _ n => n
      rw [R.sat_bind] at k ⊢
      refine R.sat_mono k (fun e k => ?_) fun _ n => n
      rw [R.sat_bind]
      refine R.sat_mono k (fun c k => ?_) fun _ n => n
      intro v H0' H' ad r
      cases r
      exact ⟨c, rfl, k H0' H' ad⟩
end

/-! operators over D -/
def addD : D → D → R D
  | .int a, .int b => .ok (.int (a + b))
  | .str a, .str b => if a.length + b.length ≤ sizeLine then .ok (.str (a ++ b)) else .bad
  | .lst a, .lst b => if a.length + b.length ≤ sizeLine then .ok (.lst (a ++ b)) else .bad
  | .tup a, .tup b => if a.length + b.length ≤ sizeLine then .ok (.tup (a ++ b)) else .bad
  | _, _ => .bad
def subD : D → D → R D
  | .int a, .int b => .ok (.int (a - b))
  | _, _ => .bad
def mulD : D → D → R D
  | .int a, .int b => if (-(2 ^ 64) < a ∧ a < 2 ^ 64) ∨ (-(2 ^ 64) < b ∧ b < 2 ^ 64) then .ok (.int (a * b)) else .bad
  | _, _ => .bad
def fdivD : D → D → R D
  | .int a, .int b => if 0 < b ∧ b < 1073741824 then .ok (.int (a / b)) else .bad
  | _, _ => .bad
def modD : D → D → R D
  | .int a, .int b => if 0 < b then .ok (.int (a % b)) else .bad
  | _, _ => .bad
def powD : D → D → R D
  | .int a, .int b => if 0 ≤ b ∧ b ≤ 1000000 ∧ a.natAbs < 2 ^ 64 then .ok (.int (a ^ b.toNat)) else .bad
  | _, _ => .bad
def andD : D → D → R D
  | .int a, .int b => .ok (.int (Builtin.bitAnd a b))
  | _, _ => .bad
def orD : D → D → R D
  | .int a, .int b => .ok (.int (Builtin.bitOr a b))
  | _, _ => .bad
def ltD : D → D → R Bool
  | .int a, .int b => .ok (decide (a < b))
  | .str a, .str b => .ok (decide (a < b))
  | _, _ => .bad
def gtD : D → D → R Bool
  | .int a, .int b => .ok (decide (b < a))
  | .str a, .str b => .ok (decide (b < a))
  | _, _ => .bad
def leD : D → D → R Bool
  | .int a, .int b => .ok (decide (a ≤ b))
  | _, _ => .bad
def geD : D → D → R Bool
  | .int a, .int b => .ok (decide (b ≤ a))
  | _, _ => .bad

theorem noEx_of {g : D → D → R D} (h : ∀ d e, (∃ c, g d e = .ok c) ∨ g d e = .bad) : NoEx g := fun d e x z => by
  rcases h d e with ⟨c, q⟩ | q <;> rw [q] at z <;> cases z
section
variable {X : Cx} {p : Pm}
theorem strG_app {a b : List Nat} (ga : StrG a) (gb : StrG b) (h : a.length + b.length ≤ sizeLine) : StrG (a ++ b) := ⟨by rw [List.length_append]; exact h, fun c hc => (List.mem_append.mp hc).elim (ga.cps c) (gb.cps c)⟩
theorem mkS_app (a b : List Nat) : mkS a ++ mkS b = mkS (a ++ b) := by
  show Str.append (mkS a) (mkS b) = _
  unfold Str.append mkS
  simp
theorem mkS_len (a : List Nat) : (mkS a).length = a.length := by unfold mkS Str.length; simp
theorem mkS_list (a : List Nat) : (mkS a).cps.toList = a := by unfold mkS; simp
theorem mkS_inj {a b : List Nat} (h : mkS a = mkS b) : a = b := by
  have := congrArg (fun z : Str => z.cps.toList) h
  simpa [mkS] using this

/-- two ints -/
theorem vop_I {g : D → D → R D} {C : Int → Int → Prop} {k : Int → Int → V} {kd : Int → Int → D} (hk : ∀ i j H, Rp X.K H (k i j) (kd i j)) (hg : ∀ d e c, g d e = .ok c → ∃ i j, d = .int i ∧ e = .int j ∧ C i j ∧ c = kd i j) : VOp X.K p (rI C k) g := by
  intro μ ρ σ H0 H x y d e Q s bx by' h
  cases hg' : g d e with
  | ok c =>
    rw [hg'] at h
    obtain ⟨i, j, rfl, rfl, hc, rfl⟩ := hg d e c hg'
    exact ⟨i, j, bx.int s, by'.int s, hc, h _ H0 H (.refl s) (hk i j H0)⟩
  | ex x => rw [hg'] at h; exact h.elim
  | bad => rw [hg'] at h; exact h.elim
theorem vop_I0 {g : D → D → R D} {k : Int → Int → V} {kd : Int → Int → D} (hk : ∀ i j H, Rp X.K H (k i j) (kd i j)) (hg : ∀ d e c, g d e = .ok c → ∃ i j, d = .int i ∧ e = .int j ∧ c = kd i j) : VOp X.K p (rI0 k) g := by
  intro μ ρ σ H0 H x y d e Q s bx by' h
  cases hg' : g d e with
  | ok c =>
    rw [hg'] at h
    obtain ⟨i, j, rfl, rfl, rfl⟩ := hg d e c hg'
    exact ⟨i, j, bx.int s, by'.int s, h _ H0 H (.refl s) (hk i j H0)⟩
  | ex x => rw [hg'] at h; exact h.elim
  | bad => rw [hg'] at h; exact h.elim
theorem vsub : VOp X.K p (rI0 fun i j => .int (i - j)) subD := vop_I0 (kd := fun i j => .int (i - j)) (fun _ _ _ => .int _) fun d e c h => by
  unfold subD at h; split at h <;> first | (cases h; exact ⟨_, _, rfl, rfl, rfl⟩) | cases h
theorem vand : VOp X.K p (rI0 fun i j => .int (Builtin.bitAnd i j)) andD := vop_I0 (kd := fun i j => .int (Builtin.bitAnd i j)) (fun _ _ _ => .int _) fun d e c h => by
  unfold andD at h; split at h <;> first | (cases h; exact ⟨_, _, rfl, rfl, rfl⟩) | cases h
theorem vor : VOp X.K p (rI0 fun i j => .int (Builtin.bitOr i j)) orD := vop_I0 (kd := fun i j => .int (Builtin.bitOr i j)) (fun _ _ _ => .int _) fun d e c h => by
  unfold orD at h; split at h <;> first | (cases h; exact ⟨_, _, rfl, rfl, rfl⟩) | cases h
theorem vmul : VOp X.K p (rI CMul fun i j => .int (i * j)) mulD := vop_I (kd := fun i j => .int (i * j)) (fun _ _ _ => .int _) fun d e c h => by
  unfold mulD at h; split at h <;> first | (split at h <;> first | (cases h; exact ⟨_, _, rfl, rfl, by assumption, rfl⟩) | cases h) | cases h
theorem vfdiv : VOp X.K p (rI CDiv fun i j => .int (i / j)) fdivD := vop_I (kd := fun i j => .int (i / j)) (fun _ _ _ => .int _) fun d e c h => by
  unfold fdivD at h; split at h <;> first | (split at h <;> first | (cases h; exact ⟨_, _, rfl, rfl, by assumption, rfl⟩) | cases h) | cases h
theorem vmod : VOp X.K p (rI (fun _ j => 0 < j) fun i j => .int (i % j)) modD := vop_I (C := fun _ j => 0 < j) (kd := fun i j => .int (i % j)) (fun _ _ _ => .int _) fun d e c h => by
  unfold modD at h; split at h <;> first | (split at h <;> first | (cases h; exact ⟨_, _, rfl, rfl, by assumption, rfl⟩) | cases h) | cases h
theorem vpow : VOp X.K p (rI CPow fun i j => .int (i ^ j.toNat)) powD := vop_I (kd := fun i j => .int (i ^ j.toNat)) (fun _ _ _ => .int _) fun d e c h => by
  unfold powD at h; split at h <;> first | (split at h <;> first | (cases h; exact ⟨_, _, rfl, rfl, by assumption, rfl⟩) | cases h) | cases h

/-- list + list, whatever they are -/
theorem op_catL : OpR X (binaryOp .Add) (fun x y H Q => ∃ l b xs ys, x = .ref l ∧ y = .ref b ∧ SqL X.K H l xs ∧ SqL X.K H b ys ∧ xs.length + ys.length ≤ sizeLine ∧ ∀ q, H q = none → Q (.ref q) (upd H q (.lst (xs ++ ys)))) := by
  intro pins s σ H x y v u Q I rx ry h
  obtain ⟨l, b, xs, ys, rfl, rfl, hx, hy, hz, q⟩ := h
  cases rx
  cases ry
  obtain ⟨us, ru, ⟨⟨c1, d1, da1, s1⟩, n1, g1, k1, _, dd1⟩, _⟩ := I.list hx
  obtain ⟨ws, rw', ⟨⟨c2, d2, da2, s2⟩, n2, g2, k2, _, dd2⟩, _⟩ := I.list hy
  simp only at k1 dd1 k2 dd2
  subst k1 dd1 k2 dd2
  have e1 := ru.length
  have e2 := rw'.length
  have hf : H s.heap.objs.size = none := I.hok.fresh (Nat.le_refl _)
  refine PySem.concat_meets ⟨_, g1, rfl⟩ ⟨_, g2, rfl⟩ noFill_list_add seq_list_add PySem.F.slot_list_add PySem.F.entry_list_add (PySem.F.args_list_add_2 _ _)
    (PyProof.Rows.list_addW l b us.toArray ws.toArray n1 n2 d1 d2 s1 s2 (by rw [List.size_toArray, List.size_toArray]; omega)) ⟨g1, g2, ?_⟩
  refine ⟨.ref s.heap.objs.size, _, I.laid (t' := s.toks) (o := .lst (xs ++ ys)) (fun b' o' z => Heap.get?_push_of_some _ z) (Nat.le_refl _) ?_, rfl, q _ hf⟩
  refine ⟨by rw [List.length_append]; omega, us ++ ws, 0, ru.append rw', ?_⟩
  have ea : us.toArray ++ ws.toArray = (us ++ ws).toArray := by simp
  rw [ea]
  exact Heap.get?_push_size _ rfl
def rAddAll (K : PySem.W.Frag) : R2 := fun x y H Q => ((rI0 fun i j => V.int (i + j)) x y H Q ∨ (∃ i j, x = .str i ∧ y = .str j ∧ i.length + j.length ≤ sizeLine ∧ Q (.str (i ++ j)) H)) ∨
  ((∃ l b xs ys, x = .ref l ∧ y = .ref b ∧ SqL K H l xs ∧ SqL K H b ys ∧ xs.length + ys.length ≤ sizeLine ∧ ∀ q, H q = none → Q (.ref q) (upd H q (.lst (xs ++ ys)))) ∨ rCatA K x y H Q)
theorem op_addAll : OpR X (binaryOp .Add) (rAddAll X.K) := (op_add.or op_add_str).or (op_catL.or op_catA)
theorem vadd : VOp X.K p (rAddAll X.K) addD := by
  intro μ ρ σ H0 H x y d e Q s bx by' h
  unfold addD at h
  split at h
  · exact .inl (.inl ⟨_, _, bx.int s, by'.int s, h _ H0 H (.refl s) (.int _)⟩)
  · rename_i a b
    split at h
    · rename_i hz
      obtain ⟨rfl, ga⟩ := bx.str s
      obtain ⟨rfl, gb⟩ := by'.str s
      refine .inl (.inr ⟨_, _, rfl, rfl, by rw [mkS_len, mkS_len]; exact hz, ?_⟩)
      rw [mkS_app]
      exact h _ H0 H (.refl s) (.str _ (strG_app ga gb hz))
    · exact h.elim
  · split at h
    · rename_i hz
      obtain ⟨u, xs, rfl, h1, r1⟩ := bx.lst s
      obtain ⟨w, ys, rfl, h2, r2⟩ := by'.lst s
      have := r1.length
      have := r2.length
      refine .inr (.inl ⟨u, w, xs, ys, rfl, rfl, h1, h2, by omega, fun q hq => ?_⟩)
      refine h _ _ _ (s.adv_new hq) (.lst (.of upd_same) ?_)
      exact RpL.mono (same_upd (s.free hq).2.1) (r1.app r2)
    · exact h.elim
  · split at h
    · rename_i a b hz
      obtain ⟨u, xs, rfl, h1, r1, k1⟩ := bx.tup s
      obtain ⟨w, ys, rfl, h2, r2, k2⟩ := by'.tup s
      have l1 := r1.length
      have l2 := r2.length
      refine .inr (.inr ⟨u, w, xs, ys, rfl, rfl, h1, h2, by omega, fun z => ?_, fun _ z => ?_, fun _ _ q hq => ?_⟩)
      · subst z
        cases r1
        exact h _ _ _ (.refl s) (.tup k2 r2)
      · subst z
        cases r2
        rw [List.append_nil] at h
        exact h _ _ _ (.refl s) (.tup k1 r1)
      · refine h _ _ _ (s.adv_new hq) (.tup upd_same ?_)
        exact RpL.mono (same_upd (s.free hq).2.1) (r1.app r2)
    · exact h.elim
  · exact h.elim
theorem addD_nx : NoEx addD := noEx_of fun d e => by
  unfold addD; split <;> first | exact .inl ⟨_, rfl⟩ | (split <;> first | exact .inl ⟨_, rfl⟩ | exact .inr rfl) | exact .inr rfl
theorem subD_nx : NoEx subD := noEx_of fun d e => by
  unfold subD; split <;> first | exact .inl ⟨_, rfl⟩ | (split <;> first | exact .inl ⟨_, rfl⟩ | exact .inr rfl) | exact .inr rfl
theorem mulD_nx : NoEx mulD := noEx_of fun d e => by
  unfold mulD; split <;> first | exact .inl ⟨_, rfl⟩ | (split <;> first | exact .inl ⟨_, rfl⟩ | exact .inr rfl) | exact .inr rfl
theorem fdivD_nx : NoEx fdivD := noEx_of fun d e => by
  unfold fdivD; split <;> first | exact .inl ⟨_, rfl⟩ | (split <;> first | exact .inl ⟨_, rfl⟩ | exact .inr rfl) | exact .inr rfl
theorem modD_nx : NoEx modD := noEx_of fun d e => by
  unfold modD; split <;> first | exact .inl ⟨_, rfl⟩ | (split <;> first | exact .inl ⟨_, rfl⟩ | exact .inr rfl) | exact .inr rfl
theorem powD_nx : NoEx powD := noEx_of fun d e => by
  unfold powD; split <;> first | exact .inl ⟨_, rfl⟩ | (split <;> first | exact .inl ⟨_, rfl⟩ | exact .inr rfl) | exact .inr rfl
theorem andD_nx : NoEx andD := noEx_of fun d e => by
  unfold andD; split <;> first | exact .inl ⟨_, rfl⟩ | exact .inr rfl
theorem orD_nx : NoEx orD := noEx_of fun d e => by
  unfold orD; split <;> first | exact .inl ⟨_, rfl⟩ | exact .inr rfl
end
section
variable {X : Cx} {p : Pm} {μ : Ms} {a b : Expr} {fa fb : En → R D} {pos : Pos}
theorem ex_add (ha : EB X p μ a fa) (hb : EB X p μ b fb) : EX X p μ (.BinOp a .Add b pos) (f2 addD fa fb) := ex_bin op_addAll vadd addD_nx ha hb
theorem ex_sub (ha : EB X p μ a fa) (hb : EB X p μ b fb) : EX X p μ (.BinOp a .Sub b pos) (f2 subD fa fb) := ex_bin op_sub vsub subD_nx ha hb
theorem ex_mul (ha : EB X p μ a fa) (hb : EB X p μ b fb) : EX X p μ (.BinOp a .Mult b pos) (f2 mulD fa fb) := ex_bin op_mul vmul mulD_nx ha hb
theorem ex_fdiv (ha : EB X p μ a fa) (hb : EB X p μ b fb) : EX X p μ (.BinOp a .FloorDiv b pos) (f2 fdivD fa fb) := ex_bin op_fdiv vfdiv fdivD_nx ha hb
theorem ex_mod (ha : EB X p μ a fa) (hb : EB X p μ b fb) : EX X p μ (.BinOp a .Mod b pos) (f2 modD fa fb) := ex_bin op_mod vmod modD_nx ha hb
theorem ex_pow (ha : EB X p μ a fa) (hb : EB X p μ b fb) : EX X p μ (.BinOp a .Pow b pos) (f2 powD fa fb) := ex_bin op_pow vpow powD_nx ha hb
theorem ex_and (ha : EB X p μ a fa) (hb : EB X p μ b fb) : EX X p μ (.BinOp a .BitAnd b pos) (f2 andD fa fb) := ex_bin op_and vand andD_nx ha hb
theorem ex_or (ha : EB X p μ a fa) (hb : EB X p μ b fb) : EX X p μ (.BinOp a .BitOr b pos) (f2 orD fa fb) := ex_bin op_or vor orD_nx ha hb
end
end Pv

namespace Pv
open PySem PySem.Spec PyProof.Rows L2
open L2 (upd)

/-! equality of data -/
mutual
def toP : D → PyData
  | .non => .none
  | .bl b => .bool b
  | .int i => .int i
  | .str l => .str (mkS l)
  | .lst xs => .list (toPs xs)
  | .tup xs => .tuple (toPs xs)
  | .dct _ => .none
  | .obj _ _ => .none
def toPs : List D → List PyData
  | [] => []
  | x :: xs => toP x :: toPs xs
end
mutual
/-- plain data at most n deep -/
def dok : Nat → D → Bool
  | _, .non => true
  | _, .bl _ => true
  | _, .int _ => true
  | _, .str _ => true
  | n + 1, .lst xs => doks n xs
  | n + 1, .tup xs => doks n xs
  | _, _ => false
def doks : Nat → List D → Bool
  | _, [] => true
  | n, x :: xs => dok n x && doks n xs
end
mutual
def deq : D → D → Bool
  | .non, .non => true
  | .bl a, .bl b => a == b
  | .bl a, .int b => (if a then 1 else 0) == b
  | .int a, .bl b => a == (if b then 1 else 0)
  | .int a, .int b => a == b
  | .str a, .str b => a == b
  | .lst a, .lst b => deqs a b
  | .tup a, .tup b => deqs a b
  | _, _ => false
def deqs : List D → List D → Bool
  | [], [] => true
  | x :: xs, y :: ys => deq x y && deqs xs ys
  | _, _ => false
end
theorem mkS_beq (a b : List Nat) : (mkS a == mkS b) = (a == b) := by
  rw [Bool.eq_iff_iff, beq_iff_eq, beq_iff_eq]
  exact ⟨mkS_inj, fun h => by rw [h]⟩
mutual
theorem eqv_deq : ∀ (n : Nat) (a b : D), dok n a = true → dok n b = true → PyData.eqv (toP a) (toP b) = deq a b
  | n, .dct _, _, h, _ => by cases n <;> simp [dok] at h
  | n, .obj _ _, _, h, _ => by cases n <;> simp [dok] at h
  | n, .non, b, _, h => by cases b <;> first | (cases n <;> simp [dok] at h; done) | simp [toP, PyData.eqv, deq]
  | n, .bl _, b, _, h => by cases b <;> first | (cases n <;> simp [dok] at h; done) | simp [toP, PyData.eqv, deq]
  | n, .int _, b, _, h => by cases b <;> first | (cases n <;> simp [dok] at h; done) | simp [toP, PyData.eqv, deq]
  | n, .str _, b, _, h => by cases b <;> first | (cases n <;> simp [dok] at h; done) | simp [toP, PyData.eqv, deq, mkS_beq]
  | 0, .lst _, b, h, _ => by simp [dok] at h
  | 0, .tup _, b, h, _ => by simp [dok] at h
  | n + 1, .lst xs, .lst ys, h, h' => by
    simp only [toP, PyData.eqv, deq]
    exact eqvs_deq n xs ys (by simpa [dok] using h) (by simpa [dok] using h')
  | n + 1, .tup xs, .tup ys, h, h' => by
    simp only [toP, PyData.eqv, deq]
    exact eqvs_deq n xs ys (by simpa [dok] using h) (by simpa [dok] using h')
  | n + 1, .lst xs, .non, h, h' => by simp [toP, PyData.eqv, deq]
  | n + 1, .lst xs, .bl _, h, h' => by simp [toP, PyData.eqv, deq]
  | n + 1, .lst xs, .int _, h, h' => by simp [toP, PyData.eqv, deq]
  | n + 1, .lst xs, .str _, h, h' => by simp [toP, PyData.eqv, deq]
  | n + 1, .lst xs, .tup _, h, h' => by simp [toP, PyData.eqv, deq]
  | n + 1, .lst xs, .dct _, h, h' => by simp [dok] at h'
  | n + 1, .lst xs, .obj _ _, h, h' => by simp [dok] at h'
  | n + 1, .tup xs, .non, h, h' => by simp [toP, PyData.eqv, deq]
  | n + 1, .tup xs, .bl _, h, h' => by simp [toP, PyData.eqv, deq]
  | n + 1, .tup xs, .int _, h, h' => by simp [toP, PyData.eqv, deq]
  | n + 1, .tup xs, .str _, h, h' => by simp [toP, PyData.eqv, deq]
  | n + 1, .tup xs, .lst _, h, h' => by simp [toP, PyData.eqv, deq]
  | n + 1, .tup xs, .dct _, h, h' => by simp [dok] at h'
  | n + 1, .tup xs, .obj _ _, h, h' => by simp [dok] at h'
theorem eqvs_deq : ∀ (n : Nat) (a b : List D), doks n a = true → doks n b = true → PyData.eqvAll (toPs a) (toPs b) = deqs a b
  | n, [], [], _, _ => by simp [toPs, PyData.eqvAll, deqs]
  | n, [], _ :: _, _, _ => by simp [toPs, PyData.eqvAll, deqs]
  | n, _ :: _, [], _, _ => by simp [toPs, PyData.eqvAll, deqs]
  | n, x :: xs, y :: ys, h, h' => by
    simp only [doks, Bool.and_eq_true] at h h'
    simp only [toPs, PyData.eqvAll, deqs]
    rw [eqv_deq n x y h.1 h'.1, eqvs_deq n xs ys h.2 h'.2]
end
mutual
theorem Rp.dp {K : PySem.W.Frag} {H : Hp} : ∀ (n : Nat) {v : V} {d : D}, Rp K H v d → dok n d = true → Dp K H v (toP d) ∧ (toP d).canLay0 = true ∧ (toP d).depth ≤ n
  | n, _, _, .non, _ => by simp only [toP]; exact ⟨.non, rfl, Nat.zero_le _⟩
  | n, _, _, .bl b, _ => by simp only [toP]; exact ⟨.bl b, rfl, Nat.zero_le _⟩
  | n, _, _, .int i, _ => by simp only [toP]; exact ⟨.int i, rfl, Nat.zero_le _⟩
  | n, _, _, .str l g, _ => by
    simp only [toP]
    refine ⟨.str _, ?_, Nat.zero_le _⟩
    show (mkS l).cps.all (fun c => decide (c < 0x110000)) = true
    unfold mkS
    simp only [List.all_toArray, List.all_eq_true, decide_eq_true_eq]
    exact g.cps
  | n, _, _, .lst h r, k => by
    cases n with
    | zero => simp [dok] at k
    | succ n =>
      obtain ⟨h1, h2, h3⟩ := RpL.dp n r (by simpa [dok] using k)
      simp only [toP]
      exact ⟨.lst h h1, h2, Nat.succ_le_succ h3⟩
  | n, _, _, .tup h r, k => by
    cases n with
    | zero => simp [dok] at k
    | succ n =>
      obtain ⟨h1, h2, h3⟩ := RpL.dp n r (by simpa [dok] using k)
      simp only [toP]
      exact ⟨.tup (.of h) h1, h2, Nat.succ_le_succ h3⟩
  | n, _, _, .dk _ _ _, k => by cases n <;> simp [dok] at k
  | n, _, _, .dt _ _ _, k => by cases n <;> simp [dok] at k
  | n, _, _, .ins _ _ _, k => by cases n <;> simp [dok] at k
theorem RpL.dp {K : PySem.W.Frag} {H : Hp} : ∀ (n : Nat) {vs : List V} {ds : List D}, RpL K H vs ds → doks n ds = true → DpAll K H vs (toPs ds) ∧ PyData.canLayAll0 (toPs ds) = true ∧ PyData.depthAll (toPs ds) ≤ n
  | n, _, _, .nil, _ => ⟨.nil, rfl, Nat.zero_le _⟩
  | n, _, _, .cons h r, k => by
    simp only [doks, Bool.and_eq_true] at k
    obtain ⟨a1, a2, a3⟩ := Rp.dp n h k.1
    obtain ⟨b1, b2, b3⟩ := RpL.dp n r k.2
    simp only [toPs]
    exact ⟨.cons a1 b1, by simp only [PyData.canLayAll0, a2, b2, Bool.and_self], Nat.max_le.mpr ⟨a3, b3⟩⟩
end
def eqD (d e : D) : R Bool := if dok 12 d = true ∧ dok 12 e = true then .ok (deq d e) else .bad
def neD (d e : D) : R Bool := if dok 12 d = true ∧ dok 12 e = true then .ok (!deq d e) else .bad
theorem rB_nx {g : D → D → R Bool} (h : ∀ d e, (∃ c, g d e = .ok c) ∨ g d e = .bad) : NoEx fun d e => rB (g d e) := noEx_of fun d e => by
  unfold rB
  rcases h d e with ⟨c, q⟩ | q
  · exact .inl ⟨_, by rw [q]; rfl⟩
  · exact .inr (by rw [q]; rfl)
theorem nx_of {g : D → D → R Bool} (h : ∀ d e, (∃ c, g d e = .ok c) ∨ g d e = .bad) : ∀ d e x, g d e ≠ .ex x := fun d e x z => by
  rcases h d e with ⟨c, q⟩ | q <;> rw [q] at z <;> cases z
theorem eqD_k : ∀ d e, (∃ c, eqD d e = .ok c) ∨ eqD d e = .bad := fun d e => by unfold eqD; split <;> first | exact .inl ⟨_, rfl⟩ | exact .inr rfl
theorem neD_k : ∀ d e, (∃ c, neD d e = .ok c) ∨ neD d e = .bad := fun d e => by unfold neD; split <;> first | exact .inl ⟨_, rfl⟩ | exact .inr rfl
theorem ltD_k : ∀ d e, (∃ c, ltD d e = .ok c) ∨ ltD d e = .bad := fun d e => by unfold ltD; split <;> first | exact .inl ⟨_, rfl⟩ | exact .inr rfl
theorem gtD_k : ∀ d e, (∃ c, gtD d e = .ok c) ∨ gtD d e = .bad := fun d e => by unfold gtD; split <;> first | exact .inl ⟨_, rfl⟩ | exact .inr rfl
theorem leD_k : ∀ d e, (∃ c, leD d e = .ok c) ∨ leD d e = .bad := fun d e => by unfold leD; split <;> first | exact .inl ⟨_, rfl⟩ | exact .inr rfl
theorem geD_k : ∀ d e, (∃ c, geD d e = .ok c) ∨ geD d e = .bad := fun d e => by unfold geD; split <;> first | exact .inl ⟨_, rfl⟩ | exact .inr rfl
section
variable {X : Cx} {p : Pm}
theorem shaped_of {d : D} {n : Nat} (hn : n ≤ 64) (h1 : (toP d).canLay0 = true) (h2 : (toP d).depth ≤ n) : SeqAt.shaped (toP d) = true := by
  unfold SeqAt.shaped
  rw [h1, decide_eq_true (Nat.le_trans h2 hn)]; rfl
theorem veq : VOp X.K p (rEqD X.K) fun d e => rB (eqD d e) := by
  intro μ ρ σ H0 H x y d e Q s bx by' h
  dsimp only at h
  unfold eqD at h
  split at h
  · rename_i hk
    obtain ⟨a1, a2, a3⟩ := (bx.whole s).dp 12 hk.1
    obtain ⟨b1, b2, b3⟩ := (by'.whole s).dp 12 hk.2
    refine ⟨_, _, a1, b1, shaped_of (by decide) a2 a3, shaped_of (by decide) b2 b3, ?_⟩
    rw [eqv_deq 12 d e hk.1 hk.2]
    exact h _ H0 H (.refl s) (.bl _)
  · exact h.elim
theorem vne : VOp X.K p (rNeD X.K) fun d e => rB (neD d e) := by
  intro μ ρ σ H0 H x y d e Q s bx by' h
  dsimp only at h
  unfold neD at h
  split at h
  · rename_i hk
    obtain ⟨a1, a2, a3⟩ := (bx.whole s).dp 12 hk.1
    obtain ⟨b1, b2, b3⟩ := (by'.whole s).dp 12 hk.2
    refine ⟨_, _, a1, b1, shaped_of (by decide) a2 a3, shaped_of (by decide) b2 b3, ?_⟩
    rw [eqv_deq 12 d e hk.1 hk.2]
    exact h _ H0 H (.refl s) (.bl _)
  · exact h.elim
/-! order of ints and texts -/
theorem op_gt_str' : OpR X (compareOp .Gt) (fun x y H Q => ∃ i j, x = .str i ∧ y = .str j ∧ Q (.bl (decide (j.cps.toList < i.cps.toList))) H) := op_gt_str
theorem vlt : VOp X.K p (fun x y H Q => (rI0 fun i j => V.bl (decide (i < j))) x y H Q ∨ ∃ i j, x = .str i ∧ y = .str j ∧ Q (.bl (decide (i.cps.toList < j.cps.toList))) H) fun d e => rB (ltD d e) := by
  intro μ ρ σ H0 H x y d e Q s bx by' h
  dsimp only at h
  unfold ltD at h
  split at h
  · exact .inl ⟨_, _, bx.int s, by'.int s, h _ H0 H (.refl s) (.bl _)⟩
  · obtain ⟨rfl, _⟩ := bx.str s
    obtain ⟨rfl, _⟩ := by'.str s
    refine .inr ⟨_, _, rfl, rfl, ?_⟩
    rw [mkS_list, mkS_list]
    exact h _ H0 H (.refl s) (.bl _)
  · exact h.elim
theorem vgt : VOp X.K p (fun x y H Q => (rI0 fun i j => V.bl (decide (j < i))) x y H Q ∨ ∃ i j, x = .str i ∧ y = .str j ∧ Q (.bl (decide (j.cps.toList < i.cps.toList))) H) fun d e => rB (gtD d e) := by
  intro μ ρ σ H0 H x y d e Q s bx by' h
  dsimp only at h
  unfold gtD at h
  split at h
  · exact .inl ⟨_, _, bx.int s, by'.int s, h _ H0 H (.refl s) (.bl _)⟩
  · obtain ⟨rfl, _⟩ := bx.str s
    obtain ⟨rfl, _⟩ := by'.str s
    refine .inr ⟨_, _, rfl, rfl, ?_⟩
    rw [mkS_list, mkS_list]
    exact h _ H0 H (.refl s) (.bl _)
  · exact h.elim
theorem vle : VOp X.K p (rI0 fun i j => V.bl (decide (i ≤ j))) fun d e => rB (leD d e) := by
  intro μ ρ σ H0 H x y d e Q s bx by' h
  dsimp only at h
  unfold leD at h
  split at h
  · exact ⟨_, _, bx.int s, by'.int s, h _ H0 H (.refl s) (.bl _)⟩
  · exact h.elim
theorem vge : VOp X.K p (rI0 fun i j => V.bl (decide (j ≤ i))) fun d e => rB (geD d e) := by
  intro μ ρ σ H0 H x y d e Q s bx by' h
  dsimp only at h
  unfold geD at h
  split at h
  · exact ⟨_, _, bx.int s, by'.int s, h _ H0 H (.refl s) (.bl _)⟩
  · exact h.elim
end

/-! membership: a sign in a text, an item in a list or a tuple, a key in a dict -/
theorem noEx_rB {r : R Bool} : (∃ c, r = .ok c) ∨ r = .bad → ∀ x, rB r ≠ .ex x := fun h x => by
  rcases h with ⟨c, q⟩ | q <;> rw [q] <;> exact fun z => by cases z
def lookD (m : List (D × D)) (k : D) : Option D := (m.find? fun q => deq q.1 k).map (·.2)
/-- what may be a key -/
def isKeyD : D → Bool
  | .int _ => true
  | .str _ => true
  | _ => false
def keysK (m : List (D × D)) : Bool := m.all fun q => isKeyD q.1
def keysT (m : List (D × D)) : Bool := m.all fun q => match q.1 with
  | .tup xs => xs.all isKeyD
  | _ => false
/-- the key fits the dict's kind (all keys ints and texts, or all tuples of them) -/
def keyFit (m : List (D × D)) (k : D) : Bool := match k with
  | .int _ => keysK m
  | .str _ => keysK m
  | .tup xs => keysT m && xs.all isKeyD && !m.isEmpty
  | _ => false
def inD (d e : D) : R Bool := match e with
  | .str l => match d with
    | .str [c] => .ok (decide (c ∈ l))
    | _ => .bad
  | .lst ds => if dok 12 d = true ∧ doks 12 ds = true then .ok (ds.any fun z => deq z d) else .bad
  | .tup ds => if dok 12 d = true ∧ doks 12 ds = true then .ok (ds.any fun z => deq z d) else .bad
  | _ => .bad
def ninD (d e : D) : R Bool := inD d e >>= fun k => .ok (!k)
theorem inD_k : ∀ d e, (∃ c, inD d e = .ok c) ∨ inD d e = .bad := fun d e => by
  unfold inD; split <;> (try split) <;> first | exact .inl ⟨_, rfl⟩ | exact .inr rfl
theorem ninD_k : ∀ d e, (∃ c, ninD d e = .ok c) ∨ ninD d e = .bad := fun d e => by
  unfold ninD
  rcases inD_k d e with ⟨c, q⟩ | q <;> rw [q]
  · exact .inl ⟨_, rfl⟩
  · exact .inr rfl
def negB (b : Bool) (k : Bool) : Bool := if b then !k else k
def rInAll (K : PySem.W.Frag) (neg : Bool) : R2 := fun x y H Q => (∃ (c : Nat) (z : Str), x = .str ⟨#[c]⟩ ∧ y = .str z ∧ Q (.bl (negB neg (decide (c ∈ z.cps.toList)))) H) ∨
  (∃ d ds, Dp K H x d ∧ (Dp K H y (.list ds) ∨ Dp K H y (.tuple ds)) ∧ d.canLay0 = true ∧ PyData.canLayAll0 ds = true ∧ d.depth ≤ 64 ∧ Q (.bl (negB neg (ds.any fun z => PyData.eqv z d))) H)
section
variable {X : Cx} {p : Pm}
theorem op_inAll (hu : X.A.units + 65 < cLine) : OpR X (compareOp .In) (rInAll X.K false) := by
  intro pins s σ H x y v u Q I rx ry h
  rcases h with h | ⟨d, ds, hd, he, c1, c2, c3, q⟩
  · exact op_in_sign pins s σ H x y v u Q I rx ry h
  · obtain ⟨as, r1⟩ := Dp.reads I d x v hd rx
    have hm : min (PyData.depthAll ds) d.depth ≤ d.depth := Nat.min_le_right _ _
    rcases he with he | he
    · obtain ⟨bs, r2⟩ := Dp.reads I (.list ds) y u he ry
      exact SeqAt.in_list_reads r2 r1 c2 c1 (by omega) ⟨.bl _, H, I, rfl, q⟩
    · obtain ⟨bs, r2⟩ := Dp.reads I (.tuple ds) y u he ry
      exact SeqAt.in_tuple_reads r2 r1 c2 c1 (by omega) ⟨.bl _, H, I, rfl, q⟩
theorem op_notInAll (hu : X.A.units + 65 < cLine) : OpR X (compareOp .NotIn) (rInAll X.K true) := by
  intro pins s σ H x y v u Q I rx ry h
  rcases h with h | ⟨d, ds, hd, he, c1, c2, c3, q⟩
  · exact op_notIn_sign pins s σ H x y v u Q I rx ry h
  · obtain ⟨as, r1⟩ := Dp.reads I d x v hd rx
    have hm : min (PyData.depthAll ds) d.depth ≤ d.depth := Nat.min_le_right _ _
    rcases he with he | he
    · obtain ⟨bs, r2⟩ := Dp.reads I (.list ds) y u he ry
      exact SeqAt.notIn_list_reads r2 r1 c2 c1 (by omega) ⟨.bl _, H, I, rfl, q⟩
    · obtain ⟨bs, r2⟩ := Dp.reads I (.tuple ds) y u he ry
      exact SeqAt.notIn_tuple_reads r2 r1 c2 c1 (by omega) ⟨.bl _, H, I, rfl, q⟩
theorem any_eqv {n : Nat} {d : D} (hd : dok n d = true) : ∀ (ds : List D), doks n ds = true → ((toPs ds).any fun z => PyData.eqv z (toP d)) = ds.any fun z => deq z d
  | [], _ => rfl
  | x :: xs, h => by
    simp only [doks, Bool.and_eq_true] at h
    simp only [toPs, List.any_cons, eqv_deq n x d h.1 hd, any_eqv hd xs h.2]
theorem vinAll {neg : Bool} : VOp X.K p (rInAll X.K neg) fun d e => rB (inD d e >>= fun k => .ok (negB neg k)) := by
  intro μ ρ σ H0 H x y d e Q s bx by' h
  dsimp only at h
  unfold inD at h
  split at h
  · split at h
    · obtain ⟨rfl, _⟩ := bx.str s
      obtain ⟨rfl, _⟩ := by'.str s
      refine .inl ⟨_, _, rfl, rfl, ?_⟩
      rw [mkS_list]
      exact h _ H0 H (.refl s) (.bl _)
    · exact h.elim
  · split at h
    · rename_i ds hk
      obtain ⟨a1, a2, a3⟩ := (bx.whole s).dp 12 hk.1
      obtain ⟨z, xs, rfl, h1, r1⟩ := by'.lst s
      obtain ⟨b1, b2, b3⟩ := (RpL.mono s.sub r1).dp 12 hk.2
      refine .inr ⟨_, _, a1, .inl (.lst h1 b1), a2, b2, by omega, ?_⟩
      rw [any_eqv hk.1 ds hk.2]
      exact h _ H0 H (.refl s) (.bl _)
    · exact h.elim
  · split at h
    · rename_i ds hk
      obtain ⟨a1, a2, a3⟩ := (bx.whole s).dp 12 hk.1
      obtain ⟨z, xs, rfl, h1, r1, _⟩ := by'.tup s
      obtain ⟨b1, b2, b3⟩ := (RpL.mono s.sub r1).dp 12 hk.2
      refine .inr ⟨_, _, a1, .inr (.tup h1 b1), a2, b2, by omega, ?_⟩
      rw [any_eqv hk.1 ds hk.2]
      exact h _ H0 H (.refl s) (.bl _)
    · exact h.elim
  · exact h.elim
theorem vin : VOp X.K p (rInAll X.K false) fun d e => rB (inD d e) := by
  have h := vinAll (X := X) (p := p) (neg := false)
  have e : (fun d e => rB (inD d e >>= fun k => .ok (negB false k))) = fun d e => rB (inD d e) := by
    funext d e
    cases inD d e <;> rfl
  rw [e] at h
  exact h
theorem vnin : VOp X.K p (rInAll X.K true) fun d e => rB (ninD d e) := vinAll (X := X) (p := p) (neg := true)
end
/-! is, is not: None, True, False -/
def D.isN : D → Bool
  | .non => true
  | _ => false
def isD (d e : D) : R Bool := match e with
  | .non => .ok d.isN
  | .bl b => match d with
    | .bl a => .ok (decide (a = b))
    | _ => .bad
  | _ => .bad
def nisD (d e : D) : R Bool := match e with
  | .non => .ok (!d.isN)
  | .bl b => match d with
    | .bl a => .ok (!decide (a = b))
    | _ => .bad
  | _ => .bad
theorem isD_k : ∀ d e, (∃ c, isD d e = .ok c) ∨ isD d e = .bad := fun d e => by
  unfold isD; split <;> (try split) <;> first | exact .inl ⟨_, rfl⟩ | exact .inr rfl
theorem nisD_k : ∀ d e, (∃ c, nisD d e = .ok c) ∨ nisD d e = .bad := fun d e => by
  unfold nisD; split <;> (try split) <;> first | exact .inl ⟨_, rfl⟩ | exact .inr rfl
section
variable {X : Cx} {p : Pm}
theorem Bor.isNon {K : PySem.W.Frag} {H0 H : Hp} {μ : Ms} {ρ : En} {σ : Sg} (s : SR K p H0 μ ρ σ H) {v : V} {d : D} (b : Bor K H0 μ ρ σ v d) : decide (v = .non) = d.isN := by
  have := b.whole s
  cases this <;> simp [D.isN]
theorem vis : VOp X.K p (fun x y H Q => (y = .non ∧ Q (.bl (decide (x = .non))) H) ∨ rIsB x y H Q) fun d e => rB (isD d e) := by
  intro μ ρ σ H0 H x y d e Q s bx by' h
  dsimp only at h
  unfold isD at h
  split at h
  · refine .inl ⟨by'.non s, ?_⟩
    rw [bx.isNon s]
    exact h _ H0 H (.refl s) (.bl _)
  · split at h
    · exact .inr ⟨_, _, bx.bl s, by'.bl s, h _ H0 H (.refl s) (.bl _)⟩
    · exact h.elim
  · exact h.elim
theorem vnis : VOp X.K p (fun x y H Q => (y = .non ∧ Q (.bl (!decide (x = .non))) H) ∨ rNotB x y H Q) fun d e => rB (nisD d e) := by
  intro μ ρ σ H0 H x y d e Q s bx by' h
  dsimp only at h
  unfold nisD at h
  split at h
  · refine .inl ⟨by'.non s, ?_⟩
    rw [bx.isNon s]
    exact h _ H0 H (.refl s) (.bl _)
  · split at h
    · exact .inr ⟨_, _, bx.bl s, by'.bl s, h _ H0 H (.refl s) (.bl _)⟩
    · exact h.elim
  · exact h.elim
end
section
variable {X : Cx} {p : Pm} {μ : Ms} {a b : Expr} {fa fb : En → R D} {pos : Pos}
def fB2 (g : D → D → R Bool) (fa fb : En → R D) : En → R D := f2 (fun d e => rB (g d e)) fa fb
theorem ex_eq (hu : X.A.units + 64 < cLine) (ha : EB X p μ a fa) (hb : EB X p μ b fb) : EX X p μ (.Compare a [.Eq] [b] pos) (fB2 eqD fa fb) := ex_cmpR (op_eqD hu) veq (rB_nx eqD_k) ha hb (nomark _)
theorem ex_ne (hu : X.A.units + 64 < cLine) (ha : EB X p μ a fa) (hb : EB X p μ b fb) : EX X p μ (.Compare a [.NotEq] [b] pos) (fB2 neD fa fb) := ex_cmpR (op_neD hu) vne (rB_nx neD_k) ha hb (nomark _)
theorem ex_lt (ha : EB X p μ a fa) (hb : EB X p μ b fb) : EX X p μ (.Compare a [.Lt] [b] pos) (fB2 ltD fa fb) := ex_cmpR (op_lt.or op_lt_str) vlt (rB_nx ltD_k) ha hb (nomark _)
theorem ex_gt (ha : EB X p μ a fa) (hb : EB X p μ b fb) : EX X p μ (.Compare a [.Gt] [b] pos) (fB2 gtD fa fb) := ex_cmpR (op_gt.or op_gt_str') vgt (rB_nx gtD_k) ha hb (nomark _)
theorem ex_le (ha : EB X p μ a fa) (hb : EB X p μ b fb) : EX X p μ (.Compare a [.LtE] [b] pos) (fB2 leD fa fb) := ex_cmpR op_le vle (rB_nx leD_k) ha hb (nomark _)
theorem ex_ge (ha : EB X p μ a fa) (hb : EB X p μ b fb) : EX X p μ (.Compare a [.GtE] [b] pos) (fB2 geD fa fb) := ex_cmpR op_ge vge (rB_nx geD_k) ha hb (nomark _)
theorem ex_is (ha : EB X p μ a fa) (hb : EB X p μ b fb) : EX X p μ (.Compare a [.Is] [b] pos) (fB2 isD fa fb) := ex_cmpR (op_isN.or op_isBl) vis (rB_nx isD_k) ha hb (nomark _)
theorem ex_nis (ha : EB X p μ a fa) (hb : EB X p μ b fb) : EX X p μ (.Compare a [.IsNot] [b] pos) (fB2 nisD fa fb) := ex_cmpR (op_notN.or op_notBl) vnis (rB_nx nisD_k) ha hb (nomark _)
theorem ex_in (hu : X.A.units + 65 < cLine) (ha : EB X p μ a fa) (hb : EB X p μ b fb) (hm : behindInMarks .In b = false := by rfl) : EX X p μ (.Compare a [.In] [b] pos) (fB2 inD fa fb) := ex_cmpR (op_inAll hu) vin (rB_nx inD_k) ha hb hm
theorem ex_nin (hu : X.A.units + 65 < cLine) (ha : EB X p μ a fa) (hb : EB X p μ b fb) (hm : behindInMarks .NotIn b = false := by rfl) : EX X p μ (.Compare a [.NotIn] [b] pos) (fB2 ninD fa fb) := ex_cmpR (op_notInAll hu) vnin (rB_nx ninD_k) ha hb hm
theorem tx_eq (hu : X.A.units + 64 < cLine) (ha : EB X p μ a fa) (hb : EB X p μ b fb) : TX X p μ (.Compare a [.Eq] [b] pos) (b2 eqD fa fb) := tx_cmpR (op_eqD hu) veq (nx_of eqD_k) ha hb (nomark _)
theorem tx_ne (hu : X.A.units + 64 < cLine) (ha : EB X p μ a fa) (hb : EB X p μ b fb) : TX X p μ (.Compare a [.NotEq] [b] pos) (b2 neD fa fb) := tx_cmpR (op_neD hu) vne (nx_of neD_k) ha hb (nomark _)
theorem tx_lt (ha : EB X p μ a fa) (hb : EB X p μ b fb) : TX X p μ (.Compare a [.Lt] [b] pos) (b2 ltD fa fb) := tx_cmpR (op_lt.or op_lt_str) vlt (nx_of ltD_k) ha hb (nomark _)
theorem tx_gt (ha : EB X p μ a fa) (hb : EB X p μ b fb) : TX X p μ (.Compare a [.Gt] [b] pos) (b2 gtD fa fb) := tx_cmpR (op_gt.or op_gt_str') vgt (nx_of gtD_k) ha hb (nomark _)
theorem tx_le (ha : EB X p μ a fa) (hb : EB X p μ b fb) : TX X p μ (.Compare a [.LtE] [b] pos) (b2 leD fa fb) := tx_cmpR op_le vle (nx_of leD_k) ha hb (nomark _)
theorem tx_ge (ha : EB X p μ a fa) (hb : EB X p μ b fb) : TX X p μ (.Compare a [.GtE] [b] pos) (b2 geD fa fb) := tx_cmpR op_ge vge (nx_of geD_k) ha hb (nomark _)
theorem tx_is (ha : EB X p μ a fa) (hb : EB X p μ b fb) : TX X p μ (.Compare a [.Is] [b] pos) (b2 isD fa fb) := tx_cmpR (op_isN.or op_isBl) vis (nx_of isD_k) ha hb (nomark _)
theorem tx_nis (ha : EB X p μ a fa) (hb : EB X p μ b fb) : TX X p μ (.Compare a [.IsNot] [b] pos) (b2 nisD fa fb) := tx_cmpR (op_notN.or op_notBl) vnis (nx_of nisD_k) ha hb (nomark _)
theorem tx_in (hu : X.A.units + 65 < cLine) (ha : EB X p μ a fa) (hb : EB X p μ b fb) (hm : behindInMarks .In b = false := by rfl) : TX X p μ (.Compare a [.In] [b] pos) (b2 inD fa fb) := tx_cmpR (op_inAll hu) vin (nx_of inD_k) ha hb hm
theorem tx_nin (hu : X.A.units + 65 < cLine) (ha : EB X p μ a fa) (hb : EB X p μ b fb) (hm : behindInMarks .NotIn b = false := by rfl) : TX X p μ (.Compare a [.NotIn] [b] pos) (b2 ninD fa fb) := tx_cmpR (op_notInAll hu) vnin (nx_of ninD_k) ha hb hm
/-! values as tests; and, or, not; a if t else b; -a -/
def bV (f : En → R D) : En → R Bool := fun ρ => f ρ >>= fun d => match d with
  | .bl b => .ok b
  | _ => .bad
theorem tx_val {e : Expr} {f : En → R D} (h : EX X p μ e f) (he : ∀ whole, isTrue e X.env whole = (do let v ← whole; standAt e.pos; holding [v] (truthy v)) := by intro _; rfl) : TX X p μ e (bV f) := PTw (pt_val h he) fun σ H Q ⟨H0, ρ, s, q⟩ => by
  refine ⟨H0, ρ, s, ?_⟩
  unfold bV at q
  rw [R.sat_bind] at q
  refine R.sat_mono q (fun d k v H0' H' ad r => ?_) fun _ n => n
  split at k
  · cases r
    exact ⟨_, rfl, k H0' H' ad⟩
  · exact k.elim
def fT (f : En → R Bool) : En → R D := fun ρ => rB (f ρ)
def bAnd (f g : En → R Bool) : En → R Bool := fun ρ => f ρ >>= fun k => if k then g ρ else .ok false
def bOr (f g : En → R Bool) : En → R Bool := fun ρ => f ρ >>= fun k => if k then .ok true else g ρ
def bNot (f : En → R Bool) : En → R Bool := fun ρ => f ρ >>= fun k => .ok (!k)
/-- a test whatever its whole is -/
def WXt (X : Cx) (p : Pm) (μ : Ms) (e : Expr) (f : En → R Bool) : Prop := PW X e (tT X.K p μ f)
theorem PWw {X : Cx} {e : Expr} {t t' : TT} (h : PW X e t) (w : ∀ σ H Q, t' σ H Q → t σ H Q) : PW X e t' := ⟨fun wh pins s σ H Q I q => h.run wh pins s σ H Q I (w σ H Q q)⟩
theorem wx_and1 {f : En → R Bool} (h : TX X p μ a f) : WXt X p μ (.BoolOp .And [a] pos) f := pw_and1 h
theorem wx_or1 {f : En → R Bool} (h : TX X p μ a f) : WXt X p μ (.BoolOp .Or [a] pos) f := pw_or1 h
theorem wx_and {f g : En → R Bool} {rest : List Expr} (h : TX X p μ a f) (k : WXt X p μ (.BoolOp .And (b :: rest) pos) g) : WXt X p μ (.BoolOp .And (a :: b :: rest) pos) (bAnd f g) := PWw (pw_and h k) fun σ H Q ⟨H0, ρ, s, q⟩ => by
  refine ⟨H0, ρ, s, ?_⟩
  unfold bAnd at q
  rw [R.sat_bind] at q
  refine R.sat_mono q (fun c k H0' H' ad => ?_) fun _ n => n
  cases c with
  | true => exact ⟨H0', ρ, ad.sr, R.sat_mono k (fun c k H0'' H'' ad2 => k _ _ (ad.trans ad2)) fun _ n => n⟩
  | false => exact k _ _ ad
theorem wx_or {f g : En → R Bool} {rest : List Expr} (h : TX X p μ a f) (k : WXt X p μ (.BoolOp .Or (b :: rest) pos) g) : WXt X p μ (.BoolOp .Or (a :: b :: rest) pos) (bOr f g) := PWw (pw_or h k) fun σ H Q ⟨H0, ρ, s, q⟩ => by
  refine ⟨H0, ρ, s, ?_⟩
  unfold bOr at q
  rw [R.sat_bind] at q
  refine R.sat_mono q (fun c k H0' H' ad => ?_) fun _ n => n
  cases c with
  | false => exact ⟨H0', ρ, ad.sr, R.sat_mono k (fun c k H0'' H'' ad2 => k _ _ (ad.trans ad2)) fun _ n => n⟩
  | true => exact k _ _ ad
theorem tx_w {e : Expr} {f : En → R Bool} (h : WXt X p μ e f) : TX X p μ e f := h.pt
theorem tx_not {f : En → R Bool} (h : TX X p μ a f) : TX X p μ (.UnaryOp .Not a pos) (bNot f) := PTw (pt_not h) fun σ H Q ⟨H0, ρ, s, q⟩ => by
  refine ⟨H0, ρ, s, ?_⟩
  unfold bNot at q
  rw [R.sat_bind] at q
  exact R.sat_mono q (fun c k H0' H' ad => k _ _ ad) fun _ n => n
/-- and, or, not as values -/
def fAnd (f g : En → R D) : En → R D := fun ρ => f ρ >>= fun d => match d with
  | .bl true => g ρ
  | .bl false => .ok (.bl false)
  | _ => .bad
def fOr (f g : En → R D) : En → R D := fun ρ => f ρ >>= fun d => match d with
  | .bl false => g ρ
  | .bl true => .ok (.bl true)
  | _ => .bad
def fNot (f : En → R D) : En → R D := fun ρ => f ρ >>= fun d => match d with
  | .bl b => .ok (.bl (!b))
  | _ => .bad
def fNeg (f : En → R D) : En → R D := fun ρ => f ρ >>= fun d => match d with
  | .int b => .ok (.int (-b))
  | _ => .bad
theorem ex_one {op} {f : En → R D} (h : EX X p μ a f) : EX X p μ (.BoolOp op [a] pos) f := pe_one h
theorem ex_and' {f g : En → R D} {rest : List Expr} (h : EX X p μ a f) (k : EX X p μ (.BoolOp .And (b :: rest) pos) g) : EX X p μ (.BoolOp .And (a :: b :: rest) pos) (fAnd f g) := PEw (pe_and h k) fun σ H Q ⟨H0, ρ, s, q⟩ => by
  refine ⟨H0, ρ, s, ?_⟩
  unfold fAnd at q
  rw [R.sat_bind] at q
  refine R.sat_mono q (fun d k v H0' H' ad r => ?_) fun _ n => n
  split at k
  · cases r
    exact ⟨true, rfl, iteT ⟨H0', ρ, ad.sr, R.sat_mono k (fun c k w H0'' H'' ad2 r => k _ _ _ (ad.trans ad2) r) fun _ n => n⟩⟩
  · cases r
    exact ⟨false, rfl, iteF (k _ _ _ ad (.bl _))⟩
  · exact k.elim
theorem ex_or' {f g : En → R D} {rest : List Expr} (h : EX X p μ a f) (k : EX X p μ (.BoolOp .Or (b :: rest) pos) g) : EX X p μ (.BoolOp .Or (a :: b :: rest) pos) (fOr f g) := PEw (pe_or h k) fun σ H Q ⟨H0, ρ, s, q⟩ => by
  refine ⟨H0, ρ, s, ?_⟩
  unfold fOr at q
  rw [R.sat_bind] at q
  refine R.sat_mono q (fun d k v H0' H' ad r => ?_) fun _ n => n
  split at k
  · cases r
    exact ⟨false, rfl, iteF ⟨H0', ρ, ad.sr, R.sat_mono k (fun c k w H0'' H'' ad2 r => k _ _ _ (ad.trans ad2) r) fun _ n => n⟩⟩
  · cases r
    exact ⟨true, rfl, iteT (k _ _ _ ad (.bl _))⟩
  · exact k.elim
theorem ex_not {f : En → R D} (h : EX X p μ a f) : EX X p μ (.UnaryOp .Not a pos) (fNot f) := PEw (pe_not h) fun σ H Q ⟨H0, ρ, s, q⟩ => by
  refine ⟨H0, ρ, s, ?_⟩
  unfold fNot at q
  rw [R.sat_bind] at q
  refine R.sat_mono q (fun d k v H0' H' ad r => ?_) fun _ n => n
  split at k
  · cases r
    exact ⟨_, rfl, k _ _ _ ad (.bl _)⟩
  · exact k.elim
theorem ex_neg {f : En → R D} (h : EX X p μ a f) : EX X p μ (.UnaryOp .USub a pos) (fNeg f) := PEw (pe_un un_neg h) fun σ H Q ⟨H0, ρ, s, q⟩ => by
  refine ⟨H0, ρ, s, ?_⟩
  unfold fNeg at q
  rw [R.sat_bind] at q
  refine R.sat_mono q (fun d k v H0' H' ad r => ?_) fun _ n => n
  split at k
  · cases r
    exact ⟨_, rfl, k _ _ _ ad (.int _)⟩
  · exact k.elim
def fIf (c : En → R Bool) (f g : En → R D) : En → R D := fun ρ => c ρ >>= fun k => if k then f ρ else g ρ
theorem ex_if {c : Expr} {h : En → R Bool} {f g : En → R D} (hc : TX X p μ c h) (ha : EX X p μ a f) (hb : EX X p μ b g) : EX X p μ (.IfExp c a b pos) (fIf h f g) := PEw (pe_ifExp hc ha hb) fun σ H Q ⟨H0, ρ, s, q⟩ => by
  refine ⟨H0, ρ, s, ?_⟩
  unfold fIf at q
  rw [R.sat_bind] at q
  refine R.sat_mono q (fun c k H0' H' ad => ?_) fun _ n => n
  cases c with
  | true => exact iteT ⟨H0', ρ, ad.sr, R.sat_mono k (fun c k w H0'' H'' ad2 r => k _ _ _ (ad.trans ad2) r) fun _ n => n⟩
  | false => exact iteF ⟨H0', ρ, ad.sr, R.sat_mono k (fun c k w H0'' H'' ad2 r => k _ _ _ (ad.trans ad2) r) fun _ n => n⟩
end
end Pv

namespace Pv
open PySem PySem.Spec PyProof.Rows L2
open L2 (upd)

section
variable {X : Cx} {p : Pm} {μ : Ms} {e o : Expr} {es : List Expr} {f : En → R D} {g : En → R (List D)} {pos : Pos}
/-! arguments -/
def lNil : En → R (List D) := fun _ => .ok []
def lCons (f : En → R D) (g : En → R (List D)) : En → R (List D) := fun ρ => f ρ >>= fun d => g ρ >>= fun ds => .ok (d :: ds)
theorem ab_nil : AB X p μ [] lNil := PAw pa_nil fun σ H Q ⟨H0, ρ, s, q⟩ => q [] H0 H (.refl s) .nil
theorem ax_nil : AX X p μ [] lNil := PAw pa_nil fun σ H Q ⟨H0, ρ, s, q⟩ => q [] H0 H (.refl s) .nil
theorem BorL.adv {K : PySem.W.Frag} {H0 H H0' H' : Hp} {ρ : En} {σ : Sg} {vs : List V} {ds : List D} (b : BorL K H0 μ ρ σ vs ds) (a : Adv K p μ ρ σ H0 H H0' H') : BorL K H0' μ ρ σ vs ds := by
  induction b with
  | nil => exact .nil
  | cons h r ih => exact .cons (h.adv a) ih
theorem ab_cons (h : EB X p μ e f) (k : AB X p μ es g) (hs : starEach (e :: es) X.env = (false, eval e X.env) :: starEach es X.env := by rfl) : AB X p μ (e :: es) (lCons f g) := PAw (pa_cons h k hs) fun σ H Q ⟨H0, ρ, s, q⟩ => by
  unfold lCons at q
  rw [R.sat_bind] at q
  refine ⟨H0, ρ, s, R.sat_mono q (fun d k v H0' H' ad bv => ?_) fun _ n => n⟩
  rw [R.sat_bind] at k
  exact ⟨H0', ρ, ad.sr, R.sat_mono k (fun ds k vs H1 H1' ad2 bs => k _ _ _ (ad.trans ad2) (.cons (bv.adv ad2) bs)) fun _ n => n⟩
theorem ax_cons (h : EX X p μ e f) (k : AX X p μ es g) (hs : starEach (e :: es) X.env = (false, eval e X.env) :: starEach es X.env := by rfl) : AX X p μ (e :: es) (lCons f g) := PAw (pa_cons h k hs) fun σ H Q ⟨H0, ρ, s, q⟩ => by
  unfold lCons at q
  rw [R.sat_bind] at q
  refine ⟨H0, ρ, s, R.sat_mono q (fun d k v H0' H' ad bv => ?_) fun _ n => n⟩
  rw [R.sat_bind] at k
  exact ⟨H0', ρ, ad.sr, R.sat_mono k (fun ds k vs H1 H1' ad2 bs => k _ _ _ (ad.trans ad2) (.cons (bv.mono ad2.s0) bs)) fun _ n => n⟩
/-! tuple and list displays -/
def fTup (g : En → R (List D)) : En → R D := fun ρ => g ρ >>= fun ds => if ds.length ≤ sizeLine then .ok (.tup ds) else .bad
def fLst (g : En → R (List D)) : En → R D := fun ρ => g ρ >>= fun ds => if ds.length ≤ sizeLine then .ok (.lst ds) else .bad
theorem ex_tup {k : Nat} (h : AX X p μ es g) : EX X p μ (.Tuple es k pos) (fTup g) := PEw (pe_tup h) fun σ H Q ⟨H0, ρ, s, q⟩ => by
  unfold fTup at q
  rw [R.sat_bind] at q
  refine ⟨H0, ρ, s, R.sat_mono q (fun ds k vs H1 H1' ad bs => ?_) fun _ n => n⟩
  split at k
  · rename_i hz
    refine ⟨by rw [bs.length]; exact hz, fun a ha => k _ _ _ (ad.trans (ad.sr.adv_new ha)) (.tup upd_same ?_)⟩
    exact bs.mono (same_upd (ad.sr.free ha).2.1)
  · exact k.elim
theorem frs_new {K : PySem.W.Frag} {H0 H : Hp} {ρ : En} {σ : Sg} {a : Addr} {u : HO} {d : D} (s : SR K p H0 μ ρ σ H) (ha : H a = none) (r : RpO K H0 u d) : Frs K p μ ρ σ H H0 (upd H a u) (.ref a) d := by
  obtain ⟨f1, f2, f3⟩ := s.free ha
  refine ⟨a, u, rfl, ha, upd_same, f2, f1, r, fun i e hb he z => ?_⟩
  obtain ⟨v, ev, q⟩ := s.sl i e he
  rw [ev] at z
  have z : v = .ref a := by simpa using z
  subst z
  rw [hb] at q
  obtain ⟨z, o, e1, e2, _⟩ := q
  cases e1
  rw [ha] at e2; cases e2
theorem ef_lst (h : AX X p μ es g) : EF X p μ (.List es pos) (fLst g) := PEw (pe_lst h) fun σ H Q ⟨H0, ρ, s, q⟩ => by
  unfold fLst at q
  rw [R.sat_bind] at q
  refine ⟨H0, ρ, s, R.sat_mono q (fun ds k vs H1 H1' ad bs => ?_) fun _ n => n⟩
  split at k
  · rename_i hz
    exact ⟨by rw [bs.length]; exact hz, fun a ha => k _ _ _ (ad.trans (ad.sr.adv_hold ha)) ((frs_new (u := .lst vs) (d := .lst ds) ad.sr ha bs).back ad.s1)⟩
  · exact k.elim
/-! calls of what is built in -/
def fA (h : List D → R D) (g : En → R (List D)) : En → R D := fun ρ => g ρ >>= h
def VCall (K : PySem.W.Frag) (p : Pm) (r : List V → Hp → VK → Prop) (h : List D → R D) : Prop := ∀ (μ : Ms) (ρ : En) (σ : Sg) (H0 H : Hp) (vs : List V) (ds : List D) (Q : VK), SR K p H0 μ ρ σ H → BorL K H0 μ ρ σ vs ds →
  (h ds).sat (fun c => ∀ v H0' H', Adv K p μ ρ σ H0 H H0' H' → Rp K H0' v c → Q v H') (fun _ => False) → r vs H Q
def VCallF (K : PySem.W.Frag) (p : Pm) (r : List V → Hp → VK → Prop) (h : List D → R D) : Prop := ∀ (μ : Ms) (ρ : En) (σ : Sg) (H0 H : Hp) (vs : List V) (ds : List D) (Q : VK), SR K p H0 μ ρ σ H → BorL K H0 μ ρ σ vs ds →
  (h ds).sat (fun c => ∀ v H0' H', Adv K p μ ρ σ H0 H H0' H' → Frs K p μ ρ σ H H0' H' v c → Q v H') (fun _ => False) → r vs H Q
def NoExL (h : List D → R D) : Prop := ∀ ds, (∃ c, h ds = .ok c) ∨ h ds = .bad
theorem tA {r : List V → Hp → VK → Prop} {h : List D → R D} (hv : VCall X.K p r h) (hn : NoExL h) {σ : Sg} {H : Hp} {Q : VK} (q : tE X.K p μ (fA h g) σ H Q) : tCB r (tLB X.K p μ g) σ H Q := by
  obtain ⟨H0, ρ, s, q⟩ := q
  unfold fA at q
  rw [R.sat_bind] at q
  refine ⟨H0, ρ, s, R.sat_mono q (fun ds k vs H1 H1' ad bs => ?_) fun _ n => n⟩
  refine hv μ ρ σ H1 H1' vs ds Q ad.sr bs ?_
  rcases hn ds with ⟨c, e⟩ | e
  · rw [e] at k ⊢
    exact fun v H3 H4 ad3 r => k v H3 H4 (ad.trans ad3) r
  · rw [e] at k
    exact k.elim
theorem tAF {r : List V → Hp → VK → Prop} {h : List D → R D} (hv : VCallF X.K p r h) (hn : NoExL h) {σ : Sg} {H : Hp} {Q : VK} (q : tF X.K p μ (fA h g) σ H Q) : tCB r (tLB X.K p μ g) σ H Q := by
  obtain ⟨H0, ρ, s, q⟩ := q
  unfold fA at q
  rw [R.sat_bind] at q
  refine ⟨H0, ρ, s, R.sat_mono q (fun ds k vs H1 H1' ad bs => ?_) fun _ n => n⟩
  refine hv μ ρ σ H1 H1' vs ds Q ad.sr bs ?_
  rcases hn ds with ⟨c, e⟩ | e
  · rw [e] at k ⊢
    exact fun v H3 H4 ad3 r => k v H3 H4 (ad.trans ad3) (r.back ad.s1)
  · rw [e] at k
    exact k.elim
variable {x : Str} {q : Pos} {id T : String} {r : List V → Hp → VK → Prop} {h : List D → R D}
theorem ex_callB (hc : CallR X (.builtin id) r) (hv : VCall X.K p r h) (hn : NoExL h) (hg : Gl X x) (hm : X.mg x = none) (hb : bootBuiltins x = some (.builtin id)) (ha : AB X p μ (e :: es) g) (h1 : x ≠ "__name__" := by decide) (h2 : (x == ("__debug__" : Str)) = false := by decide)
    (h3 : starEach (e :: es) X.env = (false, eval e X.env) :: starEach es X.env := by rfl) (h4 : (backTo pos (starEach es X.env)).any (·.1) = false := by rfl) : EX X p μ (.Call (.Name x q) (e :: es) [] pos) (fA h g) :=
  PEw (pe_callB hc hg hm hb ha h1 h2 h3 h4) fun _ _ _ z => tA hv hn z
theorem ex_callT (hc : CallR X (.type T) r) (hv : VCall X.K p r h) (hn : NoExL h) (hg : Gl X x) (hm : X.mg x = none) (hb : bootBuiltins x = some (.type T)) (ha : AB X p μ (e :: es) g) (h1 : x ≠ "__name__" := by decide) (h2 : (x == ("__debug__" : Str)) = false := by decide)
    (h3 : starEach (e :: es) X.env = (false, eval e X.env) :: starEach es X.env := by rfl) (h4 : (backTo pos (starEach es X.env)).any (·.1) = false := by rfl) : EX X p μ (.Call (.Name x q) (e :: es) [] pos) (fA h g) :=
  PEw (pe_callTy hc hg hm hb ha h1 h2 h3 h4) fun _ _ _ z => tA hv hn z
theorem ef_callB (hc : CallR X (.builtin id) r) (hv : VCallF X.K p r h) (hn : NoExL h) (hg : Gl X x) (hm : X.mg x = none) (hb : bootBuiltins x = some (.builtin id)) (ha : AB X p μ (e :: es) g) (h1 : x ≠ "__name__" := by decide) (h2 : (x == ("__debug__" : Str)) = false := by decide)
    (h3 : starEach (e :: es) X.env = (false, eval e X.env) :: starEach es X.env := by rfl) (h4 : (backTo pos (starEach es X.env)).any (·.1) = false := by rfl) : EF X p μ (.Call (.Name x q) (e :: es) [] pos) (fA h g) :=
  PEw (pe_callB hc hg hm hb ha h1 h2 h3 h4) fun _ _ _ z => tAF hv hn z
theorem ef_callT (hc : CallR X (.type T) r) (hv : VCallF X.K p r h) (hn : NoExL h) (hg : Gl X x) (hm : X.mg x = none) (hb : bootBuiltins x = some (.type T)) (ha : AB X p μ (e :: es) g) (h1 : x ≠ "__name__" := by decide) (h2 : (x == ("__debug__" : Str)) = false := by decide)
    (h3 : starEach (e :: es) X.env = (false, eval e X.env) :: starEach es X.env := by rfl) (h4 : (backTo pos (starEach es X.env)).any (·.1) = false := by rfl) : EF X p μ (.Call (.Name x q) (e :: es) [] pos) (fA h g) :=
  PEw (pe_callTy hc hg hm hb ha h1 h2 h3 h4) fun _ _ _ z => tAF hv hn z
end
/-! len, int, list, tuple, min, max -/
def lenD : List D → R D
  | [.str l] => .ok (.int l.length)
  | [.lst l] => .ok (.int l.length)
  | [.tup l] => .ok (.int l.length)
  | _ => .bad
def intD : List D → R D
  | [.int i] => .ok (.int i)
  | [.bl b] => .ok (.int (if b then 1 else 0))
  | _ => .bad
def listD : List D → R D
  | [.lst l] => .ok (.lst l)
  | [.tup l] => .ok (.lst l)
  | _ => .bad
def tupleD : List D → R D
  | [.lst l] => .ok (.tup l)
  | [.tup l] => .ok (.tup l)
  | _ => .bad
def max2D : List D → R D
  | [.int i, .int j] => .ok (.int (if j > i then j else i))
  | _ => .bad
def min2D : List D → R D
  | [.int i, .int j] => .ok (.int (if j < i then j else i))
  | _ => .bad
theorem lenD_n : NoExL lenD := fun ds => by unfold lenD; split <;> first | exact .inl ⟨_, rfl⟩ | exact .inr rfl
theorem intD_n : NoExL intD := fun ds => by unfold intD; split <;> first | exact .inl ⟨_, rfl⟩ | exact .inr rfl
theorem listD_n : NoExL listD := fun ds => by unfold listD; split <;> first | exact .inl ⟨_, rfl⟩ | exact .inr rfl
theorem tupleD_n : NoExL tupleD := fun ds => by unfold tupleD; split <;> first | exact .inl ⟨_, rfl⟩ | exact .inr rfl
theorem max2D_n : NoExL max2D := fun ds => by unfold max2D; split <;> first | exact .inl ⟨_, rfl⟩ | exact .inr rfl
theorem min2D_n : NoExL min2D := fun ds => by unfold min2D; split <;> first | exact .inl ⟨_, rfl⟩ | exact .inr rfl
section
variable {X : Cx} {p : Pm}
theorem BorL.one {K : PySem.W.Frag} {H0 : Hp} {μ : Ms} {ρ : En} {σ : Sg} {vs : List V} {d : D} (b : BorL K H0 μ ρ σ vs [d]) : ∃ v, vs = [v] ∧ Bor K H0 μ ρ σ v d := by
  cases b with
  | cons h r => cases r; exact ⟨_, rfl, h⟩
theorem BorL.two {K : PySem.W.Frag} {H0 : Hp} {μ : Ms} {ρ : En} {σ : Sg} {vs : List V} {d e : D} (b : BorL K H0 μ ρ σ vs [d, e]) : ∃ v w, vs = [v, w] ∧ Bor K H0 μ ρ σ v d ∧ Bor K H0 μ ρ σ w e := by
  cases b with
  | cons h r =>
    cases r with
    | cons h2 r => cases r; exact ⟨_, _, rfl, h, h2⟩
theorem vlen : VCall X.K p (fun xs H Q => ∃ x n, xs = [x] ∧ LenV X.K x H n ∧ Q (.int n) H) lenD := by
  intro μ ρ σ H0 H vs ds Q s b h
  unfold lenD at h
  split at h
  · obtain ⟨v, rfl, c⟩ := b.one
    obtain ⟨rfl, g⟩ := c.str s
    refine ⟨_, _, rfl, ?_, h _ H0 H (.refl s) (.int _)⟩
    exact ⟨by rw [mkS_len]; exact g.len, (mkS_len _).symm⟩
  · obtain ⟨v, rfl, c⟩ := b.one
    obtain ⟨a, xs, rfl, h1, r1⟩ := c.lst s
    refine ⟨_, _, rfl, .inl ⟨xs, h1, ?_⟩, h _ H0 H (.refl s) (.int _)⟩
    exact r1.length.symm
  · obtain ⟨v, rfl, c⟩ := b.one
    obtain ⟨a, xs, rfl, h1, r1, _⟩ := c.tup s
    refine ⟨_, _, rfl, .inr ⟨xs, h1, ?_⟩, h _ H0 H (.refl s) (.int _)⟩
    exact r1.length.symm
  · exact h.elim
theorem vint : VCall X.K p (fun xs H Q => (∃ i, xs = [.int i] ∧ Q (.int i) H) ∨ ∃ k, xs = [.bl k] ∧ Q (.int (if k then 1 else 0)) H) intD := by
  intro μ ρ σ H0 H vs ds Q s b h
  unfold intD at h
  split at h
  · obtain ⟨v, rfl, c⟩ := b.one
    cases c.int s
    exact .inl ⟨_, rfl, h _ H0 H (.refl s) (.int _)⟩
  · obtain ⟨v, rfl, c⟩ := b.one
    cases c.bl s
    exact .inr ⟨_, rfl, h _ H0 H (.refl s) (.int _)⟩
  · exact h.elim
theorem vmax2 : VCall X.K p (fun xs H Q => ∃ i j, xs = [.int i, .int j] ∧ Q (.int (if j > i then j else i)) H) max2D := by
  intro μ ρ σ H0 H vs ds Q s b h
  unfold max2D at h
  split at h
  · obtain ⟨v, w, rfl, c, c2⟩ := b.two
    cases c.int s
    cases c2.int s
    exact ⟨_, _, rfl, h _ H0 H (.refl s) (.int _)⟩
  · exact h.elim
theorem vmin2 : VCall X.K p (fun xs H Q => ∃ i j, xs = [.int i, .int j] ∧ Q (.int (if j < i then j else i)) H) min2D := by
  intro μ ρ σ H0 H vs ds Q s b h
  unfold min2D at h
  split at h
  · obtain ⟨v, w, rfl, c, c2⟩ := b.two
    cases c.int s
    cases c2.int s
    exact ⟨_, _, rfl, h _ H0 H (.refl s) (.int _)⟩
  · exact h.elim
theorem vlist : VCallF X.K p (fun xs H Q => ∃ a ys, xs = [.ref a] ∧ (SqL X.K H a ys ∨ SqT X.K H a ys) ∧ ∀ l, H l = none → Q (.ref l) (upd H l (.lst ys))) listD := by
  intro μ ρ σ H0 H vs ds Q s b h
  unfold listD at h
  split at h
  · obtain ⟨v, rfl, c⟩ := b.one
    obtain ⟨a, xs, rfl, h1, r1⟩ := c.lst s
    exact ⟨_, _, rfl, .inl h1, fun l hl => h _ _ _ (s.adv_hold hl) (frs_new s hl r1)⟩
  · obtain ⟨v, rfl, c⟩ := b.one
    obtain ⟨a, xs, rfl, h1, r1, _⟩ := c.tup s
    exact ⟨_, _, rfl, .inr h1, fun l hl => h _ _ _ (s.adv_hold hl) (frs_new s hl r1)⟩
  · exact h.elim
theorem vtuple : VCall X.K p (fun xs H Q => ∃ a ys, xs = [.ref a] ∧ ((SqL X.K H a ys ∧ ∀ l, H l = none → Q (.ref l) (upd H l (.tup ys))) ∨ (SqT X.K H a ys ∧ Q (.ref a) H))) tupleD := by
  intro μ ρ σ H0 H vs ds Q s b h
  unfold tupleD at h
  split at h
  · obtain ⟨v, rfl, c⟩ := b.one
    obtain ⟨a, xs, rfl, h1, r1⟩ := c.lst s
    exact ⟨_, _, rfl, .inl ⟨h1, fun l hl => h _ _ _ (s.adv_new hl) (.tup upd_same (r1.mono (same_upd (s.free hl).2.1)))⟩⟩
  · obtain ⟨v, rfl, c⟩ := b.one
    obtain ⟨a, xs, rfl, h1, r1, h0⟩ := c.tup s
    exact ⟨_, _, rfl, .inr ⟨h1, h _ _ _ (.refl s) (.tup h0 r1)⟩⟩
  · exact h.elim
end
section
variable {X : Cx} {p : Pm} {μ : Ms} {a b : Expr} {fa fb : En → R D} {q pos : Pos}
theorem ex_len (hm : X.mg "len" = none) (ha : EB X p μ a fa) (hg : Gl X "len" := by rfl) (h3 : starEach [a] X.env = (false, eval a X.env) :: starEach [] X.env := by rfl) (h4 : (backTo pos (starEach [] X.env)).any (·.1) = false := by rfl) :
    EX X p μ (.Call (.Name "len" q) [a] [] pos) (fA lenD (lCons fa lNil)) := ex_callB call_len vlen lenD_n hg hm PySem.boot_len (ab_cons ha ab_nil h3) (h3 := h3) (h4 := h4)
theorem ex_intc (hm : X.mg "int" = none) (ha : EB X p μ a fa) (hg : Gl X "int" := by rfl) (h3 : starEach [a] X.env = (false, eval a X.env) :: starEach [] X.env := by rfl) (h4 : (backTo pos (starEach [] X.env)).any (·.1) = false := by rfl) :
    EX X p μ (.Call (.Name "int" q) [a] [] pos) (fA intD (lCons fa lNil)) := ex_callT call_int1 vint intD_n hg hm (by decide +kernel) (ab_cons ha ab_nil h3) (h3 := h3) (h4 := h4)
theorem ef_list (hm : X.mg "list" = none) (ha : EB X p μ a fa) (hg : Gl X "list" := by rfl) (h3 : starEach [a] X.env = (false, eval a X.env) :: starEach [] X.env := by rfl) (h4 : (backTo pos (starEach [] X.env)).any (·.1) = false := by rfl) :
    EF X p μ (.Call (.Name "list" q) [a] [] pos) (fA listD (lCons fa lNil)) := ef_callT call_list_of vlist listD_n hg hm (by decide +kernel) (ab_cons ha ab_nil h3) (h3 := h3) (h4 := h4)
theorem ex_tuple (hm : X.mg "tuple" = none) (ha : EB X p μ a fa) (hg : Gl X "tuple" := by rfl) (h3 : starEach [a] X.env = (false, eval a X.env) :: starEach [] X.env := by rfl) (h4 : (backTo pos (starEach [] X.env)).any (·.1) = false := by rfl) :
    EX X p μ (.Call (.Name "tuple" q) [a] [] pos) (fA tupleD (lCons fa lNil)) := ex_callT call_tuple_of vtuple tupleD_n hg hm (by decide +kernel) (ab_cons ha ab_nil h3) (h3 := h3) (h4 := h4)
theorem ex_max2 (hc : X.calm = true) (hm : X.mg "max" = none) (ha : EB X p μ a fa) (hb : EB X p μ b fb) (hg : Gl X "max" := by rfl) (h3 : starEach [a, b] X.env = (false, eval a X.env) :: starEach [b] X.env := by rfl) (h5 : starEach [b] X.env = (false, eval b X.env) :: starEach [] X.env := by rfl) (h4 : (backTo pos (starEach [b] X.env)).any (·.1) = false := by rfl) :
    EX X p μ (.Call (.Name "max" q) [a, b] [] pos) (fA max2D (lCons fa (lCons fb lNil))) := ex_callB (call_max2 hc) vmax2 max2D_n hg hm (by decide +kernel) (ab_cons ha (ab_cons hb ab_nil h5) h3) (h3 := h3) (h4 := h4)
theorem ex_min2 (hc : X.calm = true) (hm : X.mg "min" = none) (ha : EB X p μ a fa) (hb : EB X p μ b fb) (hg : Gl X "min" := by rfl) (h3 : starEach [a, b] X.env = (false, eval a X.env) :: starEach [b] X.env := by rfl) (h5 : starEach [b] X.env = (false, eval b X.env) :: starEach [] X.env := by rfl) (h4 : (backTo pos (starEach [b] X.env)).any (·.1) = false := by rfl) :
    EX X p μ (.Call (.Name "min" q) [a, b] [] pos) (fA min2D (lCons fa (lCons fb lNil))) := ex_callB (call_min2 hc) vmin2 min2D_n hg hm (by decide +kernel) (ab_cons ha (ab_cons hb ab_nil h5) h3) (h3 := h3) (h4 := h4)
end
end Pv

namespace Pv
open PySem PySem.Spec PyProof.Rows L2
open L2 (upd)

/-! items -/
def getD : D → D → R D
  | .lst ds, .int i => match atI ds i with
    | some d => .ok d
    | none => .bad
  | .tup ds, .int i => match atI ds i with
    | some d => .ok d
    | none => .bad
  | .str l, .int i => match atI l i with
    | some c => .ok (.str [c])
    | none => .bad
  | _, _ => .bad
theorem getD_n : NoEx getD := noEx_of fun d e => by
  unfold getD; split <;> (try split) <;> first | exact .inl ⟨_, rfl⟩ | exact .inr rfl
theorem atI_rp {K : PySem.W.Frag} {H : Hp} {xs : List V} {ds : List D} (r : RpL K H xs ds) {i : Int} {d : D} (h : atI ds i = some d) : ∃ v, atI xs i = some v ∧ Rp K H v d := by
  unfold atI at h ⊢
  rw [r.length]
  cases hj : ixN ds.length i with
  | none => rw [hj] at h; simp at h
  | some j =>
    rw [hj] at h
    obtain ⟨v, e, q⟩ := r.get (i := j) (d := d) (by simpa using h)
    exact ⟨v, by simpa using e, q⟩
section
variable {X : Cx} {p : Pm}
theorem strG_one {l : List Nat} (g : StrG l) {c : Nat} (h : c ∈ l) : StrG [c] := ⟨by show 1 ≤ sizeLine; rw [sizeLine_eq]; decide, fun d hd => by simp at hd; subst hd; exact g.cps _ h⟩
theorem atI_mem {α : Type} {xs : List α} {i : Int} {v : α} (h : atI xs i = some v) : v ∈ xs := by
  obtain ⟨j, _, h2, _⟩ := atI_get h
  exact List.mem_of_getElem? h2
theorem vget : VOp X.K p (rIx X.K) getD := by
  intro μ ρ σ H0 H x y d e Q s bx by' h
  unfold getD at h
  split at h
  · split at h
    · rename_i hd
      obtain ⟨a, xs, rfl, h1, r1⟩ := bx.lst s
      cases by'.int s
      obtain ⟨v, hv, rv⟩ := atI_rp r1 hd
      exact .inl ⟨_, _, _, _, rfl, rfl, h1, hv, h _ H0 H (.refl s) rv⟩
    · exact h.elim
  · split at h
    · rename_i hd
      obtain ⟨a, xs, rfl, h1, r1, _⟩ := bx.tup s
      cases by'.int s
      obtain ⟨v, hv, rv⟩ := atI_rp r1 hd
      exact .inr (.inl ⟨_, _, _, _, rfl, rfl, h1, hv, h _ H0 H (.refl s) rv⟩)
    · exact h.elim
  · split at h
    · rename_i hd
      obtain ⟨rfl, g⟩ := bx.str s
      cases by'.int s
      refine .inr (.inr ⟨_, _, _, rfl, rfl, by rw [mkS_len]; exact g.len, by rw [mkS_list]; exact hd, ?_⟩)
      exact h _ H0 H (.refl s) (.str _ (strG_one g (atI_mem hd)))
    · exact h.elim
  · exact h.elim
end
section
variable {X : Cx} {p : Pm} {μ : Ms} {a b : Expr} {fa fb : En → R D} {pos : Pos}
theorem ex_ix (ha : EB X p μ a fa) (hb : EB X p μ b fb) (hs : PlainIx b := by exact fun _ _ => rfl) : EX X p μ (.Subscript a b pos) (f2 getD fa fb) := PEw (pe_ix ix_seq ha hb hs) fun _ _ _ h => t2 vget getD_n h
/-! slices -/
def tO (K : PySem.W.Frag) (p : Pm) (μ : Ms) (f : En → R (Option Int)) : TO := fun σ H Q => ∃ H0 ρ, SR K p H0 μ ρ σ H ∧
  (f ρ).sat (fun o => ∀ H0' H', Adv K p μ ρ σ H0 H H0' H' → Q o H') (NX K p ρ σ)
def OX (X : Cx) (p : Pm) (μ : Ms) (e : Option Expr) (f : En → R (Option Int)) : Prop := PO X e (tO X.K p μ f)
theorem POw {X : Cx} {e : Option Expr} {t t' : TO} (h : PO X e t) (w : ∀ σ H Q, t' σ H Q → t σ H Q) : PO X e t' := ⟨fun pins s σ H Q I q => h.run pins s σ H Q I (w σ H Q q)⟩
def oNo : En → R (Option Int) := fun _ => .ok none
def oSo (f : En → R D) : En → R (Option Int) := fun ρ => f ρ >>= fun d => match d with
  | .int i => .ok (some i)
  | _ => .bad
theorem ox_no : OX X p μ none oNo := POw po_none fun σ H Q ⟨H0, ρ, s, q⟩ => q H0 H (.refl s)
theorem ox_so (h : EB X p μ a fa) : OX X p μ (some a) (oSo fa) := POw (po_some h) fun σ H Q ⟨H0, ρ, s, q⟩ => by
  unfold oSo at q
  rw [R.sat_bind] at q
  refine ⟨H0, ρ, s, R.sat_mono q (fun d k v H1 H1' ad bv => ?_) fun _ n => n⟩
  split at k
  · cases bv.int ad.sr
    exact ⟨_, rfl, k _ _ ad⟩
  · exact k.elim
def cutL {α : Type} (xs : List α) (lo hi : Option Int) : List α := (xs.drop (HT.sIx xs.length 0 lo)).take (HT.sIx xs.length xs.length hi - HT.sIx xs.length 0 lo)
def sliceD (d : D) (lo hi : Option Int) : R D := match d with
  | .lst ds => .ok (.lst (cutL ds lo hi))
  | .tup ds => .ok (.tup (cutL ds lo hi))
  | .str l => .ok (.str (cutL l lo hi))
  | _ => .bad
def fSl (f : En → R D) (lo hi : En → R (Option Int)) : En → R D := fun ρ => f ρ >>= fun d => lo ρ >>= fun l => hi ρ >>= fun h => sliceD d l h
theorem cut_rp {K : PySem.W.Frag} {H : Hp} {xs : List V} {ds : List D} (r : RpL K H xs ds) (lo hi : Option Int) : RpL K H (cutV xs lo hi) (cutL ds lo hi) := by
  unfold cutV cutL
  rw [r.length]
  exact (r.drop _).take _
theorem strG_sub {l m : List Nat} (g : StrG l) (h : ∀ c ∈ m, c ∈ l) (hl : m.length ≤ l.length) : StrG m := ⟨Nat.le_trans hl g.len, fun c hc => g.cps c (h c hc)⟩
theorem cutL_mem {α : Type} {xs : List α} {lo hi : Option Int} {c : α} (h : c ∈ cutL xs lo hi) : c ∈ xs := List.mem_of_mem_drop (List.mem_of_mem_take h)
theorem cutL_len {α : Type} {xs : List α} {lo hi : Option Int} : (cutL xs lo hi).length ≤ xs.length := by
  unfold cutL; rw [List.length_take, List.length_drop]; omega
def rSlAll (K : PySem.W.Frag) : V → Option Int → Option Int → Hp → VK → Prop := fun x lo hi H Q => (rSlL K x lo hi H Q ∨ rSlA K x lo hi H Q) ∨ ∃ z, x = .str z ∧ z.length ≤ sizeLine ∧ Q (.str (cutS z lo hi)) H
theorem sl_str' : SlR X (fun x lo hi H Q => ∃ z, x = .str z ∧ z.length ≤ sizeLine ∧ Q (.str (cutS z lo hi)) H) := sl_str
theorem sl_all : SlR X (rSlAll X.K) := (sl_list.or sl_tupA).or sl_str'
theorem cutS_mk (l : List Nat) (lo hi : Option Int) : cutS (mkS l) lo hi = mkS (cutL l lo hi) := by
  unfold cutS cutL
  rw [mkS_list, mkS_len]
  rfl
theorem cutV_all {xs : List V} {lo hi : Option Int} (h : HT.sIx xs.length 0 lo = 0 ∧ HT.sIx xs.length xs.length hi = xs.length) : cutV xs lo hi = xs := by
  unfold cutV
  rw [h.1, h.2]
  simp
theorem cutL_all {α : Type} {xs : List α} {lo hi : Option Int} (h : HT.sIx xs.length 0 lo = 0 ∧ HT.sIx xs.length xs.length hi = xs.length) : cutL xs lo hi = xs := by
  unfold cutL
  rw [h.1, h.2]
  simp
theorem sl_ok {ρ : En} {σ : Sg} {H0 H : Hp} {v : V} {d : D} {lo hi : Option Int} {Q : VK} (s : SR X.K p H0 μ ρ σ H) (b : Bor X.K H0 μ ρ σ v d)
    (h : (sliceD d lo hi).sat (fun c => ∀ v H0' H', Adv X.K p μ ρ σ H0 H H0' H' → Rp X.K H0' v c → Q v H') (fun _ => False)) : rSlAll X.K v lo hi H Q := by
  unfold sliceD at h
  split at h
  · obtain ⟨a, xs, rfl, h1, r1⟩ := b.lst s
    refine .inl (.inl ⟨_, _, rfl, h1, fun q hq => h _ _ _ (s.adv_new hq) (.lst (.of upd_same) ?_)⟩)
    exact (cut_rp r1 lo hi).mono (same_upd (s.free hq).2.1)
  · obtain ⟨a, xs, rfl, h1, r1, h0⟩ := b.tup s
    refine .inl (.inr ⟨_, _, rfl, h1, fun z => ?_, fun _ q hq => h _ _ _ (s.adv_new hq) (.tup upd_same ?_)⟩)
    · have e : cutL _ lo hi = _ := cutL_all (by rw [← r1.length]; exact z)
      rw [e] at h
      exact h _ _ _ (.refl s) (.tup h0 r1)
    · exact (cut_rp r1 lo hi).mono (same_upd (s.free hq).2.1)
  · obtain ⟨rfl, g⟩ := b.str s
    refine .inr ⟨_, rfl, by rw [mkS_len]; exact g.len, ?_⟩
    rw [cutS_mk]
    exact h _ _ _ (.refl s) (.str _ (strG_sub g (fun c hc => cutL_mem hc) cutL_len))
  · exact h.elim
theorem ex_sl {lo hi : Option Expr} {fl fh : En → R (Option Int)} {p2 : Pos} (ha : EB X p μ a fa) (hl : OX X p μ lo fl) (hh : OX X p μ hi fh) : EX X p μ (.Subscript a (.Slice lo hi none p2) pos) (fSl fa fl fh) :=
  PEw (pe_slice sl_all ha hl hh) fun σ H Q ⟨H0, ρ, s, q⟩ => by
    unfold fSl at q
    rw [R.sat_bind] at q
    refine ⟨H0, ρ, s, R.sat_mono q (fun d k v H1 H1' ad bv => ?_) fun _ n => n⟩
    rw [R.sat_bind] at k
    refine ⟨H1, ρ, ad.sr, R.sat_mono k (fun l k H2 H2' ad2 => ?_) fun _ n => n⟩
    rw [R.sat_bind] at k
    refine ⟨H2, ρ, ad2.sr, R.sat_mono k (fun h k H3 H3' ad3 => ?_) fun _ n => n⟩
    refine sl_ok ad3.sr ((bv.adv ad2).adv ad3) ?_
    have ad' := (ad.trans ad2).trans ad3
    revert k
    unfold sliceD
    split <;> intro k
    · exact fun v H0' H' a4 r => k v H0' H' (ad'.trans a4) r
    · exact fun v H0' H' a4 r => k v H0' H' (ad'.trans a4) r
    · exact fun v H0' H' a4 r => k v H0' H' (ad'.trans a4) r
    · exact k.elim
/-- a slice of a list, the new list one's own -/
def sliceLD (d : D) (lo hi : Option Int) : R D := match d with
  | .lst ds => .ok (.lst (cutL ds lo hi))
  | _ => .bad
def fSlL (f : En → R D) (lo hi : En → R (Option Int)) : En → R D := fun ρ => f ρ >>= fun d => lo ρ >>= fun l => hi ρ >>= fun h => sliceLD d l h
theorem ef_sl {lo hi : Option Expr} {fl fh : En → R (Option Int)} {p2 : Pos} (ha : EB X p μ a fa) (hl : OX X p μ lo fl) (hh : OX X p μ hi fh) : EF X p μ (.Subscript a (.Slice lo hi none p2) pos) (fSlL fa fl fh) :=
  PEw (pe_slice sl_list ha hl hh) fun σ H Q ⟨H0, ρ, s, q⟩ => by
    unfold fSlL at q
    rw [R.sat_bind] at q
    refine ⟨H0, ρ, s, R.sat_mono q (fun d k v H1 H1' ad bv => ?_) fun _ n => n⟩
    rw [R.sat_bind] at k
    refine ⟨H1, ρ, ad.sr, R.sat_mono k (fun l k H2 H2' ad2 => ?_) fun _ n => n⟩
    rw [R.sat_bind] at k
    refine ⟨H2, ρ, ad2.sr, R.sat_mono k (fun h k H3 H3' ad3 => ?_) fun _ n => n⟩
    have b := (bv.adv ad2).adv ad3
    have ad' := (ad.trans ad2).trans ad3
    unfold sliceLD at k
    split at k
    · obtain ⟨a, xs, rfl, h1, r1⟩ := b.lst ad3.sr
      refine ⟨_, _, rfl, h1, fun q hq => k _ _ _ (ad'.trans (ad3.sr.adv_hold hq)) ?_⟩
      exact (frs_new (u := .lst _) (d := .lst _) ad3.sr hq (cut_rp r1 l h)).back ad'.s1
    · exact k.elim
/-- list + list, the new one one's own -/
def catD : D → D → R D
  | .lst a, .lst b => if a.length + b.length ≤ sizeLine then .ok (.lst (a ++ b)) else .bad
  | _, _ => .bad
theorem ef_cat (ha : EB X p μ a fa) (hb : EB X p μ b fb) : EF X p μ (.BinOp a .Add b pos) (f2 catD fa fb) := ef_bin op_catL (fun μ ρ σ H0 H x y d e Q s bx by' h => by
    unfold catD at h
    split at h
    · split at h
      · rename_i hz
        obtain ⟨u, xs, rfl, h1, r1⟩ := bx.lst s
        obtain ⟨w, ys, rfl, h2, r2⟩ := by'.lst s
        have := r1.length
        have := r2.length
        exact ⟨u, w, xs, ys, rfl, rfl, h1, h2, by omega, fun q hq => h _ _ _ (s.adv_hold hq) (frs_new (u := .lst _) (d := .lst _) s hq (r1.app r2))⟩
      · exact h.elim
    · exact h.elim) (noEx_of fun d e => by unfold catD; split <;> (try split) <;> first | exact .inl ⟨_, rfl⟩ | exact .inr rfl) ha hb
end
/-! methods of what is built in -/
section
variable {X : Cx} {p : Pm} {μ : Ms} {o e : Expr} {es : List Expr} {f : En → R D} {g : En → R (List D)} {apos cpos : Pos} {name : Str} {T id : String} {r : V → List V → Hp → VK → Prop} {h : D → List D → R D}

def VMt (K : PySem.W.Frag) (p : Pm) (r : V → List V → Hp → VK → Prop) (h : D → List D → R D) : Prop := ∀ (μ : Ms) (ρ : En) (σ : Sg) (H0 H : Hp) (x : V) (d : D) (vs : List V) (ds : List D) (Q : VK), SR K p H0 μ ρ σ H → Bor K H0 μ ρ σ x d → BorL K H0 μ ρ σ vs ds →
  (h d ds).sat (fun c => ∀ v H0' H', Adv K p μ ρ σ H0 H H0' H' → Rp K H0' v c → Q v H') (fun _ => False) → r x vs H Q
/-- the receiver's type -/
def tyD (T : String) : D → Bool
  | .str _ => decide (T = "str")
  | .lst _ => decide (T = "list")
  | .dct _ => decide (T = "dict")
  | _ => false
def fM (T : String) (h : D → List D → R D) (f : En → R D) (g : En → R (List D)) : En → R D := fun ρ => f ρ >>= fun d => if tyD T d = true then g ρ >>= fun ds => h d ds else .bad
theorem tyD_ok {K : PySem.W.Frag} {H0 H : Hp} {ρ : En} {σ : Sg} {x : V} {d : D} (hT : T = "str" ∨ T = "list") (s : SR K p H0 μ ρ σ H) (b : Bor K H0 μ ρ σ x d) (t : tyD T d = true) : tyV K T x H := by
  unfold tyD at t
  split at t
  · obtain ⟨rfl, _⟩ := b.str s
    exact (of_decide_eq_true t : T = "str")
  · obtain ⟨a, xs, rfl, h1, _⟩ := b.lst s
    exact .inl ⟨of_decide_eq_true t, _, h1⟩
  · have t := of_decide_eq_true t
    subst t
    rcases hT with z | z <;> exact absurd z (by decide)
  · cases t
theorem ex_meth (hT : T = "str" ∨ T = "list") (pa : PlainAttrs T) (slot : Slot T name id) (hty : typeOf (.builtin id) = pure (.type "method_descriptor")) (hm : MtR X id r) (hv : VMt X.K p r h) (hn : ∀ d ds, (∃ c, h d ds = .ok c) ∨ h d ds = .bad) (ho : EB X p μ o f) (ha : AB X p μ (e :: es) g)
    (h1 : attributeBase o name X.env (eval o X.env) = eval o X.env := by rfl)
    (h2 : ((backTo cpos (starEach (e :: es) X.env)).all (fun x => !x.1) && (backToKw cpos (keywordEach [] X.env)).all (fun x => x.1.isSome) && decide ((e :: es).length + ([] : List Keyword).length + (if ([] : List Keyword).isEmpty then 0 else 1) < 30)) = true := by rfl)
    (h3 : (apos.endLine == cpos.line) = true := by rfl) (h4 : starEach (e :: es) X.env = (false, eval e X.env) :: starEach es X.env := by rfl) (h5 : (backTo cpos (starEach es X.env)).any (·.1) = false := by rfl) :
    EX X p μ (.Call (.Attribute o name apos) (e :: es) [] cpos) (fM T h f g) := PEw (pe_bm pa slot hty hm ho ha h1 h2 h3 h4 h5) fun σ H Q ⟨H0, ρ, s, q⟩ => by
  unfold fM at q
  rw [R.sat_bind] at q
  refine ⟨H0, ρ, s, R.sat_mono q (fun d k v H1 H1' ad bv => ?_) fun _ n => n⟩
  by_cases ht : tyD T d = true
  · rw [if_pos ht, R.sat_bind] at k
    refine ⟨tyD_ok hT ad.sr bv ht, H1, ρ, ad.sr, R.sat_mono k (fun ds k vs H2 H2' ad2 bs => ?_) fun _ n => n⟩
    refine hv μ ρ σ H2 H2' v d vs ds Q ad2.sr (bv.adv ad2) bs ?_
    rcases hn d ds with ⟨c, e⟩ | e
    · rw [e] at k ⊢
      exact fun v H3 H4 ad3 r => k v H3 H4 ((ad.trans ad2).trans ad3) r
    · rw [e] at k
      exact k.elim
  · rw [if_neg ht] at k
    exact k.elim
end
/-! join, index, find -/
def strsD : List D → Option (List (List Nat))
  | [] => some []
  | .str l :: ds => (strsD ds).map (l :: ·)
  | _ => none
def joinL (sep : List Nat) : List (List Nat) → List Nat
  | [] => []
  | [x] => x
  | x :: xs => x ++ sep ++ joinL sep xs
def joinD (d : D) (ds : List D) : R D := match d with
  | .str sep => match (match ds with | [.lst xs] => strsD xs | [.tup xs] => strsD xs | _ => none) with
    | some ls => if (ls.map (·.length)).sum + ls.length * sep.length ≤ sizeLine then .ok (.str (joinL sep ls)) else .bad
    | none => .bad
  | _ => .bad
theorem joinD_n : ∀ d ds, (∃ c, joinD d ds = .ok c) ∨ joinD d ds = .bad := fun d ds => by
  unfold joinD
  split
  · split
    · split <;> first | exact .inl ⟨_, rfl⟩ | exact .inr rfl
    · exact .inr rfl
  · exact .inr rfl
theorem strsD_rp {K : PySem.W.Frag} {H : Hp} : ∀ {xs : List V} {ds : List D} {ls : List (List Nat)}, RpL K H xs ds → strsD ds = some ls → xs = (ls.map fun l => V.str (mkS l)) ∧ ∀ l ∈ ls, StrG l
  | _, _, _, .nil, h => by
    simp only [strsD, Option.some.injEq] at h
    subst h
    exact ⟨rfl, fun _ z => by cases z⟩
  | _, _, ls, .cons h r, e => by
    cases h with
    | str l g =>
      simp only [strsD] at e
      cases q : strsD _ with
      | none => rw [q] at e; simp at e
      | some ms =>
        rw [q] at e
        obtain ⟨h1, h2⟩ := strsD_rp r q
        simp only [Option.map_some, Option.some.injEq] at e
        subst e
        refine ⟨by rw [h1]; rfl, fun m hm => ?_⟩
        rcases List.mem_cons.mp hm with z | hm
        · subst z; exact g
        · exact h2 m hm
    | _ => simp [strsD] at e
theorem joinL_len (sep : List Nat) : ∀ ls : List (List Nat), (joinL sep ls).length ≤ (ls.map (·.length)).sum + ls.length * sep.length
  | [] => by simp [joinL]
  | [x] => by simp [joinL]
  | x :: y :: xs => by
    have ih := joinL_len sep (y :: xs)
    simp only [joinL, List.length_append, List.map_cons, List.sum_cons, List.length_cons] at ih ⊢
    have e : (xs.length + 1 + 1) * sep.length = (xs.length + 1) * sep.length + sep.length := by rw [Nat.add_mul (xs.length + 1) 1, Nat.one_mul]
    omega
theorem joinL_mem (sep : List Nat) : ∀ (ls : List (List Nat)) (c : Nat), c ∈ joinL sep ls → c ∈ sep ∨ ∃ l ∈ ls, c ∈ l
  | [], c, h => by simp [joinL] at h
  | [x], c, h => .inr ⟨x, List.mem_cons_self, by simpa [joinL] using h⟩
  | x :: y :: xs, c, h => by
    simp only [joinL, List.mem_append] at h
    rcases h with (h | h) | h
    · exact .inr ⟨x, List.mem_cons_self, h⟩
    · exact .inl h
    · rcases joinL_mem sep (y :: xs) c h with h | ⟨l, h1, h2⟩
      · exact .inl h
      · exact .inr ⟨l, List.mem_cons_of_mem _ h1, h2⟩
theorem join_mk (sep : List Nat) : ∀ ls : List (List Nat), Str.join (mkS sep) (ls.map mkS) = mkS (joinL sep ls)
  | [] => by unfold joinL mkS; rfl
  | [x] => rfl
  | x :: y :: xs => by
    have ih := join_mk sep (y :: xs)
    show (mkS x ++ mkS sep) ++ Str.join (mkS sep) ((y :: xs).map mkS) = _
    rw [ih, mkS_app, mkS_app]
    rfl
section
variable {X : Cx} {p : Pm}
theorem vjoin : VMt X.K p (fun x xs H Q => ∃ a p, ∃ ys : List Str, x = .str a ∧ xs = [.ref p] ∧ (SqL X.K H p (ys.map V.str) ∨ SqT X.K H p (ys.map V.str)) ∧ (ys.map (·.length)).sum + ys.length * a.length ≤ 16777216 ∧ Q (.str (Txt.join a ys)) H) joinD := by
  intro μ ρ σ H0 H x d vs ds Q s bx bs h
  unfold joinD at h
  split at h
  · rename_i sep
    split at h
    · rename_i ls hls
      split at h
      · rename_i hz
        obtain ⟨rfl, gx⟩ := bx.str s
        have fin : ∀ {q : Addr} {xs : List V} {es : List D}, RpL X.K H0 xs es → strsD es = some ls → (∀ ys : List Str, xs = ys.map V.str → SqL X.K H q (ys.map V.str) ∨ SqT X.K H q (ys.map V.str)) →
            ∃ (ys : List Str), (SqL X.K H q (ys.map V.str) ∨ SqT X.K H q (ys.map V.str)) ∧ (ys.map (·.length)).sum + ys.length * (mkS sep).length ≤ 16777216 ∧ Q (.str (Txt.join (mkS sep) ys)) H := fun {q xs es} r e k => by
          obtain ⟨e1, e2⟩ := strsD_rp r e
          refine ⟨ls.map mkS, k _ (by rw [e1, List.map_map]; rfl), ?_, ?_⟩
          · rw [List.map_map, List.length_map, mkS_len]
            have : ((fun x : Str => x.length) ∘ mkS) = fun l : List Nat => l.length := by funext l; exact mkS_len l
            rw [this, ← sizeLine_eq]
            exact hz
          · have : Txt.join (mkS sep) (ls.map mkS) = mkS (joinL sep ls) := by
              rw [← join_mk]; exact StrLaws.glued_eq_join _ _
            rw [this]
            refine h _ H0 H (.refl s) (.str _ ⟨Nat.le_trans (joinL_len sep ls) hz, fun c hc => ?_⟩)
            rcases joinL_mem sep ls c hc with z | ⟨l, h1, h2⟩
            · exact gx.cps c z
            · exact (e2 l h1).cps c h2
        split at hls
        · obtain ⟨v, rfl, b⟩ := bs.one
          obtain ⟨q, xs, rfl, h1, r1⟩ := b.lst s
          obtain ⟨ys, k1, k2, k3⟩ := fin (q := q) r1 hls (fun ys e => .inl (by rw [← e]; exact h1))
          exact ⟨_, q, ys, rfl, rfl, k1, k2, k3⟩
        · obtain ⟨v, rfl, b⟩ := bs.one
          obtain ⟨q, xs, rfl, h1, r1, _⟩ := b.tup s
          obtain ⟨ys, k1, k2, k3⟩ := fin (q := q) r1 hls (fun ys e => .inr (by rw [← e]; exact h1))
          exact ⟨_, q, ys, rfl, rfl, k1, k2, k3⟩
        · cases hls
      · exact h.elim
    · exact h.elim
  · exact h.elim
/-- text.index(sign), the sign stands there -/
def sindexD (d : D) (ds : List D) : R D := match d, ds with
  | .str l, [.str [c]] => if c ∈ l then .ok (.int (l.idxOf c)) else .bad
  | _, _ => .bad
theorem sindexD_n : ∀ d ds, (∃ c, sindexD d ds = .ok c) ∨ sindexD d ds = .bad := fun d ds => by
  unfold sindexD; split <;> (try split) <;> first | exact .inl ⟨_, rfl⟩ | exact .inr rfl
theorem occ_idx (l : List Nat) (c : Nat) (h : c ∈ l) : ∃ rest, Builtin.Str.occurrences (mkS l) (mkS [c]) 0 (mkS l).length 1 = l.idxOf c :: rest := by
  have at_ : ∀ i, StrLaws.At (mkS l) (mkS [c]) (mkS l).length i ↔ l[i]? = some c := fun i => by
    have := StrLaws.subAt_one (mkS l) c i
    rw [mkS_list] at this
    exact this
  have hi : l[l.idxOf c]? = some c := by
    have hl := List.idxOf_lt_length_of_mem h
    rw [List.getElem?_eq_getElem hl, List.getElem_idxOf]
  rcases StrLaws.occ_head (mkS l) (mkS [c]) 1 (Nat.le_refl _) with ⟨_, hn⟩ | ⟨i, r, e, ha, hn⟩
  · exact absurd ((at_ _).mpr hi) (hn _)
  · refine ⟨r, ?_⟩
    have h1 := (at_ i).mp ha
    have : i = l.idxOf c := by
      apply Nat.le_antisymm
      · apply Nat.le_of_not_lt
        intro z
        exact hn _ z ((at_ _).mpr hi)
      · apply Nat.le_of_not_lt
        intro z
        have hz := List.not_of_lt_findIdx (p := (· == c)) (xs := l) (i := i) z
        have hl : i < l.length := Nat.lt_trans z (List.idxOf_lt_length_of_mem h)
        rw [List.getElem?_eq_getElem hl] at h1
        simp at h1
        simp [h1] at hz
    rw [e, this]
theorem vsindex : VMt X.K p (fun x xs H Q => ∃ a b i rest, x = .str a ∧ xs = [.str b] ∧ Builtin.Str.occurrences a b 0 a.length 1 = i :: rest ∧ Q (.int (i : Nat)) H) sindexD := by
  intro μ ρ σ H0 H x d vs ds Q s bx bs h
  unfold sindexD at h
  split at h
  · split at h
    · rename_i hc
      obtain ⟨rfl, _⟩ := bx.str s
      obtain ⟨v, rfl, b⟩ := bs.one
      obtain ⟨rfl, _⟩ := b.str s
      obtain ⟨rest, e⟩ := occ_idx _ _ hc
      exact ⟨_, _, _, _, rfl, rfl, e, h _ _ _ (.refl s) (.int _)⟩
    · exact h.elim
  · exact h.elim
end
section
variable {X : Cx} {p : Pm} {μ : Ms} {o a : Expr} {f fa : En → R D} {apos cpos : Pos}
theorem ex_join (ho : EB X p μ o f) (ha : EB X p μ a fa)
    (h1 : attributeBase o "join" X.env (eval o X.env) = eval o X.env := by rfl)
    (h2 : ((backTo cpos (starEach [a] X.env)).all (fun x => !x.1) && (backToKw cpos (keywordEach [] X.env)).all (fun x => x.1.isSome) && decide (([a] : List Expr).length + ([] : List Keyword).length + (if ([] : List Keyword).isEmpty then 0 else 1) < 30)) = true := by rfl)
    (h3 : (apos.endLine == cpos.line) = true := by rfl) (h4 : starEach [a] X.env = (false, eval a X.env) :: starEach [] X.env := by rfl) (h5 : (backTo cpos (starEach [] X.env)).any (·.1) = false := by rfl) :
    EX X p μ (.Call (.Attribute o "join" apos) [a] [] cpos) (fM "str" joinD f (lCons fa lNil)) :=
  ex_meth (.inl rfl) PySem.F.plainAttrs_str PySem.F.slot_str_join PySem.F.type_str_join mt_join vjoin joinD_n ho (ab_cons ha ab_nil h4) h1 h2 h3 h4 h5
theorem ex_sindex (ho : EB X p μ o f) (ha : EB X p μ a fa)
    (h1 : attributeBase o "index" X.env (eval o X.env) = eval o X.env := by rfl)
    (h2 : ((backTo cpos (starEach [a] X.env)).all (fun x => !x.1) && (backToKw cpos (keywordEach [] X.env)).all (fun x => x.1.isSome) && decide (([a] : List Expr).length + ([] : List Keyword).length + (if ([] : List Keyword).isEmpty then 0 else 1) < 30)) = true := by rfl)
    (h3 : (apos.endLine == cpos.line) = true := by rfl) (h4 : starEach [a] X.env = (false, eval a X.env) :: starEach [] X.env := by rfl) (h5 : (backTo cpos (starEach [] X.env)).any (·.1) = false := by rfl) :
    EX X p μ (.Call (.Attribute o "index" apos) [a] [] cpos) (fM "str" sindexD f (lCons fa lNil)) :=
  ex_meth (.inl rfl) PySem.F.plainAttrs_str PySem.F.slot_str_index PySem.F.type_str_index mt_sindex vsindex sindexD_n ho (ab_cons ha ab_nil h4) h1 h2 h3 h4 h5
end
end Pv

namespace Pv
open PySem PySem.Spec PyProof.Rows L2
open L2 (upd)

/-! what is walked -/
section
variable {X : Cx} {tg : Expr}
def iSeq (K : PySem.W.Frag) (tl : TE) : TI := fun σ H T => tl σ H fun x H1 =>
  (∃ a, x = .ref a ∧ (∃ xs, SqL K H1 a xs) ∧ T (Itl K a) H1) ∨ (∃ a, x = .ref a ∧ (∃ xs, SqT K H1 a xs) ∧ T (Itt K a) H1) ∨ ∃ z, x = .str z ∧ T (Its z) H1
theorem pi_seq {l : Expr} {tl : TE} (hl : PE X l tl) : PI X tg l (iSeq X.K tl) := by
  refine ⟨fun pins s σ H T I h => thn (hl.run pins s σ H _ I h) fun v s1 ⟨x, H1, I1, r1, q1⟩ => ?_⟩
  have one : ∀ {o : Obj} {tn : Nat → Heap → Prop} {J : It}, Turn X.prog X.w X.K tg J [s1.heap.objs.size] s1.heap.objs.size tn → (∀ h', h' = s1.heap.push o → tn 0 h') → T J H1 →
      PIE X pins σ tg T (.ref s1.heap.objs.size) { s1 with heap := s1.heap.push o } := fun {o tn J} tt t0 k =>
    ⟨s1.heap.objs.size, [s1.heap.objs.size], tn, J, H1, rfl, I1.kept (t' := s1.toks) fun b u e => Heap.get?_push_of_some _ e, tt, t0 _ rfl, fun b hb => by
      have e : b = s1.heap.objs.size := by simpa using hb
      subst e
      exact I1.fpOk (Nat.le_refl _) (I1.hok.fresh (Nat.le_refl _)), k⟩
  rcases q1 with ⟨a, rfl, ⟨xs, hq⟩, k⟩ | ⟨a, rfl, ⟨xs, hq⟩, k⟩ | ⟨z, rfl, k⟩
  · cases r1
    obtain ⟨its, rv, pl, hz⟩ := I1.list hq
    exact wpAny_pyIter_list pl.isList (one (turn_list a _) (fun h' e => by subst e; exact ⟨_, Heap.get?_push_size _ rfl, rfl, rfl⟩) k)
  · cases r1
    obtain ⟨its, rv, pl, hz⟩ := I1.tuple hq
    exact wpAny_pyIter_tuple (show s1.heap.IsTuple a its.toArray from pl) (one (turn_tuple a _) (fun h' e => by subst e; exact ⟨_, Heap.get?_push_size _ rfl, rfl, rfl⟩) k)
  · obtain ⟨t, rfl⟩ := r1
    cases ha : z.cps.all (· < 128)
    · exact wpAny_pyIter_wide ha (one (turn_str _ z t "str_iterator" (.inr rfl)) (fun h' e => by subst e; exact ⟨_, Heap.get?_push_size _ rfl, rfl, rfl⟩) k)
    · exact wpAny_pyIter_ascii ha (one (turn_str _ z t "str_ascii_iterator" (.inl rfl)) (fun h' e => by subst e; exact ⟨_, Heap.get?_push_size _ rfl, rfl, rfl⟩) k)
end
/-- the iterator J gives ds, whatever grows meanwhile; the slots of lk stand still -/
def Sq (K : PySem.W.Frag) (p : Pm) (lk : List Nat) (ρ : En) (σ : Sg) (J : It) (ds : List D) (H0 : Hp) : Prop := ∀ i μ' ρ' σ' H0' H', L2.Same H0 H0' → (∀ k ∈ lk, Ms.at μ' k = true ∧ ρ'[k]? = ρ[k]? ∧ σ'[k]? = σ[k]?) → SR K p H0' μ' ρ' σ' H' →
  ((∀ d, ds[i]? = some d → J.go i H' ∧ ∀ x H'', J.yld i H' x H'' → ∃ H0'', Adv K p μ' ρ' σ' H0' H' H0'' H'' ∧ Rp K H0'' x d) ∧ (ds.length ≤ i → J.stop i H'))
def tI (K : PySem.W.Frag) (p : Pm) (μ : Ms) (lk : List Nat) (f : En → R (List D)) : TI := fun σ H T => ∃ H0 ρ, SR K p H0 μ ρ σ H ∧
  (f ρ).sat (fun ds => ∀ J H0' H', Adv K p μ ρ σ H0 H H0' H' → Sq K p lk ρ σ J ds H0' → T J H') (NX K p ρ σ)
def IX (X : Cx) (p : Pm) (μ : Ms) (lk : List Nat) (tg e : Expr) (f : En → R (List D)) : Prop := PI X tg e (tI X.K p μ lk f)
theorem PIw {X : Cx} {tg e : Expr} {t t' : TI} (h : PI X tg e t) (w : ∀ σ H Q, t' σ H Q → t σ H Q) : PI X tg e t' := ⟨fun pins s σ H Q I q => h.run pins s σ H Q I (w σ H Q q)⟩
def itemsD : D → R (List D)
  | .lst ds => .ok ds
  | .tup ds => .ok ds
  | .str l => .ok (l.map fun c => .str [c])
  | _ => .bad
def fIt (f : En → R D) : En → R (List D) := fun ρ => f ρ >>= itemsD
section
variable {K : PySem.W.Frag} {p : Pm} {H0 H : Hp} {μ : Ms} {ρ : En} {σ : Sg}
theorem sq_lst {lk : List Nat} {a : Addr} {ds : List D} (h : ∀ μ' ρ' σ' H0' H', L2.Same H0 H0' → (∀ k ∈ lk, Ms.at μ' k = true ∧ ρ'[k]? = ρ[k]? ∧ σ'[k]? = σ[k]?) → SR K p H0' μ' ρ' σ' H' → ∃ xs, SqL K H' a xs ∧ RpL K H0' xs ds) : Sq K p lk ρ σ (Itl K a) ds H0 := by
  intro i μ' ρ' σ' H0' H' e k s
  obtain ⟨xs, hx, r⟩ := h μ' ρ' σ' H0' H' e k s
  refine ⟨fun d hd => ?_, fun hl => ⟨xs, hx, by rw [r.length]; exact hl⟩⟩
  obtain ⟨v, hv, rv⟩ := r.get hd
  refine ⟨⟨xs, v, hx, hv⟩, fun x H'' y => ?_⟩
  obtain ⟨e1, y⟩ := y
  subst e1
  have := (y xs hx).symm.trans hv
  have : x = v := by simpa using this
  subst this
  exact ⟨H0', .refl s, rv⟩
theorem sq_tup {lk : List Nat} {a : Addr} {xs : List V} {ds : List D} (h : H0 a = some (.tup xs)) (r : RpL K H0 xs ds) : Sq K p lk ρ σ (Itt K a) ds H0 := by
  intro i μ' ρ' σ' H0' H' e k s
  have hx : SqT K H' a xs := .of (s.sub _ _ (e _ _ h))
  have r := r.mono e
  refine ⟨fun d hd => ?_, fun hl => ⟨xs, hx, by rw [r.length]; exact hl⟩⟩
  obtain ⟨v, hv, rv⟩ := r.get hd
  refine ⟨⟨xs, v, hx, hv⟩, fun x H'' y => ?_⟩
  obtain ⟨e1, y⟩ := y
  subst e1
  have := (y xs hx).symm.trans hv
  have : x = v := by simpa using this
  subst this
  exact ⟨H0', .refl s, rv⟩
theorem sq_str {lk : List Nat} {l : List Nat} (g : StrG l) : Sq K p lk ρ σ (Its (mkS l)) (l.map fun c => .str [c]) H0 := by
  intro i μ' ρ' σ' H0' H' e k s
  have hsz : (mkS l).cps.size = l.length := by unfold mkS; simp
  have hat : ∀ j : Nat, (mkS l).cps[j]? = l[j]? := fun j => by unfold mkS; simp
  refine ⟨fun d hd => ?_, fun hl => by show (mkS l).cps.size ≤ i; rw [hsz]; simpa using hl⟩
  rw [List.getElem?_map] at hd
  cases hc : l[i]? with
  | none => rw [hc] at hd; cases hd
  | some c =>
    rw [hc] at hd
    have hd : D.str [c] = d := by simpa using hd
    subst hd
    have hi := (List.getElem?_eq_some_iff.mp hc).1
    refine ⟨by show i < (mkS l).cps.size; rw [hsz]; exact hi, fun x H'' y => ?_⟩
    obtain ⟨e1, c', h1, h2⟩ := y
    subst e1
    rw [hat, hc] at h1
    have : c = c' := by simpa using h1
    subst this
    subst h2
    exact ⟨H0', .refl s, .str [c] (strG_one g (List.mem_of_getElem? hc))⟩
theorem sq_rng {lk : List Nat} {lo : Int} {n : Nat} : Sq K p lk ρ σ (Itr lo n) ((List.range n).map fun (k : Nat) => D.int (lo + k)) H0 := by
  intro i μ' ρ' σ' H0' H' e k s
  refine ⟨fun d hd => ?_, fun hl => show n ≤ i by simpa using hl⟩
  rw [List.getElem?_map] at hd
  cases hc : (List.range n)[i]? with
  | none => rw [hc] at hd; cases hd
  | some c =>
    rw [hc] at hd
    have hi := (List.getElem?_eq_some_iff.mp hc).1
    have hi : i < n := by simpa using hi
    have : c = i := by
      rw [List.getElem?_range hi] at hc
      simpa using hc.symm
    subst this
    have hd : D.int (lo + c) = d := by simpa using hd
    subst hd
    refine ⟨hi, fun x H'' y => ?_⟩
    obtain ⟨e1, e2⟩ := y
    subst e1 e2
    exact ⟨H0', .refl s, .int _⟩
theorem sq_rngC {lk : List Nat} {lo c : Int} {n : Nat} : Sq K p lk ρ σ (Itc lo c n) ((List.range n).map fun (k : Nat) => D.int (lo + k * c)) H0 := by
  intro i μ' ρ' σ' H0' H' e k s
  refine ⟨fun d hd => ?_, fun hl => show n ≤ i by simpa using hl⟩
  rw [List.getElem?_map] at hd
  cases hc : (List.range n)[i]? with
  | none => rw [hc] at hd; cases hd
  | some c' =>
    rw [hc] at hd
    have hi := (List.getElem?_eq_some_iff.mp hc).1
    have hi : i < n := by simpa using hi
    have : c' = i := by
      rw [List.getElem?_range hi] at hc
      simpa using hc.symm
    subst this
    have hd : D.int (lo + c' * c) = d := by simpa using hd
    subst hd
    refine ⟨hi, fun x H'' y => ?_⟩
    obtain ⟨e1, e2⟩ := y
    subst e1 e2
    exact ⟨H0', .refl s, .int _⟩
end
section
variable {X : Cx} {p : Pm} {μ : Ms} {tg a b c : Expr} {fa fb fc : En → R D} {q pos : Pos}
/-- over a shared list, a tuple, a text -/
theorem ix_seq' (ha : EX X p μ a fa) : IX X p μ [] tg a (fIt fa) := PIw (pi_seq ha) fun σ H T ⟨H0, ρ, s, q⟩ => by
  unfold fIt at q
  rw [R.sat_bind] at q
  refine ⟨H0, ρ, s, R.sat_mono q (fun d k v H1 H1' ad rv => ?_) fun _ n => n⟩
  unfold itemsD at k
  split at k
  · cases rv with
    | lst h r =>
      refine .inl ⟨_, rfl, ⟨_, ad.sr.sub.seq h⟩, k _ _ _ ad ?_⟩
      exact sq_lst fun μ' ρ' σ' H0' H' e _ s' => ⟨_, (e.trans s'.sub).seq h, r.mono e⟩
  · cases rv with
    | tup h r => exact .inr (.inl ⟨_, rfl, ⟨_, .of (ad.sr.sub _ _ h)⟩, k _ _ _ ad (sq_tup h r)⟩)
  · cases rv with
    | str _ g => exact .inr (.inr ⟨_, rfl, k _ _ _ ad (sq_str g)⟩)
  · exact k.elim
/-- over a name's own list, which stands still meanwhile -/
theorem ix_own {i : Nat} (h : PE X a (tVar i)) (hm : μ.at i = true) : IX X p μ [i] tg a (fIt (fV i)) := PIw (pi_seq h) fun σ H T ⟨H0, ρ, s, q⟩ => by
  unfold fIt fV at q
  cases hd : ρ[i]? with
  | none => rw [hd] at q; exact q.elim
  | some z =>
    cases z with
    | none => rw [hd] at q; exact q.elim
    | some d =>
      rw [hd] at q
      obtain ⟨v, ev, k⟩ := s.sl i d hd
      rw [hm] at k
      obtain ⟨z, u, e1, e2, e3, e4, e5⟩ := k
      subst e1
      refine ⟨_, ev, ?_⟩
      cases u with
      | lst vs =>
        cases d with
        | lst ds =>
          refine .inl ⟨_, rfl, ⟨_, .of e2⟩, q _ _ _ (.refl s) ?_⟩
          refine sq_lst fun μ' ρ' σ' H0' H' e lk s' => ?_
          obtain ⟨k1, k2, k3⟩ := lk i (by simp)
          obtain ⟨v', ev', k'⟩ := s'.sl i _ (k2.trans hd)
          rw [k1] at k'
          obtain ⟨z', u', f1, f2, f3, f4, f5⟩ := k'
          rw [k3, ev] at ev'
          have : V.ref z = v' := by simpa using ev'
          rw [← this] at f1
          cases f1
          cases u' with
          | lst vs' => exact ⟨vs', .of f2, f5⟩
          | _ => exact f5.elim
        | _ => exact e5.elim
      | dK kvs => cases d <;> first | exact e5.elim | exact q.elim
      | dT kvs => cases d <;> first | exact e5.elim | exact q.elim
      | _ => exact e5.elim
/-- over range(..) -/
def r62 (i : Int) : Bool := decide (-(2 ^ 62) ≤ i) && decide (i < 2 ^ 62)
def r1D : List D → R (List D)
  | [.int j] => if r62 j = true then .ok ((List.range j.toNat).map fun (k : Nat) => .int ((0 : Int) + k)) else .bad
  | _ => .bad
def r2D : List D → R (List D)
  | [.int i, .int j] => if r62 i = true ∧ r62 j = true then .ok ((List.range (j - i).toNat).map fun (k : Nat) => .int (i + k)) else .bad
  | _ => .bad
/-- downwards by ones -/
def r3D : List D → R (List D)
  | [.int i, .int j, .int c] => if r62 i = true ∧ r62 j = true ∧ c = -1 then .ok ((List.range (i - j).toNat).map fun (k : Nat) => .int (i + k * c)) else .bad
  | _ => .bad
theorem r62_of {i : Int} (h : r62 i = true) : -(2 ^ 62) ≤ i ∧ i < 2 ^ 62 := by
  unfold r62 at h
  rw [Bool.and_eq_true] at h
  exact ⟨of_decide_eq_true h.1, of_decide_eq_true h.2⟩
theorem ix_r1 (hm : X.mg "range" = none) (ha : EB X p μ a fa) (hg : Gl X "range" := by rfl) (hs : starEach [a] X.env = [(false, eval a X.env)] := by rfl) : IX X p μ [] tg (.Call (.Name "range" q) [a] [] pos) (fun ρ => lCons fa lNil ρ >>= r1D) :=
  PIw (pi_range1 hg hm (ab_cons ha ab_nil hs) hs) fun σ H T ⟨H0, ρ, s, q⟩ => by
    rw [R.sat_bind] at q
    refine ⟨H0, ρ, s, R.sat_mono q (fun ds k vs H1 H1' ad bs => ?_) fun _ n => n⟩
    unfold r1D at k
    split at k
    · split at k
      · rename_i hr
        obtain ⟨v, rfl, b⟩ := bs.one
        cases b.int ad.sr
        have := r62_of hr
        exact ⟨_, rfl, this.1, this.2, k _ _ _ ad sq_rng⟩
      · exact k.elim
    · exact k.elim
theorem ix_r2 (hm : X.mg "range" = none) (ha : EB X p μ a fa) (hb : EB X p μ b fb) (hg : Gl X "range" := by rfl) (hs : starEach [a, b] X.env = [(false, eval a X.env), (false, eval b X.env)] := by rfl) (hs2 : starEach [b] X.env = [(false, eval b X.env)] := by rfl) :
    IX X p μ [] tg (.Call (.Name "range" q) [a, b] [] pos) (fun ρ => lCons fa (lCons fb lNil) ρ >>= r2D) :=
  PIw (pi_range2 hg hm (ab_cons ha (ab_cons hb ab_nil hs2) (by rw [hs, hs2])) hs hs2) fun σ H T ⟨H0, ρ, s, q⟩ => by
    rw [R.sat_bind] at q
    refine ⟨H0, ρ, s, R.sat_mono q (fun ds k vs H1 H1' ad bs => ?_) fun _ n => n⟩
    unfold r2D at k
    split at k
    · split at k
      · rename_i hr
        obtain ⟨v, w, rfl, b1, b2⟩ := bs.two
        cases b1.int ad.sr
        cases b2.int ad.sr
        have h1 := r62_of hr.1
        have h2 := r62_of hr.2
        exact ⟨_, _, rfl, ⟨h1.1, h1.2, h2.1, h2.2⟩, k _ _ _ ad sq_rng⟩
      · exact k.elim
    · exact k.elim
theorem BorL.three {K : PySem.W.Frag} {H0 : Hp} {ρ : En} {σ : Sg} {vs : List V} {d e f : D} (b : BorL K H0 μ ρ σ vs [d, e, f]) : ∃ v w u, vs = [v, w, u] ∧ Bor K H0 μ ρ σ v d ∧ Bor K H0 μ ρ σ w e ∧ Bor K H0 μ ρ σ u f := by
  cases b with
  | cons h r =>
    obtain ⟨w, u, rfl, h2, h3⟩ := BorL.two r
    exact ⟨_, _, _, rfl, h, h2, h3⟩
theorem ix_r3 (hm : X.mg "range" = none) (ha : EB X p μ a fa) (hb : EB X p μ b fb) (hc : EB X p μ c fc) (hg : Gl X "range" := by rfl) (hs : starEach [a, b, c] X.env = (false, eval a X.env) :: starEach [b, c] X.env := by rfl)
    (hs2 : starEach [b, c] X.env = (false, eval b X.env) :: starEach [c] X.env := by rfl) (hs3 : starEach [c] X.env = (false, eval c X.env) :: starEach [] X.env := by rfl) (hpl : (backTo pos (starEach [b, c] X.env)).any (·.1) = false := by rfl) :
    IX X p μ [] tg (.Call (.Name "range" q) [a, b, c] [] pos) (fun ρ => lCons fa (lCons fb (lCons fc lNil)) ρ >>= r3D) :=
  PIw (pi_range3 hg hm (ab_cons ha (ab_cons hb (ab_cons hc ab_nil hs3) hs2) hs) hs hpl) fun σ H T ⟨H0, ρ, s, q⟩ => by
    rw [R.sat_bind] at q
    refine ⟨H0, ρ, s, R.sat_mono q (fun ds k vs H1 H1' ad bs => ?_) fun _ n => n⟩
    unfold r3D at k
    split at k
    · split at k
      · rename_i hr
        obtain ⟨v, w, u, rfl, b1, b2, b3⟩ := bs.three
        cases b1.int ad.sr
        cases b2.int ad.sr
        cases b3.int ad.sr
        have h1 := r62_of hr.1
        have h2 := r62_of hr.2.1
        obtain ⟨_, _, rfl⟩ := hr
        exact ⟨_, _, _, _, rfl, RgC.neg h1.1 h1.2 h2.1 h2.2, k _ _ _ ad sq_rngC⟩
      · exact k.elim
    · exact k.elim
end
/-! targets -/
def Sub (μ : Ms) (ρ : En) (σ : Sg) (μ' : Ms) (ρ' : En) (σ' : Sg) : Prop := ρ'.length = σ'.length ∧ ∀ i d, ρ'[i]? = some (some d) → ρ[i]? = some (some d) ∧ Ms.at μ' i = Ms.at μ i ∧ σ'[i]? = σ[i]?
theorem SR.sub' {K : PySem.W.Frag} {p : Pm} {H0 H : Hp} {μ μ' : Ms} {ρ ρ' : En} {σ σ' : Sg} (s : SR K p H0 μ ρ σ H) (h : Sub μ ρ σ μ' ρ' σ') : SR K p H0 μ' ρ' σ' H where
  g0 := s.g0
  hh := s.hh
  sub := s.sub
  fr := s.fr
  len := h.1
  sl := fun i d e => by
    obtain ⟨h1, h2, h3⟩ := h.2 i d e
    rw [h2, h3]
    exact s.sl i d h1
  dj := fun i j d e a hij hi hj h1 h2 h3 h4 => by
    obtain ⟨a1, a2, a3⟩ := h.2 i d h1
    obtain ⟨b1, b2, b3⟩ := h.2 j e h2
    rw [a3] at h3
    rw [b3] at h4
    exact s.dj i j d e a hij (a2 ▸ hi) (b2 ▸ hj) a1 b1 h3 h4
/-- a value into a slot, shared -/
theorem SR.put {K : PySem.W.Frag} {p : Pm} {H0 H : Hp} {μ μ' : Ms} {ρ : En} {σ : Sg} {v : V} {d : D} (s : SR K p H0 μ ρ σ H) (i : Nat) (hm : ∀ j, Ms.at μ' j = if j = i then false else μ.at j) (r : Rp K H0 v d) : SR K p H0 μ' (ρ.set i (some d)) (σ.set i (some v)) H where
  g0 := s.g0
  hh := s.hh
  sub := s.sub
  fr := s.fr
  len := by rw [List.length_set, List.length_set]; exact s.len
  sl := fun j e he => by
    by_cases hj : j = i
    · subst hj
      have hl : j < ρ.length := by
        have := (List.getElem?_eq_some_iff.mp he).1
        simpa using this
      rw [List.getElem?_set_self hl] at he
      have : d = e := by simpa using he
      subst this
      refine ⟨v, List.getElem?_set_self (by rw [← s.len]; exact hl), ?_⟩
      rw [hm, if_pos rfl]
      exact r
    · rw [List.getElem?_set_ne (Ne.symm hj)] at he ⊢
      rw [hm, if_neg hj]
      exact s.sl j e he
  dj := fun j k d' e' a hjk hj hk h1 h2 h3 h4 => by
    have nj : j ≠ i := fun z => by subst z; rw [hm, if_pos rfl] at hj; cases hj
    have nk : k ≠ i := fun z => by subst z; rw [hm, if_pos rfl] at hk; cases hk
    rw [hm, if_neg nj] at hj
    rw [hm, if_neg nk] at hk
    rw [List.getElem?_set_ne (Ne.symm nj)] at h1 h3
    rw [List.getElem?_set_ne (Ne.symm nk)] at h2 h4
    exact s.dj j k d' e' a hjk hj hk h1 h2 h3 h4
/-- a fresh object into a slot that owns it -/
theorem SR.putF {K : PySem.W.Frag} {p : Pm} {H0 H Hs : Hp} {μ μ' : Ms} {ρ : En} {σ : Sg} {v : V} {d : D} (s : SR K p H0 μ ρ σ H) (i : Nat) (hm : ∀ j, Ms.at μ' j = if j = i then true else μ.at j) (r : Frs K p μ ρ σ Hs H0 H v d) : SR K p H0 μ' (ρ.set i (some d)) (σ.set i (some v)) H := by
  obtain ⟨a, o, rfl, _, f1, f2, f3, f4, f5⟩ := r
  refine ⟨s.g0, s.hh, s.sub, s.fr, by rw [List.length_set, List.length_set]; exact s.len, fun j e he => ?_, fun j k d' e' b hjk hj hk h1 h2 h3 h4 => ?_⟩
  · by_cases hj : j = i
    · subst hj
      have hl : j < ρ.length := by
        have := (List.getElem?_eq_some_iff.mp he).1
        simpa using this
      rw [List.getElem?_set_self hl] at he
      have : d = e := by simpa using he
      subst this
      refine ⟨.ref a, List.getElem?_set_self (by rw [← s.len]; exact hl), ?_⟩
      rw [hm, if_pos rfl]
      exact ⟨a, o, rfl, f1, f2, f3, f4⟩
    · rw [List.getElem?_set_ne (Ne.symm hj)] at he ⊢
      rw [hm, if_neg hj]
      exact s.sl j e he
  · have other : ∀ m e, m ≠ i → Ms.at μ' m = true → (ρ.set i (some d))[m]? = some (some e) → (σ.set i (some (V.ref a)))[m]? = some (some (V.ref b)) → b ≠ a := fun m e hn hm' q1 q2 z => by
      subst z
      rw [hm, if_neg hn] at hm'
      rw [List.getElem?_set_ne (Ne.symm hn)] at q1 q2
      exact f5 m e hm' q1 q2
    have self : ∀ {m : Nat}, m = i → (σ.set i (some (V.ref a)))[m]? = some (some (V.ref b)) → b = a := fun {m} hn q => by
      subst hn
      rw [List.getElem?_set] at q
      simp at q
      exact q.2.symm
    by_cases hj' : j = i
    · have nk : k ≠ i := fun z => hjk (hj'.trans z.symm)
      exact other k e' nk hk h2 h4 (self hj' h3)
    · by_cases hk' : k = i
      · exact other j d' hj' hj h1 h3 (self hk' h4)
      · rw [hm, if_neg hj'] at hj
        rw [hm, if_neg hk'] at hk
        rw [List.getElem?_set_ne (Ne.symm hj')] at h1 h3
        rw [List.getElem?_set_ne (Ne.symm hk')] at h2 h4
        exact s.dj j k d' e' b hjk hj hk h1 h2 h3 h4
/-- slots of shared kind stored: T says which -/
def tGt (K : PySem.W.Frag) (p : Pm) (μ μ' : Ms) (g : D → En → Option En) (T : List Nat) : TG := fun v σ H Q => ∃ H0 ρ d ρ', SR K p H0 μ ρ σ H ∧ Rp K H0 v d ∧ g d ρ = some ρ' ∧
  ∀ σ', SR K p H0 μ' ρ' σ' H → σ'.length = σ.length → (∀ j, j ∉ T → σ'[j]? = σ[j]? ∧ ρ'[j]? = ρ[j]?) → Q σ' H
def GX (X : Cx) (p : Pm) (μ μ' : Ms) (tg : Expr) (g : D → En → Option En) (T : List Nat) : Prop := PG X tg (tGt X.K p μ μ' g T)
theorem PGw {X : Cx} {tg : Expr} {t t' : TG} (h : PG X tg t) (w : ∀ v σ H Q, t' v σ H Q → t v σ H Q) : PG X tg t' := ⟨fun pins s σ H v u Q I r q => h.run pins s σ H v u Q I r (w v σ H Q q)⟩
def Ms.off (μ : Ms) (i : Nat) : Ms := μ.set i false
def Ms.on (μ : Ms) (i : Nat) : Ms := (if i < μ.length then μ else μ ++ List.replicate (i + 1 - μ.length) false).set i true
theorem Ms.off_at (μ : Ms) (i j : Nat) : (μ.off i).at j = if j = i then false else μ.at j := by
  unfold Ms.off Ms.at
  rw [List.getD_eq_getElem?_getD, List.getD_eq_getElem?_getD, List.getElem?_set]
  by_cases h : j = i
  · subst h
    simp only [if_true]
    split <;> rfl
  · rw [if_neg (Ne.symm h), if_neg h]
theorem Ms.on_at (μ : Ms) (i j : Nat) : (μ.on i).at j = if j = i then true else μ.at j := by
  unfold Ms.on Ms.at
  by_cases hl : i < μ.length
  · rw [if_pos hl, List.getD_eq_getElem?_getD, List.getD_eq_getElem?_getD, List.getElem?_set]
    by_cases h : j = i
    · subst h; simp [hl]
    · rw [if_neg (Ne.symm h), if_neg h]
  · rw [if_neg hl, List.getD_eq_getElem?_getD, List.getD_eq_getElem?_getD, List.getElem?_set]
    by_cases h : j = i
    · subst h
      simp only [if_true]
      rw [if_pos (by rw [List.length_append, List.length_replicate]; omega)]
      rfl
    · rw [if_neg (Ne.symm h), if_neg h]
      by_cases h2 : j < μ.length
      · rw [List.getElem?_append_left h2]
      · rw [List.getElem?_append_right (by omega), List.getElem?_replicate, List.getElem?_eq_none (by omega : μ.length ≤ j)]
        split <;> rfl
def gV (i : Nat) : D → En → Option En := fun d ρ => some (ρ.set i (some d))
theorem gx_name {X : Cx} {p : Pm} {μ : Ms} {tg : Expr} {i : Nat} (h : PG X tg (gName i)) : GX X p μ (μ.off i) tg (gV i) [i] := PGw h fun v σ H Q ⟨H0, ρ, d, ρ', s, r, e, k⟩ => by
  have : ρ' = ρ.set i (some d) := by unfold gV at e; simpa using e.symm
  subst this
  refine k _ (s.put i (fun j => Ms.off_at μ i j) r) (List.length_set ..) fun j hj => ?_
  have hj : i ≠ j := fun z => hj (by simp [z])
  rw [List.getElem?_set_ne hj, List.getElem?_set_ne hj]
  exact ⟨rfl, rfl⟩
/-- two names -/
def gV2 (i j : Nat) : D → En → Option En := fun d ρ => match d with
  | .tup [a, b] => some ((ρ.set i (some a)).set j (some b))
  | _ => none
theorem gx_two {X : Cx} {p : Pm} {μ : Ms} {a b : Expr} {i j : Nat} {k : Nat} {pos : Pos} (hc : X.calm = true) (h1 : PG X a (gName i)) (h2 : PG X b (gName j)) (hs1 : (assignEach [a, b] X.env).map (·.2) = assign a X.env :: (assignEach [b] X.env).map (·.2) := by rfl)
    (hs2 : (assignEach [b] X.env).map (·.2) = assign b X.env :: (assignEach [] X.env).map (·.2) := by rfl) (hn : (assignEach [a, b] X.env).length = 2 := by rfl) (hst : (assignEach [a, b] X.env).findIdx? (·.1) = none := by rfl) :
    GX X p μ ((μ.off i).off j) (.Tuple [a, b] k pos) (gV2 i j) [i, j] := PGw (pg_tup hc (pgs_cons h1 (pgs_cons h2 pgs_nil hs2) hs1) hn hst) fun v σ H Q ⟨H0, ρ, d, ρ', s, r, e, k⟩ => by
  unfold gV2 at e
  split at e
  · rename_i x y
    have : ρ' = (ρ.set i (some x)).set j (some y) := by simpa using e.symm
    subst this
    cases r with
    | tup h r =>
      cases r with
      | cons r1 r =>
        cases r with
        | cons r2 r =>
          cases r
          refine ⟨_, _, rfl, .of (s.sub _ _ h), rfl, _, _, rfl, _, _, rfl, rfl, ?_⟩
          refine k _ ((s.put i (fun m => Ms.off_at μ i m) r1).put j (fun m => Ms.off_at (μ.off i) j m) r2) (by rw [List.length_set, List.length_set]) fun m hm => ?_
          have n1 : i ≠ m := fun z => hm (by simp [z])
          have n2 : j ≠ m := fun z => hm (by simp [z])
          rw [List.getElem?_set_ne n2, List.getElem?_set_ne n1, List.getElem?_set_ne n2, List.getElem?_set_ne n1]
          exact ⟨rfl, rfl⟩
  · cases e
end Pv

namespace Pv
open PySem PySem.Spec PyProof.Rows L2
open L2 (upd)

/-! comprehensions -/
abbrev Pm.nw (p : Pm) : Pm := { p with W := fun _ _ _ _ => False, mx := [] }
theorem SR.toNw {K : PySem.W.Frag} {p : Pm} {H0 H : Hp} {μ : Ms} {ρ : En} {σ : Sg} (s : SR K p H0 μ ρ σ H) : SR K p.nw H0 μ ρ σ H := ⟨s.g0, s.hh, s.sub, s.fr, s.len, s.sl, s.dj⟩
theorem SR.ofNw {K : PySem.W.Frag} {p : Pm} {H0 H : Hp} {μ : Ms} {ρ : En} {σ : Sg} (s : SR K p.nw H0 μ ρ σ H) : SR K p H0 μ ρ σ H := ⟨s.g0, s.hh, s.sub, s.fr, s.len, s.sl, s.dj⟩
def wipeE (ρ : En) : List Nat → En
  | [] => ρ
  | v :: vs => (wipeE ρ vs).set v none
theorem wipeE_len (ρ : En) : ∀ vs, (wipeE ρ vs).length = ρ.length
  | [] => rfl
  | v :: vs => by unfold wipeE; rw [List.length_set, wipeE_len ρ vs]
theorem wipeE_at (ρ : En) : ∀ (vs : List Nat) (i : Nat), i ∉ vs → (wipeE ρ vs)[i]? = ρ[i]?
  | [], _, _ => rfl
  | v :: vs, i, h => by
    unfold wipeE
    rw [List.getElem?_set_ne (fun z => h (by simp [z])), wipeE_at ρ vs i fun z => h (List.mem_cons_of_mem _ z)]
theorem wipeE_in (ρ : En) : ∀ (vs : List Nat) (i : Nat), i ∈ vs → ∀ d, (wipeE ρ vs)[i]? ≠ some (some d)
  | v :: vs, i, h, d, e => by
    unfold wipeE at e
    by_cases hv : v = i
    · subst hv
      rw [List.getElem?_set] at e
      simp at e
    · rw [List.getElem?_set_ne hv] at e
      rcases List.mem_cons.mp h with z | z
      · exact hv z.symm
      · exact wipeE_in ρ vs i z d e
theorem wipe_at (σ : Sg) : ∀ (vs : List Nat) (i : Nat), i ∉ vs → (wipe σ vs)[i]? = σ[i]?
  | [], _, _ => rfl
  | v :: vs, i, h => by
    unfold wipe
    rw [List.getElem?_set_ne (fun z => h (by simp [z])), wipe_at σ vs i fun z => h (List.mem_cons_of_mem _ z)]
theorem wipe_in (σ : Sg) : ∀ (vs : List Nat) (i : Nat), i ∈ vs → (wipe σ vs)[i]? = if i < σ.length then some none else none
  | v :: vs, i, h => by
    unfold wipe
    by_cases hv : v = i
    · subst hv
      rw [List.getElem?_set, if_pos rfl, wipe_length]
    · rw [List.getElem?_set_ne hv]
      rcases List.mem_cons.mp h with z | z
      · exact absurd z.symm hv
      · exact wipe_in σ vs i z
theorem sub_wipe {K : PySem.W.Frag} {p : Pm} {H0 H : Hp} {μ : Ms} {ρ : En} {σ : Sg} (s : SR K p H0 μ ρ σ H) (vs : List Nat) : Sub μ ρ σ μ (wipeE ρ vs) (wipe σ vs) := by
  refine ⟨by rw [wipeE_len, wipe_length]; exact s.len, fun i d e => ?_⟩
  have hi : i ∉ vs := fun z => wipeE_in ρ vs i z d e
  rw [wipeE_at ρ vs i hi] at e
  exact ⟨e, rfl, wipe_at σ vs i hi⟩
def Ms.eqOff (μ μ' : Ms) (vs : List Nat) : Bool := (List.range (μ.length + μ'.length)).all fun i => vs.contains i || (μ.at i == μ'.at i)
theorem Ms.at_big {μ : Ms} {i : Nat} (h : μ.length ≤ i) : μ.at i = false := by
  unfold Ms.at
  rw [List.getD_eq_getElem?_getD, List.getElem?_eq_none h]; rfl
theorem Ms.eqOff_at {μ μ' : Ms} {vs : List Nat} (h : Ms.eqOff μ μ' vs = true) {i : Nat} (hi : i ∉ vs) : μ.at i = μ'.at i := by
  unfold Ms.eqOff at h
  rw [List.all_eq_true] at h
  by_cases hl : i < μ.length + μ'.length
  · have := h i (List.mem_range.mpr hl)
    simp only [Bool.or_eq_true, beq_iff_eq] at this
    rcases this with z | z
    · exact absurd (by simpa using z) hi
    · exact z
  · rw [Ms.at_big (by omega : μ.length ≤ i), Ms.at_big (by omega : μ'.length ≤ i)]
def R.nx {α : Type} : R α → R α
  | .ok a => .ok a
  | _ => .bad
def cGo (g : D → En → Option En) (ft : En → R Bool) (fe : En → R D) (ρ : En) : List D → R (List D)
  | [] => .ok []
  | d :: ds => match g d ρ with
    | none => .bad
    | some ρ1 => (ft ρ1).nx >>= fun b => if b = true then (fe ρ1).nx >>= fun y => cGo g ft fe ρ ds >>= fun ys => .ok (y :: ys) else cGo g ft fe ρ ds
def fLc (vs : List Nat) (fi : En → R (List D)) (g : D → En → Option En) (ft : En → R Bool) (fe : En → R D) : En → R D := fun ρ => fi ρ >>= fun ds => if ds.length ≤ sizeLine then cGo g ft fe (wipeE ρ vs) ds >>= fun ys => .ok (.lst ys) else .bad
def LX (X : Cx) (p : Pm) (μ : Ms) (es : List Expr) (f : En → R Bool) : Prop := PTs X es (tT X.K p μ f)
theorem PTsw {X : Cx} {e : List Expr} {t t' : TT} (h : PTs X e t) (w : ∀ σ H Q, t' σ H Q → t σ H Q) : PTs X e t' := ⟨fun pins s σ H Q I q => h.run pins s σ H Q I (w σ H Q q)⟩
def bYes : En → R Bool := fun _ => .ok true
theorem lx_nil {X : Cx} {p : Pm} {μ : Ms} : LX X p μ [] bYes := PTsw pts_nil fun σ H Q ⟨H0, ρ, s, q⟩ => q H0 H (.refl s)
theorem lx_one {X : Cx} {p : Pm} {μ : Ms} {e : Expr} {f : En → R Bool} (h : TX X p μ e f) : LX X p μ [e] f := pts_one h

/-- the reading of a comprehension, whatever follows -/
theorem lc_read {K : PySem.W.Frag} {p : Pm} {μ μb : Ms} {lk vs T : List Nat} {fi : En → R (List D)} {g : D → En → Option En} {ft : En → R Bool} {fe : En → R D} (hlk : (lk.all fun k => !vs.contains k && μ.at k) = true) (hT : (T.all fun k => vs.contains k) = true) (hμ : Ms.eqOff μ μb vs = true) {σ : Sg} {H : Hp} {Q : VK}
    (h : tF K p μ (fLc vs fi g ft fe) σ H Q) : tLc (tI K p μ lk fi) (tGt K p.nw μ μb g T) (tT K p.nw μb ft) (tE K p.nw μb fe) vs σ H Q := by
  obtain ⟨H0, ρ, s, q⟩ := h
  unfold fLc at q
  rw [R.sat_bind] at q
  refine ⟨H0, ρ, s, R.sat_mono q (fun ds k J Ha H1 ad sq => ?_) fun _ n => n⟩
  split at k
  · rename_i hz
    intro D0 hD
    have sa := ad.sr
    have sb := sa.sub' (sub_wipe sa vs)
    obtain ⟨fD1, fD2, fD3⟩ := sa.free hD
    have hlk' : ∀ k ∈ lk, k ∉ vs ∧ μ.at k = true := fun k hk => by
      have := List.all_eq_true.mp hlk k hk
      rw [Bool.and_eq_true] at this
      exact ⟨by simpa using this.1, this.2⟩
    have hT' : ∀ k ∈ T, k ∈ vs := fun k hk => by simpa using List.all_eq_true.mp hT k hk
    have nD : ∀ i e, μ.at i = true → (wipeE ρ vs)[i]? = some (some e) → (wipe σ vs)[i]? ≠ some (some (V.ref D0)) := fun i e hb he z => by
      obtain ⟨v, ev, q⟩ := sb.sl i e he
      rw [hb] at q
      obtain ⟨a, o, e1, e2, _⟩ := q
      rw [z] at ev
      have : V.ref D0 = v := by simpa using ev
      rw [← this] at e1
      cases e1
      rw [hD] at e2; cases e2
    cases hres : cGo g ft fe (wipeE ρ vs) ds with
    | ex x =>
      exfalso
      have : ∀ ds x, cGo g ft fe (wipeE ρ vs) ds ≠ .ex x := by
        intro ds
        induction ds with
        | nil => intro x z; cases z
        | cons d ds ih =>
          intro x z
          simp only [cGo] at z
          split at z
          · cases z
          · rename_i ρ1 _
            cases hft : ft ρ1 with
            | ok b =>
              rw [hft] at z
              simp only [R.nx, R.bind_ok] at z
              split at z
              · cases hfe : fe ρ1 with
                | ok y =>
                  rw [hfe] at z
                  simp only [R.nx, R.bind_ok] at z
                  cases hr : cGo g ft fe (wipeE ρ vs) ds with
                  | ok ys => rw [hr] at z; cases z
                  | ex y => exact ih y hr
                  | bad => rw [hr] at z; cases z
                | ex y => rw [hfe] at z; cases z
                | bad => rw [hfe] at z; cases z
              · exact ih x z
            | ex y => rw [hft] at z; cases z
            | bad => rw [hft] at z; cases z
      exact this ds x hres
    | bad => rw [hres] at k; exact k.elim
    | ok res =>
      rw [hres] at k
      refine ⟨fun i m H' => m = ds.length - i ∧ i ≤ ds.length ∧ ∃ H0' acc out, L2.Same Ha H0' ∧ L2.Same H1 H' ∧ (∀ b o, H1 b = some o → Mut (some o) → Ha b = none → H0' b = none) ∧ SR K p H0' μ (wipeE ρ vs) (wipe σ vs) H' ∧
        H' D0 = some (.lst acc) ∧ H0' D0 = none ∧ RpL K H0' acc out ∧ out.length ≤ i ∧ ∃ r, cGo g ft fe (wipeE ρ vs) (ds.drop i) = .ok r ∧ res = out ++ r,
        ⟨ds.length, rfl, Nat.zero_le _, Ha, [], [], .refl _, same_upd hD, fun _ _ _ _ z => z, sb.hold (same_upd hD), upd_same, fD2, .nil, Nat.le_refl _, res, hres, rfl⟩, ?_⟩
      rintro i m H' ⟨rfl, hi, H0', acc, out, g1, g2, g3, g4, g5, g6, g7, g8, r, g9, g10⟩
      obtain ⟨sgo, sstop⟩ := sq i μ (wipeE ρ vs) (wipe σ vs) H0' H' g1 (fun k hk => ⟨(hlk' k hk).2, wipeE_at ρ vs k (hlk' k hk).1, wipe_at σ vs k (hlk' k hk).1⟩) g4
      by_cases hlt : i < ds.length
      · obtain ⟨jgo, jyld⟩ := sgo ds[i] (List.getElem?_eq_getElem hlt)
        refine .inr ⟨jgo, fun H'' => i + 1 ≤ ds.length ∧ ∃ H0' acc out, L2.Same Ha H0' ∧ L2.Same H1 H'' ∧ (∀ b o, H1 b = some o → Mut (some o) → Ha b = none → H0' b = none) ∧ SR K p H0' μ (wipeE ρ vs) (wipe σ vs) H'' ∧
          H'' D0 = some (.lst acc) ∧ H0' D0 = none ∧ RpL K H0' acc out ∧ out.length ≤ i + 1 ∧ ∃ r, cGo g ft fe (wipeE ρ vs) (ds.drop (i + 1)) = .ok r ∧ res = out ++ r, fun H'' hN => ⟨ds.length - (i + 1), by omega, rfl, hN.1, hN.2⟩, fun x H2 hy => ?_⟩
        obtain ⟨H02, ad2, rx⟩ := jyld x H2 hy
        have edrop : ds.drop i = ds[i] :: ds.drop (i + 1) := List.drop_eq_getElem_cons hlt
        rw [edrop] at g9
        simp only [cGo] at g9
        cases hg : g ds[i] (wipeE ρ vs) with
        | none => rw [hg] at g9; cases g9
        | some ρ1 =>
          rw [hg] at g9
          simp only at g9
          refine ⟨H02, wipeE ρ vs, ds[i], ρ1, ad2.sr.toNw, rx, hg, fun σ1 s1 hlen hst => ?_⟩
          have hw : wipe σ1 vs = wipe σ vs := by
            apply List.ext_getElem?
            intro j
            by_cases hj : j ∈ vs
            · rw [wipe_in σ1 vs j hj, wipe_in σ vs j hj, hlen, wipe_length]
            · rw [wipe_at σ1 vs j hj, (hst j fun z => hj (hT' j z)).1]
          refine ⟨hw, ?_⟩
          have back : ∀ {Hx0 Hx : Hp}, SR K p.nw Hx0 μb ρ1 σ1 Hx → SR K p Hx0 μ (wipeE ρ vs) (wipe σ vs) Hx := fun {Hx0 Hx} sx => by
            refine sx.ofNw.sub' ⟨by rw [wipeE_len, wipe_length]; exact s.len, fun j d e => ?_⟩
            have hj : j ∉ vs := fun z => wipeE_in ρ vs j z d e
            obtain ⟨h1, h2⟩ := hst j fun z => hj (hT' j z)
            exact ⟨h2.trans e, Ms.eqOff_at hμ hj, h1.symm⟩
          cases hft : ft ρ1 with
          | ex y => rw [hft] at g9; cases g9
          | bad => rw [hft] at g9; cases g9
          | ok b =>
            rw [hft] at g9
            simp only [R.nx, R.bind_ok] at g9
            refine ⟨H02, ρ1, s1, ?_⟩
            rw [hft]
            intro H03 H3 ad3
            have a3 : L2.Same H' H3 := ad2.s1.trans ad3.s1
            have d3 : H03 D0 = none := ad3.ow D0 _ (ad2.s1 _ _ g5) trivial (ad2.ow D0 _ g5 trivial g6)
            have ow3 : ∀ b o, H1 b = some o → Mut (some o) → Ha b = none → H03 b = none := fun b o e m z =>
              ad3.ow b o (ad2.s1 _ _ (g2 _ _ e)) m (ad2.ow b o (g2 _ _ e) m (g3 b o e m z))
            cases b with
            | false =>
              rw [if_neg Bool.false_ne_true] at g9
              exact iteF ⟨hlt, H03, acc, out, g1.trans (ad2.s0.trans ad3.s0), g2.trans a3, ow3, back ad3.sr, a3 _ _ g5, d3, g7.mono (ad2.s0.trans ad3.s0), by omega, r, g9, g10⟩
            | true =>
              rw [if_pos rfl] at g9
              refine iteT ?_
              cases hfe : fe ρ1 with
              | ex y => rw [hfe] at g9; cases g9
              | bad => rw [hfe] at g9; cases g9
              | ok y =>
                rw [hfe] at g9
                simp only [R.nx, R.bind_ok] at g9
                cases hr : cGo g ft fe (wipeE ρ vs) (ds.drop (i + 1)) with
                | ex z => rw [hr] at g9; cases g9
                | bad => rw [hr] at g9; cases g9
                | ok ys =>
                  rw [hr] at g9
                  simp only [R.bind_ok] at g9
                  have er : r = y :: ys := by injection g9 with z; exact z.symm
                  refine ⟨H03, ρ1, ad3.sr, ?_⟩
                  rw [hfe]
                  intro v H04 H4 ad4 rv
                  have a4 : L2.Same H' H4 := a3.trans ad4.s1
                  have d4 : H04 D0 = none := ad4.ow D0 _ (a3 _ _ g5) trivial d3
                  have e0 : L2.Same H0' H04 := (ad2.s0.trans ad3.s0).trans ad4.s0
                  refine ⟨acc, a4 _ _ g5, by have := g7.length; omega, hlt, H04, acc ++ [v], out ++ [y], g1.trans e0, ?_, fun b o e m z => ad4.ow b o (a3 _ _ (g2 _ _ e)) m (ow3 b o e m z), ?_, upd_same, d4, (g7.mono e0).app (.one rv), by rw [List.length_append]; simp; omega, ys, rfl, by rw [g10, er]; simp⟩
                  · intro b o e
                    have hb : b ≠ D0 := fun z => by subst z; rw [hD] at e; cases e
                    rw [upd_ne hb]; exact a4 _ _ (g2 _ _ e)
                  · have sx := back ad4.sr
                    refine ⟨sx.g0, fun b o e => ?_, fun b o e => ?_, sx.fr, sx.len, fun j d e => ?_, sx.dj⟩
                    · have hb : b ≠ D0 := fun z => by subst z; rw [fD1] at e; cases e
                      rw [upd_ne hb]; exact sx.hh _ _ e
                    · have hb : b ≠ D0 := fun z => by subst z; rw [d4] at e; cases e
                      rw [upd_ne hb]; exact sx.sub _ _ e
                    · obtain ⟨w, ew, q⟩ := sx.sl j d e
                      refine ⟨w, ew, ?_⟩
                      cases hb : μ.at j with
                      | false => rw [hb] at q; exact q
                      | true =>
                        rw [hb] at q
                        obtain ⟨a, o, e1, e2, e3⟩ := q
                        subst e1
                        have ha : a ≠ D0 := fun z => by subst z; exact nD j d hb e ew
                        exact ⟨a, o, rfl, by rw [upd_ne ha]; exact e2, e3⟩
      · have e : i = ds.length := by omega
        subst e
        refine .inl ⟨sstop (Nat.le_refl _), ?_⟩
        rw [List.drop_length] at g9
        simp only [cGo] at g9
        have : r = [] := by injection g9 with z; exact z.symm
        subst this
        rw [List.append_nil] at g10
        subst g10
        have sf : SR K p H0' μ ρ σ H' := sa.grow g1 g4.sub g2 g4.fr g3
        refine k _ H0' H' ⟨ad.s0.trans g1, ad.s1.trans g2, fun b o e m z => g3 b o (ad.s1 _ _ e) m (ad.ow b o e m z), sf⟩ ?_
        refine ⟨D0, .lst acc, rfl, ad.s1.free hD, g5, g6, fD1, g7, fun j e hb he z => ?_⟩
        obtain ⟨v, ev, q⟩ := sa.sl j e he
        rw [hb] at q
        obtain ⟨a, o, e1, e2, _⟩ := q
        rw [z] at ev
        have : V.ref D0 = v := by simpa using ev
        rw [← this] at e1
        cases e1
        rw [hD] at e2; cases e2
  · exact k.elim
section
variable {X : Cx} {p : Pm} {μ : Ms} {lk : List Nat} {elt tg iter : Expr} {ifs : List Expr} {scope : Scope} {own : List (Str × Nat)} {pos : Pos} {fi : En → R (List D)} {g : D → En → Option En} {ft : En → R Bool} {fe : En → R D}
theorem ef_lc (own : List (Str × Nat)) (μb : Ms) (T : List Nat) (hc : X.calm = true) (hN : X.N.Nodup) (hi : IX X p μ lk tg iter fi) (ok : BlkOk X.N X.env.scope scope own)
    (hg : ∀ (s : Shared) (H : Hp) (C : Addr) (cl : List (Str × Addr)) (fp : List Addr), GX (X.blk s H scope (compEnvC scope cl C X.env) fp) p.nw μ μb tg g T)
    (ht : ∀ (s : Shared) (H : Hp) (C : Addr) (cl : List (Str × Addr)) (fp : List Addr), LX (X.blk s H scope (compEnvC scope cl C X.env) fp) p.nw μb ifs ft)
    (he : ∀ (s : Shared) (H : Hp) (C : Addr) (cl : List (Str × Addr)) (fp : List Addr), EX (X.blk s H scope (compEnvC scope cl C X.env) fp) p.nw μb elt fe)
    (hlk : (lk.all fun k => !(own.map (·.2)).contains k && μ.at k) = true := by rfl) (hT : (T.all fun k => (own.map (·.2)).contains k) = true := by rfl) (hμ : Ms.eqOff μ μb (own.map (·.2)) = true := by rfl) (hs : ∀ x, foldedSetIterable iter X.env x = pure x := by intro _; rfl) :
    EF X p μ (.ListComp elt [⟨tg, iter, ifs, 0⟩] scope pos) (fLc (own.map (·.2)) fi g ft fe) :=
  PEw (pe_lc (wi := tI X.K p μ lk fi) (g := tGt X.K p.nw μ μb g T) (tt := tT X.K p.nw μb ft) (te := tE X.K p.nw μb fe) hc hN hi ok hg ht he hs) fun σ H Q h => lc_read hlk hT hμ h
end
end Pv

namespace Pv
open PySem PySem.Spec PyProof.Rows L2
open L2 (upd)

section
variable {K : PySem.W.Frag} {p : Pm} {H0 H : Hp} {μ μ' : Ms} {ρ : En} {σ : Sg}
theorem SR.owned (s : SR K p H0 μ ρ σ H) {i : Nat} {d : D} (hm : μ.at i = true) (hd : ρ[i]? = some (some d)) : ∃ a o, σ[i]? = some (some (.ref a)) ∧ H a = some o ∧ H0 a = none ∧ p.Hin a = none ∧ RpO K H0 o d := by
  obtain ⟨v, ev, q⟩ := s.sl i d hd
  rw [hm] at q
  obtain ⟨a, o, e1, r⟩ := q
  subst e1
  exact ⟨a, o, ev, r⟩
theorem SR.mut (s : SR K p H0 μ ρ σ H) {i : Nat} {a : Addr} {d d' : D} {o o' : HO} (hm : μ.at i = true) (hd : ρ[i]? = some (some d)) (hσ : σ[i]? = some (some (.ref a))) (ho : H a = some o) (h0 : H0 a = none) (hi : p.Hin a = none) (r : RpO K H0 o' d') :
    SR K p H0 μ (ρ.set i (some d')) σ (upd H a o') where
  g0 := s.g0
  hh := fun b x e => by
    have hb : b ≠ a := fun z => by subst z; rw [hi] at e; cases e
    rw [upd_ne hb]; exact s.hh _ _ e
  sub := fun b x e => by
    have hb : b ≠ a := fun z => by subst z; rw [h0] at e; cases e
    rw [upd_ne hb]; exact s.sub _ _ e
  fr := s.fr
  len := by rw [List.length_set]; exact s.len
  sl := fun j e he => by
    by_cases hj : j = i
    · subst hj
      have hl := (List.getElem?_eq_some_iff.mp hd).1
      rw [List.getElem?_set_self hl] at he
      have : d' = e := by simpa using he
      subst this
      refine ⟨.ref a, hσ, ?_⟩
      rw [hm]
      exact ⟨a, o', rfl, upd_same, h0, hi, r⟩
    · rw [List.getElem?_set_ne (Ne.symm hj)] at he
      obtain ⟨v, ev, q⟩ := s.sl j e he
      refine ⟨v, ev, ?_⟩
      cases hb : μ.at j with
      | false => rw [hb] at q; exact q
      | true =>
        rw [hb] at q
        obtain ⟨z, u, e1, e2, e3⟩ := q
        subst e1
        have hz : z ≠ a := fun y => by subst y; exact s.dj j i e d z hj hb hm he hd ev hσ
        exact ⟨z, u, rfl, by rw [upd_ne hz]; exact e2, e3⟩
  dj := fun j k d1 e1 b hjk hj hk h1 h2 h3 h4 => by
    have get : ∀ m e, (ρ.set i (some d'))[m]? = some (some e) → ∃ e', ρ[m]? = some (some e') := fun m e he => by
      by_cases hmi : m = i
      · subst hmi; exact ⟨d, hd⟩
      · rw [List.getElem?_set_ne (Ne.symm hmi)] at he; exact ⟨e, he⟩
    obtain ⟨d2, g1⟩ := get j d1 h1
    obtain ⟨e2, g2⟩ := get k e1 h2
    exact s.dj j k d2 e2 b hjk hj hk g1 g2 h3 h4
theorem NX.at {x : Exn} (h : ∀ σ', NX K p ρ σ' x) : NX K p ρ σ x := h σ
theorem Lks.refl : Lks p ρ σ ρ σ := fun _ _ => ⟨rfl, rfl⟩
theorem Lks.trans {ρ1 ρ2 : En} {σ1 σ2 : Sg} (a : Lks p ρ σ ρ1 σ1) (b : Lks p ρ1 σ1 ρ2 σ2) : Lks p ρ σ ρ2 σ2 := fun i hi => ⟨(b i hi).1.trans (a i hi).1, (b i hi).2.trans (a i hi).2⟩
theorem Stp.base {ρ1 ρ2 : En} {σ1 σ2 : Sg} {H1 H2 H3 : Hp} (e : L2.Same H0 H1) (l : Lks p ρ σ ρ1 σ1) (b : Stp K p μ' ρ1 σ1 H1 ρ2 σ2 H2 H3) : Stp K p μ' ρ σ H0 ρ2 σ2 H2 H3 := ⟨e.trans b.s0, l.trans b.lk, b.sr⟩
theorem go_base {o : SO} {E : Ends} {ρ1 : En} {σ1 : Sg} {H1 : Hp} (e : L2.Same H0 H1) (l : Lks p ρ σ ρ1 σ1) (h : o.go K p μ' ρ σ H0 E) : o.go K p μ' ρ1 σ1 H1 E := by
  cases o with
  | nx ρ' => exact fun σ' H0' H' st => h σ' H0' H' (st.base e l)
  | rt d => exact h
  | bk ρ' => exact fun σ' H0' H' st => h σ' H0' H' (st.base e l)
  | ct ρ' => exact fun σ' H0' H' st => h σ' H0' H' (st.base e l)
  | ex x ρ' => exact h
  | bad => exact h
/-- from an expression's outcome to a statement's -/
def sE {α : Type} (f : En → R α) (k : α → En → SO) : En → SO := fun ρ => match f ρ with
  | .ok a => k a ρ
  | .ex x => .ex x ρ
  | .bad => .bad
theorem sE_sat {α : Type} {f : En → R α} {k : α → En → SO} {E : Ends} (h : (sE f k ρ).go K p μ' ρ σ H0 E) : (f ρ).sat (fun a => (k a ρ).go K p μ' ρ σ H0 E) (NX K p ρ σ) := by
  unfold sE at h
  cases hf : f ρ with
  | ok a => rw [hf] at h; exact h
  | ex x => rw [hf] at h; exact h σ
  | bad => rw [hf] at h; exact h
end
section
variable {X : Cx} {p : Pm} {μ μ' μ'' : Ms} {st : Stmt} {rest : List Stmt} {e : Expr} {f : En → SO} {g : En → SO} {fe : En → R D} {pos : Pos}
/-! blocks -/
def sNil : En → SO := fun ρ => .nx ρ
def sSeq (f g : En → SO) : En → SO := fun ρ => match f ρ with
  | .nx ρ' => g ρ'
  | .rt d => .rt d
  | .bk ρ' => .bk ρ'
  | .ct ρ' => .ct ρ'
  | .ex x ρ' => .ex x ρ'
  | .bad => .bad
theorem sxs_nil : SXs X p μ μ [] sNil := PSsw pss_nil fun D σ H ⟨H0, ρ, s, q⟩ => q σ H0 H ⟨.refl _, .refl, s⟩
theorem sxs_cons (h : SX X p μ μ' st f) (k : SXs X p μ' μ'' rest g) : SXs X p μ μ'' (st :: rest) (sSeq f g) := PSsw (pss_cons h k) fun E σ H ⟨H0, ρ, s, q⟩ => by
  refine ⟨H0, ρ, s, ?_⟩
  unfold sSeq at q
  revert q
  cases f ρ with
  | nx ρ' => exact fun q σ' H0' H' stp => ⟨H0', ρ', stp.sr, go_base stp.s0 stp.lk q⟩
  | rt d => exact fun q => q
  | bk ρ' => exact fun q => q
  | ct ρ' => exact fun q => q
  | ex x ρ' => exact fun q => q
  | bad => exact fun q => q
theorem sxs_one (h : SX X p μ μ' st f) : SXs X p μ μ' [st] f := pss_one h
/-- ownership given up, ahead of a statement -/
theorem sx_wk (hl : Ms.le μ μ' = true) (h : SX X p μ' μ'' st f) : SX X p μ μ'' st f := PSw h fun E σ H ⟨H0, ρ, s, q⟩ => by
  obtain ⟨H1, e, s1⟩ := s.weak hl
  exact ⟨H1, ρ, s1, go_base e .refl q⟩
theorem sxs_wk (hl : Ms.le μ μ' = true) (h : SXs X p μ' μ'' rest f) : SXs X p μ μ'' rest f := PSsw h fun E σ H ⟨H0, ρ, s, q⟩ => by
  obtain ⟨H1, e, s1⟩ := s.weak hl
  exact ⟨H1, ρ, s1, go_base e .refl q⟩
theorem go_wk {K : PySem.W.Frag} {H0 : Hp} {ρ : En} {σ : Sg} {o : SO} {E : Ends} (hl : Ms.le μ' μ'' = true) (h : o.go K p μ'' ρ σ H0 E) : o.go K p μ' ρ σ H0 E := by
  cases o with
  | nx ρ' =>
    intro σ' H0' H' st
    obtain ⟨H1, e, s1⟩ := st.sr.weak hl
    exact h σ' H1 H' ⟨st.s0.trans e, st.lk, s1⟩
  | rt d => exact h
  | bk ρ' => exact h
  | ct ρ' => exact h
  | ex x ρ' => exact h
  | bad => exact h
/-- .. behind it -/
theorem sxs_to (hl : Ms.le μ' μ'' = true) (h : SXs X p μ μ' rest f) : SXs X p μ μ'' rest f := PSsw h fun E σ H ⟨H0, ρ, s, q⟩ => ⟨H0, ρ, s, go_wk hl q⟩
theorem sx_to (hl : Ms.le μ' μ'' = true) (h : SX X p μ μ' st f) : SX X p μ μ'' st f := PSw h fun E σ H ⟨H0, ρ, s, q⟩ => ⟨H0, ρ, s, go_wk hl q⟩
/-! small statements -/
theorem sx_pass : SX X p μ μ (.Pass pos) sNil := PSw ps_pass fun D σ H ⟨H0, ρ, s, q⟩ => q σ H0 H ⟨.refl _, .refl, s⟩
def sBk : En → SO := fun ρ => .bk ρ
def sCt : En → SO := fun ρ => .ct ρ
theorem sx_break (hl : Ms.le μ p.ml = true) : SX X p μ μ' (.Break pos) sBk := PSw ps_break fun D σ H ⟨H0, ρ, s, q⟩ => by
  obtain ⟨H1, e, s1⟩ := s.weak hl
  exact q σ H1 H ⟨e, .refl, s1⟩
theorem sx_continue (hl : Ms.le μ p.ml = true) : SX X p μ μ' (.Continue pos) sCt := PSw ps_continue fun D σ H ⟨H0, ρ, s, q⟩ => by
  obtain ⟨H1, e, s1⟩ := s.weak hl
  exact q σ H1 H ⟨e, .refl, s1⟩
/-- return -/
def sRt (fe : En → R D) : En → SO := sE fe fun d _ => .rt d
theorem ret_of {K : PySem.W.Frag} {H0 H : Hp} {ρ : En} {σ : Sg} {v : V} {d : D} (hm : p.rm = false) (s : SR K p H0 μ ρ σ H) (r : Rp K H0 v d) : Ret K p H0 H v d := by
  refine ⟨s.g0, s.hh, s.sub, s.fr, ?_⟩
  rw [hm]; exact r
theorem sx_ret (hm : p.rm = false) (h : EX X p μ e fe) : SX X p μ μ' (.Return (some e) pos) (sRt fe) := PSw (ps_ret h) fun E σ H ⟨H0, ρ, s, q⟩ =>
  ⟨H0, ρ, s, R.sat_mono (sE_sat q) (fun d k v H0' H' ad r => k v H0' H' (ret_of hm ad.sr r)) fun _ n => n⟩
def sRtN : En → SO := fun _ => .rt .non
theorem sx_retN (hm : p.rm = false) : SX X p μ μ' (.Return none pos) sRtN := PSw ps_retN fun E σ H ⟨H0, ρ, s, q⟩ => q .non H0 H (ret_of hm s .non)
theorem sx_retF (hm : p.rm = true) (h : EF X p μ e fe) : SX X p μ μ' (.Return (some e) pos) (sRt fe) := PSw (ps_ret h) fun E σ H ⟨H0, ρ, s, q⟩ =>
  ⟨H0, ρ, s, R.sat_mono (sE_sat q) (fun d k v H0' H' ad r => k v H0' H' (by
    obtain ⟨a, o, e1, e0, e2, e3, e4, e5, _⟩ := r
    refine ⟨ad.sr.g0, ad.sr.hh, ad.sr.sub, ad.sr.fr, ?_⟩
    rw [hm]
    exact ⟨a, o, e1, e2, e3, e4, e5⟩)) fun _ n => n⟩
/-- a name that owns its object is handed back -/
theorem sx_retO {i : Nat} (hm : p.rm = true) (hi : μ.at i = true) (h : PE X e (tVar i)) : SX X p μ μ' (.Return (some e) pos) (sRt (fV i)) := PSw (ps_ret h) fun E σ H ⟨H0, ρ, s, q⟩ => by
  have q := sE_sat q
  unfold fV at q
  cases hd : ρ[i]? with
  | none => rw [hd] at q; exact q.elim
  | some z =>
    cases z with
    | none => rw [hd] at q; exact q.elim
    | some d =>
      rw [hd] at q
      obtain ⟨a, o, e1, e2, e3, e4, e5⟩ := s.owned hi hd
      refine ⟨_, e1, q _ H0 H ?_⟩
      refine ⟨s.g0, s.hh, s.sub, s.fr, ?_⟩
      rw [hm]
      exact ⟨a, o, rfl, e2, e3, e4, e5⟩
/-- name = e -/
def sSet (i : Nat) (fe : En → R D) : En → SO := sE fe fun d ρ => .nx (ρ.set i (some d))
theorem lks_set {ρ : En} {σ : Sg} {i : Nat} {d : Option D} {v : Option V} (h : (p.lk.all fun k => decide (k ≠ i)) = true) : Lks p ρ σ (ρ.set i d) (σ.set i v) := fun k hk => by
  have := of_decide_eq_true (List.all_eq_true.mp h k hk)
  rw [List.getElem?_set_ne (Ne.symm this), List.getElem?_set_ne (Ne.symm this)]
  exact ⟨rfl, rfl⟩
theorem lks_setE {ρ : En} {σ : Sg} {i : Nat} {d : Option D} (h : (p.lk.all fun k => decide (k ≠ i)) = true) : Lks p ρ σ (ρ.set i d) σ := fun k hk => by
  have := of_decide_eq_true (List.all_eq_true.mp h k hk)
  rw [List.getElem?_set_ne (Ne.symm this)]
  exact ⟨rfl, rfl⟩
theorem sx_set {i : Nat} (hps : PS X st (tAsg (tE X.K p μ fe) (gName i))) (hl : (p.lk.all fun k => decide (k ≠ i)) = true) : SX X p μ (μ.off i) st (sSet i fe) := PSw hps fun E σ H ⟨H0, ρ, s, q⟩ =>
  ⟨H0, ρ, s, R.sat_mono (sE_sat q) (fun d k v H0' H' ad r => k _ _ _ ⟨ad.s0, lks_set hl, ad.sr.put i (fun j => Ms.off_at μ i j) r⟩) fun _ n => n⟩
theorem sx_setF {i : Nat} (hps : PS X st (tAsg (tF X.K p μ fe) (gName i))) (hl : (p.lk.all fun k => decide (k ≠ i)) = true) : SX X p μ (μ.on i) st (sSet i fe) := PSw hps fun E σ H ⟨H0, ρ, s, q⟩ =>
  ⟨H0, ρ, s, R.sat_mono (sE_sat q) (fun d k v H0' H' ad r => k _ _ _ ⟨ad.s0, lks_set hl, ad.sr.putF i (fun j => Ms.on_at μ i j) r⟩) fun _ n => n⟩
/-- name = [..], on one line, the name a local -/
theorem sx_setLc {i : Nat} {y : Str} {py spos : Pos} {lk : List Nat} {elt tg iter : Expr} {ifs : List Expr} {scope : Scope} {fi : En → R (List D)} {g : D → En → Option En} {ft : En → R Bool} {fe : En → R D} (own : List (Str × Nat)) (μb : Ms) (T : List Nat)
    (hy : X.N[i]? = some y) (hyl : X.env.scope.names.lookup y = some .local) (hsw : swapsWith (.ListComp elt [⟨tg, iter, ifs, 0⟩] scope pos) (some (.Name y py)) spos.line X.env = pure true)
    (hc : X.calm = true) (hN : X.N.Nodup) (hi : IX X p μ lk tg iter fi) (ok : BlkOk X.N X.env.scope scope own)
    (hg : ∀ (s : Shared) (H : Hp) (C : Addr) (cl : List (Str × Addr)) (fp : List Addr), GX (X.blk s H scope (compEnvC scope cl C X.env) fp) p.nw μ μb tg g T)
    (ht : ∀ (s : Shared) (H : Hp) (C : Addr) (cl : List (Str × Addr)) (fp : List Addr), LX (X.blk s H scope (compEnvC scope cl C X.env) fp) p.nw μb ifs ft)
    (he : ∀ (s : Shared) (H : Hp) (C : Addr) (cl : List (Str × Addr)) (fp : List Addr), EX (X.blk s H scope (compEnvC scope cl C X.env) fp) p.nw μb elt fe)
    (hlk : (lk.all fun k => !(own.map (·.2)).contains k && μ.at k) = true := by rfl) (hT : (T.all fun k => (own.map (·.2)).contains k) = true := by rfl) (hμ : Ms.eqOff μ μb (own.map (·.2)) = true := by rfl) (hl : (p.lk.all fun k => decide (k ≠ i)) = true := by rfl) (hs : ∀ x, foldedSetIterable iter X.env x = pure x := by intro _; rfl) :
    SX X p μ (μ.on i) (.Assign [.Name y py] (.ListComp elt [⟨tg, iter, ifs, 0⟩] scope pos) spos) (sSet i (fLc (own.map (·.2)) fi g ft fe)) :=
  sx_setF (PSw (ps_setLc (wi := tI X.K p μ lk fi) (g := tGt X.K p.nw μ μb g T) (tt := tT X.K p.nw μb ft) (te := tE X.K p.nw μb fe) hc hN hy hyl hsw hi ok hg ht he hs) fun D σ H h => lc_read hlk hT hμ h) hl
/-- an expression whose value is dropped -/
def sDrop (fe : En → R D) : En → SO := sE fe fun _ ρ => .nx ρ
theorem sx_drop (hps : PS X st (tDrop (tE X.K p μ fe))) : SX X p μ μ st (sDrop fe) := PSw hps fun E σ H ⟨H0, ρ, s, q⟩ =>
  ⟨H0, ρ, s, R.sat_mono (sE_sat q) (fun d k v H0' H' ad r => k _ _ _ ⟨ad.s0, .refl, ad.sr⟩) fun _ n => n⟩
/-! if -/
def sIf (c : En → R Bool) (f g : En → SO) : En → SO := sE c fun b ρ => if b = true then f ρ else g ρ
theorem sx_if {c : Expr} {a b : List Stmt} {fc : En → R Bool} (hc : TX X p μ c fc) (ha : SXs X p μ μ' a f) (hb : SXs X p μ μ' b g) : SX X p μ μ' (.If c a b pos) (sIf fc f g) := PSw (ps_if hc ha hb) fun E σ H ⟨H0, ρ, s, q⟩ =>
  ⟨H0, ρ, s, R.sat_mono (sE_sat q) (fun b k H0' H' ad => by
    cases b with
    | true => exact iteT ⟨H0', ρ, ad.sr, go_base ad.s0 .refl k⟩
    | false => exact iteF ⟨H0', ρ, ad.sr, go_base ad.s0 .refl k⟩) fun _ n => n⟩
/-! for -/
def forGo (g : D → En → Option En) (fb : En → SO) : List D → En → SO
  | [], ρ => .nx ρ
  | d :: ds, ρ => match g d ρ with
    | none => .bad
    | some ρ1 => match fb ρ1 with
      | .nx ρ2 => forGo g fb ds ρ2
      | .ct ρ2 => forGo g fb ds ρ2
      | .bk ρ2 => .nx ρ2
      | .rt d => .rt d
      | .ex x ρ2 => .ex x ρ2
      | .bad => .bad
def sFor (fi : En → R (List D)) (g : D → En → Option En) (fb : En → SO) : En → SO := sE fi fun ds ρ => forGo g fb ds ρ
abbrev Pm.lp (p : Pm) (μ : Ms) (lk : List Nat) : Pm := { p with ml := μ, lk := lk ++ p.lk }
theorem SR.toLp {K : PySem.W.Frag} {H0 H : Hp} {ρ : En} {σ : Sg} {μl : Ms} {lk : List Nat} (s : SR K p H0 μ ρ σ H) : SR K (p.lp μl lk) H0 μ ρ σ H := ⟨s.g0, s.hh, s.sub, s.fr, s.len, s.sl, s.dj⟩
theorem SR.ofLp {K : PySem.W.Frag} {H0 H : Hp} {ρ : En} {σ : Sg} {μl : Ms} {lk : List Nat} (s : SR K (p.lp μl lk) H0 μ ρ σ H) : SR K p H0 μ ρ σ H := ⟨s.g0, s.hh, s.sub, s.fr, s.len, s.sl, s.dj⟩
theorem NX.ofLp {K : PySem.W.Frag} {ρ : En} {σ : Sg} {μl : Ms} {lk : List Nat} {x : Exn} (h : NX K p ρ σ x) : NX K (p.lp μl lk) ρ σ x := fun cls d H0' H' s r => h cls d H0' H' s.ofLp r
theorem sx_for {tg iter : Expr} {body : List Stmt} {lk : List Nat} {μt : Ms} {fi : En → R (List D)} {g : D → En → Option En} {fb : En → SO} (T : List Nat) (hp : PassesOwn (model X.prog X.w) X.A X.env X.xe) (hc : X.calm = true) (hi : IX X p μ lk tg iter fi) (hg : GX X (p.lp μ lk) μ μt tg g T) (hb : SXs X (p.lp μ lk) μt μ body fb)
    (hlk : (lk.all fun k => μ.at k) = true := by rfl) (hT : (T.all fun k => !(lk ++ p.lk).contains k) = true := by rfl) (hs : ∀ x, foldedSetIterable iter X.env x = pure x := by intro _; rfl) : SX X p μ μ (.For tg iter body [] pos) (sFor fi g fb) :=
  PSw (ps_for (wi := tI X.K p μ lk fi) (g := tGt X.K (p.lp μ lk) μ μt g T) (tb := tS X.K (p.lp μ lk) μt μ fb) hp hc hi hg hb hs) fun E σ H ⟨H0, ρ, s, q⟩ => by
    refine ⟨H0, ρ, s, R.sat_mono (sE_sat q) (fun ds k J Ha H1 ad sq => ?_) fun _ n => n⟩
    have hT' : ∀ k ∈ lk ++ p.lk, k ∉ T := fun k hk z => by
      have := List.all_eq_true.mp hT k z
      simp only [Bool.not_eq_true', List.contains_eq_mem, decide_eq_false_iff_not] at this
      exact this hk
    refine ⟨fun i m σ' H' => m = ds.length - i ∧ i ≤ ds.length ∧ ∃ H0' ρ', L2.Same Ha H0' ∧ Lks (p.lp μ lk) ρ σ ρ' σ' ∧ SR X.K p H0' μ ρ' σ' H' ∧ (forGo g fb (ds.drop i) ρ').go X.K p μ ρ σ H0 E,
      ⟨ds.length, rfl, Nat.zero_le _, Ha, ρ, .refl _, .refl, ad.sr, k⟩, ?_⟩
    rintro i m σ' H' ⟨rfl, hi', H0', ρ', g1, g2, g3, g4⟩
    have lkp : Lks p ρ σ ρ' σ' := fun k hk => g2 k (List.mem_append_right _ hk)
    obtain ⟨sgo, sstop⟩ := sq i μ ρ' σ' H0' H' g1 (fun k hk => ⟨List.all_eq_true.mp hlk k hk, (g2 k (List.mem_append_left _ hk)).2, (g2 k (List.mem_append_left _ hk)).1⟩) g3
    by_cases hlt : i < ds.length
    · obtain ⟨jgo, jyld⟩ := sgo ds[i] (List.getElem?_eq_getElem hlt)
      refine .inr ⟨jgo, fun σ'' H'' => i + 1 ≤ ds.length ∧ ∃ H0' ρ', L2.Same Ha H0' ∧ Lks (p.lp μ lk) ρ σ ρ' σ'' ∧ SR X.K p H0' μ ρ' σ'' H'' ∧ (forGo g fb (ds.drop (i + 1)) ρ').go X.K p μ ρ σ H0 E, fun σ'' H'' hN => ⟨ds.length - (i + 1), by omega, rfl, hN.1, hN.2⟩, fun x H2 hy => ?_⟩
      obtain ⟨H02, ad2, rx⟩ := jyld x H2 hy
      have edrop : ds.drop i = ds[i] :: ds.drop (i + 1) := List.drop_eq_getElem_cons hlt
      rw [edrop] at g4
      simp only [forGo] at g4
      cases hg' : g ds[i] ρ' with
      | none => rw [hg'] at g4; exact g4.elim
      | some ρ1 =>
        rw [hg'] at g4
        simp only at g4
        refine ⟨H02, ρ', ds[i], ρ1, ad2.sr.toLp, rx, hg', fun σ1 s1 _ hst => ⟨H02, ρ1, s1, ?_⟩⟩
        have l1 : Lks (p.lp μ lk) ρ σ ρ1 σ1 := fun k hk => by
          obtain ⟨a1, a2⟩ := hst k (hT' k hk)
          obtain ⟨b1, b2⟩ := g2 k hk
          exact ⟨a1.trans b1, a2.trans b2⟩
        have e0 : L2.Same H0 H02 := ad.s0.trans (g1.trans ad2.s0)
        revert g4
        cases fb ρ1 with
        | nx ρ2 => exact fun g4 σ3 H03 H3 stp => ⟨hlt, H03, ρ2, g1.trans (ad2.s0.trans stp.s0), l1.trans stp.lk, stp.sr.ofLp, g4⟩
        | ct ρ2 => exact fun g4 σ3 H03 H3 stp => ⟨hlt, H03, ρ2, g1.trans (ad2.s0.trans stp.s0), l1.trans stp.lk, stp.sr.ofLp, g4⟩
        | bk ρ2 => exact fun g4 σ3 H03 H3 stp => g4 σ3 H03 H3 ⟨e0.trans stp.s0, fun k hk => (l1.trans stp.lk) k (List.mem_append_right _ hk), stp.sr.ofLp⟩
        | rt d => exact fun g4 => g4
        | ex y ρ2 => exact fun g4 σ' => (g4 σ').ofLp
        | bad => exact fun g4 => g4
    · have e : i = ds.length := by omega
      subst e
      rw [List.drop_length] at g4
      exact .inl ⟨sstop (Nat.le_refl _), g4 σ' H0' H' ⟨ad.s0.trans g1, lkp, g3⟩⟩
/-! while -/
def whN (c : En → R Bool) (fb : En → SO) : Nat → En → SO
  | 0, _ => .bad
  | n + 1, ρ => match c ρ with
    | .bad => .bad
    | .ex x => .ex x ρ
    | .ok false => .nx ρ
    | .ok true => match fb ρ with
      | .nx ρ2 => whN c fb n ρ2
      | .ct ρ2 => whN c fb n ρ2
      | .bk ρ2 => .nx ρ2
      | .rt d => .rt d
      | .ex x ρ2 => .ex x ρ2
      | .bad => .bad
open Classical in
noncomputable def sWh (c : En → R Bool) (fb : En → SO) : En → SO := fun ρ => if h : ∃ n, whN c fb n ρ ≠ .bad then whN c fb h.choose ρ else .bad
theorem whN_mono {c : En → R Bool} {fb : En → SO} : ∀ (n : Nat) (ρ : En), whN c fb n ρ ≠ .bad → ∀ k, whN c fb (n + k) ρ = whN c fb n ρ
  | 0, ρ, h, _ => absurd rfl h
  | n + 1, ρ, h, k => by
    rw [Nat.add_right_comm]
    simp only [whN] at h ⊢
    cases hc : c ρ with
    | bad => rfl
    | ex x => rfl
    | ok b =>
      cases b with
      | false => rfl
      | true =>
        rw [hc] at h
        simp only at h ⊢
        cases hf : fb ρ with
        | nx ρ2 => rw [hf] at h; exact whN_mono n _ h k
        | ct ρ2 => rw [hf] at h; exact whN_mono n _ h k
        | bk ρ2 => rfl
        | rt d => rfl
        | ex x ρ2 => rfl
        | bad => rfl
theorem sWh_of {c : En → R Bool} {fb : En → SO} {n : Nat} {ρ : En} {o : SO} (h : whN c fb n ρ = o) (ho : o ≠ .bad) : sWh c fb ρ = o := by
  have ex : ∃ n, whN c fb n ρ ≠ .bad := ⟨n, by rw [h]; exact ho⟩
  unfold sWh
  rw [dif_pos ex]
  have h1 := whN_mono _ ρ ex.choose_spec n
  have h2 := whN_mono n ρ (by rw [h]; exact ho) ex.choose
  rw [Nat.add_comm] at h1
  rw [← h1, h2, h]
theorem sx_while {c : Expr} {body : List Stmt} {fc : En → R Bool} {fb : En → SO} (hp : PassesOwn (model X.prog X.w) X.A X.env X.xe) (hc : TX X p μ c fc) (hb : SXs X (p.lp μ []) μ μ body fb) : SX X p μ μ (.While c body [] pos) (sWh fc fb) :=
  PSw (ps_while (tc := tT X.K p μ fc) (tb := tS X.K (p.lp μ []) μ μ fb) hp hc hb) fun E σ H ⟨H0, ρ, s, q⟩ => by
    have hex : ∃ n, (whN fc fb n ρ).go X.K p μ ρ σ H0 E := by
      unfold sWh at q
      split at q
      · exact ⟨_, q⟩
      · exact q.elim
    obtain ⟨n0, q0⟩ := hex
    refine ⟨fun n σ' H' => ∃ H0' ρ', L2.Same H0 H0' ∧ Lks p ρ σ ρ' σ' ∧ SR X.K p H0' μ ρ' σ' H' ∧ (whN fc fb n ρ').go X.K p μ ρ σ H0 E, ⟨n0, H0, ρ, .refl _, .refl, s, q0⟩, ?_⟩
    rintro n σ' H' ⟨H0', ρ', g1, g2, g3, g4⟩
    cases n with
    | zero => exact g4.elim
    | succ n =>
      refine ⟨H0', ρ', g3, ?_⟩
      simp only [whN] at g4
      revert g4
      cases fc ρ' with
      | bad => exact fun g4 => g4
      | ex x => exact fun g4 => g4 σ'
      | ok b =>
        cases b with
        | false => exact fun g4 H0'' H'' ad => iteF (g4 σ' H0'' H'' ⟨g1.trans ad.s0, g2, ad.sr⟩)
        | true =>
          intro g4 H0'' H'' ad
          refine iteT ⟨fun σ2 H2 => ∃ H0' ρ', L2.Same H0 H0' ∧ Lks p ρ σ ρ' σ2 ∧ SR X.K p H0' μ ρ' σ2 H2 ∧ (whN fc fb n ρ').go X.K p μ ρ σ H0 E, fun σ2 H2 hN => ⟨n, Nat.lt_succ_self _, hN⟩, H0'', ρ', ad.sr.toLp, ?_⟩
          revert g4
          cases fb ρ' with
          | nx ρ2 => exact fun g4 σ3 H03 H3 stp => ⟨H03, ρ2, (g1.trans ad.s0).trans stp.s0, g2.trans stp.lk, stp.sr.ofLp, g4⟩
          | ct ρ2 => exact fun g4 σ3 H03 H3 stp => ⟨H03, ρ2, (g1.trans ad.s0).trans stp.s0, g2.trans stp.lk, stp.sr.ofLp, g4⟩
          | bk ρ2 => exact fun g4 σ3 H03 H3 stp => g4 σ3 H03 H3 ⟨(g1.trans ad.s0).trans stp.s0, g2.trans stp.lk, stp.sr.ofLp⟩
          | rt d => exact fun g4 => g4
          | ex y ρ2 => exact fun g4 σ' => (g4 σ').ofLp
          | bad => exact fun g4 => g4
end
end Pv

namespace Pv
open PySem PySem.Spec PyProof.Rows L2
open L2 (upd)

section
variable {X : Cx} {p : Pm} {μ μ' : Ms} {o e e2 : Expr} {fe fe2 : En → R D} {apos cpos pos : Pos} {name : Str} {id : String} {r : V → List V → Hp → VK → Prop}
def ownL (i : Nat) : En → R (List D) := fun ρ => match ρ[i]? with
  | some (some (.lst ds)) => .ok ds
  | _ => .bad
theorem ownL_ok {i : Nat} {ρ : En} {ds : List D} (h : ownL i ρ = .ok ds) : ρ[i]? = some (some (.lst ds)) := by
  unfold ownL at h
  split at h
  · rename_i e; cases h; exact e
  · cases h
theorem ownL_n {i : Nat} {ρ : En} : (∃ ds, ownL i ρ = .ok ds) ∨ ownL i ρ = .bad := by
  unfold ownL; split <;> first | exact .inl ⟨_, rfl⟩ | exact .inr rfl
/-- a method that changes the owner's list: no argument, one, two -/
def sM0 (i : Nat) (g : List D → R (List D)) : En → SO := sE (ownL i) fun ds => sE (fun _ => g ds) fun ds' ρ => .nx (ρ.set i (some (.lst ds')))
def sM1 (i : Nat) (g : List D → D → R (List D)) (fe : En → R D) : En → SO := sE (ownL i) fun ds => sE fe fun d => sE (fun _ => g ds d) fun ds' ρ => .nx (ρ.set i (some (.lst ds')))
def sM2 (i : Nat) (g : List D → D → D → R (List D)) (fe fe2 : En → R D) : En → SO := sE (ownL i) fun ds => sE fe fun d => sE fe2 fun d2 => sE (fun _ => g ds d d2) fun ds' ρ => .nx (ρ.set i (some (.lst ds')))
def VM0 (K : PySem.W.Frag) (r : V → List V → Hp → VK → Prop) (g : List D → R (List D)) : Prop := ∀ (H0 H : Hp) (a : Addr) (vs : List V) (ds ds' : List D), H a = some (.lst vs) → vs.length ≤ sizeLine → RpL K H0 vs ds → g ds = .ok ds' →
  ∃ vs', RpL K H0 vs' ds' ∧ ∀ Q : VK, (∀ v, Q v (upd H a (.lst vs'))) → r (.ref a) [] H Q
def VM1 (K : PySem.W.Frag) (r : V → List V → Hp → VK → Prop) (g : List D → D → R (List D)) : Prop := ∀ (H0 H : Hp) (a : Addr) (vs : List V) (ds ds' : List D) (v : V) (d : D), H a = some (.lst vs) → RpL K H0 vs ds → Rp K H0 v d → g ds d = .ok ds' →
  ∃ vs', RpL K H0 vs' ds' ∧ ∀ Q : VK, (∀ v, Q v (upd H a (.lst vs'))) → r (.ref a) [v] H Q
def VM2 (K : PySem.W.Frag) (r : V → List V → Hp → VK → Prop) (g : List D → D → D → R (List D)) : Prop := ∀ (H0 H : Hp) (a : Addr) (vs : List V) (ds ds' : List D) (v v2 : V) (d d2 : D), H a = some (.lst vs) → RpL K H0 vs ds → Rp K H0 v d → Rp K H0 v2 d2 → g ds d d2 = .ok ds' →
  ∃ vs', RpL K H0 vs' ds' ∧ ∀ Q : VK, (∀ v, Q v (upd H a (.lst vs'))) → r (.ref a) [v, v2] H Q
def NoR {α : Type} (r : R α) : Prop := (∃ a, r = .ok a) ∨ r = .bad
theorem own_lst {K : PySem.W.Frag} {H0 H : Hp} {ρ : En} {σ : Sg} {i : Nat} {ds : List D} (s : SR K p H0 μ ρ σ H) (hm : μ.at i = true) (h : ρ[i]? = some (some (.lst ds))) : ∃ a vs, σ[i]? = some (some (.ref a)) ∧ H a = some (.lst vs) ∧ H0 a = none ∧ p.Hin a = none ∧ RpL K H0 vs ds := by
  obtain ⟨a, u, e1, e2, e3, e4, e5⟩ := s.owned hm h
  cases u with
  | lst vs => exact ⟨a, vs, e1, e2, e3, e4, e5⟩
  | _ => exact e5.elim
theorem sx_m1 {i : Nat} {g : List D → D → R (List D)} (hm : μ.at i = true) (hv : VM1 X.K r g) (hn : ∀ ds d, NoR (g ds d)) (hps : PS X (.Expr e2 pos) (tDrop (tBM X.K "list" r (tVar i) (tCons (tE X.K p μ fe) tNil)))) (hl : (p.lk.all fun k => decide (k ≠ i)) = true := by rfl) :
    SX X p μ μ (.Expr e2 pos) (sM1 i g fe) := PSw hps fun E σ H ⟨H0, ρ, s, q⟩ => by
  have q := sE_sat q
  rcases ownL_n (i := i) (ρ := ρ) with ⟨ds, h⟩ | h
  · rw [h] at q
    have hρ := ownL_ok h
    obtain ⟨a, vs, e1, e2, _⟩ := own_lst s hm hρ
    refine ⟨_, e1, .inl ⟨rfl, _, .of e2⟩, ?_⟩
    refine ⟨H0, ρ, s, R.sat_mono (sE_sat q) (fun d k v H1 H1' ad rv => ?_) fun _ n => n⟩
    have k := sE_sat k
    rcases hn ds d with ⟨ds', hg⟩ | hg
    · rw [hg] at k
      obtain ⟨a', vs', f1, f2, f3, f4, f5⟩ := own_lst ad.sr hm hρ
      rw [e1] at f1
      have : a = a' := by simpa using f1
      subst this
      obtain ⟨ws, w1, w2⟩ := hv H1 H1' a vs' ds ds' v d f2 f5 rv hg
      refine w2 _ fun _ => ?_
      exact k σ H1 _ ⟨ad.s0, lks_setE hl, ad.sr.mut hm hρ e1 f2 f3 f4 (d' := .lst ds') w1⟩
    · rw [hg] at k; exact k.elim
  · rw [h] at q; exact q.elim
theorem sx_m0 {i : Nat} {g : List D → R (List D)} (hm : μ.at i = true) (hv : VM0 X.K r g) (hn : ∀ ds, NoR (g ds)) (hps : PS X (.Expr e2 pos) (tDrop (tBM0 X.K "list" r (tVar i)))) (hz : ∀ (P : Program) (w : World) (H : Hp) (h : Heap) (a : Addr) (vs : List V), HOk P w H h → H a = some (.lst vs) → vs.length ≤ sizeLine) (hl : (p.lk.all fun k => decide (k ≠ i)) = true := by rfl) :
    SX X p μ μ (.Expr e2 pos) (sM0 i g) := ⟨fun pins st0 σ H E I ⟨H0, ρ, s, q⟩ => by
  have q := sE_sat q
  rcases ownL_n (i := i) (ρ := ρ) with ⟨ds, h⟩ | h
  · rw [h] at q
    have hρ := ownL_ok h
    obtain ⟨a, vs, e1, e2, f3, f4, f5⟩ := own_lst s hm hρ
    refine hps.run pins st0 σ H E I ⟨_, e1, .inl ⟨rfl, _, .of e2⟩, ?_⟩
    have k := sE_sat q
    rcases hn ds with ⟨ds', hg⟩ | hg
    · rw [hg] at k
      obtain ⟨ws, w1, w2⟩ := hv H0 H a vs ds ds' e2 (hz _ _ _ _ _ _ I.hok e2) f5 hg
      refine w2 _ fun _ => ?_
      exact k σ H0 _ ⟨.refl _, lks_setE hl, s.mut hm hρ e1 e2 f3 f4 (d' := .lst ds') w1⟩
    · rw [hg] at k; exact k.elim
  · rw [h] at q; exact q.elim⟩
theorem sx_m2 {i : Nat} {g : List D → D → D → R (List D)} (hm : μ.at i = true) (hv : VM2 X.K r g) (hn : ∀ ds d d2, NoR (g ds d d2)) (hps : PS X (.Expr e2 pos) (tDrop (tBM X.K "list" r (tVar i) (tCons (tE X.K p μ fe) (tCons (tE X.K p μ fe2) tNil))))) (hl : (p.lk.all fun k => decide (k ≠ i)) = true := by rfl) :
    SX X p μ μ (.Expr e2 pos) (sM2 i g fe fe2) := PSw hps fun E σ H ⟨H0, ρ, s, q⟩ => by
  have q := sE_sat q
  rcases ownL_n (i := i) (ρ := ρ) with ⟨ds, h⟩ | h
  · rw [h] at q
    have hρ := ownL_ok h
    obtain ⟨a, vs, e1, e2, _⟩ := own_lst s hm hρ
    refine ⟨_, e1, .inl ⟨rfl, _, .of e2⟩, ?_⟩
    refine ⟨H0, ρ, s, R.sat_mono (sE_sat q) (fun d k v H1 H1' ad rv => ?_) fun _ n => n⟩
    refine ⟨H1, ρ, ad.sr, R.sat_mono (sE_sat k) (fun d2 k v2 H2 H2' ad2 rv2 => ?_) fun _ n => n⟩
    have k := sE_sat k
    rcases hn ds d d2 with ⟨ds', hg⟩ | hg
    · rw [hg] at k
      obtain ⟨a', vs', f1, f2, f3, f4, f5⟩ := own_lst ad2.sr hm hρ
      rw [e1] at f1
      have : a = a' := by simpa using f1
      subst this
      obtain ⟨ws, w1, w2⟩ := hv H2 H2' a vs' ds ds' v v2 d d2 f2 f5 (rv.mono ad2.s0) rv2 hg
      refine w2 _ fun _ => ?_
      exact k σ H2 _ ⟨ad.s0.trans ad2.s0, lks_setE hl, ad2.sr.mut hm hρ e1 f2 f3 f4 (d' := .lst ds') w1⟩
    · rw [hg] at k; exact k.elim
  · rw [h] at q; exact q.elim
/-! append -/
def appD (ds : List D) (d : D) : R (List D) := if ds.length < sizeLine then .ok (ds ++ [d]) else .bad
theorem appD_n (ds : List D) (d : D) : NoR (appD ds d) := by unfold appD; split <;> first | exact .inl ⟨_, rfl⟩ | exact .inr rfl
theorem vapp : VM1 X.K rAppend appD := fun H0 H a vs ds ds' v d h r rv e => by
  unfold appD at e
  split at e
  · rename_i hz
    cases e
    exact ⟨vs ++ [v], r.app (.one rv), fun Q q => ⟨_, _, _, rfl, rfl, h, by rw [r.length]; exact hz, q _⟩⟩
  · cases e
theorem sx_append {i : Nat} {y : Str} {py : Pos} (hm : μ.at i = true) (hy : PE X (.Name y py) (tVar i)) (he : EX X p μ e fe) (hl : (p.lk.all fun k => decide (k ≠ i)) = true := by rfl)
    (h1 : attributeBase (.Name y py) "append" X.env (eval (.Name y py) X.env) = eval (.Name y py) X.env := by rfl)
    (h2 : ((backTo cpos (starEach [e] X.env)).all (fun x => !x.1) && (backToKw cpos (keywordEach [] X.env)).all (fun x => x.1.isSome) && decide (([e] : List Expr).length + ([] : List Keyword).length + (if ([] : List Keyword).isEmpty then 0 else 1) < 30)) = true := by rfl)
    (h3 : (apos.endLine == cpos.line) = true := by rfl) (h4 : starEach [e] X.env = (false, eval e X.env) :: starEach [] X.env := by rfl) (h5 : (backTo cpos (starEach [] X.env)).any (·.1) = false := by rfl)
    (h6 : swapsWith (.Call (.Attribute (.Name y py) "append" apos) [e] [] cpos) none pos.line X.env = pure false := by rfl) :
    SX X p μ μ (.Expr (.Call (.Attribute (.Name y py) "append" apos) [e] [] cpos) pos) (sM1 i appD fe) :=
  sx_m1 hm vapp appD_n (ps_expr (pe_bm PySem.F.plainAttrs_list PySem.F.slot_list_append PySem.F.type_list_append mt_append hy (pa_cons he pa_nil h4) h1 h2 h3 h4 h5) h6) hl
/-! insert -/
def insD (ds : List D) (i d : D) : R (List D) := match i with
  | .int k => if ds.length < sizeLine ∧ 0 ≤ k ∧ k < 2 ^ 63 then .ok (ds.take k.toNat ++ [d] ++ ds.drop k.toNat) else .bad
  | _ => .bad
theorem insD_n (ds : List D) (i d : D) : NoR (insD ds i d) := by unfold insD; split <;> (try split) <;> first | exact .inl ⟨_, rfl⟩ | exact .inr rfl
theorem vins : VM2 X.K (fun x vs H Q => ∃ (l : Addr) (xs : List V) (i : Int) (y : V), x = .ref l ∧ vs = [.int i, y] ∧ H l = some (.lst xs) ∧ xs.length < sizeLine ∧ 0 ≤ i ∧ i < 2 ^ 63 ∧ Q .non (upd H l (.lst (xs.take i.toNat ++ [y] ++ xs.drop i.toNat)))) insD := fun H0 H a vs ds ds' v v2 d d2 h r rv rv2 e => by
  unfold insD at e
  split at e
  · split at e
    · rename_i hz
      cases e
      cases rv
      exact ⟨_, ((r.take _).app (.one rv2)).app (r.drop _), fun Q q => ⟨_, _, _, _, rfl, rfl, h, by rw [r.length]; exact hz.1, hz.2.1, hz.2.2, q _⟩⟩
    · cases e
  · cases e
theorem sx_insert {i : Nat} {y : Str} {py : Pos} {e3 : Expr} {fe3 : En → R D} (hm : μ.at i = true) (hy : PE X (.Name y py) (tVar i)) (he : EX X p μ e fe) (he3 : EX X p μ e3 fe3) (hl : (p.lk.all fun k => decide (k ≠ i)) = true := by rfl)
    (h1 : attributeBase (.Name y py) "insert" X.env (eval (.Name y py) X.env) = eval (.Name y py) X.env := by rfl)
    (h2 : ((backTo cpos (starEach [e, e3] X.env)).all (fun x => !x.1) && (backToKw cpos (keywordEach [] X.env)).all (fun x => x.1.isSome) && decide (([e, e3] : List Expr).length + ([] : List Keyword).length + (if ([] : List Keyword).isEmpty then 0 else 1) < 30)) = true := by rfl)
    (h3 : (apos.endLine == cpos.line) = true := by rfl) (h4 : starEach [e, e3] X.env = (false, eval e X.env) :: starEach [e3] X.env := by rfl) (h4' : starEach [e3] X.env = (false, eval e3 X.env) :: starEach [] X.env := by rfl) (h5 : (backTo cpos (starEach [e3] X.env)).any (·.1) = false := by rfl)
    (h6 : swapsWith (.Call (.Attribute (.Name y py) "insert" apos) [e, e3] [] cpos) none pos.line X.env = pure false := by rfl) :
    SX X p μ μ (.Expr (.Call (.Attribute (.Name y py) "insert" apos) [e, e3] [] cpos) pos) (sM2 i insD fe fe3) :=
  sx_m2 hm vins insD_n (ps_expr (pe_bm PySem.F.plainAttrs_list PySem.F.slot_list_insert PySem.F.type_list_insert mt_insert hy (pa_cons he (pa_cons he3 pa_nil h4') h4) h1 h2 h3 h4 h5) h6) hl
/-! xs[i] = e -/
def setLD (ds : List D) (i d : D) : R (List D) := match i with
  | .int k => match ixN ds.length k with
    | some j => .ok (ds.set j d)
    | none => .bad
  | _ => .bad
theorem setLD_n (ds : List D) (i d : D) : NoR (setLD ds i d) := by unfold setLD; split <;> (try split) <;> first | exact .inl ⟨_, rfl⟩ | exact .inr rfl
def sIx (i : Nat) (fk fe : En → R D) : En → SO := sE fe fun d => sE (ownL i) fun _ => sE fk fun k => sE (ownL i) fun ds => sE (fun _ => setLD ds k d) fun ds' ρ => .nx (ρ.set i (some (.lst ds')))
theorem sx_setItem {i : Nat} {y : Str} {py : Pos} {k : Expr} {fk : En → R D} {p2 : Pos} (hm : μ.at i = true) (hy : PE X (.Name y py) (tVar i)) (hk : EX X p μ k fk) (he : EX X p μ e fe) (hl : (p.lk.all fun k => decide (k ≠ i)) = true := by rfl)
    (ha : ∀ v, assign (.Subscript (.Name y py) k p2) X.env v = (do
      let ov ← holding [v] (eval (.Name y py) X.env)
      let iv ← holding [v, ov] (eval k X.env)
      standAt p2
      holding [v, ov, iv] (setItem ov iv v)
      release [v, ov, iv] []) := by intro _; rfl)
    (hs : swapsWithSole [.Subscript (.Name y py) k p2] e pos.line X.env = pure false := by rfl) (hw : swappedStores [.Subscript (.Name y py) k p2] e X.env = pure none := by rfl) (h1 : (assignEach [.Subscript (.Name y py) k p2] X.env).map (·.2) = [assign (.Subscript (.Name y py) k p2) X.env] := by rfl) :
    SX X p μ μ (.Assign [.Subscript (.Name y py) k p2] e pos) (sIx i fk fe) := PSw (ps_asg he (pg_sub hy hk set_list ha) hs hw h1) fun E σ H ⟨H0, ρ, s, q⟩ => by
  refine ⟨H0, ρ, s, R.sat_mono (sE_sat q) (fun d q v H1 H1' ad rv => ?_) fun _ n => n⟩
  have q := sE_sat q
  rcases ownL_n (i := i) (ρ := ρ) with ⟨ds, h⟩ | h
  · rw [h] at q
    have hρ := ownL_ok h
    obtain ⟨a, vs, e1, _⟩ := own_lst ad.sr hm hρ
    refine ⟨_, e1, H1, ρ, ad.sr, R.sat_mono (sE_sat q) (fun dk q w H2 H2' ad2 rk => ?_) fun _ n => n⟩
    have q := sE_sat q
    rw [h] at q
    have q := sE_sat q
    rcases setLD_n ds dk d with ⟨ds', hg⟩ | hg
    · rw [hg] at q
      obtain ⟨a', vs', f1, f2, f3, f4, f5⟩ := own_lst ad2.sr hm hρ
      rw [e1] at f1
      have : a = a' := by simpa using f1
      subst this
      unfold setLD at hg
      split at hg
      · split at hg
        · rename_i j hj
          cases hg
          cases rk
          refine ⟨a, vs', _, j, rfl, rfl, f2, by rw [f5.length]; exact hj, ?_⟩
          exact q σ H2 _ ⟨ad.s0.trans ad2.s0, lks_setE hl, ad2.sr.mut hm hρ e1 f2 f3 f4 (d' := .lst _) (o' := .lst _) (f5.set (rv.mono ad2.s0) j)⟩
        · cases hg
      · cases hg
    · rw [hg] at q; exact q.elim
  · rw [h] at q; exact q.elim
/-! x += e of ints -/
def sAug (i : Nat) (fe : En → R D) : En → SO := sE (fV i) fun d => sE fe fun e => sE (fun _ => match d, e with | .int a, .int b => R.ok (a + b) | _, _ => .bad) fun n ρ => .nx (ρ.set i (some (.int n)))
theorem sx_aug {i : Nat} (hm : μ.at i = false) {st : Stmt} (hps : PS X st (tAug i (tE X.K p μ fe) (ipI fun i j => i + j))) (hl : (p.lk.all fun k => decide (k ≠ i)) = true := by rfl) : SX X p μ μ st (sAug i fe) := PSw hps fun E σ H ⟨H0, ρ, s, q⟩ => by
  have q := sE_sat q
  unfold fV at q
  cases hd : ρ[i]? with
  | none => rw [hd] at q; exact q.elim
  | some z =>
    cases z with
    | none => rw [hd] at q; exact q.elim
    | some d =>
      rw [hd] at q
      obtain ⟨v, ev, k⟩ := s.sl i d hd
      rw [hm] at k
      refine ⟨v, ev, H0, ρ, s, R.sat_mono (sE_sat q) (fun e q w H1 H1' ad rw' => ?_) fun _ n => n⟩
      have q := sE_sat q
      cases d with
      | int a =>
        cases e with
        | int b =>
          cases k
          cases rw'
          refine ⟨a, b, rfl, rfl, q _ _ _ ⟨ad.s0, lks_set hl, ?_⟩⟩
          have := ad.sr.put (μ' := μ) i (fun j => by by_cases h : j = i <;> simp [h, hm]) (.int (a + b))
          exact this
        | _ => exact q.elim
      | _ => exact q.elim
/-! what pops: a value, and another environment -/
def tQ (K : PySem.W.Frag) (p : Pm) (μ : Ms) (f : En → R (D × En)) : TE := fun σ H Q => ∃ H0 ρ, SR K p H0 μ ρ σ H ∧
  (f ρ).sat (fun z => ∀ v H0' H', L2.Same H0 H0' → Lks p ρ σ z.2 σ → SR K p H0' μ z.2 σ H' → Rp K H0' v z.1 → Q v H') (NX K p ρ σ)
def EQ (X : Cx) (p : Pm) (μ : Ms) (e : Expr) (f : En → R (D × En)) : Prop := PE X e (tQ X.K p μ f)
def qPop (i : Nat) : En → R (D × En) := fun ρ => ownL i ρ >>= fun ds => match ds.getLast? with
  | some d => .ok (d, ρ.set i (some (.lst ds.dropLast)))
  | none => .bad
def qPopAt (i : Nat) (fk : En → R D) : En → R (D × En) := fun ρ => ownL i ρ >>= fun ds => fk ρ >>= fun k => match k with
  | .int k => match (if -(2 ^ 63) ≤ k ∧ k < 2 ^ 63 then ixN ds.length k else none) with
    | some j => match ds[j]? with
      | some d => .ok (d, ρ.set i (some (.lst (ds.eraseIdx j))))
      | none => .bad
    | none => .bad
  | _ => .bad
theorem RpL.erase {K : PySem.W.Frag} {H : Hp} : ∀ {vs : List V} {ds : List D} (i : Nat), RpL K H vs ds → RpL K H (vs.eraseIdx i) (ds.eraseIdx i)
  | _, _, _, .nil => .nil
  | _, _, 0, .cons _ r => r
  | _, _, i + 1, .cons h r => .cons h (RpL.erase i r)
theorem RpL.dropL {K : PySem.W.Frag} {H : Hp} {vs : List V} {ds : List D} (r : RpL K H vs ds) : RpL K H vs.dropLast ds.dropLast := by
  rw [List.dropLast_eq_take, List.dropLast_eq_take, r.length]
  exact r.take _
theorem eq_pop {i : Nat} (hm : μ.at i = true) (h : PE X e (tBM0 X.K "list" rPop (tVar i))) (hl : (p.lk.all fun k => decide (k ≠ i)) = true := by rfl) : EQ X p μ e (qPop i) := PEw h fun σ H Q ⟨H0, ρ, s, q⟩ => by
  unfold qPop at q
  rcases ownL_n (i := i) (ρ := ρ) with ⟨ds, h⟩ | h
  · rw [h] at q
    have hρ := ownL_ok h
    obtain ⟨a, vs, e1, f2, f3, f4, f5⟩ := own_lst s hm hρ
    refine ⟨_, e1, .inl ⟨rfl, _, .of f2⟩, ?_⟩
    simp only [R.bind_ok] at q
    cases hg : ds.getLast? with
    | none => rw [hg] at q; exact q.elim
    | some d =>
      rw [hg] at q
      rw [List.getLast?_eq_getElem?] at hg
      obtain ⟨v, hv, rv⟩ := f5.get hg
      refine ⟨a, vs, v, rfl, rfl, f2, by rw [f5.length]; exact hv, ?_⟩
      exact q v H0 _ (.refl _) (lks_setE hl) (s.mut hm hρ e1 f2 f3 f4 (d' := .lst _) (o' := .lst _) f5.dropL) rv
  · rw [h] at q; exact q.elim
theorem eq_popAt {i : Nat} {fk : En → R D} (hm : μ.at i = true) (h : PE X e (tBM X.K "list" rPopAt (tVar i) (tCons (tE X.K p μ fk) tNil))) (hl : (p.lk.all fun k => decide (k ≠ i)) = true := by rfl) : EQ X p μ e (qPopAt i fk) := PEw h fun σ H Q ⟨H0, ρ, s, q⟩ => by
  unfold qPopAt at q
  rcases ownL_n (i := i) (ρ := ρ) with ⟨ds, h⟩ | h
  · rw [h] at q
    have hρ := ownL_ok h
    obtain ⟨a, vs, e1, f2, f3, f4, f5⟩ := own_lst s hm hρ
    refine ⟨_, e1, .inl ⟨rfl, _, .of f2⟩, ?_⟩
    simp only [R.bind_ok] at q
    rw [R.sat_bind] at q
    refine ⟨H0, ρ, s, R.sat_mono q (fun k q w H1 H1' ad rk => ?_) fun _ n => n⟩
    obtain ⟨a', vs', f1, f2, f3, f4, f5⟩ := own_lst ad.sr hm hρ
    rw [e1] at f1
    have : a = a' := by simpa using f1
    subst this
    cases k with
    | int k =>
      simp only at q
      split at q
      · rename_i j hj
        split at hj
        · rename_i hb
          cases hd : ds[j]? with
          | none => rw [hd] at q; exact q.elim
          | some d =>
            rw [hd] at q
            cases rk
            obtain ⟨v, hv, rv⟩ := f5.get hd
            refine ⟨a, vs', _, j, v, rfl, rfl, f2, hb.1, hb.2, by rw [f5.length]; exact (ixN_seq hj).1, hv, ?_⟩
            exact q v H1 _ ad.s0 (lks_setE hl) (ad.sr.mut hm hρ e1 f2 f3 f4 (d' := .lst _) (o' := .lst _) (f5.erase j)) rv
        · cases hj
      · exact q.elim
    | _ => exact q.elim
  · rw [h] at q; exact q.elim
theorem eq_x (h : EX X p μ e fe) : EQ X p μ e (fun ρ => fe ρ >>= fun d => .ok (d, ρ)) := PEw h fun σ H Q ⟨H0, ρ, s, q⟩ => by
  rw [R.sat_bind] at q
  exact ⟨H0, ρ, s, R.sat_mono q (fun d k v H0' H' ad r => k v H0' H' ad.s0 .refl ad.sr r) fun _ n => n⟩
/-- images.pop() + 1 -/
def qAdd (f : En → R (D × En)) (c : Int) : En → R (D × En) := fun ρ => f ρ >>= fun z => match z.1 with
  | .int a => .ok (.int (a + c), z.2)
  | _ => .bad
theorem eq_addc {f : En → R (D × En)} {c : Int} {j : Nat} {p2 : Pos} (h : EQ X p μ e f) : EQ X p μ (.BinOp e .Add (.Constant (.int c) j p2) pos) (qAdd f c) := PEw (pe_op op_add h pe_int) fun σ H Q ⟨H0, ρ, s, q⟩ => by
  unfold qAdd at q
  rw [R.sat_bind] at q
  refine ⟨H0, ρ, s, R.sat_mono q (fun z k v H0' H' e l s' r => ?_) fun _ n => n⟩
  obtain ⟨d, ρ'⟩ := z
  cases d with
  | int a =>
    cases r
    exact ⟨a, c, rfl, rfl, k _ _ _ e l s' (.int _)⟩
  | _ => exact k.elim
/-- statements over these -/
def sSetQ (i : Nat) (f : En → R (D × En)) : En → SO := sE f fun z _ => .nx (z.2.set i (some z.1))
theorem sx_setQ {i : Nat} {st : Stmt} {f : En → R (D × En)} (hps : PS X st (tAsg (tQ X.K p μ f) (gName i))) (hl : (p.lk.all fun k => decide (k ≠ i)) = true := by rfl) : SX X p μ (μ.off i) st (sSetQ i f) := PSw hps fun E σ H ⟨H0, ρ, s, q⟩ =>
  ⟨H0, ρ, s, R.sat_mono (sE_sat q) (fun z k v H0' H' e l s' r => k _ _ _ ⟨e, l.trans (lks_set hl), s'.put i (fun j => Ms.off_at μ i j) r⟩) fun _ n => n⟩
def sDropQ (f : En → R (D × En)) : En → SO := sE f fun z _ => .nx z.2
theorem sx_dropQ {st : Stmt} {f : En → R (D × En)} (hps : PS X st (tDrop (tQ X.K p μ f))) : SX X p μ μ st (sDropQ f) := PSw hps fun E σ H ⟨H0, ρ, s, q⟩ =>
  ⟨H0, ρ, s, R.sat_mono (sE_sat q) (fun z k v H0' H' e l s' r => k _ _ _ ⟨e, l, s'⟩) fun _ n => n⟩
/-- ys.append(xs.pop(..)) -/
def sAppQ (i : Nat) (f : En → R (D × En)) : En → SO := sE (ownL i) fun _ => sE f fun z _ => match z.2[i]? with
  | some (some (.lst ds)) => if ds.length < sizeLine then .nx (z.2.set i (some (.lst (ds ++ [z.1])))) else .bad
  | _ => .bad
theorem sx_appQ {i : Nat} {f : En → R (D × En)} (hm : μ.at i = true) (hps : PS X (.Expr e2 pos) (tDrop (tBM X.K "list" rAppend (tVar i) (tCons (tQ X.K p μ f) tNil)))) (hl : (p.lk.all fun k => decide (k ≠ i)) = true := by rfl) :
    SX X p μ μ (.Expr e2 pos) (sAppQ i f) := PSw hps fun E σ H ⟨H0, ρ, s, q⟩ => by
  have q := sE_sat q
  rcases ownL_n (i := i) (ρ := ρ) with ⟨ds, h⟩ | h
  · rw [h] at q
    have hρ := ownL_ok h
    obtain ⟨a, vs, e1, e2, _⟩ := own_lst s hm hρ
    refine ⟨_, e1, .inl ⟨rfl, _, .of e2⟩, ?_⟩
    refine ⟨H0, ρ, s, R.sat_mono (sE_sat q) (fun z k v H1 H1' e l s' rv => ?_) fun _ n => n⟩
    split at k
    · rename_i ds' hz
      split at k
      · rename_i hlen
        obtain ⟨a', vs', f1, f2, f3, f4, f5⟩ := own_lst s' hm hz
        rw [e1] at f1
        have : a = a' := by simpa using f1
        subst this
        refine ⟨_, _, _, rfl, rfl, f2, by rw [f5.length]; exact hlen, ?_⟩
        exact k σ H1 _ ⟨e, l.trans (lks_setE hl), s'.mut hm hz e1 f2 f3 f4 (d' := .lst _) (o' := .lst _) (f5.app (.one rv))⟩
      · exact k.elim
    · exact k.elim
  · rw [h] at q; exact q.elim
end
end Pv

namespace Pv
open PySem PySem.Spec PyProof.Rows L2
open L2 (upd)

/-! the lengths of argument lists -/
class LenL (g : En → R (List D)) (n : outParam Nat) : Prop where
  h : ∀ {ρ ds}, g ρ = .ok ds → ds.length = n
instance : LenL lNil 0 := ⟨fun {ρ ds} h => by unfold lNil at h; cases h; rfl⟩
instance {f : En → R D} {g : En → R (List D)} {n : Nat} [LenL g n] : LenL (lCons f g) (n + 1) := ⟨fun {ρ ds} h => by
  unfold lCons at h
  cases hf : f ρ with
  | ok d =>
    rw [hf] at h
    simp only [R.bind_ok] at h
    cases hg : g ρ with
    | ok es =>
      rw [hg] at h
      simp only [R.bind_ok] at h
      cases h
      rw [List.length_cons, LenL.h hg]
    | ex x => rw [hg] at h; cases h
    | bad => rw [hg] at h; cases h
  | ex x => rw [hf] at h; cases h
  | bad => rw [hf] at h; cases h⟩
theorem lenL {g : En → R (List D)} {n : Nat} [LenL g n] {ρ : En} {ds : List D} (h : g ρ = .ok ds) : ds.length = n := LenL.h h
/-! a def's promise; nothing is being shown around it -/
structure FnG (P : Program) (w : World) (K : PySem.W.Frag) (mg : Str → Option Value) (base : Heap) (k : Nat) (f : Addr) (fd : FuncData) (ps : List Str) (sp : Sp) : Prop where
  len : ∀ vs H Q E, sp vs H Q E → vs.length = ps.length
  run : ∀ (A : Around) (outer : List Env) (s : Shared) (H : Hp) (args : Args) (us : List Value) (vs : List V) (Q : VK) (E : XK), Room k A → A.guards = some [] → Env0 P w K mg base A outer s H → BindsTo s fd args (ps.zip us) → Vals vs us → sp vs H Q E →
    codeAny (model P w) A (.call (.ref f) args) (CR (L2.CX P w) outer P w H s Q E) s
/-- from arguments to an outcome -/
abbrev Fn := List D → R D
/-- what a caller leans on: G, the part of the heap that is shared -/
def spF (K : PySem.W.Frag) (rm : Bool) (F : Fn) (n : Nat) : Sp := fun vs H Q E => vs.length = n ∧ ∃ G ds, L2.Same G H ∧ RpL K G vs ds ∧
  (F ds).sat (fun d => ∀ v H0' H', Ret K ⟨G, H, [], [], [], fun _ _ _ _ => False, rm⟩ H0' H' v d → Q v H')
    (fun x => ∀ cls d H0' H', L2.Same G H0' → L2.Same H H' → L2.Same H0' H' → (∀ b o, H b = some o → Mut (some o) → G b = none → H0' b = none) → XR K H0' H' x cls d → E cls d H')
/-- the body's function as the def's -/
def fnB (n : Nat) (f : En → SO) : Fn := fun ds => match f (ds.map some ++ List.replicate n none) with
  | .rt d => .ok d
  | .nx _ => .ok .non
  | .ex x _ => .ex x
  | _ => .bad
section
variable {P : Program} {w : World} {K : PySem.W.Frag} {mg : Str → Option Value} {base : Heap}
/-- a def of the text, by its body -/
theorem fn_body {x qual : Str} {st : Stmt} {f : Addr} {fd : FuncData} {N ps : List Str} {k : Nat} {sp : Sp} (F : Fun K x qual st f fd) (S : FnScope N ps (defScope st)) (len : ∀ vs H Q E, sp vs H Q E → vs.length = ps.length)
    (hbody : ∀ (cdv : Value) (A : Around) (outer : List Env) (s : Shared) (H : Hp) (vs : List V) (Q : VK) (E : XK), Room k (A.deeper (envOfC qual (defScope st) s.heap.objs.size f cdv)) → A.guards = some [] → sp vs H Q E →
      ∃ t, PSs (cxOf (L2.CX P w) P w K mg base N qual (defScope st) f cdv A outer s H E) (defBody st) t ∧ t { nx := fun _ H' => Q .non H', rt := Q } (L2.start N vs) H) : FnG P w K mg base (k + 1) f fd ps sp := by
  obtain ⟨oc, od, kV, doc, pm, an, cdv, ct, osl, rfl, lk, hcd⟩ := F.ex
  constructor
  · exact len
  intro A outer s H args us vs Q E hr hg e0 hb r hsp
  have inHeap : ∀ b o, base.get? b = some o → s.heap.get? b = some o := fun b o e => (e0.bs b o e).1
  have kin := e0.mod.kin.keeps inHeap
  have nolim := e0.mod.nolimit.keeps inHeap
  have bound : ∀ y ∈ ps.zip us, (defScope st).names.lookup y.1 = some .local ∨ ((defScope st).names.lookup y.1 = some .cell ∧ ((cellsFrom (s.heap.objs.size + 1) (defScope st).names []).lookup y.1).isSome = true) := by
    intro y hy
    obtain ⟨n, v⟩ := y
    rcases S.par n (List.of_mem_zip hy).1 with z | z
    · exact Or.inl z
    · exact Or.inr ⟨z, PySem.W.cellsFrom_some _ _ _ (Or.inl z)⟩
  apply codeAny_call_function hr.depth (kin _ _ lk) rfl S.co S.gen rfl (PySem.W.codeRec_of kin hcd) (hb _ _ _ _ _)
  apply wpAny_newFunctionEnv_cells S.kind bound
  intro env he s1 x1
  subst he
  constructor
  · exact nolim.keeps x1.toInCall.keep
  apply codeAny_func
  obtain ⟨t, ht, hq⟩ := hbody cdv A outer s H vs Q E (hr.deeper _) hg hsp
  have I := inv_start (CX := L2.CX P w) (P := P) (w := w) (K := K) (mg := mg) (base := base) (E := E) S hr.hd e0 (len _ _ _ _ hsp) r x1
  refine wpAny_mono (ht.run [] s1 (L2.start N vs) H _ I hq) (fun fl s' hs => ?_) (fun e s' hs => hs)
  cases fl with
  | ret u =>
    obtain ⟨v, σ', H', J, rv, q⟩ := hs
    exact ⟨v, H', J.os, J.bare, J.base, J.hok, rv, q⟩
  | next =>
    obtain ⟨σ', H', J, q⟩ := hs
    exact ⟨V.non, H', J.os, J.bare, J.base, J.hok, rfl, q⟩
  | brk => obtain ⟨_, _, _, q⟩ := hs; exact q.elim
  | cont => obtain ⟨_, _, _, q⟩ := hs; exact q.elim
theorem start_get {N : List Str} {vs : List V} {i : Nat} {v : V} (h : vs[i]? = some v) : (L2.start N vs)[i]? = some (some v) := by
  have hl := (List.getElem?_eq_some_iff.mp h).1
  unfold L2.start
  rw [List.getElem?_append_left (by simpa using hl), List.getElem?_map, h]; rfl
/-- the same by the function of the body -/
theorem fn_pure {x qual : Str} {st : Stmt} {f : Addr} {fd : FuncData} {N ps : List Str} {k n : Nat} {rm : Bool} {μ' : Ms} {fb : En → SO} (F : Fun K x qual st f fd) (S : FnScope N ps (defScope st)) (hn : N.length = ps.length + n)
    (hnx : rm = true → ∀ ρ ρ', fb ρ ≠ .nx ρ')
    (hbody : ∀ (cdv : Value) (A : Around) (outer : List Env) (s : Shared) (G H : Hp) (E : XK), Room k (A.deeper (envOfC qual (defScope st) s.heap.objs.size f cdv)) → A.guards = some [] →
      SXs (cxOf (L2.CX P w) P w K mg base N qual (defScope st) f cdv A outer s H E) ⟨G, H, [], [], [], fun cls d _ H' => E cls d H', rm⟩ [] μ' (defBody st) fb) : FnG P w K mg base (k + 1) f fd ps (spF K rm (fnB n fb) ps.length) := by
  refine fn_body F S (fun vs H Q E h => h.1) fun cdv A outer s H vs Q E hr hg h => ?_
  obtain ⟨hl, G, ds, hG, rv, q⟩ := h
  refine ⟨_, hbody cdv A outer s G H E hr hg, G, ds.map some ++ List.replicate n none, ?_, ?_⟩
  · have hd := rv.length
    refine ⟨.refl _, .refl _, hG, fun b o _ _ z => z, ?_, fun i d e => ?_, fun i j d e a _ h1 _ _ _ _ _ => ?_⟩
    · unfold L2.start
      simp only [List.length_append, List.length_map, List.length_replicate]
      omega
    · have hi : i < ds.length := by
        apply Classical.byContradiction; intro z
        rw [List.getElem?_append_right (by simpa using Nat.le_of_not_lt z), List.getElem?_replicate] at e
        split at e <;> cases e
      rw [List.getElem?_append_left (by simpa using hi), List.getElem?_map] at e
      cases hd' : ds[i]? with
      | none => rw [hd'] at e; cases e
      | some d' =>
        rw [hd'] at e
        have : d' = d := by simpa using e
        subst this
        obtain ⟨v, hv, r⟩ := rv.get hd'
        exact ⟨v, start_get hv, r⟩
    · unfold Ms.at at h1; simp at h1
  · unfold fnB at q
    cases hf : fb (ds.map some ++ List.replicate n none) with
    | rt d => rw [hf] at q; exact fun v H0' H' r => q v H0' H' r
    | nx ρ' =>
      rw [hf] at q
      intro σ' H0' H' stp
      have s := stp.sr
      refine q .non H0' H' ⟨s.g0, s.hh, s.sub, s.fr, ?_⟩
      cases rm with
      | false => exact .non
      | true => exact absurd hf (hnx rfl _ _)
    | bk ρ' => rw [hf] at q; exact q.elim
    | ct ρ' => rw [hf] at q; exact q.elim
    | ex y ρ' =>
      rw [hf] at q
      intro σ' cls d H0' H' s r
      exact q cls d H0' H' s.g0 s.hh s.sub s.fr r
    | bad => rw [hf] at q; exact q.elim
end
section
variable {X : Cx} {p : Pm} {μ : Ms} {e : Expr} {es : List Expr} {g : En → R (List D)} {x : Str} {q pos : Pos} {f : Addr} {fd : FuncData} {ps : List Str} {k n : Nat} {F : Fn}
/-- a call, the arguments shared -/
theorem run_call {pins : List (Addr × Obj)} {σ : Sg} {H : Hp} {s : Shared} {Q : VK} {us : List Value} {vs : List V} {W : WX} {sp : Sp} (F : FnG X.prog X.w X.K X.mg X.base k f fd ps sp) (hr : Room k X.A) (hG : X.A.guards = some []) (hb : Binds X.K fd ps []) (tk : Takes X W)
    (I : Inv X pins σ H s) (r : Vals vs us) (h : sp vs H Q (WE W σ)) : wpAny (model X.prog X.w) X.A (call (.ref f) us) (EP X pins σ Q) X.xe s := by
  have hl : (us ++ []).length = ps.length := by
    rw [List.append_nil, ← r.length]; exact F.len _ _ _ _ h
  have hb' := hb s us I.kIn hl
  rw [List.append_nil] at hb'
  refine wpAny_call (codeAny_mono (F.run X.A X.stack s H ⟨us, []⟩ us vs Q (WE W σ) hr hG I.env0 hb' r h) fun z s' hq => ?_)
  match z, hq with
  | .error e, hq => exact passAt tk σ pins H s e s' I hq
  | .ok (.ret u), hq => exact I.after hq
  | .ok .next, hq => exact hq.elim
  | .ok .brk, hq => exact hq.elim
  | .ok .cont, hq => exact hq.elim
def tCallG (sp : Sp) (W : WX) (t : TA) : TE := fun σ H Q => t σ H fun vs H1 => sp vs H1 Q (WE W σ)
theorem pe_callG {W : WX} {sp : Sp} {t : TA} (F : FnG X.prog X.w X.K X.mg X.base k f fd ps sp) (hr : Room k X.A) (hG : X.A.guards = some []) (hg : Gl X x) (hm : X.mg x = some (.ref f)) (hk : PySem.W.keepIn X.K (.ref f) = true) (hb : Binds X.K fd ps []) (tk : Takes X W)
    (ha : PA X (e :: es) t) (hdb : (x == ("__debug__" : Str)) = false := by decide) (he : starEach (e :: es) X.env = (false, eval e X.env) :: starEach es X.env := by rfl) (hpl : (backTo pos (starEach es X.env)).any (·.1) = false := by rfl) :
    PE X (.Call (.Name x q) (e :: es) [] pos) (tCallG sp W t) := by
  constructor
  intro pins s σ H Q I h
  have go := thn (Q' := fun us s' => X.K.In s'.heap ∧ wpAny (model X.prog X.w) X.A (call (.ref f) us) (EP X pins σ Q) X.xe s') (ha.run pos pins s σ H _ I h) fun us s1 ⟨vs, H1, I1, r1, q1⟩ => ⟨I1.kIn, run_call F hr hG hb tk I1 r1 q1⟩
  exact wpAny_Call_Name_kw (ld_glob I hg hm (PySem.W.callWith_K (h₀ := X.base) I.ok.mod.kin hk go he hpl) hdb)
theorem XR.mono {K : PySem.W.Frag} {H0 H0' H : Hp} {x : Exn} {cls : Value} {d : Option Addr} (e : L2.Same H0 H0') (h : XR K H0 H x cls d) : XR K H0' H x cls d := by
  obtain ⟨h1, h2⟩ := h
  refine ⟨h1, ?_⟩
  cases d with
  | none => exact h2
  | some dd =>
    obtain ⟨fs, ds, a, b, c⟩ := h2
    exact ⟨fs, ds, a, b.mono e, c⟩
theorem ex_call (F' : FnG X.prog X.w X.K X.mg X.base k f fd ps (spF X.K false F n)) (hr : Room k X.A) (hG : X.A.guards = some []) (hm : X.mg x = some (.ref f)) (hk : PySem.W.keepIn X.K (.ref f) = true) (hb : Binds X.K fd ps []) (tk : Takes X p.W) (ha : AX X p μ (e :: es) g)
    (hmx : Ms.le μ p.mx = true := by rfl) (hg : Gl X x := by rfl) (hdb : (x == ("__debug__" : Str)) = false := by decide) (he : starEach (e :: es) X.env = (false, eval e X.env) :: starEach es X.env := by rfl) (hpl : (backTo pos (starEach es X.env)).any (·.1) = false := by rfl)
    (hlen : ∀ ρ ds, g ρ = .ok ds → ds.length = n := by intro ρ ds h; exact lenL h) :
    EX X p μ (.Call (.Name x q) (e :: es) [] pos) (fA F g) := PEw (pe_callG F' hr hG hg hm hk hb tk ha hdb he hpl) fun σ H Q ⟨H0, ρ, s, q⟩ => by
  unfold fA at q
  rw [R.sat_bind] at q
  refine ⟨H0, ρ, s, ?_⟩
  cases hgρ : g ρ with
  | ex x => rw [hgρ] at q; exact q
  | bad => rw [hgρ] at q; exact q
  | ok ds =>
    rw [hgρ] at q
    intro vs H1 H1' ad bs
    refine ⟨bs.length.trans (hlen ρ ds hgρ), H1, ds, ad.sr.sub, bs, R.sat_mono q (fun d k v H2 H2' r => ?_) (fun y k cls dd H2 H2' e1 e2 e3 e4 xr => ?_)⟩
    · obtain ⟨r1, r2, r3, r4, r5⟩ := r
      exact k v H2 H2' ⟨ad.s0.trans r1, ad.s1.trans r2, fun b o e m z => r4 b o (ad.s1 _ _ e) m (ad.ow b o e m z), ad.sr.grow r1 r3 r2 (fun b o e m z => (ad.sr.grow r1 r3 r2 (fun b o e m z => by
        by_cases hb : H1 b = none
        · exact r4 b o (ad.sr.hh _ _ e) m hb
        · exact absurd (ad.sr.fr b o e m z) hb) r4).fr b o e m z) r4⟩ r5
    · have sr : SR X.K p H2 μ ρ σ H2' := ad.sr.grow e1 e3 e2 (fun b o e m z => by
        by_cases hb : H1 b = none
        · exact e4 b o (ad.sr.hh _ _ e) m hb
        · exact absurd (ad.sr.fr b o e m z) hb) e4
      obtain ⟨H3, w1, w2⟩ := sr.weak hmx
      exact k cls dd H3 H2' w2 (xr.mono w1)
/-- .. the new object one's own -/
theorem ef_call (F' : FnG X.prog X.w X.K X.mg X.base k f fd ps (spF X.K true F n)) (hr : Room k X.A) (hG : X.A.guards = some []) (hm : X.mg x = some (.ref f)) (hk : PySem.W.keepIn X.K (.ref f) = true) (hb : Binds X.K fd ps []) (tk : Takes X p.W) (ha : AX X p μ (e :: es) g)
    (hmx : Ms.le μ p.mx = true := by rfl) (hg : Gl X x := by rfl) (hdb : (x == ("__debug__" : Str)) = false := by decide) (he : starEach (e :: es) X.env = (false, eval e X.env) :: starEach es X.env := by rfl) (hpl : (backTo pos (starEach es X.env)).any (·.1) = false := by rfl)
    (hlen : ∀ ρ ds, g ρ = .ok ds → ds.length = n := by intro ρ ds h; exact lenL h) :
    EF X p μ (.Call (.Name x q) (e :: es) [] pos) (fA F g) := PEw (pe_callG F' hr hG hg hm hk hb tk ha hdb he hpl) fun σ H Q ⟨H0, ρ, s, q⟩ => by
  unfold fA at q
  rw [R.sat_bind] at q
  refine ⟨H0, ρ, s, ?_⟩
  cases hgρ : g ρ with
  | ex x => rw [hgρ] at q; exact q
  | bad => rw [hgρ] at q; exact q
  | ok ds =>
    rw [hgρ] at q
    intro vs H1 H1' ad bs
    refine ⟨bs.length.trans (hlen ρ ds hgρ), H1, ds, ad.sr.sub, bs, R.sat_mono q (fun d k v H2 H2' r => ?_) (fun y k cls dd H2 H2' e1 e2 e3 e4 xr => ?_)⟩
    · obtain ⟨r1, r2, r3, r4, a, o, c1, c2, c3, c4, c5⟩ := r
      have sr : SR X.K p H2 μ ρ σ H2' := ad.sr.grow r1 r3 r2 (fun b o e m z => by
        by_cases hb : H1 b = none
        · exact r4 b o (ad.sr.hh _ _ e) m hb
        · exact absurd (ad.sr.fr b o e m z) hb) r4
      refine k v H2 H2' ⟨ad.s0.trans r1, ad.s1.trans r2, fun b o e m z => r4 b o (ad.s1 _ _ e) m (ad.ow b o e m z), sr⟩ ⟨a, o, c1, ad.s1.free c4, c2, c3, ad.sr.hh.free c4, c5, fun i e hb he z => ?_⟩
      obtain ⟨v', ev, q'⟩ := ad.sr.sl i e he
      rw [hb] at q'
      obtain ⟨a', o', f1, f2, _⟩ := q'
      rw [z] at ev
      have : V.ref a = v' := by simpa using ev
      rw [← this] at f1
      cases f1
      have c4' : H1' a = none := c4
      rw [c4'] at f2; cases f2
    · have sr : SR X.K p H2 μ ρ σ H2' := ad.sr.grow e1 e3 e2 (fun b o e m z => by
        by_cases hb : H1 b = none
        · exact e4 b o (ad.sr.hh _ _ e) m hb
        · exact absurd (ad.sr.fr b o e m z) hb) e4
      obtain ⟨H3, w1, w2⟩ := sr.weak hmx
      exact k cls dd H3 H2' w2 (xr.mono w1)
/-- a flat value back, the arguments borrowed -/
def flatD (d : D) : R D := match d with
  | .non => .ok d
  | .bl _ => .ok d
  | .int _ => .ok d
  | .str _ => .ok d
  | _ => .bad
def fCB (F : Fn) (g : En → R (List D)) : En → R D := fun ρ => g ρ >>= fun ds => (F ds).nx >>= flatD
theorem BorL.whole {K : PySem.W.Frag} {H0 H : Hp} {ρ : En} {σ : Sg} (s : SR K p H0 μ ρ σ H) {vs : List V} {ds : List D} (b : BorL K H0 μ ρ σ vs ds) : RpL K H vs ds := by
  induction b with
  | nil => exact .nil
  | cons h r ih => exact .cons (h.whole s) ih
theorem ex_callB' {rm : Bool} (F' : FnG X.prog X.w X.K X.mg X.base k f fd ps (spF X.K rm F n)) (hr : Room k X.A) (hG : X.A.guards = some []) (hm : X.mg x = some (.ref f)) (hk : PySem.W.keepIn X.K (.ref f) = true) (hb : Binds X.K fd ps []) (tk : Takes X p.W) (ha : AB X p μ (e :: es) g)
    (hrm : rm = false := by rfl) (hg : Gl X x := by rfl) (hdb : (x == ("__debug__" : Str)) = false := by decide) (he : starEach (e :: es) X.env = (false, eval e X.env) :: starEach es X.env := by rfl) (hpl : (backTo pos (starEach es X.env)).any (·.1) = false := by rfl)
    (hlen : ∀ ρ ds, g ρ = .ok ds → ds.length = n := by intro ρ ds h; exact lenL h) :
    EX X p μ (.Call (.Name x q) (e :: es) [] pos) (fCB F g) := PEw (pe_callG F' hr hG hg hm hk hb tk ha hdb he hpl) fun σ H Q ⟨H0, ρ, s, q⟩ => by
  subst hrm
  unfold fCB at q
  rw [R.sat_bind] at q
  refine ⟨H0, ρ, s, ?_⟩
  cases hgρ : g ρ with
  | ex x => rw [hgρ] at q; exact q
  | bad => rw [hgρ] at q; exact q
  | ok ds =>
    rw [hgρ] at q
    intro vs H1 H1' ad bs
    have hl : vs.length = ds.length := (bs.whole ad.sr).length
    refine ⟨hl.trans (hlen ρ ds hgρ), H1', ds, .refl _, bs.whole ad.sr, ?_⟩
    have q : ((F ds).nx >>= flatD).sat (fun d => ∀ v H0' H', Adv X.K p μ ρ σ H0 H H0' H' → Rp X.K H0' v d → Q v H') (NX X.K p ρ σ) := q
    cases hF : F ds with
    | ex y => rw [hF] at q; exact q.elim
    | bad => rw [hF] at q; exact q.elim
    | ok d =>
      rw [hF] at q
      intro v H2 H2' r
      obtain ⟨r1, r2, r3, r4, r5⟩ := r
      have r5 : Rp X.K H2 v d := r5
      have fin : ∀ v d, Rp X.K H1 v d → (flatD d).sat (fun d => ∀ v H0' H', Adv X.K p μ ρ σ H0 H H0' H' → Rp X.K H0' v d → Q v H') (NX X.K p ρ σ) → flatD d = .ok d → Q v H2' := fun v d rv z e => by
        rw [e] at z
        exact z v H1 H2' ⟨ad.s0, ad.s1.trans r2, ad.ow, ad.sr.hold r2⟩ rv
      cases r5 with
      | non => exact fin _ _ .non q rfl
      | bl b => exact fin _ _ (.bl b) q rfl
      | int i => exact fin _ _ (.int i) q rfl
      | str l g => exact fin _ _ (.str l g) q rfl
      | lst _ _ => exact q.elim
      | tup _ _ => exact q.elim
      | dk _ _ _ => exact q.elim
      | dt _ _ _ => exact q.elim
      | ins _ _ _ => exact q.elim
end
end Pv

namespace Pv
open PySem PySem.Spec PyProof.Rows L2
open L2 (upd)

/-- what the law's def is to be worth -/
def spLaw (K : PySem.W.Frag) : Sp := fun vs H Q _ => ∃ (a : Addr) (ns : List Int), vs = [.ref a] ∧ SqL K H a (ns.map V.int) ∧ ns.length ≤ 63 ∧ ∀ H', L2.Same H H' → Q (.bl true) H'
theorem law_of {P : Program} {w : World} {K : PySem.W.Frag} {mg : Str → Option Value} {base : Heap} {k : Nat} {f : Addr} {fd : FuncData} {x : Str} {F : Fn} (h : FnG P w K mg base k f fd [x] (spF K false F 1))
    (hF : ∀ ns : List Int, ns.length ≤ 63 → F [.lst (ns.map D.int)] = .ok (.bl true)) : FnG P w K mg base k f fd [x] (spLaw K) := by
  refine ⟨fun vs H Q E z => ?_, fun A outer s H args us vs Q E hr hg e0 hb r z => ?_⟩
  · obtain ⟨a, ns, rfl, _⟩ := z
    rfl
  · refine h.run A outer s H args us vs Q E hr hg e0 hb r ?_
    obtain ⟨a, ns, rfl, hs, hl, q⟩ := z
    refine ⟨rfl, H, [.lst (ns.map D.int)], .refl _, .cons (.lst hs (RpL.ints ns)) .nil, ?_⟩
    rw [hF ns hl]
    intro v H0' H' ⟨_, r2, _, _, r5⟩
    have r5 : Rp K H0' v (.bl true) := r5
    cases r5
    exact q H' r2
section
variable {P : Program} {w : World} {K : PySem.W.Frag} {mg mb : Str → Option Value} {k : Nat} {fa a : Addr} {fd : FuncData} {x : Str} {s1 : Shared} {vs : List Value} {ns : List Int}
/-- the call of the law, from a view H of the heap in which at most the script is seen -/
theorem law_go (KX : K.In s1.heap) (hns : s1.heap.Ns mainGlobals mg) (hb : s1.heap.Ns builtinsNs mb) (hbb : ∀ x : Str, x ≠ "__name__" → mb x = bootBuiltins x) (hlim : s1.heap.NoLimit) (hg : s1.gens = #[])
    (ha : s1.heap.get? a = some { cls := .type "list", data := .seq vs.toArray }) (hl : ns.length ≤ 63) (hr : Room k callerA)
    (F : ∀ base : Heap, K.In base → base.Ns mainGlobals mg → FnG P w K mg base k fa fd [x] (spLaw K)) (hbind : ∀ (s : Shared) (u : Value), BindsTo s fd ⟨[u], []⟩ [(x, u)])
    (H : Hp) (hS : SqL K H a (ns.map V.int)) (hok : HOk P w H s1.heap) (one : ∀ b, H b ≠ none → b = a ∧ ∃ o xs, H b = some (.frz o (.lst xs))) (hK : H a ≠ none → K.lookup a = none) :
    codeAny (model P w) callerA (.call (.ref fa) ⟨[.ref a], []⟩) (fun r s' => r = .ok (.ret (.bool true)) ∧ OldK s1.heap s'.heap ∧ s'.os = s1.os ∧ AllBare s'.gens) s1 := by
  have unseen : ∀ {b : Addr} {o : Obj} {es : Array DictEntry} {ep : Nat}, s1.heap.get? b = some o → o.data = .dict es ep → H b = none := by
    intro b o es ep e d
    apply Classical.byContradiction
    intro z
    have := (one b z).1
    subst this
    rw [ha] at e
    cases e
    cases d
  have keepNs : ∀ {b : Addr} {m : Str → Option Value}, s1.heap.Ns b m → (hidT s1.heap H).Ns b m := by
    rintro b m ⟨o, es, ep, e, d, r⟩
    exact ⟨o, es, ep, hidT_get e (unseen e d), d, r⟩
  have KB : K.In (hidT s1.heap H) := by
    intro b o e
    apply hidT_get (KX b o e)
    apply Classical.byContradiction
    intro z
    have := (one b z).1
    subst this
    rw [hK z] at e
    cases e
  have M : Mod K mg (hidT s1.heap H) := by
    refine ⟨KB, keepNs hns, ⟨mb, keepNs hb, hbb⟩, ?_⟩
    obtain ⟨mc, h1, h2⟩ := hlim
    exact ⟨mc, keepNs h1, h2⟩
  have none_in : ∀ b, b ∉ frs ([] : List Env) := fun b hb => by cases hb
  have E0 : Env0 P w K mg (hidT s1.heap H) callerA [] s1 H :=
    { frames := rfl, mod := M, bs := fun b o e => of_hidT e, bsz := Nat.le_of_eq (hidT_size _ _), funs := trivial, frf := fun b hb => absurd hb (none_in b), hok := hok, bare := .of_eq hg }
  have call := (F _ KB (keepNs hns)).run callerA [] s1 H ⟨[.ref a], []⟩ [.ref a] [.ref a] (fun v H' => v = .bl true ∧ L2.Same H H') (fun _ _ _ => False) hr rfl E0 (hbind s1 (.ref a)) (.cons rfl .nil) ⟨a, ns, rfl, hS, hl, fun H' e => ⟨rfl, e⟩⟩
  refine codeAny_mono call fun r s' h => ?_
  cases r with
  | error e =>
    obtain ⟨_, _, _, _, _, _, _, _, _, _, _, _, q⟩ := h
    exact q.elim
  | ok fl =>
    cases fl with
    | ret u =>
      obtain ⟨v, H', os, bare, un, hok', r', q, sm⟩ := h
      subst q
      have r' : u = Value.bool true := r'
      subst r'
      refine ⟨rfl, OldK.of_keep fun b o e => ?_, os, bare⟩
      by_cases q : H b = none
      · exact un.keep b o e q (none_in b) (by simp)
      · obtain ⟨_, ob, xs, z⟩ := one b q
        obtain ⟨e1, _⟩ := hok b _ z
        obtain ⟨e2, _⟩ := hok' b _ (sm _ _ z)
        rw [e] at e1
        cases e1
        exact e2
    | next => exact h.elim
    | brk => exact h.elim
    | cont => exact h.elim
theorem law_run (KX : K.In s1.heap) (hns : s1.heap.Ns mainGlobals mg) (hb : s1.heap.Ns builtinsNs mb) (hbb : ∀ x : Str, x ≠ "__name__" → mb x = bootBuiltins x) (hlim : s1.heap.NoLimit) (hg : s1.gens = #[])
    (ha : s1.heap.get? a = some { cls := .type "list", data := .seq vs.toArray }) (hi : IntsAre vs ns) (hl : ns.length ≤ 63) (hr : Room k callerA)
    (F : ∀ base : Heap, K.In base → base.Ns mainGlobals mg → FnG P w K mg base k fa fd [x] (spLaw K)) (hbind : ∀ (s : Shared) (u : Value), BindsTo s fd ⟨[u], []⟩ [(x, u)]) :
    codeAny (model P w) callerA (.call (.ref fa) ⟨[.ref a], []⟩) (fun r s' => r = .ok (.ret (.bool true)) ∧ OldK s1.heap s'.heap ∧ s'.os = s1.os ∧ AllBare s'.gens) s1 := by
  have rv := vals_ints hi
  have small : ns.length ≤ sizeLine := Nat.le_trans hl (by rw [sizeLine_eq]; decide)
  cases hk : K.lookup a with
  | some o =>
    have e := KX a o hk
    rw [ha] at e
    cases e
    refine law_go KX hns hb hbb hlim hg ha hl hr F hbind (fun _ => none) (.inr ⟨_, vs.toArray, _, hk, rfl, rfl, rfl, ?_, by simpa using rv⟩) (fun b u z => by cases z) (fun b z => absurd rfl z) (fun z => absurd rfl z)
    rw [List.size_toArray, hi.length]
    exact small
  | none =>
    have hS : (fun b => if b = a then some (HO.frz { cls := .type "list", data := .seq vs.toArray } (.lst (ns.map V.int))) else none) a = some (HO.frz { cls := .type "list", data := .seq vs.toArray } (.lst (ns.map V.int))) := if_pos rfl
    refine law_go KX hns hb hbb hlim hg ha hl hr F hbind (fun b => if b = a then some (HO.frz { cls := .type "list", data := .seq vs.toArray } (.lst (ns.map V.int))) else none) (.inl (.inr ⟨_, hS⟩)) (fun b u z => ?_) (fun b z => ?_) fun _ => hk
    · by_cases hb : b = a
      · subst hb
        have z := hS.symm.trans z
        cases z
        exact ⟨ha, by rw [List.length_map]; exact small, vs, _, rv, ha⟩
      · have z := (if_neg hb).symm.trans z
        cases z
    · by_cases hb : b = a
      · subst hb
        exact ⟨rfl, _, _, hS⟩
      · exact absurd (if_neg hb) z
end
/-- the goal that k_head leaves, from the law's promise -/
theorem walk_law {l : PySem.W.OpenLaw} {k : Nat} {q : Program} {loose : List Str} {XP : (Str → Option Value) → Heap → Prop} {YP : World → Heap → Prop} {d : DefRec} {K : Params → PySem.W.Frag} {x : Str}
    (hn : l.most = some 63) (hdf : d.params.defaults = []) (hr : Room k callerA) (hY : ∀ (w : World) (h : Heap), YP w h → (K w.params).In h)
    (F : ∀ (w : World) (mg : Str → Option Value) (fa : Addr) (h : Heap), (K w.params).In h → h.Ns mainGlobals mg → mg d.name = some (.ref fa) →
      ∃ fd : FuncData, (∀ (s : Shared) (u : Value), BindsTo s fd ⟨[u], []⟩ [(x, u)]) ∧ ∀ base : Heap, (K w.params).In base → base.Ns mainGlobals mg → FnG l.prog w (K w.params) mg base k fa fd [x] (spLaw (K w.params))) :
    PySem.W.WalkO q loose XP YP l.row.toRowW d [] (fun f vs => PySem.call f vs) := by
  apply Att.attach_call hn hdf
  intro w s₀ s₁ mg mb fa o pm cd doc a vs ns G Y ho hd hcd hmg hobj hints hlen hg
  have KX := hY w _ Y
  obtain ⟨fd, hb, hF⟩ := F w mg fa _ KX G.T.g hmg
  exact law_run KX G.T.g G.T.b G.T.builtins G.T.nolimit hg hobj hints hlen hr hF hb
end Pv

namespace Pv
open PySem PySem.Spec PyProof.Rows L2
open L2 (upd)

/-! what a place in a body offers -/
structure Fx (X : Cx) (p : Pm) (k : Nat) : Prop where
  nd : X.N.Nodup
  calm : X.calm = true
  gd : X.A.guards = some []
  rm : Room k X.A
  tk : Takes X p.W
theorem Fx.hu {X : Cx} {p : Pm} {k : Nat} (c : Fx X p k) : X.A.units + 64 < cLine := c.rm.units
theorem Fx.hu5 {X : Cx} {p : Pm} {k : Nat} (c : Fx X p k) : X.A.units + 65 < cLine := by have := c.rm.un; omega
theorem Fx.lp {X : Cx} {p : Pm} {k : Nat} (c : Fx X p k) (μ : Ms) (lk : List Nat) : Fx X (p.lp μ lk) k := ⟨c.nd, c.calm, c.gd, c.rm, c.tk⟩
theorem Fx.blk {X : Cx} {p : Pm} {k : Nat} (c : Fx X p k) (s : Shared) (H : Hp) (scope : Scope) (cenv : Env) (fp : List Addr) : Fx (X.blk s H scope cenv fp) p.nw k :=
  ⟨c.nd, c.calm, c.gd, c.rm, fun u s' ⟨_, _, _, _, _, _, _, _, _, _, _, _, _, _, _, _, w⟩ => w.elim⟩
/-- a def that may be called by its name -/
structure Cal (P : Program) (w : World) (K : PySem.W.Frag) (mg : Str → Option Value) (base : Heap) (k : Nat) (x : Str) (rm : Bool) (F : Fn) (n : Nat) : Prop where
  ex : ∃ (f : Addr) (fd : FuncData) (ps : List Str), FnG P w K mg base k f fd ps (spF K rm F n) ∧ mg x = some (.ref f) ∧ PySem.W.keepIn K (.ref f) = true ∧ Binds K fd ps []
/-- a def of the top as the head finds it -/
structure Df (K : PySem.W.Frag) (mg : Str → Option Value) (x : Str) (st : Stmt) (ps : List Str) : Prop where
  ex : ∃ (f : Addr) (fd : FuncData), Fun K x x st f fd ∧ mg x = some (.ref f) ∧ Binds K fd ps []
section
variable {P : Program} {w : World} {K : PySem.W.Frag} {mg : Str → Option Value} {base : Heap}
theorem Df.cal {x : Str} {st : Stmt} {N ps : List Str} {k n : Nat} {rm : Bool} {μ' : Ms} {fb : En → SO} (T : Df K mg x st ps) (S : FnScope N ps (defScope st)) (hn : N.length = ps.length + n) (hnx : rm = true → ∀ ρ ρ', fb ρ ≠ .nx ρ')
    (hbody : ∀ (f : Addr) (cdv : Value) (A : Around) (outer : List Env) (s : Shared) (G H : Hp) (E : XK),
      Fx (cxOf (L2.CX P w) P w K mg base N x (defScope st) f cdv A outer s H E) ⟨G, H, [], [], [], fun cls d _ H' => E cls d H', rm⟩ k →
      PassesOwn (model P w) (A.deeper (envOfC x (defScope st) s.heap.objs.size f cdv)) (envOfC x (defScope st) s.heap.objs.size f cdv) (cxOf (L2.CX P w) P w K mg base N x (defScope st) f cdv A outer s H E).xe →
      SXs (cxOf (L2.CX P w) P w K mg base N x (defScope st) f cdv A outer s H E) ⟨G, H, [], [], [], fun cls d _ H' => E cls d H', rm⟩ [] μ' (defBody st) fb) : Cal P w K mg base (k + 1) x rm (fnB n fb) ps.length := by
  obtain ⟨f, fd, F, hm, hb⟩ := T.ex
  refine ⟨f, fd, ps, fn_pure (μ' := μ') F S hn hnx fun cdv A outer s G H E hr hg => ?_, hm, F.kp, hb⟩
  exact hbody f cdv A outer s G H E ⟨S.nd, rfl, hg, hr, takes_of rfl rfl rfl rfl⟩ (passes_of (X := cxOf (L2.CX P w) P w K mg base N x (defScope st) f cdv A outer s H E) rfl)
end
section
variable {X : Cx} {p : Pm} {μ : Ms} {e : Expr} {es : List Expr} {g : En → R (List D)} {x : Str} {q pos : Pos} {j k n : Nat} {F : Fn}
theorem ex_cl (c : Fx X p k) (C : Cal X.prog X.w X.K X.mg X.base j x false F n) (ha : AX X p μ (e :: es) g) (hj : j ≤ k := by decide)
    (hmx : Ms.le μ p.mx = true := by rfl) (hg : Gl X x := by rfl) (hdb : (x == ("__debug__" : Str)) = false := by decide) (he : starEach (e :: es) X.env = (false, eval e X.env) :: starEach es X.env := by rfl) (hpl : (backTo pos (starEach es X.env)).any (·.1) = false := by rfl)
    (hlen : ∀ ρ ds, g ρ = .ok ds → ds.length = n := by intro ρ ds h; exact lenL h) :
    EX X p μ (.Call (.Name x q) (e :: es) [] pos) (fA F g) := by
  obtain ⟨f, fd, ps, h1, h2, h3, h4⟩ := C.ex
  exact ex_call h1 (c.rm.mono hj) c.gd h2 h3 h4 c.tk ha hmx hg hdb he hpl hlen
theorem ef_cl (c : Fx X p k) (C : Cal X.prog X.w X.K X.mg X.base j x true F n) (ha : AX X p μ (e :: es) g) (hj : j ≤ k := by decide)
    (hmx : Ms.le μ p.mx = true := by rfl) (hg : Gl X x := by rfl) (hdb : (x == ("__debug__" : Str)) = false := by decide) (he : starEach (e :: es) X.env = (false, eval e X.env) :: starEach es X.env := by rfl) (hpl : (backTo pos (starEach es X.env)).any (·.1) = false := by rfl)
    (hlen : ∀ ρ ds, g ρ = .ok ds → ds.length = n := by intro ρ ds h; exact lenL h) :
    EF X p μ (.Call (.Name x q) (e :: es) [] pos) (fA F g) := by
  obtain ⟨f, fd, ps, h1, h2, h3, h4⟩ := C.ex
  exact ef_call h1 (c.rm.mono hj) c.gd h2 h3 h4 c.tk ha hmx hg hdb he hpl hlen
theorem ex_clb (c : Fx X p k) (C : Cal X.prog X.w X.K X.mg X.base j x false F n) (ha : AB X p μ (e :: es) g) (hj : j ≤ k := by decide)
    (hg : Gl X x := by rfl) (hdb : (x == ("__debug__" : Str)) = false := by decide) (he : starEach (e :: es) X.env = (false, eval e X.env) :: starEach es X.env := by rfl) (hpl : (backTo pos (starEach es X.env)).any (·.1) = false := by rfl)
    (hlen : ∀ ρ ds, g ρ = .ok ds → ds.length = n := by intro ρ ds h; exact lenL h) :
    EX X p μ (.Call (.Name x q) (e :: es) [] pos) (fCB F g) := by
  obtain ⟨f, fd, ps, h1, h2, h3, h4⟩ := C.ex
  exact ex_callB' h1 (c.rm.mono hj) c.gd h2 h3 h4 c.tk ha rfl hg hdb he hpl hlen
end
/-! repr of texts (of anything: later), isinstance -/
def tyName : D → String
  | .non => "NoneType"
  | .bl _ => "bool"
  | .int _ => "int"
  | .str _ => "str"
  | .lst _ => "list"
  | .tup _ => "tuple"
  | .dct _ => "dict"
  | .obj _ _ => "object"
end Pv

namespace Pv
open PySem PySem.Spec PyProof.Rows L2
open L2 (upd)

/-! isinstance(e, T) -/
def D.plain : D → Bool
  | .obj _ _ => false
  | .dct _ => false
  | _ => true
theorem Bor.ty {K : PySem.W.Frag} {p : Pm} {H0 H : Hp} {μ : Ms} {ρ : En} {σ : Sg} {v : V} {d : D} (b : Bor K H0 μ ρ σ v d) (s : SR K p H0 μ ρ σ H) (hd : d.plain = true) : TyX K H v (.type (tyName d)) := by
  cases d with
  | non => cases b.non s; exact .base .non
  | bl y => cases b.bl s; exact .base (.bl _)
  | int y => cases b.int s; exact .base (.int _)
  | str y => obtain ⟨rfl, _⟩ := b.str s; exact .base (.str _)
  | lst ds =>
    obtain ⟨a, xs, rfl, h1, _⟩ := b.lst s
    rcases h1 with h1 | ⟨o, vs, n, h1, h2, _⟩
    · rcases h1 with h1 | ⟨o, h1⟩
      · exact .base (.lst h1)
      · exact .base (.frz h1)
    · exact .kList h1 h2
  | tup ds =>
    obtain ⟨a, xs, rfl, _, _, h0⟩ := b.tup s
    exact .base (.tup (s.sub _ _ h0))
  | dct _ => cases hd
  | obj _ _ => cases hd
def tyNames : List String := ["NoneType", "bool", "int", "str", "list", "tuple"]
/-- isinstance of a value of the built-in type n -/
def isiB (n T : String) : Bool := n == T || (n == "bool" && T == "int")
def isiD (T : String) (d : D) : R D := match d with
  | .obj _ _ => .bad
  | .dct _ => .bad
  | d => .ok (.bl (isiB (tyName d) T))
def fIsi (T : String) (f : En → R D) : En → R D := fun ρ => f ρ >>= isiD T
section
variable {X : Cx} {p : Pm} {k : Nat} {μ : Ms} {a b : Expr} {fa fb : En → R D} {q q2 pos : Pos} {T : String} {y : Str}
theorem ex_isi (hm : X.mg "isinstance" = none) (hT : X.mg y = none) (ha : EB X p μ a fa) (hb : bootBuiltins y = some (.type T) := by decide +kernel) (hk : ∀ n ∈ tyNames, kitB n T = some (isiB n T) := by decide +kernel) (hg : Gl X "isinstance" := by rfl) (hg2 : Gl X y := by rfl) (h5 : y ≠ "__name__" := by decide) (h6 : (y == ("__debug__" : Str)) = false := by decide)
    (h3 : starEach [a, .Name y q2] X.env = (false, eval a X.env) :: starEach [.Name y q2] X.env := by rfl) (h2 : starEach [.Name y q2] X.env = (false, eval (.Name y q2) X.env) :: starEach [] X.env := by rfl) (h4 : (backTo pos (starEach [.Name y q2] X.env)).any (·.1) = false := by rfl) :
    EX X p μ (.Call (.Name "isinstance" q) [a, .Name y q2] [] pos) (fIsi T fa) :=
  PEw (pe_callB call_isi hg hm (by decide +kernel) (pa_cons ha (pa_cons (pe_bltn hg2 hT hb (v := .ty T) rfl h5 h6) pa_nil h2) h3) (he := h3) (hpl := h4)) fun σ H Q ⟨H0, ρ, s, z⟩ => by
    unfold fIsi at z
    rw [R.sat_bind] at z
    refine ⟨H0, ρ, s, R.sat_mono z (fun d k v H1 H1' ad bv => ?_) fun _ n => n⟩
    have go : ∀ d : D, d.plain = true → tyName d ∈ tyNames → Bor X.K H1 μ ρ σ v d → ((R.ok (D.bl (isiB (tyName d) T))).sat (fun d => ∀ v H0' H', Adv X.K p μ ρ σ H0 H H0' H' → Rp X.K H0' v d → Q v H') (NX X.K p ρ σ)) → rIsi X.K [v, .ty T] H1' Q := by
      intro d hd hn bv k
      exact ⟨v, .ty T, _, _, _, rfl, .ty T, bv.ty ad.sr hd, kit_ty (hk _ hn), k _ H1 H1' ad (.bl _)⟩
    cases d with
    | obj _ _ => exact k.elim
    | dct _ => exact k.elim
    | non => exact go _ rfl (by simp [tyName, tyNames]) bv k
    | bl _ => exact go _ rfl (by simp [tyName, tyNames]) bv k
    | int _ => exact go _ rfl (by simp [tyName, tyNames]) bv k
    | str _ => exact go _ rfl (by simp [tyName, tyNames]) bv k
    | lst _ => exact go _ rfl (by simp [tyName, tyNames]) bv k
    | tup _ => exact go _ rfl (by simp [tyName, tyNames]) bv k
end
/-! repr -/
mutual
def pyD : D → PyData
  | .non => .none
  | .bl b => .bool b
  | .int i => .int i
  | .str l => .str (mkS l)
  | .lst xs => .list (pyDs xs)
  | .tup xs => .tuple (pyDs xs)
  | .dct _ => .none
  | .obj _ _ => .none
def pyDs : List D → List PyData
  | [] => []
  | d :: ds => pyD d :: pyDs ds
end
mutual
/-- nothing but lists, tuples and flat values -/
def seqD : D → Bool
  | .lst xs => seqDs xs
  | .tup xs => seqDs xs
  | .dct _ => false
  | .obj _ _ => false
  | _ => true
def seqDs : List D → Bool
  | [] => true
  | d :: ds => seqD d && seqDs ds
end
mutual
theorem pyD_flat : ∀ d : D, (pyD d).hasDict = false
  | .non => rfl
  | .bl _ => rfl
  | .int _ => rfl
  | .str _ => rfl
  | .lst xs => by rw [pyD, PyData.hasDict]; exact pyDs_flat xs
  | .tup xs => by rw [pyD, PyData.hasDict]; exact pyDs_flat xs
  | .dct _ => rfl
  | .obj _ _ => rfl
theorem pyDs_flat : ∀ ds : List D, PyData.hasDictAll (pyDs ds) = false
  | [] => rfl
  | d :: ds => by rw [pyDs, PyData.hasDictAll, pyD_flat d, pyDs_flat ds]; rfl
end
mutual
theorem reads_of {X : Cx} {pins : List (Addr × Obj)} {σ : Sg} {H : Hp} {s : Shared} (I : Inv X pins σ H s) : ∀ {d : D} {v : V} {u : Value}, Rp X.K H v d → seqD d = true → RelV v u → ∃ as, Reads s.heap u (pyD d) as
  | .non, _, _, r, _, e => by cases r; cases (show _ = Value.none from e); exact ⟨_, .none⟩
  | .bl b, _, _, r, _, e => by cases r; cases (show _ = Value.bool b from e); exact ⟨_, .bool b⟩
  | .int i, _, _, r, _, e => by cases r; obtain ⟨t, q⟩ := (show ∃ t, _ = Value.int i t from e); cases q; exact ⟨_, .int i t⟩
  | .str l, _, _, r, _, e => by cases r; obtain ⟨t, q⟩ := (show ∃ t, _ = Value.str (mkS l) t from e); cases q; exact ⟨_, .str _ t⟩
  | .lst xs, _, _, r, h, e => by
    cases r with
    | lst h1 r1 =>
      cases (show _ = Value.ref _ from e)
      obtain ⟨its, rv, ⟨o, n, ho, hc, _, hd⟩, _⟩ := I.list h1
      obtain ⟨as, q⟩ := reads_all I r1 (by rw [seqD] at h; exact h) rv
      exact ⟨_, .list ho hc hd (by simpa using q)⟩
  | .tup xs, _, _, r, h, e => by
    cases r with
    | tup h1 r1 =>
      cases (show _ = Value.ref _ from e)
      obtain ⟨its, rv, ⟨o, ho, hc, n, hd⟩, _⟩ := I.tuple (.inl (.inl h1))
      obtain ⟨as, q⟩ := reads_all I r1 (by rw [seqD] at h; exact h) rv
      exact ⟨_, .tuple ho hc hd (by simpa using q)⟩
  | .dct _, _, _, _, h, _ => by simp [seqD] at h
  | .obj _ _, _, _, _, h, _ => by simp [seqD] at h
theorem reads_all {X : Cx} {pins : List (Addr × Obj)} {σ : Sg} {H : Hp} {s : Shared} (I : Inv X pins σ H s) : ∀ {ds : List D} {vs : List V} {us : List Value}, RpL X.K H vs ds → seqDs ds = true → Vals vs us → ∃ as, ReadsAll s.heap us (pyDs ds) as
  | [], _, _, r, _, e => by cases r; cases e; exact ⟨_, .nil⟩
  | d :: ds, _, _, r, h, e => by
    cases r with
    | cons h1 r1 =>
      cases e with
      | cons e1 e2 =>
        rw [seqDs, Bool.and_eq_true] at h
        obtain ⟨as, q⟩ := reads_of I h1 h.1 e1
        obtain ⟨bs, q2⟩ := reads_all I r1 h.2 e2
        exact ⟨_, .cons q q2⟩
end
/-- the text of repr -/
def shD (d : D) : List Nat := (pyD d).shown.cps.toList
def shOk (d : D) : Bool := seqD d && (pyD d).showable && decide ((shD d).length ≤ sizeLine) && decide ((pyD d).depth ≤ 60) && (shD d).all fun c => decide (c < 0x110000)
def shK : D → Bool
  | .str _ => true
  | .lst _ => true
  | .tup _ => true
  | .int _ => true
  | _ => false
def reprD : List D → R D
  | [d] => if (shK d && shOk d) = true then .ok (.str (shD d)) else .bad
  | _ => .bad
theorem shOk_str {d : D} (h : shOk d = true) : StrG (shD d) := by
  unfold shOk at h
  simp only [Bool.and_eq_true, List.all_eq_true, decide_eq_true_eq] at h
  exact ⟨h.1.1.2, h.2⟩
theorem shD_mk (d : D) : mkS (shD d) = (pyD d).shown := by
  unfold shD mkS; simp
section
variable {X : Cx} {p : Pm} {k : Nat} {μ : Ms} {a : Expr} {fa : En → R D} {q pos : Pos}
def rRepr (K : PySem.W.Frag) : List V → Hp → VK → Prop := fun xs H Q => ∃ v d, xs = [v] ∧ Rp K H v d ∧ shOk d = true ∧ shK d = true ∧ Q (.str (pyD d).shown) H
theorem call_reprD (hg : X.A.guards = some []) (hu : X.A.units + 64 < cLine) : CallR X (.builtin "repr") (rRepr X.K) := by
  intro pins s σ H xs us Q I r h
  obtain ⟨v, d, rfl, rv, ok, kd, qq⟩ := h
  obtain ⟨u, rfl, r1⟩ := vals1 r
  have ok' := ok
  unfold shOk at ok'
  simp only [Bool.and_eq_true, decide_eq_true_eq] at ok'
  obtain ⟨⟨⟨⟨o1, o2⟩, o3⟩, o4⟩, _⟩ := ok'
  have o3 : (pyD d).shown.length ≤ sizeLine := by
    have := o3; unfold shD at this; simpa [Str.length] using this
  obtain ⟨as, rd⟩ := reads_of I rv o1 r1
  cases d with
  | str l =>
    cases rv
    obtain ⟨t, e⟩ := (show ∃ t, u = Value.str (mkS l) t from r1)
    cases e
    exact P.repr_of_str (hsz := o3) ⟨.str _, H, I.tok _, ⟨_, rfl⟩, qq⟩
  | int i =>
    cases rv
    obtain ⟨t, e⟩ := (show ∃ t, u = Value.int i t from r1)
    cases e
    have o2 : i.natAbs.log2 < 1920 := by simpa [pyD, PyData.showable] using o2
    exact P.repr_of_int o2 ⟨.str _, H, I.tok _, ⟨_, rfl⟩, qq⟩
  | lst l =>
    obtain ⟨ad, rfl⟩ : ∃ ad, u = .ref ad := by cases rv; exact ⟨_, r1⟩
    exact repr_of_reads' rd o2 (PyData.noDict_hsm (pyD_flat _)) hg (by omega) (fun _ _ e => e) (fun h' u tk hk => ⟨.str _, H, I.kept hk, ⟨_, rfl⟩, qq⟩) o3
  | tup l =>
    obtain ⟨ad, rfl⟩ : ∃ ad, u = .ref ad := by cases rv; exact ⟨_, r1⟩
    exact repr_of_reads' rd o2 (PyData.noDict_hsm (pyD_flat _)) hg (by omega) (fun _ _ e => e) (fun h' u tk hk => ⟨.str _, H, I.kept hk, ⟨_, rfl⟩, qq⟩) o3
  | non => cases kd
  | bl _ => cases kd
  | dct _ => cases kd
  | obj _ _ => cases kd
theorem vrepr : VCall X.K p (rRepr X.K) reprD := by
  intro μ ρ σ H0 H vs ds Q s b h
  unfold reprD at h
  split at h
  · rename_i d
    split at h
    · rename_i ok
      rw [Bool.and_eq_true] at ok
      obtain ⟨v, rfl, c⟩ := b.one
      refine ⟨v, d, rfl, c.whole s, ok.2, ok.1, ?_⟩
      rw [← shD_mk]
      exact h _ H0 H (.refl s) (.str _ (shOk_str ok.2))
    · exact h.elim
  · exact h.elim
theorem reprD_n : NoExL reprD := fun ds => by
  unfold reprD
  split
  · split
    · exact .inl ⟨_, rfl⟩
    · exact .inr rfl
  · exact .inr rfl
theorem ex_repr (c : Fx X p k) (hm : X.mg "repr" = none) (ha : EB X p μ a fa) (hg : Gl X "repr" := by rfl) (h3 : starEach [a] X.env = (false, eval a X.env) :: starEach [] X.env := by rfl) (h4 : (backTo pos (starEach [] X.env)).any (·.1) = false := by rfl) :
    EX X p μ (.Call (.Name "repr" q) [a] [] pos) (fA reprD (lCons fa lNil)) := ex_callB (call_reprD c.gd c.hu) vrepr reprD_n hg hm (by decide +kernel) (ab_cons ha ab_nil h3) (h3 := h3) (h4 := h4)
end
end Pv

namespace Pv
open PySem PySem.Spec PyProof.Rows L2
open L2 (upd)

/-! small words for the printed derivations -/
/-- a name of the top that is a text -/
def GStr (mg : Str → Option Value) (x : Str) (l : List Nat) : Prop := ∃ t, mg x = some (.str (mkS l) t)
section
variable {X : Cx} {p : Pm} {μ : Ms} {x : Str} {l : List Nat} {pos : Pos}
theorem ex_gs (h : GStr X.mg x l) (hg : Gl X x := by rfl) (hd : (x == ("__debug__" : Str)) = false := by decide) (g : (decide (l.length ≤ 100000) && l.all fun c => decide (c < 0x110000)) = true := by decide +kernel) : EX X p μ (.Name x pos) (fC (.str l)) := by
  obtain ⟨t, e⟩ := h
  exact ex_gstr (x := x) (u := .none) l (pe_glob hg e ⟨t, rfl⟩ hd) g
end
def fRg (h : List D → R (List D)) (g : En → R (List D)) : En → R (List D) := fun ρ => g ρ >>= h
/-- never falls out at its end -/
class Nv (f : En → SO) : Prop where
  h : ∀ ρ ρ', f ρ ≠ .nx ρ'
theorem sE_nx {α : Type} {f : En → R α} {k : α → En → SO} {ρ ρ' : En} (h : sE f k ρ = .nx ρ') : ∃ a, f ρ = .ok a ∧ k a ρ = .nx ρ' := by
  unfold sE at h
  cases hf : f ρ with
  | ok a => rw [hf] at h; exact ⟨a, rfl, h⟩
  | ex x => rw [hf] at h; cases h
  | bad => rw [hf] at h; cases h
instance {f : En → R D} : Nv (sRt f) := ⟨fun ρ ρ' h => by obtain ⟨a, _, z⟩ := sE_nx h; cases z⟩
instance {f g : En → SO} [Nv g] : Nv (sSeq f g) := ⟨fun ρ ρ' h => by
  unfold sSeq at h
  split at h <;> first | cases h | exact Nv.h _ _ h⟩
instance {c : En → R Bool} {f g : En → SO} [Nv f] [Nv g] : Nv (sIf c f g) := ⟨fun ρ ρ' h => by
  obtain ⟨b, _, z⟩ := sE_nx h
  cases b
  · exact Nv.h _ _ z
  · exact Nv.h _ _ z⟩
end Pv

namespace Pv
open PySem PySem.Spec PyProof.Rows L2
open L2 (upd)

/-! a fresh list times an int -/
def repD : D → D → R D
  | .lst a, .int k => if a.length * k.toNat ≤ sizeLine ∧ -(2 ^ 63) ≤ k ∧ k < 2 ^ 63 then .ok (.lst (List.replicate k.toNat a).flatten) else .bad
  | _, _ => .bad
theorem RpL.rep {K : PySem.W.Frag} {H : Hp} {vs : List V} {ds : List D} (r : RpL K H vs ds) : ∀ n : Nat, RpL K H (List.replicate n vs).flatten (List.replicate n ds).flatten
  | 0 => .nil
  | n + 1 => by
    rw [List.replicate_succ, List.replicate_succ, List.flatten_cons, List.flatten_cons]
    exact r.app (RpL.rep r n)
section
variable {X : Cx} {p : Pm} {μ : Ms} {a b : Expr} {fa fb : En → R D} {pos : Pos}
theorem ef_rep (ha : EF X p μ a fa) (hb : EB X p μ b fb) : EF X p μ (.BinOp a .Mult b pos) (f2 repD fa fb) := PEw (pe_op op_rep ha hb) fun σ H Q ⟨H0, ρ, s, q⟩ => by
  unfold f2 at q
  rw [R.sat_bind] at q
  refine ⟨H0, ρ, s, R.sat_mono q (fun d k v H1 H1' ad fr => ?_) fun _ n => n⟩
  rw [R.sat_bind] at k
  refine ⟨H1, ρ, ad.sr, R.sat_mono k (fun e k w H2 H2' ad2 bw => ?_) fun _ n => n⟩
  unfold repD at k
  split at k
  · split at k
    · rename_i hz
      obtain ⟨c, o, rfl, f1, f2, f3, f4, f5, f6⟩ := fr
      cases o with
      | lst vs =>
        have f5 : RpL X.K H1 vs _ := f5
        cases bw.int ad2.sr
        refine ⟨c, _, vs, rfl, rfl, ad2.s1 _ _ f2, hz.2.1, hz.2.2, by rw [f5.length]; exact hz.1, fun q hq => k _ _ _ ((ad.trans ad2).trans (ad2.sr.adv_hold hq)) ?_⟩
        exact (frs_new (u := .lst _) (d := .lst _) ad2.sr hq ((f5.mono ad2.s0).rep _)).back (ad.s1.trans ad2.s1)
      | _ => exact f5.elim
    · exact k.elim
  · exact k.elim
end
/-! the head's facts -/
section
variable {P : Program} {w : World} {K : PySem.W.Frag} {mg : Str → Option Value} {base : Heap}
theorem fng_fx {x : Str} {st : Stmt} {f : Addr} {fd : FuncData} {N ps : List Str} {k n : Nat} {rm : Bool} {μ' : Ms} {fb : En → SO} (F : Fun K x x st f fd) (S : FnScope N ps (defScope st)) (hn : N.length = ps.length + n) (hnx : rm = true → ∀ ρ ρ', fb ρ ≠ .nx ρ')
    (hbody : ∀ (f : Addr) (cdv : Value) (A : Around) (outer : List Env) (s : Shared) (G H : Hp) (E : XK),
      Fx (cxOf (L2.CX P w) P w K mg base N x (defScope st) f cdv A outer s H E) ⟨G, H, [], [], [], fun cls d _ H' => E cls d H', rm⟩ k →
      PassesOwn (model P w) (A.deeper (envOfC x (defScope st) s.heap.objs.size f cdv)) (envOfC x (defScope st) s.heap.objs.size f cdv) (cxOf (L2.CX P w) P w K mg base N x (defScope st) f cdv A outer s H E).xe →
      SXs (cxOf (L2.CX P w) P w K mg base N x (defScope st) f cdv A outer s H E) ⟨G, H, [], [], [], fun cls d _ H' => E cls d H', rm⟩ [] μ' (defBody st) fb) : FnG P w K mg base (k + 1) f fd ps (spF K rm (fnB n fb) ps.length) :=
  fn_pure (μ' := μ') F S hn hnx fun cdv A outer s G H E hr hg =>
    hbody f cdv A outer s G H E ⟨S.nd, rfl, hg, hr, takes_of rfl rfl rfl rfl⟩ (passes_of (X := cxOf (L2.CX P w) P w K mg base N x (defScope st) f cdv A outer s H E) rfl)
theorem df_mk {h : Heap} {x : Str} {st : Stmt} {ps : List Str} {f : Addr} {oc : Value} {od an : Option Addr} {osl : Array (Option Value)} {kV doc pm cdv ct : Value} (X : K.In h) (G : h.Ns mainGlobals mg)
    (hb : ∀ (kV doc pm : Value) (an : Option Addr) (cdv ct : Value) (us : List Value), us.length = ps.length → bindArgs (PySem.W.fnOf x x (defArgs st) (defBody st) (defScope st) .none kV doc pm an cdv ct) ⟨us, []⟩ = pure (ps.zip us))
    (a : PySem.W.nsIn K mainGlobals x = some (some (.ref f))) (l : K.lookup f = some ⟨oc, od, .func (PySem.W.fnOf x x (defArgs st) (defBody st) (defScope st) .none kV doc pm an cdv ct), osl⟩)
    (c : PySem.W.codeIn K cdv x = true) (k : PySem.W.keepIn K (.ref f) = true) : Df K mg x st ps :=
  ⟨f, _, fun_mk l c k, PySem.W.mg_of X G a, (fun_mk l c k).binds hb⟩
theorem gs_mk {h : Heap} {x y : Str} {l : List Nat} {t : Tok} (X : K.In h) (G : h.Ns mainGlobals mg) (e : y = mkS l) (a : PySem.W.nsIn K mainGlobals x = some (some (.str y t))) : GStr mg x l := ⟨t, by rw [← e]; exact PySem.W.mg_of X G a⟩
theorem law_mk {l : PySem.W.OpenLaw} {h : Heap} {st : Stmt} {y : Str} {k : Nat} {F : Fn} {fa f : Addr} {oc : Value} {od an : Option Addr} {osl : Array (Option Value)} {kV doc pm cdv ct : Value} (X : K.In h) (G : h.Ns mainGlobals mg) (hfa : mg "law" = some (.ref fa))
    (hF : ∀ ns : List Int, ns.length ≤ 63 → F [.lst (ns.map D.int)] = .ok (.bl true))
    {Hp : Prop} (g : Hp → ∀ (base : Heap) (f : Addr) (fd : FuncData), Fun K "law" "law" st f fd → FnG l.prog w K mg base k f fd [y] (spF K false F 1))
    (hb : ∀ (kV doc pm : Value) (an : Option Addr) (cdv ct : Value) (s : Shared) (u : Value), BindsTo s (PySem.W.fnOf "law" "law" (defArgs st) (defBody st) (defScope st) .none kV doc pm an cdv ct) ⟨[u], []⟩ [(y, u)])
    (hd : Hp) (a : PySem.W.nsIn K mainGlobals "law" = some (some (.ref f))) (lk : K.lookup f = some ⟨oc, od, .func (PySem.W.fnOf "law" "law" (defArgs st) (defBody st) (defScope st) .none kV doc pm an cdv ct), osl⟩)
    (c : PySem.W.codeIn K cdv "law" = true) (kk : PySem.W.keepIn K (.ref f) = true) :
    ∃ fd : FuncData, (∀ (s : Shared) (u : Value), BindsTo s fd ⟨[u], []⟩ [(y, u)]) ∧ ∀ base : Heap, K.In base → base.Ns mainGlobals mg → FnG l.prog w K mg base k fa fd [y] (spLaw K) := by
  have e := hfa.symm.trans (PySem.W.mg_of X G a)
  cases e
  exact ⟨_, fun s u => hb kV doc pm an cdv ct s u, fun base _ _ => law_of (g hd base _ _ (fun_mk lk c kk)) hF⟩
end
end Pv

namespace Pv
open PySem PySem.Spec PyProof.Rows L2
open L2 (upd)

/-! the plain side: equations by which the printed functions are worked out -/
def getV : Option (Option D) → R D
  | some (some d) => .ok d
  | _ => .bad
@[simp] theorem getV_some (d : D) : getV (some (some d)) = .ok d := nd rfl
@[simp] theorem fV_e (i : Nat) (ρ : En) : fV i ρ = getV ρ[i]? := by
  unfold fV getV; rfl
@[simp] theorem fC_e (d : D) (ρ : En) : fC d ρ = .ok d := nd rfl
@[simp] theorem f2_e (g : D → D → R D) (fa fb : En → R D) (ρ : En) : f2 g fa fb ρ = (fa ρ >>= fun d => fb ρ >>= fun e => g d e) := nd rfl
@[simp] theorem b2_e (g : D → D → R Bool) (fa fb : En → R D) (ρ : En) : b2 g fa fb ρ = (fa ρ >>= fun d => fb ρ >>= fun e => g d e) := nd rfl
@[simp] theorem fB2_e (g : D → D → R Bool) (fa fb : En → R D) (ρ : En) : fB2 g fa fb ρ = (fa ρ >>= fun d => fb ρ >>= fun e => g d e >>= fun k => .ok (.bl k)) := nd rfl
def toB : D → R Bool
  | .bl b => .ok b
  | _ => .bad
@[simp] theorem toB_bl (b : Bool) : toB (.bl b) = .ok b := nd rfl
@[simp] theorem bV_e (f : En → R D) (ρ : En) : bV f ρ = (f ρ >>= toB) := nd rfl
@[simp] theorem bAnd_e (f g : En → R Bool) (ρ : En) : bAnd f g ρ = (f ρ >>= fun k => if k = true then g ρ else .ok false) := nd rfl
@[simp] theorem bOr_e (f g : En → R Bool) (ρ : En) : bOr f g ρ = (f ρ >>= fun k => if k = true then .ok true else g ρ) := nd rfl
@[simp] theorem bNot_e (f : En → R Bool) (ρ : En) : bNot f ρ = (f ρ >>= fun k => .ok (!k)) := nd rfl
def andK (r : R D) : D → R D
  | .bl true => r
  | .bl false => .ok (.bl false)
  | _ => .bad
def orK (r : R D) : D → R D
  | .bl false => r
  | .bl true => .ok (.bl true)
  | _ => .bad
@[simp] theorem andK_e (r : R D) (b : Bool) : andK r (.bl b) = if b = true then r else .ok (.bl false) := by cases b <;> rfl
@[simp] theorem orK_e (r : R D) (b : Bool) : orK r (.bl b) = if b = true then .ok (.bl true) else r := by cases b <;> rfl
@[simp] theorem fAnd_e (f g : En → R D) (ρ : En) : fAnd f g ρ = (f ρ >>= andK (g ρ)) := by
  show (f ρ >>= _) = (f ρ >>= _)
  congr 1
@[simp] theorem fOr_e (f g : En → R D) (ρ : En) : fOr f g ρ = (f ρ >>= orK (g ρ)) := by
  show (f ρ >>= _) = (f ρ >>= _)
  congr 1
def notK : D → R D
  | .bl b => .ok (.bl (!b))
  | _ => .bad
@[simp] theorem notK_e (b : Bool) : notK (.bl b) = .ok (.bl (!b)) := nd rfl
@[simp] theorem fNot_e (f : En → R D) (ρ : En) : fNot f ρ = (f ρ >>= notK) := nd rfl
def negK : D → R D
  | .int b => .ok (.int (-b))
  | _ => .bad
@[simp] theorem negK_e (b : Int) : negK (.int b) = .ok (.int (-b)) := nd rfl
@[simp] theorem fNeg_e (f : En → R D) (ρ : En) : fNeg f ρ = (f ρ >>= negK) := nd rfl
@[simp] theorem fIf_e (c : En → R Bool) (f g : En → R D) (ρ : En) : fIf c f g ρ = (c ρ >>= fun k => if k = true then f ρ else g ρ) := nd rfl
@[simp] theorem lNil_e (ρ : En) : lNil ρ = .ok [] := nd rfl
@[simp] theorem lCons_e (f : En → R D) (g : En → R (List D)) (ρ : En) : lCons f g ρ = (f ρ >>= fun d => g ρ >>= fun ds => .ok (d :: ds)) := nd rfl
@[simp] theorem fA_e (h : List D → R D) (g : En → R (List D)) (ρ : En) : fA h g ρ = (g ρ >>= h) := nd rfl
theorem sizeLine_k : sizeLine = 16777216 := sizeLine_eq
@[simp] theorem fTup_e (g : En → R (List D)) (ρ : En) : fTup g ρ = (g ρ >>= fun ds => if ds.length ≤ 16777216 then .ok (.tup ds) else .bad) := by
  unfold fTup; rw [sizeLine_k]
@[simp] theorem fLst_e (g : En → R (List D)) (ρ : En) : fLst g ρ = (g ρ >>= fun ds => if ds.length ≤ 16777216 then .ok (.lst ds) else .bad) := by
  unfold fLst; rw [sizeLine_k]
@[simp] theorem oNo_e (ρ : En) : oNo ρ = .ok none := nd rfl
def soK : D → R (Option Int)
  | .int i => .ok (some i)
  | _ => .bad
@[simp] theorem soK_e (i : Int) : soK (.int i) = .ok (some i) := nd rfl
@[simp] theorem oSo_e (f : En → R D) (ρ : En) : oSo f ρ = (f ρ >>= soK) := by
  show (f ρ >>= _) = (f ρ >>= _)
  congr 1
@[simp] theorem fSl_e (f : En → R D) (lo hi : En → R (Option Int)) (ρ : En) : fSl f lo hi ρ = (f ρ >>= fun d => lo ρ >>= fun l => hi ρ >>= fun h => sliceD d l h) := nd rfl
@[simp] theorem fSlL_e (f : En → R D) (lo hi : En → R (Option Int)) (ρ : En) : fSlL f lo hi ρ = (f ρ >>= fun d => lo ρ >>= fun l => hi ρ >>= fun h => sliceLD d l h) := nd rfl
@[simp] theorem fM_e (T : String) (h : D → List D → R D) (f : En → R D) (g : En → R (List D)) (ρ : En) : fM T h f g ρ = (f ρ >>= fun d => if tyD T d = true then g ρ >>= fun ds => h d ds else .bad) := nd rfl
@[simp] theorem fIsi_e (T : String) (f : En → R D) (ρ : En) : fIsi T f ρ = (f ρ >>= isiD T) := nd rfl
@[simp] theorem fIt_e (f : En → R D) (ρ : En) : fIt f ρ = (f ρ >>= itemsD) := nd rfl
@[simp] theorem fRg_e (h : List D → R (List D)) (g : En → R (List D)) (ρ : En) : fRg h g ρ = (g ρ >>= h) := nd rfl
@[simp] theorem itemsD_lst (ds : List D) : itemsD (.lst ds) = .ok ds := nd rfl
@[simp] theorem itemsD_tup (ds : List D) : itemsD (.tup ds) = .ok ds := nd rfl
@[simp] theorem itemsD_str (l : List Nat) : itemsD (.str l) = .ok (l.map fun c => .str [c]) := nd rfl
/-! operators -/
@[simp] theorem addD_int (a b : Int) : addD (.int a) (.int b) = .ok (.int (a + b)) := nd rfl
@[simp] theorem addD_str (a b : List Nat) : addD (.str a) (.str b) = if a.length + b.length ≤ 16777216 then .ok (.str (a ++ b)) else .bad := by rw [← sizeLine_k]; rfl
@[simp] theorem addD_lst (a b : List D) : addD (.lst a) (.lst b) = if a.length + b.length ≤ 16777216 then .ok (.lst (a ++ b)) else .bad := by rw [← sizeLine_k]; rfl
@[simp] theorem addD_tup (a b : List D) : addD (.tup a) (.tup b) = if a.length + b.length ≤ 16777216 then .ok (.tup (a ++ b)) else .bad := by rw [← sizeLine_k]; rfl
@[simp] theorem catD_lst (a b : List D) : catD (.lst a) (.lst b) = if a.length + b.length ≤ 16777216 then .ok (.lst (a ++ b)) else .bad := by rw [← sizeLine_k]; rfl
@[simp] theorem subD_int (a b : Int) : subD (.int a) (.int b) = .ok (.int (a - b)) := nd rfl
theorem mulD_int (a b : Int) (h : (-(2 ^ 64) < a ∧ a < 2 ^ 64) ∨ (-(2 ^ 64) < b ∧ b < 2 ^ 64)) : mulD (.int a) (.int b) = .ok (.int (a * b)) := if_pos h
@[simp] theorem fdivD_int (a b : Int) : fdivD (.int a) (.int b) = if 0 < b ∧ b < 1073741824 then .ok (.int (a / b)) else .bad := nd rfl
@[simp] theorem modD_int (a b : Int) : modD (.int a) (.int b) = if 0 < b then .ok (.int (a % b)) else .bad := nd rfl
@[simp] theorem ltD_int (a b : Int) : ltD (.int a) (.int b) = .ok (decide (a < b)) := nd rfl
@[simp] theorem gtD_int (a b : Int) : gtD (.int a) (.int b) = .ok (decide (b < a)) := nd rfl
@[simp] theorem leD_int (a b : Int) : leD (.int a) (.int b) = .ok (decide (a ≤ b)) := nd rfl
@[simp] theorem geD_int (a b : Int) : geD (.int a) (.int b) = .ok (decide (b ≤ a)) := nd rfl
@[simp] theorem eqD_int (a b : Int) : eqD (.int a) (.int b) = .ok (a == b) := nd rfl
@[simp] theorem neD_int (a b : Int) : neD (.int a) (.int b) = .ok (!(a == b)) := nd rfl
@[simp] theorem eqD_str (a b : List Nat) : eqD (.str a) (.str b) = .ok (a == b) := nd rfl
@[simp] theorem neD_str (a b : List Nat) : neD (.str a) (.str b) = .ok (!(a == b)) := nd rfl
@[simp] theorem eqD_bl (a b : Bool) : eqD (.bl a) (.bl b) = .ok (a == b) := nd rfl
@[simp] theorem isD_non (d : D) : isD d .non = .ok d.isN := nd rfl
@[simp] theorem nisD_non (d : D) : nisD d .non = .ok (!d.isN) := nd rfl
@[simp] theorem isD_bl (a b : Bool) : isD (.bl a) (.bl b) = .ok (decide (a = b)) := nd rfl
@[simp] theorem nisD_bl (a b : Bool) : nisD (.bl a) (.bl b) = .ok (!decide (a = b)) := by
  cases a <;> cases b <;> rfl
@[simp] theorem isN_non : D.isN .non = true := nd rfl
@[simp] theorem isN_int (i : Int) : D.isN (.int i) = false := nd rfl
@[simp] theorem isN_str (i : List Nat) : D.isN (.str i) = false := nd rfl
@[simp] theorem isN_lst (i : List D) : D.isN (.lst i) = false := nd rfl
@[simp] theorem isN_tup (i : List D) : D.isN (.tup i) = false := nd rfl
@[simp] theorem inD_str (c : Nat) (l : List Nat) : inD (.str [c]) (.str l) = .ok (decide (c ∈ l)) := nd rfl
@[simp] theorem ninD_str (c : Nat) (l : List Nat) : ninD (.str [c]) (.str l) = .ok (!decide (c ∈ l)) := nd rfl
@[simp] theorem isiD_non (T : String) : isiD T .non = .ok (.bl (isiB "NoneType" T)) := nd rfl
@[simp] theorem isiD_bl (T : String) (b : Bool) : isiD T (.bl b) = .ok (.bl (isiB "bool" T)) := nd rfl
@[simp] theorem isiD_int (T : String) (b : Int) : isiD T (.int b) = .ok (.bl (isiB "int" T)) := nd rfl
@[simp] theorem isiD_str (T : String) (b : List Nat) : isiD T (.str b) = .ok (.bl (isiB "str" T)) := nd rfl
@[simp] theorem isiD_lst (T : String) (b : List D) : isiD T (.lst b) = .ok (.bl (isiB "list" T)) := nd rfl
@[simp] theorem isiD_tup (T : String) (b : List D) : isiD T (.tup b) = .ok (.bl (isiB "tuple" T)) := nd rfl
@[simp] theorem isiB_str : isiB "str" "str" = true := by decide
@[simp] theorem isiB_tup : isiB "tuple" "tuple" = true := by decide
@[simp] theorem isiB_int : isiB "int" "int" = true := by decide
@[simp] theorem isiB_ib : isiB "int" "bool" = false := by decide
@[simp] theorem isiB_lst : isiB "list" "list" = true := by decide
@[simp] theorem isiB_lt : isiB "list" "tuple" = false := by decide
/-! built-in functions -/
@[simp] theorem lenD_str (l : List Nat) : lenD [.str l] = .ok (.int l.length) := nd rfl
@[simp] theorem lenD_lst (l : List D) : lenD [.lst l] = .ok (.int l.length) := nd rfl
@[simp] theorem lenD_tup (l : List D) : lenD [.tup l] = .ok (.int l.length) := nd rfl
@[simp] theorem intD_int (i : Int) : intD [.int i] = .ok (.int i) := nd rfl
@[simp] theorem listD_lst (l : List D) : listD [.lst l] = .ok (.lst l) := nd rfl
@[simp] theorem listD_tup (l : List D) : listD [.tup l] = .ok (.lst l) := nd rfl
@[simp] theorem tupleD_lst (l : List D) : tupleD [.lst l] = .ok (.tup l) := nd rfl
@[simp] theorem tupleD_tup (l : List D) : tupleD [.tup l] = .ok (.tup l) := nd rfl
@[simp] theorem max2D_e (i j : Int) : max2D [.int i, .int j] = .ok (.int (if j > i then j else i)) := nd rfl
@[simp] theorem min2D_e (i j : Int) : min2D [.int i, .int j] = .ok (.int (if j < i then j else i)) := nd rfl
@[simp] theorem tyD_str (l : List Nat) : tyD "str" (.str l) = true := nd rfl
@[simp] theorem sliceD_lst (ds : List D) (l h : Option Int) : sliceD (.lst ds) l h = .ok (.lst (cutL ds l h)) := nd rfl
@[simp] theorem sliceD_tup (ds : List D) (l h : Option Int) : sliceD (.tup ds) l h = .ok (.tup (cutL ds l h)) := nd rfl
@[simp] theorem sliceD_str (ds : List Nat) (l h : Option Int) : sliceD (.str ds) l h = .ok (.str (cutL ds l h)) := nd rfl
@[simp] theorem sliceLD_lst (ds : List D) (l h : Option Int) : sliceLD (.lst ds) l h = .ok (.lst (cutL ds l h)) := nd rfl
@[simp] theorem repD_e (a : List D) (k : Nat) (h : a.length * k ≤ 16777216) (hk : k < 2 ^ 62) : repD (.lst a) (.int k) = .ok (.lst (List.replicate k a).flatten) := by
  show (if a.length * (k : Int).toNat ≤ sizeLine ∧ -(2 ^ 63) ≤ (k : Int) ∧ (k : Int) < 2 ^ 63 then R.ok (D.lst (List.replicate (k : Int).toNat a).flatten) else .bad) = _
  rw [sizeLine_k, if_pos ⟨by simpa using h, by omega, by omega⟩]
  simp
/-! ranges -/
theorem r1D_nat (n : Nat) (h : n < 2 ^ 62) : r1D [.int n] = .ok ((List.range n).map fun (k : Nat) => .int (k : Int)) := by
  show (if r62 (n : Int) = true then R.ok ((List.range (n : Int).toNat).map fun (k : Nat) => D.int ((0 : Int) + k)) else .bad) = _
  rw [if_pos (by unfold r62; simp; omega)]
  simp
theorem r2D_nat (m n : Nat) (hm : m < 2 ^ 62) (h : n < 2 ^ 62) : r2D [.int m, .int n] = .ok ((List.range (n - m)).map fun (k : Nat) => .int ((m : Int) + k)) := by
  show (if r62 (m : Int) = true ∧ r62 (n : Int) = true then R.ok ((List.range ((n : Int) - m).toNat).map fun (k : Nat) => D.int ((m : Int) + k)) else .bad) = _
  rw [if_pos ⟨by unfold r62; simp; omega, by unfold r62; simp; omega⟩]
  rw [show ((n : Int) - m).toNat = n - m by omega]
/-! places -/
theorem atI_nat {α : Type} (xs : List α) (i : Nat) : atI xs (i : Int) = xs[i]? := by
  unfold atI ixN
  by_cases h : (i : Int) < xs.length
  · rw [if_pos (by omega), if_pos h]; simp
  · rw [if_pos (by omega), if_neg h]
    rw [List.getElem?_eq_none (by omega)]; rfl
def optR {α : Type} : Option α → R α
  | some a => .ok a
  | none => .bad
@[simp] theorem optR_some {α : Type} (a : α) : optR (some a) = .ok a := nd rfl
theorem getD_lst (ds : List D) (i : Nat) : getD (.lst ds) (.int i) = optR ds[i]? := by
  show (match atI ds (i : Int) with | some d => R.ok d | none => .bad) = _
  rw [atI_nat]; cases ds[i]? <;> rfl
theorem getD_tup (ds : List D) (i : Nat) : getD (.tup ds) (.int i) = optR ds[i]? := by
  show (match atI ds (i : Int) with | some d => R.ok d | none => .bad) = _
  rw [atI_nat]; cases ds[i]? <;> rfl
theorem getD_str (l : List Nat) (i : Nat) : getD (.str l) (.int i) = optR (l[i]?.map fun c => .str [c]) := by
  show (match atI l (i : Int) with | some c => R.ok (D.str [c]) | none => .bad) = _
  rw [atI_nat]
  cases l[i]? <;> rfl
@[simp] theorem getD_lst0 (ds : List D) : getD (.lst ds) (.int 0) = optR ds[0]? := getD_lst ds 0
@[simp] theorem getD_lst1 (ds : List D) : getD (.lst ds) (.int 1) = optR ds[1]? := getD_lst ds 1
@[simp] theorem getD_tup0 (ds : List D) : getD (.tup ds) (.int 0) = optR ds[0]? := getD_tup ds 0
@[simp] theorem getD_tup1 (ds : List D) : getD (.tup ds) (.int 1) = optR ds[1]? := getD_tup ds 1
/-! statements -/
def SO.seq (o : SO) (g : En → SO) : SO := match o with
  | .nx ρ' => g ρ'
  | o => o
@[simp] theorem seq_nx (ρ : En) (g : En → SO) : (SO.nx ρ).seq g = g ρ := nd rfl
@[simp] theorem seq_rt (d : D) (g : En → SO) : (SO.rt d).seq g = .rt d := nd rfl
@[simp] theorem seq_bk (d : En) (g : En → SO) : (SO.bk d).seq g = .bk d := nd rfl
@[simp] theorem seq_ct (d : En) (g : En → SO) : (SO.ct d).seq g = .ct d := nd rfl
@[simp] theorem seq_ite (c : Prop) [Decidable c] (a b : SO) (g : En → SO) : (if c then a else b).seq g = if c then a.seq g else b.seq g := by split <;> rfl
@[simp] theorem sSeq_e (f g : En → SO) (ρ : En) : sSeq f g ρ = (f ρ).seq g := by
  unfold sSeq SO.seq
  cases f ρ <;> rfl
def R.so {α : Type} (r : R α) (k : α → En → SO) (ρ : En) : SO := match r with
  | .ok a => k a ρ
  | .ex x => .ex x ρ
  | .bad => .bad
@[simp] theorem so_ok {α : Type} (a : α) (k : α → En → SO) (ρ : En) : (R.ok a).so k ρ = k a ρ := nd rfl
@[simp] theorem sE_e {α : Type} (f : En → R α) (k : α → En → SO) (ρ : En) : sE f k ρ = (f ρ).so k ρ := nd rfl
@[simp] theorem sNil_e (ρ : En) : sNil ρ = .nx ρ := nd rfl
@[simp] theorem sBk_e (ρ : En) : sBk ρ = .bk ρ := nd rfl
@[simp] theorem sCt_e (ρ : En) : sCt ρ = .ct ρ := nd rfl
@[simp] theorem sRtN_e (ρ : En) : sRtN ρ = .rt .non := nd rfl
@[simp] theorem sRt_e (f : En → R D) (ρ : En) : sRt f ρ = (f ρ).so (fun d _ => .rt d) ρ := nd rfl
@[simp] theorem sSet_e (i : Nat) (f : En → R D) (ρ : En) : sSet i f ρ = (f ρ).so (fun d ρ => .nx (ρ.set i (some d))) ρ := nd rfl
@[simp] theorem sIf_e (c : En → R Bool) (f g : En → SO) (ρ : En) : sIf c f g ρ = (c ρ).so (fun b ρ => if b = true then f ρ else g ρ) ρ := nd rfl
@[simp] theorem sFor_e (fi : En → R (List D)) (g : D → En → Option En) (fb : En → SO) (ρ : En) : sFor fi g fb ρ = (fi ρ).so (fun ds ρ => forGo g fb ds ρ) ρ := nd rfl
def getL : Option (Option D) → R (List D)
  | some (some (.lst ds)) => .ok ds
  | _ => .bad
@[simp] theorem getL_e (ds : List D) : getL (some (some (.lst ds))) = .ok ds := nd rfl
@[simp] theorem ownL_e (i : Nat) (ρ : En) : ownL i ρ = getL ρ[i]? := nd rfl
@[simp] theorem sM1_e (i : Nat) (g : List D → D → R (List D)) (f : En → R D) (ρ : En) : sM1 i g f ρ = (getL ρ[i]?).so (fun ds ρ => (f ρ).so (fun d ρ => (g ds d).so (fun ds' ρ => .nx (ρ.set i (some (.lst ds')))) ρ) ρ) ρ := nd rfl
theorem appD_e (ds : List D) (d : D) (h : ds.length < 16777216) : appD ds d = .ok (ds ++ [d]) := by unfold appD; rw [sizeLine_k, if_pos h]
@[simp] theorem sIx_e (i : Nat) (fk fe : En → R D) (ρ : En) : sIx i fk fe ρ = (fe ρ).so (fun d ρ => (getL ρ[i]?).so (fun _ ρ => (fk ρ).so (fun k ρ => (getL ρ[i]?).so (fun ds ρ => (setLD ds k d).so (fun ds' ρ => .nx (ρ.set i (some (.lst ds')))) ρ) ρ) ρ) ρ) ρ := nd rfl
theorem setLD_nat (ds : List D) (i : Nat) (d : D) (h : i < ds.length) : setLD ds (.int i) d = .ok (ds.set i d) := by
  unfold setLD ixN
  simp only
  rw [if_pos (by omega), if_pos (by omega)]
  simp
def popO (i : Nat) (ds : List D) (ρ : En) (o : Option Nat) : R (D × En) := match o with
  | some j => match ds[j]? with
    | some d => .ok (d, ρ.set i (some (.lst (ds.eraseIdx j))))
    | none => .bad
  | none => .bad
def popAtK (i : Nat) (ds : List D) (ρ : En) : D → R (D × En)
  | .int k => popO i ds ρ (if -(2 ^ 63) ≤ k ∧ k < 2 ^ 63 then ixN ds.length k else none)
  | _ => .bad
theorem popAtK_int (i : Nat) (ds : List D) (ρ : En) (k : Int) : popAtK i ds ρ (.int k) = popO i ds ρ (if -(2 ^ 63) ≤ k ∧ k < 2 ^ 63 then ixN ds.length k else none) := nd rfl
theorem ixN_nat (n j : Nat) (h : j < n) : ixN n (j : Int) = some j := by
  unfold ixN
  rw [if_pos (by omega), if_pos (by omega), Int.toNat_natCast]
@[simp] theorem qPopAt_e (i : Nat) (fk : En → R D) (ρ : En) : qPopAt i fk ρ = (getL ρ[i]? >>= fun ds => fk ρ >>= popAtK i ds ρ) := by
  show (getL ρ[i]? >>= fun ds => fk ρ >>= _) = _
  congr 1
theorem popAtK_nat (i : Nat) (ds : List D) (ρ : En) (j : Nat) (h : j < ds.length) (hl : ds.length ≤ 16777216) : popAtK i ds ρ (.int j) = .ok (ds[j], ρ.set i (some (.lst (ds.eraseIdx j)))) := by
  rw [popAtK_int, if_pos ⟨by omega, by omega⟩, ixN_nat _ _ h]
  unfold popO
  simp [h]
def appZ (i : Nat) (z : D × En) : SO := (getL z.2[i]?).so (fun ds _ => if ds.length < 16777216 then .nx (z.2.set i (some (.lst (ds ++ [z.1])))) else .bad) z.2
theorem sAppQ_e (i : Nat) (f : En → R (D × En)) (ρ : En) (z : D × En) (ds : List D) (h0 : ρ[i]? = some (some (.lst ds))) (hf : f ρ = .ok z) (es : List D) (h1 : z.2[i]? = some (some (.lst es))) (hl : es.length < 16777216) : sAppQ i f ρ = .nx (z.2.set i (some (.lst (es ++ [z.1])))) := by
  unfold sAppQ sE
  simp only [ownL_e, h0, getL_e, hf, h1]
  rw [sizeLine_k, if_pos hl]
@[simp] theorem gV_e (i : Nat) (d : D) (ρ : En) : gV i d ρ = some (ρ.set i (some d)) := nd rfl
def SO.out : SO → R D
  | .rt d => .ok d
  | .nx _ => .ok .non
  | .ex x _ => .ex x
  | _ => .bad
@[simp] theorem out_rt (d : D) : (SO.rt d).out = .ok d := nd rfl
@[simp] theorem out_nx (ρ : En) : (SO.nx ρ).out = .ok .non := nd rfl
@[simp] theorem out_ite (c : Prop) [Decidable c] (a b : SO) : (if c then a else b).out = if c then a.out else b.out := by split <;> rfl
theorem fnB_e (n : Nat) (f : En → SO) (ds : List D) : fnB n f ds = (f (ds.map some ++ List.replicate n none)).out := rfl
/-! loops -/
def SO.run (o : SO) (N B : En → Prop) (Rt : D → Prop) : Prop := match o with
  | .nx ρ => N ρ
  | .ct ρ => N ρ
  | .bk ρ => B ρ
  | .rt d => Rt d
  | _ => False
@[simp] theorem run_nx (ρ : En) (N B : En → Prop) (Rt : D → Prop) : (SO.nx ρ).run N B Rt = N ρ := nd rfl
@[simp] theorem run_ct (ρ : En) (N B : En → Prop) (Rt : D → Prop) : (SO.ct ρ).run N B Rt = N ρ := nd rfl
@[simp] theorem run_bk (ρ : En) (N B : En → Prop) (Rt : D → Prop) : (SO.bk ρ).run N B Rt = B ρ := nd rfl
@[simp] theorem run_rt (d : D) (N B : En → Prop) (Rt : D → Prop) : (SO.rt d).run N B Rt = Rt d := nd rfl
@[simp] theorem run_ite (c : Prop) [Decidable c] (a b : SO) (N B : En → Prop) (Rt : D → Prop) : (if c then a else b).run N B Rt = if c then a.run N B Rt else b.run N B Rt := by split <;> rfl
theorem for_any {g : D → En → Option En} {fb : En → SO} (I : Nat → En → Prop) (B : En → Prop) (Rt : D → Prop) : ∀ (ds : List D) (k : Nat) (ρ : En), I k ρ → (∀ i d ρ, ds[i]? = some d → I (k + i) ρ → ∃ ρ1, g d ρ = some ρ1 ∧ (fb ρ1).run (I (k + i + 1)) B Rt) →
    (∃ ρ', forGo g fb ds ρ = .nx ρ' ∧ (I (k + ds.length) ρ' ∨ B ρ')) ∨ ∃ v, forGo g fb ds ρ = .rt v ∧ Rt v
  | [], k, ρ, h0, _ => .inl ⟨ρ, rfl, .inl h0⟩
  | d :: ds, k, ρ, h0, hs => by
    obtain ⟨ρ1, e1, h⟩ := hs 0 d ρ rfl h0
    have next : ∀ ρ2, I (k + 1) ρ2 → (∃ ρ', forGo g fb ds ρ2 = .nx ρ' ∧ (I (k + (d :: ds).length) ρ' ∨ B ρ')) ∨ ∃ v, forGo g fb ds ρ2 = .rt v ∧ Rt v := fun ρ2 h1 => by
      have := for_any I B Rt ds (k + 1) ρ2 h1 fun i d ρ e h => by
        have := hs (i + 1) d ρ (by simpa using e) (by rw [show k + (i + 1) = k + 1 + i by omega]; exact h)
        rw [show k + (i + 1) + 1 = k + 1 + i + 1 by omega] at this
        exact this
      rw [List.length_cons, show k + (ds.length + 1) = k + 1 + ds.length by omega]
      exact this
    rw [forGo.eq_2, e1]
    simp only
    cases hf : fb ρ1 with
    | nx ρ2 => rw [hf] at h; exact next ρ2 h
    | ct ρ2 => rw [hf] at h; exact next ρ2 h
    | bk ρ2 => rw [hf] at h; exact .inl ⟨ρ2, rfl, .inr h⟩
    | rt v => rw [hf] at h; exact .inr ⟨v, rfl, h⟩
    | ex x ρ2 => rw [hf] at h; exact h.elim
    | bad => rw [hf] at h; exact h.elim
theorem for_inv {g : D → En → Option En} {fb : En → SO} (I : Nat → En → Prop) (ds : List D) (ρ : En) (h0 : I 0 ρ) (hs : ∀ i d ρ, ds[i]? = some d → I i ρ → ∃ ρ1, g d ρ = some ρ1 ∧ (fb ρ1).run (I (i + 1)) (fun _ => False) (fun _ => False)) :
    ∃ ρ', forGo g fb ds ρ = .nx ρ' ∧ I ds.length ρ' := by
  rcases for_any I (fun _ => False) (fun _ => False) ds 0 ρ h0 (fun i d ρ e h => by rw [Nat.zero_add] at h ⊢; exact hs i d ρ e h) with ⟨ρ', e, h⟩ | ⟨v, _, h⟩
  · rcases h with h | h
    · rw [Nat.zero_add] at h; exact ⟨ρ', e, h⟩
    · exact h.elim
  · exact h.elim
/-! weakest conditions of statements -/
def SO.w (o : SO) (N C B : En → Prop) (Rt : D → Prop) : Prop := match o with
  | .nx ρ => N ρ
  | .ct ρ => C ρ
  | .bk ρ => B ρ
  | .rt d => Rt d
  | _ => False
section
variable {N C B : En → Prop} {Rt : D → Prop}
@[simp] theorem w_nx (ρ : En) : (SO.nx ρ).w N C B Rt = N ρ := nd rfl
@[simp] theorem w_ct (ρ : En) : (SO.ct ρ).w N C B Rt = C ρ := nd rfl
@[simp] theorem w_bk (ρ : En) : (SO.bk ρ).w N C B Rt = B ρ := nd rfl
@[simp] theorem w_rt (d : D) : (SO.rt d).w N C B Rt = Rt d := nd rfl
theorem run_w (o : SO) : o.run N B Rt = o.w N N B Rt := by cases o <;> rfl
theorem seq_w (o : SO) (g : En → SO) : (o.seq g).w N C B Rt = o.w (fun ρ => (g ρ).w N C B Rt) C B Rt := by cases o <;> rfl
theorem w_seq {f g : En → SO} {ρ : En} (h : (f ρ).w (fun ρ => (g ρ).w N C B Rt) C B Rt) : (sSeq f g ρ).w N C B Rt := by
  rw [sSeq_e, seq_w]; exact h
theorem w_if {c : En → R Bool} {f g : En → SO} {ρ : En} {b : Bool} (h : c ρ = .ok b) (ht : b = true → (f ρ).w N C B Rt) (hf : b = false → (g ρ).w N C B Rt) : (sIf c f g ρ).w N C B Rt := by
  rw [sIf_e, h, so_ok]
  cases b
  · exact hf rfl
  · exact ht rfl
theorem w_set {i : Nat} {f : En → R D} {ρ : En} {d : D} (h : f ρ = .ok d) (hn : N (ρ.set i (some d))) : (sSet i f ρ).w N C B Rt := by
  rw [sSet_e, h, so_ok]; exact hn
theorem w_nil {ρ : En} (h : N ρ) : (sNil ρ).w N C B Rt := h
theorem w_ret {f : En → R D} {ρ : En} {d : D} (h : f ρ = .ok d) (hn : Rt d) : (sRt f ρ).w N C B Rt := by
  rw [sRt_e, h, so_ok]; exact hn
theorem w_app {i : Nat} {f : En → R D} {ρ : En} {d : D} {ds : List D} (h : f ρ = .ok d) (e : ρ[i]? = some (some (.lst ds))) (hl : ds.length < 16777216) (hn : N (ρ.set i (some (.lst (ds ++ [d]))))) : (sM1 i appD f ρ).w N C B Rt := by
  rw [sM1_e, e, getL_e, so_ok, h, so_ok, appD_e _ _ hl, so_ok]; exact hn
theorem w_six {i : Nat} {fk fe : En → R D} {ρ : En} {d : D} {j : Nat} {ds : List D} (hd : fe ρ = .ok d) (hk : fk ρ = .ok (.int (j : Int))) (e : ρ[i]? = some (some (.lst ds))) (h : j < ds.length) (hn : N (ρ.set i (some (.lst (ds.set j d))))) : (sIx i fk fe ρ).w N C B Rt := by
  rw [sIx_e, hd, so_ok, e, getL_e, so_ok, hk, so_ok, e, getL_e, so_ok, setLD_nat _ _ _ h, so_ok]; exact hn
theorem w_for {fi : En → R (List D)} {g : D → En → Option En} {fb : En → SO} {ρ : En} {ds : List D} (h : fi ρ = .ok ds) (I : Nat → En → Prop) (h0 : I 0 ρ) (hs : ∀ i d ρ, ds[i]? = some d → I i ρ → ∃ ρ1, g d ρ = some ρ1 ∧ (fb ρ1).w (I (i + 1)) (I (i + 1)) N Rt) (hn : ∀ ρ, I ds.length ρ → N ρ) : (sFor fi g fb ρ).w N C B Rt := by
  rw [sFor_e, h, so_ok]
  rcases for_any I N Rt ds 0 ρ h0 (fun i d ρ e hI => by
    rw [Nat.zero_add] at hI ⊢
    obtain ⟨ρ1, e1, e2⟩ := hs i d ρ e hI
    exact ⟨ρ1, e1, by rw [run_w]; exact e2⟩) with ⟨ρ', e, hI⟩ | ⟨v, e, hv⟩
  · rw [e]
    rcases hI with hI | hI
    · rw [Nat.zero_add] at hI; exact hn _ hI
    · exact hI
  · rw [e]; exact hv
theorem bAnd_ok {f g : En → R Bool} {ρ : En} {a b : Bool} (h : f ρ = .ok a) (k : g ρ = .ok b) : bAnd f g ρ = .ok (a && b) := by
  rw [bAnd_e, h]; cases a
  · rfl
  · exact k
theorem bOr_ok {f g : En → R Bool} {ρ : En} {a b : Bool} (h : f ρ = .ok a) (k : g ρ = .ok b) : bOr f g ρ = .ok (a || b) := by
  rw [bOr_e, h]; cases a
  · exact k
  · rfl
/-- a def's outcome from its body's -/
theorem w_out {o : SO} {P : D → Prop} (h : o.w (fun _ => P .non) (fun _ => False) (fun _ => False) P) : ∃ d, o.out = .ok d ∧ P d := by
  cases o with
  | nx ρ => exact ⟨_, rfl, h⟩
  | rt d => exact ⟨_, rfl, h⟩
  | _ => exact h.elim
end
theorem range_item {n i : Nat} {f : Nat → D} {d : D} (h : ((List.range n).map f)[i]? = some d) : i < n ∧ d = f i := by
  rw [List.getElem?_map] at h
  obtain ⟨j, ej, rfl⟩ := Option.map_eq_some_iff.mp h
  obtain ⟨hlt, ej⟩ := List.getElem?_eq_some_iff.mp ej
  rw [List.length_range] at hlt
  have ej : j = i := by simpa using ej.symm
  exact ⟨hlt, by rw [ej]⟩
/-! comprehensions -/
theorem lc_map {α : Type} {vs : List Nat} {fi : En → R (List D)} {g : D → En → Option En} {ft : En → R Bool} {fe : En → R D} {ρ : En} (xs : List α) (e : α → D) (t : α → Bool) (h : α → D) (hi : fi ρ = .ok (xs.map e)) (hl : xs.length ≤ 16777216)
    (hs : ∀ x ∈ xs, ∃ ρ1, g (e x) (wipeE ρ vs) = some ρ1 ∧ ft ρ1 = .ok (t x) ∧ (t x = true → fe ρ1 = .ok (h x))) : fLc vs fi g ft fe ρ = .ok (.lst ((xs.filter t).map h)) := by
  have go : ∀ ys : List α, (∀ x ∈ ys, x ∈ xs) → cGo g ft fe (wipeE ρ vs) (ys.map e) = .ok ((ys.filter t).map h) := by
    intro ys
    induction ys with
    | nil => intro _; rfl
    | cons y ys ih =>
      intro hy
      obtain ⟨ρ1, e1, e2, e3⟩ := hs y (hy y List.mem_cons_self)
      have ih := ih fun x hx => hy x (List.mem_cons_of_mem _ hx)
      rw [List.map_cons]
      unfold cGo
      rw [e1]
      simp only [e2, R.nx, R.bind_ok]
      cases ht : t y with
      | true =>
        rw [ht] at e3
        simp only [if_true, e3 rfl, R.bind_ok, ih, List.filter_cons, ht, List.map_cons]
      | false => simp only [ih, List.filter_cons, ht, Bool.false_eq_true, if_false]
  unfold fLc
  rw [hi]
  simp only [R.bind_ok, List.length_map]
  rw [sizeLine_k, if_pos hl, go xs fun _ h => h]
  rfl
theorem lc_all {α : Type} {vs : List Nat} {fi : En → R (List D)} {g : D → En → Option En} {fe : En → R D} {ρ : En} (xs : List α) (e : α → D) (h : α → D) (hi : fi ρ = .ok (xs.map e)) (hl : xs.length ≤ 16777216)
    (hs : ∀ x ∈ xs, ∃ ρ1, g (e x) (wipeE ρ vs) = some ρ1 ∧ fe ρ1 = .ok (h x)) : fLc vs fi g bYes fe ρ = .ok (.lst (xs.map h)) := by
  rw [lc_map xs e (fun _ => true) h hi hl fun x hx => by
    obtain ⟨ρ1, a, b⟩ := hs x hx
    exact ⟨ρ1, a, rfl, fun _ => b⟩]
  rw [List.filter_eq_self.mpr fun _ _ => rfl]
/-! texts of single signs joined -/
theorem strsD_map (ls : List (List Nat)) : strsD (ls.map D.str) = some ls := by
  induction ls with
  | nil => rfl
  | cons l ls ih => show (strsD (ls.map D.str)).map _ = _; rw [ih]; rfl
theorem joinL_nil (ls : List (List Nat)) : joinL [] ls = ls.flatten := by
  induction ls with
  | nil => rfl
  | cons l ls ih =>
    cases ls with
    | nil => simp [joinL]
    | cons m ms => rw [joinL]; rw [ih]; simp; intro h; cases h
theorem joinD_ch (l : List Nat) (h : l.length ≤ 16777216) : joinD (.str []) [.lst (l.map fun c => .str [c])] = .ok (.str l) := by
  have e : (l.map fun c => D.str [c]) = (l.map fun c => [c]).map D.str := by rw [List.map_map]; rfl
  unfold joinD
  simp only
  rw [e, strsD_map]
  simp only
  have e2 : ((l.map fun c => [c]).map List.length).sum = l.length := by
    induction l with
    | nil => rfl
    | cons c l ih =>
      rw [List.map_cons, List.map_cons, List.sum_cons, ih (by simp at h; omega) (by simp [Function.comp_def])]
      simp; omega
  rw [e2, sizeLine_k, if_pos (by simpa using h), joinL_nil]
  have e3 : (l.map fun c => [c]).flatten = l := by
    clear e e2 h
    induction l with
    | nil => rfl
    | cons c l ih => rw [List.map_cons, List.flatten_cons, ih]; rfl
  rw [e3]
end Pv

namespace Pv
open PySem PySem.Spec PyProof.Rows L2
open L2 (upd)

/-! what many laws share: a cell, its digits, a turned list -/
def bCell : En → SO := (sSeq (sIf (b2 ltD (fV 1) (fA lenD (lCons (fV 0) lNil))) (sRt (f2 getD (fV 0) (fV 1))) sNil) (sSeq (sSet 2 (fC (.int 17))) (sSeq (sFor (fIt (fV 0)) (gV 3) (sSet 2 (f2 modD (fA intD (lCons (f2 addD (f2 mulD (fV 2) (fC (.int 31))) (f2 modD (fA intD (lCons (fV 3) lNil)) (fC (.int 1000003)))) lNil)) (fC (.int 1000003))))) (sRt (f2 modD (fA intD (lCons (f2 mulD (f2 mulD (f2 addD (fV 2) (fC (.int 7))) (f2 addD (fV 1) (fC (.int 3)))) (fC (.int 69621))) lNil)) (fC (.int 2147483647)))))))
theorem cell_ok (ns : List Int) (k : Nat) (hk : k ≤ 1000) : ∃ z : Int, fnB 2 bCell [.lst (ns.map D.int), .int k] = .ok (.int z) := by
  unfold bCell
  rw [fnB_e]
  by_cases h : k < ns.length
  · refine ⟨ns[k], ?_⟩
    simp [h, getD_lst]
  · obtain ⟨ρ', e1, h1⟩ := for_inv (g := gV 3) (fb := sSet 2 (f2 modD (fA intD (lCons (f2 addD (f2 mulD (fV 2) (fC (.int 31))) (f2 modD (fA intD (lCons (fV 3) lNil)) (fC (.int 1000003)))) lNil)) (fC (.int 1000003))))
      (fun _ ρ => ∃ s : Int, 0 ≤ s ∧ s < 1000003 ∧ ∃ x, ρ = [some (.lst (ns.map D.int)), some (.int k), some (.int s), x]) (ns.map D.int) [some (.lst (ns.map D.int)), some (.int k), some (.int 17), none] ⟨17, by decide, by decide, none, rfl⟩ (by
      rintro i d ρ hd ⟨s, h0, h1, x, rfl⟩
      obtain ⟨n, hn, rfl⟩ := List.mem_map.mp (List.mem_of_getElem? hd)
      refine ⟨_, rfl, ?_⟩
      simp [mulD_int s 31 (.inr (by omega))]
      omega)
    obtain ⟨s, h0, h2, x, rfl⟩ := h1
    refine ⟨((s + 7) * (k + 3) * 69621) % 2147483647, ?_⟩
    simp [h, e1, mulD_int (s + 7) (k + 3) (.inl (by omega)), mulD_int _ 69621 (.inr (by omega))]
/-- each digit below its size -/
def Fits (row sizes : List Int) : Prop := ∀ (j : Nat) (v s : Int), row[j]? = some v → sizes[j]? = some s → 0 ≤ v ∧ v < s
theorem fits_nil (sizes : List Int) : Fits [] sizes := fun j v s h => by simp at h
theorem fits_snoc {row sizes : List Int} {v s : Int} (h : Fits row sizes) (e : sizes[row.length]? = some s) (h0 : 0 ≤ v) (h1 : v < s) : Fits (row ++ [v]) sizes := fun j w t e1 e2 => by
  by_cases hj : j < row.length
  · rw [List.getElem?_append_left hj] at e1; exact h j w t e1 e2
  · rw [List.getElem?_append_right (by omega)] at e1
    have : j = row.length := by
      have := (List.getElem?_eq_some_iff.mp e1).1
      simp at this; omega
    subst this
    rw [e] at e2
    simp at e1 e2
    omega
def bDigits : En → SO := (sSeq (sSet 2 (fLst lNil)) (sSeq (sSet 3 (fA intD (lCons (fV 0) lNil))) (sSeq (sIf (b2 geD (fV 3) (f2 powD (fC (.int 10)) (fC (.int 18)))) (sSeq (sSet 3 (f2 subD (fV 3) (f2 powD (fC (.int 10)) (fC (.int 18))))) (sSeq (sFor (fIt (fV 1)) (gV 4) (sSeq (sM1 2 appD (f2 modD (fA intD (lCons (fV 3) lNil)) (fV 4))) (sSet 3 (f2 fdivD (fA intD (lCons (fV 3) lNil)) (fV 4))))) (sRt (fV 2)))) sNil) (sSeq (sSet 5 (f2 modD (fA intD (lCons (fV 3) lNil)) (fC (.int 2147483629)))) (sSeq (sFor (fRg r1D (lCons (fA lenD (lCons (fV 1) lNil)) lNil)) (gV 6) (sSeq (sSet 5 (f2 modD (fA intD (lCons (f2 addD (f2 addD (f2 mulD (fV 5) (fC (.int 48271))) (f2 mulD (fC (.int 974711)) (fV 6))) (fC (.int 12345))) lNil)) (fC (.int 2147483647)))) (sSeq (sSet 7 (f2 modD (fA intD (lCons (f2 mulD (fV 5) (f2 addD (f2 fdivD (fV 5) (fC (.int 65537))) (fC (.int 3)))) lNil)) (fC (.int 2147483629)))) (sM1 2 appD (f2 modD (f2 fdivD (fA intD (lCons (fV 7) lNil)) (fC (.int 19))) (f2 getD (fV 1) (fV 6))))))) (sRt (fV 2)))))))
def big18 : Int := 1000000000000000000
theorem pow18 : powD (.int 10) (.int 18) = .ok (.int big18) := by
  show (if (0 : Int) ≤ 18 ∧ (18 : Int) ≤ 1000000 ∧ (10 : Int).natAbs < 2 ^ 64 then R.ok (D.int ((10 : Int) ^ (18 : Int).toNat)) else .bad) = _
  rw [if_pos (by decide)]
  rfl
theorem digits_a (cell : Int) (sizes : List Int) (hs : ∀ s ∈ sizes, 0 < s ∧ s < 1073741824) (hl : sizes.length ≤ 1000000) (h : big18 ≤ cell) :
    ∃ row : List Int, fnB 6 bDigits [.int cell, .lst (sizes.map D.int)] = .ok (.lst (row.map D.int)) ∧ row.length = sizes.length ∧ Fits row sizes := by
  unfold bDigits
  rw [fnB_e]
  · obtain ⟨ρ', e1, h1⟩ := for_inv (g := gV 4) (fb := (sSeq (sM1 2 appD (f2 modD (fA intD (lCons (fV 3) lNil)) (fV 4))) (sSet 3 (f2 fdivD (fA intD (lCons (fV 3) lNil)) (fV 4)))))
      (fun i ρ => ∃ (row : List Int) (r : Int) (x : Option D), row.length = i ∧ Fits row sizes ∧ ρ = [some (.int cell), some (.lst (sizes.map D.int)), some (.lst (row.map D.int)), some (.int r), x, none, none, none]) (sizes.map D.int)
      [some (.int cell), some (.lst (sizes.map D.int)), some (.lst []), some (.int (cell - big18)), none, none, none, none] ⟨[], _, none, rfl, fits_nil _, rfl⟩ (by
      rintro i d ρ hd ⟨row, r, x, hi, hf, rfl⟩
      rw [List.getElem?_map] at hd
      obtain ⟨s, es, rfl⟩ := Option.map_eq_some_iff.mp hd
      have hz := hs s (List.mem_of_getElem? es)
      have hlt := (List.getElem?_eq_some_iff.mp es).1
      refine ⟨_, rfl, ?_⟩
      simp [hz.1, hz.2, appD_e _ _ (show (row.map D.int).length < 16777216 by rw [List.length_map]; omega)]
      exact ⟨row ++ [r % s], by simp [hi], fits_snoc hf (by rw [hi]; exact es) (Int.emod_nonneg _ (by omega)) (Int.emod_lt_of_pos _ hz.1), by simp⟩)
    obtain ⟨row, r, x, hr, hf, rfl⟩ := h1
    rw [List.length_map] at hr
    refine ⟨row, ?_, hr, hf⟩
    simp [h, e1, pow18]
theorem digits_b (cell : Int) (sizes : List Int) (hs : ∀ s ∈ sizes, 0 < s ∧ s < 1073741824) (hl : sizes.length ≤ 1000000) (h : ¬big18 ≤ cell) :
    ∃ row : List Int, fnB 6 bDigits [.int cell, .lst (sizes.map D.int)] = .ok (.lst (row.map D.int)) ∧ row.length = sizes.length ∧ Fits row sizes := by
  unfold bDigits
  rw [fnB_e]
  · obtain ⟨ρ', e1, h1⟩ := for_inv (g := gV 6) (fb := (sSeq (sSet 5 (f2 modD (fA intD (lCons (f2 addD (f2 addD (f2 mulD (fV 5) (fC (.int 48271))) (f2 mulD (fC (.int 974711)) (fV 6))) (fC (.int 12345))) lNil)) (fC (.int 2147483647)))) (sSeq (sSet 7 (f2 modD (fA intD (lCons (f2 mulD (fV 5) (f2 addD (f2 fdivD (fV 5) (fC (.int 65537))) (fC (.int 3)))) lNil)) (fC (.int 2147483629)))) (sM1 2 appD (f2 modD (f2 fdivD (fA intD (lCons (fV 7) lNil)) (fC (.int 19))) (f2 getD (fV 1) (fV 6)))))))
      (fun i ρ => ∃ (row : List Int) (r : Int) (x y : Option D), row.length = i ∧ Fits row sizes ∧ 0 ≤ r ∧ r < 2147483647 ∧ ρ = [some (.int cell), some (.lst (sizes.map D.int)), some (.lst (row.map D.int)), some (.int cell), none, some (.int r), x, y]) ((List.range sizes.length).map fun (k : Nat) => .int (k : Int))
      [some (.int cell), some (.lst (sizes.map D.int)), some (.lst []), some (.int cell), none, some (.int (cell % 2147483629)), none, none] ⟨[], _, none, none, rfl, fits_nil _, by omega, by omega, rfl⟩ (by
      rintro i d ρ hd ⟨row, r, x, y, hi, hf, h0, h1, rfl⟩
      rw [List.getElem?_map] at hd
      obtain ⟨j, ej, rfl⟩ := Option.map_eq_some_iff.mp hd
      obtain ⟨hlt, ej⟩ := List.getElem?_eq_some_iff.mp ej
      rw [List.length_range] at hlt
      have ej : j = i := by simpa using ej.symm
      subst ej
      have es : sizes[j]? = some sizes[j] := List.getElem?_eq_getElem hlt
      have hz := hs sizes[j] (List.getElem_mem hlt)
      refine ⟨_, rfl, ?_⟩
      have m1 : mulD (.int r) (.int 48271) = .ok (.int (r * 48271)) := mulD_int _ _ (.inr ⟨by omega, by omega⟩)
      have m2 : mulD (.int 974711) (.int (j : Int)) = .ok (.int (974711 * (j : Int))) := mulD_int _ _ (.inl ⟨by omega, by omega⟩)
      obtain ⟨R, hR⟩ : ∃ R, R = (r * 48271 + 974711 * (j : Int) + 12345) % 2147483647 := ⟨_, rfl⟩
      have b0 : 0 ≤ R := by rw [hR]; exact Int.emod_nonneg _ (by decide)
      have b1 : R < 2147483647 := by rw [hR]; exact Int.emod_lt_of_pos _ (by decide)
      have m3 : mulD (.int R) (.int (R / 65537 + 3)) = .ok (.int (R * (R / 65537 + 3))) := mulD_int _ _ (.inl ⟨by omega, by omega⟩)
      have ap := appD_e (row.map D.int) (.int (R * (R / 65537 + 3) % 2147483629 / 19 % sizes[j])) (show (row.map D.int).length < 16777216 by rw [List.length_map]; omega)
      have gd : getD (.lst (sizes.map D.int)) (.int (j : Int)) = .ok (.int sizes[j]) := by rw [getD_lst, List.getElem?_map, es]; rfl
      simp [m1, m2, ← hR, m3, ap, gd, hz.1]
      exact ⟨row ++ [R * (R / 65537 + 3) % 2147483629 / 19 % sizes[j]], by simp [hi], fits_snoc hf (by rw [hi]; exact es) (Int.emod_nonneg _ (by omega)) (Int.emod_lt_of_pos _ hz.1), R, b0, b1, by simp, rfl⟩)
    obtain ⟨row, r, x, y, hr, hf, _, _, rfl⟩ := h1
    rw [List.length_map, List.length_range] at hr
    refine ⟨row, ?_, hr, hf⟩
    simp [h, e1, pow18, r1D_nat sizes.length (by omega)]
theorem digits_ok (cell : Int) (sizes : List Int) (hs : ∀ s ∈ sizes, 0 < s ∧ s < 1073741824) (hl : sizes.length ≤ 1000000) :
    ∃ row : List Int, fnB 6 bDigits [.int cell, .lst (sizes.map D.int)] = .ok (.lst (row.map D.int)) ∧ row.length = sizes.length ∧ Fits row sizes := by
  by_cases h : big18 ≤ cell
  · exact digits_a cell sizes hs hl h
  · exact digits_b cell sizes hs hl h
/-! a list turned -/
theorem pick_perm {α : Type} : ∀ (l : List α) (m : Nat) (h : m < l.length), (l[m] :: l.eraseIdx m).Perm l
  | [], _, h => absurd h (Nat.not_lt_zero _)
  | x :: l, 0, _ => List.Perm.refl _
  | x :: l, m + 1, h => by
    have hm : m < l.length := by simpa using h
    have ih := pick_perm l m hm
    show (l[m] :: x :: l.eraseIdx m).Perm (x :: l)
    exact (List.Perm.swap x _ _).trans (ih.cons x)
def bTurned : En → SO := (sSeq (sSet 2 (fA listD (lCons (fV 0) lNil))) (sSeq (sSet 3 (fLst lNil)) (sSeq (sSet 4 (fA intD (lCons (fV 1) lNil))) (sSeq (sFor (fRg r1D (lCons (fA lenD (lCons (fV 0) lNil)) lNil)) (gV 5) (sSeq (sAppQ 3 (qPopAt 2 (f2 modD (fA intD (lCons (fV 4) lNil)) (fA lenD (lCons (fV 2) lNil))))) (sSet 4 (f2 fdivD (fA intD (lCons (fV 4) lNil)) (f2 addD (fA lenD (lCons (fV 2) lNil)) (fC (.int 1))))))) (sRt (fV 3))))))
theorem turned_ok (xs : List D) (n : Int) (hl : xs.length ≤ 1000000) : ∃ ys : List D, fnB 4 bTurned [.lst xs, .int n] = .ok (.lst ys) ∧ ys.Perm xs := by
  unfold bTurned
  rw [fnB_e]
  obtain ⟨ρ', e1, h1⟩ := for_inv (g := gV 5) (fb := (sSeq (sAppQ 3 (qPopAt 2 (f2 modD (fA intD (lCons (fV 4) lNil)) (fA lenD (lCons (fV 2) lNil))))) (sSet 4 (f2 fdivD (fA intD (lCons (fV 4) lNil)) (f2 addD (fA lenD (lCons (fV 2) lNil)) (fC (.int 1)))))))
      (fun i ρ => ∃ (rest found : List D) (left : Int) (x : Option D), found.length = i ∧ rest.length + i = xs.length ∧ (found ++ rest).Perm xs ∧ ρ = [some (.lst xs), some (.int n), some (.lst rest), some (.lst found), some (.int left), x]) ((List.range xs.length).map fun (k : Nat) => .int (k : Int))
      [some (.lst xs), some (.int n), some (.lst xs), some (.lst []), some (.int n), none] ⟨xs, [], n, none, rfl, by simp, by simp, rfl⟩ (by
      rintro i d ρ hd ⟨rest, found, left, x, hi, hr, hp, rfl⟩
      rw [List.getElem?_map] at hd
      obtain ⟨j, ej, rfl⟩ := Option.map_eq_some_iff.mp hd
      obtain ⟨hlt, ej⟩ := List.getElem?_eq_some_iff.mp ej
      rw [List.length_range] at hlt
      have ej : j = i := by simpa using ej.symm
      subst ej
      refine ⟨_, rfl, ?_⟩
      have pos : 0 < (rest.length : Int) := by omega
      obtain ⟨m, hm⟩ : ∃ m : Nat, left % (rest.length : Int) = (m : Int) := ⟨(left % (rest.length : Int)).toNat, by have := Int.emod_nonneg left (show (rest.length : Int) ≠ 0 by omega); omega⟩
      have hm1 : m < rest.length := by have := Int.emod_lt_of_pos left pos; omega
      have q : qPopAt 2 (f2 modD (fA intD (lCons (fV 4) lNil)) (fA lenD (lCons (fV 2) lNil))) ([some (.lst xs), some (.int n), some (.lst rest), some (.lst found), some (.int left), x].set 5 (some (.int (j : Int)))) =
          .ok (rest[m], [some (.lst xs), some (.int n), some (.lst (rest.eraseIdx m)), some (.lst found), some (.int left), some (.int (j : Int))]) := by
        have pk := popAtK_nat 2 rest [some (.lst xs), some (.int n), some (.lst rest), some (.lst found), some (.int left), some (.int (j : Int))] m hm1 (by omega)
        have pos' : 0 < rest.length := by omega
        simp [pos', hm, pk]
      rw [sSeq_e, sAppQ_e 3 _ _ _ found (by rfl) q found (by rfl) (by omega)]
      have hn : (0 : Int) < ((rest.eraseIdx m).length : Int) + 1 ∧ ((rest.eraseIdx m).length : Int) + 1 < 1073741824 := by
        rw [List.length_eraseIdx_of_lt hm1]; omega
      have st : sSet 4 (f2 fdivD (fA intD (lCons (fV 4) lNil)) (f2 addD (fA lenD (lCons (fV 2) lNil)) (fC (.int 1)))) [some (.lst xs), some (.int n), some (.lst (rest.eraseIdx m)), some (.lst (found ++ [rest[m]])), some (.int left), some (.int (j : Int))] =
          .nx [some (.lst xs), some (.int n), some (.lst (rest.eraseIdx m)), some (.lst (found ++ [rest[m]])), some (.int (left / (((rest.eraseIdx m).length : Int) + 1))), some (.int (j : Int))] := by
        simp [hn.1, hn.2]
      show SO.run (sSet 4 _ [some (.lst xs), some (.int n), some (.lst (rest.eraseIdx m)), some (.lst (found ++ [rest[m]])), some (.int left), some (.int (j : Int))]) _ _ _
      rw [st]
      refine ⟨rest.eraseIdx m, found ++ [rest[m]], _, _, by simp [hi], by rw [List.length_eraseIdx_of_lt hm1]; omega, ?_, rfl⟩
      refine List.Perm.trans ?_ hp
      rw [List.append_assoc]
      exact List.Perm.append_left _ (pick_perm rest m hm1))
  obtain ⟨rest, found, left, x, hi, hr, hp, rfl⟩ := h1
  rw [List.length_map, List.length_range] at hi hr
  have : rest = [] := List.eq_nil_of_length_eq_zero (by omega)
  subst this
  refine ⟨found, ?_, by simpa using hp⟩
  simp [e1, r1D_nat xs.length (by omega)]
theorem perm_map {α : Type} (f : α → D) {l l' : List D} (p : l.Perm l') : ∀ as : List α, l' = as.map f → ∃ bs : List α, bs.Perm as ∧ l = bs.map f := by
  induction p with
  | nil => intro as e; exact ⟨as, .refl _, e⟩
  | cons x _ ih =>
    intro as e
    cases as with
    | nil => cases e
    | cons a as =>
      simp only [List.map_cons, List.cons.injEq] at e
      obtain ⟨bs, p, e2⟩ := ih as e.2
      exact ⟨a :: bs, p.cons a, by rw [e.1, e2]; rfl⟩
  | swap x y l =>
    intro as e
    cases as with
    | nil => cases e
    | cons a as =>
      cases as with
      | nil => simp at e
      | cons b as =>
        simp only [List.map_cons, List.cons.injEq] at e
        exact ⟨b :: a :: as, List.Perm.swap _ _ _, by rw [e.1, e.2.1, e.2.2]; rfl⟩
  | trans _ _ ih1 ih2 =>
    intro as e
    obtain ⟨bs, p2, e2⟩ := ih2 as e
    obtain ⟨cs, p1, e1⟩ := ih1 bs e2
    exact ⟨cs, p1.trans p2, e1⟩
theorem turned_map {α : Type} (f : α → D) (as : List α) (n : Int) (hl : as.length ≤ 1000000) : ∃ bs : List α, fnB 4 bTurned [.lst (as.map f), .int n] = .ok (.lst (bs.map f)) ∧ bs.Perm as := by
  obtain ⟨ys, e, p⟩ := turned_ok (as.map f) n (by simpa using hl)
  obtain ⟨bs, p2, rfl⟩ := perm_map f p as rfl
  exact ⟨bs, e, p2⟩
/-- a digit -/
def rv (row : List Int) (i : Nat) : Int := row.getD i 0
theorem rv_get (row : List Int) (i : Nat) (h : i < row.length) : getD (.lst (row.map D.int)) (.int (i : Int)) = .ok (.int (rv row i)) := by
  rw [getD_lst, List.getElem?_map, List.getElem?_eq_getElem h]
  simp [rv, List.getD_eq_getElem?_getD, h]
theorem rv_fit {row sizes : List Int} (h : Fits row sizes) (hl : row.length = sizes.length) (i : Nat) (s : Int) (e : sizes[i]? = some s) : 0 ≤ rv row i ∧ rv row i < s := by
  have hi : i < row.length := by rw [hl]; exact (List.getElem?_eq_some_iff.mp e).1
  refine h i _ s ?_ e
  rw [List.getElem?_eq_getElem hi]
  simp [rv, List.getD_eq_getElem?_getD, hi]
/-! repr of plain texts -/
def plainC (c : Nat) : Bool := decide (32 ≤ c) && decide (c < 127) && decide (c ≠ 34) && decide (c ≠ 39) && decide (c ≠ 92)
theorem reprChar_plain : ∀ c : Nat, plainC c = true → Builtin.Str.reprChar 39 c = [c] := by
  have h : ∀ c : Fin 127, plainC c.val = true → Builtin.Str.reprChar 39 c.val = [c.val] := by decide +kernel
  intro c hc
  have hlt : c < 127 := by unfold plainC at hc; simp at hc; omega
  exact h ⟨c, hlt⟩ hc
theorem foldl_plain (l : List Nat) (h : ∀ c ∈ l, plainC c = true) : ∀ acc : Array Nat, l.foldl (fun out c => out ++ (Builtin.Str.reprChar 39 c).toArray) acc = acc ++ l.toArray := by
  induction l with
  | nil => intro acc; simp
  | cons c l ih =>
    intro acc
    rw [List.foldl_cons, ih (fun x hx => h x (List.mem_cons_of_mem _ hx)), reprChar_plain c (h c List.mem_cons_self)]
    simp
theorem shD_str (l : List Nat) (h : ∀ c ∈ l, plainC c = true) : shD (.str l) = 39 :: (l ++ [39]) := by
  have q : reprQuote (mkS l) = 39 := by
    unfold reprQuote
    rw [if_neg]
    intro z
    simp only [Bool.and_eq_true] at z
    have m : 39 ∈ l := by
      have := z.1
      unfold mkS at this
      simpa using this
    have := h 39 m
    revert this
    decide
  show (reprText (mkS l)).cps.toList = _
  unfold reprText
  rw [q]
  have e : (mkS l).cps.foldl (fun out c => out ++ (Builtin.Str.reprChar 39 c).toArray) #[39] = #[39] ++ l.toArray := by
    have := foldl_plain l h #[39]
    unfold mkS
    simpa using this
  show (((mkS l).cps.foldl (fun out c => out ++ (Builtin.Str.reprChar 39 c).toArray) #[39]).push 39).toList = _
  rw [e]
  simp
theorem shOk_plain (l : List Nat) (h : ∀ c ∈ l, plainC c = true) (hl : l.length ≤ 1000000) : shOk (.str l) = true := by
  have hc : ∀ c ∈ l, c < 0x110000 := fun c hc => by
    have := h c hc
    unfold plainC at this
    simp at this
    omega
  have e := shD_str l h
  unfold shOk
  rw [e, sizeLine_k]
  simp only [Bool.and_eq_true, decide_eq_true_eq, List.all_eq_true]
  refine ⟨⟨⟨⟨rfl, rfl⟩, by simp; omega⟩, Nat.zero_le _⟩, fun c m => ?_⟩
  simp only [List.mem_cons, List.mem_append, List.mem_nil_iff, or_false] at m
  rcases m with rfl | m | rfl
  · decide
  · exact hc c m
  · decide
theorem reprD_str (l : List Nat) (h : shOk (.str l) = true) : reprD [.str l] = .ok (.str (shD (.str l))) := by
  unfold reprD
  simp only
  rw [if_pos (by rw [h]; rfl)]
/-! equality of a value with itself -/
mutual
theorem deq_self : ∀ (n : Nat) (d : D), dok n d = true → deq d d = true
  | _, .non, _ => by rw [deq]
  | _, .bl b, _ => by rw [deq]; cases b <;> rfl
  | _, .int i, _ => by rw [deq]; simp
  | _, .str i, _ => by rw [deq]; simp
  | 0, .lst xs, h => by simp [dok] at h
  | 0, .tup xs, h => by simp [dok] at h
  | n + 1, .lst xs, h => by rw [deq]; exact deqs_self n xs (by simpa [dok] using h)
  | n + 1, .tup xs, h => by rw [deq]; exact deqs_self n xs (by simpa [dok] using h)
  | n, .dct _, h => by cases n <;> simp [dok] at h
  | n, .obj _ _, h => by cases n <;> simp [dok] at h
theorem deqs_self : ∀ (n : Nat) (ds : List D), doks n ds = true → deqs ds ds = true
  | _, [], _ => by rw [deqs]
  | n, d :: ds, h => by
    have h : dok n d = true ∧ doks n ds = true := by simpa [doks] using h
    rw [deqs, deq_self n d h.1, deqs_self n ds h.2]; rfl
end
theorem eqD_self (d : D) (h : dok 12 d = true) : eqD d d = .ok true := by
  unfold eqD
  rw [if_pos ⟨h, h⟩, deq_self 12 d h]
theorem doks_map {α : Type} (n : Nat) (f : α → D) : ∀ (xs : List α), (∀ x ∈ xs, dok n (f x) = true) → doks n (xs.map f) = true
  | [], _ => by simp [doks]
  | x :: xs, h => by
    rw [List.map_cons, doks, h x List.mem_cons_self, doks_map n f xs fun y hy => h y (List.mem_cons_of_mem _ hy)]; rfl
/-! joining -/
theorem joinD_all (ls : List (List Nat)) (h : (ls.map List.length).sum ≤ 16777216) : joinD (.str []) [.lst (ls.map D.str)] = .ok (.str ls.flatten) := by
  unfold joinD
  simp only
  rw [strsD_map]
  simp only
  rw [sizeLine_k, if_pos (by simpa using h), joinL_nil]
theorem sum_le (m : Nat) : ∀ (l : List Nat), (∀ x ∈ l, x ≤ m) → l.sum ≤ l.length * m
  | [], _ => by simp
  | x :: l, h => by
    have h1 := h x List.mem_cons_self
    have h2 := sum_le m l fun y hy => h y (List.mem_cons_of_mem _ hy)
    rw [List.sum_cons, List.length_cons, Nat.add_mul]
    omega
theorem pow_tup (n : Nat) (h : n ≤ 8) : getD (.tup [.int 1, .int 2, .int 4, .int 8, .int 16, .int 32, .int 64, .int 128, .int 256]) (.int (n : Int)) = .ok (.int ((2 ^ n : Nat) : Int)) := by
  rw [getD_tup]
  have : n = 0 ∨ n = 1 ∨ n = 2 ∨ n = 3 ∨ n = 4 ∨ n = 5 ∨ n = 6 ∨ n = 7 ∨ n = 8 := by omega
  rcases this with rfl | rfl | rfl | rfl | rfl | rfl | rfl | rfl | rfl <;> rfl
end Pv

namespace Pv
noncomputable section
open PySem PySem.Spec PyProof.Rows L2
open L2 (upd)
def topS (i : Nat) : Stmt := PySem.Challenge.pw_onemeaning_k05_slim_rules.main.body.getD i (.Pass ⟨0, 0, 0, 0⟩)
abbrev s_collected : Stmt := topS 2
abbrev s_union : Stmt := topS 3
abbrev s_minus : Stmt := topS 4
abbrev s_within : Stmt := topS 5
abbrev s_next_rule : Stmt := topS 7
abbrev s_telling : Stmt := topS 8
abbrev s_told : Stmt := topS 9
abbrev s_follows : Stmt := topS 10
abbrev s_slim : Stmt := topS 11
abbrev s__law_cell : Stmt := topS 13
abbrev s__law_digits : Stmt := topS 14
abbrev s__law_same : Stmt := topS 15
abbrev s__law_pairs : Stmt := topS 16
abbrev s__law_turned : Stmt := topS 17
abbrev s__law_lot : Stmt := topS 18
abbrev s__law_within : Stmt := topS 19
abbrev s__law_drawn_rules : Stmt := topS 20
abbrev s__law_named : Stmt := topS 21
abbrev s__law_menu : Stmt := topS 22
abbrev s__law_rulebook : Stmt := topS 23
abbrev s__law_reached : Stmt := topS 24
abbrev s__law_staying : Stmt := topS 25
abbrev s__law_every_lot : Stmt := topS 26
abbrev s__law_slim_holds : Stmt := topS 27
abbrev s_law : Stmt := topS 28
theorem sc_collected : FnScope ["text", "column"] ["text"] (defScope s_collected) := ⟨rfl, rfl, rfl, by decide +kernel, rfl, by decide +kernel, by decide +kernel⟩
theorem sc_union : FnScope ["one", "two"] ["one", "two"] (defScope s_union) := ⟨rfl, rfl, rfl, by decide +kernel, rfl, by decide +kernel, by decide +kernel⟩
theorem sc_minus : FnScope ["one", "two", "column"] ["one", "two"] (defScope s_minus) := ⟨rfl, rfl, rfl, by decide +kernel, rfl, by decide +kernel, by decide +kernel⟩
theorem sc_within : FnScope ["one", "two"] ["one", "two"] (defScope s_within) := ⟨rfl, rfl, rfl, by decide +kernel, rfl, by decide +kernel, by decide +kernel⟩
theorem sc_next_rule : FnScope ["rules", "lot", "index"] ["rules", "lot"] (defScope s_next_rule) := ⟨rfl, rfl, rfl, by decide +kernel, rfl, by decide +kernel, by decide +kernel⟩
theorem sc_telling : FnScope ["rules", "known", "lot", "steps", "index"] ["rules", "known"] (defScope s_telling) := ⟨rfl, rfl, rfl, by decide +kernel, rfl, by decide +kernel, by decide +kernel⟩
theorem sc_told : FnScope ["rules", "known", "lot", "index"] ["rules", "known"] (defScope s_told) := ⟨rfl, rfl, rfl, by decide +kernel, rfl, by decide +kernel, by decide +kernel⟩
theorem sc_follows : FnScope ["rules", "rule"] ["rules", "rule"] (defScope s_follows) := ⟨rfl, rfl, rfl, by decide +kernel, rfl, by decide +kernel, by decide +kernel⟩
theorem sc_slim : FnScope ["rules", "kept", "rule", "index", "others"] ["rules"] (defScope s_slim) := ⟨rfl, rfl, rfl, by decide +kernel, rfl, by decide +kernel, by decide +kernel⟩
theorem sc__law_cell : FnScope ["script", "k", "seed", "cell"] ["script", "k"] (defScope s__law_cell) := ⟨rfl, rfl, rfl, by decide +kernel, rfl, by decide +kernel, by decide +kernel⟩
theorem sc__law_digits : FnScope ["cell", "sizes", "row", "rest", "size", "seed", "k", "twice"] ["cell", "sizes"] (defScope s__law_digits) := ⟨rfl, rfl, rfl, by decide +kernel, rfl, by decide +kernel, by decide +kernel⟩
theorem sc__law_same : FnScope ["value", "due"] ["value", "due"] (defScope s__law_same) := ⟨rfl, rfl, rfl, by decide +kernel, rfl, by decide +kernel, by decide +kernel⟩
theorem sc__law_pairs : FnScope ["value", "due", "k"] ["value", "due"] (defScope s__law_pairs) := ⟨rfl, rfl, rfl, by decide +kernel, rfl, by decide +kernel, by decide +kernel⟩
theorem sc__law_turned : FnScope ["items", "number", "rest", "found", "left", "k"] ["items", "number"] (defScope s__law_turned) := ⟨rfl, rfl, rfl, by decide +kernel, rfl, by decide +kernel, by decide +kernel⟩
theorem sc__law_lot : FnScope ["letters", "letter"] ["letters"] (defScope s__law_lot) := ⟨rfl, rfl, rfl, by decide +kernel, rfl, by decide +kernel, by decide +kernel⟩
theorem sc__law_within : FnScope ["one", "two", "letter"] ["one", "two"] (defScope s__law_within) := ⟨rfl, rfl, rfl, by decide +kernel, rfl, by decide +kernel, by decide +kernel⟩
theorem sc__law_drawn_rules : FnScope ["letters", "cell", "row", "wide", "found", "k", "one", "two", "three", "left", "right", "j"] ["letters", "cell"] (defScope s__law_drawn_rules) := ⟨rfl, rfl, rfl, by decide +kernel, rfl, by decide +kernel, by decide +kernel⟩
theorem sc__law_named : FnScope ["rule", "names", "left", "letter"] ["rule", "names"] (defScope s__law_named) := ⟨rfl, rfl, rfl, by decide +kernel, rfl, by decide +kernel, by decide +kernel⟩
theorem sc__law_menu : FnScope ["kind_number"] ["kind_number"] (defScope s__law_menu) := ⟨rfl, rfl, rfl, by decide +kernel, rfl, by decide +kernel, by decide +kernel⟩
theorem sc__law_rulebook : FnScope ["names", "cell", "more", "row", "drawn", "found", "rule", "at"] ["names", "cell", "more"] (defScope s__law_rulebook) := ⟨rfl, rfl, rfl, by decide +kernel, rfl, by decide +kernel, by decide +kernel⟩
theorem sc__law_reached : FnScope ["rules", "known", "now", "turn", "before", "rule"] ["rules", "known"] (defScope s__law_reached) := ⟨rfl, rfl, rfl, by decide +kernel, rfl, by decide +kernel, by decide +kernel⟩
theorem sc__law_staying : FnScope ["rules", "now", "k", "at", "others"] ["rules"] (defScope s__law_staying) := ⟨rfl, rfl, rfl, by decide +kernel, rfl, by decide +kernel, by decide +kernel⟩
theorem sc__law_every_lot : FnScope ["rules", "used", "rule", "weights", "found", "bits", "k"] ["rules"] (defScope s__law_every_lot) := ⟨rfl, rfl, rfl, by decide +kernel, rfl, by decide +kernel, by decide +kernel⟩
theorem sc__law_slim_holds : FnScope ["rules", "listed", "work", "rule", "due", "value", "lot", "reached", "k"] ["rules", "listed"] (defScope s__law_slim_holds) := ⟨rfl, rfl, rfl, by decide +kernel, rfl, by decide +kernel, by decide +kernel⟩
theorem sc_law : FnScope ["script", "row", "names", "others", "first", "second", "both"] ["script"] (defScope s_law) := ⟨rfl, rfl, rfl, by decide +kernel, rfl, by decide +kernel, by decide +kernel⟩
structure Hd (K : PySem.W.Frag) (mg : Str → Option Value) : Prop where
  d_collected : Df K mg "collected" s_collected ["text"]
  d_union : Df K mg "union" s_union ["one", "two"]
  d_minus : Df K mg "minus" s_minus ["one", "two"]
  d_within : Df K mg "within" s_within ["one", "two"]
  d_next_rule : Df K mg "next_rule" s_next_rule ["rules", "lot"]
  d_telling : Df K mg "telling" s_telling ["rules", "known"]
  d_told : Df K mg "told" s_told ["rules", "known"]
  d_follows : Df K mg "follows" s_follows ["rules", "rule"]
  d_slim : Df K mg "slim" s_slim ["rules"]
  d__law_cell : Df K mg "_law_cell" s__law_cell ["script", "k"]
  d__law_digits : Df K mg "_law_digits" s__law_digits ["cell", "sizes"]
  d__law_same : Df K mg "_law_same" s__law_same ["value", "due"]
  d__law_pairs : Df K mg "_law_pairs" s__law_pairs ["value", "due"]
  d__law_turned : Df K mg "_law_turned" s__law_turned ["items", "number"]
  d__law_lot : Df K mg "_law_lot" s__law_lot ["letters"]
  d__law_within : Df K mg "_law_within" s__law_within ["one", "two"]
  d__law_drawn_rules : Df K mg "_law_drawn_rules" s__law_drawn_rules ["letters", "cell"]
  d__law_named : Df K mg "_law_named" s__law_named ["rule", "names"]
  d__law_menu : Df K mg "_law_menu" s__law_menu ["kind_number"]
  d__law_rulebook : Df K mg "_law_rulebook" s__law_rulebook ["names", "cell", "more"]
  d__law_reached : Df K mg "_law_reached" s__law_reached ["rules", "known"]
  d__law_staying : Df K mg "_law_staying" s__law_staying ["rules"]
  d__law_every_lot : Df K mg "_law_every_lot" s__law_every_lot ["rules"]
  d__law_slim_holds : Df K mg "_law_slim_holds" s__law_slim_holds ["rules", "listed"]
  m_int : mg "int" = none
  m_isinstance : mg "isinstance" = none
  m_len : mg "len" = none
  m_list : mg "list" = none
  m_max : mg "max" = none
  m_min : mg "min" = none
  m_range : mg "range" = none
  m_repr : mg "repr" = none
  m_str : mg "str" = none
  m_tuple : mg "tuple" = none
  g_COLUMNS : GStr mg "COLUMNS" [97, 98, 99, 100, 101, 102, 103, 104]
def b_collected : En → SO := (sRt (fM "str" joinD (fC (.str [])) (lCons (fLc [1] (fIt (fC (.str [97, 98, 99, 100, 101, 102, 103, 104]))) (gV 1) (b2 inD (fV 1) (fV 0)) (fV 1)) lNil)))
def F_collected : Fn := fnB 1 b_collected
def b_union : En → SO := (sRt (fA F_collected (lCons (f2 addD (fV 0) (fV 1)) lNil)))
def F_union : Fn := fnB 0 b_union
def b_minus : En → SO := (sRt (fM "str" joinD (fC (.str [])) (lCons (fLc [2] (fIt (fV 0)) (gV 2) (b2 ninD (fV 2) (fV 1)) (fV 2)) lNil)))
def F_minus : Fn := fnB 1 b_minus
def b_within : En → SO := (sRt (fB2 eqD (fA F_minus (lCons (fV 0) (lCons (fV 1) lNil))) (fC (.str []))))
def F_within : Fn := fnB 0 b_within
def b_next_rule : En → SO := (sSeq (sFor (fRg r1D (lCons (fA lenD (lCons (fV 0) lNil)) lNil)) (gV 2) (sIf (bAnd (bV (fA F_within (lCons (f2 getD (f2 getD (fV 0) (fV 2)) (fC (.int 0))) (lCons (fV 1) lNil)))) (b2 ninD (f2 getD (f2 getD (fV 0) (fV 2)) (fC (.int 1))) (fV 1))) (sRt (fV 2)) sNil)) (sRt (fC .non)))
def F_next_rule : Fn := fnB 1 b_next_rule
def b_telling : En → SO := (sSeq (sSet 2 (fV 1)) (sSeq (sSet 3 (fLst lNil)) (sSeq (sSet 4 (fA F_next_rule (lCons (fV 0) (lCons (fV 2) lNil)))) (sSeq (sWh (b2 nisD (fV 4) (fC .non)) (sSeq (sM1 3 appD (fV 4)) (sSeq (sSet 2 (fA F_union (lCons (fV 2) (lCons (f2 getD (f2 getD (fV 0) (fV 4)) (fC (.int 1))) lNil)))) (sSet 4 (fA F_next_rule (lCons (fV 0) (lCons (fV 2) lNil))))))) (sRt (fA tupleD (lCons (fV 3) lNil)))))))
def F_telling : Fn := fnB 3 b_telling
def b_told : En → SO := (sSeq (sSet 2 (fV 1)) (sSeq (sFor (fIt (fA F_telling (lCons (fV 0) (lCons (fV 1) lNil)))) (gV 3) (sSet 2 (fA F_union (lCons (fV 2) (lCons (f2 getD (f2 getD (fV 0) (fV 3)) (fC (.int 1))) lNil))))) (sRt (fV 2))))
def F_told : Fn := fnB 2 b_told
def b_follows : En → SO := (sRt (fB2 inD (f2 getD (fV 1) (fC (.int 1))) (fA F_told (lCons (fV 0) (lCons (f2 getD (fV 1) (fC (.int 0))) lNil)))))
def F_follows : Fn := fnB 0 b_follows
def b_slim : En → SO := (sSeq (sSet 1 (fLc [2] (fIt (fV 0)) (gV 2) bYes (fA tupleD (lCons (fV 2) lNil)))) (sSeq (sFor (fRg r3D (lCons (f2 subD (fA lenD (lCons (fV 0) lNil)) (fC (.int 1))) (lCons (fNeg (fC (.int 1))) (lCons (fNeg (fC (.int 1))) lNil)))) (gV 3) (sSeq (sSet 4 (f2 addD (fSl (fV 1) oNo (oSo (fV 3))) (fSl (fV 1) (oSo (f2 addD (fV 3) (fC (.int 1)))) oNo))) (sIf (bV (fA F_follows (lCons (fV 4) (lCons (f2 getD (fV 1) (fV 3)) lNil)))) (sSet 1 (fV 4)) sNil))) (sRt (fA tupleD (lCons (fV 1) lNil)))))
def F_slim : Fn := fnB 4 b_slim
def b__law_cell : En → SO := (sSeq (sIf (b2 ltD (fV 1) (fA lenD (lCons (fV 0) lNil))) (sRt (f2 getD (fV 0) (fV 1))) sNil) (sSeq (sSet 2 (fC (.int 17))) (sSeq (sFor (fIt (fV 0)) (gV 3) (sSet 2 (f2 modD (fA intD (lCons (f2 addD (f2 mulD (fV 2) (fC (.int 31))) (f2 modD (fA intD (lCons (fV 3) lNil)) (fC (.int 1000003)))) lNil)) (fC (.int 1000003))))) (sRt (f2 modD (fA intD (lCons (f2 mulD (f2 mulD (f2 addD (fV 2) (fC (.int 7))) (f2 addD (fV 1) (fC (.int 3)))) (fC (.int 69621))) lNil)) (fC (.int 2147483647)))))))
def F__law_cell : Fn := fnB 2 b__law_cell
def b__law_digits : En → SO := (sSeq (sSet 2 (fLst lNil)) (sSeq (sSet 3 (fA intD (lCons (fV 0) lNil))) (sSeq (sIf (b2 geD (fV 3) (f2 powD (fC (.int 10)) (fC (.int 18)))) (sSeq (sSet 3 (f2 subD (fV 3) (f2 powD (fC (.int 10)) (fC (.int 18))))) (sSeq (sFor (fIt (fV 1)) (gV 4) (sSeq (sM1 2 appD (f2 modD (fA intD (lCons (fV 3) lNil)) (fV 4))) (sSet 3 (f2 fdivD (fA intD (lCons (fV 3) lNil)) (fV 4))))) (sRt (fV 2)))) sNil) (sSeq (sSet 5 (f2 modD (fA intD (lCons (fV 3) lNil)) (fC (.int 2147483629)))) (sSeq (sFor (fRg r1D (lCons (fA lenD (lCons (fV 1) lNil)) lNil)) (gV 6) (sSeq (sSet 5 (f2 modD (fA intD (lCons (f2 addD (f2 addD (f2 mulD (fV 5) (fC (.int 48271))) (f2 mulD (fC (.int 974711)) (fV 6))) (fC (.int 12345))) lNil)) (fC (.int 2147483647)))) (sSeq (sSet 7 (f2 modD (fA intD (lCons (f2 mulD (fV 5) (f2 addD (f2 fdivD (fV 5) (fC (.int 65537))) (fC (.int 3)))) lNil)) (fC (.int 2147483629)))) (sM1 2 appD (f2 modD (f2 fdivD (fA intD (lCons (fV 7) lNil)) (fC (.int 19))) (f2 getD (fV 1) (fV 6))))))) (sRt (fV 2)))))))
def F__law_digits : Fn := fnB 6 b__law_digits
def b__law_same : En → SO := (sRt (fAnd (fIsi "str" (fV 0)) (fAnd (fB2 eqD (fV 0) (fV 1)) (fB2 eqD (fA reprD (lCons (fV 0) lNil)) (fA reprD (lCons (fV 1) lNil))))))
def F__law_same : Fn := fnB 0 b__law_same
def b__law_pairs : En → SO := (sSeq (sIf (bOr (bNot (bV (fIsi "tuple" (fV 0)))) (b2 neD (fA lenD (lCons (fV 0) lNil)) (fA lenD (lCons (fV 1) lNil)))) (sRt (fC (.bl false))) sNil) (sSeq (sFor (fRg r1D (lCons (fA lenD (lCons (fV 1) lNil)) lNil)) (gV 2) (sSeq (sIf (bOr (bNot (bV (fIsi "tuple" (f2 getD (fV 0) (fV 2))))) (b2 neD (fA lenD (lCons (f2 getD (fV 0) (fV 2)) lNil)) (fC (.int 2)))) (sRt (fC (.bl false))) sNil) (sIf (bOr (bNot (bV (fA F__law_same (lCons (f2 getD (f2 getD (fV 0) (fV 2)) (fC (.int 0))) (lCons (f2 getD (f2 getD (fV 1) (fV 2)) (fC (.int 0))) lNil))))) (bNot (bV (fA F__law_same (lCons (f2 getD (f2 getD (fV 0) (fV 2)) (fC (.int 1))) (lCons (f2 getD (f2 getD (fV 1) (fV 2)) (fC (.int 1))) lNil)))))) (sRt (fC (.bl false))) sNil))) (sRt (fC (.bl true)))))
def F__law_pairs : Fn := fnB 1 b__law_pairs
def b__law_turned : En → SO := (sSeq (sSet 2 (fA listD (lCons (fV 0) lNil))) (sSeq (sSet 3 (fLst lNil)) (sSeq (sSet 4 (fA intD (lCons (fV 1) lNil))) (sSeq (sFor (fRg r1D (lCons (fA lenD (lCons (fV 0) lNil)) lNil)) (gV 5) (sSeq (sAppQ 3 (qPopAt 2 (f2 modD (fA intD (lCons (fV 4) lNil)) (fA lenD (lCons (fV 2) lNil))))) (sSet 4 (f2 fdivD (fA intD (lCons (fV 4) lNil)) (f2 addD (fA lenD (lCons (fV 2) lNil)) (fC (.int 1))))))) (sRt (fV 3))))))
def F__law_turned : Fn := fnB 4 b__law_turned
def b__law_lot : En → SO := (sRt (fM "str" joinD (fC (.str [])) (lCons (fLc [1] (fIt (fC (.str [97, 98, 99, 100, 101, 102, 103, 104]))) (gV 1) (b2 inD (fV 1) (fV 0)) (fV 1)) lNil)))
def F__law_lot : Fn := fnB 1 b__law_lot
def b__law_within : En → SO := (sRt (fB2 eqD (fA lenD (lCons (fLc [2] (fIt (fV 0)) (gV 2) (b2 ninD (fV 2) (fV 1)) (fV 2)) lNil)) (fC (.int 0))))
def F__law_within : Fn := fnB 1 b__law_within
def b__law_drawn_rules : En → SO := (sSeq (sSet 2 (fA F__law_digits (lCons (fV 1) (lCons (f2 addD (fLst (lCons (fC (.int 9)) (lCons (fC (.int 12)) (lCons (fC (.int 720)) lNil)))) (f2 repD (fLst (lCons (fC (.int 60)) lNil)) (fC (.int 18)))) lNil)))) (sSeq (sSet 3 (fA lenD (lCons (fV 0) lNil))) (sSeq (sSet 4 (fLst lNil)) (sSeq (sFor (fRg r1D (lCons (f2 getD (fLst (lCons (fC (.int 6)) (lCons (fC (.int 5)) (lCons (fC (.int 4)) (lCons (fC (.int 6)) (lCons (fC (.int 3)) (lCons (fC (.int 5)) (lCons (fC (.int 6)) (lCons (fC (.int 4)) (lCons (fC (.int 2)) (lCons (fC (.int 6)) (lCons (fC (.int 6)) (lCons (fC (.int 5)) lNil))))))))))))) (f2 getD (fV 2) (fC (.int 1)))) lNil)) (gV 5) (sSeq (sSet 6 (f2 getD (fV 2) (f2 addD (fC (.int 3)) (f2 mulD (fC (.int 3)) (fV 5))))) (sSeq (sSet 7 (f2 getD (fV 2) (f2 addD (fC (.int 4)) (f2 mulD (fC (.int 3)) (fV 5))))) (sSeq (sSet 8 (f2 getD (fV 2) (f2 addD (fC (.int 5)) (f2 mulD (fC (.int 3)) (fV 5))))) (sSeq (sSet 9 (fLst (lCons (f2 getD (fV 0) (f2 modD (fV 6) (fV 3))) lNil))) (sSeq (sSet 10 (f2 getD (fV 0) (f2 modD (f2 addD (f2 addD (fV 6) (fC (.int 1))) (f2 modD (fV 7) (fA max2D (lCons (fC (.int 1)) (lCons (f2 subD (fV 3) (fC (.int 1))) lNil))))) (fV 3)))) (sSeq (sIf (bAnd (b2 leD (f2 getD (fV 2) (fC (.int 0))) (fC (.int 3))) (b2 gtD (f2 modD (fV 8) (fC (.int 6))) (fC (.int 0)))) (sSeq (sSet 9 (fLst (lCons (f2 getD (fV 0) (f2 modD (f2 fdivD (fV 5) (f2 addD (fC (.int 1)) (f2 fdivD (f2 getD (fV 2) (fC (.int 0))) (fC (.int 2))))) (fV 3))) lNil))) (sSet 10 (f2 getD (fV 0) (f2 modD (f2 addD (fV 5) (fC (.int 1))) (fV 3))))) (sIf (bAnd (b2 eqD (f2 getD (fV 2) (fC (.int 0))) (fC (.int 4))) (b2 gtD (f2 modD (fV 8) (fC (.int 6))) (fC (.int 0)))) (sSeq (sSet 9 (fLst (lCons (f2 getD (fV 0) (f2 modD (fV 5) (fV 3))) (lCons (f2 getD (fV 0) (f2 modD (f2 addD (fV 5) (fC (.int 1))) (fV 3))) lNil)))) (sSet 10 (f2 getD (fV 0) (f2 modD (f2 addD (fV 5) (fC (.int 2))) (fV 3))))) (sIf (bAnd (b2 eqD (f2 getD (fV 2) (fC (.int 0))) (fC (.int 5))) (b2 gtD (f2 modD (fV 8) (fC (.int 6))) (fC (.int 0)))) (sSeq (sSet 9 (fLst (lCons (f2 getD (fV 0) (f2 modD (f2 modD (fV 5) (fC (.int 3))) (fV 3))) lNil))) (sSet 10 (f2 getD (fV 0) (f2 modD (f2 modD (f2 addD (f2 mulD (fC (.int 2)) (fV 5)) (fC (.int 1))) (fC (.int 5))) (fV 3))))) sNil))) (sSeq (sIf (bOr (b2 eqD (f2 fdivD (fV 8) (fC (.int 6))) (fC (.int 0))) (bAnd (b2 geD (f2 getD (fV 2) (fC (.int 0))) (fC (.int 6))) (b2 eqD (f2 modD (f2 fdivD (fV 8) (fC (.int 6))) (fC (.int 2))) (fC (.int 0))))) (sM1 9 appD (f2 getD (fV 0) (f2 modD (f2 fdivD (fV 6) (fC (.int 8))) (fV 3)))) sNil) (sSeq (sIf (bOr (b2 eqD (f2 fdivD (fV 8) (fC (.int 6))) (fC (.int 3))) (b2 eqD (f2 fdivD (fV 8) (fC (.int 6))) (fC (.int 7)))) (sSet 9 (f2 addD (fV 9) (fLc [11] (fRg r1D (lCons (f2 subD (f2 fdivD (fV 8) (fC (.int 6))) (fC (.int 2))) lNil)) (gV 11) bYes (f2 getD (fV 0) (f2 modD (f2 addD (f2 fdivD (fV 7) (fC (.int 8))) (fV 11)) (fV 3)))))) sNil) (sIf (b2 ninD (fV 10) (fV 9)) (sM1 4 appD (fTup (lCons (fA F__law_lot (lCons (fV 9) lNil)) (lCons (fV 10) lNil)))) sNil)))))))))) (sSeq (sIf (bAnd (bOr (b2 eqD (f2 getD (fV 2) (fC (.int 0))) (fC (.int 5))) (b2 eqD (f2 getD (fV 2) (fC (.int 0))) (fC (.int 8)))) (bAnd (b2 gtD (fA lenD (lCons (fV 4) lNil)) (fC (.int 0))) (b2 ltD (fA lenD (lCons (fV 4) lNil)) (fC (.int 6))))) (sM1 4 appD (f2 getD (fV 4) (fC (.int 0)))) sNil) (sRt (fA F__law_turned (lCons (fV 4) (lCons (f2 getD (fV 2) (fC (.int 2))) lNil)))))))))
def F__law_drawn_rules : Fn := fnB 10 b__law_drawn_rules
def b__law_named : En → SO := (sSeq (sSet 2 (fA F__law_lot (lCons (fLc [3] (fIt (f2 getD (fV 0) (fC (.int 0)))) (gV 3) bYes (f2 getD (fV 1) (fM "str" sindexD (fC (.str [97, 98, 99, 100, 101, 102, 103, 104])) (lCons (fV 3) lNil)))) lNil))) (sRt (fTup (lCons (fV 2) (lCons (f2 getD (fV 1) (fM "str" sindexD (fC (.str [97, 98, 99, 100, 101, 102, 103, 104])) (lCons (f2 getD (fV 0) (fC (.int 1))) lNil))) lNil)))))
def F__law_named : Fn := fnB 2 b__law_named
def b__law_menu : En → SO := (sSeq (sIf (b2 eqD (fV 0) (fC (.int 0))) (sRt (fLst (lCons (fTup (lCons (fC (.str [97])) (lCons (fC (.str [98])) lNil))) (lCons (fTup (lCons (fC (.str [98])) (lCons (fC (.str [97])) lNil))) (lCons (fTup (lCons (fC (.str [97])) (lCons (fC (.str [99])) lNil))) (lCons (fTup (lCons (fC (.str [98])) (lCons (fC (.str [99])) lNil))) (lCons (fTup (lCons (fC (.str [99])) (lCons (fC (.str [100])) lNil))) (lCons (fTup (lCons (fC (.str [97])) (lCons (fC (.str [100])) lNil))) lNil)))))))) sNil) (sSeq (sIf (b2 eqD (fV 0) (fC (.int 1))) (sRt (fLst (lCons (fTup (lCons (fC (.str [97])) (lCons (fC (.str [98])) lNil))) (lCons (fTup (lCons (fC (.str [98])) (lCons (fC (.str [99])) lNil))) (lCons (fTup (lCons (fC (.str [97])) (lCons (fC (.str [99])) lNil))) (lCons (fTup (lCons (fC (.str [99])) (lCons (fC (.str [100])) lNil))) (lCons (fTup (lCons (fC (.str [97])) (lCons (fC (.str [100])) lNil))) (lCons (fTup (lCons (fC (.str [98])) (lCons (fC (.str [100])) lNil))) lNil)))))))) sNil) (sSeq (sIf (b2 eqD (fV 0) (fC (.int 2))) (sRt (fLst (lCons (fTup (lCons (fC (.str [97, 98])) (lCons (fC (.str [99])) lNil))) (lCons (fTup (lCons (fC (.str [97])) (lCons (fC (.str [98])) lNil))) (lCons (fTup (lCons (fC (.str [97])) (lCons (fC (.str [99])) lNil))) (lCons (fTup (lCons (fC (.str [98, 99])) (lCons (fC (.str [100])) lNil))) (lCons (fTup (lCons (fC (.str [97, 98])) (lCons (fC (.str [100])) lNil))) (lCons (fTup (lCons (fC (.str [97, 99, 100])) (lCons (fC (.str [101])) lNil))) lNil)))))))) sNil) (sSeq (sIf (b2 eqD (fV 0) (fC (.int 3))) (sRt (fLst (lCons (fTup (lCons (fC (.str [97])) (lCons (fC (.str [98])) lNil))) (lCons (fTup (lCons (fC (.str [98])) (lCons (fC (.str [99])) lNil))) (lCons (fTup (lCons (fC (.str [99])) (lCons (fC (.str [97])) lNil))) (lCons (fTup (lCons (fC (.str [97])) (lCons (fC (.str [99])) lNil))) (lCons (fTup (lCons (fC (.str [99])) (lCons (fC (.str [98])) lNil))) (lCons (fTup (lCons (fC (.str [98])) (lCons (fC (.str [97])) lNil))) lNil)))))))) sNil) (sSeq (sIf (b2 eqD (fV 0) (fC (.int 4))) (sRt (fLst (lCons (fTup (lCons (fC (.str [97, 98])) (lCons (fC (.str [99])) lNil))) (lCons (fTup (lCons (fC (.str [97, 98])) (lCons (fC (.str [100])) lNil))) (lCons (fTup (lCons (fC (.str [99, 100])) (lCons (fC (.str [97])) lNil))) (lCons (fTup (lCons (fC (.str [99, 100])) (lCons (fC (.str [98])) lNil))) (lCons (fTup (lCons (fC (.str [97, 98, 99])) (lCons (fC (.str [100])) lNil))) (lCons (fTup (lCons (fC (.str [100])) (lCons (fC (.str [101])) lNil))) lNil)))))))) sNil) (sSeq (sIf (b2 eqD (fV 0) (fC (.int 5))) (sRt (fLst (lCons (fTup (lCons (fC (.str [97])) (lCons (fC (.str [98])) lNil))) (lCons (fTup (lCons (fC (.str [98])) (lCons (fC (.str [99])) lNil))) (lCons (fTup (lCons (fC (.str [99])) (lCons (fC (.str [100])) lNil))) (lCons (fTup (lCons (fC (.str [97])) (lCons (fC (.str [101])) lNil))) (lCons (fTup (lCons (fC (.str [100])) (lCons (fC (.str [101])) lNil))) (lCons (fTup (lCons (fC (.str [97])) (lCons (fC (.str [100])) lNil))) lNil)))))))) sNil) (sRt (fLst (lCons (fTup (lCons (fC (.str [97, 98, 99])) (lCons (fC (.str [100])) lNil))) (lCons (fTup (lCons (fC (.str [97, 98])) (lCons (fC (.str [100])) lNil))) (lCons (fTup (lCons (fC (.str [100, 101])) (lCons (fC (.str [102])) lNil))) (lCons (fTup (lCons (fC (.str [97, 98, 101])) (lCons (fC (.str [102])) lNil))) (lCons (fTup (lCons (fC (.str [97, 98, 99, 100, 101, 102])) (lCons (fC (.str [103])) lNil))) (lCons (fTup (lCons (fC (.str [102])) (lCons (fC (.str [103])) lNil))) lNil))))))))))))))
def F__law_menu : Fn := fnB 0 b__law_menu
def b__law_rulebook : En → SO := (sSeq (sSet 3 (fA F__law_digits (lCons (fV 1) (lCons (fLst (lCons (fC (.int 10)) (lCons (fC (.int 8)) (lCons (fC (.int 12)) (lCons (fC (.int 6)) (lCons (fC (.int 6)) (lCons (fC (.int 6)) (lCons (fC (.int 720)) lNil)))))))) lNil)))) (sSeq (sSet 4 (fA F__law_drawn_rules (lCons (fSl (fV 0) oNo (oSo (f2 getD (fLst (lCons (fC (.int 8)) (lCons (fC (.int 7)) (lCons (fC (.int 6)) (lCons (fC (.int 7)) (lCons (fC (.int 5)) (lCons (fC (.int 4)) (lCons (fC (.int 8)) (lCons (fC (.int 3)) (lCons (fC (.int 6)) (lCons (fC (.int 2)) (lCons (fC (.int 7)) (lCons (fC (.int 5)) lNil))))))))))))) (f2 getD (fV 3) (fC (.int 2)))))) (lCons (fV 2) lNil)))) (sSeq (sIf (b2 geD (f2 getD (fV 3) (fC (.int 0))) (fC (.int 7))) (sRt (fV 4)) sNil) (sSeq (sSet 5 (fSlL (fLc [6] (fIt (fA F__law_menu (lCons (f2 getD (fV 3) (fC (.int 0))) lNil))) (gV 6) bYes (fA F__law_named (lCons (fV 6) (lCons (fV 0) lNil)))) oNo (oSo (fA min2D (lCons (fC (.int 6)) (lCons (f2 addD (fC (.int 2)) (f2 getD (fV 3) (fC (.int 1)))) lNil)))))) (sSeq (sSet 7 (f2 modD (f2 getD (fV 3) (fC (.int 3))) (fA lenD (lCons (fV 5) lNil)))) (sSeq (sIf (bAnd (b2 eqD (f2 getD (fV 3) (fC (.int 4))) (fC (.int 0))) (b2 gtD (fA lenD (lCons (fV 4) lNil)) (fC (.int 0)))) (sIx 5 (fV 7) (f2 getD (fV 4) (fC (.int 0)))) (sIf (b2 eqD (f2 getD (fV 3) (fC (.int 4))) (fC (.int 1))) (sIx 5 (fV 7) (f2 getD (fV 5) (f2 modD (f2 getD (fV 3) (fC (.int 5))) (fA lenD (lCons (fV 5) lNil))))) sNil)) (sRt (fA F__law_turned (lCons (fV 5) (lCons (f2 getD (fV 3) (fC (.int 6))) lNil))))))))))
def F__law_rulebook : Fn := fnB 5 b__law_rulebook
def b__law_reached : En → SO := (sSeq (sSet 2 (fV 1)) (sSeq (sFor (fRg r1D (lCons (fC (.int 8)) lNil)) (gV 3) (sSeq (sSet 4 (fV 2)) (sSeq (sFor (fIt (fV 0)) (gV 5) (sIf (bAnd (b2 ninD (f2 getD (fV 5) (fC (.int 1))) (fV 2)) (bV (fA F__law_within (lCons (f2 getD (fV 5) (fC (.int 0))) (lCons (fV 2) lNil))))) (sSet 2 (fA F__law_lot (lCons (f2 addD (fV 2) (f2 getD (fV 5) (fC (.int 1)))) lNil))) sNil)) (sIf (b2 eqD (fV 2) (fV 4)) sBk sNil)))) (sRt (fV 2))))
def F__law_reached : Fn := fnB 4 b__law_reached
def b__law_staying : En → SO := (sSeq (sSet 1 (fA listD (lCons (fV 0) lNil))) (sSeq (sFor (fRg r1D (lCons (fA lenD (lCons (fV 0) lNil)) lNil)) (gV 2) (sSeq (sSet 3 (f2 subD (f2 subD (fA lenD (lCons (fV 0) lNil)) (fC (.int 1))) (fV 2))) (sSeq (sSet 4 (f2 addD (fSl (fV 1) oNo (oSo (fV 3))) (fSl (fV 1) (oSo (f2 addD (fV 3) (fC (.int 1)))) oNo))) (sIf (b2 inD (f2 getD (f2 getD (fV 1) (fV 3)) (fC (.int 1))) (fA F__law_reached (lCons (fV 4) (lCons (f2 getD (f2 getD (fV 1) (fV 3)) (fC (.int 0))) lNil)))) (sSet 1 (fV 4)) sNil)))) (sRt (fV 1))))
def F__law_staying : Fn := fnB 4 b__law_staying
def b__law_every_lot : En → SO := (sSeq (sSet 1 (fA F__law_lot (lCons (fM "str" joinD (fC (.str [])) (lCons (fLc [2] (fIt (fV 0)) (gV 2) bYes (f2 addD (f2 getD (fV 2) (fC (.int 0))) (f2 getD (fV 2) (fC (.int 1))))) lNil)) lNil))) (sSeq (sSet 3 (fTup (lCons (fC (.int 1)) (lCons (fC (.int 2)) (lCons (fC (.int 4)) (lCons (fC (.int 8)) (lCons (fC (.int 16)) (lCons (fC (.int 32)) (lCons (fC (.int 64)) (lCons (fC (.int 128)) (lCons (fC (.int 256)) lNil))))))))))) (sSeq (sSet 4 (fLst lNil)) (sSeq (sFor (fRg r1D (lCons (f2 getD (fV 3) (fA lenD (lCons (fV 1) lNil))) lNil)) (gV 5) (sM1 4 appD (fM "str" joinD (fC (.str [])) (lCons (fLc [6] (fRg r1D (lCons (fA lenD (lCons (fV 1) lNil)) lNil)) (gV 6) (b2 eqD (f2 modD (f2 fdivD (fV 5) (f2 getD (fV 3) (fV 6))) (fC (.int 2))) (fC (.int 1))) (f2 getD (fV 1) (fV 6))) lNil)))) (sRt (fV 4))))))
def F__law_every_lot : Fn := fnB 6 b__law_every_lot
def b__law_slim_holds : En → SO := (sSeq (sSet 2 (fA tupleD (lCons (fV 0) lNil))) (sSeq (sIf (bV (fV 1)) (sSet 2 (fLc [3] (fIt (fV 0)) (gV 3) bYes (fA listD (lCons (fV 3) lNil)))) sNil) (sSeq (sSet 4 (fA F__law_staying (lCons (fV 0) lNil))) (sSeq (sSet 5 (fA F_slim (lCons (fV 2) lNil))) (sSeq (sIf (bOr (bNot (bV (fA F__law_pairs (lCons (fV 5) (lCons (fV 4) lNil))))) (bNot (bV (fA F__law_pairs (lCons (fA F_slim (lCons (fV 5) lNil)) (lCons (fV 4) lNil)))))) (sRt (fC (.bl false))) sNil) (sSeq (sFor (fIt (fA F__law_every_lot (lCons (fV 0) lNil))) (gV 6) (sSeq (sSet 7 (fA F__law_reached (lCons (fV 0) (lCons (fV 6) lNil)))) (sIf (bOr (bNot (bV (fA F__law_same (lCons (fA F_told (lCons (fV 5) (lCons (fV 6) lNil))) (lCons (fV 7) lNil))))) (bNot (bV (fA F__law_same (lCons (fA F_told (lCons (fV 2) (lCons (fV 6) lNil))) (lCons (fV 7) lNil)))))) (sRt (fC (.bl false))) sNil))) (sSeq (sFor (fRg r1D (lCons (fA lenD (lCons (fV 4) lNil)) lNil)) (gV 8) (sIf (b2 nisD (fA F_follows (lCons (f2 addD (fSl (fV 4) oNo (oSo (fV 8))) (fSl (fV 4) (oSo (f2 addD (fV 8) (fC (.int 1)))) oNo)) (lCons (f2 getD (fV 4) (fV 8)) lNil))) (fC (.bl false))) (sRt (fC (.bl false))) sNil)) (sSeq (sFor (fIt (fV 0)) (gV 3) (sIf (b2 nisD (fA F_follows (lCons (fV 5) (lCons (fV 3) lNil))) (fC (.bl true))) (sRt (fC (.bl false))) sNil)) (sRt (fAnd (fB2 eqD (fLc [3] (fIt (fV 2)) (gV 3) bYes (fA listD (lCons (fV 3) lNil))) (fLc [3] (fIt (fV 0)) (gV 3) bYes (fA listD (lCons (fV 3) lNil)))) (fA F__law_pairs (lCons (fA F_slim (lCons (fV 2) lNil)) (lCons (fV 4) lNil)))))))))))))
def F__law_slim_holds : Fn := fnB 7 b__law_slim_holds
def b_law : En → SO := (sSeq (sSet 1 (fA F__law_digits (lCons (fA F__law_cell (lCons (fV 0) (lCons (fC (.int 0)) lNil))) (lCons (fLst (lCons (fC (.int 40320)) (lCons (fC (.int 720)) (lCons (fC (.int 40320)) (lCons (fC (.int 6)) lNil))))) lNil)))) (sSeq (sSet 2 (fA F__law_turned (lCons (fLst (lCons (fC (.str [97])) (lCons (fC (.str [98])) (lCons (fC (.str [99])) (lCons (fC (.str [100])) (lCons (fC (.str [101])) (lCons (fC (.str [102])) (lCons (fC (.str [103])) (lCons (fC (.str [104])) lNil))))))))) (lCons (f2 getD (fV 1) (fC (.int 0))) lNil)))) (sSeq (sSet 3 (fA F__law_turned (lCons (fLst (lCons (fC (.str [97])) (lCons (fC (.str [98])) (lCons (fC (.str [99])) (lCons (fC (.str [100])) (lCons (fC (.str [101])) (lCons (fC (.str [102])) (lCons (fC (.str [103])) (lCons (fC (.str [104])) lNil))))))))) (lCons (f2 getD (fV 1) (fC (.int 2))) lNil)))) (sSeq (sSet 4 (fA F__law_rulebook (lCons (fV 2) (lCons (fA F__law_cell (lCons (fV 0) (lCons (fC (.int 1)) lNil))) (lCons (fA F__law_cell (lCons (fV 0) (lCons (fC (.int 2)) lNil))) lNil))))) (sSeq (sSet 5 (fA F__law_rulebook (lCons (fV 3) (lCons (fA F__law_cell (lCons (fV 0) (lCons (fC (.int 3)) lNil))) (lCons (fA F__law_cell (lCons (fV 0) (lCons (fC (.int 4)) lNil))) lNil))))) (sSeq (sIf (bOr (bNot (bV (fA F__law_slim_holds (lCons (fV 4) (lCons (fC (.bl true)) lNil))))) (bNot (bV (fA F__law_slim_holds (lCons (fV 5) (lCons (fC (.bl false)) lNil)))))) (sRt (fC (.bl false))) sNil) (sSeq (sIf (bNot (bV (fA F__law_slim_holds (lCons (fA F__law_turned (lCons (fV 4) (lCons (f2 getD (fV 1) (fC (.int 1))) lNil))) (lCons (fC (.bl false)) lNil))))) (sRt (fC (.bl false))) sNil) (sSeq (sSet 6 (fSl (f2 addD (fV 4) (fV 5)) (oSo (f2 getD (fV 1) (fC (.int 3)))) (oSo (f2 addD (f2 getD (fV 1) (fC (.int 3))) (fC (.int 1)))))) (sRt (fAnd (fA F__law_slim_holds (lCons (fV 6) (lCons (fC (.bl true)) lNil))) (fAnd (fA F__law_slim_holds (lCons (fLst lNil) (lCons (fB2 eqD (f2 modD (f2 getD (fV 1) (fC (.int 3))) (fC (.int 2))) (fC (.int 0))) lNil))) (fA F__law_pairs (lCons (fA F_slim (lCons (fA listD (lCons (fV 4) lNil)) lNil)) (lCons (fA F__law_staying (lCons (fV 4) lNil)) lNil))))))))))))))
def F_law : Fn := fnB 6 b_law
end
end Pv

namespace Pv
namespace K5
/-! rules over letters: closures, and the slim rulebook -/
abbrev Rule := List Nat × Nat
def COL : List Nat := [97, 98, 99, 100, 101, 102, 103, 104]
def canon (t : List Nat) : List Nat := COL.filter fun c => decide (c ∈ t)
def wi (a b : List Nat) : Bool := a.all fun c => decide (c ∈ b)
theorem mem_canon {t : List Nat} {c : Nat} : c ∈ canon t ↔ c ∈ COL ∧ c ∈ t := by
  unfold canon; rw [List.mem_filter]; simp
theorem wi_iff {a b : List Nat} : wi a b = true ↔ ∀ c ∈ a, c ∈ b := by
  unfold wi; rw [List.all_eq_true]; simp
theorem canon_eq {a b : List Nat} (h : ∀ c, c ∈ canon a ↔ c ∈ canon b) : canon a = canon b := by
  unfold canon
  apply List.filter_congr
  intro c hc
  have := h c
  rw [mem_canon, mem_canon] at this
  rw [Bool.eq_iff_iff]
  simp only [decide_eq_true_eq]
  exact ⟨fun z => (this.mp ⟨hc, z⟩).2, fun z => (this.mpr ⟨hc, z⟩).2⟩
theorem canon_len (t : List Nat) : (canon t).length ≤ 8 := Nat.le_trans (List.length_filter_le _ _) (Nat.le_refl 8)
/-- what follows -/
inductive Der (rs : List Rule) (k : List Nat) : Nat → Prop
  | known {c : Nat} (h : c ∈ k) : Der rs k c
  | rule {r : Rule} (h : r ∈ rs) (hs : ∀ c ∈ r.1, Der rs k c) : Der rs k r.2
theorem Der.mono {rs rs' : List Rule} {k : List Nat} (h : ∀ r ∈ rs, r ∈ rs') {c : Nat} (d : Der rs k c) : Der rs' k c := by
  induction d with
  | known h => exact .known h
  | rule hr _ ih => exact .rule (h _ hr) ih
theorem Der.trans {rs : List Rule} {k k' : List Nat} (h : ∀ d ∈ k, Der rs k' d) {c : Nat} (d : Der rs k c) : Der rs k' c := by
  induction d with
  | known z => exact h _ z
  | rule hr _ ih => exact .rule hr ih
/-- a rule that follows from the others tells nothing new -/
theorem Der.less {a b : List Rule} {r : Rule} (h : Der (a ++ b) r.1 r.2) {k : List Nat} {c : Nat} (d : Der (a ++ r :: b) k c) : Der (a ++ b) k c := by
  induction d with
  | known z => exact .known z
  | @rule r' hr _ ih =>
    rcases List.mem_append.mp hr with z | z
    · exact .rule (List.mem_append_left _ z) ih
    · rcases List.mem_cons.mp z with z | z
      · subst z; exact h.trans ih
      · exact .rule (List.mem_append_right _ z) ih
/-- a closure of k, however it was found -/
structure Clo (rs : List Rule) (k z : List Nat) : Prop where
  sub : ∀ c ∈ z, c ∈ COL
  up : ∀ c ∈ k, c ∈ z
  snd : ∀ c ∈ z, Der rs k c
  form : z = k ∨ ((∃ w, z = canon w) ∧ ∃ c ∈ z, c ∉ k)
def Closed (rs : List Rule) (z : List Nat) : Prop := ∀ r ∈ rs, (∀ c ∈ r.1, c ∈ z) → r.2 ∈ z
theorem Clo.mem {rs : List Rule} {k z : List Nat} (h : Clo rs k z) (hc : Closed rs z) (c : Nat) : c ∈ z ↔ Der rs k c := by
  refine ⟨h.snd c, fun d => ?_⟩
  induction d with
  | known z => exact h.up _ z
  | rule hr _ ih => exact hc _ hr ih
theorem clo_uniq {rs rs' : List Rule} {k y z : List Nat} (hy : Clo rs k y) (cy : Closed rs y) (hz : Clo rs' k z) (cz : Closed rs' z) (e : ∀ c, Der rs k c ↔ Der rs' k c) : y = z := by
  have m : ∀ c, c ∈ y ↔ c ∈ z := fun c => by rw [hy.mem cy, hz.mem cz, e]
  rcases hy.form with rfl | ⟨⟨w, rfl⟩, c, hc, hn⟩
  · rcases hz.form with rfl | ⟨_, c, hc, hn⟩
    · rfl
    · exact absurd ((m c).mpr hc) hn
  · rcases hz.form with rfl | ⟨⟨w', rfl⟩, _⟩
    · exact absurd ((m c).mp hc) hn
    · exact canon_eq m
/-- one more letter -/
theorem Clo.step {rs : List Rule} {k z : List Nat} (h : Clo rs k z) {r : Rule} (hr : r ∈ rs) (hc : r.2 ∈ COL) (hw : wi r.1 z = true) (hn : r.2 ∉ z) : Clo rs k (canon (z ++ [r.2])) where
  sub := fun c hc => (mem_canon.mp hc).1
  up := fun c hk => mem_canon.mpr ⟨h.sub c (h.up c hk), List.mem_append_left _ (h.up c hk)⟩
  snd := fun c hm => by
    rcases List.mem_append.mp (mem_canon.mp hm).2 with x | x
    · exact h.snd c x
    · have : c = r.2 := by simpa using x
      subst this
      exact .rule hr fun d hd => h.snd d (wi_iff.mp hw d hd)
  form := .inr ⟨⟨_, rfl⟩, r.2, mem_canon.mpr ⟨hc, by simp⟩, fun x => hn (h.up _ x)⟩
theorem clo_start {rs : List Rule} {k : List Nat} (h : ∀ c ∈ k, c ∈ COL) : Clo rs k k := ⟨h, fun _ z => z, fun _ z => .known z, .inl rfl⟩
/-- how many letters are lacking -/
def miss (z : List Nat) : Nat := (COL.filter fun c => decide (c ∉ z)).length
theorem miss_le (z : List Nat) : miss z ≤ 8 := Nat.le_trans (List.length_filter_le _ _) (Nat.le_refl 8)
theorem filter_lt {α : Type} {p q : α → Bool} : ∀ {l : List α}, (∀ x ∈ l, q x = true → p x = true) → (∃ x ∈ l, p x = true ∧ q x = false) → (l.filter q).length < (l.filter p).length
  | [], _, h => by obtain ⟨x, hx, _⟩ := h; cases hx
  | a :: l, hi, h => by
    have le : (l.filter q).length ≤ (l.filter p).length := by
      have : ∀ m : List α, (∀ x ∈ m, q x = true → p x = true) → (m.filter q).length ≤ (m.filter p).length := by
        intro m
        induction m with
        | nil => intro _; exact Nat.le_refl _
        | cons b m ih =>
          intro hm
          have ih := ih fun x hx => hm x (List.mem_cons_of_mem _ hx)
          have hb := hm b List.mem_cons_self
          rw [List.filter_cons, List.filter_cons]
          cases hq : q b <;> cases hp : p b <;> simp_all <;> omega
      exact this l fun x hx => hi x (List.mem_cons_of_mem _ hx)
    have ha := hi a List.mem_cons_self
    obtain ⟨x, hx, h1, h2⟩ := h
    rw [List.filter_cons, List.filter_cons]
    rcases List.mem_cons.mp hx with rfl | hx
    · rw [h1, h2]; simp; omega
    · have ih := filter_lt (fun x hx => hi x (List.mem_cons_of_mem _ hx)) ⟨x, hx, h1, h2⟩
      cases hq : q a <;> cases hp : p a <;> simp_all <;> omega
theorem miss_lt {z : List Nat} {c : Nat} (hc : c ∈ COL) (hn : c ∉ z) (hs : ∀ d ∈ z, d ∈ COL) : miss (canon (z ++ [c])) < miss z := by
  refine filter_lt (fun x hx h => ?_) ⟨c, hc, by simpa using hn, ?_⟩
  · simp only [decide_eq_true_eq] at h ⊢
    exact fun hz => h (mem_canon.mpr ⟨hx, List.mem_append_left _ hz⟩)
  · simp only [decide_eq_false_iff_not, Decidable.not_not]
    exact mem_canon.mpr ⟨hc, by simp⟩
/-! the program's way: the first rule that may be used, again and again -/
def can (lot : List Nat) (r : Rule) : Bool := wi r.1 lot && !decide (r.2 ∈ lot)
def nextR (rs : List Rule) (lot : List Nat) : Option Nat := rs.findIdx? (can lot)
def run (rs : List Rule) : Nat → List Nat → List Nat × List Nat
  | 0, lot => ([], lot)
  | n + 1, lot => match nextR rs lot with
    | none => ([], lot)
    | some i => match rs[i]? with
      | none => ([], lot)
      | some r => (i :: (run rs n (canon (lot ++ [r.2]))).1, (run rs n (canon (lot ++ [r.2]))).2)
def T (rs : List Rule) (k : List Nat) : List Nat := (run rs 9 k).2
def Good (rs : List Rule) : Prop := ∀ r ∈ rs, r.2 ∈ COL ∧ ∀ c ∈ r.1, c ∈ COL
theorem next_some {rs : List Rule} {lot : List Nat} {i : Nat} (h : nextR rs lot = some i) : ∃ r, rs[i]? = some r ∧ r ∈ rs ∧ wi r.1 lot = true ∧ r.2 ∉ lot := by
  unfold nextR at h
  obtain ⟨hi, h1, _⟩ := List.findIdx?_eq_some_iff_getElem.mp h
  refine ⟨rs[i], List.getElem?_eq_getElem hi, List.getElem_mem hi, ?_⟩
  unfold can at h1
  simpa using h1
theorem next_none {rs : List Rule} {lot : List Nat} (h : nextR rs lot = none) : Closed rs lot := fun r hr hc => by
  unfold nextR at h
  have := List.findIdx?_eq_none_iff.mp h r hr
  unfold can at this
  rw [wi_iff.mpr hc] at this
  simpa using this
theorem run_ok {rs : List Rule} (g : Good rs) {k : List Nat} : ∀ (n : Nat) (lot : List Nat), Clo rs k lot → miss lot < n → Clo rs k (run rs n lot).2 ∧ Closed rs (run rs n lot).2
  | 0, _, _, h => absurd h (Nat.not_lt_zero _)
  | n + 1, lot, hc, hm => by
    unfold run
    cases hn : nextR rs lot with
    | none => exact ⟨hc, next_none hn⟩
    | some i =>
      obtain ⟨r, e, hr, hw, hx⟩ := next_some hn
      simp only [e]
      have lt := miss_lt (g r hr).1 hx hc.sub
      exact run_ok g n _ (hc.step hr (g r hr).1 hw hx) (by omega)
theorem T_ok {rs : List Rule} (g : Good rs) {k : List Nat} (hk : ∀ c ∈ k, c ∈ COL) : Clo rs k (T rs k) ∧ Closed rs (T rs k) :=
  run_ok g 9 k (clo_start hk) (Nat.lt_succ_of_le (miss_le k))
theorem T_mem {rs : List Rule} (g : Good rs) {k : List Nat} (hk : ∀ c ∈ k, c ∈ COL) (c : Nat) : c ∈ T rs k ↔ Der rs k c := (T_ok g hk).1.mem (T_ok g hk).2 c
theorem T_sub {rs : List Rule} (g : Good rs) {k : List Nat} (hk : ∀ c ∈ k, c ∈ COL) : ∀ c ∈ T rs k, c ∈ COL := (T_ok g hk).1.sub
/-! the law's way: rounds -/
def pass (rs : List Rule) (now : List Nat) : List Nat := rs.foldl (fun now r => if (!decide (r.2 ∈ now) && wi r.1 now) = true then canon (now ++ [r.2]) else now) now
def rounds (rs : List Rule) : Nat → List Nat → List Nat
  | 0, now => now
  | n + 1, now => if pass rs now = now then now else rounds rs n (pass rs now)
theorem pass_ok {all : List Rule} (g : Good all) {k : List Nat} : ∀ (rs : List Rule) (now : List Nat), (∀ r ∈ rs, r ∈ all) → Clo all k now → Clo all k (pass rs now) ∧ miss (pass rs now) ≤ miss now ∧ (pass rs now = now → Closed rs now) ∧ (pass rs now ≠ now → miss (pass rs now) < miss now)
  | [], now, _, h => ⟨h, Nat.le_refl _, fun _ r hr => by (cases hr), fun z => absurd rfl z⟩
  | r :: rs, now, hi, h => by
    have hr := hi r List.mem_cons_self
    have hi' := fun x hx => hi x (List.mem_cons_of_mem _ hx)
    by_cases hb : (!decide (r.2 ∈ now) && wi r.1 now) = true
    · have hb' := hb
      simp only [Bool.and_eq_true, Bool.not_eq_true', decide_eq_false_iff_not] at hb'
      have st := h.step hr (g r hr).1 hb'.2 hb'.1
      have lt := miss_lt (g r hr).1 hb'.1 h.sub
      obtain ⟨a, b, c, d⟩ := pass_ok g rs _ hi' st
      have e : pass (r :: rs) now = pass rs (canon (now ++ [r.2])) := by
        unfold pass; rw [List.foldl_cons, if_pos hb]
      rw [e]
      refine ⟨a, by omega, fun z => ?_, fun _ => by omega⟩
      rw [z] at b; omega
    · obtain ⟨a, b, c, d⟩ := pass_ok g rs now hi' h
      have e : pass (r :: rs) now = pass rs now := by
        unfold pass; rw [List.foldl_cons, if_neg hb]
      rw [e]
      refine ⟨a, b, fun z x hx hc => ?_, d⟩
      rcases List.mem_cons.mp hx with rfl | hx
      · apply Classical.byContradiction
        intro hn
        exact hb (by simp [hn, wi_iff.mpr hc])
      · exact c z x hx hc
theorem miss_zero {z : List Nat} (h : miss z = 0) : ∀ c ∈ COL, c ∈ z := fun c hc => by
  apply Classical.byContradiction
  intro hn
  have := List.eq_nil_of_length_eq_zero h
  have m : c ∈ COL.filter fun c => decide (c ∉ z) := List.mem_filter.mpr ⟨hc, by simpa using hn⟩
  rw [this] at m
  cases m
theorem rounds_ok {rs : List Rule} (g : Good rs) {k : List Nat} : ∀ (n : Nat) (now : List Nat), Clo rs k now → miss now ≤ n → Clo rs k (rounds rs n now) ∧ Closed rs (rounds rs n now)
  | 0, now, h, hm => by
    have hz : miss now = 0 := by omega
    exact ⟨h, fun r hr _ => miss_zero hz r.2 (g r hr).1⟩
  | n + 1, now, h, hm => by
    obtain ⟨a, b, c, d⟩ := pass_ok g rs now (fun _ z => z) h
    unfold rounds
    by_cases e : pass rs now = now
    · rw [if_pos e]; exact ⟨h, c e⟩
    · rw [if_neg e]
      have := d e
      exact rounds_ok g n _ a (by omega)
theorem rounds_T {rs : List Rule} (g : Good rs) {k : List Nat} (hk : ∀ c ∈ k, c ∈ COL) : rounds rs 8 k = T rs k := by
  obtain ⟨a, b⟩ := rounds_ok g 8 k (clo_start hk) (miss_le k)
  obtain ⟨c, d⟩ := T_ok g hk
  exact clo_uniq a b c d fun _ => Iff.rfl
/-! the slim rulebook -/
def red (others : List Rule) (r : Rule) : Bool := decide (r.2 ∈ T others r.1)
/-- from the last rule of pre on -/
def go : List Rule → List Rule → List Rule
  | [], post => post
  | r :: pre, post => if red (pre.reverse ++ post) r = true then go pre post else go pre (r :: post)
def slimS (rs : List Rule) : List Rule := go rs.reverse []
theorem Good.sub {rs rs' : List Rule} (g : Good rs) (h : ∀ r ∈ rs', r ∈ rs) : Good rs' := fun r hr => g r (h r hr)
theorem red_iff {others : List Rule} {r : Rule} (g : Good (r :: others)) : red others r = true ↔ Der others r.1 r.2 := by
  unfold red
  rw [decide_eq_true_eq]
  exact T_mem (g.sub fun x hx => List.mem_cons_of_mem _ hx) (g r List.mem_cons_self).2 _
/-- no rule of post follows from the rest -/
def Lean' (pre post : List Rule) : Prop := ∀ p1 x p2, post = p1 ++ x :: p2 → ¬ Der (pre ++ p1 ++ p2) x.1 x.2
theorem go_ok : ∀ (pre post : List Rule), Good (pre ++ post) → Lean' pre.reverse post → (∀ r ∈ go pre post, r ∈ pre ++ post) ∧ Lean' [] (go pre post) ∧ (∀ k c, Der (pre.reverse ++ post) k c ↔ Der (go pre post) k c) ∧ (go pre post).length ≤ pre.length + post.length
  | [], post, g, h => ⟨fun r hr => by unfold go at hr; simpa using hr, h, fun k c => by unfold go; simp, by unfold go; simp⟩
  | r :: pre, post, g, h => by
    have g1 : Good (r :: (pre.reverse ++ post)) := g.sub fun x hx => by simpa using hx
    unfold go
    by_cases hr : red (pre.reverse ++ post) r = true
    · rw [if_pos hr]
      have hd := (red_iff g1).mp hr
      obtain ⟨a, b, c, d⟩ := go_ok pre post (g.sub fun x hx => List.mem_cons_of_mem _ hx) (fun p1 x p2 e z => h p1 x p2 e (z.mono fun y hy => by
        simp only [List.reverse_cons, List.mem_append, List.mem_cons, List.mem_nil_iff, or_false] at hy ⊢
        rcases hy with (hy | hy) | hy
        · exact .inl (.inl (.inl hy))
        · exact .inl (.inr hy)
        · exact .inr hy))
      refine ⟨fun x hx => List.mem_cons_of_mem _ (a x hx), b, fun k c' => ?_, by simp only [List.length_cons]; omega⟩
      rw [← c k c', List.reverse_cons, List.append_assoc]
      exact ⟨fun z => Der.less hd z, fun z => z.mono fun y hy => by
        simp only [List.mem_append, List.mem_cons, List.mem_nil_iff, or_false] at hy ⊢
        rcases hy with hy | hy
        · exact .inl hy
        · exact .inr (.inr hy)⟩
    · rw [if_neg hr]
      obtain ⟨a, b, c, d⟩ := go_ok pre (r :: post) (g.sub fun x hx => by
        simp only [List.mem_append, List.mem_cons] at hx ⊢
        rcases hx with hx | hx | hx
        · exact .inl (.inr hx)
        · exact .inl (.inl hx)
        · exact .inr hx) (fun p1 x p2 e z => by
        cases p1 with
        | nil =>
          simp only [List.nil_append, List.cons.injEq] at e
          obtain ⟨rfl, rfl⟩ := e
          rw [List.append_nil] at z
          exact hr ((red_iff g1).mpr z)
        | cons y p1 =>
          simp only [List.cons_append, List.cons.injEq] at e
          obtain ⟨rfl, e⟩ := e
          refine h p1 x p2 e ?_
          rw [List.reverse_cons]
          refine z.mono fun w hw => ?_
          simp only [List.mem_append, List.mem_cons, List.mem_nil_iff, or_false] at hw ⊢
          rcases hw with (hw | hw | hw) | hw
          · exact .inl (.inl (.inl hw))
          · exact .inl (.inl (.inr hw))
          · exact .inl (.inr hw)
          · exact .inr hw)
      refine ⟨fun x hx => ?_, b, fun k c' => ?_, by simp only [List.length_cons] at d ⊢; omega⟩
      · have := a x hx
        simp only [List.mem_append, List.mem_cons, List.cons_append] at this ⊢
        rcases this with z | z | z
        · exact .inr (.inl z)
        · exact .inl z
        · exact .inr (.inr z)
      · rw [← c k c', List.reverse_cons, List.append_assoc]; rfl
theorem slim_ok {rs : List Rule} (g : Good rs) : (∀ r ∈ slimS rs, r ∈ rs) ∧ Lean' [] (slimS rs) ∧ (∀ k c, Der rs k c ↔ Der (slimS rs) k c) ∧ (slimS rs).length ≤ rs.length := by
  obtain ⟨a, b, c, d⟩ := go_ok rs.reverse [] (g.sub fun x hx => by simpa using hx) (fun p1 x p2 e => by simp at e)
  refine ⟨fun r hr => by simpa using a r hr, b, fun k c' => ?_, by unfold slimS; simpa using d⟩
  have := c k c'
  unfold slimS
  simpa using this
theorem go_same : ∀ (pre post : List Rule), Good (pre ++ post) → (∀ p1 x p2, pre = p1 ++ x :: p2 → ¬ Der (p2.reverse ++ p1.reverse ++ post) x.1 x.2) → go pre post = pre.reverse ++ post
  | [], post, _, _ => rfl
  | r :: pre, post, g, h => by
    have g1 : Good (r :: (pre.reverse ++ post)) := g.sub fun x hx => by simpa using hx
    unfold go
    rw [if_neg fun hr => h [] r pre rfl (by simpa using (red_iff g1).mp hr)]
    rw [go_same pre (r :: post) (g.sub fun x hx => by
        simp only [List.mem_append, List.mem_cons] at hx ⊢
        rcases hx with hx | hx | hx
        · exact .inl (.inr hx)
        · exact .inl (.inl hx)
        · exact .inr hx) fun p1 x p2 e z => h (r :: p1) x p2 (by rw [e]; rfl) (by simpa using z)]
    simp
theorem slim_idem {rs : List Rule} (g : Good rs) : slimS (slimS rs) = slimS rs := by
  obtain ⟨a, b, c, d⟩ := slim_ok g
  have := go_same (slimS rs).reverse [] (g.sub fun x hx => a x (by simpa using hx)) (fun p1 x p2 e z => by
    have e2 : slimS rs = p2.reverse ++ x :: p1.reverse := by
      have := congrArg List.reverse e
      simpa using this
    exact b p2.reverse x p1.reverse e2 (by simpa using z))
  unfold slimS at this ⊢
  simpa using this
theorem slim_T {rs : List Rule} (g : Good rs) {k : List Nat} (hk : ∀ c ∈ k, c ∈ COL) : T (slimS rs) k = T rs k := by
  obtain ⟨a, b, c, d⟩ := slim_ok g
  obtain ⟨x1, x2⟩ := T_ok (g.sub a) hk
  obtain ⟨y1, y2⟩ := T_ok g hk
  exact clo_uniq x1 x2 y1 y2 fun z => (c k z).symm
end K5
end Pv

namespace Pv
open PySem PySem.Spec PyProof.Rows L2
open L2 (upd)
open K5
namespace K5
def itm (b : Bool) (r : Rule) : D := if b = true then .lst [.str r.1, .str [r.2]] else .tup [.str r.1, .str [r.2]]
def cont (c : Bool) (ds : List D) : D := if c = true then .lst ds else .tup ds
@[simp] theorem itm0 (b : Bool) (r : Rule) : getD (itm b r) (.int 0) = .ok (.str r.1) := by cases b <;> simp [itm]
@[simp] theorem itm1 (b : Bool) (r : Rule) : getD (itm b r) (.int 1) = .ok (.str [r.2]) := by cases b <;> simp [itm]
@[simp] theorem itm_tup (b : Bool) (r : Rule) : tupleD [itm b r] = .ok (itm false r) := by cases b <;> simp [itm]
@[simp] theorem itm_lst (b : Bool) (r : Rule) : listD [itm b r] = .ok (itm true r) := by cases b <;> simp [itm]
@[simp] theorem cont_len (c : Bool) (ds : List D) : lenD [cont c ds] = .ok (.int ds.length) := by cases c <;> simp [cont]
@[simp] theorem cont_items (c : Bool) (ds : List D) : itemsD (cont c ds) = .ok ds := by cases c <;> simp [cont]
theorem cont_get (c : Bool) (ds : List D) (i : Nat) : getD (cont c ds) (.int i) = optR ds[i]? := by
  cases c
  · exact getD_tup ds i
  · exact getD_lst ds i
@[simp] theorem cont_tup (c : Bool) (ds : List D) : tupleD [cont c ds] = .ok (.tup ds) := by cases c <;> simp [cont]
def Small (l : List Nat) : Prop := l.length ≤ 1000
theorem canon_small (t : List Nat) : Small (canon t) := Nat.le_trans (canon_len t) (by decide)
theorem collected_ok (t : List Nat) : F_collected [.str t] = .ok (.str (canon t)) := by
  unfold F_collected b_collected
  rw [fnB_e]
  have lc : fLc [1] (fIt (fC (.str [97, 98, 99, 100, 101, 102, 103, 104]))) (gV 1) (b2 inD (fV 1) (fV 0)) (fV 1) [some (.str t), none] = .ok (.lst ((canon t).map fun c => .str [c])) :=
    lc_map COL (fun c => .str [c]) (fun c => decide (c ∈ t)) (fun c => .str [c]) (by simp [COL]) (by decide) fun x hx => ⟨_, rfl, by simp [wipeE], fun _ => by simp [wipeE]⟩
  simp [lc, joinD_ch (canon t) (Nat.le_trans (canon_len t) (by decide))]
theorem union_ok (a b : List Nat) (h : a.length + b.length ≤ 16777216) : F_union [.str a, .str b] = .ok (.str (canon (a ++ b))) := by
  unfold F_union b_union
  rw [fnB_e]
  simp [h, collected_ok]
theorem lot_ok (t : List Nat) : F__law_lot [.str t] = .ok (.str (canon t)) := by
  unfold F__law_lot b__law_lot
  rw [fnB_e]
  have lc : fLc [1] (fIt (fC (.str [97, 98, 99, 100, 101, 102, 103, 104]))) (gV 1) (b2 inD (fV 1) (fV 0)) (fV 1) [some (.str t), none] = .ok (.lst ((canon t).map fun c => .str [c])) :=
    lc_map COL (fun c => .str [c]) (fun c => decide (c ∈ t)) (fun c => .str [c]) (by simp [COL]) (by decide) fun x hx => ⟨_, rfl, by simp [wipeE], fun _ => by simp [wipeE]⟩
  simp [lc, joinD_ch (canon t) (Nat.le_trans (canon_len t) (by decide))]
theorem filt_wi (a b : List Nat) : ((a.filter fun c => !decide (c ∈ b)) == []) = wi a b := by
  rw [Bool.eq_iff_iff, beq_iff_eq, wi_iff, List.filter_eq_nil_iff]
  simp
theorem filt_wi0 (a b : List Nat) : (((a.filter fun c => !decide (c ∈ b)).length : Int) == 0) = wi a b := by
  rw [← filt_wi, Bool.eq_iff_iff, beq_iff_eq, beq_iff_eq, ← List.length_eq_zero_iff]
  omega
theorem minus_ok (a b : List Nat) (h : a.length ≤ 16777216) : F_minus [.str a, .str b] = .ok (.str (a.filter fun c => !decide (c ∈ b))) := by
  unfold F_minus b_minus
  rw [fnB_e]
  have lc : fLc [2] (fIt (fV 0)) (gV 2) (b2 ninD (fV 2) (fV 1)) (fV 2) [some (.str a), some (.str b), none] = .ok (.lst ((a.filter fun c => !decide (c ∈ b)).map fun c => .str [c])) :=
    lc_map a (fun c => .str [c]) (fun c => !decide (c ∈ b)) (fun c => .str [c]) (by simp) h fun x hx => ⟨_, rfl, by simp [wipeE], fun _ => by simp [wipeE]⟩
  have jn := joinD_ch (a.filter fun c => !decide (c ∈ b)) (Nat.le_trans (List.length_filter_le _ _) h)
  simp only [sRt_e, fM_e, fC_e, R.bind_ok, tyD_str, if_true, lCons_e, lc, lNil_e, jn, List.map_cons, List.map_nil, List.replicate, List.cons_append, List.nil_append, so_ok, out_rt]
theorem within_ok (a b : List Nat) (h : a.length ≤ 16777216) : F_within [.str a, .str b] = .ok (.bl (wi a b)) := by
  unfold F_within b_within
  rw [fnB_e]
  have m := minus_ok a b h
  have f := filt_wi a b
  simp only [sRt_e, fB2_e, fA_e, lCons_e, fV_e, lNil_e, R.bind_ok, List.map_cons, List.map_nil, List.replicate, List.append_nil, List.getElem?_cons_zero, List.getElem?_cons_succ, getV_some, m, fC_e, eqD_str, f, so_ok, out_rt]
theorem lwithin_ok (a b : List Nat) (h : a.length ≤ 16777216) : F__law_within [.str a, .str b] = .ok (.bl (wi a b)) := by
  unfold F__law_within b__law_within
  rw [fnB_e]
  have lc : fLc [2] (fIt (fV 0)) (gV 2) (b2 ninD (fV 2) (fV 1)) (fV 2) [some (.str a), some (.str b), none] = .ok (.lst ((a.filter fun c => !decide (c ∈ b)).map fun c => .str [c])) :=
    lc_map a (fun c => .str [c]) (fun c => !decide (c ∈ b)) (fun c => .str [c]) (by simp) h fun x hx => ⟨_, rfl, by simp [wipeE], fun _ => by simp [wipeE]⟩
  have f := filt_wi0 a b
  simp only [sRt_e, fB2_e, fA_e, lCons_e, fC_e, lc, lNil_e, R.bind_ok, List.map_cons, List.map_nil, List.replicate, List.cons_append, List.nil_append, lenD_lst, List.length_map, eqD_int, f, so_ok, out_rt]
def nextD : Option Nat → D
  | none => .non
  | some i => .int i
def SmallR (rs : List Rule) : Prop := rs.length ≤ 1000 ∧ ∀ r ∈ rs, Small r.1
theorem next_ok (c b : Bool) (rs : List Rule) (lot : List Nat) (hs : SmallR rs) : F_next_rule [cont c (rs.map (itm b)), .str lot] = .ok (nextD (nextR rs lot)) := by
  unfold F_next_rule b_next_rule
  rw [fnB_e]
  have fr := for_any (g := gV 2) (fb := (sIf (bAnd (bV (fA F_within (lCons (f2 getD (f2 getD (fV 0) (fV 2)) (fC (.int 0))) (lCons (fV 1) lNil)))) (b2 ninD (f2 getD (f2 getD (fV 0) (fV 2)) (fC (.int 1))) (fV 1))) (sRt (fV 2)) sNil))
    (fun i ρ => (∀ j (r : Rule), j < i → rs[j]? = some r → can lot r = false) ∧ ∃ x, ρ = [some (cont c (rs.map (itm b))), some (.str lot), x]) (fun _ => False) (fun v => ∃ i, nextR rs lot = some i ∧ v = .int i)
    ((List.range rs.length).map fun (k : Nat) => .int (k : Int)) 0 [some (cont c (rs.map (itm b))), some (.str lot), none] ⟨fun j r h => absurd h (Nat.not_lt_zero _), none, rfl⟩ (by
      rintro i d ρ hd ⟨hp, x, rfl⟩
      rw [Nat.zero_add] at hp ⊢
      rw [List.getElem?_map] at hd
      obtain ⟨j, ej, rfl⟩ := Option.map_eq_some_iff.mp hd
      obtain ⟨hlt, ej⟩ := List.getElem?_eq_some_iff.mp ej
      rw [List.length_range] at hlt
      have ej : j = i := by simpa using ej.symm
      subst ej
      refine ⟨_, rfl, ?_⟩
      have g1 : getD (cont c (rs.map (itm b))) (.int (j : Int)) = .ok (itm b rs[j]) := by rw [cont_get, List.getElem?_map, List.getElem?_eq_getElem hlt]; rfl
      have w := within_ok rs[j].1 lot (Nat.le_trans (hs.2 _ (List.getElem_mem hlt)) (by decide))
      have body : (sIf (bAnd (bV (fA F_within (lCons (f2 getD (f2 getD (fV 0) (fV 2)) (fC (.int 0))) (lCons (fV 1) lNil)))) (b2 ninD (f2 getD (f2 getD (fV 0) (fV 2)) (fC (.int 1))) (fV 1))) (sRt (fV 2)) sNil) [some (cont c (rs.map (itm b))), some (.str lot), some (.int (j : Int))] =
          if can lot rs[j] = true then .rt (.int j) else .nx [some (cont c (rs.map (itm b))), some (.str lot), some (.int (j : Int))] := by
        unfold can
        cases hw : wi rs[j].1 lot <;> simp [g1, w, hw]
      show SO.run ((sIf _ _ _) [some (cont c (rs.map (itm b))), some (.str lot), some (.int (j : Int))]) _ _ _
      rw [body]
      cases hc : can lot rs[j] with
      | true =>
        refine ⟨j, ?_, rfl⟩
        unfold nextR
        exact List.findIdx?_eq_some_iff_getElem.mpr ⟨hlt, hc, fun k hk => by
          rw [hp k rs[k] hk (List.getElem?_eq_getElem _)]; simp⟩
      | false =>
        refine ⟨fun k r hk e => ?_, _, rfl⟩
        by_cases h2 : k = j
        · subst h2; rw [List.getElem?_eq_getElem hlt] at e; cases e; exact hc
        · exact hp k r (by omega) e)
  have r1 := r1D_nat rs.length (by have := hs.1; omega)
  rcases fr with ⟨ρ', e, h⟩ | ⟨v, e, i, hi, rfl⟩
  · rcases h with ⟨hp, x, rfl⟩ | h
    · have hn : nextR rs lot = none := by
        unfold nextR
        refine List.findIdx?_eq_none_iff.mpr fun r hr => ?_
        obtain ⟨j, hj, rfl⟩ := List.mem_iff_getElem.mp hr
        exact hp j _ (by simpa using hj) (List.getElem?_eq_getElem hj)
      simp [r1, e, hn, nextD]
    · exact h.elim
  · simp [r1, e, hi, nextD]
end K5
end Pv

namespace Pv
open PySem PySem.Spec PyProof.Rows L2
open L2 (upd)
open K5
namespace K5
theorem whN_e (c : En → R Bool) (fb : En → SO) (n : Nat) (ρ ρ' : En) (hc : c ρ = .ok true) (hb : fb ρ = .nx ρ') : whN c fb (n + 1) ρ = whN c fb n ρ' := by
  rw [whN.eq_2, hc]; simp only [hb]
theorem whN_stop (c : En → R Bool) (fb : En → SO) (n : Nat) (ρ : En) (hc : c ρ = .ok false) : whN c fb (n + 1) ρ = .nx ρ := by
  rw [whN.eq_2, hc]
theorem next_lt {rs : List Rule} {lot : List Nat} {i : Nat} (h : nextR rs lot = some i) : i < rs.length := by
  obtain ⟨r, e, _⟩ := next_some h
  exact (List.getElem?_eq_some_iff.mp e).1
theorem run_lt (rs : List Rule) : ∀ (n : Nat) (lot : List Nat), ∀ i ∈ (run rs n lot).1, i < rs.length
  | 0, lot, i, h => by simp [run] at h
  | n + 1, lot, i, h => by
    unfold run at h
    cases hn : nextR rs lot with
    | none => rw [hn] at h; simp at h
    | some k =>
      obtain ⟨r, e, _⟩ := next_some hn
      rw [hn] at h
      simp only [e, List.mem_cons] at h
      rcases h with rfl | h
      · exact next_lt hn
      · exact run_lt rs n _ i h
theorem run_len (rs : List Rule) : ∀ (n : Nat) (lot : List Nat), (run rs n lot).1.length ≤ n
  | 0, lot => by simp [run]
  | n + 1, lot => by
    unfold run
    cases hn : nextR rs lot with
    | none => simp
    | some k =>
      obtain ⟨r, e, _⟩ := next_some hn
      simp only [e, List.length_cons]
      have := run_len rs n (canon (lot ++ [r.2]))
      omega
theorem getR (c b : Bool) (rs : List Rule) (i : Nat) (h : i < rs.length) : getD (cont c (rs.map (itm b))) (.int (i : Int)) = .ok (itm b rs[i]) := by
  rw [cont_get, List.getElem?_map, List.getElem?_eq_getElem h]; rfl
theorem tell_loop (c b : Bool) (rs : List Rule) (hs : SmallR rs) (g : Good rs) (K : List Nat) : ∀ (n : Nat) (lot : List Nat) (steps : List D), (∀ c ∈ lot, c ∈ COL) → Small lot → miss lot < n → steps.length + n ≤ 1000 →
    whN (b2 nisD (fV 4) (fC .non)) (sSeq (sM1 3 appD (fV 4)) (sSeq (sSet 2 (fA F_union (lCons (fV 2) (lCons (f2 getD (f2 getD (fV 0) (fV 4)) (fC (.int 1))) lNil)))) (sSet 4 (fA F_next_rule (lCons (fV 0) (lCons (fV 2) lNil)))))) n
      [some (cont c (rs.map (itm b))), some (.str K), some (.str lot), some (.lst steps), some (nextD (nextR rs lot))] =
    .nx [some (cont c (rs.map (itm b))), some (.str K), some (.str (run rs n lot).2), some (.lst (steps ++ (run rs n lot).1.map fun (i : Nat) => D.int i)), some .non]
  | 0, lot, steps, _, _, h, _ => absurd h (Nat.not_lt_zero _)
  | n + 1, lot, steps, hl, hsm, hm, hst => by
    cases hn : nextR rs lot with
    | none =>
      rw [whN_stop _ _ _ _ (by simp [nextD])]
      unfold run
      simp [hn, nextD]
    | some i =>
      obtain ⟨r, e, hr, hw, hx⟩ := next_some hn
      have hi := next_lt hn
      have er : rs[i] = r := by rw [List.getElem?_eq_getElem hi] at e; simpa using e
      have gr := getR c b rs i hi
      have lt := miss_lt (g r hr).1 hx hl
      have uo := union_ok lot [r.2] (by unfold Small at hsm; simp; omega)
      have no := next_ok c b rs (canon (lot ++ [r.2])) hs
      have ap := appD_e steps (.int (i : Int)) (by omega)
      rw [whN_e _ _ _ _ [some (cont c (rs.map (itm b))), some (.str K), some (.str (canon (lot ++ [r.2]))), some (.lst (steps ++ [.int (i : Int)])), some (nextD (nextR rs (canon (lot ++ [r.2]))))] (by simp [nextD]) (by
        simp [nextD, ap, gr, er, uo, no])]
      rw [tell_loop c b rs hs g K n _ _ (fun x hx => (mem_canon.mp hx).1) (canon_small _) (by omega) (by simp; omega)]
      conv => rhs; unfold run
      simp [hn, e]
theorem telling_ok (c b : Bool) (rs : List Rule) (hs : SmallR rs) (g : Good rs) (k : List Nat) (hk : ∀ c ∈ k, c ∈ COL) (hsk : Small k) : F_telling [cont c (rs.map (itm b)), .str k] = .ok (.tup ((run rs 9 k).1.map fun (i : Nat) => D.int i)) := by
  unfold F_telling b_telling
  rw [fnB_e]
  have no := next_ok c b rs k hs
  have wl := tell_loop c b rs hs g k 9 k [] hk hsk (Nat.lt_succ_of_le (miss_le k)) (by simp)
  have wh := sWh_of wl (fun z => nomatch z)
  simp [no, wh]
def foldT (rs : List Rule) (lot : List Nat) (i : Nat) : List Nat := match rs[i]? with
  | some r => canon (lot ++ [r.2])
  | none => lot
theorem run_fold (rs : List Rule) : ∀ (n : Nat) (lot : List Nat), (run rs n lot).1.foldl (foldT rs) lot = (run rs n lot).2
  | 0, lot => by simp [run]
  | n + 1, lot => by
    unfold run
    cases hn : nextR rs lot with
    | none => simp
    | some k =>
      obtain ⟨r, e, _⟩ := next_some hn
      simp only [e, List.foldl_cons]
      have : foldT rs lot k = canon (lot ++ [r.2]) := by unfold foldT; rw [e]
      rw [this]
      exact run_fold rs n _
theorem fold_small (rs : List Rule) : ∀ (is : List Nat) (lot : List Nat), Small lot → Small (is.foldl (foldT rs) lot)
  | [], lot, h => h
  | i :: is, lot, h => by
    rw [List.foldl_cons]
    refine fold_small rs is _ ?_
    unfold foldT
    split
    · exact canon_small _
    · exact h
theorem told_ok (c b : Bool) (rs : List Rule) (hs : SmallR rs) (g : Good rs) (k : List Nat) (hk : ∀ c ∈ k, c ∈ COL) (hsk : Small k) : F_told [cont c (rs.map (itm b)), .str k] = .ok (.str (T rs k)) := by
  unfold F_told b_told
  rw [fnB_e]
  have tl := telling_ok c b rs hs g k hk hsk
  have hlt := run_lt rs 9 k
  have fo := run_fold rs 9 k
  obtain ⟨is, his⟩ : ∃ is, is = (run rs 9 k).1 := ⟨_, rfl⟩
  rw [← his] at tl hlt fo
  obtain ⟨ρ', e1, x, rfl⟩ := for_inv (g := gV 3) (fb := sSet 2 (fA F_union (lCons (fV 2) (lCons (f2 getD (f2 getD (fV 0) (fV 3)) (fC (.int 1))) lNil))))
    (fun i ρ => ∃ x, ρ = [some (cont c (rs.map (itm b))), some (.str k), some (.str ((is.take i).foldl (foldT rs) k)), x]) (is.map fun (i : Nat) => D.int i) [some (cont c (rs.map (itm b))), some (.str k), some (.str k), none] ⟨none, rfl⟩ (by
      rintro i d ρ hd ⟨x, rfl⟩
      rw [List.getElem?_map] at hd
      obtain ⟨j, ej, rfl⟩ := Option.map_eq_some_iff.mp hd
      have hj := hlt j (List.mem_of_getElem? ej)
      have gr := getR c b rs j hj
      have sm := fold_small rs (is.take i) k hsk
      have uo := union_ok ((is.take i).foldl (foldT rs) k) [rs[j].2] (by unfold Small at sm; simp; omega)
      refine ⟨_, rfl, ?_⟩
      have tk : (is.take (i + 1)).foldl (foldT rs) k = canon ((is.take i).foldl (foldT rs) k ++ [rs[j].2]) := by
        rw [List.take_add_one, ej, List.foldl_append]
        show foldT rs _ j = _
        unfold foldT
        rw [List.getElem?_eq_getElem hj]
      simp [gr, uo, tk])
  rw [List.length_map, List.take_length, fo] at e1
  have e1 := e1
  simp [tl, e1, T]
theorem follows_ok (c b b' : Bool) (rs : List Rule) (hs : SmallR rs) (g : Good rs) (r : Rule) (gr : Good [r]) (hr : Small r.1) : F_follows [cont c (rs.map (itm b)), itm b' r] = .ok (.bl (red rs r)) := by
  unfold F_follows b_follows
  rw [fnB_e]
  have t := told_ok c b rs hs g r.1 (gr r List.mem_cons_self).2 hr
  simp [t, red]
end K5
end Pv

namespace Pv
open PySem PySem.Spec PyProof.Rows L2
open L2 (upd)
open K5
namespace K5
theorem r3D_down (n : Nat) (h : n < 2 ^ 61) : r3D [.int ((n : Int) - 1), .int (-1), .int (-1)] = .ok ((List.range n).map fun (k : Nat) => .int ((n : Int) - 1 + k * (-1))) := by
  show (if r62 ((n : Int) - 1) = true ∧ r62 (-1) = true ∧ (-1 : Int) = -1 then R.ok ((List.range (((n : Int) - 1) - (-1)).toNat).map fun (k : Nat) => D.int (((n : Int) - 1) + k * (-1))) else .bad) = _
  rw [if_pos ⟨by unfold r62; simp; omega, by unfold r62; simp, rfl⟩, show (((n : Int) - 1) - (-1)).toNat = n by omega]
theorem cut_to {α : Type} (xs : List α) (i : Nat) : cutL xs none (some (i : Int)) = xs.take i := by
  unfold cutL HT.sIx
  simp only [List.drop_zero]
  rw [if_neg (by omega)]
  simp only [Int.toNat_natCast, Nat.sub_zero]
  by_cases h : i ≤ xs.length
  · rw [Nat.min_eq_left h]
  · rw [Nat.min_eq_right (by omega), List.take_length, List.take_of_length_le (by omega)]
theorem cut_from {α : Type} (xs : List α) (i : Nat) : cutL xs (some (i : Int)) none = xs.drop i := by
  unfold cutL HT.sIx
  simp only
  rw [if_neg (by omega)]
  simp only [Int.toNat_natCast]
  rw [List.take_of_length_le (by rw [List.length_drop]; omega)]
  by_cases h : i ≤ xs.length
  · rw [Nat.min_eq_left h]
  · rw [Nat.min_eq_right (by omega), List.drop_length, List.drop_eq_nil_of_le (by omega)]
theorem split_at (rs : List Rule) (i : Nat) (h : i < rs.length) : ∃ r pre, rs.reverse.drop i = r :: pre ∧ pre = rs.reverse.drop (i + 1) ∧ pre.length = rs.length - 1 - i ∧ r ∈ rs := by
  have hl : i < rs.reverse.length := by simpa using h
  refine ⟨rs.reverse[i], rs.reverse.drop (i + 1), List.drop_eq_getElem_cons hl, rfl, by simp; omega, ?_⟩
  have := List.getElem_mem hl
  simpa using this
theorem SmallR.of {rs : List Rule} {rs' : List Rule} (h : SmallR rs) (hl : rs'.length ≤ rs.length) (hm : ∀ r ∈ rs', r ∈ rs) : SmallR rs' := ⟨Nat.le_trans hl h.1, fun r hr => h.2 r (hm r hr)⟩
/-- what is known in the middle of either loop -/
structure Mid (rs : List Rule) (i : Nat) (post : List Rule) : Prop where
  go : slimS rs = go (rs.reverse.drop i) post
  sub : ∀ r ∈ post, r ∈ rs
  len : post.length ≤ i
theorem Mid.step {rs : List Rule} {i : Nat} {post : List Rule} (m : Mid rs i post) {r : Rule} {pre : List Rule} (e : rs.reverse.drop i = r :: pre) (e2 : pre = rs.reverse.drop (i + 1)) (hr : r ∈ rs) : Mid rs (i + 1) (if red (pre.reverse ++ post) r = true then post else r :: post) := by
  refine ⟨?_, fun x hx => ?_, ?_⟩
  · rw [m.go, e, K5.go, ← e2]
    split <;> rfl
  · split at hx
    · exact m.sub x hx
    · rcases List.mem_cons.mp hx with rfl | hx
      · exact hr
      · exact m.sub x hx
  · have := m.len
    split
    · omega
    · simp; omega
theorem slim_run (c b : Bool) (rs : List Rule) (hs : SmallR rs) (g : Good rs) : F_slim [cont c (rs.map (itm b))] = .ok (.tup ((slimS rs).map (itm false))) := by
  unfold F_slim b_slim
  rw [fnB_e]
  have lc : fLc [2] (fIt (fV 0)) (gV 2) bYes (fA tupleD (lCons (fV 2) lNil)) [some (cont c (rs.map (itm b))), none, none, none, none] = .ok (.lst (rs.map (itm false))) :=
    lc_all rs (itm b) (itm false) (by simp) (by have := hs.1; omega) fun x hx => ⟨_, rfl, by simp [wipeE]⟩
  obtain ⟨ρ', e1, post, x, y, m, rfl⟩ := for_inv (g := gV 3) (fb := (sSeq (sSet 4 (f2 addD (fSl (fV 1) oNo (oSo (fV 3))) (fSl (fV 1) (oSo (f2 addD (fV 3) (fC (.int 1)))) oNo))) (sIf (bV (fA F_follows (lCons (fV 4) (lCons (f2 getD (fV 1) (fV 3)) lNil)))) (sSet 1 (fV 4)) sNil)))
    (fun i ρ => ∃ post x y, Mid rs i post ∧ ρ = [some (cont c (rs.map (itm b))), some (.lst (((rs.reverse.drop i).reverse ++ post).map (itm false))), none, x, y])
    ((List.range rs.length).map fun (k : Nat) => .int ((rs.length : Int) - 1 + k * (-1))) [some (cont c (rs.map (itm b))), some (.lst (rs.map (itm false))), none, none, none]
    ⟨[], none, none, ⟨by simp [slimS], fun r h => by (cases h), Nat.le_refl 0⟩, by simp⟩ (by
      rintro i d ρ hd ⟨post, x, y, m, rfl⟩
      rw [List.getElem?_map] at hd
      obtain ⟨j, ej, rfl⟩ := Option.map_eq_some_iff.mp hd
      obtain ⟨hlt, ej⟩ := List.getElem?_eq_some_iff.mp ej
      rw [List.length_range] at hlt
      have ej : j = i := by simpa using ej.symm
      subst ej
      obtain ⟨r, pre, e, e2, hl, hr⟩ := split_at rs j hlt
      have ix : ((rs.length : Int) - 1 + (j : Int) * (-1)) = ((pre.length : Nat) : Int) := by omega
      have ks : (rs.reverse.drop j).reverse ++ post = pre.reverse ++ r :: post := by rw [e]; simp
      have st := m.step e e2 hr
      have hpl : ((pre.reverse ++ post)).length ≤ rs.length := by simp; have := m.len; omega
      have hm : ∀ z ∈ pre.reverse ++ post, z ∈ rs := fun z hz => by
        rcases List.mem_append.mp hz with hz | hz
        · have : z ∈ rs.reverse.drop (j + 1) := by rw [← e2]; simpa using hz
          simpa using List.mem_of_mem_drop this
        · exact m.sub z hz
      have fo := follows_ok true false false (pre.reverse ++ post) (hs.of hpl hm) (g.sub hm) r (fun z hz => by
        have : z = r := by simpa using hz
        subst this; exact g z hr) (hs.2 r hr)
      have c1 := cut_to ((pre.reverse ++ r :: post).map (itm false)) pre.length
      have c2 := cut_from ((pre.reverse ++ r :: post).map (itm false)) (pre.length + 1)
      have t1 : ((pre.reverse ++ r :: post).map (itm false)).take pre.length = pre.reverse.map (itm false) := by
        rw [List.map_append, List.take_append_of_le_length (by simp), List.take_of_length_le (by simp)]
      have t2 : ((pre.reverse ++ r :: post).map (itm false)).drop (pre.length + 1) = post.map (itm false) := by
        rw [List.map_append, List.drop_append]
        simp
      have gt : getD (.lst ((pre.reverse ++ r :: post).map (itm false))) (.int (pre.length : Int)) = .ok (itm false r) := by
        rw [getD_lst, List.getElem?_map, List.getElem?_append_right (by simp)]
        simp
      rw [t1] at c1
      rw [t2] at c2
      have sz : (pre.reverse.map (itm false)).length + (post.map (itm false)).length ≤ 16777216 := by
        have := hs.1
        simp at hpl ⊢; omega
      have ad : addD (.lst (pre.reverse.map (itm false))) (.lst (post.map (itm false))) = .ok (.lst ((pre.reverse ++ post).map (itm false))) := by
        rw [addD_lst, if_pos sz, List.map_append]
      have fo : F_follows [.lst ((pre.reverse ++ post).map (itm false)), itm false r] = .ok (.bl (red (pre.reverse ++ post) r)) := fo
      refine ⟨_, rfl, ?_⟩
      rw [ks, ix]
      show SO.run ((sSeq _ _) [some (cont c (rs.map (itm b))), some (.lst ((pre.reverse ++ r :: post).map (itm false))), none, some (.int (pre.length : Int)), y]) _ _ _
      have s1 : sSet 4 (f2 addD (fSl (fV 1) oNo (oSo (fV 3))) (fSl (fV 1) (oSo (f2 addD (fV 3) (fC (.int 1)))) oNo)) [some (cont c (rs.map (itm b))), some (.lst ((pre.reverse ++ r :: post).map (itm false))), none, some (.int (pre.length : Int)), y] =
          .nx [some (cont c (rs.map (itm b))), some (.lst ((pre.reverse ++ r :: post).map (itm false))), none, some (.int (pre.length : Int)), some (.lst ((pre.reverse ++ post).map (itm false)))] := by
        simp only [sSet_e, f2_e, fSl_e, fV_e, oNo_e, oSo_e, List.getElem?_cons_zero, List.getElem?_cons_succ, getV_some, R.bind_ok, soK_e, sliceD_lst, fC_e, addD_int]
        rw [show ((pre.length : Int) + 1) = ((pre.length + 1 : Nat) : Int) by omega, c1, c2]
        simp only [R.bind_ok, ad, so_ok, List.set_cons_succ, List.set_cons_zero]
      rw [sSeq_e, s1, seq_nx]
      have s2 : sIf (bV (fA F_follows (lCons (fV 4) (lCons (f2 getD (fV 1) (fV 3)) lNil)))) (sSet 1 (fV 4)) sNil [some (cont c (rs.map (itm b))), some (.lst ((pre.reverse ++ r :: post).map (itm false))), none, some (.int (pre.length : Int)), some (.lst ((pre.reverse ++ post).map (itm false)))] =
          .nx [some (cont c (rs.map (itm b))), some (.lst ((pre.reverse ++ (if red (pre.reverse ++ post) r = true then post else r :: post)).map (itm false))), none, some (.int (pre.length : Int)), some (.lst ((pre.reverse ++ post).map (itm false)))] := by
        simp only [sIf_e, bV_e, fA_e, lCons_e, fV_e, f2_e, List.getElem?_cons_zero, List.getElem?_cons_succ, getV_some, R.bind_ok, gt, lNil_e, fo, toB_bl, so_ok]
        cases red (pre.reverse ++ post) r <;> simp
      rw [s2]
      exact ⟨_, _, _, st, by rw [← e2]⟩)
  rw [List.length_map, List.length_range] at e1 m
  have dr : rs.reverse.drop rs.length = [] := List.drop_eq_nil_of_le (by simp)
  rw [dr] at e1
  have mg := m.go
  rw [dr] at mg
  have mg : slimS rs = post := mg
  have r3 := r3D_down rs.length (by have := hs.1; omega)
  rw [mg]
  simp only [List.reverse_nil, List.nil_append] at e1
  simp only [sSeq_e, sSet_e, List.map_cons, List.map_nil, List.replicate, List.cons_append, List.nil_append, lc, so_ok, List.set_cons_succ, List.set_cons_zero, seq_nx, sFor_e, fRg_e, lCons_e, f2_e, fA_e, fV_e, List.getElem?_cons_zero, List.getElem?_cons_succ, getV_some, R.bind_ok, lNil_e, cont_len, fC_e, subD_int, fNeg_e, negK_e, List.length_map, r3, e1, sRt_e, tupleD_lst, out_rt]
end K5
end Pv

namespace Pv
open PySem PySem.Spec PyProof.Rows L2
open L2 (upd)
open K5
namespace K5
def passF (now : List Nat) (r : Rule) : List Nat := if (!decide (r.2 ∈ now) && wi r.1 now) = true then canon (now ++ [r.2]) else now
theorem pass_small (rs : List Rule) : ∀ (now : List Nat), Small now → Small (rs.foldl passF now) := by
  induction rs with
  | nil => intro now h; exact h
  | cons r rs ih =>
    intro now h
    rw [List.foldl_cons]
    refine ih _ ?_
    unfold passF
    split
    · exact canon_small _
    · exact h
theorem reached_inner (c b : Bool) (rs : List Rule) (hs : SmallR rs) (K now : List Nat) (hn : Small now) (t : D) (x : Option D) :
    ∃ y, forGo (gV 5) (sIf (bAnd (b2 ninD (f2 getD (fV 5) (fC (.int 1))) (fV 2)) (bV (fA F__law_within (lCons (f2 getD (fV 5) (fC (.int 0))) (lCons (fV 2) lNil))))) (sSet 2 (fA F__law_lot (lCons (f2 addD (fV 2) (f2 getD (fV 5) (fC (.int 1)))) lNil))) sNil) (rs.map (itm b))
      [some (cont c (rs.map (itm b))), some (.str K), some (.str now), some t, some (.str now), x] = .nx [some (cont c (rs.map (itm b))), some (.str K), some (.str (pass rs now)), some t, some (.str now), y] := by
  obtain ⟨ρ', e1, y, rfl⟩ := for_inv (g := gV 5) (fb := (sIf (bAnd (b2 ninD (f2 getD (fV 5) (fC (.int 1))) (fV 2)) (bV (fA F__law_within (lCons (f2 getD (fV 5) (fC (.int 0))) (lCons (fV 2) lNil))))) (sSet 2 (fA F__law_lot (lCons (f2 addD (fV 2) (f2 getD (fV 5) (fC (.int 1)))) lNil))) sNil))
    (fun i ρ => ∃ y, ρ = [some (cont c (rs.map (itm b))), some (.str K), some (.str ((rs.take i).foldl passF now)), some t, some (.str now), y]) (rs.map (itm b))
    [some (cont c (rs.map (itm b))), some (.str K), some (.str now), some t, some (.str now), x] ⟨x, rfl⟩ (by
      rintro i d ρ hd ⟨y, rfl⟩
      rw [List.getElem?_map] at hd
      obtain ⟨r, er, rfl⟩ := Option.map_eq_some_iff.mp hd
      have sm := pass_small (rs.take i) now hn
      have tk : (rs.take (i + 1)).foldl passF now = passF ((rs.take i).foldl passF now) r := by
        rw [List.take_add_one, er, List.foldl_append]; rfl
      rw [tk]
      obtain ⟨z, hz⟩ : ∃ z, z = (rs.take i).foldl passF now := ⟨_, rfl⟩
      rw [← hz] at sm ⊢
      have w := lwithin_ok r.1 z (Nat.le_trans (hs.2 r (List.mem_of_getElem? er)) (by decide))
      have sz : z.length + 1 ≤ 16777216 := by unfold Small at sm; omega
      have lo := lot_ok (z ++ [r.2])
      refine ⟨_, rfl, ?_⟩
      unfold passF
      by_cases hm : r.2 ∈ z
      · simp [hm]
      · cases hw : wi r.1 z <;> simp [hm, w, hw, lo, sz])
  rw [List.length_map, List.take_length] at e1
  exact ⟨y, e1⟩
theorem rounds_small (rs : List Rule) : ∀ (n : Nat) (now : List Nat), Small now → Small (rounds rs n now)
  | 0, now, h => h
  | n + 1, now, h => by
    unfold rounds
    split
    · exact h
    · exact rounds_small rs n _ (pass_small rs now h)
theorem reached_ok (c b : Bool) (rs : List Rule) (hs : SmallR rs) (g : Good rs) (k : List Nat) (hk : ∀ c ∈ k, c ∈ COL) (hsk : Small k) : F__law_reached [cont c (rs.map (itm b)), .str k] = .ok (.str (T rs k)) := by
  rw [← rounds_T g hk]
  unfold F__law_reached b__law_reached
  rw [fnB_e]
  have fr := for_any (g := gV 3) (fb := (sSeq (sSet 4 (fV 2)) (sSeq (sFor (fIt (fV 0)) (gV 5) (sIf (bAnd (b2 ninD (f2 getD (fV 5) (fC (.int 1))) (fV 2)) (bV (fA F__law_within (lCons (f2 getD (fV 5) (fC (.int 0))) (lCons (fV 2) lNil))))) (sSet 2 (fA F__law_lot (lCons (f2 addD (fV 2) (f2 getD (fV 5) (fC (.int 1)))) lNil))) sNil)) (sIf (b2 eqD (fV 2) (fV 4)) sBk sNil))))
    (fun i ρ => ∃ now x y z, Small now ∧ (i ≤ 8 → rounds rs (8 - i) now = rounds rs 8 k) ∧ ρ = [some (cont c (rs.map (itm b))), some (.str k), some (.str now), x, y, z])
    (fun ρ => ∃ x y z, ρ = [some (cont c (rs.map (itm b))), some (.str k), some (.str (rounds rs 8 k)), x, y, z]) (fun _ => False)
    ((List.range 8).map fun (k : Nat) => .int (k : Int)) 0 [some (cont c (rs.map (itm b))), some (.str k), some (.str k), none, none, none] ⟨k, none, none, none, hsk, fun _ => rfl, rfl⟩ (by
      rintro i d ρ hd ⟨now, x, y, z, hn, hr, rfl⟩
      rw [Nat.zero_add] at hr ⊢
      rw [List.getElem?_map] at hd
      obtain ⟨j, ej, rfl⟩ := Option.map_eq_some_iff.mp hd
      obtain ⟨hlt, ej⟩ := List.getElem?_eq_some_iff.mp ej
      rw [List.length_range] at hlt
      have ej : j = i := by simpa using ej.symm
      subst ej
      obtain ⟨w, inner⟩ := reached_inner c b rs hs k now hn (.int (j : Int)) z
      refine ⟨_, rfl, ?_⟩
      have st : (sSeq (sSet 4 (fV 2)) (sSeq (sFor (fIt (fV 0)) (gV 5) (sIf (bAnd (b2 ninD (f2 getD (fV 5) (fC (.int 1))) (fV 2)) (bV (fA F__law_within (lCons (f2 getD (fV 5) (fC (.int 0))) (lCons (fV 2) lNil))))) (sSet 2 (fA F__law_lot (lCons (f2 addD (fV 2) (f2 getD (fV 5) (fC (.int 1)))) lNil))) sNil)) (sIf (b2 eqD (fV 2) (fV 4)) sBk sNil))) [some (cont c (rs.map (itm b))), some (.str k), some (.str now), some (.int (j : Int)), y, z] =
          if (pass rs now == now) = true then .bk [some (cont c (rs.map (itm b))), some (.str k), some (.str (pass rs now)), some (.int (j : Int)), some (.str now), w] else .nx [some (cont c (rs.map (itm b))), some (.str k), some (.str (pass rs now)), some (.int (j : Int)), some (.str now), w] := by
        simp only [sSeq_e, sSet_e, sFor_e, fIt_e, fV_e, List.getElem?_cons_zero, List.getElem?_cons_succ, getV_some, R.bind_ok, so_ok, List.set_cons_succ, List.set_cons_zero, seq_nx, cont_items, inner, sIf_e, b2_e, eqD_str, sBk_e, sNil_e]
      show SO.run ((sSeq _ _) [some (cont c (rs.map (itm b))), some (.str k), some (.str now), some (.int (j : Int)), y, z]) _ _ _
      rw [st]
      have h8 : 8 - j = (8 - (j + 1)) + 1 := by omega
      have hr := hr (by omega)
      rw [h8] at hr
      unfold rounds at hr
      by_cases e : pass rs now = now
      · rw [if_pos (beq_iff_eq.mpr e)]
        rw [if_pos e] at hr
        rw [run_bk]
        rw [e, hr]
        exact ⟨_, _, _, rfl⟩
      · rw [if_neg (fun z => e (beq_iff_eq.mp z))]
        rw [if_neg e] at hr
        rw [run_nx]
        exact ⟨_, _, _, _, pass_small rs now hn, fun _ => hr, rfl⟩)
  have r1 := r1D_nat 8 (by decide)
  have fin : ∀ ρ' x y z, forGo (gV 3) (sSeq (sSet 4 (fV 2)) (sSeq (sFor (fIt (fV 0)) (gV 5) (sIf (bAnd (b2 ninD (f2 getD (fV 5) (fC (.int 1))) (fV 2)) (bV (fA F__law_within (lCons (f2 getD (fV 5) (fC (.int 0))) (lCons (fV 2) lNil))))) (sSet 2 (fA F__law_lot (lCons (f2 addD (fV 2) (f2 getD (fV 5) (fC (.int 1)))) lNil))) sNil)) (sIf (b2 eqD (fV 2) (fV 4)) sBk sNil))) ((List.range 8).map fun (k : Nat) => .int (k : Int)) [some (cont c (rs.map (itm b))), some (.str k), some (.str k), none, none, none] = .nx ρ' → ρ' = [some (cont c (rs.map (itm b))), some (.str k), some (.str (rounds rs 8 k)), x, y, z] →
      (((sSeq (sSet 2 (fV 1)) (sSeq (sFor (fRg r1D (lCons (fC (.int 8)) lNil)) (gV 3) (sSeq (sSet 4 (fV 2)) (sSeq (sFor (fIt (fV 0)) (gV 5) (sIf (bAnd (b2 ninD (f2 getD (fV 5) (fC (.int 1))) (fV 2)) (bV (fA F__law_within (lCons (f2 getD (fV 5) (fC (.int 0))) (lCons (fV 2) lNil))))) (sSet 2 (fA F__law_lot (lCons (f2 addD (fV 2) (f2 getD (fV 5) (fC (.int 1)))) lNil))) sNil)) (sIf (b2 eqD (fV 2) (fV 4)) sBk sNil)))) (sRt (fV 2)))) ([cont c (rs.map (itm b)), .str k].map some ++ List.replicate 4 none))).out = .ok (.str (rounds rs 8 k)) := by
    intro ρ' x y z e1 e2
    subst e2
    have r1' : r1D [.int 8] = _ := r1
    simp only [sSeq_e, sSet_e, List.map_cons, List.map_nil, List.replicate, List.cons_append, List.nil_append, so_ok, List.set_cons_succ, List.set_cons_zero, seq_nx, sFor_e, fRg_e, lCons_e, fV_e, List.getElem?_cons_zero, List.getElem?_cons_succ, getV_some, R.bind_ok, lNil_e, fC_e, r1', e1, sRt_e, out_rt]
  rcases fr with ⟨ρ', e, h⟩ | ⟨v, e, h⟩
  · rcases h with ⟨now, x, y, z, hn, hr, rfl⟩ | ⟨x, y, z, rfl⟩
    · have hr := hr (by simp)
      have h8 : rounds rs 8 k = now := by rw [← hr]; simp [rounds]
      exact fin _ x y z e (by rw [h8])
    · exact fin _ x y z e rfl
  · exact h.elim
theorem staying_ok (rs : List Rule) (hs : SmallR rs) (g : Good rs) : F__law_staying [.lst (rs.map (itm false))] = .ok (.lst ((slimS rs).map (itm false))) := by
  unfold F__law_staying b__law_staying
  rw [fnB_e]
  obtain ⟨ρ', e1, post, x, y, z, m, rfl⟩ := for_inv (g := gV 2) (fb := (sSeq (sSet 3 (f2 subD (f2 subD (fA lenD (lCons (fV 0) lNil)) (fC (.int 1))) (fV 2))) (sSeq (sSet 4 (f2 addD (fSl (fV 1) oNo (oSo (fV 3))) (fSl (fV 1) (oSo (f2 addD (fV 3) (fC (.int 1)))) oNo))) (sIf (b2 inD (f2 getD (f2 getD (fV 1) (fV 3)) (fC (.int 1))) (fA F__law_reached (lCons (fV 4) (lCons (f2 getD (f2 getD (fV 1) (fV 3)) (fC (.int 0))) lNil)))) (sSet 1 (fV 4)) sNil))))
    (fun i ρ => ∃ post x y z, Mid rs i post ∧ ρ = [some (.lst (rs.map (itm false))), some (.lst (((rs.reverse.drop i).reverse ++ post).map (itm false))), x, y, z])
    ((List.range rs.length).map fun (k : Nat) => .int (k : Int)) [some (.lst (rs.map (itm false))), some (.lst (rs.map (itm false))), none, none, none]
    ⟨[], none, none, none, ⟨by simp [slimS], fun r h => by (cases h), Nat.le_refl 0⟩, by simp⟩ (by
      rintro i d ρ hd ⟨post, x, y, z, m, rfl⟩
      rw [List.getElem?_map] at hd
      obtain ⟨j, ej, rfl⟩ := Option.map_eq_some_iff.mp hd
      obtain ⟨hlt, ej⟩ := List.getElem?_eq_some_iff.mp ej
      rw [List.length_range] at hlt
      have ej : j = i := by simpa using ej.symm
      subst ej
      obtain ⟨r, pre, e, e2, hl, hr⟩ := split_at rs j hlt
      have ix : ((rs.length : Int) - 1 - (j : Int)) = ((pre.length : Nat) : Int) := by omega
      have ks : (rs.reverse.drop j).reverse ++ post = pre.reverse ++ r :: post := by rw [e]; simp
      have st := m.step e e2 hr
      have hpl : ((pre.reverse ++ post)).length ≤ rs.length := by simp; have := m.len; omega
      have hm : ∀ z ∈ pre.reverse ++ post, z ∈ rs := fun z hz => by
        rcases List.mem_append.mp hz with hz | hz
        · have : z ∈ rs.reverse.drop (j + 1) := by rw [← e2]; simpa using hz
          simpa using List.mem_of_mem_drop this
        · exact m.sub z hz
      have ro := reached_ok true false (pre.reverse ++ post) (hs.of hpl hm) (g.sub hm) r.1 (g r hr).2 (hs.2 r hr)
      have c1 := cut_to ((pre.reverse ++ r :: post).map (itm false)) pre.length
      have c2 := cut_from ((pre.reverse ++ r :: post).map (itm false)) (pre.length + 1)
      have t1 : ((pre.reverse ++ r :: post).map (itm false)).take pre.length = pre.reverse.map (itm false) := by
        rw [List.map_append, List.take_append_of_le_length (by simp), List.take_of_length_le (by simp)]
      have t2 : ((pre.reverse ++ r :: post).map (itm false)).drop (pre.length + 1) = post.map (itm false) := by
        rw [List.map_append, List.drop_append]
        simp
      have gt : getD (.lst ((pre.reverse ++ r :: post).map (itm false))) (.int (pre.length : Int)) = .ok (itm false r) := by
        rw [getD_lst, List.getElem?_map, List.getElem?_append_right (by simp)]
        simp
      rw [t1] at c1
      rw [t2] at c2
      have sz : (pre.reverse.map (itm false)).length + (post.map (itm false)).length ≤ 16777216 := by
        have := hs.1
        simp at hpl ⊢; omega
      have ad : addD (.lst (pre.reverse.map (itm false))) (.lst (post.map (itm false))) = .ok (.lst ((pre.reverse ++ post).map (itm false))) := by
        rw [addD_lst, if_pos sz, List.map_append]
      have ro : F__law_reached [.lst ((pre.reverse ++ post).map (itm false)), .str r.1] = .ok (.str (T (pre.reverse ++ post) r.1)) := ro
      refine ⟨_, rfl, ?_⟩
      rw [ks]
      show SO.run ((sSeq _ _) [some (.lst (rs.map (itm false))), some (.lst ((pre.reverse ++ r :: post).map (itm false))), some (.int (j : Int)), y, z]) _ _ _
      have s0 : sSet 3 (f2 subD (f2 subD (fA lenD (lCons (fV 0) lNil)) (fC (.int 1))) (fV 2)) [some (.lst (rs.map (itm false))), some (.lst ((pre.reverse ++ r :: post).map (itm false))), some (.int (j : Int)), y, z] =
          .nx [some (.lst (rs.map (itm false))), some (.lst ((pre.reverse ++ r :: post).map (itm false))), some (.int (j : Int)), some (.int (pre.length : Int)), z] := by
        simp only [sSet_e, f2_e, fA_e, lCons_e, fV_e, List.getElem?_cons_zero, List.getElem?_cons_succ, getV_some, R.bind_ok, lNil_e, lenD_lst, fC_e, subD_int, List.length_map, ix, so_ok, List.set_cons_succ, List.set_cons_zero]
      have s1 : sSet 4 (f2 addD (fSl (fV 1) oNo (oSo (fV 3))) (fSl (fV 1) (oSo (f2 addD (fV 3) (fC (.int 1)))) oNo)) [some (.lst (rs.map (itm false))), some (.lst ((pre.reverse ++ r :: post).map (itm false))), some (.int (j : Int)), some (.int (pre.length : Int)), z] =
          .nx [some (.lst (rs.map (itm false))), some (.lst ((pre.reverse ++ r :: post).map (itm false))), some (.int (j : Int)), some (.int (pre.length : Int)), some (.lst ((pre.reverse ++ post).map (itm false)))] := by
        simp only [sSet_e, f2_e, fSl_e, fV_e, oNo_e, oSo_e, List.getElem?_cons_zero, List.getElem?_cons_succ, getV_some, R.bind_ok, soK_e, sliceD_lst, fC_e, addD_int]
        rw [show ((pre.length : Int) + 1) = ((pre.length + 1 : Nat) : Int) by omega, c1, c2]
        simp only [R.bind_ok, ad, so_ok, List.set_cons_succ, List.set_cons_zero]
      rw [sSeq_e, s0, seq_nx, sSeq_e, s1, seq_nx]
      have s2 : sIf (b2 inD (f2 getD (f2 getD (fV 1) (fV 3)) (fC (.int 1))) (fA F__law_reached (lCons (fV 4) (lCons (f2 getD (f2 getD (fV 1) (fV 3)) (fC (.int 0))) lNil)))) (sSet 1 (fV 4)) sNil [some (.lst (rs.map (itm false))), some (.lst ((pre.reverse ++ r :: post).map (itm false))), some (.int (j : Int)), some (.int (pre.length : Int)), some (.lst ((pre.reverse ++ post).map (itm false)))] =
          .nx [some (.lst (rs.map (itm false))), some (.lst ((pre.reverse ++ (if red (pre.reverse ++ post) r = true then post else r :: post)).map (itm false))), some (.int (j : Int)), some (.int (pre.length : Int)), some (.lst ((pre.reverse ++ post).map (itm false)))] := by
        simp only [sIf_e, b2_e, fA_e, lCons_e, fV_e, f2_e, fC_e, List.getElem?_cons_zero, List.getElem?_cons_succ, getV_some, R.bind_ok, gt, itm0, itm1, lNil_e, ro, inD_str, so_ok]
        show (if red (pre.reverse ++ post) r = true then _ else _) = _
        cases red (pre.reverse ++ post) r <;> simp
      rw [s2]
      exact ⟨_, _, _, _, st, by rw [← e2]⟩)
  rw [List.length_map, List.length_range] at e1 m
  have dr : rs.reverse.drop rs.length = [] := List.drop_eq_nil_of_le (by simp)
  rw [dr] at e1
  have mg := m.go
  rw [dr] at mg
  have mg : slimS rs = post := mg
  have r1 := r1D_nat rs.length (by have := hs.1; omega)
  rw [mg]
  simp only [List.reverse_nil, List.nil_append] at e1
  simp only [sSeq_e, sSet_e, List.map_cons, List.map_nil, List.replicate, List.cons_append, List.nil_append, so_ok, List.set_cons_succ, List.set_cons_zero, seq_nx, sFor_e, fRg_e, lCons_e, f2_e, fA_e, fV_e, List.getElem?_cons_zero, List.getElem?_cons_succ, getV_some, R.bind_ok, lNil_e, listD_lst, lenD_lst, List.length_map, r1, e1, sRt_e, out_rt]
end K5
end Pv

namespace Pv
open PySem PySem.Spec PyProof.Rows L2
open L2 (upd)
open K5
namespace K5
theorem col_plain : ∀ c ∈ COL, plainC c = true := by decide
def Lot (l : List Nat) : Prop := (∀ c ∈ l, c ∈ COL) ∧ Small l
theorem same_ok (l : List Nat) (h : Lot l) : F__law_same [.str l, .str l] = .ok (.bl true) := by
  unfold F__law_same b__law_same
  rw [fnB_e]
  have rp := reprD_str l (shOk_plain l (fun c hc => col_plain c (h.1 c hc)) (Nat.le_trans h.2 (by decide)))
  simp [rp]
def GoodR (rs : List Rule) : Prop := SmallR rs ∧ Good rs
theorem pairs_ok (rs : List Rule) (h : GoodR rs) : F__law_pairs [.tup (rs.map (itm false)), .lst (rs.map (itm false))] = .ok (.bl true) := by
  unfold F__law_pairs b__law_pairs
  rw [fnB_e]
  obtain ⟨ρ', e1, x, rfl⟩ := for_inv (g := gV 2) (fb := (sSeq (sIf (bOr (bNot (bV (fIsi "tuple" (f2 getD (fV 0) (fV 2))))) (b2 neD (fA lenD (lCons (f2 getD (fV 0) (fV 2)) lNil)) (fC (.int 2)))) (sRt (fC (.bl false))) sNil) (sIf (bOr (bNot (bV (fA F__law_same (lCons (f2 getD (f2 getD (fV 0) (fV 2)) (fC (.int 0))) (lCons (f2 getD (f2 getD (fV 1) (fV 2)) (fC (.int 0))) lNil))))) (bNot (bV (fA F__law_same (lCons (f2 getD (f2 getD (fV 0) (fV 2)) (fC (.int 1))) (lCons (f2 getD (f2 getD (fV 1) (fV 2)) (fC (.int 1))) lNil)))))) (sRt (fC (.bl false))) sNil)))
    (fun i ρ => ∃ x, ρ = [some (.tup (rs.map (itm false))), some (.lst (rs.map (itm false))), x]) ((List.range rs.length).map fun (k : Nat) => .int (k : Int)) [some (.tup (rs.map (itm false))), some (.lst (rs.map (itm false))), none] ⟨none, rfl⟩ (by
      rintro i d ρ hd ⟨x, rfl⟩
      rw [List.getElem?_map] at hd
      obtain ⟨j, ej, rfl⟩ := Option.map_eq_some_iff.mp hd
      obtain ⟨hlt, ej⟩ := List.getElem?_eq_some_iff.mp ej
      rw [List.length_range] at hlt
      have ej : j = i := by simpa using ej.symm
      subst ej
      have g1 := getR false false rs j hlt
      have g2 := getR true false rs j hlt
      have g1 : getD (.tup (rs.map (itm false))) (.int (j : Int)) = .ok (itm false rs[j]) := g1
      have g2 : getD (.lst (rs.map (itm false))) (.int (j : Int)) = .ok (itm false rs[j]) := g2
      have mr := List.getElem_mem hlt
      have s1 := same_ok rs[j].1 ⟨(h.2 _ mr).2, h.1.2 _ mr⟩
      have s2 := same_ok [rs[j].2] ⟨fun c hc => by
        have : c = rs[j].2 := by simpa using hc
        subst this; exact (h.2 _ mr).1, by unfold Small; simp⟩
      have it : itm false rs[j] = .tup [.str rs[j].1, .str [rs[j].2]] := rfl
      refine ⟨_, rfl, ?_⟩
      rw [it] at g1 g2
      simp [g1, g2, s1, s2])
  have r1 := r1D_nat rs.length (by have := h.1.1; omega)
  simp [r1, e1]
theorem every_ok (rs : List Rule) (h : GoodR rs) : ∃ lots : List (List Nat), F__law_every_lot [.lst (rs.map (itm false))] = .ok (.lst (lots.map D.str)) ∧ ∀ l ∈ lots, Lot l := by
  unfold F__law_every_lot b__law_every_lot
  rw [fnB_e]
  have lc : fLc [2] (fIt (fV 0)) (gV 2) bYes (f2 addD (f2 getD (fV 2) (fC (.int 0))) (f2 getD (fV 2) (fC (.int 1)))) [some (.lst (rs.map (itm false))), none, none, none, none, none, none] = .ok (.lst (rs.map fun r => .str (r.1 ++ [r.2]))) :=
    lc_all rs (itm false) (fun r => .str (r.1 ++ [r.2])) (by simp) (by have := h.1.1; omega) fun x hx => ⟨_, rfl, by
      have := h.1.2 x hx
      unfold Small at this
      have sz : x.1.length + 1 ≤ 16777216 := by omega
      simp [wipeE, sz]⟩
  have jn : joinD (.str []) [.lst (rs.map fun r => .str (r.1 ++ [r.2]))] = .ok (.str (rs.map fun r => r.1 ++ [r.2]).flatten) := by
    have := joinD_all (rs.map fun r => r.1 ++ [r.2]) (by
      have := sum_le 1001 ((rs.map fun r => r.1 ++ [r.2]).map List.length) (fun x hx => by
        obtain ⟨l, hl, rfl⟩ := List.mem_map.mp hx
        obtain ⟨r, hr, rfl⟩ := List.mem_map.mp hl
        have := h.1.2 r hr
        unfold Small at this
        simp; omega)
      simp only [List.length_map] at this
      have := h.1.1
      omega)
    rw [List.map_map] at this
    exact this
  have lo := lot_ok (rs.map fun r => r.1 ++ [r.2]).flatten
  obtain ⟨used, hu⟩ : ∃ used, used = canon (rs.map fun r => r.1 ++ [r.2]).flatten := ⟨_, rfl⟩
  have hc : ∀ c ∈ used, c ∈ COL := fun c hc => by rw [hu] at hc; exact (mem_canon.mp hc).1
  have hl : used.length ≤ 8 := by rw [hu]; exact canon_len _
  rw [← hu] at lo
  have p8 := pow_tup used.length hl
  have W : D := .tup [.int 1, .int 2, .int 4, .int 8, .int 16, .int 32, .int 64, .int 128, .int 256]
  obtain ⟨ρ', e1, lots, x, hi, hL, rfl⟩ := for_inv (g := gV 5) (fb := (sM1 4 appD (fM "str" joinD (fC (.str [])) (lCons (fLc [6] (fRg r1D (lCons (fA lenD (lCons (fV 1) lNil)) lNil)) (gV 6) (b2 eqD (f2 modD (f2 fdivD (fV 5) (f2 getD (fV 3) (fV 6))) (fC (.int 2))) (fC (.int 1))) (f2 getD (fV 1) (fV 6))) lNil))))
    (fun i ρ => ∃ (lots : List (List Nat)) (x : Option D), lots.length = i ∧ (∀ l ∈ lots, Lot l) ∧ ρ = [some (.lst (rs.map (itm false))), some (.str used), none, some (.tup [.int 1, .int 2, .int 4, .int 8, .int 16, .int 32, .int 64, .int 128, .int 256]), some (.lst (lots.map D.str)), x, none])
    ((List.range (2 ^ used.length)).map fun (k : Nat) => .int (k : Int)) [some (.lst (rs.map (itm false))), some (.str used), none, some (.tup [.int 1, .int 2, .int 4, .int 8, .int 16, .int 32, .int 64, .int 128, .int 256]), some (.lst []), none, none] ⟨[], none, rfl, fun l h => by (cases h), rfl⟩ (by
      rintro i d ρ hd ⟨lots, x, hi, hL, rfl⟩
      rw [List.getElem?_map] at hd
      obtain ⟨j, ej, rfl⟩ := Option.map_eq_some_iff.mp hd
      obtain ⟨hlt, ej⟩ := List.getElem?_eq_some_iff.mp ej
      rw [List.length_range] at hlt
      have ej : j = i := by simpa using ej.symm
      subst ej
      have pw : 2 ^ used.length ≤ 2 ^ 8 := Nat.pow_le_pow_right (by decide) hl
      have lc2 : fLc [6] (fRg r1D (lCons (fA lenD (lCons (fV 1) lNil)) lNil)) (gV 6) (b2 eqD (f2 modD (f2 fdivD (fV 5) (f2 getD (fV 3) (fV 6))) (fC (.int 2))) (fC (.int 1))) (f2 getD (fV 1) (fV 6))
          [some (.lst (rs.map (itm false))), some (.str used), none, some (.tup [.int 1, .int 2, .int 4, .int 8, .int 16, .int 32, .int 64, .int 128, .int 256]), some (.lst (lots.map D.str)), some (.int (j : Int)), none] =
          .ok (.lst (((List.range used.length).filter fun k => ((j : Int) / ((2 ^ k : Nat) : Int) % 2 == 1)).map fun k => .str [used.getD k 0])) :=
        lc_map (List.range used.length) (fun (k : Nat) => .int (k : Int)) (fun k => ((j : Int) / ((2 ^ k : Nat) : Int) % 2 == 1)) (fun k => .str [used.getD k 0]) (by
          have := r1D_nat used.length (by omega)
          simp [this]) (by simp; omega) fun k hk => by
          have hk : k < used.length := List.mem_range.mp hk
          have pk := pow_tup k (by omega)
          have b1 : 0 < 2 ^ k := Nat.pow_pos (by decide)
          have b2' : 2 ^ k ≤ 2 ^ 8 := Nat.pow_le_pow_right (by decide) (by omega)
          have bb : (0 : Int) < ((2 ^ k : Nat) : Int) ∧ ((2 ^ k : Nat) : Int) < 1073741824 := by omega
          have gs : getD (.str used) (.int (k : Int)) = .ok (.str [used.getD k 0]) := by
            rw [getD_str, List.getElem?_eq_getElem hk]
            simp [List.getD_eq_getElem?_getD, hk]
          refine ⟨_, rfl, ?_, fun _ => ?_⟩
          · simp only [wipeE, List.set_cons_succ, List.set_cons_zero, b2_e, f2_e, fV_e, List.getElem?_cons_zero, List.getElem?_cons_succ, getV_some, R.bind_ok, pk, fdivD_int, if_pos bb, fC_e, modD_int, eqD_int]
            rw [if_pos (by decide)]
            simp only [R.bind_ok, eqD_int]
          · simp only [wipeE, List.set_cons_succ, List.set_cons_zero, f2_e, fV_e, List.getElem?_cons_zero, List.getElem?_cons_succ, getV_some, R.bind_ok, gs]
      obtain ⟨l, el⟩ : ∃ l, l = ((List.range used.length).filter fun k => ((j : Int) / ((2 ^ k : Nat) : Int) % 2 == 1)).map fun k => used.getD k 0 := ⟨_, rfl⟩
      have eD : (((List.range used.length).filter fun k => ((j : Int) / ((2 ^ k : Nat) : Int) % 2 == 1)).map fun k => D.str [used.getD k 0]) = l.map fun c => .str [c] := by
        rw [el, List.map_map]; rfl
      rw [eD] at lc2
      have ll : l.length ≤ 8 := by
        rw [el, List.length_map]
        exact Nat.le_trans (List.length_filter_le _ _) (by simp; exact hl)
      have lm : ∀ c ∈ l, c ∈ COL := fun c hc' => by
        rw [el] at hc'
        obtain ⟨k, hk, rfl⟩ := List.mem_map.mp hc'
        have hk : k < used.length := List.mem_range.mp (List.mem_filter.mp hk).1
        refine hc _ ?_
        rw [List.getD_eq_getElem?_getD, List.getElem?_eq_getElem hk]
        exact List.getElem_mem hk
      have jd := joinD_ch l (by omega)
      have ap := appD_e (lots.map D.str) (.str l) (by rw [List.length_map]; omega)
      refine ⟨_, rfl, ?_⟩
      show SO.run (sM1 4 appD _ [some (.lst (rs.map (itm false))), some (.str used), none, some (.tup [.int 1, .int 2, .int 4, .int 8, .int 16, .int 32, .int 64, .int 128, .int 256]), some (.lst (lots.map D.str)), some (.int (j : Int)), none]) _ _ _
      simp only [sM1_e, List.getElem?_cons_zero, List.getElem?_cons_succ, getL_e, so_ok, fM_e, fC_e, R.bind_ok, tyD_str, if_true, lCons_e, lc2, lNil_e, jd, ap, List.set_cons_succ, List.set_cons_zero, run_nx]
      refine ⟨lots ++ [l], _, by simp [hi], fun m hm => ?_, by simp; rfl⟩
      rcases List.mem_append.mp hm with hm | hm
      · exact hL m hm
      · have hm : m = l := by simpa using hm
        rw [hm]
        exact ⟨lm, Nat.le_trans ll (by decide)⟩)
  refine ⟨lots, ?_, hL⟩
  have r1 : r1D [.int ((2 ^ used.length : Nat) : Int)] = _ := r1D_nat (2 ^ used.length) (Nat.lt_of_le_of_lt (Nat.pow_le_pow_right (by decide) hl) (by decide))
  have W9 : fTup (lCons (fC (.int 1)) (lCons (fC (.int 2)) (lCons (fC (.int 4)) (lCons (fC (.int 8)) (lCons (fC (.int 16)) (lCons (fC (.int 32)) (lCons (fC (.int 64)) (lCons (fC (.int 128)) (lCons (fC (.int 256)) lNil))))))))) [some (.lst (rs.map (itm false))), some (.str used), none, none, none, none, none] = .ok (.tup [.int 1, .int 2, .int 4, .int 8, .int 16, .int 32, .int 64, .int 128, .int 256]) := by simp
  have L0 : ∀ ρ, fLst lNil ρ = .ok (.lst []) := fun ρ => by simp
  simp only [sSeq_e, sSet_e, fA_e, lCons_e, fM_e, fC_e, R.bind_ok, tyD_str, if_true, lc, lNil_e, jn, lo, List.map_cons, List.map_nil, List.replicate, List.cons_append, List.nil_append, so_ok, List.set_cons_succ, List.set_cons_zero, seq_nx]
  simp only [W9, L0, sSeq_e, sSet_e, so_ok, seq_nx, List.set_cons_succ, List.set_cons_zero, sFor_e, fRg_e, lCons_e, f2_e, fA_e, fV_e, List.getElem?_cons_zero, List.getElem?_cons_succ, getV_some, R.bind_ok, lNil_e, lenD_str, p8, r1, e1, sRt_e, out_rt]
end K5
end Pv

namespace Pv
open PySem PySem.Spec PyProof.Rows L2
open L2 (upd)
open K5
namespace K5
theorem split_idx {l : List Rule} {j : Nat} (h : j < l.length) : l = l.take j ++ l[j] :: l.drop (j + 1) := by
  rw [← List.drop_eq_getElem_cons h, List.take_append_drop]
theorem dok_itm (b : Bool) (r : Rule) : dok 11 (itm b r) = true := by cases b <;> simp [itm, dok, doks]
theorem holds_ok (rs : List Rule) (h : GoodR rs) (b : Bool) : F__law_slim_holds [.lst (rs.map (itm false)), .bl b] = .ok (.bl true) := by
  obtain ⟨hs, g⟩ := h
  obtain ⟨a1, a2, a3, a4⟩ := slim_ok g
  have gs : Good (slimS rs) := g.sub a1
  have ss : SmallR (slimS rs) := hs.of a4 a1
  obtain ⟨W, hW⟩ : ∃ W, W = cont b (rs.map (itm b)) := ⟨_, rfl⟩
  obtain ⟨V, hV⟩ : ∃ V, V = D.tup ((slimS rs).map (itm false)) := ⟨_, rfl⟩
  obtain ⟨U, hU⟩ : ∃ U, U = D.lst ((slimS rs).map (itm false)) := ⟨_, rfl⟩
  obtain ⟨Rl, hR⟩ : ∃ Rl, Rl = D.lst (rs.map (itm false)) := ⟨_, rfl⟩
  have stay : F__law_staying [Rl] = .ok U := by rw [hR, hU]; exact staying_ok rs hs g
  have slim1 : F_slim [W] = .ok V := by rw [hW, hV]; exact slim_run b b rs hs g
  have slim2 : F_slim [V] = .ok V := by
    have := slim_run false false (slimS rs) ss gs
    rw [slim_idem g] at this
    rw [hV]; exact this
  have pairs : F__law_pairs [V, U] = .ok (.bl true) := by rw [hV, hU]; exact pairs_ok _ ⟨ss, gs⟩
  obtain ⟨lots, ev, hl⟩ := every_ok rs ⟨hs, g⟩
  rw [← hR] at ev
  have ulen : lenD [U] = .ok (.int ((slimS rs).length : Nat)) := by rw [hU]; simp
  unfold F__law_slim_holds b__law_slim_holds
  rw [fnB_e, ← hR]
  -- the loop over the lots
  have loop1 : ∀ (r3 : Option D), ∃ x y, forGo (gV 6) (sSeq (sSet 7 (fA F__law_reached (lCons (fV 0) (lCons (fV 6) lNil)))) (sIf (bOr (bNot (bV (fA F__law_same (lCons (fA F_told (lCons (fV 5) (lCons (fV 6) lNil))) (lCons (fV 7) lNil))))) (bNot (bV (fA F__law_same (lCons (fA F_told (lCons (fV 2) (lCons (fV 6) lNil))) (lCons (fV 7) lNil)))))) (sRt (fC (.bl false))) sNil)) (lots.map D.str)
      [some Rl, some (.bl b), some W, r3, some U, some V, none, none, none] = .nx [some Rl, some (.bl b), some W, r3, some U, some V, x, y, none] := by
    intro r3
    obtain ⟨ρ', e1, x, y, rfl⟩ := for_inv (g := gV 6) (fb := (sSeq (sSet 7 (fA F__law_reached (lCons (fV 0) (lCons (fV 6) lNil)))) (sIf (bOr (bNot (bV (fA F__law_same (lCons (fA F_told (lCons (fV 5) (lCons (fV 6) lNil))) (lCons (fV 7) lNil))))) (bNot (bV (fA F__law_same (lCons (fA F_told (lCons (fV 2) (lCons (fV 6) lNil))) (lCons (fV 7) lNil)))))) (sRt (fC (.bl false))) sNil)))
      (fun _ ρ => ∃ x y, ρ = [some Rl, some (.bl b), some W, r3, some U, some V, x, y, none]) (lots.map D.str) [some Rl, some (.bl b), some W, r3, some U, some V, none, none, none] ⟨none, none, rfl⟩ (by
        rintro i d ρ hd ⟨x, y, rfl⟩
        rw [List.getElem?_map] at hd
        obtain ⟨l, el, rfl⟩ := Option.map_eq_some_iff.mp hd
        have lg := hl l (List.mem_of_getElem? el)
        have r1 : F__law_reached [Rl, .str l] = .ok (.str (T rs l)) := by rw [hR]; exact reached_ok true false rs hs g l lg.1 lg.2
        have t1 : F_told [V, .str l] = .ok (.str (T rs l)) := by rw [hV, ← slim_T g lg.1]; exact told_ok false false (slimS rs) ss gs l lg.1 lg.2
        have t2 : F_told [W, .str l] = .ok (.str (T rs l)) := by rw [hW]; exact told_ok b b rs hs g l lg.1 lg.2
        have tc := (T_ok g lg.1).1
        have sm : F__law_same [.str (T rs l), .str (T rs l)] = .ok (.bl true) := same_ok _ ⟨tc.sub, by
          rcases tc.form with e | ⟨⟨w, e⟩, _⟩
          · rw [e]; exact lg.2
          · rw [e]; exact canon_small _⟩
        refine ⟨_, rfl, ?_⟩
        simp [r1, t1, t2, sm])
    exact ⟨x, y, e1⟩
  -- no rule of the slim book follows from the others
  have loop2 : ∀ (r3 x y : Option D), ∃ z, forGo (gV 8) (sIf (b2 nisD (fA F_follows (lCons (f2 addD (fSl (fV 4) oNo (oSo (fV 8))) (fSl (fV 4) (oSo (f2 addD (fV 8) (fC (.int 1)))) oNo)) (lCons (f2 getD (fV 4) (fV 8)) lNil))) (fC (.bl false))) (sRt (fC (.bl false))) sNil) ((List.range (slimS rs).length).map fun (k : Nat) => .int (k : Int))
      [some Rl, some (.bl b), some W, r3, some U, some V, x, y, none] = .nx [some Rl, some (.bl b), some W, r3, some U, some V, x, y, z] := by
    intro r3 x y
    obtain ⟨ρ', e1, z, rfl⟩ := for_inv (g := gV 8) (fb := (sIf (b2 nisD (fA F_follows (lCons (f2 addD (fSl (fV 4) oNo (oSo (fV 8))) (fSl (fV 4) (oSo (f2 addD (fV 8) (fC (.int 1)))) oNo)) (lCons (f2 getD (fV 4) (fV 8)) lNil))) (fC (.bl false))) (sRt (fC (.bl false))) sNil))
      (fun _ ρ => ∃ z, ρ = [some Rl, some (.bl b), some W, r3, some U, some V, x, y, z]) ((List.range (slimS rs).length).map fun (k : Nat) => .int (k : Int)) [some Rl, some (.bl b), some W, r3, some U, some V, x, y, none] ⟨none, rfl⟩ (by
        rintro i d ρ hd ⟨z, rfl⟩
        rw [List.getElem?_map] at hd
        obtain ⟨j, ej, rfl⟩ := Option.map_eq_some_iff.mp hd
        obtain ⟨hlt, ej⟩ := List.getElem?_eq_some_iff.mp ej
        rw [List.length_range] at hlt
        have ej : j = i := by simpa using ej.symm
        subst ej
        have sp := split_idx hlt
        have nd := a2 _ _ _ sp
        rw [List.nil_append] at nd
        have mr : (slimS rs)[j] ∈ slimS rs := List.getElem_mem hlt
        have mo : ∀ r ∈ (slimS rs).take j ++ (slimS rs).drop (j + 1), r ∈ slimS rs := fun r hr => by
          rcases List.mem_append.mp hr with hr | hr
          · exact List.mem_of_mem_take hr
          · exact List.mem_of_mem_drop hr
        have lo : ((slimS rs).take j ++ (slimS rs).drop (j + 1)).length ≤ (slimS rs).length := by simp; omega
        have fo := follows_ok true false false _ (ss.of lo mo) (gs.sub mo) (slimS rs)[j] (fun z hz => by
          have : z = (slimS rs)[j] := by simpa using hz
          subst this; exact gs _ mr) (ss.2 _ mr)
        have rd : red ((slimS rs).take j ++ (slimS rs).drop (j + 1)) (slimS rs)[j] = false := by
          cases hr : red ((slimS rs).take j ++ (slimS rs).drop (j + 1)) (slimS rs)[j] with
          | false => rfl
          | true => exact absurd ((red_iff (fun z hz => by
              rcases List.mem_cons.mp hz with rfl | hz
              · exact gs _ mr
              · exact gs z (mo z hz))).mp hr) nd
        rw [rd] at fo
        have c1 := cut_to ((slimS rs).map (itm false)) j
        have c2 := cut_from ((slimS rs).map (itm false)) (j + 1)
        rw [← List.map_take] at c1
        rw [← List.map_drop] at c2
        have gt : getD U (.int (j : Int)) = .ok (itm false (slimS rs)[j]) := by rw [hU]; exact getR true false _ j hlt
        have sl1 : sliceD U none (some (j : Int)) = .ok (.lst (((slimS rs).take j).map (itm false))) := by rw [hU, sliceD_lst, c1]
        have sl2 : sliceD U (some ((j : Int) + 1)) none = .ok (.lst (((slimS rs).drop (j + 1)).map (itm false))) := by
          rw [hU, sliceD_lst, show ((j : Int) + 1) = ((j + 1 : Nat) : Int) by omega, c2]
        have ad : addD (.lst (((slimS rs).take j).map (itm false))) (.lst (((slimS rs).drop (j + 1)).map (itm false))) = .ok (.lst (((slimS rs).take j ++ (slimS rs).drop (j + 1)).map (itm false))) := by
          rw [addD_lst, if_pos (by have := ss.1; simp at lo ⊢; omega), List.map_append]
        have fo : F_follows [.lst (((slimS rs).take j ++ (slimS rs).drop (j + 1)).map (itm false)), itm false (slimS rs)[j]] = .ok (.bl false) := fo
        refine ⟨_, rfl, ?_⟩
        simp only [List.set_cons_succ, List.set_cons_zero, sIf_e, b2_e, fA_e, lCons_e, f2_e, fSl_e, fV_e, oNo_e, oSo_e, List.getElem?_cons_zero, List.getElem?_cons_succ, getV_some, R.bind_ok, soK_e, fC_e, addD_int, sl1, sl2, ad, gt, lNil_e, fo, nisD_bl, so_ok, sNil_e]
        exact ⟨_, rfl⟩)
    exact ⟨z, e1⟩
  -- each rule follows from the slim book
  have loop3 : ∀ (r3 x y z : Option D), ∃ w, forGo (gV 3) (sIf (b2 nisD (fA F_follows (lCons (fV 5) (lCons (fV 3) lNil))) (fC (.bl true))) (sRt (fC (.bl false))) sNil) (rs.map (itm false))
      [some Rl, some (.bl b), some W, r3, some U, some V, x, y, z] = .nx [some Rl, some (.bl b), some W, w, some U, some V, x, y, z] := by
    intro r3 x y z
    obtain ⟨ρ', e1, w, rfl⟩ := for_inv (g := gV 3) (fb := (sIf (b2 nisD (fA F_follows (lCons (fV 5) (lCons (fV 3) lNil))) (fC (.bl true))) (sRt (fC (.bl false))) sNil))
      (fun _ ρ => ∃ w, ρ = [some Rl, some (.bl b), some W, w, some U, some V, x, y, z]) (rs.map (itm false)) [some Rl, some (.bl b), some W, r3, some U, some V, x, y, z] ⟨r3, rfl⟩ (by
        rintro i d ρ hd ⟨w, rfl⟩
        rw [List.getElem?_map] at hd
        obtain ⟨r, er, rfl⟩ := Option.map_eq_some_iff.mp hd
        have hr := List.mem_of_getElem? er
        have fo := follows_ok false false false (slimS rs) ss gs r (fun z hz => by
          have : z = r := by simpa using hz
          subst this; exact g z hr) (hs.2 r hr)
        have rd : red (slimS rs) r = true := (red_iff (fun z hz => by
          rcases List.mem_cons.mp hz with rfl | hz
          · exact g _ hr
          · exact gs z hz)).mpr ((a3 _ _).mp (.rule hr fun c hc => .known hc))
        rw [rd] at fo
        have fo : F_follows [V, itm false r] = .ok (.bl true) := by rw [hV]; exact fo
        refine ⟨_, rfl, ?_⟩
        simp only [List.set_cons_succ, List.set_cons_zero, sIf_e, b2_e, fA_e, lCons_e, fV_e, List.getElem?_cons_zero, List.getElem?_cons_succ, getV_some, R.bind_ok, lNil_e, fo, fC_e, nisD_bl, so_ok, sNil_e]
        exact ⟨_, rfl⟩)
    exact ⟨w, e1⟩
  have lcW : ∀ ρ : En, (∀ n, n = 2 ∨ n = 0 → ∃ d, (wipeE ρ [3])[n]? = some d) → True := fun _ _ => trivial
  have rangeU := r1D_nat (slimS rs).length (by have := ss.1; omega)
  have itR : itemsD Rl = .ok (rs.map (itm false)) := by rw [hR]; rfl
  have itW : itemsD W = .ok (rs.map (itm b)) := by rw [hW]; simp
  have len8 : rs.length ≤ 16777216 := by have := hs.1; omega
  have eqq : eqD (.lst (rs.map (itm true))) (.lst (rs.map (itm true))) = .ok true := eqD_self _ (by
    show doks 11 (rs.map (itm true)) = true
    exact doks_map 11 (itm true) rs fun r _ => dok_itm true r)
  have tupR : tupleD [Rl] = .ok (.tup (rs.map (itm false))) := by rw [hR]; rfl
  -- the run
  have lc0 : fLc [3] (fIt (fV 0)) (gV 3) bYes (fA listD (lCons (fV 3) lNil)) [some Rl, some (.bl b), some (.tup (rs.map (itm false))), none, none, none, none, none, none] = .ok (.lst (rs.map (itm true))) :=
    lc_all rs (itm false) (itm true) (by simp [itR]) len8 fun x hx => ⟨_, rfl, by simp [wipeE]⟩
  have first : (sIf (bV (fV 1)) (sSet 2 (fLc [3] (fIt (fV 0)) (gV 3) bYes (fA listD (lCons (fV 3) lNil)))) sNil) [some Rl, some (.bl b), some (.tup (rs.map (itm false))), none, none, none, none, none, none] =
      .nx [some Rl, some (.bl b), some W, none, none, none, none, none, none] := by
    rw [hW]
    cases b
    · simp [cont]
    · simp [cont, lc0]
  obtain ⟨x, y, l1⟩ := loop1 none
  obtain ⟨z, l2⟩ := loop2 none x y
  obtain ⟨w, l3⟩ := loop3 none x y z
  have lcA : fLc [3] (fIt (fV 2)) (gV 3) bYes (fA listD (lCons (fV 3) lNil)) [some Rl, some (.bl b), some W, w, some U, some V, x, y, z] = .ok (.lst (rs.map (itm true))) :=
    lc_all rs (itm b) (itm true) (by simp [itW]) len8 fun x hx => ⟨_, rfl, by simp [wipeE]⟩
  have lcB : fLc [3] (fIt (fV 0)) (gV 3) bYes (fA listD (lCons (fV 3) lNil)) [some Rl, some (.bl b), some W, w, some U, some V, x, y, z] = .ok (.lst (rs.map (itm true))) :=
    lc_all rs (itm false) (itm true) (by simp [itR]) len8 fun x hx => ⟨_, rfl, by simp [wipeE]⟩
  simp only [List.map_cons, List.map_nil, List.replicate, List.cons_append, List.nil_append]
  rw [sSeq_e]
  have s0 : sSet 2 (fA tupleD (lCons (fV 0) lNil)) [some Rl, some (.bl b), none, none, none, none, none, none, none] = .nx [some Rl, some (.bl b), some (.tup (rs.map (itm false))), none, none, none, none, none, none] := by simp [tupR]
  rw [s0, seq_nx, sSeq_e, first, seq_nx]
  have itL : itemsD (.lst (lots.map D.str)) = .ok (lots.map D.str) := by simp
  simp only [sSeq_e, sSet_e, fA_e, lCons_e, fV_e, List.getElem?_cons_zero, List.getElem?_cons_succ, getV_some, R.bind_ok, lNil_e, stay, slim1, so_ok, List.set_cons_succ, List.set_cons_zero, seq_nx, sIf_e, bOr_e, bNot_e, bV_e, pairs, slim2, toB_bl, Bool.not_true, Bool.false_eq_true, if_false, sNil_e, sFor_e, fIt_e, ev, itL, l1, fRg_e, ulen, rangeU, l2, itR, l3, sRt_e, fAnd_e, fB2_e, lcA, lcB, eqq, andK_e, if_true, out_rt]
end K5
end Pv

namespace Pv
open PySem PySem.Spec PyProof.Rows L2
open L2 (upd)
open K5
namespace K5
def ch (c : Nat) : D := .str [c]
theorem turned5 {α : Type} (f : α → D) (as : List α) (n : Int) (hl : as.length ≤ 1000000) : ∃ bs : List α, F__law_turned [.lst (as.map f), .int n] = .ok (.lst (bs.map f)) ∧ bs.Perm as := turned_map f as n hl
theorem digits5 (cell : Int) (sizes : List Int) (hs : ∀ s ∈ sizes, 0 < s ∧ s < 1073741824) (hl : sizes.length ≤ 1000000) :
    ∃ row : List Int, F__law_digits [.int cell, .lst (sizes.map D.int)] = .ok (.lst (row.map D.int)) ∧ row.length = sizes.length ∧ Fits row sizes := digits_ok cell sizes hs hl
theorem cell5 (ns : List Int) (k : Nat) (hk : k ≤ 1000) : ∃ z : Int, F__law_cell [.lst (ns.map D.int), .int k] = .ok (.int z) := cell_ok ns k hk
/-- membership in a list of letters -/
theorem dok_ch (n : Nat) (c : Nat) : dok n (ch c) = true := by cases n <;> simp [ch, dok]
theorem any_ch (c : Nat) (l : List Nat) : ((l.map ch).any fun z => deq z (ch c)) = decide (c ∈ l) := by
  rw [List.any_map, Bool.eq_iff_iff, List.any_eq_true]
  simp only [Function.comp, ch, decide_eq_true_eq]
  constructor
  · rintro ⟨x, hx, h⟩
    rw [deq] at h
    simp at h
    subst h; exact hx
  · intro h
    exact ⟨c, h, by rw [deq]; simp⟩
theorem inD_chs (c : Nat) (l : List Nat) : inD (.str [c]) (.lst (l.map ch)) = .ok (decide (c ∈ l)) := by
  unfold inD
  simp only
  rw [if_pos ⟨dok_ch 12 c, doks_map 12 ch l fun x _ => dok_ch 12 x⟩]
  rw [← any_ch c l]
  rfl
theorem ninD_chs (c : Nat) (l : List Nat) : ninD (.str [c]) (.lst (l.map ch)) = .ok (!decide (c ∈ l)) := by
  unfold ninD
  rw [inD_chs]; rfl
theorem lotL_ok (l : List Nat) : F__law_lot [.lst (l.map ch)] = .ok (.str (canon l)) := by
  unfold F__law_lot b__law_lot
  rw [fnB_e]
  have lc : fLc [1] (fIt (fC (.str [97, 98, 99, 100, 101, 102, 103, 104]))) (gV 1) (b2 inD (fV 1) (fV 0)) (fV 1) [some (.lst (l.map ch)), none] = .ok (.lst ((canon l).map fun c => .str [c])) :=
    lc_map COL (fun c => .str [c]) (fun c => decide (c ∈ l)) (fun c => .str [c]) (by simp [COL]) (by decide) fun x hx => ⟨_, rfl, by simp [wipeE, inD_chs], fun _ => by simp [wipeE]⟩
  simp [lc, joinD_ch (canon l) (Nat.le_trans (canon_len l) (by decide))]
/-- a letter by a number -/
def pickC (ls : List Nat) (e : Int) : Nat := ls.getD (e % (ls.length : Int)).toNat 0
theorem pick_get (ls : List Nat) (e : Int) (h : 0 < ls.length) : getD (.lst (ls.map ch)) (.int (e % (ls.length : Int))) = .ok (.str [pickC ls e]) := by
  obtain ⟨m, hm⟩ : ∃ m : Nat, e % (ls.length : Int) = (m : Int) := ⟨(e % (ls.length : Int)).toNat, by have := Int.emod_nonneg e (show (ls.length : Int) ≠ 0 by omega); omega⟩
  have hl : m < ls.length := by have := Int.emod_lt_of_pos e (show 0 < (ls.length : Int) by omega); omega
  unfold pickC
  rw [hm, getD_lst, List.getElem?_map, List.getElem?_eq_getElem hl]
  simp [ch, List.getD_eq_getElem?_getD, hl]
theorem pick_mem (ls : List Nat) (e : Int) (h : 0 < ls.length) : pickC ls e ∈ ls := by
  obtain ⟨m, hm⟩ : ∃ m : Nat, e % (ls.length : Int) = (m : Int) := ⟨(e % (ls.length : Int)).toNat, by have := Int.emod_nonneg e (show (ls.length : Int) ≠ 0 by omega); omega⟩
  have hl : m < ls.length := by have := Int.emod_lt_of_pos e (show 0 < (ls.length : Int) by omega); omega
  unfold pickC
  rw [hm, Int.toNat_natCast, List.getD_eq_getElem?_getD, List.getElem?_eq_getElem hl]
  exact List.getElem_mem hl
/-- rules as the laws build them -/
def FineR (r : Rule) : Prop := r.2 ∈ COL ∧ (∀ c ∈ r.1, c ∈ COL) ∧ r.1.length ≤ 8
def Fine (rs : List Rule) : Prop := ∀ r ∈ rs, FineR r
theorem Fine.good {rs : List Rule} (h : Fine rs) (hl : rs.length ≤ 1000) : GoodR rs := ⟨⟨hl, fun r hr => Nat.le_trans (h r hr).2.2 (by decide)⟩, fun r hr => ⟨(h r hr).1, (h r hr).2.1⟩⟩
theorem fine_canon (l : List Nat) (c : Nat) (h : c ∈ COL) : FineR (canon l, c) := ⟨h, fun x hx => (mem_canon.mp hx).1, canon_len l⟩
theorem twelve (m : Nat) (h : m < 12) : ∃ n : Nat, n ≤ 6 ∧ getD (.lst [.int 6, .int 5, .int 4, .int 6, .int 3, .int 5, .int 6, .int 4, .int 2, .int 6, .int 6, .int 5]) (.int (m : Int)) = .ok (.int (n : Int)) := by
  rw [getD_lst]
  have : m = 0 ∨ m = 1 ∨ m = 2 ∨ m = 3 ∨ m = 4 ∨ m = 5 ∨ m = 6 ∨ m = 7 ∨ m = 8 ∨ m = 9 ∨ m = 10 ∨ m = 11 := by omega
  rcases this with rfl | rfl | rfl | rfl | rfl | rfl | rfl | rfl | rfl | rfl | rfl | rfl
  · exact ⟨6, by decide, rfl⟩
  · exact ⟨5, by decide, rfl⟩
  · exact ⟨4, by decide, rfl⟩
  · exact ⟨6, by decide, rfl⟩
  · exact ⟨3, by decide, rfl⟩
  · exact ⟨5, by decide, rfl⟩
  · exact ⟨6, by decide, rfl⟩
  · exact ⟨4, by decide, rfl⟩
  · exact ⟨2, by decide, rfl⟩
  · exact ⟨6, by decide, rfl⟩
  · exact ⟨6, by decide, rfl⟩
  · exact ⟨5, by decide, rfl⟩
theorem eight (m : Nat) (h : m < 12) : ∃ n : Nat, 2 ≤ n ∧ n ≤ 8 ∧ getD (.lst [.int 8, .int 7, .int 6, .int 7, .int 5, .int 4, .int 8, .int 3, .int 6, .int 2, .int 7, .int 5]) (.int (m : Int)) = .ok (.int (n : Int)) := by
  rw [getD_lst]
  have : m = 0 ∨ m = 1 ∨ m = 2 ∨ m = 3 ∨ m = 4 ∨ m = 5 ∨ m = 6 ∨ m = 7 ∨ m = 8 ∨ m = 9 ∨ m = 10 ∨ m = 11 := by omega
  rcases this with rfl | rfl | rfl | rfl | rfl | rfl | rfl | rfl | rfl | rfl | rfl | rfl
  · exact ⟨8, by decide, by decide, rfl⟩
  · exact ⟨7, by decide, by decide, rfl⟩
  · exact ⟨6, by decide, by decide, rfl⟩
  · exact ⟨7, by decide, by decide, rfl⟩
  · exact ⟨5, by decide, by decide, rfl⟩
  · exact ⟨4, by decide, by decide, rfl⟩
  · exact ⟨8, by decide, by decide, rfl⟩
  · exact ⟨3, by decide, by decide, rfl⟩
  · exact ⟨6, by decide, by decide, rfl⟩
  · exact ⟨2, by decide, by decide, rfl⟩
  · exact ⟨7, by decide, by decide, rfl⟩
  · exact ⟨5, by decide, by decide, rfl⟩
def sz21 : List Int := [9, 12, 720, 60, 60, 60, 60, 60, 60, 60, 60, 60, 60, 60, 60, 60, 60, 60, 60, 60, 60]
def dChain : En → SO := (sIf (bAnd (b2 leD (f2 getD (fV 2) (fC (.int 0))) (fC (.int 3))) (b2 gtD (f2 modD (fV 8) (fC (.int 6))) (fC (.int 0)))) (sSeq (sSet 9 (fLst (lCons (f2 getD (fV 0) (f2 modD (f2 fdivD (fV 5) (f2 addD (fC (.int 1)) (f2 fdivD (f2 getD (fV 2) (fC (.int 0))) (fC (.int 2))))) (fV 3))) lNil))) (sSet 10 (f2 getD (fV 0) (f2 modD (f2 addD (fV 5) (fC (.int 1))) (fV 3))))) (sIf (bAnd (b2 eqD (f2 getD (fV 2) (fC (.int 0))) (fC (.int 4))) (b2 gtD (f2 modD (fV 8) (fC (.int 6))) (fC (.int 0)))) (sSeq (sSet 9 (fLst (lCons (f2 getD (fV 0) (f2 modD (fV 5) (fV 3))) (lCons (f2 getD (fV 0) (f2 modD (f2 addD (fV 5) (fC (.int 1))) (fV 3))) lNil)))) (sSet 10 (f2 getD (fV 0) (f2 modD (f2 addD (fV 5) (fC (.int 2))) (fV 3))))) (sIf (bAnd (b2 eqD (f2 getD (fV 2) (fC (.int 0))) (fC (.int 5))) (b2 gtD (f2 modD (fV 8) (fC (.int 6))) (fC (.int 0)))) (sSeq (sSet 9 (fLst (lCons (f2 getD (fV 0) (f2 modD (f2 modD (fV 5) (fC (.int 3))) (fV 3))) lNil))) (sSet 10 (f2 getD (fV 0) (f2 modD (f2 modD (f2 addD (f2 mulD (fC (.int 2)) (fV 5)) (fC (.int 1))) (fC (.int 5))) (fV 3))))) sNil)))
def dApp : En → SO := (sIf (bOr (b2 eqD (f2 fdivD (fV 8) (fC (.int 6))) (fC (.int 0))) (bAnd (b2 geD (f2 getD (fV 2) (fC (.int 0))) (fC (.int 6))) (b2 eqD (f2 modD (f2 fdivD (fV 8) (fC (.int 6))) (fC (.int 2))) (fC (.int 0))))) (sM1 9 appD (f2 getD (fV 0) (f2 modD (f2 fdivD (fV 6) (fC (.int 8))) (fV 3)))) sNil)
def dMore : En → SO := (sIf (bOr (b2 eqD (f2 fdivD (fV 8) (fC (.int 6))) (fC (.int 3))) (b2 eqD (f2 fdivD (fV 8) (fC (.int 6))) (fC (.int 7)))) (sSet 9 (f2 addD (fV 9) (fLc [11] (fRg r1D (lCons (f2 subD (f2 fdivD (fV 8) (fC (.int 6))) (fC (.int 2))) lNil)) (gV 11) bYes (f2 getD (fV 0) (f2 modD (f2 addD (f2 fdivD (fV 7) (fC (.int 8))) (fV 11)) (fV 3)))))) sNil)
def dAdd : En → SO := (sIf (b2 ninD (fV 10) (fV 9)) (sM1 4 appD (fTup (lCons (fA F__law_lot (lCons (fV 9) lNil)) (lCons (fV 10) lNil)))) sNil)
def dBody : En → SO := (sSeq (sSet 6 (f2 getD (fV 2) (f2 addD (fC (.int 3)) (f2 mulD (fC (.int 3)) (fV 5))))) (sSeq (sSet 7 (f2 getD (fV 2) (f2 addD (fC (.int 4)) (f2 mulD (fC (.int 3)) (fV 5))))) (sSeq (sSet 8 (f2 getD (fV 2) (f2 addD (fC (.int 5)) (f2 mulD (fC (.int 3)) (fV 5))))) (sSeq (sSet 9 (fLst (lCons (f2 getD (fV 0) (f2 modD (fV 6) (fV 3))) lNil))) (sSeq (sSet 10 (f2 getD (fV 0) (f2 modD (f2 addD (f2 addD (fV 6) (fC (.int 1))) (f2 modD (fV 7) (fA max2D (lCons (fC (.int 1)) (lCons (f2 subD (fV 3) (fC (.int 1))) lNil))))) (fV 3)))) (sSeq dChain (sSeq dApp (sSeq dMore dAdd))))))))
theorem dBody_e : dBody = (sSeq (sSet 6 (f2 getD (fV 2) (f2 addD (fC (.int 3)) (f2 mulD (fC (.int 3)) (fV 5))))) (sSeq (sSet 7 (f2 getD (fV 2) (f2 addD (fC (.int 4)) (f2 mulD (fC (.int 3)) (fV 5))))) (sSeq (sSet 8 (f2 getD (fV 2) (f2 addD (fC (.int 5)) (f2 mulD (fC (.int 3)) (fV 5))))) (sSeq (sSet 9 (fLst (lCons (f2 getD (fV 0) (f2 modD (fV 6) (fV 3))) lNil))) (sSeq (sSet 10 (f2 getD (fV 0) (f2 modD (f2 addD (f2 addD (fV 6) (fC (.int 1))) (f2 modD (fV 7) (fA max2D (lCons (fC (.int 1)) (lCons (f2 subD (fV 3) (fC (.int 1))) lNil))))) (fV 3)))) (sSeq (sIf (bAnd (b2 leD (f2 getD (fV 2) (fC (.int 0))) (fC (.int 3))) (b2 gtD (f2 modD (fV 8) (fC (.int 6))) (fC (.int 0)))) (sSeq (sSet 9 (fLst (lCons (f2 getD (fV 0) (f2 modD (f2 fdivD (fV 5) (f2 addD (fC (.int 1)) (f2 fdivD (f2 getD (fV 2) (fC (.int 0))) (fC (.int 2))))) (fV 3))) lNil))) (sSet 10 (f2 getD (fV 0) (f2 modD (f2 addD (fV 5) (fC (.int 1))) (fV 3))))) (sIf (bAnd (b2 eqD (f2 getD (fV 2) (fC (.int 0))) (fC (.int 4))) (b2 gtD (f2 modD (fV 8) (fC (.int 6))) (fC (.int 0)))) (sSeq (sSet 9 (fLst (lCons (f2 getD (fV 0) (f2 modD (fV 5) (fV 3))) (lCons (f2 getD (fV 0) (f2 modD (f2 addD (fV 5) (fC (.int 1))) (fV 3))) lNil)))) (sSet 10 (f2 getD (fV 0) (f2 modD (f2 addD (fV 5) (fC (.int 2))) (fV 3))))) (sIf (bAnd (b2 eqD (f2 getD (fV 2) (fC (.int 0))) (fC (.int 5))) (b2 gtD (f2 modD (fV 8) (fC (.int 6))) (fC (.int 0)))) (sSeq (sSet 9 (fLst (lCons (f2 getD (fV 0) (f2 modD (f2 modD (fV 5) (fC (.int 3))) (fV 3))) lNil))) (sSet 10 (f2 getD (fV 0) (f2 modD (f2 modD (f2 addD (f2 mulD (fC (.int 2)) (fV 5)) (fC (.int 1))) (fC (.int 5))) (fV 3))))) sNil))) (sSeq (sIf (bOr (b2 eqD (f2 fdivD (fV 8) (fC (.int 6))) (fC (.int 0))) (bAnd (b2 geD (f2 getD (fV 2) (fC (.int 0))) (fC (.int 6))) (b2 eqD (f2 modD (f2 fdivD (fV 8) (fC (.int 6))) (fC (.int 2))) (fC (.int 0))))) (sM1 9 appD (f2 getD (fV 0) (f2 modD (f2 fdivD (fV 6) (fC (.int 8))) (fV 3)))) sNil) (sSeq (sIf (bOr (b2 eqD (f2 fdivD (fV 8) (fC (.int 6))) (fC (.int 3))) (b2 eqD (f2 fdivD (fV 8) (fC (.int 6))) (fC (.int 7)))) (sSet 9 (f2 addD (fV 9) (fLc [11] (fRg r1D (lCons (f2 subD (f2 fdivD (fV 8) (fC (.int 6))) (fC (.int 2))) lNil)) (gV 11) bYes (f2 getD (fV 0) (f2 modD (f2 addD (f2 fdivD (fV 7) (fC (.int 8))) (fV 11)) (fV 3)))))) sNil) (sIf (b2 ninD (fV 10) (fV 9)) (sM1 4 appD (fTup (lCons (fA F__law_lot (lCons (fV 9) lNil)) (lCons (fV 10) lNil)))) sNil))))))))) := rfl
theorem al1 {P : Nat → Prop} {a : Nat} (h : P a) : ∀ c ∈ [a], P c := fun c hc => by rw [List.mem_singleton.mp hc]; exact h
theorem al2 {P : Nat → Prop} {a b : Nat} (h : P a) (k : P b) : ∀ c ∈ [a, b], P c := fun c hc => by
  rcases List.mem_cons.mp hc with rfl | hc
  · exact h
  · exact al1 k c hc
theorem alA {P : Nat → Prop} {l m : List Nat} (h : ∀ c ∈ l, P c) (k : ∀ c ∈ m, P c) : ∀ c ∈ l ++ m, P c := fun c hc => by
  rcases List.mem_append.mp hc with hc | hc
  · exact h c hc
  · exact k c hc
theorem dBody_ok (ls : List Nat) (hl : 2 ≤ ls.length) (hl8 : ls.length ≤ 8) (hc : ∀ c ∈ ls, c ∈ COL) (cell : D) (row : List Int) (hrow : row.length = 21) (hb0 : 0 ≤ rv row 0 ∧ rv row 0 < 9) (rs : List Rule) (hf : Fine rs) (k : Nat) (hk : k < 6) (hrs : rs.length ≤ k) (a b c d e f : Option D) (P : En → Prop)
    (hP : ∀ (rs' : List Rule) (a b c d e f : Option D), Fine rs' → rs'.length ≤ k + 1 → P [some (.lst (ls.map ch)), some cell, some (.lst (row.map D.int)), some (.int (ls.length : Int)), some (.lst (rs'.map (itm false))), f, a, b, c, d, e, none]) :
    (dBody [some (.lst (ls.map ch)), some cell, some (.lst (row.map D.int)), some (.int (ls.length : Int)), some (.lst (rs.map (itm false))), some (.int (k : Int)), a, b, c, d, e, none]).w P P (fun _ => False) (fun _ => False) := by
  have pos : (0 : Int) < (ls.length : Int) := by omega
  have posN : 0 < ls.length := by omega
  have m3 : mulD (.int 3) (.int (k : Int)) = .ok (.int (3 * (k : Int))) := mulD_int _ _ (.inl ⟨by omega, by omega⟩)
  have m2 : mulD (.int 2) (.int (k : Int)) = .ok (.int (2 * (k : Int))) := mulD_int _ _ (.inl ⟨by omega, by omega⟩)
  have g3 : getD (.lst (row.map D.int)) (.int (3 + 3 * (k : Int))) = .ok (.int (rv row (3 + 3 * k))) := by
    rw [show (3 + 3 * (k : Int)) = ((3 + 3 * k : Nat) : Int) by omega]; exact rv_get row _ (by omega)
  have g4 : getD (.lst (row.map D.int)) (.int (4 + 3 * (k : Int))) = .ok (.int (rv row (4 + 3 * k))) := by
    rw [show (4 + 3 * (k : Int)) = ((4 + 3 * k : Nat) : Int) by omega]; exact rv_get row _ (by omega)
  have g5 : getD (.lst (row.map D.int)) (.int (5 + 3 * (k : Int))) = .ok (.int (rv row (5 + 3 * k))) := by
    rw [show (5 + 3 * (k : Int)) = ((5 + 3 * k : Nat) : Int) by omega]; exact rv_get row _ (by omega)
  have g0 : getD (.lst (row.map D.int)) (.int 0) = .ok (.int (rv row 0)) := rv_get row 0 (by omega)
  obtain ⟨u, hu⟩ : ∃ u, u = rv row (3 + 3 * k) := ⟨_, rfl⟩
  obtain ⟨v, hv⟩ : ∃ v, v = rv row (4 + 3 * k) := ⟨_, rfl⟩
  obtain ⟨t, ht⟩ : ∃ t, t = rv row (5 + 3 * k) := ⟨_, rfl⟩
  obtain ⟨r0, hr0⟩ : ∃ r0, r0 = rv row 0 := ⟨_, rfl⟩
  rw [← hu] at g3; rw [← hv] at g4; rw [← ht] at g5; rw [← hr0] at g0 hb0
  obtain ⟨M, hM⟩ : ∃ M, M = D.lst (row.map D.int) := ⟨_, rfl⟩
  obtain ⟨L, hL⟩ : ∃ L, L = D.lst (ls.map ch) := ⟨_, rfl⟩
  have pk : ∀ x : Int, getD L (.int (x % (ls.length : Int))) = .ok (.str [pickC ls x]) := fun x => by rw [hL]; exact pick_get ls x posN
  have pm : ∀ x : Int, pickC ls x ∈ ls := fun x => pick_mem ls x posN
  rw [← hM] at g3 g4 g5 g0 hP ⊢
  rw [← hL] at hP ⊢
  obtain ⟨wd, hwd⟩ : ∃ wd : Int, wd = (ls.length : Int) := ⟨_, rfl⟩
  rw [← hwd] at pos pk hP ⊢
  have mx : (0 : Int) < (if wd - 1 > 1 then wd - 1 else 1) := by split <;> omega
  unfold dBody
  refine w_seq (w_set (d := .int u) (by simp [m3, g3]) ?_)
  refine w_seq (w_set (d := .int v) (by simp [m3, g4]) ?_)
  refine w_seq (w_set (d := .int t) (by simp [m3, g5]) ?_)
  refine w_seq (w_set (d := .lst ([pickC ls u].map ch)) (by simp [pos, pk, ch]) ?_)
  refine w_seq (w_set (d := ch (pickC ls (u + 1 + v % (if wd - 1 > 1 then wd - 1 else 1)))) (by simp [pos, pk, ch, mx]) ?_)
  simp only [List.set_cons_succ, List.set_cons_zero]
  -- the chain of forms
  have chain : ∀ (left : List Nat) (right : Nat) (N : En → Prop), (∀ c ∈ left, c ∈ ls) → left.length = 1 → right ∈ ls → (∀ (left' : List Nat) (right' : Nat), (∀ c ∈ left', c ∈ ls) → left'.length ≤ 2 → right' ∈ ls → N [some L, some cell, some M, some (.int wd), some (.lst (rs.map (itm false))), some (.int (k : Int)), some (.int u), some (.int v), some (.int t), some (.lst (left'.map ch)), some (ch right'), none]) →
      (dChain [some L, some cell, some M, some (.int wd), some (.lst (rs.map (itm false))), some (.int (k : Int)), some (.int u), some (.int v), some (.int t), some (.lst (left.map ch)), some (ch right), none]).w N P (fun _ => False) (fun _ => False) := by
    intro left right N hleft hlen hright hN
    unfold dChain
    have q1 : (0 : Int) < 1 + r0 / 2 ∧ 1 + r0 / 2 < 1073741824 := by omega
    refine w_if (b := decide (r0 ≤ 3) && decide (0 < t % 6)) (bAnd_ok (by simp [g0]) (by simp)) (fun _ => ?_) (fun _ => ?_)
    · refine w_seq (w_set (d := .lst ([pickC ls ((k : Int) / (1 + r0 / 2))].map ch)) (by simp [g0, q1.1, q1.2, pos, pk, ch]) ?_)
      refine w_set (d := ch (pickC ls ((k : Int) + 1))) (by simp [pos, pk, ch]) ?_
      exact hN _ _ (al1 (pm _)) (by simp) (pm _)
    · refine w_if (b := (r0 == 4) && decide (0 < t % 6)) (bAnd_ok (by simp [g0]) (by simp)) (fun _ => ?_) (fun _ => ?_)
      · refine w_seq (w_set (d := .lst ([pickC ls (k : Int), pickC ls ((k : Int) + 1)].map ch)) (by simp [pos, pk, ch]) ?_)
        refine w_set (d := ch (pickC ls ((k : Int) + 2))) (by simp [pos, pk, ch]) ?_
        exact hN _ _ (al2 (pm _) (pm _)) (by simp) (pm _)
      · refine w_if (b := (r0 == 5) && decide (0 < t % 6)) (bAnd_ok (by simp [g0]) (by simp)) (fun _ => ?_) (fun _ => ?_)
        · refine w_seq (w_set (d := .lst ([pickC ls ((k : Int) % 3)].map ch)) (by simp [pos, pk, ch]) ?_)
          refine w_set (d := ch (pickC ls ((2 * (k : Int) + 1) % 5))) (by simp [pos, pk, ch, m2]) ?_
          exact hN _ _ (al1 (pm _)) (by simp) (pm _)
        · exact w_nil (hN _ _ hleft (by omega) hright)
  refine w_seq (chain [pickC ls u] _ _ (al1 (pm _)) rfl (pm _) fun left right hleft hlen hright => ?_)
  -- perhaps one more letter
  have more1 : ∀ (N : En → Prop), (∀ (left' : List Nat), (∀ c ∈ left', c ∈ ls) → left'.length ≤ 3 → N [some L, some cell, some M, some (.int wd), some (.lst (rs.map (itm false))), some (.int (k : Int)), some (.int u), some (.int v), some (.int t), some (.lst (left'.map ch)), some (ch right), none]) →
      (dApp [some L, some cell, some M, some (.int wd), some (.lst (rs.map (itm false))), some (.int (k : Int)), some (.int u), some (.int v), some (.int t), some (.lst (left.map ch)), some (ch right), none]).w N P (fun _ => False) (fun _ => False) := by
    intro N hN
    unfold dApp
    refine w_if (b := (t / 6 == 0) || (decide (6 ≤ r0) && (t / 6 % 2 == 0))) (bOr_ok (by simp) (bAnd_ok (by simp [g0]) (by simp))) (fun _ => ?_) (fun _ => ?_)
    · refine w_app (d := ch (pickC ls (u / 8))) (ds := left.map ch) (by simp [pos, pk, ch]) (by simp) (by simp; omega) ?_
      have := hN (left ++ [pickC ls (u / 8)]) (alA hleft (al1 (pm _))) (by simp; omega)
      simpa using this
    · exact w_nil (hN _ hleft (by omega))
  refine w_seq (more1 _ fun left hleft hlen => ?_)
  have more2 : ∀ (N : En → Prop), (∀ (left' : List Nat), (∀ c ∈ left', c ∈ ls) → left'.length ≤ 100 → N [some L, some cell, some M, some (.int wd), some (.lst (rs.map (itm false))), some (.int (k : Int)), some (.int u), some (.int v), some (.int t), some (.lst (left'.map ch)), some (ch right), none]) →
      (dMore [some L, some cell, some M, some (.int wd), some (.lst (rs.map (itm false))), some (.int (k : Int)), some (.int u), some (.int v), some (.int t), some (.lst (left.map ch)), some (ch right), none]).w N P (fun _ => False) (fun _ => False) := by
    intro N hN
    unfold dMore
    refine w_if (b := (t / 6 == 3) || (t / 6 == 7)) (bOr_ok (by simp) (by simp)) (fun hb => ?_) (fun _ => ?_)
    · obtain ⟨n, hn, hn8⟩ : ∃ n : Nat, t / 6 - 2 = (n : Int) ∧ n ≤ 5 := by
        simp only [Bool.or_eq_true, beq_iff_eq] at hb
        rcases hb with h | h
        · exact ⟨1, by omega, by decide⟩
        · exact ⟨5, by omega, by decide⟩
      have lc := lc_all (vs := [11]) (fi := fRg r1D (lCons (f2 subD (f2 fdivD (fV 8) (fC (.int 6))) (fC (.int 2))) lNil)) (g := gV 11) (fe := (f2 getD (fV 0) (f2 modD (f2 addD (f2 fdivD (fV 7) (fC (.int 8))) (fV 11)) (fV 3)))) (ρ := [some L, some cell, some M, some (.int wd), some (.lst (rs.map (itm false))), some (.int (k : Int)), some (.int u), some (.int v), some (.int t), some (.lst (left.map ch)), some (ch right), none]) (List.range n) (fun (j : Nat) => .int (j : Int)) (fun j => ch (pickC ls (v / 8 + (j : Int)))) (by
          have := r1D_nat n (by omega)
          simp [hn, this]) (by simp; omega) fun j hj => ⟨_, rfl, by simp [wipeE, pos, pk, ch]⟩
      refine w_set (d := .lst ((left ++ (List.range n).map fun (j : Nat) => pickC ls (v / 8 + (j : Int))).map ch)) ?_ ?_
      · rw [f2_e, lc]
        simp only [fV_e, List.getElem?_cons_zero, List.getElem?_cons_succ, getV_some, R.bind_ok, addD_lst]
        rw [if_pos (by simp; omega), List.map_append, List.map_map]
        rfl
      · exact hN _ (fun c hc => by
          rcases List.mem_append.mp hc with hc | hc
          · exact hleft c hc
          · obtain ⟨j, _, rfl⟩ := List.mem_map.mp hc
            exact pm _) (by simp; omega)
    · exact w_nil (hN _ hleft (by omega))
  refine w_seq (more2 _ fun left hleft hlen => ?_)
  unfold dAdd
  have nin := ninD_chs right left
  have lo := lotL_ok left
  refine w_if (b := !decide (right ∈ left)) (by simp [ch] at nin ⊢; simpa [ch] using nin) (fun _ => ?_) (fun _ => ?_)
  · refine w_app (d := itm false (canon left, right)) (ds := rs.map (itm false)) (by simp [lo, ch, itm]) (by simp) (by simp; omega) ?_
    have := hP (rs ++ [(canon left, right)]) (some (.int u)) (some (.int v)) (some (.int t)) (some (.lst (left.map ch))) (some (ch right)) (some (.int (k : Int))) (fun r hr => by
      rcases List.mem_append.mp hr with hr | hr
      · exact hf r hr
      · rw [List.mem_singleton.mp hr]; exact fine_canon left right (hc _ hright)) (by simp; omega)
    simpa using this
  · exact w_nil (hP rs _ _ _ _ _ _ hf (by omega))
end K5
end Pv

namespace Pv
noncomputable section
open PySem PySem.Spec PyProof.Rows L2
open L2 (upd)
open K5
namespace K5
def dr0 : En → SO := (sSet 2 (fA F__law_digits (lCons (fV 1) (lCons (f2 addD (fLst (lCons (fC (.int 9)) (lCons (fC (.int 12)) (lCons (fC (.int 720)) lNil)))) (f2 repD (fLst (lCons (fC (.int 60)) lNil)) (fC (.int 18)))) lNil))))
def dr1 : En → SO := (sSet 3 (fA lenD (lCons (fV 0) lNil)))
def dr2 : En → SO := (sSet 4 (fLst lNil))
def dr3 : En → SO := (sFor (fRg r1D (lCons (f2 getD (fLst (lCons (fC (.int 6)) (lCons (fC (.int 5)) (lCons (fC (.int 4)) (lCons (fC (.int 6)) (lCons (fC (.int 3)) (lCons (fC (.int 5)) (lCons (fC (.int 6)) (lCons (fC (.int 4)) (lCons (fC (.int 2)) (lCons (fC (.int 6)) (lCons (fC (.int 6)) (lCons (fC (.int 5)) lNil))))))))))))) (f2 getD (fV 2) (fC (.int 1)))) lNil)) (gV 5) dBody)
def dr4 : En → SO := (sIf (bAnd (bOr (b2 eqD (f2 getD (fV 2) (fC (.int 0))) (fC (.int 5))) (b2 eqD (f2 getD (fV 2) (fC (.int 0))) (fC (.int 8)))) (bAnd (b2 gtD (fA lenD (lCons (fV 4) lNil)) (fC (.int 0))) (b2 ltD (fA lenD (lCons (fV 4) lNil)) (fC (.int 6))))) (sM1 4 appD (f2 getD (fV 4) (fC (.int 0)))) sNil)
def dr5 : En → SO := (sRt (fA F__law_turned (lCons (fV 4) (lCons (f2 getD (fV 2) (fC (.int 2))) lNil))))
theorem dr_e : b__law_drawn_rules = (sSeq dr0 (sSeq dr1 (sSeq dr2 (sSeq dr3 (sSeq dr4 dr5))))) := rfl
def rb0 : En → SO := (sSet 3 (fA F__law_digits (lCons (fV 1) (lCons (fLst (lCons (fC (.int 10)) (lCons (fC (.int 8)) (lCons (fC (.int 12)) (lCons (fC (.int 6)) (lCons (fC (.int 6)) (lCons (fC (.int 6)) (lCons (fC (.int 720)) lNil)))))))) lNil))))
def rb1 : En → SO := (sSet 4 (fA F__law_drawn_rules (lCons (fSl (fV 0) oNo (oSo (f2 getD (fLst (lCons (fC (.int 8)) (lCons (fC (.int 7)) (lCons (fC (.int 6)) (lCons (fC (.int 7)) (lCons (fC (.int 5)) (lCons (fC (.int 4)) (lCons (fC (.int 8)) (lCons (fC (.int 3)) (lCons (fC (.int 6)) (lCons (fC (.int 2)) (lCons (fC (.int 7)) (lCons (fC (.int 5)) lNil))))))))))))) (f2 getD (fV 3) (fC (.int 2)))))) (lCons (fV 2) lNil))))
def rb2 : En → SO := (sIf (b2 geD (f2 getD (fV 3) (fC (.int 0))) (fC (.int 7))) (sRt (fV 4)) sNil)
def rb3 : En → SO := (sSet 5 (fSlL (fLc [6] (fIt (fA F__law_menu (lCons (f2 getD (fV 3) (fC (.int 0))) lNil))) (gV 6) bYes (fA F__law_named (lCons (fV 6) (lCons (fV 0) lNil)))) oNo (oSo (fA min2D (lCons (fC (.int 6)) (lCons (f2 addD (fC (.int 2)) (f2 getD (fV 3) (fC (.int 1)))) lNil))))))
def rb4 : En → SO := (sSet 7 (f2 modD (f2 getD (fV 3) (fC (.int 3))) (fA lenD (lCons (fV 5) lNil))))
def rb5 : En → SO := (sIf (bAnd (b2 eqD (f2 getD (fV 3) (fC (.int 4))) (fC (.int 0))) (b2 gtD (fA lenD (lCons (fV 4) lNil)) (fC (.int 0)))) (sIx 5 (fV 7) (f2 getD (fV 4) (fC (.int 0)))) (sIf (b2 eqD (f2 getD (fV 3) (fC (.int 4))) (fC (.int 1))) (sIx 5 (fV 7) (f2 getD (fV 5) (f2 modD (f2 getD (fV 3) (fC (.int 5))) (fA lenD (lCons (fV 5) lNil))))) sNil))
def rb6 : En → SO := (sRt (fA F__law_turned (lCons (fV 5) (lCons (f2 getD (fV 3) (fC (.int 6))) lNil))))
theorem rb_e : b__law_rulebook = (sSeq rb0 (sSeq rb1 (sSeq rb2 (sSeq rb3 (sSeq rb4 (sSeq rb5 rb6)))))) := rfl
def lw0 : En → SO := (sSet 1 (fA F__law_digits (lCons (fA F__law_cell (lCons (fV 0) (lCons (fC (.int 0)) lNil))) (lCons (fLst (lCons (fC (.int 40320)) (lCons (fC (.int 720)) (lCons (fC (.int 40320)) (lCons (fC (.int 6)) lNil))))) lNil))))
def lw1 : En → SO := (sSet 2 (fA F__law_turned (lCons (fLst (lCons (fC (.str [97])) (lCons (fC (.str [98])) (lCons (fC (.str [99])) (lCons (fC (.str [100])) (lCons (fC (.str [101])) (lCons (fC (.str [102])) (lCons (fC (.str [103])) (lCons (fC (.str [104])) lNil))))))))) (lCons (f2 getD (fV 1) (fC (.int 0))) lNil))))
def lw2 : En → SO := (sSet 3 (fA F__law_turned (lCons (fLst (lCons (fC (.str [97])) (lCons (fC (.str [98])) (lCons (fC (.str [99])) (lCons (fC (.str [100])) (lCons (fC (.str [101])) (lCons (fC (.str [102])) (lCons (fC (.str [103])) (lCons (fC (.str [104])) lNil))))))))) (lCons (f2 getD (fV 1) (fC (.int 2))) lNil))))
def lw3 : En → SO := (sSet 4 (fA F__law_rulebook (lCons (fV 2) (lCons (fA F__law_cell (lCons (fV 0) (lCons (fC (.int 1)) lNil))) (lCons (fA F__law_cell (lCons (fV 0) (lCons (fC (.int 2)) lNil))) lNil)))))
def lw4 : En → SO := (sSet 5 (fA F__law_rulebook (lCons (fV 3) (lCons (fA F__law_cell (lCons (fV 0) (lCons (fC (.int 3)) lNil))) (lCons (fA F__law_cell (lCons (fV 0) (lCons (fC (.int 4)) lNil))) lNil)))))
def lw5 : En → SO := (sIf (bOr (bNot (bV (fA F__law_slim_holds (lCons (fV 4) (lCons (fC (.bl true)) lNil))))) (bNot (bV (fA F__law_slim_holds (lCons (fV 5) (lCons (fC (.bl false)) lNil)))))) (sRt (fC (.bl false))) sNil)
def lw6 : En → SO := (sIf (bNot (bV (fA F__law_slim_holds (lCons (fA F__law_turned (lCons (fV 4) (lCons (f2 getD (fV 1) (fC (.int 1))) lNil))) (lCons (fC (.bl false)) lNil))))) (sRt (fC (.bl false))) sNil)
def lw7 : En → SO := (sSet 6 (fSl (f2 addD (fV 4) (fV 5)) (oSo (f2 getD (fV 1) (fC (.int 3)))) (oSo (f2 addD (f2 getD (fV 1) (fC (.int 3))) (fC (.int 1))))))
def lw8 : En → SO := (sRt (fAnd (fA F__law_slim_holds (lCons (fV 6) (lCons (fC (.bl true)) lNil))) (fAnd (fA F__law_slim_holds (lCons (fLst lNil) (lCons (fB2 eqD (f2 modD (f2 getD (fV 1) (fC (.int 3))) (fC (.int 2))) (fC (.int 0))) lNil))) (fA F__law_pairs (lCons (fA F_slim (lCons (fA listD (lCons (fV 4) lNil)) lNil)) (lCons (fA F__law_staying (lCons (fV 4) lNil)) lNil))))))
theorem lw_e : b_law = (sSeq lw0 (sSeq lw1 (sSeq lw2 (sSeq lw3 (sSeq lw4 (sSeq lw5 (sSeq lw6 (sSeq lw7 lw8)))))))) := rfl
theorem drawn_ok (ls : List Nat) (hl : 2 ≤ ls.length) (hl8 : ls.length ≤ 8) (hc : ∀ c ∈ ls, c ∈ COL) (cell : Int) : ∃ rs : List Rule, F__law_drawn_rules [.lst (ls.map ch), .int cell] = .ok (.lst (rs.map (itm false))) ∧ Fine rs ∧ rs.length ≤ 7 := by
  obtain ⟨row, er, hrl, hfit⟩ := digits5 cell sz21 (by decide) (by decide)
  have hr21 : row.length = 21 := hrl
  have b0 := rv_fit hfit hrl 0 9 rfl
  have b1 := rv_fit hfit hrl 1 12 rfl
  obtain ⟨m, hm⟩ : ∃ m : Nat, rv row 1 = (m : Int) := ⟨(rv row 1).toNat, by omega⟩
  obtain ⟨n, hn6, en⟩ := twelve m (by omega)
  have g0 : getD (.lst (row.map D.int)) (.int 0) = .ok (.int (rv row 0)) := rv_get row 0 (by omega)
  have g1 : getD (.lst (row.map D.int)) (.int 1) = .ok (.int (rv row 1)) := rv_get row 1 (by omega)
  have g2 : getD (.lst (row.map D.int)) (.int 2) = .ok (.int (rv row 2)) := rv_get row 2 (by omega)
  rw [hm] at g1
  have e21 : (sz21.map D.int) = [.int 9, .int 12, .int 720] ++ (List.replicate 18 [D.int 60]).flatten := rfl
  have rep : repD (.lst [.int 60]) (.int 18) = .ok (.lst (List.replicate 18 [D.int 60]).flatten) := repD_e [.int 60] 18 (by decide) (by decide)
  have sz : ([D.int 9, .int 12, .int 720]).length + (List.replicate 18 [D.int 60]).flatten.length ≤ 16777216 := by decide
  have ad : addD (.lst [.int 9, .int 12, .int 720]) (.lst (List.replicate 18 [D.int 60]).flatten) = .ok (.lst (sz21.map D.int)) := by rw [addD_lst, if_pos sz, e21]
  obtain ⟨Z, hZ⟩ : ∃ Z, Z = (List.replicate 18 [D.int 60]).flatten := ⟨_, rfl⟩
  rw [← hZ] at rep ad
  have main := w_out (o := b__law_drawn_rules [some (.lst (ls.map ch)), some (.int cell), none, none, none, none, none, none, none, none, none, none]) (P := fun d => ∃ rs : List Rule, d = .lst (rs.map (itm false)) ∧ Fine rs ∧ rs.length ≤ 7) (by
    rw [dr_e]
    refine w_seq (w_set (d := .lst (row.map D.int)) (by
      simp only [fA_e, lCons_e, fV_e, List.getElem?_cons_zero, List.getElem?_cons_succ, getV_some, R.bind_ok, f2_e, fLst_e, fC_e, lNil_e, List.length_cons, List.length_nil]
      rw [if_pos (by decide), R.bind_ok, if_pos (by decide)]
      simp only [R.bind_ok, rep, ad, er]) ?_)
    refine w_seq (w_set (d := .int (ls.length : Int)) (by simp) ?_)
    refine w_seq (w_set (d := .lst []) (by simp) ?_)
    simp only [List.set_cons_succ, List.set_cons_zero]
    refine w_seq (w_for (ds := (List.range n).map fun (k : Nat) => .int (k : Int)) (by
      have r1 := r1D_nat n (by omega)
      have t12 : fLst (lCons (fC (.int 6)) (lCons (fC (.int 5)) (lCons (fC (.int 4)) (lCons (fC (.int 6)) (lCons (fC (.int 3)) (lCons (fC (.int 5)) (lCons (fC (.int 6)) (lCons (fC (.int 4)) (lCons (fC (.int 2)) (lCons (fC (.int 6)) (lCons (fC (.int 6)) (lCons (fC (.int 5)) lNil)))))))))))) [some (.lst (ls.map ch)), some (.int cell), some (.lst (row.map D.int)), some (.int (ls.length : Int)), some (.lst []), none, none, none, none, none, none, none] = .ok (.lst [.int 6, .int 5, .int 4, .int 6, .int 3, .int 5, .int 6, .int 4, .int 2, .int 6, .int 6, .int 5]) := by simp
      simp only [fRg_e, lCons_e, f2_e, t12, R.bind_ok, fV_e, List.getElem?_cons_zero, List.getElem?_cons_succ, getV_some, fC_e, g1, en, lNil_e, r1])
      (fun i ρ => ∃ (rs : List Rule) (a b c d e f : Option D), Fine rs ∧ rs.length ≤ i ∧ ρ = [some (.lst (ls.map ch)), some (.int cell), some (.lst (row.map D.int)), some (.int (ls.length : Int)), some (.lst (rs.map (itm false))), f, a, b, c, d, e, none])
      ⟨[], none, none, none, none, none, none, fun r h => by (cases h), Nat.le_refl 0, rfl⟩ (fun i d ρ hd hI => ?_) (fun ρ hI => ?_))
    · obtain ⟨hlt, rfl⟩ := range_item hd
      obtain ⟨rs, a, b, c, d, e, f, hf, hle, rfl⟩ := hI
      refine ⟨_, rfl, ?_⟩
      have db := dBody_ok ls hl hl8 hc (.int cell) row hr21 b0 rs hf i (by omega) hle a b c d e f (fun ρ => ∃ (rs : List Rule) (a b c d e f : Option D), Fine rs ∧ rs.length ≤ i + 1 ∧ ρ = [some (.lst (ls.map ch)), some (.int cell), some (.lst (row.map D.int)), some (.int (ls.length : Int)), some (.lst (rs.map (itm false))), f, a, b, c, d, e, none]) (fun rs' a b c d e f h1 h2 => ⟨rs', a, b, c, d, e, f, h1, h2, rfl⟩)
      have weak : ∀ (o : SO) (P N : En → Prop) (Rt : D → Prop), o.w P P (fun _ => False) (fun _ => False) → o.w P P N Rt := fun o P N Rt h => by
        cases o <;> first | exact h | exact h.elim
      exact weak _ _ _ _ db
    · rw [List.length_map, List.length_range] at hI
      obtain ⟨rs, a, b, c, d, e, f, hf, hle, rfl⟩ := hI
      have fin : ∀ rs' : List Rule, Fine rs' → rs'.length ≤ 7 → (dr5 [some (.lst (ls.map ch)), some (.int cell), some (.lst (row.map D.int)), some (.int (ls.length : Int)), some (.lst (rs'.map (itm false))), f, a, b, c, d, e, none]).w (fun _ => ∃ rs : List Rule, D.non = .lst (rs.map (itm false)) ∧ Fine rs ∧ rs.length ≤ 7) (fun _ => False) (fun _ => False) (fun d => ∃ rs : List Rule, d = .lst (rs.map (itm false)) ∧ Fine rs ∧ rs.length ≤ 7) := by
        intro rs' hf' hl'
        obtain ⟨bs, eb, pb⟩ := turned5 (itm false) rs' (rv row 2) (by omega)
        refine w_ret (d := .lst (bs.map (itm false))) (by simp [g2, eb]) ⟨bs, rfl, fun r hr => hf' r (pb.mem_iff.mp hr), by rw [pb.length_eq]; exact hl'⟩
      have fst : ∀ (r : Rule) (rest : List Rule), rs = r :: rest → getD (.lst (rs.map (itm false))) (.int 0) = .ok (itm false r) := fun r rest e => by rw [e, getD_lst0]; rfl
      refine w_seq (w_if (b := ((rv row 0 == 5) || (rv row 0 == 8)) && (decide (0 < (rs.length : Int)) && decide ((rs.length : Int) < 6))) (bAnd_ok (bOr_ok (by simp [g0]) (by simp [g0])) (bAnd_ok (by simp) (by simp))) (fun hb => ?_) (fun _ => w_nil (fin rs hf (by omega))))
      simp only [Bool.and_eq_true, decide_eq_true_eq] at hb
      cases hrs : rs with
      | nil => rw [hrs] at hb; simp at hb
      | cons r rest =>
        have fr := fst r rest hrs
        rw [← hrs]
        refine w_app (d := itm false r) (ds := rs.map (itm false)) (by simp only [f2_e, fV_e, List.getElem?_cons_zero, List.getElem?_cons_succ, getV_some, R.bind_ok, fC_e, fr]) (by simp) (by simp; omega) ?_
        have := fin (rs ++ [r]) (fun x hx => by
          rcases List.mem_append.mp hx with hx | hx
          · exact hf x hx
          · rw [List.mem_singleton.mp hx]; exact hf r (by rw [hrs]; exact List.mem_cons_self)) (by simp; omega)
        simpa using this)
  obtain ⟨d, ed, rs, rfl, h1, h2⟩ := main
  exact ⟨rs, by
    unfold F__law_drawn_rules
    rw [fnB_e]
    exact ed, h1, h2⟩
end K5
end
end Pv

namespace Pv
noncomputable section
open PySem PySem.Spec PyProof.Rows L2
open L2 (upd)
open K5
namespace K5
def menuL (k : Int) : List Rule :=
  if k = 0 then [([97], 98), ([98], 97), ([97], 99), ([98], 99), ([99], 100), ([97], 100)] else
  if k = 1 then [([97], 98), ([98], 99), ([97], 99), ([99], 100), ([97], 100), ([98], 100)] else
  if k = 2 then [([97, 98], 99), ([97], 98), ([97], 99), ([98, 99], 100), ([97, 98], 100), ([97, 99, 100], 101)] else
  if k = 3 then [([97], 98), ([98], 99), ([99], 97), ([97], 99), ([99], 98), ([98], 97)] else
  if k = 4 then [([97, 98], 99), ([97, 98], 100), ([99, 100], 97), ([99, 100], 98), ([97, 98, 99], 100), ([100], 101)] else
  if k = 5 then [([97], 98), ([98], 99), ([99], 100), ([97], 101), ([100], 101), ([97], 100)] else
  [([97, 98, 99], 100), ([97, 98], 100), ([100, 101], 102), ([97, 98, 101], 102), ([97, 98, 99, 100, 101, 102], 103), ([102], 103)]
theorem menu_fine (k : Int) : Fine (menuL k) ∧ (menuL k).length = 6 := by
  unfold menuL Fine FineR
  repeat' split
  all_goals exact ⟨by decide, rfl⟩
theorem menu_ok (k : Int) : F__law_menu [.int k] = .ok (.lst ((menuL k).map (itm false))) := by
  unfold F__law_menu b__law_menu menuL
  rw [fnB_e]
  by_cases h0 : k = 0
  · subst h0
    simp [itm]
  by_cases h1 : k = 1
  · subst h1
    simp [itm]
  by_cases h2 : k = 2
  · subst h2
    simp [itm]
  by_cases h3 : k = 3
  · subst h3
    simp [itm]
  by_cases h4 : k = 4
  · subst h4
    simp [itm]
  by_cases h5 : k = 5
  · subst h5
    simp [itm]
  simp [h0, h1, h2, h3, h4, h5, itm]
theorem idx_lt (c : Nat) (h : c ∈ COL) : COL.idxOf c < 8 := by
  have := List.idxOf_lt_length_iff.mpr h
  exact this
theorem name_get (ls : List Nat) (h8 : ls.length = 8) (c : Nat) (h : c ∈ COL) : getD (.lst (ls.map ch)) (.int ((COL.idxOf c : Nat) : Int)) = .ok (ch (ls.getD (COL.idxOf c) 0)) := by
  have hi := idx_lt c h
  rw [getD_lst, List.getElem?_map, List.getElem?_eq_getElem (by omega)]
  simp [List.getD_eq_getElem?_getD, show COL.idxOf c < ls.length by omega]
theorem sidx (c : Nat) (h : c ∈ COL) : sindexD (.str [97, 98, 99, 100, 101, 102, 103, 104]) [.str [c]] = .ok (.int ((COL.idxOf c : Nat) : Int)) := if_pos h
def nameR (ls : List Nat) (r : Rule) : Rule := (canon (r.1.map fun c => ls.getD (COL.idxOf c) 0), ls.getD (COL.idxOf r.2) 0)
theorem named_ok (ls : List Nat) (h8 : ls.length = 8) (r : Rule) (h : FineR r) : F__law_named [itm false r, .lst (ls.map ch)] = .ok (itm false (nameR ls r)) := by
  unfold F__law_named b__law_named
  rw [fnB_e]
  obtain ⟨L, hL⟩ : ∃ L, L = D.lst (ls.map ch) := ⟨_, rfl⟩
  have nm : ∀ c ∈ COL, getD L (.int ((COL.idxOf c : Nat) : Int)) = .ok (ch (ls.getD (COL.idxOf c) 0)) := fun c hc => by rw [hL]; exact name_get ls h8 c hc
  rw [← hL]
  have lc := lc_all (vs := [3]) (fi := (fIt (f2 getD (fV 0) (fC (.int 0))))) (g := gV 3) (fe := (f2 getD (fV 1) (fM "str" sindexD (fC (.str [97, 98, 99, 100, 101, 102, 103, 104])) (lCons (fV 3) lNil)))) (ρ := [some (itm false r), some L, none, none]) r.1 (fun c => .str [c]) (fun c => ch (ls.getD (COL.idxOf c) 0)) (by simp) (by have := h.2.2; omega) fun c hc => ⟨_, rfl, by
    have s := sidx c (h.2.1 c hc)
    have n := nm c (h.2.1 c hc)
    simp only [wipeE, List.set_cons_succ, List.set_cons_zero, f2_e, fM_e, fC_e, fV_e, List.getElem?_cons_zero, List.getElem?_cons_succ, getV_some, R.bind_ok, tyD_str, if_true, lCons_e, lNil_e, s, n]⟩
  have lo := lotL_ok (r.1.map fun c => ls.getD (COL.idxOf c) 0)
  rw [List.map_map] at lo
  have lo : F__law_lot [.lst (r.1.map fun c => ch (ls.getD (COL.idxOf c) 0))] = .ok (.str (canon (r.1.map fun c => ls.getD (COL.idxOf c) 0))) := lo
  have s2 := sidx r.2 h.1
  have n2 := nm r.2 h.1
  simp only [List.map_cons, List.map_nil, List.replicate, List.cons_append, List.nil_append, sSeq_e, sSet_e, fA_e, lCons_e, lc, R.bind_ok, lNil_e, lo, so_ok, List.set_cons_succ, List.set_cons_zero, seq_nx, sRt_e, fTup_e, fV_e, f2_e, fM_e, fC_e, List.getElem?_cons_zero, List.getElem?_cons_succ, getV_some, tyD_str, if_true, itm1, s2, n2, List.length_cons, List.length_nil]
  rw [if_pos (by decide)]
  rfl
theorem nameR_fine (ls : List Nat) (h8 : ls.length = 8) (hc : ∀ c ∈ ls, c ∈ COL) (r : Rule) (h : FineR r) : FineR (nameR ls r) := by
  refine fine_canon _ _ (hc _ ?_)
  have := idx_lt r.2 h.1
  rw [List.getD_eq_getElem?_getD, List.getElem?_eq_getElem (by omega)]
  exact List.getElem_mem _
end K5
end
end Pv

namespace Pv
noncomputable section
open PySem PySem.Spec PyProof.Rows L2
open L2 (upd)
open K5
namespace K5
theorem cut_map {α : Type} (f : α → D) (xs : List α) (lo hi : Option Int) : cutL (xs.map f) lo hi = (cutL xs lo hi).map f := by
  unfold cutL; simp [List.map_take, List.map_drop]
theorem six_len (v : Int) (h : 0 ≤ v) : ∃ q : Nat, 2 ≤ q ∧ q ≤ 6 ∧ (if 2 + v < 6 then 2 + v else 6) = (q : Int) := by
  split
  · exact ⟨(2 + v).toNat, by omega, by omega, by omega⟩
  · exact ⟨6, by decide, by decide, rfl⟩
def sz7 : List Int := [10, 8, 12, 6, 6, 6, 720]
theorem rulebook_ok (ls : List Nat) (h8 : ls.length = 8) (hc : ∀ c ∈ ls, c ∈ COL) (c1 c2 : Int) : ∃ rs : List Rule, F__law_rulebook [.lst (ls.map ch), .int c1, .int c2] = .ok (.lst (rs.map (itm false))) ∧ Fine rs ∧ rs.length ≤ 7 := by
  obtain ⟨row, er, hrl, hfit⟩ := digits5 c1 sz7 (by decide) (by decide)
  have hr7 : row.length = 7 := hrl
  have b1 := rv_fit hfit hrl 1 8 rfl
  have b2' := rv_fit hfit hrl 2 12 rfl
  have g : ∀ i : Nat, i < 7 → getD (.lst (row.map D.int)) (.int (i : Int)) = .ok (.int (rv row i)) := fun i hi => rv_get row i (by omega)
  have g0 : getD (.lst (row.map D.int)) (.int 0) = .ok (.int (rv row 0)) := g 0 (by decide)
  have g1 : getD (.lst (row.map D.int)) (.int 1) = .ok (.int (rv row 1)) := g 1 (by decide)
  have g2 : getD (.lst (row.map D.int)) (.int 2) = .ok (.int (rv row 2)) := g 2 (by decide)
  have g3 : getD (.lst (row.map D.int)) (.int 3) = .ok (.int (rv row 3)) := g 3 (by decide)
  have g4 : getD (.lst (row.map D.int)) (.int 4) = .ok (.int (rv row 4)) := g 4 (by decide)
  have g5 : getD (.lst (row.map D.int)) (.int 5) = .ok (.int (rv row 5)) := g 5 (by decide)
  have g6 : getD (.lst (row.map D.int)) (.int 6) = .ok (.int (rv row 6)) := g 6 (by decide)
  obtain ⟨m, hm⟩ : ∃ m : Nat, rv row 2 = (m : Int) := ⟨(rv row 2).toNat, by omega⟩
  obtain ⟨n, hn2, hn8, en⟩ := eight m (by omega)
  rw [hm] at g2
  have ct := cut_to (ls.map ch) n
  rw [← List.map_take] at ct
  obtain ⟨drawn, ed, fd, ld⟩ := drawn_ok (ls.take n) (by simp; omega) (by simp; omega) (fun c h => hc c (List.mem_of_mem_take h)) c2
  obtain ⟨q, hq2, hq6, eq⟩ := six_len (rv row 1) b1.1
  obtain ⟨L, hL⟩ : ∃ L, L = D.lst (ls.map ch) := ⟨_, rfl⟩
  obtain ⟨M, hM⟩ : ∃ M, M = D.lst (row.map D.int) := ⟨_, rfl⟩
  have nm : ∀ r, FineR r → F__law_named [itm false r, L] = .ok (itm false (nameR ls r)) := fun r hr => by rw [hL]; exact named_ok ls h8 r hr
  have slL : sliceD L none (some (n : Int)) = .ok (.lst ((ls.take n).map ch)) := by rw [hL, sliceD_lst, ct]
  rw [← hM] at er g0 g1 g2 g3 g4 g5 g6
  obtain ⟨mf, ml⟩ := menu_fine (rv row 0)
  have mo := menu_ok (rv row 0)
  have P0 : List Rule → Prop := fun rs => Fine rs ∧ rs.length ≤ 7
  have main := w_out (o := b__law_rulebook [some L, some (.int c1), some (.int c2), none, none, none, none, none]) (P := fun d => ∃ rs : List Rule, d = .lst (rs.map (itm false)) ∧ Fine rs ∧ rs.length ≤ 7) (by
    rw [rb_e]
    refine w_seq (w_set (d := M) (by
      have e7 : fLst (lCons (fC (.int 10)) (lCons (fC (.int 8)) (lCons (fC (.int 12)) (lCons (fC (.int 6)) (lCons (fC (.int 6)) (lCons (fC (.int 6)) (lCons (fC (.int 720)) lNil))))))) [some L, some (.int c1), some (.int c2), none, none, none, none, none] = .ok (.lst (sz7.map D.int)) := by simp [sz7]
      simp only [fA_e, lCons_e, fV_e, List.getElem?_cons_zero, List.getElem?_cons_succ, getV_some, R.bind_ok, e7, lNil_e, er]) ?_)
    simp only [List.set_cons_succ, List.set_cons_zero]
    refine w_seq (w_set (d := .lst (drawn.map (itm false))) (by
      have e12 : fLst (lCons (fC (.int 8)) (lCons (fC (.int 7)) (lCons (fC (.int 6)) (lCons (fC (.int 7)) (lCons (fC (.int 5)) (lCons (fC (.int 4)) (lCons (fC (.int 8)) (lCons (fC (.int 3)) (lCons (fC (.int 6)) (lCons (fC (.int 2)) (lCons (fC (.int 7)) (lCons (fC (.int 5)) lNil)))))))))))) [some L, some (.int c1), some (.int c2), some M, none, none, none, none] = .ok (.lst [.int 8, .int 7, .int 6, .int 7, .int 5, .int 4, .int 8, .int 3, .int 6, .int 2, .int 7, .int 5]) := by simp
      simp only [fA_e, lCons_e, fSl_e, fV_e, List.getElem?_cons_zero, List.getElem?_cons_succ, getV_some, R.bind_ok, oNo_e, oSo_e, f2_e, e12, fC_e, g2, en, soK_e, slL, lNil_e, ed]) ?_)
    simp only [List.set_cons_succ, List.set_cons_zero]
    refine w_seq (w_if (b := decide (7 ≤ rv row 0)) (by simp only [b2_e, f2_e, fV_e, List.getElem?_cons_zero, List.getElem?_cons_succ, getV_some, R.bind_ok, fC_e, g0, geD_int]) (fun _ => w_ret (d := .lst (drawn.map (itm false))) (by simp) ⟨drawn, rfl, fd, ld⟩) (fun _ => w_nil ?_))
    -- found
    have lc := lc_all (vs := [6]) (fi := (fIt (fA F__law_menu (lCons (f2 getD (fV 3) (fC (.int 0))) lNil)))) (g := gV 6) (fe := (fA F__law_named (lCons (fV 6) (lCons (fV 0) lNil)))) (ρ := [some L, some (.int c1), some (.int c2), some M, some (.lst (drawn.map (itm false))), none, none, none]) (menuL (rv row 0)) (itm false) (fun r => itm false (nameR ls r)) (by simp only [fIt_e, fA_e, lCons_e, f2_e, fV_e, List.getElem?_cons_zero, List.getElem?_cons_succ, getV_some, R.bind_ok, fC_e, g0, lNil_e, mo, itemsD_lst]) (by omega) fun r hr => ⟨_, rfl, by
      have := nm r (mf r hr)
      simp only [wipeE, List.set_cons_succ, List.set_cons_zero, fA_e, lCons_e, fV_e, List.getElem?_cons_zero, List.getElem?_cons_succ, getV_some, R.bind_ok, lNil_e, this]⟩
    obtain ⟨found, hf⟩ : ∃ found, found = ((menuL (rv row 0)).map (nameR ls)).take q := ⟨_, rfl⟩
    have fl : found.length = q := by rw [hf]; simp; omega
    have ff : Fine found := fun r hr => by
      rw [hf] at hr
      obtain ⟨r', hr', rfl⟩ := List.mem_map.mp (List.mem_of_mem_take hr)
      exact nameR_fine ls h8 hc r' (mf r' hr')
    have sl : sliceLD (.lst ((menuL (rv row 0)).map fun r => itm false (nameR ls r))) none (some (q : Int)) = .ok (.lst (found.map (itm false))) := by
      rw [sliceLD_lst, cut_to, hf, List.map_take, List.map_map]; rfl
    refine w_seq (w_set (d := .lst (found.map (itm false))) (by
      simp only [fSlL_e, lc, R.bind_ok, oNo_e, oSo_e, fA_e, lCons_e, fC_e, f2_e, fV_e, List.getElem?_cons_zero, List.getElem?_cons_succ, getV_some, g1, addD_int, lNil_e, min2D_e, eq, soK_e, sl]) ?_)
    simp only [List.set_cons_succ, List.set_cons_zero]
    have qpos : (0 : Int) < (found.length : Int) := by omega
    obtain ⟨a, ha⟩ : ∃ a : Nat, rv row 3 % (found.length : Int) = (a : Int) := ⟨(rv row 3 % (found.length : Int)).toNat, by have := Int.emod_nonneg (rv row 3) (show (found.length : Int) ≠ 0 by omega); omega⟩
    have hal : a < found.length := by have := Int.emod_lt_of_pos (rv row 3) qpos; omega
    obtain ⟨b, hb⟩ : ∃ b : Nat, rv row 5 % (found.length : Int) = (b : Int) := ⟨(rv row 5 % (found.length : Int)).toNat, by have := Int.emod_nonneg (rv row 5) (show (found.length : Int) ≠ 0 by omega); omega⟩
    have hbl : b < found.length := by have := Int.emod_lt_of_pos (rv row 5) qpos; omega
    have qN : 0 < found.length := by omega
    refine w_seq (w_set (d := .int (a : Int)) (by
      simp only [f2_e, fV_e, List.getElem?_cons_zero, List.getElem?_cons_succ, getV_some, R.bind_ok, fC_e, g3, fA_e, lCons_e, lNil_e, lenD_lst, List.length_map, modD_int, if_pos qpos, ha]) ?_)
    simp only [List.set_cons_succ, List.set_cons_zero]
    have fin : ∀ fs : List Rule, Fine fs → fs.length ≤ 7 → (rb6 [some L, some (.int c1), some (.int c2), some M, some (.lst (drawn.map (itm false))), some (.lst (fs.map (itm false))), none, some (.int (a : Int))]).w (fun _ => ∃ rs : List Rule, D.non = .lst (rs.map (itm false)) ∧ Fine rs ∧ rs.length ≤ 7) (fun _ => False) (fun _ => False) (fun d => ∃ rs : List Rule, d = .lst (rs.map (itm false)) ∧ Fine rs ∧ rs.length ≤ 7) := by
      intro fs hfs hfl
      obtain ⟨bs, eb, pb⟩ := turned5 (itm false) fs (rv row 6) (by omega)
      exact w_ret (d := .lst (bs.map (itm false))) (by simp only [fA_e, lCons_e, fV_e, List.getElem?_cons_zero, List.getElem?_cons_succ, getV_some, R.bind_ok, f2_e, fC_e, g6, lNil_e, eb]) ⟨bs, rfl, fun r hr => hfs r (pb.mem_iff.mp hr), by rw [pb.length_eq]; exact hfl⟩
    have setF : ∀ r, FineR r → Fine (found.set a r) := fun r hr x hx => by
      rcases List.mem_or_eq_of_mem_set hx with h | h
      · exact ff x h
      · rw [h]; exact hr
    have put : ∀ r, FineR r → (rb6 [some L, some (.int c1), some (.int c2), some M, some (.lst (drawn.map (itm false))), some (.lst ((found.map (itm false)).set a (itm false r))), none, some (.int (a : Int))]).w (fun _ => ∃ rs : List Rule, D.non = .lst (rs.map (itm false)) ∧ Fine rs ∧ rs.length ≤ 7) (fun _ => False) (fun _ => False) (fun d => ∃ rs : List Rule, d = .lst (rs.map (itm false)) ∧ Fine rs ∧ rs.length ≤ 7) := fun r hr => by
      have := fin (found.set a r) (setF r hr) (by rw [List.length_set]; omega)
      rw [List.map_set] at this
      exact this
    refine w_seq (w_if (b := (rv row 4 == 0) && decide (0 < (drawn.length : Int))) (bAnd_ok (by simp only [b2_e, f2_e, fV_e, List.getElem?_cons_zero, List.getElem?_cons_succ, getV_some, R.bind_ok, fC_e, g4, eqD_int]) (by simp)) (fun hb4 => ?_) (fun _ => ?_))
    · simp only [Bool.and_eq_true, decide_eq_true_eq] at hb4
      cases hdr : drawn with
      | nil => rw [hdr] at hb4; simp at hb4
      | cons r rest =>
        have fr : getD (.lst (drawn.map (itm false))) (.int 0) = .ok (itm false r) := by rw [hdr, getD_lst0]; rfl
        rw [← hdr]
        refine w_six (d := itm false r) (j := a) (ds := found.map (itm false)) (by simp only [f2_e, fV_e, List.getElem?_cons_zero, List.getElem?_cons_succ, getV_some, R.bind_ok, fC_e, fr]) (by simp) (by simp) (by simpa using hal) ?_
        simp only [List.set_cons_succ, List.set_cons_zero]
        exact put r (fd r (by rw [hdr]; exact List.mem_cons_self))
    · refine w_if (b := (rv row 4 == 1)) (by simp only [b2_e, f2_e, fV_e, List.getElem?_cons_zero, List.getElem?_cons_succ, getV_some, R.bind_ok, fC_e, g4, eqD_int]) (fun _ => ?_) (fun _ => w_nil (fin found ff (by omega)))
      have fb : getD (.lst (found.map (itm false))) (.int (b : Int)) = .ok (itm false found[b]) := getR true false found b hbl
      refine w_six (d := itm false found[b]) (j := a) (ds := found.map (itm false)) (by simp only [f2_e, fV_e, List.getElem?_cons_zero, List.getElem?_cons_succ, getV_some, R.bind_ok, fC_e, g5, fA_e, lCons_e, lNil_e, lenD_lst, List.length_map, modD_int, if_pos qpos, hb, fb]) (by simp) (by simp) (by simpa using hal) ?_
      simp only [List.set_cons_succ, List.set_cons_zero]
      exact put _ (ff _ (List.getElem_mem hbl)))
  obtain ⟨d, ed', rs, rfl, h1, h2⟩ := main
  rw [hL] at ed'
  exact ⟨rs, by
    unfold F__law_rulebook
    rw [fnB_e]
    exact ed', h1, h2⟩
theorem names_ok (n : Int) : ∃ ls : List Nat, F__law_turned [.lst (COL.map ch), .int n] = .ok (.lst (ls.map ch)) ∧ ls.length = 8 ∧ ∀ c ∈ ls, c ∈ COL := by
  obtain ⟨ls, e, p⟩ := turned5 ch COL n (by decide)
  exact ⟨ls, e, by rw [p.length_eq]; rfl, fun c hc => p.mem_iff.mp hc⟩
def sz4 : List Int := [40320, 720, 40320, 6]
theorem law_ok (ns : List Int) (hns : ns.length ≤ 63) : F_law [.lst (ns.map D.int)] = .ok (.bl true) := by
  obtain ⟨S, hS⟩ : ∃ S, S = D.lst (ns.map D.int) := ⟨_, rfl⟩
  obtain ⟨z0, e0⟩ := cell5 ns 0 (by decide)
  obtain ⟨z1, e1⟩ := cell5 ns 1 (by decide)
  obtain ⟨z2, e2⟩ := cell5 ns 2 (by decide)
  obtain ⟨z3, e3⟩ := cell5 ns 3 (by decide)
  obtain ⟨z4, e4⟩ := cell5 ns 4 (by decide)
  rw [← hS] at e0 e1 e2 e3 e4
  have e0 : F__law_cell [S, .int 0] = .ok (.int z0) := e0
  have e1 : F__law_cell [S, .int 1] = .ok (.int z1) := e1
  have e2 : F__law_cell [S, .int 2] = .ok (.int z2) := e2
  have e3 : F__law_cell [S, .int 3] = .ok (.int z3) := e3
  have e4 : F__law_cell [S, .int 4] = .ok (.int z4) := e4
  obtain ⟨row, er, hrl, hfit⟩ := digits5 z0 sz4 (by decide) (by decide)
  have hr4 : row.length = 4 := hrl
  have g0 : getD (.lst (row.map D.int)) (.int 0) = .ok (.int (rv row 0)) := rv_get row 0 (by omega)
  have g1 : getD (.lst (row.map D.int)) (.int 1) = .ok (.int (rv row 1)) := rv_get row 1 (by omega)
  have g2 : getD (.lst (row.map D.int)) (.int 2) = .ok (.int (rv row 2)) := rv_get row 2 (by omega)
  have g3 : getD (.lst (row.map D.int)) (.int 3) = .ok (.int (rv row 3)) := rv_get row 3 (by omega)
  obtain ⟨M, hM⟩ : ∃ M, M = D.lst (row.map D.int) := ⟨_, rfl⟩
  rw [← hM] at er g0 g1 g2 g3
  obtain ⟨l1, en1, h81, hc1⟩ := names_ok (rv row 0)
  obtain ⟨l2, en2, h82, hc2⟩ := names_ok (rv row 2)
  obtain ⟨fs, ef, ffs, lfs⟩ := rulebook_ok l1 h81 hc1 z1 z2
  obtain ⟨ss, es, fss, lss⟩ := rulebook_ok l2 h82 hc2 z3 z4
  obtain ⟨N1, hN1⟩ : ∃ N, N = D.lst (l1.map ch) := ⟨_, rfl⟩
  obtain ⟨N2, hN2⟩ : ∃ N, N = D.lst (l2.map ch) := ⟨_, rfl⟩
  rw [← hN1] at en1 ef
  rw [← hN2] at en2 es
  have hold1 := holds_ok fs (ffs.good (by omega)) true
  have hold2 := holds_ok ss (fss.good (by omega)) false
  obtain ⟨ts, et, pt⟩ := turned5 (itm false) fs (rv row 1) (by omega)
  have hold3 := holds_ok ts (Fine.good (fun r hr => ffs r (pt.mem_iff.mp hr)) (by rw [pt.length_eq]; omega)) false
  have ad : addD (.lst (fs.map (itm false))) (.lst (ss.map (itm false))) = .ok (.lst ((fs ++ ss).map (itm false))) := by
    rw [addD_lst, if_pos (by simp; omega), List.map_append]
  obtain ⟨bo, hbo⟩ : ∃ bo, bo = cutL (fs ++ ss) (some (rv row 3)) (some (rv row 3 + 1)) := ⟨_, rfl⟩
  have sl : sliceD (.lst ((fs ++ ss).map (itm false))) (some (rv row 3)) (some (rv row 3 + 1)) = .ok (.lst (bo.map (itm false))) := by
    rw [sliceD_lst, cut_map, hbo]
  have bof : Fine bo := fun r hr => by
    rw [hbo] at hr
    rcases List.mem_append.mp (cutL_mem hr) with h | h
    · exact ffs r h
    · exact fss r h
  have bol : bo.length ≤ 14 := by
    rw [hbo]
    exact Nat.le_trans cutL_len (by simp; omega)
  have hold4 := holds_ok bo (bof.good (by omega)) true
  have hold5 : ∀ b, F__law_slim_holds [.lst [], .bl b] = .ok (.bl true) := fun b => holds_ok [] (Fine.good (fun r hr => by (cases hr)) (by decide)) b
  have sl1 : F_slim [.lst (fs.map (itm false))] = .ok (.tup ((slimS fs).map (itm false))) := slim_run true false fs (ffs.good (by omega)).1 (ffs.good (by omega)).2
  have st1 := staying_ok fs (ffs.good (by omega)).1 (ffs.good (by omega)).2
  have sk := slim_ok (ffs.good (by omega)).2
  have prs := pairs_ok (slimS fs) ⟨(ffs.good (by omega)).1.of sk.2.2.2 sk.1, (ffs.good (by omega)).2.sub sk.1⟩
  unfold F_law
  rw [fnB_e, lw_e, ← hS]
  have n8 : ∀ ρ, fLst (lCons (fC (.str [97])) (lCons (fC (.str [98])) (lCons (fC (.str [99])) (lCons (fC (.str [100])) (lCons (fC (.str [101])) (lCons (fC (.str [102])) (lCons (fC (.str [103])) (lCons (fC (.str [104])) lNil)))))))) ρ = .ok (.lst (COL.map ch)) := fun ρ => by simp [COL, ch]
  have n4 : ∀ ρ, fLst (lCons (fC (.int 40320)) (lCons (fC (.int 720)) (lCons (fC (.int 40320)) (lCons (fC (.int 6)) lNil)))) ρ = .ok (.lst (sz4.map D.int)) := fun ρ => by simp [sz4]
  have nn : ∀ ρ, fLst lNil ρ = .ok (.lst []) := fun ρ => by simp
  have ev : ∀ x : Int, modD (.int x) (.int 2) = .ok (.int (x % 2)) := fun x => by simp
  simp only [List.map_cons, List.map_nil, List.replicate, List.cons_append, List.nil_append, sSeq_e, lw0, lw1, lw2, lw3, lw4, lw5, lw6, lw7, lw8, sSet_e, fA_e, lCons_e, fV_e, List.getElem?_cons_zero, List.getElem?_cons_succ, getV_some, R.bind_ok, fC_e, e0, n4, lNil_e, er, so_ok, List.set_cons_succ, List.set_cons_zero, seq_nx, n8, f2_e, g0, g1, g2, g3, en1, en2, e1, e2, e3, e4, ef, es, sIf_e, bOr_e, bNot_e, bV_e, hold1, hold2, toB_bl, Bool.not_true, Bool.false_eq_true, if_false, sNil_e, et, hold3, fSl_e, oSo_e, ad, soK_e, addD_int, sl, sRt_e, fAnd_e, hold4, andK_e, if_true, nn, fB2_e, ev, eqD_int, hold5, listD_lst, sl1, st1, prs, out_rt]
end K5
theorem law_true : ∀ ns : List Int, ns.length ≤ 63 → F_law [.lst (ns.map D.int)] = .ok (.bl true) := K5.law_ok
end
end Pv

namespace Pv
noncomputable section
open PySem PySem.Spec PyProof.Rows L2
open L2 (upd)
section
variable {P : Program} {w : World} {K : PySem.W.Frag} {mg : Str → Option Value} {base : Heap}
theorem c_collected (h : Hd K mg) : Cal P w K mg base 1 "collected" false F_collected 1 := Df.cal (μ' := []) h.d_collected sc_collected rfl (fun z => nomatch z) fun f0 cdv A outer s0 G0 H0 E0 c hp => by
  exact (sxs_one (sx_ret rfl (ex_join (EX.bor (ex_str [])) (EX.bor (EF.shr (ef_lc [("column", 1)] _ [1] c.calm c.nd (ix_seq' (ex_gs h.g_COLUMNS)) (blkOk_by (N := ["text", "column"]) (sc := defScope s_collected) (by decide +kernel)) (fun s1 H1 C1 cl1 fp1 => (gx_name (pg_name (i := 1) c.nd rfl (.inl rfl)))) (fun s1 H1 C1 cl1 fp1 => (lx_one (tx_in c.hu5 (eb_var (pv 1)) (eb_var (pv 0))))) (fun s1 H1 C1 cl1 fp1 => (ex_var (pv 1) rfl))))))))
theorem c_union (h : Hd K mg) : Cal P w K mg base 2 "union" false F_union 2 := Df.cal (μ' := []) h.d_union sc_union rfl (fun z => nomatch z) fun f0 cdv A outer s0 G0 H0 E0 c hp => by
  exact (sxs_one (sx_ret rfl (ex_cl c (c_collected h) (ax_cons (ex_add (eb_var (pv 0)) (eb_var (pv 1))) ax_nil))))
theorem c_minus (h : Hd K mg) : Cal P w K mg base 1 "minus" false F_minus 2 := Df.cal (μ' := []) h.d_minus sc_minus rfl (fun z => nomatch z) fun f0 cdv A outer s0 G0 H0 E0 c hp => by
  exact (sxs_one (sx_ret rfl (ex_join (EX.bor (ex_str [])) (EX.bor (EF.shr (ef_lc [("column", 2)] _ [2] c.calm c.nd (ix_seq' (ex_var (pv 0) rfl)) (blkOk_by (N := ["one", "two", "column"]) (sc := defScope s_minus) (by decide +kernel)) (fun s1 H1 C1 cl1 fp1 => (gx_name (pg_name (i := 2) c.nd rfl (.inl rfl)))) (fun s1 H1 C1 cl1 fp1 => (lx_one (tx_nin c.hu5 (eb_var (pv 2)) (eb_var (pv 1))))) (fun s1 H1 C1 cl1 fp1 => (ex_var (pv 2) rfl))))))))
theorem c_within (h : Hd K mg) : Cal P w K mg base 2 "within" false F_within 2 := Df.cal (μ' := []) h.d_within sc_within rfl (fun z => nomatch z) fun f0 cdv A outer s0 G0 H0 E0 c hp => by
  exact (sxs_one (sx_ret rfl (ex_eq c.hu (EX.bor (ex_cl c (c_minus h) (ax_cons (ex_var (pv 0) rfl) (ax_cons (ex_var (pv 1) rfl) ax_nil)))) (EX.bor (ex_str [])))))
theorem c_next_rule (h : Hd K mg) : Cal P w K mg base 3 "next_rule" false F_next_rule 2 := Df.cal (μ' := []) h.d_next_rule sc_next_rule rfl (fun z => nomatch z) fun f0 cdv A outer s0 G0 H0 E0 c hp => by
  exact (sxs_cons (sx_for [2] hp c.calm (ix_r1 h.m_range (EX.bor (ex_len h.m_len (eb_var (pv 0))))) (gx_name (pg_name (i := 2) c.nd rfl (.inl rfl))) (sxs_to (hl := by rfl) (sxs_one (sx_if (μ' := []) (tx_w (wx_and (tx_val (ex_cl (c.lp _ _) (c_within h) (ax_cons (ex_ix (EX.bor (ex_ix (eb_var (pv 0)) (eb_var (pv 2)))) (EX.bor ex_int)) (ax_cons (ex_var (pv 1) rfl) ax_nil)))) (wx_and1 (tx_nin c.hu5 (EX.bor (ex_ix (EX.bor (ex_ix (eb_var (pv 0)) (eb_var (pv 2)))) (EX.bor ex_int))) (eb_var (pv 1)))))) (sxs_one (sx_ret rfl (ex_var (pv 2) rfl))) (sxs_to (hl := by rfl) sxs_nil))))) (sxs_one (sx_ret rfl ex_non)))
theorem c_telling (h : Hd K mg) : Cal P w K mg base 4 "telling" false F_telling 2 := Df.cal (μ' := []) h.d_telling sc_telling rfl (fun z => nomatch z) fun f0 cdv A outer s0 G0 H0 E0 c hp => by
  exact (sxs_cons (sx_set (ps_set (i := 2) c.nd rfl (.inl rfl) (ex_var (pv 1) rfl)) rfl) (sxs_cons (sx_setF (ps_set (i := 3) c.nd rfl (.inl rfl) (ef_lst ax_nil)) rfl) (sxs_cons (sx_set (ps_set (i := 4) c.nd rfl (.inl rfl) (ex_cl c (c_next_rule h) (ax_cons (ex_var (pv 0) rfl) (ax_cons (ex_var (pv 2) rfl) ax_nil)))) rfl) (sxs_cons (sx_while hp (tx_nis (eb_var (pv 4)) (EX.bor ex_non)) (sxs_to (hl := by rfl) (sxs_cons (sx_append rfl (pv 3) (ex_var (pv 4) rfl)) (sxs_cons (sx_set (ps_set (i := 2) c.nd rfl (.inl rfl) (ex_cl (c.lp _ _) (c_union h) (ax_cons (ex_var (pv 2) rfl) (ax_cons (ex_ix (EX.bor (ex_ix (eb_var (pv 0)) (eb_var (pv 4)))) (EX.bor ex_int)) ax_nil)))) rfl) (sxs_one (sx_set (ps_set (i := 4) c.nd rfl (.inl rfl) (ex_cl (c.lp _ _) (c_next_rule h) (ax_cons (ex_var (pv 0) rfl) (ax_cons (ex_var (pv 2) rfl) ax_nil)))) rfl)))))) (sxs_one (sx_ret rfl (ex_tuple h.m_tuple (eb_var (pv 3)))))))))
theorem c_told (h : Hd K mg) : Cal P w K mg base 5 "told" false F_told 2 := Df.cal (μ' := []) h.d_told sc_told rfl (fun z => nomatch z) fun f0 cdv A outer s0 G0 H0 E0 c hp => by
  exact (sxs_cons (sx_set (ps_set (i := 2) c.nd rfl (.inl rfl) (ex_var (pv 1) rfl)) rfl) (sxs_cons (sx_for [3] hp c.calm (ix_seq' (ex_cl c (c_telling h) (ax_cons (ex_var (pv 0) rfl) (ax_cons (ex_var (pv 1) rfl) ax_nil)))) (gx_name (pg_name (i := 3) c.nd rfl (.inl rfl))) (sxs_to (hl := by rfl) (sxs_one (sx_set (ps_set (i := 2) c.nd rfl (.inl rfl) (ex_cl (c.lp _ _) (c_union h) (ax_cons (ex_var (pv 2) rfl) (ax_cons (ex_ix (EX.bor (ex_ix (eb_var (pv 0)) (eb_var (pv 3)))) (EX.bor ex_int)) ax_nil)))) rfl)))) (sxs_one (sx_ret rfl (ex_var (pv 2) rfl)))))
theorem c_follows (h : Hd K mg) : Cal P w K mg base 6 "follows" false F_follows 2 := Df.cal (μ' := []) h.d_follows sc_follows rfl (fun z => nomatch z) fun f0 cdv A outer s0 G0 H0 E0 c hp => by
  exact (sxs_one (sx_ret rfl (ex_in c.hu5 (EX.bor (ex_ix (eb_var (pv 1)) (EX.bor ex_int))) (EX.bor (ex_cl c (c_told h) (ax_cons (ex_var (pv 0) rfl) (ax_cons (ex_ix (eb_var (pv 1)) (EX.bor ex_int)) ax_nil)))))))
theorem c_slim (h : Hd K mg) : Cal P w K mg base 7 "slim" false F_slim 1 := Df.cal (μ' := []) h.d_slim sc_slim rfl (fun z => nomatch z) fun f0 cdv A outer s0 G0 H0 E0 c hp => by
  exact (sxs_cons (sx_setLc [("rule", 2)] _ [2] rfl rfl (sw_true rfl rfl rfl (by decide +kernel)) c.calm c.nd (ix_seq' (ex_var (pv 0) rfl)) (blkOk_by (N := ["rules", "kept", "rule", "index", "others"]) (sc := defScope s_slim) (by decide +kernel)) (fun s1 H1 C1 cl1 fp1 => (gx_name (pg_name (i := 2) c.nd rfl (.inl rfl)))) (fun s1 H1 C1 cl1 fp1 => lx_nil) (fun s1 H1 C1 cl1 fp1 => (ex_tuple h.m_tuple (eb_var (pv 2))))) (sxs_cons (sx_wk (μ' := []) (hl := by rfl) (sx_for [3] hp c.calm (ix_r3 h.m_range (EX.bor (ex_sub (EX.bor (ex_len h.m_len (eb_var (pv 0)))) (EX.bor ex_int))) (EX.bor (ex_neg ex_int)) (EX.bor (ex_neg ex_int))) (gx_name (pg_name (i := 3) c.nd rfl (.inl rfl))) (sxs_to (hl := by rfl) (sxs_cons (sx_set (ps_set (i := 4) c.nd rfl (.inl rfl) (ex_add (EX.bor (ex_sl (eb_var (pv 1)) ox_no (ox_so (eb_var (pv 3))))) (EX.bor (ex_sl (eb_var (pv 1)) (ox_so (EX.bor (ex_add (eb_var (pv 3)) (EX.bor ex_int)))) ox_no)))) rfl) (sxs_one (sx_if (μ' := []) (tx_val (ex_cl (c.lp _ _) (c_follows h) (ax_cons (ex_var (pv 4) rfl) (ax_cons (ex_ix (eb_var (pv 1)) (eb_var (pv 3))) ax_nil)))) (sxs_to (hl := by rfl) (sxs_one (sx_set (ps_set (i := 1) c.nd rfl (.inl rfl) (ex_var (pv 4) rfl)) rfl))) (sxs_to (hl := by rfl) sxs_nil))))))) (sxs_one (sx_ret rfl (ex_tuple h.m_tuple (eb_var (pv 1)))))))
theorem c__law_cell (h : Hd K mg) : Cal P w K mg base 1 "_law_cell" false F__law_cell 2 := Df.cal (μ' := []) h.d__law_cell sc__law_cell rfl (fun z => nomatch z) fun f0 cdv A outer s0 G0 H0 E0 c hp => by
  exact (sxs_cons (sx_if (μ' := []) (tx_lt (eb_var (pv 1)) (EX.bor (ex_len h.m_len (eb_var (pv 0))))) (sxs_one (sx_ret rfl (ex_ix (eb_var (pv 0)) (eb_var (pv 1))))) (sxs_to (hl := by rfl) sxs_nil)) (sxs_cons (sx_set (ps_set (i := 2) c.nd rfl (.inl rfl) ex_int) rfl) (sxs_cons (sx_for [3] hp c.calm (ix_seq' (ex_var (pv 0) rfl)) (gx_name (pg_name (i := 3) c.nd rfl (.inl rfl))) (sxs_to (hl := by rfl) (sxs_one (sx_set (ps_set (i := 2) c.nd rfl (.inl rfl) (ex_mod (EX.bor (ex_intc h.m_int (EX.bor (ex_add (EX.bor (ex_mul (eb_var (pv 2)) (EX.bor ex_int))) (EX.bor (ex_mod (EX.bor (ex_intc h.m_int (eb_var (pv 3)))) (EX.bor ex_int))))))) (EX.bor ex_int))) rfl)))) (sxs_one (sx_ret rfl (ex_mod (EX.bor (ex_intc h.m_int (EX.bor (ex_mul (EX.bor (ex_mul (EX.bor (ex_add (eb_var (pv 2)) (EX.bor ex_int))) (EX.bor (ex_add (eb_var (pv 1)) (EX.bor ex_int))))) (EX.bor ex_int))))) (EX.bor ex_int)))))))
theorem c__law_digits (h : Hd K mg) : Cal P w K mg base 1 "_law_digits" false F__law_digits 2 := Df.cal (μ' := []) h.d__law_digits sc__law_digits rfl (fun z => nomatch z) fun f0 cdv A outer s0 G0 H0 E0 c hp => by
  exact (sxs_cons (sx_setF (ps_set (i := 2) c.nd rfl (.inl rfl) (ef_lst ax_nil)) rfl) (sxs_cons (sx_set (ps_set (i := 3) c.nd rfl (.inl rfl) (ex_intc h.m_int (eb_var (pv 0)))) rfl) (sxs_cons (sx_if (μ' := [false, false, true]) (tx_ge (eb_var (pv 3)) (EX.bor (ex_pow (EX.bor ex_int) (EX.bor ex_int)))) (sxs_cons (sx_set (ps_set (i := 3) c.nd rfl (.inl rfl) (ex_sub (eb_var (pv 3)) (EX.bor (ex_pow (EX.bor ex_int) (EX.bor ex_int))))) rfl) (sxs_cons (sx_for [4] hp c.calm (ix_seq' (ex_var (pv 1) rfl)) (gx_name (pg_name (i := 4) c.nd rfl (.inl rfl))) (sxs_to (hl := by rfl) (sxs_cons (sx_append rfl (pv 2) (ex_mod (EX.bor (ex_intc h.m_int (eb_var (pv 3)))) (eb_var (pv 4)))) (sxs_one (sx_set (ps_set (i := 3) c.nd rfl (.inl rfl) (ex_fdiv (EX.bor (ex_intc h.m_int (eb_var (pv 3)))) (eb_var (pv 4)))) rfl))))) (sxs_wk (μ' := []) (hl := by rfl) (sxs_one (sx_ret rfl (ex_var (pv 2) rfl)))))) (sxs_to (hl := by rfl) sxs_nil)) (sxs_cons (sx_set (ps_set (i := 5) c.nd rfl (.inl rfl) (ex_mod (EX.bor (ex_intc h.m_int (eb_var (pv 3)))) (EX.bor ex_int))) rfl) (sxs_cons (sx_for [6] hp c.calm (ix_r1 h.m_range (EX.bor (ex_len h.m_len (eb_var (pv 1))))) (gx_name (pg_name (i := 6) c.nd rfl (.inl rfl))) (sxs_to (hl := by rfl) (sxs_cons (sx_set (ps_set (i := 5) c.nd rfl (.inl rfl) (ex_mod (EX.bor (ex_intc h.m_int (EX.bor (ex_add (EX.bor (ex_add (EX.bor (ex_mul (eb_var (pv 5)) (EX.bor ex_int))) (EX.bor (ex_mul (EX.bor ex_int) (eb_var (pv 6)))))) (EX.bor ex_int))))) (EX.bor ex_int))) rfl) (sxs_cons (sx_set (ps_set (i := 7) c.nd rfl (.inl rfl) (ex_mod (EX.bor (ex_intc h.m_int (EX.bor (ex_mul (eb_var (pv 5)) (EX.bor (ex_add (EX.bor (ex_fdiv (eb_var (pv 5)) (EX.bor ex_int))) (EX.bor ex_int))))))) (EX.bor ex_int))) rfl) (sxs_one (sx_append rfl (pv 2) (ex_mod (EX.bor (ex_fdiv (EX.bor (ex_intc h.m_int (eb_var (pv 7)))) (EX.bor ex_int))) (EX.bor (ex_ix (eb_var (pv 1)) (eb_var (pv 6))))))))))) (sxs_wk (μ' := []) (hl := by rfl) (sxs_one (sx_ret rfl (ex_var (pv 2) rfl)))))))))
theorem c__law_same (h : Hd K mg) : Cal P w K mg base 1 "_law_same" false F__law_same 2 := Df.cal (μ' := []) h.d__law_same sc__law_same rfl (fun z => nomatch z) fun f0 cdv A outer s0 G0 H0 E0 c hp => by
  exact (sxs_one (sx_ret rfl (ex_and' (ex_isi h.m_isinstance h.m_str (eb_var (pv 0))) (ex_and' (ex_eq c.hu (eb_var (pv 0)) (eb_var (pv 1))) (ex_one (ex_eq c.hu (EX.bor (ex_repr c h.m_repr (eb_var (pv 0)))) (EX.bor (ex_repr c h.m_repr (eb_var (pv 1))))))))))
theorem c__law_pairs (h : Hd K mg) : Cal P w K mg base 2 "_law_pairs" false F__law_pairs 2 := Df.cal (μ' := []) h.d__law_pairs sc__law_pairs rfl (fun z => nomatch z) fun f0 cdv A outer s0 G0 H0 E0 c hp => by
  exact (sxs_cons (sx_if (μ' := []) (tx_w (wx_or (tx_not (tx_val (ex_isi h.m_isinstance h.m_tuple (eb_var (pv 0))))) (wx_or1 (tx_ne c.hu (EX.bor (ex_len h.m_len (eb_var (pv 0)))) (EX.bor (ex_len h.m_len (eb_var (pv 1)))))))) (sxs_one (sx_ret rfl ex_bl)) (sxs_to (hl := by rfl) sxs_nil)) (sxs_cons (sx_for [2] hp c.calm (ix_r1 h.m_range (EX.bor (ex_len h.m_len (eb_var (pv 1))))) (gx_name (pg_name (i := 2) c.nd rfl (.inl rfl))) (sxs_to (hl := by rfl) (sxs_cons (sx_if (μ' := []) (tx_w (wx_or (tx_not (tx_val (ex_isi h.m_isinstance h.m_tuple (EX.bor (ex_ix (eb_var (pv 0)) (eb_var (pv 2))))))) (wx_or1 (tx_ne c.hu (EX.bor (ex_len h.m_len (EX.bor (ex_ix (eb_var (pv 0)) (eb_var (pv 2)))))) (EX.bor ex_int))))) (sxs_one (sx_ret rfl ex_bl)) (sxs_to (hl := by rfl) sxs_nil)) (sxs_one (sx_if (μ' := []) (tx_w (wx_or (tx_not (tx_val (ex_cl (c.lp _ _) (c__law_same h) (ax_cons (ex_ix (EX.bor (ex_ix (eb_var (pv 0)) (eb_var (pv 2)))) (EX.bor ex_int)) (ax_cons (ex_ix (EX.bor (ex_ix (eb_var (pv 1)) (eb_var (pv 2)))) (EX.bor ex_int)) ax_nil))))) (wx_or1 (tx_not (tx_val (ex_cl (c.lp _ _) (c__law_same h) (ax_cons (ex_ix (EX.bor (ex_ix (eb_var (pv 0)) (eb_var (pv 2)))) (EX.bor ex_int)) (ax_cons (ex_ix (EX.bor (ex_ix (eb_var (pv 1)) (eb_var (pv 2)))) (EX.bor ex_int)) ax_nil)))))))) (sxs_one (sx_ret rfl ex_bl)) (sxs_to (hl := by rfl) sxs_nil)))))) (sxs_one (sx_ret rfl ex_bl))))
theorem c__law_turned (h : Hd K mg) : Cal P w K mg base 1 "_law_turned" false F__law_turned 2 := Df.cal (μ' := []) h.d__law_turned sc__law_turned rfl (fun z => nomatch z) fun f0 cdv A outer s0 G0 H0 E0 c hp => by
  exact (sxs_cons (sx_setF (ps_set (i := 2) c.nd rfl (.inl rfl) (ef_list h.m_list (eb_var (pv 0)))) rfl) (sxs_cons (sx_setF (ps_set (i := 3) c.nd rfl (.inl rfl) (ef_lst ax_nil)) rfl) (sxs_cons (sx_set (ps_set (i := 4) c.nd rfl (.inl rfl) (ex_intc h.m_int (eb_var (pv 1)))) rfl) (sxs_cons (sx_for [5] hp c.calm (ix_r1 h.m_range (EX.bor (ex_len h.m_len (eb_var (pv 0))))) (gx_name (pg_name (i := 5) c.nd rfl (.inl rfl))) (sxs_to (hl := by rfl) (sxs_cons (sx_appQ rfl (ps_expr (pe_bm PySem.F.plainAttrs_list PySem.F.slot_list_append PySem.F.type_list_append mt_append (pv 3) (pa_cons (eq_popAt rfl (pe_bm PySem.F.plainAttrs_list PySem.F.slot_list_pop PySem.F.type_list_pop mt_popAt (pv 2) (pa_cons (ex_mod (EX.bor (ex_intc h.m_int (eb_var (pv 4)))) (EX.bor (ex_len h.m_len (eb_var (pv 2))))) pa_nil))) pa_nil)))) (sxs_one (sx_set (ps_set (i := 4) c.nd rfl (.inl rfl) (ex_fdiv (EX.bor (ex_intc h.m_int (eb_var (pv 4)))) (EX.bor (ex_add (EX.bor (ex_len h.m_len (eb_var (pv 2)))) (EX.bor ex_int))))) rfl))))) (sxs_wk (μ' := [false, false, true]) (hl := by rfl) (sxs_one (sx_ret rfl (ex_var (pv 3) rfl))))))))
theorem c__law_lot (h : Hd K mg) : Cal P w K mg base 1 "_law_lot" false F__law_lot 1 := Df.cal (μ' := []) h.d__law_lot sc__law_lot rfl (fun z => nomatch z) fun f0 cdv A outer s0 G0 H0 E0 c hp => by
  exact (sxs_one (sx_ret rfl (ex_join (EX.bor (ex_str [])) (EX.bor (EF.shr (ef_lc [("letter", 1)] _ [1] c.calm c.nd (ix_seq' (ex_str [97, 98, 99, 100, 101, 102, 103, 104])) (blkOk_by (N := ["letters", "letter"]) (sc := defScope s__law_lot) (by decide +kernel)) (fun s1 H1 C1 cl1 fp1 => (gx_name (pg_name (i := 1) c.nd rfl (.inl rfl)))) (fun s1 H1 C1 cl1 fp1 => (lx_one (tx_in c.hu5 (eb_var (pv 1)) (eb_var (pv 0))))) (fun s1 H1 C1 cl1 fp1 => (ex_var (pv 1) rfl))))))))
theorem c__law_within (h : Hd K mg) : Cal P w K mg base 1 "_law_within" false F__law_within 2 := Df.cal (μ' := []) h.d__law_within sc__law_within rfl (fun z => nomatch z) fun f0 cdv A outer s0 G0 H0 E0 c hp => by
  exact (sxs_one (sx_ret rfl (ex_eq c.hu (EX.bor (ex_len h.m_len (EX.bor (EF.shr (ef_lc [("letter", 2)] _ [2] c.calm c.nd (ix_seq' (ex_var (pv 0) rfl)) (blkOk_by (N := ["one", "two", "letter"]) (sc := defScope s__law_within) (by decide +kernel)) (fun s1 H1 C1 cl1 fp1 => (gx_name (pg_name (i := 2) c.nd rfl (.inl rfl)))) (fun s1 H1 C1 cl1 fp1 => (lx_one (tx_nin c.hu5 (eb_var (pv 2)) (eb_var (pv 1))))) (fun s1 H1 C1 cl1 fp1 => (ex_var (pv 2) rfl))))))) (EX.bor ex_int))))
theorem c__law_drawn_rules (h : Hd K mg) : Cal P w K mg base 2 "_law_drawn_rules" false F__law_drawn_rules 2 := Df.cal (μ' := []) h.d__law_drawn_rules sc__law_drawn_rules rfl (fun z => nomatch z) fun f0 cdv A outer s0 G0 H0 E0 c hp => by
  exact (sxs_cons (sx_set (ps_set (i := 2) c.nd rfl (.inl rfl) (ex_cl c (c__law_digits h) (ax_cons (ex_var (pv 1) rfl) (ax_cons (ex_add (EX.bor (EF.shr (ef_lst (ax_cons ex_int (ax_cons ex_int (ax_cons ex_int ax_nil)))))) (EX.bor (EF.shr (ef_rep (ef_lst (ax_cons ex_int ax_nil)) (EX.bor ex_int))))) ax_nil)))) rfl) (sxs_cons (sx_set (ps_set (i := 3) c.nd rfl (.inr rfl) (ex_len h.m_len (eb_var (pv 0)))) rfl) (sxs_cons (sx_setF (ps_set (i := 4) c.nd rfl (.inl rfl) (ef_lst ax_nil)) rfl) (sxs_cons (sx_for [5] hp c.calm (ix_r1 h.m_range (EX.bor (ex_ix (EX.bor (EF.shr (ef_lst (ax_cons ex_int (ax_cons ex_int (ax_cons ex_int (ax_cons ex_int (ax_cons ex_int (ax_cons ex_int (ax_cons ex_int (ax_cons ex_int (ax_cons ex_int (ax_cons ex_int (ax_cons ex_int (ax_cons ex_int ax_nil))))))))))))))) (EX.bor (ex_ix (eb_var (pv 2)) (EX.bor ex_int)))))) (gx_name (pg_name (i := 5) c.nd rfl (.inl rfl))) (sxs_to (hl := by rfl) (sxs_cons (sx_set (ps_set (i := 6) c.nd rfl (.inl rfl) (ex_ix (eb_var (pv 2)) (EX.bor (ex_add (EX.bor ex_int) (EX.bor (ex_mul (EX.bor ex_int) (eb_var (pv 5)))))))) rfl) (sxs_cons (sx_set (ps_set (i := 7) c.nd rfl (.inr rfl) (ex_ix (eb_var (pv 2)) (EX.bor (ex_add (EX.bor ex_int) (EX.bor (ex_mul (EX.bor ex_int) (eb_var (pv 5)))))))) rfl) (sxs_cons (sx_set (ps_set (i := 8) c.nd rfl (.inl rfl) (ex_ix (eb_var (pv 2)) (EX.bor (ex_add (EX.bor ex_int) (EX.bor (ex_mul (EX.bor ex_int) (eb_var (pv 5)))))))) rfl) (sxs_cons (sx_setF (ps_set (i := 9) c.nd rfl (.inl rfl) (ef_lst (ax_cons (ex_ix (eb_var (pv 0)) (EX.bor (ex_mod (eb_var (pv 6)) (eb_var (pv 3))))) ax_nil))) rfl) (sxs_cons (sx_set (ps_set (i := 10) c.nd rfl (.inl rfl) (ex_ix (eb_var (pv 0)) (EX.bor (ex_mod (EX.bor (ex_add (EX.bor (ex_add (eb_var (pv 6)) (EX.bor ex_int))) (EX.bor (ex_mod (eb_var (pv 7)) (EX.bor (ex_max2 c.calm h.m_max (EX.bor ex_int) (EX.bor (ex_sub (eb_var (pv 3)) (EX.bor ex_int))))))))) (eb_var (pv 3)))))) rfl) (sxs_cons (sx_if (μ' := [false, false, false, false, true, false, false, false, false, true]) (tx_w (wx_and (tx_le (EX.bor (ex_ix (eb_var (pv 2)) (EX.bor ex_int))) (EX.bor ex_int)) (wx_and1 (tx_gt (EX.bor (ex_mod (eb_var (pv 8)) (EX.bor ex_int))) (EX.bor ex_int))))) (sxs_to (hl := by rfl) (sxs_cons (sx_setF (ps_set (i := 9) c.nd rfl (.inl rfl) (ef_lst (ax_cons (ex_ix (eb_var (pv 0)) (EX.bor (ex_mod (EX.bor (ex_fdiv (eb_var (pv 5)) (EX.bor (ex_add (EX.bor ex_int) (EX.bor (ex_fdiv (EX.bor (ex_ix (eb_var (pv 2)) (EX.bor ex_int))) (EX.bor ex_int))))))) (eb_var (pv 3))))) ax_nil))) rfl) (sxs_one (sx_set (ps_set (i := 10) c.nd rfl (.inl rfl) (ex_ix (eb_var (pv 0)) (EX.bor (ex_mod (EX.bor (ex_add (eb_var (pv 5)) (EX.bor ex_int))) (eb_var (pv 3)))))) rfl)))) (sxs_to (hl := by rfl) (sxs_one (sx_if (μ' := [false, false, false, false, true, false, false, false, false, true]) (tx_w (wx_and (tx_eq c.hu (EX.bor (ex_ix (eb_var (pv 2)) (EX.bor ex_int))) (EX.bor ex_int)) (wx_and1 (tx_gt (EX.bor (ex_mod (eb_var (pv 8)) (EX.bor ex_int))) (EX.bor ex_int))))) (sxs_to (hl := by rfl) (sxs_cons (sx_setF (ps_set (i := 9) c.nd rfl (.inl rfl) (ef_lst (ax_cons (ex_ix (eb_var (pv 0)) (EX.bor (ex_mod (eb_var (pv 5)) (eb_var (pv 3))))) (ax_cons (ex_ix (eb_var (pv 0)) (EX.bor (ex_mod (EX.bor (ex_add (eb_var (pv 5)) (EX.bor ex_int))) (eb_var (pv 3))))) ax_nil)))) rfl) (sxs_one (sx_set (ps_set (i := 10) c.nd rfl (.inl rfl) (ex_ix (eb_var (pv 0)) (EX.bor (ex_mod (EX.bor (ex_add (eb_var (pv 5)) (EX.bor ex_int))) (eb_var (pv 3)))))) rfl)))) (sxs_to (hl := by rfl) (sxs_one (sx_if (μ' := [false, false, false, false, true, false, false, false, false, true]) (tx_w (wx_and (tx_eq c.hu (EX.bor (ex_ix (eb_var (pv 2)) (EX.bor ex_int))) (EX.bor ex_int)) (wx_and1 (tx_gt (EX.bor (ex_mod (eb_var (pv 8)) (EX.bor ex_int))) (EX.bor ex_int))))) (sxs_to (hl := by rfl) (sxs_cons (sx_setF (ps_set (i := 9) c.nd rfl (.inl rfl) (ef_lst (ax_cons (ex_ix (eb_var (pv 0)) (EX.bor (ex_mod (EX.bor (ex_mod (eb_var (pv 5)) (EX.bor ex_int))) (eb_var (pv 3))))) ax_nil))) rfl) (sxs_one (sx_set (ps_set (i := 10) c.nd rfl (.inl rfl) (ex_ix (eb_var (pv 0)) (EX.bor (ex_mod (EX.bor (ex_mod (EX.bor (ex_add (EX.bor (ex_mul (EX.bor ex_int) (eb_var (pv 5)))) (EX.bor ex_int))) (EX.bor ex_int))) (eb_var (pv 3)))))) rfl)))) (sxs_to (hl := by rfl) sxs_nil)))))))) (sxs_cons (sx_if (μ' := [false, false, false, false, true, false, false, false, false, true]) (tx_w (wx_or (tx_eq c.hu (EX.bor (ex_fdiv (eb_var (pv 8)) (EX.bor ex_int))) (EX.bor ex_int)) (wx_or1 (tx_w (wx_and (tx_ge (EX.bor (ex_ix (eb_var (pv 2)) (EX.bor ex_int))) (EX.bor ex_int)) (wx_and1 (tx_eq c.hu (EX.bor (ex_mod (EX.bor (ex_fdiv (eb_var (pv 8)) (EX.bor ex_int))) (EX.bor ex_int))) (EX.bor ex_int)))))))) (sxs_to (hl := by rfl) (sxs_one (sx_append rfl (pv 9) (ex_ix (eb_var (pv 0)) (EX.bor (ex_mod (EX.bor (ex_fdiv (eb_var (pv 6)) (EX.bor ex_int))) (eb_var (pv 3)))))))) (sxs_to (hl := by rfl) sxs_nil)) (sxs_cons (sx_if (μ' := [false, false, false, false, true]) (tx_w (wx_or (tx_eq c.hu (EX.bor (ex_fdiv (eb_var (pv 8)) (EX.bor ex_int))) (EX.bor ex_int)) (wx_or1 (tx_eq c.hu (EX.bor (ex_fdiv (eb_var (pv 8)) (EX.bor ex_int))) (EX.bor ex_int))))) (sxs_to (hl := by rfl) (sxs_one (sx_set (ps_set (i := 9) c.nd rfl (.inl rfl) (ex_add (eb_var (pv 9)) (EX.bor (EF.shr (ef_lc [("j", 11)] _ [11] c.calm c.nd (ix_r1 h.m_range (EX.bor (ex_sub (EX.bor (ex_fdiv (eb_var (pv 8)) (EX.bor ex_int))) (EX.bor ex_int)))) (blkOk_by (N := ["letters", "cell", "row", "wide", "found", "k", "one", "two", "three", "left", "right", "j"]) (sc := defScope s__law_drawn_rules) (by decide +kernel)) (fun s1 H1 C1 cl1 fp1 => (gx_name (pg_name (i := 11) c.nd rfl (.inl rfl)))) (fun s1 H1 C1 cl1 fp1 => lx_nil) (fun s1 H1 C1 cl1 fp1 => (ex_ix (eb_var (pv 0)) (EX.bor (ex_mod (EX.bor (ex_add (EX.bor (ex_fdiv (eb_var (pv 7)) (EX.bor ex_int))) (eb_var (pv 11)))) (eb_var (pv 3))))))))))) rfl))) (sxs_to (hl := by rfl) sxs_nil)) (sxs_one (sx_if (μ' := [false, false, false, false, true]) (tx_nin c.hu5 (eb_var (pv 10)) (eb_var (pv 9))) (sxs_to (hl := by rfl) (sxs_one (sx_append rfl (pv 4) (ex_tup (ax_cons (ex_cl (c.lp _ _) (c__law_lot h) (ax_cons (ex_var (pv 9) rfl) ax_nil)) (ax_cons (ex_var (pv 10) rfl) ax_nil)))))) (sxs_to (hl := by rfl) sxs_nil))))))))))))) (sxs_cons (sx_if (μ' := [false, false, false, false, true]) (tx_w (wx_and (tx_w (wx_or (tx_eq c.hu (EX.bor (ex_ix (eb_var (pv 2)) (EX.bor ex_int))) (EX.bor ex_int)) (wx_or1 (tx_eq c.hu (EX.bor (ex_ix (eb_var (pv 2)) (EX.bor ex_int))) (EX.bor ex_int))))) (wx_and (tx_gt (EX.bor (ex_len h.m_len (eb_var (pv 4)))) (EX.bor ex_int)) (wx_and1 (tx_lt (EX.bor (ex_len h.m_len (eb_var (pv 4)))) (EX.bor ex_int)))))) (sxs_to (hl := by rfl) (sxs_one (sx_append rfl (pv 4) (ex_ix (eb_var (pv 4)) (EX.bor ex_int))))) (sxs_to (hl := by rfl) sxs_nil)) (sxs_wk (μ' := []) (hl := by rfl) (sxs_one (sx_ret rfl (ex_cl c (c__law_turned h) (ax_cons (ex_var (pv 4) rfl) (ax_cons (ex_ix (eb_var (pv 2)) (EX.bor ex_int)) ax_nil)))))))))))
theorem c__law_named (h : Hd K mg) : Cal P w K mg base 2 "_law_named" false F__law_named 2 := Df.cal (μ' := []) h.d__law_named sc__law_named rfl (fun z => nomatch z) fun f0 cdv A outer s0 G0 H0 E0 c hp => by
  exact (sxs_cons (sx_set (ps_set (i := 2) c.nd rfl (.inl rfl) (ex_cl c (c__law_lot h) (ax_cons (EF.shr (ef_lc [("letter", 3)] _ [3] c.calm c.nd (ix_seq' (ex_ix (eb_var (pv 0)) (EX.bor ex_int))) (blkOk_by (N := ["rule", "names", "left", "letter"]) (sc := defScope s__law_named) (by decide +kernel)) (fun s1 H1 C1 cl1 fp1 => (gx_name (pg_name (i := 3) c.nd rfl (.inl rfl)))) (fun s1 H1 C1 cl1 fp1 => lx_nil) (fun s1 H1 C1 cl1 fp1 => (ex_ix (eb_var (pv 1)) (EX.bor (ex_sindex (EX.bor (ex_str [97, 98, 99, 100, 101, 102, 103, 104])) (eb_var (pv 3)))))))) ax_nil))) rfl) (sxs_one (sx_ret rfl (ex_tup (ax_cons (ex_var (pv 2) rfl) (ax_cons (ex_ix (eb_var (pv 1)) (EX.bor (ex_sindex (EX.bor (ex_str [97, 98, 99, 100, 101, 102, 103, 104])) (EX.bor (ex_ix (eb_var (pv 0)) (EX.bor ex_int)))))) ax_nil))))))
theorem c__law_menu (h : Hd K mg) : Cal P w K mg base 1 "_law_menu" false F__law_menu 1 := Df.cal (μ' := []) h.d__law_menu sc__law_menu rfl (fun z => nomatch z) fun f0 cdv A outer s0 G0 H0 E0 c hp => by
  exact (sxs_cons (sx_if (μ' := []) (tx_eq c.hu (eb_var (pv 0)) (EX.bor ex_int)) (sxs_one (sx_ret rfl (EF.shr (ef_lst (ax_cons (ex_tup (ax_cons (ex_str [97]) (ax_cons (ex_str [98]) ax_nil))) (ax_cons (ex_tup (ax_cons (ex_str [98]) (ax_cons (ex_str [97]) ax_nil))) (ax_cons (ex_tup (ax_cons (ex_str [97]) (ax_cons (ex_str [99]) ax_nil))) (ax_cons (ex_tup (ax_cons (ex_str [98]) (ax_cons (ex_str [99]) ax_nil))) (ax_cons (ex_tup (ax_cons (ex_str [99]) (ax_cons (ex_str [100]) ax_nil))) (ax_cons (ex_tup (ax_cons (ex_str [97]) (ax_cons (ex_str [100]) ax_nil))) ax_nil)))))))))) (sxs_to (hl := by rfl) sxs_nil)) (sxs_cons (sx_if (μ' := []) (tx_eq c.hu (eb_var (pv 0)) (EX.bor ex_int)) (sxs_one (sx_ret rfl (EF.shr (ef_lst (ax_cons (ex_tup (ax_cons (ex_str [97]) (ax_cons (ex_str [98]) ax_nil))) (ax_cons (ex_tup (ax_cons (ex_str [98]) (ax_cons (ex_str [99]) ax_nil))) (ax_cons (ex_tup (ax_cons (ex_str [97]) (ax_cons (ex_str [99]) ax_nil))) (ax_cons (ex_tup (ax_cons (ex_str [99]) (ax_cons (ex_str [100]) ax_nil))) (ax_cons (ex_tup (ax_cons (ex_str [97]) (ax_cons (ex_str [100]) ax_nil))) (ax_cons (ex_tup (ax_cons (ex_str [98]) (ax_cons (ex_str [100]) ax_nil))) ax_nil)))))))))) (sxs_to (hl := by rfl) sxs_nil)) (sxs_cons (sx_if (μ' := []) (tx_eq c.hu (eb_var (pv 0)) (EX.bor ex_int)) (sxs_one (sx_ret rfl (EF.shr (ef_lst (ax_cons (ex_tup (ax_cons (ex_str [97, 98]) (ax_cons (ex_str [99]) ax_nil))) (ax_cons (ex_tup (ax_cons (ex_str [97]) (ax_cons (ex_str [98]) ax_nil))) (ax_cons (ex_tup (ax_cons (ex_str [97]) (ax_cons (ex_str [99]) ax_nil))) (ax_cons (ex_tup (ax_cons (ex_str [98, 99]) (ax_cons (ex_str [100]) ax_nil))) (ax_cons (ex_tup (ax_cons (ex_str [97, 98]) (ax_cons (ex_str [100]) ax_nil))) (ax_cons (ex_tup (ax_cons (ex_str [97, 99, 100]) (ax_cons (ex_str [101]) ax_nil))) ax_nil)))))))))) (sxs_to (hl := by rfl) sxs_nil)) (sxs_cons (sx_if (μ' := []) (tx_eq c.hu (eb_var (pv 0)) (EX.bor ex_int)) (sxs_one (sx_ret rfl (EF.shr (ef_lst (ax_cons (ex_tup (ax_cons (ex_str [97]) (ax_cons (ex_str [98]) ax_nil))) (ax_cons (ex_tup (ax_cons (ex_str [98]) (ax_cons (ex_str [99]) ax_nil))) (ax_cons (ex_tup (ax_cons (ex_str [99]) (ax_cons (ex_str [97]) ax_nil))) (ax_cons (ex_tup (ax_cons (ex_str [97]) (ax_cons (ex_str [99]) ax_nil))) (ax_cons (ex_tup (ax_cons (ex_str [99]) (ax_cons (ex_str [98]) ax_nil))) (ax_cons (ex_tup (ax_cons (ex_str [98]) (ax_cons (ex_str [97]) ax_nil))) ax_nil)))))))))) (sxs_to (hl := by rfl) sxs_nil)) (sxs_cons (sx_if (μ' := []) (tx_eq c.hu (eb_var (pv 0)) (EX.bor ex_int)) (sxs_one (sx_ret rfl (EF.shr (ef_lst (ax_cons (ex_tup (ax_cons (ex_str [97, 98]) (ax_cons (ex_str [99]) ax_nil))) (ax_cons (ex_tup (ax_cons (ex_str [97, 98]) (ax_cons (ex_str [100]) ax_nil))) (ax_cons (ex_tup (ax_cons (ex_str [99, 100]) (ax_cons (ex_str [97]) ax_nil))) (ax_cons (ex_tup (ax_cons (ex_str [99, 100]) (ax_cons (ex_str [98]) ax_nil))) (ax_cons (ex_tup (ax_cons (ex_str [97, 98, 99]) (ax_cons (ex_str [100]) ax_nil))) (ax_cons (ex_tup (ax_cons (ex_str [100]) (ax_cons (ex_str [101]) ax_nil))) ax_nil)))))))))) (sxs_to (hl := by rfl) sxs_nil)) (sxs_cons (sx_if (μ' := []) (tx_eq c.hu (eb_var (pv 0)) (EX.bor ex_int)) (sxs_one (sx_ret rfl (EF.shr (ef_lst (ax_cons (ex_tup (ax_cons (ex_str [97]) (ax_cons (ex_str [98]) ax_nil))) (ax_cons (ex_tup (ax_cons (ex_str [98]) (ax_cons (ex_str [99]) ax_nil))) (ax_cons (ex_tup (ax_cons (ex_str [99]) (ax_cons (ex_str [100]) ax_nil))) (ax_cons (ex_tup (ax_cons (ex_str [97]) (ax_cons (ex_str [101]) ax_nil))) (ax_cons (ex_tup (ax_cons (ex_str [100]) (ax_cons (ex_str [101]) ax_nil))) (ax_cons (ex_tup (ax_cons (ex_str [97]) (ax_cons (ex_str [100]) ax_nil))) ax_nil)))))))))) (sxs_to (hl := by rfl) sxs_nil)) (sxs_one (sx_ret rfl (EF.shr (ef_lst (ax_cons (ex_tup (ax_cons (ex_str [97, 98, 99]) (ax_cons (ex_str [100]) ax_nil))) (ax_cons (ex_tup (ax_cons (ex_str [97, 98]) (ax_cons (ex_str [100]) ax_nil))) (ax_cons (ex_tup (ax_cons (ex_str [100, 101]) (ax_cons (ex_str [102]) ax_nil))) (ax_cons (ex_tup (ax_cons (ex_str [97, 98, 101]) (ax_cons (ex_str [102]) ax_nil))) (ax_cons (ex_tup (ax_cons (ex_str [97, 98, 99, 100, 101, 102]) (ax_cons (ex_str [103]) ax_nil))) (ax_cons (ex_tup (ax_cons (ex_str [102]) (ax_cons (ex_str [103]) ax_nil))) ax_nil))))))))))))))))
theorem c__law_rulebook (h : Hd K mg) : Cal P w K mg base 3 "_law_rulebook" false F__law_rulebook 3 := Df.cal (μ' := []) h.d__law_rulebook sc__law_rulebook rfl (fun z => nomatch z) fun f0 cdv A outer s0 G0 H0 E0 c hp => by
  exact (sxs_cons (sx_set (ps_set (i := 3) c.nd rfl (.inl rfl) (ex_cl c (c__law_digits h) (ax_cons (ex_var (pv 1) rfl) (ax_cons (EF.shr (ef_lst (ax_cons ex_int (ax_cons ex_int (ax_cons ex_int (ax_cons ex_int (ax_cons ex_int (ax_cons ex_int (ax_cons ex_int ax_nil))))))))) ax_nil)))) rfl) (sxs_cons (sx_set (ps_set (i := 4) c.nd rfl (.inl rfl) (ex_cl c (c__law_drawn_rules h) (ax_cons (ex_sl (eb_var (pv 0)) ox_no (ox_so (EX.bor (ex_ix (EX.bor (EF.shr (ef_lst (ax_cons ex_int (ax_cons ex_int (ax_cons ex_int (ax_cons ex_int (ax_cons ex_int (ax_cons ex_int (ax_cons ex_int (ax_cons ex_int (ax_cons ex_int (ax_cons ex_int (ax_cons ex_int (ax_cons ex_int ax_nil))))))))))))))) (EX.bor (ex_ix (eb_var (pv 3)) (EX.bor ex_int))))))) (ax_cons (ex_var (pv 2) rfl) ax_nil)))) rfl) (sxs_cons (sx_if (μ' := []) (tx_ge (EX.bor (ex_ix (eb_var (pv 3)) (EX.bor ex_int))) (EX.bor ex_int)) (sxs_one (sx_ret rfl (ex_var (pv 4) rfl))) (sxs_to (hl := by rfl) sxs_nil)) (sxs_cons (sx_setF (ps_set (i := 5) c.nd rfl (.inl rfl) (ef_sl (EX.bor (EF.shr (ef_lc [("rule", 6)] _ [6] c.calm c.nd (ix_seq' (ex_cl c (c__law_menu h) (ax_cons (ex_ix (eb_var (pv 3)) (EX.bor ex_int)) ax_nil))) (blkOk_by (N := ["names", "cell", "more", "row", "drawn", "found", "rule", "at"]) (sc := defScope s__law_rulebook) (by decide +kernel)) (fun s1 H1 C1 cl1 fp1 => (gx_name (pg_name (i := 6) c.nd rfl (.inl rfl)))) (fun s1 H1 C1 cl1 fp1 => lx_nil) (fun s1 H1 C1 cl1 fp1 => (ex_cl (c.blk _ _ _ _ _) (c__law_named h) (ax_cons (ex_var (pv 6) rfl) (ax_cons (ex_var (pv 0) rfl) ax_nil))))))) ox_no (ox_so (EX.bor (ex_min2 c.calm h.m_min (EX.bor ex_int) (EX.bor (ex_add (EX.bor ex_int) (EX.bor (ex_ix (eb_var (pv 3)) (EX.bor ex_int)))))))))) rfl) (sxs_cons (sx_set (ps_set (i := 7) c.nd rfl (.inl rfl) (ex_mod (EX.bor (ex_ix (eb_var (pv 3)) (EX.bor ex_int))) (EX.bor (ex_len h.m_len (eb_var (pv 5)))))) rfl) (sxs_cons (sx_if (μ' := [false, false, false, false, false, true]) (tx_w (wx_and (tx_eq c.hu (EX.bor (ex_ix (eb_var (pv 3)) (EX.bor ex_int))) (EX.bor ex_int)) (wx_and1 (tx_gt (EX.bor (ex_len h.m_len (eb_var (pv 4)))) (EX.bor ex_int))))) (sxs_to (hl := by rfl) (sxs_one (sx_setItem rfl (pv 5) (ex_var (pv 7) rfl) (ex_ix (eb_var (pv 4)) (EX.bor ex_int))))) (sxs_to (hl := by rfl) (sxs_one (sx_if (μ' := [false, false, false, false, false, true]) (tx_eq c.hu (EX.bor (ex_ix (eb_var (pv 3)) (EX.bor ex_int))) (EX.bor ex_int)) (sxs_to (hl := by rfl) (sxs_one (sx_setItem rfl (pv 5) (ex_var (pv 7) rfl) (ex_ix (eb_var (pv 5)) (EX.bor (ex_mod (EX.bor (ex_ix (eb_var (pv 3)) (EX.bor ex_int))) (EX.bor (ex_len h.m_len (eb_var (pv 5)))))))))) (sxs_to (hl := by rfl) sxs_nil))))) (sxs_wk (μ' := []) (hl := by rfl) (sxs_one (sx_ret rfl (ex_cl c (c__law_turned h) (ax_cons (ex_var (pv 5) rfl) (ax_cons (ex_ix (eb_var (pv 3)) (EX.bor ex_int)) ax_nil))))))))))))
theorem c__law_reached (h : Hd K mg) : Cal P w K mg base 2 "_law_reached" false F__law_reached 2 := Df.cal (μ' := []) h.d__law_reached sc__law_reached rfl (fun z => nomatch z) fun f0 cdv A outer s0 G0 H0 E0 c hp => by
  exact (sxs_cons (sx_set (ps_set (i := 2) c.nd rfl (.inl rfl) (ex_var (pv 1) rfl)) rfl) (sxs_cons (sx_for [3] hp c.calm (ix_r1 h.m_range (EX.bor ex_int)) (gx_name (pg_name (i := 3) c.nd rfl (.inl rfl))) (sxs_to (hl := by rfl) (sxs_cons (sx_set (ps_set (i := 4) c.nd rfl (.inl rfl) (ex_var (pv 2) rfl)) rfl) (sxs_cons (sx_for [5] hp c.calm (ix_seq' (ex_var (pv 0) rfl)) (gx_name (pg_name (i := 5) c.nd rfl (.inl rfl))) (sxs_to (hl := by rfl) (sxs_one (sx_if (μ' := []) (tx_w (wx_and (tx_nin c.hu5 (EX.bor (ex_ix (eb_var (pv 5)) (EX.bor ex_int))) (eb_var (pv 2))) (wx_and1 (tx_val (ex_cl ((c.lp _ _).lp _ _) (c__law_within h) (ax_cons (ex_ix (eb_var (pv 5)) (EX.bor ex_int)) (ax_cons (ex_var (pv 2) rfl) ax_nil))))))) (sxs_to (hl := by rfl) (sxs_one (sx_set (ps_set (i := 2) c.nd rfl (.inl rfl) (ex_cl ((c.lp _ _).lp _ _) (c__law_lot h) (ax_cons (ex_add (eb_var (pv 2)) (EX.bor (ex_ix (eb_var (pv 5)) (EX.bor ex_int)))) ax_nil))) rfl))) (sxs_to (hl := by rfl) sxs_nil))))) (sxs_one (sx_if (μ' := []) (tx_eq c.hu (eb_var (pv 2)) (eb_var (pv 4))) (sxs_one (sx_break rfl)) (sxs_to (hl := by rfl) sxs_nil))))))) (sxs_one (sx_ret rfl (ex_var (pv 2) rfl)))))
theorem c__law_staying (h : Hd K mg) : Cal P w K mg base 3 "_law_staying" false F__law_staying 1 := Df.cal (μ' := []) h.d__law_staying sc__law_staying rfl (fun z => nomatch z) fun f0 cdv A outer s0 G0 H0 E0 c hp => by
  exact (sxs_cons (sx_set (ps_set (i := 1) c.nd rfl (.inl rfl) (EF.shr (ef_list h.m_list (eb_var (pv 0))))) rfl) (sxs_cons (sx_for [2] hp c.calm (ix_r1 h.m_range (EX.bor (ex_len h.m_len (eb_var (pv 0))))) (gx_name (pg_name (i := 2) c.nd rfl (.inl rfl))) (sxs_to (hl := by rfl) (sxs_cons (sx_set (ps_set (i := 3) c.nd rfl (.inl rfl) (ex_sub (EX.bor (ex_sub (EX.bor (ex_len h.m_len (eb_var (pv 0)))) (EX.bor ex_int))) (eb_var (pv 2)))) rfl) (sxs_cons (sx_set (ps_set (i := 4) c.nd rfl (.inl rfl) (ex_add (EX.bor (ex_sl (eb_var (pv 1)) ox_no (ox_so (eb_var (pv 3))))) (EX.bor (ex_sl (eb_var (pv 1)) (ox_so (EX.bor (ex_add (eb_var (pv 3)) (EX.bor ex_int)))) ox_no)))) rfl) (sxs_one (sx_if (μ' := []) (tx_in c.hu5 (EX.bor (ex_ix (EX.bor (ex_ix (eb_var (pv 1)) (eb_var (pv 3)))) (EX.bor ex_int))) (EX.bor (ex_cl (c.lp _ _) (c__law_reached h) (ax_cons (ex_var (pv 4) rfl) (ax_cons (ex_ix (EX.bor (ex_ix (eb_var (pv 1)) (eb_var (pv 3)))) (EX.bor ex_int)) ax_nil))))) (sxs_to (hl := by rfl) (sxs_one (sx_set (ps_set (i := 1) c.nd rfl (.inl rfl) (ex_var (pv 4) rfl)) rfl))) (sxs_to (hl := by rfl) sxs_nil))))))) (sxs_one (sx_ret rfl (ex_var (pv 1) rfl)))))
theorem c__law_every_lot (h : Hd K mg) : Cal P w K mg base 2 "_law_every_lot" false F__law_every_lot 1 := Df.cal (μ' := []) h.d__law_every_lot sc__law_every_lot rfl (fun z => nomatch z) fun f0 cdv A outer s0 G0 H0 E0 c hp => by
  exact (sxs_cons (sx_set (ps_set (i := 1) c.nd rfl (.inr rfl) (ex_cl c (c__law_lot h) (ax_cons (ex_join (EX.bor (ex_str [])) (EX.bor (EF.shr (ef_lc [("rule", 2)] _ [2] c.calm c.nd (ix_seq' (ex_var (pv 0) rfl)) (blkOk_by (N := ["rules", "used", "rule", "weights", "found", "bits", "k"]) (sc := defScope s__law_every_lot) (by decide +kernel)) (fun s1 H1 C1 cl1 fp1 => (gx_name (pg_name (i := 2) c.nd rfl (.inl rfl)))) (fun s1 H1 C1 cl1 fp1 => lx_nil) (fun s1 H1 C1 cl1 fp1 => (ex_add (EX.bor (ex_ix (eb_var (pv 2)) (EX.bor ex_int))) (EX.bor (ex_ix (eb_var (pv 2)) (EX.bor ex_int))))))))) ax_nil))) rfl) (sxs_cons (sx_set (ps_set (i := 3) c.nd rfl (.inr rfl) (ex_tup (ax_cons ex_int (ax_cons ex_int (ax_cons ex_int (ax_cons ex_int (ax_cons ex_int (ax_cons ex_int (ax_cons ex_int (ax_cons ex_int (ax_cons ex_int ax_nil))))))))))) rfl) (sxs_cons (sx_setF (ps_set (i := 4) c.nd rfl (.inl rfl) (ef_lst ax_nil)) rfl) (sxs_cons (sx_for [5] hp c.calm (ix_r1 h.m_range (EX.bor (ex_ix (eb_var (pv 3)) (EX.bor (ex_len h.m_len (eb_var (pv 1))))))) (gx_name (pg_name (i := 5) c.nd rfl (.inr rfl))) (sxs_to (hl := by rfl) (sxs_one (sx_append rfl (pv 4) (ex_join (EX.bor (ex_str [])) (EX.bor (EF.shr (ef_lc [("k", 6)] _ [6] c.calm c.nd (ix_r1 h.m_range (EX.bor (ex_len h.m_len (eb_var (pv 1))))) (blkOk_by (N := ["rules", "used", "rule", "weights", "found", "bits", "k"]) (sc := defScope s__law_every_lot) (by decide +kernel)) (fun s1 H1 C1 cl1 fp1 => (gx_name (pg_name (i := 6) c.nd rfl (.inl rfl)))) (fun s1 H1 C1 cl1 fp1 => (lx_one (tx_eq c.hu (EX.bor (ex_mod (EX.bor (ex_fdiv (eb_var (pv 5)) (EX.bor (ex_ix (eb_var (pv 3)) (eb_var (pv 6)))))) (EX.bor ex_int))) (EX.bor ex_int)))) (fun s1 H1 C1 cl1 fp1 => (ex_ix (eb_var (pv 1)) (eb_var (pv 6)))))))))))) (sxs_wk (μ' := []) (hl := by rfl) (sxs_one (sx_ret rfl (ex_var (pv 4) rfl))))))))
theorem c__law_slim_holds (h : Hd K mg) : Cal P w K mg base 8 "_law_slim_holds" false F__law_slim_holds 2 := Df.cal (μ' := []) h.d__law_slim_holds sc__law_slim_holds rfl (fun z => nomatch z) fun f0 cdv A outer s0 G0 H0 E0 c hp => by
  exact (sxs_cons (sx_set (ps_set (i := 2) c.nd rfl (.inl rfl) (ex_tuple h.m_tuple (eb_var (pv 0)))) rfl) (sxs_cons (sx_if (μ' := []) (tx_val (ex_var (pv 1) rfl)) (sxs_to (hl := by rfl) (sxs_one (sx_setLc [("rule", 3)] _ [3] rfl rfl (sw_true rfl rfl rfl (by decide +kernel)) c.calm c.nd (ix_seq' (ex_var (pv 0) rfl)) (blkOk_by (N := ["rules", "listed", "work", "rule", "due", "value", "lot", "reached", "k"]) (sc := defScope s__law_slim_holds) (by decide +kernel)) (fun s1 H1 C1 cl1 fp1 => (gx_name (pg_name (i := 3) c.nd rfl (.inl rfl)))) (fun s1 H1 C1 cl1 fp1 => lx_nil) (fun s1 H1 C1 cl1 fp1 => (EF.shr (ef_list h.m_list (eb_var (pv 3)))))))) (sxs_to (hl := by rfl) sxs_nil)) (sxs_cons (sx_set (ps_set (i := 4) c.nd rfl (.inl rfl) (ex_cl c (c__law_staying h) (ax_cons (ex_var (pv 0) rfl) ax_nil))) rfl) (sxs_cons (sx_set (ps_set (i := 5) c.nd rfl (.inl rfl) (ex_cl c (c_slim h) (ax_cons (ex_var (pv 2) rfl) ax_nil))) rfl) (sxs_cons (sx_if (μ' := []) (tx_w (wx_or (tx_not (tx_val (ex_cl c (c__law_pairs h) (ax_cons (ex_var (pv 5) rfl) (ax_cons (ex_var (pv 4) rfl) ax_nil))))) (wx_or1 (tx_not (tx_val (ex_cl c (c__law_pairs h) (ax_cons (ex_cl c (c_slim h) (ax_cons (ex_var (pv 5) rfl) ax_nil)) (ax_cons (ex_var (pv 4) rfl) ax_nil)))))))) (sxs_one (sx_ret rfl ex_bl)) (sxs_to (hl := by rfl) sxs_nil)) (sxs_cons (sx_for [6] hp c.calm (ix_seq' (ex_cl c (c__law_every_lot h) (ax_cons (ex_var (pv 0) rfl) ax_nil))) (gx_name (pg_name (i := 6) c.nd rfl (.inl rfl))) (sxs_to (hl := by rfl) (sxs_cons (sx_set (ps_set (i := 7) c.nd rfl (.inl rfl) (ex_cl (c.lp _ _) (c__law_reached h) (ax_cons (ex_var (pv 0) rfl) (ax_cons (ex_var (pv 6) rfl) ax_nil)))) rfl) (sxs_one (sx_if (μ' := []) (tx_w (wx_or (tx_not (tx_val (ex_cl (c.lp _ _) (c__law_same h) (ax_cons (ex_cl (c.lp _ _) (c_told h) (ax_cons (ex_var (pv 5) rfl) (ax_cons (ex_var (pv 6) rfl) ax_nil))) (ax_cons (ex_var (pv 7) rfl) ax_nil))))) (wx_or1 (tx_not (tx_val (ex_cl (c.lp _ _) (c__law_same h) (ax_cons (ex_cl (c.lp _ _) (c_told h) (ax_cons (ex_var (pv 2) rfl) (ax_cons (ex_var (pv 6) rfl) ax_nil))) (ax_cons (ex_var (pv 7) rfl) ax_nil)))))))) (sxs_one (sx_ret rfl ex_bl)) (sxs_to (hl := by rfl) sxs_nil)))))) (sxs_cons (sx_for [8] hp c.calm (ix_r1 h.m_range (EX.bor (ex_len h.m_len (eb_var (pv 4))))) (gx_name (pg_name (i := 8) c.nd rfl (.inl rfl))) (sxs_to (hl := by rfl) (sxs_one (sx_if (μ' := []) (tx_nis (EX.bor (ex_cl (c.lp _ _) (c_follows h) (ax_cons (ex_add (EX.bor (ex_sl (eb_var (pv 4)) ox_no (ox_so (eb_var (pv 8))))) (EX.bor (ex_sl (eb_var (pv 4)) (ox_so (EX.bor (ex_add (eb_var (pv 8)) (EX.bor ex_int)))) ox_no))) (ax_cons (ex_ix (eb_var (pv 4)) (eb_var (pv 8))) ax_nil)))) (EX.bor ex_bl)) (sxs_one (sx_ret rfl ex_bl)) (sxs_to (hl := by rfl) sxs_nil))))) (sxs_cons (sx_for [3] hp c.calm (ix_seq' (ex_var (pv 0) rfl)) (gx_name (pg_name (i := 3) c.nd rfl (.inl rfl))) (sxs_to (hl := by rfl) (sxs_one (sx_if (μ' := []) (tx_nis (EX.bor (ex_cl (c.lp _ _) (c_follows h) (ax_cons (ex_var (pv 5) rfl) (ax_cons (ex_var (pv 3) rfl) ax_nil)))) (EX.bor ex_bl)) (sxs_one (sx_ret rfl ex_bl)) (sxs_to (hl := by rfl) sxs_nil))))) (sxs_one (sx_ret rfl (ex_and' (ex_eq c.hu (EX.bor (EF.shr (ef_lc [("rule", 3)] _ [3] c.calm c.nd (ix_seq' (ex_var (pv 2) rfl)) (blkOk_by (N := ["rules", "listed", "work", "rule", "due", "value", "lot", "reached", "k"]) (sc := defScope s__law_slim_holds) (by decide +kernel)) (fun s1 H1 C1 cl1 fp1 => (gx_name (pg_name (i := 3) c.nd rfl (.inl rfl)))) (fun s1 H1 C1 cl1 fp1 => lx_nil) (fun s1 H1 C1 cl1 fp1 => (EF.shr (ef_list h.m_list (eb_var (pv 3)))))))) (EX.bor (EF.shr (ef_lc [("rule", 3)] _ [3] c.calm c.nd (ix_seq' (ex_var (pv 0) rfl)) (blkOk_by (N := ["rules", "listed", "work", "rule", "due", "value", "lot", "reached", "k"]) (sc := defScope s__law_slim_holds) (by decide +kernel)) (fun s1 H1 C1 cl1 fp1 => (gx_name (pg_name (i := 3) c.nd rfl (.inl rfl)))) (fun s1 H1 C1 cl1 fp1 => lx_nil) (fun s1 H1 C1 cl1 fp1 => (EF.shr (ef_list h.m_list (eb_var (pv 3))))))))) (ex_one (ex_cl c (c__law_pairs h) (ax_cons (ex_cl c (c_slim h) (ax_cons (ex_var (pv 2) rfl) ax_nil)) (ax_cons (ex_var (pv 4) rfl) ax_nil)))))))))))))))
theorem g_law (h : Hd K mg) {f : Addr} {fd : FuncData} (F : Fun K "law" "law" s_law f fd) : FnG P w K mg base 9 f fd ["script"] (spF K false F_law 1) := fng_fx (μ' := []) F sc_law rfl (fun z => nomatch z) fun f0 cdv A outer s0 G0 H0 E0 c hp => by
  exact (sxs_cons (sx_set (ps_set (i := 1) c.nd rfl (.inl rfl) (ex_cl c (c__law_digits h) (ax_cons (ex_cl c (c__law_cell h) (ax_cons (ex_var (pv 0) rfl) (ax_cons ex_int ax_nil))) (ax_cons (EF.shr (ef_lst (ax_cons ex_int (ax_cons ex_int (ax_cons ex_int (ax_cons ex_int ax_nil)))))) ax_nil)))) rfl) (sxs_cons (sx_set (ps_set (i := 2) c.nd rfl (.inl rfl) (ex_cl c (c__law_turned h) (ax_cons (EF.shr (ef_lst (ax_cons (ex_str [97]) (ax_cons (ex_str [98]) (ax_cons (ex_str [99]) (ax_cons (ex_str [100]) (ax_cons (ex_str [101]) (ax_cons (ex_str [102]) (ax_cons (ex_str [103]) (ax_cons (ex_str [104]) ax_nil)))))))))) (ax_cons (ex_ix (eb_var (pv 1)) (EX.bor ex_int)) ax_nil)))) rfl) (sxs_cons (sx_set (ps_set (i := 3) c.nd rfl (.inl rfl) (ex_cl c (c__law_turned h) (ax_cons (EF.shr (ef_lst (ax_cons (ex_str [97]) (ax_cons (ex_str [98]) (ax_cons (ex_str [99]) (ax_cons (ex_str [100]) (ax_cons (ex_str [101]) (ax_cons (ex_str [102]) (ax_cons (ex_str [103]) (ax_cons (ex_str [104]) ax_nil)))))))))) (ax_cons (ex_ix (eb_var (pv 1)) (EX.bor ex_int)) ax_nil)))) rfl) (sxs_cons (sx_set (ps_set (i := 4) c.nd rfl (.inl rfl) (ex_cl c (c__law_rulebook h) (ax_cons (ex_var (pv 2) rfl) (ax_cons (ex_cl c (c__law_cell h) (ax_cons (ex_var (pv 0) rfl) (ax_cons ex_int ax_nil))) (ax_cons (ex_cl c (c__law_cell h) (ax_cons (ex_var (pv 0) rfl) (ax_cons ex_int ax_nil))) ax_nil))))) rfl) (sxs_cons (sx_set (ps_set (i := 5) c.nd rfl (.inl rfl) (ex_cl c (c__law_rulebook h) (ax_cons (ex_var (pv 3) rfl) (ax_cons (ex_cl c (c__law_cell h) (ax_cons (ex_var (pv 0) rfl) (ax_cons ex_int ax_nil))) (ax_cons (ex_cl c (c__law_cell h) (ax_cons (ex_var (pv 0) rfl) (ax_cons ex_int ax_nil))) ax_nil))))) rfl) (sxs_cons (sx_if (μ' := []) (tx_w (wx_or (tx_not (tx_val (ex_cl c (c__law_slim_holds h) (ax_cons (ex_var (pv 4) rfl) (ax_cons ex_bl ax_nil))))) (wx_or1 (tx_not (tx_val (ex_cl c (c__law_slim_holds h) (ax_cons (ex_var (pv 5) rfl) (ax_cons ex_bl ax_nil)))))))) (sxs_one (sx_ret rfl ex_bl)) (sxs_to (hl := by rfl) sxs_nil)) (sxs_cons (sx_if (μ' := []) (tx_not (tx_val (ex_cl c (c__law_slim_holds h) (ax_cons (ex_cl c (c__law_turned h) (ax_cons (ex_var (pv 4) rfl) (ax_cons (ex_ix (eb_var (pv 1)) (EX.bor ex_int)) ax_nil))) (ax_cons ex_bl ax_nil))))) (sxs_one (sx_ret rfl ex_bl)) (sxs_to (hl := by rfl) sxs_nil)) (sxs_cons (sx_set (ps_set (i := 6) c.nd rfl (.inl rfl) (ex_sl (EX.bor (ex_add (eb_var (pv 4)) (eb_var (pv 5)))) (ox_so (EX.bor (ex_ix (eb_var (pv 1)) (EX.bor ex_int)))) (ox_so (EX.bor (ex_add (EX.bor (ex_ix (eb_var (pv 1)) (EX.bor ex_int))) (EX.bor ex_int)))))) rfl) (sxs_one (sx_ret rfl (ex_and' (ex_cl c (c__law_slim_holds h) (ax_cons (ex_var (pv 6) rfl) (ax_cons ex_bl ax_nil))) (ex_and' (ex_cl c (c__law_slim_holds h) (ax_cons (EF.shr (ef_lst ax_nil)) (ax_cons (ex_eq c.hu (EX.bor (ex_mod (EX.bor (ex_ix (eb_var (pv 1)) (EX.bor ex_int))) (EX.bor ex_int))) (EX.bor ex_int)) ax_nil))) (ex_one (ex_cl c (c__law_pairs h) (ax_cons (ex_cl c (c_slim h) (ax_cons (EF.shr (ef_list h.m_list (eb_var (pv 4)))) ax_nil)) (ax_cons (ex_cl c (c__law_staying h) (ax_cons (ex_var (pv 4) rfl) ax_nil)) ax_nil))))))))))))))))
end
end
end Pv

open PySem PySem.W PyProof.Rows
set_option maxHeartbeats 0 in
theorem PySem.Challenge.cw_onemeaning_k05_slim_rules_holds : PySem.Challenge.rw_onemeaning_k05_slim_rules.Holds := by
  w_on; o_law; k_head; (case hw => w_witness2)
  k_fill
  refine Pv.walk_law (l := PySem.Challenge.rw_onemeaning_k05_slim_rules) (k := 9) (x := "script") rfl rfl ⟨rfl, by decide, by decide⟩ (fun w h Y => PySem.W.kIn_of Y) ?F
  case F =>
    intro w mg fa h KX G hmg
    refine' Pv.law_mk KX G hmg Pv.law_true (fun h base f fd F => Pv.g_law h F) (fun _ _ _ _ _ _ s u => .of_eq rfl) ?hd ?la ?ll ?lc ?lk
    case hd =>
      refine' Pv.Hd.mk ?x0 ?x1 ?x2 ?x3 ?x4 ?x5 ?x6 ?x7 ?x8 ?x9 ?x10 ?x11 ?x12 ?x13 ?x14 ?x15 ?x16 ?x17 ?x18 ?x19 ?x20 ?x21 ?x22 ?x23 ?x24 ?x25 ?x26 ?x27 ?x28 ?x29 ?x30 ?x31 ?x32 ?x33 ?x34
      case x0 =>
        refine' Pv.df_mk KX G (fun _ _ _ _ _ _ us hl => match us, hl with | [_], _ => rfl) ?a ?l ?c ?k
        (case a => k_is); (case l => k_is); (case c => k_is); (case k => k_is)
      case x1 =>
        refine' Pv.df_mk KX G (fun _ _ _ _ _ _ us hl => match us, hl with | [_, _], _ => rfl) ?a ?l ?c ?k
        (case a => k_is); (case l => k_is); (case c => k_is); (case k => k_is)
      case x2 =>
        refine' Pv.df_mk KX G (fun _ _ _ _ _ _ us hl => match us, hl with | [_, _], _ => rfl) ?a ?l ?c ?k
        (case a => k_is); (case l => k_is); (case c => k_is); (case k => k_is)
      case x3 =>
        refine' Pv.df_mk KX G (fun _ _ _ _ _ _ us hl => match us, hl with | [_, _], _ => rfl) ?a ?l ?c ?k
        (case a => k_is); (case l => k_is); (case c => k_is); (case k => k_is)
      case x4 =>
        refine' Pv.df_mk KX G (fun _ _ _ _ _ _ us hl => match us, hl with | [_, _], _ => rfl) ?a ?l ?c ?k
        (case a => k_is); (case l => k_is); (case c => k_is); (case k => k_is)
      case x5 =>
        refine' Pv.df_mk KX G (fun _ _ _ _ _ _ us hl => match us, hl with | [_, _], _ => rfl) ?a ?l ?c ?k
        (case a => k_is); (case l => k_is); (case c => k_is); (case k => k_is)
      case x6 =>
        refine' Pv.df_mk KX G (fun _ _ _ _ _ _ us hl => match us, hl with | [_, _], _ => rfl) ?a ?l ?c ?k
        (case a => k_is); (case l => k_is); (case c => k_is); (case k => k_is)
      case x7 =>
        refine' Pv.df_mk KX G (fun _ _ _ _ _ _ us hl => match us, hl with | [_, _], _ => rfl) ?a ?l ?c ?k
        (case a => k_is); (case l => k_is); (case c => k_is); (case k => k_is)
      case x8 =>
        refine' Pv.df_mk KX G (fun _ _ _ _ _ _ us hl => match us, hl with | [_], _ => rfl) ?a ?l ?c ?k
        (case a => k_is); (case l => k_is); (case c => k_is); (case k => k_is)
      case x9 =>
        refine' Pv.df_mk KX G (fun _ _ _ _ _ _ us hl => match us, hl with | [_, _], _ => rfl) ?a ?l ?c ?k
        (case a => k_is); (case l => k_is); (case c => k_is); (case k => k_is)
      case x10 =>
        refine' Pv.df_mk KX G (fun _ _ _ _ _ _ us hl => match us, hl with | [_, _], _ => rfl) ?a ?l ?c ?k
        (case a => k_is); (case l => k_is); (case c => k_is); (case k => k_is)
      case x11 =>
        refine' Pv.df_mk KX G (fun _ _ _ _ _ _ us hl => match us, hl with | [_, _], _ => rfl) ?a ?l ?c ?k
        (case a => k_is); (case l => k_is); (case c => k_is); (case k => k_is)
      case x12 =>
        refine' Pv.df_mk KX G (fun _ _ _ _ _ _ us hl => match us, hl with | [_, _], _ => rfl) ?a ?l ?c ?k
        (case a => k_is); (case l => k_is); (case c => k_is); (case k => k_is)
      case x13 =>
        refine' Pv.df_mk KX G (fun _ _ _ _ _ _ us hl => match us, hl with | [_, _], _ => rfl) ?a ?l ?c ?k
        (case a => k_is); (case l => k_is); (case c => k_is); (case k => k_is)
      case x14 =>
        refine' Pv.df_mk KX G (fun _ _ _ _ _ _ us hl => match us, hl with | [_], _ => rfl) ?a ?l ?c ?k
        (case a => k_is); (case l => k_is); (case c => k_is); (case k => k_is)
      case x15 =>
        refine' Pv.df_mk KX G (fun _ _ _ _ _ _ us hl => match us, hl with | [_, _], _ => rfl) ?a ?l ?c ?k
        (case a => k_is); (case l => k_is); (case c => k_is); (case k => k_is)
      case x16 =>
        refine' Pv.df_mk KX G (fun _ _ _ _ _ _ us hl => match us, hl with | [_, _], _ => rfl) ?a ?l ?c ?k
        (case a => k_is); (case l => k_is); (case c => k_is); (case k => k_is)
      case x17 =>
        refine' Pv.df_mk KX G (fun _ _ _ _ _ _ us hl => match us, hl with | [_, _], _ => rfl) ?a ?l ?c ?k
        (case a => k_is); (case l => k_is); (case c => k_is); (case k => k_is)
      case x18 =>
        refine' Pv.df_mk KX G (fun _ _ _ _ _ _ us hl => match us, hl with | [_], _ => rfl) ?a ?l ?c ?k
        (case a => k_is); (case l => k_is); (case c => k_is); (case k => k_is)
      case x19 =>
        refine' Pv.df_mk KX G (fun _ _ _ _ _ _ us hl => match us, hl with | [_, _, _], _ => rfl) ?a ?l ?c ?k
        (case a => k_is); (case l => k_is); (case c => k_is); (case k => k_is)
      case x20 =>
        refine' Pv.df_mk KX G (fun _ _ _ _ _ _ us hl => match us, hl with | [_, _], _ => rfl) ?a ?l ?c ?k
        (case a => k_is); (case l => k_is); (case c => k_is); (case k => k_is)
      case x21 =>
        refine' Pv.df_mk KX G (fun _ _ _ _ _ _ us hl => match us, hl with | [_], _ => rfl) ?a ?l ?c ?k
        (case a => k_is); (case l => k_is); (case c => k_is); (case k => k_is)
      case x22 =>
        refine' Pv.df_mk KX G (fun _ _ _ _ _ _ us hl => match us, hl with | [_], _ => rfl) ?a ?l ?c ?k
        (case a => k_is); (case l => k_is); (case c => k_is); (case k => k_is)
      case x23 =>
        refine' Pv.df_mk KX G (fun _ _ _ _ _ _ us hl => match us, hl with | [_, _], _ => rfl) ?a ?l ?c ?k
        (case a => k_is); (case l => k_is); (case c => k_is); (case k => k_is)
      case x24 =>
        refine' PySem.W.mg_none_of KX G ?a
        (case a => k_is)
      case x25 =>
        refine' PySem.W.mg_none_of KX G ?a
        (case a => k_is)
      case x26 =>
        refine' PySem.W.mg_none_of KX G ?a
        (case a => k_is)
      case x27 =>
        refine' PySem.W.mg_none_of KX G ?a
        (case a => k_is)
      case x28 =>
        refine' PySem.W.mg_none_of KX G ?a
        (case a => k_is)
      case x29 =>
        refine' PySem.W.mg_none_of KX G ?a
        (case a => k_is)
      case x30 =>
        refine' PySem.W.mg_none_of KX G ?a
        (case a => k_is)
      case x31 =>
        refine' PySem.W.mg_none_of KX G ?a
        (case a => k_is)
      case x32 =>
        refine' PySem.W.mg_none_of KX G ?a
        (case a => k_is)
      case x33 =>
        refine' PySem.W.mg_none_of KX G ?a
        (case a => k_is)
      case x34 =>
        refine' Pv.gs_mk (y := "abcdefgh") KX G (by decide +kernel) ?a
        (case a => k_is)
    (case la => k_is); (case ll => k_is); (case lc => k_is); (case lk => k_is)
