import PyProof.Rows.All
import Wide.All
import OpenK.AllK
import Wide.FinOn
import PyProof.EqAt
import PyProof.EqKinds
import PyProof.TupleCall
import HandS.ForMost
import HandS.ForExc
import HandS.Wide
import HandS.IsInst
import HandS.Lambda
import HandS.TupAny
import HandS.TupMul
import HandS.SortInts
import HandS.Conv
import KE.KExcSuper
import KE.KSuper
import HandS.ExcSuper
import HandS.TryOnly
import HandS.Style
import HandS.Deep
import HandS.More
import HandS.Ends
import KE.GoesMore
import KE.GoesEnum
import HandS.Zip
import HandS.Star
import HandS.TryMany
import KE.SortData
import HandS.TupSets
import KE.DataMinMax
import HandS.SetFor
import HandS.Strs
import HandS.Flow
import PyProof.StrBlock2
import PyProof.Rows.StrMul
import HandS.EndTab
import PySem.Challenge.RW_batchnumbers_k03_powers_and_loops
set_option Elab.async false
set_option linter.all false
set_option maxRecDepth 100000
set_option maxHeartbeats 4000000
/-! The data layer, part 1: values as immutable data over the hand layer; slots that own a list; the deal. -/
namespace Dl
open PySem PySem.Spec PyProof.Rows L2

/-! ### what stays through a step: all but the machines' own dicts and the tables of code objects -/
def Hd : HO → Prop
  | .dK _ => False
  | .tbl _ => False
  | _ => True
def Pl : HO → Prop
  | .ins _ _ _ => False
  | .tbl _ => False
  | _ => True
/-- never written by a slot's owner -/
def Fx : HO → Prop
  | .lst _ => False
  | .dK _ => False
  | .dT _ => False
  | _ => True

/-! ### data at a value, clear of the barred addresses -/
def keyD : Key → PyData
  | .inl i => .int i
  | .inr x => .str x
def tkD (k : List Key) : PyData := .tuple (k.map keyD)
/-- a machine as data: its class, its commands, states, steps -/
def mchD (C : Addr) (c n s : PyData) : PyData := .dict [(.none, .tuple [.int (C : Nat), c, n, s])]
mutual
inductive Rp (B : Addr → Prop) (H : Hp) : V → PyData → Prop
  | non : Rp B H .non .none
  | bl (b : Bool) : Rp B H (.bl b) (.bool b)
  | int (i : Int) : Rp B H (.int i) (.int i)
  | str (x : Str) : Rp B H (.str x) (.str x)
  | lst {a : Addr} {xs : List V} {ds : List PyData} : ¬ B a → H a = some (.lst xs) → RpL B H xs ds → Rp B H (.ref a) (.list ds)
  | tup {a : Addr} {xs : List V} {ds : List PyData} : ¬ B a → H a = some (.tup xs) → RpL B H xs ds → Rp B H (.ref a) (.tuple ds)
  | dic {a : Addr} {kvs : List (Key × V)} : ¬ B a → H a = some (.dK kvs) → Rp B H (.ref a) (.dict [])
  | dcT {a : Addr} {kvs : List (List Key × V)} {ds : List (PyData × PyData)} : ¬ B a → H a = some (.dT kvs) → RpT B H kvs ds → Rp B H (.ref a) (.dict ds)
  | mch {a dx C fd : Addr} {v1 v2 v3 : V} {d1 d2 d3 : PyData} : ¬ B a → H a = some (.ins C dx [("commands", v1), ("states", v2), ("steps", v3), ("_found", .ref fd)]) → Rp B H v1 d1 → Rp B H v2 d2 → Rp B H v3 d3 → Rp B H (.ref a) (mchD C d1 d2 d3)
inductive RpL (B : Addr → Prop) (H : Hp) : List V → List PyData → Prop
  | nil : RpL B H [] []
  | cons {v : V} {vs : List V} {d : PyData} {ds : List PyData} : Rp B H v d → RpL B H vs ds → RpL B H (v :: vs) (d :: ds)
inductive RpT (B : Addr → Prop) (H : Hp) : List (List Key × V) → List (PyData × PyData) → Prop
  | nil : RpT B H [] []
  | cons {k : List Key} {v : V} {vs : List (List Key × V)} {d : PyData} {ds : List (PyData × PyData)} : Rp B H v d → RpT B H vs ds → RpT B H ((k, v) :: vs) ((tkD k, d) :: ds)
end
/-- what is clear of B stays -/
structure Kx (B : Addr → Prop) (H H' : Hp) : Prop where
  k : ∀ a o, ¬ B a → Hd o → H a = some o → H' a = some o
  d : ∀ a q, ¬ B a → H a = some (.dK q) → ∃ q', H' a = some (.dK q')
theorem Kx.of {B : Addr → Prop} {H H' : Hp} (k : ∀ a o, ¬ B a → H a = some o → H' a = some o) : Kx B H H' := ⟨fun a o n _ h => k a o n h, fun a q n h => ⟨q, k a _ n h⟩⟩

theorem Kx.bar {B : Addr → Prop} {H H' : Hp} {p : Addr} (k : Kx B H H') : Kx (fun a => B a ∨ a = p) H H' := ⟨fun a o n s h => k.k a o (fun z => n (.inl z)) s h, fun a q n h => k.d a q (fun z => n (.inl z)) h⟩
theorem Kx.tr {B B' : Addr → Prop} {H H' H2 : Hp} (k : Kx B H H') (b : ∀ a, B' a → B a) (k2 : Kx B' H' H2) : Kx B H H2 := ⟨fun a o n s h => k2.k a o (fun z => n (b a z)) s (k.k a o n s h), fun a q n h => by obtain ⟨_, e⟩ := k.d a q n h; exact k2.d a _ (fun z => n (b a z)) e⟩
theorem rd_keep {B : Addr → Prop} {H H' : Hp} {a : Addr} {u : HO} (k : ∀ a o, ¬ B a → H a = some o → H' a = some o) (n : ¬ B a) (h : Rd H a u) : Rd H' a u := by
  rcases h with h | ⟨o, h⟩
  · exact .inl (k _ _ n h)
  · exact .inr ⟨o, k _ _ n h⟩

theorem sq_keep {K : PySem.W.Frag} {B : Addr → Prop} {H H' : Hp} {a : Addr} {xs : List V} (k : ∀ a o, ¬ B a → H a = some o → H' a = some o) (n : ¬ B a) (h : SqL K H a xs) : SqL K H' a xs := by
  rcases h with h | h
  · exact .inl (rd_keep k n h)
  · exact .inr h
section
variable {B B' : Addr → Prop} {H H' : Hp}
/-- one move of what a value's data leans on -/
structure Mv (B B' : Addr → Prop) (H H' : Hp) : Prop where
  n : ∀ a o, ¬ B a → H a = some o → ¬ B' a
  x : Kx B H H'
theorem Rp.go {v : V} {d : PyData} (m : Mv B B' H H') (h : Rp B H v d) : Rp B' H' v d :=
  Rp.rec (motive_1 := fun v d _ => Rp B' H' v d) (motive_2 := fun v d _ => RpL B' H' v d) (motive_3 := fun v d _ => RpT B' H' v d)
    .non .bl .int .str (fun n r _ l => .lst (m.n _ _ n r) (m.x.k _ _ n trivial r) l) (fun n r _ l => .tup (m.n _ _ n r) (m.x.k _ _ n trivial r) l)
    (fun n r => by obtain ⟨q, e⟩ := m.x.d _ _ n r; exact .dic (m.n _ _ n r) e) (fun n r _ l => .dcT (m.n _ _ n r) (m.x.k _ _ n trivial r) l)
    (fun n r _ _ _ a b c => .mch (m.n _ _ n r) (m.x.k _ _ n trivial r) a b c) .nil (fun _ _ a b => .cons a b) .nil (fun _ _ a b => .cons a b) h
theorem RpL.go {v : List V} {d : List PyData} (m : Mv B B' H H') (h : RpL B H v d) : RpL B' H' v d := by
  induction v generalizing d with
  | nil => cases h; exact .nil
  | cons v vs ih => cases h with
    | cons a b => exact .cons (a.go m) (ih b)
theorem RpT.go {v : List (List Key × V)} {d : List (PyData × PyData)} (m : Mv B B' H H') (h : RpT B H v d) : RpT B' H' v d := by
  induction v generalizing d with
  | nil => cases h; exact .nil
  | cons v vs ih => cases h with
    | cons a b => exact .cons (a.go m) (ih b)
theorem Mv.bar {p : Addr} (n : H p = none) : Mv B (fun a => B a ∨ a = p) H H := ⟨fun a o m r z => z.elim m (ne_of_none r n), .of fun _ _ _ z => z⟩
theorem Mv.mv (hB : ∀ a, B' a → B a) (k : ∀ a o, ¬ B a → H a = some o → H' a = some o) : Mv B B' H H' := ⟨fun a _ n _ z => n (hB _ z), .of k⟩
theorem Mv.mx (hB : ∀ a, B' a → B a) (k : Kx B H H') : Mv B B' H H' := ⟨fun a _ n _ z => n (hB _ z), k⟩
end
theorem Rp.bar {B : Addr → Prop} {H : Hp} {p : Addr} (n : H p = none) (d : PyData) (v : V) (h : Rp B H v d) : Rp (fun a => B a ∨ a = p) H v d := h.go (.bar n)
theorem RpL.bar {B : Addr → Prop} {H : Hp} {p : Addr} (n : H p = none) (d : List PyData) (v : List V) (h : RpL B H v d) : RpL (fun a => B a ∨ a = p) H v d := h.go (.bar n)
theorem Rp.mv {B B' : Addr → Prop} {H H' : Hp} {v : V} {d : PyData} (h : Rp B H v d) (hB : ∀ a, B' a → B a) (k : ∀ a o, ¬ B a → H a = some o → H' a = some o) : Rp B' H' v d := h.go (.mv hB k)
theorem RpL.mv {B B' : Addr → Prop} {H H' : Hp} {v : List V} {d : List PyData} (h : RpL B H v d) (hB : ∀ a, B' a → B a) (k : ∀ a o, ¬ B a → H a = some o → H' a = some o) : RpL B' H' v d := h.go (.mv hB k)
theorem Rp.mx {B B' : Addr → Prop} {H H' : Hp} {v : V} {d : PyData} (h : Rp B H v d) (hB : ∀ a, B' a → B a) (k : Kx B H H') : Rp B' H' v d := h.go (.mx hB k)
theorem RpL.mx {B B' : Addr → Prop} {H H' : Hp} {v : List V} {d : List PyData} (h : RpL B H v d) (hB : ∀ a, B' a → B a) (k : Kx B H H') : RpL B' H' v d := h.go (.mx hB k)
theorem Rp.mk {B : Addr → Prop} {H H' : Hp} {v : V} {d : PyData} (h : Rp B H v d) (k : Kx B H H') : Rp B H' v d := h.go (.mx (fun _ z => z) k)
theorem RpL.mk {B : Addr → Prop} {H H' : Hp} {v : List V} {d : List PyData} (h : RpL B H v d) (k : Kx B H H') : RpL B H' v d := h.go (.mx (fun _ z => z) k)
theorem RpL.len {B : Addr → Prop} {H : Hp} : ∀ {vs : List V} {ds : List PyData}, RpL B H vs ds → vs.length = ds.length
  | _, _, .nil => rfl
  | _, _, .cons _ t => by simp [RpL.len t]
theorem RpL.app {B : Addr → Prop} {H : Hp} : ∀ {vs ws : List V} {ds es : List PyData}, RpL B H vs ds → RpL B H ws es → RpL B H (vs ++ ws) (ds ++ es)
  | _, _, _, _, .nil, h => h
  | _, _, _, _, .cons a t, h => .cons a (RpL.app t h)
theorem RpL.one {B : Addr → Prop} {H : Hp} {v : V} {d : PyData} (h : Rp B H v d) : RpL B H [v] [d] := .cons h .nil
theorem RpL.get {B : Addr → Prop} {H : Hp} : ∀ {vs : List V} {ds : List PyData} {i : Nat} {d : PyData}, RpL B H vs ds → ds[i]? = some d → ∃ v, vs[i]? = some v ∧ Rp B H v d
  | _, _, i, _, .nil, h => by simp at h
  | _, _, 0, _, .cons a t, h => by simp at h; subst h; exact ⟨_, rfl, a⟩
  | _, _, i + 1, _, .cons a t, h => by
    obtain ⟨v, h1, h2⟩ := RpL.get (i := i) t (by simpa using h)
    exact ⟨v, by simpa using h1, h2⟩
theorem RpL.getv {B : Addr → Prop} {H : Hp} : ∀ {vs : List V} {ds : List PyData} {i : Nat} {v : V}, RpL B H vs ds → vs[i]? = some v → ∃ d, ds[i]? = some d ∧ Rp B H v d
  | _, _, i, _, .nil, h => by simp at h
  | _, _, 0, _, .cons a t, h => by simp at h; subst h; exact ⟨_, rfl, a⟩
  | _, _, i + 1, _, .cons a t, h => by
    obtain ⟨v, h1, h2⟩ := RpL.getv (i := i) t (by simpa using h)
    exact ⟨v, by simpa using h1, h2⟩
theorem RpL.drop {B : Addr → Prop} {H : Hp} : ∀ {vs : List V} {ds : List PyData} (n : Nat), RpL B H vs ds → RpL B H (vs.drop n) (ds.drop n)
  | _, _, 0, h => h
  | _, _, _ + 1, .nil => .nil
  | _, _, n + 1, .cons _ t => RpL.drop n t
theorem RpL.take {B : Addr → Prop} {H : Hp} : ∀ {vs : List V} {ds : List PyData} (n : Nat), RpL B H vs ds → RpL B H (vs.take n) (ds.take n)
  | _, _, 0, _ => .nil
  | _, _, _ + 1, .nil => .nil
  | _, _, n + 1, .cons a t => .cons a (RpL.take n t)
theorem RpL.set {B : Addr → Prop} {H : Hp} {v : V} {d : PyData} (h : Rp B H v d) : ∀ {vs : List V} {ds : List PyData} (i : Nat), RpL B H vs ds → RpL B H (vs.set i v) (ds.set i d)
  | _, _, _, .nil => .nil
  | _, _, 0, .cons _ t => .cons h t
  | _, _, i + 1, .cons a t => .cons a (RpL.set h i t)
theorem RpL.ints {B : Addr → Prop} {H : Hp} : ∀ (ns : List Int), RpL B H (ns.map V.int) (ns.map PyData.int)
  | [] => .nil
  | n :: ns => .cons (.int n) (RpL.ints ns)
theorem RpL.ints_inv {B : Addr → Prop} {H : Hp} : ∀ {ns : List Int} {vs : List V}, RpL B H vs (ns.map PyData.int) → vs = ns.map V.int
  | [], _, h => by cases h; rfl
  | n :: ns, _, h => by
    cases h with
    | cons a t => cases a; rw [RpL.ints_inv t]; rfl
theorem RpL.bools_inv {B : Addr → Prop} {H : Hp} : ∀ {bs : List Bool} {vs : List V}, RpL B H vs (bs.map PyData.bool) → vs = bs.map V.bl
  | [], _, h => by cases h; rfl
  | n :: ns, _, h => by
    cases h with
    | cons a t => cases a; rw [RpL.bools_inv t]; rfl
mutual
theorem Rp.dp {B : Addr → Prop} {H : Hp} (K : PySem.W.Frag) : ∀ (d : PyData) (v : V), d.hasDict = false → Rp B H v d → Dp K H v d
  | .none, _, _, h => by cases h; exact .non
  | .bool _, _, _, h => by cases h; exact .bl _
  | .int _, _, _, h => by cases h; exact .int _
  | .str _, _, _, h => by cases h; exact .str _
  | .list ds, _, hh, h => by
    cases h with
    | lst _ r l => exact .lst (.of r) (RpL.dp K ds _ (by simpa only [PyData.hasDict] using hh) l)
  | .tuple ds, _, hh, h => by
    cases h with
    | tup _ r l => exact .tup (.of r) (RpL.dp K ds _ (by simpa only [PyData.hasDict] using hh) l)
  | .dict _, _, hh, h => by simp [PyData.hasDict] at hh
theorem RpL.dp {B : Addr → Prop} {H : Hp} (K : PySem.W.Frag) : ∀ (ds : List PyData) (vs : List V), PyData.hasDictAll ds = false → RpL B H vs ds → DpAll K H vs ds
  | [], _, _, h => by cases h; exact .nil
  | d :: ds, _, hh, h => by
    simp only [PyData.hasDictAll, Bool.or_eq_false_iff] at hh
    cases h with
    | cons h1 h2 => exact .cons (Rp.dp K d _ hh.1 h1) (RpL.dp K ds _ hh.2 h2)
end

/-! ### the deal: [cells, blend], changed by whoever draws -/
/-- what a class of one's own tells of its instances' type -/
structure ClsF (K : PySem.W.Frag) (C : Addr) : Prop where
  ty : ∀ (H : Hp) (a dx : Addr) (fs : List (Str × V)), H a = some (.ins C dx fs) → TyOf K H (.ref a) (.ref C)
  no : ∀ T : String, T = "int" ∨ T = "bool" ∨ T = "str" ∨ T = "list" ∨ T = "tuple" → PySem.W.kitOne K (.ref C) (.type T) = some false
/-- what holds of the heap at all times, whoever runs: of what is clear of the barred addresses -/
structure LamStep (T : List (Addr × Str)) (H H1 : Hp) : Prop where
  ext : LamX.ExtN H H1
  tabs : LamX.Tabs T H1
  new : ∀ b o, H1 b = some o → H b = some o ∨ (∃ ps, o = .tbl ps ∧ ∃ q, (b, q) ∈ T) ∨ (H b = none ∧ ∃ φ, o = .ext φ)
structure GInv where
  K : PySem.W.Frag
  T : List (Addr × Str)
  I : (Addr → Prop) → Hp → Prop
  anti : ∀ {B B' : Addr → Prop} {H : Hp}, (∀ a, B' a → B a) → I B H → I B' H
  bar : ∀ {B : Addr → Prop} {H : Hp} {p : Addr}, H p = none → I B H → I (fun a => B a ∨ a = p) H
  keep : ∀ {B : Addr → Prop} {H H' : Hp}, (∀ a o, ¬ B a → H a = some o → H' a = some o) → (∀ a o, Fx o → H a = some o → H' a = some o) → (∀ a o, H' a = some o → Pl o ∨ H a = some o) → I B H → I B H'
  ty : ∀ {B : Addr → Prop} {H : Hp} {a C dx : Addr} {fs : List (Str × V)}, I B H → H a = some (.ins C dx fs) → ClsF K C
  tb : ∀ {B : Addr → Prop} {H : Hp}, I B H → LamX.Tabs T H ∧ ∀ a ps, H a = some (.tbl ps) → ∃ q, (a, q) ∈ T
  lam : ∀ {B : Addr → Prop} {H H1 : Hp}, (∀ a, B a → H a ≠ none) → LamStep T H H1 → I B H → I B H1
/-- no instances; tables of code objects at T alone -/
structure IT (T : List (Addr × Str)) (H : Hp) : Prop where
  ins : ∀ a C dx fs, H a ≠ some (.ins C dx fs)
  tabs : LamX.Tabs T H
  only : ∀ a ps, H a = some (.tbl ps) → ∃ q, (a, q) ∈ T
theorem codeO_ext {c : Addr} {q : Str} : ∃ φ, LamX.CodeO c q = .ext φ := ⟨_, rfl⟩
theorem tabs_fx {T : List (Addr × Str)} {H H' : Hp} (t : LamX.Tabs T H) (k : ∀ a o, Fx o → H a = some o → H' a = some o) : LamX.Tabs T H' := fun p hp => by
  obtain ⟨ps, h1, h2, h3⟩ := t p hp
  refine ⟨ps, k _ _ trivial h1, h2, fun pos cv hc => ?_⟩
  obtain ⟨c, e1, e2⟩ := h3 pos cv hc
  exact ⟨c, e1, k _ _ (by obtain ⟨φ, z⟩ := codeO_ext (c := c) (q := p.2); rw [z]; trivial) e2⟩
theorem IT.keep {T : List (Addr × Str)} {H H' : Hp} (i : IT T H) (k : ∀ a o, Fx o → H a = some o → H' a = some o) (n : ∀ a o, H' a = some o → Pl o ∨ H a = some o) : IT T H' :=
  ⟨fun a C dx fs e => (n a _ e).elim (fun z => z) fun z => i.ins _ _ _ _ z, tabs_fx i.tabs k, fun a ps e => (n a _ e).elim (fun z => z.elim) fun z => i.only a ps z⟩
theorem IT.lam {T : List (Addr × Str)} {H H1 : Hp} (i : IT T H) (s : LamStep T H H1) : IT T H1 := by
  refine ⟨fun a C dx fs e => ?_, s.tabs, fun a ps e => ?_⟩
  · rcases s.new a _ e with z | ⟨_, z, _⟩ | ⟨_, _, z⟩
    · exact i.ins _ _ _ _ z
    · cases z
    · cases z
  · rcases s.new a _ e with z | ⟨_, _, z⟩ | ⟨_, _, z⟩
    · exact i.only _ _ z
    · exact z
    · cases z
def giT (K : PySem.W.Frag) (T : List (Addr × Str)) : GInv :=
  ⟨K, T, fun _ H => IT T H, fun _ h => h, fun _ h => h, fun _ k n h => h.keep k n, fun h e => absurd e (h.ins _ _ _ _), fun h => ⟨h.tabs, h.only⟩, fun _ s h => h.lam s⟩
abbrev gi0 (K : PySem.W.Frag) : GInv := giT K []
structure Dl2 where
  dl : Option (Addr × Addr)
  gi : GInv
def Md (dl : Dl2) (a : Addr) : Prop := match dl.dl with
  | some (p, q) => a = p ∨ a = q
  | none => False
def DOk (dl : Option (Addr × Addr)) (H : Hp) : Prop := match dl with
  | some (p, q) => p ≠ q ∧ ∃ (cells : List Int) (blend : Int), H p = some (.lst [.ref q, .int blend]) ∧ H q = some (.lst (cells.map V.int)) ∧ cells.length ≤ 63 ∧ (∀ c ∈ cells, 0 ≤ c) ∧ 0 ≤ blend ∧ blend < 2147483647
  | none => True
structure DealOk (dl : Dl2) (B : Addr → Prop) (H : Hp) : Prop where
  d : DOk dl.dl H
  i : dl.gi.I B H
theorem DealOk.anti {dl : Dl2} {B B' : Addr → Prop} {H : Hp} (o : DealOk dl B H) (h : ∀ a, B' a → B a) : DealOk dl B' H := ⟨o.d, dl.gi.anti h o.i⟩
theorem DOk.md {dl : Dl2} {H : Hp} (d : DOk dl.dl H) {a : Addr} (m : Md dl a) : ∃ xs, H a = some (.lst xs) := by
  unfold Md at m
  cases e : dl.dl with
  | none => rw [e] at m; exact m.elim
  | some pq =>
    rw [e] at m d
    obtain ⟨p, q⟩ := pq
    obtain ⟨_, c, b, h1, h2, _⟩ := d
    rcases m with rfl | rfl
    · exact ⟨_, h1⟩
    · exact ⟨_, h2⟩
theorem DOk.keep {dl : Dl2} {H H' : Hp} (d : DOk dl.dl H) (k : ∀ a o, Md dl a → H a = some o → H' a = some o) : DOk dl.dl H' := by
  unfold Md at k
  cases e : dl.dl with
  | none => trivial
  | some pq =>
    rw [e] at k d
    obtain ⟨p, q⟩ := pq
    obtain ⟨n, c, b, h1, h2, r⟩ := d
    exact ⟨n, c, b, k _ _ (.inl rfl) h1, k _ _ (.inr rfl) h2, r⟩
/-- a step that changes nothing that is known -/
theorem DealOk.keep {dl : Dl2} {B : Addr → Prop} {H H' : Hp} (o : DealOk dl B H) (k : ∀ a u, H a = some u → H' a = some u) (n : ∀ a u, H' a = some u → Pl u ∨ H a = some u) : DealOk dl B H' :=
  ⟨o.d.keep fun a u _ h => k a u h, dl.gi.keep (fun a u _ h => k a u h) (fun a u _ h => k a u h) n o.i⟩
theorem DealOk.bar {dl : Dl2} {B : Addr → Prop} {H : Hp} {p : Addr} (o : DealOk dl B H) (h : H p = none) : DealOk dl (fun a => B a ∨ a = p) H := ⟨o.d, dl.gi.bar h o.i⟩
theorem upd_pl {H : Hp} {p : Addr} {o : HO} (pl : Pl o) : ∀ a u, upd H p o a = some u → Pl u ∨ H a = some u := fun a u h => by
  by_cases e : a = p
  · rw [e, upd_same] at h; cases h; exact .inl pl
  · rw [upd_ne e] at h; exact .inr h
theorem ok_new {dl : Dl2} {B : Addr → Prop} {H : Hp} {p : Addr} {o : HO} (d : DealOk dl B H) (h : H p = none) (pl : Pl o := by trivial) : DealOk dl B (upd H p o) :=
  d.keep (fun a u e => by rw [upd_ne (ne_of_none e h)]; exact e) (upd_pl pl)
theorem ok_newb {dl : Dl2} {B : Addr → Prop} {H : Hp} {p : Addr} {o : HO} (d : DealOk dl B H) (h : H p = none) (pl : Pl o := by trivial) : DealOk dl (fun a => B a ∨ a = p) (upd H p o) := ok_new (d.bar h) h pl
/-- a barred list is written -/
theorem ok_put {dl : Dl2} {B : Addr → Prop} {H : Hp} {p : Addr} {o : HO} (d : DealOk dl B H) (b : B p) (m : ¬ Md dl p) {xs : List V} (w : H p = some (.lst xs)) (pl : Pl o := by trivial) : DealOk dl B (upd H p o) :=
  ⟨d.d.keep fun a u e h => by rw [upd_ne fun (z : a = p) => m (z ▸ e)]; exact h, dl.gi.keep (fun a u n h => by rw [upd_ne fun (z : a = p) => n (z ▸ b)]; exact h) (fun a u x h => by rw [upd_ne fun (z : a = p) => by rw [z, w] at h; cases h; exact x]; exact h) (upd_pl pl) d.i⟩

/-! ### slots -/
inductive SV where
  /-- a value -/
  | v (d : PyData)
  /-- a list that this slot alone holds -/
  | o (ds : List PyData)
  /-- the deal -/
  | dl
  /-- the script -/
  | scr (ns : List Int)
  /-- a list that a caller's slot alone holds, lent -/
  | b (ds : List PyData)
  /-- the exception at a, whose attribute's dict is at dd -/
  | ex (a dd : Addr) (d : PyData)
  /-- a function that was handed in, a lambda: its object at f, its code object at c -/
  | fn (f c : Addr) (q : Str)
abbrev En := List (Option SV)

/-- the script: locked, or an object of the module -/
def ScrAt (K : PySem.W.Frag) (H : Hp) (a : Addr) (ns : List Int) : Prop :=
  (∃ o, H a = some (.frz o (.lst (ns.map V.int)))) ∨ (∃ (o : Obj) (its : Array Value) (n : Nat), K.lookup a = some o ∧ o.cls = .type "list" ∧ o.dict = none ∧ o.data = .seq its n ∧ its.size ≤ sizeLine ∧ Vals (ns.map V.int) its.toList)
theorem ScrAt.sq {K : PySem.W.Frag} {H : Hp} {a : Addr} {ns : List Int} (h : ScrAt K H a ns) : SqL K H a (ns.map V.int) := by
  rcases h with ⟨o, h⟩ | h
  · exact .inl (.inr ⟨o, h⟩)
  · exact .inr h
theorem ScrAt.keep {K : PySem.W.Frag} {H H' : Hp} {a : Addr} {ns : List Int} (k : ∀ a o u, H a = some (.frz o u) → H' a = some (.frz o u)) (h : ScrAt K H a ns) : ScrAt K H' a ns := by
  rcases h with ⟨o, h⟩ | h
  · exact .inl ⟨o, k _ _ _ h⟩
  · exact .inr h
/-- what a slot says of its value -/
inductive RS (K : PySem.W.Frag) (dl : Dl2) (B0 B : Addr → Prop) (H : Hp) : SV → V → Prop
  | v {d : PyData} {x : V} : Rp B H x d → RS K dl B0 B H (.v d) x
  | o {a : Addr} {xs : List V} {ds : List PyData} : B a → ¬ B0 a → H a = some (.lst xs) → RpL B H xs ds → RS K dl B0 B H (.o ds) (.ref a)
  | dl {p q : Addr} : dl.dl = some (p, q) → RS K dl B0 B H .dl (.ref p)
  | scr {a : Addr} {ns : List Int} : ScrAt K H a ns → RS K dl B0 B H (.scr ns) (.ref a)
  | b {a : Addr} {xs : List V} {ds : List PyData} : B0 a → ¬ Md dl a → H a = some (.lst xs) → RpL B H xs ds → RS K dl B0 B H (.b ds) (.ref a)
  | ex {a dd : Addr} {v : V} {d : PyData} : H dd = some (.xd [("at", v)]) → ¬ B dd → Rp B H v d → RS K dl B0 B H (.ex a dd d) (.ref a)
  | fn {f c : Addr} {q : Str} : ¬ Md dl c → H c = some (LamX.CodeO c q) → RS K dl B0 B H (.fn f c q) (.ref f)
structure RE (K : PySem.W.Frag) (dl : Dl2) (B0 B : Addr → Prop) (H : Hp) (σ : L2.St) (ρ : En) : Prop where
  len : σ.length = ρ.length
  at_ : ∀ (i : Nat) (sv : SV), ρ[i]? = some (some sv) → ∃ x, σ[i]? = some (some x) ∧ RS K dl B0 B H sv x
  ap : ∀ (i j : Nat) (di dj : List PyData) (a : Addr), ρ[i]? = some (some (.o di)) → ρ[j]? = some (some (.o dj)) → σ[i]? = some (some (.ref a)) → σ[j]? = some (some (.ref a)) → i = j
theorem code_ne {H : Hp} {a c : Addr} {q : Str} {xs : List V} (h1 : H a = some (.lst xs)) (h2 : H c = some (LamX.CodeO c q)) : c ≠ a := fun z => by
  obtain ⟨φ, y⟩ := codeO_ext (c := c) (q := q)
  rw [y, z, h1] at h2; cases h2
/-- what stays: all but the deal, the dicts of machines, the tables -/
structure Kp (dl : Dl2) (H H' : Hp) : Prop where
  k : ∀ a o, ¬ Md dl a → Hd o → H a = some o → H' a = some o
  d : ∀ a q, H a = some (.dK q) → ∃ q', H' a = some (.dK q')
  t : ∀ a q, H a = some (.tbl q) → ∃ q', H' a = some (.tbl q')
theorem Kp.code {dl : Dl2} {H H' : Hp} (k : Kp dl H H') {c : Addr} {q : Str} (m : ¬ Md dl c) (e : H c = some (LamX.CodeO c q)) : H' c = some (LamX.CodeO c q) := k.k _ _ m trivial e
theorem Kp.fn {dl : Dl2} {H H' : Hp} (k : Kp dl H H') (a : Addr) (o : HO) (n : ¬ Md dl a) (h : H a = some o) (s : Hd o := by trivial) : H' a = some o := k.k a o n s h
instance {dl : Dl2} {H H' : Hp} : CoeFun (Kp dl H H') fun _ => ∀ (a : Addr) (o : HO), ¬ Md dl a → H a = some o → (s : Hd o := by trivial) → H' a = some o := ⟨fun k => @Kp.fn _ _ _ k⟩
theorem Kp.of {dl : Dl2} {H H' : Hp} (k : ∀ a o, ¬ Md dl a → H a = some o → H' a = some o) (m : ∀ a q, Md dl a → H a = some (.dK q) → False) (m2 : ∀ a q, Md dl a → H a = some (.tbl q) → False) : Kp dl H H' := by
  refine ⟨fun a o n _ h => k a o n h, fun a q h => ?_, fun a q h => ?_⟩
  · exact ⟨q, k a _ (fun z => m a q z h) h⟩
  · exact ⟨q, k a _ (fun z => m2 a q z h) h⟩
theorem Kp.all {dl : Dl2} {H H' : Hp} (k : ∀ a o, H a = some o → H' a = some o) : Kp dl H H' := ⟨fun a o _ _ h => k a o h, fun a q h => ⟨q, k a _ h⟩, fun a q h => ⟨q, k a _ h⟩⟩
theorem Kp.refl {dl : Dl2} {H : Hp} : Kp dl H H := .all fun _ _ h => h
theorem Kp.trans {dl : Dl2} {H H1 H2 : Hp} (a : Kp dl H H1) (b : Kp dl H1 H2) : Kp dl H H2 :=
  ⟨fun x o n s h => b.k x o n s (a.k x o n s h), fun x q h => by obtain ⟨_, e⟩ := a.d x q h; exact b.d _ _ e, fun x q h => by obtain ⟨_, e⟩ := a.t x q h; exact b.t _ _ e⟩
theorem Kp.new {dl : Dl2} {H : Hp} {p : Addr} {o : HO} (h : H p = none) : Kp dl H (upd H p o) := .all fun a u e => by
  rw [upd_ne (ne_of_none e h)]; exact e
theorem Kp.put {dl : Dl2} {F H : Hp} (k : Kp dl F H) {a : Addr} {o : HO} (h : F a = none) : Kp dl F (upd H a o) := by
  have ne : ∀ {c u}, F c = Option.some u → c ≠ a := fun {c u} e => ne_of_none e h
  refine ⟨fun c u n s e => by rw [upd_ne (ne e)]; exact k.k c u n s e, fun c q e => ?_, fun c q e => ?_⟩
  · rw [upd_ne (ne e)]; exact k.d c q e
  · rw [upd_ne (ne e)]; exact k.t c q e
theorem Kp.congr {dl : Dl2} {F H P : Hp} (k : Kp dl F H) (h : ∀ a, F a ≠ none → P a = H a) : Kp dl F P := by
  have w : ∀ {a u}, F a = Option.some u → P a = H a := fun {a u} e => h a (by rw [e]; simp)
  exact ⟨fun a o n s e => (w e).trans (k.k a o n s e), fun a q e => by rw [w e]; exact k.d a q e, fun a q e => by rw [w e]; exact k.t a q e⟩
theorem Kp.some {dl : Dl2} {H H' : Hp} (k : Kp dl H H') {a : Addr} (m : ¬ Md dl a) (h : H a ≠ none) : H' a ≠ none := fun e => by
  cases q : H a with
  | none => exact h q
  | some o =>
    by_cases s : Hd o
    · rw [k.k a o m s q] at e; cases e
    · cases o with
      | dK x => obtain ⟨_, z⟩ := k.d a x q; rw [z] at e; cases e
      | tbl x => obtain ⟨_, z⟩ := k.t a x q; rw [z] at e; cases e
      | _ => exact s trivial

/-- what is fixed through a def's body: the deal, what the caller bars, the heap at the entry, what is wanted of an exception (its class, its attribute) -/
structure Ga where
  dl : Dl2
  B0 : Addr → Prop
  H0 : Hp
  xd : En → Addr → PyData → Prop
  fx : Hp → Prop
abbrev Ga.K (G : Ga) : PySem.W.Frag := G.dl.gi.K
abbrev Ga.kp (G : Ga) (H H' : Hp) : Prop := Kp G.dl H H'
abbrev Ga.ok (G : Ga) (B : Addr → Prop) (H : Hp) : Prop := DealOk G.dl B H
structure Go (G : Ga) (F : Hp) (B : Addr → Prop) (H : Hp) (σ : L2.St) (ρ : En) : Prop where
  fx : G.fx F
  b0 : ∀ a, G.B0 a → B a
  md : ∀ a, Md G.dl a → G.B0 a
  dom : ∀ a, B a → H a ≠ none
  ext : G.kp G.H0 F
  new : ∀ a, B a → ¬ G.B0 a → F a = none
  kp : G.kp F H
  deal : G.ok B H
  re : RE G.K G.dl G.B0 B H σ ρ
section
variable {G : Ga} {F : Hp} {B : Addr → Prop} {H H' : Hp} {σ : L2.St} {ρ : En}
theorem Go.kp0 (g : Go G F B H σ ρ) : G.kp G.H0 H := g.ext.trans g.kp
theorem Go.nb (g : Go G F B H σ ρ) {p : Addr} (h : H p = none) : ¬ B p := fun z => g.dom p z h
theorem Go.kb (g : Go G F B H σ ρ) (k : G.kp H H') : Kx B H H' := ⟨fun a o n s h => k.k a o (fun z => n (g.b0 _ (g.md _ z))) s h, fun a q _ h => k.d a q h⟩
theorem deal_dom {dl : Dl2} {B : Addr → Prop} {H : Hp} (d : DealOk dl B H) : ∀ a, Md dl a → H a ≠ none := fun a z => by
  obtain ⟨xs, e⟩ := d.d.md z
  rw [e]; simp
theorem kp_dom {dl : Dl2} {B : Addr → Prop} {H H' : Hp} (k : Kp dl H H') (d : DealOk dl B H') : ∀ a, H a ≠ none → H' a ≠ none := fun a z => by
  by_cases m : Md dl a
  · exact deal_dom d a m
  · exact k.some m z
theorem kp_frz {dl : Dl2} {B : Addr → Prop} {H H' : Hp} (k : Kp dl H H') (d : DealOk dl B H) : ∀ a o u, H a = some (.frz o u) → H' a = some (.frz o u) := fun a o u e => by
  refine k a _ (fun z => ?_) e
  obtain ⟨xs, h⟩ := d.d.md z
  rw [h] at e; cases e
/-- another heap: all but the deal stays -/
theorem Go.step (g : Go G F B H σ ρ) (k : G.kp H H') (d : G.ok B H') : Go G F B H' σ ρ where
  fx := g.fx
  b0 := g.b0
  md := g.md
  dom := fun a z => kp_dom k d a (g.dom a z)
  ext := g.ext
  new := g.new
  kp := g.kp.trans k
  deal := d
  re := ⟨g.re.len, fun i sv h => by
    obtain ⟨x, h1, h2⟩ := g.re.at_ i sv h
    refine ⟨x, h1, ?_⟩
    cases h2 with
    | v r => exact .v (r.mk (g.kb k))
    | o b n e l => exact .o b n (k _ _ (fun z => n (g.md _ z)) e) (l.mk (g.kb k))
    | dl e => exact .dl e
    | ex e n r => exact .ex (k _ _ (fun z => n (g.b0 _ (g.md _ z))) e) n (r.mk (g.kb k))
    | b z m e l => exact .b z m (k _ _ m e) (l.mk (g.kb k))
    | fn m e => exact .fn m (k.code m e)
    | scr q => exact .scr (q.keep (kp_frz k g.deal)), g.re.ap⟩
end

/-! ### expressions -/
abbrev WE := En → (PyData → Prop) → Prop
/-- the hand layer's reading of a data reading -/
def lf (G : Ga) (w : WE) : TE := fun σ H Q => ∃ F B ρ, Go G F B H σ ρ ∧ w ρ fun d => ∀ v H', G.kp H H' → G.ok B H' → Rp B H' v d → Q v H'
/-- a value that may be a slot's own list -/
def RpB (dl : Dl2) (B : Addr → Prop) (H : Hp) (v : V) (d : PyData) : Prop := Rp B H v d ∨ ∃ a xs ds, v = .ref a ∧ d = .list ds ∧ B a ∧ ¬ Md dl a ∧ H a = some (.lst xs) ∧ RpL B H xs ds
def lb (G : Ga) (w : WE) : TE := fun σ H Q => ∃ F B ρ, Go G F B H σ ρ ∧ w ρ fun d => ∀ v H', G.kp H H' → G.ok B H' → RpB G.dl B H' v d → Q v H'
/-- a new list -/
def lw (G : Ga) (w : WE) : TE := fun σ H Q => ∃ F B ρ, Go G F B H σ ρ ∧ w ρ fun d => ∀ p xs ds H', d = .list ds → H p = none → G.kp H H' → G.ok (fun a => B a ∨ a = p) H' → H' p = some (.lst xs) → RpL (fun a => B a ∨ a = p) H' xs ds → Q (.ref p) H'
def Mo (w : WE) : Prop := ∀ ρ (Q Q' : PyData → Prop), (∀ d, Q d → Q' d) → w ρ Q → w ρ Q'
structure DE (G : Ga) (X : Cx) (e : Expr) (w : WE) : Prop where
  pe : PE X e (lf G w)
  mo : Mo w
structure DB (G : Ga) (X : Cx) (e : Expr) (w : WE) : Prop where
  pe : PE X e (lb G w)
  mo : Mo w
structure DF (G : Ga) (X : Cx) (e : Expr) (w : WE) : Prop where
  pe : PE X e (lw G w)
  mo : Mo w
theorem pe_imp {X : Cx} {e : Expr} {t t' : TE} (h : PE X e t) (i : ∀ σ H Q, t' σ H Q → t σ H Q) : PE X e t' := ⟨fun pins s σ H Q I q => h.run pins s σ H Q I (i σ H Q q)⟩
section
variable {G : Ga} {X : Cx} {e : Expr} {w : WE}
theorem DE.b (h : DE G X e w) : DB G X e w := ⟨pe_imp h.pe fun σ H Q ⟨F, B, ρ, g, q⟩ => ⟨F, B, ρ, g, h.mo _ _ _ (fun d k v H' a b c => k v H' a b (.inl c)) q⟩, h.mo⟩
theorem DF.de (h : DF G X e w) : DE G X e w := ⟨pe_imp h.pe fun σ H Q ⟨F, B, ρ, g, q⟩ => ⟨F, B, ρ, g, h.mo _ _ _ (fun d k p xs ds H' e n a b c l => k _ _ a (b.anti fun _ z => .inl z) (by
  subst e; exact .lst (g.nb n) c (l.mv (fun _ z => .inl z) fun _ _ _ z => z))) q⟩, h.mo⟩
theorem DF.b (h : DF G X e w) : DB G X e w := h.de.b
end

/-! ### names, constants -/
def dVar (i : Nat) : WE := fun ρ Q => ∃ d, ρ[i]? = some (some (.v d)) ∧ Q d
def dVarB (i : Nat) : WE := fun ρ Q => (∃ d, ρ[i]? = some (some (.v d)) ∧ Q d) ∨ ∃ ds, (ρ[i]? = some (some (.o ds)) ∨ ρ[i]? = some (some (.b ds))) ∧ Q (.list ds)
def dC (d : PyData) : WE := fun _ Q => Q d
section
variable {G : Ga} {X : Cx} {pos : Pos}
theorem mo_var {i : Nat} : Mo (dVar i) := fun _ _ _ m ⟨d, h, q⟩ => ⟨d, h, m _ q⟩
theorem mo_varB {i : Nat} : Mo (dVarB i) := fun _ _ _ m h => h.elim (fun ⟨d, h, q⟩ => .inl ⟨d, h, m _ q⟩) fun ⟨d, h, q⟩ => .inr ⟨d, h, m _ q⟩
theorem mo_c {d : PyData} : Mo (dC d) := fun _ _ _ m q => m _ q
theorem de_of_var {i : Nat} {e : Expr} (h : PE X e (tVar i)) : DE G X e (dVar i) := ⟨pe_imp h fun σ H Q ⟨F, B, ρ, g, d, hd, q⟩ => by
  obtain ⟨x, h1, h2⟩ := g.re.at_ i _ hd
  cases h2 with
  | v r => exact ⟨x, h1, q x H .refl g.deal r⟩, mo_var⟩
theorem db_of_var {i : Nat} {e : Expr} (h : PE X e (tVar i)) : DB G X e (dVarB i) := ⟨pe_imp h fun σ H Q ⟨F, B, ρ, g, hd⟩ => by
  rcases hd with ⟨d, hd, q⟩ | ⟨d, hd | hd, q⟩
  · obtain ⟨x, h1, h2⟩ := g.re.at_ i _ hd
    cases h2 with
    | v r => exact ⟨x, h1, q x H .refl g.deal (.inl r)⟩
  rotate_left
  · obtain ⟨x, h1, h2⟩ := g.re.at_ i _ hd
    cases h2 with
    | b z m e l => exact ⟨_, h1, q _ H .refl g.deal (.inr ⟨_, _, _, rfl, rfl, g.b0 _ z, m, e, l⟩)⟩
  · obtain ⟨x, h1, h2⟩ := g.re.at_ i _ hd
    cases h2 with
    | o b n e l => exact ⟨_, h1, q _ H .refl g.deal (.inr ⟨_, _, _, rfl, rfl, b, fun z => n (g.md _ z), e, l⟩)⟩, mo_varB⟩
theorem dv (i : Nat) {x : Str} (hN : X.N[i]? = some x := by rfl) (hv : Vis X.env.scope x := by first | exact Or.inl rfl | exact Or.inr (Or.inl rfl) | exact Or.inr (Or.inr rfl)) (hd : (x == ("__debug__" : Str)) = false := by decide)
    (hcd : (x == ("__classdict__" : Str)) = false := by decide) : DE G X (.Name x pos) (dVar i) := de_of_var (pe_var hN hv hd hcd)
theorem bv (i : Nat) {x : Str} (hN : X.N[i]? = some x := by rfl) (hv : Vis X.env.scope x := by first | exact Or.inl rfl | exact Or.inr (Or.inl rfl) | exact Or.inr (Or.inr rfl)) (hd : (x == ("__debug__" : Str)) = false := by decide)
    (hcd : (x == ("__classdict__" : Str)) = false := by decide) : DB G X (.Name x pos) (dVarB i) := db_of_var (pe_var hN hv hd hcd)
theorem de_int {i : Int} {j} : DE G X (.Constant (.int i) j pos) (dC (.int i)) := ⟨pe_imp pe_int fun σ H Q ⟨F, B, ρ, g, q⟩ => q _ H .refl g.deal (.int i), mo_c⟩
theorem de_bl {i : Bool} {j} : DE G X (.Constant (.bool i) j pos) (dC (.bool i)) := ⟨pe_imp pe_bl fun σ H Q ⟨F, B, ρ, g, q⟩ => q _ H .refl g.deal (.bl i), mo_c⟩
theorem de_non {j} : DE G X (.Constant .none j pos) (dC .none) := ⟨pe_imp pe_non fun σ H Q ⟨F, B, ρ, g, q⟩ => q _ H .refl g.deal .non, mo_c⟩
theorem de_str {x} {j} : DE G X (.Constant (.str x) j pos) (dC (.str x)) := ⟨pe_imp pe_str fun σ H Q ⟨F, B, ρ, g, q⟩ => q _ H .refl g.deal (.str _), mo_c⟩
end

/-! ### two operands by their values -/
section
variable {G : Ga} {X : Cx} {a b : Expr} {wa wb : WE} {pos : Pos}
/-- an operation of two data -/
abbrev W2 := PyData → PyData → (PyData → Prop) → Prop
def d2 (f : W2) (wa wb : WE) : WE := fun ρ Q => wa ρ fun x => wb ρ fun y => f x y Q
def Mo2 (f : W2) : Prop := ∀ x y (Q Q' : PyData → Prop), (∀ d, Q d → Q' d) → f x y Q → f x y Q'
theorem mo_d2 {f : W2} (hf : Mo2 f) (ha : Mo wa) (hb : Mo wb) : Mo (d2 f wa wb) := fun ρ Q Q' m h => ha _ _ _ (fun x h => hb _ _ _ (fun y h => hf _ _ _ _ m h) h) h
theorem RpB.step {G : Ga} {F : Hp} {B : Addr → Prop} {H H' : Hp} {σ : L2.St} {ρ : En} {v : V} {d : PyData} (g : Go G F B H σ ρ) (k : G.kp H H') (h : RpB G.dl B H v d) : RpB G.dl B H' v d := by
  rcases h with r1 | ⟨a, xs, ds, e1, e2, b1, m1, h1, l1⟩
  · exact .inl (r1.mk (g.kb k))
  · exact .inr ⟨a, xs, ds, e1, e2, b1, m1, k _ _ m1 h1, l1.mk (g.kb k)⟩
theorem Rp.step {G : Ga} {F : Hp} {B : Addr → Prop} {H H' : Hp} {σ : L2.St} {ρ : En} {v : V} {d : PyData} (g : Go G F B H σ ρ) (k : G.kp H H') (h : Rp B H v d) : Rp B H' v d := h.mk (g.kb k)
/-- the operands one after the other, both borrowed -/
theorem two_b {r : R2} {f : W2} (ha : DB G X a wa) (hb : DB G X b wb)
    (hr : ∀ F B σ ρ H x y d e (Q : VK), Go G F B H σ ρ → RpB G.dl B H x d → RpB G.dl B H y e → (f d e fun z => ∀ v H', G.kp H H' → G.ok B H' → Rp B H' v z → Q v H') → r x y H Q) (hf : Mo2 f) :
    ∀ σ H Q, lf G (d2 f wa wb) σ H Q → tOp r (lb G wa) (lb G wb) σ H Q := fun σ H Q ⟨F, B, ρ, g, q⟩ =>
  ⟨F, B, ρ, g, ha.mo _ _ _ (fun d q v H1 k1 o1 r1 => ⟨F, B, ρ, g.step k1 o1, hb.mo _ _ _ (fun e q v2 H2 k2 o2 r2 =>
    hr F B σ ρ H2 v v2 d e Q ((g.step k1 o1).step k2 o2) (r1.step (g.step k1 o1) k2) r2
      (hf _ _ _ _ (fun z k v H' k' o' r' => k v H' (k1.trans (k2.trans k')) o' r') q)) q⟩) q⟩
theorem de_op {op : Operator} {r : R2} {f : W2} (ho : OpR X (binaryOp op) r) (ha : DB G X a wa) (hb : DB G X b wb)
    (hr : ∀ F B σ ρ H x y d e (Q : VK), Go G F B H σ ρ → RpB G.dl B H x d → RpB G.dl B H y e → (f d e fun z => ∀ v H', G.kp H H' → G.ok B H' → Rp B H' v z → Q v H') → r x y H Q) (hf : Mo2 f) :
    DE G X (.BinOp a op b pos) (d2 f wa wb) := ⟨pe_imp (pe_op ho ha.pe hb.pe) (two_b ha hb hr hf), mo_d2 hf ha.mo hb.mo⟩
theorem de_cmp {op : CmpOp} {r : R2} {f : W2} (ho : OpR X (compareOp op) r) (ha : DB G X a wa) (hb : DB G X b wb)
    (hr : ∀ F B σ ρ H x y d e (Q : VK), Go G F B H σ ρ → RpB G.dl B H x d → RpB G.dl B H y e → (f d e fun z => ∀ v H', G.kp H H' → G.ok B H' → Rp B H' v z → Q v H') → r x y H Q) (hf : Mo2 f) (hm : behindInMarks op b = false) :
    DE G X (.Compare a [op] [b] pos) (d2 f wa wb) := ⟨pe_imp (pe_cmpR ho ha.pe hb.pe hm) (two_b ha hb hr hf), mo_d2 hf ha.mo hb.mo⟩
end

/-! ### ints -/
def fI (C : Int → Int → Prop) (g : Int → Int → PyData) : W2 := fun x y Q => ∃ i j, x = .int i ∧ y = .int j ∧ C i j ∧ Q (g i j)
theorem mo_fI {C : Int → Int → Prop} {g : Int → Int → PyData} : Mo2 (fI C g) := fun _ _ _ _ m ⟨i, j, h1, h2, h3, q⟩ => ⟨i, j, h1, h2, h3, m _ q⟩
theorem rb_int {dl : Dl2} {B : Addr → Prop} {H : Hp} {v : V} {i : Int} (h : RpB dl B H v (.int i)) : v = .int i := by
  rcases h with h | ⟨a, xs, ds, _, h, _⟩
  · cases h; rfl
  · cases h
theorem rb_bl {dl : Dl2} {B : Addr → Prop} {H : Hp} {v : V} {i : Bool} (h : RpB dl B H v (.bool i)) : v = .bl i := by
  rcases h with h | ⟨a, xs, ds, _, h, _⟩
  · cases h; rfl
  · cases h
theorem rb_str {dl : Dl2} {B : Addr → Prop} {H : Hp} {v : V} {i : Str} (h : RpB dl B H v (.str i)) : v = .str i := by
  rcases h with h | ⟨a, xs, ds, _, h, _⟩
  · cases h; rfl
  · cases h
theorem r_fI {C : Int → Int → Prop} {g : Int → Int → PyData} {gv : Int → Int → V} (hg : ∀ i j B H, Rp B H (gv i j) (g i j)) {G : Ga} {F : Hp} {B : Addr → Prop} {σ : L2.St} {ρ : En} {H : Hp} {x y : V} {d e : PyData} {Q : VK} (gg : Go G F B H σ ρ)
    (rx : RpB G.dl B H x d) (ry : RpB G.dl B H y e) (q : fI C g d e fun z => ∀ v H', G.kp H H' → G.ok B H' → Rp B H' v z → Q v H') : rI C gv x y H Q := by
  obtain ⟨i, j, rfl, rfl, c, q⟩ := q
  exact ⟨i, j, rb_int rx, rb_int ry, c, q _ H .refl gg.deal (hg i j B H)⟩
theorem r_fI0 {C : Int → Int → Prop} {g : Int → Int → PyData} {gv : Int → Int → V} (hg : ∀ i j B H, Rp B H (gv i j) (g i j)) {G : Ga} {F : Hp} {B : Addr → Prop} {σ : L2.St} {ρ : En} {H : Hp} {x y : V} {d e : PyData} {Q : VK} (gg : Go G F B H σ ρ)
    (rx : RpB G.dl B H x d) (ry : RpB G.dl B H y e) (q : fI C g d e fun z => ∀ v H', G.kp H H' → G.ok B H' → Rp B H' v z → Q v H') : rI0 gv x y H Q := by
  obtain ⟨i, j, rfl, rfl, c, q⟩ := q
  exact ⟨i, j, rb_int rx, rb_int ry, q _ H .refl gg.deal (hg i j B H)⟩
section
variable {G : Ga} {X : Cx} {a b : Expr} {wa wb : WE} {pos : Pos}
abbrev T2 (_ _ : Int) : Prop := True
abbrev wAdd := d2 (fI T2 fun i j => .int (i + j))
abbrev wSub := d2 (fI T2 fun i j => .int (i - j))
abbrev wMul := d2 (fI CMulW fun i j => .int (i * j))
abbrev wMod := d2 (fI (fun _ j => 0 < j) fun i j => .int (i % j))
abbrev wDiv := d2 (fI CDivW fun i j => .int (i / j))
abbrev wLt := d2 (fI T2 fun i j => .bool (decide (i < j)))
abbrev wLe := d2 (fI T2 fun i j => .bool (decide (i ≤ j)))
abbrev wGt := d2 (fI T2 fun i j => .bool (decide (j < i)))
abbrev wGe := d2 (fI T2 fun i j => .bool (decide (j ≤ i)))
theorem de_add (ha : DB G X a wa) (hb : DB G X b wb) : DE G X (.BinOp a .Add b pos) (wAdd wa wb) := de_op op_add ha hb (fun _ _ _ _ _ _ _ _ _ _ g rx ry q => r_fI0 (fun _ _ _ _ => .int _) g rx ry q) mo_fI
theorem de_sub (ha : DB G X a wa) (hb : DB G X b wb) : DE G X (.BinOp a .Sub b pos) (wSub wa wb) := de_op op_sub ha hb (fun _ _ _ _ _ _ _ _ _ _ g rx ry q => r_fI0 (fun _ _ _ _ => .int _) g rx ry q) mo_fI
theorem de_mul (ha : DB G X a wa) (hb : DB G X b wb) : DE G X (.BinOp a .Mult b pos) (wMul wa wb) := de_op op_mulW ha hb (fun _ _ _ _ _ _ _ _ _ _ g rx ry q => r_fI (fun _ _ _ _ => .int _) g rx ry q) mo_fI
theorem de_mod (ha : DB G X a wa) (hb : DB G X b wb) : DE G X (.BinOp a .Mod b pos) (wMod wa wb) := de_op op_mod ha hb (fun _ _ _ _ _ _ _ _ _ _ g rx ry q => r_fI (fun _ _ _ _ => .int _) g rx ry q) mo_fI
theorem de_div (ha : DB G X a wa) (hb : DB G X b wb) : DE G X (.BinOp a .FloorDiv b pos) (wDiv wa wb) := de_op op_fdivW ha hb (fun _ _ _ _ _ _ _ _ _ _ g rx ry q => r_fI (fun _ _ _ _ => .int _) g rx ry q) mo_fI
theorem de_lt (ha : DB G X a wa) (hb : DB G X b wb) : DE G X (.Compare a [.Lt] [b] pos) (wLt wa wb) := de_cmp op_lt ha hb (fun _ _ _ _ _ _ _ _ _ _ g rx ry q => r_fI0 (fun _ _ _ _ => .bl _) g rx ry q) mo_fI (nomark b)
theorem de_le (ha : DB G X a wa) (hb : DB G X b wb) : DE G X (.Compare a [.LtE] [b] pos) (wLe wa wb) := de_cmp op_le ha hb (fun _ _ _ _ _ _ _ _ _ _ g rx ry q => r_fI0 (fun _ _ _ _ => .bl _) g rx ry q) mo_fI (nomark b)
theorem de_gt (ha : DB G X a wa) (hb : DB G X b wb) : DE G X (.Compare a [.Gt] [b] pos) (wGt wa wb) := de_cmp op_gt ha hb (fun _ _ _ _ _ _ _ _ _ _ g rx ry q => r_fI0 (fun _ _ _ _ => .bl _) g rx ry q) mo_fI (nomark b)
theorem de_ge (ha : DB G X a wa) (hb : DB G X b wb) : DE G X (.Compare a [.GtE] [b] pos) (wGe wa wb) := de_cmp op_ge ha hb (fun _ _ _ _ _ _ _ _ _ _ g rx ry q => r_fI0 (fun _ _ _ _ => .bl _) g rx ry q) mo_fI (nomark b)
end

/-! ### == of any data -/
theorem rb_dp {dl : Dl2} {B : Addr → Prop} {H : Hp} {v : V} {d : PyData} (K : PySem.W.Frag) (hh : d.hasDict = false) (h : RpB dl B H v d) : Dp K H v d := by
  rcases h with h | ⟨a, xs, ds, rfl, rfl, _, _, h, l⟩
  · exact h.dp K _ _ hh
  · exact .lst (.of h) (RpL.dp K ds xs (by simpa only [PyData.hasDict] using hh) l)
theorem noD {d : PyData} (h : SeqAt.shaped d = true) : d.hasDict = false := PyData.hasDict_of_canLay _ (SeqAt.canLay_of_shaped h)
def fEq : W2 := fun x y Q => SeqAt.shaped x = true ∧ SeqAt.shaped y = true ∧ Q (.bool (PyData.eqv x y))
def fNe : W2 := fun x y Q => SeqAt.shaped x = true ∧ SeqAt.shaped y = true ∧ Q (.bool (!PyData.eqv x y))
section
variable {G : Ga} {X : Cx} {a b : Expr} {wa wb : WE} {pos : Pos} {k : Nat}
theorem de_eq (hr : Room k X.A) (ha : DB G X a wa) (hb : DB G X b wb) : DE G X (.Compare a [.Eq] [b] pos) (d2 fEq wa wb) :=
  de_cmp (op_eqD (by have := hr.un; omega)) ha hb (fun _ _ _ _ H x y d e Q g rx ry q => ⟨d, e, rb_dp X.K (noD q.1) rx, rb_dp X.K (noD q.2.1) ry, q.1, q.2.1, q.2.2 _ H .refl g.deal (.bl _)⟩) (fun _ _ _ _ m ⟨h1, h2, q⟩ => ⟨h1, h2, m _ q⟩) (nomark b)
theorem de_ne (hr : Room k X.A) (ha : DB G X a wa) (hb : DB G X b wb) : DE G X (.Compare a [.NotEq] [b] pos) (d2 fNe wa wb) :=
  de_cmp (op_neD (by have := hr.un; omega)) ha hb (fun _ _ _ _ H x y d e Q g rx ry q => ⟨d, e, rb_dp X.K (noD q.1) rx, rb_dp X.K (noD q.2.1) ry, q.1, q.2.1, q.2.2 _ H .refl g.deal (.bl _)⟩) (fun _ _ _ _ m ⟨h1, h2, q⟩ => ⟨h1, h2, m _ q⟩) (nomark b)
end
end Dl
/-! The data layer, part 2: tests, arguments, displays, items, slices, built-ins. -/
namespace Dl
open PySem PySem.Spec PyProof.Rows L2

/-! ### tests -/
abbrev WT := En → (Bool → Prop) → Prop
def lt' (G : Ga) (w : WT) : TT := fun σ H Q => ∃ F B ρ, Go G F B H σ ρ ∧ w ρ fun b => ∀ H', G.kp H H' → G.ok B H' → Q b H'
def MoT (w : WT) : Prop := ∀ ρ (Q Q' : Bool → Prop), (∀ d, Q d → Q' d) → w ρ Q → w ρ Q'
structure DT (G : Ga) (X : Cx) (e : Expr) (w : WT) : Prop where
  pt : PT X e (lt' G w)
  mo : MoT w
theorem pt_imp {X : Cx} {e : Expr} {t t' : TT} (h : PT X e t) (i : ∀ σ H Q, t' σ H Q → t σ H Q) : PT X e t' := ⟨fun pins s σ H Q I q => h.run pins s σ H Q I (i σ H Q q)⟩
theorem pw_imp {X : Cx} {e : Expr} {t t' : TT} (h : PW X e t) (i : ∀ σ H Q, t' σ H Q → t σ H Q) : PW X e t' := ⟨fun wh pins s σ H Q I q => h.run wh pins s σ H Q I (i σ H Q q)⟩
/-- a bool's value as a test -/
def tb (w : WE) : WT := fun ρ Q => w ρ fun d => ∃ b, d = .bool b ∧ Q b
theorem mo_tb {w : WE} (h : Mo w) : MoT (tb w) := fun _ _ _ m q => h _ _ _ (fun d ⟨b, e, q⟩ => ⟨b, e, m _ q⟩) q
theorem rp_bl {B : Addr → Prop} {H : Hp} {v : V} {i : Bool} (h : Rp B H v (.bool i)) : v = .bl i := by cases h; rfl
theorem rp_int {B : Addr → Prop} {H : Hp} {v : V} {i : Int} (h : Rp B H v (.int i)) : v = .int i := by cases h; rfl
theorem rp_str {B : Addr → Prop} {H : Hp} {v : V} {i : Str} (h : Rp B H v (.str i)) : v = .str i := by cases h; rfl
section
variable {G : Ga} {X : Cx} {a b e : Expr} {wa wb w : WE} {pos : Pos}
theorem tb_lift (h : Mo w) : ∀ σ H Q, lt' G (tb w) σ H Q → lf G w σ H fun x H' => ∃ k, x = .bl k ∧ Q k H' := fun σ H Q ⟨F, B, ρ, g, q⟩ =>
  ⟨F, B, ρ, g, h _ _ _ (fun d ⟨k, e, q⟩ v H' k1 o1 r => by subst e; exact ⟨k, rp_bl r, q H' k1 o1⟩) q⟩
theorem dt_cmp {op : CmpOp} {r : R2} {f : W2} (ho : OpR X (compareOp op) r) (ha : DB G X a wa) (hb : DB G X b wb)
    (hr : ∀ F B σ ρ H x y d e (Q : VK), Go G F B H σ ρ → RpB G.dl B H x d → RpB G.dl B H y e → (f d e fun z => ∀ v H', G.kp H H' → G.ok B H' → Rp B H' v z → Q v H') → r x y H Q) (hf : Mo2 f) (hm : behindInMarks op b = false) :
    DT G X (.Compare a [op] [b] pos) (tb (d2 f wa wb)) := ⟨pt_imp (pt_cmpR ho ha.pe hb.pe hm) fun σ H Q q => two_b ha hb hr hf σ H _ (tb_lift (mo_d2 hf ha.mo hb.mo) σ H Q q), mo_tb (mo_d2 hf ha.mo hb.mo)⟩
theorem dt_val (h : DE G X e w) (he : ∀ whole, isTrue e X.env whole = (do let v ← whole; standAt e.pos; holding [v] (truthy v)) := by intro _; rfl) : DT G X e (tb w) :=
  ⟨pt_imp (pt_val h.pe he) fun σ H Q q => tb_lift h.mo σ H Q q, mo_tb h.mo⟩
theorem dt_lt (ha : DB G X a wa) (hb : DB G X b wb) : DT G X (.Compare a [.Lt] [b] pos) (tb (wLt wa wb)) := dt_cmp op_lt ha hb (fun _ _ _ _ _ _ _ _ _ _ g rx ry q => r_fI0 (fun _ _ _ _ => .bl _) g rx ry q) mo_fI (nomark b)
theorem dt_le (ha : DB G X a wa) (hb : DB G X b wb) : DT G X (.Compare a [.LtE] [b] pos) (tb (wLe wa wb)) := dt_cmp op_le ha hb (fun _ _ _ _ _ _ _ _ _ _ g rx ry q => r_fI0 (fun _ _ _ _ => .bl _) g rx ry q) mo_fI (nomark b)
theorem dt_gt (ha : DB G X a wa) (hb : DB G X b wb) : DT G X (.Compare a [.Gt] [b] pos) (tb (wGt wa wb)) := dt_cmp op_gt ha hb (fun _ _ _ _ _ _ _ _ _ _ g rx ry q => r_fI0 (fun _ _ _ _ => .bl _) g rx ry q) mo_fI (nomark b)
theorem dt_ge (ha : DB G X a wa) (hb : DB G X b wb) : DT G X (.Compare a [.GtE] [b] pos) (tb (wGe wa wb)) := dt_cmp op_ge ha hb (fun _ _ _ _ _ _ _ _ _ _ g rx ry q => r_fI0 (fun _ _ _ _ => .bl _) g rx ry q) mo_fI (nomark b)
theorem dt_eq {k : Nat} (hr : Room k X.A) (ha : DB G X a wa) (hb : DB G X b wb) : DT G X (.Compare a [.Eq] [b] pos) (tb (d2 fEq wa wb)) :=
  dt_cmp (op_eqD (by have := hr.un; omega)) ha hb (fun _ _ _ _ H x y d e Q g rx ry q => ⟨d, e, rb_dp X.K (noD q.1) rx, rb_dp X.K (noD q.2.1) ry, q.1, q.2.1, q.2.2 _ H .refl g.deal (.bl _)⟩) (fun _ _ _ _ m ⟨h1, h2, q⟩ => ⟨h1, h2, m _ q⟩) (nomark b)
theorem dt_ne {k : Nat} (hr : Room k X.A) (ha : DB G X a wa) (hb : DB G X b wb) : DT G X (.Compare a [.NotEq] [b] pos) (tb (d2 fNe wa wb)) :=
  dt_cmp (op_neD (by have := hr.un; omega)) ha hb (fun _ _ _ _ H x y d e Q g rx ry q => ⟨d, e, rb_dp X.K (noD q.1) rx, rb_dp X.K (noD q.2.1) ry, q.1, q.2.1, q.2.2 _ H .refl g.deal (.bl _)⟩) (fun _ _ _ _ m ⟨h1, h2, q⟩ => ⟨h1, h2, m _ q⟩) (nomark b)
/-! and, or, not -/
variable {ta tb' : WT} {rest : List Expr}
def dAnd (t u : WT) : WT := fun ρ Q => t ρ fun c => if c = true then u ρ Q else Q false
def dOr (t u : WT) : WT := fun ρ Q => t ρ fun c => if c = true then Q true else u ρ Q
def dNot (t : WT) : WT := fun ρ Q => t ρ fun c => Q (!c)
structure DW (G : Ga) (X : Cx) (e : Expr) (w : WT) : Prop where
  pw : PW X e (lt' G w)
  mo : MoT w
theorem DW.dt {t : WT} (h : DW G X e t) : DT G X e t := ⟨h.pw.pt, h.mo⟩
theorem dw_and1 (ha : DT G X a ta) : DW G X (.BoolOp .And [a] pos) ta := ⟨pw_and1 ha.pt, ha.mo⟩
theorem dw_or1 (ha : DT G X a ta) : DW G X (.BoolOp .Or [a] pos) ta := ⟨pw_or1 ha.pt, ha.mo⟩
theorem dw_and (ha : DT G X a ta) (hb : DW G X (.BoolOp .And (b :: rest) pos) tb') : DW G X (.BoolOp .And (a :: b :: rest) pos) (dAnd ta tb') :=
  ⟨pw_imp (pw_and ha.pt hb.pw) fun σ H Q ⟨F, B, ρ, g, q⟩ => ⟨F, B, ρ, g, ha.mo _ _ _ (fun c q H' k o => by
    cases c with
    | true => exact ⟨F, B, ρ, g.step k o, hb.mo _ _ _ (fun d q H2 k2 o2 => q H2 (k.trans k2) o2) q⟩
    | false => exact q H' k o) q⟩, fun ρ Q Q' m h => ha.mo _ _ _ (fun c q => by
    cases c with
    | true => exact hb.mo _ _ _ m q
    | false => exact m _ q) h⟩
theorem dw_or (ha : DT G X a ta) (hb : DW G X (.BoolOp .Or (b :: rest) pos) tb') : DW G X (.BoolOp .Or (a :: b :: rest) pos) (dOr ta tb') :=
  ⟨pw_imp (pw_or ha.pt hb.pw) fun σ H Q ⟨F, B, ρ, g, q⟩ => ⟨F, B, ρ, g, ha.mo _ _ _ (fun c q H' k o => by
    cases c with
    | false => exact ⟨F, B, ρ, g.step k o, hb.mo _ _ _ (fun d q H2 k2 o2 => q H2 (k.trans k2) o2) q⟩
    | true => exact q H' k o) q⟩, fun ρ Q Q' m h => ha.mo _ _ _ (fun c q => by
    cases c with
    | false => exact hb.mo _ _ _ m q
    | true => exact m _ q) h⟩
theorem dt_not (ha : DT G X a ta) : DT G X (.UnaryOp .Not a pos) (dNot ta) := ⟨pt_imp (pt_not ha.pt) fun σ H Q ⟨F, B, ρ, g, q⟩ => ⟨F, B, ρ, g, q⟩, fun ρ Q Q' m h => ha.mo _ _ _ (fun c q => m _ q) h⟩
/-- .. as values (bools) -/
def dAndV (wa wb : WE) : WE := fun ρ Q => wa ρ fun x => ∃ c, x = .bool c ∧ if c = true then wb ρ Q else Q (.bool false)
def dOrV (wa wb : WE) : WE := fun ρ Q => wa ρ fun x => ∃ c, x = .bool c ∧ if c = true then Q (.bool true) else wb ρ Q
def dNotV (wa : WE) : WE := fun ρ Q => wa ρ fun x => ∃ c, x = .bool c ∧ Q (.bool (!c))
theorem mo_andV (ha : Mo wa) (hb : Mo wb) : Mo (dAndV wa wb) := fun ρ Q Q' m h => ha _ _ _ (fun x ⟨c, e, q⟩ => ⟨c, e, by
  cases c with
  | true => exact hb _ _ _ m q
  | false => exact m _ q⟩) h
theorem mo_orV (ha : Mo wa) (hb : Mo wb) : Mo (dOrV wa wb) := fun ρ Q Q' m h => ha _ _ _ (fun x ⟨c, e, q⟩ => ⟨c, e, by
  cases c with
  | false => exact hb _ _ _ m q
  | true => exact m _ q⟩) h
theorem de_one {op} (h : DE G X a w) : DE G X (.BoolOp op [a] pos) w := ⟨pe_one h.pe, h.mo⟩
theorem de_and (ha : DE G X a wa) (hb : DE G X (.BoolOp .And (b :: rest) pos) wb) : DE G X (.BoolOp .And (a :: b :: rest) pos) (dAndV wa wb) :=
  ⟨pe_imp (pe_and ha.pe hb.pe) fun σ H Q ⟨F, B, ρ, g, q⟩ => ⟨F, B, ρ, g, ha.mo _ _ _ (fun x ⟨c, e, q⟩ v H' k o r => by
    subst e
    refine ⟨c, rp_bl r, ?_⟩
    cases c with
    | true => exact ⟨F, B, ρ, g.step k o, hb.mo _ _ _ (fun d q v2 H2 k2 o2 r2 => q v2 H2 (k.trans k2) o2 r2) q⟩
    | false => exact q _ H' k o (.bl _)) q⟩, mo_andV ha.mo hb.mo⟩
theorem de_or (ha : DE G X a wa) (hb : DE G X (.BoolOp .Or (b :: rest) pos) wb) : DE G X (.BoolOp .Or (a :: b :: rest) pos) (dOrV wa wb) :=
  ⟨pe_imp (pe_or ha.pe hb.pe) fun σ H Q ⟨F, B, ρ, g, q⟩ => ⟨F, B, ρ, g, ha.mo _ _ _ (fun x ⟨c, e, q⟩ v H' k o r => by
    subst e
    refine ⟨c, rp_bl r, ?_⟩
    cases c with
    | false => exact ⟨F, B, ρ, g.step k o, hb.mo _ _ _ (fun d q v2 H2 k2 o2 r2 => q v2 H2 (k.trans k2) o2 r2) q⟩
    | true => exact q _ H' k o (.bl _)) q⟩, mo_orV ha.mo hb.mo⟩
theorem de_not (ha : DE G X a wa) : DE G X (.UnaryOp .Not a pos) (dNotV wa) :=
  ⟨pe_imp (pe_not ha.pe) fun σ H Q ⟨F, B, ρ, g, q⟩ => ⟨F, B, ρ, g, ha.mo _ _ _ (fun x ⟨c, e, q⟩ v H' k o r => by
    subst e
    exact ⟨c, rp_bl r, q _ H' k o (.bl _)⟩) q⟩, fun ρ Q Q' m h => ha.mo _ _ _ (fun x ⟨c, e, q⟩ => ⟨c, e, m _ q⟩) h⟩
/-- a if t else b -/
def dIf (t : WT) (wa wb : WE) : WE := fun ρ Q => t ρ fun c => if c = true then wa ρ Q else wb ρ Q
theorem de_if {c : Expr} (hc : DT G X c ta) (ha : DE G X a wa) (hb : DE G X b wb) : DE G X (.IfExp c a b pos) (dIf ta wa wb) :=
  ⟨pe_imp (pe_ifExp hc.pt ha.pe hb.pe) fun σ H Q ⟨F, B, ρ, g, q⟩ => ⟨F, B, ρ, g, hc.mo _ _ _ (fun c q H' k o => by
    cases c with
    | true => exact ⟨F, B, ρ, g.step k o, ha.mo _ _ _ (fun d q v2 H2 k2 o2 r2 => q v2 H2 (k.trans k2) o2 r2) q⟩
    | false => exact ⟨F, B, ρ, g.step k o, hb.mo _ _ _ (fun d q v2 H2 k2 o2 r2 => q v2 H2 (k.trans k2) o2 r2) q⟩) q⟩, fun ρ Q Q' m h => hc.mo _ _ _ (fun c q => by
    cases c with
    | true => exact ha.mo _ _ _ m q
    | false => exact hb.mo _ _ _ m q) h⟩
/-- - a -/
def dNeg (wa : WE) : WE := fun ρ Q => wa ρ fun x => ∃ i, x = .int i ∧ Q (.int (-i))
theorem de_neg (ha : DE G X a wa) : DE G X (.UnaryOp .USub a pos) (dNeg wa) :=
  ⟨pe_imp (pe_un un_neg ha.pe) fun σ H Q ⟨F, B, ρ, g, q⟩ => ⟨F, B, ρ, g, ha.mo _ _ _ (fun x ⟨c, e, q⟩ v H' k o r => by
    subst e
    exact ⟨c, rp_int r, q _ H' k o (.int _)⟩) q⟩, fun ρ Q Q' m h => ha.mo _ _ _ (fun x ⟨c, e, q⟩ => ⟨c, e, m _ q⟩) h⟩
end

/-! ### argument lists: values; borrowed; with the deal -/
abbrev WA := En → (List PyData → Prop) → Prop
def MoA (w : WA) : Prop := ∀ ρ (Q Q' : List PyData → Prop), (∀ d, Q d → Q' d) → w ρ Q → w ρ Q'
def la (G : Ga) (w : WA) : TA := fun σ H Q => ∃ F B ρ, Go G F B H σ ρ ∧ w ρ fun ds => ∀ vs H', G.kp H H' → G.ok B H' → RpL B H' vs ds → Q vs H'
inductive RpBL (dl : Dl2) (B : Addr → Prop) (H : Hp) : List V → List PyData → Prop
  | nil : RpBL dl B H [] []
  | cons {v : V} {vs : List V} {d : PyData} {ds : List PyData} : RpB dl B H v d → RpBL dl B H vs ds → RpBL dl B H (v :: vs) (d :: ds)
def lab (G : Ga) (w : WA) : TA := fun σ H Q => ∃ F B ρ, Go G F B H σ ρ ∧ w ρ fun ds => ∀ vs H', G.kp H H' → G.ok B H' → RpBL G.dl B H' vs ds → Q vs H'
structure DA (G : Ga) (X : Cx) (es : List Expr) (w : WA) : Prop where
  pa : PA X es (la G w)
  mo : MoA w
structure DAb (G : Ga) (X : Cx) (es : List Expr) (w : WA) : Prop where
  pa : PA X es (lab G w)
  mo : MoA w
theorem pa_imp {X : Cx} {es : List Expr} {t t' : TA} (h : PA X es t) (i : ∀ σ H Q, t' σ H Q → t σ H Q) : PA X es t' := ⟨fun pos pins s σ H Q I q => h.run pos pins s σ H Q I (i σ H Q q)⟩
def aNil : WA := fun _ Q => Q []
def aCons (w : WE) (ws : WA) : WA := fun ρ Q => w ρ fun d => ws ρ fun ds => Q (d :: ds)
theorem mo_aCons {w : WE} {ws : WA} (h : Mo w) (hs : MoA ws) : MoA (aCons w ws) := fun ρ Q Q' m q => h _ _ _ (fun d q => hs _ _ _ (fun ds q => m _ q) q) q
section
variable {G : Ga} {X : Cx} {e : Expr} {es : List Expr} {w : WE} {ws : WA} {pos : Pos}
theorem da_nil : DA G X [] aNil := ⟨pa_imp pa_nil fun σ H Q ⟨F, B, ρ, g, q⟩ => q [] H .refl g.deal .nil, fun _ _ _ m q => m _ q⟩
theorem dab_nil : DAb G X [] aNil := ⟨pa_imp pa_nil fun σ H Q ⟨F, B, ρ, g, q⟩ => q [] H .refl g.deal .nil, fun _ _ _ m q => m _ q⟩
theorem da_cons (h : DE G X e w) (hr : DA G X es ws) (hs : starEach (e :: es) X.env = (false, eval e X.env) :: starEach es X.env := by rfl) : DA G X (e :: es) (aCons w ws) :=
  ⟨pa_imp (pa_cons h.pe hr.pa hs) fun σ H Q ⟨F, B, ρ, g, q⟩ => ⟨F, B, ρ, g, h.mo _ _ _ (fun d q v H' k o r => ⟨F, B, ρ, g.step k o, hr.mo _ _ _ (fun ds q vs H2 k2 o2 l => q _ H2 (k.trans k2) o2 (.cons (r.step (g.step k o) k2) l)) q⟩) q⟩, mo_aCons h.mo hr.mo⟩
theorem dab_cons (h : DB G X e w) (hr : DAb G X es ws) (hs : starEach (e :: es) X.env = (false, eval e X.env) :: starEach es X.env := by rfl) : DAb G X (e :: es) (aCons w ws) :=
  ⟨pa_imp (pa_cons h.pe hr.pa hs) fun σ H Q ⟨F, B, ρ, g, q⟩ => ⟨F, B, ρ, g, h.mo _ _ _ (fun d q v H' k o r => ⟨F, B, ρ, g.step k o, hr.mo _ _ _ (fun ds q vs H2 k2 o2 l => q _ H2 (k.trans k2) o2 (.cons (r.step (g.step k o) k2) l)) q⟩) q⟩, mo_aCons h.mo hr.mo⟩
/-! displays -/
def dTup (ws : WA) : WE := fun ρ Q => ws ρ fun ds => ds.length ≤ sizeLine ∧ Q (.tuple ds)
def dLst (ws : WA) : WE := fun ρ Q => ws ρ fun ds => ds.length ≤ sizeLine ∧ Q (.list ds)
theorem nb_step {G : Ga} {F : Hp} {B : Addr → Prop} {H H' : Hp} {σ : L2.St} {ρ : En} (g : Go G F B H σ ρ) (k : G.kp H H') (o : G.ok B H') {p : Addr} (h : H' p = none) : ¬ B p := (g.step k o).nb h
theorem de_tup {k} (h : DA G X es ws) : DE G X (.Tuple es k pos) (dTup ws) :=
  ⟨pe_imp (pe_tup h.pa) fun σ H Q ⟨F, B, ρ, g, q⟩ => ⟨F, B, ρ, g, h.mo _ _ _ (fun ds ⟨z, q⟩ vs H' k o l => ⟨by rw [l.len]; exact z, fun p np =>
    q _ _ (k.trans (Kp.new np)) (ok_new o np) (.tup (nb_step g k o np) upd_same (l.mv (fun _ z => z) fun a u n e => by rw [upd_ne (ne_of_none e np)]; exact e))⟩) q⟩,
   fun _ _ _ m q => h.mo _ _ _ (fun ds ⟨z, q⟩ => ⟨z, m _ q⟩) q⟩
theorem df_lst (h : DA G X es ws) : DF G X (.List es pos) (dLst ws) :=
  ⟨pe_imp (pe_lst h.pa) fun σ H Q ⟨F, B, ρ, g, q⟩ => ⟨F, B, ρ, g, h.mo _ _ _ (fun ds ⟨z, q⟩ vs H' k o l => ⟨by rw [l.len]; exact z, fun p np =>
    q p vs ds _ rfl (by
      cases e : H p with
      | none => rfl
      | some u => exact absurd np (kp_dom k o p (by rw [e]; simp))) (k.trans (Kp.new np)) (ok_newb o np) upd_same ((RpL.bar np _ _ l).mv (fun _ z => z) fun a u n e => by rw [upd_ne (ne_of_none e np)]; exact e)⟩) q⟩,
   fun _ _ _ m q => h.mo _ _ _ (fun ds ⟨z, q⟩ => ⟨z, m _ q⟩) q⟩
end

/-! ### items, slices -/
def fIx : W2 := fun x y Q => ∃ ds i d, (x = .list ds ∨ x = .tuple ds) ∧ y = .int i ∧ atI ds i = some d ∧ Q d
theorem mo_fIx : Mo2 fIx := fun _ _ _ _ m ⟨ds, i, d, h1, h2, h3, q⟩ => ⟨ds, i, d, h1, h2, h3, m _ q⟩
theorem ixN_len {α β : Type} {xs : List α} {ys : List β} (h : xs.length = ys.length) (i : Int) : ixN xs.length i = ixN ys.length i := by rw [h]
theorem rp_atI {B : Addr → Prop} {H : Hp} {vs : List V} {ds : List PyData} {i : Int} {d : PyData} (l : RpL B H vs ds) (h : atI ds i = some d) : ∃ v, atI vs i = some v ∧ Rp B H v d := by
  unfold atI at h ⊢
  rw [l.len]
  cases e : ixN ds.length i with
  | none => rw [e] at h; cases h
  | some j =>
    rw [e] at h
    obtain ⟨v, h1, h2⟩ := l.get (i := j) h
    exact ⟨v, h1, h2⟩
/-- a sequence to be read -/
theorem rb_list {dl : Dl2} {B : Addr → Prop} {H : Hp} {v : V} {ds : List PyData} (K : PySem.W.Frag) (h : RpB dl B H v (.list ds)) : ∃ a xs, v = .ref a ∧ SqL K H a xs ∧ RpL B H xs ds := by
  rcases h with h | ⟨a, xs, ds', rfl, e, _, _, h, l⟩
  · cases h with
    | lst n r l => exact ⟨_, _, rfl, .of r, l⟩
  · cases e; exact ⟨_, _, rfl, .of h, l⟩
theorem rb_tup {dl : Dl2} {B : Addr → Prop} {H : Hp} {v : V} {ds : List PyData} (K : PySem.W.Frag) (h : RpB dl B H v (.tuple ds)) : ∃ a xs, v = .ref a ∧ SqT K H a xs ∧ RpL B H xs ds := by
  rcases h with h | ⟨a, xs, ds', rfl, e, _, _, h, l⟩
  · cases h with
    | tup n r l => exact ⟨_, _, rfl, .of r, l⟩
  · cases e
section
variable {G : Ga} {X : Cx} {a b : Expr} {wa wb : WE} {pos : Pos}
theorem de_ix (ha : DB G X a wa) (hb : DB G X b wb) (hs : PlainIx b := by intro _ _; rfl) : DE G X (.Subscript a b pos) (d2 fIx wa wb) :=
  ⟨pe_imp (pe_ix ix_seq ha.pe hb.pe hs) (two_b ha hb (fun F B σ ρ H x y d e Q g rx ry q => by
    obtain ⟨ds, i, z, hd, rfl, hz, q⟩ := q
    rcases hd with rfl | rfl
    · obtain ⟨p, xs, rfl, h, l⟩ := rb_list X.K rx
      obtain ⟨v, hv, rv⟩ := rp_atI l hz
      exact .inl ⟨p, xs, i, v, rfl, rb_int ry, h, hv, q v H .refl g.deal rv⟩
    · obtain ⟨p, xs, rfl, h, l⟩ := rb_tup X.K rx
      obtain ⟨v, hv, rv⟩ := rp_atI l hz
      exact .inr (.inl ⟨p, xs, i, v, rfl, rb_int ry, h, hv, q v H .refl g.deal rv⟩)) mo_fIx), mo_d2 mo_fIx ha.mo hb.mo⟩
/-! slices: the ends written expressions or none -/
abbrev WO := En → (Option Int → Prop) → Prop
def MoO (w : WO) : Prop := ∀ ρ (Q Q' : Option Int → Prop), (∀ d, Q d → Q' d) → w ρ Q → w ρ Q'
def lo' (G : Ga) (w : WO) : TO := fun σ H Q => ∃ F B ρ, Go G F B H σ ρ ∧ w ρ fun o => ∀ H', G.kp H H' → G.ok B H' → Q o H'
structure DO (G : Ga) (X : Cx) (e : Option Expr) (w : WO) : Prop where
  po : PO X e (lo' G w)
  mo : MoO w
def oNone : WO := fun _ Q => Q none
def oSome (w : WE) : WO := fun ρ Q => w ρ fun d => ∃ i, d = .int i ∧ Q (some i)
theorem po_imp {X : Cx} {e : Option Expr} {t t' : TO} (h : PO X e t) (i : ∀ σ H Q, t' σ H Q → t σ H Q) : PO X e t' := ⟨fun pins s σ H Q I q => h.run pins s σ H Q I (i σ H Q q)⟩
theorem do_none : DO G X none oNone := ⟨po_imp po_none fun σ H Q ⟨F, B, ρ, g, q⟩ => q H .refl g.deal, fun _ _ _ m q => m _ q⟩
theorem do_some (h : DE G X a wa) : DO G X (some a) (oSome wa) := ⟨po_imp (po_some h.pe) fun σ H Q ⟨F, B, ρ, g, q⟩ => ⟨F, B, ρ, g, h.mo _ _ _ (fun d ⟨i, e, q⟩ v H' k o r => by
  subst e
  exact ⟨i, rp_int r, q H' k o⟩) q⟩, fun _ _ _ m q => h.mo _ _ _ (fun d ⟨i, e, q⟩ => ⟨i, e, m _ q⟩) q⟩
def cutD (xs : List PyData) (lo hi : Option Int) : List PyData := (xs.drop (HT.sIx xs.length 0 lo)).take (HT.sIx xs.length xs.length hi - HT.sIx xs.length 0 lo)
theorem rp_cut {B : Addr → Prop} {H : Hp} {vs : List V} {ds : List PyData} (lo hi : Option Int) (l : RpL B H vs ds) : RpL B H (cutV vs lo hi) (cutD ds lo hi) := by
  unfold cutV cutD
  rw [l.len]
  exact RpL.take _ (RpL.drop _ l)
def dSlT (wa : WE) (wl wh : WO) : WE := fun ρ Q => wa ρ fun x => wl ρ fun lo => wh ρ fun hi => ∃ ds, x = .tuple ds ∧ Q (.tuple (cutD ds lo hi))
def dSlL (wa : WE) (wl wh : WO) : WE := fun ρ Q => wa ρ fun x => wl ρ fun lo => wh ρ fun hi => ∃ ds, x = .list ds ∧ Q (.list (cutD ds lo hi))
end
end Dl
/-! The data layer, part 3: slices, sums of sequences, built-ins. -/
namespace Dl
open PySem PySem.Spec PyProof.Rows L2

theorem cutD_whole {xs : List PyData} {lo hi : Option Int} (h : HT.sIx xs.length 0 lo = 0 ∧ HT.sIx xs.length xs.length hi = xs.length) : cutD xs lo hi = xs := by
  unfold cutD
  rw [h.1, h.2]
  simp
theorem fresh_back {G : Ga} {H H' : Hp} (k : G.kp H H') (o : G.ok B H') {p : Addr} (np : H' p = none) : H p = none := by
  cases e : H p with
  | none => rfl
  | some u => exact absurd np (kp_dom k o p (by rw [e]; simp))
theorem upd_keep {B : Addr → Prop} {H : Hp} {p : Addr} {o : HO} (np : H p = none) : ∀ a u, ¬ B a → H a = some u → upd H p o a = some u := fun a u _ e => by rw [upd_ne (ne_of_none e np)]; exact e
section
variable {G : Ga} {X : Cx} {a b : Expr} {wa wb : WE} {wl wh : WO} {lo hi : Option Expr} {pos p2 : Pos}
theorem mo_slT (ha : Mo wa) (hl : MoO wl) (hh : MoO wh) : Mo (dSlT wa wl wh) := fun ρ Q Q' m q => ha _ _ _ (fun x q => hl _ _ _ (fun l q => hh _ _ _ (fun u ⟨ds, e, q⟩ => ⟨ds, e, m _ q⟩) q) q) q
theorem mo_slL (ha : Mo wa) (hl : MoO wl) (hh : MoO wh) : Mo (dSlL wa wl wh) := fun ρ Q Q' m q => ha _ _ _ (fun x q => hl _ _ _ (fun l q => hh _ _ _ (fun u ⟨ds, e, q⟩ => ⟨ds, e, m _ q⟩) q) q) q
theorem de_slT (ha : DB G X a wa) (hl : DO G X lo wl) (hh : DO G X hi wh) : DE G X (.Subscript a (.Slice lo hi none p2) pos) (dSlT wa wl wh) :=
  ⟨pe_imp (pe_slice sl_tupA ha.pe hl.po hh.po) fun σ H Q ⟨F, B, ρ, g, q⟩ => ⟨F, B, ρ, g, ha.mo _ _ _ (fun d q v H1 k1 o1 r1 => ⟨F, B, ρ, g.step k1 o1, hl.mo _ _ _ (fun l q H2 k2 o2 => ⟨F, B, ρ, (g.step k1 o1).step k2 o2, hh.mo _ _ _ (fun u q H3 k3 o3 => by
    obtain ⟨ds, ed, q4⟩ := q
    subst ed
    have g3 := ((g.step k1 o1).step k2 o2).step k3 o3
    have r3 : RpB G.dl B H3 v (.tuple ds) := (r1.step (g.step k1 o1) k2).step ((g.step k1 o1).step k2 o2) k3
    obtain ⟨p, xs, rfl, h, l3⟩ := rb_tup G.K r3
    rcases r3 with r3 | ⟨_, _, _, _, e, _⟩
    · cases r3 with
      | @tup _ ys _ n e l4 =>
        refine ⟨p, ys, rfl, .of e, fun hw => ?_, fun hw pp np => ?_⟩
        · refine q4 _ _ (k1.trans (k2.trans k3)) o3 ?_
          rw [l4.len] at hw
          rw [cutD_whole hw]
          exact .tup n e l4
        · exact q4 _ _ ((k1.trans (k2.trans k3)).trans (Kp.new np)) (ok_new o3 np) (.tup (g3.nb np) upd_same ((rp_cut l u l4).mv (fun _ z => z) (upd_keep np)))
    · cases e) q⟩) q⟩) q⟩, mo_slT ha.mo hl.mo hh.mo⟩
theorem df_slL (ha : DB G X a wa) (hl : DO G X lo wl) (hh : DO G X hi wh) : DF G X (.Subscript a (.Slice lo hi none p2) pos) (dSlL wa wl wh) :=
  ⟨pe_imp (pe_slice sl_list ha.pe hl.po hh.po) fun σ H Q ⟨F, B, ρ, g, q⟩ => ⟨F, B, ρ, g, ha.mo _ _ _ (fun d q v H1 k1 o1 r1 => ⟨F, B, ρ, g.step k1 o1, hl.mo _ _ _ (fun l q H2 k2 o2 => ⟨F, B, ρ, (g.step k1 o1).step k2 o2, hh.mo _ _ _ (fun u q H3 k3 o3 => by
    obtain ⟨ds, ed, q4⟩ := q
    subst ed
    have g3 := ((g.step k1 o1).step k2 o2).step k3 o3
    have r3 : RpB G.dl B H3 v (.list ds) := (r1.step (g.step k1 o1) k2).step ((g.step k1 o1).step k2 o2) k3
    obtain ⟨p, xs, rfl, h, l3⟩ := rb_list X.K r3
    exact ⟨p, xs, rfl, h, fun pp np => q4 pp _ _ _ rfl (fresh_back (k1.trans (k2.trans k3)) o3 np) ((k1.trans (k2.trans k3)).trans (Kp.new np)) (ok_newb o3 np) upd_same ((RpL.bar np _ _ (rp_cut l u l3)).mv (fun _ z => z) (upd_keep np))⟩) q⟩) q⟩) q⟩, mo_slL ha.mo hl.mo hh.mo⟩
/-! two sequences put together, a sequence so many times -/
def fCatT : W2 := fun x y Q => ∃ ds es, x = .tuple ds ∧ y = .tuple es ∧ ds.length + es.length ≤ sizeLine ∧ Q (.tuple (ds ++ es))
theorem mo_fCatT : Mo2 fCatT := fun _ _ _ _ m ⟨ds, es, h1, h2, h3, q⟩ => ⟨ds, es, h1, h2, h3, m _ q⟩
theorem rb_tup' {dl : Dl2} {B : Addr → Prop} {H : Hp} {v : V} {ds : List PyData} (h : RpB dl B H v (.tuple ds)) : ∃ a xs, v = .ref a ∧ ¬ B a ∧ H a = some (.tup xs) ∧ RpL B H xs ds := by
  rcases h with h | ⟨a, xs, ds', rfl, e, _, _, h, l⟩
  · cases h with
    | tup n r l => exact ⟨_, _, rfl, n, r, l⟩
  · cases e
theorem de_catT (ha : DB G X a wa) (hb : DB G X b wb) : DE G X (.BinOp a .Add b pos) (d2 fCatT wa wb) :=
  de_op op_catA ha hb (fun F B σ ρ H x y d e Q g rx ry q => by
    obtain ⟨ds, es, rfl, rfl, hz, q⟩ := q
    obtain ⟨p, xs, rfl, n1, h1, l1⟩ := rb_tup' rx
    obtain ⟨p2, ys, rfl, n2, h2, l2⟩ := rb_tup' ry
    refine ⟨p, p2, xs, ys, rfl, rfl, .of h1, .of h2, by rw [l1.len, l2.len]; exact hz, fun e => ?_, fun e1 e => ?_, fun e1 e pp np => ?_⟩
    · subst e; cases l1; exact q _ _ .refl g.deal (.tup n2 h2 l2)
    · subst e; cases l2; rw [List.append_nil] at q; exact q _ _ .refl g.deal (.tup n1 h1 l1)
    · exact q _ _ (Kp.new np) (ok_new g.deal np) (.tup (g.nb np) upd_same ((l1.app l2).mv (fun _ z => z) (upd_keep np)))) mo_fCatT
/-- a new list from two operands -/
theorem df_op {op : Operator} {r : R2} {f : W2} (ho : OpR X (binaryOp op) r) (ha : DB G X a wa) (hb : DB G X b wb)
    (hr : ∀ F B σ ρ H x y d e (Q : VK), Go G F B H σ ρ → RpB G.dl B H x d → RpB G.dl B H y e → (f d e fun z => ∀ p xs ds H', z = .list ds → H p = none → G.kp H H' → G.ok (fun a => B a ∨ a = p) H' → H' p = some (.lst xs) → RpL (fun a => B a ∨ a = p) H' xs ds → Q (.ref p) H') → r x y H Q) (hf : Mo2 f) :
    DF G X (.BinOp a op b pos) (d2 f wa wb) := ⟨pe_imp (pe_op ho ha.pe hb.pe) fun σ H Q ⟨F, B, ρ, g, q⟩ =>
  ⟨F, B, ρ, g, ha.mo _ _ _ (fun d q v H1 k1 o1 r1 => ⟨F, B, ρ, g.step k1 o1, hb.mo _ _ _ (fun e q v2 H2 k2 o2 r2 =>
    hr F B σ ρ H2 v v2 d e Q ((g.step k1 o1).step k2 o2) (r1.step (g.step k1 o1) k2) r2
      (hf _ _ _ _ (fun z k p xs ds H' e n k' o' c l => k p xs ds H' e (fresh_back (k1.trans k2) o2 n) (k1.trans (k2.trans k')) o' c l) q)) q⟩) q⟩, mo_d2 hf ha.mo hb.mo⟩
def fCatL : W2 := fun x y Q => ∃ ds es, x = .list ds ∧ y = .list es ∧ ds.length + es.length ≤ sizeLine ∧ Q (.list (ds ++ es))
theorem rb_list' {dl : Dl2} {B : Addr → Prop} {H : Hp} {v : V} {ds : List PyData} (h : RpB dl B H v (.list ds)) : ∃ a xs, v = .ref a ∧ H a = some (.lst xs) ∧ RpL B H xs ds := by
  rcases h with h | ⟨a, xs, ds', rfl, e, _, _, h, l⟩
  · cases h with
    | lst n r l => exact ⟨_, _, rfl, r, l⟩
  · cases e; exact ⟨_, _, rfl, h, l⟩
theorem df_catL (ha : DB G X a wa) (hb : DB G X b wb) : DF G X (.BinOp a .Add b pos) (d2 fCatL wa wb) :=
  df_op op_cat ha hb (fun F B σ ρ H x y d e Q g rx ry q => by
    obtain ⟨ds, es, rfl, rfl, hz, q⟩ := q
    obtain ⟨p, xs, rfl, h1, l1⟩ := rb_list' rx
    obtain ⟨p2, ys, rfl, h2, l2⟩ := rb_list' ry
    exact ⟨p, p2, xs, ys, rfl, rfl, h1, h2, by rw [l1.len, l2.len]; exact hz, fun pp np => q pp _ _ _ rfl np (Kp.new np) (ok_newb g.deal np) upd_same ((RpL.bar np _ _ (l1.app l2)).mv (fun _ z => z) (upd_keep np))⟩) (fun _ _ _ _ m ⟨ds, es, h1, h2, h3, q⟩ => ⟨ds, es, h1, h2, h3, m _ q⟩)
theorem RpL.rep {B : Addr → Prop} {H : Hp} {vs : List V} {ds : List PyData} (l : RpL B H vs ds) : ∀ k : Nat, RpL B H (List.replicate k vs).flatten (List.replicate k ds).flatten
  | 0 => .nil
  | k + 1 => by rw [List.replicate_succ, List.replicate_succ, List.flatten_cons, List.flatten_cons]; exact l.app (RpL.rep l k)
def fRepL : W2 := fun x y Q => ∃ ds k, x = .list ds ∧ y = .int k ∧ (-(2 ^ 63) ≤ k ∧ k < 2 ^ 63 ∧ ds.length * k.toNat ≤ sizeLine) ∧ Q (.list (List.replicate k.toNat ds).flatten)
theorem df_repL (ha : DB G X a wa) (hb : DB G X b wb) : DF G X (.BinOp a .Mult b pos) (d2 fRepL wa wb) :=
  df_op op_rep ha hb (fun F B σ ρ H x y d e Q g rx ry q => by
    obtain ⟨ds, k, rfl, rfl, ⟨h1, h2, hz⟩, q⟩ := q
    obtain ⟨p, xs, rfl, h, l⟩ := rb_list' rx
    exact ⟨p, k, xs, rfl, rb_int ry, h, h1, h2, by rw [l.len]; exact hz, fun pp np => q pp _ _ _ rfl np (Kp.new np) (ok_newb g.deal np) upd_same ((RpL.bar np _ _ (l.rep _)).mv (fun _ z => z) (upd_keep np))⟩) (fun _ _ _ _ m ⟨ds, es, h1, h2, h3, q⟩ => ⟨ds, es, h1, h2, h3, m _ q⟩)
end

/-! ### built-ins by name -/
def dA (f : List PyData → (PyData → Prop) → Prop) (ws : WA) : WE := fun ρ Q => ws ρ fun ds => f ds Q
abbrev FA := List PyData → (PyData → Prop) → Prop
def MoF (f : FA) : Prop := ∀ ds (Q Q' : PyData → Prop), (∀ d, Q d → Q' d) → f ds Q → f ds Q'
theorem mo_dA {f : FA} {ws : WA} (hf : MoF f) (hs : MoA ws) : Mo (dA f ws) := fun ρ Q Q' m q => hs _ _ _ (fun ds q => hf _ _ _ m q) q
section
variable {G : Ga} {X : Cx} {x : Str} {id T : String} {e : Expr} {es : List Expr} {ws : WA} {f : FA} {r : List V → Hp → VK → Prop} {p pos : Pos}
theorem cb_e (ha : DAb G X es ws) (hf : MoF f)
    (hr : ∀ F B σ ρ H vs ds (Q : VK), Go G F B H σ ρ → RpBL G.dl B H vs ds → (f ds fun z => ∀ v H', G.kp H H' → G.ok B H' → Rp B H' v z → Q v H') → r vs H Q) : ∀ σ H Q, lf G (dA f ws) σ H Q → tCB r (lab G ws) σ H Q := fun σ H Q ⟨F, B, ρ, g, q⟩ =>
  ⟨F, B, ρ, g, ha.mo _ _ _ (fun ds q vs H1 k1 o1 l => hr F B σ ρ H1 vs ds Q (g.step k1 o1) l (hf _ _ _ (fun z k v H' k' o' r' => k v H' (k1.trans k') o' r') q)) q⟩
theorem cb_f (ha : DAb G X es ws) (hf : MoF f)
    (hr : ∀ F B σ ρ H vs ds (Q : VK), Go G F B H σ ρ → RpBL G.dl B H vs ds → (f ds fun z => ∀ p xs ds H', z = .list ds → H p = none → G.kp H H' → G.ok (fun a => B a ∨ a = p) H' → H' p = some (.lst xs) → RpL (fun a => B a ∨ a = p) H' xs ds → Q (.ref p) H') → r vs H Q) : ∀ σ H Q, lw G (dA f ws) σ H Q → tCB r (lab G ws) σ H Q := fun σ H Q ⟨F, B, ρ, g, q⟩ =>
  ⟨F, B, ρ, g, ha.mo _ _ _ (fun ds q vs H1 k1 o1 l => hr F B σ ρ H1 vs ds Q (g.step k1 o1) l (hf _ _ _ (fun z k p xs ds H' e n k' o' c l => k p xs ds H' e (fresh_back k1 o1 n) (k1.trans k') o' c l) q)) q⟩
theorem de_callB (hc : CallR X (.builtin id) r) (hg : Gl X x) (hm : X.mg x = none) (hv : bootBuiltins x = some (.builtin id)) (ha : DAb G X (e :: es) ws) (hf : MoF f)
    (hr : ∀ F B σ ρ H vs ds (Q : VK), Go G F B H σ ρ → RpBL G.dl B H vs ds → (f ds fun z => ∀ v H', G.kp H H' → G.ok B H' → Rp B H' v z → Q v H') → r vs H Q) (hn : x ≠ "__name__" := by decide) (hdb : (x == ("__debug__" : Str)) = false := by decide)
    (he : starEach (e :: es) X.env = (false, eval e X.env) :: starEach es X.env := by rfl) (hpl : (backTo pos (starEach es X.env)).any (·.1) = false := by rfl) : DE G X (.Call (.Name x p) (e :: es) [] pos) (dA f ws) :=
  ⟨pe_imp (pe_callB hc hg hm hv ha.pa hn hdb he hpl) (cb_e ha hf hr), mo_dA hf ha.mo⟩
theorem de_callTy (hc : CallR X (.type T) r) (hg : Gl X x) (hm : X.mg x = none) (hv : bootBuiltins x = some (.type T)) (ha : DAb G X (e :: es) ws) (hf : MoF f)
    (hr : ∀ F B σ ρ H vs ds (Q : VK), Go G F B H σ ρ → RpBL G.dl B H vs ds → (f ds fun z => ∀ v H', G.kp H H' → G.ok B H' → Rp B H' v z → Q v H') → r vs H Q) (hn : x ≠ "__name__" := by decide) (hdb : (x == ("__debug__" : Str)) = false := by decide)
    (he : starEach (e :: es) X.env = (false, eval e X.env) :: starEach es X.env := by rfl) (hpl : (backTo pos (starEach es X.env)).any (·.1) = false := by rfl) : DE G X (.Call (.Name x p) (e :: es) [] pos) (dA f ws) :=
  ⟨pe_imp (pe_callTy hc hg hm hv ha.pa hn hdb he hpl) (cb_e ha hf hr), mo_dA hf ha.mo⟩
theorem df_callB (hc : CallR X (.builtin id) r) (hg : Gl X x) (hm : X.mg x = none) (hv : bootBuiltins x = some (.builtin id)) (ha : DAb G X (e :: es) ws) (hf : MoF f)
    (hr : ∀ F B σ ρ H vs ds (Q : VK), Go G F B H σ ρ → RpBL G.dl B H vs ds → (f ds fun z => ∀ p xs ds H', z = .list ds → H p = none → G.kp H H' → G.ok (fun a => B a ∨ a = p) H' → H' p = some (.lst xs) → RpL (fun a => B a ∨ a = p) H' xs ds → Q (.ref p) H') → r vs H Q) (hn : x ≠ "__name__" := by decide) (hdb : (x == ("__debug__" : Str)) = false := by decide)
    (he : starEach (e :: es) X.env = (false, eval e X.env) :: starEach es X.env := by rfl) (hpl : (backTo pos (starEach es X.env)).any (·.1) = false := by rfl) : DF G X (.Call (.Name x p) (e :: es) [] pos) (dA f ws) :=
  ⟨pe_imp (pe_callB hc hg hm hv ha.pa hn hdb he hpl) (cb_f ha hf hr), mo_dA hf ha.mo⟩
theorem df_callTy (hc : CallR X (.type T) r) (hg : Gl X x) (hm : X.mg x = none) (hv : bootBuiltins x = some (.type T)) (ha : DAb G X (e :: es) ws) (hf : MoF f)
    (hr : ∀ F B σ ρ H vs ds (Q : VK), Go G F B H σ ρ → RpBL G.dl B H vs ds → (f ds fun z => ∀ p xs ds H', z = .list ds → H p = none → G.kp H H' → G.ok (fun a => B a ∨ a = p) H' → H' p = some (.lst xs) → RpL (fun a => B a ∨ a = p) H' xs ds → Q (.ref p) H') → r vs H Q) (hn : x ≠ "__name__" := by decide) (hdb : (x == ("__debug__" : Str)) = false := by decide)
    (he : starEach (e :: es) X.env = (false, eval e X.env) :: starEach es X.env := by rfl) (hpl : (backTo pos (starEach es X.env)).any (·.1) = false := by rfl) : DF G X (.Call (.Name x p) (e :: es) [] pos) (dA f ws) :=
  ⟨pe_imp (pe_callTy hc hg hm hv ha.pa hn hdb he hpl) (cb_f ha hf hr), mo_dA hf ha.mo⟩
theorem bl1 {dl : Dl2} {B : Addr → Prop} {H : Hp} {vs : List V} {d : PyData} (l : RpBL dl B H vs [d]) : ∃ v, vs = [v] ∧ RpB dl B H v d := by
  cases l with
  | cons a t => cases t; exact ⟨_, rfl, a⟩
theorem bl2 {dl : Dl2} {B : Addr → Prop} {H : Hp} {vs : List V} {d d2 : PyData} (l : RpBL dl B H vs [d, d2]) : ∃ v v2, vs = [v, v2] ∧ RpB dl B H v d ∧ RpB dl B H v2 d2 := by
  cases l with
  | cons a t =>
    cases t with
    | cons b t => cases t; exact ⟨_, _, rfl, a, b⟩
/-! len -/
def fLen : FA := fun ds Q => (∃ es, (ds = [.list es] ∨ ds = [.tuple es]) ∧ Q (.int es.length)) ∨ ∃ z, ds = [.str z] ∧ z.length ≤ sizeLine ∧ Q (.int z.length)
theorem mo_fLen : MoF fLen := fun _ _ _ m h => h.elim (fun ⟨es, h, q⟩ => .inl ⟨es, h, m _ q⟩) fun ⟨z, h, h2, q⟩ => .inr ⟨z, h, h2, m _ q⟩
theorem de_len (hm : X.mg "len" = none) (ha : DAb G X (e :: es) ws) (hg : Gl X "len" := by rfl)
    (he : starEach (e :: es) X.env = (false, eval e X.env) :: starEach es X.env := by rfl) (hpl : (backTo pos (starEach es X.env)).any (·.1) = false := by rfl) : DE G X (.Call (.Name "len" p) (e :: es) [] pos) (dA fLen ws) :=
  de_callB (call_len_seq.or call_len_str) hg hm PySem.boot_len ha mo_fLen (fun F B σ ρ H vs ds Q g l q => by
    rcases q with ⟨es, h | h, q⟩ | ⟨z, h, hz, q⟩
    · subst h
      obtain ⟨v, rfl, r⟩ := bl1 l
      obtain ⟨a, xs, rfl, h, l2⟩ := rb_list X.K r
      exact .inl ⟨a, xs, rfl, .inl h, by rw [l2.len]; exact q _ H .refl g.deal (.int _)⟩
    · subst h
      obtain ⟨v, rfl, r⟩ := bl1 l
      obtain ⟨a, xs, rfl, h, l2⟩ := rb_tup X.K r
      exact .inl ⟨a, xs, rfl, .inr h, by rw [l2.len]; exact q _ H .refl g.deal (.int _)⟩
    · subst h
      obtain ⟨v, rfl, r⟩ := bl1 l
      cases rb_str r
      exact .inr ⟨z, rfl, hz, q _ H .refl g.deal (.int _)⟩) (by decide) (by decide) he hpl
/-! list(x), tuple(x) -/
def fList : FA := fun ds Q => ∃ es, (ds = [.list es] ∨ ds = [.tuple es]) ∧ Q (.list es)
theorem df_list (hm : X.mg "list" = none) (ha : DAb G X (e :: es) ws) (hg : Gl X "list" := by rfl)
    (he : starEach (e :: es) X.env = (false, eval e X.env) :: starEach es X.env := by rfl) (hpl : (backTo pos (starEach es X.env)).any (·.1) = false := by rfl) : DF G X (.Call (.Name "list" p) (e :: es) [] pos) (dA fList ws) :=
  df_callTy call_list_of hg hm (by decide +kernel) ha (fun _ _ _ m ⟨es, h, q⟩ => ⟨es, h, m _ q⟩) (fun F B σ ρ H vs ds Q g l q => by
    obtain ⟨es, h | h, q⟩ := q
    · subst h
      obtain ⟨v, rfl, r⟩ := bl1 l
      obtain ⟨a, xs, rfl, h, l2⟩ := rb_list X.K r
      exact ⟨a, xs, rfl, .inl h, fun pp np => q pp _ _ _ rfl np (Kp.new np) (ok_newb g.deal np) upd_same ((RpL.bar np _ _ l2).mv (fun _ z => z) (upd_keep np))⟩
    · subst h
      obtain ⟨v, rfl, r⟩ := bl1 l
      obtain ⟨a, xs, rfl, h, l2⟩ := rb_tup X.K r
      exact ⟨a, xs, rfl, .inr h, fun pp np => q pp _ _ _ rfl np (Kp.new np) (ok_newb g.deal np) upd_same ((RpL.bar np _ _ l2).mv (fun _ z => z) (upd_keep np))⟩) (by decide) (by decide) he hpl
def fTuple : FA := fun ds Q => ∃ es, (ds = [.list es] ∨ ds = [.tuple es]) ∧ Q (.tuple es)
theorem de_tuple (hm : X.mg "tuple" = none) (ha : DAb G X (e :: es) ws) (hg : Gl X "tuple" := by rfl)
    (he : starEach (e :: es) X.env = (false, eval e X.env) :: starEach es X.env := by rfl) (hpl : (backTo pos (starEach es X.env)).any (·.1) = false := by rfl) : DE G X (.Call (.Name "tuple" p) (e :: es) [] pos) (dA fTuple ws) :=
  de_callTy call_tuple_of hg hm (by decide +kernel) ha (fun _ _ _ m ⟨es, h, q⟩ => ⟨es, h, m _ q⟩) (fun F B σ ρ H vs ds Q g l q => by
    obtain ⟨es, h | h, q⟩ := q
    · subst h
      obtain ⟨v, rfl, r⟩ := bl1 l
      obtain ⟨a, xs, rfl, h, l2⟩ := rb_list X.K r
      exact ⟨a, xs, rfl, .inl ⟨h, fun pp np => q _ _ (Kp.new np) (ok_new g.deal np) (.tup (g.nb np) upd_same (l2.mv (fun _ z => z) (upd_keep np)))⟩⟩
    · subst h
      obtain ⟨v, rfl, r⟩ := bl1 l
      obtain ⟨a, xs, rfl, n, h, l2⟩ := rb_tup' r
      exact ⟨a, xs, rfl, .inr ⟨.of h, q _ _ .refl g.deal (.tup n h l2)⟩⟩) (by decide) (by decide) he hpl
/-! ints: int(i), abs(i), max(i, j), min(i, j) -/
def fInt : FA := fun ds Q => ∃ i, ds = [.int i] ∧ Q (.int i)
theorem de_int1 (hm : X.mg "int" = none) (ha : DAb G X (e :: es) ws) (hg : Gl X "int" := by rfl)
    (he : starEach (e :: es) X.env = (false, eval e X.env) :: starEach es X.env := by rfl) (hpl : (backTo pos (starEach es X.env)).any (·.1) = false := by rfl) : DE G X (.Call (.Name "int" p) (e :: es) [] pos) (dA fInt ws) :=
  de_callTy call_int1 hg hm (by decide +kernel) ha (fun _ _ _ m ⟨es, h, q⟩ => ⟨es, h, m _ q⟩) (fun F B σ ρ H vs ds Q g l q => by
    obtain ⟨i, rfl, q⟩ := q
    obtain ⟨v, rfl, r⟩ := bl1 l
    cases rb_int r
    exact .inl ⟨i, rfl, q _ H .refl g.deal (.int _)⟩) (by decide) (by decide) he hpl
def fAbs : FA := fun ds Q => ∃ i, ds = [.int i] ∧ Q (.int (if i < 0 then -i else i))
theorem de_abs (hm : X.mg "abs" = none) (ha : DAb G X (e :: es) ws) (hg : Gl X "abs" := by rfl)
    (he : starEach (e :: es) X.env = (false, eval e X.env) :: starEach es X.env := by rfl) (hpl : (backTo pos (starEach es X.env)).any (·.1) = false := by rfl) : DE G X (.Call (.Name "abs" p) (e :: es) [] pos) (dA fAbs ws) :=
  de_callB call_abs hg hm (by decide +kernel) ha (fun _ _ _ m ⟨es, h, q⟩ => ⟨es, h, m _ q⟩) (fun F B σ ρ H vs ds Q g l q => by
    obtain ⟨i, rfl, q⟩ := q
    obtain ⟨v, rfl, r⟩ := bl1 l
    cases rb_int r
    exact ⟨i, rfl, q _ H .refl g.deal (.int _)⟩) (by decide) (by decide) he hpl
def fMax2 : FA := fun ds Q => ∃ i j, ds = [.int i, .int j] ∧ Q (.int (if j > i then j else i))
theorem de_max2 (hc : X.calm = true) (hm : X.mg "max" = none) (ha : DAb G X (e :: es) ws) (hg : Gl X "max" := by rfl)
    (he : starEach (e :: es) X.env = (false, eval e X.env) :: starEach es X.env := by rfl) (hpl : (backTo pos (starEach es X.env)).any (·.1) = false := by rfl) : DE G X (.Call (.Name "max" p) (e :: es) [] pos) (dA fMax2 ws) :=
  de_callB (call_max2 hc) hg hm (by decide +kernel) ha (fun _ _ _ m ⟨i, j, h, q⟩ => ⟨i, j, h, m _ q⟩) (fun F B σ ρ H vs ds Q g l q => by
    obtain ⟨i, j, rfl, q⟩ := q
    obtain ⟨v, w, rfl, r, r2⟩ := bl2 l
    cases rb_int r
    cases rb_int r2
    exact ⟨i, j, rfl, q _ H .refl g.deal (.int _)⟩) (by decide) (by decide) he hpl
/-! of lists of ints: sum, max, min, sorted; of bools: all, any -/
def fSum : FA := fun ds Q => ∃ ns : List Int, ds = [.list (ns.map .int)] ∧ Q (.int ns.sum)
theorem de_sum (hc : X.calm = true) (hm : X.mg "sum" = none) (ha : DAb G X (e :: es) ws) (hg : Gl X "sum" := by rfl)
    (he : starEach (e :: es) X.env = (false, eval e X.env) :: starEach es X.env := by rfl) (hpl : (backTo pos (starEach es X.env)).any (·.1) = false := by rfl) : DE G X (.Call (.Name "sum" p) (e :: es) [] pos) (dA fSum ws) :=
  de_callB (cr_sum hc) hg hm (by decide +kernel) ha (fun _ _ _ m ⟨i, h, q⟩ => ⟨i, h, m _ q⟩) (fun F B σ ρ H vs ds Q g l q => by
    obtain ⟨ns, rfl, q⟩ := q
    obtain ⟨v, rfl, r⟩ := bl1 l
    obtain ⟨a, xs, rfl, h, l2⟩ := rb_list X.K r
    cases RpL.ints_inv l2
    exact ⟨a, ns, rfl, h, q _ H .refl g.deal (.int _)⟩) (by decide) (by decide) he hpl
def fMinL : FA := fun ds Q => ∃ ns : List Int, ds = [.list (ns.map .int)] ∧ 0 < ns.length ∧ ∀ m, m ∈ ns → (∀ y, y ∈ ns → m ≤ y) → Q (.int m)
theorem de_minL (hc : X.calm = true) (hm : X.mg "min" = none) (ha : DAb G X (e :: es) ws) (hg : Gl X "min" := by rfl)
    (he : starEach (e :: es) X.env = (false, eval e X.env) :: starEach es X.env := by rfl) (hpl : (backTo pos (starEach es X.env)).any (·.1) = false := by rfl) : DE G X (.Call (.Name "min" p) (e :: es) [] pos) (dA fMinL ws) :=
  de_callB (cr_min hc) hg hm (by decide +kernel) ha (fun _ _ _ m ⟨i, h, h2, q⟩ => ⟨i, h, h2, fun z a b => m _ (q z a b)⟩) (fun F B σ ρ H vs ds Q g l q => by
    obtain ⟨ns, rfl, z, q⟩ := q
    obtain ⟨v, rfl, r⟩ := bl1 l
    obtain ⟨a, xs, rfl, h, l2⟩ := rb_list X.K r
    cases RpL.ints_inv l2
    exact ⟨a, ns, rfl, h, z, fun m h1 h2 => q m h1 h2 _ H .refl g.deal (.int _)⟩) (by decide) (by decide) he hpl
def fMaxL : FA := fun ds Q => ∃ ns : List Int, ds = [.list (ns.map .int)] ∧ 0 < ns.length ∧ ∀ m, m ∈ ns → (∀ y, y ∈ ns → y ≤ m) → Q (.int m)
theorem de_maxL (hc : X.calm = true) (hm : X.mg "max" = none) (ha : DAb G X (e :: es) ws) (hg : Gl X "max" := by rfl)
    (he : starEach (e :: es) X.env = (false, eval e X.env) :: starEach es X.env := by rfl) (hpl : (backTo pos (starEach es X.env)).any (·.1) = false := by rfl) : DE G X (.Call (.Name "max" p) (e :: es) [] pos) (dA fMaxL ws) :=
  de_callB (cr_max hc) hg hm (by decide +kernel) ha (fun _ _ _ m ⟨i, h, h2, q⟩ => ⟨i, h, h2, fun z a b => m _ (q z a b)⟩) (fun F B σ ρ H vs ds Q g l q => by
    obtain ⟨ns, rfl, z, q⟩ := q
    obtain ⟨v, rfl, r⟩ := bl1 l
    obtain ⟨a, xs, rfl, h, l2⟩ := rb_list X.K r
    cases RpL.ints_inv l2
    exact ⟨a, ns, rfl, h, z, fun m h1 h2 => q m h1 h2 _ H .refl g.deal (.int _)⟩) (by decide) (by decide) he hpl
def fSort : FA := fun ds Q => ∃ ns : List Int, ds = [.list (ns.map .int)] ∧ ∀ ns' : List Int, ns'.Perm ns → ns'.Pairwise (· ≤ ·) → Q (.list (ns'.map .int))
theorem df_sort (hm : X.mg "sorted" = none) (ha : DAb G X (e :: es) ws) (hg : Gl X "sorted" := by rfl)
    (he : starEach (e :: es) X.env = (false, eval e X.env) :: starEach es X.env := by rfl) (hpl : (backTo pos (starEach es X.env)).any (·.1) = false := by rfl) : DF G X (.Call (.Name "sorted" p) (e :: es) [] pos) (dA fSort ws) :=
  df_callB cr_sortedI hg hm (by decide +kernel) ha (fun _ _ _ m ⟨i, h, q⟩ => ⟨i, h, fun z a b => m _ (q z a b)⟩) (fun F B σ ρ H vs ds Q g l q => by
    obtain ⟨ns, rfl, q⟩ := q
    obtain ⟨v, rfl, r⟩ := bl1 l
    obtain ⟨a, xs, rfl, h, l2⟩ := rb_list X.K r
    cases RpL.ints_inv l2
    exact ⟨a, ns, rfl, h, fun ns' pp h1 h2 np => q ns' h1 h2 pp _ _ _ rfl np (Kp.new np) (ok_newb g.deal np) upd_same (RpL.ints _)⟩) (by decide) (by decide) he hpl
def fAll : FA := fun ds Q => ∃ bs : List Bool, ds = [.list (bs.map .bool)] ∧ Q (.bool (bs.all _root_.id))
theorem de_all (hc : X.calm = true) (hm : X.mg "all" = none) (ha : DAb G X (e :: es) ws) (hg : Gl X "all" := by rfl)
    (he : starEach (e :: es) X.env = (false, eval e X.env) :: starEach es X.env := by rfl) (hpl : (backTo pos (starEach es X.env)).any (·.1) = false := by rfl) : DE G X (.Call (.Name "all" p) (e :: es) [] pos) (dA fAll ws) :=
  de_callB (cr_all hc) hg hm (by decide +kernel) ha (fun _ _ _ m ⟨i, h, q⟩ => ⟨i, h, m _ q⟩) (fun F B σ ρ H vs ds Q g l q => by
    obtain ⟨ns, rfl, q⟩ := q
    obtain ⟨v, rfl, r⟩ := bl1 l
    obtain ⟨a, xs, rfl, h, l2⟩ := rb_list X.K r
    cases RpL.bools_inv l2
    exact ⟨a, ns, rfl, h, q _ H .refl g.deal (.bl _)⟩) (by decide) (by decide) he hpl
def fAny : FA := fun ds Q => ∃ bs : List Bool, ds = [.list (bs.map .bool)] ∧ Q (.bool (bs.any _root_.id))
theorem de_any (hc : X.calm = true) (hm : X.mg "any" = none) (ha : DAb G X (e :: es) ws) (hg : Gl X "any" := by rfl)
    (he : starEach (e :: es) X.env = (false, eval e X.env) :: starEach es X.env := by rfl) (hpl : (backTo pos (starEach es X.env)).any (·.1) = false := by rfl) : DE G X (.Call (.Name "any" p) (e :: es) [] pos) (dA fAny ws) :=
  de_callB (cr_any hc) hg hm (by decide +kernel) ha (fun _ _ _ m ⟨i, h, q⟩ => ⟨i, h, m _ q⟩) (fun F B σ ρ H vs ds Q g l q => by
    obtain ⟨ns, rfl, q⟩ := q
    obtain ⟨v, rfl, r⟩ := bl1 l
    obtain ⟨a, xs, rfl, h, l2⟩ := rb_list X.K r
    cases RpL.bools_inv l2
    exact ⟨a, ns, rfl, h, q _ H .refl g.deal (.bl _)⟩) (by decide) (by decide) he hpl
end
end Dl
/-! The data layer, part 4: defs and their calls. -/
namespace Dl
open PySem PySem.Spec PyProof.Rows L2

/-- a def's promise, as the hand layer has it, for calls with no repr under way -/
structure FnG (P : Program) (w : World) (K : PySem.W.Frag) (mg : Str → Option Value) (base : Heap) (k : Nat) (f : Addr) (fd : FuncData) (ps : List Str) (sp : Sp) : Prop where
  len : ∀ vs H Q E, sp vs H Q E → vs.length = ps.length
  run : ∀ (A : Around) (outer : List Env) (s : Shared) (H : Hp) (args : Args) (us : List Value) (vs : List V) (Q : VK) (E : XK), A.guards = some [] → Room k A → Env0 P w K mg base A outer s H → BindsTo s fd args (ps.zip us) → Vals vs us → sp vs H Q E →
    codeAny (model P w) A (.call (.ref f) args) (CR (L2.CX P w) outer P w H s Q E) s
section
variable {P : Program} {w : World} {K : PySem.W.Frag} {mg : Str → Option Value} {base : Heap}
theorem FnG.mono {j k : Nat} {f : Addr} {fd : FuncData} {ps : List Str} {sp : Sp} (F : FnG P w K mg base j f fd ps sp) (h : j ≤ k) : FnG P w K mg base k f fd ps sp :=
  ⟨F.len, fun A o s H a us vs Q E g hr => F.run A o s H a us vs Q E g (hr.mono h)⟩
theorem fnG_ok {k : Nat} {f : Addr} {fd : FuncData} {ps : List Str} {sp : Sp} (F : FnOk P w K mg base (L2.CX P w) k f fd ps sp) : FnG P w K mg base k f fd ps sp :=
  ⟨F.len, fun A o s H a us vs Q E _ hr => F.run A o s H a us vs Q E hr⟩
/-- a def by its body, no repr under way -/
theorem fnG_of {x qual : Str} {st : Stmt} {f : Addr} {fd : FuncData} {N ps : List Str} {k : Nat} {sp : Sp} (F : Fun K x qual st f fd) (S : FnScope N ps (defScope st)) (len : ∀ vs H Q E, sp vs H Q E → vs.length = ps.length)
    (hbody : ∀ (cdv : Value) (A : Around) (outer : List Env) (s : Shared) (H : Hp) (vs : List V) (Q : VK) (E : XK), (A.deeper (envOfC qual (defScope st) s.heap.objs.size f cdv)).guards = some [] → Room k (A.deeper (envOfC qual (defScope st) s.heap.objs.size f cdv)) → sp vs H Q E →
      ∃ t, PSs (cxOf (L2.CX P w) P w K mg base N qual (defScope st) f cdv A outer s H E) (defBody st) t ∧ t { nx := fun _ H' => Q .non H', rt := Q } (start N vs) H) : FnG P w K mg base (k + 1) f fd ps sp := by
  obtain ⟨oc, od, kV, doc, pm, an, cdv, ct, osl, hfd, lk, hcd⟩ := F.ex
  subst hfd
  refine ⟨len, fun A outer s H args us vs Q E hg hr e0 hb rv hsp => ?_⟩
  have hl := len _ _ _ _ hsp
  have KX : K.In s.heap := e0.mod.kin.keeps fun b o e => (e0.bs b o e).1
  have lim : s.heap.NoLimit := e0.mod.nolimit.keeps fun b o e => (e0.bs b o e).1
  refine codeAny_call_function hr.depth (KX _ _ lk) rfl S.co S.gen rfl (PySem.W.codeRec_of KX hcd) (hb _ _ _ _ ?_)
  refine wpAny_newFunctionEnv_cells S.kind (fun y hy => ?_) fun env he s1 x => ?_
  · obtain ⟨n, v⟩ := y
    exact (S.par n (List.of_mem_zip hy).1).imp (fun q => q) fun q => ⟨q, PySem.W.cellsFrom_some _ _ _ (.inl q)⟩
  subst he
  refine ⟨lim.keeps x.toInCall.keep, codeAny_func ?_⟩
  obtain ⟨t, ht, hq⟩ := hbody cdv A outer s H vs Q E hg (hr.deeper _) hsp
  have I : Inv (cxOf (L2.CX P w) P w K mg base N qual (defScope st) f cdv A outer s H E) [] (start N vs) H s1 := inv_start S hr.hd e0 hl rv x
  refine wpAny_mono (ht.run [] s1 (start N vs) H _ I hq) (fun fl s' hs => ?_) fun e s' hs => hs
  cases fl with
  | ret u => obtain ⟨v, σ', H', J, r, q⟩ := hs; exact ⟨v, H', J.os, J.bare, J.base, J.hok, r, q⟩
  | next => obtain ⟨σ', H', J, q⟩ := hs; exact ⟨.non, H', J.os, J.bare, J.base, J.hok, rfl, q⟩
  | brk => obtain ⟨_, _, _, q⟩ := hs; exact False.elim q
  | cont => obtain ⟨_, _, _, q⟩ := hs; exact False.elim q
end
section
variable {X : Cx} {k : Nat} {f : Addr} {fd : FuncData} {ps ks : List Str} {sp : Sp} {E : XK} {W : WX} {x : Str} {p pos : Pos} {e : Expr} {es : List Expr} {kws : List Keyword} {t tkw : TA}
/-- what a callee may let out is taken -/
theorem pass_at {pins : List (Addr × Obj)} {σ : L2.St} {H : Hp} {s : Shared} (tk : Takes X W) (I : Inv X pins σ H s) : ∀ e s', L2.CX X.prog X.w X.stack H s (fun cls d H' => W cls d σ H') e s' → X.xe e s' :=
  fun e s' c => tk e s' (XE.of_call I (fun cls d H' h => h) c)
theorem call_back {pins : List (Addr × Obj)} {σ : L2.St} {H : Hp} {s : Shared} {Q : VK} (I : Inv X pins σ H s) (hx : ∀ e s', L2.CX X.prog X.w X.stack H s E e s' → X.xe e s') {r : Result} {s' : Shared} (hq : CR (L2.CX X.prog X.w) X.stack X.prog X.w H s Q E r s') :
    (match r with | .ok (.ret u) => EP X pins σ Q u s' | .ok _ => False | .error e => X.xe e s') := by
  cases r with
  | error e => exact hx e s' hq
  | ok fl =>
    cases fl with
    | ret u => exact I.after hq
    | next => exact hq
    | brk => exact hq
    | cont => exact hq
theorem run_fnG {pins : List (Addr × Obj)} {σ : L2.St} {H : Hp} {s : Shared} {Q : VK} {us : List Value} {vs : List V} (F : FnG X.prog X.w X.K X.mg X.base k f fd ps sp) (hgd : X.A.guards = some []) (hr : Room k X.A) (hb : Binds X.K fd ps [])
    (I : Inv X pins σ H s) (hx : ∀ e s', L2.CX X.prog X.w X.stack H s E e s' → X.xe e s') (r : Vals vs us) (h : sp vs H Q E) : wpAny (model X.prog X.w) X.A (call (.ref f) us) (EP X pins σ Q) X.xe s := by
  have hl : (us ++ []).length = ps.length := by rw [List.append_nil, ← r.length]; exact F.len _ _ _ _ h
  have hb' := hb s us I.kIn hl
  rw [List.append_nil] at hb'
  refine wpAny_call (codeAny_mono (F.run X.A X.stack s H ⟨us, []⟩ us vs Q E hgd hr I.env0 hb' r h) fun r s' hq => ?_)
  have z := call_back I hx hq
  cases r with
  | error e => exact z
  | ok fl =>
    cases fl with
    | ret u => exact z
    | next => exact z.elim
    | brk => exact z.elim
    | cont => exact z.elim
theorem pe_callG (F : FnG X.prog X.w X.K X.mg X.base k f fd ps sp) (hgd : X.A.guards = some []) (hr : Room k X.A) (hg : Gl X x) (hm : X.mg x = some (.ref f)) (hk : PySem.W.keepIn X.K (.ref f) = true) (hb : Binds X.K fd ps []) (tk : Takes X W)
    (ha : PA X (e :: es) t) (hdb : (x == ("__debug__" : Str)) = false := by decide) (he : starEach (e :: es) X.env = (false, eval e X.env) :: starEach es X.env := by rfl) (hpl : (backTo pos (starEach es X.env)).any (·.1) = false := by rfl) :
    PE X (.Call (.Name x p) (e :: es) [] pos) (fun σ H Q => t σ H fun vs H1 => sp vs H1 Q fun cls d H' => W cls d σ H') := by
  refine ⟨fun pins s σ H Q I h => ?_⟩
  refine wpAny_Call_Name_kw (ld_glob I hg hm ?_ hdb)
  exact PySem.W.callWith_K (h₀ := X.base) I.ok.mod.kin hk (thn (ha.run pos pins s σ H _ I h) fun us s1 ⟨vs, H1, I1, r, q⟩ => ⟨I1.kIn, run_fnG F hgd hr hb I1 (pass_at tk I1) r q⟩) he hpl
variable {g : List Value → List Value → List Value} {gV : List V → List V → List V}
theorem run_fnGk {pins : List (Addr × Obj)} {σ : L2.St} {H : Hp} {s : Shared} {Q : VK} {us ws : List Value} {vs zs : List V} (F : FnG X.prog X.w X.K X.mg X.base k f fd ps sp) (hgd : X.A.guards = some []) (hr : Room k X.A) (hb : KBinds X.K fd ps ks g gV)
    (I : Inv X pins σ H s) (hx : ∀ e s', L2.CX X.prog X.w X.stack H s E e s' → X.xe e s') (r : Vals vs us) (rz : Vals zs ws) (h : sp (gV vs zs) H Q E) : wpAny (model X.prog X.w) X.A (call (.ref f) us (ks.zip ws)) (EP X pins σ Q) X.xe s := by
  have r2 := hb.rel r rz
  have hl : (g us ws).length = ps.length := by rw [← r2.length]; exact F.len _ _ _ _ h
  refine wpAny_call (codeAny_mono (F.run X.A X.stack s H ⟨us, ks.zip ws⟩ (g us ws) (gV vs zs) Q E hgd hr I.env0 (hb.to s us ws I.kIn hl) r2 h) fun r s' hq => ?_)
  have z := call_back I hx hq
  cases r with
  | error e => exact z
  | ok fl =>
    cases fl with
    | ret u => exact z
    | next => exact z.elim
    | brk => exact z.elim
    | cont => exact z.elim
/-- f(k = v, ..): keywords alone, or some positional first -/
theorem pe_callGk (F : FnG X.prog X.w X.K X.mg X.base k f fd ps sp) (hgd : X.A.guards = some []) (hr : Room k X.A) (hg : Gl X x) (hm : X.mg x = some (.ref f)) (hk : PySem.W.keepIn X.K (.ref f) = true) (hb : KBinds X.K fd ps ks g gV) (tk : Takes X W)
    (ha : PA X (e :: es) t) (hkw : PK X kws tkw) (hall : (backToKw pos (keywordEach kws X.env)).all (·.1.isSome) = true := by rfl) (hks : (backToKw pos (keywordEach kws X.env)).filterMap (·.1) = ks := by rfl)
    (hdb : (x == ("__debug__" : Str)) = false := by decide) (he : starEach (e :: es) X.env = (false, eval e X.env) :: starEach es X.env := by rfl)
    (hpl : ((backTo pos (starEach (e :: es) X.env)).any (·.1) || (backToKw pos (keywordEach kws X.env)).any (·.1.isNone)) = false := by rfl) :
    PE X (.Call (.Name x p) (e :: es) kws pos) (fun σ H Q => t σ H fun vs H1 => tkw σ H1 fun zs H2 => sp (gV vs zs) H2 Q fun cls d H' => W cls d σ H') := by
  refine ⟨fun pins s σ H Q I h => ?_⟩
  refine wpAny_Call_Name_kw (ld_glob I hg hm ?_ hdb)
  refine PySem.W.callWith_KW (h₀ := X.base) I.ok.mod.kin hk hall (thn (ha.run pos pins s σ H _ I h) fun us s1 ⟨vs, H1, I1, r, q⟩ => ?_) hpl he
  refine thn (hkw.run pos pins s1 σ H1 _ I1 q) fun ws s2 ⟨zs, H2, I2, rz, q2⟩ => ⟨I2.kIn, ?_⟩
  rw [hks]
  exact run_fnGk F hgd hr hb I2 (pass_at tk I2) r rz q2
end

/-! ### promises over data -/
/-- arguments, what follows a value, what is wanted of an exception (its class, its attribute) -/
abbrev SpD := List SV → (PyData → Prop) → (Addr → PyData → Prop) → Prop
inductive AL (K : PySem.W.Frag) (dl : Dl2) (B : Addr → Prop) (H : Hp) : List SV → List V → Prop
  | nil : AL K dl B H [] []
  | cons {sv : SV} {v : V} {svs : List SV} {vs : List V} : RS K dl B B H sv v → AL K dl B H svs vs → AL K dl B H (sv :: svs) (v :: vs)
theorem AL.len {K : PySem.W.Frag} {dl : Dl2} {B : Addr → Prop} {H : Hp} : ∀ {a : List SV} {b : List V}, AL K dl B H a b → a.length = b.length
  | _, _, .nil => rfl
  | _, _, .cons _ t => by simp [AL.len t]
def spL (g : GInv) (S : SpD) : Sp := fun vs H Q E => ∃ (dl : Dl2) (B0 : Addr → Prop) (args : List SV), dl.gi = g ∧ (∀ a, Md dl a → B0 a) ∧ (∀ a, B0 a → H a ≠ none) ∧ DealOk dl B0 H ∧ AL dl.gi.K dl B0 H args vs ∧
  S args (fun d => ∀ v H', Kp dl H H' → DealOk dl B0 H' → Rp B0 H' v d → Q v H') fun C d => ∀ x v H', Kp dl H H' → DealOk dl B0 H' → H' x = some (.xd [("at", v)]) → ¬ B0 x → Rp B0 H' v d → E (.ref C) (some x) H'
abbrev FnD (P : Program) (w : World) (K : PySem.W.Frag) (mg : Str → Option Value) (base : Heap) (g : GInv) (k : Nat) (f : Addr) (fd : FuncData) (ps : List Str) (S : SpD) : Prop := FnG P w K mg base k f fd ps (spL g S)

/-- how exceptions of callees leave the code X -/
structure Xw (gg : GInv) (G : Ga) (X : Cx) : Prop where
  ex : ∃ W : WX, Takes X W ∧ ∀ F B H σ ρ, Go G F B H σ ρ → ∀ C d, G.xd ρ C d → ∀ x v, H x = some (.xd [("at", v)]) → ¬ B x → Rp B H v d → W (.ref C) (some x) σ H
  kk : X.K = G.K
  gi : G.dl.gi = gg

/-! ### arguments of a call: values, the deal, the script -/
abbrev WG := En → (List SV → Prop) → Prop
def MoG (w : WG) : Prop := ∀ ρ (Q Q' : List SV → Prop), (∀ d, Q d → Q' d) → w ρ Q → w ρ Q'
def lg (G : Ga) (w : WG) : TA := fun σ H Q => ∃ F B ρ, Go G F B H σ ρ ∧ w ρ fun svs => ∀ vs H', G.kp H H' → G.ok B H' → AL G.K G.dl B H' svs vs → Q vs H'
structure DG (G : Ga) (X : Cx) (es : List Expr) (w : WG) : Prop where
  pa : PA X es (lg G w)
  mo : MoG w
def gNil' : WG := fun _ Q => Q []
def gVal (w : WE) (ws : WG) : WG := fun ρ Q => w ρ fun d => ws ρ fun svs => Q (.v d :: svs)
def gDeal (i : Nat) (ws : WG) : WG := fun ρ Q => ρ[i]? = some (some .dl) ∧ ws ρ fun svs => Q (.dl :: svs)
def gScr (i : Nat) (ws : WG) : WG := fun ρ Q => ∃ ns, ρ[i]? = some (some (.scr ns)) ∧ ws ρ fun svs => Q (.scr ns :: svs)
section
variable {G : Ga} {X : Cx} {e : Expr} {es : List Expr} {w : WE} {ws : WG} {pos : Pos}
theorem RS.step {F : Hp} {B : Addr → Prop} {H H' : Hp} {σ : L2.St} {ρ : En} {sv : SV} {v : V} (g : Go G F B H σ ρ) (k : G.kp H H') (h : RS G.K G.dl B B H sv v) : RS G.K G.dl B B H' sv v := by
  cases h with
  | v r => exact .v (r.step g k)
  | o a b _ _ => exact absurd a b
  | dl e => exact .dl e
  | ex e n z => exact .ex (k _ _ (fun z => n (g.b0 _ (g.md _ z))) e) n (z.step g k)
  | b z m e l => exact .b z m (k _ _ m e) (l.mk (g.kb k))
  | scr q => exact .scr (q.keep (kp_frz k g.deal))
  | fn m e => exact .fn m (k.code m e)
theorem dg_nil : DG G X [] gNil' := ⟨pa_imp pa_nil fun σ H Q ⟨F, B, ρ, g, q⟩ => q [] H .refl g.deal .nil, fun _ _ _ m q => m _ q⟩
theorem dg_val (h : DE G X e w) (hr : DG G X es ws) (hs : starEach (e :: es) X.env = (false, eval e X.env) :: starEach es X.env := by rfl) : DG G X (e :: es) (gVal w ws) :=
  ⟨pa_imp (pa_cons h.pe hr.pa hs) fun σ H Q ⟨F, B, ρ, g, q⟩ => ⟨F, B, ρ, g, h.mo _ _ _ (fun d q v H' k o r => ⟨F, B, ρ, g.step k o, hr.mo _ _ _ (fun ds q vs H2 k2 o2 l => q _ H2 (k.trans k2) o2 (.cons (RS.step (g.step k o) k2 (.v r)) l)) q⟩) q⟩,
   fun ρ Q Q' m q => h.mo _ _ _ (fun d q => hr.mo _ _ _ (fun ds q => m _ q) q) q⟩
theorem dg_deal {i : Nat} (h : PE X e (tVar i)) (hr : DG G X es ws) (hs : starEach (e :: es) X.env = (false, eval e X.env) :: starEach es X.env := by rfl) : DG G X (e :: es) (gDeal i ws) :=
  ⟨pa_imp (pa_cons h hr.pa hs) fun σ H Q ⟨F, B, ρ, g, hd, q⟩ => by
    obtain ⟨x, h1, h2⟩ := g.re.at_ i _ hd
    cases h2 with
    | dl e => exact ⟨_, h1, F, B, ρ, g, hr.mo _ _ _ (fun ds q vs H2 k2 o2 l => q _ H2 k2 o2 (.cons (.dl e) l)) q⟩,
   fun ρ Q Q' m ⟨hd, q⟩ => ⟨hd, hr.mo _ _ _ (fun ds q => m _ q) q⟩⟩
theorem dg_scr {i : Nat} (h : PE X e (tVar i)) (hr : DG G X es ws) (hs : starEach (e :: es) X.env = (false, eval e X.env) :: starEach es X.env := by rfl) : DG G X (e :: es) (gScr i ws) :=
  ⟨pa_imp (pa_cons h hr.pa hs) fun σ H Q ⟨F, B, ρ, g, ns, hd, q⟩ => by
    obtain ⟨x, h1, h2⟩ := g.re.at_ i _ hd
    cases h2 with
    | scr sq => exact ⟨_, h1, F, B, ρ, g, hr.mo _ _ _ (fun ds q vs H2 k2 o2 l => q _ H2 k2 o2 (.cons (.scr (sq.keep (kp_frz k2 g.deal))) l)) q⟩,
   fun ρ Q Q' m ⟨ns, hd, q⟩ => ⟨ns, hd, hr.mo _ _ _ (fun ds q => m _ q) q⟩⟩
end
/-- a call -/
def dCall (xd : En → Addr → PyData → Prop) (S : SpD) (ws : WG) : WE := fun ρ Q => ws ρ fun args => S args Q (xd ρ)
def MoS (S : SpD) : Prop := ∀ args (Q Q' : PyData → Prop) (E E' : Addr → PyData → Prop), (∀ d, Q d → Q' d) → (∀ C d, E C d → E' C d) → S args Q E → S args Q' E'
section
variable {G : Ga} {X : Cx} {e : Expr} {es : List Expr} {ws : WG} {pos p : Pos} {x : Str} {k : Nat} {f : Addr} {fd : FuncData} {ps : List Str} {S : SpD}
theorem go_dom {F : Hp} {B : Addr → Prop} {H : Hp} {σ : L2.St} {ρ : En} (g : Go G F B H σ ρ) : ∀ a, B a → H a ≠ none := g.dom
theorem Rp.back {F : Hp} {B : Addr → Prop} {H H' : Hp} {σ : L2.St} {ρ : En} {v : V} {d : PyData} (g : Go G F B H σ ρ) (h : Rp B H' v d) : Rp G.B0 H' v d := h.mv g.b0 fun _ _ _ z => z
theorem de_call {gg : GInv} (F : FnD X.prog X.w X.K X.mg X.base gg k f fd ps S) (mS : MoS S) (hw : Xw gg G X) (hgd : X.A.guards = some []) (hr : Room k X.A) (hm : X.mg x = some (.ref f)) (hk : PySem.W.keepIn X.K (.ref f) = true) (hb : Binds X.K fd ps [])
    (ha : DG G X (e :: es) ws) (hg : Gl X x := by rfl) (hdb : (x == ("__debug__" : Str)) = false := by decide) (he : starEach (e :: es) X.env = (false, eval e X.env) :: starEach es X.env := by rfl) (hpl : (backTo pos (starEach es X.env)).any (·.1) = false := by rfl) :
    DE G X (.Call (.Name x p) (e :: es) [] pos) (dCall G.xd S ws) := by
  obtain ⟨W, hx, hxl⟩ := hw.ex
  refine ⟨pe_imp (pe_callG F hgd hr hg hm hk hb hx ha.pa hdb he hpl) fun σ H Q ⟨F, B, ρ, g, q⟩ => ⟨F, B, ρ, g, ha.mo _ _ _ (fun args q vs H1 k1 o1 l => ?_) q⟩, fun ρ Q Q' m q => ha.mo _ _ _ (fun args q => mS _ _ _ _ _ m (fun _ _ z => z) q) q⟩
  have g1 := g.step k1 o1
  exact ⟨G.dl, B, args, hw.gi, fun a z => g.b0 _ (g.md _ z), g1.dom, o1, l, mS _ _ _ _ _ (fun d q v H' k2 o2 r => q v H' (k1.trans k2) o2 r)
    (fun C d z x v H' k2 o2 hx nx r => hxl _ _ _ _ _ (g1.step k2 o2) C d z x v hx nx r) q⟩
end
end Dl
/-! The data layer, part 5: statements, defs by their bodies. -/
namespace Dl
open PySem PySem.Spec PyProof.Rows L2

structure DEnds where
  nx : En → Prop
  rt : PyData → Prop
  bk : En → Prop := fun _ => False
  ct : En → Prop := fun _ => False
abbrev WS := DEnds → En → Prop
structure Below (E E' : DEnds) : Prop where
  nx : ∀ ρ, E.nx ρ → E'.nx ρ
  rt : ∀ d, E.rt d → E'.rt d
  bk : ∀ ρ, E.bk ρ → E'.bk ρ
  ct : ∀ ρ, E.ct ρ → E'.ct ρ
def MoW (w : WS) : Prop := ∀ E E' ρ, Below E E' → w E ρ → w E' ρ
/-- the ends fit -/
structure Fit (G : Ga) (F : Hp) (E : DEnds) (D : Ends) : Prop where
  nx : ∀ B H σ ρ, E.nx ρ → Go G F B H σ ρ → D.nx σ H
  rt : ∀ d v H, E.rt d → G.kp G.H0 H → G.ok G.B0 H → Rp G.B0 H v d → D.rt v H
  bk : ∀ B H σ ρ, E.bk ρ → Go G F B H σ ρ → D.bk σ H
  ct : ∀ B H σ ρ, E.ct ρ → Go G F B H σ ρ → D.ct σ H
def ls (G : Ga) (w : WS) : TS := fun D σ H => ∃ F B ρ E, Go G F B H σ ρ ∧ w E ρ ∧ Fit G F E D
structure DS (G : Ga) (X : Cx) (st : Stmt) (w : WS) : Prop where
  ps : PS X st (ls G w)
  mo : MoW w
structure DSs (G : Ga) (X : Cx) (st : List Stmt) (w : WS) : Prop where
  pss : PSs X st (ls G w)
  mo : MoW w
theorem ps_imp {X : Cx} {e : Stmt} {t t' : TS} (h : PS X e t) (i : ∀ D σ H, t' D σ H → t D σ H) : PS X e t' := ⟨fun pins s σ H D I q => h.run pins s σ H D I (i D σ H q)⟩
theorem pss_imp {X : Cx} {e : List Stmt} {t t' : TS} (h : PSs X e t) (i : ∀ D σ H, t' D σ H → t D σ H) : PSs X e t' := ⟨fun pins s σ H D I q => h.run pins s σ H D I (i D σ H q)⟩

def dNext : WS := fun E ρ => E.nx ρ
def dSeq (w u : WS) : WS := fun E ρ => w { E with nx := fun ρ' => u E ρ' } ρ
section
variable {G : Ga} {X : Cx} {st : Stmt} {rest : List Stmt} {w u : WS}
theorem dss_nil : DSs G X [] dNext := ⟨pss_imp pss_nil fun D σ H ⟨F, B, ρ, E, g, q, f⟩ => f.nx B H σ ρ q g, fun E E' ρ b q => b.nx _ q⟩
theorem dss_cons (h : DS G X st w) (hr : DSs G X rest u) : DSs G X (st :: rest) (dSeq w u) :=
  ⟨pss_imp (pss_cons h.ps hr.pss) fun D σ H ⟨F, B, ρ, E, g, q, f⟩ => ⟨F, B, ρ, _, g, q, ⟨fun B' H' σ' ρ' z g' => ⟨F, B', ρ', E, g', z, f⟩, f.rt, f.bk, f.ct⟩⟩,
   fun E E' ρ b q => h.mo { E with nx := fun ρ' => u E ρ' } { E' with nx := fun ρ' => u E' ρ' } ρ ⟨fun ρ' z => hr.mo E E' ρ' b z, b.rt, b.bk, b.ct⟩ q⟩
theorem dss_one (h : DS G X st w) : DSs G X [st] w := ⟨pss_imp (pss_one h.ps) fun D σ H q => q, h.mo⟩
end

/-! ### slots set, released -/
def rel (ρ : En) (i : Nat) : En := match ρ[i]? with
  | some (some (.o ds)) => ρ.set i (some (.v (.list ds)))
  | _ => ρ
section
variable {G : Ga} {F : Hp} {B : Addr → Prop} {H H' : Hp} {σ : L2.St} {ρ : En} {i : Nat} {d : PyData} {v : V}
theorem get_set {α : Type} {l : List α} {i j : Nat} {a b : α} (h : (l.set i a)[j]? = some b) : (j = i ∧ b = a) ∨ (j ≠ i ∧ l[j]? = some b) := by
  by_cases e : j = i
  · subst e
    by_cases hl : j < l.length
    · rw [List.getElem?_set_self hl] at h
      exact .inl ⟨rfl, (Option.some.inj h).symm⟩
    · rw [List.getElem?_eq_none (by simpa using hl)] at h; cases h
  · rw [List.getElem?_set_ne (Ne.symm e)] at h
    exact .inr ⟨e, h⟩
/-- a slot gets a slot value of which B stays as it is and that owns nothing -/
theorem Go.put (g : Go G F B H σ ρ) {sv : SV} (hi : i < ρ.length) (no : ∀ ds, sv ≠ .o ds) (r : RS G.K G.dl G.B0 B H sv v) : Go G F B H (σ.set i (some v)) (ρ.set i (some sv)) where
  fx := g.fx
  b0 := g.b0
  md := g.md
  dom := g.dom
  ext := g.ext
  new := g.new
  kp := g.kp
  deal := g.deal
  re := by
    refine ⟨by simp [g.re.len], fun j sv' h => ?_, fun j l dj dk a h1 h2 h3 h4 => ?_⟩
    · have hl : i < σ.length := by rw [g.re.len]; exact hi
      rcases get_set h with ⟨rfl, e⟩ | ⟨n, h⟩
      · cases e; exact ⟨v, by rw [List.getElem?_set_self hl], r⟩
      · obtain ⟨x, a, b⟩ := g.re.at_ j _ h
        exact ⟨x, by rw [List.getElem?_set_ne (Ne.symm n)]; exact a, b⟩
    · rcases get_set h1 with ⟨rfl, e⟩ | ⟨n1, h1⟩
      · cases e; exact absurd rfl (no _)
      · rcases get_set h2 with ⟨rfl, e⟩ | ⟨n2, h2⟩
        · cases e; exact absurd rfl (no _)
        · rw [List.getElem?_set_ne (Ne.symm n1)] at h3
          rw [List.getElem?_set_ne (Ne.symm n2)] at h4
          exact g.re.ap _ _ _ _ _ h1 h2 h3 h4
/-- a slot gets a new list of its own -/
theorem Go.own (g : Go G F B H σ ρ) {p : Addr} {xs : List V} {ds : List PyData} (hi : i < ρ.length) (np : H p = none) (k : G.kp H H') (o : G.ok (fun a => B a ∨ a = p) H') (hp : H' p = some (.lst xs)) (l : RpL (fun a => B a ∨ a = p) H' xs ds) :
    Go G F (fun a => B a ∨ a = p) H' (σ.set i (some (.ref p))) (ρ.set i (some (.o ds))) where
  fx := g.fx
  b0 := fun a z => .inl (g.b0 a z)
  md := g.md
  dom := fun a z => z.elim (fun z => kp_dom k o a (g.dom a z)) fun z => by rw [z, hp]; simp
  ext := g.ext
  new := fun a z n => z.elim (fun z => g.new a z n) fun z => by
    rw [z]
    cases e : F p with
    | none => rfl
    | some u => exact absurd np (kp_dom g.kp g.deal p (by rw [e]; simp))
  kp := g.kp.trans k
  deal := o
  re := by
    have hl : i < σ.length := by rw [g.re.len]; exact hi
    have nop : ∀ (j : Nat) (ds' : List PyData) (a : Addr), ρ[j]? = some (some (SV.o ds')) → σ[j]? = some (some (V.ref a)) → a ≠ p := fun j ds' a h1 h2 e => by
      obtain ⟨x, h3, h4⟩ := g.re.at_ j _ h1
      rw [h2] at h3
      cases h3
      cases h4 with
      | o b n hh _ => rw [e, np] at hh; cases hh
    refine ⟨by simp [g.re.len], fun j sv' h => ?_, fun j m dj dk a h1 h2 h3 h4 => ?_⟩
    · rcases get_set h with ⟨rfl, e⟩ | ⟨n, h⟩
      · cases e
        exact ⟨.ref p, by rw [List.getElem?_set_self hl], .o (.inr rfl) (fun z => g.dom p (g.b0 _ z) np) hp l⟩
      · obtain ⟨x, a, b⟩ := g.re.at_ j _ h
        refine ⟨x, by rw [List.getElem?_set_ne (Ne.symm n)]; exact a, ?_⟩
        have kb : Kx (fun a => B a ∨ a = p) H H' := (g.kb k).bar
        cases b with
        | v r => exact .v ((Rp.bar np _ _ r).mk kb)
        | o b n hh l => exact .o (.inl b) n (k _ _ (fun z => n (g.md _ z)) hh) ((RpL.bar np _ _ l).mk kb)
        | dl e => exact .dl e
        | ex e n r => exact .ex (k _ _ (fun z => n (g.b0 _ (g.md _ z))) e) (fun z => z.elim n (ne_of_none e np)) ((Rp.bar np _ _ r).mk kb)
        | b z m e l => exact .b z m (k _ _ m e) ((RpL.bar np _ _ l).mk kb)
        | scr q => exact .scr (q.keep (kp_frz k g.deal))
        | fn m e => exact .fn m (k.code m e)
    · rcases get_set h1 with ⟨rfl, e⟩ | ⟨n1, z1⟩
      · rcases get_set h2 with ⟨rfl, e⟩ | ⟨n2, z2⟩
        · rfl
        · rw [List.getElem?_set_self hl] at h3
          rw [List.getElem?_set_ne (Ne.symm n2)] at h4
          cases h3
          exact absurd rfl (nop _ _ _ z2 h4)
      · rcases get_set h2 with ⟨rfl, e⟩ | ⟨n2, z2⟩
        · rw [List.getElem?_set_self hl] at h4
          rw [List.getElem?_set_ne (Ne.symm n1)] at h3
          cases h4
          exact absurd rfl (nop _ _ _ z1 h3)
        · rw [List.getElem?_set_ne (Ne.symm n1)] at h3
          rw [List.getElem?_set_ne (Ne.symm n2)] at h4
          exact g.re.ap _ _ _ _ _ z1 z2 h3 h4
/-- a slot's own list is changed -/
theorem Go.mut (g : Go G F B H σ ρ) {ds es : List PyData} (h : ρ[i]? = some (some (.o ds))) : ∃ a xs, σ[i]? = some (some (.ref a)) ∧ H a = some (.lst xs) ∧ RpL B H xs ds ∧
    ∀ ys, RpL B H ys es → Go G F B (upd H a (.lst ys)) σ (ρ.set i (some (.o es))) := by
  obtain ⟨x, h1, h2⟩ := g.re.at_ i _ h
  cases h2 with
  | @o a xs _ b n hh l =>
    refine ⟨a, xs, h1, hh, l, fun ys ly => ?_⟩
    have nm : ¬ Md G.dl a := fun z => n (g.md _ z)
    have kb : ∀ b o, ¬ B b → H b = some o → upd H a (.lst ys) b = some o := fun c o m e => by
      rw [upd_ne (show c ≠ a from fun z => m (by rw [z]; exact b))]
      exact e
    have hi : i < ρ.length := by
      cases Nat.lt_or_ge i ρ.length with
      | inl z => exact z
      | inr z => rw [List.getElem?_eq_none z] at h; cases h
    refine ⟨g.fx, g.b0, g.md, fun c z => ?_, g.ext, g.new, g.kp.put (g.new a b n), ok_put g.deal b nm hh, by simp [g.re.len], fun j sv hj => ?_, fun j m dj dk c e1 e2 e3 e4 => ?_⟩
    · by_cases e : c = a
      · rw [e, upd_same]; simp
      · rw [upd_ne e]; exact g.dom c z
    · rcases get_set hj with ⟨rfl, e⟩ | ⟨nj, hj'⟩
      · cases e
        exact ⟨_, h1, .o b n upd_same (ly.mv (fun _ z => z) kb)⟩
      · obtain ⟨x, e1, e2⟩ := g.re.at_ j _ hj'
        refine ⟨x, e1, ?_⟩
        cases e2 with
        | v r => exact .v (r.mv (fun _ z => z) kb)
        | @o a2 xs2 _ b2 n2 hh2 l2 =>
          have hne : a2 ≠ a := fun z => nj (g.re.ap _ _ _ _ _ hj' h (z ▸ e1) h1)
          exact .o b2 n2 (by rw [upd_ne hne]; exact hh2) (l2.mv (fun _ z => z) kb)
        | dl e => exact .dl e
        | ex e n r => exact .ex (by rw [upd_ne (fun z => by rw [z, hh] at e; cases e)]; exact e) n (r.mv (fun _ z => z) kb)
        | @b a3 xs3 _ z m e l =>
          have e3 : a3 ≠ a := fun y => n (by rw [← y]; exact z)
          exact .b z m (by rw [upd_ne e3]; exact e) (l.mv (fun _ z => z) kb)
        | scr q => exact .scr (q.keep fun c o u e => by rw [upd_ne (fun z => by rw [z, hh] at e; cases e)]; exact e)
        | fn m e => exact .fn m (by rw [upd_ne (code_ne hh e)]; exact e)
    · have pick : ∀ (j : Nat) (dj : List PyData), (ρ.set i (some (SV.o es)))[j]? = some (some (SV.o dj)) → ∃ dj', ρ[j]? = some (some (SV.o dj')) := fun j dj e => by
        rcases get_set e with ⟨rfl, _⟩ | ⟨_, z⟩
        · exact ⟨_, h⟩
        · exact ⟨_, z⟩
      obtain ⟨_, f1⟩ := pick _ _ e1
      obtain ⟨_, f2⟩ := pick _ _ e2
      exact g.re.ap _ _ _ _ _ f1 f2 e3 e4
/-- a slot's own list becomes a value -/
theorem Go.rel (g : Go G F B H σ ρ) (i : Nat) : ∃ B', Go G F B' H σ (rel ρ i) := by
  unfold Dl.rel
  split
  · rename_i ds h
    obtain ⟨x, h1, h2⟩ := g.re.at_ i _ h
    cases h2 with
    | @o a xs _ b n hh l =>
      have hi : i < ρ.length := by
        cases Nat.lt_or_ge i ρ.length with
        | inl z => exact z
        | inr z => rw [List.getElem?_eq_none z] at h; cases h
      have lo : ∀ c, (B c ∧ c ≠ a) → B c := fun _ z => z.1
      refine ⟨fun c => B c ∧ c ≠ a, g.fx, fun c z => ⟨g.b0 c z, fun e => n (e ▸ z)⟩, g.md, fun c z => g.dom c z.1, g.ext, fun c z => g.new c z.1, g.kp, g.deal.anti fun _ z => z.1, by simp [g.re.len], fun j sv hj => ?_, fun j m dj dk c e1 e2 e3 e4 => ?_⟩
      · rcases get_set hj with ⟨rfl, e⟩ | ⟨nj, hj'⟩
        · cases e
          exact ⟨_, h1, .v (.lst (fun z => z.2 rfl) hh (l.mv lo fun _ _ _ z => z))⟩
        · obtain ⟨x, e1, e2⟩ := g.re.at_ j _ hj'
          refine ⟨x, e1, ?_⟩
          cases e2 with
          | v r => exact .v (r.mv lo fun _ _ _ z => z)
          | @o a2 xs2 _ b2 n2 hh2 l2 => exact .o ⟨b2, fun z => nj (g.re.ap _ _ _ _ _ hj' h (z ▸ e1) h1)⟩ n2 hh2 (l2.mv lo fun _ _ _ z => z)
          | dl e => exact .dl e
          | ex e n r => exact .ex e (fun z => n z.1) (r.mv lo fun _ _ _ z => z)
          | fn m e => exact .fn m e
          | b z m e l => exact .b z m e (l.mv lo fun _ _ _ z => z)
          | scr q => exact .scr q
      · rcases get_set e1 with ⟨rfl, z⟩ | ⟨_, f1⟩
        · cases z
        · rcases get_set e2 with ⟨rfl, z⟩ | ⟨_, f2⟩
          · cases z
          · exact g.re.ap _ _ _ _ _ f1 f2 e3 e4
  · exact ⟨B, g⟩
end

/-! ### statements -/
def dSet (i : Nat) (w : WE) : WS := fun E ρ => i < ρ.length ∧ w ρ fun d => E.nx (ρ.set i (some (.v d)))
def dSetO (i : Nat) (w : WE) : WS := fun E ρ => i < ρ.length ∧ w ρ fun d => ∃ ds, d = .list ds ∧ E.nx (ρ.set i (some (.o ds)))
def dRet (w : WE) : WS := fun E ρ => w ρ E.rt
def dRetN : WS := fun E _ => E.rt .none
def dDrop (w : WE) : WS := fun E ρ => w ρ fun _ => E.nx ρ
def dRel (i : Nat) (w : WS) : WS := fun E ρ => w E (rel ρ i)
def dIfS (t : WT) (w u : WS) : WS := fun E ρ => t ρ fun c => if c = true then w E ρ else u E ρ
section
variable {G : Ga} {X : Cx} {st : Stmt} {sts : List Stmt} {e c : Expr} {i : Nat} {x : Str} {w : WE} {ws us : WS} {t : WT} {pos pos' : Pos}
theorem ds_set (hN : X.N.Nodup) (hi : X.N[i]? = some x) (hx : Loc X.env.scope x) (he : DE G X e w) (hs : swapsWith e (some (.Name x pos')) pos.line X.env = pure false := by rfl) (hf : X.fn x = true ∨ X.env.scope.names.lookup x = some .local := by first | exact .inl rfl | exact .inr rfl | assumption) :
    DS G X (.Assign [.Name x pos'] e pos) (dSet i w) :=
  ⟨ps_imp (ps_set hN hi hx he.pe hs hf) fun D σ H ⟨F, B, ρ, E, g, ⟨hl, q⟩, f⟩ => ⟨F, B, ρ, g, he.mo _ _ _ (fun d q v H' k o r => f.nx _ _ _ _ q ((g.step k o).put hl (fun _ z => by cases z) (.v r))) q⟩,
   fun E E' ρ b ⟨hl, q⟩ => ⟨hl, he.mo _ _ _ (fun d q => b.nx _ q) q⟩⟩
theorem ds_setO (hN : X.N.Nodup) (hi : X.N[i]? = some x) (hx : Loc X.env.scope x) (he : DF G X e w) (hs : swapsWith e (some (.Name x pos')) pos.line X.env = pure false := by rfl) (hf : X.fn x = true ∨ X.env.scope.names.lookup x = some .local := by first | exact .inl rfl | exact .inr rfl | assumption) :
    DS G X (.Assign [.Name x pos'] e pos) (dSetO i w) :=
  ⟨ps_imp (ps_set hN hi hx he.pe hs hf) fun D σ H ⟨F, B, ρ, E, g, ⟨hl, q⟩, f⟩ => ⟨F, B, ρ, g, he.mo _ _ _ (fun d ⟨es, e1, q⟩ p xs ds H' e2 np k o hp l => by
    subst e1
    cases e2
    exact f.nx _ _ _ _ q (g.own hl np k o hp l)) q⟩,
   fun E E' ρ b ⟨hl, q⟩ => ⟨hl, he.mo _ _ _ (fun d ⟨es, e1, q⟩ => ⟨es, e1, b.nx _ q⟩) q⟩⟩
theorem ds_ret (he : DE G X e w) : DS G X (.Return (some e) pos) (dRet w) :=
  ⟨ps_imp (ps_ret he.pe) fun D σ H ⟨F, B, ρ, E, g, q, f⟩ => ⟨F, B, ρ, g, he.mo _ _ _ (fun d q v H' k o r => f.rt d v H' q (g.kp0.trans k) (o.anti g.b0) (r.back g)) q⟩, fun E E' ρ b q => he.mo _ _ _ (fun d q => b.rt _ q) q⟩
theorem ds_retN : DS G X (.Return none pos) dRetN := ⟨ps_imp ps_retN fun D σ H ⟨F, B, ρ, E, g, q, f⟩ => f.rt _ _ _ q g.kp0 (g.deal.anti g.b0) .non, fun E E' ρ b q => b.rt _ q⟩
theorem ds_pass : DS G X (.Pass pos) dNext := ⟨ps_imp ps_pass fun D σ H ⟨F, B, ρ, E, g, q, f⟩ => f.nx _ _ _ _ q g, fun E E' ρ b q => b.nx _ q⟩
theorem ds_break : DS G X (.Break pos) (fun E ρ => E.bk ρ) := ⟨ps_imp ps_break fun D σ H ⟨F, B, ρ, E, g, q, f⟩ => f.bk _ _ _ _ q g, fun E E' ρ b q => b.bk _ q⟩
theorem ds_cont : DS G X (.Continue pos) (fun E ρ => E.ct ρ) := ⟨ps_imp ps_continue fun D σ H ⟨F, B, ρ, E, g, q, f⟩ => f.ct _ _ _ _ q g, fun E E' ρ b q => b.ct _ q⟩
theorem ds_expr (he : DE G X e w) (hs : swapsWith e none pos.line X.env = pure false := by rfl) : DS G X (.Expr e pos) (dDrop w) :=
  ⟨ps_imp (ps_expr he.pe hs) fun D σ H ⟨F, B, ρ, E, g, q, f⟩ => ⟨F, B, ρ, g, he.mo _ _ _ (fun d q v H' k o r => f.nx _ _ _ _ q (g.step k o)) q⟩, fun E E' ρ b q => he.mo _ _ _ (fun d q => b.nx _ q) q⟩
theorem ds_rel (i : Nat) (h : DS G X st ws) : DS G X st (dRel i ws) :=
  ⟨ps_imp h.ps fun D σ H ⟨F, B, ρ, E, g, q, f⟩ => by
    obtain ⟨B', g'⟩ := g.rel i
    exact ⟨F, B', _, E, g', q, f⟩, fun E E' ρ b q => h.mo _ _ _ b q⟩
theorem ds_if {a b : List Stmt} (hc : DT G X c t) (ha : DSs G X a ws) (hb : DSs G X b us) : DS G X (.If c a b pos) (dIfS t ws us) :=
  ⟨ps_imp (ps_if hc.pt ha.pss hb.pss) fun D σ H ⟨F, B, ρ, E, g, q, f⟩ => ⟨F, B, ρ, g, hc.mo _ _ _ (fun c q H' k o => by
    cases c with
    | true => exact ⟨F, B, ρ, E, g.step k o, q, f⟩
    | false => exact ⟨F, B, ρ, E, g.step k o, q, f⟩) q⟩, fun E E' ρ b q => hc.mo _ _ _ (fun c q => by
    cases c with
    | true => exact ha.mo _ _ _ b q
    | false => exact hb.mo _ _ _ b q) q⟩
end
end Dl
/-! The data layer, part 6: what is walked; while, for; comprehensions; own lists changed; defs. -/
namespace Dl
open PySem PySem.Spec PyProof.Rows L2

/-! ### own lists changed by methods -/
section
variable {G : Ga} {X : Cx} {e : Expr} {es : List Expr} {i : Nat} {x : Str} {w : WE} {ws : WA} {pos pos' apos cpos : Pos}
def dApp (i : Nat) (w : WE) : WS := fun E ρ => ∃ ds, ρ[i]? = some (some (.o ds)) ∧ w ρ fun d => ds.length < sizeLine ∧ E.nx (ρ.set i (some (.o (ds ++ [d]))))
/-- x.append(e), x a list of its own -/
theorem ds_app (hv : PE X (.Name x pos') (tVar i)) (he : DE G X e w)
    (hbase : attributeBase (.Name x pos') "append" X.env (eval (.Name x pos') X.env) = eval (.Name x pos') X.env := by rfl)
    (hfew : ((backTo cpos (starEach [e] X.env)).all (fun x => !x.1) && (backToKw cpos (keywordEach [] X.env)).all (fun x => x.1.isSome)
      && decide ([e].length + ([] : List Keyword).length + (if ([] : List Keyword).isEmpty then 0 else 1) < 30)) = true := by rfl)
    (hline : (apos.endLine == cpos.line) = true := by rfl) (hs : starEach [e] X.env = (false, eval e X.env) :: starEach [] X.env := by rfl) (hplain : (backTo cpos (starEach [] X.env)).any (·.1) = false := by rfl)
    (hsw : swapsWith (.Call (.Attribute (.Name x pos') "append" apos) [e] [] cpos) none pos.line X.env = pure false := by rfl) :
    DS G X (.Expr (.Call (.Attribute (.Name x pos') "append" apos) [e] [] cpos) pos) (dApp i w) :=
  ⟨ps_imp (ps_expr (pe_bm PySem.F.plainAttrs_list PySem.F.slot_list_append PySem.F.type_list_append mt_append hv (pa_cons he.pe pa_nil hs) hbase hfew hline hs hplain) hsw) fun D σ H ⟨F, B, ρ, E, g, ⟨ds, hρ, q⟩, f⟩ => by
    obtain ⟨a, xs, h1, h2, _⟩ := g.mut (es := ds) hρ
    refine ⟨_, h1, .inl ⟨rfl, xs, .inl (.inl h2)⟩, F, B, ρ, g, he.mo _ _ _ (fun d ⟨z, q⟩ v H' k o r => ?_) q⟩
    have g' := g.step k o
    obtain ⟨a', xs', h1', h2', l', gm⟩ := g'.mut (es := ds ++ [d]) hρ
    exact ⟨a', xs', v, Option.some.inj (Option.some.inj (h1.symm.trans h1')), rfl, h2', by rw [l'.len]; exact z, f.nx _ _ _ _ q (gm _ (l'.app (.one r)))⟩,
   fun E E' ρ b ⟨ds, h, q⟩ => ⟨ds, h, he.mo _ _ _ (fun d ⟨z, q⟩ => ⟨z, b.nx _ q⟩) q⟩⟩
def dExt (i : Nat) (w : WE) : WS := fun E ρ => ∃ ds, ρ[i]? = some (some (.o ds)) ∧ w ρ fun d => ∃ es, d = .list es ∧ ds.length + es.length ≤ sizeLine ∧ E.nx (ρ.set i (some (.o (ds ++ es))))
/-- x.extend(e), e a list -/
theorem ds_ext (hv : PE X (.Name x pos') (tVar i)) (he : DE G X e w)
    (hbase : attributeBase (.Name x pos') "extend" X.env (eval (.Name x pos') X.env) = eval (.Name x pos') X.env := by rfl)
    (hfew : ((backTo cpos (starEach [e] X.env)).all (fun x => !x.1) && (backToKw cpos (keywordEach [] X.env)).all (fun x => x.1.isSome)
      && decide ([e].length + ([] : List Keyword).length + (if ([] : List Keyword).isEmpty then 0 else 1) < 30)) = true := by rfl)
    (hline : (apos.endLine == cpos.line) = true := by rfl) (hs : starEach [e] X.env = (false, eval e X.env) :: starEach [] X.env := by rfl) (hplain : (backTo cpos (starEach [] X.env)).any (·.1) = false := by rfl)
    (hsw : swapsWith (.Call (.Attribute (.Name x pos') "extend" apos) [e] [] cpos) none pos.line X.env = pure false := by rfl) :
    DS G X (.Expr (.Call (.Attribute (.Name x pos') "extend" apos) [e] [] cpos) pos) (dExt i w) :=
  ⟨ps_imp (ps_expr (pe_bm PySem.F.plainAttrs_list PySem.F.slot_list_extend PySem.F.type_list_extend mt_extend hv (pa_cons he.pe pa_nil hs) hbase hfew hline hs hplain) hsw) fun D σ H ⟨F, B, ρ, E, g, ⟨ds, hρ, q⟩, f⟩ => by
    obtain ⟨a, xs, h1, h2, _⟩ := g.mut (es := ds) hρ
    refine ⟨_, h1, .inl ⟨rfl, xs, .inl (.inl h2)⟩, F, B, ρ, g, he.mo _ _ _ (fun d ⟨es, e1, z, q⟩ v H' k o r => ?_) q⟩
    subst e1
    have g' := g.step k o
    obtain ⟨a', xs', h1', h2', l', gm⟩ := g'.mut (es := ds ++ es) hρ
    cases r with
    | @lst b ys _ n hb lb => exact ⟨a', b, xs', ys, Option.some.inj (Option.some.inj (h1.symm.trans h1')), rfl, h2', hb, by rw [l'.len, lb.len]; exact z, f.nx _ _ _ _ q (gm _ (l'.app lb))⟩,
   fun E E' ρ b ⟨ds, h, q⟩ => ⟨ds, h, he.mo _ _ _ (fun d ⟨es, e1, z, q⟩ => ⟨es, e1, z, b.nx _ q⟩) q⟩⟩
end

/-! ### while -/
def dWhile (t : WT) (wb : WS) : WS := fun E ρ => ∃ W : Nat → En → Prop, (∃ m, W m ρ) ∧ ∀ m ρ, W m ρ → t ρ fun b => if b = true then wb { E with nx := fun ρ' => ∃ m', m' < m ∧ W m' ρ', ct := fun ρ' => ∃ m', m' < m ∧ W m' ρ', bk := E.nx } ρ else E.nx ρ
section
variable {G : Ga} {X : Cx} {c : Expr} {body : List Stmt} {t : WT} {wb : WS} {pos : Pos}
theorem ds_while (hp : PassesOwn (model X.prog X.w) X.A X.env X.xe) (hc : DT G X c t) (hb : DSs G X body wb) : DS G X (.While c body [] pos) (dWhile t wb) :=
  ⟨ps_imp (ps_while hp hc.pt hb.pss) fun D σ H ⟨F, B, ρ, E, g, ⟨W, ⟨m0, w0⟩, turn⟩, f⟩ =>
    ⟨fun m σ H => ∃ B ρ, Go G F B H σ ρ ∧ W m ρ, ⟨m0, B, ρ, g, w0⟩, fun m σ H ⟨B, ρ, g, wm⟩ => ⟨F, B, ρ, g, hc.mo _ _ _ (fun b q H' k o => by
      cases b with
      | true => exact ⟨fun σ' H' => ∃ B' ρ', Go G F B' H' σ' ρ' ∧ ∃ m', m' < m ∧ W m' ρ', fun σ' H' ⟨B', ρ', g', m', l, w'⟩ => ⟨m', l, B', ρ', g', w'⟩, F, B, ρ, _, g.step k o, q,
          ⟨fun B' H' σ' ρ' z g' => ⟨B', ρ', g', z⟩, f.rt, f.nx, fun B' H' σ' ρ' z g' => ⟨B', ρ', g', z⟩⟩⟩
      | false => exact f.nx _ _ _ _ q (g.step k o)) (turn m ρ wm)⟩⟩,
   fun E E' ρ b ⟨W, w0, turn⟩ => ⟨W, w0, fun m ρ wm => hc.mo _ _ _ (fun c q => by
    cases c with
    | true => exact hb.mo { E with nx := fun ρ' => ∃ m', m' < m ∧ W m' ρ', ct := fun ρ' => ∃ m', m' < m ∧ W m' ρ', bk := E.nx } { E' with nx := fun ρ' => ∃ m', m' < m ∧ W m' ρ', ct := fun ρ' => ∃ m', m' < m ∧ W m' ρ', bk := E'.nx } ρ ⟨fun _ z => z, b.rt, b.nx, fun _ z => z⟩ q
    | false => exact b.nx _ q) (turn m ρ wm)⟩⟩
end

/-! ### what is walked -/
/-- J yields ds, from any heap that keeps F1; the items stay clear of any bar within Bar -/
def ItD (G : Ga) (Bar : Addr → Prop) (F1 : Hp) (J : It) (ds : List PyData) : Prop :=
  ∀ (B1 : Addr → Prop) (H' : Hp), G.kp F1 H' → G.ok B1 H' → ∀ i, (i < ds.length → J.go i H' ∧ ∀ x H'', J.yld i H' x H'' → G.kp H' H'' ∧ G.ok B1 H'' ∧ ∃ d, ds[i]? = some d ∧ ∀ B' : Addr → Prop, (∀ a, B' a → Bar a) → (∀ a, B' a → H' a ≠ none) → Rp B' H'' x d) ∧ (ds.length ≤ i → J.stop i H')
open Classical in
/-- what stays through a loop: all but the slots' own lists -/
noncomputable def pinH (G : Ga) (B : Addr → Prop) (H : Hp) : Hp := fun b => if B b ∧ ¬ G.B0 b then none else H b
theorem pinH_some {G : Ga} {B : Addr → Prop} {H : Hp} {b : Addr} {o : HO} (h : pinH G B H b = some o) : H b = some o ∧ ¬ (B b ∧ ¬ G.B0 b) := by
  unfold pinH at h
  split at h
  · cases h
  · rename_i n; exact ⟨h, n⟩
theorem pinH_of {G : Ga} {B : Addr → Prop} {H : Hp} {b : Addr} (n : ¬ (B b ∧ ¬ G.B0 b)) : pinH G B H b = H b := by
  unfold pinH; rw [if_neg n]
theorem pinH_none {G : Ga} {B : Addr → Prop} {H : Hp} {b : Addr} (h : B b) (n : ¬ G.B0 b) : pinH G B H b = none := by
  unfold pinH; rw [if_pos ⟨h, n⟩]
section
variable {G : Ga} {F : Hp} {B : Addr → Prop} {H : Hp} {σ : L2.St} {ρ : En}
/-- into a loop -/
theorem Go.pin (g : Go G F B H σ ρ) (hf : ∀ F, G.fx F) : Go G (pinH G B H) B H σ ρ where
  fx := hf _
  b0 := g.b0
  md := g.md
  dom := g.dom
  ext := g.kp0.congr fun a h => pinH_of fun z => (Kp.some g.ext (fun m => z.2 (g.md a m)) h) (g.new a z.1 z.2)
  new := fun a z n => pinH_none z n
  kp := .all fun a o h => (pinH_some h).1
  deal := g.deal
  re := g.re
/-- out of a loop -/
theorem Go.unpin {B' : Addr → Prop} {H' : Hp} {σ' : L2.St} {ρ' : En} (g : Go G F B H σ ρ) (g' : Go G (pinH G B H) B' H' σ' ρ') : Go G F B' H' σ' ρ' where
  fx := g.fx
  b0 := g'.b0
  md := g'.md
  dom := g'.dom
  ext := g.ext
  new := fun a z n => by
    have h := g'.new a z n
    cases e : F a with
    | none => rfl
    | some o =>
      have h2 : H a ≠ none := g.kp.some (fun m => n (g.md a m)) (by rw [e]; simp)
      by_cases y : B a ∧ ¬ G.B0 a
      · have := g.new a y.1 y.2
        rw [this] at e; cases e
      · rw [pinH_of y] at h; exact absurd h h2
  kp := (g.kp.congr fun a h => pinH_of fun z => h (g.new a z.1 z.2)).trans g'.kp
  deal := g'.deal
  re := g'.re
theorem Mv.pinned (hb : ∀ a, G.B0 a → B a) : Mv B (fun a => G.B0 a ∨ pinH G B H a = none) H (pinH G B H) :=
  ⟨fun a o m r z => by
    have e : pinH G B H a = H a := pinH_of (fun z => m z.1)
    exact z.elim (fun z => m (hb _ z)) (fun z => by rw [e, r] at z; cases z), .of fun a o m r => (pinH_of (fun z => m z.1)).trans r⟩
theorem Rp.pinned (hb : ∀ a, G.B0 a → B a) (d : PyData) (v : V) (h : Rp B H v d) : Rp (fun a => G.B0 a ∨ pinH G B H a = none) (pinH G B H) v d := h.go (.pinned hb)
theorem RpL.pinned (hb : ∀ a, G.B0 a → B a) (ds : List PyData) (vs : List V) (h : RpL B H vs ds) : RpL (fun a => G.B0 a ∨ pinH G B H a = none) (pinH G B H) vs ds := h.go (.pinned hb)
theorem Mv.inner : Mv B (fun a => B a ∨ H a = none) H H := ⟨fun a o m r z => z.elim m (fun z => by rw [r] at z; cases z), .of fun _ _ _ z => z⟩
theorem Rp.inner (d : PyData) (v : V) (h : Rp B H v d) : Rp (fun a => B a ∨ H a = none) H v d := h.go .inner
theorem RpL.inner (ds : List PyData) (vs : List V) (h : RpL B H vs ds) : RpL (fun a => B a ∨ H a = none) H vs ds := h.go .inner
end
abbrev WI := En → (List PyData → Prop) → Prop
def MoI (w : WI) : Prop := ∀ ρ (Q Q' : List PyData → Prop), (∀ d, Q d → Q' d) → w ρ Q → w ρ Q'
/-- walked by a statement -/
def lis (G : Ga) (w : WI) : TI := fun σ H R => ∃ F B ρ, Go G F B H σ ρ ∧ w ρ fun ds => ∀ J H', G.kp H H' → G.ok B H' → ItD G (fun a => G.B0 a ∨ pinH G B H' a = none) (pinH G B H') J ds → R J H'
/-- walked by a comprehension -/
def lic (G : Ga) (w : WI) : TI := fun σ H R => ∃ F B ρ, Go G F B H σ ρ ∧ w ρ fun ds => ∀ J H', G.kp H H' → G.ok B H' → ItD G (fun a => B a ∨ H' a = none) H' J ds → R J H'
structure DI (G : Ga) (X : Cx) (tg e : Expr) (w : WI) : Prop where
  pi : PI X tg e (lis G w)
  mo : MoI w
structure DIc (G : Ga) (X : Cx) (tg e : Expr) (w : WI) : Prop where
  pi : PI X tg e (lic G w)
  mo : MoI w
theorem pi_imp {X : Cx} {tg e : Expr} {t t' : TI} (h : PI X tg e t) (i : ∀ σ H R, t' σ H R → t σ H R) : PI X tg e t' := ⟨fun pins s σ H R I q => h.run pins s σ H R I (i σ H R q)⟩
section
variable {G : Ga} {X : Cx} {tg l : Expr} {tl : TE}
/-- a list or a tuple, whichever it is -/
theorem pi_seq (hl : PE X l tl) : PI X tg l (fun σ H R => tl σ H fun x H1 => ∃ a xs, x = .ref a ∧ ((SqL X.K H1 a xs ∧ R (Itl X.K a) H1) ∨ (SqT X.K H1 a xs ∧ R (Itt X.K a) H1))) := by
  refine ⟨fun pins s σ H R I h => thn (hl.run pins s σ H _ I h) fun v s1 ⟨x, H1, I1, r1, q1⟩ => ?_⟩
  obtain ⟨a, xs, rfl, ⟨hq, q⟩ | ⟨hq, q⟩⟩ := q1
  · cases r1
    obtain ⟨its, rv, p, hz⟩ := I1.list hq
    refine wpAny_pyIter_list p.isList ⟨s1.heap.objs.size, [s1.heap.objs.size], _, _, H1, rfl, I1.kept (t' := s1.toks) fun b o e => Heap.get?_push_of_some _ e, turn_list a _, ⟨_, Heap.get?_push_size _ rfl, rfl, rfl⟩, fun b hb => ?_, q⟩
    cases List.mem_singleton.mp hb
    exact I1.fpOk (Nat.le_refl _) I1.fresh
  · cases r1
    obtain ⟨its, rv, p, hz⟩ := I1.tuple hq
    refine wpAny_pyIter_tuple (show s1.heap.IsTuple a its.toArray from p) ⟨s1.heap.objs.size, [s1.heap.objs.size], _, _, H1, rfl, I1.kept (t' := s1.toks) fun b o e => Heap.get?_push_of_some _ e, turn_tuple a _, ⟨_, Heap.get?_push_size _ rfl, rfl, rfl⟩, fun b hb => ?_, q⟩
    cases List.mem_singleton.mp hb
    exact I1.fpOk (Nat.le_refl _) I1.fresh
end
def iSeq (w : WE) : WI := fun ρ Q => w ρ fun d => ∃ ds, (d = .list ds ∨ d = .tuple ds) ∧ Q ds
theorem mo_iSeq {w : WE} (h : Mo w) : MoI (iSeq w) := fun _ _ _ m q => h _ _ _ (fun d ⟨ds, e, q⟩ => ⟨ds, e, m _ q⟩) q
section
variable {G : Ga} {X : Cx} {tg l : Expr} {w : WE} {F1 : Hp} {Bar : Addr → Prop} {K : PySem.W.Frag}
theorem kx_of {H' : Hp} (mb : ∀ a, Md G.dl a → Bar a) (k : G.kp F1 H') : Kx Bar F1 H' := ⟨fun a o n s h => k.k a o (fun z => n (mb _ z)) s h, fun a q _ h => k.d a q h⟩
theorem it_list {a : Addr} {xs : List V} {ds : List PyData} (mb : ∀ a, Md G.dl a → Bar a) (hs : ∀ H', G.kp F1 H' → H' a = some (.lst xs)) (l : RpL Bar F1 xs ds) : ItD G Bar F1 (Itl K a) ds := fun B1 H' k o i =>
  ⟨fun hi => by
    obtain ⟨v, hv, _⟩ := l.get (i := i) (List.getElem?_eq_getElem hi)
    refine ⟨⟨xs, v, .of (hs H' k), hv⟩, fun x H'' ⟨e, y⟩ => ?_⟩
    subst e
    obtain ⟨d, hd, r⟩ := l.getv (y xs (.of (hs _ k)))
    exact ⟨.refl, o, d, hd, fun B' hB _ => r.mx hB (kx_of mb k)⟩,
   fun hi => ⟨xs, .of (hs H' k), by rw [l.len]; exact hi⟩⟩
theorem it_tup {a : Addr} {xs : List V} {ds : List PyData} (mb : ∀ a, Md G.dl a → Bar a) (hs : ∀ H', G.kp F1 H' → H' a = some (.tup xs)) (l : RpL Bar F1 xs ds) : ItD G Bar F1 (Itt K a) ds := fun B1 H' k o i =>
  ⟨fun hi => by
    obtain ⟨v, hv, _⟩ := l.get (i := i) (List.getElem?_eq_getElem hi)
    refine ⟨⟨xs, v, .of (hs H' k), hv⟩, fun x H'' ⟨e, y⟩ => ?_⟩
    subst e
    obtain ⟨d, hd, r⟩ := l.getv (y xs (.of (hs _ k)))
    exact ⟨.refl, o, d, hd, fun B' hB _ => r.mx hB (kx_of mb k)⟩,
   fun hi => ⟨xs, .of (hs H' k), by rw [l.len]; exact hi⟩⟩
theorem it_rng {lo : Int} {n : Nat} : ItD G Bar F1 (Itr lo n) ((List.range n).map fun (i : Nat) => .int (lo + i)) := fun B1 H' k o i =>
  ⟨fun hi => by
    have hi' : i < n := by simpa using hi
    refine ⟨hi', fun x H'' ⟨e, y⟩ => ?_⟩
    subst e y
    exact ⟨.refl, o, .int (lo + i), by simp [hi'], fun B' _ _ => .int _⟩,
   fun hi => show n ≤ i by simpa using hi⟩
theorem di_seq (h : DE G X l w) : DI G X tg l (iSeq w) :=
  ⟨pi_imp (pi_seq h.pe) fun σ H R ⟨F, B, ρ, g, q⟩ => ⟨F, B, ρ, g, h.mo _ _ _ (fun d ⟨ds, e, q⟩ v H' k o r => by
    have g' := g.step k o
    have mb : ∀ a, Md G.dl a → (G.B0 a ∨ pinH G B H' a = none) := fun a z => .inl (g.md a z)
    rcases e with rfl | rfl
    · have r2 := Rp.pinned g.b0 _ _ r
      cases r2 with
      | @lst a xs _ n e l =>
        refine ⟨a, xs, rfl, .inl ⟨.of (pinH_some e).1, q _ _ k o (it_list mb (fun H2 k2 => k2 a _ (fun z => n (mb _ z)) e) l)⟩⟩
    · have r2 := Rp.pinned g.b0 _ _ r
      cases r2 with
      | @tup a xs _ n e l =>
        refine ⟨a, xs, rfl, .inr ⟨.of (pinH_some e).1, q _ _ k o (it_tup mb (fun H2 k2 => k2 a _ (fun z => n (mb _ z)) e) l)⟩⟩) q⟩, mo_iSeq h.mo⟩
theorem dic_seq (h : DB G X l w) : DIc G X tg l (iSeq w) :=
  ⟨pi_imp (pi_seq h.pe) fun σ H R ⟨F, B, ρ, g, q⟩ => ⟨F, B, ρ, g, h.mo _ _ _ (fun d ⟨ds, e, q⟩ v H' k o r => by
    have mb : ∀ a, Md G.dl a → (B a ∨ H' a = none) := fun a z => .inl (g.b0 _ (g.md a z))
    rcases e with rfl | rfl
    · have : ∃ a xs, v = .ref a ∧ ¬ Md G.dl a ∧ H' a = some (.lst xs) ∧ RpL B H' xs ds := by
        rcases r with r | ⟨a, xs, ds', e1, e2, _, m, e, l⟩
        · cases r with
          | lst n e l => exact ⟨_, _, rfl, fun z => n (g.b0 _ (g.md _ z)), e, l⟩
        · cases e2; exact ⟨_, _, e1, m, e, l⟩
      obtain ⟨a, xs, rfl, m, e, l⟩ := this
      exact ⟨a, xs, rfl, .inl ⟨.of e, q _ _ k o (it_list mb (fun H2 k2 => k2 a _ m e) (RpL.inner _ _ l))⟩⟩
    · obtain ⟨a, xs, rfl, n, e, l⟩ := rb_tup' r
      exact ⟨a, xs, rfl, .inr ⟨.of e, q _ _ k o (it_tup mb (fun H2 k2 => k2 a _ (fun z => n (g.b0 _ (g.md _ z))) e) (RpL.inner _ _ l))⟩⟩) q⟩, mo_iSeq h.mo⟩
/-! range(n), range(a, b) -/
def iR1 (w : WE) : WI := fun ρ Q => w ρ fun d => ∃ j : Int, d = .int j ∧ (-(2 ^ 62) ≤ j ∧ j < 2 ^ 62) ∧ Q ((List.range j.toNat).map fun (i : Nat) => .int (0 + i))
def iR2 (w w2 : WE) : WI := fun ρ Q => w ρ fun d => w2 ρ fun d2 => ∃ i j : Int, d = .int i ∧ d2 = .int j ∧ (-(2 ^ 62) ≤ i ∧ i < 2 ^ 62 ∧ -(2 ^ 62) ≤ j ∧ j < 2 ^ 62) ∧ Q ((List.range (j - i).toNat).map fun (k : Nat) => .int (i + k))
variable {a b : Expr} {wa wb : WE} {p pos : Pos}
theorem di_r1 (hm : X.mg "range" = none) (ha : DE G X a wa) (hg : Gl X "range" := by rfl) (hs : starEach [a] X.env = [(false, eval a X.env)] := by rfl) (hs' : starEach [a] X.env = (false, eval a X.env) :: starEach [] X.env := by rfl) : DI G X tg (.Call (.Name "range" p) [a] [] pos) (iR1 wa) :=
  ⟨pi_imp (pi_range1 hg hm (pa_cons ha.pe pa_nil hs') hs) fun σ H R ⟨F, B, ρ, g, q⟩ => ⟨F, B, ρ, g, ha.mo _ _ _ (fun d ⟨j, e, z, q⟩ v H' k o r => by
    subst e
    cases r
    exact ⟨j, rfl, z.1, z.2, q _ _ k o it_rng⟩) q⟩, fun _ _ _ m q => ha.mo _ _ _ (fun d ⟨j, e, z, q⟩ => ⟨j, e, z, m _ q⟩) q⟩
theorem dic_r1 (hm : X.mg "range" = none) (ha : DE G X a wa) (hg : Gl X "range" := by rfl) (hs : starEach [a] X.env = [(false, eval a X.env)] := by rfl) (hs' : starEach [a] X.env = (false, eval a X.env) :: starEach [] X.env := by rfl) : DIc G X tg (.Call (.Name "range" p) [a] [] pos) (iR1 wa) :=
  ⟨pi_imp (pi_range1 hg hm (pa_cons ha.pe pa_nil hs') hs) fun σ H R ⟨F, B, ρ, g, q⟩ => ⟨F, B, ρ, g, ha.mo _ _ _ (fun d ⟨j, e, z, q⟩ v H' k o r => by
    subst e
    cases r
    exact ⟨j, rfl, z.1, z.2, q _ _ k o it_rng⟩) q⟩, fun _ _ _ m q => ha.mo _ _ _ (fun d ⟨j, e, z, q⟩ => ⟨j, e, z, m _ q⟩) q⟩
end
end Dl
/-! The data layer, part 7: targets, for, comprehensions. -/
namespace Dl
open PySem PySem.Spec PyProof.Rows L2

/-! ### targets -/
abbrev WTg := PyData → En → (En → Prop) → Prop
def MoTg (g : WTg) : Prop := ∀ d ρ (Q Q' : En → Prop), (∀ ρ, Q ρ → Q' ρ) → g d ρ Q → g d ρ Q'
/-- the slots at T alone may change -/
def Off (T : List Nat) (σ σ' : L2.St) : Prop := σ'.length = σ.length ∧ ∀ j, j ∉ T → σ'[j]? = σ[j]?
theorem Off.refl {T : List Nat} {σ : L2.St} : Off T σ σ := ⟨rfl, fun _ _ => rfl⟩
theorem Off.trans {T T' : List Nat} {a b c : L2.St} (h : Off T a b) (h' : Off T' b c) : Off (T ++ T') a c :=
  ⟨h'.1.trans h.1, fun j n => (h'.2 j (fun z => n (List.mem_append_right _ z))).trans (h.2 j (fun z => n (List.mem_append_left _ z)))⟩
def ltg (G : Ga) (T : List Nat) (g : WTg) : TG := fun v σ H Q => ∃ F B ρ d, Go G F B H σ ρ ∧ Rp B H v d ∧ g d ρ fun ρ' => ∀ σ' H' B', Go G F B' H' σ' ρ' → Off T σ σ' → Kx B H H' → (∀ a, B' a → B a) → Q σ' H'
structure DTg (G : Ga) (X : Cx) (T : List Nat) (e : Expr) (g : WTg) : Prop where
  pg : PG X e (ltg G T g)
  mo : MoTg g
theorem pg_imp {X : Cx} {e : Expr} {t t' : TG} (h : PG X e t) (i : ∀ v σ H Q, t' v σ H Q → t v σ H Q) : PG X e t' := ⟨fun pins s σ H v u Q I r q => h.run pins s σ H v u Q I r (i v σ H Q q)⟩
theorem pgs_imp {X : Cx} {e : List Expr} {t t' : TGs} (h : PGs X e t) (i : ∀ v σ H Q, t' v σ H Q → t v σ H Q) : PGs X e t' := ⟨fun pins s σ H v u Q I r q => h.run pins s σ H v u Q I r (i v σ H Q q)⟩
abbrev WTgs := List PyData → En → (En → Prop) → Prop
def ltgs (G : Ga) (T : List Nat) (g : WTgs) : TGs := fun vs σ H Q => ∃ F B ρ ds, Go G F B H σ ρ ∧ RpL B H vs ds ∧ g ds ρ fun ρ' => ∀ σ' H' B', Go G F B' H' σ' ρ' → Off T σ σ' → Kx B H H' → (∀ a, B' a → B a) → Q σ' H'
structure DTgs (G : Ga) (X : Cx) (T : List Nat) (e : List Expr) (g : WTgs) : Prop where
  pg : PGs X e (ltgs G T g)
  mo : ∀ d ρ (Q Q' : En → Prop), (∀ ρ, Q ρ → Q' ρ) → g d ρ Q → g d ρ Q'
def tgName (i : Nat) : WTg := fun d ρ Q => i < ρ.length ∧ Q (ρ.set i (some (.v d)))
def tgNil : WTgs := fun ds ρ Q => ds = [] ∧ Q ρ
def tgCons (g : WTg) (gs : WTgs) : WTgs := fun ds ρ Q => ∃ d r, ds = d :: r ∧ g d ρ fun ρ' => gs r ρ' Q
def tgTup (n : Nat) (gs : WTgs) : WTg := fun d ρ Q => ∃ ds, d = .tuple ds ∧ ds.length = n ∧ gs ds ρ Q
section
variable {G : Ga} {X : Cx} {e : Expr} {es : List Expr} {g : WTg} {gs : WTgs} {T T' : List Nat} {i : Nat} {x : Str} {pos : Pos}
theorem tg_name (hN : X.N.Nodup) (hi : X.N[i]? = some x) (hx : Loc X.env.scope x) (hf : X.fn x = true ∨ X.env.scope.names.lookup x = some .local := by first | exact .inl rfl | exact .inr rfl | assumption) : DTg G X [i] (.Name x pos) (tgName i) :=
  ⟨pg_imp (pg_name hN hi hx hf) fun v σ H Q ⟨F, B, ρ, d, g, r, hl, q⟩ => q _ _ _ (g.put hl (fun _ z => by cases z) (.v r)) ⟨by simp, fun j n => by rw [List.getElem?_set_ne (fun z => n (by rw [z]; exact List.mem_singleton.mpr rfl))]⟩ (.of fun _ _ _ z => z) (fun _ z => z),
   fun d ρ Q Q' m ⟨hl, q⟩ => ⟨hl, m _ q⟩⟩
theorem tgs_nil : DTgs G X [] [] tgNil := ⟨pgs_imp pgs_nil fun v σ H Q ⟨F, B, ρ, d, g, r, e, q⟩ => by
  subst e; cases r; exact ⟨rfl, q _ _ _ g .refl (.of fun _ _ _ z => z) (fun _ z => z)⟩, fun d ρ Q Q' m ⟨e, q⟩ => ⟨e, m _ q⟩⟩
theorem tgs_cons (h1 : DTg G X T e g) (h2 : DTgs G X T' es gs) (hs : (assignEach (e :: es) X.env).map (·.2) = assign e X.env :: (assignEach es X.env).map (·.2) := by rfl) : DTgs G X (T ++ T') (e :: es) (tgCons g gs) :=
  ⟨pgs_imp (pgs_cons h1.pg h2.pg hs) fun v σ H Q ⟨F, B, ρ, ds, g, r, d, dr, e, q⟩ => by
    subst e
    cases r with
    | cons r1 r2 =>
      refine ⟨_, _, rfl, F, B, ρ, d, g, r1, h1.mo _ _ _ _ (fun ρ' q σ' H' B' g' o' k' b' => ⟨F, B', ρ', dr, g', r2.mx b' k', h2.mo _ _ _ _ (fun ρ2 q σ2 H2 B2 g2 o2 k2 b2 => q σ2 H2 B2 g2 (o'.trans o2) (k'.tr b' k2) fun a z => b' a (b2 a z)) q⟩) q⟩, fun d ρ Q Q' m ⟨d1, r, e, q⟩ => ⟨d1, r, e, h1.mo _ _ _ _ (fun ρ' q => h2.mo _ _ _ _ m q) q⟩⟩
theorem tg_tup {k n : Nat} (hc : X.calm = true) (h : DTgs G X T es gs) (hn : (assignEach es X.env).length = n := by rfl) (hst : (assignEach es X.env).findIdx? (·.1) = none := by rfl) : DTg G X T (.Tuple es k pos) (tgTup n gs) :=
  ⟨pg_imp (pg_tup hc h.pg hn hst) fun v σ H Q ⟨F, B, ρ, d, g, r, ds, e, hl, q⟩ => by
    subst e
    cases r with
    | @tup a xs _ m ha l => exact ⟨a, xs, rfl, .of ha, by rw [l.len]; exact hl, F, B, ρ, ds, g, l, q⟩, fun d ρ Q Q' m ⟨ds, e, hl, q⟩ => ⟨ds, e, hl, h.mo _ _ _ _ m q⟩⟩
/-- found[k] = .., found a list of its own -/
def tgSub (i : Nat) (wi : WE) : WTg := fun d ρ Q => ∃ ds, ρ[i]? = some (some (.o ds)) ∧ wi ρ fun ix => ∃ k j, ix = .int k ∧ ixN ds.length k = some j ∧ Q (ρ.set i (some (.o (ds.set j d))))
theorem tg_sub {b : Expr} {wi : WE} {pos' : Pos} (hv : PE X (.Name x pos') (tVar i)) (hb : DE G X b wi)
    (ha : ∀ v, assign (.Subscript (.Name x pos') b pos) X.env v = (do
      let ov ← holding [v] (eval (.Name x pos') X.env)
      let iv ← holding [v, ov] (eval b X.env)
      standAt pos
      holding [v, ov, iv] (setItem ov iv v)
      release [v, ov, iv] []) := by intro _; rfl) : DTg G X [] (.Subscript (.Name x pos') b pos) (tgSub i wi) :=
  ⟨pg_imp (pg_sub hv hb.pe set_list ha) fun v σ H Q ⟨F, B, ρ, d, g, r, ds, hρ, q⟩ => by
    obtain ⟨a, xs, h1, h2, _⟩ := g.mut (es := ds) hρ
    refine ⟨_, h1, F, B, ρ, g, hb.mo _ _ _ (fun ix ⟨k, j, e, hj, q⟩ v2 H' k1 o1 r1 => ?_) q⟩
    subst e
    cases r1
    have g' := g.step k1 o1
    obtain ⟨a', xs', h1', h2', l', gm⟩ := g'.mut (es := ds.set j d) hρ
    have r' : Rp B H' v d := r.step g k1
    have ea : a = a' := by
      have := h1.symm.trans h1'
      injection this with this
      injection this with this
      injection this
    subst ea
    refine ⟨a, xs', k, j, rfl, rfl, h2', by rw [l'.len]; exact hj, q _ _ _ (gm _ (RpL.set r' j l')) .refl ((g.kb k1).tr (fun _ z => z) (.of fun b o m e => ?_)) fun _ z => z⟩
    have hne : b ≠ a := fun z => by
      obtain ⟨y, e1, e2⟩ := g.re.at_ i _ hρ
      rw [h1] at e1
      cases e1
      cases e2 with
      | o bb _ _ _ => exact m (by rw [z]; exact bb)
    rw [upd_ne hne]
    exact e, fun d ρ Q Q' m ⟨ds, h, q⟩ => ⟨ds, h, hb.mo _ _ _ (fun ix ⟨k, j, e, hj, q⟩ => ⟨k, j, e, hj, m _ q⟩) q⟩⟩
end

/-! ### target = value -/
def dAsg (w : WE) (gt : WTg) : WS := fun E ρ => w ρ fun d => gt d ρ E.nx
section
variable {G : Ga} {X : Cx} {e tg : Expr} {w wa wb : WE} {gt : WTg} {T : List Nat} {pos : Pos} {i j : Nat}
theorem ds_asg (he : DE G X e w) (hg : DTg G X T tg gt) (hs : swapsWithSole [tg] e pos.line X.env = pure false := by rfl) (hw : swappedStores [tg] e X.env = pure none := by rfl)
    (h1 : (assignEach [tg] X.env).map (·.2) = [assign tg X.env] := by rfl) : DS G X (.Assign [tg] e pos) (dAsg w gt) :=
  ⟨ps_imp (ps_asg he.pe hg.pg hs hw h1) fun D σ H ⟨F, B, ρ, E, g, q, f⟩ => ⟨F, B, ρ, g, he.mo _ _ _ (fun d q v H' k o r => ⟨F, B, ρ, d, g.step k o, r, hg.mo _ _ _ _ (fun ρ' z σ' H2 B' g' _ _ _ => f.nx _ _ _ _ z g') q⟩) q⟩,
   fun E E' ρ b q => he.mo _ _ _ (fun d q => hg.mo _ _ _ _ b.nx q) q⟩
/-- a, b = x, y of plain local names -/
def dPar (i j : Nat) (wa wb : WE) : WS := fun E ρ => i < ρ.length ∧ j < ρ.length ∧ wa ρ fun d => wb ρ fun d2 => E.nx ((ρ.set i (some (.v d))).set j (some (.v d2)))
theorem ds_par {x y : Str} {a b : Expr} {px py pt : Pos} {kt k2 pt2} (hc : X.calm = true) (hN : X.N.Nodup) (hi : X.N[i]? = some x) (hj : X.N[j]? = some y) (hij : i ≠ j)
    (hx : X.env.scope.names.lookup x = some .local) (hy : X.env.scope.names.lookup y = some .local) (ha : DE G X a wa) (hb : DE G X b wb)
    (hw : swappedStores [.Tuple [.Name x px, .Name y py] kt pt] (.Tuple [a, b] k2 pt2) X.env = pure (some [x, y]))
    (hs : swapsWithSole [.Tuple [.Name x px, .Name y py] kt pt] (.Tuple [a, b] k2 pt2) pos.line X.env = pure false := by rfl)
    (s1 : starEach [a, b] X.env = (false, eval a X.env) :: starEach [b] X.env := by rfl) (s2 : starEach [b] X.env = (false, eval b X.env) :: starEach [] X.env := by rfl) :
    DS G X (.Assign [.Tuple [.Name x px, .Name y py] kt pt] (.Tuple [a, b] k2 pt2) pos) (dPar i j wa wb) :=
  ⟨ps_imp (ps_par hc hN hi hj hij hx hy (da_cons ha (da_cons hb da_nil s2) s1).pa hw hs) fun D σ H ⟨F, B, ρ, E, g, ⟨hi, hj, q⟩, f⟩ => ⟨F, B, ρ, g, ha.mo _ _ _ (fun d q => hb.mo _ _ _ (fun d2 q vs H' k o l => by
    cases l with
    | cons r1 l =>
      cases l with
      | cons r2 l =>
        cases l
        exact ⟨_, _, rfl, f.nx _ _ _ _ q (((g.step k o).put hi (fun _ z => by cases z) (.v r1)).put (by simpa using hj) (fun _ z => by cases z) (.v r2))⟩) q) q⟩,
   fun E E' ρ b ⟨hi, hj, q⟩ => ⟨hi, hj, ha.mo _ _ _ (fun d q => hb.mo _ _ _ (fun d2 q => b.nx _ q) q) q⟩⟩
end

/-! ### for -/
def dFor (wi : WI) (gt : WTg) (wb : WS) : WS := fun E ρ => wi ρ fun ds => ∃ P : Nat → En → Prop, P 0 ρ ∧
  (∀ i ρ, P i ρ → ∀ h : i < ds.length, gt ds[i] ρ fun ρ' => wb { E with nx := P (i + 1), ct := P (i + 1), bk := E.nx } ρ') ∧ ∀ ρ, P ds.length ρ → E.nx ρ
section
variable {G : Ga} {X : Cx} {iter tg : Expr} {body : List Stmt} {wi : WI} {gt : WTg} {wb : WS} {T : List Nat} {pos : Pos}
theorem ds_for (hp : PassesOwn (model X.prog X.w) X.A X.env X.xe) (hf : ∀ F, G.fx F) (hc : X.calm = true) (hi : DI G X tg iter wi) (hg : DTg G X T tg gt) (hb : DSs G X body wb)
    (hs : ∀ x, foldedSetIterable iter X.env x = pure x := by intro _; rfl) : DS G X (.For tg iter body [] pos) (dFor wi gt wb) :=
  ⟨ps_imp (ps_for hp hc hi.pi hg.pg hb.pss hs) fun D σ H ⟨F, B, ρ, E, g, q, f⟩ => ⟨F, B, ρ, g, hi.mo _ _ _ (fun ds ⟨P, p0, turn, fin⟩ J H1 k o it => by
    have g1 := g.step k o
    refine ⟨fun i m σ H => ∃ B' ρ', Go G (pinH G B H1) B' H σ ρ' ∧ P i ρ' ∧ i ≤ ds.length ∧ m = ds.length - i, ⟨ds.length, B, ρ, g1.pin hf, p0, Nat.zero_le _, rfl⟩, fun i m σ' H' ⟨B', ρ', g', pi, hle, hm⟩ => ?_⟩
    have z := it _ H' g'.kp g'.deal i
    by_cases hlt : i < ds.length
    · refine .inr ⟨(z.1 hlt).1, fun σ' H' => ∃ B' ρ', Go G (pinH G B H1) B' H' σ' ρ' ∧ P (i + 1) ρ', fun σ2 H2 ⟨B2, ρ2, g2, p2⟩ => ⟨ds.length - (i + 1), by omega, B2, ρ2, g2, p2, hlt, rfl⟩, fun x H'' y => ?_⟩
      obtain ⟨k2, o2, d, hd, r⟩ := (z.1 hlt).2 x H'' y
      have r2 : Rp B' H'' x d := r B' (fun a ha => by
        by_cases h0 : G.B0 a
        · exact .inl h0
        · exact .inr (g'.new a ha h0)) g'.dom
      have ed : d = ds[i] := by
        rw [List.getElem?_eq_getElem hlt] at hd
        exact (Option.some.inj hd).symm
      subst ed
      exact ⟨_, B', ρ', _, g'.step k2 o2, r2, hg.mo _ _ _ _ (fun ρ2 q σ2 H2 B2 g2 _ _ _ => ⟨_, B2, ρ2, { E with nx := P (i + 1), ct := P (i + 1), bk := E.nx }, g2, q, ⟨fun B3 H3 σ3 ρ3 z g3 => ⟨B3, ρ3, g3, z⟩, f.rt, fun B3 H3 σ3 ρ3 z g3 => f.nx _ _ _ _ z (g1.unpin g3), fun B3 H3 σ3 ρ3 z g3 => ⟨B3, ρ3, g3, z⟩⟩⟩) (turn i ρ' pi hlt)⟩
    · have e : i = ds.length := by omega
      subst e
      exact .inl ⟨z.2 (Nat.le_refl _), f.nx _ _ _ _ (fin _ pi) (g1.unpin g')⟩) q⟩,
   fun E E' ρ b q => hi.mo _ _ _ (fun ds ⟨P, p0, turn, fin⟩ => ⟨P, p0, fun i ρ pi hl => hg.mo _ _ _ _ (fun ρ' q => hb.mo { E with nx := P (i + 1), ct := P (i + 1), bk := E.nx } { E' with nx := P (i + 1), ct := P (i + 1), bk := E'.nx } ρ' ⟨fun _ z => z, b.rt, b.nx, fun _ z => z⟩ q) (turn i ρ pi hl), fun ρ p => b.nx _ (fin ρ p)⟩) q⟩
end

/-! ### comprehensions: one for -/
def Ga.qt (G : Ga) : Ga := { G with xd := fun _ _ _ => False, fx := fun _ => True }
theorem Go.qt {G : Ga} {F : Hp} {B : Addr → Prop} {H : Hp} {σ : L2.St} {ρ : En} (g : Go G F B H σ ρ) : Go G.qt F B H σ ρ := ⟨trivial, g.b0, g.md, g.dom, g.ext, g.new, g.kp, g.deal, g.re⟩
theorem Go.unqt {G : Ga} {F : Hp} {B : Addr → Prop} {H : Hp} {σ : L2.St} {ρ : En} (g : Go G.qt F B H σ ρ) (h : G.fx F) : Go G F B H σ ρ := ⟨h, g.b0, g.md, g.dom, g.ext, g.new, g.kp, g.deal, g.re⟩
def wipeD (ρ : En) : List Nat → En
  | [] => ρ
  | v :: vs => (wipeD ρ vs).set v none
theorem wipeD_len (ρ : En) : ∀ vs : List Nat, (wipeD ρ vs).length = ρ.length
  | [] => rfl
  | v :: vs => by unfold wipeD; rw [List.length_set, wipeD_len ρ vs]
theorem wipeD_some {ρ : En} {i : Nat} {x : SV} : ∀ {vs : List Nat}, (wipeD ρ vs)[i]? = some (some x) → ρ[i]? = some (some x) ∧ i ∉ vs
  | [], h => ⟨h, by simp⟩
  | v :: vs, h => by
    unfold wipeD at h
    rcases get_set h with ⟨_, e⟩ | ⟨n, h⟩
    · cases e
    · obtain ⟨h1, h2⟩ := wipeD_some h
      exact ⟨h1, by simp only [List.mem_cons, not_or]; exact ⟨n, h2⟩⟩
theorem wipe_off {σ : L2.St} {i : Nat} : ∀ {vs : List Nat}, i ∉ vs → (wipe σ vs)[i]? = σ[i]?
  | [], _ => rfl
  | v :: vs, n => by
    unfold wipe
    rw [List.getElem?_set_ne (fun z => n (by rw [z]; exact List.mem_cons_self))]
    exact wipe_off fun z => n (List.mem_cons_of_mem _ z)
theorem wipe_on {σ : L2.St} {i : Nat} : ∀ {vs : List Nat}, i ∈ vs → (wipe σ vs)[i]? = if i < σ.length then some none else none
  | [], h => by cases h
  | v :: vs, h => by
    unfold wipe
    by_cases e : v = i
    · subst e
      by_cases l : v < σ.length
      · rw [List.getElem?_set_self (by rw [wipe_length]; exact l), if_pos l]
      · rw [List.getElem?_eq_none (by rw [List.length_set, wipe_length]; omega), if_neg l]
    · rw [List.getElem?_set_ne e]
      exact wipe_on ((List.mem_cons.mp h).resolve_left (Ne.symm e))
theorem wipe_same {σ σ' : L2.St} {T vs : List Nat} (o : Off T σ σ') (h : ∀ i ∈ T, i ∈ vs) : wipe σ' vs = wipe σ vs := by
  apply List.ext_getElem?
  intro i
  by_cases hi : i ∈ vs
  · rw [wipe_on hi, wipe_on hi, o.1]
  · rw [wipe_off hi, wipe_off hi, o.2 i fun z => hi (h i z)]
theorem wipe_wipe (σ : L2.St) (vs : List Nat) : wipe (wipe σ vs) vs = wipe σ vs := by
  apply List.ext_getElem?
  intro i
  by_cases hi : i ∈ vs
  · rw [wipe_on hi, wipe_on hi, wipe_length]
  · rw [wipe_off hi]
section
variable {G : Ga} {F : Hp} {B : Addr → Prop} {H : Hp} {σ : L2.St} {ρ : En}
theorem Go.wipe (g : Go G F B H σ ρ) (vs : List Nat) : Go G F B H (wipe σ vs) (wipeD ρ vs) where
  fx := g.fx
  b0 := g.b0
  md := g.md
  dom := g.dom
  ext := g.ext
  new := g.new
  kp := g.kp
  deal := g.deal
  re := ⟨by rw [wipe_length, wipeD_len]; exact g.re.len, fun i sv h => by
    obtain ⟨h1, h2⟩ := wipeD_some h
    obtain ⟨x, a, b⟩ := g.re.at_ i sv h1
    exact ⟨x, by rw [wipe_off h2]; exact a, b⟩, fun i j di dj a h1 h2 h3 h4 => by
    obtain ⟨a1, n1⟩ := wipeD_some h1
    obtain ⟨a2, n2⟩ := wipeD_some h2
    rw [wipe_off n1] at h3
    rw [wipe_off n2] at h4
    exact g.re.ap _ _ _ _ _ a1 a2 h3 h4⟩
/-- a fresh object is barred, too -/
theorem Go.bar {H' : Hp} {p : Addr} (g : Go G F B H σ ρ) (np : H p = none) (k : G.kp H H') (o : G.ok (fun a => B a ∨ a = p) H') (hp : H' p ≠ none) : Go G F (fun a => B a ∨ a = p) H' σ ρ where
  fx := g.fx
  b0 := fun a z => .inl (g.b0 a z)
  md := g.md
  dom := fun a z => z.elim (fun z => kp_dom k o a (g.dom a z)) fun z => by rw [z]; exact hp
  ext := g.ext
  new := fun a z n => z.elim (fun z => g.new a z n) fun z => by
    rw [z]
    cases e : F p with
    | none => rfl
    | some u => exact absurd np (kp_dom g.kp g.deal p (by rw [e]; simp))
  kp := g.kp.trans k
  deal := o
  re := ⟨g.re.len, fun j sv h => by
    obtain ⟨x, a, b⟩ := g.re.at_ j _ h
    have kb : Kx (fun a => B a ∨ a = p) H H' := (g.kb k).bar
    refine ⟨x, a, ?_⟩
    cases b with
    | v r => exact .v ((Rp.bar np _ _ r).mk kb)
    | o b n hh l => exact .o (.inl b) n (k _ _ (fun z => n (g.md _ z)) hh) ((RpL.bar np _ _ l).mk kb)
    | dl e => exact .dl e
    | ex e n r => exact .ex (k _ _ (fun z => n (g.b0 _ (g.md _ z))) e) (fun z => z.elim n (ne_of_none e np)) ((Rp.bar np _ _ r).mk kb)
    | b z m e l => exact .b z m (k _ _ m e) ((RpL.bar np _ _ l).mk kb)
    | fn m e => exact .fn m (k.code m e)
    | scr q => exact .scr (q.keep (kp_frz k g.deal)), g.re.ap⟩
end
/-! targets that are names (or tuples of such): the heap stays -/
def ltn (G : Ga) (T : List Nat) (g : WTg) : TG := fun v σ H Q => ∃ F B ρ d, Go G F B H σ ρ ∧ Rp B H v d ∧ g d ρ fun ρ' => ∀ σ', Go G F B H σ' ρ' → Off T σ σ' → Q σ' H
def ltns (G : Ga) (T : List Nat) (g : WTgs) : TGs := fun vs σ H Q => ∃ F B ρ ds, Go G F B H σ ρ ∧ RpL B H vs ds ∧ g ds ρ fun ρ' => ∀ σ', Go G F B H σ' ρ' → Off T σ σ' → Q σ' H
structure DTn (G : Ga) (X : Cx) (T : List Nat) (e : Expr) (g : WTg) : Prop where
  pg : PG X e (ltn G T g)
  mo : MoTg g
structure DTns (G : Ga) (X : Cx) (T : List Nat) (e : List Expr) (g : WTgs) : Prop where
  pg : PGs X e (ltns G T g)
  mo : ∀ d ρ (Q Q' : En → Prop), (∀ ρ, Q ρ → Q' ρ) → g d ρ Q → g d ρ Q'
section
variable {G : Ga} {X : Cx} {e : Expr} {es : List Expr} {g : WTg} {gs : WTgs} {T T' : List Nat} {i : Nat} {x : Str} {pos : Pos}
theorem DTn.tg (h : DTn G X T e g) : DTg G X T e g := ⟨pg_imp h.pg fun v σ H Q ⟨F, B, ρ, d, g, r, q⟩ => ⟨F, B, ρ, d, g, r, h.mo _ _ _ _ (fun ρ' q σ' g' o => q σ' H B g' o (.of fun _ _ _ z => z) fun _ z => z) q⟩, h.mo⟩
theorem tn_name (hN : X.N.Nodup) (hi : X.N[i]? = some x) (hx : Loc X.env.scope x) (hf : X.fn x = true ∨ X.env.scope.names.lookup x = some .local := by first | exact .inl rfl | exact .inr rfl | assumption) : DTn G X [i] (.Name x pos) (tgName i) :=
  ⟨pg_imp (pg_name hN hi hx hf) fun v σ H Q ⟨F, B, ρ, d, g, r, hl, q⟩ => q _ (g.put hl (fun _ z => by cases z) (.v r)) ⟨by simp, fun j n => by rw [List.getElem?_set_ne (fun z => n (by rw [z]; exact List.mem_singleton.mpr rfl))]⟩,
   fun d ρ Q Q' m ⟨hl, q⟩ => ⟨hl, m _ q⟩⟩
theorem tns_nil : DTns G X [] [] tgNil := ⟨pgs_imp pgs_nil fun v σ H Q ⟨F, B, ρ, d, g, r, e, q⟩ => by
  subst e; cases r; exact ⟨rfl, q _ g .refl⟩, fun d ρ Q Q' m ⟨e, q⟩ => ⟨e, m _ q⟩⟩
theorem tns_cons (h1 : DTn G X T e g) (h2 : DTns G X T' es gs) (hs : (assignEach (e :: es) X.env).map (·.2) = assign e X.env :: (assignEach es X.env).map (·.2) := by rfl) : DTns G X (T ++ T') (e :: es) (tgCons g gs) :=
  ⟨pgs_imp (pgs_cons h1.pg h2.pg hs) fun v σ H Q ⟨F, B, ρ, ds, g, r, d, dr, e, q⟩ => by
    subst e
    cases r with
    | cons r1 r2 => exact ⟨_, _, rfl, F, B, ρ, d, g, r1, h1.mo _ _ _ _ (fun ρ' q σ' g' o' => ⟨F, B, ρ', dr, g', r2, h2.mo _ _ _ _ (fun ρ2 q σ2 g2 o2 => q σ2 g2 (o'.trans o2)) q⟩) q⟩,
   fun d ρ Q Q' m ⟨d1, r, e, q⟩ => ⟨d1, r, e, h1.mo _ _ _ _ (fun ρ' q => h2.mo _ _ _ _ m q) q⟩⟩
theorem tn_tup {k n : Nat} (hc : X.calm = true) (h : DTns G X T es gs) (hn : (assignEach es X.env).length = n := by rfl) (hst : (assignEach es X.env).findIdx? (·.1) = none := by rfl) : DTn G X T (.Tuple es k pos) (tgTup n gs) :=
  ⟨pg_imp (pg_tup hc h.pg hn hst) fun v σ H Q ⟨F, B, ρ, d, g, r, ds, e, hl, q⟩ => by
    subst e
    cases r with
    | @tup a xs _ m ha l => exact ⟨a, xs, rfl, .of ha, by rw [l.len]; exact hl, F, B, ρ, ds, g, l, q⟩, fun d ρ Q Q' m ⟨ds, e, hl, q⟩ => ⟨ds, e, hl, h.mo _ _ _ _ m q⟩⟩
end
def ltt (G : Ga) (w : WT) : TT := lt' G w
structure DTs (G : Ga) (X : Cx) (ifs : List Expr) (w : WT) : Prop where
  pt : PTs X ifs (lt' G w)
  mo : MoT w
theorem dts_nil {G : Ga} {X : Cx} : DTs G X [] (fun _ Q => Q true) := ⟨⟨fun pins s σ H Q I ⟨F, B, ρ, g, q⟩ => pts_nil.run pins s σ H Q I (q H .refl g.deal)⟩, fun _ _ _ m q => m _ q⟩
theorem dts_one {G : Ga} {X : Cx} {c : Expr} {w : WT} (h : DT G X c w) : DTs G X [c] w := ⟨pts_one h.pt, h.mo⟩
def dLc (vs : List Nat) (wi : WI) (gt : WTg) (wt : WT) (we : WE) : WE := fun ρ Q => wi ρ fun ds => ∃ P : Nat → List PyData → Prop, P 0 [] ∧
  (∀ i acc, P i acc → ∀ h : i < ds.length, gt ds[i] (wipeD ρ vs) fun ρ2 => wt ρ2 fun b => if b = true then we ρ2 fun y => acc.length < sizeLine ∧ P (i + 1) (acc ++ [y]) else P (i + 1) acc) ∧ ∀ acc, P ds.length acc → Q (.list acc)
theorem mo_dLc {vs : List Nat} {wi : WI} {gt : WTg} {wt : WT} {we : WE} (h : MoI wi) : Mo (dLc vs wi gt wt we) := fun ρ Q Q' m q => h _ _ _ (fun ds ⟨P, p0, turn, fin⟩ => ⟨P, p0, turn, fun acc p => m _ (fin acc p)⟩) q
theorem lc_lift {G : Ga} {vs T : List Nat} {wi : WI} {gt : WTg} {wt : WT} {we : WE} (hT : ∀ i ∈ T, i ∈ vs) (mi : MoI wi) (mg : MoTg gt) (mt : MoT wt) (me : Mo we) :
    ∀ σ H Q, lw G (dLc vs wi gt wt we) σ H Q → tLc (lic G wi) (ltn G.qt T gt) (lt' G.qt wt) (lf G.qt we) vs σ H Q := fun σ H Q ⟨F, B, ρ, g, q⟩ =>
  ⟨F, B, ρ, g, mi _ _ _ (fun ds ⟨P, p0, turn, fin⟩ J H1 k o it D nD => by
    have g1 := g.step k o
    have mD : ¬ Md G.dl D := fun z => deal_dom o D z nD
    refine ⟨fun i m H' => ∃ acc xs, P i acc ∧ i ≤ ds.length ∧ m = ds.length - i ∧ G.kp H1 H' ∧ G.ok (fun a => B a ∨ a = D) H' ∧ H' D = some (.lst xs) ∧ RpL (fun a => B a ∨ a = D) H' xs acc,
      ⟨ds.length, [], [], p0, Nat.zero_le _, rfl, Kp.new nD, ok_newb o nD, upd_same, .nil⟩, fun i m H' ⟨acc, xs, pi, hle, hm, k1, o1, hD, l⟩ => ?_⟩
    have z := it _ H' k1 o1 i
    have gD : Go G F (fun a => B a ∨ a = D) H' σ ρ := g1.bar nD k1 o1 (by rw [hD]; simp)
    by_cases hlt : i < ds.length
    · refine .inr ⟨(z.1 hlt).1, fun H' => ∃ acc xs, P (i + 1) acc ∧ G.kp H1 H' ∧ G.ok (fun a => B a ∨ a = D) H' ∧ H' D = some (.lst xs) ∧ RpL (fun a => B a ∨ a = D) H' xs acc, fun H2 ⟨acc, xs, p2, k2, o2, hD2, l2⟩ => ⟨ds.length - (i + 1), by omega, acc, xs, p2, hlt, rfl, k2, o2, hD2, l2⟩, fun x H2 y => ?_⟩
      obtain ⟨k2, o2, d, hd, r⟩ := (z.1 hlt).2 x H2 y
      have r2 : Rp (fun a => B a ∨ a = D) H2 x d := r _ (fun a ha => ha.imp (fun z => z) fun z => by rw [z]; exact nD) gD.dom
      have ed : d = ds[i] := by
        rw [List.getElem?_eq_getElem hlt] at hd
        exact (Option.some.inj hd).symm
      subst ed
      have g2 := (gD.step k2 o2).wipe vs
      refine ⟨F, _, _, _, g2.qt, r2, mg _ _ _ _ (fun ρ2 q σ2 g3 off => ⟨by rw [wipe_same off hT, wipe_wipe], F, _, ρ2, g3, mt _ _ _ (fun b q H4 k4 o4 => ?_) q⟩) (turn i acc pi hlt)⟩
      have kD : ∀ {H'' : Hp}, G.kp H2 H'' → H'' D = some (.lst xs) ∧ RpL (fun a => B a ∨ a = D) H'' xs acc := fun {H''} k => ⟨k D _ mD (k2 D _ mD hD), l.mk (gD.kb (k2.trans k))⟩
      cases b with
      | true =>
        refine ⟨F, _, ρ2, g3.step k4 o4, me _ _ _ (fun y ⟨hz, q⟩ v H5 k5 o5 r5 => ?_) q⟩
        obtain ⟨hD5, l5⟩ := kD (k4.trans k5)
        have kb : ∀ a o, ¬ (B a ∨ a = D) → H5 a = some o → upd H5 D (.lst (xs ++ [v])) a = some o := fun a o n h => by rw [upd_ne (fun z => n (.inr z))]; exact h
        exact ⟨xs, hD5, by rw [l.len]; exact hz, acc ++ [y], xs ++ [v], q, Kp.put (k1.trans (k2.trans (k4.trans k5))) nD, ok_put o5 (.inr rfl) mD hD5, upd_same, (l5.app (.one r5)).mv (fun _ z => z) kb⟩
      | false =>
        obtain ⟨hD4, l4⟩ := kD k4
        exact ⟨acc, xs, q, k1.trans (k2.trans k4), o4, hD4, l4⟩
    · have e : i = ds.length := by omega
      subst e
      exact .inl ⟨z.2 (Nat.le_refl _), fin acc pi D xs acc H' rfl (fresh_back k o nD) (k.trans k1) o1 hD l⟩) q⟩
section
variable {G : Ga} {X : Cx} {elt tg iter : Expr} {ifs : List Expr} {scope : Scope} {own : List (Str × Nat)} {pos spos py : Pos} {T : List Nat} {wi : WI} {gt : WTg} {wt : WT} {we : WE} {i : Nat} {y : Str}
/-- the code within a comprehension -/
abbrev Blk (X : Cx) (scope : Scope) (K : Cx → Prop) : Prop := ∀ (s : Shared) (H : Hp) (C : Addr) (cl : List (Str × Addr)) (fp : List Addr), K (X.blk s H scope (compEnvC scope cl C X.env) fp)
theorem df_lc (hc : X.calm = true) (hN : X.N.Nodup) (hi : DIc G X tg iter wi) (ok : BlkOk X.N X.env.scope scope own) (hg : Blk X scope fun X => DTn G.qt X T tg gt) (ht : Blk X scope fun X => DTs G.qt X ifs wt) (he : Blk X scope fun X => DE G.qt X elt we)
    (hT : ∀ i ∈ T, i ∈ own.map (·.2)) (hs : ∀ x, foldedSetIterable iter X.env x = pure x := by intro _; rfl) :
    DF G X (.ListComp elt [⟨tg, iter, ifs, 0⟩] scope pos) (dLc (own.map (·.2)) wi gt wt we) :=
  ⟨pe_imp (pe_lc hc hN hi.pi ok (fun s H C cl fp => (hg s H C cl fp).pg) (fun s H C cl fp => (ht s H C cl fp).pt) (fun s H C cl fp => (he s H C cl fp).pe) hs) (lc_lift hT hi.mo (hg X.s_0 X.H_0 0 [] []).mo (ht X.s_0 X.H_0 0 [] []).mo (he X.s_0 X.H_0 0 [] []).mo), mo_dLc hi.mo⟩
/-- name = [..], the name a plain local -/
theorem ds_setLc (hc : X.calm = true) (hN : X.N.Nodup) (hy : X.N[i]? = some y) (hyl : X.env.scope.names.lookup y = some .local) (hsw : swapsWith (.ListComp elt [⟨tg, iter, ifs, 0⟩] scope pos) (some (.Name y py)) spos.line X.env = pure true)
    (hi : DIc G X tg iter wi) (ok : BlkOk X.N X.env.scope scope own) (hg : Blk X scope fun X => DTn G.qt X T tg gt) (ht : Blk X scope fun X => DTs G.qt X ifs wt) (he : Blk X scope fun X => DE G.qt X elt we)
    (hT : ∀ i ∈ T, i ∈ own.map (·.2)) (hs : ∀ x, foldedSetIterable iter X.env x = pure x := by intro _; rfl) :
    DS G X (.Assign [.Name y py] (.ListComp elt [⟨tg, iter, ifs, 0⟩] scope pos) spos) (dSet i (dLc (own.map (·.2)) wi gt wt we)) :=
  ⟨ps_imp (ps_setLc hc hN hy hyl hsw hi.pi ok (fun s H C cl fp => (hg s H C cl fp).pg) (fun s H C cl fp => (ht s H C cl fp).pt) (fun s H C cl fp => (he s H C cl fp).pe) hs) fun D σ H ⟨F, B, ρ, E, g, ⟨hl, q⟩, f⟩ =>
    lc_lift hT hi.mo (hg X.s_0 X.H_0 0 [] []).mo (ht X.s_0 X.H_0 0 [] []).mo (he X.s_0 X.H_0 0 [] []).mo σ H _ ⟨F, B, ρ, g, mo_dLc hi.mo _ _ _ (fun d q p xs ds H' e np k o hp l => f.nx _ _ _ _ q ((g.step k (o.anti fun _ z => .inl z)).put hl (fun _ z => by cases z) (.v (by subst e; exact .lst (g.nb np) hp (l.mv (fun _ z => .inl z) fun _ _ _ z => z))))) q⟩,
   fun E E' ρ b ⟨hl, q⟩ => ⟨hl, mo_dLc hi.mo _ _ _ (fun d q => b.nx _ q) q⟩⟩
theorem ds_setLcO (hc : X.calm = true) (hN : X.N.Nodup) (hy : X.N[i]? = some y) (hyl : X.env.scope.names.lookup y = some .local) (hsw : swapsWith (.ListComp elt [⟨tg, iter, ifs, 0⟩] scope pos) (some (.Name y py)) spos.line X.env = pure true)
    (hi : DIc G X tg iter wi) (ok : BlkOk X.N X.env.scope scope own) (hg : Blk X scope fun X => DTn G.qt X T tg gt) (ht : Blk X scope fun X => DTs G.qt X ifs wt) (he : Blk X scope fun X => DE G.qt X elt we)
    (hT : ∀ i ∈ T, i ∈ own.map (·.2)) (hs : ∀ x, foldedSetIterable iter X.env x = pure x := by intro _; rfl) :
    DS G X (.Assign [.Name y py] (.ListComp elt [⟨tg, iter, ifs, 0⟩] scope pos) spos) (dSetO i (dLc (own.map (·.2)) wi gt wt we)) :=
  ⟨ps_imp (ps_setLc hc hN hy hyl hsw hi.pi ok (fun s H C cl fp => (hg s H C cl fp).pg) (fun s H C cl fp => (ht s H C cl fp).pt) (fun s H C cl fp => (he s H C cl fp).pe) hs) fun D σ H ⟨F, B, ρ, E, g, ⟨hl, q⟩, f⟩ =>
    lc_lift hT hi.mo (hg X.s_0 X.H_0 0 [] []).mo (ht X.s_0 X.H_0 0 [] []).mo (he X.s_0 X.H_0 0 [] []).mo σ H _ ⟨F, B, ρ, g, mo_dLc hi.mo _ _ _ (fun d ⟨es, e1, q⟩ p xs ds H' e2 np k o hp l => by
      subst e1
      cases e2
      exact f.nx _ _ _ _ q (g.own hl np k o hp l)) q⟩,
   fun E E' ρ b ⟨hl, q⟩ => ⟨hl, mo_dLc hi.mo _ _ _ (fun d ⟨es, e1, q⟩ => ⟨es, e1, b.nx _ q⟩) q⟩⟩
end
end Dl
/-! The data layer, part 8: a def by its body; repr; isinstance. -/
namespace Dl
open PySem PySem.Spec PyProof.Rows L2

def start' (N : List Str) (args : List SV) : En := args.map some ++ List.replicate (N.length - args.length) none
theorem AL.get {K : PySem.W.Frag} {dl : Dl2} {B : Addr → Prop} {H : Hp} : ∀ {svs : List SV} {vs : List V} {i : Nat} {sv : SV}, AL K dl B H svs vs → svs[i]? = some sv → ∃ v, vs[i]? = some v ∧ RS K dl B B H sv v
  | _, _, i, _, .nil, h => by simp at h
  | _, _, 0, _, .cons a t, h => by simp at h; subst h; exact ⟨_, rfl, a⟩
  | _, _, i + 1, _, .cons a t, h => by
    obtain ⟨v, h1, h2⟩ := AL.get (i := i) t (by simpa using h)
    exact ⟨v, by simpa using h1, h2⟩
theorem start_get {N : List Str} {args : List SV} {i : Nat} {sv : SV} (h : (start' N args)[i]? = some (some sv)) : args[i]? = some sv := by
  unfold start' at h
  by_cases hi : i < args.length
  · rw [List.getElem?_append_left (by simpa using hi), List.getElem?_map] at h
    cases e : args[i]? with
    | none => rw [e] at h; cases h
    | some z => rw [e] at h; simpa using h
  · rw [List.getElem?_append_right (by simpa using hi)] at h
    have := List.getElem?_replicate (n := N.length - args.length) (a := (none : Option SV)) (i := i - (args.map some).length)
    rw [this] at h
    split at h
    · cases h
    · cases h
theorem go_start {G : Ga} {N : List Str} {args : List SV} {vs : List V} {H : Hp} (e : G.H0 = H) (md : ∀ a, Md G.dl a → G.B0 a) (dom : ∀ a, G.B0 a → H a ≠ none) (ok : G.ok G.B0 H) (fx : G.fx H) (al : AL G.K G.dl G.B0 H args vs) :
    Go G H G.B0 H (L2.start N vs) (start' N args) where
  fx := fx
  b0 := fun _ z => z
  md := md
  dom := dom
  ext := by rw [e]; exact Kp.refl
  new := fun a z n => absurd z n
  kp := Kp.refl
  deal := ok
  re := by
    refine ⟨by unfold L2.start start'; simp [al.len], fun i sv h => ?_, fun i j di dj a h1 _ _ _ => ?_⟩
    · have h1 := start_get h
      obtain ⟨v, h2, h3⟩ := al.get h1
      refine ⟨v, ?_, h3⟩
      unfold L2.start
      have hi : i < vs.length := by
        cases Nat.lt_or_ge i vs.length with
        | inl z => exact z
        | inr z => rw [List.getElem?_eq_none z] at h2; cases h2
      rw [List.getElem?_append_left (by simpa using hi), List.getElem?_map, h2]
      rfl
    · have h1 := start_get h1
      obtain ⟨v, h2, h3⟩ := al.get h1
      cases h3 with
      | o a b _ _ => exact absurd a b
section
variable {P : Program} {w : World} {K : PySem.W.Frag} {mg : Str → Option Value} {base : Heap}
/-- a def by its body's reading over data -/
theorem fnD_of {x qual : Str} {st : Stmt} {f : Addr} {fd : FuncData} {N ps : List Str} {k : Nat} {S : SpD} {gg : GInv} (hgK : gg.K = K) (F : Fun K x qual st f fd) (Sc : FnScope N ps (defScope st)) (len : ∀ args Q E, S args Q E → args.length = ps.length)
    (hbody : ∀ (cdv : Value) (A : Around) (outer : List Env) (s : Shared) (H : Hp) (E : XK) (G : Ga) (xe : Addr → PyData → Prop), G.dl.gi = gg → G.K = K → G.xd = (fun _ => xe) → (∀ F, G.fx F) → Xw gg G (cxOf (L2.CX P w) P w K mg base N qual (defScope st) f cdv A outer s H E) → (A.deeper (envOfC qual (defScope st) s.heap.objs.size f cdv)).guards = some [] →
      Room k (A.deeper (envOfC qual (defScope st) s.heap.objs.size f cdv)) → PassesOwn (model P w) (A.deeper (envOfC qual (defScope st) s.heap.objs.size f cdv)) (envOfC qual (defScope st) s.heap.objs.size f cdv) (cxOf (L2.CX P w) P w K mg base N qual (defScope st) f cdv A outer s H E).xe →
      ∃ wd : WS, DSs G (cxOf (L2.CX P w) P w K mg base N qual (defScope st) f cdv A outer s H E) (defBody st) wd ∧ ∀ args Q, S args Q xe → wd { nx := fun _ => Q .none, rt := Q } (start' N args)) :
    FnD P w K mg base gg (k + 1) f fd ps S := by
  refine fnG_of F Sc (fun vs H Q E ⟨dl, B0, args, _, _, _, _, al, hS⟩ => by rw [← al.len]; exact len _ _ _ hS) fun cdv A outer s H vs Q E hg hr hsp => ?_
  obtain ⟨dl, B0, args, hgi, md, dom, dok, al, hS⟩ := hsp
  let xx : Addr → PyData → Prop := fun C d => ∀ x v H', Kp dl H H' → DealOk dl B0 H' → H' x = some (.xd [("at", v)]) → ¬ B0 x → Rp B0 H' v d → E (.ref C) (some x) H'
  let G : Ga := ⟨dl, B0, H, fun _ => xx, fun _ => True⟩
  have hGK : G.K = K := (congrArg GInv.K hgi).trans hgK
  have hx : Xw gg G (cxOf (L2.CX P w) P w K mg base N qual (defScope st) f cdv A outer s H E) := ⟨⟨fun cls d _ H => E cls d H, takes_of rfl rfl rfl rfl, fun F B H' σ ρ g C d z x v hx nx r => z x v H' g.kp0 (g.deal.anti g.b0) hx (fun z => nx (g.b0 _ z)) (r.back g)⟩, hGK.symm, hgi⟩
  obtain ⟨wd, hd, hw⟩ := hbody cdv A outer s H E G xx hgi hGK rfl (fun _ => trivial) hx hg hr (passes_of rfl)
  refine ⟨_, hd.pss, H, B0, start' N args, _, go_start rfl md dom dok trivial al, hw args _ hS, ⟨fun B' H' σ' ρ' z g' => z .non H' (g'.kp0) (g'.deal.anti g'.b0) .non, fun d v H' z k o r => z v H' k o r, fun _ _ _ _ z => z.elim, fun _ _ _ _ z => z.elim⟩⟩
end

/-! ### repr -/
theorem call_reprD {X : Cx} {k : Nat} (hgd : X.A.guards = some []) (hr : Room k X.A) : CallR X (.builtin "repr") (fun xs H Q => ∃ x d, xs = [x] ∧ Dp X.K H x d ∧ d.showable = true ∧ d.hasDict = false ∧ d.depth ≤ 100 ∧ d.shown.length ≤ sizeLine ∧ Q (.str d.shown) H) := by
  intro pins s σ H xs us Q I r h
  obtain ⟨x, d, rfl, dp, hs, hd, hz, hl, q⟩ := h
  obtain ⟨u, rfl, rx⟩ := vals1 r
  obtain ⟨as, rd⟩ := Dp.reads I d x u dp rx
  have hu : X.A.units + (d.depth + 1) < cLine := by have := hr.un; omega
  cases dp with
  | non => cases rx; exact PySem.P.repr_of_none ⟨.str _, H, I.tok _, ⟨_, rfl⟩, q⟩
  | bl b => cases rx; exact PySem.P.repr_of_bool ⟨.str _, H, I.tok _, ⟨_, rfl⟩, q⟩
  | int i => obtain ⟨t, rfl⟩ := rx; exact PySem.P.repr_of_int (of_decide_eq_true hs) ⟨.str _, H, I.tok _, ⟨_, rfl⟩, q⟩
  | str z => obtain ⟨t, rfl⟩ := rx; exact PySem.P.repr_of_str ⟨.str _, H, I.tok _, ⟨_, rfl⟩, q⟩ hl
  | lst a b =>
    cases rx
    exact repr_of_reads' rd hs (fun z => by rw [hd] at z; cases z) hgd hu (fun _ _ z => z) (fun h' u tk kk => ⟨.str _, H, I.kept (t' := tk) kk, ⟨_, rfl⟩, q⟩) hl
  | tup a b =>
    cases rx
    exact repr_of_reads' rd hs (fun z => by rw [hd] at z; cases z) hgd hu (fun _ _ z => z) (fun h' u tk kk => ⟨.str _, H, I.kept (t' := tk) kk, ⟨_, rfl⟩, q⟩) hl
def fRepr : FA := fun ds Q => ∃ d, ds = [d] ∧ (d.showable = true ∧ d.hasDict = false ∧ d.depth ≤ 100 ∧ d.shown.length ≤ sizeLine) ∧ Q (.str d.shown)
section
variable {G : Ga} {X : Cx} {e : Expr} {es : List Expr} {ws : WA} {p pos : Pos} {k : Nat}
theorem de_repr (hgd : X.A.guards = some []) (hr : Room k X.A) (hm : X.mg "repr" = none) (ha : DAb G X (e :: es) ws) (hg : Gl X "repr" := by rfl)
    (he : starEach (e :: es) X.env = (false, eval e X.env) :: starEach es X.env := by rfl) (hpl : (backTo pos (starEach es X.env)).any (·.1) = false := by rfl) : DE G X (.Call (.Name "repr" p) (e :: es) [] pos) (dA fRepr ws) :=
  de_callB (call_reprD hgd hr) hg hm (by decide +kernel) ha (fun _ _ _ m ⟨d, h, z, q⟩ => ⟨d, h, z, m _ q⟩) (fun F B σ ρ H vs ds Q g l q => by
    obtain ⟨d, rfl, ⟨h1, h2, h3, h4⟩, q⟩ := q
    obtain ⟨v, rfl, r⟩ := bl1 l
    exact ⟨v, d, rfl, rb_dp X.K h2 r, h1, h2, h3, h4, q _ H .refl g.deal (.str _)⟩) (by decide) (by decide) he hpl
end

/-! ### isinstance of built-in types -/
def tyN : PyData → String
  | .none => "NoneType" | .bool _ => "bool" | .int _ => "int" | .str _ => "str" | .list _ => "list" | .tuple _ => "tuple" | .dict _ => "dict"
/-- isinstance(x, T), T one of the five -/
def isiD (T : String) : PyData → Bool
  | .none => false
  | .bool _ => T == "bool" || T == "int"
  | .int _ => T == "int"
  | .str _ => T == "str"
  | .list _ => T == "list"
  | .tuple _ => T == "tuple"
  | .dict _ => false
theorem kitB_five {T : String} (hT : T = "int" ∨ T = "bool" ∨ T = "str" ∨ T = "list" ∨ T = "tuple") (d : PyData) : kitB (tyN d) T = some (isiD T d) := by
  rcases hT with rfl | rfl | rfl | rfl | rfl <;> cases d <;> (simp only [tyN, isiD]; decide +kernel)
theorem rb_tyx {dl : Dl2} {B : Addr → Prop} {H : Hp} {v : V} {d : PyData} (o : DealOk dl B H) (h : RpB dl B H v d) : ∃ t, TyX dl.gi.K H v t ∧ ∀ T : String, T = "int" ∨ T = "bool" ∨ T = "str" ∨ T = "list" ∨ T = "tuple" → PySem.W.kitOne dl.gi.K t (.type T) = some (isiD T d) := by
  have old : ∀ {t : Value}, t = .type (tyN d) → TyX dl.gi.K H v t → ∃ t, TyX dl.gi.K H v t ∧ ∀ T : String, T = "int" ∨ T = "bool" ∨ T = "str" ∨ T = "list" ∨ T = "tuple" → PySem.W.kitOne dl.gi.K t (.type T) = some (isiD T d) := fun {t} e h => ⟨t, h, fun T hT => by rw [e]; exact kit_ty (kitB_five hT d)⟩
  rcases h with h | ⟨a, xs, ds, rfl, rfl, _, _, h, l⟩
  · cases h with
    | non => exact old rfl (.base .non)
    | bl b => exact old rfl (.base (.bl b))
    | int i => exact old rfl (.base (.int i))
    | str x => exact old rfl (.base (.str x))
    | lst _ h _ => exact old rfl (.base (.lst h))
    | tup _ h _ => exact old rfl (.base (.tup h))
    | dic _ h => exact old rfl (.base (.dK h))
    | dcT _ h _ => exact old rfl (.base (.dT h))
    | mch _ h _ _ _ =>
      have c := dl.gi.ty o.i h
      refine ⟨_, .base (c.ty _ _ _ _ h), fun T hT => ?_⟩
      rw [c.no T hT]
      rcases hT with rfl | rfl | rfl | rfl | rfl <;> rfl
  · exact old rfl (.base (.lst h))
/-- isinstance(x, (T, U)) -/
theorem kitAny_two {K : PySem.W.Frag} {t T U : Value} {a b : Bool} (h1 : PySem.W.kitOne K t T = some a) (h2 : PySem.W.kitOne K t U = some b) : PySem.W.kitAny K t [T, U] = some (a || b) := by
  refine kitAny_cons h1 (fun e => ?_) fun e => by rw [e]; rfl
  subst e
  refine kitAny_cons h2 (fun e => ?_) fun e => by rw [e]; rfl
  subst e
  exact kitAny_nil
def fIsi (T : String) : FA := fun ds Q => ∃ d, ds = [d] ∧ Q (.bool (isiD T d))
section
variable {G : Ga} {X : Cx} {e : Expr} {w : WE} {p p2 pos : Pos} {T : String}
/-- isinstance(e, T) -/
theorem de_isi (hK : X.K = G.K) (hT : T = "int" ∨ T = "bool" ∨ T = "str" ∨ T = "list" ∨ T = "tuple") (hm : X.mg "isinstance" = none) {y : Str} (hy : bootBuiltins y = some (.type T)) (hmy : X.mg y = none) (ha : DB G X e w) (hg : Gl X "isinstance" := by rfl) (hgy : Gl X y := by rfl) (hny : y ≠ "__name__" := by decide) (hdy : (y == ("__debug__" : Str)) = false := by decide)
    (h1 : starEach (e :: [.Name y p2]) X.env = (false, eval e X.env) :: starEach [.Name y p2] X.env := by rfl) (h2 : starEach [.Name y p2] X.env = (false, eval (.Name y p2) X.env) :: starEach [] X.env := by rfl)
    (hpl : (backTo pos (starEach [.Name y p2] X.env)).any (·.1) = false := by rfl) : DE G X (.Call (.Name "isinstance" p) [e, .Name y p2] [] pos) (fun ρ Q => w ρ fun d => Q (.bool (isiD T d))) :=
  ⟨pe_imp (pe_callB call_isi hg hm boot_isinstance (pa_cons ha.pe (pa_cons (pe_bltn (v := .ty T) hgy hmy hy rfl hny hdy) pa_nil h2) h1) (by decide) (by decide) h1 hpl) fun σ H Q ⟨F, B, ρ, g, q⟩ => ⟨F, B, ρ, g, ha.mo _ _ _ (fun d q v H' k o r =>
    by
      obtain ⟨t, ht, hk⟩ := rb_tyx o r
      rw [← show X.K = G.dl.gi.K from hK] at ht hk
      exact ⟨v, .ty T, t, .type T, isiD T d, rfl, .ty T, ht, hk T hT, q _ H' k o (.bl _)⟩) q⟩, fun _ _ _ m q => ha.mo _ _ _ (fun d q => m _ q) q⟩
/-- isinstance(e, (T, U)) -/
theorem de_isi2 {U : String} {p3 pt : Pos} {kk} (hK : X.K = G.K) (hT : T = "int" ∨ T = "bool" ∨ T = "str" ∨ T = "list" ∨ T = "tuple") (hU : U = "int" ∨ U = "bool" ∨ U = "str" ∨ U = "list" ∨ U = "tuple") (hm : X.mg "isinstance" = none) {y z : Str} (hy : bootBuiltins y = some (.type T)) (hmy : X.mg y = none) (hz : bootBuiltins z = some (.type U)) (hmz : X.mg z = none) (ha : DB G X e w)
    (hg : Gl X "isinstance" := by rfl) (hgy : Gl X y := by rfl) (hny : y ≠ "__name__" := by decide) (hdy : (y == ("__debug__" : Str)) = false := by decide) (hgz : Gl X z := by rfl) (hnz : z ≠ "__name__" := by decide) (hdz : (z == ("__debug__" : Str)) = false := by decide)
    (h1 : starEach (e :: [.Tuple [.Name y p2, .Name z p3] kk pt]) X.env = (false, eval e X.env) :: starEach [.Tuple [.Name y p2, .Name z p3] kk pt] X.env := by rfl) (h2 : starEach [.Tuple [.Name y p2, .Name z p3] kk pt] X.env = (false, eval (.Tuple [.Name y p2, .Name z p3] kk pt) X.env) :: starEach [] X.env := by rfl)
    (h3 : starEach [.Name y p2, .Name z p3] X.env = (false, eval (.Name y p2) X.env) :: starEach [.Name z p3] X.env := by rfl) (h4 : starEach [.Name z p3] X.env = (false, eval (.Name z p3) X.env) :: starEach [] X.env := by rfl)
    (hpl : (backTo pos (starEach [.Tuple [.Name y p2, .Name z p3] kk pt] X.env)).any (·.1) = false := by rfl) : DE G X (.Call (.Name "isinstance" p) [e, .Tuple [.Name y p2, .Name z p3] kk pt] [] pos) (fun ρ Q => w ρ fun d => Q (.bool (isiD T d || isiD U d))) :=
  ⟨pe_imp (pe_callB call_isiT hg hm boot_isinstance (pa_cons ha.pe (pa_cons (pe_tup (pa_cons (pe_bltn (v := .ty T) hgy hmy hy rfl hny hdy) (pa_cons (pe_bltn (v := .ty U) hgz hmz hz rfl hnz hdz) pa_nil h4) h3)) pa_nil h2) h1) (by decide) (by decide) h1 hpl) fun σ H Q ⟨F, B, ρ, g, q⟩ => ⟨F, B, ρ, g, ha.mo _ _ _ (fun d q v H' k o r =>
    ⟨by show 2 ≤ sizeLine; decide, fun tp np => by
      obtain ⟨t, ht, hk⟩ := rb_tyx (ok_new o np) (r.step (g.step k o) (Kp.new np (o := .tup [.ty T, .ty U])))
      rw [← show X.K = G.dl.gi.K from hK] at ht hk
      exact ⟨v, tp, [.ty T, .ty U], t, [.type T, .type U], _, rfl, upd_same, .cons (.ty T) (.cons (.ty U) .nil), ht, kitAny_two (hk T hT) (hk U hU), q _ _ (k.trans (Kp.new np)) (ok_new o np) (.bl _)⟩⟩) q⟩, fun _ _ _ m q => ha.mo _ _ _ (fun d q => m _ q) q⟩
end
end Dl
/-! The data layer, part 9: defs by their names. -/
namespace Dl
open PySem PySem.Spec PyProof.Rows L2
/-- the def that the module's name x holds keeps S -/
structure Cal (P : Program) (w : World) (K : PySem.W.Frag) (mg : Str → Option Value) (base : Heap) (gg : GInv) (k : Nat) (x : Str) (st : Stmt) (ps : List Str) (S : SpD) : Prop where
  ex : ∃ f fd, Fun K x x st f fd ∧ mg x = some (.ref f) ∧ Binds K fd ps [] ∧ FnD P w K mg base gg k f fd ps S
  mo : MoS S
/-- the def that the module's name x holds, as the top leaves it -/
structure Def (K : PySem.W.Frag) (mg : Str → Option Value) (x : Str) (st : Stmt) : Prop where
  ex : ∃ f fd, Fun K x x st f fd ∧ mg x = some (.ref f)
section
variable {P : Program} {w : World} {K : PySem.W.Frag} {mg : Str → Option Value} {base : Heap}
theorem Cal.mono {j k : Nat} {x : Str} {st : Stmt} {ps : List Str} {S : SpD} {gg : GInv} (C : Cal P w K mg base gg j x st ps S) (h : j ≤ k) : Cal P w K mg base gg k x st ps S := by
  obtain ⟨f, fd, a, b, c, d⟩ := C.ex
  exact ⟨⟨f, fd, a, b, c, d.mono h⟩, C.mo⟩
abbrev Body (P : Program) (w : World) (K : PySem.W.Frag) (mg : Str → Option Value) (base : Heap) (gg : GInv) (k : Nat) (x : Str) (st : Stmt) (N ps : List Str) (S : SpD) : Prop :=
  ∀ (f : Addr) (cdv : Value) (A : Around) (outer : List Env) (s : Shared) (H : Hp) (E : XK) (G : Ga) (xe : Addr → PyData → Prop), G.dl.gi = gg → G.K = K → G.xd = (fun _ => xe) → (∀ F, G.fx F) → Xw gg G (cxOf (L2.CX P w) P w K mg base N x (defScope st) f cdv A outer s H E) → (A.deeper (envOfC x (defScope st) s.heap.objs.size f cdv)).guards = some [] →
      Room k (A.deeper (envOfC x (defScope st) s.heap.objs.size f cdv)) → PassesOwn (model P w) (A.deeper (envOfC x (defScope st) s.heap.objs.size f cdv)) (envOfC x (defScope st) s.heap.objs.size f cdv) (cxOf (L2.CX P w) P w K mg base N x (defScope st) f cdv A outer s H E).xe →
      ∃ wd : WS, DSs G (cxOf (L2.CX P w) P w K mg base N x (defScope st) f cdv A outer s H E) (defBody st) wd ∧ ∀ args Q, S args Q xe → wd { nx := fun _ => Q .none, rt := Q } (start' N args)
theorem cal_of {x : Str} {st : Stmt} {N ps : List Str} {k : Nat} {S : SpD} {gg : GInv} (hgK : gg.K = K) (F : Def K mg x st) (Sc : FnScope N ps (defScope st)) (mo : MoS S) (len : ∀ args Q E, S args Q E → args.length = ps.length)
    (hb : ∀ (kV doc pm : Value) (an : Option Addr) (cdv ct : Value) (us : List Value), us.length = ps.length → bindArgs (PySem.W.fnOf x x (defArgs st) (defBody st) (defScope st) .none kV doc pm an cdv ct) ⟨us, []⟩ = pure (ps.zip us))
    (hbody : Body P w K mg base gg k x st N ps S) : Cal P w K mg base gg (k + 1) x st ps S := by
  obtain ⟨f, fd, hF, hm⟩ := F.ex
  exact ⟨⟨f, fd, hF, hm, hF.binds hb, fnD_of hgK hF Sc len (hbody f)⟩, mo⟩
end
section
variable {G : Ga} {X : Cx} {e : Expr} {es : List Expr} {ws : WG} {pos p : Pos} {x : Str} {k j : Nat} {ps : List Str} {S : SpD} {st : Stmt}
theorem de_cal {gg : GInv} (C : Cal X.prog X.w X.K X.mg X.base gg j x st ps S) (hw : Xw gg G X) (hgd : X.A.guards = some []) (hr : Room k X.A) (hjk : j ≤ k)
    (ha : DG G X (e :: es) ws) (hg : Gl X x := by rfl) (hdb : (x == ("__debug__" : Str)) = false := by decide) (he : starEach (e :: es) X.env = (false, eval e X.env) :: starEach es X.env := by rfl) (hpl : (backTo pos (starEach es X.env)).any (·.1) = false := by rfl) :
    DE G X (.Call (.Name x p) (e :: es) [] pos) (dCall G.xd S ws) := by
  obtain ⟨f, fd, hF, hm, hb, F⟩ := C.ex
  exact de_call F C.mo hw hgd (hr.mono hjk) hm hF.kp hb ha hg hdb he hpl
/-- within a comprehension nothing is let out -/
theorem Xw.blk {gg : GInv} (s : Shared) (H : Hp) (scope : Scope) (cenv : Env) (fp : List Addr) (hk : X.K = G.K) (hgi : G.dl.gi = gg := by assumption) : Xw gg G.qt (X.blk s H scope cenv fp) :=
  ⟨⟨fun _ _ _ _ => False, fun u s' x => by
    obtain ⟨a, B, sI, pins', σ', H', cls, d, e, J', nb, up, sky, na, os, ag, z⟩ := x
    exact z.elim, fun _ _ _ _ _ _ _ _ z => z.elim⟩, hk, hgi⟩
end
end Dl
/-! The data layer, part 10: operators whose operands' kinds show at the data. -/
namespace Dl
open PySem PySem.Spec PyProof.Rows L2
section
variable {G : Ga} {X : Cx} {a b : Expr} {wa wb : WE} {wl wh : WO} {lo hi : Option Expr} {pos p2 : Pos}
/-- +: ints, tuples, lists, texts -/
def fAdd : W2 := fun x y Q => (∃ i j, x = .int i ∧ y = .int j ∧ Q (.int (i + j))) ∨ (∃ ds es, x = .tuple ds ∧ y = .tuple es ∧ ds.length + es.length ≤ sizeLine ∧ Q (.tuple (ds ++ es))) ∨
  (∃ ds es, x = .list ds ∧ y = .list es ∧ ds.length + es.length ≤ sizeLine ∧ Q (.list (ds ++ es))) ∨ (∃ i j, x = .str i ∧ y = .str j ∧ i.length + j.length ≤ sizeLine ∧ Q (.str (i ++ j)))
theorem mo_fAdd : Mo2 fAdd := fun _ _ _ _ m h => by
  rcases h with ⟨i, j, h1, h2, q⟩ | ⟨i, j, h1, h2, h3, q⟩ | ⟨i, j, h1, h2, h3, q⟩ | ⟨i, j, h1, h2, h3, q⟩
  · exact .inl ⟨i, j, h1, h2, m _ q⟩
  · exact .inr (.inl ⟨i, j, h1, h2, h3, m _ q⟩)
  · exact .inr (.inr (.inl ⟨i, j, h1, h2, h3, m _ q⟩))
  · exact .inr (.inr (.inr ⟨i, j, h1, h2, h3, m _ q⟩))
theorem de_addU (ha : DB G X a wa) (hb : DB G X b wb) : DE G X (.BinOp a .Add b pos) (d2 fAdd wa wb) :=
  de_op (op_add.or (op_catA.or (op_cat.or op_add_str))) ha hb (fun F B σ ρ H x y d e Q g rx ry q => by
    rcases q with ⟨i, j, rfl, rfl, q⟩ | ⟨ds, es, rfl, rfl, hz, q⟩ | ⟨ds, es, rfl, rfl, hz, q⟩ | ⟨i, j, rfl, rfl, hz, q⟩
    · exact .inl ⟨i, j, rb_int rx, rb_int ry, q _ H .refl g.deal (.int _)⟩
    · obtain ⟨p, xs, rfl, n1, h1, l1⟩ := rb_tup' rx
      obtain ⟨p2, ys, rfl, n2, h2, l2⟩ := rb_tup' ry
      refine .inr (.inl ⟨p, p2, xs, ys, rfl, rfl, .of h1, .of h2, by rw [l1.len, l2.len]; exact hz, fun e => ?_, fun e1 e => ?_, fun e1 e pp np => ?_⟩)
      · subst e; cases l1; exact q _ _ .refl g.deal (.tup n2 h2 l2)
      · subst e; cases l2; rw [List.append_nil] at q; exact q _ _ .refl g.deal (.tup n1 h1 l1)
      · exact q _ _ (Kp.new np) (ok_new g.deal np) (.tup (g.nb np) upd_same ((l1.app l2).mv (fun _ z => z) (upd_keep np)))
    · obtain ⟨p, xs, rfl, h1, l1⟩ := rb_list' rx
      obtain ⟨p2, ys, rfl, h2, l2⟩ := rb_list' ry
      exact .inr (.inr (.inl ⟨p, p2, xs, ys, rfl, rfl, h1, h2, by rw [l1.len, l2.len]; exact hz, fun pp np => q _ _ (Kp.new np) (ok_new g.deal np) (.lst (g.nb np) upd_same ((l1.app l2).mv (fun _ z => z) (upd_keep np)))⟩))
    · exact .inr (.inr (.inr ⟨i, j, rb_str rx, rb_str ry, hz, q _ H .refl g.deal (.str _)⟩))) mo_fAdd
/-- *: ints; a list or a tuple so many times -/
def fMul : W2 := fun x y Q => (∃ i j, x = .int i ∧ y = .int j ∧ CMulW i j ∧ Q (.int (i * j))) ∨ (∃ ds k, x = .list ds ∧ y = .int k ∧ (-(2 ^ 63) ≤ k ∧ k < 2 ^ 63 ∧ ds.length * k.toNat ≤ sizeLine) ∧ Q (.list (List.replicate k.toNat ds).flatten))
theorem mo_fMul : Mo2 fMul := fun _ _ _ _ m h => by
  rcases h with ⟨i, j, h1, h2, h3, q⟩ | ⟨i, j, h1, h2, h3, q⟩
  · exact .inl ⟨i, j, h1, h2, h3, m _ q⟩
  · exact .inr ⟨i, j, h1, h2, h3, m _ q⟩
theorem de_mulU (ha : DB G X a wa) (hb : DB G X b wb) : DE G X (.BinOp a .Mult b pos) (d2 fMul wa wb) :=
  de_op (op_mulW.or op_rep) ha hb (fun F B σ ρ H x y d e Q g rx ry q => by
    rcases q with ⟨i, j, rfl, rfl, hz, q⟩ | ⟨ds, k, rfl, rfl, ⟨h1, h2, hz⟩, q⟩
    · exact .inl ⟨i, j, rb_int rx, rb_int ry, hz, q _ H .refl g.deal (.int _)⟩
    · obtain ⟨p, xs, rfl, h, l⟩ := rb_list' rx
      exact .inr ⟨p, k, xs, rfl, rb_int ry, h, h1, h2, by rw [l.len]; exact hz, fun pp np => q _ _ (Kp.new np) (ok_new g.deal np) (.lst (g.nb np) upd_same ((l.rep _).mv (fun _ z => z) (upd_keep np)))⟩) mo_fMul
/-- a slice of a tuple or a list -/
def dSl (wa : WE) (wl wh : WO) : WE := fun ρ Q => wa ρ fun x => wl ρ fun lo => wh ρ fun hi => (∃ ds, x = .tuple ds ∧ Q (.tuple (cutD ds lo hi))) ∨ ∃ ds, x = .list ds ∧ Q (.list (cutD ds lo hi))
theorem mo_sl (ha : Mo wa) (hl : MoO wl) (hh : MoO wh) : Mo (dSl wa wl wh) := fun ρ Q Q' m q => ha _ _ _ (fun x q => hl _ _ _ (fun l q => hh _ _ _ (fun u q => q.imp (fun ⟨ds, e, q⟩ => ⟨ds, e, m _ q⟩) fun ⟨ds, e, q⟩ => ⟨ds, e, m _ q⟩) q) q) q
theorem de_slU (ha : DB G X a wa) (hl : DO G X lo wl) (hh : DO G X hi wh) : DE G X (.Subscript a (.Slice lo hi none p2) pos) (dSl wa wl wh) :=
  ⟨pe_imp (pe_slice (sl_tupA.or sl_list) ha.pe hl.po hh.po) fun σ H Q ⟨F, B, ρ, g, q⟩ => ⟨F, B, ρ, g, ha.mo _ _ _ (fun d q v H1 k1 o1 r1 => ⟨F, B, ρ, g.step k1 o1, hl.mo _ _ _ (fun l q H2 k2 o2 => ⟨F, B, ρ, (g.step k1 o1).step k2 o2, hh.mo _ _ _ (fun u q H3 k3 o3 => by
    have g3 := ((g.step k1 o1).step k2 o2).step k3 o3
    rcases q with ⟨ds, ed, q4⟩ | ⟨ds, ed, q4⟩
    · subst ed
      have r3 : RpB G.dl B H3 v (.tuple ds) := (r1.step (g.step k1 o1) k2).step ((g.step k1 o1).step k2 o2) k3
      obtain ⟨p, ys, rfl, n, e, l4⟩ := rb_tup' r3
      refine .inl ⟨p, ys, rfl, .of e, fun hw => ?_, fun hw pp np => ?_⟩
      · refine q4 _ _ (k1.trans (k2.trans k3)) o3 ?_
        rw [l4.len] at hw
        rw [cutD_whole hw]
        exact .tup n e l4
      · exact q4 _ _ ((k1.trans (k2.trans k3)).trans (Kp.new np)) (ok_new o3 np) (.tup (g3.nb np) upd_same ((rp_cut l u l4).mv (fun _ z => z) (upd_keep np)))
    · subst ed
      have r3 : RpB G.dl B H3 v (.list ds) := (r1.step (g.step k1 o1) k2).step ((g.step k1 o1).step k2 o2) k3
      obtain ⟨p, xs, rfl, h, l3⟩ := rb_list X.K r3
      exact .inr ⟨p, xs, rfl, h, fun pp np => q4 _ _ ((k1.trans (k2.trans k3)).trans (Kp.new np)) (ok_new o3 np) (.lst (g3.nb np) upd_same ((rp_cut l u l3).mv (fun _ z => z) (upd_keep np)))⟩) q⟩) q⟩) q⟩, mo_sl ha.mo hl.mo hh.mo⟩
/-! is None, is not None -/
def isN : PyData → Bool
  | .none => true
  | _ => false
def fIsN : W2 := fun x y Q => y = .none ∧ Q (.bool (isN x))
def fNotN : W2 := fun x y Q => y = .none ∧ Q (.bool (!isN x))
theorem rb_non {dl : Dl2} {B : Addr → Prop} {H : Hp} {v : V} {d : PyData} (h : RpB dl B H v d) : decide (v = V.non) = isN d := by
  rcases h with h | ⟨a, xs, ds, rfl, rfl, _⟩
  · cases h <;> rfl
  · rfl
theorem rb_non' {dl : Dl2} {B : Addr → Prop} {H : Hp} {v : V} (h : RpB dl B H v .none) : v = .non := by
  rcases h with h | ⟨a, xs, ds, _, h, _⟩
  · cases h; rfl
  · cases h
theorem de_isN (ha : DB G X a wa) (hb : DB G X b wb) : DE G X (.Compare a [.Is] [b] pos) (d2 fIsN wa wb) :=
  de_cmp op_isN ha hb (fun F B σ ρ H x y d e Q g rx ry ⟨h, q⟩ => by subst h; exact ⟨rb_non' ry, by rw [rb_non rx]; exact q _ H .refl g.deal (.bl _)⟩) (fun _ _ _ _ m ⟨h, q⟩ => ⟨h, m _ q⟩) (nomark b)
theorem de_notN (ha : DB G X a wa) (hb : DB G X b wb) : DE G X (.Compare a [.IsNot] [b] pos) (d2 fNotN wa wb) :=
  de_cmp op_notN ha hb (fun F B σ ρ H x y d e Q g rx ry ⟨h, q⟩ => by subst h; exact ⟨rb_non' ry, by rw [rb_non rx]; exact q _ H .refl g.deal (.bl _)⟩) (fun _ _ _ _ m ⟨h, q⟩ => ⟨h, m _ q⟩) (nomark b)
theorem dt_isN (ha : DB G X a wa) (hb : DB G X b wb) : DT G X (.Compare a [.Is] [b] pos) (tb (d2 fIsN wa wb)) :=
  dt_cmp op_isN ha hb (fun F B σ ρ H x y d e Q g rx ry ⟨h, q⟩ => by subst h; exact ⟨rb_non' ry, by rw [rb_non rx]; exact q _ H .refl g.deal (.bl _)⟩) (fun _ _ _ _ m ⟨h, q⟩ => ⟨h, m _ q⟩) (nomark b)
theorem dt_notN (ha : DB G X a wa) (hb : DB G X b wb) : DT G X (.Compare a [.IsNot] [b] pos) (tb (d2 fNotN wa wb)) :=
  dt_cmp op_notN ha hb (fun F B σ ρ H x y d e Q g rx ry ⟨h, q⟩ => by subst h; exact ⟨rb_non' ry, by rw [rb_non rx]; exact q _ H .refl g.deal (.bl _)⟩) (fun _ _ _ _ m ⟨h, q⟩ => ⟨h, m _ q⟩) (nomark b)
end
end Dl
/-! The data layer, part 11: how readings are reckoned. -/
namespace Dl
open PySem PySem.Spec PyProof.Rows L2
theorem start_nil {args : List SV} : start' [] args = args.map some := by simp [start']
theorem atI_zero {α : Type} (x : α) (xs : List α) : atI (x :: xs) 0 = some x := atI_nat (j := 0) rfl
theorem atI_some {α : Type} {xs : List α} {i : Int} {v : α} (h0 : 0 ≤ i) (h : xs[i.toNat]? = some v) : atI xs i = some v := by
  have := atI_nat (j := i.toNat) h
  rwa [Int.toNat_of_nonneg h0] at this
theorem ixN_some {n : Nat} {i : Int} (h0 : 0 ≤ i) (h : i < n) : ixN n i = some i.toNat := by
  unfold ixN
  rw [if_pos h0, if_pos h]
theorem eqv_int (i j : Int) : PyData.eqv (.int i) (.int j) = (i == j) := by simp [PyData.eqv]
theorem shaped_int (i : Int) : SeqAt.shaped (.int i) = true := by
  unfold SeqAt.shaped
  simp [PyData.canLay0, PyData.depth]
theorem shaped_bool (i : Bool) : SeqAt.shaped (.bool i) = true := by
  unfold SeqAt.shaped
  simp [PyData.canLay0, PyData.depth]
theorem shaped_none : SeqAt.shaped .none = true := by
  unfold SeqAt.shaped
  simp [PyData.canLay0, PyData.depth]
end Dl
/-! The data layer: the program's error classes: X(ValueError's heir) whose __init__ hands a text to super().__init__ and keeps its argument as at. -/
namespace PySem
namespace ErX
open PySem.W PySem.Calls PyProof.Rows PySem.HandSPX
def iA (p1 p2 : Pos) : Arguments := { posonlyargs := [], args := [{ arg := "self", annotation := none, pos := p1 }, { arg := "at", annotation := none, pos := p2 }], vararg := none, kwonlyargs := [], kw_defaults := [], kwarg := none, defaults := [] }
def iB (msg : Str) (j : Nat) (a1 a2 a3 a4 a5 a6 q1 q2 q3 q4 : Pos) : List Stmt := [.Expr (.Call (.Attribute (.Call (.Name "super" a1) [] [] a2) "__init__" a3) [.Constant (.str msg) j a4] [] a5) a6, .Assign [.Attribute (.Name "self" q1) "at" q2] (.Name "at" q3) q4]
def iS : Scope := { kind := .function, names := [(PySem.Str.ofString "self", .local), (PySem.Str.ofString "at", .local), (PySem.Str.ofString "__class__", .free), (PySem.Str.ofString "super", .globalImplicit)], isGenerator := false, isCoroutine := false, more := [] }
/-- what the written part says of the class nm, at C, and of its __init__, at fI -/
structure ErrTxt (prog : Program) (K : Frag) (mg : Str → Option Value) (nm msg : Str) (C fI : Addr) : Prop where
  gC : mg nm = some (.ref C)
  cls : ∃ nm' q N bs bm sn sub ab col dd k0 k1 k2 k3 k5, K.lookup C = some (excClassObj nm' q C N bs bm true sn sub ab col dd k0 k1 k2 k3 k5 "ValueError.__new__") ∧ refsVE bm = true
  sa : findIn K (.ref C) "__setattr__" = some (some (.builtin "object.__setattr__"))
  ga : findIn K (.ref C) "__getattribute__" = some (some (.builtin "BaseException.__getattribute__"))
  gg : findIn K (.ref C) "__getattr__" = some none
  noN : findIn K (.ref C) "at" = some none
  iC : findIn K (.ref C) "__init__" = some (some (.ref fI))
  tC : typeIn K (.ref fI) = some (.type "function")
  kC : keepIn K (.ref C) = true
  exC : subIn K (.ref C) (.type "BaseException") = some true
  tyC : typeIn K (.ref C) = some (.type "type")
  hdC : hasDictIn K C = true
  te : exmOne K (.ref C) (.ref C) = some true
  fn : ∃ (oc : Value) (od : Option Addr) (doc pm : Value) (an : Option Addr) (cda : Addr) (ct : Value) (osl : Array (Option Value)) (j : Nat) (cc : Addr) (p1 p2 a1 a2 a3 a4 a5 a6 q1 q2 q3 q4 : Pos) (qual : Str),
    K.lookup fI = some ⟨oc, od, .func (ksFn "__init__" qual (iA p1 p2) (iB msg j a1 a2 a3 a4 a5 a6 q1 q2 q3 q4) iS .none .none doc pm an (.ref cda) ct cc), osl⟩ ∧ codeIn K (.ref cda) qual = true ∧
    (∃ ccl cdd vs ccs file tf, K.lookup cda = some ⟨ccl, cdd, .fields vs, ccs⟩ ∧ vs[2]? = some (.str file tf) ∧ ((prog.main.file : Str) == file) = true) ∧
    (∃ cl cld csl, K.lookup cc = some ⟨cl, cld, .cell (some (.ref C)), csl⟩) ∧
    (∃ pl : Env → Sem Bool, ∀ env : Env, eval (.Call (.Attribute (.Call (.Name "super" a1) [] [] a2) "__init__" a3) [.Constant (.str msg) j a4] [] a5) env = (do
      let ov ← attributeBase (.Call (.Name "super" a1) [] [] a2) "__init__" env (eval (.Call (.Name "super" a1) [] [] a2) env)
      standAt a3.atName
      let (f, first) ← holding [ov] (getMethod ov "__init__" (pl env))
      callWith a5 f first (backTo a5 (starEach [.Constant (.str msg) j a4] env)) []))
  mroC : mroIn K C (.ref C) = some true
  supI : ks_superIn K C C "__init__" = some (some (.builtin "ValueError.__init__"))
  subB : subIn K (.ref C) (.type "ValueError") = some true
  sup : nsIn K mainGlobals "super" = some none
  any : nsIn K cStatics "thirdparty.any" = some none
  htop : (prog.main.scope.names.lookup ("super" : Str)).isSome = false
structure InitEnd (h h' : Heap) (x C dx t1 : Addr) (v : Value) : Prop where
  keep : ∀ b o, b ≠ x → h.get? b = some o → h'.get? b = some o
  obj : h'.get? x = some { cls := .ref C, dict := some dx, data := .fields #[.ref t1, .none, .none, .none, .bool false, .none] }
  dbig : h.objs.size ≤ dx
  dne : dx ≠ x
  ns : h'.Ns1 dx (fun y => if y = "at" then some v else none)
structure OwnMade (h h' : Heap) (e C d : Addr) (v : Value) : Prop where
  keep : ∀ b o, h.get? b = some o → h'.get? b = some o
  new : h.objs.size ≤ e
  obj : ∃ oe vs, h'.get? e = some oe ∧ oe.cls = .ref C ∧ oe.dict = some d ∧ oe.data = .fields vs ∧ vs[1]? = some .none
  dbig : h.objs.size ≤ d
  dne : d ≠ e
  ns : h'.Ns1 d (fun y => if y = "at" then some v else none)
theorem one_size (v : Value) : [v].length ≤ sizeLine := by
  rw [sizeLine_eq]
  exact (by decide : 1 ≤ 16777216)
section
variable {prog : Program} {w : World} {A : Around} {E : Value → Shared → Prop} {R : Result → Shared → Prop} {s : Shared} {K : Frag} {mg mb : Str → Option Value} {nm msg : Str} {C fI : Addr}
theorem at_init (T : ErrTxt prog K mg nm msg C fI) {x t0 : Addr} {v : Value} (X : K.In s.heap) (hlim : s.heap.NoLimit) (hg : s.heap.Ns mainGlobals mg) (hb : s.heap.Ns builtinsNs mb) (hbb : ∀ x : Str, x ≠ "__name__" → mb x = bootBuiltins x)
    (hx : s.heap.get? x = some (excO C t0)) (hnx : ¬ ∃ o, K.lookup x = some o) (hroom : A.depth < recursionLimit)
    (hq : ∀ h' tk dx t1, InitEnd s.heap h' x C dx t1 v → R (.ok (.ret .none)) { s with heap := h', toks := tk }) :
    codeAny (model prog w) A (.call (.ref fI) ⟨[.ref x, v], []⟩) R s := by
  obtain ⟨oc, od, doc, pm, an, cda, ct, osl, j, cc, p1, p2, a1, a2, a3, a4, a5, a6, q1, q2, q3, q4, qual, ho, hcd, ⟨ccl, cdd, vs, ccs, file, tf, hcode, hvs, hfile⟩, ⟨cl, cld, csl, hcell⟩, pl, hev⟩ := T.fn
  obtain ⟨nm', q, N, bs, bm, sn, sub, ab, col, dd, k0, k1, k2, k3, k5, hC, hbm⟩ := T.cls
  have hcl : clsIn K C = some { name := nm', bases := bs, mro := .ref C :: bm, ns := N, qualname := q, hasDict := true, slotNames := sn, subclasses := sub, abstract := ab, collection := col, hasDel := false } := by unfold clsIn; rw [hC] <;> rfl
  have hxL : s.heap.objs.size ≠ x := Nat.ne_of_gt (Heap.lt_size hx)
  have hmsup : mg "super" = none := mg_none_of X hg T.sup
  obtain ⟨hp, g, d, tk, os⟩ := s
  refine ks_codeAny_call_defAt (fd := ksFn "__init__" qual (iA p1 p2) (iB msg j a1 a2 a3 a4 a5 a6 q1 q2 q3 q4) iS .none .none doc pm an (.ref cda) ct cc) (body := iB msg j a1 a2 a3 a4 a5 a6 q1 q2 q3 q4) (binds := [("self", .ref x), ("at", v)]) hroom (X _ _ ho) rfl hlim (codeRec_of X hcd) rfl
    (BindsTo.of_eq (by first | rfl | with_unfolding_all rfl)) (show ∀ x ∈ iS.names, x.2 ≠ .cell by decide) (fun y hy => by
      rcases List.mem_cons.mp hy with rfl | hy
      · rfl
      · cases List.mem_singleton.mp hy; rfl) (fun h₁ hn k => ?_)
  have X₁ : K.In h₁ := X.keeps k
  have hx₁ := k _ _ hx
  have hC₁ := X₁ _ _ hC
  have lt₁ : hp.objs.size < h₁.objs.size := hn.lt
  -- super().__init__(msg)
  refine ks_wpAt_execs_cons (ks_wpAt_Expr_any (ks_wpAt_MethodCall ?_ (hev _)) rfl rfl)
  refine ks_wpAt_super_base (env := ksEnv qual iS hp.objs.size fI (.ref cda) cc) (by rfl) (by rfl) (by rfl) rfl (X₁ _ _ ho) rfl (by rfl) rfl (X₁ _ _ hcode) rfl hvs hfile T.htop ?_
  refine ks_loadName_global (by rfl) (by rfl) (loadGlobal_builtin (env := ksEnv qual iS hp.objs.size fI (.ref cda) cc) (hg.keeps k) hmsup (hb.keeps k) ((hbb _ (by decide +kernel)).trans (by decide +kernel)) ⟨rfl, ?_⟩)
  refine wpAny_loadName_free (by rfl) (by rfl) (by rfl) ⟨_, X₁ _ _ hcell, rfl⟩ ?_
  refine wpAny_loadName_local (by rfl) (by rfl) hn (by first | rfl | with_unfolding_all rfl | kernel_rfl) ?_
  refine ks_wpAny_isType_cls hC₁ rfl ⟨rfl, ?_⟩
  refine ks_wpAny_call_super hC₁ rfl hx₁ rfl (fun c e => by cases e) (looks_mroIn X₁ T.mroC) (fun h₂ e₂ k₂ => ?_)
  have X₂ : K.In h₂ := X₁.keeps k₂
  have hx₂ := k₂ _ _ hx₁
  have hm : alongIn K "__init__" (((.ref C :: bm).dropWhile (· != .ref C)).drop 1) = some (some (.builtin "ValueError.__init__")) := by
    have := T.supI
    unfold ks_superIn at this
    rw [hcl] at this
    exact this
  have I₂ : InstAt h₂ x (excO C t0) C none := ⟨hx₂, rfl, rfl, trivial⟩
  have sz₂ : h₁.objs.size < h₂.objs.size := by
    have := Heap.lt_size e₂
    exact this
  refine kxs_getMethod kxs_ValueError e₂ (looks_opaque X₂ T.any) (l₀ := .ref C :: bm) (fun A Q E s k q => wpAny_bind ((looks_clsIn X₂ hcl) A _ E s k (wpAny_pure q))) rfl X₂ hm (I₂.type.andThen (looks_subIn X₂ T.subB)) (ks_ne X₂ I₂ hcl) (by rfl) ?_
  -- the wrapper is called
  refine kxs_callWith (i := "ValueError.__init__") (x := x) (by rfl) (evalArgs_plain ?_)
  refine Calls.spliced_cons ?_
  show wpAny _ _ (eval (.Constant (.str msg) j a4) _) _ _ _
  refine Calls.Constant_str ?_
  refine Calls.spliced_nil ?_
  have hu : (h₂.push (kxs_mw "ValueError.__init__" x)).get? h₂.objs.size = some (kxs_mw "ValueError.__init__" x) := Heap.get?_push_at rfl rfl
  have k₃ : ∀ b o, h₂.get? b = some o → (h₂.push (kxs_mw "ValueError.__init__" x)).get? b = some o := fun b o e => Heap.get?_push_of_some _ e
  refine ⟨hu, ?_⟩
  have fin : ∀ (h₄ : Heap) (tk₄ : Nat) (t1 : Addr), (∀ b o, b ≠ x → h₂.get? b = some o → h₄.get? b = some o) → h₄.get? x = some (excO C t1) → h₂.objs.size ≤ h₄.objs.size →
      _root_.PySem.wpAt (model prog w) (A.deeper (ksEnv qual iS hp.objs.size fI (.ref cda) cc)) (.func (iB msg j a1 a2 a3 a4 a5 a6 q1 q2 q3 q4) (ksEnv qual iS hp.objs.size fI (.ref cda) cc)) (execs [.Assign [.Attribute (.Name "self" q1) "at" q2] (.Name "at" q3) q4] (ksEnv qual iS hp.objs.size fI (.ref cda) cc))
        (fun f s' => R (.ok (.ret (match f with | .ret v => v | _ => .none))) s') (fun e s' => wpAny (model prog w) (A.deeper (ksEnv qual iS hp.objs.size fI (.ref cda) cc)) (leaving (ksEnv qual iS hp.objs.size fI (.ref cda) cc) e) (fun _ s'' => R (.error e) s'') (fun e' s'' => R (.error e') s'') s') ⟨h₄, g, d, tk₄, os⟩ := fun h₄ tk₄ t1 k₄ hx₄ sz₄ => by
    have kk : ∀ b o, b ≠ x → hp.get? b = some o → h₄.get? b = some o := fun b o hb e => k₄ b o hb (k₂ b o (k b o e))
    have X₄ : K.In h₄ := fun b o e => by
      by_cases hb : b = x
      · have z := X b o e
        rw [hb, hx] at z
        have z' := X _ _ e
        exfalso
        exact hnx (by rw [← hb]; exact ⟨o, e⟩)
      · exact kk b o hb (X b o e)
    have hn₄ : h₄.Ns hp.objs.size _ := hn.at (fun o e => k₄ _ o hxL (k₂ _ o e))
    refine wpAt_of_wpAny ?_
    refine wpAny_execs_cons (plainObj_wpAny_Assign_Attribute ?_)
    refine wpAny_Name (wpAny_loadName_local (v := v) (by rfl) (by rfl) hn₄ (by first | rfl | with_unfolding_all rfl | kernel_rfl) ?_) (by decide)
    refine wpAny_Name (wpAny_loadName_local (v := .ref x) (by rfl) (by rfl) hn₄ (by first | rfl | with_unfolding_all rfl | kernel_rfl) ?_) (by decide)
    refine set_plain X₄ (ox := excO C t1) (od := none) ⟨hx₄, rfl, rfl, trivial⟩ T.sa ?_
    refine exc_osa X₄ hx₄ hcl (show refsVE (.ref C :: bm) = true from hbm) rfl T.noN (fun h₅ tk₅ dx k₅ dn dne hx₅ hn₅ => ?_)
    refine wpAny_execs_nil (hq h₅ tk₅ dx t1 ⟨fun b o hb e => k₅ b o hb (kk b o hb e), hx₅, ?_, dne, hn₅⟩)
    have dn' : h₄.objs.size ≤ dx := dn
    show hp.objs.size ≤ dx
    omega
  -- ValueError.__init__, bound, called
  have hC₃ := k₃ _ _ (k₂ _ _ hC₁)
  have hx₃ := k₃ _ _ hx₂
  refine wpAny_call (codeAny_of_tree ?_)
  show wpAny _ _ (callAny (.ref h₂.objs.size) _) _ _ _
  simp only [callAny]
  refine wpAny_bind (wpAny_load hu ?_)
  simp only [kxs_mw, show (Value.type "method-wrapper" == Value.type "method" || Value.type "method-wrapper" == Value.type "builtin_function_or_method" || Value.type "method-wrapper" == Value.type "method-wrapper") = true by decide, if_true]
  refine KFB.if_so (by decide) ?_
  refine wpAny_bind (check_bound_init F.excBase_ValueError.toExcCallFacts hC₃ hx₃ rfl ?_)
  refine wpAny_bind (wpAny_pure (wpAny_pure ?_))
  refine ⟨plainId_quiet F.excBase_ValueError.init.plain _, codeAny_builtin F.excBase_ValueError.initEntry ?_⟩
  refine exc_init_tree (cls := .ref C) (t0 := t0) (dv := none) (c2 := .none) (c3 := .none) (b4 := .bool false) hx₃ (one_size _) fun h₄ k₄ e₄ t₄ => ?_
  refine fin h₄ _ _ (fun b o hb e => k₄ b o hb (k₃ b o e)) e₄ ?_
  have z : (h₂.push (kxs_mw "ValueError.__init__" x)).objs.size < h₄.objs.size := Heap.lt_size t₄
  rw [Heap.size_push] at z
  omega
theorem at_made (T : ErrTxt prog K mg nm msg C fI) {v : Value} (X : K.In s.heap) (hlim : s.heap.NoLimit) (hg : s.heap.Ns mainGlobals mg) (hb : s.heap.Ns builtinsNs mb) (hbb : ∀ x : Str, x ≠ "__name__" → mb x = bootBuiltins x) (hroom : A.depth + 1 < recursionLimit)
    (hq : ∀ h' tk e d, OwnMade s.heap h' e C d v → R (.ok (.ret (.ref e))) { s with heap := h', toks := tk }) :
    codeAny (model prog w) A (.call (.ref C) ⟨[v], []⟩) R s := by
  obtain ⟨nm', q, N, bs, bm, sn, sub, ab, col, dd, k0, k1, k2, k3, k5, hC, hbm⟩ := T.cls
  obtain ⟨hp, g, dr, tk, os⟩ := s
  have k : ∀ b o, hp.get? b = some o → ((hp.push (kdv_tup [v])).push (excO C hp.objs.size)).get? b = some o := fun b o e => Heap.get?_push_of_some _ (Heap.get?_push_of_some _ e)
  have hget : ((hp.push (kdv_tup [v])).push (excO C hp.objs.size)).get? (hp.objs.size + 1) = some (excO C hp.objs.size) := by heap_get
  have hnx : ¬ ∃ o, K.lookup (hp.objs.size + 1) = some o := fun ⟨o, e⟩ => by
    have z : hp.get? (hp.objs.size + 1) = some o := X _ _ e
    exact absurd (Nat.lt_of_succ_lt (Heap.lt_size z)) (Nat.lt_irrefl _)
  refine call_own F.excBase_ValueError (fun X => refsVE_contains X bm hbm) (X _ _ hC) (looks_findIn X T.iC) (fun self => bind_fn X self T.tC) (one_size v) ?_
  refine at_init (s := ⟨(hp.push (kdv_tup [v])).push (excO C hp.objs.size), g, dr, tk, os⟩) T (X.keeps k) (hlim.keeps k) (hg.keeps k) (hb.keeps k) hbb hget hnx ?_ fun h' tk' dx t1 ⟨k', hx, dn, dne, hns⟩ => ?_
  · show A.depth + 1 < recursionLimit
    exact hroom
  · have old : ∀ b o, hp.get? b = some o → h'.get? b = some o := fun b o e => k' b o (Nat.ne_of_lt (Nat.lt_succ_of_lt (Heap.lt_size e))) (k b o e)
    have z : hp.objs.size + 1 + 1 ≤ dx := by
      first
        | (simpa only [Heap.size_push] using dn)
        | exact dn
        | (have q := dn; rw [Heap.size_push, Heap.size_push] at q; exact q)
    exact ⟨rfl, hq h' tk' (hp.objs.size + 1) dx ⟨old, Nat.le_succ _, ⟨_, _, hx, rfl, rfl, rfl, rfl⟩, Nat.le_trans (Nat.le_trans (Nat.le_succ _) (Nat.le_succ _)) z, dne, hns⟩⟩
end
end ErX
end PySem
namespace L2
open PySem PySem.Spec PyProof.Rows
theorem relO_at {v : V} {v' : Value} (r : RelV v v') (f : Str) : RelO (List.lookup f [(("at" : Str), v)]) (if f = "at" then some v' else none) := by
  by_cases hw : f = "at"
  · subst hw
    rw [if_pos rfl]
    have q : List.lookup ("at" : Str) [(("at" : Str), v)] = some v := by simp [List.lookup]
    rw [q]
    exact r
  · rw [if_neg hw]
    have qw : (f == ("at" : Str)) = false := by simpa using hw
    have q2 : List.lookup f [(("at" : Str), v)] = none := by simp [List.lookup, qw]
    rw [q2]
    trivial
section
variable {X : Cx} {C fI : Addr} {nm msg : Str}
/-- nm(e) -/
def tMkAt (C : Addr) (ta : TA) : St → Hp → XK → Prop := fun σ H Q => ta σ H fun vs H1 => ∃ v, vs = [v] ∧ ∀ d, H1 d = none → Q (.ref C) (some d) (upd H1 d (.xd [(("at" : Str), v)]))
theorem pmk_at {a : Expr} {ta : TA} {p pos : Pos} {k : Nat} (T : PySem.ErX.ErrTxt X.prog X.K X.mg nm msg C fI) (hr : Room k X.A) (ha : PA X [a] ta) (hg : Gl X nm) (hdb : (nm == ("__debug__" : Str)) = false)
    (he : starEach (a :: []) X.env = (false, eval a X.env) :: starEach [] X.env := by rfl) (hpl : (backTo pos (starEach [] X.env)).any (·.1) = false := by rfl) :
    PMk X (.Call (.Name nm p) [a] [] pos) (tMkAt C ta) := by
  intro pins s σ H Q I h
  refine wpAny_Call_Name_kw (ld_glob I hg T.gC ?_ hdb)
  refine PySem.W.callWith_K (h₀ := X.base) I.ok.mod.kin T.kC (thn (ha.run pos pins s σ H _ I h) fun us s1 hh => ?_) he hpl
  obtain ⟨vs, H1, I1, r1, v, ev, q1⟩ := hh
  subst ev
  refine ⟨I1.kIn, ?_⟩
  obtain ⟨v', rfl, rv⟩ := vals1 r1
  show wpAny _ _ (call (.ref C) [v']) _ _ _
  have hlim := I1.nolimit
  have hglob := I1.mod.glob.keeps I1.bk
  obtain ⟨mb, hb1, hb2⟩ := I1.mod.blt
  have hb3 := hb1.keeps I1.bk
  obtain ⟨hp, g, dr, tk, os⟩ := s1
  refine wpAny_call (PySem.ErX.at_made T I1.kIn hlim hglob hb3 hb2 (by have := hr.dp; omega) fun h' tk' e d M => ?_)
  show MkP X pins σ Q (.ref e) ⟨h', g, dr, tk', os⟩
  obtain ⟨oe, fv, hoe, hc, hd, hdat, h1⟩ := M.obj
  have hns := M.ns
  obtain ⟨G', g1, g2⟩ := restrict h' fun b => decide (b ≠ e)
  have gk : ∀ b, b ≠ e → G'.get? b = h'.get? b := fun b hb => g1 b (decide_eq_true hb)
  have ge : G'.get? e = none := g2 e (by simp)
  have old : ∀ b o, hp.get? b = some o → G'.get? b = some o := fun b o q => (gk b (Nat.ne_of_lt (Nat.lt_of_lt_of_le (Heap.lt_size q) M.new))).trans (M.keep b o q)
  have ob : ObjOk X.prog X.w (upd H1 d (.xd [(("at" : Str), v)])) G' d (.xd [(("at" : Str), v)]) :=
    ⟨_, hns.at (fun o q => (gk d M.dne).trans q), fun f => relO_at rv f⟩
  have J : Inv X pins σ (upd H1 d (.xd [(("at" : Str), v)])) ⟨G', g, dr, tk', os⟩ := I1.laid (t' := tk') old M.dbig ob
  refine ⟨e, oe, fv, ⟨G', g, dr, tk', os⟩, _, .ref C, some d, rfl, J, fun b o q => ?_, ge, hoe, ⟨hc, hd⟩, hdat, h1, ?_, rfl, I1.bare, raises_own T.exC T.tyC, q1 d (I1.hok.fresh M.dbig)⟩
  · by_cases hb : b = e
    · have q' : G'.get? b = some o := q
      rw [hb, ge] at q'; cases q'
    · exact (gk b hb).symm.trans q
  · rw [upd_ne (Ne.symm M.dne)]
    exact I1.hok.fresh M.new
/-- low.at, the exception that a suite holds -/
def tByAt (C : Addr) (a : Addr) (cls : Value) (d : Option Addr) (te : TE) : TE := fun σ H Q => te σ H fun x H1 => x = .ref a ∧ cls = .ref C ∧ ∃ (dd : Addr) (v : V), d = some dd ∧ H1 dd = some (.xd [(("at" : Str), v)]) ∧ Q v H1
theorem pe_byAt {a : Addr} {oe : Obj} {cls : Value} {d : Option Addr} {pn : List (Addr × Obj)} {e : Expr} {te : TE} {pos : Pos} (T : PySem.ErX.ErrTxt X.prog X.K X.mg nm msg C fI) (hz : Zc cls d oe) (hf : ∃ vs, oe.data = .fields vs) (he : PE (X.suite a ((a, oe) :: pn)) e te)
    (hb : attributeBase e "at" X.env (eval e X.env) = eval e X.env := by rfl) :
    PE (X.suite a ((a, oe) :: pn)) (.Attribute e "at" pos) (tByAt C a cls d te) := by
  refine ⟨fun pins s σ H Q I h => ?_⟩
  refine attr_of hb (thn (he.run pins s σ H _ I h) fun u s1 hh => ?_)
  obtain ⟨x, H1, I1, rx, ex, ec, dd, v, ed, ea, q⟩ := hh
  subst ex
  obtain rfl : u = Value.ref a := rx
  subst ec
  subst ed
  obtain ⟨ha, _⟩ := I1.pin (a, oe) (List.mem_append_left _ List.mem_cons_self)
  obtain ⟨vs, hd⟩ := hf
  have hx : ObjOk X.prog X.w H1 s1.heap dd (.xd [(("at" : Str), v)]) := I1.hok dd _ ea
  obtain ⟨mA, hns, hr⟩ := hx
  obtain ⟨od, ho, hl⟩ := lookIn_ns hns
  have l : List.lookup ("at" : Str) [(("at" : Str), v)] = some v := by simp [List.lookup]
  obtain ⟨u, hu, ru⟩ := RelO.some_of (v := v) (o := mA "at") (by rw [← l]; exact hr "at")
  have J : PySem.W.InstAt s1.heap a oe C (some od) := ⟨ha, hz.1, by unfold PySem.W.notCls; rw [hd] <;> rfl, by rw [hz.2]; exact ho⟩
  exact HandSPX.exc_get I1.kIn J T.ga T.gg T.exC (PySem.W.findObj_own T.hdC T.noN rfl (by rw [hl, hu])) (handed_of ru) ⟨v, H1, I1.tok _, ru, q⟩
end
end L2
/-! The data layer, part 12: raise; try. -/
namespace Dl
open PySem PySem.Spec PyProof.Rows L2

def dRaise (xd : En → Addr → PyData → Prop) (C : Addr) (w : WE) : WS := fun _ ρ => w ρ fun d => xd ρ C d
section
variable {G : Ga} {X : Cx} {e : Expr} {w : WE} {nm msg : Str} {C fI : Addr} {p pos pos' : Pos} {k : Nat}
theorem ds_raise (T : PySem.ErX.ErrTxt X.prog X.K X.mg nm msg C fI) {gg : GInv} (hx : Xw gg G X) (hr : Room k X.A) (he : DE G X e w) (hc : X.calm = true := by rfl) (hg : Gl X nm := by rfl) (hdb : (nm == ("__debug__" : Str)) = false := by decide)
    (hs : starEach (e :: []) X.env = (false, eval e X.env) :: starEach [] X.env := by rfl) (hpl : (backTo pos (starEach [] X.env)).any (·.1) = false := by rfl) :
    DS G X (.Raise (some (.Call (.Name nm p) [e] [] pos)) none pos') (dRaise G.xd C w) := by
  obtain ⟨W, tk, hl⟩ := hx.ex
  refine ⟨ps_imp (ps_raise hc tk (pmk_at T hr (pa_cons he.pe pa_nil hs) hg hdb hs hpl)) fun D σ H ⟨F, B, ρ, E, g, q, f⟩ => ?_, fun E E' ρ b q => q⟩
  refine ⟨F, B, ρ, g, he.mo _ _ _ (fun d q v H1 k1 o1 r => ⟨v, rfl, fun dd hd => ?_⟩) q⟩
  have g1 := g.step k1 o1
  have k2 : G.kp H1 (upd H1 dd (.xd [("at", v)])) := Kp.new hd
  have g2 := g1.step k2 (ok_new o1 hd)
  exact hl F B _ σ ρ g2 C d q dd v upd_same (g1.nb hd) (r.step g1 k2)
end

/-! ### try: e except X as n: .. -/
/-- the same deal, bar and entry -/
structure Same (G' G : Ga) : Prop where
  dl : G'.dl = G.dl
  b0 : G'.B0 = G.B0
  h0 : G'.H0 = G.H0
def Ga.tr (G : Ga) (xd : En → Addr → PyData → Prop) (F : Hp) : Ga := { G with xd := xd, fx := fun F' => F' = F }
theorem Go.tr {G : Ga} {F : Hp} {B : Addr → Prop} {H : Hp} {σ : L2.St} {ρ : En} (g : Go G F B H σ ρ) {xd : En → Addr → PyData → Prop} : Go (G.tr xd F) F B H σ ρ := ⟨rfl, g.b0, g.md, g.dom, g.ext, g.new, g.kp, g.deal, g.re⟩
theorem Go.untr {G : Ga} {F F' : Hp} {B : Addr → Prop} {H : Hp} {σ : L2.St} {ρ : En} {xd : En → Addr → PyData → Prop} (h : G.fx F) (g : Go (G.tr xd F) F' B H σ ρ) : Go G F B H σ ρ := by
  have e : F' = F := g.fx
  subst e
  exact ⟨h, g.b0, g.md, g.dom, g.ext, g.new, g.kp, g.deal, g.re⟩
def unset (i : Nat) (E : DEnds) : DEnds := { nx := fun ρ => E.nx (ρ.set i none), rt := E.rt, bk := fun ρ => E.bk (ρ.set i none), ct := fun ρ => E.ct (ρ.set i none) }
/-- what happens to an exception: the suite's, or let out -/
def hnd (xd : En → Addr → PyData → Prop) (M : Addr → Option Bool) (i : Nat) (ws : Addr → Addr → WS) (E : DEnds) : En → Addr → PyData → Prop := fun ρ C d =>
  i < ρ.length ∧ ((M C = some true ∧ ∀ a dd, ws a dd (unset i E) (ρ.set i (some (.ex a dd d)))) ∨ (M C = some false ∧ xd ρ C d))
theorem Below.refl {E : DEnds} : Below E E := ⟨fun _ z => z, fun _ z => z, fun _ z => z, fun _ z => z⟩
theorem Below.trans {E E' E2 : DEnds} (a : Below E E') (b : Below E' E2) : Below E E2 := ⟨fun _ z => b.nx _ (a.nx _ z), fun _ z => b.rt _ (a.rt _ z), fun _ z => b.bk _ (a.bk _ z), fun _ z => b.ct _ (a.ct _ z)⟩
theorem Fit.lo {G : Ga} {F : Hp} {E E' : DEnds} {D : Ends} (b : Below E E') (f : Fit G F E' D) : Fit G F E D := ⟨fun B H σ ρ z => f.nx B H σ ρ (b.nx _ z), fun d v H z => f.rt d v H (b.rt _ z), fun B H σ ρ z => f.bk B H σ ρ (b.bk _ z), fun B H σ ρ z => f.ct B H σ ρ (b.ct _ z)⟩
def dTry (G : Ga) (M : Addr → Option Bool) (i : Nat) (wb : Ga → WS) (ws : Addr → Addr → WS) : WS := fun E1 ρ => ∃ E, Below E E1 ∧
  ∃ xd' : En → Addr → PyData → Prop, (∀ ρ' C d, xd' ρ' C d → hnd G.xd M i ws E ρ' C d) ∧ ∀ F, wb (G.tr xd' F) E ρ
theorem Go.clr {G : Ga} {F : Hp} {B : Addr → Prop} {H : Hp} {σ : L2.St} {ρ : En} (g : Go G F B H σ ρ) (i : Nat) : Go G F B H (σ.set i none) (ρ.set i none) where
  fx := g.fx
  b0 := g.b0
  md := g.md
  dom := g.dom
  ext := g.ext
  new := g.new
  kp := g.kp
  deal := g.deal
  re := by
    have z : ∀ (j : Nat) (sv : SV), (ρ.set i none)[j]? = some (some sv) → j ≠ i ∧ ρ[j]? = some (some sv) := fun j sv h => by
      rcases get_set h with ⟨rfl, e⟩ | h
      · cases e
      · exact h
    refine ⟨by simp [g.re.len], fun j sv h => ?_, fun j l dj dk a h1 h2 h3 h4 => ?_⟩
    · obtain ⟨n, h⟩ := z _ _ h
      obtain ⟨x, a, b⟩ := g.re.at_ j _ h
      exact ⟨x, by rw [List.getElem?_set_ne (Ne.symm n)]; exact a, b⟩
    · obtain ⟨n1, h1⟩ := z _ _ h1
      obtain ⟨n2, h2⟩ := z _ _ h2
      rw [List.getElem?_set_ne (Ne.symm n1)] at h3
      rw [List.getElem?_set_ne (Ne.symm n2)] at h4
      exact g.re.ap _ _ _ _ _ h1 h2 h3 h4
section
variable {G : Ga} {X : Cx} {x n : Str} {c : Addr} {i : Nat} {body suite : List Stmt} {b₀ : Stmt} {np pos pos' : Pos} {wb : Ga → WS} {ws : Addr → Addr → WS} {M : Addr → Option Bool}
theorem ds_try {gg : GInv} (hx : Xw gg G X) (hs : X.stack = X.env :: X.outer) (hf : X.env.frame = some X.env.locals) (hN : X.N.Nodup) (hi : X.N[i]? = some n) (hln : X.env.kindOf n = some .local) (hc : Names X x (.ref c))
    (hM : ∀ C b, M C = some b → PySem.W.exmOne X.K (.ref C) (.ref c) = some b)
    (hb : ∀ (G' : Ga) (pn : List (Addr × Obj)) (xe : Value → Shared → Prop), Same G' G → Xw gg G' (X.tr pn xe) → PassesOwn (model X.prog X.w) X.A X.env xe → DSs G' (X.tr pn xe) body (wb G'))
    (hsu : ∀ (a dd : Addr) (oe : Obj) (C : Addr) (pn : List (Addr × Obj)), M C = some true → Zc (.ref C) (some dd) oe → (∃ vs, oe.data = .fields vs) → DSs G (X.suite a ((a, oe) :: pn)) (b₀ :: suite) (ws a dd)) :
    DS G X (.Try body [.ExceptHandler (some (.Name x np)) (some n) (b₀ :: suite) pos'] [] [] pos) (dTry G M i wb ws) := by
  obtain ⟨Wo, tk, hl⟩ := hx.ex
  let lk : (En → Addr → PyData → Prop) → Hp → WX → Prop := fun xd' F W => ∀ B H σ ρ, Go G F B H σ ρ → ∀ C d, xd' ρ C d → ∀ x v, H x = some (.xd [("at", v)]) → ¬ B x → Rp B H v d → W (.ref C) (some x) σ H
  let tb : WX → TS := fun W D σ H => ∃ F B ρ E xd', Go G F B H σ ρ ∧ lk xd' F W ∧ wb (G.tr xd' F) E ρ ∧ Fit G F E D
  let ts : Addr → Value → Option Addr → TS := fun a cls d D σ H => ∃ C dd, cls = .ref C ∧ d = some dd ∧ M C = some true ∧ ls G (ws a dd) D σ H
  refine ⟨ps_imp (ps_try_as (ts := ts) (tb := tb) hs hf hN hi hln hc tk (fun W pn xe tkW po => ⟨fun pins s σ H D I h => ?_⟩) (fun a oe cls d pn hz hfl => ⟨fun pins s σ H D I h => ?_⟩)) fun D σ H ⟨F, B, ρ, E1, g, ⟨E, bl, q⟩, f1⟩ => ?_, fun E E' ρ b ⟨E0, b0, q⟩ => ⟨E0, b0.trans b, q⟩⟩
  · obtain ⟨F, B, ρ, E, xd', gg, hlk, q, f⟩ := h
    have hG' : Xw _ (G.tr xd' F) (X.tr pn xe) := ⟨⟨W, tkW, fun F' B H σ ρ g C d z x v hx nx r => by
      have e : F' = F := g.fx
      exact hlk B H σ ρ (Go.untr gg.fx g) C d z x v hx nx r⟩, hx.kk, hx.gi⟩
    exact (hb (G.tr xd' F) pn xe ⟨rfl, rfl, rfl⟩ hG' po).pss.run pins s σ H D I ⟨F, B, ρ, E, gg.tr, q, ⟨fun B H σ ρ z g' => f.nx B H σ ρ z (Go.untr gg.fx g'), f.rt, fun B H σ ρ z g' => f.bk B H σ ρ z (Go.untr gg.fx g'), fun B H σ ρ z g' => f.ct B H σ ρ z (Go.untr gg.fx g')⟩⟩
  · obtain ⟨C, dd, rfl, rfl, hm, h⟩ := h
    exact (hsu a dd oe C pn hm hz hfl).pss.run pins s σ H D I h
  · have f := f1.lo bl
    obtain ⟨xd', h1, h2⟩ := q
    refine ⟨F, B, ρ, E, xd', g, fun B' H' σ' ρ' g' C d z x v hx' nx r => ?_, h2 F, f⟩
    obtain ⟨hi', ⟨hm, hw⟩ | ⟨hm, hw⟩⟩ := h1 _ _ _ z
    · refine ⟨true, hM _ _ hm, fun _ a na => ⟨C, x, rfl, rfl, hm, F, B', _, _, g'.put hi' (fun _ z => by cases z) (.ex hx' nx r), hw a x, ?_⟩, fun z => by cases z⟩
      exact ⟨fun B2 H2 σ2 ρ2 z g2 => f.nx _ _ _ _ z (g2.clr i), f.rt, fun B2 H2 σ2 ρ2 z g2 => f.bk _ _ _ _ z (g2.clr i), fun B2 H2 σ2 ρ2 z g2 => f.ct _ _ _ _ z (g2.clr i)⟩
    · exact ⟨false, hM _ _ hm, (fun z => by cases z), fun _ => hl F B' H' σ' ρ' g' C d hw x v hx' nx r⟩
/-- e.at, the exception's -/
def dAt (i : Nat) (a dd : Addr) : WE := fun ρ Q => ∃ d, ρ[i]? = some (some (.ex a dd d)) ∧ Q d
section
variable {a dd C fI : Addr} {oe : Obj} {pn : List (Addr × Obj)} {y msg : Str} {ypos pos : Pos}
theorem de_at (T : PySem.ErX.ErrTxt X.prog X.K X.mg y msg C fI) (hz : Zc (.ref C) (some dd) oe) (hf : ∃ vs, oe.data = .fields vs) (he : PE (X.suite a ((a, oe) :: pn)) (.Name n ypos) (tVar i))
    (hb : attributeBase (.Name n ypos) "at" X.env (eval (.Name n ypos) X.env) = eval (.Name n ypos) X.env := by rfl) :
    DE G (X.suite a ((a, oe) :: pn)) (.Attribute (.Name n ypos) "at" pos) (dAt i a dd) :=
  ⟨pe_imp (pe_byAt T hz hf he hb) fun σ H Q ⟨F, B, ρ, g, d, h, q⟩ => by
    obtain ⟨x, h1, h2⟩ := g.re.at_ i _ h
    cases h2 with
    | @ex _ _ v _ e nb r => exact ⟨.ref a, h1, rfl, rfl, dd, v, rfl, e, q v H .refl g.deal r⟩, fun _ _ _ m ⟨d, h, q⟩ => ⟨d, h, m _ q⟩⟩
end
end
end Dl
/-! Plain facts of data: equality, shapes, texts. -/
namespace Dl
open PySem PySem.Spec PyProof.Rows L2

/-! ### shapes that == takes -/
def Sh (n : Nat) (d : PyData) : Prop := d.canLay0 = true ∧ d.depth ≤ n
def ShL (n : Nat) (ds : List PyData) : Prop := PyData.canLayAll0 ds = true ∧ PyData.depthAll ds ≤ n
theorem Sh.int {n : Nat} (i : Int) : Sh n (.int i) := ⟨by simp [PyData.canLay0], by simp [PyData.depth]⟩
theorem Sh.bool {n : Nat} (i : Bool) : Sh n (.bool i) := ⟨by simp [PyData.canLay0], by simp [PyData.depth]⟩
theorem Sh.none {n : Nat} : Sh n .none := ⟨by simp [PyData.canLay0], by simp [PyData.depth]⟩
theorem Sh.str {n : Nat} {x : Str} (h : PyData.strOk x = true) : Sh n (.str x) := ⟨by simp [PyData.canLay0, h], by simp [PyData.depth]⟩
theorem ShL.nil {n : Nat} : ShL n [] := ⟨by simp [PyData.canLayAll0], by simp [PyData.depthAll]⟩
theorem ShL.cons {n : Nat} {d : PyData} {ds : List PyData} (h : Sh n d) (t : ShL n ds) : ShL n (d :: ds) := by
  obtain ⟨a, b⟩ := h
  obtain ⟨c, e⟩ := t
  exact ⟨by simp [PyData.canLayAll0, a, c], by simp only [PyData.depthAll]; omega⟩
theorem ShL.of {n : Nat} : ∀ {ds : List PyData}, (∀ d ∈ ds, Sh n d) → ShL n ds
  | [], _ => .nil
  | _ :: _, h => .cons (h _ List.mem_cons_self) (ShL.of fun d z => h d (List.mem_cons_of_mem _ z))
theorem Sh.list {n : Nat} {ds : List PyData} (h : ShL n ds) : Sh (n + 1) (.list ds) := ⟨by simpa [PyData.canLay0] using h.1, by have := h.2; simp only [PyData.depth]; omega⟩
theorem Sh.tuple {n : Nat} {ds : List PyData} (h : ShL n ds) : Sh (n + 1) (.tuple ds) := ⟨by simpa [PyData.canLay0] using h.1, by have := h.2; simp only [PyData.depth]; omega⟩
theorem Sh.ints {n : Nat} (ns : List Int) : ShL n (ns.map PyData.int) := .of fun d h => by
  obtain ⟨i, _, rfl⟩ := List.mem_map.mp h
  exact .int i
theorem Sh.bools {n : Nat} (ns : List Bool) : ShL n (ns.map PyData.bool) := .of fun d h => by
  obtain ⟨i, _, rfl⟩ := List.mem_map.mp h
  exact .bool i
theorem Sh.ok {n : Nat} {d : PyData} (h : Sh n d) (hn : n ≤ 64 := by decide) : SeqAt.shaped d = true := by
  unfold SeqAt.shaped
  rw [h.1, Bool.true_and]
  exact decide_eq_true (Nat.le_trans h.2 hn)
theorem shaped_ints (ns : List Int) : SeqAt.shaped (.list (ns.map PyData.int)) = true := (Sh.list (n := 0) (Sh.ints ns)).ok
theorem shaped_intT (ns : List Int) : SeqAt.shaped (.tuple (ns.map PyData.int)) = true := (Sh.tuple (n := 0) (Sh.ints ns)).ok

/-! ### == of ints' lists -/
theorem eqvAll_ints : ∀ (xs ys : List Int), PyData.eqvAll (xs.map PyData.int) (ys.map PyData.int) = decide (xs = ys)
  | [], [] => by simp [PyData.eqvAll]
  | [], y :: ys => by simp [PyData.eqvAll]
  | x :: xs, [] => by simp [PyData.eqvAll]
  | x :: xs, y :: ys => by
    simp only [List.map_cons, PyData.eqvAll, PyData.eqv, eqvAll_ints xs ys]
    rw [Bool.eq_iff_iff]
    simp
theorem eqv_ints (xs ys : List Int) : PyData.eqv (.list (xs.map PyData.int)) (.list (ys.map PyData.int)) = decide (xs = ys) := by
  simp only [PyData.eqv]; exact eqvAll_ints xs ys
theorem eqv_intT (xs ys : List Int) : PyData.eqv (.tuple (xs.map PyData.int)) (.tuple (ys.map PyData.int)) = decide (xs = ys) := by
  simp only [PyData.eqv]; exact eqvAll_ints xs ys
theorem eqv_intN (xs : List Int) : PyData.eqv (.list (xs.map PyData.int)) (.list []) = decide (xs = []) := eqv_ints xs []
theorem eqv_listN (xs : List PyData) : PyData.eqv (.list xs) (.list []) = decide (xs = []) := by
  cases xs <;> simp [PyData.eqv, PyData.eqvAll]
theorem eqv_str (x y : Str) : PyData.eqv (.str x) (.str y) = (x == y) := by simp [PyData.eqv]

/-! ### texts -/
theorem show_int {i : Int} (h : i.natAbs.log2 < 1920) : (PyData.int i).showable = true := by simp [PyData.showable, h]
theorem show_all : ∀ {ds : List PyData}, (∀ d ∈ ds, d.showable = true) → PyData.showableAll ds = true
  | [], _ => by simp [PyData.showableAll]
  | d :: ds, h => by
    simp only [PyData.showableAll, h d List.mem_cons_self, show_all (fun e z => h e (List.mem_cons_of_mem _ z)), Bool.and_self]

/-! ### bits -/
theorem log_lt {n k : Nat} (h : n < 2 ^ k) (hk : 0 < k) : n.log2 < k := by
  by_cases e : n = 0
  · subst e; exact hk
  · exact (Nat.log2_lt e).mpr h
end Dl
/-! The data layer: the law's own draws, by hand: the deal is [cells, blend]. -/
namespace Dl
open PySem PySem.Spec PyProof.Rows L2

/-- a draw: r with 0 ≤ r < bound -/
def S_any : SpD := fun args Q _ => ∃ b : Int, args = [.dl, .v (.int b)] ∧ 0 < b ∧ b.natAbs.log2 < 9000 ∧ ∀ r : Int, 0 ≤ r → r < b → Q (.int r)
theorem mo_any : MoS S_any := fun args Q Q' E E' m _ ⟨b, h1, h2, h3, q⟩ => ⟨b, h1, h2, h3, fun r a c => m _ (q r a c)⟩

/-! readings of the text of a draw -/
section
variable (K : PySem.W.Frag)
/-- deal[k] -/
abbrev aIx (k : Int) : TE := tOp (rIxL K) (tVar 0) (tC (V.int k))
abbrev aOwn : TT := tTest (tOp (rNeD K) (aIx K 0) (tLst tNil))
abbrev aLast : TT := tTest (tOp (rEqD K) (tOp (rIxL K) (aIx K 0) (tUn (rU fun i => V.int (-i)) (tC (V.int 1)))) (tC (V.int 0)))
abbrev aPop : TE := tBM0 K "list" rPop (aIx K 0)
abbrev aInt (t : TA) : TE := tCB (fun xs H Q => (∃ i, xs = [V.int i] ∧ Q (V.int i) H) ∨ ∃ k, xs = [V.bl k] ∧ Q (V.int (if k = true then 1 else 0)) H) t
abbrev aMod (a b : TE) : TE := tOp (rI (fun _ j => 0 < j) fun i j => V.int (i % j)) a b
abbrev aDiv (a b : TE) : TE := tOp (rI CDivW fun i j => V.int (i / j)) a b
def tAny : TS :=
  tSeq (tWhile (tAnd (aOwn K) (aLast K)) (tDrop (aPop K)))
  (tSeq (tIfS (aOwn K) (tSeq (tAsg (aInt (tCons (aPop K) tNil)) (gName 2)) (tSeq (tDrop (tBM K "list" rAppend (aIx K 0) (tCons (aDiv (tVar 2) (tVar 1)) tNil))) (tRet (aMod (tVar 2) (tVar 1))))) tNext)
  (tSeq (tAsg (aMod (aInt (tCons (tOp (rI0 fun i j => V.int (i + j)) (tOp (rI CMulW fun i j => V.int (i * j)) (aIx K 1) (tC (V.int 40693))) (tC (V.int 71))) tNil)) (tC (V.int 2147483647))) (gSub (tVar 0) (tC (V.int 1)) rSetL))
  (tRet (aMod (aInt (tCons (aDiv (aIx K 1) (tC (V.int 64))) tNil)) (tVar 1)))))
end
/-- the deal's two objects -/
structure Dz (p q : Addr) (H : Hp) (c : List Int) (bl : Int) : Prop where
  hp : H p = some (.lst [.ref q, .int bl])
  hq : H q = some (.lst (c.map V.int))
section
variable {dl : Dl2} {B0 : Addr → Prop} {K : PySem.W.Frag} {p q : Addr} {H : Hp} {c : List Int} {bl b : Int} {z : Option V}
/-- a step of the draw: all that is clear of the deal stays, and so does what always holds -/
structure Zk (dl : Dl2) (B0 : Addr → Prop) (H H' : Hp) : Prop where
  kp : Kp dl H H'
  gi : dl.gi.I B0 H → dl.gi.I B0 H'
theorem Zk.refl {dl : Dl2} {B0 : Addr → Prop} {H : Hp} : Zk dl B0 H H := ⟨.refl, fun z => z⟩
theorem Zk.trans {dl : Dl2} {B0 : Addr → Prop} {H H1 H2 : Hp} (a : Zk dl B0 H H1) (b : Zk dl B0 H1 H2) : Zk dl B0 H H2 := ⟨a.kp.trans b.kp, fun z => b.gi (a.gi z)⟩
theorem Zk.new {dl : Dl2} {B0 : Addr → Prop} {H : Hp} {n : Addr} {xs : List V} (h : H n = none) : Zk dl B0 H (upd H n (.lst xs)) :=
  ⟨.new h, dl.gi.keep (fun a u _ e => by rw [upd_ne (ne_of_none e h)]; exact e) (fun a u _ e => by rw [upd_ne (ne_of_none e h)]; exact e) (upd_pl trivial)⟩
theorem Zk.put {dl : Dl2} {B0 : Addr → Prop} {H : Hp} {n : Addr} {xs ys : List V} (m : Md dl n) (b : B0 n) (h : H n = some (.lst ys)) : Zk dl B0 H (upd H n (.lst xs)) :=
  ⟨⟨fun a o s _ e => by rw [upd_ne fun (z : a = n) => s (z ▸ m)]; exact e, fun a q e => ⟨q, by rw [upd_ne (ne_of e h (by simp))]; exact e⟩, fun a q e => ⟨q, by rw [upd_ne (ne_of e h (by simp))]; exact e⟩⟩,
   dl.gi.keep (fun a u s e => by rw [upd_ne fun (z : a = n) => s (z ▸ b)]; exact e) (fun a u x e => by rw [upd_ne fun (z : a = n) => by rw [z, h] at e; cases e; exact x]; exact e) (upd_pl trivial)⟩
abbrev sA (p : Addr) (b : Int) (z : Option V) : L2.St := [some (.ref p), some (.int b), z]
theorem aIx0 (h : Dz p q H c bl) {Q : VK} (k : Q (.ref q) H) : aIx K 0 (sA p b z) H Q := ⟨.ref p, rfl, p, _, 0, .ref q, rfl, rfl, .of h.hp, rfl, k⟩
theorem aIx1 (h : Dz p q H c bl) {Q : VK} (k : Q (.int bl) H) : aIx K 1 (sA p b z) H Q := ⟨.ref p, rfl, p, _, 1, .int bl, rfl, rfl, .of h.hp, rfl, k⟩
theorem Dz.new (h : Dz p q H c bl) {n : Addr} {o : HO} (hn : H n = none) : Dz p q (upd H n o) c bl :=
  ⟨by rw [upd_ne (ne_of_none h.hp hn)]; exact h.hp, by rw [upd_ne (ne_of_none h.hq hn)]; exact h.hq⟩
theorem dp_ints {H : Hp} {a : Addr} {ns : List Int} (h : H a = some (.lst (ns.map V.int))) : Dp K H (.ref a) (.list (ns.map PyData.int)) := .lst (.of h) ((RpL.ints (B := fun _ => False) ns).dp K _ _ (PyData.hasDictAll_of_canLayAll _ (Sh.ints (n := 0) ns).1))
theorem aOwn_ok (h : Dz p q H c bl) {Q : Bool → Hp → Prop} (k : ∀ H1, Zk dl B0 H H1 → Dz p q H1 c bl → Q (!decide (c = [])) H1) : aOwn K (sA p b z) H Q := by
  refine aIx0 h ⟨Nat.zero_le _, fun n hn => ?_⟩
  refine ⟨.list (c.map PyData.int), .list [], dp_ints (h.new hn).hq, .lst (.of upd_same) .nil, shaped_ints _, rfl, _, rfl, ?_⟩
  rw [eqv_intN]
  exact k _ (.new hn) (h.new hn)
theorem aLast_ok (h : Dz p q H (c ++ [bl0]) bl) {Q : Bool → Hp → Prop} (k : Q (decide (bl0 = 0)) H) : aLast K (sA p b z) H Q := by
  refine aIx0 h ⟨1, rfl, q, _, -1, .int bl0, rfl, rfl, .of h.hq, ?_, .int bl0, .int 0, .int _, .int _, rfl, rfl, _, rfl, ?_⟩
  · rw [List.map_append]
    have e : ixN (c.length + 1) (-1) = some c.length := by
      unfold ixN
      rw [if_neg (by omega), if_pos (by omega)]
      congr 1
      omega
    unfold atI
    simp [e, List.getElem?_append_right]
  · rw [show PyData.eqv (.int bl0) (.int 0) = decide (bl0 = 0) by rw [eqv_int]; by_cases h : bl0 = 0 <;> simp [h]]
    exact k
theorem aPop_ok (h : Dz p q H (c ++ [bl0]) bl) (hne : p ≠ q) (mq : Md dl q) (bq : B0 q) {Q : VK} (k : ∀ H1, Zk dl B0 H H1 → Dz p q H1 c bl → Q (.int bl0) H1) : aPop K (sA p b z) H Q := by
  refine aIx0 h ⟨.inl ⟨rfl, _, .inl (.inl h.hq)⟩, q, _, .int bl0, rfl, rfl, h.hq, by simp, k _ (.put mq bq h.hq) ⟨?_, ?_⟩⟩
  · rw [upd_ne hne]; exact h.hp
  · rw [upd_same]; simp

theorem any_ok (hdl : dl.dl = some (p, q)) (bp : B0 p) (bq : B0 q) (i0 : dl.gi.I B0 H) (hne : p ≠ q) (h0 : Dz p q H c bl) (hc : c.length ≤ 63) (hn : ∀ x ∈ c, 0 ≤ x) (hb0 : 0 ≤ bl) (hb1 : bl < 2147483647) (hb : 0 < b) (hbw : b.natAbs.log2 < 9000) {Q : VK} {R : L2.St → Hp → Prop}
    (k : ∀ r : Int, 0 ≤ r → r < b → ∀ H', Kp dl H H' → DealOk dl B0 H' → Q (.int r) H') : tAny K { nx := R, rt := Q } (sA p b none) H := by
  have mp : Md dl p := by unfold Md; rw [hdl]; exact .inl rfl
  have mq : Md dl q := by unfold Md; rw [hdl]; exact .inr rfl
  have ok : ∀ (H' : Hp) (c' : List Int) (bl' : Int), Zk dl B0 H H' → Dz p q H' c' bl' → c'.length ≤ 63 → (∀ x ∈ c', 0 ≤ x) → 0 ≤ bl' → bl' < 2147483647 → DealOk dl B0 H' := fun H' c' bl' z h a b1 c1 d => ⟨by unfold DOk; rw [hdl]; exact ⟨hne, c', bl', h.hp, h.hq, a, b1, c1, d⟩, z.gi i0⟩
  refine ⟨fun m σ H1 => ∃ c', σ = sA p b none ∧ Zk dl B0 H H1 ∧ Dz p q H1 c' bl ∧ c'.length ≤ 63 ∧ (∀ x ∈ c', 0 ≤ x) ∧ m = c'.length, ⟨_, c, rfl, .refl, h0, hc, hn, rfl⟩, fun m σ H1 ⟨c', e, k1, h1, hc1, hn1, hm⟩ => ?_⟩
  subst e
  have rest : ∀ H2, Zk dl B0 H1 H2 → Dz p q H2 c' bl → tSeq (tIfS (aOwn K) (tSeq (tAsg (aInt (tCons (aPop K) tNil)) (gName 2)) (tSeq (tDrop (tBM K "list" rAppend (aIx K 0) (tCons (aDiv (tVar 2) (tVar 1)) tNil))) (tRet (aMod (tVar 2) (tVar 1))))) tNext)
      (tSeq (tAsg (aMod (aInt (tCons (tOp (rI0 fun i j => V.int (i + j)) (tOp (rI CMulW fun i j => V.int (i * j)) (aIx K 1) (tC (V.int 40693))) (tC (V.int 71))) tNil)) (tC (V.int 2147483647))) (gSub (tVar 0) (tC (V.int 1)) rSetL))
      (tRet (aMod (aInt (tCons (aDiv (aIx K 1) (tC (V.int 64))) tNil)) (tVar 1)))) { nx := R, rt := Q } (sA p b none) H2 := fun H2 k2 h2 => by
    refine aOwn_ok (dl := dl) (B0 := B0) h2 fun H3 k3 h3 => ?_
    rcases List.eq_nil_or_concat c' with e | ⟨c2, x, e⟩
    · subst e
      dsimp only
      rw [if_neg (by simp)]
      refine aIx1 h3 ?_
      refine ⟨bl, 40693, rfl, rfl, ?_, ?_⟩
      · have h1 : bl.natAbs.log2 < 31 := log_lt (by omega) (by decide)
        have h2 : (40693 : Int).natAbs.log2 < 16 := log_lt (by decide) (by decide)
        show bl.natAbs.log2 + (40693 : Int).natAbs.log2 < 1000000
        omega
      refine ⟨_, 71, rfl, rfl, .inl ⟨_, rfl, _, _, rfl, rfl, (by show (0 : Int) < 2147483647; decide), ?_⟩⟩
      have b0 : 0 ≤ (bl * 40693 + 71) % 2147483647 := Int.emod_nonneg _ (by decide)
      have b1 : (bl * 40693 + 71) % 2147483647 < 2147483647 := Int.emod_lt_of_pos _ (by decide)
      refine ⟨.ref p, rfl, p, _, 1, 1, rfl, rfl, h3.hp, rfl, ?_⟩
      have h4 : Dz p q (upd H3 p (.lst [.ref q, .int ((bl * 40693 + 71) % 2147483647)])) [] ((bl * 40693 + 71) % 2147483647) := ⟨upd_same, by rw [upd_ne (Ne.symm hne)]; exact h3.hq⟩
      refine aIx1 h4 ⟨_, 64, rfl, rfl, (show CDivW _ 64 from ⟨by decide, by decide⟩), .inl ⟨_, rfl, _, rfl, _, _, rfl, rfl, hb, ?_⟩⟩
      have z4 : Zk dl B0 H (upd H3 p (.lst [.ref q, .int ((bl * 40693 + 71) % 2147483647)])) := ((k1.trans k2).trans k3).trans (.put mp bp h3.hp)
      exact k _ (Int.emod_nonneg _ (by omega)) (Int.emod_lt_of_pos _ hb) _ z4.kp (ok _ _ _ z4 h4 (by simp) (by simp) b0 b1)
    · subst e
      rw [List.concat_eq_append] at *
      dsimp only
      rw [if_pos (by simp)]
      have hx : 0 ≤ x := hn1 x (by simp)
      have hc2 : c2.length + 1 ≤ 63 := by simpa using hc1
      refine aPop_ok h3 hne mq bq fun H4 k4 h4 => .inl ⟨_, rfl, ?_⟩
      refine aIx0 h4 ⟨.inl ⟨rfl, _, .inl (.inl h4.hq)⟩, _, rfl, _, rfl, x, b, rfl, rfl, ⟨hb, hbw⟩, ?_⟩
      have h5 : Dz p q (upd H4 q (.lst (c2.map V.int ++ [.int (x / b)]))) (c2 ++ [x / b]) bl := ⟨by rw [upd_ne hne]; exact h4.hp, by rw [upd_same]; simp⟩
      have sz : (c2.map V.int).length < sizeLine := by
        rw [List.length_map]
        exact Nat.lt_of_lt_of_le (show c2.length < 64 by omega) (by decide)
      refine ⟨q, _, _, rfl, rfl, h4.hq, sz, _, rfl, _, rfl, x, b, rfl, rfl, hb, ?_⟩
      have z5 : Zk dl B0 H (upd H4 q (.lst (c2.map V.int ++ [.int (x / b)]))) := (((k1.trans k2).trans k3).trans k4).trans (.put mq bq h4.hq)
      refine k _ (Int.emod_nonneg _ (by omega)) (Int.emod_lt_of_pos _ hb) _ z5.kp (ok _ _ _ z5 h5 (by simpa using hc1) ?_ hb0 hb1)
      · intro y hy
        rcases List.mem_append.mp hy with hy | hy
        · exact hn1 y (by simp [hy])
        · rw [List.mem_singleton.mp hy]
          exact Int.ediv_nonneg hx (by omega)
  refine aOwn_ok (dl := dl) (B0 := B0) h1 fun H2 k2 h2 => ?_
  rcases List.eq_nil_or_concat c' with e | ⟨c2, x, e⟩
  · subst e
    dsimp only
    rw [if_neg (by simp)]
    try dsimp only
    rw [if_neg (by simp)]
    exact rest _ k2 h2
  · subst e
    rw [List.concat_eq_append] at *
    dsimp only
    rw [if_pos (by simp)]
    refine aLast_ok h2 ?_
    by_cases hx : x = 0
    · try dsimp only
      rw [if_pos (by simpa using hx)]
      refine ⟨fun σ' H' => ∃ m', m' < m ∧ ∃ c', σ' = sA p b none ∧ Zk dl B0 H H' ∧ Dz p q H' c' bl ∧ c'.length ≤ 63 ∧ (∀ x ∈ c', 0 ≤ x) ∧ m' = c'.length, fun _ _ z => z, ?_⟩
      refine aPop_ok h2 hne mq bq fun H3 k3 h3 => ⟨c2.length, by rw [hm]; simp, c2, rfl, k1.trans (k2.trans k3), h3, by simp at hc1; omega, fun y hy => hn1 y (by simp [hy]), rfl⟩
    · try dsimp only
      rw [if_neg (by simpa using hx)]
      exact rest _ k2 h2
end

/-- a draw's arguments -/
theorem any_args {K : PySem.W.Frag} {gg : GInv} {vs : List V} {H : Hp} {Q : VK} {E : XK} (h : spL gg S_any vs H Q E) {R : L2.St → Hp → Prop} : tAny K { nx := R, rt := Q } (L2.start ["_law_deal", "_law_bound", "_law_rest"] vs) H := by
  obtain ⟨dl, B0, args, hgi, md, dom, ok, al, b, rfl, hb, hw, q⟩ := h
  cases al with
  | cons h1 al =>
    cases h1 with
    | @dl p q' e =>
      cases al with
      | cons h2 al =>
        cases al
        cases h2 with
        | v r =>
          cases r
          have od := ok.d
          unfold DOk at od
          rw [e] at od
          obtain ⟨hne, c, bl, e1, e2, hc, hn, b0, b1⟩ := od
          have bp : B0 p := md _ (by unfold Md; rw [e]; exact .inl rfl)
          have bq : B0 q' := md _ (by unfold Md; rw [e]; exact .inr rfl)
          exact any_ok e bp bq ok.i hne ⟨e1, e2⟩ hc hn b0 b1 hb hw fun r h1 h2 H' k o => q r h1 h2 _ H' k o (.int r)
end Dl
/-! The data layer, part 13: comprehensions of two clauses. -/
namespace Dl
open PySem PySem.Spec PyProof.Rows L2

/-- the slots' own lists put aside -/
def noO (ρ : En) : En := ρ.map fun z => match z with
  | some (.o _) => none
  | z => z
theorem noO_some {ρ : En} {i : Nat} {sv : SV} (h : (noO ρ)[i]? = some (some sv)) : ρ[i]? = some (some sv) ∧ ∀ ds, sv ≠ .o ds := by
  unfold noO at h
  rw [List.getElem?_map] at h
  cases e : ρ[i]? with
  | none => rw [e] at h; cases h
  | some z =>
    rw [e] at h
    cases z with
    | none => cases h
    | some s =>
      cases s with
      | o ds => cases h
      | v d => cases h; exact ⟨rfl, fun _ z => by cases z⟩
      | dl => cases h; exact ⟨rfl, fun _ z => by cases z⟩
      | b ds => cases h; exact ⟨rfl, fun _ z => by cases z⟩
      | scr ns => cases h; exact ⟨rfl, fun _ z => by cases z⟩
      | ex a dd d => cases h; exact ⟨rfl, fun _ z => by cases z⟩
      | fn a c q => cases h; exact ⟨rfl, fun _ z => by cases z⟩
section
variable {G : Ga} {F : Hp} {B : Addr → Prop} {H H' : Hp} {σ : L2.St} {ρ : En}
theorem Go.noO (g : Go G F B H σ ρ) : Go G F B H σ (noO ρ) where
  fx := g.fx
  b0 := g.b0
  md := g.md
  dom := g.dom
  ext := g.ext
  new := g.new
  kp := g.kp
  deal := g.deal
  re := ⟨by rw [g.re.len]; unfold Dl.noO; simp, fun i sv h => g.re.at_ i sv (noO_some h).1, fun i j di dj a h1 _ _ _ => absurd rfl ((noO_some h1).2 di)⟩
/-- all but the deal and D stays -/
structure KpD (dl : Dl2) (D : Addr) (H H' : Hp) : Prop where
  k : ∀ a o, ¬ Md dl a → a ≠ D → Hd o → H a = some o → H' a = some o
  d : ∀ a q, a ≠ D → H a = some (.dK q) → ∃ q', H' a = some (.dK q')
  t : ∀ a q, a ≠ D → H a = some (.tbl q) → ∃ q', H' a = some (.tbl q')
theorem KpD.refl {dl : Dl2} {D : Addr} {H : Hp} : KpD dl D H H := ⟨fun _ _ _ _ _ h => h, fun _ q _ h => ⟨q, h⟩, fun _ q _ h => ⟨q, h⟩⟩
theorem KpD.step {dl : Dl2} {D : Addr} {H H1 H2 : Hp} (a : KpD dl D H H1) (b : Kp dl H1 H2) : KpD dl D H H2 :=
  ⟨fun x o n e s h => b.k x o n s (a.k x o n e s h), fun x q e h => by obtain ⟨_, z⟩ := a.d x q e h; exact b.d _ _ z, fun x q e h => by obtain ⟨_, z⟩ := a.t x q e h; exact b.t _ _ z⟩
theorem KpD.put {dl : Dl2} {D : Addr} {H H1 : Hp} {o : HO} (a : KpD dl D H H1) : KpD dl D H (upd H1 D o) :=
  ⟨fun x u n e s h => by rw [upd_ne e]; exact a.k x u n e s h, fun x q e h => by rw [upd_ne e]; exact a.d x q e h, fun x q e h => by rw [upd_ne e]; exact a.t x q e h⟩
theorem KpD.kp {dl : Dl2} {D : Addr} {F H H' : Hp} (a : KpD dl D H H') (k : Kp dl F H) (h : F D = none) : Kp dl F H' := by
  have ne : ∀ {c u}, F c = some u → c ≠ D := fun {c u} e => ne_of_none e h
  exact ⟨fun c u n s e => a.k c u n (ne e) s (k.k c u n s e), fun c q e => by obtain ⟨_, z⟩ := k.d c q e; exact a.d c _ (ne e) z, fun c q e => by obtain ⟨_, z⟩ := k.t c q e; exact a.t c _ (ne e) z⟩
theorem KpD.kx {dl : Dl2} {D : Addr} {B : Addr → Prop} {H H' : Hp} (a : KpD dl D H H') (b : B D) (m : ∀ a, Md dl a → B a) : Kx B H H' :=
  ⟨fun c u n s e => a.k c u (fun z => n (m _ z)) (fun z => n (z ▸ b)) s e, fun c q n e => a.d c q (fun z => n (z ▸ b)) e⟩
theorem KpD.some {dl : Dl2} {D : Addr} {H H' : Hp} (k : KpD dl D H H') {a : Addr} (m : ¬ Md dl a) (n : a ≠ D) (h : H a ≠ none) : H' a ≠ none := fun e => by
  cases q : H a with
  | none => exact h q
  | some o =>
    by_cases s : Hd o
    · rw [k.k a o m n s q] at e; cases e
    · cases o with
      | dK x => obtain ⟨_, z⟩ := k.d a x n q; rw [z] at e; cases e
      | tbl x => obtain ⟨_, z⟩ := k.t a x n q; rw [z] at e; cases e
      | _ => exact s trivial
/-- a list that no slot holds is changed -/
theorem Go.stepD (g : Go G F B H σ (Dl.noO ρ)) {D : Addr} (bD : B D) (nD : ¬ G.B0 D) {zs : List V} (hz : H D = some (.lst zs)) (k : KpD G.dl D H H') (hD : H' D ≠ none) (o : G.ok B H') : Go G F B H' σ (Dl.noO ρ) where
  fx := g.fx
  b0 := g.b0
  md := g.md
  dom := fun a z => by
    by_cases e : a = D
    · rw [e]; exact hD
    · by_cases m : Md G.dl a
      · exact deal_dom o a m
      · exact k.some m e (g.dom a z)
  ext := g.ext
  new := g.new
  kp := k.kp g.kp (g.new D bD nD)
  deal := o
  re := ⟨g.re.len, fun i sv h => by
    obtain ⟨x, h1, h2⟩ := g.re.at_ i sv h
    have kb : Kx B H H' := k.kx bD fun a z => g.b0 _ (g.md _ z)
    refine ⟨x, h1, ?_⟩
    cases h2 with
    | v r => exact .v (r.mk kb)
    | o b n e l => exact absurd rfl ((noO_some h).2 _)
    | dl e => exact .dl e
    | ex e n r => exact .ex (kb.k _ _ n trivial e) n (r.mk kb)
    | fn m e => exact .fn m (k.k _ _ m (code_ne hz e) trivial e)
    | b z m e l => exact .b z m (k.k _ _ m (fun e' => nD (e' ▸ z)) trivial e) (l.mk kb)
    | scr q =>
      refine .scr ?_
      rcases q with ⟨oo, q⟩ | q
      · refine .inl ⟨oo, ?_⟩
        refine k.k _ _ (fun m => ?_) (fun e => by rw [e, hz] at q; cases q) trivial q
        obtain ⟨xs, e⟩ := g.deal.d.md m
        rw [e] at q; cases q
      · exact .inr q, fun i j di dj a h1 _ _ _ => absurd rfl ((noO_some h1).2 di)⟩
end
def dLc2 (vs vs1 : List Nat) (wi : WI) (gt : WTg) (wt : WT) (wi1 : WI) (gt1 : WTg) (wt1 : WT) (we : WE) : WE := fun ρ Q => wi ρ fun ds => ∃ P : Nat → List PyData → Prop, P 0 [] ∧
  (∀ i acc, P i acc → ∀ h : i < ds.length, gt ds[i] (wipeD ρ vs) fun ρ2 => wt ρ2 fun b => if b = true then wi1 (noO ρ2) fun es => ∃ P1 : Nat → List PyData → Prop, P1 0 acc ∧
    (∀ j acc1, P1 j acc1 → ∀ h : j < es.length, gt1 es[j] (wipeD (noO ρ2) vs1) fun ρ3 => wt1 ρ3 fun b => if b = true then we ρ3 fun y => acc1.length < sizeLine ∧ P1 (j + 1) (acc1 ++ [y]) else P1 (j + 1) acc1) ∧ ∀ acc1, P1 es.length acc1 → P (i + 1) acc1
    else P (i + 1) acc) ∧ ∀ acc, P ds.length acc → Q (.list acc)
theorem mo_dLc2 {vs vs1 : List Nat} {wi : WI} {gt : WTg} {wt : WT} {wi1 : WI} {gt1 : WTg} {wt1 : WT} {we : WE} (h : MoI wi) : Mo (dLc2 vs vs1 wi gt wt wi1 gt1 wt1 we) := fun ρ Q Q' m q => h _ _ _ (fun ds ⟨P, p0, turn, fin⟩ => ⟨P, p0, turn, fun acc p => m _ (fin acc p)⟩) q
theorem lc2_lift {G : Ga} {vs vs1 T T1 : List Nat} {wi wi1 : WI} {gt gt1 : WTg} {wt wt1 : WT} {we : WE} (hT : ∀ i ∈ T, i ∈ vs) (hT1 : ∀ i ∈ T1, i ∈ vs1) (mi : MoI wi) (mg : MoTg gt) (mt : MoT wt) (mi1 : MoI wi1) (mg1 : MoTg gt1) (mt1 : MoT wt1) (me : Mo we) :
    ∀ σ H Q, lw G (dLc2 vs vs1 wi gt wt wi1 gt1 wt1 we) σ H Q → tLc2 (lic G wi) (ltn G.qt T gt) (lt' G.qt wt) (lis G.qt wi1) (ltn G.qt T1 gt1) (lt' G.qt wt1) (lf G.qt we) vs vs1 σ H Q := fun σ H Q ⟨F, B, ρ, g, q⟩ =>
  ⟨F, B, ρ, g, mi _ _ _ (fun ds ⟨P, p0, turn, fin⟩ J H1 k o it D nD => by
    have g1 := g.step k o
    have mD : ¬ Md G.dl D := fun z => deal_dom o D z nD
    refine ⟨fun i m H' => ∃ acc xs, P i acc ∧ i ≤ ds.length ∧ m = ds.length - i ∧ G.kp H1 H' ∧ G.ok (fun a => B a ∨ a = D) H' ∧ H' D = some (.lst xs) ∧ RpL (fun a => B a ∨ a = D) H' xs acc,
      ⟨ds.length, [], [], p0, Nat.zero_le _, rfl, Kp.new nD, ok_newb o nD, upd_same, .nil⟩, fun i m H' ⟨acc, xs, pi, hle, hm, k1, o1, hD, l⟩ => ?_⟩
    have z := it _ H' k1 o1 i
    have gD : Go G F (fun a => B a ∨ a = D) H' σ ρ := g1.bar nD k1 o1 (by rw [hD]; simp)
    by_cases hlt : i < ds.length
    · refine .inr ⟨(z.1 hlt).1, fun H' => ∃ acc xs, P (i + 1) acc ∧ G.kp H1 H' ∧ G.ok (fun a => B a ∨ a = D) H' ∧ H' D = some (.lst xs) ∧ RpL (fun a => B a ∨ a = D) H' xs acc, fun H2 ⟨acc, xs, p2, k2, o2, hD2, l2⟩ => ⟨ds.length - (i + 1), by omega, acc, xs, p2, hlt, rfl, k2, o2, hD2, l2⟩, fun x H2 y => ?_⟩
      obtain ⟨k2, o2, d, hd, r⟩ := (z.1 hlt).2 x H2 y
      have r2 : Rp (fun a => B a ∨ a = D) H2 x d := r _ (fun a ha => ha.imp (fun z => z) fun z => by rw [z]; exact nD) gD.dom
      have ed : d = ds[i] := by
        rw [List.getElem?_eq_getElem hlt] at hd
        exact (Option.some.inj hd).symm
      subst ed
      have g2 := (gD.step k2 o2).wipe vs
      refine ⟨F, _, _, _, g2.qt, r2, mg _ _ _ _ (fun ρ2 q σ2 g3 off => ⟨by rw [wipe_same off hT, wipe_wipe], F, _, ρ2, g3, mt _ _ _ (fun b q H4 k4 o4 => ?_) q⟩) (turn i acc pi hlt)⟩
      have kD : ∀ {H'' : Hp}, G.kp H2 H'' → H'' D = some (.lst xs) ∧ RpL (fun a => B a ∨ a = D) H'' xs acc := fun {H''} k => ⟨k D _ mD (k2 D _ mD hD), l.mk (gD.kb (k2.trans k))⟩
      cases b with
      | true =>
        have bD : B D ∨ D = D := .inr rfl
        have n0 : ¬ G.B0 D := fun z => g1.dom D (g1.b0 D z) nD
        refine ⟨F, _, noO ρ2, (g3.step k4 o4).noO, mi1 _ _ _ (fun es ⟨P1, p10, turn1, fin1⟩ J1 H5 k5 o5 it1 => ?_) q⟩
        obtain ⟨hD5, l5⟩ := kD (k4.trans k5)
        have g5 := ((g3.step k4 o4).noO).step k5 o5
        refine ⟨fun j m H' => ∃ acc1 xs1, P1 j acc1 ∧ j ≤ es.length ∧ m = es.length - j ∧ KpD G.dl D H5 H' ∧ G.kp H1 H' ∧ G.ok (fun a => B a ∨ a = D) H' ∧ H' D = some (.lst xs1) ∧ RpL (fun a => B a ∨ a = D) H' xs1 acc1,
          ⟨es.length, acc, xs, p10, Nat.zero_le _, rfl, .refl, k1.trans (k2.trans (k4.trans k5)), o5, hD5, l5⟩, fun j m1 H' ⟨acc1, xs1, pj, hle1, hm1, kk, k6, o6, hD6, l6⟩ => ?_⟩
        have g6 : Go G.qt F (fun a => B a ∨ a = D) H' σ2 (noO ρ2) := g5.stepD (D := D) bD n0 hD5 kk (by rw [hD6]; simp) o6
        have kp6 : G.qt.kp (pinH G.qt (fun a => B a ∨ a = D) H5) H' := kk.kp (.all fun a o h => (pinH_some h).1) (pinH_none (.inr rfl) n0)
        have z1 := it1 _ H' kp6 o6 j
        by_cases hlt1 : j < es.length
        · refine .inr ⟨(z1.1 hlt1).1, fun H' => ∃ acc1 xs1, P1 (j + 1) acc1 ∧ KpD G.dl D H5 H' ∧ G.kp H1 H' ∧ G.ok (fun a => B a ∨ a = D) H' ∧ H' D = some (.lst xs1) ∧ RpL (fun a => B a ∨ a = D) H' xs1 acc1,
            fun H2 ⟨acc, xs, p2, kx, k2, o2, hD2, l2⟩ => ⟨es.length - (j + 1), by omega, acc, xs, p2, hlt1, rfl, kx, k2, o2, hD2, l2⟩, fun x1 H7 y1 => ?_⟩
          obtain ⟨k7, o7, d1, hd1, r1⟩ := (z1.1 hlt1).2 x1 H7 y1
          have r7 : Rp (fun a => B a ∨ a = D) H7 x1 d1 := r1 _ (fun a ha => by
            by_cases z0 : G.B0 a
            · exact .inl z0
            · exact .inr (pinH_none ha z0)) g6.dom
          have ed1 : d1 = es[j] := by
            rw [List.getElem?_eq_getElem hlt1] at hd1
            exact (Option.some.inj hd1).symm
          subst ed1
          have g7 := (g6.step k7 o7).wipe vs1
          refine ⟨F, _, _, _, g7, r7, mg1 _ _ _ _ (fun ρ3 q3 σ3 g8 off1 => ⟨by rw [wipe_same off1 hT1, wipe_wipe], F, _, ρ3, g8, mt1 _ _ _ (fun b1 q4 H9 k9 o9 => ?_) q3⟩) (turn1 j acc1 pj hlt1)⟩
          have kE : ∀ {H'' : Hp}, G.kp H' H'' → H'' D = some (.lst xs1) ∧ RpL (fun a => B a ∨ a = D) H'' xs1 acc1 := fun {H''} k => ⟨k D _ mD hD6, l6.mk (g6.kb k)⟩
          cases b1 with
          | true =>
            refine ⟨F, _, ρ3, g8.step k9 o9, me _ _ _ (fun yv ⟨hz, qz⟩ v H10 k10 o10 r10 => ?_) q4⟩
            obtain ⟨hD10, l10⟩ := kE (k7.trans (k9.trans k10))
            have kb : ∀ a o, ¬ (B a ∨ a = D) → H10 a = some o → upd H10 D (.lst (xs1 ++ [v])) a = some o := fun a o n h => by rw [upd_ne (fun z => n (.inr z))]; exact h
            exact ⟨xs1, hD10, by rw [l10.len]; exact hz, acc1 ++ [yv], xs1 ++ [v], qz, ((kk.step k7).step (k9.trans k10)).put, Kp.put (k6.trans (k7.trans (k9.trans k10))) nD, ok_put o10 (.inr rfl) mD hD10, upd_same, (l10.app (.one r10)).mv (fun _ z => z) kb⟩
          | false =>
            obtain ⟨hD9, l9⟩ := kE (k7.trans k9)
            exact ⟨acc1, xs1, q4, (kk.step k7).step k9, k6.trans (k7.trans k9), o9, hD9, l9⟩
        · have e : j = es.length := by omega
          subst e
          exact .inl ⟨z1.2 (Nat.le_refl _), acc1, xs1, fin1 acc1 pj, k6, o6, hD6, l6⟩
      | false =>
        obtain ⟨hD4, l4⟩ := kD k4
        exact ⟨acc, xs, q, k1.trans (k2.trans k4), o4, hD4, l4⟩
    · have e : i = ds.length := by omega
      subst e
      exact .inl ⟨z.2 (Nat.le_refl _), fin acc pi D xs acc H' rfl (fresh_back k o nD) (k.trans k1) o1 hD l⟩) q⟩

section
variable {G : Ga} {X : Cx} {elt tg iter tg1 iter1 : Expr} {ifs ifs1 : List Expr} {scope : Scope} {own : List (Str × Nat)} {vs1 : List Nat} {pos spos py : Pos} {T T1 : List Nat} {wi wi1 : WI} {gt gt1 : WTg} {wt wt1 : WT} {we : WE} {i : Nat} {y : Str}
theorem df_lc2 (hc : X.calm = true) (hN : X.N.Nodup) (hi : DIc G X tg iter wi) (ok : BlkOk X.N X.env.scope scope own) (hg : Blk X scope fun X => DTn G.qt X T tg gt) (ht : Blk X scope fun X => DTs G.qt X ifs wt)
    (hi1 : Blk X scope fun X => DI G.qt X tg1 iter1 wi1) (hg1 : Blk X scope fun X => DTn G.qt X T1 tg1 gt1) (ht1 : Blk X scope fun X => DTs G.qt X ifs1 wt1) (he : Blk X scope fun X => DE G.qt X elt we)
    (hT : ∀ i ∈ T, i ∈ own.map (·.2)) (hT1 : ∀ i ∈ T1, i ∈ vs1) (hv : ∀ i ∈ vs1, i ∈ own.map (·.2)) (hs : ∀ x, foldedSetIterable iter X.env x = pure x := by intro _; rfl) (hs1 : ∀ env x, foldedSetIterable iter1 env x = pure x := by intro _ _; rfl) :
    DF G X (.ListComp elt [⟨tg, iter, ifs, 0⟩, ⟨tg1, iter1, ifs1, 0⟩] scope pos) (dLc2 (own.map (·.2)) vs1 wi gt wt wi1 gt1 wt1 we) :=
  ⟨pe_imp (pe_lc2 hc hN hi.pi ok hv (fun s H C cl fp => (hg s H C cl fp).pg) (fun s H C cl fp => (ht s H C cl fp).pt) (fun s H C cl fp => (hi1 s H C cl fp).pi) (fun s H C cl fp => (hg1 s H C cl fp).pg) (fun s H C cl fp => (ht1 s H C cl fp).pt) (fun s H C cl fp => (he s H C cl fp).pe) hs hs1)
    (lc2_lift hT hT1 hi.mo (hg X.s_0 X.H_0 0 [] []).mo (ht X.s_0 X.H_0 0 [] []).mo (hi1 X.s_0 X.H_0 0 [] []).mo (hg1 X.s_0 X.H_0 0 [] []).mo (ht1 X.s_0 X.H_0 0 [] []).mo (he X.s_0 X.H_0 0 [] []).mo), mo_dLc2 hi.mo⟩
theorem ds_setLc2 (hc : X.calm = true) (hN : X.N.Nodup) (hy : X.N[i]? = some y) (hyl : X.env.scope.names.lookup y = some .local) (hsw : swapsWith (.ListComp elt [⟨tg, iter, ifs, 0⟩, ⟨tg1, iter1, ifs1, 0⟩] scope pos) (some (.Name y py)) spos.line X.env = pure true)
    (hi : DIc G X tg iter wi) (ok : BlkOk X.N X.env.scope scope own) (hg : Blk X scope fun X => DTn G.qt X T tg gt) (ht : Blk X scope fun X => DTs G.qt X ifs wt)
    (hi1 : Blk X scope fun X => DI G.qt X tg1 iter1 wi1) (hg1 : Blk X scope fun X => DTn G.qt X T1 tg1 gt1) (ht1 : Blk X scope fun X => DTs G.qt X ifs1 wt1) (he : Blk X scope fun X => DE G.qt X elt we)
    (hT : ∀ i ∈ T, i ∈ own.map (·.2)) (hT1 : ∀ i ∈ T1, i ∈ vs1) (hv : ∀ i ∈ vs1, i ∈ own.map (·.2)) (hs : ∀ x, foldedSetIterable iter X.env x = pure x := by intro _; rfl) (hs1 : ∀ env x, foldedSetIterable iter1 env x = pure x := by intro _ _; rfl) :
    DS G X (.Assign [.Name y py] (.ListComp elt [⟨tg, iter, ifs, 0⟩, ⟨tg1, iter1, ifs1, 0⟩] scope pos) spos) (dSet i (dLc2 (own.map (·.2)) vs1 wi gt wt wi1 gt1 wt1 we)) :=
  ⟨ps_imp (ps_setLc2 hc hN hy hyl hsw hi.pi ok hv (fun s H C cl fp => (hg s H C cl fp).pg) (fun s H C cl fp => (ht s H C cl fp).pt) (fun s H C cl fp => (hi1 s H C cl fp).pi) (fun s H C cl fp => (hg1 s H C cl fp).pg) (fun s H C cl fp => (ht1 s H C cl fp).pt) (fun s H C cl fp => (he s H C cl fp).pe) hs hs1) fun D σ H ⟨F, B, ρ, E, g, ⟨hl, q⟩, f⟩ =>
    lc2_lift hT hT1 hi.mo (hg X.s_0 X.H_0 0 [] []).mo (ht X.s_0 X.H_0 0 [] []).mo (hi1 X.s_0 X.H_0 0 [] []).mo (hg1 X.s_0 X.H_0 0 [] []).mo (ht1 X.s_0 X.H_0 0 [] []).mo (he X.s_0 X.H_0 0 [] []).mo σ H _ ⟨F, B, ρ, g, mo_dLc2 hi.mo _ _ _ (fun d q p xs ds H' e np k o hp l => f.nx _ _ _ _ q ((g.step k (o.anti fun _ z => .inl z)).put hl (fun _ z => by cases z) (.v (by subst e; exact .lst (g.nb np) hp (l.mv (fun _ z => .inl z) fun _ _ _ z => z))))) q⟩,
   fun E E' ρ b ⟨hl, q⟩ => ⟨hl, mo_dLc2 hi.mo _ _ _ (fun d q => b.nx _ q) q⟩⟩
end
end Dl
/-! The data layer, part 14: {}, [::-1], is of bools, powers, in, list(range), pops, keywords, the script's slices. -/
namespace Dl
open PySem PySem.Spec PyProof.Rows L2
section
variable {G : Ga} {X : Cx} {a b e : Expr} {wa wb w : WE} {wl wh : WO} {pos p p2 p3 : Pos} {k : Nat}
/-- {} -/
theorem de_dic : DE G X (.Dict [] [] pos) (dC (.dict [])) := ⟨pe_imp pe_dnewK fun σ H Q ⟨F, B, ρ, g, q⟩ pp np => q _ _ (Kp.new np) (ok_new g.deal np) (.dic (g.nb np) upd_same), mo_c⟩
/-- x[::-1] of a list -/
def dRev (w : WE) : WE := fun ρ Q => w ρ fun d => ∃ ds, d = .list ds ∧ Q (.list ds.reverse)
theorem RpL.rev {B : Addr → Prop} {H : Hp} : ∀ {vs : List V} {ds : List PyData}, RpL B H vs ds → RpL B H vs.reverse ds.reverse
  | _, _, .nil => .nil
  | _, _, .cons a t => by
    rw [List.reverse_cons, List.reverse_cons]
    exact (RpL.rev t).app (.one a)
theorem df_rev {j : Nat} (h : DB G X e w) : DF G X (.Subscript e (.Slice none none (some (.UnaryOp .USub (.Constant (.int 1) j p) p2)) p3) pos) (dRev w) :=
  ⟨pe_imp (pe_revL h.pe) fun σ H Q ⟨F, B, ρ, g, q⟩ => ⟨F, B, ρ, g, h.mo _ _ _ (fun d ⟨ds, ed, q⟩ v H1 k1 o1 r => by
    subst ed
    obtain ⟨a, xs, rfl, h, l⟩ := rb_list X.K r
    exact ⟨a, xs, rfl, h, fun pp np => q pp _ _ _ rfl (fresh_back k1 o1 np) (k1.trans (Kp.new np)) (ok_newb o1 np) upd_same ((RpL.bar np _ _ (RpL.rev l)).mv (fun _ z => z) (upd_keep np))⟩) q⟩, fun _ _ _ m q => h.mo _ _ _ (fun d ⟨ds, e, q⟩ => ⟨ds, e, m _ q⟩) q⟩
/-- is, is not of bools -/
def fIsB : W2 := fun x y Q => ∃ a b, x = .bool a ∧ y = .bool b ∧ Q (.bool (decide (a = b)))
def fNotB : W2 := fun x y Q => ∃ a b, x = .bool a ∧ y = .bool b ∧ Q (.bool (!decide (a = b)))
theorem mo_isB : Mo2 fIsB := fun _ _ _ _ m ⟨a, b, h1, h2, q⟩ => ⟨a, b, h1, h2, m _ q⟩
theorem mo_notB : Mo2 fNotB := fun _ _ _ _ m ⟨a, b, h1, h2, q⟩ => ⟨a, b, h1, h2, m _ q⟩
theorem de_isB (ha : DB G X a wa) (hb : DB G X b wb) : DE G X (.Compare a [.Is] [b] pos) (d2 fIsB wa wb) :=
  de_cmp op_isBl ha hb (fun _ _ _ _ H _ _ _ _ _ g rx ry ⟨i, j, e1, e2, q⟩ => by subst e1 e2; exact ⟨i, j, rb_bl rx, rb_bl ry, q _ H .refl g.deal (.bl _)⟩) mo_isB (nomark b)
theorem de_notB (ha : DB G X a wa) (hb : DB G X b wb) : DE G X (.Compare a [.IsNot] [b] pos) (d2 fNotB wa wb) :=
  de_cmp op_notBl ha hb (fun _ _ _ _ H _ _ _ _ _ g rx ry ⟨i, j, e1, e2, q⟩ => by subst e1 e2; exact ⟨i, j, rb_bl rx, rb_bl ry, q _ H .refl g.deal (.bl _)⟩) mo_notB (nomark b)
theorem dt_isB (ha : DB G X a wa) (hb : DB G X b wb) : DT G X (.Compare a [.Is] [b] pos) (tb (d2 fIsB wa wb)) :=
  dt_cmp op_isBl ha hb (fun _ _ _ _ H _ _ _ _ _ g rx ry ⟨i, j, e1, e2, q⟩ => by subst e1 e2; exact ⟨i, j, rb_bl rx, rb_bl ry, q _ H .refl g.deal (.bl _)⟩) mo_isB (nomark b)
theorem dt_notB (ha : DB G X a wa) (hb : DB G X b wb) : DT G X (.Compare a [.IsNot] [b] pos) (tb (d2 fNotB wa wb)) :=
  dt_cmp op_notBl ha hb (fun _ _ _ _ H _ _ _ _ _ g rx ry ⟨i, j, e1, e2, q⟩ => by subst e1 e2; exact ⟨i, j, rb_bl rx, rb_bl ry, q _ H .refl g.deal (.bl _)⟩) mo_notB (nomark b)
/-- a power -/
theorem de_pow (ha : DB G X a wa) (hb : DB G X b wb) : DE G X (.BinOp a .Pow b pos) (d2 (fI CPow fun i j => .int (i ^ j.toNat)) wa wb) :=
  de_op op_pow ha hb (fun _ _ _ _ _ _ _ _ _ _ g rx ry q => r_fI (fun _ _ _ _ => .int _) g rx ry q) mo_fI
/-- in: a list of data; a tuple of ints -/
def fIn (f : Bool → Bool) : W2 := fun x y Q => (∃ ds, y = .list ds ∧ SeqAt.shaped x = true ∧ SeqAt.shaped (.list ds) = true ∧ Q (.bool (f (ds.any fun z => PyData.eqv z x)))) ∨ ∃ (i : Int) (ns : List Int), x = .int i ∧ y = .tuple (ns.map PyData.int) ∧ Q (.bool (f (decide (i ∈ ns))))
theorem mo_fIn {f : Bool → Bool} : Mo2 (fIn f) := fun _ _ _ _ m h => h.imp (fun ⟨ds, h1, h2, h3, q⟩ => ⟨ds, h1, h2, h3, m _ q⟩) fun ⟨i, ns, h1, h2, q⟩ => ⟨i, ns, h1, h2, m _ q⟩
theorem inV_ints (i : Int) (ns : List Int) : inV (.int i) (ns.map V.int) = decide (i ∈ ns) := by
  unfold inV
  induction ns with
  | nil => rfl
  | cons n ns ih =>
    have e : eqV (.int n) (.int i) = (n == i) := rfl
    simp only [List.map_cons, List.any_cons, ih, e]
    rw [Bool.eq_iff_iff]
    simp only [Bool.or_eq_true, beq_iff_eq, decide_eq_true_eq, List.mem_cons]
    exact ⟨fun h => h.imp Eq.symm id, fun h => h.imp Eq.symm id⟩
theorem flat_ints (ns : List Int) : (ns.map V.int).all flatV = true := by simp [flatV]
theorem in_lift {neg : Bool} {F : Hp} {B : Addr → Prop} {σ : L2.St} {ρ : En} {H : Hp} {x y : V} {d e : PyData} {Q : VK} (g : Go G F B H σ ρ) (rx : RpB G.dl B H x d) (ry : RpB G.dl B H y e)
    (h : fIn (fun b => if neg then !b else b) d e fun z => ∀ v H', G.kp H H' → G.ok B H' → Rp B H' v z → Q v H') : (∃ d ds, Dp X.K H x d ∧ Dp X.K H y (.list ds) ∧ SeqAt.shaped d = true ∧ SeqAt.shaped (.list ds) = true ∧ Q (.bl (if neg then !(ds.any fun z => PyData.eqv z d) else ds.any fun z => PyData.eqv z d)) H) ∨ rIn X.K neg x y H Q := by
  rcases h with ⟨ds, rfl, h2, h3, q⟩ | ⟨i, ns, rfl, rfl, q⟩
  · exact .inl ⟨d, ds, rb_dp X.K (noD h2) rx, rb_dp X.K (noD h3) ry, h2, h3, q _ H .refl g.deal (.bl _)⟩
  · obtain ⟨p, xs, rfl, h, l⟩ := rb_tup X.K ry
    obtain rfl := RpL.ints_inv l
    refine .inr ⟨p, _, rfl, .inr h, ?_, flat_ints ns, ?_⟩
    · rw [rb_int rx]; rfl
    · rw [rb_int rx, inV_ints]; exact q _ H .refl g.deal (.bl _)
theorem op_inU (hr : Room k X.A) : OpR X (compareOp .In) (fun x y H Q => rInD X.K x y H Q ∨ rIn X.K false x y H Q) := (op_inD (by have := hr.un; omega)).or op_in_seq
theorem op_notInU (hr : Room k X.A) : OpR X (compareOp .NotIn) (fun x y H Q => rNotInD X.K x y H Q ∨ rIn X.K true x y H Q) := (op_notInD (by have := hr.un; omega)).or op_notIn_seq
theorem de_in (hr : Room k X.A) (ha : DB G X a wa) (hb : DB G X b wb) (hm : behindInMarks .In b = false := by rfl) : DE G X (.Compare a [.In] [b] pos) (d2 (fIn (fun b => if false then !b else b)) wa wb) :=
  de_cmp (op_inU hr) ha hb (fun _ _ _ _ _ _ _ _ _ _ g rx ry q => in_lift g rx ry q) mo_fIn hm
theorem de_notIn (hr : Room k X.A) (ha : DB G X a wa) (hb : DB G X b wb) (hm : behindInMarks .NotIn b = false := by rfl) : DE G X (.Compare a [.NotIn] [b] pos) (d2 (fIn (fun b => if true then !b else b)) wa wb) :=
  de_cmp (op_notInU hr) ha hb (fun _ _ _ _ _ _ _ _ _ _ g rx ry q => in_lift g rx ry q) mo_fIn hm
theorem dt_in (hr : Room k X.A) (ha : DB G X a wa) (hb : DB G X b wb) (hm : behindInMarks .In b = false := by rfl) : DT G X (.Compare a [.In] [b] pos) (tb (d2 (fIn (fun b => if false then !b else b)) wa wb)) :=
  dt_cmp (op_inU hr) ha hb (fun _ _ _ _ _ _ _ _ _ _ g rx ry q => in_lift g rx ry q) mo_fIn hm
theorem dt_notIn (hr : Room k X.A) (ha : DB G X a wa) (hb : DB G X b wb) (hm : behindInMarks .NotIn b = false := by rfl) : DT G X (.Compare a [.NotIn] [b] pos) (tb (d2 (fIn (fun b => if true then !b else b)) wa wb)) :=
  dt_cmp (op_notInU hr) ha hb (fun _ _ _ _ _ _ _ _ _ _ g rx ry q => in_lift g rx ry q) mo_fIn hm
/-- list(range(n)), tuple(range(n)) -/
def dRg (f : List PyData → PyData) (w : WE) : WE := fun ρ Q => w ρ fun d => ∃ n : Int, d = .int n ∧ 0 ≤ n ∧ n ≤ 16777216 ∧ Q (f ((List.range n.toNat).map fun i => .int (i : Nat)))
theorem mo_dRg {f} (h : Mo w) : Mo (dRg f w) := fun _ _ _ m q => h _ _ _ (fun d ⟨n, h1, h2, h3, q⟩ => ⟨n, h1, h2, h3, m _ q⟩) q
theorem RpL.rg {B : Addr → Prop} {H : Hp} (n : Int) : RpL B H (rgV 0 n) ((List.range n.toNat).map fun i => PyData.int (i : Nat)) := by
  unfold rgV
  rw [Int.sub_zero]
  have : ∀ l : List Nat, RpL B H (l.map fun i => V.int (0 + (i : Nat))) (l.map fun i => PyData.int (i : Nat)) := fun l => by
    induction l with
    | nil => exact .nil
    | cons x l ih => refine .cons ?_ ih; show Rp B H (V.int (0 + (x : Int))) (PyData.int x); rw [Int.zero_add]; exact .int _
  exact this _
theorem df_listRg (h : DE G X e w) (hm : X.mg "list" = none) (hm2 : X.mg "range" = none) (hc : X.calm = true := by rfl) (hg : Gl X "list" := by rfl) (hg2 : Gl X "range" := by rfl)
    (na : starEach [e] X.env = (false, eval e X.env) :: starEach [] X.env := by rfl) (na2 : starEach [.Call (.Name "range" p2) [e] [] p3] X.env = (false, eval (.Call (.Name "range" p2) [e] [] p3) X.env) :: starEach [] X.env := by rfl) :
    DF G X (.Call (.Name "list" p) [.Call (.Name "range" p2) [e] [] p3] [] pos) (dRg .list w) :=
  ⟨pe_imp (pe_listRg hc hg hm (prg_1 hg2 hm2 h.pe na) na2) fun σ H Q ⟨F, B, ρ, g, q⟩ => ⟨F, B, ρ, g, h.mo _ _ _ (fun d ⟨n, ed, h0, h1, q⟩ v H1 k1 o1 r => by
    subst ed
    exact ⟨n, rp_int r, RgOk.of_le (by omega) h1 (by omega) h0, fun pp np => q pp _ _ _ rfl (fresh_back k1 o1 np) (k1.trans (Kp.new np)) (ok_newb o1 np) upd_same (RpL.rg n)⟩) q⟩, mo_dRg h.mo⟩
theorem de_tupRg (h : DE G X e w) (hm : X.mg "tuple" = none) (hm2 : X.mg "range" = none) (hc : X.calm = true := by rfl) (hg : Gl X "tuple" := by rfl) (hg2 : Gl X "range" := by rfl)
    (na : starEach [e] X.env = (false, eval e X.env) :: starEach [] X.env := by rfl) (na2 : starEach [.Call (.Name "range" p2) [e] [] p3] X.env = (false, eval (.Call (.Name "range" p2) [e] [] p3) X.env) :: starEach [] X.env := by rfl) :
    DE G X (.Call (.Name "tuple" p) [.Call (.Name "range" p2) [e] [] p3] [] pos) (dRg .tuple w) :=
  ⟨pe_imp (pe_tupRg hc hg hm (prg_1 hg2 hm2 h.pe na) na2) fun σ H Q ⟨F, B, ρ, g, q⟩ => ⟨F, B, ρ, g, h.mo _ _ _ (fun d ⟨n, ed, h0, h1, q⟩ v H1 k1 o1 r => by
    subst ed
    exact ⟨n, rp_int r, RgOk.of_le (by omega) h1 (by omega) h0, fun pp np => q _ _ (k1.trans (Kp.new np)) (ok_new o1 np) (.tup ((g.step k1 o1).nb np) upd_same (RpL.rg n))⟩) q⟩, mo_dRg h.mo⟩
/-- script[:hi] -/
def dScr (i : Nat) (wh : WO) : WE := fun ρ Q => ∃ ns : List Int, ρ[i]? = some (some (.scr ns)) ∧ wh ρ fun hi => Q (.list (cutD (ns.map PyData.int) none hi))
theorem df_scr {i : Nat} {hi : Option Expr} (hk : X.K = G.K) (hv : PE X e (tVar i)) (hh : DO G X hi wh) : DF G X (.Subscript e (.Slice none hi none p2) pos) (dScr i wh) :=
  ⟨pe_imp (pe_slice sl_list hv po_none hh.po) fun σ H Q ⟨F, B, ρ, g, ns, hρ, q⟩ => by
    obtain ⟨x, h1, h2⟩ := g.re.at_ i _ hρ
    cases h2 with
    | @scr a _ sq =>
      refine ⟨_, h1, F, B, ρ, g, hh.mo _ _ _ (fun u q H3 k3 o3 => ?_) q⟩
      have g3 := g.step k3 o3
      exact ⟨a, ns.map V.int, rfl, by rw [hk]; exact (sq.keep (kp_frz k3 g.deal)).sq, fun pp np => q pp _ _ _ rfl (fresh_back k3 o3 np) (k3.trans (Kp.new np)) (ok_newb o3 np) upd_same (rp_cut _ _ (RpL.ints ns))⟩, fun _ _ _ m ⟨ns, h, q⟩ => ⟨ns, h, hh.mo _ _ _ (fun u q => m _ q) q⟩⟩
end
end Dl
/-! The data layer, part 15: calls by keywords. -/
namespace Dl
open PySem PySem.Spec PyProof.Rows L2

/-- the items at these places -/
def pick {α : Type} (π : List Nat) (l : List α) : List α := π.filterMap fun i => l[i]?
theorem pick_vals {vs : List V} {us : List Value} (h : Vals vs us) : ∀ π : List Nat, Vals (pick π vs) (pick π us)
  | [] => .nil
  | i :: π => by
    have ih := pick_vals h π
    unfold pick at ih ⊢
    rw [List.filterMap_cons, List.filterMap_cons]
    cases e : vs[i]? with
    | none =>
      have e2 : us[i]? = none := by
        rw [List.getElem?_eq_none_iff] at e ⊢
        rw [← h.length]; exact e
      rw [e2]
      exact ih
    | some v =>
      obtain ⟨u, e2, r⟩ := h.get e
      rw [e2]
      exact .cons r ih
theorem AL.getN {K : PySem.W.Frag} {dl : Dl2} {B : Addr → Prop} {H : Hp} : ∀ {svs : List SV} {vs : List V} {i : Nat}, AL K dl B H svs vs → (svs[i]? = none ∧ vs[i]? = none) ∨ ∃ sv v, svs[i]? = some sv ∧ vs[i]? = some v ∧ RS K dl B B H sv v
  | _, _, i, .nil => .inl ⟨by simp, by simp⟩
  | _, _, 0, .cons a t => .inr ⟨_, _, rfl, rfl, a⟩
  | _, _, i + 1, .cons a t => by simpa using AL.getN (i := i) t
theorem pick_al {K : PySem.W.Frag} {dl : Dl2} {B : Addr → Prop} {H : Hp} {svs : List SV} {vs : List V} (h : AL K dl B H svs vs) : ∀ π : List Nat, AL K dl B H (pick π svs) (pick π vs)
  | [] => .nil
  | i :: π => by
    have ih := pick_al h π
    unfold pick at ih ⊢
    rw [List.filterMap_cons, List.filterMap_cons]
    rcases h.getN (i := i) with ⟨e1, e2⟩ | ⟨sv, v, e1, e2, r⟩
    · rw [e1, e2]; exact ih
    · rw [e1, e2]; exact .cons r ih
structure DK (G : Ga) (X : Cx) (kws : List Keyword) (w : WG) : Prop where
  pk : PK X kws (lg G w)
  mo : MoG w
theorem pk_imp {X : Cx} {e : List Keyword} {t t' : TA} (h : PK X e t) (i : ∀ σ H Q, t' σ H Q → t σ H Q) : PK X e t' := ⟨fun pos pins s σ H Q I q => h.run pos pins s σ H Q I (i σ H Q q)⟩
section
variable {G : Ga} {X : Cx} {e : Expr} {kws : List Keyword} {w : WE} {ws : WG} {nm : Option Str} {kpos pos p : Pos} {k j m : Nat} {x : Str} {ps ks : List Str} {S : SpD} {st : Stmt}
theorem dk_nil : DK G X [] gNil' := ⟨pk_imp pk_nil fun σ H Q ⟨F, B, ρ, g, q⟩ => q [] H .refl g.deal .nil, fun _ _ _ m q => m _ q⟩
theorem dk_val (h : DE G X e w) (hr : DK G X kws ws) : DK G X (⟨nm, e, kpos⟩ :: kws) (gVal w ws) :=
  ⟨pk_imp (pk_cons h.pe hr.pk) fun σ H Q ⟨F, B, ρ, g, q⟩ => ⟨F, B, ρ, g, h.mo _ _ _ (fun d q v H' k o r => ⟨F, B, ρ, g.step k o, hr.mo _ _ _ (fun ds q vs H2 k2 o2 l => q _ H2 (k.trans k2) o2 (.cons (RS.step (g.step k o) k2 (.v r)) l)) q⟩) q⟩,
   fun ρ Q Q' m q => h.mo _ _ _ (fun d q => hr.mo _ _ _ (fun ds q => m _ q) q) q⟩
def dCallK (xd : En → Addr → PyData → Prop) (S : SpD) (π : List Nat) (m : Nat) (ws : WG) : WE := fun ρ Q => ws ρ fun args => args.length = m ∧ S (pick π args) Q (xd ρ)
/-- f(k = v, ..), keywords alone -/
theorem de_calK {gg : GInv} (π : List Nat) (C : Cal X.prog X.w X.K X.mg X.base gg j x st ps S) (hw : Xw gg G X) (hgd : X.A.guards = some []) (hr : Room k X.A) (hjk : j ≤ k)
    (ha : DK G X kws ws) (hks : (backToKw pos (keywordEach kws X.env)).filterMap (·.1) = ks)
    (hb : ∀ (kV doc pm : Value) (an : Option Addr) (cdv ct : Value) (us : List Value), us.length = m → bindArgs (PySem.W.fnOf x x (defArgs st) (defBody st) (defScope st) .none kV doc pm an cdv ct) ⟨[], ks.zip us⟩ = pure (ps.zip (pick π us)))
    (hg : Gl X x := by rfl) (hdb : (x == ("__debug__" : Str)) = false := by decide) (hall : (backToKw pos (keywordEach kws X.env)).all (·.1.isSome) = true := by rfl)
    (hpl : ((backTo pos (starEach [] X.env)).any (·.1) || (backToKw pos (keywordEach kws X.env)).any (·.1.isNone)) = false := by rfl) :
    DE G X (.Call (.Name x p) [] kws pos) (dCallK G.xd S π m ws) := by
  obtain ⟨f, fd, hF, hm, _, F⟩ := C.ex
  obtain ⟨oc, od, kV, doc, pm, an, cdv, ct, osl, hfd, lk, hcd⟩ := id hF.ex
  obtain ⟨W, tk, hl⟩ := hw.ex
  have pe : PE X (.Call (.Name x p) [] kws pos) (fun σ H Q => lg G ws σ H fun vs H1 => vs.length = m ∧ spL gg S (pick π vs) H1 Q fun cls d H' => W cls d σ H') := by
    refine ⟨fun pins s σ H Q I h => ?_⟩
    refine wpAny_Call_Name_kw (ld_glob I hg hm ?_ hdb)
    refine PySem.W.callWith_KW0 (h₀ := X.base) I.ok.mod.kin hF.kp hall (thn (ha.pk.run pos pins s σ H _ I h) fun us s1 ⟨vs, H1, I1, r, hlen, q⟩ => ⟨I1.kIn, ?_⟩) hpl
    rw [hks]
    refine wpAny_call (codeAny_mono (F.run X.A X.stack s1 H1 ⟨[], ks.zip us⟩ (pick π us) (pick π vs) Q (fun cls d H' => W cls d σ H') hgd (hr.mono hjk) I1.env0 ?_ (pick_vals r π) q) fun r' s' hq => ?_)
    · subst hfd
      exact BindsTo.of_eq (hb _ _ _ _ _ _ us (by rw [← r.length]; exact hlen))
    · have z := call_back I1 (pass_at tk I1) hq
      cases r' with
      | error e => exact z
      | ok fl =>
        cases fl with
        | ret u => exact z
        | next => exact z.elim
        | brk => exact z.elim
        | cont => exact z.elim
  refine ⟨pe_imp pe fun σ H Q ⟨F', B, ρ, g, q⟩ => ⟨F', B, ρ, g, ha.mo _ _ _ (fun args ⟨ln, q⟩ vs H1 k1 o1 l => ⟨by rw [← l.len]; exact ln, ?_⟩) q⟩, fun ρ Q Q' mm q => ha.mo _ _ _ (fun args ⟨ln, q⟩ => ⟨ln, C.mo _ _ _ _ _ mm (fun _ _ z => z) q⟩) q⟩
  have g1 := g.step k1 o1
  exact ⟨G.dl, B, pick π args, hw.gi, fun a z => g.b0 _ (g.md _ z), g1.dom, o1, pick_al l π, C.mo _ _ _ _ _ (fun d q v H' k2 o2 r => q v H' (k1.trans k2) o2 r)
    (fun C d z x v H' k2 o2 hx nx r => hl _ _ _ _ _ (g1.step k2 o2) C d z x v hx nx r) q⟩
end

/-! ### pops of own lists -/
section
variable {G : Ga} {X : Cx} {e : Expr} {w : WE} {pos p p2 p3 p4 p5 p6 : Pos} {i j : Nat} {x y : Str}
/-- y.append(x.pop(e)), x and y lists of their own -/
def dAppPop (i j : Nat) (w : WE) : WS := fun E ρ => i ≠ j ∧ ∃ ds es, ρ[i]? = some (some (.o ds)) ∧ ρ[j]? = some (some (.o es)) ∧ w ρ fun d => ∃ (n : Nat) (z : PyData), d = .int (n : Nat) ∧ ds[n]? = some z ∧ n < 2 ^ 63 ∧ es.length < sizeLine ∧ E.nx ((ρ.set i (some (.o (ds.eraseIdx n)))).set j (some (.o (es ++ [z]))))
theorem RpL.erase {B : Addr → Prop} {H : Hp} : ∀ {vs : List V} {ds : List PyData} (n : Nat), RpL B H vs ds → RpL B H (vs.eraseIdx n) (ds.eraseIdx n)
  | _, _, _, .nil => .nil
  | _, _, 0, .cons _ t => t
  | _, _, n + 1, .cons a t => .cons a (RpL.erase n t)

theorem seq_ix {n k : Nat} (h : n < k) : seqIndex? (n : Int) k = some n := by
  unfold seqIndex?
  simp
  omega
theorem ds_appPop (hx : PE X (.Name x p) (tVar i)) (hy : PE X (.Name y p2) (tVar j)) (he : DE G X e w)
    (hbx : attributeBase (.Name x p) "pop" X.env (eval (.Name x p) X.env) = eval (.Name x p) X.env := by rfl) (hby : attributeBase (.Name y p2) "append" X.env (eval (.Name y p2) X.env) = eval (.Name y p2) X.env := by rfl)
    (few1 : ((backTo p4 (starEach [e] X.env)).all (fun x => !x.1) && (backToKw p4 (keywordEach [] X.env)).all (fun x => x.1.isSome)
      && decide ([e].length + ([] : List Keyword).length + (if ([] : List Keyword).isEmpty then 0 else 1) < 30)) = true := by rfl)
    (line1 : (p3.endLine == p4.line) = true := by rfl) (s1 : starEach [e] X.env = (false, eval e X.env) :: starEach [] X.env := by rfl) (plain1 : (backTo p4 (starEach [] X.env)).any (·.1) = false := by rfl)
    (few2 : ((backTo p6 (starEach [.Call (.Attribute (.Name x p) "pop" p3) [e] [] p4] X.env)).all (fun x => !x.1) && (backToKw p6 (keywordEach [] X.env)).all (fun x => x.1.isSome)
      && decide ([Expr.Call (.Attribute (.Name x p) "pop" p3) [e] [] p4].length + ([] : List Keyword).length + (if ([] : List Keyword).isEmpty then 0 else 1) < 30)) = true := by rfl)
    (line2 : (p5.endLine == p6.line) = true := by rfl) (s2 : starEach [.Call (.Attribute (.Name x p) "pop" p3) [e] [] p4] X.env = (false, eval (.Call (.Attribute (.Name x p) "pop" p3) [e] [] p4) X.env) :: starEach [] X.env := by rfl) (plain2 : (backTo p6 (starEach [] X.env)).any (·.1) = false := by rfl)
    (hsw : swapsWith (.Call (.Attribute (.Name y p2) "append" p5) [.Call (.Attribute (.Name x p) "pop" p3) [e] [] p4] [] p6) none pos.line X.env = pure false := by rfl) :
    DS G X (.Expr (.Call (.Attribute (.Name y p2) "append" p5) [.Call (.Attribute (.Name x p) "pop" p3) [e] [] p4] [] p6) pos) (dAppPop i j w) :=
  ⟨ps_imp (ps_expr (pe_bm PySem.F.plainAttrs_list PySem.F.slot_list_append PySem.F.type_list_append mt_append hy (pa_cons (pe_bm PySem.F.plainAttrs_list PySem.F.slot_list_pop PySem.F.type_list_pop mt_popAt hx (pa_cons he.pe pa_nil s1) hbx few1 line1 s1 plain1) pa_nil s2) hby few2 line2 s2 plain2) hsw) fun D σ H ⟨F, B, ρ, E, g, ⟨hij, ds, es, h1, h2, q⟩, f⟩ => by
    obtain ⟨a, xs, a1, a2, _⟩ := g.mut (es := ds) h1
    obtain ⟨b, ys, b1, b2, _⟩ := g.mut (es := es) h2
    refine ⟨_, b1, .inl ⟨rfl, ys, .inl (.inl b2)⟩, _, a1, .inl ⟨rfl, xs, .inl (.inl a2)⟩, F, B, ρ, g, he.mo _ _ _ (fun d ⟨n, z, e1, hz, hn, hs, q⟩ v H' k o r => ?_) q⟩
    subst e1
    have g' := g.step k o
    obtain ⟨a', xs', a1', a2', la, gm⟩ := g'.mut (es := ds.eraseIdx n) h1
    have ea : a = a' := by
      have := a1.symm.trans a1'
      injection this with this; injection this with this; injection this
    subst ea
    obtain ⟨zv, hzv, rz⟩ := la.get hz
    have hn2 : n < xs'.length := (List.getElem?_eq_some_iff.mp hzv).1
    have g2 := gm _ (RpL.erase n la)
    have h2' : (ρ.set i (some (SV.o (ds.eraseIdx n))))[j]? = some (some (.o es)) := by rw [List.getElem?_set_ne hij]; exact h2
    obtain ⟨b', ys', b1', b2', lb, gm2⟩ := g2.mut (es := es ++ [z]) h2'
    have eb : b = b' := by
      have := b1.symm.trans b1'
      injection this with this; injection this with this; injection this
    subst eb
    have rz' : Rp B (upd H' a (.lst (xs'.eraseIdx n))) zv z := rz.mv (fun _ z => z) fun c u nc hc => by
      rw [upd_ne (fun ec => nc (by
        rw [ec]
        obtain ⟨x0, c1, c2⟩ := g'.re.at_ i _ h1
        cases c2 with
        | o bb _ _ _ =>
          have := a1'.symm.trans c1
          injection this with this; injection this with this; injection this with this
          rw [this]; exact bb))]
      exact hc
    exact ⟨a, xs', n, n, zv, rfl, by rw [rp_int r], a2', by omega, by omega, seq_ix hn2, hzv, b, ys', zv, rfl, rfl, b2', by rw [lb.len]; exact hs, f.nx _ _ _ _ q (gm2 _ (lb.app (.one rz')))⟩,
   fun E E' ρ b ⟨hij, ds, es, h1, h2, q⟩ => ⟨hij, ds, es, h1, h2, he.mo _ _ _ (fun d ⟨n, z, e1, hz, hn, hs, q⟩ => ⟨n, z, e1, hz, hn, hs, b.nx _ q⟩) q⟩⟩
/-- x.pop(e), x a list of its own -/
def dPop (i : Nat) (w : WE) : WS := fun E ρ => ∃ ds, ρ[i]? = some (some (.o ds)) ∧ w ρ fun d => ∃ (n : Nat) (z : PyData), d = .int (n : Nat) ∧ ds[n]? = some z ∧ n < 2 ^ 63 ∧ E.nx (ρ.set i (some (.o (ds.eraseIdx n))))
theorem ds_pop (hx : PE X (.Name x p) (tVar i)) (he : DE G X e w)
    (hbx : attributeBase (.Name x p) "pop" X.env (eval (.Name x p) X.env) = eval (.Name x p) X.env := by rfl)
    (few1 : ((backTo p4 (starEach [e] X.env)).all (fun x => !x.1) && (backToKw p4 (keywordEach [] X.env)).all (fun x => x.1.isSome)
      && decide ([e].length + ([] : List Keyword).length + (if ([] : List Keyword).isEmpty then 0 else 1) < 30)) = true := by rfl)
    (line1 : (p3.endLine == p4.line) = true := by rfl) (s1 : starEach [e] X.env = (false, eval e X.env) :: starEach [] X.env := by rfl) (plain1 : (backTo p4 (starEach [] X.env)).any (·.1) = false := by rfl)
    (hsw : swapsWith (.Call (.Attribute (.Name x p) "pop" p3) [e] [] p4) none pos.line X.env = pure false := by rfl) :
    DS G X (.Expr (.Call (.Attribute (.Name x p) "pop" p3) [e] [] p4) pos) (dPop i w) :=
  ⟨ps_imp (ps_expr (pe_bm PySem.F.plainAttrs_list PySem.F.slot_list_pop PySem.F.type_list_pop mt_popAt hx (pa_cons he.pe pa_nil s1) hbx few1 line1 s1 plain1) hsw) fun D σ H ⟨F, B, ρ, E, g, ⟨ds, h1, q⟩, f⟩ => by
    obtain ⟨a, xs, a1, a2, _⟩ := g.mut (es := ds) h1
    refine ⟨_, a1, .inl ⟨rfl, xs, .inl (.inl a2)⟩, F, B, ρ, g, he.mo _ _ _ (fun d ⟨n, z, e1, hz, hn, q⟩ v H' k o r => ?_) q⟩
    subst e1
    have g' := g.step k o
    obtain ⟨a', xs', a1', a2', la, gm⟩ := g'.mut (es := ds.eraseIdx n) h1
    obtain ⟨zv, hzv, rz⟩ := la.get hz
    have hn2 : n < xs'.length := (List.getElem?_eq_some_iff.mp hzv).1
    exact ⟨a', xs', n, n, zv, Option.some.inj (Option.some.inj (a1.symm.trans a1')), by rw [rp_int r], a2', by omega, by omega, seq_ix hn2, hzv, f.nx _ _ _ _ q (gm _ (RpL.erase n la))⟩,
   fun E E' ρ b ⟨ds, h1, q⟩ => ⟨ds, h1, he.mo _ _ _ (fun d ⟨n, z, e1, hz, hn, q⟩ => ⟨n, z, e1, hz, hn, b.nx _ q⟩) q⟩⟩
/-- x.insert(e, v), x a list of its own -/
def dIns (i : Nat) (w w2 : WE) : WS := fun E ρ => ∃ ds, ρ[i]? = some (some (.o ds)) ∧ w ρ fun d => w2 ρ fun d2 => ∃ n : Int, d = .int n ∧ ds.length < sizeLine ∧ 0 ≤ n ∧ n < 2 ^ 63 ∧ E.nx (ρ.set i (some (.o (ds.take n.toNat ++ [d2] ++ ds.drop n.toNat))))
variable {e2 : Expr} {w2 : WE}
theorem ds_ins (hx : PE X (.Name x p) (tVar i)) (he : DE G X e w) (he2 : DE G X e2 w2)
    (hbx : attributeBase (.Name x p) "insert" X.env (eval (.Name x p) X.env) = eval (.Name x p) X.env := by rfl)
    (few1 : ((backTo p4 (starEach [e, e2] X.env)).all (fun x => !x.1) && (backToKw p4 (keywordEach [] X.env)).all (fun x => x.1.isSome)
      && decide ([e, e2].length + ([] : List Keyword).length + (if ([] : List Keyword).isEmpty then 0 else 1) < 30)) = true := by rfl)
    (line1 : (p3.endLine == p4.line) = true := by rfl) (s1 : starEach [e, e2] X.env = (false, eval e X.env) :: starEach [e2] X.env := by rfl) (s2 : starEach [e2] X.env = (false, eval e2 X.env) :: starEach [] X.env := by rfl) (plain1 : (backTo p4 (starEach [e2] X.env)).any (·.1) = false := by rfl)
    (hsw : swapsWith (.Call (.Attribute (.Name x p) "insert" p3) [e, e2] [] p4) none pos.line X.env = pure false := by rfl) :
    DS G X (.Expr (.Call (.Attribute (.Name x p) "insert" p3) [e, e2] [] p4) pos) (dIns i w w2) :=
  ⟨ps_imp (ps_expr (pe_bm PySem.F.plainAttrs_list PySem.F.slot_list_insert PySem.F.type_list_insert mt_insert hx (pa_cons he.pe (pa_cons he2.pe pa_nil s2) s1) hbx few1 line1 s1 plain1) hsw) fun D σ H ⟨F, B, ρ, E, g, ⟨ds, h1, q⟩, f⟩ => by
    obtain ⟨a, xs, a1, a2, _⟩ := g.mut (es := ds) h1
    refine ⟨_, a1, .inl ⟨rfl, xs, .inl (.inl a2)⟩, F, B, ρ, g, he.mo _ _ _ (fun d q v H' k o r => ⟨F, B, ρ, g.step k o, he2.mo _ _ _ (fun d2 ⟨n, e1, hz, h0, hn, qq⟩ v2 H2 k2 o2 r2 => ?_) q⟩) q⟩
    subst e1
    have g' := (g.step k o).step k2 o2
    obtain ⟨a', xs', a1', a2', la, gm⟩ := g'.mut (es := ds.take n.toNat ++ [d2] ++ ds.drop n.toNat) h1
    exact ⟨a', xs', n, v2, Option.some.inj (Option.some.inj (a1.symm.trans a1')), by rw [rp_int r], a2', by rw [la.len]; exact hz, h0, hn, f.nx _ _ _ _ qq (gm _ (((la.take _).app (.one r2)).app (la.drop _)))⟩,
   fun E E' ρ b ⟨ds, h1, q⟩ => ⟨ds, h1, he.mo _ _ _ (fun d q => he2.mo _ _ _ (fun d2 ⟨n, e1, hz, h0, hn, q⟩ => ⟨n, e1, hz, h0, hn, b.nx _ q⟩) q) q⟩⟩
end

/-! ### a, b = x, y: lists of their own among them -/
section
variable {G : Ga} {X : Cx} {wa wb : WE} {i j : Nat} {x y : Str} {a b : Expr} {px py pt : Pos} {kt k2 pt2} {pos : Pos}
def dParOO (i j : Nat) (wa wb : WE) : WS := fun E ρ => i < ρ.length ∧ j < ρ.length ∧ wa ρ fun d => wb ρ fun d2 => ∃ ds es, d = .list ds ∧ d2 = .list es ∧ E.nx ((ρ.set i (some (.o ds))).set j (some (.o es)))
def dParOV (i j : Nat) (wa wb : WE) : WS := fun E ρ => i < ρ.length ∧ j < ρ.length ∧ wa ρ fun d => wb ρ fun d2 => ∃ ds, d = .list ds ∧ E.nx ((ρ.set i (some (.o ds))).set j (some (.v d2)))
def dParVO (i j : Nat) (wa wb : WE) : WS := fun E ρ => i < ρ.length ∧ j < ρ.length ∧ wa ρ fun d => wb ρ fun d2 => ∃ es, d2 = .list es ∧ E.nx ((ρ.set i (some (.v d))).set j (some (.o es)))
theorem ds_parOO (hc : X.calm = true) (hN : X.N.Nodup) (hi : X.N[i]? = some x) (hj : X.N[j]? = some y) (hij : i ≠ j)
    (hx : X.env.scope.names.lookup x = some .local) (hy : X.env.scope.names.lookup y = some .local) (ha : DF G X a wa) (hb : DF G X b wb)
    (hw : swappedStores [.Tuple [.Name x px, .Name y py] kt pt] (.Tuple [a, b] k2 pt2) X.env = pure (some [x, y]))
    (hs : swapsWithSole [.Tuple [.Name x px, .Name y py] kt pt] (.Tuple [a, b] k2 pt2) pos.line X.env = pure false := by rfl)
    (s1 : starEach [a, b] X.env = (false, eval a X.env) :: starEach [b] X.env := by rfl) (s2 : starEach [b] X.env = (false, eval b X.env) :: starEach [] X.env := by rfl) :
    DS G X (.Assign [.Tuple [.Name x px, .Name y py] kt pt] (.Tuple [a, b] k2 pt2) pos) (dParOO i j wa wb) :=
  ⟨ps_imp (ps_par hc hN hi hj hij hx hy (pa_cons ha.pe (pa_cons hb.pe pa_nil s2) s1) hw hs) fun D σ H ⟨F, B, ρ, E, g, ⟨hi, hj, q⟩, f⟩ => ⟨F, B, ρ, g, ha.mo _ _ _ (fun d q p1 xs ds H1 e1 n1 k1 o1 h1 l1 => by
    refine ⟨F, _, ρ, g.bar n1 k1 o1 (by rw [h1]; simp), hb.mo _ _ _ (fun d2 ⟨ds', es, e2, e3, q⟩ p2 ys es' H2 e4 n2 k2 o2 h2 l2 => ?_) q⟩
    subst e1
    cases e2
    subst e3
    cases e4
    exact ⟨_, _, rfl, f.nx _ _ _ _ q ((g.own hi n1 k1 o1 h1 l1).own (by simpa using hj) n2 k2 o2 h2 l2)⟩) q⟩,
   fun E E' ρ b ⟨hi, hj, q⟩ => ⟨hi, hj, ha.mo _ _ _ (fun d q => hb.mo _ _ _ (fun d2 ⟨ds, es, e1, e2, q⟩ => ⟨ds, es, e1, e2, b.nx _ q⟩) q) q⟩⟩
theorem ds_parOV (hc : X.calm = true) (hN : X.N.Nodup) (hi : X.N[i]? = some x) (hj : X.N[j]? = some y) (hij : i ≠ j)
    (hx : X.env.scope.names.lookup x = some .local) (hy : X.env.scope.names.lookup y = some .local) (ha : DF G X a wa) (hb : DE G X b wb)
    (hw : swappedStores [.Tuple [.Name x px, .Name y py] kt pt] (.Tuple [a, b] k2 pt2) X.env = pure (some [x, y]))
    (hs : swapsWithSole [.Tuple [.Name x px, .Name y py] kt pt] (.Tuple [a, b] k2 pt2) pos.line X.env = pure false := by rfl)
    (s1 : starEach [a, b] X.env = (false, eval a X.env) :: starEach [b] X.env := by rfl) (s2 : starEach [b] X.env = (false, eval b X.env) :: starEach [] X.env := by rfl) :
    DS G X (.Assign [.Tuple [.Name x px, .Name y py] kt pt] (.Tuple [a, b] k2 pt2) pos) (dParOV i j wa wb) :=
  ⟨ps_imp (ps_par hc hN hi hj hij hx hy (pa_cons ha.pe (pa_cons hb.pe pa_nil s2) s1) hw hs) fun D σ H ⟨F, B, ρ, E, g, ⟨hi, hj, q⟩, f⟩ => ⟨F, B, ρ, g, ha.mo _ _ _ (fun d q p1 xs ds H1 e1 n1 k1 o1 h1 l1 => by
    refine ⟨F, _, ρ, g.bar n1 k1 o1 (by rw [h1]; simp), hb.mo _ _ _ (fun d2 ⟨ds', e2, q⟩ v2 H2 k2 o2 r2 => ?_) q⟩
    subst e1
    cases e2
    exact ⟨_, _, rfl, f.nx _ _ _ _ q (((g.own hi n1 k1 o1 h1 l1).step k2 o2).put (by simpa using hj) (fun _ z => by cases z) (.v r2))⟩) q⟩,
   fun E E' ρ b ⟨hi, hj, q⟩ => ⟨hi, hj, ha.mo _ _ _ (fun d q => hb.mo _ _ _ (fun d2 ⟨ds, e1, q⟩ => ⟨ds, e1, b.nx _ q⟩) q) q⟩⟩
theorem ds_parVO (hc : X.calm = true) (hN : X.N.Nodup) (hi : X.N[i]? = some x) (hj : X.N[j]? = some y) (hij : i ≠ j)
    (hx : X.env.scope.names.lookup x = some .local) (hy : X.env.scope.names.lookup y = some .local) (ha : DE G X a wa) (hb : DF G X b wb)
    (hw : swappedStores [.Tuple [.Name x px, .Name y py] kt pt] (.Tuple [a, b] k2 pt2) X.env = pure (some [x, y]))
    (hs : swapsWithSole [.Tuple [.Name x px, .Name y py] kt pt] (.Tuple [a, b] k2 pt2) pos.line X.env = pure false := by rfl)
    (s1 : starEach [a, b] X.env = (false, eval a X.env) :: starEach [b] X.env := by rfl) (s2 : starEach [b] X.env = (false, eval b X.env) :: starEach [] X.env := by rfl) :
    DS G X (.Assign [.Tuple [.Name x px, .Name y py] kt pt] (.Tuple [a, b] k2 pt2) pos) (dParVO i j wa wb) :=
  ⟨ps_imp (ps_par hc hN hi hj hij hx hy (pa_cons ha.pe (pa_cons hb.pe pa_nil s2) s1) hw hs) fun D σ H ⟨F, B, ρ, E, g, ⟨hi, hj, q⟩, f⟩ => ⟨F, B, ρ, g, ha.mo _ _ _ (fun d q v H1 k1 o1 r1 => by
    refine ⟨F, B, ρ, g.step k1 o1, hb.mo _ _ _ (fun d2 ⟨es, e3, q⟩ p2 ys es' H2 e4 n2 k2 o2 h2 l2 => ?_) q⟩
    subst e3
    cases e4
    exact ⟨_, _, rfl, f.nx _ _ _ _ q (((g.step k1 o1).put hi (fun _ z => by cases z) (.v r1)).own (by simpa using hj) n2 k2 o2 h2 l2)⟩) q⟩,
   fun E E' ρ b ⟨hi, hj, q⟩ => ⟨hi, hj, ha.mo _ _ _ (fun d q => hb.mo _ _ _ (fun d2 ⟨es, e1, q⟩ => ⟨es, e1, b.nx _ q⟩) q) q⟩⟩
end
end Dl
/-! The data layer, part 16: sorted of a tuple of ints; one except clause. -/
namespace PySem
namespace ErX
open PySem PyProof.Rows Srt SrtO
section
variable {prog : Program} {w : World} {A : Around} {E : Value → Shared → Prop} {s : Shared}
theorem collect_tup {l : Addr} {vs : List Value} {Q : List Value → Shared → Prop} (hl : IsTup s.heap l vs.toArray)
    (h : Q vs { s with heap := (s.heap.push (seqObj "list" #[] 0)).update s.heap.objs.size (Obj.mapSeq (· ++ vs.toArray)) }) (hsz : vs.length ≤ sizeLine) :
    wpAny (model prog w) A (collect (.ref l)) Q E s := by
  obtain ⟨o, ho, hc, n, hd⟩ := id hl
  unfold collect
  refine wpAny_bind (wpAny_runValue (codeAny_builtin entry_proto_collect' ?_))
  show wpAny _ _ (do again (.builtin "list.__iadd__" ⟨[← newList [], .ref l], []⟩)) _ _ s
  refine wpAny_bind (wpAny_newList (wpAny_pure ⟨Code.quiet_builtin _ (by decide +kernel), codeAny_builtin entry_list_iadd' ?_⟩))
  show wpAny _ _ (Builtin.List.listExtendWith (.ref s.heap.objs.size) (.ref l) (.ref s.heap.objs.size)) _ _ { s with heap := s.heap.push (seqObj "list" #[] 0) }
  unfold Builtin.List.listExtendWith
  have ho' : (s.heap.push (seqObj "list" #[] 0)).get? l = some o := Heap.get?_push_of_some _ ho
  refine wpAny_bind (wpAny_typeOf (T := "tuple") ⟨o, ho', hc⟩ ?_)
  have ht : (Value.type "tuple" == Value.type "tuple") = true := by rfl
  rw [if_pos (by rw [ht]; simp)]
  refine wpAny_bind (listItems_at ho' hd ?_)
  refine wpAny_bind (listItems_at (xs := #[]) (n := 0) (Heap.get?_push_size _ rfl) rfl ?_)
  rw [if_neg (by simp)]
  refine wpAny_bind (listUpdate_at (xs := #[]) (n := 0) (Heap.get?_push_size _ rfl) rfl ?_ (Nat.zero_le _) (by show (#[] ++ vs.toArray).size ≤ sizeLine + 1; simp only [Array.size_append, List.size_toArray, List.length_nil]; omega))
  refine wpAny_pure ?_
  show wpAny (model prog w) A (do
      let o ← load s.heap.objs.size
      match o.data with
      | .seq xs _ => pure xs.toList
      | _ => unsupported "internal:collect") Q E { s with heap := (s.heap.push (seqObj "list" #[] 0)).update s.heap.objs.size (Obj.mapSeq (· ++ vs.toArray)) }
  refine wpAny_bind (wpAny_load (get?_update_seq (Heap.get?_push_size _ rfl) _) ?_)
  show wpAny _ _ (pure ((#[] : Array Value) ++ vs.toArray).toList) Q E _
  rw [show ((#[] : Array Value) ++ vs.toArray).toList = vs by simp]
  exact wpAny_pure h
/-- sorted(t), t a tuple -/
theorem sorted_tupO {l : Addr} {vs : List Value} {ltv : Value → Value → Bool} {Q : Value → Shared → Prop} (O : Swo ltv) (hl : IsTup s.heap l vs.toArray) (hz : vs.length ≤ sizeLine)
    (hS : 2 ≤ vs.length → ∀ (h₁ : Heap) (a : Addr), h₁.get? a = some (seqObj "list" vs.toArray 0) → (∀ b o, s.heap.get? b = some o → b ≠ a ∧ h₁.get? b = some o) → SortableO prog w A.in1.in1 { s with heap := h₁ } a vs ltv)
    (h : ∀ out : List Value, Srtd ltv out → Stb ltv out vs → Q (.ref (s.heap.objs.size + 1)) { s with heap := sortedAll s.heap vs out.toArray }) :
    wpAny (model prog w) A (call (.builtin "sorted") [.ref l]) Q E s := by
  refine Calls.call_function_entry kind_sorted plain_sorted entry_sorted (args_sorted1 _) ?_
  unfold Builtin.«sorted»
  refine wpAny_bind (m := checkCount "sorted" 1 1 _) (wpAny_pure ?_)
  refine wpAny_bind (collect_tup hl ?_ hz)
  refine wpAny_bind (wpAny_newList ?_ hz)
  have hsz : ((s.heap.push (seqObj "list" #[] 0)).update s.heap.objs.size (Obj.mapSeq (· ++ vs.toArray))).objs.size = s.heap.objs.size + 1 := by
    rw [Heap.size_update, size_push']
  have hoL : (((s.heap.push (seqObj "list" #[] 0)).update s.heap.objs.size (Obj.mapSeq (· ++ vs.toArray))).push (seqObj "list" vs.toArray 0)).get? (s.heap.objs.size + 1) = some (seqObj "list" vs.toArray 0) := by
    rw [← hsz]; exact Heap.get?_push_size _ rfl
  have keep : ∀ b o, s.heap.get? b = some o → b ≠ s.heap.objs.size + 1 ∧ (((s.heap.push (seqObj "list" #[] 0)).update s.heap.objs.size (Obj.mapSeq (· ++ vs.toArray))).push (seqObj "list" vs.toArray 0)).get? b = some o := fun b o q => by
    have hlt : b < s.heap.objs.size := Heap.lt_size q
    refine ⟨Nat.ne_of_lt (Nat.lt_succ_of_lt hlt), Heap.get?_push_of_some _ ?_⟩
    rw [Heap.get?_update_ne _ _ _ _ (Nat.ne_of_lt hlt)]
    exact Heap.get?_push_of_some _ q
  show wpAny _ _ _ _ _ { s with heap := ((s.heap.push (seqObj "list" #[] 0)).update s.heap.objs.size (Obj.mapSeq (· ++ vs.toArray))).push (seqObj "list" vs.toArray 0) }
  rw [hsz]
  refine wpAny_bind (wpAny_holding (wpAny_call_entry slot_list_sort ⟨_, hoL, rfl⟩ entry_list_sort (list_sort_ord O hoL hz (fun h2 => hS h2 _ _ hoL keep) fun out hs hb => ⟨_, rfl, ?_⟩) (args_list_sort _)))
  exact wpAny_pure ⟨_, rfl, h out hs hb⟩
end
end ErX
end PySem
namespace Dl
open PySem PySem.Spec PyProof.Rows L2
section
variable {G : Ga} {X : Cx} {e : Expr} {es : List Expr} {ws : WA} {p pos : Pos}
def rSortedU (K : PySem.W.Frag) : List V → Hp → VK → Prop := fun vs H Q => ∃ (a : Addr) (ns : List Int), vs = [V.ref a] ∧ (SqL K H a (ns.map V.int) ∨ SqT K H a (ns.map V.int)) ∧
  ∀ (ns' : List Int) (p : Addr), ns'.Perm ns → ns'.Pairwise (· ≤ ·) → H p = none → Q (.ref p) (upd H p (.lst (ns'.map V.int)))
theorem cr_sortedU : CallR X (.builtin "sorted") (rSortedU X.K) := by
  intro pins s σ H vs us Q I r h
  obtain ⟨a, ns, rfl, hs | hs, q⟩ := h
  · exact cr_sortedI pins s σ H _ us Q I r ⟨a, ns, rfl, hs, q⟩
  · obtain ⟨its, rv, hl, hz⟩ := I.tuple hs
    rw [Vals.ref1 r]
    have hi := rv.ints
    refine PySem.ErX.sorted_tupO SrtO.swo_int hl (by rw [← rv.length]; exact hz) (fun h2 h₁ a' _ _ => SrtO.ints_sortable hi h2) fun out h1 h2 => ?_
    obtain ⟨k1, k2, k3⟩ := SrtO.ints_out hi h1 h2
    obtain ⟨ep, he'⟩ := PyProof.Rows.sortedAll_at s.heap its out.toArray
    have hlen : ((out.map SrtO.iv).map V.int).length ≤ sizeLine := by
      rw [List.length_map, k2.length_eq]
      rw [List.length_map] at hz
      exact hz
    exact ⟨.ref _, upd H (s.heap.objs.size + 1) (.lst ((out.map SrtO.iv).map V.int)), I.laid (t' := s.toks) (fun _ _ => PyProof.Rows.sortedAll_old) (Nat.le_succ _) ⟨hlen, out, ep, vals_of_ints k1, he'⟩, rfl, q _ _ k2 k3 (I.hok.fresh (Nat.le_succ _))⟩
def fSortU : FA := fun ds Q => ∃ ns : List Int, (ds = [.list (ns.map .int)] ∨ ds = [.tuple (ns.map .int)]) ∧ ∀ ns' : List Int, ns'.Perm ns → ns'.Pairwise (· ≤ ·) → Q (.list (ns'.map .int))
theorem df_sortU (hm : X.mg "sorted" = none) (ha : DAb G X (e :: es) ws) (hg : Gl X "sorted" := by rfl)
    (he : starEach (e :: es) X.env = (false, eval e X.env) :: starEach es X.env := by rfl) (hpl : (backTo pos (starEach es X.env)).any (·.1) = false := by rfl) : DF G X (.Call (.Name "sorted" p) (e :: es) [] pos) (dA fSortU ws) :=
  df_callB cr_sortedU hg hm (by decide +kernel) ha (fun _ _ _ m ⟨i, h, q⟩ => ⟨i, h, fun z a b => m _ (q z a b)⟩) (fun F B σ ρ H vs ds Q g l q => by
    obtain ⟨ns, e1, q⟩ := q
    rcases e1 with rfl | rfl
    · obtain ⟨v, rfl, r⟩ := bl1 l
      obtain ⟨a, xs, rfl, h, l2⟩ := rb_list X.K r
      cases RpL.ints_inv l2
      exact ⟨a, ns, rfl, .inl h, fun ns' pp h1 h2 np => q ns' h1 h2 pp _ _ _ rfl np (Kp.new np) (ok_newb g.deal np) upd_same (RpL.ints _)⟩
    · obtain ⟨v, rfl, r⟩ := bl1 l
      obtain ⟨a, xs, rfl, h, l2⟩ := rb_tup X.K r
      cases RpL.ints_inv l2
      exact ⟨a, ns, rfl, .inr h, fun ns' pp h1 h2 np => q ns' h1 h2 pp _ _ _ rfl np (Kp.new np) (ok_newb g.deal np) upd_same (RpL.ints _)⟩) (by decide) (by decide) he hpl
end
/-! ### one class alone -/
def only (C : Addr) : Addr → Option Bool := fun D => if D = C then some true else none
section
variable {G : Ga} {X : Cx} {x n msg : Str} {c fI : Addr} {i : Nat} {body suite : List Stmt} {b₀ : Stmt} {np pos pos' : Pos} {wb : Ga → WS} {ws : Addr → Addr → WS}
theorem ds_try1 (T : PySem.ErX.ErrTxt X.prog X.K X.mg x msg c fI) {gg : GInv} (hx : Xw gg G X) (hs : X.stack = X.env :: X.outer) (hf : X.env.frame = some X.env.locals) (hN : X.N.Nodup) (hi : X.N[i]? = some n) (hln : X.env.kindOf n = some .local) (hg : Gl X x) (hdb : (x == ("__debug__" : Str)) = false)
    (hb : ∀ (G' : Ga) (pn : List (Addr × Obj)) (xe : Value → Shared → Prop), Same G' G → Xw gg G' (X.tr pn xe) → PassesOwn (model X.prog X.w) X.A X.env xe → DSs G' (X.tr pn xe) body (wb G'))
    (hsu : ∀ (a dd : Addr) (oe : Obj) (pn : List (Addr × Obj)), Zc (.ref c) (some dd) oe → (∃ vs, oe.data = .fields vs) → DSs G (X.suite a ((a, oe) :: pn)) (b₀ :: suite) (ws a dd)) :
    DS G X (.Try body [.ExceptHandler (some (.Name x np)) (some n) (b₀ :: suite) pos'] [] [] pos) (dTry G (only c) i wb ws) :=
  ds_try hx hs hf hN hi hln ⟨hg, hdb, .inl T.gC⟩ (fun C b h => by
    unfold only at h
    split at h
    · rename_i e; subst e; cases h; exact T.te
    · cases h) hb fun a dd oe C pn hm hz hfl => by
    unfold only at hm
    split at hm
    · rename_i e; subst e; exact hsu a dd oe pn hz hfl
    · cases hm
end
end Dl
/-! Readings reckoned: comprehensions, loops. -/
namespace Dl
open PySem PySem.Spec PyProof.Rows L2

def LcB (ds : List PyData) (ρ' : En) (gt : WTg) (wt : WT) (we : WE) (Q : PyData → Prop) : Prop := ∃ P : Nat → List PyData → Prop, P 0 [] ∧
  (∀ i acc, P i acc → ∀ h : i < ds.length, gt ds[i] ρ' fun ρ2 => wt ρ2 fun b => if b = true then we ρ2 fun y => acc.length < sizeLine ∧ P (i + 1) (acc ++ [y]) else P (i + 1) acc) ∧ ∀ acc, P ds.length acc → Q (.list acc)
theorem dLc_b {vs : List Nat} {wi : WI} {gt : WTg} {wt : WT} {we : WE} {ρ : En} {Q : PyData → Prop} : dLc vs wi gt wt we ρ Q = wi ρ fun ds => LcB ds (wipeD ρ vs) gt wt we Q := rfl
def LcI (es : List PyData) (ρ' : En) (gt : WTg) (wt : WT) (we : WE) (acc : List PyData) (K : List PyData → Prop) : Prop := ∃ P1 : Nat → List PyData → Prop, P1 0 acc ∧
  (∀ j acc1, P1 j acc1 → ∀ h : j < es.length, gt es[j] ρ' fun ρ3 => wt ρ3 fun b => if b = true then we ρ3 fun y => acc1.length < sizeLine ∧ P1 (j + 1) (acc1 ++ [y]) else P1 (j + 1) acc1) ∧ ∀ acc1, P1 es.length acc1 → K acc1
def Lc2B (ds : List PyData) (ρ' : En) (vs1 : List Nat) (gt : WTg) (wt : WT) (wi1 : WI) (gt1 : WTg) (wt1 : WT) (we : WE) (Q : PyData → Prop) : Prop := ∃ P : Nat → List PyData → Prop, P 0 [] ∧
  (∀ i acc, P i acc → ∀ h : i < ds.length, gt ds[i] ρ' fun ρ2 => wt ρ2 fun b => if b = true then wi1 (noO ρ2) fun es => LcI es (wipeD (noO ρ2) vs1) gt1 wt1 we acc (P (i + 1)) else P (i + 1) acc) ∧ ∀ acc, P ds.length acc → Q (.list acc)
theorem dLc2_b {vs vs1 : List Nat} {wi : WI} {gt : WTg} {wt : WT} {wi1 : WI} {gt1 : WTg} {wt1 : WT} {we : WE} {ρ : En} {Q : PyData → Prop} : dLc2 vs vs1 wi gt wt wi1 gt1 wt1 we ρ Q = wi ρ fun ds => Lc2B ds (wipeD ρ vs) vs1 gt wt wi1 gt1 wt1 we Q := rfl
def ForB (ds : List PyData) (gt : WTg) (wb : WS) (E : DEnds) (ρ : En) : Prop := ∃ P : Nat → En → Prop, P 0 ρ ∧
  (∀ i ρ, P i ρ → ∀ h : i < ds.length, gt ds[i] ρ fun ρ' => wb { E with nx := P (i + 1), ct := P (i + 1), bk := E.nx } ρ') ∧ ∀ ρ, P ds.length ρ → E.nx ρ
theorem dFor_b {wi : WI} {gt : WTg} {wb : WS} {E : DEnds} {ρ : En} : dFor wi gt wb E ρ = wi ρ fun ds => ForB ds gt wb E ρ := rfl
theorem take_fm {α : Type} (f : PyData → Option α) (ds : List PyData) (i : Nat) (h : i < ds.length) : (ds.take (i + 1)).filterMap f = (ds.take i).filterMap f ++ (f ds[i]).toList := by
  rw [List.take_succ, List.getElem?_eq_getElem h, List.filterMap_append]
  cases e : f ds[i] <;> simp [e]
theorem take_fl {α : Type} (f : PyData → List α) (ds : List PyData) (i : Nat) (h : i < ds.length) : (ds.take (i + 1)).flatMap f = (ds.take i).flatMap f ++ f ds[i] := by
  rw [List.take_succ, List.getElem?_eq_getElem h, List.flatMap_append]
  simp
theorem fm_len {α β : Type} (f : α → Option β) (l : List α) : (l.filterMap f).length ≤ l.length := List.length_filterMap_le f l
/-- a comprehension item by item: f d is the new item, or none -/
theorem lcB_fm {ds : List PyData} {ρ' : En} {gt : WTg} {wt : WT} {we : WE} {Q : PyData → Prop} (f : PyData → Option PyData) (hl : ds.length ≤ sizeLine)
    (h : ∀ d ∈ ds, ∀ R : Option PyData → Prop, R (f d) → gt d ρ' fun ρ2 => wt ρ2 fun b => if b = true then we ρ2 fun y => R (some y) else R none) (q : Q (.list (ds.filterMap f))) : LcB ds ρ' gt wt we Q := by
  refine ⟨fun i acc => acc = (ds.take i).filterMap f, by simp, fun i acc e hi => ?_, fun acc e => by subst e; rw [List.take_length]; exact q⟩
  subst e
  refine h ds[i] (List.getElem_mem hi) (fun o => match o with
    | some y => ((ds.take i).filterMap f).length < sizeLine ∧ ((ds.take i).filterMap f) ++ [y] = (ds.take (i + 1)).filterMap f
    | none => (ds.take i).filterMap f = (ds.take (i + 1)).filterMap f) ?_
  have hlen : ((ds.take i).filterMap f).length < sizeLine := Nat.lt_of_le_of_lt (fm_len _ _) (by rw [List.length_take]; omega)
  rw [take_fm f ds i hi]
  cases e : f ds[i] with
  | none => simp
  | some y => exact ⟨hlen, rfl⟩
theorem lcI_fm {ds : List PyData} {ρ' : En} {gt : WTg} {wt : WT} {we : WE} {acc : List PyData} {K : List PyData → Prop} (f : PyData → Option PyData) (hl : acc.length + ds.length ≤ sizeLine)
    (h : ∀ d ∈ ds, ∀ R : Option PyData → Prop, R (f d) → gt d ρ' fun ρ2 => wt ρ2 fun b => if b = true then we ρ2 fun y => R (some y) else R none) (q : K (acc ++ ds.filterMap f)) : LcI ds ρ' gt wt we acc K := by
  refine ⟨fun i a => a = acc ++ (ds.take i).filterMap f, by simp, fun i a e hi => ?_, fun a e => by subst e; rw [List.take_length]; exact q⟩
  subst e
  refine h ds[i] (List.getElem_mem hi) (fun o => match o with
    | some y => (acc ++ (ds.take i).filterMap f).length < sizeLine ∧ (acc ++ (ds.take i).filterMap f) ++ [y] = acc ++ (ds.take (i + 1)).filterMap f
    | none => acc ++ (ds.take i).filterMap f = acc ++ (ds.take (i + 1)).filterMap f) ?_
  have hlen : (acc ++ (ds.take i).filterMap f).length < sizeLine := by
    have := fm_len f (ds.take i)
    rw [List.length_take] at this
    rw [List.length_append]; omega
  rw [take_fm f ds i hi]
  cases e : f ds[i] with
  | none => simp
  | some y => exact ⟨hlen, by simp⟩
theorem lc2B_fl {ds : List PyData} {ρ' : En} {vs1 : List Nat} {gt : WTg} {wt : WT} {wi1 : WI} {gt1 : WTg} {wt1 : WT} {we : WE} {Q : PyData → Prop} (f : PyData → List PyData)
    (h : ∀ d ∈ ds, ∀ (acc : List PyData) (R : List PyData → Prop), acc.length + (f d).length ≤ (ds.flatMap f).length → R (acc ++ f d) → gt d ρ' fun ρ2 => wt ρ2 fun b => if b = true then wi1 (noO ρ2) fun es => LcI es (wipeD (noO ρ2) vs1) gt1 wt1 we acc R else R acc)
    (q : Q (.list (ds.flatMap f))) : Lc2B ds ρ' vs1 gt wt wi1 gt1 wt1 we Q := by
  refine ⟨fun i acc => acc = (ds.take i).flatMap f, by simp, fun i acc e hi => ?_, fun acc e => by subst e; rw [List.take_length]; exact q⟩
  subst e
  refine h ds[i] (List.getElem_mem hi) _ (fun a => a = (ds.take (i + 1)).flatMap f) ?_ (by rw [take_fl f ds i hi])
  have e : ds.flatMap f = (ds.take (i + 1)).flatMap f ++ (ds.drop (i + 1)).flatMap f := by rw [← List.flatMap_append, List.take_append_drop]
  rw [e, take_fl f ds i hi]
  simp only [List.length_append]
  omega

theorem fm_filter {α β : Type} (p : α → Bool) (c : α → β) : ∀ xs : List α, xs.filterMap (fun n => if p n = true then some (c n) else none) = (xs.filter p).map c
  | [] => rfl
  | x :: xs => by
    by_cases hp : p x = true
    · simp [hp, fm_filter p c xs]
    · simp [hp, fm_filter p c xs]
/-! the items by what they stand for -/
section
variable {α : Type} {xs : List α} {c : α → PyData} {ρ' : En} {gt : WTg} {wt : WT} {we : WE} {Q : PyData → Prop}
theorem lcB_g (f : α → Option PyData) (hl : xs.length ≤ sizeLine) (h : ∀ n ∈ xs, ∀ R : Option PyData → Prop, R (f n) → gt (c n) ρ' fun ρ2 => wt ρ2 fun b => if b = true then we ρ2 fun y => R (some y) else R none) (q : Q (.list (xs.filterMap f))) :
    LcB (xs.map c) ρ' gt wt we Q := by
  refine ⟨fun i acc => acc = (xs.take i).filterMap f, by simp, fun i acc e hi => ?_, fun acc e => by subst e; rw [List.length_map, List.take_length]; exact q⟩
  subst e
  have hi' : i < xs.length := by simpa using hi
  have e0 : (xs.map c)[i] = c xs[i] := by simp
  rw [e0]
  refine h xs[i] (List.getElem_mem hi') (fun o => match o with
    | some y => ((xs.take i).filterMap f).length < sizeLine ∧ ((xs.take i).filterMap f) ++ [y] = (xs.take (i + 1)).filterMap f
    | none => (xs.take i).filterMap f = (xs.take (i + 1)).filterMap f) ?_
  have hlen : ((xs.take i).filterMap f).length < sizeLine := Nat.lt_of_le_of_lt (fm_len _ _) (by rw [List.length_take]; omega)
  have e1 : (xs.take (i + 1)).filterMap f = (xs.take i).filterMap f ++ (f xs[i]).toList := by
    rw [List.take_succ, List.getElem?_eq_getElem hi', List.filterMap_append]
    cases e : f xs[i] <;> simp [e]
  rw [e1]
  cases e : f xs[i] with
  | none => simp
  | some y => exact ⟨hlen, rfl⟩
theorem lcB_m (f : α → PyData) (hl : xs.length ≤ sizeLine) (h : ∀ n ∈ xs, ∀ R : Option PyData → Prop, R (some (f n)) → gt (c n) ρ' fun ρ2 => wt ρ2 fun b => if b = true then we ρ2 fun y => R (some y) else R none) (q : Q (.list (xs.map f))) :
    LcB (xs.map c) ρ' gt wt we Q := lcB_g (fun n => some (f n)) hl h (by simpa using q)
theorem lcB_b (f : α → Bool) (hl : xs.length ≤ sizeLine) (h : ∀ n ∈ xs, ∀ R : Option PyData → Prop, R (some (.bool (f n))) → gt (c n) ρ' fun ρ2 => wt ρ2 fun b => if b = true then we ρ2 fun y => R (some y) else R none) (q : Q (.list ((xs.map f).map .bool))) :
    LcB (xs.map c) ρ' gt wt we Q := lcB_m (fun n => .bool (f n)) hl h (by rw [List.map_map] at q; exact q)
theorem lcB_n (f : α → Int) (hl : xs.length ≤ sizeLine) (h : ∀ n ∈ xs, ∀ R : Option PyData → Prop, R (some (.int (f n))) → gt (c n) ρ' fun ρ2 => wt ρ2 fun b => if b = true then we ρ2 fun y => R (some y) else R none) (q : Q (.list ((xs.map f).map .int))) :
    LcB (xs.map c) ρ' gt wt we Q := lcB_m (fun n => .int (f n)) hl h (by rw [List.map_map] at q; exact q)
theorem lcB_f (p : α → Bool) (hl : xs.length ≤ sizeLine) (h : ∀ n ∈ xs, ∀ R : Option PyData → Prop, R (if p n = true then some (c n) else none) → gt (c n) ρ' fun ρ2 => wt ρ2 fun b => if b = true then we ρ2 fun y => R (some y) else R none) (q : Q (.list ((xs.filter p).map c))) :
    LcB (xs.map c) ρ' gt wt we Q := lcB_g (fun n => if p n = true then some (c n) else none) hl h (by
rw [fm_filter]; exact q)
theorem lcB_id {ds : List PyData} {f : PyData → PyData} (hl : ds.length ≤ sizeLine) (h : ∀ n ∈ ds, ∀ R : Option PyData → Prop, R (some (f n)) → gt n ρ' fun ρ2 => wt ρ2 fun b => if b = true then we ρ2 fun y => R (some y) else R none) (q : Q (.list (ds.map f))) :
    LcB ds ρ' gt wt we Q := lcB_fm (fun n => some (f n)) hl h (by rw [show (fun n => some (f n)) = some ∘ f from rfl, List.filterMap_eq_map]; exact q)
theorem lcI_g {acc : List PyData} {K : List PyData → Prop} (f : α → Option PyData) (hl : acc.length + xs.length ≤ sizeLine) (h : ∀ n ∈ xs, ∀ R : Option PyData → Prop, R (f n) → gt (c n) ρ' fun ρ2 => wt ρ2 fun b => if b = true then we ρ2 fun y => R (some y) else R none)
    (q : K (acc ++ xs.filterMap f)) : LcI (xs.map c) ρ' gt wt we acc K := by
  have e : (xs.map c).length = xs.length := by simp
  refine ⟨fun i a => a = acc ++ (xs.take i).filterMap f, by simp, fun i a e hi => ?_, fun a e => by subst e; rw [List.length_map, List.take_length]; exact q⟩
  subst e
  have hi' : i < xs.length := by simpa using hi
  have e0 : (xs.map c)[i] = c xs[i] := by simp
  rw [e0]
  refine h xs[i] (List.getElem_mem hi') (fun o => match o with
    | some y => (acc ++ (xs.take i).filterMap f).length < sizeLine ∧ (acc ++ (xs.take i).filterMap f) ++ [y] = acc ++ (xs.take (i + 1)).filterMap f
    | none => acc ++ (xs.take i).filterMap f = acc ++ (xs.take (i + 1)).filterMap f) ?_
  have hlen : (acc ++ (xs.take i).filterMap f).length < sizeLine := by
    have := fm_len f (xs.take i)
    rw [List.length_take] at this
    rw [List.length_append]; omega
  have e1 : (xs.take (i + 1)).filterMap f = (xs.take i).filterMap f ++ (f xs[i]).toList := by
    rw [List.take_succ, List.getElem?_eq_getElem hi', List.filterMap_append]
    cases e : f xs[i] <;> simp [e]
  rw [e1]
  cases e : f xs[i] with
  | none => simp
  | some y => exact ⟨hlen, by simp⟩
theorem lc2B_g {vs1 : List Nat} {wi1 : WI} {gt1 : WTg} {wt1 : WT} (f : α → List PyData)
    (h : ∀ d ∈ xs, ∀ (acc : List PyData) (R : List PyData → Prop), acc.length + (f d).length ≤ (xs.flatMap f).length → R (acc ++ f d) → gt (c d) ρ' fun ρ2 => wt ρ2 fun b => if b = true then wi1 (noO ρ2) fun es => LcI es (wipeD (noO ρ2) vs1) gt1 wt1 we acc R else R acc)
    (q : Q (.list (xs.flatMap f))) : Lc2B (xs.map c) ρ' vs1 gt wt wi1 gt1 wt1 we Q := by
  refine ⟨fun i acc => acc = (xs.take i).flatMap f, by simp, fun i acc e hi => ?_, fun acc e => by subst e; rw [List.length_map, List.take_length]; exact q⟩
  subst e
  have hi' : i < xs.length := by simpa using hi
  have e0 : (xs.map c)[i] = c xs[i] := by simp
  have e1 : (xs.take (i + 1)).flatMap f = (xs.take i).flatMap f ++ f xs[i] := by
    rw [List.take_succ, List.getElem?_eq_getElem hi', List.flatMap_append]
    simp
  rw [e0]
  refine h xs[i] (List.getElem_mem hi') _ (fun a => a = (xs.take (i + 1)).flatMap f) ?_ (by rw [e1])
  have e : xs.flatMap f = (xs.take (i + 1)).flatMap f ++ (xs.drop (i + 1)).flatMap f := by rw [← List.flatMap_append, List.take_append_drop]
  rw [e, e1]
  simp only [List.length_append]
  omega
end

/-! ### sorted -/
theorem sorted_unique : ∀ {l m : List Int}, l.Perm m → l.Pairwise (· ≤ ·) → m.Pairwise (· ≤ ·) → l = m
  | [], m, p, _, _ => by simpa using p.nil_eq
  | a :: l, [], p, _, _ => by simpa using p.length_eq
  | a :: l, b :: m, p, s, t => by
    have h1 : a ≤ b := by
      have : b ∈ a :: l := p.mem_iff.mpr List.mem_cons_self
      rcases List.mem_cons.mp this with e | e
      · omega
      · exact (List.pairwise_cons.mp s).1 b e
    have h2 : b ≤ a := by
      have : a ∈ b :: m := p.mem_iff.mp List.mem_cons_self
      rcases List.mem_cons.mp this with e | e
      · omega
      · exact (List.pairwise_cons.mp t).1 a e
    have e : a = b := by omega
    subst e
    rw [sorted_unique (p.cons_inv) (List.pairwise_cons.mp s).2 (List.pairwise_cons.mp t).2]
def srt (l : List Int) : List Int := l.mergeSort (fun a b => decide (a ≤ b))
theorem srt_perm (l : List Int) : (srt l).Perm l := List.mergeSort_perm l _
theorem srt_sorted (l : List Int) : (srt l).Pairwise (· ≤ ·) := by
  have := List.pairwise_mergeSort (le := fun a b : Int => decide (a ≤ b)) (by intro a b c; simp; omega) (by intro a b; simp; omega) l
  exact this.imp fun h => by simpa using h
theorem srt_eq {l m : List Int} (p : m.Perm l) (s : m.Pairwise (· ≤ ·)) : m = srt l := sorted_unique (p.trans (srt_perm l).symm) s (srt_sorted l)
theorem srt_congr {l m : List Int} (p : l.Perm m) : srt l = srt m := sorted_unique ((srt_perm l).trans (p.trans (srt_perm m).symm)) (srt_sorted l) (srt_sorted m)

/-! ### slices -/
theorem cutD_to {ds : List PyData} {i : Int} (h : 0 ≤ i) : cutD ds none (some i) = ds.take i.toNat := by
  obtain ⟨k, rfl⟩ := Int.eq_ofNat_of_zero_le h
  unfold cutD
  rw [HT.sIx_nat, HT.sIx_none, List.drop_zero, Nat.sub_zero, Int.toNat_natCast]
  by_cases hk : k ≤ ds.length
  · rw [Nat.min_eq_left hk]
  · rw [Nat.min_eq_right (by omega), List.take_length, List.take_of_length_le (by omega)]
theorem cutD_from {ds : List PyData} {i : Int} (h : 0 ≤ i) : cutD ds (some i) none = ds.drop i.toNat := by
  obtain ⟨k, rfl⟩ := Int.eq_ofNat_of_zero_le h
  unfold cutD
  rw [HT.sIx_nat, HT.sIx_none, Int.toNat_natCast]
  by_cases hk : k ≤ ds.length
  · rw [Nat.min_eq_left hk, List.take_of_length_le (by simp)]
  · rw [Nat.min_eq_right (by omega), List.drop_length, List.drop_of_length_le (by omega)]
    simp
theorem atI_at {α : Type} {xs : List α} {k : Nat} (h : k < xs.length) : atI xs (k : Int) = some xs[k] := atI_some (by omega) (by simp [h])
end Dl
/-! The law's own head, for promises that hold while no repr is under way. -/
namespace Dl
open PySem PySem.Spec PyProof.Rows L2

theorem noCX {P : Program} {w : World} {st : List Env} {H : Hp} {s : Shared} {e : Value} {s' : Shared} (h : L2.CX P w st H s (fun _ _ _ => False) e s') : False := by
  obtain ⟨_, _, _, _, _, _, h⟩ := h
  simp_all
section
variable {P : Program} {w : World} {K : PySem.W.Frag} {mg mb : Str → Option Value} {k : Nat} {fa a : Addr} {fd : FuncData} {x : Str} {sp : Sp} {s₁ : Shared} {vs : List Value} {ns : List Int}
/-- from one abstract heap that tracks nothing but the script -/
theorem head_core (KX : K.In s₁.heap) (hns : s₁.heap.Ns mainGlobals mg) (hb : s₁.heap.Ns builtinsNs mb) (hbb : ∀ x : Str, x ≠ "__name__" → mb x = bootBuiltins x) (hlim : s₁.heap.NoLimit) (hg : s₁.gens = #[])
    (ha : s₁.heap.get? a = some { cls := .type "list", data := .seq vs.toArray }) (hr : Room k callerA)
    (F : ∀ base : Heap, K.In base → base.Ns mainGlobals mg → FnG P w K mg base k fa fd [x] sp) (hbind : ∀ (s : Shared) (u : Value), BindsTo s fd ⟨[u], []⟩ [(x, u)])
    (H : Hp) (hO : Only H) (q0 : sp [.ref a] H (fun v _ => v = .bl true) fun _ _ _ => False) (hok : HOk P w H s₁.heap) (hA : ∀ b, H b ≠ none → b = a) (hK : H a ≠ none → K.lookup a = none) :
    codeAny (model P w) callerA (.call (.ref fa) ⟨[.ref a], []⟩) (fun r s' => r = .ok (.ret (.bool true)) ∧ OldK s₁.heap s'.heap ∧ s'.os = s₁.os ∧ AllBare s'.gens) s₁ := by
  have clear : ∀ {b : Addr} {o : Obj}, s₁.heap.get? b = some o → (b = a → H a ≠ none → False) → (hidT s₁.heap H).get? b = some o := fun {b o} e n => hidT_get e (by
    cases q : H b with
    | none => rfl
    | some u =>
      have e' : b = a := hA b (by rw [q]; simp)
      exact (n e' (by rw [← e', q]; simp)).elim)
  have nsK : ∀ {b : Addr} {m : Str → Option Value}, s₁.heap.Ns b m → (hidT s₁.heap H).Ns b m := fun {b m} ⟨o, es, ep, e, d, r⟩ => ⟨o, es, ep, clear e (fun z _ => by
    rw [z, ha] at e
    cases e
    have d' : Data.seq vs.toArray _ = Data.dict es ep := d
    cases d'), d, r⟩
  have hKb : K.In (hidT s₁.heap H) := fun b o e => clear (KX b o e) fun z n => by
    rw [z, hK n] at e
    cases e
  have hM : Mod K mg (hidT s₁.heap H) := ⟨hKb, nsK hns, ⟨mb, nsK hb, hbb⟩, let ⟨mc, h1, h2⟩ := hlim; ⟨mc, nsK h1, h2⟩⟩
  have e0 : Env0 P w K mg (hidT s₁.heap H) callerA [] s₁ H := ⟨rfl, hM, fun b o e => of_hidT e, Nat.le_of_eq (hidT_size _ _), trivial, fun b hb => absurd (show b ∈ ([] : List Addr) from hb) (by simp), hok, .of_eq hg⟩
  refine codeAny_mono ((F _ hKb (nsK hns)).run callerA [] s₁ H ⟨[.ref a], []⟩ [.ref a] [.ref a] _ _ rfl hr e0 (hbind s₁ (.ref a)) (.cons rfl .nil) q0) fun r s' h => ?_
  cases r with
  | error e => exact (noCX h).elim
  | ok fl =>
    cases fl with
    | next => exact False.elim h
    | brk => exact False.elim h
    | cont => exact False.elim h
    | ret u =>
      obtain ⟨v, H', os, bare, un, hok', r', q⟩ := h
      have q' : v = .bl true := q
      subst q'
      obtain rfl : u = Value.bool true := r'
      refine ⟨rfl, OldK.of_keep fun b o e => ?_, os, bare⟩
      rcases hO b with z | ⟨ob, xs, z⟩
      · exact un.keep b o e z (by intro y; exact absurd (show b ∈ ([] : List Addr) from y) (by simp)) (by simp)
      · obtain ⟨e1, _⟩ := hok b _ z
        obtain ⟨e2, _⟩ := hok' b _ (un.frzs b ob _ z)
        rw [e] at e1; cases e1
        exact e2
end
/-- the law's promise -/
def spLaw (K : PySem.W.Frag) (J : Hp → Prop) (n : Nat) : Sp := fun vs H Q _ => ∃ (a : Addr) (ns : List Int), vs = [.ref a] ∧ ns.length ≤ n ∧ ScrAt K H a ns ∧ J H ∧ ∀ H', Q (.bl true) H'
/-- the law's def at a data promise -/
theorem walk_ofG {l : PySem.W.OpenLaw} {n k : Nat} {q : Program} {loose : List Str} {XP : (Str → Option Value) → Heap → Prop} {YP : World → Heap → Prop} {d : DefRec} {K : Params → PySem.W.Frag} {x : Str} {J : PySem.W.Frag → Hp → Prop} (hJ : ∀ K H, Only H → J K H)
    (hn : l.most = some n) (hn2 : n ≤ sizeLine) (hdf : d.params.defaults = []) (hr : Room k callerA)
    (hY : ∀ (w : World) (h : Heap), YP w h → (K w.params).In h)
    (F : ∀ (w : World) (mg : Str → Option Value) (fa : Addr) (h : Heap), (K w.params).In h → h.Ns mainGlobals mg → mg d.name = some (.ref fa) →
      ∃ fd : FuncData, (∀ (s : Shared) (u : Value), BindsTo s fd ⟨[u], []⟩ [(x, u)]) ∧
        ∀ base : Heap, (K w.params).In base → base.Ns mainGlobals mg → FnG l.prog w (K w.params) mg base k fa fd [x] (spLaw (K w.params) (J (K w.params)) n)) :
    PySem.W.WalkO q loose XP YP l.row.toRowW d [] (fun f vs => PySem.call f vs) := by
  refine Att.attach_call hn hdf fun w s₀ s₁ mg mb fa o pm cd doc a vs ns G Y ho hd hcd hmg hobj hints hlen hg => ?_
  have KX := hY w _ Y
  obtain ⟨fd, hb, hF⟩ := F w mg fa _ KX G.T.g hmg
  have rv := vals_ints hints
  have lenV := hints.length
  have hl : ns.length ≤ sizeLine := Nat.le_trans hlen hn2
  have sp0 : ∀ H : Hp, Only H → ScrAt (K w.params) H a ns → spLaw (K w.params) (J (K w.params)) n [.ref a] H (fun v _ => v = .bl true) fun _ _ _ => False := fun H hO hS => ⟨a, ns, rfl, hlen, hS, hJ _ H hO, fun _ => rfl⟩
  cases hk : (K w.params).lookup a with
  | some o =>
    have e := KX a o hk
    rw [hobj] at e
    cases e
    exact head_core KX G.T.g G.T.b G.T.builtins G.T.nolimit hg hobj hr hF hb (fun _ => none) (fun _ => .inl rfl) (sp0 _ (fun _ => .inl rfl) (.inr ⟨_, vs.toArray, _, hk, rfl, rfl, rfl, by rw [List.size_toArray, lenV]; exact hl, by simpa using rv⟩))
      (fun b u z => by have z' : (none : Option HO) = some u := z; cases z') (fun b z => absurd rfl z) fun z => absurd rfl z
  | none =>
    refine head_core KX G.T.g G.T.b G.T.builtins G.T.nolimit hg hobj hr hF hb (fun b => if b = a then some (.frz { cls := .type "list", data := .seq vs.toArray } (.lst (ns.map V.int))) else none) (fun b => ?_) (sp0 _ (fun b => ?_) (.inl ⟨{ cls := .type "list", data := .seq vs.toArray }, if_pos rfl⟩)) (fun b u z => ?_) (fun b z => ?_) fun _ => hk
    · by_cases hb : b = a
      · exact .inr ⟨_, _, if_pos hb⟩
      · exact .inl (if_neg hb)
    · by_cases hb : b = a
      · exact .inr ⟨_, _, if_pos hb⟩
      · exact .inl (if_neg hb)
    · by_cases hb : b = a
      · have z' := (if_pos hb).symm.trans z
        cases z'
        subst hb
        exact ⟨hobj, by rw [List.length_map]; exact hl, vs, _, rv, hobj⟩
      · have z' := (if_neg hb).symm.trans z
        cases z'
    · by_cases hb : b = a
      · exact hb
      · exact absurd (if_neg hb) z
/-- a def as the top leaves it -/
theorem def_mk {K : PySem.W.Frag} {h : Heap} {mg : Str → Option Value} {x : Str} {st : Stmt} {f : Addr} {oc kV doc pm cdv ct : Value} {od an : Option Addr} {osl : Array (Option Value)} (X : K.In h) (G : h.Ns mainGlobals mg)
    (a1 : PySem.W.nsIn K mainGlobals x = some (some (.ref f))) (l1 : K.lookup f = some ⟨oc, od, .func (PySem.W.fnOf x x (defArgs st) (defBody st) (defScope st) .none kV doc pm an cdv ct), osl⟩) (c1 : PySem.W.codeIn K cdv x = true) (k1 : PySem.W.keepIn K (.ref f) = true) : Def K mg x st :=
  ⟨⟨f, _, fun_mk l1 c1 k1, PySem.W.mg_of X G a1⟩⟩

/-! ### the law's body: the deal is drawn, then the rest -/
abbrev noX : En → Addr → PyData → Prop := fun _ _ _ => False
def G0 (g : GInv) (H : Hp) : Ga := ⟨⟨none, g⟩, fun _ => False, H, noX, fun _ => True⟩
theorem only0 : ∀ (K : PySem.W.Frag) (H : Hp), Only H → (gi0 K).I (fun _ => False) H := fun _ H h => ⟨fun a C dx fs e => by
  rcases h a with z | ⟨_, _, z⟩ <;> (rw [z] at e; cases e), fun p hp => absurd hp (by simp), fun a ps e => by
  rcases h a with z | ⟨_, _, z⟩ <;> (rw [z] at e; cases e)⟩
/-- from what holds while the deal is drawn to what holds then -/
def Conv (gs gg : GInv) : Prop := ∀ (H : Hp) (p q : Addr) (xs ys : List V), H p = some (.lst xs) → H q = some (.lst ys) → gs.I (fun _ => False) H → gg.I (fun c => c = p ∨ c = q) H
theorem conv0 {K : PySem.W.Frag} : Conv (gi0 K) (gi0 K) := fun _ _ _ _ _ _ _ h => h
def lRest (gg : GInv) (X : Cx) (wr : Ga → WS) : TS := fun D σ H => ∃ (G : Ga) (F : Hp) (B : Addr → Prop) (ρ : En) (E : DEnds), G.dl.gi = gg ∧ G.K = X.K ∧ G.xd = noX ∧ (∀ F, G.fx F) ∧ Go G F B H σ ρ ∧ wr G E ρ ∧ Fit G F E D
theorem xw_no {gg : GInv} {X : Cx} {G : Ga} (hg : G.dl.gi = gg) (hk : X.K = G.K) (hx : G.xd = noX) : Xw gg G X := ⟨⟨fun _ _ _ _ => False, takes0, fun _ _ _ _ ρ _ C d z => by rw [hx] at z; exact z.elim⟩, hk, hg⟩
theorem law_rest {gg : GInv} {X : Cx} {rest : List Stmt} {wr : Ga → WS} (h : ∀ G : Ga, G.dl.gi = gg → G.K = X.K → G.xd = noX → (∀ F, G.fx F) → Xw gg G X → DSs G X rest (wr G)) : PSs X rest (lRest gg X wr) :=
  ⟨fun pins s σ H D I ⟨G, F, B, ρ, E, hg, hk, hx, hf, g, q, f⟩ => (h G hg hk hx hf (xw_no hg hk.symm hx)).pss.run pins s σ H D I ⟨F, B, ρ, E, g, q, f⟩⟩
/-- what the drawn deal must be, and what follows -/
def dDeal (i : Nat) (w : WE) (wr : Ga → WS) : En → Prop := fun ρ => i < ρ.length ∧ w ρ fun d => ∃ (cs : List Int) (b : Int), d = .list [.list (cs.map .int), .int b] ∧ cs.length ≤ 63 ∧ (∀ c ∈ cs, 0 ≤ c) ∧ 0 ≤ b ∧ b < 2147483647 ∧ ∀ G : Ga, G.xd = noX → wr G { nx := fun _ => False, rt := fun d => d = .bool true } (ρ.set i (some .dl))
theorem law_go {gs gg : GInv} {X : Cx} {i : Nat} {w : WE} {wr : Ga → WS} {N : List Str} {a : Addr} {ns : List Int} {H : Hp} {Q : VK} (hgs : gs.K = X.K) (hgg : gg.K = X.K) (cv : Conv gs gg) (hI : gs.I (fun _ => False) H) (mw : Mo w) (hS : ScrAt X.K H a ns) (hQ : ∀ H', Q (.bl true) H') (q : dDeal i w wr (start' N [.scr ns])) (hi : 0 < i) :
    lf (G0 gs H) w (L2.start N [.ref a]) H fun v H' => lRest gg X wr { nx := fun _ H' => Q .non H', rt := Q } ((L2.start N [.ref a]).set i (some v)) H' := by
  have g0 : Go (G0 gs H) H (fun _ => False) H (L2.start N [.ref a]) (start' N [.scr ns]) := go_start (G := G0 gs H) rfl (fun _ z => (show False from z).elim) (fun _ z => z.elim) ⟨trivial, hI⟩ trivial (.cons (.scr (by show ScrAt gs.K H a ns; rw [hgs]; exact hS)) .nil)
  refine ⟨H, _, _, g0, mw _ _ _ (fun d ⟨cs, b, e, c1, c2, b0, b1, qr⟩ v H' k o r => ?_) q.2⟩
  subst e
  cases r with
  | @lst p xs _ np hp l =>
    cases l with
    | cons r1 l =>
      cases l with
      | cons r2 l =>
        cases l
        cases r2
        cases r1 with
        | @lst q ys _ nq hq lq =>
          cases RpL.ints_inv lq
          have hne : p ≠ q := fun z => by
            rw [z, hq] at hp
            have e := congrArg (fun o => match o with | some (HO.lst (x :: _)) => x | _ => V.non) hp
            cases cs with
            | nil => injection hp with hp; injection hp with hp; cases hp
            | cons c cs => injection hp with hp; injection hp with hp; cases hp
          have dk : DealOk ⟨some (p, q), gg⟩ (fun c => c = p ∨ c = q) H' := ⟨⟨hne, cs, b, hp, hq, c1, c2, b0, b1⟩, cv H' p q _ _ hp hq o.i⟩
          refine ⟨⟨⟨some (p, q), gg⟩, fun c => c = p ∨ c = q, H', noX, fun _ => True⟩, H', fun c => c = p ∨ c = q, _, _, rfl, hgg, rfl, fun _ => trivial, ⟨trivial, fun _ z => z, fun _ z => z, fun c z => ?_, .refl, fun c z n => absurd z n, .refl, dk, ?_⟩, qr _ rfl, ?_⟩
          · rcases z with rfl | rfl
            · rw [hp]; simp
            · rw [hq]; simp
          · have g1 := g0.step k o
            refine ⟨by rw [List.length_set, List.length_set]; exact g1.re.len, fun j sv hj => ?_, fun j m dj dk a h1 _ _ _ => ?_⟩
            · rcases get_set hj with ⟨rfl, e⟩ | ⟨n, hj'⟩
              · cases e
                have hl : j < (L2.start N [.ref a]).length := by rw [g1.re.len]; exact q.1
                exact ⟨_, by rw [List.getElem?_set_self hl], .dl rfl⟩
              · obtain ⟨x, e1, e2⟩ := g1.re.at_ j _ hj'
                refine ⟨x, by rw [List.getElem?_set_ne (Ne.symm n)]; exact e1, ?_⟩
                have es := start_get hj'
                have ej : j = 0 ∧ sv = .scr ns := by
                  cases j with
                  | zero => exact ⟨rfl, by simpa using es.symm⟩
                  | succ j => simp at es
                rw [ej.2] at e2 ⊢
                cases e2 with
                | scr s => exact .scr (by show ScrAt gg.K _ _ _; rw [hgg, ← hgs]; exact s)
            · rcases get_set h1 with ⟨rfl, e⟩ | ⟨n, hj'⟩
              · cases e
              · have es := start_get hj'
                cases j with
                | zero => simp at es
                | succ j => simp at es
          · refine ⟨fun _ _ _ _ z => z.elim, fun d v H2 z _ _ r2 => ?_, fun _ _ _ _ z => z.elim, fun _ _ _ _ z => z.elim⟩
            subst z
            cases r2
            exact hQ H2

theorem law_all {gs gg : GInv} {X : Cx} (hgs : gs.K = X.K) (hgg : gg.K = X.K) (cv : Conv gs gg) {i : Nat} {x : Str} {e : Expr} {w : WE} {wr : Ga → WS} {rest : List Stmt} {pos pos' : Pos} {a : Addr} {ns : List Int} {H : Hp} {Q : VK} (hN : X.N.Nodup) (hi : X.N[i]? = some x) (hx : Loc X.env.scope x) (hf : X.fn x = true ∨ X.env.scope.names.lookup x = some .local) (hs : swapsWith e (some (.Name x pos')) pos.line X.env = pure false)
    (hS : ScrAt X.K H a ns) (hI : gs.I (fun _ => False) H) (hQ : ∀ H', Q (.bl true) H') (h0 : 0 < i) (he : DE (G0 gs H) X e w) (hr : ∀ G : Ga, G.dl.gi = gg → G.K = X.K → G.xd = noX → (∀ F, G.fx F) → Xw gg G X → DSs G X rest (wr G)) (q : dDeal i w wr (start' X.N [.scr ns])) :
    ∃ t, PSs X (.Assign [.Name x pos'] e pos :: rest) t ∧ t { nx := fun _ H' => Q .non H', rt := Q } (L2.start X.N [.ref a]) H :=
  ⟨_, pss_cons (ps_set hN hi hx he.pe hs hf) (law_rest hr), law_go hgs hgg cv hI he.mo hS hQ q h0⟩
end Dl
/-! Lengths of texts of ints' lists. -/
namespace Dl
open PySem PySem.Spec PyProof.Rows L2
theorem tf_len {L : Nat} : ∀ (ts : List Str) (k : Nat) (acc : Str), (∀ t ∈ ts, t.length ≤ L) → (textFrom k acc ts).length ≤ acc.length + ts.length * (L + 2)
  | [], k, acc, _ => by show acc.length ≤ _; omega
  | t :: r, k, acc, h => by
    have ih := tf_len r (k + 1) (acc ++ (if k > 0 then ", " else "" : String) ++ t) fun u hu => h u (List.mem_cons_of_mem _ hu)
    have ht := h t List.mem_cons_self
    have e : (acc ++ ((if k > 0 then ", " else "" : String) : Str) ++ t).length ≤ acc.length + 2 + t.length := by
      rw [Str.length_append, Str.length_append]
      split
      · show acc.length + 2 + t.length ≤ _; omega
      · show acc.length + 0 + t.length ≤ _; omega
    rw [List.length_cons, Nat.succ_mul]
    show (textFrom (k + 1) (acc ++ (if k > 0 then ", " else "" : String) ++ t) r).length ≤ _
    omega
theorem piled_le {L : Nat} : ∀ ts : List Str, (∀ t ∈ ts, t.length ≤ L) → piled ts ≤ ts.length * (L + 2)
  | [], _ => by simp [piled]
  | t :: r, h => by
    have ih := piled_le r fun u hu => h u (List.mem_cons_of_mem _ hu)
    have ht := h t List.mem_cons_self
    rw [List.length_cons, Nat.succ_mul]
    simp only [piled, List.map_cons, List.sum_cons] at ih ⊢
    omega

theorem shownAll_ints {ns : List Int} (h : ∀ n ∈ ns, n.natAbs.log2 < 1920) : (∀ t ∈ PyData.shownAll (ns.map PyData.int), t.length ≤ 1921) ∧ (PyData.shownAll (ns.map PyData.int)).length = ns.length := by
  induction ns with
  | nil => simp [PyData.shownAll]
  | cons n ns ih =>
    obtain ⟨h1, h2⟩ := ih fun m hm => h m (List.mem_cons_of_mem _ hm)
    refine ⟨fun t ht => ?_, by simp only [List.map_cons, PyData.shownAll, List.length_cons, h2]⟩
    simp only [List.map_cons, PyData.shownAll] at ht
    rcases List.mem_cons.mp ht with rfl | ht
    · have := PyProof.Rows.int_text_len_1921 (h n List.mem_cons_self)
      simp only [PyData.shown]
      exact this
    · exact h1 t ht
theorem show_ints {ns : List Int} (h : ∀ n ∈ ns, n.natAbs.log2 < 1920) : PyData.showableAll (ns.map PyData.int) = true := show_all fun d hd => by
  obtain ⟨i, hi, rfl⟩ := List.mem_map.mp hd
  exact show_int (h i hi)
theorem nodict_ints (ns : List Int) : PyData.hasDictAll (ns.map PyData.int) = false := PyData.hasDictAll_of_canLayAll _ (Sh.ints (n := 0) ns).1
/-- what repr asks of a list or a tuple of ints -/
theorem repr_ints {d : PyData} {ns : List Int} (e : d = .list (ns.map .int) ∨ d = .tuple (ns.map .int)) (hl : ns.length ≤ 4096) (h : ∀ n ∈ ns, n.natAbs.log2 < 1920) :
    d.showable = true ∧ d.hasDict = false ∧ d.depth ≤ 100 ∧ d.shown.length ≤ sizeLine := by
  have sl : sizeLine = 16777216 := sizeLine_eq
  obtain ⟨h1, h2⟩ := shownAll_ints h
  have hd : PyData.depthAll (ns.map PyData.int) ≤ 0 := (Sh.ints (n := 0) ns).2
  rcases e with rfl | rfl
  · refine ⟨by simp only [PyData.showable]; exact show_ints h, by simp only [PyData.hasDict]; exact nodict_ints ns, by simp only [PyData.depth]; omega, ?_⟩
    simp only [PyData.shown]
    have := tf_len _ 0 "[" h1
    unfold listText
    rw [Str.length_append]
    rw [h2] at this
    have e1 : ("[" : Str).length = 1 := by rfl
    have e2 : ("]" : Str).length = 1 := by rfl
    omega
  · refine ⟨by simp only [PyData.showable]; exact show_ints h, by simp only [PyData.hasDict]; exact nodict_ints ns, by simp only [PyData.depth]; omega, ?_⟩
    simp only [PyData.shown]
    have hp := piled_le _ h1
    rw [h2] at hp
    unfold tupleText
    rw [Str.length_append, Str.length_append]
    have e1 : ("(" : Str).length = 1 := by rfl
    have ej : (Str.join ", " (PyData.shownAll (ns.map PyData.int))).length ≤ ns.length * 1923 := by
      by_cases hn : PyData.shownAll (ns.map PyData.int) = []
      · rw [hn]; show (0 : Nat) ≤ _; omega
      · have := join_length_add _ hn
        omega
    have e3 : ((if (PyData.shownAll (ns.map PyData.int)).length == 1 then ",)" else ")" : String) : Str).length ≤ 2 := by
      split <;> decide
    omega
theorem repr_bool (b : Bool) : (PyData.bool b).showable = true ∧ (PyData.bool b).hasDict = false ∧ (PyData.bool b).depth ≤ 100 ∧ (PyData.bool b).shown.length ≤ sizeLine := by
  have sl : sizeLine = 16777216 := sizeLine_eq
  refine ⟨by simp [PyData.showable], by simp [PyData.hasDict], by simp [PyData.depth], ?_⟩
  rw [sl]
  cases b <;> (simp only [PyData.shown]; decide)
end Dl
namespace Dl
open PySem PySem.Spec PyProof.Rows L2
theorem ok_app2 {a b : Str} (ha : PyData.strOk a = true) (hb : PyData.strOk b = true) : PyData.strOk (a ++ b) = true := by
  unfold PyData.strOk at *
  rw [Str.cps_append, Array.all_append, ha, hb]; rfl
theorem ok_mem {x : Str} (h : ∀ c ∈ x.cps.toList, c < 0x110000) : PyData.strOk x = true := by
  unfold PyData.strOk
  rw [← Array.all_toList, List.all_eq_true]
  exact fun c hc => decide_eq_true (h c hc)
theorem ok_int (i : Int) : PyData.strOk (Str.ofString (toString i)) = true := ok_mem fun c hc => by
  cases Nat.lt_or_ge c 0x110000 with
  | inl h => exact h
  | inr h => exact absurd hc (PyProof.Rows.int_text_free' c ⟨by omega, by omega⟩ i)
theorem ok_tf : ∀ (ts : List Str) (k : Nat) (acc : Str), PyData.strOk acc = true → (∀ t ∈ ts, PyData.strOk t = true) → PyData.strOk (textFrom k acc ts) = true
  | [], _, _, h, _ => h
  | t :: r, k, acc, h, ht => ok_tf r (k + 1) _ (ok_app2 (ok_app2 h (by split <;> decide +kernel)) (ht t List.mem_cons_self)) fun u hu => ht u (List.mem_cons_of_mem _ hu)
theorem ok_join : ∀ (ts : List Str), (∀ t ∈ ts, PyData.strOk t = true) → PyData.strOk (Str.join ", " ts) = true
  | [], _ => by decide +kernel
  | [x], h => h x List.mem_cons_self
  | x :: y :: r, h => ok_app2 (ok_app2 (h x List.mem_cons_self) (by decide +kernel)) (ok_join (y :: r) fun u hu => h u (List.mem_cons_of_mem _ hu))
theorem ok_all (ns : List Int) : ∀ t ∈ PyData.shownAll (ns.map PyData.int), PyData.strOk t = true := by
  induction ns with
  | nil => simp [PyData.shownAll]
  | cons n ns ih =>
    intro t ht
    simp only [List.map_cons, PyData.shownAll, PyData.shown] at ht
    rcases List.mem_cons.mp ht with rfl | ht
    · exact ok_int n
    · exact ih t ht
theorem shaped_shown {d : PyData} {ns : List Int} (e : d = .list (ns.map .int) ∨ d = .tuple (ns.map .int)) : SeqAt.shaped (.str d.shown) = true := by
  refine (Sh.str (n := 0) ?_).ok
  rcases e with rfl | rfl
  · simp only [PyData.shown]
    exact ok_app2 (ok_tf _ _ _ (by decide +kernel) (ok_all ns)) (by decide +kernel)
  · simp only [PyData.shown]
    exact ok_app2 (ok_app2 (by decide +kernel) (ok_join _ (ok_all ns))) (by split <;> decide +kernel)
theorem shaped_bool_shown (b : Bool) : SeqAt.shaped (.str (PyData.bool b).shown) = true := by
  refine (Sh.str (n := 0) ?_).ok
  cases b <;> (simp only [PyData.shown]; decide +kernel)
end Dl
/-! The facts of an error class, as the top leaves them. -/
namespace Dl
open PySem PySem.Spec PyProof.Rows L2
theorem exm_own {K : PySem.W.Frag} {C : Addr} (h1 : PySem.W.subIn K (.ref C) (.type "BaseException") = some true) (h2 : PySem.W.isClsIn K C = true) (h3 : PySem.W.typeIn K (.ref C) = some (.type "type")) (h4 : PySem.W.subIn K (.ref C) (.ref C) = some true) : PySem.W.exmOne K (.ref C) (.ref C) = some true := by
  have e1 : (PySem.W.subIn K (.ref C) (.type "BaseException") == some true) = true := by rw [h1] <;> rfl
  have e2 : ((PySem.W.clsIn K C).isSome && PySem.W.typeIn K (.ref C) == some (.type "type")) = true := by
    have h2' : (PySem.W.clsIn K C).isSome = true := h2
    rw [h2', h3] <;> rfl
  show (if (PySem.W.subIn K (.ref C) (.type "BaseException") == some true) = true then (if ((PySem.W.clsIn K C).isSome && PySem.W.typeIn K (.ref C) == some (.type "type")) = true then PySem.W.subIn K (.ref C) (.ref C) else none) else none) = some true
  rw [if_pos e1, if_pos e2]
  exact h4
/-- what Fun asks of a law's def -/
theorem law_mk {P : Program} {w : World} {K : PySem.W.Frag} {mg : Str → Option Value} {fa : Addr} {st : Stmt} {k n : Nat} {J : Hp → Prop} (D : Def K mg "law" st) (hfa : mg "law" = some (.ref fa))
    (hb : ∀ (kV doc pm : Value) (an : Option Addr) (cdv ct u : Value), (bindArgs (PySem.W.fnOf "law" "law" (defArgs st) (defBody st) (defScope st) .none kV doc pm an cdv ct) ⟨[u], []⟩ : Sem (List (Str × Value))) = pure [(("_law_script" : Str), u)])
    (hF : ∀ (base : Heap) (f : Addr) (fd : FuncData), Fun K "law" "law" st f fd → FnG P w K mg base k f fd ["_law_script"] (spLaw K J n)) :
    ∃ fd : FuncData, (∀ (s : Shared) (u : Value), BindsTo s fd ⟨[u], []⟩ [(("_law_script" : Str), u)]) ∧ ∀ base : Heap, K.In base → base.Ns mainGlobals mg → FnG P w K mg base k fa fd ["_law_script"] (spLaw K J n) := by
  obtain ⟨f, fd, F, hm⟩ := D.ex
  have e : f = fa := by
    have := hm.symm.trans hfa
    injection this with this
    injection this
  subst e
  refine ⟨fd, fun s u => ?_, fun base _ _ => hF base f fd F⟩
  obtain ⟨oc, od, kV, doc, pm, an, cdv, ct, osl, hfd, lk, hcd⟩ := id F.ex
  subst hfd
  exact BindsTo.of_eq (hb _ _ _ _ _ _ u)
end Dl
namespace Dl
open PySem PySem.Spec PyProof.Rows L2 PySem.W PySem.ErX PySem.HandSPX
theorem err_mk {prog : Program} {K : PySem.W.Frag} {h : Heap} {mg : Str → Option Value} {nm msg : Str} {C fI cda cc : Addr} (X : K.In h) (G : h.Ns mainGlobals mg)
    {nm' q : Str} {N : Addr} {bs bm : List Value} {sn : List Str} {sub : List Value} {ab : Bool} {col : Option Bool} {dd : Option Addr} {m0 m1 m2 m3 m5 : Option Value}
    {od an : Option Addr} {sl : Array (Option Value)} {oc dc pm ct : Value} {j : Nat} {p1 p2 a1 a2 a3 a4 a5 a6 q1 q2 q3 q4 : Pos} {qual file : Str} {tf : Tok} {ccl : Value} {cdd : Option Addr} {vs : Array Value} {ccs : Array (Option Value)} {cl : Value} {cld : Option Addr} {csl : Array (Option Value)}
    (aC : nsIn K mainGlobals nm = some (some (.ref C)))
    (xL : K.lookup C = some (excClassObj nm' q C N bs bm true sn sub ab col dd m0 m1 m2 m3 m5 "ValueError.__new__")) (rv : refsVE bm = true)
    (sa : findIn K (.ref C) "__setattr__" = some (some (.builtin "object.__setattr__"))) (ga : findIn K (.ref C) "__getattribute__" = some (some (.builtin "BaseException.__getattribute__"))) (gg : findIn K (.ref C) "__getattr__" = some none) (nb : findIn K (.ref C) "at" = some none)
    (i1 : findIn K (.ref C) "__init__" = some (some (.ref fI))) (t1 : typeIn K (.ref fI) = some (.type "function"))
    (l1 : K.lookup fI = some ⟨oc, od, .func (ksFn "__init__" qual (iA p1 p2) (iB msg j a1 a2 a3 a4 a5 a6 q1 q2 q3 q4) iS .none .none dc pm an (.ref cda) ct cc), sl⟩) (c1 : codeIn K (.ref cda) qual = true)
    (cd : K.lookup cda = some ⟨ccl, cdd, .fields vs, ccs⟩) (v2 : vs[2]? = some (.str file tf)) (fe : ((prog.main.file : Str) == file) = true) (ce : K.lookup cc = some ⟨cl, cld, .cell (some (.ref C)), csl⟩)
    (ev : ∃ pl : Env → Sem Bool, ∀ env : Env, eval (.Call (.Attribute (.Call (.Name "super" a1) [] [] a2) "__init__" a3) [.Constant (.str msg) j a4] [] a5) env = (do
      let ov ← attributeBase (.Call (.Name "super" a1) [] [] a2) "__init__" env (eval (.Call (.Name "super" a1) [] [] a2) env)
      standAt a3.atName
      let (f, first) ← holding [ov] (getMethod ov "__init__" (pl env))
      callWith a5 f first (backTo a5 (starEach [.Constant (.str msg) j a4] env)) []))
    (kC : keepIn K (.ref C) = true) (eC : subIn K (.ref C) (.type "BaseException") = some true) (tC : typeIn K (.ref C) = some (.type "type")) (hC : hasDictIn K C = true) (iC : isClsIn K C = true) (sC : subIn K (.ref C) (.ref C) = some true)
    (mr : mroIn K C (.ref C) = some true) (su : ks_superIn K C C "__init__" = some (some (.builtin "ValueError.__init__"))) (sb : subIn K (.ref C) (.type "ValueError") = some true) (sp : nsIn K mainGlobals "super" = some none) (anyh : nsIn K cStatics "thirdparty.any" = some none)
    (tp : (prog.main.scope.names.lookup ("super" : Str)).isSome = false) : ErrTxt prog K mg nm msg C fI :=
  { gC := mg_of X G aC, cls := ⟨_, _, _, _, _, _, _, _, _, _, _, _, _, _, _, xL, rv⟩, sa := sa, ga := ga, gg := gg, noN := nb, iC := i1, tC := t1, kC := kC, exC := eC, tyC := tC, hdC := hC, te := exm_own eC iC tC sC,
    fn := ⟨_, _, _, _, _, _, _, _, _, _, _, _, _, _, _, _, _, _, _, _, _, _, _, l1, c1, ⟨_, _, _, _, _, _, cd, v2, fe⟩, ⟨_, _, _, ce⟩, ev⟩, mroC := mr, supI := su, subB := sb, sup := sp, any := anyh, htop := tp }
end Dl
/-! Mathematics: divisors, products, inverses, rests. -/
namespace Dl
open PySem PySem.Spec PyProof.Rows L2
def isI : PyData → Bool
  | .int _ => true
  | _ => false
def isQ : PyData → Bool
  | .list _ => true
  | .tuple _ => true
  | _ => false
theorem gcd_step (x y : Int) : Int.gcd y (x % y) = Int.gcd x y := by
  rw [Int.emod_def, Int.gcd_sub_mul_left_right, Int.gcd_comm]
def badC : PyData → Bool
  | .list ds => ds.any fun x => !isI x
  | .tuple ds => ds.any fun x => !isI x
  | _ => true
def smallC : PyData → Prop
  | .list ds => ds.length ≤ 4096
  | .tuple ds => ds.length ≤ 4096
  | _ => True
theorem cases_c (d : PyData) : (∃ ds, (d = .list ds ∨ d = .tuple ds) ∧ isQ d = true) ∨ (isQ d = false ∧ badC d = true) := by
  cases d with
  | list ds => exact .inl ⟨ds, .inl rfl, rfl⟩
  | tuple ds => exact .inl ⟨ds, .inr rfl, rfl⟩
  | _ => exact .inr ⟨rfl, rfl⟩
theorem all_ints : ∀ {ds : List PyData}, (∀ x ∈ ds, isI x = true) → ∃ ns : List Int, ds = ns.map .int
  | [], _ => ⟨[], rfl⟩
  | x :: ds, h => by
    obtain ⟨ns, e⟩ := all_ints (ds := ds) fun y hy => h y (List.mem_cons_of_mem _ hy)
    have hx := h x List.mem_cons_self
    cases x with
    | int i => exact ⟨i :: ns, by rw [e]; rfl⟩
    | _ => cases hx
theorem not_all {ds : List PyData} (h : (ds.map isI).all id = false) : (ds.any fun x => !isI x) = true := by
  rw [← Bool.not_eq_false]
  intro e
  have : (ds.map isI).all id = true := by
    simp only [List.any_eq_false, Bool.not_eq_true', Bool.not_eq_false] at e
    simpa using e
  rw [this] at h
  cases h
def gI (a b : Int) : Int := ((Int.gcd a b : Nat) : Int)
def ab (x : Int) : Int := if x < 0 then -x else x
def keepP (x : Int) : Bool := x == 0 || decide (2 < x)
def stepP (l : List Int) (c : Int) : List Int := srt ((l.flatMap fun a => [gI a (ab c), gI a (ab (c - 1))]).filter keepP)
def partsOf (ns : List Int) : List Int := ns.foldl stepP [0]
def lotD (l : List Int) : PyData := if (0 : Int) ∈ l then .none else .tuple (l.map .int)
theorem srt_length (l : List Int) : (srt l).length = l.length := (srt_perm l).length_eq
theorem mem_srt {l : List Int} {x : Int} : x ∈ srt l ↔ x ∈ l := (srt_perm l).mem_iff
theorem parts_snoc (ns : List Int) (c : Int) : partsOf (ns ++ [c]) = stepP (partsOf ns) c := by unfold partsOf; rw [List.foldl_append]; rfl
theorem parts_take {ns : List Int} {i : Nat} (h : i < ns.length) : partsOf (ns.take (i + 1)) = stepP (partsOf (ns.take i)) ns[i] := by
  rw [List.take_succ, List.getElem?_eq_getElem h]; exact parts_snoc _ _
theorem two_len (l : List Int) (c : Int) : (l.flatMap fun a => [gI a (ab c), gI a (ab (c - 1))]).length = 2 * l.length := by
  induction l with
  | nil => rfl
  | cons x l ih => rw [List.flatMap_cons, List.length_append, ih]; simp; omega
theorem step_len (l : List Int) (c : Int) : (stepP l c).length ≤ 2 * l.length := by
  unfold stepP
  rw [srt_length, ← two_len l c]
  exact List.length_filter_le _ _
theorem foldl_len : ∀ (ns l : List Int), (ns.foldl stepP l).length ≤ 2 ^ ns.length * l.length
  | [], l => by simp
  | c :: ns, l => by
    have h := foldl_len ns (stepP l c)
    have h2 := step_len l c
    rw [List.foldl_cons, List.length_cons, Nat.pow_succ]
    refine Nat.le_trans h ?_
    rw [Nat.mul_assoc]
    exact Nat.mul_le_mul_left _ h2
theorem parts_len (ns : List Int) : (partsOf ns).length ≤ 2 ^ ns.length := by have := foldl_len ns [0]; simpa [partsOf] using this
theorem step_mem {l : List Int} {c x : Int} (h : x ∈ stepP l c) : (∃ a ∈ l, x = gI a (ab c) ∨ x = gI a (ab (c - 1))) ∧ (x = 0 ∨ 2 < x) := by
  unfold stepP at h
  rw [mem_srt, List.mem_filter, List.mem_flatMap] at h
  obtain ⟨⟨a, ha, hx⟩, hk⟩ := h
  refine ⟨⟨a, ha, by simpa using hx⟩, by simpa [keepP] using hk⟩
theorem step_nn {l : List Int} {c : Int} (_ : ∀ x ∈ l, 0 ≤ x) : ∀ x ∈ stepP l c, 0 ≤ x := fun x hx => by
  obtain ⟨⟨a, _, e⟩, _⟩ := step_mem hx
  rcases e with rfl | rfl <;> (unfold gI; omega)
theorem foldl_nn : ∀ (ns l : List Int), (∀ x ∈ l, 0 ≤ x) → ∀ x ∈ ns.foldl stepP l, 0 ≤ x
  | [], _, h => h
  | _ :: ns, _, h => foldl_nn ns _ (step_nn h)
theorem parts_nn (ns : List Int) : ∀ x ∈ partsOf ns, 0 ≤ x := foldl_nn ns [0] (by simp)
theorem any_zero (l : List Int) : ((l.map PyData.int).any fun z => z.eqv (.int 0)) = decide ((0 : Int) ∈ l) := by
  rw [Bool.eq_iff_iff]
  simp [eqv_int]
theorem ints_map_inj : ∀ {a b : List Int}, a.map PyData.int = b.map PyData.int → a = b
  | [], [], _ => rfl
  | [], _ :: _, h => by simp at h
  | _ :: _, [], h => by simp at h
  | x :: a, y :: b, h => by
    simp only [List.map_cons, List.cons.injEq, PySem.PyData.int.injEq] at h
    rw [h.1, ints_map_inj h.2]
theorem ints_inj {d : PyData} {a b : List Int} (h : d = .list (a.map .int) ∨ d = .tuple (a.map .int)) (g : d = .list (b.map .int) ∨ d = .tuple (b.map .int)) : a = b := by
  rcases h with rfl | rfl <;> rcases g with g | g
  · exact ints_map_inj (PyData.list.inj g)
  · cases g
  · cases g
  · exact ints_map_inj (PyData.tuple.inj g)
theorem small_of {d : PyData} {a : List Int} (h : d = .list (a.map .int) ∨ d = .tuple (a.map .int)) (hl : a.length ≤ 12) : smallC d := by
  rcases h with rfl | rfl <;> (show (a.map PyData.int).length ≤ 4096; rw [List.length_map]; omega)
theorem not_bad {d : PyData} {a : List Int} (h : d = .list (a.map .int) ∨ d = .tuple (a.map .int)) : badC d = false := by
  rcases h with rfl | rfl <;> simp [badC, isI]
theorem gcd_succ (c : Int) : Int.gcd (ab c) (ab (c - 1)) = 1 := by
  have h : ∀ x : Int, Int.gcd (ab x) = Int.gcd x := fun x => by funext y; unfold ab; split <;> simp [Int.gcd]
  have h2 : ∀ x y : Int, Int.gcd y (ab x) = Int.gcd y x := fun x y => by rw [Int.gcd_comm, h, Int.gcd_comm]
  rw [h, h2]
  have d1 : ((Int.gcd c (c - 1) : Nat) : Int) ∣ c := Int.gcd_dvd_left ..
  have d2 : ((Int.gcd c (c - 1) : Nat) : Int) ∣ c - 1 := Int.gcd_dvd_right ..
  have d3 : ((Int.gcd c (c - 1) : Nat) : Int) ∣ 1 := by
    have := Int.dvd_sub d1 d2
    rwa [show c - (c - 1) = 1 by omega] at this
  have := Int.eq_one_of_dvd_one (by omega) d3
  omega
def copr (a b : Int) : Prop := Int.gcd a b = 1
theorem copr_symm {a b : Int} (h : copr a b) : copr b a := by unfold copr at *; rw [Int.gcd_comm]; exact h
theorem copr_dvd {a b x y : Int} (hx : x ∣ a) (hy : y ∣ b) (h : copr a b) : copr x y := by
  unfold copr at *
  have d1 : ((Int.gcd x y : Nat) : Int) ∣ a := Int.dvd_trans (Int.gcd_dvd_left ..) hx
  have d2 : ((Int.gcd x y : Nat) : Int) ∣ b := Int.dvd_trans (Int.gcd_dvd_right ..) hy
  have d3 := Int.dvd_coe_gcd d1 d2
  rw [h] at d3
  have := Int.eq_one_of_dvd_one (by omega) d3
  omega
theorem step_cop {l : List Int} {c : Int} (h : l.Pairwise copr) : (stepP l c).Pairwise copr := by
  unfold stepP
  rw [(srt_perm _).pairwise_iff copr_symm]
  refine List.Pairwise.filter _ ?_
  rw [List.pairwise_flatMap]
  refine ⟨fun a _ => ?_, h.imp fun {a b} hab x hx y hy => ?_⟩
  · rw [List.pairwise_cons]
    refine ⟨fun y hy => ?_, by simp⟩
    rw [List.mem_singleton.mp hy]
    exact copr_dvd (Int.gcd_dvd_right ..) (Int.gcd_dvd_right ..) (gcd_succ c)
  · have hx' : x ∣ a := by
      have : x = gI a (ab c) ∨ x = gI a (ab (c - 1)) := by simpa using hx
      rcases this with rfl | rfl <;> exact Int.gcd_dvd_left ..
    have hy' : y ∣ b := by
      have : y = gI b (ab c) ∨ y = gI b (ab (c - 1)) := by simpa using hy
      rcases this with rfl | rfl <;> exact Int.gcd_dvd_left ..
    exact copr_dvd hx' hy' hab
theorem foldl_cop : ∀ (ns l : List Int), l.Pairwise copr → (ns.foldl stepP l).Pairwise copr
  | [], _, h => h
  | _ :: ns, _, h => foldl_cop ns _ (step_cop h)
theorem parts_cop (ns : List Int) : (partsOf ns).Pairwise copr := foldl_cop ns [0] (by simp)
theorem parts_sorted (ns : List Int) : (partsOf ns).Pairwise (· ≤ ·) := by
  rcases List.eq_nil_or_concat ns with rfl | ⟨l, x, rfl⟩
  · simp [partsOf]
  · rw [List.concat_eq_append, parts_snoc]; exact srt_sorted _
theorem parts_big {ns : List Int} (h : (0 : Int) ∉ partsOf ns) : ∀ q ∈ partsOf ns, 2 < q := by
  rcases List.eq_nil_or_concat ns with rfl | ⟨l, x, rfl⟩
  · simp [partsOf] at h
  · rw [List.concat_eq_append, parts_snoc] at h ⊢
    intro q hq
    rcases (step_mem hq).2 with rfl | e
    · exact absurd hq h
    · exact e
theorem parts_lot {ns : List Int} (h : (0 : Int) ∉ partsOf ns) (hl : ns.length ≤ 12) : (∀ q ∈ partsOf ns, 2 < q) ∧ (partsOf ns).Pairwise (· ≤ ·) ∧ ((partsOf ns).Pairwise fun a b => Int.gcd a b = 1) ∧ (partsOf ns).length ≤ 4096 :=
  ⟨parts_big h, parts_sorted ns, parts_cop ns, Nat.le_trans (parts_len ns) (show 2 ^ ns.length ≤ 2 ^ 12 from Nat.pow_le_pow_right (by decide) hl)⟩
def folB (ns : List Int) (n : Int) : Bool := if (0 : Int) ∈ partsOf ns then decide (n ∈ [(0 : Int), 1]) else (partsOf ns).all fun q => decide (n % q < 2)
def lotFor (ns : List Int) (n : Int) : List Int := if (0 : Int) ∈ partsOf ns then (if n ∈ [(0 : Int), 1] then [] else [if 1 < n then n + 1 else 2 - n]) else partsOf ns
def headD : List Int → PyData
  | [] => .none
  | q :: _ => .int q
def doubtD (ns : List Int) (n : Int) : PyData := headD ((lotFor ns n).filter fun q => decide (1 < n % q))
def isDoubtB (ns : List Int) (n : Int) : PyData → Bool
  | .int x => decide (3 ≤ x) && ((ns.all fun c => decide (c % x < 2)) && decide (1 < n % x))
  | _ => false
theorem doubt_end {F : List Int} {Q : PyData → Prop} (hQ : Q (headD F)) {R : Prop} : (∃ es, (PyData.list (F.map .int) = PyData.list es ∨ PyData.list (F.map .int) = PyData.tuple es) ∧
    if decide (0 < (es.length : Int)) = true then ∃ ds, (PyData.list (F.map .int) = PyData.list ds ∨ PyData.list (F.map .int) = PyData.tuple ds) ∧ ∃ x, atI ds 0 = some x ∧ Q x else Q PyData.none) ∨ R := by
  cases F with
  | nil => exact .inl ⟨[], .inl rfl, hQ⟩
  | cons q F =>
    refine .inl ⟨_, .inl rfl, ?_⟩
    rw [if_pos (by simp)]
    exact ⟨_, .inl rfl, _, atI_zero _ _, hQ⟩
theorem if_push {R : Option PyData → Prop} {q : Bool} {x : PyData} (h : R (if q = true then some x else none)) : if q = true then R (some x) else R none := by cases q <;> exact h
theorem log_small {x : Int} (h : x.natAbs < 2 ^ 64) : x.natAbs.log2 < 9000 := Nat.lt_trans (log_lt h (by decide)) (by decide)
theorem cmul_of {a b : Int} {n k : Nat} (ha : a.natAbs < 2 ^ n) (hb : b.natAbs < 2 ^ k) (hn : 0 < n := by decide) (hk : 0 < k := by decide) (hs : n + k < 1000000 := by decide) : CMulW a b := by
  have h1 := log_lt ha hn
  have h2 := log_lt hb hk
  show a.natAbs.log2 + b.natAbs.log2 < 1000000
  omega
theorem inv_step {c r o t u : Int} (c0 : 0 < c) (c1 : c < 2 ^ 1000) (hp : 0 < r) (ro : r < o) (oc : o ≤ c) (hb : (t.natAbs : Int) * o + (u.natAbs : Int) * r ≤ c) :
    CDivW o r ∧ CMulW (o / r) r ∧ CMulW (o / r) t ∧ ((u - o / r * t).natAbs : Int) * r + (t.natAbs : Int) * (o - o / r * r) ≤ c ∧ (0 ≤ o - o / r * r ∧ o - o / r * r < r) := by
  have hs0 : 0 ≤ o / r := Int.ediv_nonneg (by omega) (by omega)
  have hso : o / r ≤ o := Int.ediv_le_self _ (by omega)
  have hm := Int.emod_def o r
  have hm0 := Int.emod_nonneg o (show r ≠ 0 by omega)
  have hm1 := Int.emod_lt_of_pos o hp
  have hmul : o / r * r = r * (o / r) := Int.mul_comm _ _
  have ht : (t.natAbs : Int) ≤ c := by
    have h1 : (t.natAbs : Int) * 1 ≤ (t.natAbs : Int) * o := Int.mul_le_mul_of_nonneg_left (by omega) (by omega)
    have h2 : 0 ≤ (u.natAbs : Int) * r := Int.mul_nonneg (by omega) (by omega)
    omega
  refine ⟨⟨hp, Nat.lt_trans (log_lt (n := r.natAbs) (k := 1000) (by omega) (by decide)) (by decide)⟩, cmul_of (n := 1000) (k := 1000) (by omega) (by omega), cmul_of (n := 1000) (k := 1000) (by omega) (by omega), ?_, by omega, by omega⟩
  have h1 : ((u - o / r * t).natAbs : Int) ≤ u.natAbs + o / r * t.natAbs := by
    have := Int.natAbs_sub_le u (o / r * t)
    have e : ((o / r * t).natAbs : Int) = o / r * t.natAbs := by
      rw [Int.natAbs_mul, Int.natCast_mul]
      congr 1
      omega
    omega
  have h2 := Int.mul_le_mul_of_nonneg_right h1 (show 0 ≤ r by omega)
  generalize (t.natAbs : Int) = T at *
  generalize (u.natAbs : Int) = U at *
  generalize ((u - o / r * t).natAbs : Int) = V at *
  generalize o / r = s at *
  have e1 : (U + s * T) * r = U * r + T * (s * r) := by grind
  have e2 : T * (o - s * r) = T * o - T * (s * r) := by grind
  rw [e1] at h2
  rw [e2]
  omega
def prodI : List Int → Int
  | [] => 1
  | q :: l => q * prodI l
theorem prodI_snoc (l : List Int) (q : Int) : prodI (l ++ [q]) = prodI l * q := by
  induction l with
  | nil => simp [prodI]
  | cons x l ih => simp only [List.cons_append, prodI, ih, Int.mul_assoc]
theorem prodI_pos : ∀ {l : List Int}, (∀ q ∈ l, 0 < q) → 0 < prodI l
  | [], _ => by decide
  | x :: l, h => Int.mul_pos (h x List.mem_cons_self) (prodI_pos fun q hq => h q (List.mem_cons_of_mem _ hq))
def rawS (l : List Int) (c : Int) : List Int := l.flatMap fun a => [gI (ab c) a, gI (ab (c - 1)) a]
def rawOf (ns : List Int) : List Int := ns.foldl rawS [0]
theorem raw_take {ns : List Int} {i : Nat} (h : i < ns.length) : rawOf (ns.take (i + 1)) = rawS (rawOf (ns.take i)) ns[i] := by
  rw [List.take_succ, List.getElem?_eq_getElem h]; unfold rawOf; rw [List.foldl_append]; rfl
theorem rawS_take {l : List Int} {c : Int} {i : Nat} (h : i < l.length) : rawS (l.take (i + 1)) c = rawS (l.take i) c ++ [gI (ab c) l[i], gI (ab (c - 1)) l[i]] := by
  rw [List.take_succ, List.getElem?_eq_getElem h]; unfold rawS; rw [List.flatMap_append]; simp
theorem rawS_len (l : List Int) (c : Int) : (rawS l c).length = 2 * l.length := by
  unfold rawS
  induction l with
  | nil => rfl
  | cons x l ih => rw [List.flatMap_cons, List.length_append, ih]; simp; omega
theorem rawf_len : ∀ (ns l : List Int), (ns.foldl rawS l).length = 2 ^ ns.length * l.length
  | [], l => by simp
  | c :: ns, l => by rw [List.foldl_cons, rawf_len ns, rawS_len, List.length_cons, Nat.pow_succ, Nat.mul_assoc]
theorem raw_len (ns : List Int) : (rawOf ns).length = 2 ^ ns.length := by have := rawf_len ns [0]; simpa [rawOf] using this
theorem rawf_nn : ∀ (ns l : List Int), (∀ x ∈ l, 0 ≤ x) → ∀ x ∈ ns.foldl rawS l, 0 ≤ x
  | [], _, h => h
  | c :: ns, l, h => rawf_nn ns _ fun x hx => by
    unfold rawS at hx
    obtain ⟨a, _, hx⟩ := List.mem_flatMap.mp hx
    have : x = gI (ab c) a ∨ x = gI (ab (c - 1)) a := by simpa using hx
    rcases this with rfl | rfl <;> (unfold gI; omega)
theorem raw_nn (ns : List Int) : ∀ x ∈ rawOf ns, 0 ≤ x := rawf_nn ns [0] (by simp)
theorem raw_small {c x : Int} (h0 : 0 ≤ x) (h : keepP x = false) : ([gI (ab c) x, gI (ab (c - 1)) x].filter keepP) = [] := by
  have hx : x = 1 ∨ x = 2 := by
    simp only [keepP, Bool.or_eq_false_iff, beq_eq_false_iff_ne, ne_eq, decide_eq_false_iff_not] at h
    omega
  have hg : ∀ y : Int, keepP (gI y x) = false := fun y => by
    have hd : gI y x ∣ x := Int.gcd_dvd_right ..
    have hn : 0 ≤ gI y x := by unfold gI; omega
    have hle := Int.le_of_dvd (by omega) hd
    have hne : gI y x ≠ 0 := fun e => by rw [e] at hd; have := Int.zero_dvd.mp hd; omega
    simp only [keepP, Bool.or_eq_false_iff, beq_eq_false_iff_ne, ne_eq, decide_eq_false_iff_not]
    omega
  simp [hg]
theorem filter_raw (c : Int) : ∀ l : List Int, (∀ x ∈ l, 0 ≤ x) → (rawS (l.filter keepP) c).filter keepP = (rawS l c).filter keepP
  | [], _ => rfl
  | x :: l, h => by
    have ih := filter_raw c l fun y hy => h y (List.mem_cons_of_mem _ hy)
    have hx := h x List.mem_cons_self
    have e : rawS (x :: l) c = [gI (ab c) x, gI (ab (c - 1)) x] ++ rawS l c := by unfold rawS; rw [List.flatMap_cons]
    rw [e, List.filter_append, ← ih]
    cases hk : keepP x with
    | true =>
      rw [List.filter_cons_of_pos hk]
      have e2 : rawS (x :: l.filter keepP) c = [gI (ab c) x, gI (ab (c - 1)) x] ++ rawS (l.filter keepP) c := by unfold rawS; rw [List.flatMap_cons]
      rw [e2, List.filter_append]
    | false =>
      rw [List.filter_cons_of_neg (by simp [hk]), raw_small hx hk, List.nil_append]
theorem raw_perm : ∀ (ns l l' : List Int), l.Perm (l'.filter keepP) → (∀ x ∈ l', 0 ≤ x) → (ns.foldl stepP l).Perm ((ns.foldl rawS l').filter keepP)
  | [], _, _, h, _ => h
  | c :: ns, l, l', h, h0 => by
    rw [List.foldl_cons, List.foldl_cons]
    refine raw_perm ns _ _ ?_ fun x hx => rawf_nn [c] l' h0 x hx
    unfold stepP
    refine (srt_perm _).trans ?_
    rw [← filter_raw c l' h0]
    have e : (l.flatMap fun a => [gI a (ab c), gI a (ab (c - 1))]) = rawS l c := by
      unfold rawS gI
      simp only [Int.gcd_comm]
    rw [e]
    exact ((h.flatMap_right _).filter _)
theorem parts_raw (ns : List Int) : srt ((rawOf ns).filter keepP) = partsOf ns :=
  (srt_eq (raw_perm ns [0] [0] (by simp [keepP]) (by simp)) (parts_sorted ns)).symm
theorem coprime_take {qs : List Int} (h : qs.Pairwise fun a b => Int.gcd a b = 1) {i : Nat} (hi : i < qs.length) {b : Int} (hb : b ∈ qs.take i) : Int.gcd b qs[i] = 1 := by
  obtain ⟨j, hj, e⟩ := List.mem_iff_getElem.mp hb
  rw [List.length_take] at hj
  rw [List.getElem_take] at e
  rw [← e]
  exact List.pairwise_iff_getElem.mp h j i (by omega) hi (by omega)
theorem filter_all (ns : List Int) (x : Int) : decide (ns.filter (fun c => decide (1 < c % x)) = []) = ns.all fun c => decide (c % x < 2) := by
  rw [Bool.eq_iff_iff, decide_eq_true_eq, List.filter_eq_nil_iff, List.all_eq_true]
  refine ⟨fun h c hc => ?_, fun h c hc => ?_⟩
  · have := h c hc
    simp only [decide_eq_true_eq] at this ⊢
    omega
  · have := h c hc
    simp only [decide_eq_true_eq] at this ⊢
    omega
theorem mem_le_prod : ∀ {l : List Int}, (∀ q ∈ l, 0 < q) → ∀ {q : Int}, q ∈ l → q ≤ prodI l
  | x :: l, h, q, hq => by
    have hx := h x List.mem_cons_self
    have hl : ∀ q ∈ l, 0 < q := fun q hq => h q (List.mem_cons_of_mem _ hq)
    have hp := prodI_pos hl
    rcases List.mem_cons.mp hq with rfl | hq
    · have := Int.mul_le_mul_of_nonneg_left (show (1 : Int) ≤ prodI l by omega) (show 0 ≤ q by omega)
      simp only [prodI]; omega
    · have ih := mem_le_prod hl hq
      have := Int.mul_le_mul_of_nonneg_right (show (1 : Int) ≤ x by omega) (show 0 ≤ prodI l by omega)
      simp only [prodI]; omega
theorem prodI_app (a b : List Int) : prodI (a ++ b) = prodI a * prodI b := by
  induction a with
  | nil => simp [prodI]
  | cons x l ih => simp only [List.cons_append, prodI, ih, Int.mul_assoc]
theorem prodI_le {l : List Int} (h : ∀ q ∈ l, 0 < q) (i : Nat) : prodI (l.take i) ≤ prodI l := by
  have e : prodI l = prodI (l.take i) * prodI (l.drop i) := by rw [← prodI_app, List.take_append_drop]
  have h1 := prodI_pos (l := l.take i) fun q hq => h q (List.mem_of_mem_take hq)
  have h2 := prodI_pos (l := l.drop i) fun q hq => h q (List.mem_of_mem_drop hq)
  have := Int.mul_le_mul_of_nonneg_left (show (1 : Int) ≤ prodI (l.drop i) by omega) (show 0 ≤ prodI (l.take i) by omega)
  omega
theorem bez : ∀ a b : Nat, ∃ x y : Int, (a : Int) * x + (b : Int) * y = (Nat.gcd a b : Nat) := by
  intro a b
  induction a, b using Nat.gcd.induction with
  | H0 n => exact ⟨0, 1, by simp⟩
  | H1 m n hm ih =>
    obtain ⟨x, y, h⟩ := ih
    refine ⟨y - (n / m : Nat) * x, x, ?_⟩
    rw [Nat.gcd_rec m n, ← h]
    have e : (n : Int) = (m : Int) * (n / m : Nat) + (n % m : Nat) := by
      have := Nat.div_add_mod n m
      rw [← Int.natCast_mul, ← Int.natCast_add, this]
    generalize ((n / m : Nat) : Int) = u at *
    generalize ((n % m : Nat) : Int) = v at *
    rw [e]
    grind
theorem inv_exists {w q : Int} (hq : 2 < q) (hg : Int.gcd w q = 1) : ∃ k : Nat, (k : Int) < q ∧ (k : Int) * w % q = 1 := by
  obtain ⟨x, y, h⟩ := bez w.natAbs q.natAbs
  have hg' : Nat.gcd w.natAbs q.natAbs = 1 := hg
  rw [hg'] at h
  have hx : ∃ x' : Int, w * x' + q * y = 1 := by
    by_cases hw : 0 ≤ w
    · exact ⟨x, by rw [show ((w.natAbs : Nat) : Int) = w by omega, show ((q.natAbs : Nat) : Int) = q by omega] at h; exact h⟩
    · exact ⟨-x, by rw [show ((w.natAbs : Nat) : Int) = -w by omega, show ((q.natAbs : Nat) : Int) = q by omega] at h; have h2 : -w * x + q * y = 1 := h; grind⟩
  obtain ⟨x', h'⟩ := hx
  have m0 := Int.emod_nonneg x' (show q ≠ 0 by omega)
  have m1 := Int.emod_lt_of_pos x' (show 0 < q by omega)
  refine ⟨(x' % q).toNat, by omega, ?_⟩
  rw [Int.toNat_of_nonneg m0, Int.mul_emod, Int.emod_emod_of_dvd _ (Int.dvd_refl q), ← Int.mul_emod]
  have e : x' * w = 1 + q * (-y) := by grind
  rw [e, Int.add_mul_emod_self_left]
  exact Int.emod_eq_of_lt (by omega) (by omega)
theorem cop_mul {a b q : Int} (ha : Int.gcd a q = 1) (hb : Int.gcd b q = 1) : Int.gcd (a * b) q = 1 := by
  unfold Int.gcd at *
  rw [Int.natAbs_mul]
  exact Nat.Coprime.mul_left ha hb
theorem cop_prod {qs : List Int} (h : qs.Pairwise copr) {i : Nat} (hi : i < qs.length) : Int.gcd (prodI (qs.take i)) qs[i] = 1 := by
  have : ∀ l : List Int, (∀ b ∈ l, Int.gcd b qs[i] = 1) → Int.gcd (prodI l) qs[i] = 1 := fun l => by
    induction l with
    | nil => intro _; simp [prodI]
    | cons x l ih => intro h; exact cop_mul (h x List.mem_cons_self) (ih fun b hb => h b (List.mem_cons_of_mem _ hb))
  exact this _ fun b hb => coprime_take h hi hb
theorem drawn_cop {qs : List Int} {q : Int} (h : qs.Pairwise copr) (hp : ∀ o ∈ qs, 0 < o) (hq : 0 < q) (hf : qs.filter (fun o => decide (1 < ((Int.gcd q o : Nat) : Int))) = []) : (qs ++ [q]).Pairwise copr := by
  rw [List.pairwise_append]
  refine ⟨h, by simp, fun a ha b hb => ?_⟩
  rw [List.mem_singleton.mp hb]
  have h1 := List.filter_eq_nil_iff.mp hf a ha
  simp only [decide_eq_true_eq] at h1
  have h2 : Int.gcd q a ≠ 0 := fun e => by
    have := Int.gcd_eq_zero_iff.mp e
    omega
  refine copr_symm ?_
  show Int.gcd q a = 1
  omega
theorem prod_bound {B : Int} (hB : 0 < B) : ∀ {l : List Int}, (∀ q ∈ l, 0 < q ∧ q ≤ B) → prodI l ≤ B ^ l.length
  | [], _ => by simp [prodI]
  | x :: l, h => by
    have ih := prod_bound hB fun q hq => h q (List.mem_cons_of_mem _ hq)
    have hx := h x List.mem_cons_self
    have hp := prodI_pos (l := l) fun q hq => (h q (List.mem_cons_of_mem _ hq)).1
    rw [List.length_cons, Int.pow_succ, Int.mul_comm (B ^ l.length)]
    exact Int.mul_le_mul hx.2 ih (by omega) (by omega)
theorem tri_len (n : Nat) : ((List.range n).flatMap fun i => (List.replicate i true).map PyData.bool).length ≤ n * n := by
  have : ∀ l : List Nat, (∀ i ∈ l, i ≤ n) → (l.flatMap fun i => (List.replicate i true).map PyData.bool).length ≤ l.length * n := fun l => by
    induction l with
    | nil => intro _; simp
    | cons x l ih =>
      intro h
      have h1 := ih fun i z => h i (List.mem_cons_of_mem _ z)
      have h2 := h x List.mem_cons_self
      rw [List.flatMap_cons, List.length_append, List.length_map, List.length_replicate, List.length_cons, Nat.succ_mul]
      omega
  have h := this (List.range n) fun i hi => by have := List.mem_range.mp hi; omega
  rwa [List.length_range] at h
theorem step_zero {l : List Int} {c : Int} (h : (0 : Int) ∈ stepP l c) : (0 : Int) ∈ l ∧ (c = 0 ∨ c = 1) := by
  obtain ⟨⟨a, ha, e⟩, _⟩ := step_mem h
  have key : ∀ y : Int, 0 = gI a (ab y) → a = 0 ∧ y = 0 := fun y e => by
    have e' : Int.gcd a (ab y) = 0 := by unfold gI at e; omega
    have := Int.gcd_eq_zero_iff.mp e'
    refine ⟨this.1, ?_⟩
    have h2 := this.2
    unfold ab at h2
    split at h2 <;> omega
  rcases e with e | e
  · obtain ⟨h1, h2⟩ := key _ e
    exact ⟨h1 ▸ ha, .inl h2⟩
  · obtain ⟨h1, h2⟩ := key _ e
    exact ⟨h1 ▸ ha, .inr (by omega)⟩
theorem zero_all : ∀ (ns : List Int) (l : List Int), (0 : Int) ∈ ns.foldl stepP l → (0 : Int) ∈ l ∧ ∀ c ∈ ns, c = 0 ∨ c = 1
  | [], _, h => ⟨h, fun _ z => by cases z⟩
  | c :: ns, l, h => by
    obtain ⟨h1, h2⟩ := zero_all ns _ h
    obtain ⟨h3, h4⟩ := step_zero h1
    exact ⟨h3, fun x hx => (List.mem_cons.mp hx).elim (fun e => e ▸ h4) (h2 x)⟩
theorem zeros_step {l : List Int} {c : Int} (hl : ∀ x ∈ l, x = 0) (hc : c = 0 ∨ c = 1) : ∀ x ∈ stepP l c, x = 0 := fun x hx => by
  obtain ⟨⟨a, ha, e⟩, hk⟩ := step_mem hx
  have ea := hl a ha
  subst ea
  rcases hc with rfl | rfl
  · rcases e with rfl | rfl
    · rfl
    · rcases hk with h | h
      · exact h
      · exact absurd h (by decide)
  · rcases e with rfl | rfl
    · rcases hk with h | h
      · exact h
      · exact absurd h (by decide)
    · rfl
theorem zeros_all : ∀ (ns l : List Int), (∀ x ∈ l, x = 0) → (∀ c ∈ ns, c = 0 ∨ c = 1) → ∀ x ∈ ns.foldl stepP l, x = 0
  | [], _, h, _ => h
  | c :: ns, l, h, hc => zeros_all ns _ (zeros_step h (hc c List.mem_cons_self)) fun x hx => hc x (List.mem_cons_of_mem _ hx)
theorem ab_dvd {q c : Int} (h : q ∣ ab c) : q ∣ c := by
  unfold ab at h
  split at h
  · exact Int.dvd_neg.mp h
  · exact h
theorem div_all : ∀ (ns l : List Int) (cs : List Int), (∀ q ∈ l, ∀ c ∈ cs, q ∣ c ∨ q ∣ c - 1) → ∀ q ∈ ns.foldl stepP l, (∀ c ∈ cs, q ∣ c ∨ q ∣ c - 1) ∧ ∀ c ∈ ns, q ∣ c ∨ q ∣ c - 1
  | [], _, _, h => fun q hq => ⟨h q hq, fun _ z => by cases z⟩
  | c :: ns, l, cs, h => fun q hq => by
    have step : ∀ x ∈ stepP l c, ∀ d ∈ c :: cs, x ∣ d ∨ x ∣ d - 1 := fun x hx d hd => by
      obtain ⟨⟨a, ha, e⟩, _⟩ := step_mem hx
      rcases List.mem_cons.mp hd with rfl | hd
      · rcases e with rfl | rfl
        · exact .inl (ab_dvd (Int.gcd_dvd_right ..))
        · exact .inr (ab_dvd (Int.gcd_dvd_right ..))
      · have hxa : x ∣ a := by rcases e with rfl | rfl <;> exact Int.gcd_dvd_left ..
        exact (h a ha d hd).imp (Int.dvd_trans hxa) (Int.dvd_trans hxa)
    obtain ⟨h1, h2⟩ := div_all ns _ (c :: cs) step q hq
    exact ⟨fun d hd => h1 d (List.mem_cons_of_mem _ hd), fun d hd => (List.mem_cons.mp hd).elim (fun e => e ▸ h1 c List.mem_cons_self) (h2 d)⟩
theorem mod_small {q c : Int} (hq : 2 < q) (h : q ∣ c ∨ q ∣ c - 1) : c % q < 2 := by
  rcases h with h | h
  · rw [Int.emod_eq_zero_of_dvd h]; decide
  · have e : c % q = 1 % q := by
      have := (Int.emod_emod_of_dvd c (Int.dvd_refl q))
      have h2 := Int.emod_eq_emod_iff_emod_sub_eq_zero.mpr (Int.emod_eq_zero_of_dvd h)
      exact h2
    rw [e, Int.emod_eq_of_lt (by omega) (by omega)]
    decide
theorem filter_all2 (ns : List Int) (n : Int) : decide (ns.filter (fun c => decide (1 < n % c)) = []) = ns.all fun c => decide (n % c < 2) := by
  rw [Bool.eq_iff_iff, decide_eq_true_eq, List.filter_eq_nil_iff, List.all_eq_true]
  refine ⟨fun h c hc => ?_, fun h c hc => ?_⟩
  · have := h c hc
    simp only [decide_eq_true_eq] at this ⊢
    omega
  · have := h c hc
    simp only [decide_eq_true_eq] at this ⊢
    omega
theorem gI_le {a y B : Int} (ha : 0 ≤ a) (hy : 0 ≤ y) (h : a ≤ B) (h2 : y ≤ B) : gI a y ≤ B := by
  by_cases e : a = 0
  · subst e
    unfold gI
    rw [Int.gcd_zero_left]
    omega
  · have := Int.le_of_dvd (by omega) (show gI a y ∣ a from Int.gcd_dvd_left ..)
    omega
theorem parts_le {B : Int} : ∀ (ns l : List Int), (∀ x ∈ l, 0 ≤ x ∧ x ≤ B) → (∀ c ∈ ns, (c.natAbs : Int) + 1 ≤ B) → ∀ x ∈ ns.foldl stepP l, 0 ≤ x ∧ x ≤ B
  | [], _, h, _ => h
  | c :: ns, l, h, hc => parts_le ns _ (fun x hx => by
      obtain ⟨⟨a, ha, e⟩, _⟩ := step_mem hx
      have h1 := h a ha
      have h2 := hc c List.mem_cons_self
      have n0 : ∀ y : Int, 0 ≤ gI a y := fun y => by unfold gI; omega
      rcases e with rfl | rfl
      · exact ⟨n0 _, gI_le h1.1 (by unfold ab; split <;> omega) h1.2 (by unfold ab; split <;> omega)⟩
      · exact ⟨n0 _, gI_le h1.1 (by unfold ab; split <;> omega) h1.2 (by unfold ab; split <;> omega)⟩) fun x hx => hc x (List.mem_cons_of_mem _ hx)
theorem parts_bits {ms : List Int} (hb : ∀ n ∈ ms, n.natAbs < 2 ^ 400) : ∀ q ∈ partsOf ms, 0 ≤ q ∧ q.natAbs < 2 ^ 2000 := fun q hq => by
  have e : (2 : Nat) ^ 400 < 2 ^ 2000 := Nat.pow_lt_pow_right (by decide) (by decide)
  have := parts_le (B := ((2 ^ 400 : Nat) : Int)) ms [0] (fun x hx => by rw [List.mem_singleton.mp hx]; omega) (fun c hc => by have := hb c hc; omega) q hq
  generalize (2 : Nat) ^ 400 = u at *
  generalize (2 : Nat) ^ 2000 = v at *
  omega
theorem parts_two {ms : List Int} : ∀ q ∈ partsOf ms, q = 0 ∨ 2 < q := by
  rcases List.eq_nil_or_concat ms with rfl | ⟨l, x, rfl⟩
  · simp [partsOf]
  · rw [List.concat_eq_append, parts_snoc]
    exact fun q hq => (step_mem hq).2
theorem told_shape {ms : List Int} {n : Int} (hb : ∀ n ∈ ms, n.natAbs < 2 ^ 400) (hn : n.natAbs < 2 ^ 1000) : doubtD ms n = .none ∨ ∃ x : Int, doubtD ms n = .int x ∧ x.natAbs < 2 ^ 2000 := by
  unfold doubtD
  cases hF : (lotFor ms n).filter fun q => decide (1 < n % q) with
  | nil => exact .inl rfl
  | cons x l =>
    refine .inr ⟨x, rfl, ?_⟩
    have hm : x ∈ lotFor ms n := (List.mem_filter.mp (show x ∈ (lotFor ms n).filter fun q => decide (1 < n % q) by rw [hF]; exact List.mem_cons_self)).1
    have e : (2 : Nat) ^ 1000 + 2 < 2 ^ 2000 := by decide
    unfold lotFor at hm
    split at hm
    · split at hm
      · cases hm
      · have hx := List.mem_singleton.mp hm
        generalize (2 : Nat) ^ 1000 = u at *
        generalize (2 : Nat) ^ 2000 = v at *
        split at hx <;> omega
    · exact (parts_bits hb x hm).2
theorem due_set {A B : WE} {rest : WS} {E : DEnds} {ρ : En} {v : Bool} {i : Nat} (hA : ∀ Q : PyData → Prop, Q (.bool v) → dOrV A B ρ Q) (hi : i < ρ.length) (h : rest E (ρ.set i (some (.v (.bool v))))) : dSeq (dSet i (dOrV A B)) rest E ρ := ⟨hi, hA _ h⟩
theorem for_ints {xs : List Int} {gt : WTg} {wb : WS} {E : DEnds} {ρ : En} (h : ForB (xs.map PyData.int) gt wb E ρ) : ForB (xs.map PyData.int) gt wb E ρ := h
def dueF (ps : List Int) (n : Int) : List Int := ps.filter fun q => decide (0 < q) && decide (1 < n % q)
def dueB (ps : List Int) (n : Int) : Bool := !decide (dueF ps n = []) || (decide ((0 : Int) ∈ ps) && (!(n == 0) && !(n == 1)))
theorem told_due {ms : List Int} {n : Int} : (dueB (partsOf ms) n = true → isDoubtB ms n (doubtD ms n) = true) ∧ (dueB (partsOf ms) n = false → doubtD ms n = .none) ∧ folB ms n = !dueB (partsOf ms) n := by
  by_cases hz : (0 : Int) ∈ partsOf ms
  · obtain ⟨_, hc⟩ := zero_all ms [0] hz
    have h0 := zeros_all ms [0] (by simp) hc
    have hf : dueF (partsOf ms) n = [] := List.filter_eq_nil_iff.mpr fun q hq => by
      rw [h0 q hq]; simp
    unfold doubtD lotFor folB dueB
    rw [if_pos hz, if_pos hz, hf]
    simp only [decide_true, Bool.not_true, Bool.false_or, decide_eq_true hz, Bool.true_and]
    by_cases h1 : n = 0
    · subst h1; exact ⟨fun h => by simp at h, fun _ => rfl, rfl⟩
    · by_cases h2 : n = 1
      · subst h2; exact ⟨fun h => by simp at h, fun _ => rfl, rfl⟩
      · have hm : n ∉ [(0 : Int), 1] := by simp [h1, h2]
        rw [if_neg hm]
        have ed : (!(n == 0) && !(n == 1)) = true := by simp [h1, h2]
        rw [ed]
        refine ⟨fun _ => ?_, (fun h => by cases h), by simp [hm, h1, h2]⟩
        have hx : ∀ x : Int, 3 ≤ x → 1 < n % x → isDoubtB ms n (headD ([x].filter fun q => decide (1 < n % q))) = true := fun x h3 hn => by
          have e : ([x].filter fun q => decide (1 < n % q)) = [x] := by simp [hn]
          rw [e]
          have hall : (ms.all fun c => decide (c % x < 2)) = true := List.all_eq_true.mpr fun c hcm => by
            rcases hc c hcm with rfl | rfl
            · simp
            · simp only [decide_eq_true_eq]; rw [Int.emod_eq_of_lt (by omega) (by omega)]; decide
          simp only [headD, isDoubtB, hall, decide_eq_true h3, decide_eq_true hn, Bool.and_self]
        by_cases h4 : 1 < n
        · rw [if_pos h4]
          exact hx (n + 1) (by omega) (by rw [Int.emod_eq_of_lt (by omega) (by omega)]; exact h4)
        · rw [if_neg h4]
          refine hx (2 - n) (by omega) ?_
          have e : n % (2 - n) = 2 := by
            have e1 : n = 2 + (2 - n) * (-1) := by omega
            have e2 : n % (2 - n) = (2 + (2 - n) * (-1)) % (2 - n) := by rw [← e1]
            rw [e2, Int.add_mul_emod_self_left, Int.emod_eq_of_lt (by omega) (by omega)]
          omega
  · have hb := parts_big hz
    have hf : dueF (partsOf ms) n = (partsOf ms).filter fun q => decide (1 < n % q) := List.filter_congr fun q hq => by
      have := hb q hq
      simp [show 0 < q by omega]
    unfold doubtD lotFor folB dueB
    rw [if_neg hz, if_neg hz, hf, decide_eq_false hz, Bool.false_and, Bool.or_false, show ((partsOf ms).all fun q => decide (n % q < 2)) = decide ((partsOf ms).filter (fun q => decide (1 < n % q)) = []) from (filter_all2 _ n).symm]
    cases hF : (partsOf ms).filter fun q => decide (1 < n % q) with
    | nil => exact ⟨fun h => by simp at h, fun _ => rfl, by simp⟩
    | cons x l =>
      refine ⟨fun _ => ?_, fun h => by simp at h, by simp⟩
      have hm : x ∈ (partsOf ms).filter fun q => decide (1 < n % q) := by rw [hF]; exact List.mem_cons_self
      obtain ⟨hx, hn⟩ := List.mem_filter.mp hm
      have h2 := hb x hx
      have hd := (div_all ms [0] [] (fun _ _ _ z => by cases z) x hx).2
      have hall : (ms.all fun c => decide (c % x < 2)) = true := List.all_eq_true.mpr fun c hcm => by
        simpa using mod_small h2 (hd c hcm)
      have hn' : 1 < n % x := by simpa using hn
      simp only [headD, isDoubtB, hall, decide_eq_true (show 3 ≤ x by omega), decide_eq_true hn', Bool.and_self]

theorem nat_of {a : Int} (ha : 0 < a) (ha1 : a < 2 ^ 2000) : a.natAbs < 2 ^ 2000 := by
  have e : ((2 ^ 2000 : Nat) : Int) = (2 : Int) ^ 2000 := by rw [Int.natCast_pow]; rfl
  generalize (2 : Nat) ^ 2000 = v at *
  generalize (2 : Int) ^ 2000 = u at *
  omega
theorem res_eq {w q r k e : Int} (hw : 0 < w) (hq : 0 < q) (h0 : 0 ≤ r) (h1 : r < w) : (r + w * k * (e - r)) % (w * q) = r + w * (k * (e - r) % q) := by
  have m0 := Int.emod_nonneg (k * (e - r)) (show q ≠ 0 by omega)
  have m1 := Int.emod_lt_of_pos (k * (e - r)) hq
  have hd : k * (e - r) = q * (k * (e - r) / q) + k * (e - r) % q := (Int.mul_ediv_add_emod _ _).symm
  generalize k * (e - r) / q = d at *
  generalize hy : k * (e - r) % q = y at *
  have e1 : r + w * k * (e - r) = (r + w * y) + (w * q) * d := by
    have : w * k * (e - r) = w * (k * (e - r)) := by grind
    rw [this, hd]
    grind
  rw [e1, Int.add_mul_emod_self_left]
  have y0 : 0 ≤ w * y := Int.mul_nonneg (by omega) m0
  have y1 : w * (y + 1) ≤ w * q := Int.mul_le_mul_of_nonneg_left (by omega) (by omega)
  rw [Int.mul_add, Int.mul_one] at y1
  exact Int.emod_eq_of_lt (by omega) (by omega)
theorem inv_unique {w q k m : Int} (hq : 1 < q) (k0 : 0 ≤ k) (k1 : k < q) (m0 : 0 ≤ m) (m1 : m < q) (hk : k * w % q = 1) (hm : m * w % q = 1) : k = m := by
  have a : (k * w * m) % q = m := by
    rw [Int.mul_emod, hk, Int.one_mul, Int.emod_emod_of_dvd _ (Int.dvd_refl q), Int.emod_eq_of_lt m0 m1]
  have b : (m * w * k) % q = k := by
    rw [Int.mul_emod, hm, Int.one_mul, Int.emod_emod_of_dvd _ (Int.dvd_refl q), Int.emod_eq_of_lt k0 k1]
  have c : k * w * m = m * w * k := by grind
  rw [c, b] at a
  exact a
open Classical in
noncomputable def invK (w q : Int) : Int := if h : ∃ k : Int, 0 ≤ k ∧ k < q ∧ k * w % q = 1 then h.choose else 0
theorem invK_of {w q k : Int} (hq : 1 < q) (k0 : 0 ≤ k) (k1 : k < q) (hk : k * w % q = 1) : invK w q = k := by
  have h : ∃ k : Int, 0 ≤ k ∧ k < q ∧ k * w % q = 1 := ⟨k, k0, k1, hk⟩
  unfold invK
  rw [dif_pos h]
  obtain ⟨a, b, c⟩ := h.choose_spec
  exact inv_unique hq a b k0 k1 c hk
noncomputable def resS (l : List Int) (w q : Int) : List Int := l.flatMap fun r => [r + w * (invK w q * (0 - r) % q), r + w * (invK w q * (1 - r) % q)]
noncomputable def resOf : List Int → List Int
  | qs => (qs.foldl (fun p q => (resS p.1 p.2 q, p.2 * q)) (([0] : List Int), (1 : Int))).1
theorem big_mul {a b : Int} (ha : 0 < a) (ha1 : a < 2 ^ 2000) (hb : 0 < b) (hb1 : b < 2 ^ 2000) : CMulW a b := by
  have e : ((2 ^ 2000 : Nat) : Int) = (2 : Int) ^ 2000 := by rw [Int.natCast_pow]; rfl
  refine cmul_of (n := 2000) (k := 2000) ?_ ?_
  · generalize (2 : Nat) ^ 2000 = v at *
    generalize (2 : Int) ^ 2000 = u at *
    omega
  · generalize (2 : Nat) ^ 2000 = v at *
    generalize (2 : Int) ^ 2000 = u at *
    omega
end Dl
/-! The data layer, part 17: enumerate of a list or a tuple; zip; stars in displays. -/
namespace Dl
open PySem PySem.Spec PyProof.Rows L2

set_option maxHeartbeats 8000000 in
theorem en_new {v : Value} {o : Obj} {Z : Heap → Prop} (B : Begins v o Z) :
    Meets (Builtin.«enumerate.__new__» ⟨[.type "enumerate", v], []⟩) (fun _ R s => Z s.heap ∧
      R (.ok (.ret (.ref (s.heap.push o).objs.size))) { s with heap := (s.heap.push o).push { cls := .type "enumerate", data := .fields #[.none, .bool false, .ref s.heap.objs.size, rawInt 0, .none, .none] } }) :=
  .of_wp fun prog w A R s h => by
    obtain ⟨hp, g, d, tk, os⟩ := s; obtain ⟨hz, h⟩ := h
    have sub := sub_enumerate
    have it : ∀ {A' : Around} {E Q : Value → Shared → Prop}, Q (.ref hp.objs.size) ⟨hp.push o, g, d, tk, os⟩ → wpAny (model prog w) A' (pyIter v) Q E ⟨hp, g, d, tk, os⟩ := fun q => B.iter prog w _ _ ⟨hp, g, d, tk, os⟩ _ hz q
    wp_walk using it
    refine wpAny_stack_any fun st => wpAny_pure ?_
    split
    · rename_i c _ _ _ _ _
      cases (c == Value.type "enumerate") <;> (wp_walk using it; exact ⟨_, rfl, h⟩)
    · wp_walk using it; exact ⟨_, rfl, h⟩
section
variable {prog : Program} {w : World} {A : Around} {E : Value → Shared → Prop} {s : Shared}
theorem en_call {v : Value} {o : Obj} {Z : Heap → Prop} {Q : Value → Shared → Prop} (B : Begins v o Z) (hz : Z s.heap)
    (h : ∀ h', IsEnum h' (s.heap.objs.size + 1) s.heap.objs.size 0 .none → h'.get? s.heap.objs.size = some o → (∀ b u, s.heap.get? b = some u → h'.get? b = some u) → Q (.ref (s.heap.objs.size + 1)) { s with heap := h' }) :
    wpAny (model prog w) A (call (.type "enumerate") [v]) Q E s := by
  refine callType_new F.called_enumerate (by decide) (F.typeCall_enumerate_1 _) (F.newCall_enumerate_1 _) (fun obj => F.args_object_init_2 obj _) F.entry_enumerate_new (en_new B) ⟨hz, ?_⟩
  have sz : (s.heap.push o).objs.size = s.heap.objs.size + 1 := Heap.size_push ..
  show _ ∧ _
  rw [sz]
  generalize hE : ({ cls := .type "enumerate", data := .fields #[.none, .bool false, .ref s.heap.objs.size, rawInt 0, .none, .none] } : Obj) = oe
  have e1 : ((s.heap.push o).push oe).get? (s.heap.objs.size + 1) = some oe := by
    rw [← sz]; exact Heap.get?_push_size _ (by rw [← hE]; rfl)
  have e2 : IsEnum ((s.heap.push o).push oe) (s.heap.objs.size + 1) s.heap.objs.size 0 .none := by rw [← hE] at e1 ⊢; exact e1
  refine ⟨⟨_, e1, by rw [← hE]⟩, h _ e2 ?_ ?_⟩
  · exact Heap.get?_push_of_some _ (Heap.get?_push_size _ B.free)
  · exact fun b u x => Heap.get?_push_of_some _ (Heap.get?_push_of_some _ x)
end
/-- enumerate(t): the items of the tuple at a, each in a new pair -/
def IteT (K : PySem.W.Frag) (a : Addr) : It where
  go := fun i H => ∃ (xs : List V) (x : V), SqT K H a xs ∧ xs[i]? = some x
  yld := fun i H v H' => ∃ T x, v = .ref T ∧ H T = none ∧ H' = upd H T (.tup [.int (i : Nat), x]) ∧ ∀ xs, SqT K H a xs → xs[i]? = some x
  stop := fun i H => ∃ xs : List V, SqT K H a xs ∧ xs.length ≤ i
theorem turn_enT {P : Program} {w : World} {K : PySem.W.Frag} {elts : List Expr} {kk : Nat} {tpos : Pos} (a e it : Addr) :
    Turn P w K (.Tuple elts kk tpos) (IteT K a) [e, it] e (fun i h => (∃ old, IsEnum h e it ((i : Nat) : Int) old) ∧ h.IsTupleIter it a i ∧ e ≠ it ∧ a ≠ it ∧ e ≠ a) where
  mem := List.mem_cons_self
  obj := fun i h ⟨⟨old, he⟩, ⟨o, ho, _, hd⟩, _⟩ b hb => by
    rcases List.mem_cons.mp hb with rfl | hb
    · exact ⟨_, he, fun v q => by cases q⟩
    · rw [List.mem_singleton.mp hb]
      exact ⟨o, ho, fun v q => by rw [hd] at q; cases q⟩
  keep := fun i h h' ⟨⟨old, he⟩, hi, r⟩ k => ⟨⟨old, k e List.mem_cons_self _ he⟩, hi.at fun o q => k it (List.mem_cons_of_mem _ List.mem_cons_self) o q, r⟩
  item := by
    intro X hP hw hK hc i pins s σ H E I hf ⟨⟨old, he⟩, hit, n1, n2, n3⟩ ⟨xs, x, hq, hx⟩
    subst hP hw hK
    obtain ⟨its, rv, p, hz⟩ := I.tuple hq
    obtain ⟨u, hu, ru⟩ := rv.get hx
    have le : e < s.heap.objs.size := Heap.lt_size he
    have li : it < s.heap.objs.size := by obtain ⟨_, q, _⟩ := hit; exact Heap.lt_size q
    have hi : i < its.toArray.size := by
      rw [List.size_toArray]
      exact (List.getElem?_eq_some_iff.mp hu).1
    refine wpAny_pyNext_enum_itemD (Draws.tuple (A := X.A.in1) (show X.A.in1.handled = none from I.ok.hd hc) it a n2 its.toArray) he (show _ ∧ _ from ⟨hit, p⟩) hi n1 (fun z => ?_) fun y h' tk hy ho st hT hsz hk => ?_
    · rcases List.mem_cons.mp z with z | z
      · exact n1 z
      · exact n3 (List.mem_singleton.mp z)
    have ey : y = u := by
      have q : its[i]? = some y := by simpa using hy
      rw [hu] at q; exact (Option.some.inj q).symm
    subst ey
    refine ⟨_, rfl, wpAny_letOwnedTupleGo_enum (s := { s with heap := h', toks := tk + 1 }) ho fun h2 he2 sb => ?_⟩
    have hT2 : h2.get? s.heap.objs.size = some { cls := .type "tuple", data := .seq #[.int i tk, y] } := by
      rw [sb.2 _ (Nat.ne_of_gt le)]; exact hT
    have nw : ObjOk X.prog X.w (upd H s.heap.objs.size (.tup [.int (i : Nat), x])) h2 s.heap.objs.size (.tup [.int (i : Nat), x]) := by
      refine ⟨?_, [.int i tk, y], .cons ⟨_, rfl⟩ (.cons ru .nil), ⟨_, hT2, rfl, _, rfl⟩⟩
      rw [sizeLine_eq]; exact (by decide : 2 ≤ 16777216)
    have J : Inv X pins σ (upd H s.heap.objs.size (.tup [.int (i : Nat), x])) { s with heap := h2, toks := tk + 1 } :=
      I.turnedNew (ch := [e, it]) (fun b o hb q => by
        have b1 : b ≠ e := fun z => hb (by rw [z]; exact List.mem_cons_self)
        have b2 : b ≠ it := fun z => hb (by rw [z]; exact List.mem_cons_of_mem _ List.mem_cons_self)
        rw [sb.2 b b1]; exact hk b o b1 b2 q) hf (Nat.le_refl _) nw
    refine ⟨.ref s.heap.objs.size, _, J, rfl, ⟨_, x, rfl, I.hok.fresh (Nat.le_refl _), rfl, fun ys hy' => by rw [I.tuple_inj hy' hq]; exact hx⟩, ⟨⟨y, ?_⟩, st.1.at fun o q => by rw [sb.2 it (Ne.symm n1)]; exact q, n1, n2, n3⟩, fun b hb => ?_⟩
    · rw [show ((i + 1 : Nat) : Int) = (i : Int) + 1 by omega]; exact he2
    · have lb : b < s.heap.objs.size := by
        rcases List.mem_cons.mp hb with z | z
        · rw [z]; exact le
        · rw [List.mem_singleton.mp z]; exact li
      rw [upd_ne (Nat.ne_of_lt lb)]
      exact (hf b hb).1
  done := by
    intro X hP hw hK hc i pins s σ H E I hf ⟨⟨old, he⟩, hit, n1, n2, n3⟩ ⟨xs, hq, hx⟩
    subst hP hw hK
    obtain ⟨its, rv, p, hz⟩ := I.tuple hq
    obtain ⟨f0, f1, f2, f3, f4, f5⟩ := hf it (List.mem_cons_of_mem _ List.mem_cons_self)
    have hl := rv.length
    have hT : s.TypeIs (.ref e) "enumerate" := ⟨_, he, rfl⟩
    unfold pyNext
    refine wpAny_bind (wpAny_attempt (wpAny_callSpecial?_slot (name := Str.ofString "__next__") hT F.slot_enumerate_next (wpAny_call_entry F.slot_enumerate_next hT F.entry_enumerate_next ?_ (F.args_enumerate_next_1 _))))
    show wpAny _ _ (field (.ref e) 2 >>= _) _ _ _
    refine wpAny_bind (wpAny_field he rfl (x := .ref it) rfl ?_)
    refine wpAny_bind (wpAny_nextOf_tuple_end (I.ok.hd hc) hit p ?_ fun h' y eb hy => ?_)
    · rw [List.getElem?_toArray]; exact List.getElem?_eq_none (by rw [← rv.length]; exact hx)
    obtain ⟨o, ho, hoc⟩ := hy
    refine wpAny_bind (wpAny_isInstance (T := "StopIteration") (b := true) ⟨o, ho, hoc⟩ isSubtype_stop ?_)
    exact wpAny_pure ⟨rfl, I.turned (t' := s.toks) (fun b o hb q => eb b o hb q) f0 f1 f3 f4 f5⟩
  self := fun A i s Q E ⟨⟨_, he⟩, _⟩ h => wpAny_pyIter_enum he h
def iEnU (K : PySem.W.Frag) (ta : TA) : TI := fun σ H R => ta σ H fun vs H1 => ∃ a xs, vs = [.ref a] ∧ ((SqL K H1 a xs ∧ R (Ite K a) H1) ∨ (SqT K H1 a xs ∧ R (IteT K a) H1))
theorem pi_enU {X : Cx} {e : Expr} {ta : TA} {p pos tpos : Pos} {elts : List Expr} {kk : Nat} (hg : Gl X "enumerate") (hm : X.mg "enumerate" = none) (ha : PA X [e] ta) (hs : starEach [e] X.env = [(false, eval e X.env)] := by rfl) :
    PI X (.Tuple elts kk tpos) (.Call (.Name "enumerate" p) [e] [] pos) (iEnU X.K ta) := by
  refine ⟨fun pins s σ H R I h => Call_ (ld_blt I hg hm boot_enumerate (PyProof.Rows.callWith_type1 (thn (ha.run pos pins s σ H _ I h) fun us s1 ⟨vs, H1, I1, r1, a, xs, ex, q1⟩ => ?_) hs rfl))⟩
  subst ex
  cases r1 with
  | cons r rr =>
    cases rr
    cases r
    have fr : ∀ b, b = s1.heap.objs.size + 1 ∨ b = s1.heap.objs.size → s1.heap.objs.size ≤ b := fun b z => by
      rcases z with z | z
      · rw [z]; exact Nat.le_add_right _ _
      · rw [z]; exact Nat.le_refl _
    rcases q1 with ⟨hq, q⟩ | ⟨hq, q⟩
    · obtain ⟨its, rv, p', hz⟩ := I1.list hq
      refine call_enumerate_list p'.isList fun h' he hit hsz hk => wpAny_pyIter_enum he ?_
      refine ⟨s1.heap.objs.size + 1, [s1.heap.objs.size + 1, s1.heap.objs.size], _, _, H1, rfl, I1.kept (t' := s1.toks) hk, turn_enum a _ s1.heap.objs.size, ⟨⟨.none, he⟩, hit, Nat.succ_ne_self _⟩, fun b hb => ?_, q⟩
      have l := fr b (by simpa using hb)
      exact I1.fpOk l (I1.hok.fresh l)
    · obtain ⟨its, rv, p', hz⟩ := I1.tuple hq
      refine en_call (begins_tuple a its.toArray) p' fun h' he hit hk => wpAny_pyIter_enum he ?_
      have la : a < s1.heap.objs.size := p'.lt
      refine ⟨s1.heap.objs.size + 1, [s1.heap.objs.size + 1, s1.heap.objs.size], _, _, H1, rfl, I1.kept (t' := s1.toks) hk, turn_enT a _ s1.heap.objs.size, ⟨⟨.none, he⟩, ⟨_, hit, rfl, rfl⟩, Nat.succ_ne_self _, Nat.ne_of_lt la, fun z => ?_⟩, fun b hb => ?_, q⟩
      · rw [← z] at la
        exact absurd la (Nat.not_lt.mpr (Nat.le_succ _))
      · have l := fr b (by simpa using hb)
        exact I1.fpOk l (I1.hok.fresh l)
/-! as data -/
def numD : Nat → List PyData → List PyData
  | _, [] => []
  | i, d :: ds => .tuple [.int (i : Nat), d] :: numD (i + 1) ds
theorem numD_len : ∀ (i : Nat) (ds : List PyData), (numD i ds).length = ds.length
  | _, [] => rfl
  | i, d :: ds => by simp [numD, numD_len (i + 1) ds]
theorem numD_get : ∀ (k : Nat) (ds : List PyData) (i : Nat), (numD k ds)[i]? = (ds[i]?).map fun d => .tuple [.int ((k + i : Nat) : Int), d]
  | _, [], i => by simp [numD]
  | k, d :: ds, 0 => by simp [numD]
  | k, d :: ds, i + 1 => by
    have := numD_get (k + 1) ds i
    simp only [numD, List.getElem?_cons_succ, this]
    congr 1
    funext d
    rw [show k + 1 + i = k + (i + 1) by omega]
def iEn (w : WA) : WI := fun ρ Q => w ρ fun l => ∃ ds, (l = [.list ds] ∨ l = [.tuple ds]) ∧ Q (numD 0 ds)
theorem mo_iEn {w : WA} (h : MoA w) : MoI (iEn w) := fun _ _ _ m q => h _ _ _ (fun d ⟨ds, e, q⟩ => ⟨ds, e, m _ q⟩) q
section
variable {G : Ga} {X : Cx} {F1 : Hp} {Bar : Addr → Prop} {K : PySem.W.Frag} {J : It} {a : Addr} {xs : List V} {ds : List PyData}
theorem new_pair {H' : Hp} {i : Nat} {x : V} {d : PyData} {T : Addr} {B' : Addr → Prop} (l : RpL Bar F1 xs ds) (mb : ∀ a, Md G.dl a → Bar a) (k : G.kp F1 H') (hx : xs[i]? = some x) (hT : H' T = none) (hB : ∀ a, B' a → Bar a) (hd : ∀ a, B' a → H' a ≠ none) (he : ds[i]? = some d) :
    Rp B' (upd H' T (.tup [.int (i : Nat), x])) (.ref T) (.tuple [.int (i : Nat), d]) := by
  obtain ⟨d', e1, r⟩ := l.getv hx
  have e : d' = d := by rw [he] at e1; exact (Option.some.inj e1).symm
  subst e
  refine .tup (fun z => hd T z hT) upd_same (.cons (.int _) (.one ?_))
  refine (r.mx (B' := B') (H' := H') hB (kx_of mb k)).mv (fun _ z => z) (upd_keep hT)
theorem it_en (l : RpL Bar F1 xs ds) (mb : ∀ a, Md G.dl a → Bar a) (go : ∀ H' i, G.kp F1 H' → i < xs.length → J.go i H') (stop : ∀ H' i, G.kp F1 H' → xs.length ≤ i → J.stop i H')
    (yld : ∀ H' i x H'', G.kp F1 H' → J.yld i H' x H'' → ∃ T y, x = .ref T ∧ H' T = none ∧ H'' = upd H' T (.tup [.int (i : Nat), y]) ∧ xs[i]? = some y) : ItD G Bar F1 J (numD 0 ds) := fun B1 H' k o i => by
  rw [numD_len, ← l.len]
  refine ⟨fun hi => ⟨go H' i k hi, fun x H'' y => ?_⟩, fun hi => stop H' i k hi⟩
  obtain ⟨T, v, rfl, hT, rfl, hv⟩ := yld H' i x H'' k y
  have hi2 : i < ds.length := by rw [← l.len]; exact hi
  have hd : ds[i]? = some ds[i] := List.getElem?_eq_getElem hi2
  refine ⟨Kp.new hT, ok_new o hT, .tuple [.int (i : Nat), ds[i]], ?_, fun B' hB hn => new_pair l mb k hv hT hB hn hd⟩
  rw [numD_get, hd]
  simp
theorem it_enL (mb : ∀ a, Md G.dl a → Bar a) (hs : ∀ H', G.kp F1 H' → H' a = some (.lst xs)) (l : RpL Bar F1 xs ds) : ItD G Bar F1 (Ite K a) (numD 0 ds) :=
  it_en l mb (fun H' i k hi => ⟨xs, xs[i], .of (hs H' k), List.getElem?_eq_getElem hi⟩) (fun H' i k hi => ⟨xs, .of (hs H' k), hi⟩) fun H' i x H'' k ⟨T, y, e, n, u, q⟩ => ⟨T, y, e, n, u, q xs (.of (hs H' k))⟩
theorem it_enT (mb : ∀ a, Md G.dl a → Bar a) (hs : ∀ H', G.kp F1 H' → H' a = some (.tup xs)) (l : RpL Bar F1 xs ds) : ItD G Bar F1 (IteT K a) (numD 0 ds) :=
  it_en l mb (fun H' i k hi => ⟨xs, xs[i], .of (hs H' k), List.getElem?_eq_getElem hi⟩) (fun H' i k hi => ⟨xs, .of (hs H' k), hi⟩) fun H' i x H'' k ⟨T, y, e, n, u, q⟩ => ⟨T, y, e, n, u, q xs (.of (hs H' k))⟩
end
section
variable {G : Ga} {X : Cx} {e : Expr} {w : WA} {p pos tpos : Pos} {elts : List Expr} {kk : Nat}
theorem di_enumerate (hm : X.mg "enumerate" = none) (h : DA G X [e] w) (hg : Gl X "enumerate" := by rfl) (hs : starEach [e] X.env = [(false, eval e X.env)] := by rfl) : DI G X (.Tuple elts kk tpos) (.Call (.Name "enumerate" p) [e] [] pos) (iEn w) :=
  ⟨pi_imp (pi_enU hg hm h.pa hs) fun σ H R ⟨F, B, ρ, g, q⟩ => ⟨F, B, ρ, g, h.mo _ _ _ (fun l ⟨ds, e, q⟩ vs H' k o r => by
    have g' := g.step k o
    have mb : ∀ a, Md G.dl a → (G.B0 a ∨ pinH G B H' a = none) := fun a z => .inl (g.md a z)
    rcases e with rfl | rfl
    · cases r with
      | cons r t =>
        cases t
        have r2 := Rp.pinned g.b0 _ _ r
        cases r2 with
        | @lst a xs _ n e l => exact ⟨a, xs, rfl, .inl ⟨.of (pinH_some e).1, q _ _ k o (it_enL mb (fun H2 k2 => k2 a _ (fun z => n (mb _ z)) e) l)⟩⟩
    · cases r with
      | cons r t =>
        cases t
        have r2 := Rp.pinned g.b0 _ _ r
        cases r2 with
        | @tup a xs _ n e l => exact ⟨a, xs, rfl, .inr ⟨.of (pinH_some e).1, q _ _ k o (it_enT mb (fun H2 k2 => k2 a _ (fun z => n (mb _ z)) e) l)⟩⟩) q⟩, mo_iEn h.mo⟩
theorem dic_enumerate (hm : X.mg "enumerate" = none) (h : DAb G X [e] w) (hg : Gl X "enumerate" := by rfl) (hs : starEach [e] X.env = [(false, eval e X.env)] := by rfl) : DIc G X (.Tuple elts kk tpos) (.Call (.Name "enumerate" p) [e] [] pos) (iEn w) :=
  ⟨pi_imp (pi_enU hg hm h.pa hs) fun σ H R ⟨F, B, ρ, g, q⟩ => ⟨F, B, ρ, g, h.mo _ _ _ (fun l ⟨ds, e, q⟩ vs H' k o r => by
    have mb : ∀ a, Md G.dl a → (B a ∨ H' a = none) := fun a z => .inl (g.b0 _ (g.md a z))
    rcases e with rfl | rfl
    · obtain ⟨v, rfl, r1⟩ := bl1 r
      · have : ∃ a xs, v = V.ref a ∧ ¬ Md G.dl a ∧ H' a = some (.lst xs) ∧ RpL B H' xs ds := by
          rcases r1 with r | ⟨a, xs, ds', e1, e2, _, m, e, l⟩
          · cases r with
            | lst n e l => exact ⟨_, _, rfl, fun z => n (g.b0 _ (g.md _ z)), e, l⟩
          · cases e2; exact ⟨_, _, e1, m, e, l⟩
        obtain ⟨a, xs, rfl, m, e, l⟩ := this
        exact ⟨a, xs, rfl, .inl ⟨.of e, q _ _ k o (it_enL mb (fun H2 k2 => k2 a _ m e) (RpL.inner _ _ l))⟩⟩
    · obtain ⟨v, rfl, r1⟩ := bl1 r
      · obtain ⟨a, xs, rfl, n, e, l⟩ := rb_tup' r1
        exact ⟨a, xs, rfl, .inr ⟨.of e, q _ _ k o (it_enT mb (fun H2 k2 => k2 a _ (fun z => n (g.b0 _ (g.md _ z))) e) (RpL.inner _ _ l))⟩⟩) q⟩, mo_iEn h.mo⟩
end
end Dl
/-! The data layer, part 18: zip; stars in displays. -/
namespace Dl
open PySem PySem.Spec PyProof.Rows L2
def zipD : List PyData → List PyData → List PyData
  | d :: ds, e :: es => .tuple [d, e] :: zipD ds es
  | _, _ => []
theorem zipD_len : ∀ (ds es : List PyData), (zipD ds es).length = min ds.length es.length
  | [], _ => by simp [zipD]
  | _ :: _, [] => by simp [zipD]
  | d :: ds, e :: es => by simp [zipD, zipD_len ds es]
theorem zipD_get : ∀ (ds es : List PyData) (i : Nat) (d e : PyData), ds[i]? = some d → es[i]? = some e → (zipD ds es)[i]? = some (.tuple [d, e])
  | [], _, _, _, _, h, _ => by simp at h
  | _ :: _, [], _, _, _, _, h => by simp at h
  | d :: ds, e :: es, 0, _, _, h, h' => by simp at h h'; subst h h'; rfl
  | d :: ds, e :: es, i + 1, x, y, h, h' => by simp only [zipD, List.getElem?_cons_succ] at *; exact zipD_get ds es i x y h h'
def iZp (w : WA) : WI := fun ρ Q => w ρ fun l => ∃ ds es, (l = [.list ds, .list es] ∨ l = [.tuple ds, .tuple es]) ∧ Q (zipD ds es)
theorem mo_iZp {w : WA} (h : MoA w) : MoI (iZp w) := fun _ _ _ m q => h _ _ _ (fun d ⟨ds, es, e, q⟩ => ⟨ds, es, e, m _ q⟩) q
section
variable {G : Ga} {X : Cx} {F1 : Hp} {Bar : Addr → Prop} {K : PySem.W.Frag} {J : It} {a b : Addr} {xs ys : List V} {ds es : List PyData}
theorem it_zp (l : RpL Bar F1 xs ds) (l2 : RpL Bar F1 ys es) (mb : ∀ a, Md G.dl a → Bar a) (go : ∀ H' i, G.kp F1 H' → i < xs.length → i < ys.length → J.go i H') (stop : ∀ H' i, G.kp F1 H' → xs.length ≤ i ∨ ys.length ≤ i → J.stop i H')
    (yld : ∀ H' i x H'', G.kp F1 H' → J.yld i H' x H'' → ∃ T y z, x = .ref T ∧ H' T = none ∧ H'' = upd H' T (.tup [y, z]) ∧ xs[i]? = some y ∧ ys[i]? = some z) : ItD G Bar F1 J (zipD ds es) := fun B1 H' k o i => by
  rw [zipD_len, ← l.len, ← l2.len]
  refine ⟨fun hi => ⟨go H' i k (by omega) (by omega), fun x H'' y => ?_⟩, fun hi => stop H' i k (by omega)⟩
  obtain ⟨T, v, u, rfl, hT, rfl, hv, hu⟩ := yld H' i x H'' k y
  obtain ⟨d, hd, r⟩ := l.getv hv
  obtain ⟨e, he, r2⟩ := l2.getv hu
  refine ⟨Kp.new hT, ok_new o hT, _, zipD_get ds es i d e hd he, fun B' hB hn => ?_⟩
  refine .tup (fun z => hn T z hT) upd_same (.cons ?_ (.one ?_))
  · exact (r.mx (B' := B') (H' := H') hB (kx_of mb k)).mv (fun _ z => z) (upd_keep hT)
  · exact (r2.mx (B' := B') (H' := H') hB (kx_of mb k)).mv (fun _ z => z) (upd_keep hT)
theorem it_zpL (mb : ∀ a, Md G.dl a → Bar a) (hs : ∀ H', G.kp F1 H' → H' a = some (.lst xs)) (hs2 : ∀ H', G.kp F1 H' → H' b = some (.lst ys)) (l : RpL Bar F1 xs ds) (l2 : RpL Bar F1 ys es) : ItD G Bar F1 (Itz K a b) (zipD ds es) :=
  it_zp l l2 mb (fun H' i k h1 h2 => ⟨xs, ys, xs[i], ys[i], .of (hs H' k), .of (hs2 H' k), List.getElem?_eq_getElem h1, List.getElem?_eq_getElem h2⟩) (fun H' i k hi => ⟨xs, ys, .of (hs H' k), .of (hs2 H' k), hi⟩)
    fun H' i x H'' k ⟨T, y, z, e, n, u, q, q2⟩ => ⟨T, y, z, e, n, u, q xs (.of (hs H' k)), q2 ys (.of (hs2 H' k))⟩
theorem it_zpT (mb : ∀ a, Md G.dl a → Bar a) (hs : ∀ H', G.kp F1 H' → H' a = some (.tup xs)) (hs2 : ∀ H', G.kp F1 H' → H' b = some (.tup ys)) (l : RpL Bar F1 xs ds) (l2 : RpL Bar F1 ys es) : ItD G Bar F1 (RZ.ItzT K a b) (zipD ds es) :=
  it_zp l l2 mb (fun H' i k h1 h2 => ⟨xs, ys, xs[i], ys[i], .of (hs H' k), .of (hs2 H' k), List.getElem?_eq_getElem h1, List.getElem?_eq_getElem h2⟩) (fun H' i k hi => ⟨xs, ys, .of (hs H' k), .of (hs2 H' k), hi⟩)
    fun H' i x H'' k ⟨T, y, z, e, n, u, q, q2⟩ => ⟨T, y, z, e, n, u, q xs (.of (hs H' k)), q2 ys (.of (hs2 H' k))⟩
end
section
variable {G : Ga} {X : Cx} {e e2 : Expr} {w : WA} {p pos tpos : Pos} {elts : List Expr} {kk : Nat}
theorem rb_lst2 {F : Hp} {B : Addr → Prop} {H H' : Hp} {σ : L2.St} {ρ : En} {v : V} {ds : List PyData} (g : Go G F B H σ ρ) (r : RpB G.dl B H' v (.list ds)) : ∃ a xs, v = V.ref a ∧ ¬ Md G.dl a ∧ H' a = some (.lst xs) ∧ RpL B H' xs ds := by
  rcases r with r | ⟨a, xs, ds', e1, e2, _, m, e, l⟩
  · cases r with
    | lst n e l => exact ⟨_, _, rfl, fun z => n (g.b0 _ (g.md _ z)), e, l⟩
  · cases e2; exact ⟨_, _, e1, m, e, l⟩
theorem di_zip (hm : X.mg "zip" = none) (h : DA G X [e, e2] w) (hg : Gl X "zip" := by rfl) (hs : starEach [e, e2] X.env = (false, eval e X.env) :: starEach [e2] X.env := by rfl) (hpl : (backTo pos (starEach [e2] X.env)).any (·.1) = false := by rfl) :
    DI G X (.Tuple elts kk tpos) (.Call (.Name "zip" p) [e, e2] [] pos) (iZp w) :=
  ⟨pi_imp (RZ.pi_zipA hg hm h.pa hs hpl) fun σ H R ⟨F, B, ρ, g, q⟩ => ⟨F, B, ρ, g, h.mo _ _ _ (fun l ⟨ds, es, e, q⟩ vs H' k o r => by
    have g' := g.step k o
    have mb : ∀ a, Md G.dl a → (G.B0 a ∨ pinH G B H' a = none) := fun a z => .inl (g.md a z)
    rcases e with rfl | rfl
    · cases r with
      | cons r1 t =>
        cases t with
        | cons r2 t =>
          cases t
          have s1 := Rp.pinned g.b0 _ _ r1
          have s2 := Rp.pinned g.b0 _ _ r2
          cases s1 with
          | @lst a xs _ n e l =>
            cases s2 with
            | @lst b ys _ n' e' l' => exact ⟨a, b, xs, ys, rfl, .inl ⟨.of (pinH_some e).1, .of (pinH_some e').1, q _ _ k o (it_zpL mb (fun H2 k2 => k2 a _ (fun z => n (mb _ z)) e) (fun H2 k2 => k2 b _ (fun z => n' (mb _ z)) e') l l')⟩⟩
    · cases r with
      | cons r1 t =>
        cases t with
        | cons r2 t =>
          cases t
          have s1 := Rp.pinned g.b0 _ _ r1
          have s2 := Rp.pinned g.b0 _ _ r2
          cases s1 with
          | @tup a xs _ n e l =>
            cases s2 with
            | @tup b ys _ n' e' l' => exact ⟨a, b, xs, ys, rfl, .inr ⟨.of (pinH_some e).1, .of (pinH_some e').1, q _ _ k o (it_zpT mb (fun H2 k2 => k2 a _ (fun z => n (mb _ z)) e) (fun H2 k2 => k2 b _ (fun z => n' (mb _ z)) e') l l')⟩⟩) q⟩, mo_iZp h.mo⟩
theorem dic_zip (hm : X.mg "zip" = none) (h : DAb G X [e, e2] w) (hg : Gl X "zip" := by rfl) (hs : starEach [e, e2] X.env = (false, eval e X.env) :: starEach [e2] X.env := by rfl) (hpl : (backTo pos (starEach [e2] X.env)).any (·.1) = false := by rfl) :
    DIc G X (.Tuple elts kk tpos) (.Call (.Name "zip" p) [e, e2] [] pos) (iZp w) :=
  ⟨pi_imp (RZ.pi_zipA hg hm h.pa hs hpl) fun σ H R ⟨F, B, ρ, g, q⟩ => ⟨F, B, ρ, g, h.mo _ _ _ (fun l ⟨ds, es, e, q⟩ vs H' k o r => by
    have mb : ∀ a, Md G.dl a → (B a ∨ H' a = none) := fun a z => .inl (g.b0 _ (g.md a z))
    rcases e with rfl | rfl
    · obtain ⟨v, v2, rfl, r1, r2⟩ := bl2 r
      obtain ⟨a, xs, rfl, m, e, l⟩ := rb_lst2 g r1
      obtain ⟨b, ys, rfl, m', e', l'⟩ := rb_lst2 g r2
      exact ⟨a, b, xs, ys, rfl, .inl ⟨.of e, .of e', q _ _ k o (it_zpL mb (fun H2 k2 => k2 a _ m e) (fun H2 k2 => k2 b _ m' e') (RpL.inner _ _ l) (RpL.inner _ _ l'))⟩⟩
    · obtain ⟨v, v2, rfl, r1, r2⟩ := bl2 r
      obtain ⟨a, xs, rfl, n, e, l⟩ := rb_tup' r1
      obtain ⟨b, ys, rfl, n', e', l'⟩ := rb_tup' r2
      exact ⟨a, b, xs, ys, rfl, .inr ⟨.of e, .of e', q _ _ k o (it_zpT mb (fun H2 k2 => k2 a _ (fun z => n (g.b0 _ (g.md _ z))) e) (fun H2 k2 => k2 b _ (fun z => n' (g.b0 _ (g.md _ z))) e') (RpL.inner _ _ l) (RpL.inner _ _ l'))⟩⟩) q⟩, mo_iZp h.mo⟩
end
/-! ### *e in a display -/
def aStar (w : WE) (ws : WA) : WA := fun ρ Q => w ρ fun d => ∃ es, (d = .list es ∨ d = .tuple es) ∧ ws ρ fun ds => Q (es ++ ds)
theorem mo_aStar {w : WE} {ws : WA} (h : Mo w) (hs : MoA ws) : MoA (aStar w ws) := fun ρ Q Q' m q => h _ _ _ (fun d ⟨es, e, q⟩ => ⟨es, e, hs _ _ _ (fun ds q => m _ q) q⟩) q
section
variable {G : Ga} {X : Cx} {e : Expr} {es : List Expr} {w : WE} {ws : WA} {p : Pos}
theorem da_star (h : DB G X e w) (hr : DA G X es ws) (hs : starEach (.Starred e p :: es) X.env = (true, eval e X.env) :: starEach es X.env := by rfl) : DA G X (.Starred e p :: es) (aStar w ws) :=
  ⟨pa_imp (StX.pa_star h.pe hr.pa hs) fun σ H Q ⟨F, B, ρ, g, q⟩ => ⟨F, B, ρ, g, h.mo _ _ _ (fun d ⟨es, e, q⟩ v H' k o r => by
    have g' := g.step k o
    rcases e with rfl | rfl
    · obtain ⟨a, xs, rfl, h1, l⟩ := rb_list' r
      exact ⟨a, xs, rfl, .inr (.of h1), F, B, ρ, g', hr.mo _ _ _ (fun ds q vs H2 k2 o2 l2 => q _ H2 (k.trans k2) o2 ((l.mk (g'.kb k2)).app l2)) q⟩
    · obtain ⟨a, xs, rfl, n, h1, l⟩ := rb_tup' r
      exact ⟨a, xs, rfl, .inl (.of h1), F, B, ρ, g', hr.mo _ _ _ (fun ds q vs H2 k2 o2 l2 => q _ H2 (k.trans k2) o2 ((l.mk (g'.kb k2)).app l2)) q⟩) q⟩, mo_aStar h.mo hr.mo⟩
end
end Dl
/-! The data layer, part 19: several named except clauses. -/
namespace Dl
open PySem PySem.Spec PyProof.Rows L2

/-- behind a suite whose name sits in slot i -/
def offE (i : Nat) (D : Ends) : Ends where
  nx := fun τ U => D.nx (τ.set i none) U
  rt := D.rt
  bk := fun τ U => D.bk (τ.set i none) U
  ct := fun τ U => D.ct (τ.set i none) U
abbrev Sui := Addr → Value → Option Addr → TS
/-- clause by clause: class, slot, suite -/
def wishes (K : PySem.W.Frag) (out : WX) (D : Ends) : List (Value × Nat × Sui) → WX
  | [] => out
  | (c, i, u) :: l => fun cls d τ U => ∃ b, PySem.W.exmOne K cls c = some b ∧ (b = true → ∀ a, U a = none → u a cls d (offE i D) (τ.set i (some (.ref a))) U) ∧ (b = false → wishes K out D l cls d τ U)
inductive Clauses (X : Cx) : List ExceptHandler → List (Value × Nat × Sui) → Prop
  | nil : Clauses X [] []
  | cons {x n : Str} {i : Nat} {c : Value} {u : Sui} {b₀ : Stmt} {st : List Stmt} {p1 p2 : Pos} {hs : List ExceptHandler} {l : List (Value × Nat × Sui)} : Names X x c → X.N[i]? = some n → X.env.kindOf n = some .local →
      (∀ (a : Addr) (oe : Obj) (cls : Value) (d : Option Addr) (pn : List (Addr × Obj)), Zc cls d oe → (∃ vs, oe.data = .fields vs) → PSs (X.suite a ((a, oe) :: pn)) (b₀ :: st) (u a cls d)) → Clauses X hs l →
      Clauses X (.ExceptHandler (some (.Name x p1)) (some n) (b₀ :: st) p2 :: hs) ((c, i, u) :: l)
section
variable {X : Cx} {pins : List (Addr × Obj)} {D : Ends} {out : WX} {s0 s' : Shared} {τ : L2.St} {U : Hp} {a : Addr} {B h : Heap} {cls : Value} {d : Option Addr}
/-- an exception that has come to the clauses of X -/
structure Come (X : Cx) (pins : List (Addr × Obj)) (s0 s' : Shared) (τ : L2.St) (U : Hp) (a : Addr) (B h : Heap) (cls : Value) (d : Option Addr) : Prop where
  inv : Inv X pins τ U s0
  old : ∀ b o, s0.heap.get? b = some o → b ∉ frs X.stack → B.get? b = some o
  fly : HandSPX.FlyingZ B (X.env :: X.outer) a (Zc cls d) h
  ups : s0.heap.UpToSlots h
  na : U a = none
  os : s'.os = s0.os
  ag : AllBare s'.gens
theorem Come.notin (C : Come X pins s0 s' τ U a B h cls d) (hs : X.stack = X.env :: X.outer) (hf : X.env.frame = some X.env.locals) : a ≠ X.env.locals ∧ a ∉ X.fs := by
  obtain ⟨oe, vs, e1, _, e3⟩ := C.fly.there
  have key : a ∉ frs (X.env :: X.outer) := fun hm => by
    obtain ⟨_, o, e, hnf⟩ := C.fly.2.2.1.mem hm
    rw [e1] at e; cases e
    exact hnf _ e3
  refine ⟨fun z => key (List.mem_filterMap.mpr ⟨X.env, List.mem_cons_self, by rw [hf, z]⟩), fun hm => ?_⟩
  obtain ⟨e, he, q⟩ := List.mem_filterMap.mp hm
  exact key (List.mem_filterMap.mpr ⟨e, List.mem_cons_of_mem _ he, q⟩)
theorem Come.here (C : Come X pins s0 s' τ U a B h cls d) : Inv X pins τ U { s' with heap := h } := C.inv.landed C.old C.fly.1 C.ups C.os C.ag
/-- let out -/
theorem Come.leave (C : Come X pins s0 s' τ U a B h cls d) (hs : X.stack = X.env :: X.outer) (hf : X.env.frame = some X.env.locals) (tk : Takes X out) (w : out cls d τ U) :
    wpAny (model X.prog X.w) X.A (handleBy (.ref a) X.env []) (SP X pins D) X.xe { s' with heap := h } := by
  obtain ⟨_, _, _, oe, vs, T, _, _, ea, _, ed, e1, _⟩ := id C.fly
  have last : wpAny (model X.prog X.w) X.A (setFlight (.ref a) X.env.frame) (fun _ r => wpAny (model X.prog X.w) X.A (throw (.ref a) : Sem Flow) (SP X pins D) X.xe r) X.xe { s' with heap := h } := by
    rw [hf]
    exact HandSPX.setFlight_upZ C.fly fun h4 q4 up4 => wpAny_throw (tk _ _ ⟨a, B, s0, pins, τ, U, cls, d, rfl, C.inv, C.old, C.ups.trans up4, .inr (.inr (by rw [hs]; exact q4)), C.na, C.os, C.ag, w⟩)
  refine wpAny_handleBy_nil ?_
  unfold PySem.passOn
  refine wpAny_bind (wpAny_field ea ed e1 ?_)
  have nz : ¬ ((Value.ref T == Value.none) = true) := by simp
  rw [if_neg nz]
  first
    | exact wpAny_bind (wpAny_pure (wpAny_bind last))
    | exact wpAny_bind last
theorem Come.run (C : Come X pins s0 s' τ U a B h cls d) (hs : X.stack = X.env :: X.outer) (hf : X.env.frame = some X.env.locals) (hN : X.N.Nodup) (tk : Takes X out) :
    ∀ {hds : List ExceptHandler} {l : List (Value × Nat × Sui)}, Clauses X hds l → wishes X.K out D l cls d τ U → wpAny (model X.prog X.w) X.A (handleBy (.ref a) X.env hds) (SP X pins D) X.xe { s' with heap := h } := by
  intro hds l hc
  have ok := C.inv.ok
  obtain ⟨oe, vs, e1, ez, e3⟩ := C.fly.there
  obtain ⟨n1, n2⟩ := C.notin hs hf
  have J := C.here
  have JS := J.suite e1 e3 C.na n1 n2
  induction hc with
  | nil => exact fun w => C.leave hs hf tk w
  | @cons x n i c u b₀ st p1 p2 hs2 l2 hx hi hk su r ih =>
    intro ⟨b, hb, hy, hno⟩
    refine wpAny_handleBy_cons (codeAny_handlers_test ?_) (by intro z; cases z)
    have ty : PySem.W.Looks (model X.prog X.w) h (typeOf (.ref a)) cls := fun A Q E r k q => by
      refine wpAny_typeOf_ref (k _ _ e1) ?_
      rw [ez.1]; exact q
    have mt := PySem.W.exm_one (M := model X.prog X.w) J.kIn ty hb
    have nm : ∀ {Q E : Value → Shared → Prop}, Q c { s' with heap := h } → wpAny (model X.prog X.w) (X.A.mark (some (.ref a))) (eval (.Name x p1) X.env) Q E { s' with heap := h } := fun {Q E} q => by
      obtain ⟨hg, hdb, hm | ⟨hm, hv, hnn⟩⟩ := hx
      · exact ld_glob (X := X.suite a ((a, oe) :: (X.pn ++ pins))) JS hg hm q hdb
      · exact ld_blt (X := X.suite a ((a, oe) :: (X.pn ++ pins))) JS hg hm hv q hnn hdb
    refine nm (mt.here ?_)
    cases b with
    | false => exact ih (hno rfl)
    | true =>
      refine codeAny_handlers_suite_as (HandSPX.lands_againZ C.fly fun h4 f4 u4 => ?_)
      have C4 : Come X pins s0 s' τ U a B h4 cls d := ⟨C.inv, C.old, f4, C.ups.trans u4, C.na, C.os, C.ag⟩
      obtain ⟨o4, vs4, a4, z4, d4⟩ := f4.there
      have S4 := C4.here.suite a4 d4 C.na n1 n2
      refine store_ok (X := X.suite a ((a, o4) :: (X.pn ++ pins))) (v := .ref a) S4 hN hi (.inl hk) rfl (fun s5 S5 => ?_) (.inr hk)
      refine wpAny_mono ((su a o4 cls d (X.pn ++ pins) z4 ⟨_, d4⟩).run [] s5 _ U _ S5 (hy rfl a C.na)) (fun f s6 q => ?_) (fun _ _ z => z.elim)
      have fin : ∀ {τ6 : L2.St} {U6 : Hp} {Q : Shared → Prop}, Inv (X.suite a ((a, o4) :: (X.pn ++ pins))) [] τ6 U6 s6 → (∀ r, Inv X pins (τ6.set i none) U6 r → Q r) →
          wpAny (model X.prog X.w) X.A (do bindName X.env n .none; unbindBehindTheSuite X.env n p2) (fun _ r => Q r) X.xe s6 := fun S6 hq => gone_ok (S6.unsuite ok) hN hi hk hq
      cases f with
      | ret v =>
        obtain ⟨_, _, _, S6, rv, q⟩ := q
        exact fin S6 fun _ J7 => ⟨_, _, _, J7, rv, q⟩
      | next => obtain ⟨_, _, S6, q⟩ := q; exact fin S6 fun _ J7 => ⟨_, _, J7, q⟩
      | brk => obtain ⟨_, _, S6, q⟩ := q; exact fin S6 fun _ J7 => ⟨_, _, J7, q⟩
      | cont => obtain ⟨_, _, S6, q⟩ := q; exact fin S6 fun _ J7 => ⟨_, _, J7, q⟩
variable {body : List Stmt} {h₀ : ExceptHandler} {hds : List ExceptHandler} {l : List (Value × Nat × Sui)} {pos : Pos} {tb : WX → TS}
theorem ps_clauses (hs : X.stack = X.env :: X.outer) (hf : X.env.frame = some X.env.locals) (hN : X.N.Nodup) (tk : Takes X out)
    (hb : ∀ (W : WX) (pn : List (Addr × Obj)) (xe : Value → Shared → Prop), Takes (X.tr pn xe) W → PassesOwn (model X.prog X.w) X.A X.env xe → PSs (X.tr pn xe) body (tb W))
    (hh : Clauses X (h₀ :: hds) l) : PS X (.Try body (h₀ :: hds) [] [] pos) (fun D τ U => tb (wishes X.K out D l) D τ U) := by
  refine ⟨fun pins s τ U D I h => wpAny_Try_except ?_⟩
  have ok := I.ok
  have fr : X.A.frames = some (X.env :: X.outer) := by rw [← hs]; exact ok.frames
  let xe' : Value → Shared → Prop := fun e r => wpAny (model X.prog X.w) X.A (noteFrame e X.env) (fun _ r2 => wpAny (model X.prog X.w) X.A (setFlight e none) (fun _ r3 => wpAny (model X.prog X.w) X.A (handleBy e X.env (h₀ :: hds)) (SP X pins D) X.xe r3) X.xe r2) X.xe r
  have tk' : Takes (X.tr (X.pn ++ pins) xe') (wishes X.K out D l) := fun e s' xx => by
    obtain ⟨a, B, sI, pins', τ', U', cls, d, rfl, J, nb, up, sky, na, os, ag, w⟩ := xx
    have sk : Sky B (X.env :: X.outer) a (Zc cls d) X.env.locals s'.heap := by rw [← hs]; exact sky
    exact Sky.land Zc.steady fr hf sk fun h3 fl up3 => Come.run (s' := s') ⟨J.ofTry ok, nb, fl, up.trans up3, na, os, ag⟩ hs hf hN tk hh w
  refine wpAny_mono ((hb (wishes X.K out D l) (X.pn ++ pins) xe' tk' PassesOwn.looking).run [] s τ U D (I.toTry _) h) (fun f r q => ?_) fun _ _ z => z
  cases f with
  | ret v => obtain ⟨_, _, _, J, rv, q⟩ := q; exact ⟨_, _, _, J.ofTry ok, rv, q⟩
  | next => obtain ⟨_, _, J, q⟩ := q; exact wpAny_execs_nil ⟨_, _, J.ofTry ok, q⟩
  | brk => obtain ⟨_, _, J, q⟩ := q; exact ⟨_, _, J.ofTry ok, q⟩
  | cont => obtain ⟨_, _, J, q⟩ := q; exact ⟨_, _, J.ofTry ok, q⟩
end
/-! ### as data: two clauses -/
/-- what happens to an exception: the first suite's, the second one's, or let out -/
def hnd2 (xd : En → Addr → PyData → Prop) (C1 C2 : Addr) (i j : Nat) (w1 w2 : Addr → Addr → WS) (E : DEnds) : En → Addr → PyData → Prop := fun ρ C d =>
  i < ρ.length ∧ j < ρ.length ∧ ((C = C1 ∧ ∀ a dd, w1 a dd (unset i E) (ρ.set i (some (.ex a dd d)))) ∨ (C ≠ C1 ∧ C = C2 ∧ ∀ a dd, w2 a dd (unset j E) (ρ.set j (some (.ex a dd d)))))
def dTry2 (G : Ga) (C1 C2 : Addr) (i j : Nat) (wb : Ga → WS) (w1 w2 : Addr → Addr → WS) : WS := fun E1 ρ => ∃ E, Below E E1 ∧
  ∃ xd' : En → Addr → PyData → Prop, (∀ ρ' C d, xd' ρ' C d → hnd2 G.xd C1 C2 i j w1 w2 E ρ' C d) ∧ ∀ F, wb (G.tr xd' F) E ρ
section
variable {G : Ga} {X : Cx} {x y n m msg msg2 : Str} {c c2 fI fI2 : Addr} {i j : Nat} {body st st2 : List Stmt} {b₀ b₁ : Stmt} {p1 p2 p3 p4 pos : Pos} {wb : Ga → WS} {w1 w2 : Addr → Addr → WS}
theorem ds_try2 (T : PySem.ErX.ErrTxt X.prog X.K X.mg x msg c fI) (T2 : PySem.ErX.ErrTxt X.prog X.K X.mg y msg2 c2 fI2) (h21 : PySem.W.exmOne X.K (.ref c2) (.ref c) = some (decide (c2 = c))) {gg : GInv} (hx : Xw gg G X) (hs : X.stack = X.env :: X.outer) (hf : X.env.frame = some X.env.locals) (hN : X.N.Nodup)
    (hi : X.N[i]? = some n) (hj : X.N[j]? = some m) (hn : X.env.kindOf n = some .local) (hm : X.env.kindOf m = some .local) (hg : Gl X x) (hdb : (x == ("__debug__" : Str)) = false) (hg2 : Gl X y) (hdb2 : (y == ("__debug__" : Str)) = false)
    (hb : ∀ (G' : Ga) (pn : List (Addr × Obj)) (xe : Value → Shared → Prop), Same G' G → Xw gg G' (X.tr pn xe) → PassesOwn (model X.prog X.w) X.A X.env xe → DSs G' (X.tr pn xe) body (wb G'))
    (hsu : ∀ (a dd : Addr) (oe : Obj) (pn : List (Addr × Obj)), Zc (.ref c) (some dd) oe → (∃ vs, oe.data = .fields vs) → DSs G (X.suite a ((a, oe) :: pn)) (b₀ :: st) (w1 a dd))
    (hsu2 : ∀ (a dd : Addr) (oe : Obj) (pn : List (Addr × Obj)), Zc (.ref c2) (some dd) oe → (∃ vs, oe.data = .fields vs) → DSs G (X.suite a ((a, oe) :: pn)) (b₁ :: st2) (w2 a dd)) :
    DS G X (.Try body [.ExceptHandler (some (.Name x p1)) (some n) (b₀ :: st) p2, .ExceptHandler (some (.Name y p3)) (some m) (b₁ :: st2) p4] [] [] pos) (dTry2 G c c2 i j wb w1 w2) := by
  obtain ⟨Wo, tk, hl⟩ := hx.ex
  let lk : (En → Addr → PyData → Prop) → Hp → WX → Prop := fun xd' F W => ∀ B H σ ρ, Go G F B H σ ρ → ∀ C d, xd' ρ C d → ∀ x v, H x = some (.xd [("at", v)]) → ¬ B x → Rp B H v d → W (.ref C) (some x) σ H
  let tb : WX → TS := fun W D σ H => ∃ F B ρ E xd', Go G F B H σ ρ ∧ lk xd' F W ∧ wb (G.tr xd' F) E ρ ∧ Fit G F E D
  let t1 : Sui := fun a cls d D σ H => ∃ dd, cls = .ref c ∧ d = some dd ∧ ls G (w1 a dd) D σ H
  let t2 : Sui := fun a cls d D σ H => ∃ dd, cls = .ref c2 ∧ d = some dd ∧ ls G (w2 a dd) D σ H
  have C0 : Clauses X [.ExceptHandler (some (.Name x p1)) (some n) (b₀ :: st) p2, .ExceptHandler (some (.Name y p3)) (some m) (b₁ :: st2) p4] [(.ref c, i, t1), (.ref c2, j, t2)] :=
    .cons ⟨hg, hdb, .inl T.gC⟩ hi hn (fun a oe cls d pn hz hfl => ⟨fun pins s σ H D I ⟨dd, e1, e2, h⟩ => by
      subst e1 e2
      exact (hsu a dd oe pn hz hfl).pss.run pins s σ H D I h⟩) <| .cons ⟨hg2, hdb2, .inl T2.gC⟩ hj hm (fun a oe cls d pn hz hfl => ⟨fun pins s σ H D I ⟨dd, e1, e2, h⟩ => by
      subst e1 e2
      exact (hsu2 a dd oe pn hz hfl).pss.run pins s σ H D I h⟩) .nil
  refine ⟨ps_imp (ps_clauses (tb := tb) hs hf hN tk (fun W pn xe tkW po => ⟨fun pins s σ H D I h => ?_⟩) C0) fun D σ H ⟨F, B, ρ, E1, g, ⟨E, bl, q⟩, f1⟩ => ?_, fun E E' ρ b ⟨E0, b0, q⟩ => ⟨E0, b0.trans b, q⟩⟩
  · obtain ⟨F, B, ρ, E, xd', gg, hlk, q, f⟩ := h
    have hG' : Xw _ (G.tr xd' F) (X.tr pn xe) := ⟨⟨W, tkW, fun F' B H σ ρ g C d z x v hx nx r => by
      have e : F' = F := g.fx
      exact hlk B H σ ρ (Go.untr gg.fx g) C d z x v hx nx r⟩, hx.kk, hx.gi⟩
    exact (hb (G.tr xd' F) pn xe ⟨rfl, rfl, rfl⟩ hG' po).pss.run pins s σ H D I ⟨F, B, ρ, E, gg.tr, q, ⟨fun B H σ ρ z g' => f.nx B H σ ρ z (Go.untr gg.fx g'), f.rt, fun B H σ ρ z g' => f.bk B H σ ρ z (Go.untr gg.fx g'), fun B H σ ρ z g' => f.ct B H σ ρ z (Go.untr gg.fx g')⟩⟩
  · have f := f1.lo bl
    obtain ⟨xd', h1, h2⟩ := q
    refine ⟨F, B, ρ, E, xd', g, fun B' H' σ' ρ' g' C d z x v hx' nx r => ?_, h2 F, f⟩
    have back : ∀ k, Fit G F (unset k E) (offE k D) := fun k => ⟨fun B2 H2 σ2 ρ2 z g2 => f.nx _ _ _ _ z (g2.clr k), f.rt, fun B2 H2 σ2 ρ2 z g2 => f.bk _ _ _ _ z (g2.clr k), fun B2 H2 σ2 ρ2 z g2 => f.ct _ _ _ _ z (g2.clr k)⟩
    obtain ⟨hi', hj', ⟨e, hw⟩ | ⟨hne, e, hw⟩⟩ := h1 _ _ _ z
    · subst e
      exact ⟨true, T.te, fun _ a na => ⟨x, rfl, rfl, F, B', _, _, g'.put hi' (fun _ z => by cases z) (.ex hx' nx r), hw a x, back i⟩, fun z => by cases z⟩
    · subst e
      refine ⟨false, by rw [h21, decide_eq_false hne], (fun z => by cases z), fun _ => ⟨true, T2.te, fun _ a na => ⟨x, rfl, rfl, F, B', _, _, g'.put hj' (fun _ z => by cases z) (.ex hx' nx r), hw a x, back j⟩, fun z => by cases z⟩⟩
end
end Dl
/-! The data layer, part 20: new lists by if, error classes apart, chains of comparisons, a list's item taken out and kept. -/
namespace Dl
open PySem PySem.Spec PyProof.Rows L2
theorem exm_not {K : PySem.W.Frag} {C D : Addr} (h1 : PySem.W.subIn K (.ref D) (.type "BaseException") = some true) (h2 : PySem.W.isClsIn K D = true) (h3 : PySem.W.typeIn K (.ref D) = some (.type "type")) (h4 : PySem.W.subIn K (.ref C) (.ref D) = some false) : PySem.W.exmOne K (.ref C) (.ref D) = some false := by
  have e1 : (PySem.W.subIn K (.ref D) (.type "BaseException") == some true) = true := by rw [h1] <;> rfl
  have e2 : ((PySem.W.clsIn K D).isSome && PySem.W.typeIn K (.ref D) == some (.type "type")) = true := by
    have h2' : (PySem.W.clsIn K D).isSome = true := h2
    rw [h2', h3] <;> rfl
  show (if (PySem.W.subIn K (.ref D) (.type "BaseException") == some true) = true then (if ((PySem.W.clsIn K D).isSome && PySem.W.typeIn K (.ref D) == some (.type "type")) = true then PySem.W.subIn K (.ref C) (.ref D) else none) else none) = some false
  rw [if_pos e1, if_pos e2]
  exact h4
theorem apart_mk {K : PySem.W.Frag} {h : Heap} {mg : Str → Option Value} {x y : Str} {C D c d : Addr} (X : K.In h) (G : h.Ns mainGlobals mg) (hx : PySem.W.nsIn K mainGlobals x = some (some (.ref c))) (hy : PySem.W.nsIn K mainGlobals y = some (some (.ref d)))
    (gx : mg x = some (.ref C)) (gy : mg y = some (.ref D)) (h1 : PySem.W.subIn K (.ref d) (.type "BaseException") = some true) (h2 : PySem.W.isClsIn K d = true) (h3 : PySem.W.typeIn K (.ref d) = some (.type "type")) (h4 : PySem.W.subIn K (.ref c) (.ref d) = some false) :
    PySem.W.exmOne K (.ref C) (.ref D) = some false := by
  have e1 : C = c := by
    have := gx.symm.trans (PySem.W.mg_of X G hx)
    injection this with this; injection this
  have e2 : D = d := by
    have := gy.symm.trans (PySem.W.mg_of X G hy)
    injection this with this; injection this
  subst e1 e2
  exact exm_not h1 h2 h3 h4
theorem apart_dec {prog : Program} {K : PySem.W.Frag} {mg : Str → Option Value} {nm msg : Str} {C D fI : Addr} (T : PySem.ErX.ErrTxt prog K mg nm msg D fI) (A : PySem.W.exmOne K (.ref C) (.ref D) = some false) : PySem.W.exmOne K (.ref C) (.ref D) = some (decide (C = D)) := by
  have ne : C ≠ D := fun e => by
    subst e
    rw [T.te] at A; cases A
  rw [decide_eq_false ne]; exact A
section
variable {G : Ga} {X : Cx} {a b c : Expr} {wa wb wc : WE} {ta : WT} {pos : Pos}
theorem df_if (hc : DT G X c ta) (ha : DF G X a wa) (hb : DF G X b wb) : DF G X (.IfExp c a b pos) (dIf ta wa wb) :=
  ⟨pe_imp (pe_ifExp hc.pt ha.pe hb.pe) fun σ H Q ⟨F, B, ρ, g, q⟩ => ⟨F, B, ρ, g, hc.mo _ _ _ (fun c q H' k o => by
    cases c with
    | true => exact ⟨F, B, ρ, g.step k o, ha.mo _ _ _ (fun d q p xs ds H2 e n k2 o2 h l => q p xs ds H2 e (fresh_back k o n) (k.trans k2) o2 h l) q⟩
    | false => exact ⟨F, B, ρ, g.step k o, hb.mo _ _ _ (fun d q p xs ds H2 e n k2 o2 h l => q p xs ds H2 e (fresh_back k o n) (k.trans k2) o2 h l) q⟩) q⟩, fun ρ Q Q' m h => hc.mo _ _ _ (fun c q => by
    cases c with
    | true => exact ha.mo _ _ _ m q
    | false => exact hb.mo _ _ _ m q) h⟩
/-- a < b < c of ints -/
def dCh (f g : Int → Int → Bool) (wa wb wc : WE) : WE := fun ρ Q => wa ρ fun x => wb ρ fun y => ∃ i j, x = .int i ∧ y = .int j ∧ if f i j = true then wc ρ fun z => ∃ k, z = .int k ∧ Q (.bool (g j k)) else Q (.bool false)
theorem mo_dCh {f g : Int → Int → Bool} (ha : Mo wa) (hb : Mo wb) (hc : Mo wc) : Mo (dCh f g wa wb wc) := fun ρ Q Q' m h => ha _ _ _ (fun x h => hb _ _ _ (fun y ⟨i, j, e1, e2, q⟩ => ⟨i, j, e1, e2, by
  by_cases z : f i j = true
  · rw [if_pos z] at q ⊢
    exact hc _ _ _ (fun z ⟨k, e, q⟩ => ⟨k, e, m _ q⟩) q
  · rw [if_neg z] at q ⊢
    exact m _ q⟩) h) h
theorem ch_lift {f g : Int → Int → Bool} (ha : DB G X a wa) (hb : DB G X b wb) (hc : DB G X c wc) : ∀ σ H Q, lf G (dCh f g wa wb wc) σ H Q → tChain (rI0 fun i j => .bl (f i j)) (rI0 fun i j => .bl (g i j)) (lb G wa) (lb G wb) (lb G wc) σ H Q := fun σ H Q ⟨F, B, ρ, gg, q⟩ =>
  ⟨F, B, ρ, gg, ha.mo _ _ _ (fun d q v H1 k1 o1 r1 => ⟨F, B, ρ, gg.step k1 o1, hb.mo _ _ _ (fun e ⟨i, j, e1, e2, qq⟩ v2 H2 k2 o2 r2 => by
    subst e1 e2
    have g2 := (gg.step k1 o1).step k2 o2
    refine ⟨i, j, rb_int (r1.step (gg.step k1 o1) k2), rb_int r2, _, rfl, ?_⟩
    by_cases z : f i j = true
    · rw [if_pos z] at qq ⊢
      exact ⟨F, B, ρ, g2, hc.mo _ _ _ (fun e ⟨k, e3, q⟩ v3 H3 k3 o3 r3 => by
        subst e3
        exact ⟨j, k, rb_int r2, rb_int r3, q _ H3 (k1.trans (k2.trans k3)) o3 (.bl _)⟩) qq⟩
    · rw [if_neg z] at qq ⊢
      exact qq _ H2 (k1.trans k2) o2 (.bl _)) q⟩) q⟩
abbrev ltI (i j : Int) : Bool := decide (i < j)
abbrev leI (i j : Int) : Bool := decide (i ≤ j)
theorem de_chLL (ha : DB G X a wa) (hb : DB G X b wb) (hc : DB G X c wc) (hm : lastMarks [.Lt, .Lt] [b, c] = false := by with_unfolding_all rfl) : DE G X (.Compare a [.Lt, .Lt] [b, c] pos) (dCh ltI ltI wa wb wc) := ⟨pe_imp (pe_chain op_lt op_lt ha.pe hb.pe hc.pe hm) (ch_lift ha hb hc), mo_dCh ha.mo hb.mo hc.mo⟩
theorem de_chLE (ha : DB G X a wa) (hb : DB G X b wb) (hc : DB G X c wc) (hm : lastMarks [.Lt, .LtE] [b, c] = false := by with_unfolding_all rfl) : DE G X (.Compare a [.Lt, .LtE] [b, c] pos) (dCh ltI leI wa wb wc) := ⟨pe_imp (pe_chain op_lt op_le ha.pe hb.pe hc.pe hm) (ch_lift ha hb hc), mo_dCh ha.mo hb.mo hc.mo⟩
theorem de_chEL (ha : DB G X a wa) (hb : DB G X b wb) (hc : DB G X c wc) (hm : lastMarks [.LtE, .Lt] [b, c] = false := by with_unfolding_all rfl) : DE G X (.Compare a [.LtE, .Lt] [b, c] pos) (dCh leI ltI wa wb wc) := ⟨pe_imp (pe_chain op_le op_lt ha.pe hb.pe hc.pe hm) (ch_lift ha hb hc), mo_dCh ha.mo hb.mo hc.mo⟩
theorem de_chEE (ha : DB G X a wa) (hb : DB G X b wb) (hc : DB G X c wc) (hm : lastMarks [.LtE, .LtE] [b, c] = false := by with_unfolding_all rfl) : DE G X (.Compare a [.LtE, .LtE] [b, c] pos) (dCh leI leI wa wb wc) := ⟨pe_imp (pe_chain op_le op_le ha.pe hb.pe hc.pe hm) (ch_lift ha hb hc), mo_dCh ha.mo hb.mo hc.mo⟩
theorem tt_lift {w : WE} (h : Mo w) {t : TE} (l : ∀ σ H Q, lf G w σ H Q → t σ H Q) : ∀ σ H Q, lt' G (tb w) σ H Q → tTest t σ H Q := fun σ H Q q => l σ H _ (tb_lift h σ H Q q)
theorem dt_chLL (ha : DB G X a wa) (hb : DB G X b wb) (hc : DB G X c wc) (hm : lastMarks [.Lt, .Lt] [b, c] = false := by with_unfolding_all rfl) : DT G X (.Compare a [.Lt, .Lt] [b, c] pos) (tb (dCh ltI ltI wa wb wc)) := ⟨pt_imp (pt_chain op_lt op_lt ha.pe hb.pe hc.pe hm) (tt_lift (mo_dCh ha.mo hb.mo hc.mo) (ch_lift ha hb hc)), mo_tb (mo_dCh ha.mo hb.mo hc.mo)⟩
theorem dt_chLE (ha : DB G X a wa) (hb : DB G X b wb) (hc : DB G X c wc) (hm : lastMarks [.Lt, .LtE] [b, c] = false := by with_unfolding_all rfl) : DT G X (.Compare a [.Lt, .LtE] [b, c] pos) (tb (dCh ltI leI wa wb wc)) := ⟨pt_imp (pt_chain op_lt op_le ha.pe hb.pe hc.pe hm) (tt_lift (mo_dCh ha.mo hb.mo hc.mo) (ch_lift ha hb hc)), mo_tb (mo_dCh ha.mo hb.mo hc.mo)⟩
theorem dt_chEL (ha : DB G X a wa) (hb : DB G X b wb) (hc : DB G X c wc) (hm : lastMarks [.LtE, .Lt] [b, c] = false := by with_unfolding_all rfl) : DT G X (.Compare a [.LtE, .Lt] [b, c] pos) (tb (dCh leI ltI wa wb wc)) := ⟨pt_imp (pt_chain op_le op_lt ha.pe hb.pe hc.pe hm) (tt_lift (mo_dCh ha.mo hb.mo hc.mo) (ch_lift ha hb hc)), mo_tb (mo_dCh ha.mo hb.mo hc.mo)⟩
theorem dt_chEE (ha : DB G X a wa) (hb : DB G X b wb) (hc : DB G X c wc) (hm : lastMarks [.LtE, .LtE] [b, c] = false := by with_unfolding_all rfl) : DT G X (.Compare a [.LtE, .LtE] [b, c] pos) (tb (dCh leI leI wa wb wc)) := ⟨pt_imp (pt_chain op_le op_le ha.pe hb.pe hc.pe hm) (tt_lift (mo_dCh ha.mo hb.mo hc.mo) (ch_lift ha hb hc)), mo_tb (mo_dCh ha.mo hb.mo hc.mo)⟩
end
/-! ### y = x.pop(e), x a list of its own -/
section
variable {G : Ga} {X : Cx} {e : Expr} {w : WE} {pos p p2 p3 p4 : Pos} {i j : Nat} {x y : Str}
def dSetPop (i j : Nat) (w : WE) : WS := fun E ρ => i ≠ j ∧ j < ρ.length ∧ ∃ ds, ρ[i]? = some (some (.o ds)) ∧ w ρ fun d => ∃ (n : Nat) (z : PyData), d = .int (n : Nat) ∧ ds[n]? = some z ∧ n < 2 ^ 63 ∧ E.nx ((ρ.set i (some (.o (ds.eraseIdx n)))).set j (some (.v z)))
theorem ds_setPop (hN : X.N.Nodup) (hj : X.N[j]? = some y) (hy : Loc X.env.scope y) (hx : PE X (.Name x p) (tVar i)) (he : DE G X e w)
    (hbx : attributeBase (.Name x p) "pop" X.env (eval (.Name x p) X.env) = eval (.Name x p) X.env := by rfl)
    (few1 : ((backTo p4 (starEach [e] X.env)).all (fun x => !x.1) && (backToKw p4 (keywordEach [] X.env)).all (fun x => x.1.isSome)
      && decide ([e].length + ([] : List Keyword).length + (if ([] : List Keyword).isEmpty then 0 else 1) < 30)) = true := by rfl)
    (line1 : (p3.endLine == p4.line) = true := by rfl) (s1 : starEach [e] X.env = (false, eval e X.env) :: starEach [] X.env := by rfl) (plain1 : (backTo p4 (starEach [] X.env)).any (·.1) = false := by rfl)
    (hs : swapsWith (.Call (.Attribute (.Name x p) "pop" p3) [e] [] p4) (some (.Name y p2)) pos.line X.env = pure false := by rfl) (hf : X.fn y = true ∨ X.env.scope.names.lookup y = some .local := by first | exact .inl rfl | exact .inr rfl | assumption) :
    DS G X (.Assign [.Name y p2] (.Call (.Attribute (.Name x p) "pop" p3) [e] [] p4) pos) (dSetPop i j w) :=
  ⟨ps_imp (ps_set hN hj hy (pe_bm PySem.F.plainAttrs_list PySem.F.slot_list_pop PySem.F.type_list_pop mt_popAt hx (pa_cons he.pe pa_nil s1) hbx few1 line1 s1 plain1) hs hf) fun D σ H ⟨F, B, ρ, E, g, ⟨hij, hj, ds, h1, q⟩, f⟩ => by
    obtain ⟨a, xs, a1, a2, _⟩ := g.mut (es := ds) h1
    refine ⟨_, a1, .inl ⟨rfl, xs, .inl (.inl a2)⟩, F, B, ρ, g, he.mo _ _ _ (fun d ⟨n, z, e1, hz, hn, q⟩ v H' k o r => ?_) q⟩
    subst e1
    have g' := g.step k o
    obtain ⟨a', xs', a1', a2', la, gm⟩ := g'.mut (es := ds.eraseIdx n) h1
    have ea : a = a' := by
      have := a1.symm.trans a1'
      injection this with this; injection this with this; injection this
    subst ea
    obtain ⟨zv, hzv, rz⟩ := la.get hz
    have hn2 : n < xs'.length := (List.getElem?_eq_some_iff.mp hzv).1
    have g2 := gm _ (RpL.erase n la)
    have rz' : Rp B (upd H' a (.lst (xs'.eraseIdx n))) zv z := rz.mv (fun _ z => z) fun c u nc hc => by
      rw [upd_ne (fun ec => nc (by
        rw [ec]
        obtain ⟨x0, c1, c2⟩ := g'.re.at_ i _ h1
        cases c2 with
        | o bb _ _ _ =>
          have := a1'.symm.trans c1
          injection this with this; injection this with this; injection this with this
          rw [this]; exact bb))]
      exact hc
    exact ⟨a, xs', n, n, zv, rfl, by rw [rp_int r], a2', by omega, by omega, seq_ix hn2, hzv, f.nx _ _ _ _ q (g2.put (by simpa using hj) (fun _ z => by cases z) (.v rz'))⟩,
   fun E E' ρ b ⟨hij, hj, ds, h1, q⟩ => ⟨hij, hj, ds, h1, he.mo _ _ _ (fun d ⟨n, z, e1, hz, hn, q⟩ => ⟨n, z, e1, hz, hn, b.nx _ q⟩) q⟩⟩
end
end Dl
/-! The data layer, part 21: lists lent to a def; what a name holds, walked. -/
namespace Dl
open PySem PySem.Spec PyProof.Rows L2
def gBor (i : Nat) (ws : WG) : WG := fun ρ Q => ∃ ds, (ρ[i]? = some (some (.o ds)) ∨ ρ[i]? = some (some (.b ds))) ∧ ws ρ fun svs => Q (.b ds :: svs)
section
variable {G : Ga} {X : Cx} {e : Expr} {es : List Expr} {ws : WG}
theorem dg_bor {i : Nat} (h : PE X e (tVar i)) (hr : DG G X es ws) (hs : starEach (e :: es) X.env = (false, eval e X.env) :: starEach es X.env := by rfl) : DG G X (e :: es) (gBor i ws) :=
  ⟨pa_imp (pa_cons h hr.pa hs) fun σ H Q ⟨F, B, ρ, g, ds, hd, q⟩ => by
    have : ∃ a xs, σ[i]? = some (some (.ref a)) ∧ B a ∧ ¬ Md G.dl a ∧ H a = some (.lst xs) ∧ RpL B H xs ds := by
      rcases hd with hd | hd
      · obtain ⟨x, h1, h2⟩ := g.re.at_ i _ hd
        cases h2 with
        | o b n e l => exact ⟨_, _, h1, b, fun z => n (g.md _ z), e, l⟩
      · obtain ⟨x, h1, h2⟩ := g.re.at_ i _ hd
        cases h2 with
        | b z m e l => exact ⟨_, _, h1, g.b0 _ z, m, e, l⟩
    obtain ⟨a, xs, h1, b, m, e, l⟩ := this
    exact ⟨_, h1, F, B, ρ, g, hr.mo _ _ _ (fun ds q vs H2 k2 o2 l2 => q _ H2 k2 o2 (.cons (.b b m (k2 _ _ m e) (l.mk (g.kb k2))) l2)) q⟩,
   fun ρ Q Q' m ⟨ds, hd, q⟩ => ⟨ds, hd, hr.mo _ _ _ (fun ds q => m _ q) q⟩⟩
end
/-- what slot i holds, walked by a statement: a value, or a list that is lent -/
def iVar (i : Nat) : WI := fun ρ Q => (∃ d, ρ[i]? = some (some (.v d)) ∧ ∃ ds, (d = .list ds ∨ d = .tuple ds) ∧ Q ds) ∨ ∃ ds, ρ[i]? = some (some (.b ds)) ∧ Q ds
section
variable {G : Ga} {X : Cx} {tg e : Expr} {i : Nat}
theorem di_slot (h : PE X e (tVar i)) : DI G X tg e (iVar i) :=
  ⟨pi_imp (pi_seq h) fun σ H R ⟨F, B, ρ, g, q⟩ => by
    have mb : ∀ a, Md G.dl a → (G.B0 a ∨ pinH G B H a = none) := fun a z => .inl (g.md a z)
    rcases q with ⟨d, hd, ds, e, q⟩ | ⟨ds, hd, q⟩
    · obtain ⟨x, h1, h2⟩ := g.re.at_ i _ hd
      cases h2 with
      | v r =>
        have r2 := Rp.pinned g.b0 _ _ r
        rcases e with rfl | rfl
        · cases r2 with
          | @lst a xs _ n e l => exact ⟨_, h1, a, xs, rfl, .inl ⟨.of (pinH_some e).1, q _ _ .refl g.deal (it_list mb (fun H2 k2 => k2 a _ (fun z => n (mb _ z)) e) l)⟩⟩
        · cases r2 with
          | @tup a xs _ n e l => exact ⟨_, h1, a, xs, rfl, .inr ⟨.of (pinH_some e).1, q _ _ .refl g.deal (it_tup mb (fun H2 k2 => k2 a _ (fun z => n (mb _ z)) e) l)⟩⟩
    · obtain ⟨x, h1, h2⟩ := g.re.at_ i _ hd
      cases h2 with
      | @b a xs _ z m e l =>
        have ep : pinH G B H a = some (.lst xs) := by rw [pinH_of (fun y => y.2 z)]; exact e
        exact ⟨_, h1, a, xs, rfl, .inl ⟨.of e, q _ _ .refl g.deal (it_list mb (fun H2 k2 => k2 a _ m ep) (RpL.pinned g.b0 _ _ l))⟩⟩,
   fun ρ Q Q' m q => q.imp (fun ⟨d, h, ds, e, q⟩ => ⟨d, h, ds, e, m _ q⟩) fun ⟨ds, h, q⟩ => ⟨ds, h, m _ q⟩⟩
end
/-- what a def is handed: a value, or a list that is lent -/
def AV (sv : SV) (d : PyData) : Prop := sv = .v d ∨ ∃ ds, d = .list ds ∧ sv = .b ds
end Dl
/-! Mathematics: lots of moduli, their fitting numbers. -/
namespace Dl
open PySem PySem.Spec PyProof.Rows L2
def toI : PyData → Int
  | .int i => i
  | _ => 0
theorem toI_ints (ns : List Int) : (ns.map PyData.int).map toI = ns := by
  rw [List.map_map]; exact List.map_id ns
theorem isI_ints (ns : List Int) : (ns.map PyData.int).all isI = true := by simp [isI]
theorem ints_of {ds : List PyData} (h : ds.all isI = true) : ds = (ds.map toI).map PyData.int := by
  obtain ⟨ns, e⟩ := all_ints (ds := ds) fun x hx => List.all_eq_true.mp h x hx
  subst e
  rw [toI_ints]
def lotB (qs : List Int) : Bool := qs.all (fun q => decide (2 < q)) && (decide (qs.Pairwise (· ≤ ·)) && decide (qs.Pairwise fun a b => Int.gcd a b = 1))
def isLotB : PyData → Bool
  | .tuple ds => ds.all isI && lotB (ds.map toI)
  | _ => false
structure Lot (qs : List Int) : Prop where
  big : ∀ q ∈ qs, 2 < q
  asc : qs.Pairwise (· ≤ ·)
  cop : qs.Pairwise copr
theorem lotB_iff {qs : List Int} : lotB qs = true ↔ Lot qs := by
  unfold lotB
  simp only [Bool.and_eq_true, List.all_eq_true, decide_eq_true_eq]
  exact ⟨fun ⟨a, b, c⟩ => ⟨a, b, c⟩, fun h => ⟨h.big, h.asc, h.cop⟩⟩
theorem isLot_ints (qs : List Int) : isLotB (.tuple (qs.map .int)) = lotB qs := by
  show ((qs.map PyData.int).all isI && lotB ((qs.map PyData.int).map toI)) = lotB qs
  rw [isI_ints, toI_ints, Bool.true_and]
theorem isLot_of {d : PyData} (h : isLotB d = true) : ∃ qs, d = .tuple (qs.map .int) ∧ Lot qs := by
  cases d with
  | tuple ds =>
    simp only [isLotB, Bool.and_eq_true] at h
    exact ⟨ds.map toI, by rw [← ints_of h.1], lotB_iff.mp h.2⟩
  | _ => cases h
theorem Lot.nil : Lot [] := ⟨by simp, by simp, by simp⟩
theorem Lot.pos {qs : List Int} (h : Lot qs) : ∀ q ∈ qs, 0 < q := fun q hq => by have := h.big q hq; omega
theorem Lot.sub {qs rs : List Int} (h : Lot qs) (s : rs.Sublist qs) : Lot rs := ⟨fun q hq => h.big q (s.subset hq), h.asc.sublist s, h.cop.sublist s⟩
theorem Lot.tail {q : Int} {qs : List Int} (h : Lot (q :: qs)) : Lot qs := h.sub (List.sublist_cons_self _ _)
/-- moduli are unlike -/
theorem Lot.lt {qs : List Int} (h : Lot qs) : qs.Pairwise (· < ·) := by
  refine List.Pairwise.imp_of_mem (fun {a b} ha hb hab => ?_) (h.asc.and h.cop)
  have h1 := h.big a ha
  rcases Int.lt_or_eq_of_le hab.1 with z | z
  · exact z
  · exfalso
    have h2 := hab.2
    unfold copr at h2
    rw [z, Int.gcd_self] at h2
    omega
theorem perm_of_mem {l m : List Int} (hl : l.Nodup) (hm : m.Nodup) (h : ∀ x, x ∈ l ↔ x ∈ m) : l.Perm m := (List.perm_ext_iff_of_nodup hl hm).mpr h
theorem srt_of_mem {l m : List Int} (hl : l.Nodup) (hm : m.Nodup) (s : m.Pairwise (· ≤ ·)) (h : ∀ x, x ∈ l ↔ x ∈ m) : srt l = m :=
  (srt_eq (perm_of_mem hm hl fun x => (h x).symm) s).symm

/-! ### the numbers below the product that fit -/
def fitL (qs : List Int) (n : Int) : Bool := qs.all fun q => decide (n % q < 2)
noncomputable def resP (qs : List Int) : List Int × Int := qs.foldl (fun p q => (resS p.1 p.2 q, p.2 * q)) (([0] : List Int), (1 : Int))
theorem resP_snoc (qs : List Int) (q : Int) : resP (qs ++ [q]) = (resS (resP qs).1 (resP qs).2 q, (resP qs).2 * q) := by
  unfold resP
  rw [List.foldl_append]
  rfl
theorem rev_ind {α : Type} {P : List α → Prop} (h0 : P []) (hs : ∀ l x, P l → P (l ++ [x])) (l : List α) : P l := by
  have : ∀ m : List α, P m.reverse := fun m => by
    induction m with
    | nil => exact h0
    | cons x m ih => rw [List.reverse_cons]; exact hs _ _ ih
  have := this l.reverse
  rwa [List.reverse_reverse] at this
theorem resP_whole (qs : List Int) : (resP qs).2 = prodI qs := by
  induction qs using rev_ind with
  | h0 => rfl
  | hs l q ih => rw [resP_snoc, prodI_snoc, ih]
theorem resOf_snoc (qs : List Int) (q : Int) : resOf (qs ++ [q]) = resS (resOf qs) (prodI qs) q := by
  have : ∀ l, resOf l = (resP l).1 := fun l => rfl
  rw [this, resP_snoc, this, resP_whole]
theorem dvd_prod {qs : List Int} {q : Int} (h : q ∈ qs) : q ∣ prodI qs := by
  induction qs with
  | nil => cases h
  | cons x l ih =>
    rcases List.mem_cons.mp h with rfl | h
    · exact Int.dvd_mul_right _ _
    · exact Int.dvd_mul_of_dvd_right (ih h)
theorem cop_all {l : List Int} {q : Int} (h : ∀ b ∈ l, copr b q) : Int.gcd (prodI l) q = 1 := by
  induction l with
  | nil => simp [prodI]
  | cons x l ih => exact cop_mul (h x List.mem_cons_self) (ih fun b hb => h b (List.mem_cons_of_mem _ hb))
theorem mod_of_dvd {x w q r : Int} (h : q ∣ w) (e : x % w = r % w) : x % q = r % q := by
  rw [← Int.emod_emod_of_dvd x h, e, Int.emod_emod_of_dvd r h]
structure Crt (w q k : Int) : Prop where
  w0 : 0 < w
  q2 : 2 < q
  k0 : 0 ≤ k
  k1 : k < q
  kw : k * w % q = 1
section
variable {w q k : Int}
theorem Crt.put (C : Crt w q k) {r e : Int} (h0 : 0 ≤ r) (h1 : r < w) (e0 : 0 ≤ e) (e1 : e < 2) : 0 ≤ r + w * (k * (e - r) % q) ∧ r + w * (k * (e - r) % q) < w * q ∧ (r + w * (k * (e - r) % q)) % w = r ∧ (r + w * (k * (e - r) % q)) % q = e := by
  have hq := C.q2
  have hw := C.w0
  have m0 := Int.emod_nonneg (k * (e - r)) (show q ≠ 0 by omega)
  have m1 := Int.emod_lt_of_pos (k * (e - r)) (show 0 < q by omega)
  have key : (w * (k * (e - r) % q)) % q = (e - r) % q := by
    have a : w * (k * (e - r)) = (k * w) * (e - r) := by grind
    rw [Int.mul_emod, Int.emod_emod_of_dvd _ (Int.dvd_refl q), ← Int.mul_emod, a, Int.mul_emod, C.kw, Int.one_mul, Int.emod_emod_of_dvd _ (Int.dvd_refl q)]
  generalize k * (e - r) % q = y at *
  have y0 : 0 ≤ w * y := Int.mul_nonneg (by omega) m0
  have y1 : w * (y + 1) ≤ w * q := Int.mul_le_mul_of_nonneg_left (by omega) (by omega)
  rw [Int.mul_add, Int.mul_one] at y1
  refine ⟨by omega, by omega, ?_, ?_⟩
  · rw [Int.add_mul_emod_self_left]; exact Int.emod_eq_of_lt h0 h1
  · rw [Int.add_emod, key, ← Int.add_emod, show r + (e - r) = e by omega]
    exact Int.emod_eq_of_lt e0 (by omega)
theorem Crt.back (C : Crt w q k) {x : Int} (h0 : 0 ≤ x) (h1 : x < w * q) : x = x % w + w * (k * (x % q - x % w) % q) := by
  have hq := C.q2
  have hw := C.w0
  have a := Int.emod_add_mul_ediv x w
  have t0 : 0 ≤ x / w := Int.ediv_nonneg h0 (by omega)
  have t1 : x / w < q := Int.ediv_lt_of_lt_mul hw (by rw [Int.mul_comm]; exact h1)
  have key : k * (x % q - x % w) % q = x / w := by
    have e1 : (x % q - x % w) % q = (w * (x / w)) % q := by
      rw [Int.sub_emod, Int.emod_emod_of_dvd _ (Int.dvd_refl q), ← Int.sub_emod]
      congr 1
      omega
    rw [Int.mul_emod, e1, ← Int.mul_emod, show k * (w * (x / w)) = (k * w) * (x / w) by grind, Int.mul_emod, C.kw, Int.one_mul, Int.emod_emod_of_dvd _ (Int.dvd_refl q)]
    exact Int.emod_eq_of_lt t0 t1
  rw [key]
  exact a.symm
end
theorem crt_of {w q : Int} (hw : 0 < w) (hq : 2 < q) (hg : Int.gcd w q = 1) : Crt w q (invK w q) := by
  obtain ⟨k, h1, h2⟩ := inv_exists hq hg
  rw [invK_of (by omega) (by omega) h1 h2]
  exact ⟨hw, hq, by omega, h1, h2⟩
theorem mem_resS {l : List Int} {w q x : Int} : x ∈ resS l w q ↔ ∃ r ∈ l, ∃ e : Int, (e = 0 ∨ e = 1) ∧ x = r + w * (invK w q * (e - r) % q) := by
  unfold resS
  rw [List.mem_flatMap]
  refine ⟨fun ⟨r, hr, h⟩ => ?_, fun ⟨r, hr, e, he, h⟩ => ⟨r, hr, ?_⟩⟩
  · have : x = r + w * (invK w q * (0 - r) % q) ∨ x = r + w * (invK w q * (1 - r) % q) := by simpa using h
    rcases this with h | h
    · exact ⟨r, hr, 0, .inl rfl, h⟩
    · exact ⟨r, hr, 1, .inr rfl, h⟩
  · rcases he with rfl | rfl <;> rw [h] <;> simp
structure ResOk (qs : List Int) : Prop where
  mem : ∀ x, x ∈ resOf qs ↔ 0 ≤ x ∧ x < prodI qs ∧ fitL qs x = true
  nd : (resOf qs).Nodup
theorem fitL_snoc (qs : List Int) (q n : Int) : fitL (qs ++ [q]) n = (fitL qs n && decide (n % q < 2)) := by simp [fitL]
theorem fitL_mod {qs : List Int} {w x r : Int} (h : ∀ q ∈ qs, q ∣ w) (e : x % w = r % w) : fitL qs x = fitL qs r := by
  unfold fitL
  rw [Bool.eq_iff_iff, List.all_eq_true, List.all_eq_true]
  exact ⟨fun z q hq => by have := z q hq; rwa [mod_of_dvd (h q hq) e] at this, fun z q hq => by have := z q hq; rwa [← mod_of_dvd (h q hq) e] at this⟩
theorem res_ok : ∀ {qs : List Int}, (∀ q ∈ qs, 2 < q) → qs.Pairwise copr → ResOk qs := fun {qs} => by
  induction qs using rev_ind with
  | h0 =>
    intro _ _
    have e : resOf [] = [0] := rfl
    refine ⟨fun x => ?_, by rw [e]; simp⟩
    rw [e]
    simp only [List.mem_singleton, prodI, fitL, List.all_nil, and_true]
    omega
  | hs l q ih =>
    intro h2 hc
    have hl2 : ∀ q ∈ l, 2 < q := fun x hx => h2 x (List.mem_append_left _ hx)
    obtain ⟨c1, _, c3⟩ := List.pairwise_append.mp hc
    have I := ih hl2 c1
    have hq : 2 < q := h2 q (by simp)
    have hw : 0 < prodI l := prodI_pos fun x hx => by have := hl2 x hx; omega
    have C := crt_of hw hq (cop_all fun b hb => c3 b hb q (by simp))
    have dv : ∀ q ∈ l, q ∣ prodI l := fun q hq => dvd_prod hq
    rw [show ResOk (l ++ [q]) ↔ _ from Iff.rfl]
    refine ⟨fun x => ?_, ?_⟩
    · rw [resOf_snoc, mem_resS, prodI_snoc, fitL_snoc, Bool.and_eq_true, decide_eq_true_eq]
      constructor
      · rintro ⟨r, hr, e, he, rfl⟩
        obtain ⟨r0, r1, rf⟩ := (I.mem r).mp hr
        obtain ⟨a, b, c, d⟩ := C.put (e := e) r0 r1 (by omega) (by omega)
        exact ⟨a, b, by rw [fitL_mod dv (r := r) (by rw [c, Int.emod_eq_of_lt r0 r1])]; exact rf, by omega⟩
      · rintro ⟨a, b, c, d⟩
        have m0 := Int.emod_nonneg x (show prodI l ≠ 0 by omega)
        have m1 := Int.emod_lt_of_pos x hw
        have n0 := Int.emod_nonneg x (show q ≠ 0 by omega)
        refine ⟨x % prodI l, (I.mem _).mpr ⟨m0, m1, ?_⟩, x % q, by omega, C.back a b⟩
        rw [← fitL_mod dv (x := x) (by rw [Int.emod_emod_of_dvd _ (Int.dvd_refl _)])]
        exact c
    · rw [resOf_snoc]
      unfold resS List.Nodup
      rw [List.pairwise_flatMap]
      refine ⟨fun r hr => ?_, I.nd.imp_of_mem fun {r s} hr hs hne x hx y hy => ?_⟩
      · obtain ⟨r0, r1, _⟩ := (I.mem r).mp hr
        have a := (C.put (e := 0) r0 r1 (by omega) (by omega)).2.2.2
        have b := (C.put (e := 1) r0 r1 (by omega) (by omega)).2.2.2
        simp only [List.pairwise_cons, List.mem_singleton, forall_eq, List.not_mem_nil, false_imp_iff, implies_true, List.Pairwise.nil, and_true]
        intro z
        rw [z] at a
        omega
      · obtain ⟨r0, r1, _⟩ := (I.mem r).mp hr
        obtain ⟨s0, s1, _⟩ := (I.mem s).mp hs
        have fx : x % prodI l = r := by
          rcases List.mem_cons.mp hx with e | hx
          · rw [e]; exact (C.put (e := 0) r0 r1 (by omega) (by omega)).2.2.1
          · rw [List.mem_singleton.mp hx]; exact (C.put (e := 1) r0 r1 (by omega) (by omega)).2.2.1
        have fy : y % prodI l = s := by
          rcases List.mem_cons.mp hy with e | hy
          · rw [e]; exact (C.put (e := 0) s0 s1 (by omega) (by omega)).2.2.1
          · rw [List.mem_singleton.mp hy]; exact (C.put (e := 1) s0 s1 (by omega) (by omega)).2.2.1
        intro z
        rw [z, fy] at fx
        exact hne fx.symm
theorem resOf_len (qs : List Int) : (resOf qs).length = 2 ^ qs.length := by
  induction qs using rev_ind with
  | h0 => rfl
  | hs l q ih =>
    rw [resOf_snoc, List.length_append, List.length_singleton, Nat.pow_succ, ← ih]
    unfold resS
    generalize resOf l = m
    induction m with
    | nil => rfl
    | cons x m ih => rw [List.flatMap_cons, List.length_append, ih]; simp; omega
end Dl
namespace Dl
open PySem PySem.Spec PyProof.Rows L2
theorem tri_len2 (ns : List Int) : ((List.range ns.length).flatMap fun i => ((ns.take i).map fun b => Int.gcd b ns[i]! == 1).map PyData.bool).length ≤ ns.length * ns.length := by
  have : ∀ l : List Nat, (l.flatMap fun i => ((ns.take i).map fun b => Int.gcd b ns[i]! == 1).map PyData.bool).length ≤ l.length * ns.length := fun l => by
    induction l with
    | nil => simp
    | cons x l ih =>
      rw [List.flatMap_cons, List.length_append, List.length_map, List.length_map, List.length_take, List.length_cons, Nat.succ_mul]
      omega
  have h := this (List.range ns.length)
  rwa [List.length_range] at h
theorem pairs_lot {ns : List Int} (h2 : ∀ q ∈ ns, 2 < q) (hs : ns.Pairwise (· ≤ ·)) : ((List.range ns.length).flatMap fun i => (ns.take i).map fun b => Int.gcd b ns[i]! == 1).all id = lotB ns := by
  rw [Bool.eq_iff_iff, lotB_iff, List.all_eq_true]
  constructor
  · intro h
    refine ⟨h2, hs, List.pairwise_iff_getElem.mpr fun i j hi hj hij => ?_⟩
    have hm : (Int.gcd ns[i] ns[j]! == 1) ∈ (List.range ns.length).flatMap fun i => (ns.take i).map fun b => Int.gcd b ns[i]! == 1 :=
      List.mem_flatMap.mpr ⟨j, List.mem_range.mpr hj, List.mem_map.mpr ⟨ns[i], List.mem_iff_getElem.mpr ⟨i, by rw [List.length_take]; omega, List.getElem_take⟩, rfl⟩⟩
    have := h _ hm
    rw [getElem!_pos ns j hj] at this
    unfold copr
    simpa using this
  · intro L b hb
    obtain ⟨j, hj, hb⟩ := List.mem_flatMap.mp hb
    obtain ⟨x, hx, rfl⟩ := List.mem_map.mp hb
    have hj' := List.mem_range.mp hj
    rw [getElem!_pos ns j hj']
    have := coprime_take L.cop hj' hx
    simpa using this
end Dl
namespace Dl
open PySem PySem.Spec PyProof.Rows L2
theorem nat_lt {a : Int} {n : Nat} (h0 : 0 ≤ a) (h1 : a < 2 ^ n) : a.natAbs < 2 ^ n := by
  have e : ((2 ^ n : Nat) : Int) = (2 : Int) ^ n := by rw [Int.natCast_pow]; rfl
  generalize (2 : Nat) ^ n = v at *
  generalize (2 : Int) ^ n = u at *
  omega
theorem int_lt {a : Int} {n : Nat} (h : a.natAbs < 2 ^ n) : a < 2 ^ n := by
  have e : ((2 ^ n : Nat) : Int) = (2 : Int) ^ n := by rw [Int.natCast_pow]; rfl
  generalize (2 : Nat) ^ n = v at *
  generalize (2 : Int) ^ n = u at *
  omega
theorem mul_nat {a b : Int} {n k : Nat} (ha : a.natAbs < 2 ^ n) (hb : b.natAbs < 2 ^ k) : (a * b).natAbs < 2 ^ (n + k) := by
  rw [Int.natAbs_mul, Nat.pow_add]; exact Nat.mul_lt_mul'' ha hb
theorem add_nat {a b : Int} {n : Nat} (ha : a.natAbs < 2 ^ n) (hb : b.natAbs < 2 ^ n) : (a + b).natAbs < 2 ^ (n + 1) := by
  rw [Nat.pow_succ]
  generalize (2 : Nat) ^ n = v at *
  omega
theorem sub_nat {a b : Int} {n : Nat} (ha : a.natAbs < 2 ^ n) (hb : b.natAbs < 2 ^ n) : (a - b).natAbs < 2 ^ (n + 1) := by
  rw [Nat.pow_succ]
  generalize (2 : Nat) ^ n = v at *
  omega
theorem up_nat {a : Int} {n k : Nat} (h : n ≤ k) (ha : a.natAbs < 2 ^ n) : a.natAbs < 2 ^ k := Nat.lt_of_lt_of_le ha (Nat.pow_le_pow_right (by decide) h)
theorem fm_congr {α β : Type} {f g : α → List β} {l : List α} (h : ∀ x ∈ l, f x = g x) : l.flatMap f = l.flatMap g := by
  induction l with
  | nil => rfl
  | cons x l ih => rw [List.flatMap_cons, List.flatMap_cons, h x List.mem_cons_self, ih fun y hy => h y (List.mem_cons_of_mem _ hy)]
theorem cdiv_of {a b : Int} {n : Nat} (h0 : 0 < b) (h : b.natAbs < 2 ^ n) (hn : 0 < n := by decide) (hs : n < 9000 := by decide) : CDivW a b := ⟨h0, Nat.lt_trans (log_lt h hn) hs⟩
end Dl
namespace Dl
open PySem PySem.Spec PyProof.Rows L2
/-- what a walk over a lot looks at, at place i -/
structure StepOk (ds : List PyData) (i : Nat) (q : Int) : Prop where
  at_ : ds[i]? = some (.int q)
  big : 2 < q
  asc : ∀ p, 0 < i → ds[i - 1]? = some (.int p) → p < q
  cop : ∀ j p, j < i → ds[j]? = some (.int p) → Int.gcd q p = 1
theorem step_ints {ds : List PyData} {i : Nat} (h : ∀ j, j < i → ∃ q, StepOk ds j q) (hi : i ≤ ds.length) : ∃ ns : List Int, ds.take i = ns.map .int ∧ ∀ q ∈ ns, 2 < q := by
  induction i with
  | zero => exact ⟨[], by simp, by simp⟩
  | succ i ih =>
    obtain ⟨ns, e, hb⟩ := ih (fun j hj => h j (by omega)) (by omega)
    obtain ⟨q, s⟩ := h i (by omega)
    refine ⟨ns ++ [q], by rw [List.take_succ, s.at_, e]; simp, fun x hx => ?_⟩
    rcases List.mem_append.mp hx with hx | hx
    · exact hb x hx
    · rw [List.mem_singleton.mp hx]; exact s.big
theorem lot_steps {ds : List PyData} : isLotB (.tuple ds) = true ↔ ∀ i, i < ds.length → ∃ q, StepOk ds i q := by
  constructor
  · intro h i hi
    obtain ⟨qs, e, L⟩ := isLot_of h
    injection e with e
    subst e
    have hi' : i < qs.length := by simpa using hi
    refine ⟨qs[i], by simp [hi'], L.big _ (List.getElem_mem hi'), fun p h0 hp => ?_, fun j p hj hp => ?_⟩
    · have h1 : i - 1 < qs.length := by omega
      have : p = qs[i - 1] := by simp [h1] at hp; exact hp.symm
      rw [this]
      exact List.pairwise_iff_getElem.mp L.lt (i - 1) i h1 hi' (by omega)
    · have h1 : j < qs.length := by omega
      have : p = qs[j] := by simp [h1] at hp; exact hp.symm
      rw [this, Int.gcd_comm]
      exact List.pairwise_iff_getElem.mp L.cop j i h1 hi' hj
  · intro h
    obtain ⟨ns, e, hb⟩ := step_ints (i := ds.length) h (Nat.le_refl _)
    rw [List.take_length] at e
    subst e
    rw [isLot_ints, lotB_iff]
    have get : ∀ {j : Nat} (hj : j < ns.length), (ns.map PyData.int)[j]? = some (.int ns[j]) := fun hj => by simp [hj]
    have val : ∀ {j : Nat} (hj : j < ns.length), StepOk (ns.map .int) j ns[j] := fun {j} hj => by
      obtain ⟨q, s⟩ := h j (by simpa using hj)
      have : q = ns[j] := by
        have := s.at_
        rw [get hj] at this
        simpa using this.symm
      rw [← this]; exact s
    have up : ∀ (j i : Nat) (hj : j < ns.length) (hi : i < j), ns[i] < ns[j] := fun j => by
      induction j with
      | zero => intro i _ hi; omega
      | succ j ih =>
        intro i hj hi
        have h1 := (val hj).asc ns[j] (by omega) (by simpa using get (j := j) (by omega))
        by_cases e : i = j
        · subst e; exact h1
        · exact Int.lt_trans (ih i (by omega) (by omega)) h1
    refine ⟨hb, List.pairwise_iff_getElem.mpr fun i j hi hj hij => Int.le_of_lt (up j i hj hij), List.pairwise_iff_getElem.mpr fun i j hi hj hij => ?_⟩
    have := (val hj).cop i ns[i] hij (get hi)
    unfold copr
    rw [Int.gcd_comm]; exact this
theorem lot_bad {ds : List PyData} {i : Nat} (hi : i < ds.length) (h : ¬ ∃ q, StepOk ds i q) : isLotB (.tuple ds) = false := by
  rw [← Bool.not_eq_true]
  exact fun z => h (lot_steps.mp z i hi)
def belowI (fs : List Int) (w n : Int) : Int := n / w * (fs.length : Int) + ((fs.filter fun x => decide (x < n % w)).length : Int)
def nextI (fs : List Int) (w n : Int) : Int := n - n % w + (fs.filter fun x => decide (n % w ≤ x)).headD (w + fs.headD 0)
end Dl
namespace Dl
open PySem PySem.Spec PyProof.Rows L2
theorem perm_erase {α : Type} : ∀ (l : List α) (i : Nat) (h : i < l.length), l.Perm (l[i] :: l.eraseIdx i)
  | x :: l, 0, _ => by simp
  | x :: l, i + 1, h => by
    have ih := perm_erase l i (by simpa using h)
    simp only [List.getElem_cons_succ, List.eraseIdx_cons_succ]
    exact (List.Perm.cons x ih).trans (List.Perm.swap _ _ _)
end Dl
namespace Dl
open PySem PySem.Spec PyProof.Rows L2
theorem sz0 : (0 ≤ sizeLine) = True := by rw [sizeLine_eq]; simp
theorem sz1 : (1 ≤ sizeLine) = True := by rw [sizeLine_eq]; simp
theorem sz2 : (2 ≤ sizeLine) = True := by rw [sizeLine_eq]; simp
theorem sz3 : (3 ≤ sizeLine) = True := by rw [sizeLine_eq]; simp
theorem sz4 : (4 ≤ sizeLine) = True := by rw [sizeLine_eq]; simp
theorem sz5 : (5 ≤ sizeLine) = True := by rw [sizeLine_eq]; simp
theorem sz6 : (6 ≤ sizeLine) = True := by rw [sizeLine_eq]; simp
theorem sz7 : (7 ≤ sizeLine) = True := by rw [sizeLine_eq]; simp
theorem sz8 : (8 ≤ sizeLine) = True := by rw [sizeLine_eq]; simp
theorem sz9 : (9 ≤ sizeLine) = True := by rw [sizeLine_eq]; simp
theorem sz10 : (10 ≤ sizeLine) = True := by rw [sizeLine_eq]; simp
theorem sz11 : (11 ≤ sizeLine) = True := by rw [sizeLine_eq]; simp
theorem sz12 : (12 ≤ sizeLine) = True := by rw [sizeLine_eq]; simp
theorem sz13 : (13 ≤ sizeLine) = True := by rw [sizeLine_eq]; simp
theorem sz14 : (14 ≤ sizeLine) = True := by rw [sizeLine_eq]; simp
theorem sz15 : (15 ≤ sizeLine) = True := by rw [sizeLine_eq]; simp
theorem sz16 : (16 ≤ sizeLine) = True := by rw [sizeLine_eq]; simp
theorem sz17 : (17 ≤ sizeLine) = True := by rw [sizeLine_eq]; simp
theorem sz18 : (18 ≤ sizeLine) = True := by rw [sizeLine_eq]; simp
theorem sz19 : (19 ≤ sizeLine) = True := by rw [sizeLine_eq]; simp
theorem sz20 : (20 ≤ sizeLine) = True := by rw [sizeLine_eq]; simp
theorem sz21 : (21 ≤ sizeLine) = True := by rw [sizeLine_eq]; simp
theorem sz22 : (22 ≤ sizeLine) = True := by rw [sizeLine_eq]; simp
theorem sz23 : (23 ≤ sizeLine) = True := by rw [sizeLine_eq]; simp
theorem sz24 : (24 ≤ sizeLine) = True := by rw [sizeLine_eq]; simp
theorem sz25 : (25 ≤ sizeLine) = True := by rw [sizeLine_eq]; simp
theorem sz26 : (26 ≤ sizeLine) = True := by rw [sizeLine_eq]; simp
theorem sz27 : (27 ≤ sizeLine) = True := by rw [sizeLine_eq]; simp
theorem sz28 : (28 ≤ sizeLine) = True := by rw [sizeLine_eq]; simp
theorem sz29 : (29 ≤ sizeLine) = True := by rw [sizeLine_eq]; simp
theorem sz30 : (30 ≤ sizeLine) = True := by rw [sizeLine_eq]; simp
theorem sz31 : (31 ≤ sizeLine) = True := by rw [sizeLine_eq]; simp
theorem sz32 : (32 ≤ sizeLine) = True := by rw [sizeLine_eq]; simp
theorem szl0 : (0 < sizeLine) = True := by rw [sizeLine_eq]; simp
end Dl
namespace Dl
open PySem PySem.Spec PyProof.Rows L2
theorem Crt.same {w q k u x : Int} (C : Crt w q k) (h : q ∣ u * w - 1) : (x * u) % q = (k * x) % q := by
  have hq := C.q2
  have e1 : (u * w) % q = 1 := by
    have := Int.emod_eq_emod_iff_emod_sub_eq_zero.mpr (Int.emod_eq_zero_of_dvd h)
    rw [this, Int.emod_eq_of_lt (by omega) (by omega)]
  have e2 : (x * u) % q = (x * u * (k * w)) % q := by
    rw [Int.mul_emod (x * u), C.kw, Int.mul_one, Int.emod_emod_of_dvd _ (Int.dvd_refl q)]
  have e3 : (k * x) % q = (k * x * (u * w)) % q := by
    rw [Int.mul_emod (k * x), e1, Int.mul_one, Int.emod_emod_of_dvd _ (Int.dvd_refl q)]
  rw [e2, e3]
  congr 1
  grind
theorem resS_take {l : List Int} {w q : Int} {i : Nat} (h : i < l.length) : resS (l.take (i + 1)) w q = resS (l.take i) w q ++ [l[i] + w * (invK w q * (0 - l[i]) % q), l[i] + w * (invK w q * (1 - l[i]) % q)] := by
  rw [List.take_succ, List.getElem?_eq_getElem h]; unfold resS; rw [List.flatMap_append]; simp
theorem resS_len (l : List Int) (w q : Int) : (resS l w q).length = 2 * l.length := by
  unfold resS
  induction l with
  | nil => rfl
  | cons x m ih => rw [List.flatMap_cons, List.length_append, ih]; simp; omega
end Dl
namespace Dl
theorem t_le {t o u r q : Int} (hb : (t.natAbs : Int) * o + (u.natAbs : Int) * r ≤ q) (ho : 0 < o) (hr : 0 ≤ r) : (t.natAbs : Int) ≤ q := by
  have h1 : (t.natAbs : Int) * 1 ≤ (t.natAbs : Int) * o := Int.mul_le_mul_of_nonneg_left (by omega) (by omega)
  have h2 : 0 ≤ (u.natAbs : Int) * r := Int.mul_nonneg (by omega) hr
  omega
end Dl
namespace Dl
open PySem PySem.Spec PyProof.Rows L2
/-- the ends with a statement ahead of them -/
def DEnds.sq (E : DEnds) (u : WS) : DEnds := { E with nx := fun ρ' => u E ρ' }
theorem dSeq_s {w u : WS} {E : DEnds} {ρ : En} : dSeq w u E ρ = w (E.sq u) ρ := rfl
theorem sq_nx {E : DEnds} {u : WS} {ρ : En} : (E.sq u).nx ρ = u E ρ := rfl
theorem sq_rt {E : DEnds} {u : WS} : (E.sq u).rt = E.rt := rfl
theorem sq_bk {E : DEnds} {u : WS} : (E.sq u).bk = E.bk := rfl
theorem sq_ct {E : DEnds} {u : WS} : (E.sq u).ct = E.ct := rfl
end Dl
namespace Dl
open PySem PySem.Spec PyProof.Rows L2

/-- what follows, kept from being looked into ahead of its time -/
inductive Tg {α : Sort u} (a : α) : Type
  | mk
def ifS (c : Bool) (A B : Prop) (_t : Tg A := .mk) (_s : Tg B := .mk) : Prop := if c = true then A else B
theorem ifS_t {A B : Prop} {t s} : ifS true A B t s = A := rfl
theorem ifS_f {A B : Prop} {t s} : ifS false A B t s = B := rfl
theorem ifS_t' {A B : Prop} {t s} : ifS true A B t s = A := rfl
theorem ifS_f' {A B : Prop} {t s} : ifS false A B t s = B := rfl
theorem dIfS_s {t : WT} {w u : WS} {E : DEnds} {ρ : En} : dIfS t w u E ρ = t ρ fun c => ifS c (w E ρ) (u E ρ) := rfl
/-- a def's promise, what follows it not looked into -/
def callS (S : SpD) (args : List SV) (Q : PyData → Prop) (E : Addr → PyData → Prop) (_t : Tg Q := .mk) (_s : Tg E := .mk) : Prop := S args Q E
theorem dCall_s {xd : En → Addr → PyData → Prop} {S : SpD} {ws : WG} {ρ : En} {Q : PyData → Prop} : dCall xd S ws ρ Q = ws ρ fun args => callS S args Q (xd ρ) := rfl
theorem dCallK_s {xd : En → Addr → PyData → Prop} {S : SpD} {π : List Nat} {m : Nat} {ws : WG} {ρ : En} {Q : PyData → Prop} : dCallK xd S π m ws ρ Q = ws ρ fun args => args.length = m ∧ callS S (pick π args) Q (xd ρ) := rfl
end Dl
/-! The data layer, part 22: texts of things that hold things. -/
namespace Dl
open PySem PySem.Spec PyProof.Rows L2
def TxOk (d : PyData) : Prop := d.showable = true ∧ d.hasDict = false ∧ d.depth ≤ 100 ∧ d.shown.length ≤ sizeLine
structure Tx (L n : Nat) (d : PyData) : Prop where
  sw : d.showable = true
  nd : d.hasDict = false
  dp : d.depth ≤ n
  ln : d.shown.length ≤ L
  ok : PyData.strOk d.shown = true
theorem Tx.up {L L' n n' : Nat} {d : PyData} (h : Tx L n d) (a : L ≤ L') (b : n ≤ n') : Tx L' n' d := ⟨h.sw, h.nd, Nat.le_trans h.dp b, Nat.le_trans h.ln a, h.ok⟩
theorem Tx.r {L n : Nat} {d : PyData} (h : Tx L n d) (a : L ≤ 16777216 := by decide) (b : n ≤ 100 := by decide) : TxOk d := ⟨h.sw, h.nd, Nat.le_trans h.dp b, by rw [sizeLine_eq]; exact Nat.le_trans h.ln a⟩
theorem Tx.sh {L n : Nat} {d : PyData} (h : Tx L n d) : SeqAt.shaped (.str d.shown) = true := (Sh.str (n := 0) h.ok).ok
theorem Tx.int {i : Int} (n : Nat) (h : i.natAbs.log2 < 1920) : Tx 1921 n (.int i) :=
  ⟨show_int h, by simp [PyData.hasDict], by simp [PyData.depth], by simpa [PyData.shown] using PyProof.Rows.int_text_len_1921 h, by simpa [PyData.shown] using ok_int i⟩
theorem Tx.intN {i : Int} {k : Nat} (n : Nat) (h : i.natAbs < 2 ^ k) (h0 : 0 < k := by decide) (hk : k ≤ 1920 := by decide) : Tx 1921 n (.int i) := Tx.int n (Nat.lt_of_lt_of_le (log_lt h h0) hk)
theorem Tx.bool (b : Bool) (n : Nat) : Tx 5 n (.bool b) :=
  ⟨by simp [PyData.showable], by simp [PyData.hasDict], by simp [PyData.depth], by cases b <;> (simp only [PyData.shown]; decide), by cases b <;> (simp only [PyData.shown]; decide +kernel)⟩
theorem Tx.none (n : Nat) : Tx 4 n .none :=
  ⟨by simp [PyData.showable], by simp [PyData.hasDict], by simp [PyData.depth], by simp only [PyData.shown]; decide, by simp only [PyData.shown]; decide +kernel⟩
structure TxL (L n m : Nat) (ds : List PyData) : Prop where
  sw : PyData.showableAll ds = true
  nd : PyData.hasDictAll ds = false
  dp : PyData.depthAll ds ≤ n
  ln : ∀ t ∈ PyData.shownAll ds, t.length ≤ L
  ok : ∀ t ∈ PyData.shownAll ds, PyData.strOk t = true
  ct : (PyData.shownAll ds).length ≤ m
theorem TxL.of {L n : Nat} : ∀ {ds : List PyData}, (∀ d ∈ ds, Tx L n d) → TxL L n ds.length ds
  | [], _ => ⟨by simp [PyData.showableAll], by simp [PyData.hasDictAll], by simp [PyData.depthAll], by simp [PyData.shownAll], by simp [PyData.shownAll], by simp [PyData.shownAll]⟩
  | d :: ds, h => by
    have h1 := h d List.mem_cons_self
    have ih := TxL.of (ds := ds) fun x hx => h x (List.mem_cons_of_mem _ hx)
    refine ⟨by simp [PyData.showableAll, h1.sw, ih.sw], by simp [PyData.hasDictAll, h1.nd, ih.nd], ?_, ?_, ?_, ?_⟩
    · simp only [PyData.depthAll]
      have a := h1.dp
      have b := ih.dp
      omega
    · intro t ht
      simp only [PyData.shownAll] at ht
      rcases List.mem_cons.mp ht with rfl | ht
      · exact h1.ln
      · exact ih.ln t ht
    · intro t ht
      simp only [PyData.shownAll] at ht
      rcases List.mem_cons.mp ht with rfl | ht
      · exact h1.ok
      · exact ih.ok t ht
    · simp only [PyData.shownAll, List.length_cons]
      have := ih.ct
      omega
theorem TxL.tuple {L n m : Nat} {ds : List PyData} (h : TxL L n m ds) : Tx (m * (L + 2) + 3) (n + 1) (.tuple ds) := by
  refine ⟨by simpa [PyData.showable] using h.sw, by simpa [PyData.hasDict] using h.nd, by simp only [PyData.depth]; have := h.dp; omega, ?_, ?_⟩
  · simp only [PyData.shown]
    have hp := piled_le _ h.ln
    unfold tupleText
    rw [Str.length_append, Str.length_append]
    have e1 : ("(" : Str).length = 1 := by rfl
    have hm : (PyData.shownAll ds).length * (L + 2) ≤ m * (L + 2) := Nat.mul_le_mul_right _ h.ct
    have ej : (Str.join ", " (PyData.shownAll ds)).length ≤ m * (L + 2) := by
      by_cases hn : PyData.shownAll ds = []
      · rw [hn]; show (0 : Nat) ≤ _; omega
      · have := join_length_add _ hn
        omega
    have e3 : ((if (PyData.shownAll ds).length == 1 then ",)" else ")" : String) : Str).length ≤ 2 := by
      split <;> decide
    omega
  · simp only [PyData.shown]
    exact ok_app2 (ok_app2 (by decide +kernel) (ok_join _ h.ok)) (by split <;> decide +kernel)
theorem TxL.list {L n m : Nat} {ds : List PyData} (h : TxL L n m ds) : Tx (m * (L + 2) + 3) (n + 1) (.list ds) := by
  refine ⟨by simpa [PyData.showable] using h.sw, by simpa [PyData.hasDict] using h.nd, by simp only [PyData.depth]; have := h.dp; omega, ?_, ?_⟩
  · simp only [PyData.shown]
    have := tf_len _ 0 "[" h.ln
    unfold listText
    rw [Str.length_append]
    have hm : (PyData.shownAll ds).length * (L + 2) ≤ m * (L + 2) := Nat.mul_le_mul_right _ h.ct
    have e1 : ("[" : Str).length = 1 := by rfl
    have e2 : ("]" : Str).length = 1 := by rfl
    omega
  · simp only [PyData.shown]
    exact ok_app2 (ok_tf _ _ _ (by decide +kernel) h.ok) (by decide +kernel)
theorem Tx.tuple {L n m : Nat} {ds : List PyData} (h : ∀ d ∈ ds, Tx L n d) (hl : ds.length ≤ m) : Tx (m * (L + 2) + 3) (n + 1) (.tuple ds) := (TxL.of h).tuple.up (Nat.add_le_add_right (Nat.mul_le_mul_right _ hl) _) (Nat.le_refl _)
theorem Tx.list {L n m : Nat} {ds : List PyData} (h : ∀ d ∈ ds, Tx L n d) (hl : ds.length ≤ m) : Tx (m * (L + 2) + 3) (n + 1) (.list ds) := (TxL.of h).list.up (Nat.add_le_add_right (Nat.mul_le_mul_right _ hl) _) (Nat.le_refl _)
theorem Tx.ints {ns : List Int} {m : Nat} (h : ∀ x ∈ ns, x.natAbs.log2 < 1920) (hl : ns.length ≤ m) : Tx (m * 1923 + 3) 1 (.tuple (ns.map .int)) :=
  Tx.tuple (L := 1921) (n := 0) (fun d hd => by obtain ⟨i, hi, rfl⟩ := List.mem_map.mp hd; exact Tx.int 0 (h i hi)) (by simpa using hl)
theorem Tx.intsL {ns : List Int} {m : Nat} (h : ∀ x ∈ ns, x.natAbs.log2 < 1920) (hl : ns.length ≤ m) : Tx (m * 1923 + 3) 1 (.list (ns.map .int)) :=
  Tx.list (L := 1921) (n := 0) (fun d hd => by obtain ⟨i, hi, rfl⟩ := List.mem_map.mp hd; exact Tx.int 0 (h i hi)) (by simpa using hl)
end Dl
/-! The data layer, part 24: sorted of tuples of ints of any lengths. -/
namespace SrtO
open PySem PyProof.Rows Srt HT PySem.Calls
theorem lexLt_self : ∀ x : List Int, lexLt x x = false
  | [] => rfl
  | a :: l => by rw [lexLt_cons, if_pos rfl]; exact lexLt_self l
theorem lexLt_asym : ∀ x y : List Int, lexLt x y = true → lexLt y x = false
  | [], [], h => by cases h
  | [], _ :: _, _ => rfl
  | _ :: _, [], h => by cases h
  | a :: x, b :: y, h => by
    rw [lexLt_cons] at h ⊢
    by_cases e : a = b
    · rw [if_pos e] at h
      rw [if_pos e.symm]
      exact lexLt_asym x y h
    · rw [if_neg e] at h
      rw [if_neg fun z => e z.symm]
      have := of_decide_eq_true h
      exact decide_eq_false (by omega)
theorem lexLt_tr : ∀ x y z : List Int, lexLt y x = false → lexLt z y = false → lexLt z x = false
  | [], [], [], _, _ => rfl
  | [], _ :: _, [], _, h => by cases h
  | [], [], _ :: _, _, _ => rfl
  | [], _ :: _, _ :: _, _, _ => rfl
  | _ :: _, [], _, h, _ => by cases h
  | _ :: _, _ :: _, [], _, h => by cases h
  | a :: x, b :: y, c :: z, h1, h2 => by
    rw [lexLt_cons] at h1 h2 ⊢
    by_cases e1 : b = a
    · subst e1
      rw [if_pos rfl] at h1
      by_cases e2 : c = b
      · subst e2
        rw [if_pos rfl] at h2 ⊢
        exact lexLt_tr x y z h1 h2
      · rw [if_neg e2] at h2 ⊢
        exact h2
    · rw [if_neg e1] at h1
      have g1 := of_decide_eq_false h1
      by_cases e2 : c = b
      · subst e2
        rw [if_neg e1]
        exact h1
      · rw [if_neg e2] at h2
        have g2 := of_decide_eq_false h2
        rw [if_neg (by omega)]
        exact decide_eq_false (by omega)
theorem swo_lexI {α : Type} (k : α → List Int) : Swo fun v u => lexLt (k v) (k u) := ⟨fun x y h => lexLt_asym _ _ h, fun x y z h1 h2 => lexLt_tr _ _ _ h1 h2⟩
section
variable {prog : Program} {w : World} {A : Around} {E : Value → Shared → Prop} {s : Shared}
theorem one_tups {v u : Value} {ns ms : List Int} {Q : Bool → Shared → Prop} (h1 : TS.TupInts s.heap v ns) (h2 : TS.TupInts s.heap u ms) (hu : A.units < cLine) (h : Q (lexLt ns ms) s) : wpAny (model prog w) A (oneLt' true v u) Q E s := by
  obtain ⟨a, xs, rfl, ⟨⟨cls, dd, data, sl⟩, ho, hc, n, hd⟩, i⟩ := h1
  obtain ⟨b, ys, rfl, ⟨⟨cls2, dd2, data2, sl2⟩, ho2, hc2, n2, hd2⟩, j⟩ := h2
  simp only at hc hd hc2 hd2
  subst hc hd hc2 hd2
  rw [oneLt'_eq]
  simp only [if_true]
  refine wpAny_bind (wpAny_cRoomFor hu ?_)
  refine wpAny_bind (wpAny_callSpecialIfBound?_slot (T := "tuple") ⟨_, ho, rfl⟩ PySem.F.slot_tuple_lt (call_meets PySem.F.slot_tuple_lt ⟨_, ho, rfl⟩ PySem.F.entry_tuple_lt (PySem.F.args_tuple_lt_2 _ _) (tuple_lt_ints a b xs ys n n2 dd dd2 sl sl2 ns ms i j) ⟨ho, ho2, ?_⟩))
  exact wpAny_truthy_bool h
theorem lex_tups {b fin : Bool} {xs ys : List Value} {ns ms : List Int} {Q : Bool → Shared → Prop} (i : Nat) (hx : IntsAre xs ns) (hy : IntsAre ys ms) (hf : fin = decide (ns.length < ms.length)) (h : Q (lexLt ns ms) s) : PySem.W.KatLex prog w A b fin Q (xs.zip ys) i s := by
  induction hx generalizing ys ms i with
  | nil =>
    cases hy with
    | nil =>
      subst hf
      exact PySem.W.kat_nil h
    | cons q u hy =>
      subst hf
      rw [List.zip_nil_left]
      exact PySem.W.kat_nil (by simpa [lexLt_nil_cons] using h)
  | @cons p t xs ns hx ih =>
    cases hy with
    | nil =>
      subst hf
      rw [List.zip_nil_right]
      exact PySem.W.kat_nil (by simpa [lexLt_cons_nil] using h)
    | @cons q u ys ms hy =>
      show PySem.W.KatLex prog w A b fin Q ((Value.int p t, Value.int q u) :: xs.zip ys) i s
      refine PySem.W.kat_cons (wpAny_eqBool_int ?_)
      rw [lexLt_cons] at h
      by_cases e : p = q
      · subst e
        rw [beq_self_eq_true]
        rw [if_pos rfl] at h
        refine PySem.W.kat_yes ?_
        have hf' : fin = decide (ns.length < ms.length) := by rw [hf]; simp
        first
          | exact ih (i + 1) hy hf' h
          | exact ih _ _ (i + 1) hy hf' h
      · rw [show (p == q) = false from beq_eq_false_iff_ne.mpr e]
        rw [if_neg e] at h
        exact PySem.W.kat_no (TS.oneLt_ints _ h)
/-- the first items of the tuples, where there are any -/
theorem firsts_any {g : Value → Option Value} : ∀ (vs : List Value) {Q : List (Option Value) → Shared → Prop}, (∀ v ∈ vs, ∃ a o xs n, v = .ref a ∧ s.heap.get? a = some o ∧ o.cls = .type "tuple" ∧ o.data = .seq xs n ∧ xs[0]? = g v) → Q (vs.map g) s → wpAny (model prog w) A (vs.mapM firstOfTuple') Q E s
  | [], _, _, h => by rw [List.mapM_nil]; exact wpAny_pure h
  | v :: vs, Q, t, h => by
    obtain ⟨a, o, xs, n, e, ho, hc, hd, hf⟩ := t v List.mem_cons_self
    rw [List.mapM_cons]
    refine wpAny_bind ?_
    rw [e, PySem.W.kas_first_eq]
    refine wpAny_bind (PySem.W.Looks.here (show PySem.W.Looks (model prog w) s.heap (typeOf (.ref a)) o.cls from (PySem.W.Looks.ld ho).andThen .now) ?_)
    rw [hc, if_neg (by first | decide | simp)]
    refine wpAny_bind (listItems_at ho hd (wpAny_pure ?_))
    rw [hf]
    exact wpAny_bind (firsts_any vs (Q := fun bs s' => wpAny (model prog w) A (pure (g v :: bs)) Q E s') (fun u hu => t u (List.mem_cons_of_mem _ hu)) (wpAny_pure h))
/-- the first one is empty: they are compared as they are -/
theorem kind_first {g : Value → Option Value} {v0 : Value} {vs : List Value} {Q : SortKind → Shared → Prop} (t : ∀ v ∈ v0 :: vs, ∃ a o xs n, v = .ref a ∧ s.heap.get? a = some o ∧ o.cls = .type "tuple" ∧ o.data = .seq xs n ∧ xs[0]? = g v) (h0 : g v0 = none) (h : Q oneType' s) :
    wpAny (model prog w) A (keyKind' (v0 :: vs).toArray) Q E s := by
  rw [kat_kind_eq, List.mapM_toArray, map_eq_pure_bind]
  refine wpAny_bind (wpAny_bind (firsts_any (g := g) _ t (wpAny_pure ?_)))
  rw [if_neg (by simp [h0]), if_neg (by simp [h0])]
  rw [oneTypeOnly'_eq, List.mapM_toArray, map_eq_pure_bind]
  refine wpAny_bind (wpAny_bind (wpAny_bind (PySem.W.kas_mapM (r := Value.type "tuple") _ (fun v hv Q' hq => ?_) (wpAny_pure ?_))))
  · obtain ⟨a, o, xs, n, e, ho, hc, hd, hf⟩ := t v hv
    subst e
    exact PySem.W.Looks.here (show PySem.W.Looks (model prog w) s.heap (typeOf (.ref a)) (Value.type "tuple") from hc ▸ (PySem.W.Looks.ld ho).andThen .now) hq
  have hall : ((List.map (fun _ => Value.type "tuple") (v0 :: vs)).toArray.all fun x => x == Value.type "tuple") = true := by
    simp only [List.all_toArray, List.all_map, List.all_eq_true]
    intro _ _
    rfl
  have e0 : (List.map (fun _ => Value.type "tuple") (v0 :: vs)).toArray[0]? = some (Value.type "tuple") := by simp
  rw [e0]
  simp only [hall, if_true]
  exact wpAny_pure (wpAny_pure h)
/-- either no tuple is empty, or the first one is -/
def Mix (h : Heap) (vs : List Value) : Prop := (∀ v ∈ vs, TS.intsOf h v ≠ []) ∨ ∃ v r, vs = v :: r ∧ TS.intsOf h v = []
theorem tups_sortableO {a : Addr} {vs : List Value} {k : Value → List Int} (h0 : 0 < vs.length) (hp : ∀ v ∈ vs, TS.TupInts s.heap v (k v)) (hm : (∀ v ∈ vs, k v ≠ []) ∨ ∃ v r, vs = v :: r ∧ k v = []) (ha : ∀ o, s.heap.get? a = some o → o.cls ≠ .type "tuple") (hu : A.units < cLine) :
    SortableO prog w A s a vs fun v u => lexLt (k v) (k u) := by
  intro h' keep
  have hp' : ∀ v ∈ vs, TS.TupInts h' v (k v) := fun v hm => (hp v hm).keeps fun b o e c => keep b o (fun z => by subst z; exact ha o e c) e
  rcases hm with hne | ⟨v, r, rfl, hv⟩
  · obtain ⟨fs, h1, h2, h3⟩ : ∃ fs, PySem.W.KatTups h' vs fs ∧ fs.length = vs.length ∧ ∀ f, f ∈ fs → ∃ n t, f = Value.int n t := by
      clear h0 hp ha keep
      induction vs with
      | nil => exact ⟨[], PySem.W.KatTups.nil, rfl, fun f hf => by simp at hf⟩
      | cons v vs ih =>
        obtain ⟨fs, kk, hl, hi⟩ := ih (fun u hu => hp' u (List.mem_cons_of_mem _ hu)) fun u hu => hne u (List.mem_cons_of_mem _ hu)
        obtain ⟨b, xs, rfl, ⟨o, ho, hc, n, hdt⟩, i⟩ := hp' v List.mem_cons_self
        obtain ⟨y, ys, e⟩ : ∃ y ys, xs.toList = y :: ys := by
          cases q : xs.toList with
          | nil =>
            rw [q] at i
            have hz := hne _ List.mem_cons_self
            have l := i.length
            rw [List.length_nil] at l
            exact absurd (List.eq_nil_of_length_eq_zero l.symm) hz
          | cons y ys => exact ⟨y, ys, rfl⟩
        obtain ⟨m, t, hy⟩ := i.all y (by rw [e]; exact List.mem_cons_self ..)
        refine ⟨y :: fs, PySem.W.KatTups.cons ho hc hdt ?_ kk, by simp [hl], ?_⟩
        · have z := congrArg (fun l : List Value => l[0]?) e
          simpa using z
        · intro f hf
          rcases List.mem_cons.mp hf with rfl | hf
          · exact ⟨m, t, hy⟩
          · exact hi f hf
    refine ⟨tuples' true, fun Q E hq => ?_, fun p q hm hm' => ?_⟩
    · refine PySem.W.kat_kind (T := .type "int") h1 (by omega) (fun f hm => ?_) (by rfl) ?_
      · obtain ⟨x, t, rfl⟩ := h3 f hm
        exact PySem.W.Looks.now
      · have e : (Value.type "int" != Value.type "tuple") = true := by first | decide +kernel | rfl | decide
        rw [e]
        exact hq
    · show wpAny (model prog w) A (keyLt' (tuples' true) p.1 q.1) (fun r s' => s' = { s with heap := h' } ∧ r = lexLt (k p.1) (k q.1)) (fun _ _ => False) { s with heap := h' }
      obtain ⟨b, xs, e1, ⟨o, ho, hc, n, hd⟩, i⟩ := hp' _ hm
      obtain ⟨b', ys, e2, ⟨o', ho', hc', n', hd'⟩, j⟩ := hp' _ hm'
      generalize k p.1 = kp at i ⊢
      generalize k q.1 = kq at j ⊢
      rw [e1, e2]
      refine PySem.W.kat_lt ho hd ho' hd' (lex_tups (ns := kp) (ms := kq) 0 i j ?_ ⟨rfl, rfl⟩)
      have l1 := i.length
      have l2 := j.length
      rw [Array.length_toList] at l1 l2
      rw [l1, l2]
  · have ht : ∀ u ∈ v :: r, ∃ a o xs n, u = .ref a ∧ h'.get? a = some o ∧ o.cls = .type "tuple" ∧ o.data = .seq xs n ∧ xs[0]? = (match u with | .ref a => (match h'.get? a with | some o => (match o.data with | .seq xs _ => xs[0]? | _ => none) | none => none) | _ => none) := fun u hu => by
      obtain ⟨b, xs, e1, ⟨o, ho, hc, n, hd⟩, i⟩ := hp' u hu
      refine ⟨b, o, xs, n, e1, ho, hc, hd, ?_⟩
      subst e1
      simp only [ho, hd]
    refine ⟨oneType', fun Q E hq => kind_first (s := { s with heap := h' }) ht ?_ hq, fun p q hm hm' => ?_⟩
    · obtain ⟨b, xs, e1, ⟨o, ho, hc, n, hd⟩, i⟩ := hp' v List.mem_cons_self
      rw [hv] at i
      subst e1
      simp only [ho, hd]
      have l := i.length
      rw [List.length_nil, Array.length_toList] at l
      exact Array.getElem?_eq_none (by omega)
    · show wpAny (model prog w) A (keyLt' oneType' p.1 q.1) (fun r s' => s' = { s with heap := h' } ∧ r = lexLt (k p.1) (k q.1)) (fun _ _ => False) { s with heap := h' }
      rw [keyLt'_oneType]
      exact one_tups (s := { s with heap := h' }) (hp' _ hm) (hp' _ hm') hu ⟨rfl, rfl⟩
/-- sorted(l) of tuples of ints -/
theorem sorted_tups {l : Addr} {vs : List Value} {k : Value → List Int} {Q : Value → Shared → Prop} (hl : s.heap.IsList l vs.toArray) (hz : vs.length ≤ sizeLine) (hp : ∀ v ∈ vs, TS.TupInts s.heap v (k v)) (hm : (∀ v ∈ vs, k v ≠ []) ∨ ∃ v r, vs = v :: r ∧ k v = []) (hu : A.in1.in1.units < cLine)
    (h : ∀ (h' : Heap) (d : Addr) (out : List Value), Srtd (fun v u => lexLt (k v) (k u)) out → Stb (fun v u => lexLt (k v) (k u)) out vs → (∀ b o, s.heap.get? b = some o → h'.get? b = some o) → s.heap.objs.size ≤ d → (∃ n, h'.get? d = some (seqObj "list" out.toArray n)) → Q (.ref d) { s with heap := h' }) :
    wpAny (model prog w) A (call (.builtin "sorted") [.ref l]) Q E s := by
  refine sorted_ord (swo_lexI k) hl hz (fun h2 h₁ a ha kk => ?_) fun out hs hb => ?_
  · refine tups_sortableO (s := { s with heap := h₁ }) (by omega) (fun v hm => (hp v hm).keeps fun b o e _ => (kk b o e).2) hm (fun o e => ?_) hu
    have e' : some o = some (seqObj "list" vs.toArray 0) := e.symm.trans ha
    cases e'
    intro c
    exact absurd (Value.type.inj c) (by decide)
  · exact h _ _ out hs hb (fun b o e => sortedAll_old e) (Nat.le_succ _) (sortedAll_at s.heap vs out.toArray)
end
end SrtO
namespace L2
open PySem PySem.Spec PyProof.Rows
/-- sorted(xs), xs a list of tuples of ints -/
def rSortTI (K : PySem.W.Frag) : List V → Hp → VK → Prop := fun vs H Q => ∃ (a : Addr) (xs : List V) (k : V → List Int), vs = [V.ref a] ∧ SqL K H a xs ∧ (∀ x ∈ xs, ∃ t, x = V.ref t ∧ SqT K H t ((k x).map V.int)) ∧ ((∀ x ∈ xs, k x ≠ []) ∨ ∃ x r, xs = x :: r ∧ k x = []) ∧
  ∀ ys p, SrtO.Srtd (fun v u => HT.lexLt (k v) (k u)) ys → SrtO.Stb (fun v u => HT.lexLt (k v) (k u)) ys xs → H p = none → Q (.ref p) (upd H p (.lst ys))
section
variable {X : Cx}
theorem cr_sortTI (hu : X.A.units + 64 < cLine) : CallR X (.builtin "sorted") (rSortTI X.K) := by
  intro pins s σ H vs us Q I r h
  obtain ⟨a, xs, k, rfl, hs, hx, hm, q⟩ := h
  obtain ⟨its, rv, hl, hz⟩ := I.list hs
  obtain ⟨u, rfl, ru⟩ := vals1 r
  obtain rfl : u = Value.ref a := ru
  obtain ⟨e1, e2⟩ := refs_back rv fun x m => by
    obtain ⟨t, e, _⟩ := hx x m
    exact ⟨t, e⟩
  refine SrtO.sorted_tups (k := fun u => k (backV u)) hl.isList (by rw [← rv.length]; exact hz) (fun v hv => ?_) ?_ (by show X.A.units + 1 + 1 < cLine; omega) fun h' d out h1 h2 kp hd hn => ?_
  · obtain ⟨t, rfl⟩ := e2 v hv
    have hm : V.ref t ∈ xs := by rw [e1]; exact List.mem_map.mpr ⟨_, hv, rfl⟩
    obtain ⟨t', e, ht⟩ := hx _ hm
    cases e
    obtain ⟨its2, r2, h3, _⟩ := I.tuple ht
    exact ⟨t, its2.toArray, rfl, h3, by rw [show backV (Value.ref t) = V.ref t from rfl]; simpa using r2.ints⟩
  · rw [e1] at hm
    rcases hm with hm | ⟨x, r, e, hx⟩
    · exact .inl fun v hv => hm _ (List.mem_map.mpr ⟨v, hv, rfl⟩)
    · cases its with
      | nil => cases e
      | cons v vs =>
        rw [List.map_cons] at e
        injection e with e3 e4
        exact .inr ⟨v, vs, rfl, by rw [e3]; exact hx⟩
  · have h3 : ∀ u ∈ out, ∃ a, u = Value.ref a := fun u hu => e2 u (h2.perm.mem_iff.mp hu)
    obtain ⟨n, hn⟩ := hn
    have hb : SrtO.Stb (fun v u => HT.lexLt (k v) (k u)) (out.map backV) xs := by
      rw [e1]
      exact SrtO.Stb.map (SrtO.swo_lexI k) backV h2
    refine ⟨.ref d, upd H d (.lst (out.map backV)), I.laid (t' := s.toks) kp hd ⟨?_, out, n, vals_back h3, hn⟩, rfl, q _ d (SrtO.srtd_map h1) hb (I.hok.fresh hd)⟩
    rw [hb.len]
    exact hz
end
end L2
namespace Dl
open PySem PySem.Spec PyProof.Rows L2
def tupI (ns : List Int) : PyData := .tuple (ns.map .int)
def lexI (x y : List Int) : Bool := HT.lexLt x y
def numV : V → Int
  | .int i => i
  | _ => 0
def kOf (H : Hp) : V → List Int
  | .ref t => match H t with
    | some (.tup vs) => vs.map numV
    | _ => []
  | _ => []
theorem rp_tupI {B : Addr → Prop} {H : Hp} {v : V} {ns : List Int} (h : Rp B H v (tupI ns)) : (∃ t, v = .ref t ∧ H t = some (.tup (ns.map V.int))) ∧ kOf H v = ns := by
  unfold tupI at h
  cases h with
  | @tup a xs _ n r l =>
    have e := RpL.ints_inv l
    subst e
    refine ⟨⟨_, rfl, r⟩, ?_⟩
    simp only [kOf, r, List.map_map]
    exact (List.map_congr_left fun _ _ => rfl).trans (List.map_id ns)
theorem rpl_tupI {B : Addr → Prop} {H : Hp} : ∀ {xs : List V} {nss : List (List Int)}, RpL B H xs (nss.map tupI) → nss = xs.map (kOf H) ∧ ∀ x ∈ xs, Rp B H x (tupI (kOf H x))
  | [], nss, h => by
    cases nss with
    | nil => exact ⟨rfl, fun _ z => by cases z⟩
    | cons a l => cases h
  | x :: xs, nss, h => by
    cases nss with
    | nil => cases h
    | cons a l =>
      cases h with
      | cons r t =>
        obtain ⟨e, all⟩ := rpl_tupI t
        have ea := (rp_tupI r).2
        refine ⟨by rw [List.map_cons, ea, ← e], fun y hy => ?_⟩
        rcases List.mem_cons.mp hy with rfl | hy
        · rw [ea]; exact r
        · exact all y hy
theorem RpL.all_of {B : Addr → Prop} {H : Hp} {f : V → PyData} : ∀ {xs : List V}, (∀ x ∈ xs, Rp B H x (f x)) → RpL B H xs (xs.map f)
  | [], _ => .nil
  | x :: xs, h => .cons (h x List.mem_cons_self) (RpL.all_of fun y hy => h y (List.mem_cons_of_mem _ hy))
def fSortT : FA := fun ds Q => ∃ nss : List (List Int), ds = [.list (nss.map tupI)] ∧ ((∀ x ∈ nss, x ≠ []) ∨ nss.head? = some []) ∧ ∀ out : List (List Int), out.Perm nss → out.Pairwise (fun x y => lexI y x = false) → Q (.list (out.map tupI))
section
variable {G : Ga} {X : Cx} {e : Expr} {es : List Expr} {ws : WA} {p pos : Pos} {k : Nat}
theorem df_sortT (hr : Room k X.A) (hm : X.mg "sorted" = none) (ha : DAb G X (e :: es) ws) (hg : Gl X "sorted" := by rfl)
    (he : starEach (e :: es) X.env = (false, eval e X.env) :: starEach es X.env := by rfl) (hpl : (backTo pos (starEach es X.env)).any (·.1) = false := by rfl) : DF G X (.Call (.Name "sorted" p) (e :: es) [] pos) (dA fSortT ws) :=
  df_callB (cr_sortTI (by have := hr.un; omega)) hg hm (by decide +kernel) ha (fun _ _ _ m ⟨i, h, c, q⟩ => ⟨i, h, c, fun z a b => m _ (q z a b)⟩) (fun F B σ ρ H vs ds Q g l q => by
    obtain ⟨nss, rfl, hc, q⟩ := q
    obtain ⟨v, rfl, r⟩ := bl1 l
    obtain ⟨a, xs, rfl, h, l2⟩ := rb_list X.K r
    obtain ⟨e1, all⟩ := rpl_tupI l2
    refine ⟨a, xs, kOf H, rfl, h, fun x hx => ?_, ?_, fun ys pp h1 h2 np => ?_⟩
    · obtain ⟨⟨t, e, ht⟩, _⟩ := rp_tupI (all x hx)
      exact ⟨t, e, .of ht⟩
    · subst e1
      rcases hc with hc | hc
      · exact .inl fun x hx => hc _ (List.mem_map.mpr ⟨x, hx, rfl⟩)
      · cases xs with
        | nil => cases hc
        | cons x xr => exact .inr ⟨x, xr, rfl, by simpa using hc⟩
    · have hmem : ∀ y ∈ ys, Rp B H y (tupI (kOf H y)) := fun y hy => all y (h2.perm.mem_iff.mp hy)
      refine q (ys.map (kOf H)) (by rw [e1]; exact h2.perm.map _) (List.pairwise_map.mpr h1) pp _ _ _ rfl np (Kp.new np) (ok_newb g.deal np) upd_same ?_
      rw [List.map_map]
      exact (RpL.bar np _ _ (RpL.all_of (f := tupI ∘ kOf H) hmem)).mv (fun _ z => z) (upd_keep np)) (by decide) (by decide) he hpl
end
end Dl
/-! The data layer, part 25: max of a tuple of ints. -/
namespace L2
open PySem PySem.Spec PyProof.Rows
theorem reads_of_ints {h : Heap} : ∀ {vs : List Value} {ns : List Int}, IntsAre vs ns → ReadsAll h vs (ns.map PyData.int) []
  | _, _, .nil => .nil
  | _, _, .cons p t r => .cons (.int p t) (reads_of_ints r)
theorem alike_map_ints (ns : List Int) : PySem.W.AlikeAll (ns.map PyData.int) := by
  refine ⟨fun x hx y hy => ?_, fun x hx => by obtain ⟨a, _, rfl⟩ := List.mem_map.mp hx; simp⟩
  obtain ⟨a, _, rfl⟩ := List.mem_map.mp hx
  obtain ⟨b, _, rfl⟩ := List.mem_map.mp hy
  simp [PySem.W.alike]
def rMaxT (K : PySem.W.Frag) : List V → Hp → VK → Prop := fun vs H Q => ∃ (a : Addr) (n : Int) (ns : List Int), vs = [V.ref a] ∧ SqT K H a ((n :: ns).map V.int) ∧ Q (.int (ns.foldl max n)) H
section
variable {X : Cx}
theorem cr_maxT (hc : X.calm = true) (hu : X.A.units + 64 < cLine) : CallR X (.builtin "max") (rMaxT X.K) := by
  intro pins s σ H vs us Q I r h
  obtain ⟨a, n, ns, rfl, hs, q⟩ := h
  obtain ⟨its, rv, hl, _⟩ := I.tuple hs
  rw [Vals.ref1 r]
  refine PySem.W.max_tuple_data (x := .int n) (xs := ns.map .int) (I.ok.hd hc) hl (by have := reads_of_ints (h := s.heap) rv.ints; simpa using this) (alike_map_ints (n :: ns)) (by rw [show PyData.int n :: ns.map PyData.int = (n :: ns).map PyData.int from rfl, PySem.W.depth_ints]; omega) fun i v h' tk bs hv hr hk => ?_
  rw [PySem.W.maxD_ints] at hr
  cases hr
  exact ⟨.int _, H, I.kept hk, ⟨_, rfl⟩, q⟩
end
end L2
namespace Dl
open PySem PySem.Spec PyProof.Rows L2
def fMaxT : FA := fun ds Q => ∃ (n : Int) (ns : List Int), ds = [.tuple ((n :: ns).map .int)] ∧ Q (.int (ns.foldl max n))
section
variable {G : Ga} {X : Cx} {e : Expr} {es : List Expr} {ws : WA} {p pos : Pos} {k : Nat}
theorem de_maxT (hr : Room k X.A) (hc : X.calm = true) (hm : X.mg "max" = none) (ha : DAb G X (e :: es) ws) (hg : Gl X "max" := by rfl)
    (he : starEach (e :: es) X.env = (false, eval e X.env) :: starEach es X.env := by rfl) (hpl : (backTo pos (starEach es X.env)).any (·.1) = false := by rfl) : DE G X (.Call (.Name "max" p) (e :: es) [] pos) (dA fMaxT ws) :=
  de_callB (cr_maxT hc (by have := hr.un; omega)) hg hm (by decide +kernel) ha (fun _ _ _ m ⟨i, j, h, q⟩ => ⟨i, j, h, m _ q⟩) (fun F B σ ρ H vs ds Q g l q => by
    obtain ⟨n, ns, rfl, q⟩ := q
    obtain ⟨v, rfl, r⟩ := bl1 l
    obtain ⟨a, xs, rfl, h, l2⟩ := rb_tup X.K r
    cases RpL.ints_inv l2
    exact ⟨a, n, ns, rfl, h, q _ H .refl g.deal (.int _)⟩) (by decide) (by decide) he hpl
end
section
variable {G : Ga} {X : Cx} {tg a b : Expr} {wa wb : WE} {p pos : Pos}
theorem di_r2 (hm : X.mg "range" = none) (ha : DE G X a wa) (hb : DE G X b wb) (hg : Gl X "range" := by rfl) (hs : starEach [a, b] X.env = [(false, eval a X.env), (false, eval b X.env)] := by rfl) (hs2 : starEach [b] X.env = [(false, eval b X.env)] := by rfl)
    (s1 : starEach [a, b] X.env = (false, eval a X.env) :: starEach [b] X.env := by rfl) (s2 : starEach [b] X.env = (false, eval b X.env) :: starEach [] X.env := by rfl) : DI G X tg (.Call (.Name "range" p) [a, b] [] pos) (iR2 wa wb) :=
  ⟨pi_imp (pi_range2 hg hm (pa_cons ha.pe (pa_cons hb.pe pa_nil s2) s1) hs hs2) fun σ H R ⟨F, B, ρ, g, q⟩ => ⟨F, B, ρ, g, ha.mo _ _ _ (fun d q0 v H1 k1 o1 r1 => ⟨F, B, ρ, g.step k1 o1, hb.mo _ _ _ (fun d2 ⟨i, j, e, e2, z, q⟩ v2 H2 k2 o2 r2 => by
    clear q0
    subst e e2
    cases r1
    cases r2
    exact ⟨i, j, rfl, z, q _ _ (k1.trans k2) o2 it_rng⟩) q0⟩) q⟩, fun _ _ _ m q => ha.mo _ _ _ (fun d q => hb.mo _ _ _ (fun d2 ⟨i, j, e, e2, z, q⟩ => ⟨i, j, e, e2, z, m _ q⟩) q) q⟩
theorem dic_r2 (hm : X.mg "range" = none) (ha : DE G X a wa) (hb : DE G X b wb) (hg : Gl X "range" := by rfl) (hs : starEach [a, b] X.env = [(false, eval a X.env), (false, eval b X.env)] := by rfl) (hs2 : starEach [b] X.env = [(false, eval b X.env)] := by rfl)
    (s1 : starEach [a, b] X.env = (false, eval a X.env) :: starEach [b] X.env := by rfl) (s2 : starEach [b] X.env = (false, eval b X.env) :: starEach [] X.env := by rfl) : DIc G X tg (.Call (.Name "range" p) [a, b] [] pos) (iR2 wa wb) :=
  ⟨pi_imp (pi_range2 hg hm (pa_cons ha.pe (pa_cons hb.pe pa_nil s2) s1) hs hs2) fun σ H R ⟨F, B, ρ, g, q⟩ => ⟨F, B, ρ, g, ha.mo _ _ _ (fun d q0 v H1 k1 o1 r1 => ⟨F, B, ρ, g.step k1 o1, hb.mo _ _ _ (fun d2 ⟨i, j, e, e2, z, q⟩ v2 H2 k2 o2 r2 => by
    clear q0
    subst e e2
    cases r1
    cases r2
    exact ⟨i, j, rfl, z, q _ _ (k1.trans k2) o2 it_rng⟩) q0⟩) q⟩, fun _ _ _ m q => ha.mo _ _ _ (fun d q => hb.mo _ _ _ (fun d2 ⟨i, j, e, e2, z, q⟩ => ⟨i, j, e, e2, z, m _ q⟩) q) q⟩
end
end Dl
/-! The data layer, part 26: sorted of a tuple of tuples of ints. -/
namespace SrtO
open PySem PyProof.Rows Srt HT PySem.Calls
section
variable {prog : Program} {w : World} {A : Around} {E : Value → Shared → Prop} {s : Shared}
theorem sorted_tupsT {l : Addr} {vs : List Value} {k : Value → List Int} {Q : Value → Shared → Prop} (hl : IsTup s.heap l vs.toArray) (hz : vs.length ≤ sizeLine) (hp : ∀ v ∈ vs, TS.TupInts s.heap v (k v)) (hm : (∀ v ∈ vs, k v ≠ []) ∨ ∃ v r, vs = v :: r ∧ k v = []) (hu : A.in1.in1.units < cLine)
    (h : ∀ (h' : Heap) (d : Addr) (out : List Value), Srtd (fun v u => lexLt (k v) (k u)) out → Stb (fun v u => lexLt (k v) (k u)) out vs → (∀ b o, s.heap.get? b = some o → h'.get? b = some o) → s.heap.objs.size ≤ d → (∃ n, h'.get? d = some (seqObj "list" out.toArray n)) → Q (.ref d) { s with heap := h' }) :
    wpAny (model prog w) A (call (.builtin "sorted") [.ref l]) Q E s := by
  refine PySem.ErX.sorted_tupO (swo_lexI k) hl hz (fun h2 h₁ a ha kk => ?_) fun out hs hb => ?_
  · refine tups_sortableO (s := { s with heap := h₁ }) (by omega) (fun v hm => (hp v hm).keeps fun b o e _ => (kk b o e).2) hm (fun o e => ?_) hu
    have e' : some o = some (seqObj "list" vs.toArray 0) := e.symm.trans ha
    cases e'
    intro c
    exact absurd (Value.type.inj c) (by decide)
  · exact h _ _ out hs hb (fun b o e => sortedAll_old e) (Nat.le_succ _) (sortedAll_at s.heap vs out.toArray)
end
end SrtO
namespace L2
open PySem PySem.Spec PyProof.Rows
def rSortTT (K : PySem.W.Frag) : List V → Hp → VK → Prop := fun vs H Q => ∃ (a : Addr) (xs : List V) (k : V → List Int), vs = [V.ref a] ∧ SqT K H a xs ∧ (∀ x ∈ xs, ∃ t, x = V.ref t ∧ SqT K H t ((k x).map V.int)) ∧ ((∀ x ∈ xs, k x ≠ []) ∨ ∃ x r, xs = x :: r ∧ k x = []) ∧
  ∀ ys p, SrtO.Srtd (fun v u => HT.lexLt (k v) (k u)) ys → SrtO.Stb (fun v u => HT.lexLt (k v) (k u)) ys xs → H p = none → Q (.ref p) (upd H p (.lst ys))
section
variable {X : Cx}
theorem cr_sortTT (hu : X.A.units + 64 < cLine) : CallR X (.builtin "sorted") (rSortTT X.K) := by
  intro pins s σ H vs us Q I r h
  obtain ⟨a, xs, k, rfl, hs, hx, hm, q⟩ := h
  obtain ⟨its, rv, hl, hz⟩ := I.tuple hs
  obtain ⟨u, rfl, ru⟩ := vals1 r
  obtain rfl : u = Value.ref a := ru
  obtain ⟨e1, e2⟩ := refs_back rv fun x m => by
    obtain ⟨t, e, _⟩ := hx x m
    exact ⟨t, e⟩
  refine SrtO.sorted_tupsT (k := fun u => k (backV u)) hl (by rw [← rv.length]; exact hz) (fun v hv => ?_) ?_ (by show X.A.units + 1 + 1 < cLine; omega) fun h' d out h1 h2 kp hd hn => ?_
  · obtain ⟨t, rfl⟩ := e2 v hv
    have hm : V.ref t ∈ xs := by rw [e1]; exact List.mem_map.mpr ⟨_, hv, rfl⟩
    obtain ⟨t', e, ht⟩ := hx _ hm
    cases e
    obtain ⟨its2, r2, h3, _⟩ := I.tuple ht
    exact ⟨t, its2.toArray, rfl, h3, by rw [show backV (Value.ref t) = V.ref t from rfl]; simpa using r2.ints⟩
  · rw [e1] at hm
    rcases hm with hm | ⟨x, r, e, hx⟩
    · exact .inl fun v hv => hm _ (List.mem_map.mpr ⟨v, hv, rfl⟩)
    · cases its with
      | nil => cases e
      | cons v vs =>
        rw [List.map_cons] at e
        injection e with e3 e4
        exact .inr ⟨v, vs, rfl, by rw [e3]; exact hx⟩
  · have h3 : ∀ u ∈ out, ∃ a, u = Value.ref a := fun u hu => e2 u (h2.perm.mem_iff.mp hu)
    obtain ⟨n, hn⟩ := hn
    have hb : SrtO.Stb (fun v u => HT.lexLt (k v) (k u)) (out.map backV) xs := by
      rw [e1]
      exact SrtO.Stb.map (SrtO.swo_lexI k) backV h2
    refine ⟨.ref d, upd H d (.lst (out.map backV)), I.laid (t' := s.toks) kp hd ⟨?_, out, n, vals_back h3, hn⟩, rfl, q _ d (SrtO.srtd_map h1) hb (I.hok.fresh hd)⟩
    rw [hb.len]
    exact hz
end
end L2
namespace Dl
open PySem PySem.Spec PyProof.Rows L2
def fSortTT : FA := fun ds Q => ∃ nss : List (List Int), ds = [.tuple (nss.map tupI)] ∧ ((∀ x ∈ nss, x ≠ []) ∨ nss.head? = some []) ∧ ∀ out : List (List Int), out.Perm nss → out.Pairwise (fun x y => lexI y x = false) → Q (.list (out.map tupI))
section
variable {G : Ga} {X : Cx} {e : Expr} {es : List Expr} {ws : WA} {p pos : Pos} {k : Nat}
theorem df_sortTT (hr : Room k X.A) (hm : X.mg "sorted" = none) (ha : DAb G X (e :: es) ws) (hg : Gl X "sorted" := by rfl)
    (he : starEach (e :: es) X.env = (false, eval e X.env) :: starEach es X.env := by rfl) (hpl : (backTo pos (starEach es X.env)).any (·.1) = false := by rfl) : DF G X (.Call (.Name "sorted" p) (e :: es) [] pos) (dA fSortTT ws) :=
  df_callB (cr_sortTT (by have := hr.un; omega)) hg hm (by decide +kernel) ha (fun _ _ _ m ⟨i, h, c, q⟩ => ⟨i, h, c, fun z a b => m _ (q z a b)⟩) (fun F B σ ρ H vs ds Q g l q => by
    obtain ⟨nss, rfl, hc, q⟩ := q
    obtain ⟨v, rfl, r⟩ := bl1 l
    obtain ⟨a, xs, rfl, h, l2⟩ := rb_tup X.K r
    obtain ⟨e1, all⟩ := rpl_tupI l2
    refine ⟨a, xs, kOf H, rfl, h, fun x hx => ?_, ?_, fun ys pp h1 h2 np => ?_⟩
    · obtain ⟨⟨t, e, ht⟩, _⟩ := rp_tupI (all x hx)
      exact ⟨t, e, .of ht⟩
    · subst e1
      rcases hc with hc | hc
      · exact .inl fun x hx => hc _ (List.mem_map.mpr ⟨x, hx, rfl⟩)
      · cases xs with
        | nil => cases hc
        | cons x xr => exact .inr ⟨x, xr, rfl, by simpa using hc⟩
    · have hmem : ∀ y ∈ ys, Rp B H y (tupI (kOf H y)) := fun y hy => all y (h2.perm.mem_iff.mp hy)
      refine q (ys.map (kOf H)) (by rw [e1]; exact h2.perm.map _) (List.pairwise_map.mpr h1) pp _ _ _ rfl np (Kp.new np) (ok_newb g.deal np) upd_same ?_
      rw [List.map_map]
      exact (RpL.bar np _ _ (RpL.all_of (f := tupI ∘ kOf H) hmem)).mv (fun _ z => z) (upd_keep np)) (by decide) (by decide) he hpl
end
end Dl
/-! The data layer, part 27: sorted(set(t)), t a tuple of ints. -/
namespace L2
open PySem PySem.Spec PyProof.Rows
def rSetTI (K : PySem.W.Frag) (w : World) : List V → Hp → VK → Prop := fun vs H Q => ∃ (a : Addr) (ns : List Int), vs = [V.ref a] ∧ SqT K H a (ns.map V.int) ∧ ns.length < 60 ∧
  ∀ (p : Addr) (c : Nat), c ≤ ns.length → H p = none → Q (.ref p) (upd H p (SetO w p (fun j => decide (j ∈ ns)) c))
section
variable {X : Cx}
theorem cr_setTI (hc : X.calm = true) : CallR X (.type "set") (rSetTI X.K X.w) := by
  intro pins s σ H vs us Q I r h
  obtain ⟨a, ns, rfl, hs, hl, q⟩ := h
  obtain ⟨its, rv, ht, _⟩ := I.tuple hs
  rw [Vals.ref1 r]
  refine call_set_tupI ns (I.ok.hd hc) ht (by simpa using rv.ints) (by unfold scanBound; omega) fun h' tk c hS hcl hk => ?_
  exact ⟨.ref _, upd H s.heap.objs.size (SetO X.w s.heap.objs.size (fun j => decide (j ∈ ns)) c), I.laid (t' := tk) hk (Nat.le_refl _) (setO_new hS), rfl, q _ c hcl (I.hok.fresh (Nat.le_refl _))⟩
end
end L2
namespace Dl
open PySem PySem.Spec PyProof.Rows L2
def fSortSet : FA := fun ds Q => ∃ ns : List Int, ds = [.tuple (ns.map .int)] ∧ ns.length < 60 ∧ ∀ ms : List Int, ms.Pairwise (· < ·) → (∀ k, k ∈ ms ↔ k ∈ ns) → Q (.list (ms.map .int))
theorem mo_fSortSet : MoF fSortSet := fun _ _ _ m ⟨ns, e, l, q⟩ => ⟨ns, e, l, fun ms a b => m _ (q ms a b)⟩
section
variable {G : Ga} {X : Cx} {e : Expr} {es : List Expr} {ws : WA} {p pos p2 pos2 : Pos}
theorem df_sortSet (hc : X.calm = true) (hm : X.mg "sorted" = none) (hm2 : X.mg "set" = none) (ha : DAb G X (e :: es) ws) (hg : Gl X "sorted" := by rfl) (hg2 : Gl X "set" := by rfl)
    (he : starEach (e :: es) X.env = (false, eval e X.env) :: starEach es X.env := by rfl) (hpl : (backTo pos2 (starEach es X.env)).any (·.1) = false := by rfl)
    (he2 : starEach [.Call (.Name "set" p2) (e :: es) [] pos2] X.env = (false, eval (.Call (.Name "set" p2) (e :: es) [] pos2) X.env) :: starEach [] X.env := by rfl) (hpl2 : (backTo pos (starEach [] X.env)).any (·.1) = false := by rfl) :
    DF G X (.Call (.Name "sorted" p) [.Call (.Name "set" p2) (e :: es) [] pos2] [] pos) (dA fSortSet ws) :=
  ⟨pe_imp (pe_callB (cr_sortedSet hc) hg hm (by decide +kernel) (pa_cons (pe_callTy (cr_setTI hc) hg2 hm2 (by decide +kernel) ha.pa (by decide) (by decide) he hpl) pa_nil he2) (by decide) (by decide) he2 hpl2) fun σ H Q ⟨F, B, ρ, g, q⟩ => ⟨F, B, ρ, g, ha.mo _ _ _ (fun ds ⟨ns, ed, hl, q⟩ vs H1 k1 o1 l => by
    subst ed
    obtain ⟨v, rfl, r⟩ := bl1 l
    obtain ⟨a, xs, rfl, h, l2⟩ := rb_tup X.K r
    cases RpL.ints_inv l2
    refine ⟨a, ns, rfl, h, hl, fun p c hc np => ⟨p, _, c, rfl, upd_same, by omega, fun ms p2 hs hm hlen np2 => ?_⟩⟩
    have n1 : H1 p2 = none := fresh_back (G := G) (Kp.new np) (ok_new o1 np) np2
    exact q ms hs (fun k => (hm k).trans decide_eq_true_iff) p2 _ _ _ rfl (fresh_back k1 o1 n1) (k1.trans ((Kp.new np).trans (Kp.new np2))) (ok_newb (ok_new o1 np) np2) upd_same (RpL.ints _)) q⟩, mo_dA mo_fSortSet ha.mo⟩
end
end Dl
/-! How the readings unfold, the head first; what follows a value is not looked into before the value is known. -/
namespace Dl
open PySem PySem.Spec PyProof.Rows L2
/-! ### a value of a kind, and what follows it -/
def onInt (d : PyData) (k : Int → Prop) (_t : Tg k := .mk) : Prop := ∃ i, d = .int i ∧ k i
def onBool (d : PyData) (k : Bool → Prop) (_t : Tg k := .mk) : Prop := ∃ i, d = .bool i ∧ k i
def onList (d : PyData) (k : List PyData → Prop) (_t : Tg k := .mk) : Prop := ∃ i, d = .list i ∧ k i
def onTup (d : PyData) (k : List PyData → Prop) (_t : Tg k := .mk) : Prop := ∃ i, d = .tuple i ∧ k i
def onSeq (d : PyData) (k : List PyData → Prop) (_t : Tg k := .mk) : Prop := ∃ i, (d = .list i ∨ d = .tuple i) ∧ k i
def onV (o : Option (Option SV)) (k : PyData → Prop) (_t : Tg k := .mk) : Prop := ∃ d, o = some (some (.v d)) ∧ k d
def onO (o : Option (Option SV)) (k : List PyData → Prop) (_t : Tg k := .mk) : Prop := ∃ d, o = some (some (.o d)) ∧ k d
def onB (o : Option (Option SV)) (k : PyData → Prop) (_t : Tg k := .mk) : Prop := (∃ d, o = some (some (.v d)) ∧ k d) ∨ ∃ ds, (o = some (some (.o ds)) ∨ o = some (some (.b ds))) ∧ k (.list ds)
def onBo (o : Option (Option SV)) (k : List PyData → Prop) (_t : Tg k := .mk) : Prop := ∃ ds, (o = some (some (.o ds)) ∨ o = some (some (.b ds))) ∧ k ds
def onIt (o : Option (Option SV)) (k : List PyData → Prop) (_t : Tg k := .mk) : Prop := (∃ d, o = some (some (.v d)) ∧ ∃ ds, (d = .list ds ∨ d = .tuple ds) ∧ k ds) ∨ ∃ ds, o = some (some (.b ds)) ∧ k ds
def onScr (o : Option (Option SV)) (k : List Int → Prop) (_t : Tg k := .mk) : Prop := ∃ d, o = some (some (.scr d)) ∧ k d
def on1 (l : List PyData) (k : PyData → Prop) (_t : Tg k := .mk) : Prop := ∃ d, l = [d] ∧ k d
def onCons (l : List PyData) (k : PyData → List PyData → Prop) (_t : Tg k := .mk) : Prop := ∃ d r, l = d :: r ∧ k d r
def onLen (d : PyData) (k : Int → Prop) (_t : Tg k := .mk) : Prop := (∃ es, (d = .list es ∨ d = .tuple es) ∧ k (es.length : Nat)) ∨ ∃ z, d = .str z ∧ z.length ≤ sizeLine ∧ k (z.length : Nat)
def on2 (f : W2) (x y : PyData) (Q : PyData → Prop) (_t : Tg Q := .mk) : Prop := f x y Q
def slD (x : PyData) (lo hi : Option Int) (Q : PyData → Prop) (_t : Tg Q := .mk) : Prop := (∃ ds, x = .tuple ds ∧ Q (.tuple (cutD ds lo hi))) ∨ ∃ ds, x = .list ds ∧ Q (.list (cutD ds lo hi))
def zpD (l : List PyData) (Q : List PyData → Prop) (_t : Tg Q := .mk) : Prop := ∃ ds es, (l = [.list ds, .list es] ∨ l = [.tuple ds, .tuple es]) ∧ Q (zipD ds es)
section
variable {d d' : PyData} {l l' : List PyData} {o o' : Option (Option SV)}
end
section
variable {i j : Int} {ds es : List PyData}
theorem onInt_s {k t} : onInt (.int i) k t = k i := propext ⟨fun ⟨_, h, q⟩ => by cases h; exact q, fun q => ⟨_, rfl, q⟩⟩
theorem onBool_s {b : Bool} {k t} : onBool (.bool b) k t = k b := propext ⟨fun ⟨_, h, q⟩ => by cases h; exact q, fun q => ⟨_, rfl, q⟩⟩
theorem onList_s {k t} : onList (.list ds) k t = k ds := propext ⟨fun ⟨_, h, q⟩ => by cases h; exact q, fun q => ⟨_, rfl, q⟩⟩
theorem onTup_s {k t} : onTup (.tuple ds) k t = k ds := propext ⟨fun ⟨_, h, q⟩ => by cases h; exact q, fun q => ⟨_, rfl, q⟩⟩
theorem onSeq_l {k t} : onSeq (.list ds) k t = k ds := propext ⟨fun ⟨_, h, q⟩ => by rcases h with h | h <;> cases h; exact q, fun q => ⟨_, .inl rfl, q⟩⟩
theorem onSeq_t {k t} : onSeq (.tuple ds) k t = k ds := propext ⟨fun ⟨_, h, q⟩ => by rcases h with h | h <;> cases h; exact q, fun q => ⟨_, .inr rfl, q⟩⟩
theorem onLen_l {k t} : onLen (.list ds) k t = k (ds.length : Nat) := propext ⟨fun h => (by
  rcases h with ⟨_, h | h, q⟩ | ⟨_, h, _⟩
  · cases h; exact q
  · cases h
  · cases h), fun q => .inl ⟨_, .inl rfl, q⟩⟩
theorem onLen_t {k t} : onLen (.tuple ds) k t = k (ds.length : Nat) := propext ⟨fun h => (by
  rcases h with ⟨_, h | h, q⟩ | ⟨_, h, _⟩
  · cases h
  · cases h; exact q
  · cases h), fun q => .inl ⟨_, .inr rfl, q⟩⟩
theorem onLen_s {z : Str} {k t} : onLen (.str z) k t = (z.length ≤ sizeLine ∧ k (z.length : Nat)) := propext ⟨fun h => (by
  rcases h with ⟨_, h | h, q⟩ | ⟨_, h, q⟩
  · cases h
  · cases h
  · cases h; exact q), fun q => .inr ⟨_, rfl, q⟩⟩
theorem onV_s {d : PyData} {k t} : onV (some (some (.v d))) k t = k d := propext ⟨fun ⟨_, h, q⟩ => by cases h; exact q, fun q => ⟨_, rfl, q⟩⟩
theorem onO_s {k t} : onO (some (some (.o ds))) k t = k ds := propext ⟨fun ⟨_, h, q⟩ => by cases h; exact q, fun q => ⟨_, rfl, q⟩⟩
theorem onScr_s {ns : List Int} {k t} : onScr (some (some (.scr ns))) k t = k ns := propext ⟨fun ⟨_, h, q⟩ => by cases h; exact q, fun q => ⟨_, rfl, q⟩⟩
theorem onB_v {d : PyData} {k t} : onB (some (some (.v d))) k t = k d := propext ⟨fun h => by
  rcases h with ⟨_, h, q⟩ | ⟨_, h | h, q⟩ <;> cases h
  exact q, fun q => .inl ⟨_, rfl, q⟩⟩
theorem onB_o {k t} : onB (some (some (.o ds))) k t = k (.list ds) := propext ⟨fun h => by
  rcases h with ⟨_, h, q⟩ | ⟨_, h | h, q⟩ <;> cases h
  exact q, fun q => .inr ⟨_, .inl rfl, q⟩⟩
theorem onB_b {k t} : onB (some (some (.b ds))) k t = k (.list ds) := propext ⟨fun h => by
  rcases h with ⟨_, h, q⟩ | ⟨_, h | h, q⟩ <;> cases h
  exact q, fun q => .inr ⟨_, .inr rfl, q⟩⟩
theorem onBo_o {k t} : onBo (some (some (.o ds))) k t = k ds := propext ⟨fun h => by
  rcases h with ⟨_, h | h, q⟩ <;> cases h
  exact q, fun q => ⟨_, .inl rfl, q⟩⟩
theorem onBo_b {k t} : onBo (some (some (.b ds))) k t = k ds := propext ⟨fun h => by
  rcases h with ⟨_, h | h, q⟩ <;> cases h
  exact q, fun q => ⟨_, .inr rfl, q⟩⟩
theorem onIt_v {d : PyData} {k t} : onIt (some (some (.v d))) k t = onSeq d k := propext ⟨fun h => by
  rcases h with ⟨_, h, q⟩ | ⟨_, h, q⟩ <;> cases h
  exact q, fun q => .inl ⟨_, rfl, q⟩⟩
theorem onIt_b {k t} : onIt (some (some (.b ds))) k t = k ds := propext ⟨fun h => by
  rcases h with ⟨_, h, q⟩ | ⟨_, h, q⟩ <;> cases h
  exact q, fun q => .inr ⟨_, rfl, q⟩⟩
theorem on1_s {d : PyData} {k t} : on1 [d] k t = k d := propext ⟨fun ⟨_, h, q⟩ => by cases h; exact q, fun q => ⟨_, rfl, q⟩⟩
theorem onCons_s {d : PyData} {k t} : onCons (d :: ds) k t = k d ds := propext ⟨fun ⟨_, _, h, q⟩ => by cases h; exact q, fun q => ⟨_, _, rfl, q⟩⟩
theorem slD_t {lo hi Q t} : slD (.tuple ds) lo hi Q t = Q (.tuple (cutD ds lo hi)) := propext ⟨fun h => by rcases h with ⟨_, h, q⟩ | ⟨_, h, q⟩ <;> cases h; exact q, fun q => .inl ⟨_, rfl, q⟩⟩
theorem slD_l {lo hi Q t} : slD (.list ds) lo hi Q t = Q (.list (cutD ds lo hi)) := propext ⟨fun h => by rcases h with ⟨_, h, q⟩ | ⟨_, h, q⟩ <;> cases h; exact q, fun q => .inr ⟨_, rfl, q⟩⟩
theorem zpD_l {Q t} : zpD [.list ds, .list es] Q t = Q (zipD ds es) := propext ⟨fun ⟨_, _, h, q⟩ => by rcases h with h | h <;> cases h; exact q, fun q => ⟨_, _, .inl rfl, q⟩⟩
theorem zpD_t {Q t} : zpD [.tuple ds, .tuple es] Q t = Q (zipD ds es) := propext ⟨fun ⟨_, _, h, q⟩ => by rcases h with h | h <;> cases h; exact q, fun q => ⟨_, _, .inr rfl, q⟩⟩
theorem fAdd_i {Q t} : on2 (fAdd) (.int i) (.int j) Q t = Q (.int (i + j)) := propext ⟨fun h => by
  rcases h with ⟨_, _, a, b, q⟩ | ⟨_, _, a, _⟩ | ⟨_, _, a, _⟩ | ⟨_, _, a, _⟩ <;> cases a; cases b; exact q, fun q => .inl ⟨_, _, rfl, rfl, q⟩⟩
theorem fAdd_t {Q t} : on2 (fAdd) (.tuple ds) (.tuple es) Q t = (ds.length + es.length ≤ sizeLine ∧ Q (.tuple (ds ++ es))) := propext ⟨fun h => by
  rcases h with ⟨_, _, a, _⟩ | ⟨_, _, a, b, q⟩ | ⟨_, _, a, _⟩ | ⟨_, _, a, _⟩ <;> cases a; cases b; exact q, fun q => .inr (.inl ⟨_, _, rfl, rfl, q⟩)⟩
theorem fAdd_l {Q t} : on2 (fAdd) (.list ds) (.list es) Q t = (ds.length + es.length ≤ sizeLine ∧ Q (.list (ds ++ es))) := propext ⟨fun h => by
  rcases h with ⟨_, _, a, _⟩ | ⟨_, _, a, _⟩ | ⟨_, _, a, b, q⟩ | ⟨_, _, a, _⟩ <;> cases a; cases b; exact q, fun q => .inr (.inr (.inl ⟨_, _, rfl, rfl, q⟩))⟩
theorem fAdd_s {x y : Str} {Q t} : on2 (fAdd) (.str x) (.str y) Q t = (x.length + y.length ≤ sizeLine ∧ Q (.str (x ++ y))) := propext ⟨fun h => by
  rcases h with ⟨_, _, a, _⟩ | ⟨_, _, a, _⟩ | ⟨_, _, a, _⟩ | ⟨_, _, a, b, q⟩ <;> cases a; cases b; exact q, fun q => .inr (.inr (.inr ⟨_, _, rfl, rfl, q⟩))⟩
theorem fMul_i {Q t} : on2 (fMul) (.int i) (.int j) Q t = (CMulW i j ∧ Q (.int (i * j))) := propext ⟨fun h => by
  rcases h with ⟨_, _, a, b, q⟩ | ⟨_, _, a, _⟩ <;> cases a; cases b; exact q, fun q => .inl ⟨_, _, rfl, rfl, q⟩⟩
theorem fMul_l {Q t} : on2 (fMul) (.list ds) (.int j) Q t = ((-(2 ^ 63) ≤ j ∧ j < 2 ^ 63 ∧ ds.length * j.toNat ≤ sizeLine) ∧ Q (.list (List.replicate j.toNat ds).flatten)) := propext ⟨fun h => by
  rcases h with ⟨_, _, a, _⟩ | ⟨_, _, a, b, q⟩ <;> cases a; cases b; exact q, fun q => .inr ⟨_, _, rfl, rfl, q⟩⟩
theorem fIn_l {f : Bool → Bool} {d : PyData} {Q t} : on2 (fIn f) d (.list ds) Q t = (SeqAt.shaped d = true ∧ SeqAt.shaped (.list ds) = true ∧ Q (.bool (f (ds.any fun z => PyData.eqv z d)))) := propext ⟨fun h => by
  rcases h with ⟨_, a, q⟩ | ⟨_, _, _, a, _⟩ <;> cases a; exact q, fun q => .inl ⟨_, rfl, q⟩⟩
theorem fIn_t {f : Bool → Bool} {Q t} : on2 (fIn f) (.int i) (.tuple ds) Q t = ∃ ns : List Int, ds = ns.map .int ∧ Q (.bool (f (decide (i ∈ ns)))) := propext ⟨fun h => (by
  rcases h with ⟨_, a, _⟩ | ⟨_, _, a, b, q⟩
  · cases a
  · cases a; cases b; exact ⟨_, rfl, q⟩), fun ⟨_, a, q⟩ => by subst a; exact .inr ⟨_, _, rfl, rfl, q⟩⟩
end

/-! ### the readings -/
section
variable {i j n m : Nat} {ρ : En} {E : DEnds} {w wa wb wc w2 : WE} {ws : WA} {t u : WT} {wl wh : WO} {gs : WTgs} {g : WTg} {d x y : PyData} {ds : List PyData} {Q : PyData → Prop} {QE : En → Prop} {QB : Bool → Prop} {QA : List PyData → Prop} {QO : Option Int → Prop} {QG : List SV → Prop} {wg : WG}
theorem w_dVar : dVar i ρ Q = onV ρ[i]? Q := rfl
theorem w_dVarB : dVarB i ρ Q = onB ρ[i]? Q := rfl
theorem w_dC : dC d ρ Q = Q d := rfl
theorem w_d2 {f : W2} : d2 f wa wb ρ Q = wa ρ fun x => wb ρ fun y => on2 f x y Q := rfl
theorem w_fI {C : Int → Int → Prop} {h : Int → Int → PyData} {t : Tg Q} : on2 (fI C h) x y Q t = onInt x fun a => onInt y fun b => C a b ∧ Q (h a b) := propext ⟨fun ⟨_, _, a, b, q⟩ => ⟨_, a, _, b, q⟩, fun ⟨_, a, _, b, q⟩ => ⟨_, _, a, b, q⟩⟩
theorem w_fEq {t : Tg Q} : on2 fEq x y Q t = (SeqAt.shaped x = true ∧ SeqAt.shaped y = true ∧ Q (.bool (PyData.eqv x y))) := rfl
theorem w_fNe {t : Tg Q} : on2 fNe x y Q t = (SeqAt.shaped x = true ∧ SeqAt.shaped y = true ∧ Q (.bool (!PyData.eqv x y))) := rfl
theorem w_tb : tb w ρ QB = w ρ fun d => onBool d QB := rfl
theorem w_dSet : dSet i w E ρ = (i < ρ.length ∧ w ρ fun d => E.nx (ρ.set i (some (.v d)))) := rfl
theorem w_dSetO : dSetO i w E ρ = (i < ρ.length ∧ w ρ fun d => onList d fun ds => E.nx (ρ.set i (some (.o ds)))) := rfl
theorem w_dRet : dRet w E ρ = w ρ E.rt := rfl
theorem w_dRetN : dRetN E ρ = E.rt .none := rfl
theorem w_dDrop : dDrop w E ρ = w ρ fun _ => E.nx ρ := rfl
theorem w_dNext : dNext E ρ = E.nx ρ := rfl
theorem w_dPar : dPar i j wa wb E ρ = (i < ρ.length ∧ j < ρ.length ∧ wa ρ fun d => wb ρ fun d2 => E.nx ((ρ.set i (some (.v d))).set j (some (.v d2)))) := rfl
theorem w_dIf : dIf t wa wb ρ Q = t ρ fun c => ifS c (wa ρ Q) (wb ρ Q) := rfl
theorem w_aNil : aNil ρ QA = QA [] := rfl
theorem w_aCons : aCons w ws ρ QA = w ρ fun d => ws ρ fun ds => QA (d :: ds) := rfl
theorem w_aStar : aStar w ws ρ QA = w ρ fun d => onSeq d fun es => ws ρ fun ds => QA (es ++ ds) := rfl
theorem w_dTup : dTup ws ρ Q = ws ρ fun ds => ds.length ≤ sizeLine ∧ Q (.tuple ds) := rfl
theorem w_dLst : dLst ws ρ Q = ws ρ fun ds => ds.length ≤ sizeLine ∧ Q (.list ds) := rfl
theorem w_dAsg : dAsg w g E ρ = w ρ fun d => g d ρ E.nx := rfl
theorem w_tgTup : tgTup n gs d ρ QE = onTup d fun ds => ds.length = n ∧ gs ds ρ QE := rfl
theorem w_tgCons : tgCons g gs ds ρ QE = onCons ds fun d r => g d ρ fun ρ' => gs r ρ' QE := rfl
theorem w_tgNil : tgNil ds ρ QE = (ds = [] ∧ QE ρ) := rfl
theorem w_tgName : tgName i d ρ QE = (i < ρ.length ∧ QE (ρ.set i (some (.v d)))) := rfl
theorem w_tgSub : tgSub i w d ρ QE = onO ρ[i]? fun ds => w ρ fun ix => onInt ix fun k => ∃ j, ixN ds.length k = some j ∧ QE (ρ.set i (some (.o (ds.set j d)))) := by
  unfold tgSub onO onInt
  congr 1; funext ds; congr 2; funext ix
  exact propext ⟨fun ⟨_, _, a, q⟩ => ⟨_, a, _, q⟩, fun ⟨_, a, _, q⟩ => ⟨_, _, a, q⟩⟩
theorem w_dAnd : dAnd t u ρ QB = t ρ fun c => ifS c (u ρ QB) (QB false) := rfl
theorem w_dOr : dOr t u ρ QB = t ρ fun c => ifS c (QB true) (u ρ QB) := rfl
theorem w_dNot : dNot t ρ QB = t ρ fun c => QB (!c) := rfl
theorem w_dAndV : dAndV wa wb ρ Q = wa ρ fun x => onBool x fun c => ifS c (wb ρ Q) (Q (.bool false)) := rfl
theorem w_dOrV : dOrV wa wb ρ Q = wa ρ fun x => onBool x fun c => ifS c (Q (.bool true)) (wb ρ Q) := rfl
theorem w_dNotV : dNotV wa ρ Q = wa ρ fun x => onBool x fun c => Q (.bool (!c)) := rfl
theorem w_dNeg : dNeg wa ρ Q = wa ρ fun x => onInt x fun k => Q (.int (-k)) := rfl
theorem w_fIx {t : Tg Q} : on2 fIx x y Q t = onSeq x fun ds => onInt y fun k => ∃ d, atI ds k = some d ∧ Q d := propext ⟨fun ⟨_, _, _, a, b, c⟩ => ⟨_, a, _, b, _, c⟩, fun ⟨_, a, _, b, _, c⟩ => ⟨_, _, _, a, b, c⟩⟩
theorem w_oNone : oNone ρ QO = QO none := rfl
theorem w_oSome : oSome w ρ QO = w ρ fun d => onInt d fun k => QO (some k) := rfl
theorem w_dSlT : dSlT wa wl wh ρ Q = wa ρ fun x => wl ρ fun lo => wh ρ fun hi => onTup x fun ds => Q (.tuple (cutD ds lo hi)) := rfl
theorem w_dSlL : dSlL wa wl wh ρ Q = wa ρ fun x => wl ρ fun lo => wh ρ fun hi => onList x fun ds => Q (.list (cutD ds lo hi)) := rfl
theorem w_dSl : dSl wa wl wh ρ Q = wa ρ fun x => wl ρ fun lo => wh ρ fun hi => slD x lo hi Q := rfl
theorem w_dA {f : FA} : dA f ws ρ Q = ws ρ fun ds => f ds Q := rfl
theorem w_fAbs : fAbs ds Q = on1 ds fun d => onInt d fun k => Q (.int (if k < 0 then -k else k)) := propext ⟨fun ⟨_, a, q⟩ => ⟨_, a, _, rfl, q⟩, fun ⟨_, a, _, b, q⟩ => ⟨_, by rw [a, b], q⟩⟩
theorem w_fInt : fInt ds Q = on1 ds fun d => onInt d fun k => Q (.int k) := propext ⟨fun ⟨_, a, q⟩ => ⟨_, a, _, rfl, q⟩, fun ⟨_, a, _, b, q⟩ => ⟨_, by rw [a, b], q⟩⟩
theorem w_fMax2 : fMax2 ds Q = onCons ds fun d r => on1 r fun e => onInt d fun a => onInt e fun b => Q (.int (if b > a then b else a)) := propext ⟨fun ⟨_, _, a, q⟩ => ⟨_, _, a, _, rfl, _, rfl, _, rfl, q⟩, fun ⟨_, _, a, _, b, _, c, _, d, q⟩ => ⟨_, _, by rw [a, b, c, d], q⟩⟩
theorem w_fAll : fAll ds Q = on1 ds fun d => onList d fun es => ∃ bs : List Bool, es = bs.map .bool ∧ Q (.bool (bs.all _root_.id)) := propext ⟨fun ⟨_, a, q⟩ => ⟨_, a, _, rfl, _, rfl, q⟩, fun ⟨_, a, _, b, _, c, q⟩ => ⟨_, by rw [a, b, c], q⟩⟩
theorem w_fAny : fAny ds Q = on1 ds fun d => onList d fun es => ∃ bs : List Bool, es = bs.map .bool ∧ Q (.bool (bs.any _root_.id)) := propext ⟨fun ⟨_, a, q⟩ => ⟨_, a, _, rfl, _, rfl, q⟩, fun ⟨_, a, _, b, _, c, q⟩ => ⟨_, by rw [a, b, c], q⟩⟩
theorem w_fSum : fSum ds Q = on1 ds fun d => onList d fun es => ∃ ns : List Int, es = ns.map .int ∧ Q (.int ns.sum) := propext ⟨fun ⟨_, a, q⟩ => ⟨_, a, _, rfl, _, rfl, q⟩, fun ⟨_, a, _, b, _, c, q⟩ => ⟨_, by rw [a, b, c], q⟩⟩
theorem w_fMinL : fMinL ds Q = on1 ds fun d => onList d fun es => ∃ ns : List Int, es = ns.map .int ∧ 0 < ns.length ∧ ∀ m, m ∈ ns → (∀ y, y ∈ ns → m ≤ y) → Q (.int m) := propext ⟨fun ⟨_, a, q⟩ => ⟨_, a, _, rfl, _, rfl, q⟩, fun ⟨_, a, _, b, _, c, q⟩ => ⟨_, by rw [a, b, c], q⟩⟩
theorem w_fMaxL : fMaxL ds Q = on1 ds fun d => onList d fun es => ∃ ns : List Int, es = ns.map .int ∧ 0 < ns.length ∧ ∀ m, m ∈ ns → (∀ y, y ∈ ns → y ≤ m) → Q (.int m) := propext ⟨fun ⟨_, a, q⟩ => ⟨_, a, _, rfl, _, rfl, q⟩, fun ⟨_, a, _, b, _, c, q⟩ => ⟨_, by rw [a, b, c], q⟩⟩
theorem w_fSortU : fSortU ds Q = on1 ds fun d => onSeq d fun es => ∃ ns : List Int, es = ns.map .int ∧ ∀ ns' : List Int, ns'.Perm ns → ns'.Pairwise (· ≤ ·) → Q (.list (ns'.map .int)) := propext ⟨fun ⟨_, a, q⟩ => by
  rcases a with a | a
  · exact ⟨_, a, _, .inl rfl, _, rfl, q⟩
  · exact ⟨_, a, _, .inr rfl, _, rfl, q⟩, fun ⟨_, a, _, b, _, c, q⟩ => ⟨_, by rcases b with b | b <;> rw [a, b, c] <;> simp, q⟩⟩
theorem w_fLen : fLen ds Q = on1 ds fun d => onLen d fun k => Q (.int k) := propext ⟨fun h => by
  rcases h with ⟨_, a | a, q⟩ | ⟨_, a, q⟩
  · exact ⟨_, a, .inl ⟨_, .inl rfl, q⟩⟩
  · exact ⟨_, a, .inl ⟨_, .inr rfl, q⟩⟩
  · exact ⟨_, a, .inr ⟨_, rfl, q⟩⟩, fun ⟨_, a, h⟩ => by
  rcases h with ⟨_, b | b, q⟩ | ⟨_, b, q⟩
  · exact .inl ⟨_, .inl (by rw [a, b]), q⟩
  · exact .inl ⟨_, .inr (by rw [a, b]), q⟩
  · exact .inr ⟨_, by rw [a, b], q⟩⟩
theorem w_fList : fList ds Q = on1 ds fun d => onSeq d fun es => Q (.list es) := propext ⟨fun ⟨_, a, q⟩ => by
  rcases a with a | a
  · exact ⟨_, a, _, .inl rfl, q⟩
  · exact ⟨_, a, _, .inr rfl, q⟩, fun ⟨_, a, _, b, q⟩ => ⟨_, by rcases b with b | b <;> rw [a, b] <;> simp, q⟩⟩
theorem w_fTuple : fTuple ds Q = on1 ds fun d => onSeq d fun es => Q (.tuple es) := propext ⟨fun ⟨_, a, q⟩ => by
  rcases a with a | a
  · exact ⟨_, a, _, .inl rfl, q⟩
  · exact ⟨_, a, _, .inr rfl, q⟩, fun ⟨_, a, _, b, q⟩ => ⟨_, by rcases b with b | b <;> rw [a, b] <;> simp, q⟩⟩
theorem w_fSortT : fSortT ds Q = on1 ds fun d => onList d fun es => ∃ nss : List (List Int), es = nss.map tupI ∧ ((∀ x ∈ nss, x ≠ []) ∨ nss.head? = some []) ∧ ∀ out : List (List Int), out.Perm nss → out.Pairwise (fun x y => lexI y x = false) → Q (.list (out.map tupI)) :=
  propext ⟨fun ⟨_, a, b, q⟩ => ⟨_, a, _, rfl, _, rfl, b, q⟩, fun ⟨_, a, _, b, _, c, d, q⟩ => ⟨_, by rw [a, b, c], d, q⟩⟩
theorem w_fSortTT : fSortTT ds Q = on1 ds fun d => onTup d fun es => ∃ nss : List (List Int), es = nss.map tupI ∧ ((∀ x ∈ nss, x ≠ []) ∨ nss.head? = some []) ∧ ∀ out : List (List Int), out.Perm nss → out.Pairwise (fun x y => lexI y x = false) → Q (.list (out.map tupI)) :=
  propext ⟨fun ⟨_, a, b, q⟩ => ⟨_, a, _, rfl, _, rfl, b, q⟩, fun ⟨_, a, _, b, _, c, d, q⟩ => ⟨_, by rw [a, b, c], d, q⟩⟩
theorem w_fSortSet : fSortSet ds Q = on1 ds fun d => onTup d fun es => ∃ ns : List Int, es = ns.map .int ∧ ns.length < 60 ∧ ∀ ms : List Int, ms.Pairwise (· < ·) → (∀ k, k ∈ ms ↔ k ∈ ns) → Q (.list (ms.map .int)) :=
  propext ⟨fun ⟨_, a, b, q⟩ => ⟨_, a, _, rfl, _, rfl, b, q⟩, fun ⟨_, a, _, b, _, c, d, q⟩ => ⟨_, by rw [a, b, c], d, q⟩⟩
theorem w_fMaxT : fMaxT ds Q = on1 ds fun d => onTup d fun es => ∃ (n : Int) (ns : List Int), es = (n :: ns).map .int ∧ Q (.int (ns.foldl max n)) :=
  propext ⟨fun ⟨_, _, a, q⟩ => ⟨_, a, _, rfl, _, _, rfl, q⟩, fun ⟨_, a, _, b, _, _, c, q⟩ => ⟨_, _, by rw [a, b, c], q⟩⟩
theorem w_fRepr : fRepr ds Q = on1 ds fun d => TxOk d ∧ Q (.str d.shown) := rfl
theorem w_fIsN {t : Tg Q} : on2 fIsN x y Q t = (y = .none ∧ Q (.bool (isN x))) := rfl
theorem w_fNotN {t : Tg Q} : on2 fNotN x y Q t = (y = .none ∧ Q (.bool (!isN x))) := rfl
theorem w_fIsB {t : Tg Q} : on2 fIsB x y Q t = onBool x fun a => onBool y fun b => Q (.bool (decide (a = b))) := propext ⟨fun ⟨_, _, a, b, q⟩ => ⟨_, a, _, b, q⟩, fun ⟨_, a, _, b, q⟩ => ⟨_, _, a, b, q⟩⟩
theorem w_fNotB {t : Tg Q} : on2 fNotB x y Q t = onBool x fun a => onBool y fun b => Q (.bool (!decide (a = b))) := propext ⟨fun ⟨_, _, a, b, q⟩ => ⟨_, a, _, b, q⟩, fun ⟨_, a, _, b, q⟩ => ⟨_, _, a, b, q⟩⟩
theorem w_fCatL {t : Tg Q} : on2 fCatL x y Q t = onList x fun ds => onList y fun es => ds.length + es.length ≤ sizeLine ∧ Q (.list (ds ++ es)) := propext ⟨fun ⟨_, _, a, b, q⟩ => ⟨_, a, _, b, q⟩, fun ⟨_, a, _, b, q⟩ => ⟨_, _, a, b, q⟩⟩
theorem w_fRepL {t : Tg Q} : on2 fRepL x y Q t = onList x fun ds => onInt y fun k => (-(2 ^ 63) ≤ k ∧ k < 2 ^ 63 ∧ ds.length * k.toNat ≤ sizeLine) ∧ Q (.list (List.replicate k.toNat ds).flatten) := propext ⟨fun ⟨_, _, a, b, q⟩ => ⟨_, a, _, b, q⟩, fun ⟨_, a, _, b, q⟩ => ⟨_, _, a, b, q⟩⟩
theorem w_dRev : dRev w ρ Q = w ρ fun d => onList d fun ds => Q (.list ds.reverse) := rfl
theorem w_dRg {f : List PyData → PyData} : dRg f w ρ Q = w ρ fun d => onInt d fun k => 0 ≤ k ∧ k ≤ 16777216 ∧ Q (f ((List.range k.toNat).map fun i => .int (i : Nat))) := rfl
theorem w_dScr : dScr i wh ρ Q = onScr ρ[i]? fun ns => wh ρ fun hi => Q (.list (cutD (ns.map PyData.int) none hi)) := rfl
theorem w_gNil' : gNil' ρ QG = QG [] := rfl
theorem w_gVal : gVal w wg ρ QG = w ρ fun d => wg ρ fun svs => QG (.v d :: svs) := rfl
theorem w_gDeal : gDeal i wg ρ QG = (ρ[i]? = some (some .dl) ∧ wg ρ fun svs => QG (.dl :: svs)) := rfl
theorem w_gBor : gBor i wg ρ QG = onBo ρ[i]? fun ds => wg ρ fun svs => QG (.b ds :: svs) := rfl
theorem w_iVar : iVar i ρ QA = onIt ρ[i]? QA := rfl
theorem w_gScr : gScr i wg ρ QG = onScr ρ[i]? fun ns => wg ρ fun svs => QG (.scr ns :: svs) := rfl
theorem w_iSeq : iSeq w ρ QA = w ρ fun d => onSeq d QA := rfl
theorem w_iR1 : iR1 w ρ QA = w ρ fun d => onInt d fun k => (-(2 ^ 62) ≤ k ∧ k < 2 ^ 62) ∧ QA ((List.range k.toNat).map fun (i : Nat) => .int (0 + i)) := rfl
theorem w_iR2 : iR2 w w2 ρ QA = w ρ fun d => w2 ρ fun d2 => onInt d fun a => onInt d2 fun b => (-(2 ^ 62) ≤ a ∧ a < 2 ^ 62 ∧ -(2 ^ 62) ≤ b ∧ b < 2 ^ 62) ∧ QA ((List.range (b - a).toNat).map fun (k : Nat) => .int (a + k)) := by
  unfold iR2 onInt
  congr 1; funext d; congr 1; funext d2
  exact propext ⟨fun ⟨_, _, a, b, q⟩ => ⟨_, a, _, b, q⟩, fun ⟨_, a, _, b, q⟩ => ⟨_, _, a, b, q⟩⟩
theorem w_iEn : iEn ws ρ QA = ws ρ fun l => on1 l fun d => onSeq d fun ds => QA (numD 0 ds) := by
  unfold iEn on1 onSeq
  congr 1; funext l
  refine propext ⟨fun ⟨_, a, q⟩ => ?_, fun ⟨_, a, _, b, q⟩ => ⟨_, by rcases b with b | b <;> rw [a, b] <;> simp, q⟩⟩
  rcases a with a | a
  · exact ⟨_, a, _, .inl rfl, q⟩
  · exact ⟨_, a, _, .inr rfl, q⟩
theorem w_iZp : iZp ws ρ QA = ws ρ fun l => zpD l QA := rfl
theorem w_dRel {s : WS} : dRel i s E ρ = s E (rel ρ i) := rfl
theorem w_dApp : dApp i w E ρ = onO ρ[i]? fun ds => w ρ fun d => ds.length < sizeLine ∧ E.nx (ρ.set i (some (.o (ds ++ [d])))) := rfl
theorem w_dExt : dExt i w E ρ = onO ρ[i]? fun ds => w ρ fun d => onList d fun es => ds.length + es.length ≤ sizeLine ∧ E.nx (ρ.set i (some (.o (ds ++ es)))) := rfl
theorem w_dAppPop : dAppPop i j w E ρ = (i ≠ j ∧ onO ρ[i]? fun ds => onO ρ[j]? fun es => w ρ fun d => ∃ (n : Nat) (z : PyData), d = .int (n : Nat) ∧ ds[n]? = some z ∧ n < 2 ^ 63 ∧ es.length < sizeLine ∧ E.nx ((ρ.set i (some (.o (ds.eraseIdx n)))).set j (some (.o (es ++ [z]))))) := by
  unfold dAppPop onO
  exact propext ⟨fun ⟨h, _, _, a, b, q⟩ => ⟨h, _, a, _, b, q⟩, fun ⟨h, _, a, _, b, q⟩ => ⟨h, _, _, a, b, q⟩⟩
theorem w_dPop : dPop i w E ρ = onO ρ[i]? fun ds => w ρ fun d => ∃ (n : Nat) (z : PyData), d = .int (n : Nat) ∧ ds[n]? = some z ∧ n < 2 ^ 63 ∧ E.nx (ρ.set i (some (.o (ds.eraseIdx n)))) := rfl
theorem w_dSetPop : dSetPop i j w E ρ = (i ≠ j ∧ j < ρ.length ∧ onO ρ[i]? fun ds => w ρ fun d => ∃ (n : Nat) (z : PyData), d = .int (n : Nat) ∧ ds[n]? = some z ∧ n < 2 ^ 63 ∧ E.nx ((ρ.set i (some (.o (ds.eraseIdx n)))).set j (some (.v z)))) := rfl
theorem w_dIns : dIns i w w2 E ρ = onO ρ[i]? fun ds => w ρ fun d => w2 ρ fun d2 => onInt d fun n => ds.length < sizeLine ∧ 0 ≤ n ∧ n < 2 ^ 63 ∧ E.nx (ρ.set i (some (.o (ds.take n.toNat ++ [d2] ++ ds.drop n.toNat)))) := rfl
theorem w_dParOO : dParOO i j wa wb E ρ = (i < ρ.length ∧ j < ρ.length ∧ wa ρ fun d => wb ρ fun d2 => onList d fun ds => onList d2 fun es => E.nx ((ρ.set i (some (.o ds))).set j (some (.o es)))) := by
  unfold dParOO onList
  congr 2; congr 1; funext d; congr 1; funext d2
  exact propext ⟨fun ⟨_, _, a, b, q⟩ => ⟨_, a, _, b, q⟩, fun ⟨_, a, _, b, q⟩ => ⟨_, _, a, b, q⟩⟩
theorem w_dParOV : dParOV i j wa wb E ρ = (i < ρ.length ∧ j < ρ.length ∧ wa ρ fun d => wb ρ fun d2 => onList d fun ds => E.nx ((ρ.set i (some (.o ds))).set j (some (.v d2)))) := rfl
theorem w_dParVO : dParVO i j wa wb E ρ = (i < ρ.length ∧ j < ρ.length ∧ wa ρ fun d => wb ρ fun d2 => onList d2 fun es => E.nx ((ρ.set i (some (.v d))).set j (some (.o es)))) := rfl
theorem w_dRaise {xd : En → Addr → PyData → Prop} {C : Addr} : dRaise xd C w E ρ = w ρ fun d => xd ρ C d := rfl
theorem w_dCh {f h : Int → Int → Bool} : dCh f h wa wb wc ρ Q = wa ρ fun x => wb ρ fun y => onInt x fun a => onInt y fun b => ifS (f a b) (wc ρ fun z => onInt z fun k => Q (.bool (h b k))) (Q (.bool false)) := by
  unfold dCh onInt
  congr 1; funext d; congr 1; funext d2
  exact propext ⟨fun ⟨_, _, a, b, q⟩ => ⟨_, a, _, b, q⟩, fun ⟨_, a, _, b, q⟩ => ⟨_, _, a, b, q⟩⟩
theorem n_cx {CX : CXT} {P : Program} {w : World} {K : PySem.W.Frag} {mg : Str → Option Value} {base : Heap} {N : List Str} {nm : Str} {sc : Scope} {f : Addr} {cdv : Value} {A : Around} {outer : List Env} {s : Shared} {H : Hp} {E : XK} : (cxOf CX P w K mg base N nm sc f cdv A outer s H E).N = N := rfl
theorem ifS_both {c : Bool} {A B : Prop} (h : B) (g : c = true → B → A) : ifS c A B := by
  cases c
  · exact h
  · exact g rfl h
end
end Dl
/-! The data layer, part 28: three names at once. -/
namespace Dl
open PySem PySem.Spec PyProof.Rows L2
def dPar3 (i j l : Nat) (wa wb wc : WE) : WS := fun E ρ => i < ρ.length ∧ j < ρ.length ∧ l < ρ.length ∧ wa ρ fun d => wb ρ fun d2 => wc ρ fun d3 => E.nx (((ρ.set i (some (.v d))).set j (some (.v d2))).set l (some (.v d3)))
section
variable {G : Ga} {X : Cx} {wa wb wc : WE} {pos : Pos} {i j l : Nat}
theorem ds_par3 {x y z : Str} {a b c : Expr} {px py pz pt : Pos} {kt k2 pt2} (hc : X.calm = true) (hN : X.N.Nodup) (hi : X.N[i]? = some x) (hj : X.N[j]? = some y) (hl : X.N[l]? = some z) (hij : i ≠ j) (hil : i ≠ l) (hjl : j ≠ l)
    (hx : X.env.scope.names.lookup x = some .local) (hy : X.env.scope.names.lookup y = some .local) (hz : X.env.scope.names.lookup z = some .local) (ha : DE G X a wa) (hb : DE G X b wb) (hcc : DE G X c wc)
    (hw : swappedStores [.Tuple [.Name x px, .Name y py, .Name z pz] kt pt] (.Tuple [a, b, c] k2 pt2) X.env = pure (some [x, y, z]))
    (hs : swapsWithSole [.Tuple [.Name x px, .Name y py, .Name z pz] kt pt] (.Tuple [a, b, c] k2 pt2) pos.line X.env = pure false := by rfl)
    (s1 : starEach [a, b, c] X.env = (false, eval a X.env) :: starEach [b, c] X.env := by rfl) (s2 : starEach [b, c] X.env = (false, eval b X.env) :: starEach [c] X.env := by rfl) (s3 : starEach [c] X.env = (false, eval c X.env) :: starEach [] X.env := by rfl) :
    DS G X (.Assign [.Tuple [.Name x px, .Name y py, .Name z pz] kt pt] (.Tuple [a, b, c] k2 pt2) pos) (dPar3 i j l wa wb wc) :=
  ⟨ps_imp (ps_par3 hc hN hi hj hl hij hil hjl hx hy hz (da_cons ha (da_cons hb (da_cons hcc da_nil s3) s2) s1).pa hw hs) fun D σ H ⟨F, B, ρ, E, g, ⟨hi, hj, hl, q⟩, f⟩ => ⟨F, B, ρ, g, ha.mo _ _ _ (fun d q => hb.mo _ _ _ (fun d2 q => hcc.mo _ _ _ (fun d3 q vs H' k o ll => by
    cases ll with
    | cons r1 ll =>
      cases ll with
      | cons r2 ll =>
        cases ll with
        | cons r3 ll =>
          cases ll
          exact ⟨_, _, _, rfl, f.nx _ _ _ _ q ((((g.step k o).put hi (fun _ z => by cases z) (.v r1)).put (by simpa using hj) (fun _ z => by cases z) (.v r2)).put (by simpa using hl) (fun _ z => by cases z) (.v r3))⟩) q) q) q⟩,
   fun E E' ρ b ⟨hi, hj, hl, q⟩ => ⟨hi, hj, hl, ha.mo _ _ _ (fun d q => hb.mo _ _ _ (fun d2 q => hcc.mo _ _ _ (fun d3 q => b.nx _ q) q) q) q⟩⟩
theorem w_dPar3 {E : DEnds} {ρ : En} : dPar3 i j l wa wb wc E ρ = (i < ρ.length ∧ j < ρ.length ∧ l < ρ.length ∧ wa ρ fun d => wb ρ fun d2 => wc ρ fun d3 => E.nx (((ρ.set i (some (.v d))).set j (some (.v d2))).set l (some (.v d3)))) := rfl
end
end Dl
/-! The data layer, part 29: a text so many times; a = b = c = e; three names, the last one a list of its own. -/
namespace Dl
open PySem PySem.Spec PyProof.Rows L2
theorem op_mulS {X : Cx} : OpR X (binaryOp .Mult) (fun x y H Q => ∃ z k, x = .str z ∧ y = .int k ∧ MulOk z k ∧ Q (.str (Txt.mul z k)) H) := by
  intro pins s σ H x y v u Q I rx ry h
  obtain ⟨i, j, rfl, rfl, hz, q⟩ := h
  obtain ⟨t, rfl⟩ := rx
  obtain ⟨t', rfl⟩ := ry
  exact SB.mul hz fun t' tk => ⟨.str (Txt.mul i j), H, I.tok _, ⟨_, rfl⟩, q⟩
def fMulS : W2 := fun x y Q => ∃ z k, x = .str z ∧ y = .int k ∧ MulOk z k ∧ Q (.str (Txt.mul z k))
theorem mo_fMulS : Mo2 fMulS := fun _ _ _ _ m ⟨i, j, h1, h2, h3, q⟩ => ⟨i, j, h1, h2, h3, m _ q⟩
section
variable {G : Ga} {X : Cx} {a b : Expr} {wa wb wc w : WE} {pos : Pos} {i j l : Nat}
theorem de_mulS (ha : DB G X a wa) (hb : DB G X b wb) : DE G X (.BinOp a .Mult b pos) (d2 fMulS wa wb) :=
  de_op op_mulS ha hb (fun F B σ ρ H x y d e Q g rx ry q => by
    obtain ⟨i, j, rfl, rfl, hz, q⟩ := q
    exact ⟨i, j, rb_str rx, rb_int ry, hz, q _ H .refl g.deal (.str _)⟩) mo_fMulS
theorem w_fMulS {x : Str} {k : Int} {Q : PyData → Prop} {t : Tg Q} : on2 fMulS (.str x) (.int k) Q t = (MulOk x k ∧ Q (.str (Txt.mul x k))) := propext ⟨fun ⟨_, _, a, b, c, q⟩ => by cases a; cases b; exact ⟨c, q⟩, fun ⟨c, q⟩ => ⟨_, _, rfl, rfl, c, q⟩⟩
/-- a = b = c = e -/
def dSet3 (i j l : Nat) (w : WE) : WS := fun E ρ => i < ρ.length ∧ j < ρ.length ∧ l < ρ.length ∧ w ρ fun d => E.nx (((ρ.set i (some (.v d))).set j (some (.v d))).set l (some (.v d)))
theorem ds_set3 {e : Expr} {x y z : Str} {px py pz : Pos} (hN : X.N.Nodup) (hi : X.N[i]? = some x) (hj : X.N[j]? = some y) (hl : X.N[l]? = some z) (hx : Loc X.env.scope x) (hy : Loc X.env.scope y) (hz : Loc X.env.scope z)
    (fx : X.fn x = true ∨ X.env.scope.names.lookup x = some .local) (fy : X.fn y = true ∨ X.env.scope.names.lookup y = some .local) (fz : X.fn z = true ∨ X.env.scope.names.lookup z = some .local) (he : DE G X e w)
    (ha : (assignEach [.Name x px, .Name y py, .Name z pz] X.env).map (·.2) = [assign (.Name x px) X.env, assign (.Name y py) X.env, assign (.Name z pz) X.env] := by rfl) (hw : swappedStores [.Name x px, .Name y py, .Name z pz] e X.env = pure none := by rfl) :
    DS G X (.Assign [.Name x px, .Name y py, .Name z pz] e pos) (dSet3 i j l w) :=
  ⟨ps_imp (ps_asg3 he.pe (pg_name hN hi hx fx) (pg_name hN hj hy fy) (pg_name hN hl hz fz) ha hw) fun D σ H ⟨F, B, ρ, E, g, ⟨hi, hj, hl, q⟩, f⟩ => ⟨F, B, ρ, g, he.mo _ _ _ (fun d q v H' k o r =>
    f.nx _ _ _ _ q ((((g.step k o).put hi (fun _ z => by cases z) (.v r)).put (by simpa using hj) (fun _ z => by cases z) (.v r)).put (by simpa using hl) (fun _ z => by cases z) (.v r))) q⟩,
   fun E E' ρ b ⟨hi, hj, hl, q⟩ => ⟨hi, hj, hl, he.mo _ _ _ (fun d q => b.nx _ q) q⟩⟩
theorem w_dSet3 {E : DEnds} {ρ : En} : dSet3 i j l w E ρ = (i < ρ.length ∧ j < ρ.length ∧ l < ρ.length ∧ w ρ fun d => E.nx (((ρ.set i (some (.v d))).set j (some (.v d))).set l (some (.v d)))) := rfl
def dPar3O (i j l : Nat) (wa wb wc : WE) : WS := fun E ρ => i < ρ.length ∧ j < ρ.length ∧ l < ρ.length ∧ wa ρ fun d => wb ρ fun d2 => wc ρ fun d3 => ∃ ds, d3 = .list ds ∧ E.nx (((ρ.set i (some (.v d))).set j (some (.v d2))).set l (some (.o ds)))
theorem ds_par3O {x y z : Str} {a b c : Expr} {px py pz pt : Pos} {kt k2 pt2} (hc : X.calm = true) (hN : X.N.Nodup) (hi : X.N[i]? = some x) (hj : X.N[j]? = some y) (hl : X.N[l]? = some z) (hij : i ≠ j) (hil : i ≠ l) (hjl : j ≠ l)
    (hx : X.env.scope.names.lookup x = some .local) (hy : X.env.scope.names.lookup y = some .local) (hz : X.env.scope.names.lookup z = some .local) (ha : DE G X a wa) (hb : DE G X b wb) (hcc : DF G X c wc)
    (hw : swappedStores [.Tuple [.Name x px, .Name y py, .Name z pz] kt pt] (.Tuple [a, b, c] k2 pt2) X.env = pure (some [x, y, z]))
    (hs : swapsWithSole [.Tuple [.Name x px, .Name y py, .Name z pz] kt pt] (.Tuple [a, b, c] k2 pt2) pos.line X.env = pure false := by rfl)
    (s1 : starEach [a, b, c] X.env = (false, eval a X.env) :: starEach [b, c] X.env := by rfl) (s2 : starEach [b, c] X.env = (false, eval b X.env) :: starEach [c] X.env := by rfl) (s3 : starEach [c] X.env = (false, eval c X.env) :: starEach [] X.env := by rfl) :
    DS G X (.Assign [.Tuple [.Name x px, .Name y py, .Name z pz] kt pt] (.Tuple [a, b, c] k2 pt2) pos) (dPar3O i j l wa wb wc) :=
  ⟨ps_imp (ps_par3 hc hN hi hj hl hij hil hjl hx hy hz (pa_cons ha.pe (pa_cons hb.pe (pa_cons hcc.pe pa_nil s3) s2) s1) hw hs) fun D σ H ⟨F, B, ρ, E, g, ⟨hi, hj, hl, q⟩, f⟩ => ⟨F, B, ρ, g, ha.mo _ _ _ (fun d q v1 H1 k1 o1 r1 => ⟨F, B, ρ, g.step k1 o1, hb.mo _ _ _ (fun d2 q v2 H2 k2 o2 r2 => ⟨F, B, ρ, (g.step k1 o1).step k2 o2, hcc.mo _ _ _ (fun d3 ⟨ds', e3, q⟩ p xs ds H3 e4 n3 k3 o3 h3 l3 => by
    subst e3
    cases e4
    have g2 := (g.step k1 o1).step k2 o2
    refine ⟨_, _, _, rfl, ?_⟩
    exact f.nx _ _ _ _ q (((g2.put hi (fun _ z => by cases z) (.v (r1.step (g.step k1 o1) k2))).put (by simpa using hj) (fun _ z => by cases z) (.v r2)).own (by simpa using hl) n3 k3 o3 h3 l3)) q⟩) q⟩) q⟩,
   fun E E' ρ b ⟨hi, hj, hl, q⟩ => ⟨hi, hj, hl, ha.mo _ _ _ (fun d q => hb.mo _ _ _ (fun d2 q => hcc.mo _ _ _ (fun d3 ⟨ds, e, q⟩ => ⟨ds, e, b.nx _ q⟩) q) q) q⟩⟩
theorem w_dPar3O {E : DEnds} {ρ : En} : dPar3O i j l wa wb wc E ρ = (i < ρ.length ∧ j < ρ.length ∧ l < ρ.length ∧ wa ρ fun d => wb ρ fun d2 => wc ρ fun d3 => onList d3 fun ds => E.nx (((ρ.set i (some (.v d))).set j (some (.v d2))).set l (some (.o ds)))) := by
  unfold dPar3O onList; rfl
end
end Dl
/-! The data layer, part 23: a, b = x, y through a tuple, b a list of its own. -/
namespace Dl
open PySem PySem.Spec PyProof.Rows L2
section
variable {G : Ga} {X : Cx} {wa wb : WE} {i j : Nat} {x y : Str} {a b : Expr} {px py pt : Pos} {kt k2 pt2} {pos : Pos}
theorem ds_tupVO (hc : X.calm = true) (hN : X.N.Nodup) (hi : X.N[i]? = some x) (hj : X.N[j]? = some y) (lx : Loc X.env.scope x) (ly : Loc X.env.scope y)
    (fx : X.fn x = true ∨ X.env.scope.names.lookup x = some .local) (fy : X.fn y = true ∨ X.env.scope.names.lookup y = some .local) (ha : DE G X a wa) (hb : DF G X b wb)
    (hs : swapsWithSole [.Tuple [.Name x px, .Name y py] kt pt] (.Tuple [a, b] k2 pt2) pos.line X.env = pure false := by rfl) (hw : swappedStores [.Tuple [.Name x px, .Name y py] kt pt] (.Tuple [a, b] k2 pt2) X.env = pure none := by rfl)
    (h1 : (assignEach [.Tuple [.Name x px, .Name y py] kt pt] X.env).map (·.2) = [assign (.Tuple [.Name x px, .Name y py] kt pt) X.env] := by rfl)
    (s1 : starEach [a, b] X.env = (false, eval a X.env) :: starEach [b] X.env := by rfl) (s2 : starEach [b] X.env = (false, eval b X.env) :: starEach [] X.env := by rfl)
    (g1 : (assignEach [.Name x px, .Name y py] X.env).map (·.2) = assign (.Name x px) X.env :: (assignEach [.Name y py] X.env).map (·.2) := by rfl) (g2 : (assignEach [.Name y py] X.env).map (·.2) = assign (.Name y py) X.env :: (assignEach [] X.env).map (·.2) := by rfl)
    (hn : (assignEach [.Name x px, .Name y py] X.env).length = 2 := by rfl) (hst : (assignEach [.Name x px, .Name y py] X.env).findIdx? (·.1) = none := by rfl) :
    DS G X (.Assign [.Tuple [.Name x px, .Name y py] kt pt] (.Tuple [a, b] k2 pt2) pos) (dParVO i j wa wb) :=
  ⟨ps_imp (ps_asg (pe_tup (pa_cons ha.pe (pa_cons hb.pe pa_nil s2) s1)) (pg_tup hc (pgs_cons (pg_name hN hi lx fx) (pgs_cons (pg_name hN hj ly fy) pgs_nil g2) g1) hn hst) hs hw h1) fun D σ H ⟨F, B, ρ, E, g, ⟨hi, hj, q⟩, f⟩ => ⟨F, B, ρ, g, ha.mo _ _ _ (fun d q v H1 k1 o1 r1 => by
    refine ⟨F, B, ρ, g.step k1 o1, hb.mo _ _ _ (fun d2 ⟨es, e3, q⟩ p2 ys es' H2 e4 n2 k2 o2 h2 l2 => ?_) q⟩
    subst e3
    cases e4
    refine ⟨by rw [sizeLine_eq]; simp, fun p np => ⟨p, [v, .ref p2], rfl, .of upd_same, rfl, v, _, rfl, _, [], rfl, rfl, ?_⟩⟩
    have g3 := ((g.step k1 o1).put hi (fun _ z => by cases z) (.v r1)).own (by simpa using hj) n2 k2 o2 h2 l2
    exact f.nx _ _ _ _ q (g3.step (Kp.new np) (ok_new g3.deal np))) q⟩,
   fun E E' ρ b ⟨hi, hj, q⟩ => ⟨hi, hj, ha.mo _ _ _ (fun d q => hb.mo _ _ _ (fun d2 ⟨es, e1, q⟩ => ⟨es, e1, b.nx _ q⟩) q) q⟩⟩
end
end Dl
/-! The data layer: a lambda handed to a def that calls it. -/
namespace Dl
open PySem PySem.Spec PyProof.Rows L2 LamX
abbrev lamQ (X : Cx) : Str := X.env.qual ++ "<lambda>"
abbrev lamO (X : Cx) (params : Arguments) (body : Expr) (scope : Scope) (pm : Value) (c' : Addr) (ctv : Value) : Obj :=
  PySem.W.kla_obj "<lambda>" (lamQ X) params body scope (cloFrom X.env.cells scope.names []) pm c' ctv
section
variable {X : Cx} {pins : List (Addr × Obj)} {σ : L2.St} {H : Hp} {s : Shared}
/-- a lambda's object is made: what is known grows by its code object alone -/
theorem lam3 {T : List (Addr × Str)} {c P : Addr} {params : Arguments} {body : Expr} {scope : Scope} {pos : Pos} {E : Value → Shared → Prop} {Q : Value → Shared → Prop} (I : Inv X pins σ H s) (TB : TabB X.base X.mg c P) (hcode : X.env.code = .ref c)
    (hm : (P, lamQ X) ∈ T) (hu : ∀ p ∈ T, p.1 = P → p.2 = lamQ X) (hT : Tabs T H) (hdef : defaultsOf params X.env = ([], [])) (hfree : ∀ y ∈ scope.names, y.2 = .free → ∃ c, X.env.cells.lookup y.1 = some c)
    (h : ∀ (f c' : Addr) (pm ctv : Value) (H1 : Hp) (s' : Shared), Inv X pins σ H1 s' → LamStep T H H1 → s'.heap.get? f = some (lamO X params body scope pm c' ctv) → H1 f = none → f ∉ frs X.stack → H1 c' = some (CodeO c' (lamQ X)) → Q (.ref f) s') :
    wpAny (model X.prog X.w) X.A (eval (.Lambda params body scope pos) X.env) Q E s := by
  obtain ⟨ps, hP, ht, ha⟩ := hT _ hm
  have far : ∀ f, s.heap.objs.size ≤ f → f ∉ frs X.stack := fun f hf z => by
    rcases List.mem_cons.mp (I.stkSub _ z) with e | e
    · exact Nat.lt_irrefl _ (Nat.lt_of_lt_of_le (e ▸ I.lt) hf)
    · exact I.nofs hf e
  have bP : s.heap.BuiltinsAt X.mg P := TB.bm.keeps I.bk
  have oP : s.heap.get? P = some { cls := .none, data := .fields ps } := I.hok P _ hP
  refine PySem.W.kla_eval hdef ?_
  cases hc : codeAmong pos ps.toList with
  | some cv =>
    obtain ⟨c', e, hco⟩ := ha pos cv hc
    subst e
    refine PySem.W.kla_makeFunctionHit (mg := X.mg) (c := c) (P := P) (ps := ps) (closure_ok hfree) I.ok.glob (I.mod.glob.keeps I.bk) hcode (TB.code.keeps I.bk) oP ht hc bP fun ctv h' tk hx hsz => ?_
    have J : Inv X pins σ H { s with heap := h'.push (lamO X params body scope ((X.mg "__name__").getD .none) c' ctv), toks := tk } := I.kept fun b o e => Heap.get?_push_of_some _ (hx b o e)
    exact h _ c' _ ctv H _ J ⟨ExtN.refl H, hT, fun b o e => .inl e⟩ (Heap.get?_push_size _ rfl) (I.hok.fresh hsz) (far _ hsz) hco
  | none =>
    refine PySem.W.kla_makeFunction (mg := X.mg) (c := c) (P := P) (ps := ps) (closure_ok hfree) I.ok.glob (I.mod.glob.keeps I.bk) hcode (TB.code.keeps I.bk) oP ht hc TB.gP bP fun c' ctv h' tk hx hge hlt hrec htb => ?_
    obtain ⟨c2, oc, vs, t, e2, hoc, hd, hv⟩ := hrec
    cases e2
    have nC : H c' = none := I.hok.fresh hge
    have hsz : s.heap.objs.size ≤ h'.objs.size := Nat.le_trans hge (Nat.le_of_lt hlt)
    let ps1 : Array Value := ps ++ #[rawInt pos.line, rawInt pos.col, .ref c']
    let H1 : Hp := upd (upd H P (.tbl ps1)) c' (CodeO c' (lamQ X))
    have J : Inv X pins σ H1 { s with heap := h'.push (lamO X params body scope ((X.mg "__name__").getD .none) c' ctv), toks := tk } :=
      inv_table (more := #[rawInt pos.line, rawInt pos.col, .ref c']) I hP (fun b o hb e => Heap.get?_push_of_some _ (hx b o hb e)) (Heap.get?_push_of_some _ htb) hge ⟨oc, vs, t, Heap.get?_push_of_some _ hoc, hd, hv⟩
    have nPc : P ≠ c' := ne_of_none hP nC
    have old : ExtN H H1 := fun b o e n => by
      show upd (upd H P (.tbl ps1)) c' _ b = some o
      rw [upd_ne (ne_of_none e nC), upd_ne fun z => n ps (by rw [z, hP] at e; cases e; rfl)]
      exact e
    have atP : H1 P = some (.tbl ps1) := (upd_ne nPc).trans upd_same
    have atC : H1 c' = some (CodeO c' (lamQ X)) := upd_same
    refine h h'.objs.size c' _ ctv H1 _ J ⟨old, fun p hp => ?_, fun b o e => ?_⟩ (Heap.get?_push_size _ rfl) ?_ (far _ hsz) atC
    · by_cases hb : p.1 = P
      · rw [hu p hp hb, hb]
        have eL : ps1.toList = ps.toList ++ [rawInt pos.line, rawInt pos.col, .ref c'] := by simp [ps1]
        refine ⟨_, atP, by rw [eL]; exact PySem.TriplesOk_snoc _ _ _ _ ht, fun p' cv hcv => ?_⟩
        rw [eL] at hcv
        rcases among_app _ ht hcv with z | z
        · obtain ⟨c0, e1, e2⟩ := ha p' cv z
          exact ⟨c0, e1, old _ _ e2 codeO_ne⟩
        · exact ⟨c', z, atC⟩
      · obtain ⟨qs, a1, a2, a3⟩ := hT p hp
        refine ⟨qs, (upd_ne (ne_of_none a1 nC)).trans ((upd_ne hb).trans a1), a2, fun p' cv hcv => ?_⟩
        obtain ⟨c0, e1, e2⟩ := a3 p' cv hcv
        exact ⟨c0, e1, old _ _ e2 codeO_ne⟩
    · by_cases h1 : b = c'
      · rw [h1, atC] at e
        cases e
        exact .inr (.inr ⟨h1 ▸ nC, codeO_ext⟩)
      · have e1 : upd H P (.tbl ps1) b = some o := (upd_ne h1).symm.trans e
        by_cases h2 : b = P
        · rw [h2, upd_same] at e1
          cases e1
          exact .inr (.inl ⟨_, rfl, _, h2 ▸ hm⟩)
        · exact .inl ((upd_ne h2).symm.trans e1)
    · show upd (upd H P _) c' _ _ = none
      rw [upd_ne (Nat.ne_of_gt hlt), upd_ne (Nat.ne_of_gt (Nat.lt_of_lt_of_le (Heap.lt_size oP) hsz))]
      exact I.hok.fresh hsz
/-- a(), in the def that got the lambda (its context is Z) -/
theorem act3 {Eg : XK} {CXg : CXT} {Ng : List Str} {qg : Str} {sg : Scope} {g f c' : Addr} {cdg pm ctv : Value} {params : Arguments} {body : Expr} {scope : Scope} {k : Nat} {a : Str} {pn : List (Addr × Obj)} {xe : Value → Shared → Prop} {W : WX} {tb : XK → TE} {p1 p2 : Pos}
    (I : Inv X pins σ H s) (L : LamS X.env.scope scope) (hf : s.heap.get? f = some (lamO X params body scope pm c' ctv)) (hfn : H f = none) (hfr : f ∉ frs X.stack)
    (hbind : bindArgs (PySem.W.kla_fn "<lambda>" (lamQ X) params body scope (cloFrom X.env.cells scope.names []) pm (.ref c') ctv) ⟨[], []⟩ = pure [])
    (tk : Takes ((cxOf CXg X.prog X.w X.K X.mg X.base Ng qg sg g cdg X.A X.stack s H Eg).tr pn xe) W)
    (hgd : (X.A.deeper (envOfC qg sg s.heap.objs.size g cdg)).guards = some []) (hr : Room (k + 1) (X.A.deeper (envOfC qg sg s.heap.objs.size g cdg)))
    (hbody : ∀ (A : Around) (outer : List Env) (s : Shared) (H : Hp) (E : XK), A.guards = some [] → Room k (A.deeper (lamEnv X scope s.heap.objs.size f c')) → PE (lamCx X A outer s H E scope f c') body (tb E))
    (hN : Ng[0]? = some a) (hv : Vis sg a) (hd : (a == ("__debug__" : Str)) = false := by decide) (hcd : (a == ("__classdict__" : Str)) = false := by decide) :
    PE ((cxOf CXg X.prog X.w X.K X.mg X.base Ng qg sg g cdg X.A X.stack s H Eg).tr pn xe) (.Call (.Name a p1) [] [] p2)
      (fun σZ HZ Q => σZ[0]? = some (some (.ref f)) ∧ HZ c' = some (CodeO c' (lamQ X)) ∧ tb (fun cls d H' => W cls d σZ H') σ HZ Q) := by
  refine ⟨fun pinsZ sZ σZ HZ Q IZ ⟨hs, hc, ht⟩ => ?_⟩
  refine wpAny_Call_Name_kw (thn ((pe_var (pos := p1) (i := 0) hN hv hd hcd).run pinsZ sZ σZ HZ (fun v H1 => v = .ref f ∧ H1 = HZ) IZ ⟨.ref f, hs, rfl, rfl⟩) fun u s1 ⟨v, H1, I1, r1, ev, eH⟩ => ?_)
  subst ev
  rw [eH] at I1
  obtain rfl : u = Value.ref f := r1
  have of1 : s1.heap.get? f = some (lamO X params body scope pm c' ctv) := I1.base.keep f _ hf hfn hfr (fun z => nomatch (show f ∈ ([] : List Addr) from z))
  obtain ⟨⟨oc, vs, t, hoc, hdc, hvc⟩, _, _⟩ := I1.hok c' _ hc
  refine PySem.W.callWith_F0 ⟨_, _, _, _, of1⟩ ?_
  have rc : codeAny (model X.prog X.w) (X.A.deeper (envOfC qg sg s.heap.objs.size g cdg)) (.call (.ref f) ⟨[], []⟩) (CR (L2.CX X.prog X.w) (envOfC qg sg s.heap.objs.size g cdg :: X.stack) X.prog X.w HZ s1 Q (fun cls d H' => W cls d σZ H')) s1 := by
    refine PySem.W.kla_callFunE hr.depth of1 rfl L.co L.gen rfl ⟨c', oc, vs, t, rfl, hoc, hdc, hvc⟩ ?_
    rw [hbind]
    refine wpAny_pure (wpAny_newFunctionEnv (fun y hy => (L.own y hy).2) (fun y hy => absurd hy (by simp)) (fun h₁ hns hsb => ⟨I1.nolimit.fresh _ hsb, ?_⟩) L.kind)
    have kp : ∀ b o, s1.heap.get? b = some o → h₁.get? b = some o := fun b o e => hsb.extBut b o (Nat.ne_of_lt (Heap.lt_size e)) (Heap.get?_push_of_some _ e)
    have J := lam_start2 (A := X.A.deeper (envOfC qg sg s.heap.objs.size g cdg)) (outer := envOfC qg sg s.heap.objs.size g cdg :: X.stack) (E := fun cls d H' => W cls d σZ H') (f := f) (c' := c') (tk := s1.toks + ([] : List (Str × Value)).length) I L I1.env0 hr.hd I1.base hns kp
    refine PySem.W.kla_codeExpr (wpAny_mono ((hbody _ _ s1 HZ _ hgd (hr.deeper _)).run [] _ _ HZ Q J ht) (fun v s' hq => ?_) fun e s' hq => hq)
    obtain ⟨w', H', J', rv, q⟩ := hq
    exact ⟨w', H', J'.os, J'.bare, J'.base, J'.hok, rv, q⟩
  refine wpAny_call (codeAny_mono rc fun r s' hq => ?_)
  · cases r with
    | error e => exact pass_at (X := (cxOf CXg X.prog X.w X.K X.mg X.base Ng qg sg g cdg X.A X.stack s H Eg).tr pn xe) tk I1 e s' hq
    | ok fl =>
      cases fl with
      | ret u => exact I1.after hq
      | next => exact False.elim hq
      | brk => exact False.elim hq
      | cont => exact False.elim hq
end

/-! ### over data -/
/-- what a lambda's body makes; the first: what it lets out -/
abbrev WL := (Addr → PyData → Prop) → WE
abbrev WF := (PyData → Prop) → (Addr → PyData → Prop) → Prop
/-- the promise of a def that is handed a function -/
abbrev SpL := WF → (PyData → Prop) → (Addr → PyData → Prop) → Prop
abbrev MoWF (wl : WF) : Prop := ∀ (Q Q' : PyData → Prop) (E E' : Addr → PyData → Prop), (∀ d, Q d → Q' d) → (∀ C d, E C d → E' C d) → wl Q E → wl Q' E'
def MoSL (S : SpL) : Prop := ∀ (wl : WF), MoWF wl → ∀ (Q Q' : PyData → Prop) (E E' : Addr → PyData → Prop), (∀ d, Q d → Q' d) → (∀ C d, E C d → E' C d) → S wl Q E → S wl Q' E'
abbrev LamB (gg : GInv) (X : Cx) (body : Expr) (scope : Scope) (k : Nat) (wl : WL) : Prop :=
  ∀ (f c' : Addr) (A : Around) (outer : List Env) (s : Shared) (H : Hp) (E : XK) (Gl : Ga) (Ed : Addr → PyData → Prop), Gl.dl.gi = gg → X.K = Gl.K → Gl.xd = (fun _ => Ed) → (∀ F, Gl.fx F) → Xw gg Gl (lamCx X A outer s H E scope f c') →
    (A.deeper (lamEnv X scope s.heap.objs.size f c')).guards = some [] → Room k (A.deeper (lamEnv X scope s.heap.objs.size f c')) → DE Gl (lamCx X A outer s H E scope f c') body (wl Ed)
section
variable {X : Cx} {pins : List (Addr × Obj)} {σ : L2.St} {H : Hp} {s : Shared} {gg : GInv}
/-- with any weaker ends -/
def up (wl : WL) (ρ : En) : WF := fun Q E => ∃ (Q0 : PyData → Prop) (E0 : Addr → PyData → Prop), (∀ d, Q0 d → Q d) ∧ (∀ C d, E0 C d → E C d) ∧ wl E0 ρ Q0
theorem up_mo {wl : WL} {ρ : En} : ∀ (Q Q' : PyData → Prop) (E E' : Addr → PyData → Prop), (∀ d, Q d → Q' d) → (∀ C d, E C d → E' C d) → up wl ρ Q E → up wl ρ Q' E' := fun _ _ _ _ m m' ⟨Q0, E0, a, b, q⟩ => ⟨Q0, E0, fun d z => m d (a d z), fun C d z => m' C d (b C d z), q⟩
/-- the maker's slots, seen from where the lambda is called -/
theorem go_lam {G G' : Ga} {F F' : Hp} {B B' : Addr → Prop} {HZ : Hp} {σ σZ : L2.St} {ρ ρZ : En} {xd : En → Addr → PyData → Prop} (g : Go G F B H σ ρ) (hd : G'.dl = G.dl) (hb : G'.B0 = B) (hh : G'.H0 = H) (g' : Go G' F' B' HZ σZ ρZ) :
    Go ⟨G'.dl, B', HZ, xd, fun _ => True⟩ HZ B' HZ σ (noO ρ) where
  fx := trivial
  b0 := fun _ z => z
  md := fun a z => g'.b0 _ (g'.md _ z)
  dom := g'.dom
  ext := .refl
  new := fun a z n => absurd z n
  kp := .refl
  deal := g'.deal
  re := by
    have k : Kp G.dl H HZ := by have := g'.kp0; rw [hh] at this; rw [← hd]; exact this
    have key : ∀ a o, ¬ B a → H a = some o → ¬ B' a := fun a o n h z => by
      have n0 : ¬ G'.B0 a := by rw [hb]; exact n
      have e := g'.new a z n0
      refine Kp.some g'.ext (fun m => n0 (g'.md a m)) ?_ e
      rw [hh, h]; simp
    have mv : Mv B B' H HZ := ⟨key, ⟨fun a o n s h => k.k a o (fun z => n (g.b0 _ (g.md _ z))) s h, fun a q n h => k.d a q h⟩⟩
    have bb : ∀ a, B a → B' a := fun a z => g'.b0 a (by rw [hb]; exact z)
    refine ⟨by rw [g.re.len]; unfold noO; simp, fun i sv h => ?_, fun i j di dj a h1 _ _ _ => absurd rfl ((noO_some h1).2 di)⟩
    obtain ⟨h1, h2⟩ := noO_some h
    obtain ⟨x, e1, e2⟩ := g.re.at_ i sv h1
    refine ⟨x, e1, ?_⟩
    cases e2 with
    | v r => exact .v (r.go mv)
    | o _ _ _ _ => exact absurd rfl (h2 _)
    | dl e => exact .dl (by show G'.dl.dl = _; rw [hd]; exact e)
    | ex e n r => exact .ex (k _ _ (fun z => n (g.b0 _ (g.md _ z))) e) (key _ _ n e) (r.go mv)
    | b z m e l => exact .b (bb _ (g.b0 _ z)) (by show ¬ Md G'.dl _; rw [hd]; exact m) (k _ _ m e) (l.go mv)
    | scr q => exact .scr (by show ScrAt G'.dl.gi.K _ _ _; rw [hd]; exact q.keep (kp_frz k g.deal))
    | fn m e => exact .fn (by show ¬ Md G'.dl _; rw [hd]; exact m) (k.code m e)
/-- the lambda called, over data -/
theorem de_act {Eg : XK} {Ng : List Str} {qg : Str} {sg : Scope} {g0 f c' : Addr} {cdg pm ctv : Value} {params : Arguments} {body : Expr} {scope : Scope} {k : Nat} {a : Str} {wl : WL} {G : Ga} {F : Hp} {B : Addr → Prop} {ρ : En}
    (I : Inv X pins σ H s) (g : Go G F B H σ ρ) (hK : X.K = G.K) (L : LamS X.env.scope scope) (hf : s.heap.get? f = some (lamO X params body scope pm c' ctv)) (hfn : H f = none) (hfr : f ∉ frs X.stack)
    (hbind : bindArgs (PySem.W.kla_fn "<lambda>" (lamQ X) params body scope (cloFrom X.env.cells scope.names []) pm (.ref c') ctv) ⟨[], []⟩ = pure [])
    (hgd : (X.A.deeper (envOfC qg sg s.heap.objs.size g0 cdg)).guards = some []) (hr : Room (k + 1) (X.A.deeper (envOfC qg sg s.heap.objs.size g0 cdg)))
    (hlam : LamB gg X body scope k wl) (hN : Ng[0]? = some a) (hv : Vis sg a) (hda : (a == ("__debug__" : Str)) = false) (hcda : (a == ("__classdict__" : Str)) = false)
    (G' : Ga) (pn : List (Addr × Obj)) (xe : Value → Shared → Prop) (hd : G'.dl = G.dl) (hb : G'.B0 = B) (hh : G'.H0 = H)
    (hw : Xw gg G' ((cxOf (L2.CX X.prog X.w) X.prog X.w X.K X.mg X.base Ng qg sg g0 cdg X.A X.stack s H Eg).tr pn xe)) (p1 p2 : Pos) :
    DE G' ((cxOf (L2.CX X.prog X.w) X.prog X.w X.K X.mg X.base Ng qg sg g0 cdg X.A X.stack s H Eg).tr pn xe) (.Call (.Name a p1) [] [] p2) (fun ρZ Q => ρZ[0]? = some (some (.fn f c' (lamQ X))) ∧ up wl (noO ρ) Q (G'.xd ρZ)) := by
  obtain ⟨W, tk, hl⟩ := hw.ex
  have hgi : G.dl.gi = gg := by rw [← hd]; exact hw.gi
  let tb : XK → TE := fun E σ H Q => ∃ (Gl : Ga) (Ed : Addr → PyData → Prop) (F : Hp) (B : Addr → Prop) (ρl : En), Gl.dl.gi = gg ∧ X.K = Gl.K ∧ Gl.xd = (fun _ => Ed) ∧ (∀ F, Gl.fx F) ∧
    (∀ F B H σ ρ, Go Gl F B H σ ρ → ∀ C d, Ed C d → ∀ x v, H x = some (.xd [("at", v)]) → ¬ B x → Rp B H v d → E (.ref C) (some x) H) ∧ Go Gl F B H σ ρl ∧ ∃ Q0 : PyData → Prop, (∀ d, Q0 d → ∀ v H', Gl.kp H H' → Gl.ok B H' → Rp B H' v d → Q v H') ∧ wl Ed ρl Q0
  refine ⟨pe_imp (act3 (tb := tb) I L hf hfn hfr hbind tk hgd hr (fun A outer s H E hga hra => ⟨fun pins s1 σ1 H1 Q1 I1 ⟨Gl, Ed, F, B, ρl, e1, e2, e3, e4, e5, go, Q0, hq0, q⟩ => ?_⟩) hN hv hda hcda) fun σZ HZ Q ⟨F', B', ρZ, g', hρ, Q0, E0, hq0, he0, q⟩ => ?_, fun ρZ Q Q' m ⟨h, q⟩ => ⟨h, up_mo _ _ _ _ m (fun _ _ z => z) q⟩⟩
  · have hx : Xw gg Gl (lamCx X A outer s H E scope f c') := ⟨⟨fun cls d _ H => E cls d H, takes_of rfl rfl rfl rfl, fun F B H σ ρ g C d z x v h1 h2 h3 => e5 F B H σ ρ g C d (by rw [e3] at z; exact z) x v h1 h2 h3⟩, e2, e1⟩
    have hd := hlam f c' A outer s H E Gl Ed e1 e2 e3 e4 hx hga hra
    exact hd.pe.run pins s1 σ1 H1 Q1 I1 ⟨F, B, ρl, go, hd.mo _ _ _ hq0 q⟩
  · obtain ⟨x, h1, h2⟩ := g'.re.at_ 0 _ hρ
    cases h2 with
    | fn m e =>
      refine ⟨h1, e, ⟨G'.dl, B', HZ, fun _ => E0, fun _ => True⟩, E0, HZ, B', noO ρ, hw.gi, by show X.K = G'.dl.gi.K; rw [hd]; exact hK, rfl, fun _ => trivial, fun F2 B2 H2 σ2 ρ2 g2 C d hx x v e1 e2 e3 => ?_, go_lam g hd hb hh g', Q0, hq0, q⟩
      have o2 : G'.ok B' H2 := g2.deal.anti g2.b0
      exact hl F' B' H2 σZ ρZ (g'.step g2.kp0 o2) C d (he0 _ _ hx) x v e1 (fun z => e2 (g2.b0 _ z)) (e3.mv g2.b0 fun _ _ _ z => z)
end
theorem DE.cast {G : Ga} {X : Cx} {e : Expr} {w w' : WE} (h : w = w') (d : DE G X e w) : DE G X e w' := h ▸ d
/-- a def of one function, by its body -/
abbrev BodyL (P : Program) (w : World) (K : PySem.W.Frag) (mg : Str → Option Value) (base : Heap) (gg : GInv) (k : Nat) (x : Str) (st : Stmt) (N : List Str) (a : Str) (S : SpL) : Prop :=
  ∀ (g0 : Addr) (cdv : Value) (A : Around) (outer : List Env) (s : Shared) (H : Hp) (E : XK) (G : Ga) (xe : Addr → PyData → Prop) (f c' : Addr) (q : Str) (wl : WF), (∀ (Q Q' : PyData → Prop) (E E' : Addr → PyData → Prop), (∀ d, Q d → Q' d) → (∀ C d, E C d → E' C d) → wl Q E → wl Q' E') → G.dl.gi = gg → G.K = K → G.xd = (fun _ => xe) → (∀ F, G.fx F) → Xw gg G (cxOf (L2.CX P w) P w K mg base N x (defScope st) g0 cdv A outer s H E) →
    (A.deeper (envOfC x (defScope st) s.heap.objs.size g0 cdv)).guards = some [] → Room k (A.deeper (envOfC x (defScope st) s.heap.objs.size g0 cdv)) →
    PassesOwn (model P w) (A.deeper (envOfC x (defScope st) s.heap.objs.size g0 cdv)) (envOfC x (defScope st) s.heap.objs.size g0 cdv) (cxOf (L2.CX P w) P w K mg base N x (defScope st) g0 cdv A outer s H E).xe →
    (∀ (G' : Ga) (pn : List (Addr × Obj)) (xe' : Value → Shared → Prop), Same G' G → Xw gg G' ((cxOf (L2.CX P w) P w K mg base N x (defScope st) g0 cdv A outer s H E).tr pn xe') → ∀ p1 p2, DE G' ((cxOf (L2.CX P w) P w K mg base N x (defScope st) g0 cdv A outer s H E).tr pn xe') (.Call (.Name a p1) [] [] p2) (fun ρ Q => ρ[0]? = some (some (.fn f c' q)) ∧ wl Q (G'.xd ρ))) →
    ∃ wd : WS, DSs G (cxOf (L2.CX P w) P w K mg base N x (defScope st) g0 cdv A outer s H E) (defBody st) wd ∧ ∀ Q, S wl Q xe → wd { nx := fun _ => Q .none, rt := Q } (start' N [.fn f c' q])
structure CalL (P : Program) (w : World) (K : PySem.W.Frag) (mg : Str → Option Value) (base : Heap) (gg : GInv) (k : Nat) (x : Str) (st : Stmt) (N : List Str) (a : Str) (S : SpL) : Prop where
  ex : ∃ f fd, Fun K x x st f fd ∧ mg x = some (.ref f) ∧ Binds K fd [a] []
  sc : FnScope N [a] (defScope st)
  n0 : N[0]? = some a
  vis : Vis (defScope st) a
  da : (a == ("__debug__" : Str)) = false
  ca : (a == ("__classdict__" : Str)) = false
  mo : MoSL S
  body : BodyL P w K mg base gg k x st N a S
section
variable {X : Cx} {gg : GInv} {G : Ga}
/-- x(lambda: body) -/
theorem de_lam {x a : Str} {st : Stmt} {N : List Str} {S : SpL} {c P : Addr} {j k : Nat} {params : Arguments} {body : Expr} {scope : Scope} {wl : WL} {p lpos pos : Pos} (C : CalL X.prog X.w X.K X.mg X.base gg j x st N a S) (hw : Xw gg G X) (hgd : X.A.guards = some []) (hr : Room (k + 2) X.A) (hjk : j ≤ k + 1)
    (TB : TabB X.base X.mg c P) (hcode : X.env.code = .ref c) (hmT : (P, lamQ X) ∈ gg.T) (hu : ∀ p ∈ gg.T, p.1 = P → p.2 = lamQ X) (L : LamS X.env.scope scope) (hlam : LamB gg X body scope k wl)
    (hg : Gl X x := by rfl) (hdef : defaultsOf params X.env = ([], []) := by rfl)
    (hbind : ∀ (q : Str) (cl : List (Str × Addr)) (pm cv ctv : Value), bindArgs (PySem.W.kla_fn "<lambda>" q params body scope cl pm cv ctv) ⟨[], []⟩ = pure [] := by intros; rfl) (hdb : (x == ("__debug__" : Str)) = false := by decide) :
    DE G X (.Call (.Name x p) [.Lambda params body scope lpos] [] pos) (fun ρ Q => S (up wl (noO ρ)) Q (G.xd ρ)) := by
  obtain ⟨W, tk, hl⟩ := hw.ex
  obtain ⟨g0, fd, hF, hm, hb⟩ := C.ex
  obtain ⟨oc, od, kV, doc, pm, an, cdv, ct, osl, hfd, lk, hcg⟩ := id hF.ex
  subst hfd
  refine ⟨⟨fun pins s σ H Q I ⟨F, B, ρ, g, q⟩ => ?_⟩, fun ρ Q Q' m q => C.mo _ up_mo _ _ _ _ m (fun _ _ z => z) q⟩
  have hgi := hw.gi
  have tbs := G.dl.gi.tb g.deal.i
  rw [hgi] at tbs
  refine wpAny_Call_Name_kw (ld_glob I hg hm ?_ hdb)
  refine PySem.W.callWith_K (h₀ := X.base) I.ok.mod.kin hF.kp ?_ (by rfl) (by rfl)
  show wpAny _ _ (spliced ((false, eval (.Lambda params body scope lpos) X.env) :: backTo pos (starEach [] X.env))) _ _ s
  refine Calls.spliced_cons (lam3 I TB hcode hmT hu tbs.1 hdef (L.has I.ok) fun f c' pm' ctv H1 s' I1 st1 hf hfn hfr hco => ?_)
  refine Calls.spliced_nil ⟨I1.kIn, ?_⟩
  have nt : ∀ {o : HO}, Hd o → ∀ ps, o ≠ .tbl ps := fun {o} h ps z => by rw [z] at h; exact h
  have kp : G.kp H H1 := ⟨fun a o n s h => st1.ext a o h (nt s), fun a q h => ⟨q, st1.ext a _ h (by intro ps z; cases z)⟩, fun a q h => by
    obtain ⟨n, hn⟩ := tbs.2 a q h
    obtain ⟨ps, hp, _⟩ := st1.tabs _ hn
    exact ⟨ps, hp⟩⟩
  have ok : G.ok B H1 := ⟨g.deal.d.keep fun a o m h => by
    obtain ⟨xs, e⟩ := g.deal.d.md m
    rw [h] at e; cases e
    exact st1.ext a _ h (by intro ps z; cases z), G.dl.gi.lam g.dom (by rw [hgi]; exact st1) g.deal.i⟩
  have g1 := g.step kp ok
  have rc : codeAny (model X.prog X.w) X.A (.call (.ref g0) ⟨[.ref f], []⟩) (CR (L2.CX X.prog X.w) X.stack X.prog X.w H1 s' Q (fun cls d H' => W cls d σ H')) s' := by
    refine run_ofS (N := N) (ps := [a]) (us := [.ref f]) (vs := [.ref f]) lk hcg C.sc hr I1.env0 (hb s' [.ref f] I1.kIn rfl) (.cons rfl .nil) rfl fun hr' => ?_
    let xx : Addr → PyData → Prop := fun C d => ∀ x v H', Kp G.dl H1 H' → DealOk G.dl B H' → H' x = some (.xd [("at", v)]) → ¬ B x → Rp B H' v d → W (.ref C) (some x) σ H'
    let Gc : Ga := ⟨G.dl, B, H1, fun _ => xx, fun _ => True⟩
    have hx : Xw gg Gc (cxOf (L2.CX X.prog X.w) X.prog X.w X.K X.mg X.base N x (defScope st) g0 cdv X.A X.stack s' H1 (fun cls d H' => W cls d σ H')) :=
      ⟨⟨fun cls d _ H => W cls d σ H, takes_of rfl rfl rfl rfl, fun F2 B2 H2 σ2 ρ2 g2 C d z x v hx nx r => z x v H2 g2.kp0 (g2.deal.anti g2.b0) hx (fun z => nx (g2.b0 _ z)) (r.back g2)⟩, hw.kk, hgi⟩
    have mc : ¬ Md G.dl c' := fun m => by
      obtain ⟨xs, e⟩ := ok.d.md m
      exact code_ne e hco rfl
    obtain ⟨wd, hd, hwd⟩ := C.body g0 cdv X.A X.stack s' H1 (fun cls d H' => W cls d σ H') Gc xx f c' (lamQ X) (up wl (noO ρ)) up_mo hgi hw.kk.symm rfl (fun _ => trivial) hx hgd (hr'.mono (by omega)) (passes_of rfl)
      (fun G' pn xe' sm hw' p1 p2 => de_act I1 g1 hw.kk L hf hfn hfr (hbind _ _ _ _ _) hgd hr' hlam C.n0 C.vis C.da C.ca G' pn xe' sm.dl sm.b0 sm.h0 hw' p1 p2)
    refine ⟨_, hd.pss, H1, B, start' N [.fn f c' (lamQ X)], _, go_start (G := Gc) rfl (fun a z => g.b0 _ (g.md _ z)) g1.dom ok trivial (.cons (.fn mc hco) .nil), hwd (fun d => ∀ v H', Kp G.dl H1 H' → DealOk G.dl B H' → Rp B H' v d → Q v H') ?_, ⟨fun B' H' σ' ρ' z g' => z .non H' g'.kp0 (g'.deal.anti g'.b0) .non, fun d v H' z k o r => z v H' k o r, fun _ _ _ _ z => z.elim, fun _ _ _ _ z => z.elim⟩⟩
    exact C.mo _ up_mo _ _ _ _ (fun d q v H' k o r => q v H' (kp.trans k) o r) (fun C d hxd x v H' k o hx nx r => hl _ _ _ _ _ (g1.step k o) C d hxd x v hx nx r) q
  refine wpAny_call (codeAny_mono rc fun r s2 hq => ?_)
  have z := call_back (X := X) I1 (pass_at tk I1) hq
  cases r with
  | error e => exact z
  | ok fl =>
    cases fl with
    | ret u => exact z
    | next => exact z.elim
    | brk => exact z.elim
    | cont => exact z.elim
end
section
variable {P : Program} {w : World} {K : PySem.W.Frag} {mg : Str → Option Value} {base : Heap}
/-- a def by its body, its code object told -/
theorem fnG_ofC {x qual : Str} {st : Stmt} {f : Addr} {fd : FuncData} {N ps : List Str} {k : Nat} {sp : Sp} (F : Fun K x qual st f fd) (S : FnScope N ps (defScope st)) (len : ∀ vs H Q E, sp vs H Q E → vs.length = ps.length)
    (hbody : ∀ (cdv : Value), fd.code = cdv → ∀ (A : Around) (outer : List Env) (s : Shared) (H : Hp) (vs : List V) (Q : VK) (E : XK), (A.deeper (envOfC qual (defScope st) s.heap.objs.size f cdv)).guards = some [] → Room k (A.deeper (envOfC qual (defScope st) s.heap.objs.size f cdv)) → sp vs H Q E →
      ∃ t, PSs (cxOf (L2.CX P w) P w K mg base N qual (defScope st) f cdv A outer s H E) (defBody st) t ∧ t { nx := fun _ H' => Q .non H', rt := Q } (start N vs) H) : FnG P w K mg base (k + 1) f fd ps sp := by
  obtain ⟨oc, od, kV, doc, pm, an, cdv, ct, osl, hfd, lk, hcd⟩ := F.ex
  subst hfd
  refine ⟨len, fun A outer s H args us vs Q E hg hr e0 hb rv hsp => ?_⟩
  have hl := len _ _ _ _ hsp
  have KX : K.In s.heap := e0.mod.kin.keeps fun b o e => (e0.bs b o e).1
  have lim : s.heap.NoLimit := e0.mod.nolimit.keeps fun b o e => (e0.bs b o e).1
  refine codeAny_call_function hr.depth (KX _ _ lk) rfl S.co S.gen rfl (PySem.W.codeRec_of KX hcd) (hb _ _ _ _ ?_)
  refine wpAny_newFunctionEnv_cells S.kind (fun y hy => ?_) fun env he s1 x => ?_
  · obtain ⟨n, v⟩ := y
    exact (S.par n (List.of_mem_zip hy).1).imp (fun q => q) fun q => ⟨q, PySem.W.cellsFrom_some _ _ _ (.inl q)⟩
  subst he
  refine ⟨lim.keeps x.toInCall.keep, codeAny_func ?_⟩
  obtain ⟨t, ht, hq⟩ := hbody cdv rfl A outer s H vs Q E hg (hr.deeper _) hsp
  have I : Inv (cxOf (L2.CX P w) P w K mg base N qual (defScope st) f cdv A outer s H E) [] (start N vs) H s1 := inv_start S hr.hd e0 hl rv x
  refine wpAny_mono (ht.run [] s1 (start N vs) H _ I hq) (fun fl s' hs => ?_) fun e s' hs => hs
  cases fl with
  | ret u => obtain ⟨v, σ', H', J, r, q⟩ := hs; exact ⟨v, H', J.os, J.bare, J.base, J.hok, r, q⟩
  | next => obtain ⟨σ', H', J, q⟩ := hs; exact ⟨.non, H', J.os, J.bare, J.base, J.hok, rfl, q⟩
  | brk => obtain ⟨_, _, _, q⟩ := hs; exact False.elim q
  | cont => obtain ⟨_, _, _, q⟩ := hs; exact False.elim q
theorem fnD_ofC {x qual : Str} {st : Stmt} {f : Addr} {fd : FuncData} {N ps : List Str} {k : Nat} {S : SpD} {gg : GInv} (hgK : gg.K = K) (F : Fun K x qual st f fd) (Sc : FnScope N ps (defScope st)) (len : ∀ args Q E, S args Q E → args.length = ps.length)
    (hbody : ∀ (cdv : Value), fd.code = cdv → ∀ (A : Around) (outer : List Env) (s : Shared) (H : Hp) (E : XK) (G : Ga) (xe : Addr → PyData → Prop), G.dl.gi = gg → G.K = K → G.xd = (fun _ => xe) → (∀ F, G.fx F) → Xw gg G (cxOf (L2.CX P w) P w K mg base N qual (defScope st) f cdv A outer s H E) → (A.deeper (envOfC qual (defScope st) s.heap.objs.size f cdv)).guards = some [] →
      Room k (A.deeper (envOfC qual (defScope st) s.heap.objs.size f cdv)) → PassesOwn (model P w) (A.deeper (envOfC qual (defScope st) s.heap.objs.size f cdv)) (envOfC qual (defScope st) s.heap.objs.size f cdv) (cxOf (L2.CX P w) P w K mg base N qual (defScope st) f cdv A outer s H E).xe →
      ∃ wd : WS, DSs G (cxOf (L2.CX P w) P w K mg base N qual (defScope st) f cdv A outer s H E) (defBody st) wd ∧ ∀ args Q, S args Q xe → wd { nx := fun _ => Q .none, rt := Q } (start' N args)) :
    FnD P w K mg base gg (k + 1) f fd ps S := by
  refine fnG_ofC F Sc (fun vs H Q E ⟨dl, B0, args, _, _, _, _, al, hS⟩ => by rw [← al.len]; exact len _ _ _ hS) fun cdv hcd A outer s H vs Q E hg hr hsp => ?_
  obtain ⟨dl, B0, args, hgi, md, dom, dok, al, hS⟩ := hsp
  let xx : Addr → PyData → Prop := fun C d => ∀ x v H', Kp dl H H' → DealOk dl B0 H' → H' x = some (.xd [("at", v)]) → ¬ B0 x → Rp B0 H' v d → E (.ref C) (some x) H'
  let G : Ga := ⟨dl, B0, H, fun _ => xx, fun _ => True⟩
  have hGK : G.K = K := (congrArg GInv.K hgi).trans hgK
  have hx : Xw gg G (cxOf (L2.CX P w) P w K mg base N qual (defScope st) f cdv A outer s H E) := ⟨⟨fun cls d _ H => E cls d H, takes_of rfl rfl rfl rfl, fun F B H' σ ρ g C d z x v hx nx r => z x v H' g.kp0 (g.deal.anti g.b0) hx (fun z => nx (g.b0 _ z)) (r.back g)⟩, hGK.symm, hgi⟩
  obtain ⟨wd, hd, hw⟩ := hbody cdv hcd A outer s H E G xx hgi hGK rfl (fun _ => trivial) hx hg hr (passes_of rfl)
  refine ⟨_, hd.pss, H, B0, start' N args, _, go_start rfl md dom dok trivial al, hw args _ hS, ⟨fun B' H' σ' ρ' z g' => z .non H' (g'.kp0) (g'.deal.anti g'.b0) .non, fun d v H' z k o r => z v H' k o r, fun _ _ _ _ z => z.elim, fun _ _ _ _ z => z.elim⟩⟩
/-- a def whose code object is at c -/
structure DefC (K : PySem.W.Frag) (mg : Str → Option Value) (x : Str) (st : Stmt) (c : Addr) : Prop where
  ex : ∃ f fd, Fun K x x st f fd ∧ mg x = some (.ref f) ∧ fd.code = .ref c
theorem def_mkC {h : Heap} {x : Str} {st : Stmt} {f c : Addr} {oc kV doc pm ct : Value} {od an : Option Addr} {osl : Array (Option Value)} (X : K.In h) (G : h.Ns mainGlobals mg)
    (a1 : PySem.W.nsIn K mainGlobals x = some (some (.ref f))) (l1 : K.lookup f = some ⟨oc, od, .func (PySem.W.fnOf x x (defArgs st) (defBody st) (defScope st) .none kV doc pm an (.ref c) ct), osl⟩) (c1 : PySem.W.codeIn K (.ref c) x = true) (k1 : PySem.W.keepIn K (.ref f) = true) : DefC K mg x st c :=
  ⟨⟨f, _, fun_mk l1 c1 k1, PySem.W.mg_of X G a1, rfl⟩⟩
abbrev BodyC (P : Program) (w : World) (K : PySem.W.Frag) (mg : Str → Option Value) (base : Heap) (gg : GInv) (k : Nat) (x : Str) (st : Stmt) (N ps : List Str) (c : Addr) (S : SpD) : Prop :=
  ∀ (f : Addr) (cdv : Value), cdv = .ref c → ∀ (A : Around) (outer : List Env) (s : Shared) (H : Hp) (E : XK) (G : Ga) (xe : Addr → PyData → Prop), G.dl.gi = gg → G.K = K → G.xd = (fun _ => xe) → (∀ F, G.fx F) → Xw gg G (cxOf (L2.CX P w) P w K mg base N x (defScope st) f cdv A outer s H E) → (A.deeper (envOfC x (defScope st) s.heap.objs.size f cdv)).guards = some [] →
      Room k (A.deeper (envOfC x (defScope st) s.heap.objs.size f cdv)) → PassesOwn (model P w) (A.deeper (envOfC x (defScope st) s.heap.objs.size f cdv)) (envOfC x (defScope st) s.heap.objs.size f cdv) (cxOf (L2.CX P w) P w K mg base N x (defScope st) f cdv A outer s H E).xe →
      ∃ wd : WS, DSs G (cxOf (L2.CX P w) P w K mg base N x (defScope st) f cdv A outer s H E) (defBody st) wd ∧ ∀ args Q, S args Q xe → wd { nx := fun _ => Q .none, rt := Q } (start' N args)
theorem cal_ofC {x : Str} {st : Stmt} {N ps : List Str} {k : Nat} {c : Addr} {S : SpD} {gg : GInv} (hgK : gg.K = K) (F : DefC K mg x st c) (Sc : FnScope N ps (defScope st)) (mo : MoS S) (len : ∀ args Q E, S args Q E → args.length = ps.length)
    (hb : ∀ (kV doc pm : Value) (an : Option Addr) (cdv ct : Value) (us : List Value), us.length = ps.length → bindArgs (PySem.W.fnOf x x (defArgs st) (defBody st) (defScope st) .none kV doc pm an cdv ct) ⟨us, []⟩ = pure (ps.zip us))
    (hbody : BodyC P w K mg base gg k x st N ps c S) : Cal P w K mg base gg (k + 1) x st ps S := by
  obtain ⟨f, fd, hF, hm, hc⟩ := F.ex
  exact ⟨⟨f, fd, hF, hm, hF.binds hb, fnD_ofC hgK hF Sc len fun cdv e => hbody f cdv (e.symm.trans hc)⟩, mo⟩
/-- a def of one function, by its name -/
theorem calL_of {x a : Str} {st : Stmt} {N : List Str} {k : Nat} {S : SpL} {gg : GInv} (F : Def K mg x st) (Sc : FnScope N [a] (defScope st)) (n0 : N[0]? = some a) (vis : Vis (defScope st) a) (mo : MoSL S)
    (hb : ∀ (kV doc pm : Value) (an : Option Addr) (cdv ct : Value) (us : List Value), us.length = ([a] : List Str).length → bindArgs (PySem.W.fnOf x x (defArgs st) (defBody st) (defScope st) .none kV doc pm an cdv ct) ⟨us, []⟩ = pure (([a] : List Str).zip us))
    (body : BodyL P w K mg base gg k x st N a S) (da : (a == ("__debug__" : Str)) = false := by decide) (ca : (a == ("__classdict__" : Str)) = false := by decide) : CalL P w K mg base gg k x st N a S := by
  obtain ⟨f, fd, hF, hm⟩ := F.ex
  exact ⟨⟨f, fd, hF, hm, hF.binds hb⟩, Sc, n0, vis, da, ca, mo, body⟩
end
end Dl
/-! The data layer: a tuple times an int. -/
namespace Dl
open PySem PySem.Spec PyProof.Rows L2
theorem tuple_mul1 (l : Addr) (items : Array Value) (n : Nat) (dd : Option Addr) (sl : Array (Option Value)) (u : Tok) :
    Meets (Builtin.«tuple.__mul__» ⟨[.ref l, .int 1 u], []⟩) (fun _ R s => s.heap.get? l = some { cls := .type "tuple", dict := dd, data := .seq items n, slots := sl } ∧ R (.ok (.ret (Value.ref l))) s) :=
  .of_wp fun prog w A R s h => by
    obtain ⟨hp, g, d, tk, os⟩ := s
    obtain ⟨hl, h⟩ := h
    have f1 := AutoSeq1.idx_int
    wp_walk using wpAny_loadPart' hl
    exact ⟨_, rfl, h⟩
def rRepT1 (K : PySem.W.Frag) : R2 := fun x y H Q => ∃ l xs, x = .ref l ∧ y = .int 1 ∧ SqT K H l xs ∧ Q (.ref l) H
section
variable {X : Cx}
theorem op_repT1 : OpR X (binaryOp .Mult) (rRepT1 X.K) := by
  intro pins s σ H x y v u Q I rx ry h
  obtain ⟨l, xs, rfl, rfl, hT, q⟩ := h
  cases rx
  obtain ⟨t, rfl⟩ := ry
  obtain ⟨its, r, ⟨⟨cls, dd, data, sl⟩, ho, hc, n, hd⟩, hs⟩ := I.tuple hT
  simp only at hc hd
  subst hc hd
  refine wpAny_binaryOp_repeat_ref (T := "tuple") (U := "int") (by decide) ⟨_, ho, rfl⟩ (fun s' => typeIs_int s' 1 t) noFill_tuple_mul F.fills_int_mul F.slot_int_rmul repeat_tuple F.slot_int_index.lookup
    (call_meets F.slot_int_rmul (typeIs_int s 1 t) F.entry_int_rmul (F.args_int_rmul_2 _ _) (int_rmul_tuple 1 t l its.toArray n dd sl)
      ⟨ho, rfl, ⟨_, ho, rfl⟩, call_meets F.slot_tuple_mul ⟨_, ho, rfl⟩ F.entry_tuple_mul (F.args_tuple_mul_2 _ _) (tuple_mul1 l its.toArray n dd sl t) ⟨ho, ?_⟩⟩)
  exact ⟨.ref l, H, I, rfl, q⟩
end
def fMulT : W2 := fun x y Q => ∃ ds k, x = .tuple ds ∧ y = .int k ∧ (ds ≠ [] ∧ 1 ≤ k ∧ k ≤ 1000 ∧ ds.length ≤ 1000) ∧ Q (.tuple (List.replicate k.toNat ds).flatten)
theorem mo_fMulT : Mo2 fMulT := fun _ _ _ _ m ⟨a, b, c, d, e, q⟩ => ⟨a, b, c, d, e, m _ q⟩
section
variable {G : Ga} {X : Cx} {a b : Expr} {wa wb : WE} {pos : Pos}
/-- a tuple times an int -/
theorem de_mulT (ha : DB G X a wa) (hb : DB G X b wb) : DE G X (.BinOp a .Mult b pos) (d2 fMulT wa wb) :=
  de_op (op_repT.or op_repT1) ha hb (fun F B σ ρ H x y d e Q g rx ry ⟨ds, k, e1, e2, ⟨c1, c2, c3, c4⟩, q⟩ => by
    subst e1 e2
    obtain ⟨p, xs, rfl, n, h, l⟩ := rb_tup' rx
    by_cases hk : k = 1
    · subst hk
      refine .inr ⟨p, xs, rfl, rb_int ry, .of h, q _ _ .refl g.deal ?_⟩
      rw [show (List.replicate (Int.toNat 1) ds).flatten = ds by simp]
      exact .tup n h l
    · have hn : xs ≠ [] := fun z => c1 (by have := l.len; rw [z] at this; exact List.eq_nil_of_length_eq_zero this.symm)
      exact .inl ⟨p, k, xs, rfl, rb_int ry, .of h, hn, by omega, c3, by rw [l.len]; exact c4, fun pp np => q _ _ (Kp.new np) (ok_new g.deal np) (.tup (g.nb np) upd_same ((l.rep _).mv (fun _ z => z) (upd_keep np)))⟩) mo_fMulT
theorem w_fMulT {ds : List PyData} {k : Int} {Q : PyData → Prop} {t : Tg Q} : on2 fMulT (.tuple ds) (.int k) Q t = ((ds ≠ [] ∧ 1 ≤ k ∧ k ≤ 1000 ∧ ds.length ≤ 1000) ∧ Q (.tuple (List.replicate k.toNat ds).flatten)) := propext ⟨fun ⟨_, _, a, b, c, q⟩ => by cases a; cases b; exact ⟨c, q⟩, fun ⟨c, q⟩ => ⟨_, _, rfl, rfl, c, q⟩⟩
end
end Dl
/-! The law's head with tables of code objects: for laws that make lambdas. -/
namespace Dl
open PySem PySem.Spec PyProof.Rows L2 LamX
/-- nothing is tracked but the script and the empty tables at ps -/
def OnlyT (ps : List Addr) (H : Hp) : Prop := (∀ p ∈ ps, H p = some (.tbl #[])) ∧ ∀ b, H b = none ∨ b ∈ ps ∨ ∃ o xs, H b = some (.frz o (.lst xs))
section
variable {P : Program} {w : World} {K : PySem.W.Frag} {mg mb : Str → Option Value} {k : Nat} {fa a : Addr} {cs : List (Addr × Addr)} {fd : FuncData} {x : Str} {sp : Sp} {s₁ : Shared} {vs : List Value} {ns : List Int}
/-- from one abstract heap that tracks nothing but the script and the tables -/
theorem head_coreT (KX : K.In s₁.heap) (hns : s₁.heap.Ns mainGlobals mg) (hb : s₁.heap.Ns builtinsNs mb) (hbb : ∀ x : Str, x ≠ "__name__" → mb x = bootBuiltins x) (hlim : s₁.heap.NoLimit) (hg : s₁.gens = #[])
    (hT : ∀ p ∈ cs, s₁.heap.get? p.2 = some { cls := .none, data := .fields #[] }) (nT : ∀ p ∈ cs, K.lookup p.2 = none) (C : ∀ p ∈ cs, PySem.W.CodeHd s₁.heap p.1 p.2)
    (hbm : ∃ (bm : Addr) (ob : Obj), mg "__builtins__" = some (.ref bm) ∧ bm ≠ builtinsNs ∧ s₁.heap.get? bm = some ob ∧ ob.cls = .type "module" ∧ ob.dict = some builtinsNs ∧ ob.data = .plain)
    (ha : s₁.heap.get? a = some { cls := .type "list", data := .seq vs.toArray }) (hr : Room k callerA)
    (F : ∀ base : Heap, K.In base → base.Ns mainGlobals mg → (∀ p ∈ cs, TabB base mg p.1 p.2) → FnG P w K mg base k fa fd [x] sp) (hbind : ∀ (s : Shared) (u : Value), BindsTo s fd ⟨[u], []⟩ [(x, u)])
    (H : Hp) (hO : OnlyT (cs.map (·.2)) H) (q0 : sp [.ref a] H (fun v _ => v = .bl true) fun _ _ _ => False) (hok : HOk P w H s₁.heap) (hA : ∀ b, H b ≠ none → b = a ∨ b ∈ cs.map (·.2)) (hK : H a ≠ none → K.lookup a = none) :
    codeAny (model P w) callerA (.call (.ref fa) ⟨[.ref a], []⟩) (fun r s' => r = .ok (.ret (.bool true)) ∧ OldK s₁.heap s'.heap ∧ s'.os = s₁.os ∧ AllBare s'.gens) s₁ := by
  have isT : ∀ b : Addr, b ∈ cs.map (·.2) → s₁.heap.get? b = some { cls := .none, data := .fields #[] } := fun b hb => by
    obtain ⟨p, hp, e⟩ := List.mem_map.mp hb
    rw [← e]
    exact hT p hp
  have memT : ∀ p ∈ cs, p.2 ∈ cs.map (·.2) := fun p hp => List.mem_map.mpr ⟨p, hp, rfl⟩
  have noD : ∀ {b : Addr} {o : Obj}, s₁.heap.get? b = some o → (∀ vs n, o.data ≠ .seq vs n) → o.data ≠ .fields #[] → H b = none := fun {b o} e h1 h2 => by
    cases q : H b with
    | none => rfl
    | some u =>
      rcases hA b (by rw [q]; simp) with e' | e'
      · rw [e', ha] at e
        cases e
        exact (h1 _ _ rfl).elim
      · rw [isT b e'] at e
        cases e
        exact (h2 rfl).elim
  have noA : ∀ {b : Addr} {o : Obj} {es : Array DictEntry} {ep : Nat}, s₁.heap.get? b = some o → o.data = .dict es ep → H b = none := fun {b o es ep} e d => by
    refine noD e (fun vs n z => ?_) fun z => ?_
    · rw [d] at z
      cases z
    · rw [d] at z
      cases z
  have nsK : ∀ {b : Addr} {m : Str → Option Value}, s₁.heap.Ns b m → (hidT s₁.heap H).Ns b m := fun {b m} ⟨o, es, ep, e, d, r⟩ => ⟨o, es, ep, hidT_get e (noA e d), d, r⟩
  have hKb : K.In (hidT s₁.heap H) := fun b o e => hidT_get (KX b o e) (by
    cases q : H b with
    | none => rfl
    | some u =>
      rcases hA b (by rw [q]; simp) with e' | e'
      · rw [e'] at e q
        rw [hK (by rw [q]; simp)] at e
        cases e
      · obtain ⟨p, hp, ep⟩ := List.mem_map.mp e'
        rw [← ep, nT p hp] at e
        cases e)
  have hM : Mod K mg (hidT s₁.heap H) := ⟨hKb, nsK hns, ⟨mb, nsK hb, hbb⟩, let ⟨mc, h1, h2⟩ := hlim; ⟨mc, nsK h1, h2⟩⟩
  have TB : ∀ p ∈ cs, TabB (hidT s₁.heap H) mg p.1 p.2 := fun p hp => by
    have hTp := hT p hp
    refine ⟨?_, ?_, fun z => ?_⟩
    · obtain ⟨o, us, file, tf, flags, tg, inF, text, tt, e1, r1, r2, r3, r4, r5, r6, r7, r8, hne⟩ := C p hp
      refine ⟨o, us, file, tf, flags, tg, inF, text, tt, hidT_get e1 (noD e1 (fun vs n z => ?_) fun z => ?_), r1, r2, r3, r4, r5, r6, r7, r8, hne⟩
      · rw [r2] at z
        cases z
      · rw [r2] at z
        cases z
        simp at r3
    · obtain ⟨bm, ob, b1, b2, b3, b4, b5, b6⟩ := hbm
      have nG : bm ≠ mainGlobals := fun q => by
        obtain ⟨o, es, ep, e, hd, _⟩ := hns
        rw [q, e] at b3
        cases b3
        rw [hd] at b6
        cases b6
      have nP : bm ≠ p.2 := fun q => by
        rw [q, hTp] at b3
        cases b3
        cases b6
      refine ⟨bm, ob, b1, b2, nG, nP, hidT_get b3 (noD b3 (fun vs n z => ?_) fun z => ?_), b4, b5, b6⟩
      · rw [b6] at z
        cases z
      · rw [b6] at z
        cases z
    · obtain ⟨o, es, ep, e, hd, _⟩ := hns
      rw [z, hTp] at e
      cases e
      cases hd
  have e0 : Env0 P w K mg (hidT s₁.heap H) callerA [] s₁ H := ⟨rfl, hM, fun b o e => of_hidT e, Nat.le_of_eq (hidT_size _ _), trivial, fun b hb => absurd (show b ∈ ([] : List Addr) from hb) (by simp), hok, .of_eq hg⟩
  refine codeAny_mono ((F _ hKb (nsK hns) TB).run callerA [] s₁ H ⟨[.ref a], []⟩ [.ref a] [.ref a] _ _ rfl hr e0 (hbind s₁ (.ref a)) (.cons rfl .nil) q0) fun r s' h => ?_
  cases r with
  | error e => exact (noCX h).elim
  | ok fl =>
    cases fl with
    | next => exact False.elim h
    | brk => exact False.elim h
    | cont => exact False.elim h
    | ret u =>
      obtain ⟨v, H', os, bare, un, hok', r', q⟩ := h
      have q' : v = .bl true := q
      subst q'
      obtain rfl : u = Value.bool true := r'
      have key : ∀ b o, b ∉ cs.map (·.2) → s₁.heap.get? b = some o → s'.heap.get? b = some o := fun b o nb e => by
        cases q : H b with
        | none => exact un.keep b o e q (by intro z; exact absurd (show b ∈ ([] : List Addr) from z) (by simp)) (by simp)
        | some u =>
          rcases hO.2 b with z | z | ⟨ob, xs, z⟩
          · rw [q] at z; cases z
          · exact absurd z nb
          · have z2 := un.frzs b ob _ z
            obtain ⟨e1, _⟩ := hok b _ z
            obtain ⟨e2, _⟩ := hok' b _ z2
            rw [e] at e1; cases e1
            exact e2
      have grown : ∀ p ∈ cs, ∃ more : Array Value, s'.heap.get? p.2 = some { cls := .none, data := .fields more } := fun p hp => by
        obtain ⟨more, z⟩ := un.tbls p.2 #[] (hO.1 _ (memT p hp))
        exact ⟨_, hok' p.2 _ z⟩
      refine ⟨rfl, ⟨fun b o e => ?_, fun b o e => ?_⟩, os, bare⟩
      · by_cases hb : b ∈ cs.map (·.2)
        · obtain ⟨p, hp, ep⟩ := List.mem_map.mp hb
          obtain ⟨more, hm⟩ := grown p hp
          rw [← ep] at e ⊢
          rw [hT p hp] at e
          cases e
          exact .inr (.inl ⟨((C p hp).tab (hT p hp)).isCodeTable, rfl, #[], more, rfl, by rw [Array.empty_append]; exact hm⟩)
        · exact .inl (key b o hb e)
      · by_cases hb : b ∈ cs.map (·.2)
        · obtain ⟨p, hp, ep⟩ := List.mem_map.mp hb
          obtain ⟨more, hm⟩ := grown p hp
          rw [← ep]
          exact ⟨_, hm⟩
        · exact ⟨o, key b o hb e⟩
end
/-- the law's def at a data promise, with tables -/
theorem walk_ofGT {l : PySem.W.OpenLaw} {n k : Nat} {q : Program} {loose : List Str} {XP : (Str → Option Value) → Heap → Prop} {YP : World → Heap → Prop} {d : DefRec} {K : Params → PySem.W.Frag} {x : Str}
    (hn : l.most = some n) (hn2 : n ≤ sizeLine) (hdf : d.params.defaults = []) (hr : Room k callerA)
    (hY : ∀ (w : World) (h : Heap), YP w h → (K w.params).In h)
    (F : ∀ (w : World) (mg : Str → Option Value) (fa : Addr) (h : Heap), YP w h → (K w.params).In h → h.Ns mainGlobals mg → mg d.name = some (.ref fa) →
      ∃ (cs : List (Addr × Addr)) (J : Hp → Prop), (∀ p ∈ cs, h.get? p.2 = some { cls := .none, data := .fields #[] }) ∧ (∀ p ∈ cs, (K w.params).lookup p.2 = none) ∧ (∀ p ∈ cs, PySem.W.CodeHd h p.1 p.2) ∧ (∀ H, OnlyT (cs.map (·.2)) H → J H) ∧
      ∃ fd : FuncData, (∀ (s : Shared) (u : Value), BindsTo s fd ⟨[u], []⟩ [(x, u)]) ∧
        ∀ base : Heap, (K w.params).In base → base.Ns mainGlobals mg → (∀ p ∈ cs, TabB base mg p.1 p.2) → FnG l.prog w (K w.params) mg base k fa fd [x] (spLaw (K w.params) J n)) :
    PySem.W.WalkO q loose XP YP l.row.toRowW d [] (fun f vs => PySem.call f vs) := by
  refine Att.attach_call hn hdf fun w s₀ s₁ mg mb fa o pm cd doc a vs ns G Y ho hd hcd hmg hobj hints hlen hg => ?_
  have KX := hY w _ Y
  obtain ⟨cs, J, tT, nT, hC, hJ, fd, hb, hF⟩ := F w mg fa _ Y KX G.T.g hmg
  have rv := vals_ints hints
  have lenV := hints.length
  have hl : ns.length ≤ sizeLine := Nat.le_trans hlen hn2
  have aT : a ∉ cs.map (·.2) := fun z => by
    obtain ⟨p, hp, e⟩ := List.mem_map.mp z
    have q := tT p hp
    rw [e, hobj] at q
    have z' : Data.seq vs.toArray _ = Data.fields #[] := congrArg Obj.data (Option.some.inj q)
    cases z'
  have isT : ∀ b : Addr, b ∈ cs.map (·.2) → s₁.heap.get? b = some { cls := .none, data := .fields #[] } := fun b hb => by
    obtain ⟨p, hp, e⟩ := List.mem_map.mp hb
    rw [← e]
    exact tT p hp
  have sp0 : ∀ H : Hp, OnlyT (cs.map (·.2)) H → ScrAt (K w.params) H a ns → spLaw (K w.params) J n [.ref a] H (fun v _ => v = .bl true) fun _ _ _ => False := fun H hO hS => ⟨a, ns, rfl, hlen, hS, hJ H hO, fun _ => rfl⟩
  cases hk : (K w.params).lookup a with
  | some o =>
    have e := KX a o hk
    rw [hobj] at e
    cases e
    have hO : OnlyT (cs.map (·.2)) (fun b => if b ∈ cs.map (·.2) then some (.tbl #[]) else none) := ⟨fun p hp => if_pos hp, fun b => by
      by_cases hb : b ∈ cs.map (·.2)
      · exact .inr (.inl hb)
      · exact .inl (if_neg hb)⟩
    refine head_coreT KX G.T.g G.T.b G.T.builtins G.T.nolimit hg tT nT hC G.T.bmain hobj hr hF hb (fun b => if b ∈ cs.map (·.2) then some (.tbl #[]) else none) hO (sp0 _ hO (.inr ⟨_, vs.toArray, _, hk, rfl, rfl, rfl, by rw [List.size_toArray, lenV]; exact hl, by simpa using rv⟩))
      (fun b u z => ?_) (fun b z => ?_) fun z => absurd (show (if a ∈ cs.map (·.2) then some (HO.tbl #[]) else none) = none from if_neg aT) z
    · by_cases hb : b ∈ cs.map (·.2)
      · have z' := (if_pos hb).symm.trans z
        cases z'
        exact isT b hb
      · have z' := (if_neg hb).symm.trans z
        cases z'
    · by_cases hb : b ∈ cs.map (·.2)
      · exact .inr hb
      · exact absurd (if_neg hb) z
  | none =>
    have hO : OnlyT (cs.map (·.2)) (fun b => if b = a then some (.frz { cls := .type "list", data := .seq vs.toArray } (.lst (ns.map V.int))) else if b ∈ cs.map (·.2) then some (.tbl #[]) else none) := ⟨fun p hp => (if_neg (show ¬ p = a from fun z => aT (by rw [← z]; exact hp))).trans (if_pos hp), fun b => by
      by_cases hb : b = a
      · exact .inr (.inr ⟨_, _, if_pos hb⟩)
      · by_cases hb2 : b ∈ cs.map (·.2)
        · exact .inr (.inl hb2)
        · exact .inl ((if_neg hb).trans (if_neg hb2))⟩
    refine head_coreT KX G.T.g G.T.b G.T.builtins G.T.nolimit hg tT nT hC G.T.bmain hobj hr hF hb _ hO (sp0 _ hO (.inl ⟨{ cls := .type "list", data := .seq vs.toArray }, if_pos rfl⟩)) (fun b u z => ?_) (fun b z => ?_) fun _ => hk
    · by_cases hb : b = a
      · have z' := (if_pos hb).symm.trans z
        cases z'
        rw [hb]
        exact ⟨hobj, by rw [List.length_map]; exact hl, vs, _, rv, hobj⟩
      · have z1 := (if_neg hb).symm.trans z
        by_cases hb2 : b ∈ cs.map (·.2)
        · have z' := (if_pos hb2).symm.trans z1
          cases z'
          exact isT b hb2
        · have z' := (if_neg hb2).symm.trans z1
          cases z'
    · by_cases hb : b = a
      · exact .inl hb
      · by_cases hb2 : b ∈ cs.map (·.2)
        · exact .inr hb2
        · exact absurd ((if_neg hb).trans (if_neg hb2)) z
theorem onlyT {ps : List Addr} {T : List (Addr × Str)} {H : Hp} (h : OnlyT ps H) (hT : ∀ p ∈ T, p.1 ∈ ps) (hT2 : ∀ p ∈ ps, ∃ q, (p, q) ∈ T) : IT T H := by
  refine ⟨fun a C dx fs e => ?_, fun p hp => .nil (h.1 _ (hT p hp)), fun a qs e => ?_⟩
  · rcases h.2 a with z | z | ⟨_, _, z⟩
    · rw [z] at e; cases e
    · rw [h.1 a z] at e; cases e
    · rw [z] at e; cases e
  · rcases h.2 a with z | z | ⟨_, _, z⟩
    · rw [z] at e; cases e
    · exact hT2 a z
    · rw [z] at e; cases e
theorem convT {K : PySem.W.Frag} {T : List (Addr × Str)} : Conv (giT K T) (giT K T) := fun _ _ _ _ _ _ _ h => h
/-- what Fun asks of a law's def, with tables -/
theorem law_mkT {P : Program} {w : World} {K : PySem.W.Frag} {mg : Str → Option Value} {fa : Addr} {cs : List (Addr × Addr)} {st : Stmt} {k n : Nat} {J : Hp → Prop} (D : Def K mg "law" st) (hfa : mg "law" = some (.ref fa))
    (hb : ∀ (kV doc pm : Value) (an : Option Addr) (cdv ct u : Value), (bindArgs (PySem.W.fnOf "law" "law" (defArgs st) (defBody st) (defScope st) .none kV doc pm an cdv ct) ⟨[u], []⟩ : Sem (List (Str × Value))) = pure [(("_law_script" : Str), u)])
    (hF : ∀ (base : Heap) (f : Addr) (fd : FuncData), (∀ p ∈ cs, TabB base mg p.1 p.2) → Fun K "law" "law" st f fd → FnG P w K mg base k f fd ["_law_script"] (spLaw K J n)) :
    ∃ fd : FuncData, (∀ (s : Shared) (u : Value), BindsTo s fd ⟨[u], []⟩ [(("_law_script" : Str), u)]) ∧ ∀ base : Heap, K.In base → base.Ns mainGlobals mg → (∀ p ∈ cs, TabB base mg p.1 p.2) → FnG P w K mg base k fa fd ["_law_script"] (spLaw K J n) := by
  obtain ⟨f, fd, F, hm⟩ := D.ex
  have e : f = fa := by
    have := hm.symm.trans hfa
    injection this with this
    injection this
  subst e
  refine ⟨fd, fun s u => ?_, fun base _ _ ht => hF base f fd ht F⟩
  obtain ⟨oc, od, kV, doc, pm, an, cdv, ct, osl, hfd, lk, hcd⟩ := id F.ex
  subst hfd
  exact BindsTo.of_eq (hb _ _ _ _ _ _ u)
end Dl
/-! Tellings of counts: which of them are possible, plainly. -/
namespace Dl
open PySem PySem.Spec PyProof.Rows L2
/-- a value is these integers, as a list or a tuple -/
def IsC (d : PyData) (ns : List Int) : Prop := d = .list (ns.map .int) ∨ d = .tuple (ns.map .int)
theorem IsC.inj {d : PyData} {a b : List Int} (h : IsC d a) (g : IsC d b) : a = b := ints_inj h g
theorem IsC.nb {d : PyData} {a : List Int} (h : IsC d a) : badC d = false := not_bad h
theorem IsC.len {d : PyData} {a : List Int} (h : IsC d a) (s : smallC d) : a.length ≤ 4096 := by
  rcases h with rfl | rfl <;> simpa [smallC] using s
theorem IsC.small {d : PyData} {a : List Int} (h : IsC d a) (s : a.length ≤ 4096) : smallC d := by
  rcases h with rfl | rfl <;> simpa [smallC] using s
theorem IsC.q {d : PyData} {a : List Int} (h : IsC d a) : isQ d = true := by rcases h with rfl | rfl <;> rfl
theorem IsC.tup (a : List Int) : IsC (.tuple (a.map .int)) a := .inr rfl
theorem IsC.lst (a : List Int) : IsC (.list (a.map .int)) a := .inl rfl
structure Tell (y n : PyData) (C : Addr) (E : Addr → PyData → Prop) (K : List Int → List Int → Prop) : Prop where
  ok : ∀ ys ns, IsC y ys → IsC n ns → K ys ns
  e0 : badC y = true → E C (.int 0)
  e1 : ∀ ys, IsC y ys → badC n = true → E C (.int 1)
theorem Tell.mo {y n : PyData} {C : Addr} {E E' : Addr → PyData → Prop} {K K' : List Int → List Int → Prop} (h : Tell y n C E K) (mE : ∀ C x, E C x → E' C x) (mK : ∀ ys ns, K ys ns → K' ys ns) : Tell y n C E' K' :=
  ⟨fun ys ns a b => mK _ _ (h.ok ys ns a b), fun e => mE _ _ (h.e0 e), fun ys a e => mE _ _ (h.e1 ys a e)⟩
/-- two tellings that are integers: nothing is raised -/
theorem Tell.of {y n : PyData} {C : Addr} {E : Addr → PyData → Prop} {K : List Int → List Int → Prop} {ys ns : List Int} (a : IsC y ys) (b : IsC n ns) (h : K ys ns) : Tell y n C E K :=
  ⟨fun _ _ a' b' => by rw [← a.inj a', ← b.inj b']; exact h, fun e => (by rw [a.nb] at e; cases e), fun _ _ e => (by rw [b.nb] at e; cases e)⟩
theorem Tell.bad0 {y n : PyData} {C : Addr} {E : Addr → PyData → Prop} {K : List Int → List Int → Prop} (h : badC y = true) (e : E C (.int 0)) : Tell y n C E K :=
  ⟨fun _ _ a _ => by rw [a.nb] at h; (cases h), fun _ => e, fun _ a _ => (by rw [a.nb] at h; cases h)⟩
theorem Tell.bad1 {y n : PyData} {C : Addr} {E : Addr → PyData → Prop} {K : List Int → List Int → Prop} {ys : List Int} (a : IsC y ys) (h : badC n = true) (e : E C (.int 1)) : Tell y n C E K :=
  ⟨fun _ _ _ b => by rw [b.nb] at h; (cases h), fun h' => (by rw [a.nb] at h'; cases h'), fun _ _ _ => e⟩
def posB (ys ns : List Int) : Bool := !(ns.any fun n => folB ys n)
def sureD (ys ns : List Int) (n : Int) : PyData := if folB ys n = true then .bool true else if posB (ys ++ [n]) ns = true then .none else .bool false
def mxI (ns : List Int) : Int := ns.foldl (fun a x => if ab x > a then ab x else a) 0
theorem mx_fold : ∀ (ns : List Int) (a : Int), (a ≤ ns.foldl (fun a x => if ab x > a then ab x else a) a) ∧ (∀ x ∈ ns, ab x ≤ ns.foldl (fun a x => if ab x > a then ab x else a) a) ∧ (ns.foldl (fun a x => if ab x > a then ab x else a) a = a ∨ ∃ x ∈ ns, ns.foldl (fun a x => if ab x > a then ab x else a) a = ab x)
  | [], a => ⟨Int.le_refl _, (fun _ h => by cases h), .inl rfl⟩
  | n :: ns, a => by
    rw [List.foldl_cons]
    generalize hb : (if ab n > a then ab n else a) = b
    obtain ⟨h1, h2, h3⟩ := mx_fold ns b
    generalize ns.foldl (fun a x => if ab x > a then ab x else a) b = m at *
    have hab : a ≤ b ∧ ab n ≤ b := by split at hb <;> omega
    refine ⟨by omega, fun x hx => ?_, ?_⟩
    · rcases List.mem_cons.mp hx with rfl | hx
      · omega
      · exact h2 x hx
    · rcases h3 with h3 | ⟨x, hx, h3⟩
      · split at hb
        · exact .inr ⟨n, List.mem_cons_self, by omega⟩
        · exact .inl (by omega)
      · exact .inr ⟨x, List.mem_cons_of_mem _ hx, h3⟩
theorem ab_nn (x : Int) : 0 ≤ ab x := by unfold ab; split <;> omega
theorem mx_eq {ns : List Int} {m : Int} (hm : m ∈ ns.map ab) (hb : ∀ y ∈ ns.map ab, y ≤ m) : m = mxI ns := by
  obtain ⟨h1, h2, h3⟩ := mx_fold ns 0
  obtain ⟨x, hx, rfl⟩ := List.mem_map.mp hm
  have a := h2 x hx
  unfold mxI
  rcases h3 with h3 | ⟨y, hy, h3⟩
  · have := ab_nn x; omega
  · have := hb (ab y) (List.mem_map.mpr ⟨y, hy, rfl⟩); omega
theorem mx_le {ns : List Int} {x : Int} (h : x ∈ ns) : ab x ≤ mxI ns := (mx_fold ns 0).2.1 x h
def possD (ys ns : List Int) : PyData := if posB ys ns = true then (if (0 : Int) ∈ partsOf ys then (if ns = [] then .tuple [] else .tuple [.int (2 + mxI ns)]) else .tuple ((partsOf ys).map .int)) else .none
def qsOf : PyData → List Int
  | .tuple ds => ds.map toI
  | _ => []
theorem qsOf_t (qs : List Int) : qsOf (.tuple (qs.map .int)) = qs := toI_ints qs
def posLotB (ys ns : List Int) (v : PyData) : Bool := isLotB v && (ys.all (fun y => fitL (qsOf v) y) && !(ns.any fun n => fitL (qsOf v) n))
/-! ### the parts, kept big in every round -/
def keptOf (ns : List Int) : List Int := ns.foldl (fun l c => (rawS l c).filter keepP) [0]
theorem kept_snoc (ns : List Int) (c : Int) : keptOf (ns ++ [c]) = (rawS (keptOf ns) c).filter keepP := by unfold keptOf; rw [List.foldl_append]; rfl
theorem raw_snoc (ns : List Int) (c : Int) : rawOf (ns ++ [c]) = rawS (rawOf ns) c := by unfold rawOf; rw [List.foldl_append]; rfl
theorem kept_raw (ns : List Int) : keptOf ns = (rawOf ns).filter keepP := by
  induction ns using rev_ind with
  | h0 => rfl
  | hs l c ih => rw [kept_snoc, raw_snoc, ih, filter_raw c _ (raw_nn l)]
theorem kept_take {ns : List Int} {i : Nat} (h : i < ns.length) : keptOf (ns.take (i + 1)) = (rawS (keptOf (ns.take i)) ns[i]).filter keepP := by
  rw [List.take_succ, List.getElem?_eq_getElem h]; exact kept_snoc _ _
theorem kept_nn (ns : List Int) : ∀ x ∈ keptOf ns, 0 ≤ x := fun x hx => by
  rw [kept_raw] at hx
  exact raw_nn ns x (List.mem_filter.mp hx).1
theorem kept_len (ns : List Int) : (keptOf ns).length ≤ 2 ^ ns.length := by
  rw [kept_raw, ← raw_len ns]; exact List.length_filter_le _ _
theorem kept_srt (ns : List Int) : srt (keptOf ns) = partsOf ns := by rw [kept_raw]; exact parts_raw ns
/-! ### what follows changes nothing -/
theorem mod_dvd {q c : Int} (hq : 2 < q) (h : c % q < 2) : q ∣ c ∨ q ∣ c - 1 := by
  have h0 := Int.emod_nonneg c (show q ≠ 0 by omega)
  have e : c % q = 0 ∨ c % q = 1 := by omega
  rcases e with e | e
  · exact .inl (Int.dvd_of_emod_eq_zero e)
  · exact .inr (by have := Int.dvd_self_sub_emod (x := c) (m := q); rwa [e] at this)
theorem gcd_next {q c : Int} (h : q ∣ c) : Int.gcd q (c - 1) = 1 := by
  have h1 : ((Int.gcd q (c - 1) : Nat) : Int) ∣ 1 := by
    have a := Int.gcd_dvd_left (a := q) (b := c - 1)
    have b := Int.gcd_dvd_right (a := q) (b := c - 1)
    have := Int.dvd_sub (Int.dvd_trans a h) b
    rwa [show c - (c - 1) = 1 by omega] at this
  have := Int.le_of_dvd (by omega) h1
  have h2 : Int.gcd q (c - 1) ≠ 0 := fun e => by rw [e] at h1; simp at h1
  omega
theorem gcd_prev {q c : Int} (h : q ∣ c - 1) : Int.gcd q c = 1 := by
  have h1 : ((Int.gcd q c : Nat) : Int) ∣ 1 := by
    have a := Int.gcd_dvd_left (a := q) (b := c)
    have b := Int.gcd_dvd_right (a := q) (b := c)
    have := Int.dvd_sub b (Int.dvd_trans a h)
    rwa [show c - (c - 1) = 1 by omega] at this
  have := Int.le_of_dvd (by omega) h1
  have h2 : Int.gcd q c ≠ 0 := fun e => by rw [e] at h1; simp at h1
  omega
theorem gI_ab (a c : Int) : gI a (ab c) = ((Int.gcd a c : Nat) : Int) := by
  unfold gI ab
  split
  · rw [Int.gcd_neg]
  · rfl
theorem step_same {l : List Int} {c : Int} (hq : ∀ q ∈ l, 2 < q) (h : ∀ q ∈ l, c % q < 2) : ((l.flatMap fun a => [gI a (ab c), gI a (ab (c - 1))]).filter keepP) = l := by
  induction l with
  | nil => rfl
  | cons q l ih =>
    have q2 := hq q List.mem_cons_self
    rw [List.flatMap_cons, List.filter_append, ih (fun x hx => hq x (List.mem_cons_of_mem _ hx)) fun x hx => h x (List.mem_cons_of_mem _ hx)]
    have e : [gI q (ab c), gI q (ab (c - 1))].filter keepP = [q] := by
      rw [gI_ab, gI_ab]
      rcases mod_dvd q2 (h q List.mem_cons_self) with d | d
      · rw [gcd_next d, Int.gcd_eq_natAbs_left d, show ((q.natAbs : Nat) : Int) = q by omega]
        simp [keepP, q2]
      · rw [gcd_prev d, Int.gcd_eq_natAbs_left d, show ((q.natAbs : Nat) : Int) = q by omega]
        simp [keepP, q2]
    rw [e]; rfl
theorem parts_more {ys : List Int} {n : Int} (h : folB ys n = true) : partsOf (ys ++ [n]) = partsOf ys := by
  unfold folB at h
  rw [parts_snoc]
  by_cases hz : (0 : Int) ∈ partsOf ys
  · rw [if_pos hz] at h
    obtain ⟨_, hc⟩ := zero_all ys [0] hz
    have h0 := zeros_all ys [0] (by simp) hc
    have hn : n = 0 ∨ n = 1 := by simpa using h
    have hcop := parts_cop ys
    have hp : partsOf ys = [0] := by
      have h0' : ∀ x ∈ partsOf ys, x = 0 := h0
      generalize partsOf ys = l at *
      cases l with
      | nil => cases hz
      | cons a l =>
        have ha := h0' a List.mem_cons_self
        cases l with
        | nil => rw [ha]
        | cons b l =>
          have hb := h0' b (by simp)
          have := (List.pairwise_cons.mp hcop).1 b (by simp)
          subst ha hb
          simp [copr] at this
    rw [hp]
    have e : ([(0 : Int)].flatMap fun a => [gI a (ab n), gI a (ab (n - 1))]).filter keepP = [0] := by
      rcases hn with rfl | rfl <;> simp [gI, ab, keepP]
    unfold stepP
    rw [e]
    simp [srt]
  · rw [if_neg hz] at h
    unfold stepP
    rw [step_same (parts_big hz) fun q hq => of_decide_eq_true (List.all_eq_true.mp h q hq)]
    exact (srt_eq (List.Perm.refl _) (parts_sorted ys)).symm
theorem fol_more {ys : List Int} {n : Int} (h : folB ys n = true) (m : Int) : folB (ys ++ [n]) m = folB ys m := by
  unfold folB
  rw [parts_more h]
theorem pos_more {ys ns : List Int} {n : Int} (h : folB ys n = true) : posB (ys ++ [n]) ns = posB ys ns := by
  unfold posB
  rw [show (fun m => folB (ys ++ [n]) m) = fun m => folB ys m from funext (fol_more h)]
theorem prod_sub {a b : List Int} (h : a.Sublist b) (hp : ∀ q ∈ b, 0 < q) : prodI a ≤ prodI b := by
  induction h with
  | slnil => exact Int.le_refl _
  | @cons a b x h ih =>
    have h1 := ih fun q hq => hp q (List.mem_cons_of_mem _ hq)
    have h2 := hp x List.mem_cons_self
    have h3 := prodI_pos (l := b) fun q hq => hp q (List.mem_cons_of_mem _ hq)
    have := Int.mul_le_mul_of_nonneg_right (show (1 : Int) ≤ x by omega) (show 0 ≤ prodI b by omega)
    show prodI a ≤ x * prodI b
    omega
  | @cons_cons a b x h ih =>
    have h1 := ih fun q hq => hp q (List.mem_cons_of_mem _ hq)
    have h2 := hp x List.mem_cons_self
    exact Int.mul_le_mul_of_nonneg_left h1 (by omega)
theorem due_pos (ys ns : List Int) : decide (ns.filter (fun x => folB ys x) = []) = posB ys ns := by
  unfold posB
  rw [Bool.eq_iff_iff, decide_eq_true_eq, List.filter_eq_nil_iff, Bool.not_eq_true', List.any_eq_false]
theorem Tx.isC {d : PyData} {ns : List Int} {m k : Nat} (e : IsC d ns) (hl : ns.length ≤ m) (h : ∀ x ∈ ns, x.natAbs < 2 ^ k) (h0 : 0 < k := by decide) (hk : k ≤ 1920 := by decide) : Tx (m * 1923 + 3) 1 d := by
  have hb : ∀ x ∈ ns, x.natAbs.log2 < 1920 := fun x hx => Nat.lt_of_lt_of_le (log_lt (h x hx) h0) hk
  rcases e with rfl | rfl
  · exact Tx.intsL hb hl
  · exact Tx.ints hb hl
theorem sure_tx (ys ns : List Int) (n : Int) : Tx 5 0 (sureD ys ns n) := by
  unfold sureD
  split
  · exact Tx.bool _ 0
  · split
    · exact (Tx.none 0).up (by decide) (Nat.le_refl _)
    · exact Tx.bool _ 0
theorem pos_zero {ys ns : List Int} (hz : (0 : Int) ∈ partsOf ys) (hp : posB ys ns = true) : (∀ y ∈ ys, y = 0 ∨ y = 1) ∧ ∀ n ∈ ns, n ≠ 0 ∧ n ≠ 1 := by
  refine ⟨(zero_all ys [0] hz).2, fun n hn => ?_⟩
  unfold posB at hp
  have h := (List.any_eq_false.mp (by simpa using hp)) n hn
  unfold folB at h
  rw [if_pos hz] at h
  exact ⟨fun e => h (by simp [e]), fun e => h (by simp [e])⟩
theorem poss_lot {ys ns : List Int} (hl : ys.length ≤ 12) (hp : posB ys ns = true) : posLotB ys ns (possD ys ns) = true := by
  unfold possD
  rw [if_pos hp]
  by_cases hz : (0 : Int) ∈ partsOf ys
  · rw [if_pos hz]
    obtain ⟨h1, h2⟩ := pos_zero hz hp
    by_cases hn : ns = []
    · subst hn
      rw [if_pos rfl]
      have e : qsOf (.tuple []) = [] := rfl
      simp [posLotB, e, fitL, isLotB, lotB]
    · rw [if_neg hn]
      obtain ⟨n, hnm⟩ := List.exists_mem_of_ne_nil ns hn
      have hm : 3 ≤ 2 + mxI ns := by
        have a := mx_le hnm
        have := h2 n hnm
        unfold ab at a
        split at a <;> omega
      have hL : isLotB (.tuple [.int (2 + mxI ns)]) = true := by
        rw [show (.tuple [.int (2 + mxI ns)] : PyData) = .tuple ([2 + mxI ns].map .int) from rfl, isLot_ints, lotB_iff]
        exact ⟨by intro q hq; rw [List.mem_singleton.mp hq]; omega, by simp, by simp⟩
      have hq : qsOf (.tuple [.int (2 + mxI ns)]) = [2 + mxI ns] := rfl
      unfold posLotB
      rw [hL, hq, Bool.true_and, Bool.and_eq_true]
      refine ⟨List.all_eq_true.mpr fun y hy => ?_, ?_⟩
      · rcases h1 y hy with rfl | rfl
        · simp [fitL]
        · simp only [fitL, List.all_cons, List.all_nil, Bool.and_true, decide_eq_true_eq]
          rw [Int.emod_eq_of_lt (by omega) (by omega)]; decide
      · rw [Bool.not_eq_true', List.any_eq_false]
        intro x hx
        have a := mx_le hx
        obtain ⟨x0, x1⟩ := h2 x hx
        simp only [fitL, List.all_cons, List.all_nil, Bool.and_true, decide_eq_true_eq]
        unfold ab at a
        split at a
        · have e : x % (2 + mxI ns) = x + (2 + mxI ns) := by
            rw [← Int.add_emod_right, Int.emod_eq_of_lt (by omega) (by omega)]
          omega
        · rw [Int.emod_eq_of_lt (by omega) (by omega)]; omega
  · rw [if_neg hz]
    obtain ⟨g1, g2, g3, g4⟩ := parts_lot hz hl
    unfold posLotB
    rw [isLot_ints, lotB_iff.mpr ⟨g1, g2, g3⟩, qsOf_t, Bool.true_and, Bool.and_eq_true]
    refine ⟨List.all_eq_true.mpr fun y hy => List.all_eq_true.mpr fun q hq => ?_, ?_⟩
    · have hd := (div_all ys [0] [] (fun _ _ _ z => by cases z) q hq).2 y hy
      simpa using mod_small (g1 q hq) hd
    · have e : (fun n => folB ys n) = fun n => fitL (partsOf ys) n := funext fun n => by unfold folB fitL; rw [if_neg hz]
      unfold posB at hp
      rw [e] at hp
      exact hp
theorem poss_small {ys ns : List Int} (hl : ys.length ≤ 12) : smallC (possD ys ns) := by
  have hL := parts_len ys
  have hp12 : 2 ^ ys.length ≤ 2 ^ 12 := Nat.pow_le_pow_right (by decide) hl
  unfold possD
  split
  · split
    · split
      · show ([] : List PyData).length ≤ 4096; decide
      · show [PyData.int _].length ≤ 4096; simp
    · show ((partsOf ys).map PyData.int).length ≤ 4096
      rw [List.length_map]; omega
  · trivial
theorem poss_near {ys ns : List Int} (hl : ys.length ≤ 4) (hb : ∀ n ∈ ys, n.natAbs < 2 ^ 400) (hn : ∀ n ∈ ns, n.natAbs < 2 ^ 401) : possD ys ns = .none ∨ ∃ qs : List Int, possD ys ns = .tuple (qs.map .int) ∧ qs.length ≤ 4000 ∧ ∀ q ∈ qs, q.natAbs < 2 ^ 2000 := by
  have hL := parts_len ys
  have hp12 : 2 ^ ys.length ≤ 2 ^ 4 := Nat.pow_le_pow_right (by decide) hl
  unfold possD
  split
  · split
    · split
      · exact .inr ⟨[], rfl, by simp, by simp⟩
      · refine .inr ⟨[2 + mxI ns], rfl, by simp, fun q hq => ?_⟩
        rw [List.mem_singleton.mp hq]
        have hm : (mxI ns).natAbs < 2 ^ 401 := by
          rcases (mx_fold ns 0).2.2 with h | ⟨x, hx, h⟩
          · unfold mxI; rw [h]; exact Nat.pow_pos (n := 401) (show 0 < 2 by decide)
          · have := hn x hx
            unfold mxI; rw [h]; unfold ab; split <;> omega
        exact up_nat (n := 402) (by decide) (add_nat (n := 401) (up_nat (n := 2) (by decide) (by decide)) hm)
    · exact .inr ⟨partsOf ys, rfl, by omega, fun q hq => (parts_bits hb q hq).2⟩
  · exact .inl rfl
end Dl
/-! All lots whose moduli divide those of a lot, plainly. -/
namespace Dl
open PySem PySem.Spec PyProof.Rows L2
/-! ### the order of tuples -/
theorem lexI_anti : ∀ x y : List Int, lexI x y = false → lexI y x = false → x = y
  | [], [], _, _ => rfl
  | [], _ :: _, h, _ => by cases h
  | _ :: _, [], _, h => by cases h
  | a :: x, b :: y, h1, h2 => by
    unfold lexI at h1 h2
    rw [HT.lexLt_cons] at h1 h2
    by_cases e : a = b
    · subst e
      rw [if_pos rfl] at h1 h2
      rw [lexI_anti x y h1 h2]
    · rw [if_neg e] at h1
      rw [if_neg fun z => e z.symm] at h2
      have := of_decide_eq_false h1
      have := of_decide_eq_false h2
      omega
abbrev SrtI (l : List (List Int)) : Prop := l.Pairwise fun x y => lexI y x = false
theorem sortedI_unique : ∀ {l m : List (List Int)}, l.Perm m → SrtI l → SrtI m → l = m
  | [], m, p, _, _ => by simpa using p.nil_eq
  | a :: l, [], p, _, _ => by simpa using p.length_eq
  | a :: l, b :: m, p, s, t => by
    have r := SrtO.lexLt_self
    have h1 : lexI b a = false := by
      rcases List.mem_cons.mp (p.mem_iff.mpr (List.mem_cons_self (a := b) (l := m))) with e | e
      · rw [e]; exact r a
      · exact (List.pairwise_cons.mp s).1 b e
    have h2 : lexI a b = false := by
      rcases List.mem_cons.mp (p.mem_iff.mp (List.mem_cons_self (a := a) (l := l))) with e | e
      · rw [e]; exact r b
      · exact (List.pairwise_cons.mp t).1 a e
    have e := lexI_anti a b h2 h1
    subst e
    rw [sortedI_unique p.cons_inv (List.pairwise_cons.mp s).2 (List.pairwise_cons.mp t).2]
def srtI (l : List (List Int)) : List (List Int) := l.mergeSort fun x y => !lexI y x
theorem srtI_perm (l : List (List Int)) : (srtI l).Perm l := List.mergeSort_perm l _
theorem srtI_sorted (l : List (List Int)) : SrtI (srtI l) := by
  have h := List.pairwise_mergeSort (le := fun x y => !lexI y x) (fun a b c h1 h2 => by
    have := SrtO.lexLt_tr a b c (by simpa [lexI] using h1) (by simpa [lexI] using h2)
    simpa [lexI] using this) (fun a b => by
    cases h : lexI b a with
    | false => simp
    | true => have := SrtO.lexLt_asym b a h; simp [lexI, this]) l
  exact h.imp fun h => by simpa using h
theorem srtI_eq {l m : List (List Int)} (p : m.Perm l) (s : SrtI m) : m = srtI l := sortedI_unique (p.trans (srtI_perm l).symm) s (srtI_sorted l)
theorem srtI_filter (l : List (List Int)) (f : List Int → Bool) : srtI (l.filter f) = (srtI l).filter f :=
  (srtI_eq ((srtI_perm l).filter f) ((srtI_sorted l).filter f)).symm
theorem srtI_length (l : List (List Int)) : (srtI l).length = l.length := (srtI_perm l).length_eq
theorem mem_srtI {l : List (List Int)} {x : List Int} : x ∈ srtI l ↔ x ∈ l := (srtI_perm l).mem_iff
/-! ### coarser lots -/
def okq (l : List Int) (q : Int) : Bool := l.all fun p => Int.gcd q p == 1
def coarS (f : List (List Int)) (q : Int) : List (List Int) := f ++ (f.filter fun l => okq l q).map (· ++ [q])
def coarL (qs : List Int) : List (List Int) := qs.foldl coarS [[]]
theorem coar_snoc (qs : List Int) (q : Int) : coarL (qs ++ [q]) = coarS (coarL qs) q := by unfold coarL; rw [List.foldl_append]; rfl
theorem coar_take {qs : List Int} {i : Nat} (h : i < qs.length) : coarL (qs.take (i + 1)) = coarS (coarL (qs.take i)) qs[i] := by
  rw [List.take_succ, List.getElem?_eq_getElem h]; exact coar_snoc _ _
theorem coar_mono : ∀ (b a : List Int), (coarL a).length ≤ (coarL (a ++ b)).length
  | [], a => by rw [List.append_nil]; exact Nat.le_refl _
  | q :: b, a => by
    have h := coar_mono b (a ++ [q])
    rw [coar_snoc, List.append_assoc] at h
    refine Nat.le_trans ?_ h
    unfold coarS
    rw [List.length_append]
    exact Nat.le_add_right _ _
theorem coar_take_le (qs : List Int) (i : Nat) : (coarL (qs.take i)).length ≤ (coarL qs).length := by
  have := coar_mono (qs.drop i) (qs.take i)
  rwa [List.take_append_drop] at this
theorem okq_iff {l : List Int} {q : Int} : okq l q = true ↔ ∀ p ∈ l, copr p q := by
  unfold okq copr
  rw [List.all_eq_true]
  exact ⟨fun h p hp => by rw [Int.gcd_comm]; simpa using h p hp, fun h p hp => by have := h p hp; rw [Int.gcd_comm] at this; simpa using this⟩
theorem mem_coar : ∀ {qs l : List Int}, l ∈ coarL qs ↔ l.Sublist qs ∧ l.Pairwise copr := fun {qs} => by
  induction qs using rev_ind with
  | h0 =>
    intro l
    show l ∈ [[]] ↔ _
    rw [List.mem_singleton]
    exact ⟨fun e => by subst e; exact ⟨List.Sublist.refl _, .nil⟩, fun h => List.eq_nil_of_sublist_nil h.1⟩
  | hs qs q ih =>
    intro l
    rw [coar_snoc]
    unfold coarS
    rw [List.mem_append, List.mem_map, ih]
    constructor
    · rintro (⟨h1, h2⟩ | ⟨m, hm, rfl⟩)
      · exact ⟨h1.trans (List.sublist_append_left _ _), h2⟩
      · obtain ⟨hm, ho⟩ := List.mem_filter.mp hm
        obtain ⟨h1, h2⟩ := ih.mp hm
        exact ⟨h1.append (List.Sublist.refl _), List.pairwise_append.mpr ⟨h2, List.pairwise_singleton _ _, fun a ha b hb => by rw [List.mem_singleton.mp hb]; exact okq_iff.mp ho a ha⟩⟩
    · rintro ⟨h1, h2⟩
      obtain ⟨l1, l2, rfl, s1, s2⟩ := List.sublist_append_iff.mp h1
      obtain ⟨p1, p2, p3⟩ := List.pairwise_append.mp h2
      cases l2 with
      | nil => rw [List.append_nil]; exact .inl ⟨s1, p1⟩
      | cons x l2 =>
        have e : l2 = [] := by
          have := s2.length_le
          simp at this
          exact this
        subst e
        have ex : x = q := by
          have := s2.subset (List.mem_cons_self (a := x) (l := []))
          simpa using this
        subst ex
        exact .inr ⟨l1, List.mem_filter.mpr ⟨ih.mpr ⟨s1, p1⟩, okq_iff.mpr fun p hp => p3 p hp x (by simp)⟩, rfl⟩
theorem coar_lot {qs l : List Int} (h2 : ∀ q ∈ qs, 2 < q) (hs : qs.Pairwise (· ≤ ·)) (h : l ∈ coarL qs) : Lot l := by
  obtain ⟨s, c⟩ := mem_coar.mp h
  exact ⟨fun q hq => h2 q (s.subset hq), hs.sublist s, c⟩
/-- all divisors from 3 on of some of the numbers -/
def rngI (a b : Int) : List Int := (List.range (b - a).toNat).map fun k : Nat => a + (k : Int)
theorem mem_rngI {a b x : Int} : x ∈ rngI a b ↔ a ≤ x ∧ x < b := by
  unfold rngI
  rw [List.mem_map]
  constructor
  · rintro ⟨n, hn, rfl⟩
    have := List.mem_range.mp hn
    omega
  · rintro ⟨h1, h2⟩
    exact ⟨(x - a).toNat, List.mem_range.mpr (by omega), by omega⟩
theorem rngI_lt (a b : Int) : (rngI a b).Pairwise (· < ·) := List.pairwise_map.mpr (List.pairwise_lt_range.imp fun h => by omega)
theorem rngI_ints (a b : Int) : (List.range (b - a).toNat).map (fun k : Nat => PyData.int (a + (k : Int))) = (rngI a b).map .int := by unfold rngI; rw [List.map_map]; rfl
theorem rngI_len (a b : Int) : (rngI a b).length = (b - a).toNat := by unfold rngI; simp
def dvOf (m : Int) : List Int := (rngI 3 (m + 1)).filter fun d => m % d == 0
def topI (qs : List Int) : Int := qs.foldl max 3
def divsL (qs : List Int) : List Int := (rngI 3 (topI qs + 1)).filter fun q => !decide (qs.filter (fun p => p % q == 0) = [])
theorem top_fold : ∀ (qs : List Int) (a : Int), a ≤ qs.foldl max a ∧ (∀ x ∈ qs, x ≤ qs.foldl max a) ∧ (qs.foldl max a = a ∨ qs.foldl max a ∈ qs)
  | [], a => ⟨Int.le_refl _, (fun _ h => by cases h), .inl rfl⟩
  | q :: qs, a => by
    rw [List.foldl_cons]
    obtain ⟨h1, h2, h3⟩ := top_fold qs (max a q)
    refine ⟨by omega, fun x hx => ?_, ?_⟩
    · rcases List.mem_cons.mp hx with rfl | hx
      · omega
      · exact h2 x hx
    · rcases h3 with h3 | h3
      · by_cases e : a ≤ q
        · exact .inr (by rw [h3, Int.max_eq_right e]; exact List.mem_cons_self)
        · exact .inl (by rw [h3, Int.max_eq_left (by omega)])
      · exact .inr (List.mem_cons_of_mem _ h3)
theorem mem_dvOf {m d : Int} : d ∈ dvOf m ↔ 3 ≤ d ∧ d ≤ m ∧ d ∣ m := by
  unfold dvOf
  rw [List.mem_filter, mem_rngI]
  constructor
  · rintro ⟨⟨h1, h2⟩, h3⟩
    exact ⟨by omega, by omega, Int.dvd_of_emod_eq_zero (by simpa using h3)⟩
  · rintro ⟨h1, h2, h3⟩
    exact ⟨⟨by omega, by omega⟩, by simpa using Int.emod_eq_zero_of_dvd h3⟩
theorem mem_divsL {qs : List Int} (h0 : ∀ q ∈ qs, 2 < q) {d : Int} : d ∈ divsL qs ↔ 3 ≤ d ∧ ∃ q ∈ qs, d ∣ q := by
  unfold divsL
  rw [List.mem_filter, mem_rngI]
  have e : ∀ d : Int, (!decide (qs.filter (fun p => p % d == 0) = [])) = true ↔ ∃ q ∈ qs, d ∣ q := fun d => by
    rw [Bool.not_eq_true', decide_eq_false_iff_not]
    constructor
    · intro h
      obtain ⟨q, hq⟩ := List.exists_mem_of_ne_nil _ h
      obtain ⟨h1, h2⟩ := List.mem_filter.mp hq
      exact ⟨q, h1, Int.dvd_of_emod_eq_zero (by simpa using h2)⟩
    · rintro ⟨q, hq, hd⟩ z
      exact (List.filter_eq_nil_iff.mp z) q hq (by simpa using Int.emod_eq_zero_of_dvd hd)
  rw [e]
  constructor
  · rintro ⟨⟨h1, h2⟩, h3⟩
    exact ⟨by omega, h3⟩
  · rintro ⟨h1, q, hq, hd⟩
    have := Int.le_of_dvd (by have := h0 q hq; omega) hd
    have := (top_fold qs 3).2.1 q hq
    unfold topI
    exact ⟨⟨by omega, by omega⟩, q, hq, hd⟩
theorem divsL_lt (qs : List Int) : (divsL qs).Pairwise (· < ·) := (rngI_lt _ _).filter _
theorem divsL_big (qs : List Int) : ∀ q ∈ divsL qs, 2 < q := fun q hq => by
  have := mem_rngI.mp (List.mem_filter.mp hq).1
  omega
theorem flat_nodup : ∀ {qs : List Int}, (∀ q ∈ qs, 2 < q) → qs.Pairwise copr → (qs.flatMap dvOf).Nodup
  | [], _, _ => by simp
  | q :: qs, h2, hc => by
    obtain ⟨c1, c2⟩ := List.pairwise_cons.mp hc
    rw [List.flatMap_cons, List.nodup_append]
    refine ⟨((rngI_lt _ _).imp fun h => Int.ne_of_lt h).filter _, flat_nodup (fun x hx => h2 x (List.mem_cons_of_mem _ hx)) c2, fun a ha b hb e => ?_⟩
    subst e
    obtain ⟨x, hx, hb⟩ := List.mem_flatMap.mp hb
    obtain ⟨a1, _, a3⟩ := mem_dvOf.mp ha
    obtain ⟨_, _, b3⟩ := mem_dvOf.mp hb
    have hg : Int.gcd q x = 1 := c1 x hx
    have := Int.dvd_coe_gcd a3 b3
    rw [hg] at this
    have := Int.le_of_dvd (by decide) this
    omega
theorem div_eq {qs : List Int} (L : Lot qs) : srt (qs.flatMap dvOf) = divsL qs := by
  refine srt_of_mem (flat_nodup L.big L.cop) ((divsL_lt qs).imp fun h => Int.ne_of_lt h) ((divsL_lt qs).imp Int.le_of_lt) fun x => ?_
  rw [List.mem_flatMap, mem_divsL L.big]
  constructor
  · rintro ⟨q, hq, hd⟩
    obtain ⟨h1, _, h3⟩ := mem_dvOf.mp hd
    exact ⟨h1, q, hq, h3⟩
  · rintro ⟨h1, q, hq, hd⟩
    exact ⟨q, hq, mem_dvOf.mpr ⟨h1, Int.le_of_dvd (by have := L.big q hq; omega) hd, hd⟩⟩
theorem dvOf_len {m : Int} (h : m ≤ 4096) : (dvOf m).length ≤ 4096 := by
  unfold dvOf
  refine Nat.le_trans (List.length_filter_le _ _) ?_
  rw [rngI_len]; omega
theorem flat_len : ∀ {qs : List Int}, (∀ q ∈ qs, q ≤ 4096) → (qs.flatMap dvOf).length ≤ qs.length * 4096
  | [], _ => by simp
  | q :: qs, h => by
    have ih := flat_len (qs := qs) fun x hx => h x (List.mem_cons_of_mem _ hx)
    have := dvOf_len (h q List.mem_cons_self)
    rw [List.flatMap_cons, List.length_append, List.length_cons, Nat.succ_mul]
    omega
theorem flat_take {qs : List Int} {i : Nat} (h : i < qs.length) : (qs.take (i + 1)).flatMap dvOf = (qs.take i).flatMap dvOf ++ dvOf qs[i] := by
  rw [List.take_succ, List.getElem?_eq_getElem h, List.flatMap_append]; simp
theorem coar_pos {ds l : List Int} (h2 : ∀ q ∈ ds, 2 < q) (h : l ∈ coarL ds) : ∀ p ∈ l, 2 < p := fun p hp => h2 p ((mem_coar.mp h).1.subset hp)
theorem coarS_len (f : List (List Int)) (q : Int) : (coarS f q).length = f.length + (f.filter fun l => okq l q).length := by unfold coarS; rw [List.length_append, List.length_map]
theorem coarS_map (f : List (List Int)) (q : Int) : (coarS f q).map tupI = f.map tupI ++ (f.filter fun l => okq l q).map fun l => PyData.tuple (l.map .int ++ [.int q]) := by
  unfold coarS
  rw [List.map_append, List.map_map]
  congr 1
  refine List.map_congr_left fun l _ => ?_
  simp [tupI]
theorem gcd1 (a b : Int) : (((Int.gcd a b : Nat) : Int) == 1) = (Int.gcd a b == 1) := by rw [Bool.eq_iff_iff]; simp; omega
theorem coar_len_el {ds l : List Int} (h : l ∈ coarL ds) : l.length ≤ ds.length := (mem_coar.mp h).1.length_le
theorem divsL_len {qs : List Int} (L : Lot qs) (hl : qs.length ≤ 64) (hb : ∀ q ∈ qs, q ≤ 4096) : (divsL qs).length ≤ 262144 := by
  rw [← div_eq L, srt_length]
  have := flat_len hb
  omega
theorem fm_map {α β : Type} (p : α → Bool) (g : α → β) (l : List α) : l.filterMap (fun x => if p x = true then some (g x) else none) = (l.filter p).map g := by
  induction l with
  | nil => rfl
  | cons a l ih =>
    rw [List.filterMap_cons, List.filter_cons]
    cases p a
    · simpa using ih
    · simp [ih]
theorem ok_filter {l : List Int} {q : Int} (hl : ∀ p ∈ l, 2 < p) : decide (l.filter (fun p => decide (1 < ((Int.gcd p q : Nat) : Int))) = []) = okq l q := by
  rw [Bool.eq_iff_iff, decide_eq_true_eq, List.filter_eq_nil_iff, okq_iff]
  constructor
  · intro h p hp
    have h1 := h p hp
    simp only [decide_eq_true_eq] at h1
    have h2 : Int.gcd p q ≠ 0 := fun e => by
      have := (Int.gcd_eq_zero_iff.mp e).1
      have := hl p hp
      omega
    show Int.gcd p q = 1
    omega
  · intro h p hp
    have h1 : Int.gcd p q = 1 := h p hp
    rw [h1]
    decide
theorem coar_head (ds : List Int) : (coarL ds).head? = some [] := by
  induction ds using rev_ind with
  | h0 => rfl
  | hs l x ih =>
    rw [coar_snoc]
    unfold coarS
    cases h : coarL l with
    | nil => rw [h] at ih; cases ih
    | cons a m => rw [h] at ih; simpa using ih
def anyD (qs : List Int) (q : Int) : Bool := !decide (qs.filter (fun p => p % q == 0) = [])
theorem divsL_eq (qs : List Int) : divsL qs = (rngI 3 (qs.foldl max 3 + 1)).filter (anyD qs) := rfl
theorem coar_part (qs : List Int) (i : Nat) : (coarL (((rngI 3 (qs.foldl max 3 + 1)).take i).filter (anyD qs))).length ≤ (coarL (divsL qs)).length := by
  have := coar_mono (((rngI 3 (qs.foldl max 3 + 1)).drop i).filter (anyD qs)) (((rngI 3 (qs.foldl max 3 + 1)).take i).filter (anyD qs))
  rwa [← List.filter_append, List.take_append_drop, ← divsL_eq] at this
theorem part_take {l : List Int} {f : Int → Bool} {i : Nat} (h : i < l.length) : (l.take (i + 1)).filter f = (l.take i).filter f ++ if f l[i] = true then [l[i]] else [] := by
  rw [List.take_succ, List.getElem?_eq_getElem h, List.filter_append]
  congr 1
  simp only [Option.toList, List.filter_cons, List.filter_nil]
/-! ### bounds for small lots -/
structure CoarB (qs : List Int) : Prop where
  len : qs.length ≤ 64
  le : ∀ q ∈ qs, q ≤ 4096
  cnt : (coarL (divsL qs)).length ≤ 1024
  dv : (divsL qs).length ≤ 22
def possL (ys ns : List Int) : List (List Int) := (srtI (coarL (divsL (partsOf ys)))).filter fun l => !(ns.any fun n => fitL l n)
theorem fit_nil (n : Int) : fitL [] n = true := rfl
theorem poss_head (ds ns : List Int) : (∀ x ∈ (coarL ds).filter (fun l => !(ns.any fun n => fitL l n)), x ≠ []) ∨ ((coarL ds).filter fun l => !(ns.any fun n => fitL l n)).head? = some [] := by
  have h := coar_head ds
  by_cases hn : ns = []
  · subst hn
    refine .inr ?_
    rw [show ((coarL ds).filter fun l => !(([] : List Int).any fun n => fitL l n)) = coarL ds from List.filter_eq_self.mpr fun _ _ => rfl]
    exact h
  · refine .inl fun x hx e => ?_
    subst e
    have := (List.mem_filter.mp hx).2
    obtain ⟨m, hm⟩ := List.exists_mem_of_ne_nil ns hn
    have h2 := List.any_eq_false.mp (by simpa using this) m hm
    exact h2 (fit_nil m)
theorem coar_few {qs l : List Int} (L : Lot qs) (hb : ∀ q ∈ qs, q ≤ 4096) (h : l ∈ coarL (divsL qs)) : l.length ≤ 4096 := by
  have h1 := coar_len_el h
  have h2 : (divsL qs).length ≤ 4096 := by
    unfold divsL
    refine Nat.le_trans (List.length_filter_le _ _) ?_
    rw [rngI_len]
    have : topI qs ≤ 4096 := by
      unfold topI
      rcases (top_fold qs 3).2.2 with h | h
      · omega
      · exact hb _ h
    omega
  omega
theorem coar_count (ds : List Int) : (coarL ds).length ≤ 2 ^ ds.length := by
  induction ds using rev_ind with
  | h0 => decide
  | hs l x ih =>
    rw [coar_snoc, coarS_len, List.length_append, List.length_singleton, Nat.pow_succ]
    have := List.length_filter_le (fun l => okq l x) (coarL l)
    omega
theorem dv_prod {qs : List Int} (L : Lot qs) : (divsL qs).length ≤ (dvOf (prodI qs)).length := by
  have hn1 := (divsL_lt qs).imp fun h => Int.ne_of_lt h
  have hn2 : (dvOf (prodI qs)).Nodup := ((rngI_lt _ _).imp fun h => Int.ne_of_lt h).filter _
  have hs : ∀ x ∈ divsL qs, x ∈ dvOf (prodI qs) := fun x hx => by
    obtain ⟨h1, q, hq, hd⟩ := (mem_divsL L.big).mp hx
    have hw := Int.dvd_trans hd (dvd_prod hq)
    exact mem_dvOf.mpr ⟨h1, Int.le_of_dvd (prodI_pos L.pos) hw, hw⟩
  have p : (divsL qs).Perm ((dvOf (prodI qs)).filter fun x => decide (x ∈ divsL qs)) := perm_of_mem hn1 (hn2.filter _) fun x => by
    rw [List.mem_filter, decide_eq_true_eq]
    exact ⟨fun h => ⟨hs x h, h⟩, fun h => h.2⟩
  rw [p.length_eq]
  exact List.length_filter_le _ _
theorem dv_90 : ∀ w : Nat, w < 90 → (dvOf (w : Int)).length ≤ 10 := by decide +kernel
theorem coarB_small {qs : List Int} (L : Lot qs) (hl : qs.length ≤ 64) (h : prodI qs < 90) : CoarB qs := by
  have hp := prodI_pos L.pos
  have h1 := dv_prod L
  have h2 := dv_90 (prodI qs).toNat (by omega)
  rw [show (((prodI qs).toNat : Nat) : Int) = prodI qs by omega] at h2
  have h3 := coar_count (divsL qs)
  have h4 : 2 ^ (divsL qs).length ≤ 2 ^ 10 := Nat.pow_le_pow_right (by decide) (by omega)
  exact ⟨hl, fun q hq => by have := mem_le_prod L.pos hq; omega, by omega, by omega⟩
theorem coarB_one : ∀ b ∈ [(100 : Int), 210, 360, 420, 1024, 2000], CoarB [b] := by
  intro b hb
  simp only [List.mem_cons, List.not_mem_nil, or_false] at hb
  rcases hb with rfl | rfl | rfl | rfl | rfl | rfl <;> exact ⟨by decide, by simp, by decide +kernel, by decide +kernel⟩
theorem Tx.intS {i : Int} (k n : Nat) (h : i.natAbs.log2 < k) (h0 : 0 < k := by decide) (hk : k ≤ 1920 := by decide) : Tx (k + 1) n (.int i) :=
  ⟨show_int (by omega), by simp [PyData.hasDict], by simp [PyData.depth], by
    simp only [PyData.shown]
    rw [PySem.ofString_length]
    exact PySem.int_text_length_le (k := k) (by omega) h, by simpa [PyData.shown] using ok_int i⟩
end Dl
/-! The possible lots and what they tell, plainly. -/
namespace Dl
open PySem PySem.Spec PyProof.Rows L2
theorem sub_sorted : ∀ {a b : List Int}, a.Pairwise (· < ·) → b.Pairwise (· < ·) → (∀ x ∈ a, x ∈ b) → a.Sublist b
  | [], b, _, _, _ => List.nil_sublist b
  | x :: a, [], _, _, h => absurd (h x List.mem_cons_self) (by simp)
  | x :: a, y :: b, ha, hb, h => by
    obtain ⟨a1, a2⟩ := List.pairwise_cons.mp ha
    obtain ⟨b1, b2⟩ := List.pairwise_cons.mp hb
    by_cases e : x = y
    · subst e
      refine (sub_sorted a2 b2 fun z hz => ?_).cons_cons _
      rcases List.mem_cons.mp (h z (List.mem_cons_of_mem _ hz)) with e | e
      · have := a1 z hz
        omega
      · exact e
    · have hx : x ∈ b := (List.mem_cons.mp (h x List.mem_cons_self)).resolve_left e
      refine (sub_sorted ha b2 fun z hz => ?_).cons _
      rcases List.mem_cons.mp (h z hz) with e2 | e2
      · subst e2
        have h1 := b1 x hx
        rcases List.mem_cons.mp hz with e3 | e3
        · exact absurd e3.symm e
        · have := a1 z e3
          omega
      · exact e2
theorem coar_of {qs l : List Int} (L : Lot qs) (M : Lot l) (h : ∀ p ∈ l, ∃ q ∈ qs, p ∣ q) : l ∈ coarL (divsL qs) :=
  mem_coar.mpr ⟨sub_sorted M.lt (divsL_lt qs) fun x hx => (mem_divsL L.big).mpr ⟨by have := M.big x hx; omega, h x hx⟩, M.cop⟩
theorem coar_dvd {qs l : List Int} (L : Lot qs) (h : l ∈ coarL (divsL qs)) : ∀ p ∈ l, 2 < p ∧ ∃ q ∈ qs, p ∣ q := fun p hp => by
  have := (mem_divsL L.big).mp ((mem_coar.mp h).1.subset hp)
  exact ⟨by omega, this.2⟩
theorem coar_is {qs l : List Int} (h : l ∈ coarL (divsL qs)) : Lot l := coar_lot (divsL_big _) ((divsL_lt _).imp Int.le_of_lt) h
theorem fit_iff {qs : List Int} {n : Int} : fitL qs n = true ↔ ∀ q ∈ qs, n % q < 2 := by
  unfold fitL
  rw [List.all_eq_true]
  exact ⟨fun h q hq => of_decide_eq_true (h q hq), fun h q hq => decide_eq_true (h q hq)⟩
theorem fit_coar {qs l : List Int} {n : Int} (h2 : ∀ q ∈ qs, 2 < q) (h : ∀ p ∈ l, 2 < p ∧ ∃ q ∈ qs, p ∣ q) (hf : fitL qs n = true) : fitL l n = true := by
  rw [fit_iff] at hf ⊢
  intro p hp
  obtain ⟨p2, q, hq, hd⟩ := h p hp
  refine mod_small p2 ?_
  exact (mod_dvd (h2 q hq) (hf q hq)).imp (Int.dvd_trans hd) (Int.dvd_trans hd)
theorem step_has {l : List Int} {c q d : Int} (hq : q ∈ l) (hq0 : 0 < q) (hd : d ∣ q) (h3 : 2 < d) (hc : d ∣ c ∨ d ∣ c - 1) : ∃ x ∈ stepP l c, d ∣ x := by
  have key : ∀ y : Int, d ∣ y → ∃ x, x = gI q (ab y) ∧ d ∣ x ∧ keepP x = true := fun y hy => by
    refine ⟨_, rfl, ?_, ?_⟩
    · rw [gI_ab]; exact Int.dvd_coe_gcd hd hy
    · rw [gI_ab]
      have h1 := Int.dvd_coe_gcd hd hy
      have h0 : Int.gcd q y ≠ 0 := fun e => by
        have := (Int.gcd_eq_zero_iff.mp e).1
        omega
      have := Int.le_of_dvd (by omega) h1
      unfold keepP
      simp only [Bool.or_eq_true, decide_eq_true_eq]
      right; omega
  unfold stepP
  rcases hc with hc | hc
  · obtain ⟨x, e, h1, h2⟩ := key c hc
    exact ⟨x, mem_srt.mpr (List.mem_filter.mpr ⟨List.mem_flatMap.mpr ⟨q, hq, by rw [e]; exact List.mem_cons_self⟩, h2⟩), h1⟩
  · obtain ⟨x, e, h1, h2⟩ := key (c - 1) hc
    exact ⟨x, mem_srt.mpr (List.mem_filter.mpr ⟨List.mem_flatMap.mpr ⟨q, hq, by rw [e]; exact List.mem_cons_of_mem _ List.mem_cons_self⟩, h2⟩), h1⟩
section
variable {ys : List Int} (hl : ys.length ≤ 11) (hz : (0 : Int) ∉ partsOf ys)
theorem parts_is (hl : ys.length ≤ 12) (hz : (0 : Int) ∉ partsOf ys) : Lot (partsOf ys) := by
  obtain ⟨g1, g2, g3, _⟩ := parts_lot hz hl
  exact ⟨g1, g2, g3⟩
theorem fol_fit (hz : (0 : Int) ∉ partsOf ys) (n : Int) : folB ys n = fitL (partsOf ys) n := by unfold folB fitL; rw [if_neg hz]
theorem more_zero (hz : (0 : Int) ∉ partsOf ys) (n : Int) : (0 : Int) ∉ partsOf (ys ++ [n]) := fun h => by
  rw [parts_snoc] at h
  exact hz (step_zero h).1
theorem more_dvd (n : Int) : ∀ p ∈ partsOf (ys ++ [n]), ∃ q ∈ partsOf ys, p ∣ q := fun p hp => by
  rw [parts_snoc] at hp
  obtain ⟨⟨a, ha, e⟩, _⟩ := step_mem hp
  refine ⟨a, ha, ?_⟩
  rcases e with rfl | rfl <;> exact Int.gcd_dvd_left ..
theorem pos_iff {ns : List Int} : posB ys ns = true ↔ ∀ m ∈ ns, folB ys m = false := by
  unfold posB
  rw [Bool.not_eq_true', List.any_eq_false]
  exact ⟨fun h m hm => by simpa using h m hm, fun h m hm => by simp [h m hm]⟩
theorem mem_poss {ns l : List Int} : l ∈ possL ys ns ↔ l ∈ coarL (divsL (partsOf ys)) ∧ ∀ m ∈ ns, fitL l m = false := by
  unfold possL
  rw [List.mem_filter, mem_srtI, Bool.not_eq_true', List.any_eq_false]
  exact ⟨fun h => ⟨h.1, fun m hm => by simpa using h.2 m hm⟩, fun h => ⟨h.1, fun m hm => by simp [h.2 m hm]⟩⟩
theorem own_poss (hl : ys.length ≤ 12) (hz : (0 : Int) ∉ partsOf ys) {ns : List Int} (h : posB ys ns = true) : partsOf ys ∈ possL ys ns := by
  refine mem_poss.mpr ⟨coar_of (parts_is hl hz) (parts_is hl hz) fun p hp => ⟨p, hp, Int.dvd_refl p⟩, fun m hm => ?_⟩
  rw [← fol_fit hz]
  exact pos_iff.mp h m hm
theorem pos_due2 (hl : ys.length ≤ 12) (hz : (0 : Int) ∉ partsOf ys) (ns : List Int) : posB ys ns = !decide (possL ys ns = []) := by
  rw [Bool.eq_iff_iff, Bool.not_eq_true', decide_eq_false_iff_not]
  constructor
  · intro h e
    have := own_poss hl hz h
    rw [e] at this
    cases this
  · intro h
    obtain ⟨l, hlm⟩ := List.exists_mem_of_ne_nil _ h
    obtain ⟨h1, h2⟩ := mem_poss.mp hlm
    refine pos_iff.mpr fun m hm => ?_
    rw [fol_fit hz]
    cases hf : fitL (partsOf ys) m with
    | false => rfl
    | true =>
      have := fit_coar (parts_is hl hz).big (coar_dvd (parts_is hl hz) h1) hf
      rw [h2 m hm] at this
      cases this
theorem ys_fit (hz : (0 : Int) ∉ partsOf ys) : ∀ y ∈ ys, fitL (partsOf ys) y = true := fun y hy => fit_iff.mpr fun q hq =>
  mod_small (parts_big hz q hq) ((div_all ys [0] [] (fun _ _ _ z => by cases z) q hq).2 y hy)
theorem lot_due (hl : ys.length ≤ 12) (hz : (0 : Int) ∉ partsOf ys) {ns l : List Int} (h : l ∈ coarL (divsL (partsOf ys))) : posLotB ys ns (.tuple (l.map .int)) = decide (l ∈ possL ys ns) := by
  unfold posLotB
  rw [isLot_ints, lotB_iff.mpr (coar_is h), qsOf_t, Bool.true_and]
  have e : (ys.all fun y => fitL l y) = true := List.all_eq_true.mpr fun y hy => fit_coar (parts_is hl hz).big (coar_dvd (parts_is hl hz) h) (ys_fit hz y hy)
  rw [e, Bool.true_and, Bool.eq_iff_iff, decide_eq_true_eq, Bool.not_eq_true', List.any_eq_false, mem_poss]
  exact ⟨fun g => ⟨h, fun m hm => by simpa using g m hm⟩, fun g m hm => by simp [g.2 m hm]⟩
def fitH (ys ns : List Int) (n : Int) : List (List Int) := (possL ys ns).filter fun l => fitL l n
theorem sure_due (hl : ys.length ≤ 11) (hz : (0 : Int) ∉ partsOf ys) {ns : List Int} (hp : posB ys ns = true) (n : Int) :
    sureD ys ns n = if fitH ys ns n = possL ys ns then .bool true else if fitH ys ns n = [] then .bool false else .none := by
  unfold sureD
  have L := parts_is (by omega) hz
  by_cases hf : folB ys n = true
  · rw [if_pos hf, if_pos]
    refine List.filter_eq_self.mpr fun l hlm => ?_
    exact fit_coar L.big (coar_dvd L (mem_poss.mp hlm).1) (by rw [← fol_fit hz]; exact hf)
  · have hA : ¬ fitH ys ns n = possL ys ns := fun e => by
      have hm : partsOf ys ∈ fitH ys ns n := by rw [e]; exact own_poss (by omega) hz hp
      have := (List.mem_filter.mp hm).2
      exact hf (by rw [fol_fit hz]; simpa using this)
    rw [if_neg hf, if_neg hA]
    · have hz2 := more_zero hz n
      have L2 : Lot (partsOf (ys ++ [n])) := parts_is (by simp; omega) hz2
      by_cases hq : posB (ys ++ [n]) ns = true
      · rw [if_pos hq, if_neg]
        intro e
        have hm : partsOf (ys ++ [n]) ∈ fitH ys ns n := List.mem_filter.mpr ⟨mem_poss.mpr ⟨coar_of L L2 (more_dvd n), fun m hm => by rw [← fol_fit hz2]; exact pos_iff.mp hq m hm⟩, ys_fit hz2 n (by simp)⟩
        rw [e] at hm
        cases hm
      · rw [if_neg hq, if_pos]
        refine List.filter_eq_nil_iff.mpr fun l hlm hfl => hq ?_
        obtain ⟨h1, h2⟩ := mem_poss.mp hlm
        refine pos_iff.mpr fun m hm => ?_
        cases hfm : folB (ys ++ [n]) m with
        | false => rfl
        | true =>
          rw [fol_fit hz2] at hfm
          have hbad : fitL l m = true := by
            refine fit_coar L2.big (fun p hp => ?_) hfm
            obtain ⟨p2, q, hq, hd⟩ := coar_dvd L h1 p hp
            refine ⟨p2, ?_⟩
            rw [parts_snoc]
            exact step_has hq (by have := L.big q hq; omega) hd p2 (mod_dvd p2 (fit_iff.mp hfl p hp))
          rw [h2 m hm] at hbad
          cases hbad
end
/-! ### the counts in another order -/
theorem raw_perm2 : ∀ {ns ms : List Int}, ns.Perm ms → ∀ {l l' : List Int}, l.Perm l' → (ns.foldl rawS l).Perm (ms.foldl rawS l') := by
  have one : ∀ {l l' : List Int} (c : Int), l.Perm l' → (rawS l c).Perm (rawS l' c) := fun c h => h.flatMap_right _
  have both : ∀ {ns : List Int} {l l' : List Int}, l.Perm l' → (ns.foldl rawS l).Perm (ns.foldl rawS l') := fun {ns} => by
    induction ns with
    | nil => intro l l' h; exact h
    | cons c ns ih => intro l l' h; exact ih (one c h)
  intro ns ms p
  induction p with
  | nil => intro l l' h; exact h
  | cons c _ ih => intro l l' h; exact ih (one c h)
  | @swap a b ns =>
    intro l l' h
    refine both (ns := ns) ?_
    have sw : ∀ x : Int, (rawS (rawS [x] b) a).Perm (rawS (rawS [x] a) b) := fun x => by
      have g : ∀ u v : Int, gI (ab u) (gI (ab v) x) = gI (ab v) (gI (ab u) x) := fun u v => by
        unfold gI
        have := Int.gcd_assoc (ab u) (ab v) x
        have := Int.gcd_assoc (ab v) (ab u) x
        have := Int.gcd_comm (ab u) (ab v)
        simp_all
      simp only [rawS, List.flatMap_cons, List.flatMap_nil, List.append_nil, List.cons_append, List.nil_append]
      rw [g a b, g (a - 1) b, g a (b - 1), g (a - 1) (b - 1)]
      refine List.Perm.cons _ ?_
      exact (List.Perm.swap _ _ _)
    refine List.Perm.trans ?_ (one a (one b h) |>.trans ?_)
    · exact List.Perm.refl _
    · clear h
      induction l' with
      | nil => exact List.Perm.refl _
      | cons x l ih =>
        have e : ∀ u v : Int, rawS (rawS (x :: l) u) v = rawS (rawS [x] u) v ++ rawS (rawS l u) v := fun u v => by simp [rawS, List.flatMap_cons, List.flatMap_append]
        rw [e, e]
        exact (sw x).append ih
  | trans _ _ ih1 ih2 => intro l l' h; exact (ih1 h).trans (ih2 (List.Perm.refl _))
theorem parts_perm {ns ms : List Int} (p : ns.Perm ms) : partsOf ns = partsOf ms := by
  rw [← parts_raw, ← parts_raw]
  exact srt_congr ((raw_perm2 p (List.Perm.refl _)).filter _)
theorem gcd_comm_next (b : Int) : Int.gcd (b + 1) b = 1 := by
  have x := Int.gcd_dvd_left (a := b + 1) (b := b)
  have y := Int.gcd_dvd_right (a := b + 1) (b := b)
  have h1 := Int.dvd_sub x y
  rw [show b + 1 - b = 1 by omega] at h1
  have := Int.le_of_dvd (by decide) h1
  have h0 : Int.gcd (b + 1) b ≠ 0 := fun e => by rw [e] at h1; simp at h1
  omega
theorem parts_pair {b : Int} (h : 2 < b) : partsOf [b + 1, b] = [b] := by
  have e1 : rawOf [b + 1, b] = [gI (ab b) (gI (ab (b + 1)) 0), gI (ab (b - 1)) (gI (ab (b + 1)) 0), gI (ab b) (gI (ab (b + 1 - 1)) 0), gI (ab (b - 1)) (gI (ab (b + 1 - 1)) 0)] := rfl
  have a1 : ab (b + 1) = b + 1 := by unfold ab; split <;> omega
  have a2 : ab b = b := by unfold ab; split <;> omega
  have a3 : ab (b - 1) = b - 1 := by unfold ab; split <;> omega
  have g0 : ∀ x : Int, 0 < x → gI x 0 = x := fun x hx => by unfold gI; rw [Int.gcd_zero_right]; omega
  have n1 : gI b (b + 1) = 1 := by unfold gI; rw [Int.gcd_comm, gcd_comm_next]; rfl
  have n2 : gI (b - 1) b = 1 := by
    have := gcd_comm_next (b - 1)
    unfold gI
    rw [Int.gcd_comm, show b = b - 1 + 1 by omega, show b - 1 + 1 - 1 = b - 1 by omega, this]; rfl
  have n3 : gI b b = b := by unfold gI; rw [Int.gcd_self]; omega
  have n4 : keepP (gI (b - 1) (b + 1)) = false := by
    have hd : gI (b - 1) (b + 1) ∣ 2 := by
      have x := Int.gcd_dvd_left (a := b - 1) (b := b + 1)
      have y := Int.gcd_dvd_right (a := b - 1) (b := b + 1)
      have := Int.dvd_sub y x
      rwa [show b + 1 - (b - 1) = 2 by omega] at this
    have hle := Int.le_of_dvd (by decide) hd
    have h0 : gI (b - 1) (b + 1) ≠ 0 := fun e => by rw [e] at hd; simp at hd
    unfold keepP
    simp only [Bool.or_eq_false_iff, decide_eq_false_iff_not]
    exact ⟨by simpa using h0, by omega⟩
  rw [← parts_raw, e1, show b + 1 - 1 = b by omega, a1, a2, a3, g0 _ (by omega), g0 _ (by omega), n1, n2, n3]
  have k1 : keepP 1 = false := by decide
  have k2 : keepP b = true := by unfold keepP; simp [h]
  simp only [List.filter_cons, List.filter_nil, k1, k2, n4, if_true, Bool.false_eq_true, if_false]
  simp [srt]
theorem prod_abs {k : Nat} : ∀ {l : List Int}, (∀ q ∈ l, q.natAbs < 2 ^ k) → (prodI l).natAbs ≤ 2 ^ (k * l.length)
  | [], _ => by simp [prodI]
  | q :: l, h => by
    have ih := prod_abs (l := l) fun x hx => h x (List.mem_cons_of_mem _ hx)
    have h1 := h q List.mem_cons_self
    rw [show prodI (q :: l) = q * prodI l from rfl, Int.natAbs_mul, List.length_cons, Nat.mul_succ, Nat.add_comm, Nat.pow_add]
    exact Nat.mul_le_mul (Nat.le_of_lt h1) ih
theorem prod_zero : ∀ {l : List Int}, (0 : Int) ∈ l → prodI l = 0
  | q :: l, h => by
    show q * prodI l = 0
    rcases List.mem_cons.mp h with rfl | h
    · rw [Int.zero_mul]
    · rw [prod_zero h, Int.mul_zero]
theorem perm_ints {es : List PyData} {ns : List Int} (p : es.Perm (ns.map .int)) : ∃ ms : List Int, es = ms.map .int ∧ ms.Perm ns := by
  refine ⟨es.map toI, ints_of (List.all_eq_true.mpr fun d hd => ?_), ?_⟩
  · obtain ⟨i, _, rfl⟩ := List.mem_map.mp (p.mem_iff.mp hd)
    rfl
  · have := p.map toI
    rwa [toI_ints] at this
structure SmallLot (qs : List Int) : Prop where
  big : ∀ q ∈ qs, 2 < q
  cop : qs.Pairwise copr
  prod : prodI qs ≤ 30
  len : qs.length ≤ 2
theorem small_lots : ∀ qs ∈ [[], [3], [4], [6], [3, 4], [12], [3, 10], [5, 6], [30], [(4 : Int), 5]], SmallLot qs := by
  intro qs h
  simp only [List.mem_cons, List.not_mem_nil, or_false] at h
  rcases h with rfl | rfl | rfl | rfl | rfl | rfl | rfl | rfl | rfl | rfl <;> exact ⟨by decide, by simp [copr, Int.gcd], by decide, by decide⟩
theorem eqvT (a b : List Int) : PyData.eqv (tupI a) (tupI b) = decide (a = b) := eqv_intT a b
theorem eqvAll_tups : ∀ a b : List (List Int), PyData.eqvAll (a.map tupI) (b.map tupI) = decide (a = b)
  | [], [] => by simp [PyData.eqvAll]
  | [], _ :: _ => by simp [PyData.eqvAll]
  | _ :: _, [] => by simp [PyData.eqvAll]
  | x :: a, y :: b => by
    simp only [List.map_cons, PyData.eqvAll, eqvT, eqvAll_tups a b, List.cons.injEq]
    rw [Bool.eq_iff_iff]
    simp
theorem eqvTL (a b : List (List Int)) : PyData.eqv (.list (a.map tupI)) (.list (b.map tupI)) = decide (a = b) := by
  simp only [PyData.eqv]; exact eqvAll_tups a b
theorem eqvTN (a : List (List Int)) : PyData.eqv (.list (a.map tupI)) (.list []) = decide (a = []) := eqvTL a []
theorem shapedTL (a : List (List Int)) : SeqAt.shaped (.list (a.map tupI)) = true := (Sh.list (n := 1) (ShL.of fun d h => by
  obtain ⟨x, _, rfl⟩ := List.mem_map.mp h
  exact Sh.tuple (n := 0) (Sh.ints x))).ok
theorem in_tups (a : List (List Int)) (x : List Int) : ((a.map tupI).any fun z => PyData.eqv z (tupI x)) = decide (x ∈ a) := by
  rw [Bool.eq_iff_iff, List.any_eq_true, decide_eq_true_eq]
  constructor
  · rintro ⟨z, hz, e⟩
    obtain ⟨y, hy, rfl⟩ := List.mem_map.mp hz
    rw [eqvT] at e
    rwa [← of_decide_eq_true e]
  · intro h
    exact ⟨_, List.mem_map.mpr ⟨x, h, rfl⟩, by rw [eqvT]; exact decide_eq_true rfl⟩
theorem lot_tx {l : List Int} (hl : l.length ≤ 22) (hb : ∀ q ∈ l, 0 < q ∧ q ≤ 4096) : Tx (22 * (14 + 2) + 3) 1 (tupI l) :=
  Tx.tuple (L := 14) (n := 0) (fun d hd => by
    obtain ⟨q, hq, rfl⟩ := List.mem_map.mp hd
    have := hb q hq
    exact Tx.intS 13 0 (log_lt (k := 13) (by omega) (by decide))) (by simpa using hl)
theorem lots_tx {a : List (List Int)} (hl : a.length ≤ 1024) (h : ∀ l ∈ a, l.length ≤ 22 ∧ ∀ q ∈ l, 0 < q ∧ q ≤ 4096) : Tx (1024 * (355 + 2) + 3) 2 (.tuple (a.map tupI)) :=
  Tx.tuple (L := 355) (n := 1) (fun d hd => by
    obtain ⟨l, hlm, rfl⟩ := List.mem_map.mp hd
    exact lot_tx (h l hlm).1 (h l hlm).2) (by simpa using hl)
theorem coar_bd {qs l : List Int} (L : Lot qs) (c : CoarB qs) (h : l ∈ coarL (divsL qs)) : l.length ≤ 22 ∧ ∀ q ∈ l, 0 < q ∧ q ≤ 4096 :=
  ⟨Nat.le_trans (coar_len_el h) c.dv, fun p hp => by
    obtain ⟨h2, q, hq, hd⟩ := coar_dvd L h p hp
    have := Int.le_of_dvd (by have := L.big q hq; omega) hd
    have := c.le q hq
    omega⟩
theorem coar_prod {qs l : List Int} (L : Lot qs) (c : CoarB qs) (h : l ∈ coarL (divsL qs)) : prodI l < 2 ^ 300 ∧ 0 < prodI l := by
  obtain ⟨h1, h2⟩ := coar_bd L c h
  have h3 := prod_abs (k := 13) (l := l) fun q hq => by have := h2 q hq; omega
  have h4 : (prodI l).natAbs < 2 ^ 300 := Nat.lt_of_le_of_lt h3 (Nat.pow_lt_pow_right (by decide) (by omega))
  exact ⟨int_lt h4, prodI_pos fun q hq => (h2 q hq).1⟩
theorem none_due (l : List Int) (ns : List Int) : decide (ns.filter (fun n => fitL l n) = []) = !ns.any fun n => fitL l n := by
  rw [Bool.eq_iff_iff, decide_eq_true_eq, List.filter_eq_nil_iff, Bool.not_eq_true', List.any_eq_false]
theorem zeros_parts {ns : List Int} (h : ∀ n ∈ ns, n = 0 ∨ n = 1) : (0 : Int) ∈ partsOf ns := by
  induction ns using rev_ind with
  | h0 => simp [partsOf]
  | hs l c ih =>
    have hl := ih fun n hn => h n (List.mem_append_left _ hn)
    have hc := h c (by simp)
    rw [parts_snoc]
    unfold stepP
    refine mem_srt.mpr (List.mem_filter.mpr ⟨List.mem_flatMap.mpr ⟨0, hl, ?_⟩, by decide⟩)
    rcases hc with rfl | rfl
    · simp [gI, ab]
    · simp [gI, ab]
theorem coar_ne (ds : List Int) : (srtI (coarL ds)).map tupI ≠ [] := fun e => by
  have h := coar_head ds
  have := congrArg List.length e
  rw [List.length_map, srtI_length] at this
  have h2 := List.eq_nil_of_length_eq_zero this
  rw [h2] at h
  cases h
end Dl
/-! The best question, plainly. -/
namespace Dl
open PySem PySem.Spec PyProof.Rows L2
theorem cop_mem : ∀ {l : List Int}, l.Pairwise copr → ∀ {a b : Int}, a ∈ l → b ∈ l → a ≠ b → Int.gcd a b = 1
  | x :: l, h, a, b, ha, hb, hne => by
    obtain ⟨h1, h2⟩ := List.pairwise_cons.mp h
    rcases List.mem_cons.mp ha with ea | ha2 <;> rcases List.mem_cons.mp hb with eb | hb2
    · exact absurd (ea.trans eb.symm) hne
    · rw [ea]; exact h1 b hb2
    · rw [eb, Int.gcd_comm]; exact h1 a ha2
    · exact cop_mem h2 ha2 hb2 hne
theorem dvd_one {a : Int} (h0 : 0 < a) (h : a ∣ 1) : a = 1 := by have := Int.le_of_dvd (by decide) h; omega
theorem dvd_same {l : List Int} (L : Lot l) {a b : Int} (ha : a ∈ l) (hb : b ∈ l) (h : a ∣ b) : a = b := by
  by_cases e : a = b
  · exact e
  · have := cop_mem L.cop ha hb e
    have h2 := Int.dvd_coe_gcd (Int.dvd_refl a) h
    rw [this] at h2
    have := dvd_one (L.pos a ha) h2
    have := L.big a ha
    omega
theorem split_lot {qs l : List Int} (L : Lot qs) (h : l ∈ coarL (divsL qs)) (hf : ∀ n : Int, 0 ≤ n → n < prodI qs → fitL l n = true → fitL qs n = true) : l = qs := by
  have M := coar_is h
  have hd := coar_dvd L h
  have hW := prodI_pos L.pos
  have hf' : ∀ n : Int, fitL l n = true → fitL qs n = true := fun n hn => by
    have e : (n % prodI qs) % prodI qs = n % prodI qs := Int.emod_emod_of_dvd n (Int.dvd_refl _)
    have e1 : fitL l (n % prodI qs) = fitL l n := fitL_mod (fun p hp => by
      obtain ⟨_, q, hq, hpq⟩ := hd p hp
      exact Int.dvd_trans hpq (dvd_prod hq)) e
    have e2 : fitL qs (n % prodI qs) = fitL qs n := fitL_mod (fun q hq => dvd_prod hq) e
    rw [← e2]
    exact hf _ (Int.emod_nonneg _ (by omega)) (Int.emod_lt_of_pos _ hW) (by rw [e1]; exact hn)
  have hq1 : ∀ q ∈ qs, ∃ p ∈ l, q ∣ p := by
    intro q hq
    have q2 := L.big q hq
    have hqP : q ∣ prodI l := by
      have f0 : fitL l (prodI l) = true := fit_iff.mpr fun p hp => by rw [Int.emod_eq_zero_of_dvd (dvd_prod hp)]; decide
      have f1 : fitL l (prodI l + 1) = true := fit_iff.mpr fun p hp => by
        have := M.big p hp
        refine mod_small this (.inr ?_)
        rw [show prodI l + 1 - 1 = prodI l by omega]
        exact dvd_prod hp
      have g0 := mod_dvd q2 (fit_iff.mp (hf' _ f0) q hq)
      have g1 := mod_dvd q2 (fit_iff.mp (hf' _ f1) q hq)
      rcases g0 with g0 | g0
      · exact g0
      · exfalso
        have key : ∀ d : Int, q ∣ d → 0 < d → d < 3 → False := fun d hd h0 h3 => by
          have := Int.le_of_dvd h0 hd
          omega
        rcases g1 with g1 | g1
        · exact key 2 (by have := Int.dvd_sub g1 g0; rwa [show prodI l + 1 - (prodI l - 1) = 2 by omega] at this) (by decide) (by decide)
        · exact key 1 (by have := Int.dvd_sub g1 g0; rwa [show prodI l + 1 - 1 - (prodI l - 1) = 1 by omega] at this) (by decide) (by decide)
    obtain ⟨p, hp, hg⟩ : ∃ p ∈ l, Int.gcd p q ≠ 1 := by
      apply Classical.byContradiction
      intro hno
      have hall : ∀ p ∈ l, copr p q := fun p hp => Classical.byContradiction fun e => hno ⟨p, hp, e⟩
      have := cop_all hall
      have h2 := Int.dvd_coe_gcd hqP (Int.dvd_refl q)
      rw [this] at h2
      have := dvd_one (by omega) h2
      omega
    refine ⟨p, hp, ?_⟩
    obtain ⟨l1, l2, rfl⟩ := List.append_of_mem hp
    have p2 := M.big p hp
    have hprod : ∀ (a b : List Int), prodI (a ++ b) = prodI a * prodI b := fun a b => by
      induction a with
      | nil => simp [prodI]
      | cons x a ih => simp only [List.cons_append, prodI, ih, Int.mul_assoc]
    have hP : prodI (l1 ++ p :: l2) = p * prodI (l1 ++ l2) := by
      rw [hprod, hprod]
      simp only [prodI]
      rw [← Int.mul_assoc, Int.mul_comm (prodI l1) p, Int.mul_assoc]
    obtain ⟨c1, c2, c3⟩ := List.pairwise_append.mp M.cop
    have hrp : ∀ b ∈ l1 ++ l2, copr b p := fun b hb => by
      rcases List.mem_append.mp hb with hb | hb
      · exact c3 b hb p List.mem_cons_self
      · exact copr_symm ((List.pairwise_cons.mp c2).1 b hb)
    have hgr := cop_all hrp
    obtain ⟨k, _, hk⟩ := inv_exists p2 hgr
    have hn1 : p ∣ (k : Int) * prodI (l1 ++ l2) - 1 := by
      have := Int.dvd_self_sub_emod (x := (k : Int) * prodI (l1 ++ l2)) (m := p)
      rwa [hk] at this
    have hfit : fitL (l1 ++ p :: l2) ((k : Int) * prodI (l1 ++ l2)) = true := fit_iff.mpr fun b hb => by
      by_cases e : b = p
      · subst e; rw [hk]; decide
      · have hb' : b ∈ l1 ++ l2 := by
          rcases List.mem_append.mp hb with hb | hb
          · exact List.mem_append_left _ hb
          · exact List.mem_append_right _ ((List.mem_cons.mp hb).resolve_left e)
        rw [Int.emod_eq_zero_of_dvd (Int.dvd_mul_of_dvd_right (dvd_prod hb'))]
        decide
    have hq' := mod_dvd q2 (fit_iff.mp (hf' _ hfit) q hq)
    have g1 := Int.gcd_dvd_left (a := p) (b := q)
    have g2 := Int.gcd_dvd_right (a := p) (b := q)
    have hqn : q ∣ (k : Int) * prodI (l1 ++ l2) - 1 := by
      rcases hq' with e | e
      · exfalso
        have := Int.dvd_sub (Int.dvd_trans g2 e) (Int.dvd_trans g1 hn1)
        rw [show (k : Int) * prodI (l1 ++ l2) - ((k : Int) * prodI (l1 ++ l2) - 1) = 1 by omega] at this
        have h0 : Int.gcd p q ≠ 0 := fun e => by have := (Int.gcd_eq_zero_iff.mp e).1; omega
        have := dvd_one (by omega) this
        exact hg (by omega)
      · exact e
    have hrq : ∀ b ∈ l1 ++ l2, copr b q := fun b hb => by
      have d1 := Int.gcd_dvd_left (a := b) (b := q)
      have d2 := Int.gcd_dvd_right (a := b) (b := q)
      have := Int.dvd_sub (Int.dvd_trans d1 (Int.dvd_mul_of_dvd_right (a := b) (b := (k : Int)) (dvd_prod hb))) (Int.dvd_trans d2 hqn)
      rw [show (k : Int) * prodI (l1 ++ l2) - ((k : Int) * prodI (l1 ++ l2) - 1) = 1 by omega] at this
      have h0 : Int.gcd b q ≠ 0 := fun e => by have := (Int.gcd_eq_zero_iff.mp e).2; omega
      have := dvd_one (by omega) this
      show Int.gcd b q = 1
      omega
    have hc := cop_all hrq
    rw [hP] at hqP
    have hnat : q.natAbs ∣ p.natAbs * (prodI (l1 ++ l2)).natAbs := by rw [← Int.natAbs_mul]; exact Int.natAbs_dvd_natAbs.mpr hqP
    have hco : Nat.Coprime q.natAbs (prodI (l1 ++ l2)).natAbs := by rw [Nat.coprime_comm]; exact hc
    exact Int.natAbs_dvd_natAbs.mp (Nat.Coprime.dvd_of_dvd_mul_right hco hnat)
  refine sorted_unique (perm_of_mem (M.lt.imp fun h => Int.ne_of_lt h) (L.lt.imp fun h => Int.ne_of_lt h) fun x => ⟨fun hx => ?_, fun hx => ?_⟩) M.asc L.asc
  · obtain ⟨_, q, hq, hxq⟩ := hd x hx
    obtain ⟨p, hp, hqp⟩ := hq1 q hq
    have e := dvd_same M hx hp (Int.dvd_trans hxq hqp)
    subst e
    have := Int.dvd_antisymm (by have := M.pos x hx; omega) (by have := L.pos q hq; omega) hxq hqp
    rw [this]; exact hq
  · obtain ⟨p, hp, hxp⟩ := hq1 x hx
    obtain ⟨_, q, hq, hpq⟩ := hd p hp
    have e := dvd_same L hx hq (Int.dvd_trans hxp hpq)
    subst e
    have := Int.dvd_antisymm (by have := M.pos p hp; omega) (by have := L.pos x hx; omega) hpq hxp
    rw [← this]; exact hp
/-! ### the best question -/
def manyN (ls : List (List Int)) (n : Int) : Nat := (ls.filter fun l => fitL l n).length
def partN (ls : List (List Int)) (n : Int) : Nat := max (manyN ls n) (ls.length - manyN ls n)
theorem many_le (ls : List (List Int)) (n : Int) : manyN ls n ≤ ls.length := List.length_filter_le _ _
def bst (ls : List (List Int)) : Nat → Option Nat × Nat
  | 0 => (none, ls.length)
  | i + 1 => if partN ls (i : Nat) < (bst ls i).2 then (some i, partN ls (i : Nat)) else bst ls i
def optD : Option Nat → PyData
  | none => .none
  | some i => .int (i : Nat)
theorem bst_none {ls : List (List Int)} : ∀ {i : Nat}, (bst ls i).1 = none → (bst ls i).2 = ls.length ∧ ∀ j, j < i → ¬ partN ls (j : Nat) < ls.length
  | 0, _ => ⟨rfl, fun j hj => by omega⟩
  | i + 1, h => by
    unfold bst at h ⊢
    by_cases hp : partN ls (i : Nat) < (bst ls i).2
    · rw [if_pos hp] at h; cases h
    · rw [if_neg hp] at h ⊢
      obtain ⟨h1, h2⟩ := bst_none h
      refine ⟨h1, fun j hj => ?_⟩
      by_cases e : j = i
      · subst e; rwa [h1] at hp
      · exact h2 j (by omega)
theorem bst_one {ls : List (List Int)} (h : ls.length ≤ 1) : ∀ i, bst ls i = (none, ls.length)
  | 0 => rfl
  | i + 1 => by
    unfold bst
    rw [bst_one h i, if_neg]
    have := many_le ls (i : Nat)
    unfold partN
    show ¬ max _ _ < ls.length
    omega
theorem bst_le (ls : List (List Int)) : ∀ i, (bst ls i).2 ≤ ls.length
  | 0 => Nat.le_refl _
  | i + 1 => by
    unfold bst
    by_cases hp : partN ls (i : Nat) < (bst ls i).2
    · rw [if_pos hp]; have := bst_le ls i; show partN ls (i : Nat) ≤ _; omega
    · rw [if_neg hp]; exact bst_le ls i
theorem coar_nodup {ds : List Int} (h : ds.Pairwise (· < ·)) : (coarL ds).Nodup := by
  induction ds using rev_ind with
  | h0 => simp [coarL]
  | hs l x ih =>
    obtain ⟨h1, _, h3⟩ := List.pairwise_append.mp h
    rw [coar_snoc]
    unfold coarS
    refine List.nodup_append.mpr ⟨ih h1, ?_, fun a ha b hb e => ?_⟩
    · refine List.Pairwise.map _ (fun a b hab e => hab (List.append_cancel_right e)) (List.Nodup.sublist List.filter_sublist (ih h1))
    · subst e
      obtain ⟨m, _, rfl⟩ := List.mem_map.mp hb
      have := (mem_coar.mp ha).1.subset (List.mem_append_right m List.mem_cons_self)
      have := h3 x this x (by simp)
      omega
theorem bst_two {ys ns : List Int} (hl : ys.length ≤ 12) (hz : (0 : Int) ∉ partsOf ys) (h2 : 2 ≤ (possL ys ns).length) : (bst (possL ys ns) (prodI (partsOf ys)).toNat).1 ≠ none := fun e => by
  have L := parts_is hl hz
  have hp : posB ys ns = true := by
    rw [pos_due2 hl hz, Bool.not_eq_true', decide_eq_false_iff_not]
    intro e; rw [e] at h2; simp at h2
  have ho := own_poss hl hz hp
  obtain ⟨_, hall⟩ := bst_none e
  obtain ⟨l, hlm, hne⟩ : ∃ l ∈ possL ys ns, l ≠ partsOf ys := by
    apply Classical.byContradiction
    intro hno
    have hnd : (possL ys ns).Nodup := by
      unfold possL
      refine List.Nodup.sublist List.filter_sublist ((srtI_perm _).nodup_iff.mpr ?_)
      exact coar_nodup (divsL_lt _)
    have : ∀ x ∈ possL ys ns, x = partsOf ys := fun x hx => Classical.byContradiction fun g => hno ⟨x, hx, g⟩
    cases hc : possL ys ns with
    | nil => rw [hc] at h2; simp at h2
    | cons a m =>
      cases m with
      | nil => rw [hc] at h2; simp at h2
      | cons b m =>
        rw [hc] at hnd this
        have e1 := this a (by simp)
        have e2 := this b (by simp)
        have := (List.nodup_cons.mp hnd).1
        exact this (by rw [e1, e2]; simp)
  refine hne (split_lot L (mem_poss.mp hlm).1 fun n n0 n1 hfl => ?_)
  have hj := hall n.toNat (by omega)
  rw [show ((n.toNat : Nat) : Int) = n by omega] at hj
  cases hq : fitL (partsOf ys) n with
  | true => rfl
  | false =>
    exfalso
    apply hj
    have m1 : 0 < manyN (possL ys ns) n := List.length_pos_of_mem (List.mem_filter.mpr ⟨hlm, hfl⟩)
    have m2 : manyN (possL ys ns) n < (possL ys ns).length := by
      refine Nat.lt_of_le_of_ne (many_le _ _) fun e => ?_
      have := (List.length_filter_eq_length_iff.mp e) _ ho
      rw [hq] at this
      cases this
    unfold partN
    omega
theorem mul_dvd_cop {a b c : Int} (h1 : a ∣ c) (h2 : b ∣ c) (h : Int.gcd a b = 1) : a * b ∣ c := by
  have n1 := Int.natAbs_dvd_natAbs.mpr h1
  have n2 := Int.natAbs_dvd_natAbs.mpr h2
  have := Nat.Coprime.mul_dvd_of_dvd_of_dvd (show Nat.Coprime a.natAbs b.natAbs from h) n1 n2
  rw [← Int.natAbs_mul] at this
  exact Int.natAbs_dvd_natAbs.mp this
theorem prod_dvd {w : Int} : ∀ {l : List Int}, l.Pairwise copr → (∀ p ∈ l, p ∣ w) → prodI l ∣ w
  | [], _, _ => by simp [prodI]
  | x :: l, hc, h => by
    obtain ⟨c1, c2⟩ := List.pairwise_cons.mp hc
    refine mul_dvd_cop (h x List.mem_cons_self) (prod_dvd c2 fun p hp => h p (List.mem_cons_of_mem _ hp)) ?_
    rw [Int.gcd_comm]
    exact cop_all fun b hb => copr_symm (c1 b hb)
section
variable {ys : List Int}
theorem more_prod (hl : ys.length ≤ 11) (hz : (0 : Int) ∉ partsOf ys) (n : Int) : prodI (partsOf (ys ++ [n])) ≤ prodI (partsOf ys) := by
  have L := parts_is (by omega) hz
  refine Int.le_of_dvd (prodI_pos L.pos) (prod_dvd (parts_cop _) fun p hp => ?_)
  obtain ⟨q, hq, hd⟩ := more_dvd n p hp
  exact Int.dvd_trans hd (dvd_prod hq)
theorem poss_sorted (ys ns : List Int) : SrtI (possL ys ns) := (srtI_sorted _).filter _
theorem poss_nodup (ys ns : List Int) : (possL ys ns).Nodup := List.Nodup.sublist List.filter_sublist ((srtI_perm _).nodup_iff.mpr (coar_nodup (divsL_lt _)))
theorem poss_more (hl : ys.length ≤ 11) (hz : (0 : Int) ∉ partsOf ys) (ns : List Int) (n : Int) : possL (ys ++ [n]) ns = fitH ys ns n := by
  have L := parts_is (by omega) hz
  have hz2 := more_zero hz n
  have L2 : Lot (partsOf (ys ++ [n])) := parts_is (by simp; omega) hz2
  refine sortedI_unique ((List.perm_ext_iff_of_nodup (poss_nodup _ _) (List.Nodup.sublist List.filter_sublist (poss_nodup ys ns))).mpr fun l => ?_) (poss_sorted _ _) ((poss_sorted ys ns).filter _)
  rw [List.mem_filter, mem_poss, mem_poss]
  constructor
  · rintro ⟨h1, h2⟩
    refine ⟨⟨coar_of L (coar_is h1) fun p hp => ?_, h2⟩, fit_coar L2.big (coar_dvd L2 h1) (ys_fit hz2 n (by simp))⟩
    obtain ⟨_, q, hq, hd⟩ := coar_dvd L2 h1 p hp
    obtain ⟨q2, hq2, hd2⟩ := more_dvd n q hq
    exact ⟨q2, hq2, Int.dvd_trans hd hd2⟩
  · rintro ⟨⟨h1, h2⟩, h3⟩
    refine ⟨coar_of L2 (coar_is h1) fun p hp => ?_, h2⟩
    obtain ⟨p2, q, hq, hd⟩ := coar_dvd L h1 p hp
    rw [parts_snoc]
    exact step_has hq (by have := L.big q hq; omega) hd p2 (mod_dvd p2 (fit_iff.mp h3 p hp))
theorem poss_less (ys ns : List Int) (n : Int) : possL ys (ns ++ [n]) = (possL ys ns).filter fun l => !fitL l n := by
  unfold possL
  rw [List.filter_filter]
  refine List.filter_congr fun l _ => ?_
  simp [List.any_append, Bool.and_comm]
theorem part_perm {α : Type} (p : α → Bool) : ∀ l : List α, ((l.filter p) ++ l.filter fun x => !p x).Perm l
  | [] => .refl _
  | a :: l => by
    have ih := part_perm p l
    rw [List.filter_cons, List.filter_cons]
    cases p a
    · simp only [Bool.false_eq_true, if_false, Bool.not_false, if_true]
      exact (List.perm_middle).trans (ih.cons a)
    · simp only [if_true, Bool.not_true, Bool.false_eq_true, if_false, List.cons_append]
      exact ih.cons a
theorem srtI_head {ds : List Int} : (srtI (coarL ds)).head? = some [] := by
  have hm : [] ∈ srtI (coarL ds) := mem_srtI.mpr (List.mem_of_mem_head? (by rw [coar_head]; rfl))
  have hs := srtI_sorted (coarL ds)
  cases hc : srtI (coarL ds) with
  | nil => rw [hc] at hm; cases hm
  | cons a m =>
    rw [hc] at hm hs
    rcases List.mem_cons.mp hm with e | e
    · rw [← e]; rfl
    · have := (List.pairwise_cons.mp hs).1 [] e
      cases a with
      | nil => rfl
      | cons b m => cases this
theorem both_head (ys ns : List Int) (n : Int) : (∀ x ∈ fitH ys ns n ++ (possL ys ns).filter (fun l => !fitL l n), x ≠ []) ∨ (fitH ys ns n ++ (possL ys ns).filter fun l => !fitL l n).head? = some [] := by
  by_cases hn : ns = []
  · subst hn
    refine .inr ?_
    have e : possL ys [] = srtI (coarL (divsL (partsOf ys))) := List.filter_eq_self.mpr fun _ _ => rfl
    have h := srtI_head (ds := divsL (partsOf ys))
    unfold fitH
    rw [e]
    cases hc : srtI (coarL (divsL (partsOf ys))) with
    | nil => rw [hc] at h; cases h
    | cons a m =>
      rw [hc] at h
      have ea : a = [] := by simpa using h
      subst ea
      rw [List.filter_cons, if_pos (fit_nil n)]
      rfl
  · refine .inl fun x hx e => ?_
    subst e
    obtain ⟨m, hm⟩ := List.exists_mem_of_ne_nil ns hn
    have hp : ([] : List Int) ∈ possL ys ns := by
      rcases List.mem_append.mp hx with h | h
      · exact (List.mem_filter.mp h).1
      · exact (List.mem_filter.mp h).1
    have := (mem_poss.mp hp).2 m hm
    rw [fit_nil] at this
    cases this
end
def best0 : Option Nat → Int
  | none => 0
  | some i => (i : Nat)
theorem best_opt {o : Option Nat} (h : o ≠ none) : PyData.int (best0 o) = optD o := by
  cases o with
  | none => exact absurd rfl h
  | some i => rfl
theorem bst_some {ls : List (List Int)} : ∀ {i k : Nat}, (bst ls i).1 = some k → k < i ∧ partN ls (k : Nat) < ls.length
  | 0, _, h => by cases h
  | i + 1, k, h => by
    unfold bst at h
    by_cases hp : partN ls (i : Nat) < (bst ls i).2
    · rw [if_pos hp] at h
      have e : i = k := by simpa using h
      subst e
      have := bst_le ls i
      exact ⟨by omega, by omega⟩
    · rw [if_neg hp] at h
      obtain ⟨h1, h2⟩ := bst_some h
      exact ⟨by omega, h2⟩
theorem eqvTT (a b : List (List Int)) : PyData.eqv (.tuple (a.map tupI)) (.tuple (b.map tupI)) = decide (a = b) := by
  simp only [PyData.eqv]; exact eqvAll_tups a b
theorem eqvTTN (a : List (List Int)) : PyData.eqv (.tuple (a.map tupI)) (.tuple []) = decide (a = []) := eqvTT a []
theorem shapedTT (a : List (List Int)) : SeqAt.shaped (.tuple (a.map tupI)) = true := (Sh.tuple (n := 1) (ShL.of fun d h => by
  obtain ⟨x, _, rfl⟩ := List.mem_map.mp h
  exact Sh.tuple (n := 0) (Sh.ints x))).ok
theorem eqv_bool (a b : Bool) : PyData.eqv (.bool a) (.bool b) = (a == b) := by cases a <;> cases b <;> simp [PyData.eqv]
theorem told_tx : Tx 64 1 (.str "told") := ⟨by simp [PyData.showable], by simp [PyData.hasDict], by simp [PyData.depth], by simp only [PyData.shown]; decide +kernel, by simp only [PyData.shown]; decide +kernel⟩
theorem opt_tx {o : Option Nat} (h : ∀ k, o = some k → k < 4096) : Tx 64 1 (optD o) := by
  cases o with
  | none => exact (Tx.none 1).up (by decide) (Nat.le_refl _)
  | some k =>
    have := h k rfl
    exact (Tx.intS (i := ((k : Nat) : Int)) 13 1 (log_lt (k := 13) (by omega) (by decide))).up (by decide) (Nat.le_refl _)
theorem told_pair {o : Option Nat} (h : ∀ k, o = some k → k < 4096) : Tx (2 * (64 + 2) + 3) 2 (.tuple [.str "told", optD o]) :=
  Tx.tuple (L := 64) (n := 1) (m := 2) (fun d hd => by
    simp only [List.mem_cons, List.not_mem_nil, or_false] at hd
    rcases hd with rfl | rfl
    · exact told_tx
    · exact opt_tx h) (by simp)
theorem none_len {ys ns : List Int} (hl : ys.length ≤ 12) (hz : (0 : Int) ∉ partsOf ys) (h0 : possL ys ns ≠ []) : isN (optD (bst (possL ys ns) (prodI (partsOf ys)).toNat).1) = ((((possL ys ns).length : Nat) : Int) == 1) := by
  have hp := List.length_pos_iff.mpr h0
  by_cases h1 : (possL ys ns).length = 1
  · rw [bst_one (by omega), h1]; rfl
  · have := bst_two (ns := ns) hl hz (by omega)
    cases hb : (bst (possL ys ns) (prodI (partsOf ys)).toNat).1 with
    | none => exact absurd hb this
    | some k =>
      have e : ((((possL ys ns).length : Nat) : Int) == 1) = false := beq_eq_false_iff_ne.mpr (by omega)
      rw [e]; rfl
end Dl
/-! Counts that tell a lot, and the common lot of two, plainly. -/
namespace Dl
open PySem PySem.Spec PyProof.Rows L2
/-- two lots, each of whose moduli divides one of the other -/
theorem lots_eq {a b : List Int} (A : Lot a) (B : Lot b) (h1 : ∀ x ∈ a, ∃ y ∈ b, x ∣ y) (h2 : ∀ y ∈ b, ∃ x ∈ a, y ∣ x) : a = b := by
  refine sorted_unique (perm_of_mem (A.lt.imp fun h => Int.ne_of_lt h) (B.lt.imp fun h => Int.ne_of_lt h) fun x => ⟨fun hx => ?_, fun hx => ?_⟩) A.asc B.asc
  · obtain ⟨y, hy, hxy⟩ := h1 x hx
    obtain ⟨z, hz, hyz⟩ := h2 y hy
    have e := dvd_same A hx hz (Int.dvd_trans hxy hyz)
    subst e
    have := Int.dvd_antisymm (by have := A.pos x hx; omega) (by have := B.pos y hy; omega) hxy hyz
    rw [this]; exact hy
  · obtain ⟨y, hy, hxy⟩ := h2 x hx
    obtain ⟨z, hz, hyz⟩ := h1 y hy
    have e := dvd_same B hx hz (Int.dvd_trans hxy hyz)
    subst e
    have := Int.dvd_antisymm (by have := B.pos x hx; omega) (by have := A.pos y hy; omega) hxy hyz
    rw [this]; exact hy
/-- a divisor of the product that meets one modulus alone divides it -/
theorem one_of {qs : List Int} {p : Int} (L : Lot qs) (hp : 2 < p) (hd : p ∣ prodI qs) (h1 : ∀ a ∈ qs, ∀ b ∈ qs, a ≠ b → Int.gcd a p ≠ 1 → Int.gcd b p = 1) : ∃ q ∈ qs, p ∣ q := by
  obtain ⟨q, hq, hg⟩ : ∃ q ∈ qs, Int.gcd q p ≠ 1 := by
    apply Classical.byContradiction
    intro hno
    have hall : ∀ q ∈ qs, copr q p := fun q hq => Classical.byContradiction fun e => hno ⟨q, hq, e⟩
    have := cop_all hall
    have h2 := Int.dvd_coe_gcd hd (Int.dvd_refl p)
    rw [this] at h2
    have := dvd_one (by omega) h2
    omega
  refine ⟨q, hq, ?_⟩
  have hl := L.lt
  obtain ⟨l1, l2, rfl⟩ := List.append_of_mem hq
  have hP : prodI (l1 ++ q :: l2) = q * prodI (l1 ++ l2) := by
    rw [prodI_app, prodI_app]
    simp only [prodI]
    rw [← Int.mul_assoc, Int.mul_comm (prodI l1) q, Int.mul_assoc]
  obtain ⟨_, c2, c3⟩ := List.pairwise_append.mp hl
  have hr : ∀ b ∈ l1 ++ l2, copr b p := fun b hb => by
    have hne : q ≠ b := by
      rcases List.mem_append.mp hb with hb | hb
      · have := c3 b hb q List.mem_cons_self
        omega
      · have := (List.pairwise_cons.mp c2).1 b hb
        omega
    have hbm : b ∈ l1 ++ q :: l2 := by
      rcases List.mem_append.mp hb with hb | hb
      · exact List.mem_append_left _ hb
      · exact List.mem_append_right _ (List.mem_cons_of_mem _ hb)
    exact h1 q hq b hbm hne hg
  have hc := cop_all hr
  rw [hP] at hd
  have hnat : p.natAbs ∣ q.natAbs * (prodI (l1 ++ l2)).natAbs := by rw [← Int.natAbs_mul]; exact Int.natAbs_dvd_natAbs.mpr hd
  have hco : Nat.Coprime p.natAbs (prodI (l1 ++ l2)).natAbs := by rw [Nat.coprime_comm]; exact hc
  exact Int.natAbs_dvd_natAbs.mp (Nat.Coprime.dvd_of_dvd_mul_right hco hnat)
theorem step_max {l : List Int} {c q d : Int} (hq : q ∈ l) (hd : d ∣ q) (h3 : 2 < d) (hc : d ∣ c ∨ d ∣ c - 1) : ∃ x ∈ stepP l c, d ∣ x := by
  have key : ∀ y : Int, d ∣ y → d ∣ gI q (ab y) ∧ keepP (gI q (ab y)) = true := fun y hy => by
    rw [gI_ab]
    have h1 := Int.dvd_coe_gcd hd hy
    refine ⟨h1, ?_⟩
    unfold keepP
    by_cases e : Int.gcd q y = 0
    · rw [e]; rfl
    · have := Int.le_of_dvd (by omega) h1
      simp only [Bool.or_eq_true, decide_eq_true_eq]
      right; omega
  unfold stepP
  rcases hc with hc | hc
  · obtain ⟨h1, h2⟩ := key c hc
    exact ⟨_, mem_srt.mpr (List.mem_filter.mpr ⟨List.mem_flatMap.mpr ⟨q, hq, List.mem_cons_self⟩, h2⟩), h1⟩
  · obtain ⟨h1, h2⟩ := key (c - 1) hc
    exact ⟨_, mem_srt.mpr (List.mem_filter.mpr ⟨List.mem_flatMap.mpr ⟨q, hq, List.mem_cons_of_mem _ List.mem_cons_self⟩, h2⟩), h1⟩
theorem parts_max {ns : List Int} {d : Int} (h3 : 2 < d) (h : ∀ n ∈ ns, n % d < 2) : ∃ p ∈ partsOf ns, d ∣ p := by
  induction ns using rev_ind with
  | h0 => exact ⟨0, by simp [partsOf], Int.dvd_zero d⟩
  | hs l c ih =>
    obtain ⟨p, hp, hd⟩ := ih fun n hn => h n (List.mem_append_left _ hn)
    rw [parts_snoc]
    exact step_max hp hd h3 (mod_dvd h3 (h c (by simp)))
theorem parts_fit {ns : List Int} {p : Int} (h3 : 2 < p) (hp : p ∈ partsOf ns) : ∀ n ∈ ns, n % p < 2 := fun n hn =>
  mod_small h3 ((div_all ns [0] [] (fun _ _ _ z => by cases z) p hp).2 n hn)
theorem no_zero {ns : List Int} {n : Int} (hn : n ∈ ns) (h : 1 < n) : (0 : Int) ∉ partsOf ns := fun z => by
  have := (zero_all ns [0] z).2 n hn
  omega
theorem next_dvd {p w : Int} (h3 : 2 < p) (h0 : w % p < 2) (h1 : (w + 1) % p < 2) : p ∣ w := by
  rcases mod_dvd h3 h0 with a | a
  · exact a
  · exfalso
    have key : ∀ d : Int, p ∣ d → 0 < d → d < 3 → False := fun d hd h0 h3 => by
      have := Int.le_of_dvd h0 hd
      omega
    rcases mod_dvd h3 h1 with b | b
    · exact key 2 (by have := Int.dvd_sub b a; rwa [show w + 1 - (w - 1) = 2 by omega] at this) (by decide) (by decide)
    · exact key 1 (by have := Int.dvd_sub b a; rwa [show w + 1 - 1 - (w - 1) = 1 by omega] at this) (by decide) (by decide)
/-- counts that tell a lot -/
structure Tells (qs ns : List Int) : Prop where
  fit : ∀ n ∈ ns, fitL qs n = true
  w0 : prodI qs ∈ ns
  w1 : prodI qs + 1 ∈ ns
  sep : ∀ a ∈ qs, ∀ b ∈ qs, a ≠ b → ∃ n ∈ ns, (a ∣ n - 1 ∧ b ∣ n) ∨ (a ∣ n ∧ b ∣ n - 1)
theorem parts_tell {qs ns : List Int} (L : Lot qs) (hl : ns.length ≤ 12) (T : Tells qs ns) : partsOf ns = qs := by
  have hW := prodI_pos L.pos
  have hz := no_zero T.w1 (by omega)
  have P := parts_is hl hz
  refine lots_eq P L (fun p hp => ?_) fun q hq => parts_max (L.big q hq) fun n hn => fit_iff.mp (T.fit n hn) q hq
  have p2 := P.big p hp
  have hf := parts_fit p2 hp
  have hpW : p ∣ prodI qs := next_dvd p2 (hf _ T.w0) (hf _ T.w1)
  refine one_of L p2 hpW fun a ha b hb hne hga => ?_
  apply Classical.byContradiction
  intro hgb
  obtain ⟨n, hn, hs⟩ := T.sep a ha b hb hne
  have da := Int.gcd_dvd_left (a := a) (b := p)
  have da2 := Int.gcd_dvd_right (a := a) (b := p)
  have db := Int.gcd_dvd_left (a := b) (b := p)
  have db2 := Int.gcd_dvd_right (a := b) (b := p)
  have h0a : Int.gcd a p ≠ 0 := fun e => by have := (Int.gcd_eq_zero_iff.mp e).2; omega
  have h0b : Int.gcd b p ≠ 0 := fun e => by have := (Int.gcd_eq_zero_iff.mp e).2; omega
  have bad : ∀ d : Int, 0 < d → d ∣ n → d ∣ n - 1 → d = 1 := fun d h0 h1 h2 => by
    have := Int.dvd_sub h1 h2
    rw [show n - (n - 1) = 1 by omega] at this
    exact dvd_one h0 this
  rcases mod_dvd p2 (hf n hn) with e | e <;> rcases hs with ⟨s1, s2⟩ | ⟨s1, s2⟩
  · exact hga (by have := bad _ (by omega) (Int.dvd_trans da2 e) (Int.dvd_trans da s1); omega)
  · exact hgb (by have := bad _ (by omega) (Int.dvd_trans db2 e) (Int.dvd_trans db s2); omega)
  · exact hgb (by have := bad _ (by omega) (Int.dvd_trans db s2) (Int.dvd_trans db2 e); omega)
  · exact hga (by have := bad _ (by omega) (Int.dvd_trans da s1) (Int.dvd_trans da2 e); omega)
/-- the common lot -/
def gcdsL (a b : List Int) : List Int := a.flatMap fun f => b.map fun s => ((Int.gcd f s : Nat) : Int)
def commL (a b : List Int) : List Int := srt ((gcdsL a b).filter fun d => decide (2 < d))
theorem mem_comm {a b : List Int} {d : Int} : d ∈ commL a b ↔ 2 < d ∧ ∃ f ∈ a, ∃ s ∈ b, d = ((Int.gcd f s : Nat) : Int) := by
  unfold commL gcdsL
  rw [mem_srt, List.mem_filter, List.mem_flatMap, decide_eq_true_eq]
  constructor
  · rintro ⟨⟨f, hf, hd⟩, h2⟩
    obtain ⟨s, hs, rfl⟩ := List.mem_map.mp hd
    exact ⟨h2, f, hf, s, hs, rfl⟩
  · rintro ⟨h2, f, hf, s, hs, rfl⟩
    exact ⟨⟨f, hf, List.mem_map.mpr ⟨s, hs, rfl⟩⟩, h2⟩
theorem gcds_cop : ∀ {a b : List Int}, a.Pairwise copr → b.Pairwise copr → (gcdsL a b).Pairwise copr
  | [], _, _, _ => by simp [gcdsL]
  | f :: a, b, ha, hb => by
    obtain ⟨a1, a2⟩ := List.pairwise_cons.mp ha
    have sub : ∀ {x y u v : Int}, x ∣ u → y ∣ v → Int.gcd u v = 1 → 0 ≤ x → copr x y := fun {x y u v} hx hy h h0 => by
      show Int.gcd x y = 1
      have d1 := Int.dvd_trans (Int.gcd_dvd_left (a := x) (b := y)) hx
      have d2 := Int.dvd_trans (Int.gcd_dvd_right (a := x) (b := y)) hy
      have := Int.dvd_coe_gcd d1 d2
      rw [h] at this
      have hn : Int.gcd x y ∣ 1 := by exact_mod_cast this
      exact Nat.dvd_one.mp hn
    show ((b.map fun s => ((Int.gcd f s : Nat) : Int)) ++ gcdsL a b).Pairwise copr
    refine List.pairwise_append.mpr ⟨List.pairwise_map.mpr (hb.imp fun h => sub (Int.gcd_dvd_right ..) (Int.gcd_dvd_right ..) h (by omega)), gcds_cop a2 hb, fun x hx y hy => ?_⟩
    obtain ⟨s, _, rfl⟩ := List.mem_map.mp hx
    obtain ⟨g, hg, hy⟩ := List.mem_flatMap.mp hy
    obtain ⟨t, _, rfl⟩ := List.mem_map.mp hy
    exact sub (Int.gcd_dvd_left ..) (Int.gcd_dvd_left ..) (a1 g hg) (by omega)
theorem comm_lot {a b : List Int} (A : Lot a) (B : Lot b) : Lot (commL a b) := by
  refine ⟨fun q hq => (mem_comm.mp hq).1, srt_sorted _, ?_⟩
  unfold commL
  exact ((srt_perm _).pairwise_iff copr_symm).mpr ((gcds_cop A.cop B.cop).sublist List.filter_sublist)
theorem parts_both {a b ns ms : List Int} (A : Lot a) (B : Lot b) (hl : (ns ++ ms).length ≤ 12) (ha : partsOf ns = a) (hb : partsOf ms = b) (hw : ∃ n ∈ ns, 1 < n) : partsOf (ns ++ ms) = commL a b := by
  obtain ⟨n, hn, hn1⟩ := hw
  have hz := no_zero (List.mem_append_left ms hn) hn1
  have P := parts_is hl hz
  refine lots_eq P (comm_lot A B) (fun p hp => ?_) fun d hd => ?_
  · have p2 := P.big p hp
    have hf := parts_fit p2 hp
    obtain ⟨x, hx, h1⟩ := parts_max (ns := ns) p2 fun n hn => hf n (List.mem_append_left _ hn)
    obtain ⟨y, hy, h2⟩ := parts_max (ns := ms) p2 fun n hn => hf n (List.mem_append_right _ hn)
    rw [ha] at hx
    rw [hb] at hy
    have hg := Int.dvd_coe_gcd h1 h2
    have h0 : Int.gcd x y ≠ 0 := fun e => by
      have := (Int.gcd_eq_zero_iff.mp e).1
      have := A.big x hx
      omega
    have := Int.le_of_dvd (by omega) hg
    exact ⟨_, mem_comm.mpr ⟨by omega, x, hx, y, hy, rfl⟩, hg⟩
  · obtain ⟨d2, x, hx, y, hy, rfl⟩ := mem_comm.mp hd
    have hx2 := A.big x hx
    have hy2 := B.big y hy
    have fx : ∀ n ∈ ns, n % x < 2 := parts_fit hx2 (by rw [ha]; exact hx)
    have fy : ∀ n ∈ ms, n % y < 2 := parts_fit hy2 (by rw [hb]; exact hy)
    refine parts_max d2 fun n hn => mod_small d2 ?_
    rcases List.mem_append.mp hn with hn | hn
    · exact (mod_dvd hx2 (fx n hn)).imp (Int.dvd_trans (Int.gcd_dvd_left ..)) (Int.dvd_trans (Int.gcd_dvd_left ..))
    · exact (mod_dvd hy2 (fy n hn)).imp (Int.dvd_trans (Int.gcd_dvd_right ..)) (Int.dvd_trans (Int.gcd_dvd_right ..))
/-- each modulus of one lot divides one of the other -/
def cosB (a b : List Int) : Bool := a.all fun q => b.any fun p => p % q == 0
theorem cos_iff {a b : List Int} : cosB a b = true ↔ ∀ q ∈ a, ∃ p ∈ b, q ∣ p := by
  unfold cosB
  rw [List.all_eq_true]
  constructor
  · intro h q hq
    obtain ⟨p, hp, e⟩ := List.any_eq_true.mp (h q hq)
    exact ⟨p, hp, Int.dvd_of_emod_eq_zero (by simpa using e)⟩
  · intro h q hq
    obtain ⟨p, hp, e⟩ := h q hq
    exact List.any_eq_true.mpr ⟨p, hp, by simpa using Int.emod_eq_zero_of_dvd e⟩
theorem cos_fit {a b : List Int} {n : Int} (A : Lot a) (B : Lot b) (h : cosB a b = true) (hf : fitL b n = true) : fitL a n = true :=
  fit_coar B.big (fun p hp => ⟨A.big p hp, cos_iff.mp h p hp⟩) hf
theorem cos_tell {a b ns : List Int} (A : Lot a) (hb : partsOf ns = b) : cosB a b = decide (ns.filter (fun n => !fitL a n) = []) ∨ ¬ Lot b := by
  by_cases B : Lot b
  · refine .inl ?_
    rw [Bool.eq_iff_iff, decide_eq_true_eq, List.filter_eq_nil_iff, cos_iff]
    constructor
    · intro h n hn
      have : fitL b n = true := fit_iff.mpr fun q hq => parts_fit (B.big q hq) (by rw [hb]; exact hq) n hn
      have := cos_fit A B (cos_iff.mpr h) this
      simp [this]
    · intro h q hq
      obtain ⟨p, hp, hd⟩ := parts_max (ns := ns) (A.big q hq) fun n hn => by
        have := h n hn
        exact fit_iff.mp (by simpa using this) q hq
      rw [hb] at hp
      exact ⟨p, hp, hd⟩
  · exact .inr B
theorem gcds_len {a b : List Int} {m k : Nat} (ha : a.length ≤ m) (hb : b.length ≤ k) : (gcdsL a b).length ≤ m * k := by
  have : (gcdsL a b).length = a.length * b.length := by
    unfold gcdsL
    clear ha
    induction a with
    | nil => simp
    | cons f a ih => rw [List.flatMap_cons, List.length_append, ih, List.length_map, List.length_cons, Nat.succ_mul]; omega
  rw [this]
  exact Nat.mul_le_mul ha hb
/-- how many digits tell so many places apart -/
def digs (n : Nat) : Nat := ((List.range 6).filter fun k => decide (2 ^ k < n)).length
structure TellsD (qs ns : List Int) : Prop where
  t : Tells qs ns
  asc : ns.Pairwise (· < ·)
  le : ∀ n ∈ ns, 1 ≤ n ∧ n ≤ prodI qs + 1
  len : ns.length = 2 + digs qs.length
/-- one modulus more put to what is found -/
theorem put_fit {l : List Int} {q z x r : Int} (h2 : 2 < q) (hl : fitL l z = true) (hx : x * prodI l % q = 1) (hr : r = 0 ∨ r = 1) : fitL (l ++ [q]) (z + prodI l * ((r - z) * x % q)) = true := by
  rw [fitL_snoc, Bool.and_eq_true]
  have e1 : (z + prodI l * ((r - z) * x % q)) % prodI l = z % prodI l := Int.add_mul_emod_self_left ..
  refine ⟨by rw [fitL_mod (fun q hq => dvd_prod hq) e1]; exact hl, decide_eq_true (mod_small h2 ?_)⟩
  have d1 : q ∣ x * prodI l - 1 := by
    have := Int.dvd_self_sub_emod (x := x * prodI l) (m := q)
    rwa [hx] at this
  have d2 : q ∣ (r - z) * x - (r - z) * x % q := Int.dvd_self_sub_emod
  have d3 : q ∣ z + prodI l * ((r - z) * x % q) - r := by
    have e : z + prodI l * ((r - z) * x % q) - r = (r - z) * (x * prodI l - 1) - prodI l * ((r - z) * x - (r - z) * x % q) := by grind
    rw [e]
    exact Int.dvd_sub (Int.dvd_mul_of_dvd_right d1) (Int.dvd_mul_of_dvd_right d2)
  rcases hr with rfl | rfl
  · left; simpa using d3
  · right; exact d3
end Dl
/-! The counts that tell a lot, place by place. -/
namespace Dl
open PySem PySem.Spec PyProof.Rows L2
theorem prod_perm {a b : List Int} (p : a.Perm b) : prodI a = prodI b := by
  induction p with
  | nil => rfl
  | cons x _ ih => simp only [prodI, ih]
  | swap x y l => simp only [prodI]; rw [← Int.mul_assoc, ← Int.mul_assoc, Int.mul_comm x y]
  | trans _ _ h1 h2 => exact h1.trans h2
/-- the moduli at the places with this digit -/
def pickP (d : Int) (p : Int × Nat) : Bool := decide (((p.2 : Nat) : Int) / d % 2 = 1)
def pickL (qs : List Int) (d : Int) : List Int := (qs.zipIdx.filter (pickP d)).map (·.1)
def leftL (qs : List Int) (d : Int) : List Int := (qs.zipIdx.filter fun p => !pickP d p).map (·.1)
theorem pick_perm (qs : List Int) (d : Int) : (pickL qs d ++ leftL qs d).Perm qs := by
  unfold pickL leftL
  rw [← List.map_append]
  have h := (part_perm (pickP d) qs.zipIdx).map (·.1)
  rwa [List.zipIdx_map_fst] at h
theorem pick_prod (qs : List Int) (d : Int) : prodI (pickL qs d) * prodI (leftL qs d) = prodI qs := by
  rw [← prodI_app]; exact prod_perm (pick_perm qs d)
theorem pick_pos {qs : List Int} (L : Lot qs) (d : Int) : 0 < prodI (pickL qs d) ∧ 0 < prodI (leftL qs d) :=
  ⟨prodI_pos fun q hq => L.pos q ((pick_perm qs d).mem_iff.mp (List.mem_append_left _ hq)), prodI_pos fun q hq => L.pos q ((pick_perm qs d).mem_iff.mp (List.mem_append_right _ hq))⟩
theorem pick_div {qs : List Int} (L : Lot qs) (d : Int) : prodI qs / prodI (pickL qs d) = prodI (leftL qs d) := by
  have h := pick_pos L d
  rw [← pick_prod qs d, Int.mul_ediv_cancel_left _ (by omega)]
theorem pick_cop {qs : List Int} (L : Lot qs) (d : Int) : Int.gcd (prodI (leftL qs d)) (prodI (pickL qs d)) = 1 := by
  have hp : (pickL qs d ++ leftL qs d).Pairwise copr := ((pick_perm qs d).pairwise_iff copr_symm).mpr L.cop
  obtain ⟨_, _, h3⟩ := List.pairwise_append.mp hp
  refine cop_all fun b hb => ?_
  show Int.gcd b (prodI (pickL qs d)) = 1
  rw [Int.gcd_comm]
  exact cop_all fun a ha => h3 a ha b hb
/-- what leaving gives -/
theorem leave_ok {qs : List Int} (L : Lot qs) {d k : Int} (hc : 1 < prodI (pickL qs d)) (k0 : 0 ≤ k) (k1 : k < prodI (pickL qs d)) (hk : k * prodI (leftL qs d) % prodI (pickL qs d) = 1) :
    (∀ q ∈ pickL qs d, q ∣ prodI (leftL qs d) * k - 1) ∧ (∀ q ∈ leftL qs d, q ∣ prodI (leftL qs d) * k) ∧ 1 ≤ prodI (leftL qs d) * k ∧ prodI (leftL qs d) * k < prodI qs := by
  obtain ⟨h1, h2⟩ := pick_pos L d
  have hd : prodI (pickL qs d) ∣ k * prodI (leftL qs d) - 1 := by
    have := Int.dvd_self_sub_emod (x := k * prodI (leftL qs d)) (m := prodI (pickL qs d))
    rwa [hk] at this
  have kp : 0 < k := by
    rcases Int.lt_or_eq_of_le k0 with h | h
    · exact h
    · rw [← h, Int.zero_mul, Int.zero_emod] at hk; cases hk
  refine ⟨fun q hq => ?_, fun q hq => Int.dvd_mul_of_dvd_left (dvd_prod hq), ?_, ?_⟩
  · rw [Int.mul_comm]; exact Int.dvd_trans (dvd_prod hq) hd
  · have := Int.mul_pos h2 kp; omega
  · rw [← pick_prod qs d, Int.mul_comm (prodI (pickL qs d))]
    exact Int.mul_lt_mul_of_pos_left k1 h2
theorem pick_mem {qs : List Int} {d : Int} {i : Nat} (h : i < qs.length) : (((i : Nat) : Int) / d % 2 = 1 → qs[i] ∈ pickL qs d) ∧ (¬ ((i : Nat) : Int) / d % 2 = 1 → qs[i] ∈ leftL qs d) := by
  have hm : (qs[i], i) ∈ qs.zipIdx := List.mk_mem_zipIdx_iff_getElem?.mpr (List.getElem?_eq_getElem h)
  refine ⟨fun e => List.mem_map.mpr ⟨_, List.mem_filter.mpr ⟨hm, decide_eq_true e⟩, rfl⟩, fun e => List.mem_map.mpr ⟨_, List.mem_filter.mpr ⟨hm, ?_⟩, rfl⟩⟩
  show (!decide _) = true
  rw [decide_eq_false e]; rfl
/-- one count of the telling ones: 1 by the moduli at the places with the digit, 0 by the others -/
structure DigE (qs : List Int) (d e : Int) : Prop where
  one : ∀ q ∈ pickL qs d, q ∣ e - 1
  zero : ∀ q ∈ leftL qs d, q ∣ e
  pos : 1 ≤ e
  lt : e < prodI qs
theorem DigE.fit {qs : List Int} {d e : Int} (L : Lot qs) (h : DigE qs d e) : fitL qs e = true := fit_iff.mpr fun q hq => by
  refine mod_small (L.big q hq) ?_
  rcases List.mem_append.mp ((pick_perm qs d).mem_iff.mpr hq) with m | m
  · exact .inr (h.one q m)
  · exact .inl (h.zero q m)
theorem bits_apart {i j J : Nat} (hi : i < 2 ^ J) (hj : j < 2 ^ J) (hne : i ≠ j) : ∃ k, k < J ∧ (i / 2 ^ k % 2 = 1 ↔ ¬ j / 2 ^ k % 2 = 1) := by
  apply Classical.byContradiction
  intro hno
  apply hne
  refine Nat.eq_of_testBit_eq fun k => ?_
  by_cases hk : k < J
  · rw [Nat.testBit_eq_decide_div_mod_eq, Nat.testBit_eq_decide_div_mod_eq]
    refine decide_eq_decide.mpr ?_
    apply Classical.byContradiction
    intro h
    exact hno ⟨k, hk, by omega⟩
  · have hp : 2 ^ J ≤ 2 ^ k := Nat.pow_le_pow_right (by decide) (by omega)
    rw [Nat.testBit_lt_two_pow (by omega), Nat.testBit_lt_two_pow (by omega)]
theorem tells_digits {qs es : List Int} (L : Lot qs) (h : ∀ j, (hj : j < es.length) → DigE qs ((2 ^ j : Nat) : Int) es[j]) (hl : qs.length ≤ 2 ^ es.length) : Tells qs (prodI qs :: (prodI qs + 1) :: es) := by
  have f0 : fitL qs (prodI qs) = true := fit_iff.mpr fun q hq => by rw [Int.emod_eq_zero_of_dvd (dvd_prod hq)]; decide
  have f1 : fitL qs (prodI qs + 1) = true := fit_iff.mpr fun q hq => mod_small (L.big q hq) (.inr (by rw [show prodI qs + 1 - 1 = prodI qs by omega]; exact dvd_prod hq))
  refine ⟨fun n hn => ?_, by simp, by simp, fun a ha b hb hne => ?_⟩
  · rcases List.mem_cons.mp hn with rfl | hn
    · exact f0
    rcases List.mem_cons.mp hn with rfl | hn
    · exact f1
    obtain ⟨j, hj, rfl⟩ := List.mem_iff_getElem.mp hn
    exact (h j hj).fit L
  · obtain ⟨i, hi, rfl⟩ := List.mem_iff_getElem.mp ha
    obtain ⟨j, hj, rfl⟩ := List.mem_iff_getElem.mp hb
    obtain ⟨k, hk, hbit⟩ := bits_apart (i := i) (j := j) (J := es.length) (by omega) (by omega) (fun e => hne (by subst e; rfl))
    have hd := h k hk
    have ci : ∀ n : Nat, ((((n : Nat) : Int) / ((2 ^ k : Nat) : Int) % 2 = 1) ↔ n / 2 ^ k % 2 = 1) := fun n => by
      rw [show ((n : Nat) : Int) / ((2 ^ k : Nat) : Int) % 2 = ((n / 2 ^ k % 2 : Nat) : Int) by simp]
      omega
    refine ⟨es[k], by simp, ?_⟩
    by_cases e : i / 2 ^ k % 2 = 1
    · exact .inl ⟨hd.one _ ((pick_mem hi).1 ((ci i).mpr e)), hd.zero _ ((pick_mem hj).2 fun z => (hbit.mp e) ((ci j).mp z))⟩
    · have ej : j / 2 ^ k % 2 = 1 := Classical.byContradiction fun z => e (hbit.mpr z)
      exact .inr ⟨hd.zero _ ((pick_mem hi).2 fun z => e ((ci i).mp z)), hd.one _ ((pick_mem hj).1 ((ci j).mpr ej))⟩
def numP (p : Int × Nat) : PyData := .tuple [.int (p.2 : Nat), .int p.1]
theorem num_zip : ∀ (qs : List Int) (k : Nat), numD k (qs.map .int) = (qs.zipIdx k).map numP
  | [], _ => rfl
  | q :: qs, k => by
    rw [List.map_cons, List.zipIdx_cons, List.map_cons, ← num_zip qs (k + 1)]
    rfl
theorem pick_map (qs : List Int) (d : Int) : (qs.zipIdx.filter (pickP d)).map (fun p => PyData.int p.1) = (pickL qs d).map .int := by
  unfold pickL
  rw [List.map_map]
  rfl
end Dl
/-! The telling counts in their order. -/
namespace Dl
open PySem PySem.Spec PyProof.Rows L2
theorem pow_digit (i j : Nat) : ((((2 ^ i : Nat) : Int) / ((2 ^ j : Nat) : Int) % 2 = 1) ↔ i = j) := by
  rw [show ((2 ^ i : Nat) : Int) / ((2 ^ j : Nat) : Int) % 2 = ((2 ^ i / 2 ^ j % 2 : Nat) : Int) by simp]
  have h : 2 ^ i / 2 ^ j % 2 = 1 ↔ i = j := by
    constructor
    · intro h
      rcases Nat.lt_trichotomy i j with a | a | a
      · rw [Nat.div_eq_of_lt (Nat.pow_lt_pow_right (by decide) a)] at h; cases h
      · exact a
      · obtain ⟨d, rfl⟩ : ∃ d, i = j + (d + 1) := ⟨i - j - 1, by omega⟩
        rw [Nat.pow_add, Nat.mul_div_cancel_left _ (Nat.pow_pos (by decide)), Nat.pow_succ, Nat.mul_mod_left] at h; cases h
    · rintro rfl
      rw [Nat.div_self (Nat.pow_pos (by decide))]
  omega
theorem dig_ne {qs es : List Int} (L : Lot qs) (hd : ∀ j, (hj : j < es.length) → DigE qs ((2 ^ j : Nat) : Int) es[j]) (hlt : ∀ j, j < es.length → 2 ^ j < qs.length) : es.Pairwise (· ≠ ·) := by
  refine List.pairwise_iff_getElem.mpr fun i j hi hj hij e => ?_
  have hq := hlt i hi
  have h1 := (hd i hi).one _ ((pick_mem hq).1 ((pow_digit i i).mpr rfl))
  have h2 := (hd j hj).zero _ ((pick_mem hq).2 fun z => by have := (pow_digit i j).mp z; omega)
  rw [e] at h1
  have := Int.dvd_sub h2 h1
  rw [show es[j] - (es[j] - 1) = 1 by omega] at this
  have := dvd_one (L.pos _ (List.getElem_mem hq)) this
  have := L.big _ (List.getElem_mem hq)
  omega
theorem tells_perm {qs ns ns' : List Int} (T : Tells qs ns) (p : ns'.Perm ns) : Tells qs ns' :=
  ⟨fun n hn => T.fit n (p.mem_iff.mp hn), p.mem_iff.mpr T.w0, p.mem_iff.mpr T.w1, fun a ha b hb h => by
    obtain ⟨n, hn, e⟩ := T.sep a ha b hb h
    exact ⟨n, p.mem_iff.mpr hn, e⟩⟩
theorem digs_eq {n J : Nat} (h1 : ∀ j, j < J → 2 ^ j < n) (h2 : n ≤ 2 ^ J) (h12 : n ≤ 12) : digs n = J := by
  have hJ : J ≤ 4 := by
    apply Classical.byContradiction
    intro h
    have := h1 4 (by omega)
    omega
  unfold digs
  rw [List.filter_congr (q := fun k => decide (k < J))]
  · have : J = 0 ∨ J = 1 ∨ J = 2 ∨ J = 3 ∨ J = 4 := by omega
    rcases this with rfl | rfl | rfl | rfl | rfl <;> rfl
  · intro k _
    rw [decide_eq_decide]
    constructor
    · intro h
      apply Classical.byContradiction
      intro h3
      have := Nat.pow_le_pow_right (show 0 < 2 by decide) (show J ≤ k by omega)
      omega
    · exact h1 k
theorem tellsD_of {qs es ns : List Int} (L : Lot qs) (hd : ∀ j, (hj : j < es.length) → DigE qs ((2 ^ j : Nat) : Int) es[j]) (hlt : ∀ j, j < es.length → 2 ^ j < qs.length) (hc : qs.length ≤ 2 ^ es.length) (h12 : qs.length ≤ 12) (p : ns.Perm (prodI qs :: (prodI qs + 1) :: es)) (hs : ns.Pairwise (· ≤ ·)) : TellsD qs ns := by
  have hW := prodI_pos L.pos
  have hle : ∀ e ∈ es, 1 ≤ e ∧ e < prodI qs := fun e he => by
    obtain ⟨j, hj, rfl⟩ := List.mem_iff_getElem.mp he
    exact ⟨(hd j hj).pos, (hd j hj).lt⟩
  have hnd : (prodI qs :: (prodI qs + 1) :: es).Pairwise (· ≠ ·) := by
    refine List.pairwise_cons.mpr ⟨fun x hx => ?_, List.pairwise_cons.mpr ⟨fun x hx => ?_, dig_ne L hd hlt⟩⟩
    · rcases List.mem_cons.mp hx with rfl | hx
      · omega
      · have := hle x hx; omega
    · have := hle x hx; omega
  refine ⟨tells_perm (tells_digits L hd hc) p, ?_, fun n hn => ?_, ?_⟩
  · have h2 : ns.Pairwise (· ≠ ·) := (p.pairwise_iff (fun h => Ne.symm h)).mpr hnd
    exact List.Pairwise.imp₂ (fun h1 h2 => by omega) hs h2
  · rcases List.mem_cons.mp (p.mem_iff.mp hn) with rfl | hn
    · omega
    rcases List.mem_cons.mp hn with rfl | hn
    · omega
    have := hle n hn
    omega
  · rw [p.length_eq, digs_eq hlt hc h12]
    simp only [List.length_cons]
    omega
theorem dig_snoc {qs es : List Int} {e : Int} (hd : ∀ j, (hj : j < es.length) → DigE qs ((2 ^ j : Nat) : Int) es[j]) (he : DigE qs ((2 ^ es.length : Nat) : Int) e) : ∀ j, (hj : j < (es ++ [e]).length) → DigE qs ((2 ^ j : Nat) : Int) (es ++ [e])[j] := by
  intro j hj
  by_cases h : j < es.length
  · rw [List.getElem_append_left h]; exact hd j h
  · have : j = es.length := by simp at hj; omega
    subst this
    rw [List.getElem_concat_length rfl]
    exact he
end Dl
/-! Counts that force, plainly. -/
namespace Dl
open PySem PySem.Spec PyProof.Rows L2
def forB (ns : List Int) : Bool := decide (partsOf ns = [])
theorem forB_iff {ns : List Int} : forB ns = true ↔ ∀ d : Int, 2 < d → ∃ n ∈ ns, ¬ n % d < 2 := by
  unfold forB
  rw [decide_eq_true_eq]
  constructor
  · intro h d hd
    apply Classical.byContradiction
    intro hno
    obtain ⟨p, hp, _⟩ := parts_max (ns := ns) hd fun n hn => Classical.byContradiction fun e => hno ⟨n, hn, e⟩
    rw [h] at hp; cases hp
  · intro h
    cases e : partsOf ns with
    | nil => rfl
    | cons p l =>
      exfalso
      have hp : p ∈ partsOf ns := by rw [e]; exact List.mem_cons_self
      rcases parts_two p hp with h0 | h2
      · subst h0
        obtain ⟨n, hn, hf⟩ := h 3 (by decide)
        have := (zero_all ns [0] hp).2 n hn
        omega
      · obtain ⟨n, hn, hf⟩ := h p h2
        exact hf (parts_fit h2 hp n hn)
theorem forB_mono {a b : List Int} (h : ∀ n ∈ a, n ∈ b) (f : forB a = true) : forB b = true := forB_iff.mpr fun d hd => by
  obtain ⟨n, hn, e⟩ := forB_iff.mp f d hd
  exact ⟨n, h n hn, e⟩
/-! indexes -/
def idxB (n : Nat) : PyData → Bool
  | .int i => decide (0 ≤ i) && decide (i < (n : Int))
  | _ => false
def natD (k : Nat) : PyData := .int (k : Int)
theorem idx_all {n : Nat} : ∀ {ds : List PyData}, ds.all (idxB n) = true → ∃ ks : List Nat, ds = ks.map natD ∧ ∀ k ∈ ks, k < n
  | [], _ => ⟨[], rfl, by simp⟩
  | x :: ds, h => by
    rw [List.all_cons, Bool.and_eq_true] at h
    obtain ⟨ks, e, hk⟩ := idx_all h.2
    cases x with
    | int i =>
      have h1 := h.1
      unfold idxB at h1
      rw [Bool.and_eq_true, decide_eq_true_eq, decide_eq_true_eq] at h1
      refine ⟨i.toNat :: ks, ?_, fun k hk' => ?_⟩
      · rw [e, List.map_cons]; unfold natD; rw [Int.toNat_of_nonneg h1.1]
      · rcases List.mem_cons.mp hk' with rfl | hk'
        · omega
        · exact hk k hk'
    | _ => cases h.1
theorem idx_nat {n k : Nat} : idxB n (natD k) = decide (k < n) := by
  show (decide ((0 : Int) ≤ (k : Nat)) && decide (((k : Nat) : Int) < (n : Int))) = _
  rw [decide_eq_true (show (0 : Int) ≤ (k : Nat) by omega), Bool.true_and]
  rw [Bool.eq_iff_iff, decide_eq_true_eq, decide_eq_true_eq]
  omega
def natsOf (ds : List PyData) : List Nat := ds.map fun x => match x with
  | .int i => i.toNat
  | _ => 0
theorem natsOf_map (ks : List Nat) : natsOf (ks.map natD) = ks := by
  unfold natsOf
  rw [List.map_map]
  conv => rhs; rw [← List.map_id ks]
  apply List.map_congr_left
  intro k _
  rfl
def pickK (ns : List Int) (ks : List Nat) : List Int := ks.map fun k => ns.getD k 0
theorem pick_all (ns : List Int) : pickK ns (List.range ns.length) = ns := by
  unfold pickK
  apply List.ext_getElem
  · simp
  · intro i h1 h2
    simp [List.getD_eq_getElem?_getD, List.getElem?_eq_getElem h2]
def leastK (ns : List Int) (ks : List Nat) : Bool := decide (ks.Pairwise (· < ·)) && forB (pickK ns ks) && !(ks.any fun one => forB (pickK ns (ks.filter fun k => !(k == one))))
def leastB (ns : List Int) : PyData → Bool
  | .tuple ds => ds.all (idxB ns.length) && leastK ns (natsOf ds)
  | _ => false
theorem adj_all : ∀ {ks : List Nat}, (ks.zip (ks.drop 1)).all (fun p => decide (p.1 < p.2)) = decide (ks.Pairwise (· < ·))
  | [] => by simp
  | [a] => by simp
  | a :: b :: ks => by
    have ih := adj_all (ks := b :: ks)
    simp only [List.drop_succ_cons, List.drop_zero, List.zip_cons_cons, List.all_cons] at ih ⊢
    rw [ih, Bool.eq_iff_iff, Bool.and_eq_true, decide_eq_true_eq, decide_eq_true_eq, decide_eq_true_eq]
    rw [List.pairwise_cons (a := a)]
    constructor
    · rintro ⟨h1, h2⟩
      refine ⟨fun c hc => ?_, h2⟩
      rcases List.mem_cons.mp hc with rfl | hc
      · exact h1
      · exact Nat.lt_trans h1 ((List.pairwise_cons.mp h2).1 c hc)
    · rintro ⟨h1, h2⟩
      exact ⟨h1 b List.mem_cons_self, h2⟩
theorem zip_nat : ∀ (ks ls : List Nat), zipD (ks.map natD) (ls.map natD) = (ks.zip ls).map fun p => .tuple [natD p.1, natD p.2]
  | [], _ => by simp [zipD]
  | _ :: _, [] => by simp [zipD]
  | a :: ks, b :: ls => by simp only [List.map_cons, zipD, List.zip_cons_cons, zip_nat ks ls]
/-- the greedy choice -/
def grdN (ns : List Int) : Nat → List Nat
  | 0 => List.range ns.length
  | i + 1 => if forB (pickK ns ((grdN ns i).filter fun k => !(k == i))) = true then (grdN ns i).filter fun k => !(k == i) else grdN ns i
theorem grd_sub (ns : List Int) : ∀ i, (grdN ns i).Sublist (List.range ns.length)
  | 0 => List.Sublist.refl _
  | i + 1 => by
    unfold grdN
    split
    · exact (List.filter_sublist).trans (grd_sub ns i)
    · exact grd_sub ns i
theorem grd_for {ns : List Int} (h : forB ns = true) : ∀ i, forB (pickK ns (grdN ns i)) = true
  | 0 => by unfold grdN; rw [pick_all]; exact h
  | i + 1 => by
    unfold grdN
    split
    · assumption
    · exact grd_for h i
theorem pick_mono {ns : List Int} {a b : List Nat} (h : ∀ k ∈ a, k ∈ b) (f : forB (pickK ns a) = true) : forB (pickK ns b) = true :=
  forB_mono (fun n hn => by
    obtain ⟨k, hk, rfl⟩ := List.mem_map.mp hn
    exact List.mem_map.mpr ⟨k, h k hk, rfl⟩) f
theorem grd_min {ns : List Int} : ∀ i one, one < i → one ∈ grdN ns i → forB (pickK ns ((grdN ns i).filter fun k => !(k == one))) = false
  | 0, _, h, _ => absurd h (by omega)
  | i + 1, one, h, hm => by
    have key : ∀ o, o < i → o ∈ grdN ns i → forB (pickK ns ((grdN ns i).filter fun k => !(k == o))) = false := grd_min i
    unfold grdN at hm ⊢
    split
    · rename_i hc
      rw [if_pos hc] at hm
      have hm' := List.mem_filter.mp hm
      have hne : one ≠ i := by
        intro e
        rw [e] at hm'
        simp at hm'
      rw [← Bool.not_eq_true]
      intro hf
      have := key one (by omega) hm'.1
      rw [pick_mono (fun k hk => by
        have h1 := List.mem_filter.mp hk
        exact List.mem_filter.mpr ⟨(List.mem_filter.mp h1.1).1, h1.2⟩) hf] at this
      cases this
    · rename_i hc
      rw [if_neg hc] at hm
      by_cases e : one = i
      · subst e
        rwa [← Bool.not_eq_true]
      · exact key one (by omega) hm
theorem grd_least {ns : List Int} (h : forB ns = true) : leastK ns (grdN ns ns.length) = true := by
  have hs := grd_sub ns ns.length
  unfold leastK
  rw [decide_eq_true (List.Pairwise.sublist hs List.pairwise_lt_range), grd_for h, Bool.true_and, Bool.true_and]
  rw [Bool.not_eq_true', List.any_eq_false]
  intro one ho hf
  have := grd_min ns.length one (List.mem_range.mp (hs.subset ho)) ho
  rw [hf] at this; cases this
theorem grd_leastB {ns : List Int} (h : forB ns = true) : leastB ns (.tuple ((grdN ns ns.length).map natD)) = true := by
  show (((grdN ns ns.length).map natD).all (idxB ns.length) && leastK ns (natsOf ((grdN ns ns.length).map natD))) = true
  rw [natsOf_map, grd_least h, Bool.and_true, List.all_map, List.all_eq_true]
  intro k hk
  show idxB _ (natD k) = true
  rw [idx_nat, decide_eq_true_eq]
  exact List.mem_range.mp ((grd_sub ns ns.length).subset hk)
theorem asc_from {n : Nat} : ∀ {ks : List Nat} {a : Nat}, ks.Pairwise (· < ·) → (∀ k ∈ ks, a ≤ k ∧ k < n) → ks.length ≤ n - a
  | [], _, _, _ => by simp
  | k :: ks, a, hp, h => by
    obtain ⟨h1, h2⟩ := List.pairwise_cons.mp hp
    have hk := h k List.mem_cons_self
    have := asc_from (a := k + 1) h2 fun j hj => ⟨h1 j hj, (h j (List.mem_cons_of_mem _ hj)).2⟩
    rw [List.length_cons]
    omega
theorem asc_len {n : Nat} {ks : List Nat} (hp : ks.Pairwise (· < ·)) (h : ∀ k ∈ ks, k < n) : ks.length ≤ n := asc_from (a := 0) hp fun k hk => ⟨by omega, h k hk⟩
/-! small counts, by primes -/
theorem least_div {d : Int} (hd : 2 < d) : ∃ r : Int, 2 < r ∧ r ∣ d ∧ (r = 4 ∨ ∀ e, 2 ≤ e → e < r → ¬ e ∣ r) := by
  have : ∀ n : Nat, ∀ d : Int, 2 < d → d ≤ n → ∃ r : Int, 2 < r ∧ r ∣ d ∧ (r = 4 ∨ ∀ e, 2 ≤ e → e < r → ¬ e ∣ r) := by
    intro n
    induction n using Nat.strongRecOn with
    | ind n ih =>
      intro d hd hn
      by_cases hp : d = 4 ∨ ∀ e, 2 ≤ e → e < d → ¬ e ∣ d
      · exact ⟨d, hd, Int.dvd_refl d, hp⟩
      · have hex : ∃ e, 2 < e ∧ e < d ∧ e ∣ d := by
          apply Classical.byContradiction
          intro hno
          refine hp (.inr fun e e2 ed hed => ?_)
          by_cases h2 : 2 < e
          · exact hno ⟨e, h2, ed, hed⟩
          · have : e = 2 := by omega
            subst this
            obtain ⟨k, hk⟩ := hed
            refine hno ⟨k, ?_, by omega, ⟨2, by omega⟩⟩
            have : d ≠ 4 := fun z => hp (.inl z)
            omega
        obtain ⟨e, e1, e2, e3⟩ := hex
        obtain ⟨r, r1, r2, r3⟩ := ih e.toNat (by omega) e e1 (by omega)
        exact ⟨r, r1, Int.dvd_trans r2 e3, r3⟩
  exact this d.toNat d hd (by omega)
theorem fit_dvd {n d r : Int} (hd : 2 < d) (hr : 2 < r) (h : r ∣ d) (hf : n % d < 2) : n % r < 2 := by
  refine mod_small hr ?_
  rcases mod_dvd hd hf with a | a
  · exact .inl (Int.dvd_trans h a)
  · exact .inr (Int.dvd_trans h a)
theorem by_primes {ns : List Int} {m : Int} (hm : ∀ n ∈ ns, ab n + 1 ≤ m) : forB ns = true ↔
    (∀ q : Int, (q = 4 ∨ (3 ≤ q ∧ q ≤ m ∧ ∀ d, 2 ≤ d → d < q → ¬ d ∣ q)) → ∃ n ∈ ns, ¬ n % q < 2) ∧ ∃ n ∈ ns, n ≠ 0 ∧ n ≠ 1 := by
  rw [forB_iff]
  constructor
  · intro h
    refine ⟨fun q hq => h q (by rcases hq with hq | hq <;> omega), ?_⟩
    obtain ⟨n, hn, e⟩ := h 3 (by decide)
    exact ⟨n, hn, by omega, by omega⟩
  · rintro ⟨h, n, hn, n0, n1⟩ d hd
    apply Classical.byContradiction
    intro hno
    have hall : ∀ n ∈ ns, n % d < 2 := fun n hn => Classical.byContradiction fun e => hno ⟨n, hn, e⟩
    have hdm : d ≤ m := by
      have hb := hm n hn
      unfold ab at hb
      rcases mod_dvd hd (hall n hn) with a | a
      · have h1 : d ≤ n.natAbs := by
          have := Nat.le_of_dvd (by omega) (Int.natAbs_dvd_natAbs.mpr a)
          omega
        split at hb <;> omega
      · have h1 : d ≤ (n - 1).natAbs := by
          have := Nat.le_of_dvd (by omega) (Int.natAbs_dvd_natAbs.mpr a)
          omega
        split at hb <;> omega
    obtain ⟨r, r1, r2, r3⟩ := least_div hd
    have hrd : r ≤ d := Int.le_of_dvd (by omega) r2
    obtain ⟨n, hn, e⟩ := h r (by
      rcases r3 with r3 | r3
      · exact .inl r3
      · exact .inr ⟨by omega, by omega, r3⟩)
    exact e (fit_dvd hd r1 r2 (hall n hn))
def rgI (lo : Int) (n : Nat) : List Int := (List.range n).map fun k : Nat => lo + (k : Int)
theorem mem_rgI {lo x : Int} {n : Nat} : x ∈ rgI lo n ↔ lo ≤ x ∧ x < lo + n := by
  unfold rgI
  rw [List.mem_map]
  constructor
  · rintro ⟨k, hk, rfl⟩
    have := List.mem_range.mp hk
    omega
  · rintro ⟨h1, h2⟩
    exact ⟨(x - lo).toNat, List.mem_range.mpr (by omega), by omega⟩
def primB (q : Int) : Bool := decide ((rgI 2 (q - 2).toNat).filter (fun d => q % d == 0) = [])
theorem primB_iff {q : Int} (h : 3 ≤ q) : primB q = true ↔ ∀ d, 2 ≤ d → d < q → ¬ d ∣ q := by
  unfold primB
  rw [decide_eq_true_eq, List.filter_eq_nil_iff]
  constructor
  · intro hh d d1 d2 hd
    exact hh d (mem_rgI.mpr ⟨d1, by omega⟩) (by simpa using Int.emod_eq_zero_of_dvd hd)
  · intro hh d hd he
    have := mem_rgI.mp hd
    exact hh d (by omega) (by omega) (Int.dvd_of_emod_eq_zero (by simpa using he))
def leftP (ns : List Int) (m : Int) : List Int := (4 :: (rgI 3 (m + 1 - 3).toNat).filter primB).filter fun q => decide (ns.filter (fun n => decide (1 < n % q)) = [])
theorem by_eq {ns : List Int} {m : Int} (hm : ∀ n ∈ ns, ab n + 1 ≤ m) (h3 : 3 ≤ m) : (decide (leftP ns m = []) && !decide (ns.filter (fun n => !(n == 0) && !(n == 1)) = [])) = forB ns := by
  rw [Bool.eq_iff_iff, Bool.and_eq_true, decide_eq_true_eq, Bool.not_eq_true', decide_eq_false_iff_not, by_primes hm]
  have e1 : leftP ns m = [] ↔ (∀ q : Int, (q = 4 ∨ (3 ≤ q ∧ q ≤ m ∧ ∀ d, 2 ≤ d → d < q → ¬ d ∣ q)) → ∃ n ∈ ns, ¬ n % q < 2) := by
    unfold leftP
    rw [List.filter_eq_nil_iff]
    have key : ∀ q : Int, (¬ decide (ns.filter (fun n => decide (1 < n % q)) = []) = true) ↔ ∃ n ∈ ns, ¬ n % q < 2 := fun q => by
      rw [decide_eq_true_eq, List.filter_eq_nil_iff]
      constructor
      · intro h
        apply Classical.byContradiction
        intro hno
        refine h fun n hn => ?_
        rw [decide_eq_true_eq]
        intro e
        exact hno ⟨n, hn, by omega⟩
      · rintro ⟨n, hn, e⟩ h
        have := h n hn
        rw [decide_eq_true_eq] at this
        omega
    constructor
    · intro h q hq
      refine (key q).mp (h q ?_)
      rcases hq with rfl | ⟨q1, q2, q3⟩
      · exact List.mem_cons_self
      · exact List.mem_cons_of_mem _ (List.mem_filter.mpr ⟨mem_rgI.mpr ⟨q1, by omega⟩, (primB_iff q1).mpr q3⟩)
    · intro h q hq
      refine (key q).mpr (h q ?_)
      rcases List.mem_cons.mp hq with rfl | hq
      · exact .inl rfl
      · obtain ⟨a, b⟩ := List.mem_filter.mp hq
        have := mem_rgI.mp a
        exact .inr ⟨this.1, by omega, (primB_iff this.1).mp b⟩
  rw [e1]
  refine and_congr Iff.rfl ?_
  rw [List.filter_eq_nil_iff]
  constructor
  · intro h
    apply Classical.byContradiction
    intro hno
    refine h fun n hn hp => hno ⟨n, hn, ?_⟩
    simpa using hp
  · rintro ⟨n, hn, n0, n1⟩ h
    exact h n hn (by simp [n0, n1])
/-- two neighbours of a count, and it, force -/
theorem three_for (n : Int) : forB [n, n + 1, n - 1] = true := forB_iff.mpr fun d hd => by
  apply Classical.byContradiction
  intro hno
  have hall : ∀ x ∈ [n, n + 1, n - 1], x % d < 2 := fun x hx => Classical.byContradiction fun e => hno ⟨x, hx, e⟩
  have key : ∀ x : Int, d ∣ x → 0 < x → x < 3 → False := fun x hx h0 h3 => by
    have := Int.le_of_dvd h0 hx
    omega
  have sub : ∀ x y : Int, d ∣ x → d ∣ y → 0 < x - y → x - y < 3 → False := fun x y a b h0 h3 => key _ (Int.dvd_sub a b) h0 h3
  rcases mod_dvd hd (hall (n + 1) (by simp)) with a | a
  · rcases mod_dvd hd (hall (n - 1) (by simp)) with b | b
    · exact sub _ _ a b (by omega) (by omega)
    · rcases mod_dvd hd (hall n (by simp)) with c | c
      · exact sub _ _ a c (by omega) (by omega)
      · exact sub _ _ a c (by omega) (by omega)
  · rcases mod_dvd hd (hall (n - 1) (by simp)) with b | b
    · exact sub _ _ a b (by omega) (by omega)
    · exact sub _ _ a b (by omega) (by omega)
theorem one_for (n : Int) : forB [n] = ((n == 2) || (n == -1)) := by
  rw [Bool.eq_iff_iff, forB_iff, Bool.or_eq_true, beq_iff_eq, beq_iff_eq]
  constructor
  · intro h
    by_cases h0 : n = 0 ∨ n = 1
    · obtain ⟨x, hx, e⟩ := h 3 (by decide)
      rw [List.mem_singleton.mp hx] at e
      omega
    · by_cases h2 : 2 < n
      · obtain ⟨x, hx, e⟩ := h n h2
        rw [List.mem_singleton.mp hx, Int.emod_self] at e
        omega
      · by_cases h3 : n < -1
        · obtain ⟨x, hx, e⟩ := h (1 - n) (by omega)
          rw [List.mem_singleton.mp hx] at e
          have : n % (1 - n) = 1 := by
            have h5 := Int.add_mul_emod_self_left 1 (1 - n) (-1)
            rw [show 1 + (1 - n) * (-1) = n by omega] at h5
            rw [h5]
            exact Int.emod_eq_of_lt (by omega) (by omega)
          omega
        · omega
  · rintro (rfl | rfl) d hd
    · refine ⟨2, by simp, ?_⟩
      rw [Int.emod_eq_of_lt (by omega) hd]; omega
    · refine ⟨-1, by simp, ?_⟩
      have : (-1 : Int) % d = d - 1 := by
        rw [show (-1 : Int) = (d - 1) + d * (-1) by omega, Int.add_mul_emod_self_left]
        exact Int.emod_eq_of_lt (by omega) (by omega)
      omega
end Dl
/-! Groups, powers, couples: plainly. -/
namespace Dl
class Gp (G : Type) where
  mul : G → G → G
  one : G
  inv : G → G
  assoc : ∀ a b c, mul (mul a b) c = mul a (mul b c)
  one_mul : ∀ a, mul one a = a
  mul_one : ∀ a, mul a one = a
  inv_mul : ∀ a, mul (inv a) a = one
  mul_inv : ∀ a, mul a (inv a) = one
instance gpMul {G : Type} [Gp G] : Mul G := ⟨Gp.mul⟩
section
variable {G : Type} [Gp G] {a b c x y : G} {m n k : Int}
abbrev gone : G := Gp.one
theorem gassoc : a * b * c = a * (b * c) := Gp.assoc a b c
theorem gone_mul : (Gp.one : G) * a = a := Gp.one_mul a
theorem gmul_one : a * Gp.one = a := Gp.mul_one a
theorem ginv_mul : Gp.inv a * a = Gp.one := Gp.inv_mul a
theorem gmul_inv : a * Gp.inv a = Gp.one := Gp.mul_inv a
theorem gcancel_l (h : a * b = a * c) : b = c := by
  have := congrArg (Gp.inv a * ·) h
  simp only [← gassoc, ginv_mul, gone_mul] at this
  exact this
theorem gcancel_r (h : b * a = c * a) : b = c := by
  have := congrArg (· * Gp.inv a) h
  simp only [gassoc, gmul_inv, gmul_one] at this
  exact this
theorem ginv_eq (h : a * b = Gp.one) : b = Gp.inv a := gcancel_l (a := a) (by rw [h, gmul_inv])
theorem ginv_inv : Gp.inv (Gp.inv a) = a := (ginv_eq ginv_mul).symm
theorem gmul_inv_rev : Gp.inv (a * b) = Gp.inv b * Gp.inv a := (ginv_eq (by rw [gassoc, ← gassoc (a := b), gmul_inv, gone_mul, gmul_inv])).symm
theorem gone_inv : Gp.inv (Gp.one : G) = Gp.one := (ginv_eq gone_mul).symm
theorem ginv_inj (h : Gp.inv a = Gp.inv b) : a = b := by rw [← ginv_inv (a := a), h, ginv_inv]
def npw (a : G) : Nat → G
  | 0 => Gp.one
  | n + 1 => npw a n * a
def zpw (a : G) : Int → G
  | .ofNat n => npw a n
  | .negSucc n => Gp.inv (npw a (n + 1))
theorem npw_succ' (n : Nat) : npw a (n + 1) = a * npw a n := by
  induction n with
  | zero => simp only [npw, gone_mul, gmul_one]
  | succ n ih =>
    rw [show npw a (n + 1 + 1) = npw a (n + 1) * a from rfl, ih, gassoc, ← ih]
    rfl
theorem zpw_nat (n : Nat) : zpw a (n : Int) = npw a n := rfl
theorem zpw_zero : zpw a 0 = Gp.one := rfl
theorem zpw_one : zpw a 1 = a := by show npw a 1 = a; simp only [npw, gone_mul]
theorem zpw_succ (n : Int) : zpw a (n + 1) = zpw a n * a := by
  cases n with
  | ofNat n => rfl
  | negSucc n =>
    cases n with
    | zero =>
      show zpw a 0 = Gp.inv (npw a 1) * a
      simp only [npw, gone_mul, ginv_mul]; rfl
    | succ n =>
      have e : Int.negSucc (n + 1) + 1 = Int.negSucc n := rfl
      rw [e]
      show Gp.inv (npw a (n + 1)) = Gp.inv (npw a (n + 1 + 1)) * a
      rw [npw_succ' (n + 1), gmul_inv_rev, gassoc, ginv_mul, gmul_one]
theorem zpw_pred (n : Int) : zpw a (n - 1) = zpw a n * Gp.inv a := by
  have := zpw_succ (a := a) (n - 1)
  rw [Int.sub_add_cancel] at this
  rw [this, gassoc, gmul_inv, gmul_one]
/-- integers, from 0 up and down -/
theorem zind {P : Int → Prop} (h0 : P 0) (hs : ∀ n, P n → P (n + 1)) (hp : ∀ n, P n → P (n - 1)) : ∀ n, P n := by
  have up : ∀ n : Nat, P (n : Int) := fun n => by
    induction n with
    | zero => exact h0
    | succ n ih => exact hs _ ih
  have dn : ∀ n : Nat, P (-(n : Int)) := fun n => by
    induction n with
    | zero => exact h0
    | succ n ih =>
      have := hp _ ih
      rwa [show -(n : Int) - 1 = -((n + 1 : Nat) : Int) by omega] at this
  intro n
  rcases Int.le_total 0 n with h | h
  · have := up n.toNat; rwa [Int.toNat_of_nonneg h] at this
  · have := dn (-n).toNat; rwa [Int.toNat_of_nonneg (by omega), Int.neg_neg] at this
theorem zpw_add : zpw a (m + n) = zpw a m * zpw a n := by
  revert n
  show ∀ n : Int, _
  refine zind ?_ (fun n ih => ?_) fun n ih => ?_
  · rw [Int.add_zero, zpw_zero, gmul_one]
  · rw [← Int.add_assoc, zpw_succ, ih, zpw_succ, gassoc]
  · rw [show m + (n - 1) = m + n - 1 by omega, zpw_pred, ih, zpw_pred, gassoc]
theorem zpw_neg : zpw a (-n) = Gp.inv (zpw a n) := ginv_eq (by rw [← zpw_add, Int.add_right_neg, zpw_zero])
theorem zpw_sub : zpw a (m - n) = zpw a m * Gp.inv (zpw a n) := by rw [Int.sub_eq_add_neg, zpw_add, zpw_neg]
theorem zpw_comm_self : zpw a m * zpw a n = zpw a n * zpw a m := by rw [← zpw_add, ← zpw_add, Int.add_comm]
theorem one_zpw : zpw (Gp.one : G) n = Gp.one := by
  revert n
  show ∀ n : Int, _
  refine zind rfl (fun n ih => ?_) fun n ih => ?_
  · rw [zpw_succ, ih, gmul_one]
  · rw [zpw_pred, ih, gone_inv, gmul_one]
theorem zpw_mul : zpw (zpw a m) n = zpw a (m * n) := by
  revert n
  show ∀ n : Int, _
  refine zind ?_ (fun n ih => ?_) fun n ih => ?_
  · rw [Int.mul_zero]; rfl
  · rw [zpw_succ, ih, Int.mul_add, Int.mul_one, zpw_add]
  · rw [zpw_pred, ih, Int.mul_sub, Int.mul_one, zpw_sub]
theorem inv_zpw : zpw (Gp.inv a) n = Gp.inv (zpw a n) := by
  have e : Gp.inv a = zpw a (-1) := by rw [zpw_neg, zpw_one]
  rw [e, zpw_mul, ← zpw_neg]; congr 1; omega
def Cm (a b : G) : Prop := a * b = b * a
theorem Cm.symm (h : Cm a b) : Cm b a := Eq.symm h
theorem Cm.one_l : Cm (Gp.one : G) a := by unfold Cm; rw [gone_mul, gmul_one]
theorem Cm.one_r : Cm a (Gp.one : G) := Cm.one_l.symm
theorem Cm.mul_r (h : Cm a b) (h2 : Cm a c) : Cm a (b * c) := by unfold Cm at *; rw [← gassoc, h, gassoc, h2, gassoc]
theorem Cm.mul_l (h : Cm a c) (h2 : Cm b c) : Cm (a * b) c := (h.symm.mul_r h2.symm).symm
theorem Cm.inv_r (h : Cm a b) : Cm a (Gp.inv b) := by
  unfold Cm at *
  refine gcancel_r (a := b) ?_
  rw [gassoc, ginv_mul, gmul_one, gassoc, h, ← gassoc, ginv_mul, gone_mul]
theorem Cm.inv_l (h : Cm a b) : Cm (Gp.inv a) b := h.symm.inv_r.symm
theorem Cm.zpw_r (h : Cm a b) : Cm a (zpw b n) := by
  revert n
  show ∀ n : Int, _
  refine zind Cm.one_r (fun n ih => ?_) fun n ih => ?_
  · rw [zpw_succ]; exact ih.mul_r h
  · rw [zpw_pred]; exact ih.mul_r h.inv_r
theorem Cm.zpw_l (h : Cm a b) : Cm (zpw a n) b := h.symm.zpw_r.symm
theorem Cm.zpw (h : Cm a b) : Cm (zpw a m) (Dl.zpw b n) := h.zpw_l.zpw_r
theorem Cm.refl : Cm a a := rfl
theorem mul_zpw (h : Cm a b) : zpw (a * b) n = zpw a n * zpw b n := by
  revert n
  show ∀ n : Int, _
  refine zind ?_ (fun n ih => ?_) fun n ih => ?_
  · rw [zpw_zero, zpw_zero, zpw_zero, gone_mul]
  · have : Cm (Dl.zpw b n) a := h.symm.zpw_l
    rw [zpw_succ, ih, zpw_succ, zpw_succ, gassoc, ← gassoc (a := Dl.zpw b n), this, gassoc, gassoc]
  · have : Cm (Dl.zpw b n) (Gp.inv a) := h.symm.zpw_l.inv_r
    have h2 : Gp.inv (a * b) = Gp.inv a * Gp.inv b := by rw [gmul_inv_rev]; exact h.symm.inv_l.inv_r
    rw [zpw_pred, ih, zpw_pred, zpw_pred, h2, gassoc, ← gassoc (a := Dl.zpw b n), this, gassoc, gassoc]
/-! ### couples -/
/-- the loop and the split loops are the same -/
def Su (x y : G) (n : Int) : Prop := zpw (x * y) n = zpw x n * zpw y n
/-- a round: it and the next one suit -/
def Rd (x y : G) (n : Int) : Prop := Su x y n ∧ Cm (zpw x n) y
theorem su_zero : Su x y 0 := by unfold Su; rw [zpw_zero, zpw_zero, zpw_zero, gone_mul]
theorem su_one : Su x y 1 := by unfold Su; rw [zpw_one, zpw_one, zpw_one]
theorem su_next (h : Su x y n) : Su x y (n + 1) ↔ Cm (zpw x n) y := by
  unfold Su Cm at *
  constructor
  · intro e
    have e1 : zpw (x * y) (n + 1) = x * y * (zpw x n * zpw y n) := by rw [← h, Int.add_comm, zpw_add, zpw_one]
    have e2 : zpw x (n + 1) * zpw y (n + 1) = x * zpw x n * y * zpw y n := by
      rw [Int.add_comm, zpw_add, zpw_add, zpw_one, zpw_one]; simp only [gassoc]
    rw [e1, e2] at e
    simp only [← gassoc] at e
    have e3 := gcancel_r e
    simp only [gassoc] at e3
    exact (gcancel_l e3).symm
  · intro e
    have e1 : zpw (x * y) (n + 1) = x * y * (zpw x n * zpw y n) := by rw [← h, Int.add_comm, zpw_add, zpw_one]
    have e2 : zpw x (n + 1) * zpw y (n + 1) = x * zpw x n * y * zpw y n := by
      rw [Int.add_comm, zpw_add, zpw_add, zpw_one, zpw_one]; simp only [gassoc]
    rw [e1, e2]
    simp only [gassoc]
    rw [← gassoc (a := y), ← e, gassoc]
theorem su_shift (h : Rd x y n) : Su x y (m + n) ↔ Su x y m := by
  obtain ⟨h1, h2⟩ := h
  unfold Su at *
  have hc : Cm (zpw x n) (zpw y m) := h2.zpw_r
  have e2 : zpw x (m + n) * zpw y (m + n) = zpw x m * zpw y m * (zpw x n * zpw y n) := by
    rw [zpw_add, zpw_add, gassoc, ← gassoc (a := zpw x n), hc]
    simp only [gassoc]
  rw [zpw_add, h1, e2]
  exact ⟨fun e => gcancel_r e, fun e => by rw [e]⟩
theorem rd_zero : Rd x y 0 := ⟨su_zero, by rw [zpw_zero]; exact Cm.one_l⟩
theorem rd_iff : Rd x y n ↔ Su x y n ∧ Su x y (n + 1) := ⟨fun h => ⟨h.1, (su_next h.1).mpr h.2⟩, fun h => ⟨h.1, (su_next h.1).mp h.2⟩⟩
theorem rd_add (h : Rd x y n) : Rd x y (m + n) ↔ Rd x y m := by
  rw [rd_iff, rd_iff, su_shift h, show m + n + 1 = (m + 1) + n by omega, su_shift h]
theorem rd_neg (h : Rd x y n) : Rd x y (-n) := by
  have := rd_add (m := -n) h
  rw [Int.add_left_neg] at this
  exact this.mp rd_zero
theorem rd_mul (h : Rd x y n) : Rd x y (k * n) := by
  revert k
  show ∀ k : Int, _
  refine zind ?_ (fun k ih => ?_) fun k ih => ?_
  · rw [Int.zero_mul]; exact rd_zero
  · rw [Int.add_mul, Int.one_mul]; exact (rd_add h).mpr ih
  · rw [Int.sub_mul, Int.one_mul, Int.sub_eq_add_neg]; exact (rd_add (rd_neg h)).mpr ih
theorem rd_dvd (h : Rd x y n) (d : n ∣ m) : Rd x y m := by
  obtain ⟨k, rfl⟩ := d
  rw [Int.mul_comm]; exact rd_mul h
theorem rd_of (h1 : zpw x n = Gp.one) (h2 : zpw y n = Gp.one) (h3 : zpw (x * y) n = Gp.one) : Rd x y n :=
  ⟨by unfold Su; rw [h1, h2, h3, gone_mul], by rw [h1]; exact Cm.one_l⟩
theorem su_mod (h : Rd x y n) : Su x y (m % n) ↔ Su x y m := by
  have := su_shift (m := m % n) (rd_mul (k := m / n) h)
  rwa [show m % n + m / n * n = m by rw [Int.mul_comm]; exact Int.emod_add_mul_ediv m n, iff_comm] at this
/-- the round of a couple: all rounds are its multiples -/
theorem rd_least {N : Int} (h0 : 0 < N) (h : Rd x y N) : ∃ d : Int, 0 < d ∧ d ∣ N ∧ ∀ n, Rd x y n ↔ d ∣ n := by
  have ex : ∃ k : Nat, 0 < k ∧ Rd x y (k : Int) := ⟨N.toNat, by omega, by rw [Int.toNat_of_nonneg (by omega)]; exact h⟩
  have : ∃ k : Nat, (0 < k ∧ Rd x y (k : Int)) ∧ ∀ j : Nat, 0 < j ∧ Rd x y (j : Int) → k ≤ j := by
    have key : ∀ n : Nat, (∃ k : Nat, k ≤ n ∧ 0 < k ∧ Rd x y (k : Int)) → ∃ k : Nat, (0 < k ∧ Rd x y (k : Int)) ∧ ∀ j : Nat, 0 < j ∧ Rd x y (j : Int) → k ≤ j := by
      intro n
      induction n with
      | zero => rintro ⟨k, a, b, _⟩; omega
      | succ n ih =>
        intro hk
        by_cases h2 : ∃ k : Nat, k ≤ n ∧ 0 < k ∧ Rd x y (k : Int)
        · exact ih h2
        · obtain ⟨k, a, b, c⟩ := hk
          refine ⟨k, ⟨b, c⟩, fun j hj => Classical.byContradiction fun z => h2 ⟨j, by omega, hj.1, hj.2⟩⟩
    obtain ⟨k, a, b⟩ := ex
    exact key k ⟨k, Nat.le_refl _, a, b⟩
  obtain ⟨k, ⟨k0, hk⟩, hmin⟩ := this
  have all : ∀ n, Rd x y n ↔ (k : Int) ∣ n := fun n => by
    constructor
    · intro hn
      have h1 : Rd x y (n % (k : Int)) := by
        have := rd_add (m := n) (rd_mul (k := -(n / (k : Int))) hk)
        rw [show n + -(n / (k : Int)) * (k : Int) = n % (k : Int) by rw [Int.neg_mul, ← Int.sub_eq_add_neg, Int.mul_comm, ← Int.emod_def]] at this
        exact this.mpr hn
      have m0 := Int.emod_nonneg n (show (k : Int) ≠ 0 by omega)
      have m1 := Int.emod_lt_of_pos n (show (0 : Int) < k by omega)
      apply Classical.byContradiction
      intro hno
      have : n % (k : Int) ≠ 0 := fun z => hno (Int.dvd_of_emod_eq_zero z)
      have := hmin (n % (k : Int)).toNat ⟨by omega, by rw [Int.toNat_of_nonneg m0]; exact h1⟩
      omega
    · exact fun hn => rd_dvd hk hn
  exact ⟨k, by omega, (all N).mp h, all⟩
/-! exchanged, undone -/
theorem su_swap : Su y x n ↔ Su x y (1 - n) := by
  have e0 : zpw (y * x) n = y * zpw (x * y) (n - 1) * x := by
    revert n
    show ∀ n : Int, _
    refine zind ?_ (fun n ih => ?_) fun n ih => ?_
    · rw [zpw_zero, show (0 : Int) - 1 = -1 by rfl, zpw_neg, zpw_one, gmul_inv_rev, ← gassoc, gmul_inv, gone_mul, ginv_mul]
    · rw [zpw_succ, ih, show n + 1 - 1 = (n - 1) + 1 by omega, zpw_succ]; simp only [gassoc]
    · rw [zpw_pred (a := y * x) n, ih, zpw_pred (a := x * y) (n - 1), gmul_inv_rev, gmul_inv_rev]
      simp only [gassoc]
      rw [← gassoc (a := x) (b := Gp.inv x), gmul_inv, gone_mul, ginv_mul, gmul_one]
  unfold Su
  rw [e0]
  have e1 : zpw y n * zpw x n = y * (zpw y (n - 1) * zpw x (n - 1)) * x := by
    rw [show zpw y n = y * zpw y (n - 1) by rw [show n = 1 + (n - 1) by omega, zpw_add, zpw_one, show 1 + (n - 1) - 1 = n - 1 by omega], show zpw x n = zpw x (n - 1) * x by rw [← zpw_succ, Int.sub_add_cancel]]
    simp only [gassoc]
  rw [e1]
  have e2 : zpw (x * y) (1 - n) = Gp.inv (zpw (x * y) (n - 1)) := by rw [← zpw_neg]; congr 1; omega
  have e3 : zpw x (1 - n) * zpw y (1 - n) = Gp.inv (zpw y (n - 1) * zpw x (n - 1)) := by
    rw [gmul_inv_rev, ← zpw_neg, ← zpw_neg]; congr 2 <;> omega
  rw [e2, e3]
  exact ⟨fun h => congrArg _ (gcancel_l (gcancel_r h)), fun h => by rw [ginv_inj h]⟩
theorem su_undo : Su (Gp.inv y) (Gp.inv x) n ↔ Su x y n := by
  unfold Su
  rw [← gmul_inv_rev, inv_zpw, inv_zpw, inv_zpw, ← gmul_inv_rev]
  exact ⟨fun h => ginv_inj h, fun h => by rw [h]⟩
end
end Dl
/-! Primes, prime powers, the reduction by primes: plainly. -/
namespace Dl
def Pr (p : Nat) : Prop := 2 ≤ p ∧ ∀ e, e ∣ p → e = 1 ∨ e = p
/-- the least divisor from 2 on -/
structure Fp (n p : Nat) : Prop where
  two : 2 ≤ p
  dvd : p ∣ n
  min : ∀ e, 2 ≤ e → e < p → ¬ e ∣ n
theorem Fp.pr {n p : Nat} (h : Fp n p) : Pr p := by
  refine ⟨h.two, fun e he => ?_⟩
  by_cases h1 : e = 1
  · exact .inl h1
  · refine .inr ?_
    have e0 : e ≠ 0 := fun z => by subst z; have := Nat.eq_zero_of_zero_dvd he; have := h.two; omega
    have hle := Nat.le_of_dvd (by have := h.two; omega) he
    apply Classical.byContradiction
    intro hne
    exact h.min e (by omega) (by omega) (Nat.dvd_trans he h.dvd)
theorem fp_ex {n : Nat} (h : 2 ≤ n) : ∃ p, Fp n p := by
  have key : ∀ k, (∃ p, p ≤ k ∧ 2 ≤ p ∧ p ∣ n) → ∃ p, Fp n p := by
    intro k
    induction k with
    | zero => rintro ⟨p, a, b, _⟩; omega
    | succ k ih =>
      intro hp
      by_cases h2 : ∃ p, p ≤ k ∧ 2 ≤ p ∧ p ∣ n
      · exact ih h2
      · obtain ⟨p, a, b, c⟩ := hp
        exact ⟨p, b, c, fun e e2 ep he => h2 ⟨e, by omega, e2, he⟩⟩
  exact key n ⟨n, Nat.le_refl _, h, Nat.dvd_refl _⟩
theorem Fp.uniq {n p q : Nat} (h : Fp n p) (g : Fp n q) : p = q := by
  rcases Nat.lt_trichotomy p q with z | z | z
  · exact absurd h.dvd (g.min p h.two z)
  · exact z
  · exact absurd g.dvd (h.min q g.two z)
theorem pr_mul {p a b : Nat} (h : Pr p) (d : p ∣ a * b) : p ∣ a ∨ p ∣ b := by
  by_cases c : p ∣ a
  · exact .inl c
  · refine .inr (Nat.Coprime.dvd_of_dvd_mul_left ?_ d)
    rcases h.2 _ (Nat.gcd_dvd_left p a) with e | e
    · exact e
    · exact absurd (by have := Nat.gcd_dvd_right p a; rwa [e] at this) c
theorem pr_pow {p a k : Nat} (h : Pr p) (d : p ∣ a ^ k) : p ∣ a := by
  induction k with
  | zero =>
    have := Nat.le_of_dvd (show 0 < 1 by decide) (show p ∣ 1 by rwa [Nat.pow_zero] at d)
    have := h.1
    omega
  | succ k ih =>
    rw [Nat.pow_succ] at d
    rcases pr_mul h d with e | e
    · exact ih e
    · exact e
theorem pr_dvd {p q : Nat} (h : Pr p) (g : Pr q) (d : p ∣ q) : p = q := by
  rcases g.2 p d with e | e
  · have := h.1; omega
  · exact e
def prodN : List Nat → Nat
  | [] => 1
  | a :: l => a * prodN l
theorem prodN_app : ∀ (l m : List Nat), prodN (l ++ m) = prodN l * prodN m
  | [], _ => by simp [prodN]
  | a :: l, m => by simp [prodN, prodN_app l m, Nat.mul_assoc]
theorem pr_prod {p : Nat} (h : Pr p) : ∀ {l : List Nat}, p ∣ prodN l → ∃ q ∈ l, p ∣ q
  | [], d => by
    have := Nat.le_of_dvd (by decide) (show p ∣ 1 from d)
    have := h.1
    omega
  | a :: l, d => by
    rcases pr_mul h (show p ∣ a * prodN l from d) with e | e
    · exact ⟨a, List.mem_cons_self, e⟩
    · obtain ⟨q, hq, hd⟩ := pr_prod h e
      exact ⟨q, List.mem_cons_of_mem _ hq, hd⟩
/-- q is a power of the prime p -/
def Pw (p q : Nat) : Prop := Pr p ∧ ∃ k, 0 < k ∧ q = p ^ k
theorem Pw.dvd {p q : Nat} (h : Pw p q) : p ∣ q := by
  obtain ⟨_, k, k0, rfl⟩ := h
  obtain ⟨j, rfl⟩ := Nat.exists_eq_succ_of_ne_zero (show k ≠ 0 by omega)
  exact ⟨p ^ j, by rw [Nat.pow_succ, Nat.mul_comm]⟩
theorem Pw.pos {p q : Nat} (h : Pw p q) : 2 ≤ q := by
  obtain ⟨hp, k, k0, rfl⟩ := h
  have h1 : p ^ 1 ≤ p ^ k := Nat.pow_le_pow_right (by have := hp.1; omega) k0
  have := hp.1
  rw [Nat.pow_one] at h1
  omega
theorem Pw.only {p q e : Nat} (h : Pw p q) (he : Pr e) (d : e ∣ q) : e = p := by
  obtain ⟨hp, k, k0, rfl⟩ := h
  exact pr_dvd he hp (pr_pow he d)
theorem Pw.fp {p q e : Nat} (h : Pw p q) (g : Fp q e) : e = p := h.only g.pr g.dvd
/-- the prime powers of N, by rising primes -/
structure PP (N : Nat) (l : List Nat) : Prop where
  prod : prodN l = N
  pw : ∀ q ∈ l, ∃ p, Pw p q
  asc : l.Pairwise fun a b => ∀ p q, Pw p a → Pw q b → p < q
theorem PP.prime {N : Nat} {l : List Nat} (h : PP N l) {p : Nat} (hp : Pr p) (d : p ∣ N) : ∃ q ∈ l, p ∣ q ∧ ∀ e, Fp q e → e = p := by
  rw [← h.prod] at d
  obtain ⟨q, hq, hd⟩ := pr_prod hp d
  obtain ⟨e, he⟩ := h.pw q hq
  have := he.only hp hd
  subst this
  exact ⟨q, hq, hd, fun e2 h2 => he.fp h2⟩
/-- what stands in prime_powers' loop: found, what is left, the next prime -/
structure PPs (N : Nat) (l : List Nat) (n p : Nat) : Prop where
  prod : prodN l * n = N
  pw : ∀ q ∈ l, ∃ e, Pw e q ∧ e < p
  asc : l.Pairwise fun a b => ∀ p q, Pw p a → Pw q b → p < q
  left : ∀ e, 2 ≤ e → e < p → ¬ e ∣ n
  two : 2 ≤ p
  pos : 0 < n
theorem Pw.uniq {p e q : Nat} (h : Pw p q) (g : Pw e q) : e = p := h.only g.1 g.dvd
theorem pps_start {N : Nat} (h : 0 < N) : PPs N [] N 2 := ⟨by simp [prodN], by simp, by simp, fun e a b => by omega, by decide, h⟩
theorem pps_end {N n p : Nat} {l : List Nat} (h : PPs N l n p) (h1 : n ≤ 1) : PP N l := by
  have : n = 1 := by have := h.pos; omega
  subst this
  exact ⟨by have := h.prod; omega, fun q hq => by obtain ⟨e, he, _⟩ := h.pw q hq; exact ⟨e, he⟩, h.asc⟩
/-- a prime is taken out whole -/
theorem pps_take {N n n' p k : Nat} {l : List Nat} (h : PPs N l n p) (hk : 0 < k) (e : n = n' * p ^ k) (hn : ¬ p ∣ n') : PPs N (l ++ [p ^ k]) n' (p + 1) := by
  have hpn : p ∣ n := by
    obtain ⟨j, rfl⟩ := Nat.exists_eq_succ_of_ne_zero (show k ≠ 0 by omega)
    exact ⟨n' * p ^ j, by rw [e, Nat.pow_succ]; simp [Nat.mul_comm, Nat.mul_left_comm]⟩
  have hp : Pr p := Fp.pr ⟨h.two, hpn, h.left⟩
  have hw : Pw p (p ^ k) := ⟨hp, k, hk, rfl⟩
  refine ⟨?_, fun q hq => ?_, ?_, fun d d2 dp hd => ?_, by have := h.two; omega, ?_⟩
  · rw [prodN_app]
    simp only [prodN, Nat.mul_one]
    rw [← h.prod, e, Nat.mul_assoc, Nat.mul_comm (p ^ k)]
  · rcases List.mem_append.mp hq with hq | hq
    · obtain ⟨e, he, hlt⟩ := h.pw q hq
      exact ⟨e, he, by omega⟩
    · rw [List.mem_singleton.mp hq]
      exact ⟨p, hw, by omega⟩
  · refine List.pairwise_append.mpr ⟨h.asc, by simp, fun a ha b hb r s hr hs => ?_⟩
    rw [List.mem_singleton.mp hb] at hs
    obtain ⟨e, he, hlt⟩ := h.pw a ha
    have h1 := he.uniq hr
    have h2 := hw.uniq hs
    omega
  · by_cases z : d = p
    · subst z; exact hn hd
    · exact h.left d d2 (by omega) (by rw [e]; exact Nat.dvd_trans hd ⟨_, rfl⟩)
  · have := h.pos
    rw [e] at this
    exact Nat.pos_of_mul_pos_right this
theorem pps_skip {N n p : Nat} {l : List Nat} (h : PPs N l n p) (hn : ¬ p ∣ n) : PPs N l n (p + 1) :=
  ⟨h.prod, fun q hq => by obtain ⟨e, he, hlt⟩ := h.pw q hq; exact ⟨e, he, by omega⟩, h.asc, fun d d2 dp hd => by
    by_cases z : d = p
    · subst z; exact hn hd
    · exact h.left d d2 (by omega) hd, by have := h.two; omega, h.pos⟩
theorem pps_le {N n p : Nat} {l : List Nat} (h : PPs N l n p) (h1 : 1 < n) : p ≤ n := by
  apply Classical.byContradiction
  intro z
  exact h.left n (by omega) (by omega) (Nat.dvd_refl n)
/-! the reduction -/
/-- the primes of the first parts are out -/
structure Red (N d : Nat) (l : List Nat) (f : Nat) : Prop where
  pos : 0 < f
  up : f ∣ N
  dn : d ∣ f
  out : ∀ q ∈ l, ∀ p, Pr p → p ∣ q → ¬ (p ∣ f ∧ d ∣ f / p)
theorem red_start {N d : Nat} (h : 0 < N) (hd : d ∣ N) : Red N d [] N := ⟨h, Nat.dvd_refl _, hd, by simp⟩
theorem red_step {N d f p : Nat} {l : List Nat} (h : Red N d l f) (hp : p ∣ f) (hd : d ∣ f / p) (p0 : 0 < p) : Red N d l (f / p) := by
  obtain ⟨k, rfl⟩ := hp
  rw [Nat.mul_div_cancel_left _ p0] at hd ⊢
  refine ⟨Nat.pos_of_mul_pos_left h.pos, Nat.dvd_trans ⟨p, by rw [Nat.mul_comm]⟩ h.up, hd, fun q hq e he heq ⟨z1, z2⟩ => ?_⟩
  obtain ⟨j, rfl⟩ := z1
  have e0 : 0 < e := by have := he.1; omega
  refine h.out q hq e he heq ⟨⟨p * j, by simp [Nat.mul_comm, Nat.mul_left_comm]⟩, ?_⟩
  rw [Nat.mul_div_cancel_left _ e0] at z2
  rw [show p * (e * j) = e * (p * j) by simp [Nat.mul_comm, Nat.mul_left_comm], Nat.mul_div_cancel_left _ e0]
  exact Nat.dvd_trans z2 ⟨p, by rw [Nat.mul_comm]⟩
theorem red_snoc {N d f p q : Nat} {l : List Nat} (h : Red N d l f) (hw : ∀ e, Pr e → e ∣ q → e = p) (hn : ¬ (p ∣ f ∧ d ∣ f / p)) : Red N d (l ++ [q]) f :=
  ⟨h.pos, h.up, h.dn, fun r hr e he her => by
    rcases List.mem_append.mp hr with hr | hr
    · exact h.out r hr e he her
    · rw [List.mem_singleton.mp hr] at her
      rw [hw e he her]; exact hn⟩
theorem red_end {N d f : Nat} {l : List Nat} (P : PP N l) (h : Red N d l f) : f = d := by
  obtain ⟨k, rfl⟩ := h.dn
  have hd0 : 0 < d := Nat.pos_of_mul_pos_right h.pos
  have hk0 : 0 < k := Nat.pos_of_mul_pos_left h.pos
  by_cases h1 : k = 1
  · subst h1; rw [Nat.mul_one]
  · exfalso
    obtain ⟨p, hp⟩ := fp_ex (n := k) (by omega)
    obtain ⟨j, rfl⟩ := hp.dvd
    have p0 : 0 < p := by have := hp.two; omega
    obtain ⟨q, hq, hpq, _⟩ := P.prime hp.pr (Nat.dvd_trans ⟨d * j, by simp [Nat.mul_comm, Nat.mul_left_comm]⟩ h.up)
    refine h.out q hq p hp.pr hpq ⟨⟨d * j, by simp [Nat.mul_comm, Nat.mul_left_comm]⟩, ?_⟩
    rw [show d * (p * j) = p * (d * j) by simp [Nat.mul_comm, Nat.mul_left_comm], Nat.mul_div_cancel_left _ p0]
    exact ⟨j, rfl⟩
theorem PP.fp {N q : Nat} {l : List Nat} (h : PP N l) (hq : q ∈ l) : ∃ p, Pw p q := h.pw q hq
theorem PP.two {N q : Nat} {l : List Nat} (h : PP N l) (hq : q ∈ l) : 2 ≤ q := by
  obtain ⟨p, hp⟩ := h.pw q hq
  exact hp.pos
theorem mem_prodN : ∀ {l : List Nat} {q : Nat}, q ∈ l → q ∣ prodN l
  | a :: l, q, h => by
    rcases List.mem_cons.mp h with rfl | h
    · exact ⟨prodN l, rfl⟩
    · exact Nat.dvd_trans (mem_prodN h) ⟨a, by show a * prodN l = _; rw [Nat.mul_comm]⟩
theorem PP.dvd {N q : Nat} {l : List Nat} (h : PP N l) (hq : q ∈ l) : q ∣ N := by rw [← h.prod]; exact mem_prodN hq
end Dl
/-! Changes of n states: lists, a group, orders. -/
namespace Dl
open PySem PySem.Spec
theorem nodup_len : ∀ (n : Nat) (l : List Nat), l.Nodup → (∀ x ∈ l, x < n) → l.length ≤ n
  | 0, [], _, _ => Nat.le_refl _
  | 0, x :: l, _, h => absurd (h x List.mem_cons_self) (by omega)
  | n + 1, l, nd, h => by
    by_cases hn : n ∈ l
    · have := nodup_len n (l.erase n) (nd.erase n) fun x hx => by
        have hx2 := (List.Nodup.mem_erase_iff nd).mp hx
        have := h x hx2.2
        have := hx2.1
        omega
      rw [List.length_erase_of_mem hn] at this
      omega
    · have := nodup_len n l nd fun x hx => by
        have := h x hx
        have : x ≠ n := fun z => hn (z ▸ hx)
        omega
      omega
theorem nodup_full {n : Nat} {l : List Nat} (nd : l.Nodup) (h : ∀ x ∈ l, x < n) (hl : l.length = n) : ∀ x, x < n → x ∈ l := fun x hx => by
  apply Classical.byContradiction
  intro hno
  have := nodup_len n (x :: l) (List.nodup_cons.mpr ⟨hno, nd⟩) fun y hy => by
    rcases List.mem_cons.mp hy with rfl | hy
    · exact hx
    · exact h y hy
  rw [List.length_cons] at this
  omega
/-- a change of n states -/
structure IsP (n : Nat) (c : List Nat) : Prop where
  len : c.length = n
  lt : ∀ x ∈ c, x < n
  nd : c.Nodup
theorem IsP.perm {n : Nat} {c : List Nat} (h : IsP n c) : c.Perm (List.range n) := (List.perm_ext_iff_of_nodup h.nd List.nodup_range).mpr fun x => ⟨fun hx => List.mem_range.mpr (h.lt x hx), fun hx => nodup_full h.nd h.lt h.len x (List.mem_range.mp hx)⟩
theorem isP_of {n : Nat} {c : List Nat} (h : c.Perm (List.range n)) : IsP n c := ⟨by rw [h.length_eq, List.length_range], fun x hx => List.mem_range.mp (h.mem_iff.mp hx), h.nodup_iff.mpr List.nodup_range⟩
def gt (c : List Nat) (s : Nat) : Nat := c.getD s 0
theorem gt_lt {c : List Nat} {s : Nat} (h : s < c.length) : gt c s = c[s] := by unfold gt; rw [List.getD_eq_getElem?_getD, List.getElem?_eq_getElem h]; rfl
theorem IsP.gt {n s : Nat} {c : List Nat} (h : IsP n c) (hs : s < n) : Dl.gt c s < n := by
  rw [gt_lt (by rw [h.len]; exact hs)]
  exact h.lt _ (List.getElem_mem _)
theorem IsP.inj {n s t : Nat} {c : List Nat} (h : IsP n c) (hs : s < n) (ht : t < n) (e : Dl.gt c s = Dl.gt c t) : s = t := by
  rw [gt_lt (by rw [h.len]; exact hs), gt_lt (by rw [h.len]; exact ht)] at e
  have hp := List.pairwise_iff_getElem.mp h.nd
  rcases Nat.lt_trichotomy s t with z | z | z
  · exact absurd e (hp s t (by rw [h.len]; exact hs) (by rw [h.len]; exact ht) z)
  · exact z
  · exact absurd e.symm (hp t s (by rw [h.len]; exact ht) (by rw [h.len]; exact hs) z)
theorem list_ext {a b : List Nat} (hl : a.length = b.length) (h : ∀ s, s < a.length → gt a s = gt b s) : a = b := by
  apply List.ext_getElem hl
  intro s h1 h2
  have := h s h1
  rwa [gt_lt h1, gt_lt h2] at this
def aft (a b : List Nat) : List Nat := a.map (gt b)
theorem aft_len (a b : List Nat) : (aft a b).length = a.length := by unfold aft; rw [List.length_map]
theorem gt_aft {a b : List Nat} {s : Nat} (h : s < a.length) : gt (aft a b) s = gt b (gt a s) := by
  rw [gt_lt (by rw [aft_len]; exact h), gt_lt (c := a) h]
  unfold aft
  rw [List.getElem_map]
theorem gt_range {n s : Nat} (h : s < n) : gt (List.range n) s = s := by rw [gt_lt (by rw [List.length_range]; exact h), List.getElem_range]
theorem isP_idle (n : Nat) : IsP n (List.range n) := isP_of (List.Perm.refl _)
theorem map_nodup {f : Nat → Nat} : ∀ {l : List Nat}, l.Nodup → (∀ x ∈ l, ∀ y ∈ l, f x = f y → x = y) → (l.map f).Nodup
  | [], _, _ => by simp
  | a :: l, nd, h => by
    obtain ⟨h1, h2⟩ := List.nodup_cons.mp nd
    rw [List.map_cons, List.nodup_cons]
    refine ⟨fun hm => ?_, map_nodup h2 fun x hx y hy => h x (List.mem_cons_of_mem _ hx) y (List.mem_cons_of_mem _ hy)⟩
    obtain ⟨y, hy, e⟩ := List.mem_map.mp hm
    have := h y (List.mem_cons_of_mem _ hy) a List.mem_cons_self e
    exact h1 (this ▸ hy)
theorem IsP.aft {n : Nat} {a b : List Nat} (ha : IsP n a) (hb : IsP n b) : IsP n (Dl.aft a b) :=
  ⟨by rw [aft_len, ha.len], fun x hx => by
    obtain ⟨s, hs, rfl⟩ := List.mem_map.mp hx
    exact hb.gt (ha.lt s hs), map_nodup ha.nd fun x hx y hy e => hb.inj (ha.lt x hx) (ha.lt y hy) e⟩
def und (c : List Nat) : List Nat := (List.range c.length).map fun t => c.idxOf t
theorem gt_und {n t : Nat} {c : List Nat} (h : IsP n c) (ht : t < n) : gt (und c) t < n ∧ gt c (gt (und c) t) = t := by
  have hm := nodup_full h.nd h.lt h.len t ht
  have hi := List.idxOf_lt_length_of_mem hm
  have e : gt (und c) t = c.idxOf t := by
    rw [gt_lt (by unfold und; rw [List.length_map, List.length_range, h.len]; exact ht)]
    unfold und
    rw [List.getElem_map, List.getElem_range]
  rw [e]
  refine ⟨by rw [← h.len]; exact hi, ?_⟩
  rw [gt_lt hi]
  exact List.getElem_idxOf hi
theorem und_len (c : List Nat) : (und c).length = c.length := by unfold und; rw [List.length_map, List.length_range]
theorem IsP.und {n : Nat} {c : List Nat} (h : IsP n c) : IsP n (Dl.und c) := by
  refine ⟨by rw [und_len, h.len], fun x hx => ?_, ?_⟩
  · obtain ⟨i, hi, rfl⟩ := List.getElem_of_mem hx
    rw [← gt_lt hi]
    exact (gt_und h (by rw [und_len, h.len] at hi; exact hi)).1
  · refine List.pairwise_iff_getElem.mpr fun i j hi hj hij e2 => ?_
    have hj' : j < n := by rw [und_len, h.len] at hj; exact hj
    rw [← gt_lt hi, ← gt_lt hj] at e2
    have h1 := (gt_und h (t := i) (by omega)).2
    have h2 := (gt_und h hj').2
    rw [e2, h2] at h1
    omega
/-- the group of changes -/
def Pm (n : Nat) := { c : List Nat // IsP n c }
theorem Pm.ext {n : Nat} {a b : Pm n} (h : ∀ s, s < n → gt a.1 s = gt b.1 s) : a = b :=
  Subtype.ext (list_ext (by rw [a.2.len, b.2.len]) fun s hs => h s (by rw [a.2.len] at hs; exact hs))
instance (n : Nat) : Gp (Pm n) where
  mul a b := ⟨aft a.1 b.1, a.2.aft b.2⟩
  one := ⟨List.range n, isP_idle n⟩
  inv a := ⟨und a.1, a.2.und⟩
  assoc a b c := Pm.ext fun s hs => by
    show gt (aft (aft a.1 b.1) c.1) s = gt (aft a.1 (aft b.1 c.1)) s
    rw [gt_aft (by rw [aft_len, a.2.len]; exact hs), gt_aft (by rw [a.2.len]; exact hs), gt_aft (by rw [a.2.len]; exact hs), gt_aft (by rw [b.2.len]; exact a.2.gt hs)]
  one_mul a := Pm.ext fun s hs => by
    show gt (aft (List.range n) a.1) s = _
    rw [gt_aft (by rw [List.length_range]; exact hs), gt_range hs]
  mul_one a := Pm.ext fun s hs => by
    show gt (aft a.1 (List.range n)) s = _
    rw [gt_aft (by rw [a.2.len]; exact hs), gt_range (a.2.gt hs)]
  inv_mul a := Pm.ext fun s hs => by
    show gt (aft (und a.1) a.1) s = gt (List.range n) s
    rw [gt_aft (by rw [und_len, a.2.len]; exact hs), (gt_und a.2 hs).2, gt_range hs]
  mul_inv a := Pm.ext fun s hs => by
    show gt (aft a.1 (und a.1)) s = gt (List.range n) s
    rw [gt_aft (by rw [a.2.len]; exact hs), gt_range hs]
    have h1 := gt_und a.2 (a.2.gt hs)
    exact a.2.inj h1.1 hs h1.2
section
variable {n : Nat} {a b c : Pm n} {s : Nat}
def Pm.at (c : Pm n) (s : Nat) : Nat := gt c.1 s
theorem pm_at_lt (hs : s < n) : c.at s < n := c.2.gt hs
theorem pm_at_mul (hs : s < n) : (a * b).at s = b.at (a.at s) := gt_aft (by rw [a.2.len]; exact hs)
theorem pm_at_one (hs : s < n) : (Gp.one : Pm n).at s = s := gt_range hs
theorem pm_inj {t : Nat} (hs : s < n) (ht : t < n) (e : c.at s = c.at t) : s = t := c.2.inj hs ht e
theorem pm_val_mul : (a * b).1 = aft a.1 b.1 := rfl
theorem pm_val_one : (Gp.one : Pm n).1 = List.range n := rfl
theorem pm_val_inv : (Gp.inv a).1 = und a.1 := rfl
theorem pm_at_get (hs : s < a.1.length) : a.1[s] = a.at s := (gt_lt hs).symm
instance : DecidableEq (Pm n) := fun a b => if h : a.1 = b.1 then isTrue (Subtype.ext h) else isFalse fun e => h (by rw [e])
end
/-! the data of a change -/
def natsL (l : List Nat) : PyData := .tuple (l.map natD)
def chD {n : Nat} (c : Pm n) : PyData := natsL c.1
def chgB (n : Nat) : PyData → Bool
  | .tuple ds => decide (ds.length = n) && ds.all (idxB n) && decide ((natsOf ds).Perm (List.range n)) && decide (n ≠ 0)
  | _ => false
def sizeD : PyData → Nat
  | .tuple ds => ds.length
  | _ => 0
def okC (v w : PyData) : Bool := chgB (sizeD v) v && chgB (sizeD v) w
theorem chg_of {n : Nat} {v : PyData} (h : chgB n v = true) : 0 < n ∧ ∃ c : Pm n, v = chD c := by
  cases v with
  | tuple ds =>
    have h2 : (decide (ds.length = n) && ds.all (idxB n) && decide ((natsOf ds).Perm (List.range n)) && decide (n ≠ 0)) = true := h
    simp only [Bool.and_eq_true, decide_eq_true_eq] at h2
    obtain ⟨⟨⟨h1, h3⟩, h4⟩, h5⟩ := h2
    obtain ⟨ks, rfl, hk⟩ := idx_all h3
    rw [natsOf_map] at h4
    exact ⟨by omega, ⟨ks, isP_of h4⟩, rfl⟩
  | _ => cases h
theorem chg_ch {n : Nat} (h : 0 < n) (c : Pm n) : chgB n (chD c) = true := by
  show (decide ((c.1.map natD).length = n) && (c.1.map natD).all (idxB n) && decide ((natsOf (c.1.map natD)).Perm (List.range n)) && decide (n ≠ 0)) = true
  rw [natsOf_map, List.length_map, decide_eq_true c.2.len, decide_eq_true c.2.perm, decide_eq_true (show n ≠ 0 by omega), Bool.true_and, Bool.and_true, Bool.and_true, List.all_map, List.all_eq_true]
  intro k hk
  show idxB n (natD k) = true
  rw [idx_nat, decide_eq_true_eq]
  exact c.2.lt k hk
theorem natD_inj {a b : Nat} (h : natD a = natD b) : a = b := by unfold natD at h; have := PyData.int.inj h; omega
theorem map_natD_inj : ∀ {a b : List Nat}, a.map natD = b.map natD → a = b
  | [], [], _ => rfl
  | [], _ :: _, h => by simp at h
  | _ :: _, [], h => by simp at h
  | x :: a, y :: b, h => by
    rw [List.map_cons, List.map_cons] at h
    injection h with h1 h2
    rw [natD_inj h1, map_natD_inj h2]
theorem chD_inj {n : Nat} {a b : Pm n} (h : chD a = chD b) : a = b := Subtype.ext (map_natD_inj (PyData.tuple.inj h))
theorem size_ch {n : Nat} (c : Pm n) : sizeD (chD c) = n := by show (c.1.map natD).length = n; rw [List.length_map, c.2.len]
theorem okC_of {v w : PyData} (h : okC v w = true) : ∃ (n : Nat) (a b : Pm n), 0 < n ∧ v = chD a ∧ w = chD b := by
  unfold okC at h
  rw [Bool.and_eq_true] at h
  obtain ⟨h0, a, ha⟩ := chg_of h.1
  obtain ⟨_, b, hb⟩ := chg_of h.2
  exact ⟨_, a, b, h0, ha, hb⟩
theorem okC_ch {n : Nat} (h : 0 < n) (a b : Pm n) : okC (chD a) (chD b) = true := by
  unfold okC
  rw [size_ch, chg_ch h, chg_ch h]; rfl
theorem eqvAll_nats : ∀ (a b : List Nat), PyData.eqvAll (a.map natD) (b.map natD) = decide (a = b)
  | [], [] => by simp [PyData.eqvAll]
  | [], _ :: _ => by simp [PyData.eqvAll]
  | _ :: _, [] => by simp [PyData.eqvAll]
  | x :: a, y :: b => by
    have h : PyData.eqv (natD x) (natD y) = decide (x = y) := by
      unfold natD
      rw [eqv_int, Bool.eq_iff_iff, beq_iff_eq, decide_eq_true_eq]; omega
    simp only [List.map_cons, PyData.eqvAll, h, eqvAll_nats a b]
    rw [Bool.eq_iff_iff, Bool.and_eq_true, decide_eq_true_eq, decide_eq_true_eq, decide_eq_true_eq, List.cons.injEq]
theorem eqv_ch {n : Nat} (a b : Pm n) : PyData.eqv (chD a) (chD b) = decide (a = b) := by
  unfold chD natsL
  simp only [PyData.eqv]
  rw [eqvAll_nats, Bool.eq_iff_iff, decide_eq_true_eq, decide_eq_true_eq]
  exact ⟨fun h => Subtype.ext h, fun h => by rw [h]⟩
end Dl
/-! Orders of changes, by the lengths of their rounds. -/
namespace Dl
open PySem PySem.Spec
section
variable {n : Nat} {c : Pm n}
def itr (c : Pm n) : Nat → Nat → Nat
  | 0, s => s
  | k + 1, s => c.at (itr c k s)
theorem itr_lt {k s : Nat} (hs : s < n) : itr c k s < n := by
  induction k with
  | zero => exact hs
  | succ k ih => exact pm_at_lt ih
theorem itr_npw {k s : Nat} (hs : s < n) : (npw c k).at s = itr c k s := by
  induction k with
  | zero => exact pm_at_one hs
  | succ k ih =>
    show (npw c k * c).at s = c.at (itr c k s)
    rw [pm_at_mul hs, ih]
theorem itr_add (a b s : Nat) : itr c (a + b) s = itr c a (itr c b s) := by
  induction a with
  | zero => rw [Nat.zero_add]; rfl
  | succ a ih => rw [Nat.succ_add]; show c.at (itr c (a + b) s) = c.at (itr c a (itr c b s)); rw [ih]
theorem itr_inj {k s t : Nat} (hs : s < n) (ht : t < n) (e : itr c k s = itr c k t) : s = t := by
  induction k with
  | zero => exact e
  | succ k ih => exact ih (pm_inj (itr_lt hs) (itr_lt ht) e)
theorem one_itr {k : Nat} : npw c k = Gp.one ↔ ∀ s, s < n → itr c k s = s := by
  constructor
  · intro h s hs
    rw [← itr_npw hs, h]
    exact pm_at_one hs
  · intro h
    refine Pm.ext fun s hs => ?_
    show (npw c k).at s = (Gp.one : Pm n).at s
    rw [itr_npw hs, h s hs]
    exact (pm_at_one hs).symm
/-- f is the order -/
def OrdD (c : Pm n) (f : Nat) : Prop := 0 < f ∧ ∀ k : Nat, npw c k = Gp.one ↔ f ∣ k
theorem OrdD.z {f : Nat} (h : OrdD c f) {z : Int} : zpw c z = Gp.one ↔ (f : Int) ∣ z := by
  cases z with
  | ofNat k =>
    show npw c k = Gp.one ↔ (f : Int) ∣ (k : Int)
    rw [h.2 k, Int.natCast_dvd_natCast]
  | negSucc k =>
    show Gp.inv (npw c (k + 1)) = Gp.one ↔ _
    rw [show Int.negSucc k = -((k + 1 : Nat) : Int) from rfl, Int.dvd_neg, Int.natCast_dvd_natCast, ← h.2]
    exact ⟨fun e => ginv_inj (by rw [e, gone_inv]), fun e => by rw [e, gone_inv]⟩
theorem OrdD.uniq {f g : Nat} (h : OrdD c f) (k : OrdD c g) : f = g :=
  Nat.dvd_antisymm ((h.2 g).mp ((k.2 g).mpr (Nat.dvd_refl g))) ((k.2 f).mp ((h.2 f).mpr (Nat.dvd_refl f)))
/-- what is seen: whole rounds -/
structure Seen (c : Pm n) (seen : List Bool) (f : Nat) : Prop where
  len : seen.length = n
  cl : ∀ s, s < n → (seen.getD (c.at s) false = true ↔ seen.getD s false = true)
  pos : 0 < f
  ord : ∀ k, (∀ s, s < n → seen.getD s false = true → itr c k s = s) ↔ f ∣ k
theorem seen_start : Seen c (List.replicate n false) 1 := by
  refine ⟨List.length_replicate, fun s hs => ?_, by decide, fun k => ⟨fun _ => Nat.one_dvd k, fun _ s hs h => ?_⟩⟩
  · have hf : ∀ t, (List.replicate n false).getD t false = false := fun t => by
      rw [List.getD_eq_getElem?_getD, List.getElem?_replicate]
      split <;> rfl
    rw [hf, hf]
  · exfalso
    simp [List.getD_eq_getElem?_getD, List.getElem?_replicate, hs] at h
/-- within a round: j states from s0 on -/
structure Rnd (c : Pm n) (seen0 : List Bool) (s0 j : Nat) (seen : List Bool) : Prop where
  len : seen.length = n
  lt : s0 < n
  new : ∀ m, m < j → seen0.getD (itr c m s0) false = false
  dis : ∀ m, 0 < m → m < j → itr c m s0 ≠ s0
  is : ∀ t, t < n → (seen.getD t false = true ↔ seen0.getD t false = true ∨ ∃ m, m < j ∧ t = itr c m s0)
theorem rnd_start {seen : List Bool} {s0 : Nat} (hl : seen.length = n) (hs : s0 < n) : Rnd c seen s0 0 seen :=
  ⟨hl, hs, fun m h => by omega, fun m a b => by omega, fun t ht => ⟨fun h => .inl h, fun h => h.elim id fun ⟨m, a, _⟩ => by omega⟩⟩
theorem Rnd.ne {seen0 seen : List Bool} {s0 j a b : Nat} (R : Rnd c seen0 s0 j seen) (hab : a < b) (hb : b < j) : itr c a s0 ≠ itr c b s0 := fun e => by
  have e2 : itr c (a + (b - a)) s0 = itr c a s0 := by rw [show a + (b - a) = b by omega]; exact e.symm
  rw [itr_add] at e2
  exact R.dis (b - a) (by omega) (by omega) (itr_inj (itr_lt R.lt) R.lt e2)
theorem Rnd.le {seen0 seen : List Bool} {s0 j : Nat} (R : Rnd c seen0 s0 j seen) : j ≤ n := by
  have := nodup_len n ((List.range j).map fun m => itr c m s0) (map_nodup List.nodup_range fun x hx y hy e => by
    have hx' := List.mem_range.mp hx
    have hy' := List.mem_range.mp hy
    rcases Nat.lt_trichotomy x y with z | z | z
    · exact absurd e (R.ne z hy')
    · exact z
    · exact absurd e.symm (R.ne z hx')) fun x hx => by
    obtain ⟨m, _, rfl⟩ := List.mem_map.mp hx
    exact itr_lt R.lt
  rwa [List.length_map, List.length_range] at this
theorem getD_set {l : List Bool} {i t : Nat} {b : Bool} (hi : i < l.length) : (l.set i b).getD t false = if t = i then b else l.getD t false := by
  rw [List.getD_eq_getElem?_getD, List.getD_eq_getElem?_getD, List.getElem?_set]
  by_cases h : i = t
  · rw [if_pos h, if_pos h.symm, if_pos (by omega)]; rfl
  · rw [if_neg h, if_neg (fun z => h z.symm)]
theorem rnd_next {seen0 seen : List Bool} {s0 j : Nat} (S : ∀ s, s < n → (seen0.getD (c.at s) false = true ↔ seen0.getD s false = true)) (R : Rnd c seen0 s0 j seen) (h : seen.getD (itr c j s0) false = false) :
    Rnd c seen0 s0 (j + 1) (seen.set (itr c j s0) true) := by
  have hj := itr_lt (c := c) (k := j) R.lt
  have hno : ¬ (seen0.getD (itr c j s0) false = true ∨ ∃ m, m < j ∧ itr c j s0 = itr c m s0) := fun z => by
    rw [(R.is _ hj).mpr z] at h; cases h
  refine ⟨by rw [List.length_set, R.len], R.lt, fun m hm => ?_, fun m m0 hm => ?_, fun t ht => ?_⟩
  · by_cases e : m = j
    · subst e
      rw [← Bool.not_eq_true]
      exact fun z => hno (.inl z)
    · exact R.new m (by omega)
  · by_cases e : m = j
    · subst e
      exact fun z => hno (.inr ⟨0, m0, z⟩)
    · exact R.dis m m0 (by omega)
  · rw [getD_set (by rw [R.len]; exact hj)]
    by_cases e : t = itr c j s0
    · rw [if_pos e]
      exact ⟨fun _ => .inr ⟨j, by omega, e⟩, fun _ => rfl⟩
    · rw [if_neg e, R.is t ht]
      constructor
      · rintro (h | ⟨m, hm, h⟩)
        · exact .inl h
        · exact .inr ⟨m, by omega, h⟩
      · rintro (hh | ⟨m, hm, hh⟩)
        · exact .inl hh
        · by_cases e2 : m = j
          · rw [e2] at hh; exact absurd hh e
          · exact .inr ⟨m, by omega, hh⟩
theorem seen_back {seen0 : List Bool} {k s0 : Nat} (S : ∀ s, s < n → (seen0.getD (c.at s) false = true ↔ seen0.getD s false = true)) (hs : s0 < n) : seen0.getD (itr c k s0) false = true ↔ seen0.getD s0 false = true := by
  induction k with
  | zero => exact Iff.rfl
  | succ k ih => exact (S _ (itr_lt hs)).trans ih
theorem itr_mul {s j : Nat} (e : itr c j s = s) (q : Nat) : itr c (q * j) s = s := by
  induction q with
  | zero => rw [Nat.zero_mul]; rfl
  | succ q ih => rw [Nat.succ_mul, itr_add, e, ih]
theorem rnd_end {seen0 seen : List Bool} {s0 j f : Nat} (S : Seen c seen0 f) (R : Rnd c seen0 s0 j seen) (h : seen.getD (itr c j s0) false = true) :
    (j = 0 → Seen c seen f) ∧ (0 < j → Seen c seen (Nat.lcm f j)) ∧ seen.getD s0 false = true := by
  have hj := itr_lt (c := c) (k := j) R.lt
  have h0 : j = 0 → seen = seen0 ∧ seen0.getD s0 false = true := fun e => by
    subst e
    have : seen = seen0 := by
      apply List.ext_getElem (by rw [R.len, S.len])
      intro t h1 h2
      have := R.is t (by rw [R.len] at h1; exact h1)
      rw [List.getD_eq_getElem?_getD, List.getD_eq_getElem?_getD, List.getElem?_eq_getElem h1, List.getElem?_eq_getElem h2] at this
      simp only [Option.getD_some, Nat.not_lt_zero, false_and, exists_false, or_false] at this
      exact Bool.eq_iff_iff.mpr this
    exact ⟨this, by rw [← this]; exact h⟩
  refine ⟨fun e => by rw [(h0 e).1]; exact S, fun jp => ?_, ?_⟩
  · have hper : itr c j s0 = s0 := by
      rcases (R.is _ hj).mp h with z | ⟨m, hm, z⟩
      · have := (seen_back S.cl R.lt).mp z
        have h2 := R.new 0 jp
        rw [show itr c 0 s0 = s0 from rfl, this] at h2; cases h2
      · by_cases m0 : m = 0
        · subst m0; exact z
        · exfalso
          have e2 : itr c (m + (j - m)) s0 = itr c m s0 := by rw [show m + (j - m) = j by omega]; exact z
          rw [itr_add] at e2
          exact R.dis (j - m) (by omega) (by omega) (itr_inj (itr_lt R.lt) R.lt e2)
    have hdv : ∀ k, itr c k s0 = s0 ↔ j ∣ k := fun k => by
      constructor
      · intro e
        have h1 : itr c (k % j) s0 = s0 := by
          have e2 : itr c (k % j + k / j * j) s0 = s0 := by rw [Nat.mul_comm, Nat.mod_add_div]; exact e
          rwa [itr_add, itr_mul hper] at e2
        have hlt := Nat.mod_lt k jp
        by_cases z : k % j = 0
        · exact Nat.dvd_of_mod_eq_zero z
        · exact absurd h1 (R.dis _ (by omega) hlt)
      · rintro ⟨q, rfl⟩
        rw [Nat.mul_comm]; exact itr_mul hper q
    refine ⟨R.len, fun s hs => ?_, Nat.lcm_pos S.pos jp, fun k => ?_⟩
    · rw [R.is _ (pm_at_lt hs), R.is s hs, S.cl s hs]
      refine or_congr Iff.rfl ⟨?_, ?_⟩
      · rintro ⟨m, hm, e⟩
        by_cases m0 : m = 0
        · subst m0
          refine ⟨j - 1, by omega, pm_inj (c := c) hs (itr_lt R.lt) ?_⟩
          rw [e]
          show s0 = itr c (j - 1 + 1) s0
          rw [show j - 1 + 1 = j by omega, hper]
        · refine ⟨m - 1, by omega, pm_inj (c := c) hs (itr_lt R.lt) ?_⟩
          rw [e]
          show _ = itr c (m - 1 + 1) s0
          rw [show m - 1 + 1 = m by omega]
      · rintro ⟨m, hm, rfl⟩
        by_cases e : m + 1 = j
        · exact ⟨0, jp, by show itr c (m + 1) s0 = s0; rw [e, hper]⟩
        · exact ⟨m + 1, by omega, rfl⟩
    · constructor
      · intro hh
        refine Nat.lcm_dvd ((S.ord k).mp fun s hs z => hh s hs ((R.is s hs).mpr (.inl z))) ((hdv k).mp (hh s0 R.lt ((R.is s0 R.lt).mpr (.inr ⟨0, jp, rfl⟩))))
      · intro hd s hs z
        rcases (R.is s hs).mp z with z | ⟨m, hm, rfl⟩
        · exact (S.ord k).mpr (Nat.dvd_trans (Nat.dvd_lcm_left f j) hd) s hs z
        · rw [← itr_add, Nat.add_comm, itr_add, (hdv k).mpr (Nat.dvd_trans (Nat.dvd_lcm_right f j) hd)]
  · by_cases e : j = 0
    · rw [(h0 e).1]; exact (h0 e).2
    · exact (R.is s0 R.lt).mpr (.inr ⟨0, by omega, rfl⟩)
theorem seen_end {seen : List Bool} {f : Nat} (S : Seen c seen f) (h : ∀ s, s < n → seen.getD s false = true) : OrdD c f :=
  ⟨S.pos, fun k => one_itr.trans ((by
    constructor
    · intro a s hs _; exact a s hs
    · intro a s hs; exact a s hs (h s hs) : (∀ s, s < n → itr c k s = s) ↔ _).trans (S.ord k))⟩
theorem Rnd.mono {seen0 seen : List Bool} {s0 j t : Nat} (R : Rnd c seen0 s0 j seen) (ht : t < n) (h : seen0.getD t false = true) : seen.getD t false = true := (R.is t ht).mpr (.inl h)
theorem lcm_le {f j n : Nat} (hf : 0 < f) (h : j ≤ n) : Nat.lcm f j ≤ f * n := by
  by_cases j0 : j = 0
  · subst j0; rw [Nat.lcm_zero_right]; omega
  · refine Nat.le_trans (Nat.le_of_dvd (Nat.mul_pos hf (by omega)) (Nat.lcm_dvd ⟨j, rfl⟩ ⟨f, by rw [Nat.mul_comm]⟩)) (Nat.mul_le_mul_left _ h)
end
/-- squaring -/
theorem sq_even {G : Type} [Gp G] (g s : G) (l : Int) : g * zpw s (2 * l) = g * zpw (s * s) l := by
  rw [← zpw_mul, show zpw s 2 = s * s by rw [show (2 : Int) = 1 + 1 by rfl, zpw_add, zpw_one]]
theorem sq_odd {G : Type} [Gp G] (g s : G) (l : Int) : g * zpw s (2 * l + 1) = g * s * zpw (s * s) l := by
  rw [Int.add_comm, zpw_add, zpw_one, ← gassoc, sq_even]
end Dl
/-! What the functions about changes answer. -/
namespace Dl
open PySem PySem.Spec
def nonB : PyData → Bool
  | .int i => decide (0 ≤ i)
  | _ => false
section
variable {n : Nat} {a b c : Pm n}
def suB (a b : Pm n) (z : Int) : Bool := decide (zpw (a * b) z = zpw a z * zpw b z)
def cmB (a b : Pm n) : Bool := decide (a * b = b * a)
theorem suB_iff {z : Int} : suB a b z = true ↔ Su a b z := decide_eq_true_iff
theorem cmB_iff : cmB a b = true ↔ Cm a b := decide_eq_true_iff
theorem rdB_iff {z : Int} : (suB a b z && cmB (zpw a z) b) = true ↔ Rd a b z := by rw [Bool.and_eq_true, suB_iff, cmB_iff]; exact Iff.rfl
/-- the round of a couple -/
def RdD (a b : Pm n) (d : Nat) : Prop := 0 < d ∧ ∀ z : Int, Rd a b z ↔ (d : Int) ∣ z
theorem RdD.uniq {d e : Nat} (h : RdD a b d) (k : RdD a b e) : d = e :=
  Nat.dvd_antisymm (Int.natCast_dvd_natCast.mp ((h.2 e).mp ((k.2 e).mpr (Int.dvd_refl _)))) (Int.natCast_dvd_natCast.mp ((k.2 d).mp ((h.2 d).mpr (Int.dvd_refl _))))
theorem rdD_ex {N : Nat} (h0 : 0 < N) (h : Rd a b (N : Int)) : ∃ d, RdD a b d ∧ d ∣ N := by
  obtain ⟨d, d0, d1, d2⟩ := rd_least (by omega) h
  refine ⟨d.toNat, ⟨by omega, fun z => ?_⟩, ?_⟩
  · rw [Int.toNat_of_nonneg (by omega)]; exact d2 z
  · rw [← Int.natCast_dvd_natCast, Int.toNat_of_nonneg (by omega)]; exact d1
theorem RdD.su {d : Nat} (h : RdD a b d) (z : Int) : suB a b (z % (d : Int)) = suB a b z := by
  rw [Bool.eq_iff_iff, suB_iff, suB_iff]
  exact su_mod ((h.2 d).mpr (Int.dvd_refl _))
/-- the numbers below the round that suit -/
def restsL (a b : Pm n) (d : Nat) : List Nat := (List.range d).filter fun k : Nat => suB a b (k : Int)
theorem zpw_natpos {k : Nat} (x : Pm n) : zpw x ((k + 1 : Nat) : Int) = zpw x (k : Int) * x := zpw_succ (a := x) (k : Int)
/-- all three idle -/
def idB (a b : Pm n) (k : Nat) : Bool := decide (zpw (a * b) (k : Int) = Gp.one) && decide (zpw a (k : Int) = Gp.one) && decide (zpw b (k : Int) = Gp.one)
theorem idB_iff {k : Nat} : idB a b k = true ↔ zpw (a * b) (k : Int) = Gp.one ∧ zpw a (k : Int) = Gp.one ∧ zpw b (k : Int) = Gp.one := by
  unfold idB
  rw [Bool.and_eq_true, Bool.and_eq_true, decide_eq_true_iff, decide_eq_true_iff, decide_eq_true_iff, and_assoc]
/-- N is the least count from 1 on with all three idle -/
structure Ord3 (a b : Pm n) (N : Nat) : Prop where
  pos : 0 < N
  idle : idB a b N = true
  min : ∀ k, 0 < k → k < N → idB a b k = false
theorem Ord3.rd {N : Nat} (h : Ord3 a b N) : Rd a b (N : Int) := by
  obtain ⟨h1, h2, h3⟩ := idB_iff.mp h.idle
  exact rd_of h2 h3 h1
theorem Ord3.rdD {N : Nat} (h : Ord3 a b N) : ∃ d, RdD a b d ∧ d ∣ N := rdD_ex h.pos h.rd
theorem Ord3.per {N : Nat} (h : Ord3 a b N) (k : Int) (q : Int) : zpw a (k + q * N) = zpw a k ∧ zpw b (k + q * N) = zpw b k ∧ zpw (a * b) (k + q * N) = zpw (a * b) k := by
  obtain ⟨h1, h2, h3⟩ := idB_iff.mp h.idle
  have key : ∀ x : Pm n, zpw x (N : Int) = Gp.one → zpw x (k + q * N) = zpw x k := fun x hx => by
    rw [zpw_add, Int.mul_comm, ← zpw_mul, hx, one_zpw, gmul_one]
  exact ⟨key _ h2, key _ h3, key _ h1⟩
theorem Ord3.mod {N : Nat} (h : Ord3 a b N) (z : Int) : zpw a (z % (N : Int)) = zpw a z ∧ zpw b (z % (N : Int)) = zpw b z ∧ zpw (a * b) (z % (N : Int)) = zpw (a * b) z := by
  have := h.per (z % (N : Int)) (z / (N : Int))
  rw [Int.mul_comm, Int.emod_add_mul_ediv] at this
  exact ⟨this.1.symm, this.2.1.symm, this.2.2.symm⟩
theorem Ord3.all {N : Nat} (h : Ord3 a b N) (k : Nat) : idB a b k = true ↔ N ∣ k := by
  constructor
  · intro hk
    obtain ⟨h1, h2, h3⟩ := idB_iff.mp hk
    obtain ⟨m1, m2, m3⟩ := h.mod (k : Int)
    rw [← Int.natCast_emod] at m1 m2 m3
    have : idB a b (k % N) = true := idB_iff.mpr ⟨by rw [m3, h1], by rw [m1, h2], by rw [m2, h3]⟩
    have hlt := Nat.mod_lt k h.pos
    by_cases z : k % N = 0
    · exact Nat.dvd_of_mod_eq_zero z
    · rw [h.min _ (by omega) hlt] at this; cases this
  · rintro ⟨q, rfl⟩
    obtain ⟨h1, h2, h3⟩ := idB_iff.mp h.idle
    have key : ∀ x : Pm n, zpw x (N : Int) = Gp.one → zpw x ((N * q : Nat) : Int) = Gp.one := fun x hx => by
      rw [Int.natCast_mul, ← zpw_mul, hx, one_zpw]
    exact idB_iff.mpr ⟨key _ h1, key _ h2, key _ h3⟩
end
theorem prodN_pow : ∀ {l : List Nat}, (∀ q ∈ l, 2 ≤ q) → 2 ^ l.length ≤ prodN l
  | [], _ => Nat.le_refl _
  | a :: l, h => by
    have h1 := prodN_pow (l := l) fun q hq => h q (List.mem_cons_of_mem _ hq)
    have h2 := h a List.mem_cons_self
    show 2 ^ (l.length + 1) ≤ a * prodN l
    rw [Nat.pow_succ, Nat.mul_comm]
    exact Nat.mul_le_mul h2 h1
theorem sh_ch {n : Nat} (c : Pm n) : SeqAt.shaped (chD c) = true := by
  unfold chD natsL
  rw [show c.1.map natD = (c.1.map fun k : Nat => (k : Int)).map .int by rw [List.map_map]; rfl]
  exact shaped_ints _
theorem zpw_one_nat {G : Type} [Gp G] (x : G) : zpw x ((0 : Nat) : Int) = Gp.one := rfl
theorem lcm_div (a b : Nat) (h : 0 < a) : a / Nat.gcd a b * b = Nat.lcm a b := by
  have g0 : 0 < Nat.gcd a b := Nat.gcd_pos_of_pos_left b h
  obtain ⟨k, hk⟩ := Nat.gcd_dvd_left a b
  have e : Nat.lcm a b = k * b := by
    unfold Nat.lcm
    conv => lhs; arg 1; rw [hk]
    rw [Nat.mul_assoc, Nat.mul_div_cancel_left _ g0]
  rw [e]
  congr 1
  conv => lhs; arg 1; rw [hk]
  rw [Nat.mul_div_cancel_left _ g0]
end Dl
/-! The laws' helpers about couples. -/
namespace Dl
open PySem PySem.Spec
def isPB (n : Nat) (l : List Nat) : Bool := decide (l.length = n) && l.all (fun x => decide (x < n)) && decide l.Nodup
theorem isP_by {n : Nat} {l : List Nat} (h : isPB n l = true) : IsP n l := by
  unfold isPB at h
  simp only [Bool.and_eq_true, decide_eq_true_eq, List.all_eq_true] at h
  exact ⟨h.1.1, h.1.2, h.2⟩
theorem gt_set {l : List Nat} {i v t : Nat} (hi : i < l.length) : gt (l.set i v) t = if t = i then v else gt l t := by
  unfold gt
  rw [List.getD_eq_getElem?_getD, List.getD_eq_getElem?_getD, List.getElem?_set]
  by_cases h : i = t
  · rw [if_pos h, if_pos h.symm, if_pos hi]; rfl
  · rw [if_neg h, if_neg (fun z => h z.symm)]
section
variable {n : Nat} {a b p : Pm n}
def pairD (a b : Pm n) (k : Nat) : PyData := .tuple [chD (zpw (a * b) (k : Int)), chD (zpw a (k : Int) * zpw b (k : Int))]
/-- what _law_marks tells -/
def MarksD (a b : Pm n) (M : Nat) : Prop := (M = 301 ∧ ∀ k, 0 < k → k ≤ 300 → idB a b k = false) ∨ (M ≤ 300 ∧ Ord3 a b M)
/-- the renamed change -/
theorem conj_of {g : List Nat} (hg : g.length = n) (h : ∀ j, j < n → gt g (p.at j) = p.at (a.at j)) : g = (Gp.inv p * a * p).1 := by
  refine list_ext (by rw [hg, (Gp.inv p * a * p).2.len]) fun s hs => ?_
  rw [hg] at hs
  have hi := pm_at_lt (c := Gp.inv p) hs
  have e : p.at ((Gp.inv p).at s) = s := by rw [← pm_at_mul hs, ginv_mul, pm_at_one hs]
  show gt g s = (Gp.inv p * a * p).at s
  rw [pm_at_mul hs, pm_at_mul hs, ← h _ hi, e]
end
theorem perm_nats {es : List PyData} {n : Nat} (h : es.Perm ((List.range n).map natD)) : ∃ c : Pm n, es = c.1.map natD := by
  have e : (List.range n).map natD = ((List.range n).map fun k : Nat => (k : Int)).map .int := by rw [List.map_map]; rfl
  rw [e] at h
  obtain ⟨ms, rfl, pm⟩ := perm_ints h
  have h2 := pm.map Int.toNat
  rw [List.map_map] at h2
  have ei : (List.range n).map (Int.toNat ∘ fun k : Nat => (k : Int)) = List.range n := by
    conv => rhs; rw [← List.map_id (List.range n)]
    exact List.map_congr_left fun k _ => Int.toNat_natCast k
  rw [ei] at h2
  refine ⟨⟨ms.map Int.toNat, isP_of h2⟩, ?_⟩
  show ms.map PyData.int = (ms.map Int.toNat).map natD
  rw [List.map_map]
  refine List.map_congr_left fun z hz => ?_
  have : z ∈ (List.range n).map fun k : Nat => (k : Int) := pm.mem_iff.mp hz
  obtain ⟨k, _, rfl⟩ := List.mem_map.mp this
  rfl
theorem ord3_last : Ord3 (⟨[1, 2, 0], isP_by (by decide)⟩ : Pm 3) (⟨[0, 2, 1], isP_by (by decide)⟩ : Pm 3) 6 := by
  refine ⟨by decide, by decide +kernel, fun k k0 k6 => ?_⟩
  have : k = 1 ∨ k = 2 ∨ k = 3 ∨ k = 4 ∨ k = 5 := by omega
  rcases this with rfl | rfl | rfl | rfl | rfl <;> decide +kernel
/-- a value that is no change of n states -/
def badD (n : Nat) (v : PyData) : Prop := chgB n v = false ∧ smallC v ∧ sizeD v ≤ n + 1
end Dl
/-! What law 39 asks of couples. -/
namespace Dl
open PySem PySem.Spec
theorem eqvAll_bools : ∀ (a b : List Bool), PyData.eqvAll (a.map .bool) (b.map .bool) = decide (a = b)
  | [], [] => by simp [PyData.eqvAll]
  | [], _ :: _ => by simp [PyData.eqvAll]
  | _ :: _, [] => by simp [PyData.eqvAll]
  | x :: a, y :: b => by
    simp only [List.map_cons, PyData.eqvAll, eqvAll_bools a b]
    rw [eqv_bool, Bool.eq_iff_iff, Bool.and_eq_true, decide_eq_true_eq, decide_eq_true_eq, beq_iff_eq, List.cons.injEq]
theorem eqv_bools (a b : List Bool) : PyData.eqv (.list (a.map .bool)) (.list (b.map .bool)) = decide (a = b) := by
  simp only [PyData.eqv]; exact eqvAll_bools a b
theorem shaped_bools (a : List Bool) : SeqAt.shaped (.list (a.map .bool)) = true := (Sh.list (n := 0) (ShL.of fun d h => by
  obtain ⟨x, _, rfl⟩ := List.mem_map.mp h
  exact Sh.bool x)).ok
theorem rep_get {α : Type} (l : List α) (h0 : 0 < l.length) : ∀ (k i : Nat), i < k * l.length → (List.replicate k l).flatten[i]? = l[i % l.length]?
  | 0, i, h => by omega
  | k + 1, i, h => by
    rw [List.replicate_succ, List.flatten_cons]
    by_cases hi : i < l.length
    · rw [List.getElem?_append_left hi, Nat.mod_eq_of_lt hi]
    · rw [List.getElem?_append_right (by omega), rep_get l h0 k (i - l.length) (by rw [Nat.succ_mul] at h; omega)]
      rw [Nat.mod_eq_sub_mod (show i ≥ l.length by omega)]
theorem rep_len {α : Type} (l : List α) (k : Nat) : (List.replicate k l).flatten.length = k * l.length := by
  induction k with
  | zero => simp
  | succ k ih => rw [List.replicate_succ, List.flatten_cons, List.length_append, ih, Nat.succ_mul]; omega
/-- a list that comes again -/
theorem per_list {α : Type} (f : Nat → α) {N d : Nat} (d0 : 0 < d) (hd : d ∣ N) (h : ∀ k, f (k % d) = f k) : (List.range N).map f = (List.replicate (N / d) ((List.range d).map f)).flatten := by
  obtain ⟨q, rfl⟩ := hd
  rw [Nat.mul_div_cancel_left _ d0]
  have hl : ((List.range d).map f).length = d := by rw [List.length_map, List.length_range]
  apply List.ext_getElem?
  intro i
  by_cases hi : i < d * q
  · rw [rep_get _ (by omega) q i (by rw [hl, Nat.mul_comm]; exact hi), hl, List.getElem?_map, List.getElem?_map, List.getElem?_eq_getElem (by rw [List.length_range]; exact hi), List.getElem?_eq_getElem (by rw [List.length_range]; exact Nat.mod_lt _ d0)]
    simp [h]
  · rw [List.getElem?_eq_none (by rw [List.length_map, List.length_range]; omega), List.getElem?_eq_none (by rw [rep_len, hl, Nat.mul_comm]; omega)]
theorem take_map_range {α : Type} (f : Nat → α) {N d : Nat} (h : d ≤ N) : ((List.range N).map f).take d = (List.range d).map f := by
  rw [← List.map_take, List.take_range, Nat.min_eq_left h]
theorem any_nat (l : List Nat) (j : Nat) : ((l.map natD).any fun z => PyData.eqv z (.int (j : Int))) = decide (j ∈ l) := by
  rw [Bool.eq_iff_iff, List.any_map, List.any_eq_true, decide_eq_true_eq]
  constructor
  · rintro ⟨k, hk, h⟩
    have h2 : PyData.eqv (.int (k : Int)) (.int (j : Int)) = true := h
    rw [eqv_int, beq_iff_eq] at h2
    have : k = j := by omega
    exact this ▸ hk
  · intro h
    exact ⟨j, h, by show PyData.eqv (.int (j : Int)) (.int (j : Int)) = true; rw [eqv_int, beq_self_eq_true]⟩
theorem last_nat {l : List Nat} (h : l ≠ []) : ∃ k, k ∈ l ∧ L2.atI (l.map natD) (-1) = some (natD k) := by
  refine ⟨l.getLast h, List.getLast_mem h, ?_⟩
  conv => lhs; rw [← List.dropLast_concat_getLast h]
  rw [List.map_append]
  exact L2.atI_last _ _
section
variable {n : Nat} {a b : Pm n}
theorem Ord3.uniq {N M : Nat} (h : Ord3 a b N) (g : Ord3 a b M) : N = M := by
  rcases Nat.lt_trichotomy N M with z | z | z
  · have := g.min N h.pos z; rw [h.idle] at this; cases this
  · exact z
  · have := h.min M g.pos z; rw [g.idle] at this; cases this
theorem marks_eq {N M : Nat} (h : Ord3 a b N) (hN : N ≤ 300) (g : MarksD a b M) : M = N := by
  rcases g with ⟨_, g⟩ | ⟨_, g⟩
  · have := g N h.pos hN; rw [h.idle] at this; cases this
  · exact g.uniq h
theorem Ord3.su {N : Nat} (h : Ord3 a b N) (z : Int) : suB a b (z % (N : Int)) = suB a b z := by
  obtain ⟨h1, h2, h3⟩ := h.mod z
  unfold suB
  rw [h1, h2, h3]
theorem rdD_swap {d : Nat} (h : RdD a b d) : RdD b a d := ⟨h.1, fun z => by
  rw [rd_iff, su_swap (x := a) (y := b) (n := z), su_swap (x := a) (y := b) (n := z + 1), show 1 - (z + 1) = -z by omega, and_comm, show 1 - z = -z + 1 by omega, ← rd_iff, h.2, Int.dvd_neg]⟩
theorem rdD_undo {d : Nat} (h : RdD a b d) : RdD (Gp.inv b) (Gp.inv a) d := ⟨h.1, fun z => by
  rw [rd_iff, su_undo, su_undo, ← rd_iff, h.2]⟩
theorem suB_undo (z : Int) : suB (Gp.inv b) (Gp.inv a) z = suB a b z := by
  rw [Bool.eq_iff_iff, suB_iff, suB_iff]; exact su_undo
theorem suB_swap (z : Int) : suB b a z = suB a b (1 - z) := by
  rw [Bool.eq_iff_iff, suB_iff, suB_iff]; exact su_swap
theorem rests_undo (d : Nat) : restsL (Gp.inv b) (Gp.inv a) d = restsL a b d := by
  unfold restsL
  congr 1
  funext k
  exact suB_undo _
theorem mem_rests {d k : Nat} : k ∈ restsL a b d ↔ k < d ∧ suB a b (k : Int) = true := by
  unfold restsL
  rw [List.mem_filter, List.mem_range]
theorem rests_asc (d : Nat) : (restsL a b d).Pairwise (· < ·) := List.Pairwise.sublist List.filter_sublist List.pairwise_lt_range
theorem rests_len (d : Nat) : (restsL a b d).length ≤ d := by unfold restsL; exact Nat.le_trans (List.length_filter_le _ _) (by rw [List.length_range]; exact Nat.le_refl _)
/-- no two neighbours but 0 and 1 -/
theorem rests_apart {d k : Nat} (h : RdD a b d) (h1 : k + 1 < d) (h0 : 0 < k) (e1 : suB a b (k : Int) = true) (e2 : suB a b ((k + 1 : Nat) : Int) = true) : False := by
  have : Rd a b (k : Int) := rd_iff.mpr ⟨suB_iff.mp e1, suB_iff.mp (by rw [show (k : Int) + 1 = ((k + 1 : Nat) : Int) by omega]; exact e2)⟩
  have := Nat.le_of_dvd h0 (Int.natCast_dvd_natCast.mp ((h.2 _).mp this))
  omega
theorem rests_last {d : Nat} (h : RdD a b d) (h1 : 1 < d) : suB a b ((d - 1 : Nat) : Int) = false := by
  rw [← Bool.not_eq_true]
  intro e
  have hd : Su a b (d : Int) := ((h.2 d).mpr (Int.dvd_refl _)).1
  have : Rd a b ((d - 1 : Nat) : Int) := rd_iff.mpr ⟨suB_iff.mp e, by rw [show ((d - 1 : Nat) : Int) + 1 = (d : Int) by omega]; exact hd⟩
  have := Nat.le_of_dvd (by omega) (Int.natCast_dvd_natCast.mp ((h.2 _).mp this))
  omega
theorem round_one {d : Nat} (h : RdD a b d) : d = 1 ↔ Cm a b := by
  have e : Rd a b 1 ↔ Cm a b := by
    constructor
    · intro r; have := r.2; rwa [zpw_one] at this
    · intro c; exact ⟨su_one, by rw [zpw_one]; exact c⟩
  rw [← e]
  constructor
  · rintro rfl; exact (h.2 1).mpr (Int.dvd_refl _)
  · intro r
    have := Nat.le_of_dvd (by decide) (Int.natCast_dvd_natCast.mp ((h.2 ((1 : Nat) : Int)).mp r))
    have := h.1
    omega
theorem round_two {d : Nat} (h : RdD a b d) : d ≠ 2 := by
  rintro rfl
  have s2 : Su a b 2 := ((h.2 2).mpr (Int.dvd_refl _)).1
  have c : Cm a b := by
    have := (su_next (x := a) (y := b) su_one).mp s2
    rwa [zpw_one] at this
  have := (round_one h).mpr c
  omega
theorem rests_two {d : Nat} (h : RdD a b d) (h1 : 1 < d) : (restsL a b d).take 2 = [0, 1] := by
  have h2 := round_two h
  unfold restsL
  obtain ⟨m, rfl⟩ : ∃ m, d = m + 2 := ⟨d - 2, by omega⟩
  rw [List.range_succ_eq_map, List.range_succ_eq_map]
  have s0 : suB a b ((0 : Nat) : Int) = true := suB_iff.mpr su_zero
  have s1 : suB a b ((1 : Nat) : Int) = true := suB_iff.mpr su_one
  simp only [List.map_cons, List.filter_cons, s0, s1, if_true, List.take_succ_cons, List.take_zero]
theorem rests_zero {d : Nat} (h : RdD a b d) : 0 ∈ restsL a b d := mem_rests.mpr ⟨h.1, suB_iff.mpr su_zero⟩
/-- exchanged -/
theorem rests_swap {d : Nat} (h : RdD a b d) {ms : List Int} (hp : ms.Perm ((restsL a b d).map fun k : Nat => (1 - (k : Int)) % (d : Int))) (hs : ms.Pairwise (· ≤ ·)) : ms = (restsL b a d).map fun k : Nat => (k : Int) := by
  have d0 := h.1
  have hr : ∀ z, suB a b (z % (d : Int)) = suB a b z := h.su
  refine sorted_unique (hp.trans (perm_of_mem ?_ ?_ fun x => ?_)) hs ?_
  · refine List.pairwise_map.mpr ((rests_asc d).imp_of_mem fun {i j} hi hj hij e => ?_)
    have hi' := (mem_rests.mp hi).1
    have hj' := (mem_rests.mp hj).1
    have h1 := Int.emod_emod_of_dvd (1 - (i : Int)) (Int.dvd_refl (d : Int))
    have h2 : ((1 - (i : Int)) - (1 - (j : Int))) % (d : Int) = 0 := by rw [Int.sub_emod, e, Int.sub_self, Int.zero_emod]
    rw [show (1 - (i : Int)) - (1 - (j : Int)) = ((j - i : Nat) : Int) by omega] at h2
    have := Nat.le_of_dvd (by omega) (Int.natCast_dvd_natCast.mp (Int.dvd_of_emod_eq_zero h2))
    omega
  · exact List.pairwise_map.mpr ((rests_asc d).imp fun hij e => by omega)
  · rw [List.mem_map, List.mem_map]
    constructor
    · rintro ⟨k, hk, rfl⟩
      obtain ⟨k1, k2⟩ := mem_rests.mp hk
      have m0 := Int.emod_nonneg (1 - (k : Int)) (show (d : Int) ≠ 0 by omega)
      have m1 := Int.emod_lt_of_pos (1 - (k : Int)) (show (0 : Int) < d by omega)
      refine ⟨((1 - (k : Int)) % (d : Int)).toNat, mem_rests.mpr ⟨by omega, ?_⟩, by omega⟩
      rw [Int.toNat_of_nonneg m0, (rdD_swap h).su, suB_swap, show 1 - (1 - (k : Int)) = k by omega]
      exact k2
    · rintro ⟨k, hk, rfl⟩
      obtain ⟨k1, k2⟩ := mem_rests.mp hk
      rw [suB_swap, ← hr] at k2
      have m0 := Int.emod_nonneg (1 - (k : Int)) (show (d : Int) ≠ 0 by omega)
      have m1 := Int.emod_lt_of_pos (1 - (k : Int)) (show (0 : Int) < d by omega)
      refine ⟨((1 - (k : Int)) % (d : Int)).toNat, mem_rests.mpr ⟨by omega, by rw [Int.toNat_of_nonneg m0]; exact k2⟩, ?_⟩
      rw [Int.toNat_of_nonneg m0]
      rw [Int.sub_emod, Int.emod_emod_of_dvd _ (Int.dvd_refl _), ← Int.sub_emod, show 1 - (1 - (k : Int)) = k by omega]
      exact Int.emod_eq_of_lt (by omega) (by omega)
  · exact List.pairwise_map.mpr ((rests_asc d).imp fun hij => by omega)
end
end Dl
/-! Far counts of couples. -/
namespace Dl
open PySem PySem.Spec
section
variable {n : Nat} {a b : Pm n}
/-- how many below m suit -/
def cntN (a b : Pm n) (m : Nat) : Nat := (restsL a b m).length
def belowZ (a b : Pm n) (p : Nat) (z : Int) : Int := z / (p : Int) * (cntN a b p : Nat) + (cntN a b (z % (p : Int)).toNat : Nat)
theorem cnt_succ (m : Nat) : cntN a b (m + 1) = cntN a b m + if suB a b (m : Int) = true then 1 else 0 := by
  unfold cntN restsL
  rw [List.range_succ, List.filter_append, List.length_append]
  congr 1
  by_cases h : suB a b (m : Int) = true
  · rw [if_pos h]; simp [h]
  · rw [if_neg h]; simp [h]
theorem below_zero {p : Nat} (hp : 0 < p) : belowZ a b p 0 = 0 := by
  unfold belowZ
  simp [cntN, restsL]
theorem below_succ {p : Nat} (hp : 0 < p) (h : ∀ z, suB a b (z % (p : Int)) = suB a b z) (z : Int) : belowZ a b p (z + 1) = belowZ a b p z + if suB a b z = true then 1 else 0 := by
  have hp' : (0 : Int) < p := by omega
  have m0 := Int.emod_nonneg z (show (p : Int) ≠ 0 by omega)
  have m1 := Int.emod_lt_of_pos z hp'
  have hz := Int.emod_add_mul_ediv z p
  unfold belowZ
  rw [← h z]
  generalize hr : z % (p : Int) = r at m0 m1 hz
  generalize hq : z / (p : Int) = q at hz
  obtain ⟨k, rfl⟩ : ∃ k : Nat, r = k := ⟨r.toNat, by omega⟩
  have hs := cnt_succ (a := a) (b := b) k
  by_cases hlast : k + 1 = p
  · have e1 : (z + 1) / (p : Int) = q + 1 := by
      rw [← hz, show (k : Int) + (p : Int) * q + 1 = (p : Int) * (q + 1) by rw [Int.mul_add]; omega]
      exact Int.mul_ediv_cancel_left _ (by omega)
    have e2 : (z + 1) % (p : Int) = 0 := by
      rw [← hz, show (k : Int) + (p : Int) * q + 1 = (p : Int) * (q + 1) by rw [Int.mul_add]; omega]
      exact Int.mul_emod_right _ _
    rw [e1, e2, Int.toNat_natCast]
    rw [hlast] at hs
    have h0 : cntN a b (0 : Int).toNat = 0 := by simp [cntN, restsL]
    rw [h0, Int.add_mul]
    by_cases hb : suB a b (k : Int) = true
    · rw [if_pos hb] at hs ⊢; omega
    · rw [if_neg hb] at hs ⊢; omega
  · have e1 : (z + 1) / (p : Int) = q := by
      rw [← hz, show (k : Int) + (p : Int) * q + 1 = ((k + 1 : Nat) : Int) + (p : Int) * q by omega, Int.add_mul_ediv_left _ _ (by omega), Int.ediv_eq_zero_of_lt (by omega) (by omega), Int.zero_add]
    have e2 : (z + 1) % (p : Int) = ((k + 1 : Nat) : Int) := by
      rw [← hz, show (k : Int) + (p : Int) * q + 1 = ((k + 1 : Nat) : Int) + (p : Int) * q by omega, Int.add_mul_emod_self_left]
      exact Int.emod_eq_of_lt (by omega) (by omega)
    rw [e1, e2, Int.toNat_natCast, Int.toNat_natCast]
    by_cases hb : suB a b (k : Int) = true
    · rw [if_pos hb] at hs ⊢; omega
    · rw [if_neg hb] at hs ⊢; omega
theorem below_same {p q : Nat} (hp : 0 < p) (hq : 0 < q) (h : ∀ z, suB a b (z % (p : Int)) = suB a b z) (g : ∀ z, suB a b (z % (q : Int)) = suB a b z) : ∀ z, belowZ a b p z = belowZ a b q z := by
  refine zind ?_ (fun z ih => ?_) fun z ih => ?_
  · rw [below_zero hp, below_zero hq]
  · rw [below_succ hp h, below_succ hq g, ih]
  · have h1 := below_succ hp h (z - 1)
    have h2 := below_succ hq g (z - 1)
    rw [Int.sub_add_cancel] at h1 h2
    omega
theorem rests_below {d r : Nat} (h : r ≤ d) : ((restsL a b d).filter fun k => decide (k < r)).length = cntN a b r := by
  unfold cntN
  congr 1
  unfold restsL
  rw [List.filter_filter]
  obtain ⟨m, rfl⟩ : ∃ m, d = r + m := ⟨d - r, by omega⟩
  rw [List.range_add, List.filter_append]
  have e2 : ((List.range m).map (r + ·)).filter (fun k => decide (k < r) && suB a b (k : Int)) = [] := List.filter_eq_nil_iff.mpr fun x hx h => by
    obtain ⟨y, _, rfl⟩ := List.mem_map.mp hx
    rw [Bool.and_eq_true, decide_eq_true_eq] at h
    omega
  rw [e2, List.append_nil]
  apply List.filter_congr
  intro x hx
  have := List.mem_range.mp hx
  rw [decide_eq_true this, Bool.true_and]
/-- the next one that suits -/
def NextD (a b : Pm n) (z : Int) (k : Nat) : Prop := suB a b (z + k) = true ∧ ∀ j : Nat, j < k → suB a b (z + j) = false
theorem NextD.uniq {z : Int} {k j : Nat} (h : NextD a b z k) (g : NextD a b z j) : k = j := by
  rcases Nat.lt_trichotomy k j with e | e | e
  · have := g.2 k e; rw [h.1] at this; cases this
  · exact e
  · have := h.2 j e; rw [g.1] at this; cases this
theorem next_rests {d : Nat} (D : RdD a b d) (z : Int) : NextD a b z (match (restsL a b d).filter fun k : Nat => decide (z % (d : Int) ≤ (k : Int)) with
    | [] => d - (z % (d : Int)).toNat
    | k :: _ => k - (z % (d : Int)).toNat) := by
  have d0 := D.1
  have m0 := Int.emod_nonneg z (show (d : Int) ≠ 0 by omega)
  have m1 := Int.emod_lt_of_pos z (show (0 : Int) < d by omega)
  obtain ⟨r, hr⟩ : ∃ r : Nat, z % (d : Int) = r := ⟨(z % (d : Int)).toNat, by omega⟩
  have sh : ∀ j : Nat, suB a b (z + j) = suB a b ((r + j : Nat) : Int) := fun j => by
    rw [← D.su (z + j), ← D.su ((r + j : Nat) : Int)]
    congr 1
    rw [Int.add_emod, hr, ← Int.natCast_emod, ← Int.natCast_add, ← Int.natCast_emod, ← Int.natCast_emod, Nat.add_mod_mod]
  rw [hr, Int.toNat_natCast]
  cases hl : (restsL a b d).filter fun k : Nat => decide ((r : Int) ≤ (k : Int)) with
  | nil =>
    have hno := List.filter_eq_nil_iff.mp hl
    refine ⟨?_, fun j hj => ?_⟩
    · rw [sh, show r + (d - r) = d by omega]
      exact suB_iff.mpr ((D.2 d).mpr (Int.dvd_refl _)).1
    · replace hj : j < d - r := hj
      rw [sh, ← Bool.not_eq_true]
      intro hs
      have := hno (r + j) (mem_rests.mpr ⟨by omega, hs⟩)
      simp at this
      omega
  | cons k l =>
    have hk : k ∈ (restsL a b d).filter fun k : Nat => decide ((r : Int) ≤ (k : Int)) := by rw [hl]; exact List.mem_cons_self
    obtain ⟨h1, h2⟩ := List.mem_filter.mp hk
    rw [decide_eq_true_eq] at h2
    obtain ⟨h3, h4⟩ := mem_rests.mp h1
    have hasc : (k :: l).Pairwise (· < ·) := by rw [← hl]; exact List.Pairwise.sublist List.filter_sublist (rests_asc d)
    refine ⟨?_, fun j hj => ?_⟩
    · show suB a b (z + ((k - r : Nat) : Int)) = true
      rw [sh, show r + (k - r) = k by omega]; exact h4
    · replace hj : j < k - r := hj
      rw [sh, ← Bool.not_eq_true]
      intro hs
      have hm : r + j ∈ (restsL a b d).filter fun k : Nat => decide ((r : Int) ≤ (k : Int)) := List.mem_filter.mpr ⟨mem_rests.mpr ⟨by omega, hs⟩, decide_eq_true (by omega)⟩
      rw [hl] at hm
      rcases List.mem_cons.mp hm with e | e
      · omega
      · have := (List.pairwise_cons.mp hasc).1 _ e
        omega
/-- by the marks -/
theorem next_marks {N : Nat} (N0 : 0 < N) (h : ∀ z, suB a b (z % (N : Int)) = suB a b z) (z : Int) : ∃ k l, (List.range N).filter (fun k : Nat => suB a b (z + (k : Int))) = k :: l ∧ NextD a b z k := by
  have hex : ∃ k : Nat, k < N ∧ suB a b (z + (k : Int)) = true := by
    have m0 := Int.emod_nonneg (-z) (show (N : Int) ≠ 0 by omega)
    have m1 := Int.emod_lt_of_pos (-z) (show (0 : Int) < N by omega)
    refine ⟨((-z) % (N : Int)).toNat, by omega, ?_⟩
    rw [Int.toNat_of_nonneg m0, ← h, Int.add_emod, Int.emod_emod_of_dvd _ (Int.dvd_refl _), ← Int.add_emod, Int.add_right_neg, Int.zero_emod]
    exact suB_iff.mpr su_zero
  cases hl : (List.range N).filter (fun k : Nat => suB a b (z + (k : Int))) with
  | nil =>
    obtain ⟨k, h1, h2⟩ := hex
    exact absurd h2 (List.filter_eq_nil_iff.mp hl k (List.mem_range.mpr h1))
  | cons k l =>
    refine ⟨k, l, rfl, ?_, fun j hj => ?_⟩
    · have : k ∈ (List.range N).filter (fun k : Nat => suB a b (z + (k : Int))) := by rw [hl]; exact List.mem_cons_self
      exact (List.mem_filter.mp this).2
    · rw [← Bool.not_eq_true]
      intro hs
      have hk : k ∈ (List.range N).filter (fun k : Nat => suB a b (z + (k : Int))) := by rw [hl]; exact List.mem_cons_self
      have hkN := List.mem_range.mp (List.mem_filter.mp hk).1
      have hm : j ∈ (List.range N).filter (fun k : Nat => suB a b (z + (k : Int))) := List.mem_filter.mpr ⟨List.mem_range.mpr (by omega), hs⟩
      have hasc : (k :: l).Pairwise (· < ·) := by rw [← hl]; exact List.Pairwise.sublist List.filter_sublist List.pairwise_lt_range
      rw [hl] at hm
      rcases List.mem_cons.mp hm with e | e
      · omega
      · have := (List.pairwise_cons.mp hasc).1 _ e
        omega
end
end Dl
/-! Counts from one state. -/
namespace Dl
open PySem PySem.Spec
/-! periods -/
def PerB (f : Int → Bool) (p : Int) : Prop := ∀ z, f (z + p) = f z
theorem per_zero {f : Int → Bool} : PerB f 0 := fun z => by rw [Int.add_zero]
theorem per_add {f : Int → Bool} {m k : Int} (h : PerB f k) : PerB f (m + k) ↔ PerB f m := by
  constructor
  · intro g z
    rw [← h (z + m), ← g z, Int.add_assoc]
  · intro g z
    rw [← Int.add_assoc, h, g]
theorem per_neg {f : Int → Bool} {k : Int} (h : PerB f k) : PerB f (-k) := fun z => by
  have := h (z + -k)
  rw [Int.add_assoc, Int.add_left_neg, Int.add_zero] at this
  exact this.symm
theorem per_mul {f : Int → Bool} {k q : Int} (h : PerB f k) : PerB f (q * k) := by
  revert q
  show ∀ q : Int, _
  refine zind ?_ (fun q ih => ?_) fun q ih => ?_
  · rw [Int.zero_mul]; exact per_zero
  · rw [Int.add_mul, Int.one_mul]; exact (per_add h).mpr ih
  · rw [Int.sub_mul, Int.one_mul, Int.sub_eq_add_neg]; exact (per_add (per_neg h)).mpr ih
theorem per_dvd {f : Int → Bool} {k m : Int} (h : PerB f k) (d : k ∣ m) : PerB f m := by
  obtain ⟨q, rfl⟩ := d
  rw [Int.mul_comm]; exact per_mul h
theorem per_mod {f : Int → Bool} {k : Int} (h : PerB f k) (z : Int) : f (z % k) = f z := by
  have := per_mul (q := z / k) h (z % k)
  rw [Int.mul_comm, Int.emod_add_mul_ediv] at this
  exact this.symm
def PerL (f : Int → Bool) (d : Nat) : Prop := 0 < d ∧ ∀ p : Int, PerB f p ↔ (d : Int) ∣ p
theorem PerL.self {f : Int → Bool} {d : Nat} (h : PerL f d) : PerB f (d : Int) := (h.2 _).mpr (Int.dvd_refl _)
theorem PerL.uniq {f : Int → Bool} {d e : Nat} (h : PerL f d) (k : PerL f e) : d = e :=
  Nat.dvd_antisymm (Int.natCast_dvd_natCast.mp ((h.2 e).mp k.self)) (Int.natCast_dvd_natCast.mp ((k.2 d).mp h.self))
theorem least_nat {R : Nat → Prop} : ∀ n : Nat, (∃ k, k ≤ n ∧ R k) → ∃ k, R k ∧ ∀ j, R j → k ≤ j
  | 0, h => by obtain ⟨k, a, b⟩ := h; have : k = 0 := by omega
               subst this; exact ⟨0, b, fun j _ => Nat.zero_le j⟩
  | n + 1, h => by
    by_cases h2 : ∃ k, k ≤ n ∧ R k
    · exact least_nat n h2
    · obtain ⟨k, a, b⟩ := h
      exact ⟨k, b, fun j hj => Classical.byContradiction fun z => h2 ⟨j, by omega, hj⟩⟩
theorem per_ex {f : Int → Bool} {N : Nat} (h0 : 0 < N) (h : PerB f (N : Int)) : ∃ d, PerL f d ∧ d ∣ N := by
  obtain ⟨k, ⟨k0, hk⟩, hmin⟩ := least_nat (R := fun k => 0 < k ∧ PerB f (k : Int)) N ⟨N, Nat.le_refl _, h0, h⟩
  have all : ∀ p : Int, PerB f p ↔ (k : Int) ∣ p := fun p => by
    constructor
    · intro hp
      have m0 := Int.emod_nonneg p (show (k : Int) ≠ 0 by omega)
      have m1 := Int.emod_lt_of_pos p (show (0 : Int) < k by omega)
      have h1 : PerB f (p % (k : Int)) := by
        have := (per_add (m := p) (per_mul (q := -(p / (k : Int))) hk)).mpr hp
        rwa [show p + -(p / (k : Int)) * (k : Int) = p % (k : Int) by rw [Int.neg_mul, ← Int.sub_eq_add_neg, Int.mul_comm, ← Int.emod_def]] at this
      apply Classical.byContradiction
      intro hno
      have : p % (k : Int) ≠ 0 := fun z => hno (Int.dvd_of_emod_eq_zero z)
      have := hmin (p % (k : Int)).toNat ⟨by omega, by rw [Int.toNat_of_nonneg m0]; exact h1⟩
      omega
    · exact fun hp => per_dvd hk hp
  exact ⟨k, ⟨k0, all⟩, Int.natCast_dvd_natCast.mp ((all N).mp h)⟩
def marksB (f : Int → Bool) (M : Nat) : List Bool := (List.range M).map fun k : Nat => f (k : Int)
theorem marks_len (f : Int → Bool) (M : Nat) : (marksB f M).length = M := by unfold marksB; rw [List.length_map, List.length_range]
theorem marks_get {f : Int → Bool} {M k : Nat} (h : k < M) : (marksB f M)[k]? = some (f (k : Int)) := by
  unfold marksB
  rw [List.getElem?_map, List.getElem?_eq_getElem (by rw [List.length_range]; exact h), List.getElem_range]; rfl
/-- some marks come again behind q exactly if q is a period -/
theorem marks_again {f : Int → Bool} {M q : Nat} (M0 : 0 < M) (h : PerB f (M : Int)) (hq : q ∣ M) : marksB f M = (List.replicate (M / q) ((marksB f M).take q)).flatten ↔ PerB f (q : Int) := by
  have q0 : 0 < q := Nat.pos_of_dvd_of_pos hq M0
  have hle := Nat.le_of_dvd M0 hq
  have ht : (marksB f M).take q = marksB f q := take_map_range _ hle
  rw [ht]
  constructor
  · intro e z
    have key : ∀ k : Nat, k < M → f (k : Int) = f ((k % q : Nat) : Int) := fun k hk => by
      have h1 := marks_get (f := f) hk
      rw [e, rep_get _ (by rw [marks_len]; exact q0) _ _ (by rw [marks_len, Nat.div_mul_cancel hq]; exact hk), marks_len, marks_get (Nat.mod_lt k q0)] at h1
      exact (Option.some.inj h1).symm
    have red : ∀ z : Int, f z = f (z % (q : Int)) := fun z => by
      have m0 := Int.emod_nonneg z (show (M : Int) ≠ 0 by omega)
      have m1 := Int.emod_lt_of_pos z (show (0 : Int) < M by omega)
      have h1 := key (z % (M : Int)).toNat (by omega)
      rw [Int.natCast_emod, Int.toNat_of_nonneg m0, per_mod h, Int.emod_emod_of_dvd _ (Int.natCast_dvd_natCast.mpr hq)] at h1
      exact h1
    rw [red (z + q), red z, Int.add_emod_right]
  · intro g
    exact per_list _ q0 hq fun k => by
      rw [Int.natCast_emod]; exact per_mod g (k : Int)
section
variable {n : Nat} {a b c : Pm n} {s : Nat}
/-- from a state the loop and the split loops end alike -/
def stB (a b : Pm n) (s : Nat) (z : Int) : Bool := decide ((zpw (a * b) z).at s = (zpw a z * zpw b z).at s)
theorem su_all {z : Int} : suB a b z = true ↔ ∀ s, s < n → stB a b s z = true := by
  unfold suB stB
  rw [decide_eq_true_eq]
  constructor
  · intro h s _; rw [decide_eq_true_eq, h]
  · intro h
    exact Pm.ext fun s hs => of_decide_eq_true (h s hs)
theorem Ord3.st {N : Nat} (h : Ord3 a b N) : PerB (stB a b s) (N : Int) := fun z => by
  have h1 := h.mod (z + N)
  have h2 := h.mod z
  rw [Int.add_emod_right] at h1
  unfold stB
  rw [← h1.1, ← h1.2.1, ← h1.2.2, h2.1, h2.2.1, h2.2.2]
theorem at_zpw {z : Int} (hs : s < n) : (zpw a z * zpw b z).at s = (zpw b z).at ((zpw a z).at s) := pm_at_mul hs
/-! how long a state takes to come back -/
structure PerD (c : Pm n) (s L : Nat) : Prop where
  pos : 0 < L
  back : itr c L s = s
  min : ∀ k, 0 < k → k < L → itr c k s ≠ s
theorem dis_le {j : Nat} (hs : s < n) (h : ∀ m, 0 < m → m < j → itr c m s ≠ s) : j ≤ n := by
  have ne : ∀ a b, a < b → b < j → itr c a s ≠ itr c b s := fun a b hab hb e => by
    have e2 : itr c (a + (b - a)) s = itr c a s := by rw [show a + (b - a) = b by omega]; exact e.symm
    rw [itr_add] at e2
    exact h (b - a) (by omega) (by omega) (itr_inj (itr_lt hs) hs e2)
  have := nodup_len n ((List.range j).map fun m => itr c m s) (map_nodup List.nodup_range fun x hx y hy e => by
    have hx' := List.mem_range.mp hx
    have hy' := List.mem_range.mp hy
    rcases Nat.lt_trichotomy x y with z | z | z
    · exact absurd e (ne x y z hy')
    · exact z
    · exact absurd e.symm (ne y x z hx')) fun x hx => by
    obtain ⟨m, _, rfl⟩ := List.mem_map.mp hx
    exact itr_lt hs
  rwa [List.length_map, List.length_range] at this
theorem perD_ex (c : Pm n) (hs : s < n) : ∃ L, PerD c s L ∧ L ≤ n := by
  have hex : ∃ k, k ≤ n ∧ (0 < k ∧ itr c k s = s) := by
    apply Classical.byContradiction
    intro hno
    have := dis_le (c := c) (j := n + 1) hs fun m m0 hm e => hno ⟨m, by omega, m0, e⟩
    omega
  obtain ⟨L, ⟨h1, h2⟩, h3⟩ := least_nat (R := fun k => 0 < k ∧ itr c k s = s) n hex
  refine ⟨L, ⟨h1, h2, fun k k0 kL e => ?_⟩, ?_⟩
  · have := h3 k ⟨k0, e⟩; omega
  · obtain ⟨k, a, b⟩ := hex
    have := h3 k b; omega
open Classical in
noncomputable def perN (c : Pm n) (s : Nat) : Nat := if h : ∃ L, PerD c s L ∧ L ≤ n then h.choose else 1
theorem perN_is (c : Pm n) (hs : s < n) : PerD c s (perN c s) ∧ perN c s ≤ n := by
  unfold perN
  rw [dif_pos (perD_ex c hs)]
  exact (perD_ex c hs).choose_spec
theorem PerD.uniq {L M : Nat} (h : PerD c s L) (g : PerD c s M) : L = M := by
  rcases Nat.lt_trichotomy L M with z | z | z
  · exact absurd h.back (g.min L h.pos z)
  · exact z
  · exact absurd g.back (h.min M g.pos z)
theorem PerD.dvd {L k : Nat} (h : PerD c s L) : itr c k s = s ↔ L ∣ k := by
  constructor
  · intro e
    have h1 : itr c (k % L) s = s := by
      have e2 : itr c (k % L + k / L * L) s = s := by rw [Nat.mul_comm, Nat.mod_add_div]; exact e
      rwa [itr_add, itr_mul h.back] at e2
    have hlt := Nat.mod_lt k h.pos
    by_cases z : k % L = 0
    · exact Nat.dvd_of_mod_eq_zero z
    · exact absurd h1 (h.min _ (by omega) hlt)
  · rintro ⟨q, rfl⟩
    rw [Nat.mul_comm]; exact itr_mul h.back q
theorem PerD.mod {L : Nat} (h : PerD c s L) (k : Nat) : itr c (k % L) s = itr c k s := by
  conv => rhs; rw [← Nat.mod_add_div k L, itr_add, Nat.mul_comm, itr_mul h.back]
noncomputable def orbL (c : Pm n) (s : Nat) : List PyData := (List.range (perN c s)).map fun k => natD (itr c k s)
theorem orb_len : (orbL c s).length = perN c s := by unfold orbL; rw [List.length_map, List.length_range]
theorem orb_get (hs : s < n) (k : Nat) : (orbL c s)[k % perN c s]? = some (natD (itr c k s)) := by
  have h := (perN_is c hs).1
  have hlt := Nat.mod_lt k h.pos
  unfold orbL
  rw [List.getElem?_map, List.getElem?_eq_getElem (by rw [List.length_range]; exact hlt), List.getElem_range]
  show some (natD (itr c (k % perN c s) s)) = _
  rw [h.mod]
theorem per_ord {N : Nat} (hs : s < n) (h : npw c N = Gp.one) : perN c s ∣ N := (perN_is c hs).1.dvd.mp (one_itr.mp h s hs)
theorem st_itr {k : Nat} (hs : s < n) : stB a b s (k : Int) = decide (itr (a * b) k s = itr b k (itr a k s)) := by
  unfold stB
  rw [at_zpw hs]
  show decide ((npw (a * b) k).at s = (npw b k).at ((npw a k).at s)) = _
  rw [itr_npw hs, itr_npw hs, itr_npw (itr_lt hs)]
/-- a common multiple of the turns is a period -/
theorem st_per {N M : Nat} (O : Ord3 a b N) (hs : s < n) (M0 : 0 < M) (h1 : perN (a * b) s ∣ M) (h2 : perN a s ∣ M) (h3 : ∀ k, k < perN a s → perN b (itr a k s) ∣ M) : PerB (stB a b s) (M : Int) := by
  have hN := O.pos
  have key : ∀ k : Nat, stB a b s ((k + M : Nat) : Int) = stB a b s (k : Int) := fun k => by
    rw [st_itr hs, st_itr hs]
    have e1 : itr (a * b) (k + M) s = itr (a * b) k s := by
      rw [itr_add, (perN_is (a * b) hs).1.dvd.mpr h1]
    have e2 : itr a (k + M) s = itr a k s := by rw [itr_add, (perN_is a hs).1.dvd.mpr h2]
    have e3 : itr b (k + M) (itr a k s) = itr b k (itr a k s) := by
      rw [itr_add]
      congr 1
      have hk := Nat.mod_lt k (perN_is a hs).1.pos
      have := (perN_is b (itr_lt hs)).1.dvd.mpr (h3 _ hk)
      rwa [(perN_is a hs).1.mod] at this
    rw [e1, e2, e3]
  intro z
  have m0 := Int.emod_nonneg z (show (N : Int) ≠ 0 by omega)
  have hp := O.st (s := s)
  rw [← per_mod hp z, ← per_mod hp (z + M)]
  have e := key (z % (N : Int)).toNat
  rw [Int.natCast_add, Int.toNat_of_nonneg m0] at e
  rw [← e, ← per_mod hp (z % (N : Int) + M)]
  rw [Int.emod_add_emod]
/-- the round of a couple divides every common period -/
theorem round_dvd {d : Nat} (D : RdD a b d) {M : Nat} (h : ∀ s, s < n → PerB (stB a b s) (M : Int)) : d ∣ M := by
  have hsu : ∀ z, suB a b (z + M) = suB a b z := fun z => by
    rw [Bool.eq_iff_iff, su_all, su_all]
    exact ⟨fun g s hs => by rw [← h s hs z]; exact g s hs, fun g s hs => by rw [h s hs z]; exact g s hs⟩
  refine Int.natCast_dvd_natCast.mp ((D.2 _).mp (rd_iff.mpr ⟨?_, ?_⟩))
  · have := hsu 0
    rw [Int.zero_add] at this
    exact suB_iff.mp (this.trans (suB_iff.mpr su_zero))
  · have := hsu 1
    rw [Int.add_comm] at this
    exact suB_iff.mp (this.trans (suB_iff.mpr su_one))
end
end Dl
/-! Every change has an order. -/
namespace Dl
open PySem PySem.Spec
def lcmL : List Nat → Nat
  | [] => 1
  | x :: xs => Nat.lcm x (lcmL xs)
theorem lcmL_dvd : ∀ (l : List Nat) (k : Nat), lcmL l ∣ k ↔ ∀ x ∈ l, x ∣ k
  | [], k => by simp [lcmL]
  | x :: xs, k => by
    unfold lcmL
    rw [Nat.lcm_dvd_iff, lcmL_dvd xs k]
    simp
theorem lcmL_pos : ∀ (l : List Nat), (∀ x ∈ l, 0 < x) → 0 < lcmL l
  | [], _ => by simp [lcmL]
  | x :: xs, h => Nat.lcm_pos (h x (by simp)) (lcmL_pos xs fun y hy => h y (by simp [hy]))
theorem ordD_ex {n : Nat} (c : Pm n) : ∃ f, OrdD c f := by
  refine ⟨lcmL ((List.range n).map (perN c)), lcmL_pos _ fun x hx => ?_, fun k => ?_⟩
  · obtain ⟨s, hs, rfl⟩ := List.mem_map.mp hx
    exact (perN_is c (List.mem_range.mp hs)).1.pos
  · rw [lcmL_dvd, one_itr]
    constructor
    · intro h x hx
      obtain ⟨s, hs, rfl⟩ := List.mem_map.mp hx
      exact (perN_is c (List.mem_range.mp hs)).1.dvd.mp (h s (List.mem_range.mp hs))
    · intro h s hs
      exact (perN_is c hs).1.dvd.mpr (h _ (List.mem_map.mpr ⟨s, List.mem_range.mpr hs, rfl⟩))
end Dl
local macro_rules | `(tactic| walk_at "d") => `(tactic| (try simp -dsimp only [
  Dl.isN, Dl.n_cx, ↓Dl.dSeq_s, ↓Dl.sq_nx, ↓Dl.sq_rt, ↓Dl.sq_bk, ↓Dl.sq_ct, ↓Dl.w_dNext, ↓Dl.w_dVar, ↓Dl.w_dVarB, ↓Dl.w_dC, ↓Dl.w_d2, ↓Dl.w_fI, ↓Dl.w_fEq, ↓Dl.w_fNe, ↓Dl.w_tb, ↓Dl.w_dSet, ↓Dl.w_dSetO, ↓Dl.w_dRet, ↓Dl.w_dRetN, ↓Dl.w_dDrop, ↓Dl.w_dPar, ↓Dl.dIfS_s, ↓Dl.ifS_t, ↓Dl.ifS_f, Dl.ifS_t', Dl.ifS_f', ↓Dl.w_dIf, ↓Dl.w_aNil, ↓Dl.w_aCons, 
  ↓Dl.w_dTup, ↓Dl.w_dLst, ↓Dl.w_dAsg, ↓Dl.w_tgTup, ↓Dl.w_tgCons, ↓Dl.w_tgNil, ↓Dl.w_tgName, ↓Dl.w_tgSub, Dl.start', Dl.T2, ↓Dl.w_dAnd, ↓Dl.w_dOr, ↓Dl.w_dNot, ↓Dl.w_dAndV, ↓Dl.w_dOrV, ↓Dl.w_dNotV, ↓Dl.w_dNeg, ↓Dl.w_fIx, ↓Dl.w_oNone, ↓Dl.w_oSome, ↓Dl.w_dSlT, ↓Dl.w_dSlL, ↓Dl.w_dSl, ↓Dl.w_dA, ↓Dl.w_fAbs, 
  ↓Dl.w_fAll, ↓Dl.w_fAny, ↓Dl.w_fInt, ↓Dl.w_fLen, ↓Dl.w_fList, ↓Dl.w_fMax2, ↓Dl.w_fMaxL, ↓Dl.w_fMinL, ↓Dl.w_fSum, ↓Dl.w_fTuple, ↓Dl.w_fRepr, ↓Dl.w_fSortT, ↓Dl.w_fSortSet, ↓Dl.w_fSortTT, ↓Dl.w_fMaxT, ↓Dl.w_fIsN, ↓Dl.w_fNotN, ↓Dl.w_fIsB, ↓Dl.w_fNotB, ↓Dl.w_fSortU, ↓Dl.w_fCatL, ↓Dl.w_fRepL, ↓Dl.w_dRev, ↓Dl.w_dRg, ↓Dl.w_dScr, ↓Dl.dCall_s, ↓Dl.dCallK_s, ↓Dl.w_gNil', 
  ↓Dl.w_gVal, ↓Dl.w_gDeal, ↓Dl.w_gScr, ↓Dl.w_iSeq, ↓Dl.w_iR1, ↓Dl.dLc_b, ↓Dl.dLc2_b, ↓Dl.dFor_b, ↓Dl.w_dRel, Dl.rel, ↓Dl.w_dApp, ↓Dl.w_dExt, ↓Dl.w_dAppPop, ↓Dl.w_dPop, ↓Dl.w_dIns, ↓Dl.w_dParOO, ↓Dl.w_dParOV, ↓Dl.w_dParVO, ↓Dl.w_dPar3, ↓Dl.w_dSet3, ↓Dl.w_dPar3O, ↓Dl.w_dRaise, ↓Dl.w_dCh, Dl.ltI, Dl.leI, ↓Dl.w_dSetPop, ↓Dl.w_iEn, ↓Dl.w_iZp, Dl.numD, 
  ↓Dl.w_aStar, Dl.wipeD, Dl.noO, Dl.pick, Dl.Ga.qt, Dl.isiD, List.map_cons, List.map_nil, List.length_cons, List.length_nil, List.cons_append, List.nil_append, List.replicate, List.getElem?_cons_succ, List.getElem?_cons_zero, List.set_cons_succ, List.set_cons_zero, List.length_set, List.filterMap_cons, 
  List.filterMap_nil, Nat.reduceAdd, Nat.reduceSub, Nat.reduceLT, Nat.reduceEqDiff, Nat.zero_lt_succ, Nat.reduceBEq, Option.some.injEq, Dl.SV.v.injEq, Dl.SV.o.injEq, Dl.SV.b.injEq, Dl.SV.scr.injEq, PySem.PyData.int.injEq, PySem.PyData.bool.injEq, PySem.PyData.str.injEq, PySem.PyData.tuple.injEq, PySem.PyData.list.injEq, 
  PySem.PyData.dict.injEq, List.cons.injEq, reduceCtorEq, ne_eq, not_false_eq_true, not_true_eq_false, false_and, and_false, exists_false, or_false, false_or, true_and, and_true, exists_eq_left', exists_eq_left, exists_and_left, exists_const, and_assoc, exists_eq, if_true, if_false, Bool.not_true, Bool.not_false, 
  ite_true, ite_false, Bool.false_eq_true, ↓reduceIte, Dl.sz0, Dl.sz1, Dl.sz2, Dl.sz3, Dl.sz4, Dl.sz5, Dl.sz6, Dl.sz7, Dl.sz8, Dl.sz9, Dl.sz10, Dl.sz11, Dl.sz12, Dl.sz13, Dl.sz14, Dl.sz15, Dl.sz16, Dl.sz17, Dl.sz18, Dl.sz19, Dl.sz20, Dl.sz21, Dl.sz22, Dl.sz23, Dl.sz24, Dl.sz25, Dl.sz26, Dl.sz27, Dl.sz28, 
  Dl.sz29, Dl.sz30, Dl.sz31, Dl.sz32, Dl.szl0, Int.natCast_zero, Int.natCast_one, Int.cast_ofNat_Int, Int.reduceBEq, Int.reduceLT, Int.reduceLE, beq_self_eq_true, decide_true, decide_false, Int.toNat_natCast, List.length_map, Int.zero_add, Dl.eqv_int, Dl.shaped_int, Dl.shaped_bool, Dl.shaped_none, String.reduceBEq, Bool.or_self, Bool.or_false, Bool.false_or, 
  Bool.or_true, Bool.true_or, ↓Dl.w_iR2, Dl.onInt_s, Dl.onBool_s, Dl.onList_s, Dl.onTup_s, Dl.onSeq_l, Dl.onSeq_t, Dl.onLen_l, Dl.onLen_t, Dl.onLen_s, Dl.onV_s, Dl.onO_s, Dl.onB_v, Dl.onB_o, Dl.onB_b, Dl.onBo_o, Dl.onBo_b, Dl.onIt_v, Dl.onIt_b, ↓Dl.w_gBor, ↓Dl.w_iVar, Dl.onScr_s, Dl.on1_s, Dl.onCons_s, Dl.slD_t, Dl.slD_l, Dl.zpD_l, Dl.zpD_t, Dl.fAdd_i, Dl.fAdd_t, Dl.fAdd_l, Dl.fAdd_s, 
  Dl.fMul_i, Dl.fMul_l, Dl.w_fMulS, Dl.w_fMulT, Dl.fIn_l, Dl.fIn_t]))
namespace K03
open PySem PySem.Spec PyProof.Rows L2 Dl
def topS (i : Nat) : Stmt := PySem.Challenge.pw_batchnumbers_k03_powers_and_loops.main.body.getD i (.Pass ⟨0, 0, 0, 0⟩)
theorem bad_by {k : Nat} {ds : List PyData} (h : ∀ d : Pm k, ds = d.1.map natD → False) : chgB k (.tuple ds) = false := by
  cases e : chgB k (.tuple ds) with
  | false => rfl
  | true =>
    obtain ⟨_, d, hd⟩ := chg_of e
    have : ds = d.1.map natD := by injection hd
    exact (h d this).elim
theorem natD_inj : ∀ x y : Nat, natD x = natD y → x = y := fun x y h => by injection h with h; exact Int.ofNat.inj h
theorem pm_nodup {k : Nat} (d : Pm k) : (d.1.map natD).Nodup := List.Pairwise.map natD (fun x y n e => n (natD_inj x y e)) d.2.nd
theorem bad_dup {k : Nat} {ds : List PyData} (h : ¬ ds.Nodup) : chgB k (.tuple ds) = false := bad_by fun d e => h (by rw [e]; exact pm_nodup d)
theorem bad_mem {k : Nat} {ds : List PyData} {x : PyData} (hx : x ∈ ds) (h : ∀ s : Nat, s < k → x ≠ natD s) : chgB k (.tuple ds) = false := bad_by fun d e => by
  rw [e] at hx
  obtain ⟨s, hs, rfl⟩ := List.mem_map.mp hx
  exact h s (d.2.lt s hs) rfl
section
variable {P : Program} {w : World} {K : PySem.W.Frag} {mg : Str → Option Value} {base : Heap} {gg : GInv} {C_InvalidChange : Addr}
abbrev s__law_any : Stmt := topS 26
theorem sc__law_any : FnScope ["_law_deal", "_law_bound", "_law_rest"] ["_law_deal", "_law_bound"] (defScope s__law_any) := ⟨rfl, rfl, rfl, by decide +kernel, rfl, by decide +kernel, by decide +kernel⟩
theorem fn_any {f : Addr} {fd : FuncData} {k : Nat} (F : Fun K "_law_any" "_law_any" s__law_any f fd) (z_int : mg "int" = none) : FnD P w K mg base gg (k + 1) f fd ["_law_deal", "_law_bound"] S_any := by
  refine fnG_of F sc__law_any (fun vs H Q E ⟨dl, B0, args, _, _, _, _, al, b, ha, _⟩ => by rw [← al.len, ha]; rfl) fun cdv A outer s H vs Q E hg hr hsp => ?_
  have hu : (A.deeper (envOfC "_law_any" (defScope s__law_any) s.heap.objs.size f cdv)).units + 64 < cLine := by have := hr.un; omega
  have po : PassesOwn (model P w) (A.deeper (envOfC "_law_any" (defScope s__law_any) s.heap.objs.size f cdv)) (envOfC "_law_any" (defScope s__law_any) s.heap.objs.size f cdv) (cxOf (L2.CX P w) P w K mg base ["_law_deal", "_law_bound", "_law_rest"] "_law_any" (defScope s__law_any) f cdv A outer s H E).xe := passes_of rfl
  have pv0 : ∀ {p}, PE (cxOf (L2.CX P w) P w K mg base ["_law_deal", "_law_bound", "_law_rest"] "_law_any" (defScope s__law_any) f cdv A outer s H E) (.Name "_law_deal" p) (tVar 0) := fun {p} => pe_var rfl (Or.inl rfl) (by decide) (by decide)
  have pv1 : ∀ {p}, PE (cxOf (L2.CX P w) P w K mg base ["_law_deal", "_law_bound", "_law_rest"] "_law_any" (defScope s__law_any) f cdv A outer s H E) (.Name "_law_bound" p) (tVar 1) := fun {p} => pe_var rfl (Or.inl rfl) (by decide) (by decide)
  have pv2 : ∀ {p}, PE (cxOf (L2.CX P w) P w K mg base ["_law_deal", "_law_bound", "_law_rest"] "_law_any" (defScope s__law_any) f cdv A outer s H E) (.Name "_law_rest" p) (tVar 2) := fun {p} => pe_var rfl (Or.inl rfl) (by decide) (by decide)
  refine ⟨_, pss_cons (ps_while po (pw_and (pt_cmpR (op_neD hu) (pe_ix ix_list pv0 pe_int (fun _ _ => rfl)) (pe_lst pa_nil) (nomark _)) (pw_and1 (pt_cmpR (op_eqD hu) (pe_ix ix_list (pe_ix ix_list pv0 pe_int (fun _ _ => rfl)) (pe_un un_neg pe_int) (fun _ _ => rfl)) pe_int (nomark _)))).pt
      (pss_one (ps_expr (pe_bm0 PySem.F.plainAttrs_list PySem.F.slot_list_pop PySem.F.type_list_pop mt_pop (pe_ix ix_list pv0 pe_int (fun _ _ => rfl))) rfl)))
    (pss_cons (ps_if (pt_cmpR (op_neD hu) (pe_ix ix_list pv0 pe_int (fun _ _ => rfl)) (pe_lst pa_nil) (nomark _))
      (pss_cons (ps_set (i := 2) sc__law_any.nd rfl (Or.inl rfl) (pe_callTy call_int1 rfl z_int (by decide +kernel) (pa_cons (pe_bm0 PySem.F.plainAttrs_list PySem.F.slot_list_pop PySem.F.type_list_pop mt_pop (pe_ix ix_list pv0 pe_int (fun _ _ => rfl))) pa_nil)) rfl (Or.inl rfl))
      (pss_cons (ps_expr (pe_bm PySem.F.plainAttrs_list PySem.F.slot_list_append PySem.F.type_list_append mt_append (pe_ix ix_list pv0 pe_int (fun _ _ => rfl)) (pa_cons (pe_op op_fdivW pv2 pv1) pa_nil)) rfl)
      (pss_one (ps_ret (pe_op op_mod pv2 pv1)))))
      pss_nil)
    (pss_cons (ps_asg (pe_op op_mod (pe_callTy call_int1 rfl z_int (by decide +kernel) (pa_cons (pe_op op_add (pe_op op_mulW (pe_ix ix_list pv0 pe_int (fun _ _ => rfl)) pe_int) pe_int) pa_nil)) pe_int) (pg_sub pv0 pe_int set_list (by intro _; rfl)))
    (pss_one (ps_ret (pe_op op_mod (pe_callTy call_int1 rfl z_int (by decide +kernel) (pa_cons (pe_op op_fdivW (pe_ix ix_list pv0 pe_int (fun _ _ => rfl)) pe_int) pa_nil)) pv1))))), ?_⟩
  exact any_args hsp
theorem cal__law_any (D : Def K mg "_law_any" s__law_any) (z_int : mg "int" = none) : Cal P w K mg base gg 1 "_law_any" s__law_any ["_law_deal", "_law_bound"] S_any := by
  obtain ⟨f, fd, hF, hm⟩ := D.ex
  exact ⟨⟨f, fd, hF, hm, hF.binds (fun _ _ _ _ _ _ us hl => match us, hl with | [_, _], _ => rfl), fn_any hF z_int⟩, mo_any⟩
abbrev s_is_integer : Stmt := topS 4
theorem sc_is_integer : FnScope ["value"] ["value"] (defScope s_is_integer) := ⟨rfl, rfl, rfl, by decide +kernel, rfl, by decide +kernel, by decide +kernel⟩
def S_is_integer : SpD := fun args Q E => ∃ (d : PyData), args = [.v d] ∧ Q (.bool (isI d))
theorem mo_is_integer : MoS S_is_integer := fun _ _ _ _ _ m m' ⟨d, h0, q⟩ => ⟨d, h0, m _ q⟩
theorem body_is_integer (z_isinstance : mg "isinstance" = none) (z_bool : mg "bool" = none) (z_int : mg "int" = none) : Body P w K mg base gg 0 "is_integer" s_is_integer ["value"] ["value"] S_is_integer := by
  intro f cdv A outer s H E G xe hgi hG hxd hfx hx hgd hr po
  have hK : (cxOf (L2.CX P w) P w K mg base ["value"] "is_integer" (defScope s_is_integer) f cdv A outer s H E).K = G.K := hG.symm
  refine ⟨_, (dss_one (ds_ret (de_and (de_isi hK (T := "int") (by decide) z_isinstance (by decide +kernel) z_int (bv 0)) (de_one (de_not (de_isi hK (T := "bool") (by decide) z_isinstance (by decide +kernel) z_bool (bv 0))))))), ?_⟩
  try simp only [hxd]
  clear hK po hr hgd hx hfx hG hgi hxd
  rintro args Q ⟨d, rfl, hQ⟩
  walk_at "d"
  cases d <;> (walk_at "d"; simpa [isI] using hQ)

theorem cal_is_integer (hgK : gg.K = K) (D : Def K mg "is_integer" s_is_integer) (z_isinstance : mg "isinstance" = none) (z_bool : mg "bool" = none) (z_int : mg "int" = none) : Cal P w K mg base gg 1 "is_integer" s_is_integer ["value"] S_is_integer :=
  cal_of hgK D sc_is_integer mo_is_integer (fun _ _ _ h => by obtain ⟨_, rfl, _⟩ := h; rfl) (fun _ _ _ _ _ _ us hl => match us, hl with | [_], _ => rfl) (body_is_integer z_isinstance z_bool z_int)
abbrev s_is_number : Stmt := topS 5
theorem sc_is_number : FnScope ["value"] ["value"] (defScope s_is_number) := ⟨rfl, rfl, rfl, by decide +kernel, rfl, by decide +kernel, by decide +kernel⟩
def S_is_number : SpD := fun args Q E => ∃ (d : PyData), args = [.v d] ∧ Q (.bool (nonB d))
theorem mo_is_number : MoS S_is_number := fun _ _ _ _ _ m m' ⟨d, h0, q⟩ => ⟨d, h0, m _ q⟩
theorem body_is_number
    (C_is_integer : Cal P w K mg base gg 1 "is_integer" s_is_integer ["value"] S_is_integer) : Body P w K mg base gg 1 "is_number" s_is_number ["value"] ["value"] S_is_number := by
  intro f cdv A outer s H E G xe hgi hG hxd hfx hx hgd hr po
  have hK : (cxOf (L2.CX P w) P w K mg base ["value"] "is_number" (defScope s_is_number) f cdv A outer s H E).K = G.K := hG.symm
  refine ⟨_, (dss_one (ds_ret (de_and (de_cal C_is_integer hx hgd hr (by decide) (dg_val (dv 0) dg_nil)) (de_one (de_ge (bv 0) (de_int).b))))), ?_⟩
  try simp only [hxd]
  clear hK po hr hgd hx hfx hG hgi hxd
  rintro args Q ⟨d, rfl, hQ⟩
  walk_at "d"
  refine ⟨d, rfl, ?_⟩
  cases d with
  | int i =>
    rw [show isI (PyData.int i) = true from rfl]
    walk_at "d"
    exact hQ
  | _ =>
    simp only [isI]
    walk_at "d"
    exact hQ

theorem cal_is_number (hgK : gg.K = K) (D : Def K mg "is_number" s_is_number)
    (C_is_integer : Cal P w K mg base gg 1 "is_integer" s_is_integer ["value"] S_is_integer) : Cal P w K mg base gg 2 "is_number" s_is_number ["value"] S_is_number :=
  cal_of hgK D sc_is_number mo_is_number (fun _ _ _ h => by obtain ⟨_, rfl, _⟩ := h; rfl) (fun _ _ _ _ _ _ us hl => match us, hl with | [_], _ => rfl) (body_is_number C_is_integer)
abbrev s_is_index : Stmt := topS 6
theorem sc_is_index : FnScope ["value", "many"] ["value", "many"] (defScope s_is_index) := ⟨rfl, rfl, rfl, by decide +kernel, rfl, by decide +kernel, by decide +kernel⟩
def S_is_index : SpD := fun args Q E => ∃ (d : PyData) (n : Nat), args = [.v d, .v (.int (n : Int))] ∧ Q (.bool (idxB n d))
theorem mo_is_index : MoS S_is_index := fun _ _ _ _ _ m m' ⟨d, n, h0, q⟩ => ⟨d, n, h0, m _ q⟩
theorem body_is_index
    (C_is_number : Cal P w K mg base gg 2 "is_number" s_is_number ["value"] S_is_number) : Body P w K mg base gg 2 "is_index" s_is_index ["value", "many"] ["value", "many"] S_is_index := by
  intro f cdv A outer s H E G xe hgi hG hxd hfx hx hgd hr po
  have hK : (cxOf (L2.CX P w) P w K mg base ["value", "many"] "is_index" (defScope s_is_index) f cdv A outer s H E).K = G.K := hG.symm
  refine ⟨_, (dss_one (ds_ret (de_and (de_cal C_is_number hx hgd hr (by decide) (dg_val (dv 0) dg_nil)) (de_one (de_lt (bv 0) (bv 1)))))), ?_⟩
  try simp only [hxd]
  clear hK po hr hgd hx hfx hG hgi hxd
  rintro args Q ⟨d, n, rfl, hQ⟩
  walk_at "d"
  refine ⟨d, rfl, ?_⟩
  cases d with
  | int i =>
    have e : idxB n (.int i) = (decide (0 ≤ i) && decide (i < (n : Int))) := rfl
    rw [e] at hQ
    rw [show nonB (PyData.int i) = decide (0 ≤ i) from rfl]
    cases h : decide (0 ≤ i) with
    | true =>
      rw [h] at hQ
      walk_at "d"
      exact hQ
    | false =>
      rw [h] at hQ
      walk_at "d"
      exact hQ
  | _ =>
    simp only [nonB]
    walk_at "d"
    exact hQ

theorem cal_is_index (hgK : gg.K = K) (D : Def K mg "is_index" s_is_index)
    (C_is_number : Cal P w K mg base gg 2 "is_number" s_is_number ["value"] S_is_number) : Cal P w K mg base gg 3 "is_index" s_is_index ["value", "many"] S_is_index :=
  cal_of hgK D sc_is_index mo_is_index (fun _ _ _ h => by obtain ⟨_, _, rfl, _⟩ := h; rfl) (fun _ _ _ _ _ _ us hl => match us, hl with | [_, _], _ => rfl) (body_is_index C_is_number)
abbrev s_common_divisor : Stmt := topS 7
theorem sc_common_divisor : FnScope ["one", "other"] ["one", "other"] (defScope s_common_divisor) := ⟨rfl, rfl, rfl, by decide +kernel, rfl, by decide +kernel, by decide +kernel⟩
def S_common_divisor : SpD := fun args Q E => ∃ (a : Int) (b : Int), args = [.v (.int a), .v (.int b)] ∧ (0 ≤ a) ∧ (0 ≤ b) ∧ Q (.int (Int.gcd a b))
theorem mo_common_divisor : MoS S_common_divisor := fun _ _ _ _ _ m m' ⟨a, b, h0, h1, h2, q⟩ => ⟨a, b, h0, h1, h2, m _ q⟩
theorem body_common_divisor : Body P w K mg base gg 0 "common_divisor" s_common_divisor ["one", "other"] ["one", "other"] S_common_divisor := by
  intro f cdv A outer s H E G xe hgi hG hxd hfx hx hgd hr po
  have hK : (cxOf (L2.CX P w) P w K mg base ["one", "other"] "common_divisor" (defScope s_common_divisor) f cdv A outer s H E).K = G.K := hG.symm
  refine ⟨_, (dss_cons (ds_while po (dt_ne hr (bv 1) (de_int).b) (dss_one (ds_par (i := 0) (j := 1) rfl sc_common_divisor.nd rfl rfl (by decide) rfl rfl (dv 1) (de_mod (bv 0) (bv 1)) rfl)))
    (dss_one (ds_ret (dv 0)))), ?_⟩
  try simp only [hxd]
  clear hK po hr hgd hx hfx hG hgi hxd
  rintro args Q ⟨a, b, rfl, ha, hb, hQ⟩
  walk_at "d"
  refine ⟨fun m ρ => ∃ x y : Int, ρ = [some (.v (.int x)), some (.v (.int y))] ∧ 0 ≤ x ∧ 0 ≤ y ∧ Int.gcd x y = Int.gcd a b ∧ m = y.toNat, ⟨_, a, b, rfl, ha, hb, rfl, rfl⟩, ?_⟩
  rintro m ρ ⟨x, y, rfl, hx0, hy0, hg, hm⟩
  walk_at "d"
  by_cases h : y = 0
  · subst h
    simp only [beq_self_eq_true, Bool.not_true, Bool.false_eq_true, if_false]
    rw [← hg, Int.gcd_zero_right] at hQ
    rwa [show ((x.natAbs : Nat) : Int) = x by omega] at hQ
  · have e : (y == 0) = false := by simpa using h
    have hp : 0 < y := by omega
    rw [e]
    simp only [Bool.not_false, if_true]
    refine ⟨hp, _, ?_, hy0, Int.emod_nonneg _ h, ?_, rfl⟩
    · have := Int.emod_lt_of_pos x hp
      have := Int.emod_nonneg x h
      omega
    · rw [← hg]
      exact gcd_step x y

theorem cal_common_divisor (hgK : gg.K = K) (D : Def K mg "common_divisor" s_common_divisor) : Cal P w K mg base gg 1 "common_divisor" s_common_divisor ["one", "other"] S_common_divisor :=
  cal_of hgK D sc_common_divisor mo_common_divisor (fun _ _ _ h => by obtain ⟨_, _, rfl, _⟩ := h; rfl) (fun _ _ _ _ _ _ us hl => match us, hl with | [_, _], _ => rfl) (body_common_divisor)
abbrev s_common_multiple : Stmt := topS 8
theorem sc_common_multiple : FnScope ["one", "other"] ["one", "other"] (defScope s_common_multiple) := ⟨rfl, rfl, rfl, by decide +kernel, rfl, by decide +kernel, by decide +kernel⟩
def S_common_multiple : SpD := fun args Q E => ∃ (a : Nat) (b : Nat), args = [.v (.int (a : Int)), .v (.int (b : Int))] ∧ (0 < a) ∧ (0 < b) ∧ (a < 2 ^ 900) ∧ (b < 2 ^ 900) ∧ Q (.int (Nat.lcm a b : Nat))
theorem mo_common_multiple : MoS S_common_multiple := fun _ _ _ _ _ m m' ⟨a, b, h0, h1, h2, h3, h4, q⟩ => ⟨a, b, h0, h1, h2, h3, h4, m _ q⟩
theorem body_common_multiple
    (C_common_divisor : Cal P w K mg base gg 1 "common_divisor" s_common_divisor ["one", "other"] S_common_divisor) : Body P w K mg base gg 1 "common_multiple" s_common_multiple ["one", "other"] ["one", "other"] S_common_multiple := by
  intro f cdv A outer s H E G xe hgi hG hxd hfx hx hgd hr po
  have hK : (cxOf (L2.CX P w) P w K mg base ["one", "other"] "common_multiple" (defScope s_common_multiple) f cdv A outer s H E).K = G.K := hG.symm
  refine ⟨_, (dss_one (ds_ret (de_mulU (de_div (bv 0) (de_cal C_common_divisor hx hgd hr (by decide) (dg_val (dv 0) (dg_val (dv 1) dg_nil))).b).b (bv 1)))), ?_⟩
  try simp only [hxd]
  clear hK po hr hgd hx hfx hG hgi hxd
  rintro args Q ⟨a, b, rfl, a0, b0, a1, b1, hQ⟩
  walk_at "d"
  refine ⟨(a : Int), (b : Int), rfl, by omega, by omega, ?_⟩
  have hg : ((Int.gcd (a : Int) (b : Int) : Nat) : Int) = (Nat.gcd a b : Nat) := by rw [Int.gcd_natCast_natCast]
  rw [hg]
  have g0 : 0 < Nat.gcd a b := Nat.gcd_pos_of_pos_left b a0
  have g1 : Nat.gcd a b < 2 ^ 900 := Nat.lt_of_le_of_lt (Nat.le_of_dvd a0 (Nat.gcd_dvd_left a b)) a1
  have hd : ((a : Int) / (Nat.gcd a b : Nat)) = ((a / Nat.gcd a b : Nat) : Int) := (Int.natCast_ediv _ _).symm
  walk_at "d"
  rw [hd]
  refine ⟨cdiv_of (n := 900) (by omega) (by rw [Int.natAbs_natCast]; exact g1), ?_⟩
  walk_at "d"
  refine ⟨cmul_of (n := 900) (k := 900) (by rw [Int.natAbs_natCast]; exact Nat.lt_of_le_of_lt (Nat.div_le_self _ _) a1) (by rw [Int.natAbs_natCast]; exact b1), ?_⟩
  rw [← Int.natCast_mul, lcm_div a b a0]
  exact hQ

theorem cal_common_multiple (hgK : gg.K = K) (D : Def K mg "common_multiple" s_common_multiple)
    (C_common_divisor : Cal P w K mg base gg 1 "common_divisor" s_common_divisor ["one", "other"] S_common_divisor) : Cal P w K mg base gg 2 "common_multiple" s_common_multiple ["one", "other"] S_common_multiple :=
  cal_of hgK D sc_common_multiple mo_common_multiple (fun _ _ _ h => by obtain ⟨_, _, rfl, _⟩ := h; rfl) (fun _ _ _ _ _ _ us hl => match us, hl with | [_, _], _ => rfl) (body_common_multiple C_common_divisor)
abbrev s_checked_change : Stmt := topS 10
theorem sc_checked_change : FnScope ["states", "value", "state"] ["states", "value"] (defScope s_checked_change) := ⟨rfl, rfl, rfl, by decide +kernel, rfl, by decide +kernel, by decide +kernel⟩
def S_checked_change (C : Addr) : SpD := fun args Q E => ∃ (n : Nat) (v : PyData), args = [.v (.int (n : Int)), .v v] ∧ (smallC v) ∧ ((∀ c : Pm n, 0 < n → v = chD c → Q v) ∧ (chgB n v = false → E C (.int 0)))
theorem mo_checked_change (C : Addr) : MoS (S_checked_change C_InvalidChange) := fun _ _ _ _ _ m m' ⟨n, v, h0, h1, q⟩ => ⟨n, v, h0, h1, ⟨fun c h0 e => m _ (q.1 c h0 e), fun e => m' _ _ (q.2 e)⟩⟩
theorem body_checked_change
    (C_is_index : Cal P w K mg base gg 3 "is_index" s_is_index ["value", "many"] S_is_index) (z_sorted : mg "sorted" = none) (z_list : mg "list" = none) (z_range : mg "range" = none) (z_all : mg "all" = none) (z_len : mg "len" = none) (z_isinstance : mg "isinstance" = none) (z_tuple : mg "tuple" = none) {fI_InvalidChange : Addr} (T_InvalidChange : PySem.ErX.ErrTxt P K mg "InvalidChange" "invalid change" C_InvalidChange fI_InvalidChange) : Body P w K mg base gg 3 "checked_change" s_checked_change ["states", "value", "state"] ["states", "value"] (S_checked_change C_InvalidChange) := by
  intro f cdv A outer s H E G xe hgi hG hxd hfx hx hgd hr po
  have hK : (cxOf (L2.CX P w) P w K mg base ["states", "value", "state"] "checked_change" (defScope s_checked_change) f cdv A outer s H E).K = G.K := hG.symm
  refine ⟨_, (dss_cons (ds_if ((dw_or (dt_not (dt_val (de_isi hK (T := "tuple") (by decide) z_isinstance (by decide +kernel) z_tuple (bv 1)))) (dw_or (dt_ne hr (de_len z_len (dab_cons (bv 1) dab_nil)).b (bv 0)) (dw_or1 (dt_eq hr (bv 0) (de_int).b))))).dt (dss_one (ds_raise T_InvalidChange hx hr de_int)) dss_nil)
    (dss_cons (ds_if (dt_not (dt_val (de_all rfl z_all (dab_cons ((df_lc (own := [("state", 2)]) rfl sc_checked_change.nd (dic_seq (bv 1)) (blkOk_by (N := ["states", "value", "state"]) (sc := defScope s_checked_change) (by decide +kernel)) (fun _ _ _ _ _ => (tn_name (i := 2) sc_checked_change.nd rfl (by first | exact Or.inl rfl | exact Or.inr rfl))) (fun _ _ _ _ _ => dts_nil) (fun _ _ _ _ _ => (de_cal C_is_index (Xw.blk _ _ _ _ _ hK hgi) hgd hr (by decide) (dg_val (dv 2) (dg_val (dv 0) dg_nil)))) (by decide))).de.b dab_nil)))) (dss_one (ds_raise T_InvalidChange hx hr de_int)) dss_nil)
    (dss_cons (ds_if (dt_ne hr ((df_sortU z_sorted (dab_cons (bv 1) dab_nil))).de.b ((df_listRg (dv 0) z_list z_range)).de.b) (dss_one (ds_raise T_InvalidChange hx hr de_int)) dss_nil)
    (dss_one (ds_ret (dv 1)))))), ?_⟩
  try simp only [hxd]
  clear hK po hr hgd hx hfx hG hgi hxd
  rintro args Q ⟨n, v, rfl, hs, hQ, hE⟩
  have sl : sizeLine = 16777216 := sizeLine_eq
  walk_at "d"
  cases v with
  | tuple ds =>
    have hdl : ds.length ≤ 4096 := hs
    have e0 : chgB n (.tuple ds) = (decide (ds.length = n) && ds.all (idxB n) && decide ((natsOf ds).Perm (List.range n)) && decide (n ≠ 0)) := rfl
    rw [e0] at hE
    walk_at "d"
    by_cases h1 : ds.length = n
    rotate_left
    · rw [show (((ds.length : Nat) : Int) == (n : Int)) = false from beq_eq_false_iff_ne.mpr (by omega)]
      walk_at "d"
      exact hE (by rw [decide_eq_false h1]; rfl)
    rw [show (((ds.length : Nat) : Int) == (n : Int)) = true by rw [h1]; exact beq_self_eq_true _]
    walk_at "d"
    by_cases h2 : n = 0
    · rw [show ((n : Int) == 0) = true by rw [h2]; rfl]
      walk_at "d"
      exact hE (by rw [decide_eq_false (show ¬ n ≠ 0 by omega), Bool.and_false])
    rw [show ((n : Int) == 0) = false from beq_eq_false_iff_ne.mpr (by omega)]
    walk_at "d"
    refine lcB_id (f := fun x => .bool (idxB n x)) (by omega) (fun x hx R hR => ?_) ?_
    · walk_at "d"
      exact ⟨x, n, rfl, hR⟩
    walk_at "d"
    refine ⟨ds.map (idxB n), by rw [List.map_map]; rfl, ?_⟩
    have ea : (ds.map (idxB n)).all id = ds.all (idxB n) := by rw [List.all_map]; rfl
    rw [ea]
    cases ha : ds.all (idxB n) with
    | false =>
      walk_at "d"
      exact hE (by rw [ha, Bool.and_false, Bool.false_and, Bool.false_and])
    | true =>
      obtain ⟨ks, rfl, hk⟩ := idx_all ha
      rw [natsOf_map] at hE
      have em : ∀ l : List Nat, l.map natD = (l.map fun k : Nat => (k : Int)).map .int := fun l => by rw [List.map_map]; rfl
      walk_at "d"
      refine ⟨ks.map fun k : Nat => (k : Int), em ks, fun ms hp hs => ?_⟩
      have hkl : ks.length = n := by rw [← h1, List.length_map]
      walk_at "d"
      refine ⟨by omega, by omega, shaped_ints _, ?_⟩
      have er : (List.range n).map (fun i : Nat => PyData.int (i : Int)) = ((List.range n).map fun k : Nat => (k : Int)).map .int := by rw [List.map_map]; rfl
      rw [er]
      refine ⟨shaped_ints _, ?_⟩
      rw [eqv_ints]
      by_cases hpr : ks.Perm (List.range n)
      · have hsr : ((List.range n).map fun k : Nat => (k : Int)).Pairwise (· ≤ ·) := by
          rw [List.pairwise_map]
          exact (List.pairwise_lt_range).imp fun h => by omega
        rw [decide_eq_true (sorted_unique (hp.trans (hpr.map _)) hs hsr)]
        walk_at "d"
        refine hQ ⟨ks, isP_of hpr⟩ (by omega) rfl
      · rw [decide_eq_false (fun z => hpr ?_)]
        · walk_at "d"
          exact hE (by rw [decide_eq_false hpr, Bool.and_false, Bool.false_and])
        · rw [z] at hp
          have h3 := hp.symm.map Int.toNat
          rw [List.map_map, List.map_map] at h3
          have ei : ∀ l : List Nat, l.map (Int.toNat ∘ fun k : Nat => (k : Int)) = l := fun l => by
            conv => rhs; rw [← List.map_id l]
            exact List.map_congr_left fun k _ => Int.toNat_natCast k
          rwa [ei, ei] at h3
  | _ =>
    walk_at "d"
    exact hE rfl

theorem cal_checked_change (hgK : gg.K = K) (D : Def K mg "checked_change" s_checked_change)
    (C_is_index : Cal P w K mg base gg 3 "is_index" s_is_index ["value", "many"] S_is_index) (z_sorted : mg "sorted" = none) (z_list : mg "list" = none) (z_range : mg "range" = none) (z_all : mg "all" = none) (z_len : mg "len" = none) (z_isinstance : mg "isinstance" = none) (z_tuple : mg "tuple" = none) {fI_InvalidChange : Addr} (T_InvalidChange : PySem.ErX.ErrTxt P K mg "InvalidChange" "invalid change" C_InvalidChange fI_InvalidChange) : Cal P w K mg base gg 4 "checked_change" s_checked_change ["states", "value"] (S_checked_change C_InvalidChange) :=
  cal_of hgK D sc_checked_change (mo_checked_change C_InvalidChange) (fun _ _ _ h => by obtain ⟨_, _, rfl, _⟩ := h; rfl) (fun _ _ _ _ _ _ us hl => match us, hl with | [_, _], _ => rfl) (body_checked_change C_is_index z_sorted z_list z_range z_all z_len z_isinstance z_tuple T_InvalidChange)
abbrev s_idle : Stmt := topS 11
theorem sc_idle : FnScope ["states"] ["states"] (defScope s_idle) := ⟨rfl, rfl, rfl, by decide +kernel, rfl, by decide +kernel, by decide +kernel⟩
def S_idle : SpD := fun args Q E => ∃ (n : Nat), args = [.v (.int (n : Int))] ∧ (n ≤ 4096) ∧ Q (chD (Gp.one : Pm n))
theorem mo_idle : MoS S_idle := fun _ _ _ _ _ m m' ⟨n, h0, h1, q⟩ => ⟨n, h0, h1, m _ q⟩
theorem body_idle (z_tuple : mg "tuple" = none) (z_range : mg "range" = none) : Body P w K mg base gg 0 "idle" s_idle ["states"] ["states"] S_idle := by
  intro f cdv A outer s H E G xe hgi hG hxd hfx hx hgd hr po
  have hK : (cxOf (L2.CX P w) P w K mg base ["states"] "idle" (defScope s_idle) f cdv A outer s H E).K = G.K := hG.symm
  refine ⟨_, (dss_one (ds_ret (de_tupRg (dv 0) z_tuple z_range))), ?_⟩
  try simp only [hxd]
  clear hK po hr hgd hx hfx hG hgi hxd
  rintro args Q ⟨n, rfl, hn, hQ⟩
  walk_at "d"
  exact ⟨by omega, by omega, hQ⟩

theorem cal_idle (hgK : gg.K = K) (D : Def K mg "idle" s_idle) (z_tuple : mg "tuple" = none) (z_range : mg "range" = none) : Cal P w K mg base gg 1 "idle" s_idle ["states"] S_idle :=
  cal_of hgK D sc_idle mo_idle (fun _ _ _ h => by obtain ⟨_, rfl, _⟩ := h; rfl) (fun _ _ _ _ _ _ us hl => match us, hl with | [_], _ => rfl) (body_idle z_tuple z_range)
abbrev s_after : Stmt := topS 12
theorem sc_after : FnScope ["one", "other", "state"] ["one", "other"] (defScope s_after) := ⟨rfl, rfl, rfl, by decide +kernel, rfl, by decide +kernel, by decide +kernel⟩
def S_after : SpD := fun args Q E => ∃ (n : Nat) (a : Pm n) (b : Pm n), args = [.v (chD a), .v (chD b)] ∧ (n ≤ 4096) ∧ Q (chD (a * b))
theorem mo_after : MoS S_after := fun _ _ _ _ _ m m' ⟨n, a, b, h0, h1, q⟩ => ⟨n, a, b, h0, h1, m _ q⟩
theorem body_after (z_tuple : mg "tuple" = none) : Body P w K mg base gg 0 "after" s_after ["one", "other", "state"] ["one", "other"] S_after := by
  intro f cdv A outer s H E G xe hgi hG hxd hfx hx hgd hr po
  have hK : (cxOf (L2.CX P w) P w K mg base ["one", "other", "state"] "after" (defScope s_after) f cdv A outer s H E).K = G.K := hG.symm
  refine ⟨_, (dss_one (ds_ret (de_tuple z_tuple (dab_cons ((df_lc (own := [("state", 2)]) rfl sc_after.nd (dic_seq (bv 0)) (blkOk_by (N := ["one", "other", "state"]) (sc := defScope s_after) (by decide +kernel)) (fun _ _ _ _ _ => (tn_name (i := 2) sc_after.nd rfl (by first | exact Or.inl rfl | exact Or.inr rfl))) (fun _ _ _ _ _ => dts_nil) (fun _ _ _ _ _ => (de_ix (bv 1) (bv 2))) (by decide))).de.b dab_nil)))), ?_⟩
  try simp only [hxd]
  clear hK po hr hgd hx hfx hG hgi hxd
  rintro args Q ⟨n, a, b, rfl, hn, hQ⟩
  have sl : sizeLine = 16777216 := sizeLine_eq
  have el : a.1.length = n := a.2.len
  unfold chD natsL
  walk_at "d"
  refine lcB_m (c := natD) (fun s => natD (gt b.1 s)) (by omega) (fun s hs R hR => ?_) ?_
  · have hlt := a.2.lt s hs
    rw [show natD s = .int (s : Int) from rfl]
    walk_at "d"
    exact ⟨_, atI_some (by omega) (by rw [Int.toNat_natCast, List.getElem?_map, List.getElem?_eq_getElem (by rw [b.2.len]; exact hlt), ← gt_lt]; rfl), hR⟩
  walk_at "d"
  have e : a.1.map (fun s => natD (gt b.1 s)) = (a * b).1.map natD := by rw [pm_val_mul]; unfold aft; rw [List.map_map]; rfl
  rw [e]
  exact hQ

theorem cal_after (hgK : gg.K = K) (D : Def K mg "after" s_after) (z_tuple : mg "tuple" = none) : Cal P w K mg base gg 1 "after" s_after ["one", "other"] S_after :=
  cal_of hgK D sc_after mo_after (fun _ _ _ h => by obtain ⟨_, _, _, rfl, _⟩ := h; rfl) (fun _ _ _ _ _ _ us hl => match us, hl with | [_, _], _ => rfl) (body_after z_tuple)
abbrev s_undone : Stmt := topS 13
theorem sc_undone : FnScope ["change", "found", "state", "to"] ["change"] (defScope s_undone) := ⟨rfl, rfl, rfl, by decide +kernel, rfl, by decide +kernel, by decide +kernel⟩
def S_undone : SpD := fun args Q E => ∃ (n : Nat) (c : Pm n), args = [.v (chD c)] ∧ (n ≤ 4096) ∧ Q (chD (Gp.inv c))
theorem mo_undone : MoS S_undone := fun _ _ _ _ _ m m' ⟨n, c, h0, h1, q⟩ => ⟨n, c, h0, h1, m _ q⟩
theorem body_undone (z_tuple : mg "tuple" = none) (z_enumerate : mg "enumerate" = none) (z_len : mg "len" = none) : Body P w K mg base gg 0 "undone" s_undone ["change", "found", "state", "to"] ["change"] S_undone := by
  intro f cdv A outer s H E G xe hgi hG hxd hfx hx hgd hr po
  have hK : (cxOf (L2.CX P w) P w K mg base ["change", "found", "state", "to"] "undone" (defScope s_undone) f cdv A outer s H E).K = G.K := hG.symm
  refine ⟨_, (dss_cons (ds_setO (i := 1) sc_undone.nd rfl (by first | exact Or.inl rfl | exact Or.inr rfl) (df_repL ((df_lst (da_cons de_int da_nil))).de.b (de_len z_len (dab_cons (bv 0) dab_nil)).b))
    (dss_cons (ds_for po hfx rfl (di_enumerate z_enumerate (da_cons (dv 0) da_nil)) (tg_tup (n := 2) rfl (tgs_cons (tg_name (i := 2) sc_undone.nd rfl (by first | exact Or.inl rfl | exact Or.inr rfl)) (tgs_cons (tg_name (i := 3) sc_undone.nd rfl (by first | exact Or.inl rfl | exact Or.inr rfl)) tgs_nil))) (dss_one (ds_asg (dv 2) (tg_sub (pv 1) (dv 3)))))
    (dss_one (ds_ret (de_tuple z_tuple (dab_cons (bv 1) dab_nil)))))), ?_⟩
  try simp only [hxd]
  clear hK po hr hgd hx hfx hG hgi hxd
  rintro args Q ⟨n, c, rfl, hn, hQ⟩
  have sl : sizeLine = 16777216 := sizeLine_eq
  have el : c.1.length = n := c.2.len
  unfold chD natsL
  walk_at "d"
  have er : (List.replicate c.1.length [PyData.int 0]).flatten = (List.replicate n 0).map natD := by
    rw [el, List.map_replicate]
    generalize n = k
    induction k with
    | zero => rfl
    | succ k ih => rw [List.replicate_succ, List.flatten_cons, ih, List.replicate_succ]; rfl
  rw [er]
  refine ⟨by omega, by omega, by omega, fun i ρ => ∃ (gl : List Nat) (a2 a3 : Option SV), ρ = [some (.v (.tuple (c.1.map natD))), some (.o (gl.map natD)), a2, a3] ∧ gl.length = n ∧ ∀ j, j < i → gt gl (gt c.1 j) = j, ⟨_, _, _, rfl, List.length_replicate, fun j h => by omega⟩, ?_, ?_⟩
  · rintro i ρ ⟨gl, a2, a3, rfl, hgl, hg⟩ hi
    rw [numD_len, List.length_map, el] at hi
    have eg : (numD 0 (c.1.map natD))[i]'(by rw [numD_len, List.length_map, el]; exact hi) = .tuple [.int (i : Nat), natD (gt c.1 i)] := by
      have := numD_get 0 (c.1.map natD) i
      rw [List.getElem?_eq_getElem (by rw [numD_len, List.length_map, el]; exact hi), List.getElem?_map, List.getElem?_eq_getElem (by rw [el]; exact hi), ← gt_lt] at this
      simpa using this
    rw [eg]
    clear eg
    have hlt := c.2.gt hi
    rw [show natD (gt c.1 i) = .int ((gt c.1 i : Nat) : Int) from rfl]
    walk_at "d"
    refine ⟨gt c.1 i, ?_, gl.set (gt c.1 i) i, ?_, by rw [List.length_set, hgl], fun j hj => ?_⟩
    · have := ixN_some (n := gl.length) (i := ((gt c.1 i : Nat) : Int)) (by omega) (by omega)
      rwa [Int.toNat_natCast] at this
    · rw [List.map_set]; rfl
    · by_cases e : j = i
      · subst e
        rw [gt_lt (by rw [List.length_set, hgl]; exact hlt), List.getElem_set_self]
      · have hne : gt c.1 j ≠ gt c.1 i := fun z => e (c.2.inj (by omega) hi z)
        have hjl := c.2.gt (show j < n by omega)
        rw [gt_lt (by rw [List.length_set, hgl]; exact hjl), List.getElem_set_ne (fun z => hne z.symm), ← gt_lt (by rw [hgl]; exact hjl), hg j (by omega)]
  · rintro ρ ⟨gl, a2, a3, rfl, hgl, hg⟩
    rw [numD_len, List.length_map, el] at hg
    have e : gl = und c.1 := list_ext (by rw [hgl, und_len, el]) fun s hs => by
      rw [hgl] at hs
      obtain ⟨h1, h2⟩ := gt_und c.2 hs
      conv => lhs; rw [← h2]
      exact hg _ h1
    subst e
    walk_at "d"
    exact hQ

theorem cal_undone (hgK : gg.K = K) (D : Def K mg "undone" s_undone) (z_tuple : mg "tuple" = none) (z_enumerate : mg "enumerate" = none) (z_len : mg "len" = none) : Cal P w K mg base gg 1 "undone" s_undone ["change"] S_undone :=
  cal_of hgK D sc_undone mo_undone (fun _ _ _ h => by obtain ⟨_, _, rfl, _⟩ := h; rfl) (fun _ _ _ _ _ _ us hl => match us, hl with | [_], _ => rfl) (body_undone z_tuple z_enumerate z_len)
abbrev s_raised : Stmt := topS 14
theorem sc_raised : FnScope ["change", "count", "step", "left", "found"] ["change", "count"] (defScope s_raised) := ⟨rfl, rfl, rfl, by decide +kernel, rfl, by decide +kernel, by decide +kernel⟩
def S_raised : SpD := fun args Q E => ∃ (n : Nat) (c : Pm n) (z : Int), args = [.v (chD c), .v (.int z)] ∧ (n ≤ 4096) ∧ (z.natAbs < 2 ^ 900) ∧ Q (chD (zpw c z))
theorem mo_raised : MoS S_raised := fun _ _ _ _ _ m m' ⟨n, c, z, h0, h1, h2, q⟩ => ⟨n, c, z, h0, h1, h2, m _ q⟩
theorem body_raised
    (C_after : Cal P w K mg base gg 1 "after" s_after ["one", "other"] S_after)
    (C_idle : Cal P w K mg base gg 1 "idle" s_idle ["states"] S_idle)
    (C_undone : Cal P w K mg base gg 1 "undone" s_undone ["change"] S_undone) (z_len : mg "len" = none) : Body P w K mg base gg 1 "raised" s_raised ["change", "count", "step", "left", "found"] ["change", "count"] S_raised := by
  intro f cdv A outer s H E G xe hgi hG hxd hfx hx hgd hr po
  have hK : (cxOf (L2.CX P w) P w K mg base ["change", "count", "step", "left", "found"] "raised" (defScope s_raised) f cdv A outer s H E).K = G.K := hG.symm
  refine ⟨_, (dss_cons (ds_asg (de_if (dt_lt (bv 1) (de_int).b) (de_tup (da_cons (de_cal C_undone hx hgd hr (by decide) (dg_val (dv 0) dg_nil)) (da_cons (de_neg (dv 1)) da_nil))) (de_tup (da_cons (dv 0) (da_cons (dv 1) da_nil)))) (tg_tup (n := 2) rfl (tgs_cons (tg_name (i := 2) sc_raised.nd rfl (by first | exact Or.inl rfl | exact Or.inr rfl)) (tgs_cons (tg_name (i := 3) sc_raised.nd rfl (by first | exact Or.inl rfl | exact Or.inr rfl)) tgs_nil))))
    (dss_cons (ds_set (i := 4) sc_raised.nd rfl (by first | exact Or.inl rfl | exact Or.inr rfl) (de_cal C_idle hx hgd hr (by decide) (dg_val (de_len z_len (dab_cons (bv 0) dab_nil)) dg_nil)))
    (dss_cons (ds_while po (dt_gt (bv 3) (de_int).b) (dss_cons (ds_if (dt_eq hr (de_mod (bv 3) (de_int).b).b (de_int).b) (dss_one (ds_set (i := 4) sc_raised.nd rfl (by first | exact Or.inl rfl | exact Or.inr rfl) (de_cal C_after hx hgd hr (by decide) (dg_val (dv 4) (dg_val (dv 2) dg_nil))))) dss_nil)
    (dss_one (ds_par (i := 2) (j := 3) rfl sc_raised.nd rfl rfl (by decide) rfl rfl (de_cal C_after hx hgd hr (by decide) (dg_val (dv 2) (dg_val (dv 2) dg_nil))) (de_div (bv 3) (de_int).b) rfl))))
    (dss_one (ds_ret (dv 4)))))), ?_⟩
  try simp only [hxd]
  clear hK po hr hgd hx hfx hG hgi hxd
  rintro args Q ⟨n, c, z, rfl, hn, hz, hQ⟩
  have sl : sizeLine = 16777216 := sizeLine_eq
  have el : (c.1.map natD).length = n := by rw [List.length_map]; exact c.2.len
  have hlen : ∀ (Kq : Int → Prop) t, Kq (n : Int) → onLen (chD c) Kq t := fun Kq t h => by unfold chD natsL; rw [onLen_t, el]; exact h
  obtain ⟨s, l, hs, hl, hcase⟩ : ∃ (s : Pm n) (l : Nat), zpw s (l : Int) = zpw c z ∧ l < 2 ^ 900 ∧ ((z < 0 ∧ s = Gp.inv c ∧ -z = (l : Int)) ∨ (¬ z < 0 ∧ s = c ∧ z = (l : Int))) := by
    by_cases h0 : z < 0
    · exact ⟨Gp.inv c, (-z).toNat, by rw [Int.toNat_of_nonneg (by omega), inv_zpw, ← zpw_neg, Int.neg_neg], by omega, .inl ⟨h0, rfl, by omega⟩⟩
    · exact ⟨c, z.toNat, by rw [Int.toNat_of_nonneg (by omega)], by omega, .inr ⟨h0, rfl, by omega⟩⟩
  rw [← hs] at hQ
  clear hs
  have key : ∀ (l : Nat) (s g : Pm n), l < 2 ^ 900 → Q (chD (g * zpw s (l : Int))) → dWhile (tb (wGt (dVarB 3) (dC (PyData.int 0))))
        (dSeq (dIfS (tb (d2 fEq (wMod (dVarB 3) (dC (PyData.int 2))) (dC (PyData.int 1)))) (dSet 4 (dCall (fun x => xe) S_after (gVal (dVar 4) (gVal (dVar 2) gNil')))) dNext)
          (dPar 2 3 (dCall (fun x => xe) S_after (gVal (dVar 2) (gVal (dVar 2) gNil'))) (wDiv (dVarB 3) (dC (PyData.int 2)))))
        (({ nx := fun _ => Q PyData.none, rt := Q } : DEnds).sq (dRet (dVar 4))) [some (SV.v (chD c)), some (SV.v (PyData.int z)), some (SV.v (chD s)), some (SV.v (PyData.int (l : Int))), some (SV.v (chD g))] := fun l s g hl hq => by
    refine ⟨fun m ρ => ∃ (l : Nat) (s g : Pm n), ρ = [some (SV.v (chD c)), some (SV.v (PyData.int z)), some (SV.v (chD s)), some (SV.v (PyData.int (l : Int))), some (SV.v (chD g))] ∧ l < 2 ^ 900 ∧ Q (chD (g * zpw s (l : Int))) ∧ m = l, ⟨_, l, s, g, rfl, hl, hq, rfl⟩, ?_⟩
    rintro m ρ ⟨l, s, g, rfl, hl, hq, hml⟩
    subst m
    walk_at "d"
    by_cases h0 : 0 < l
    · rw [decide_eq_true (show (0 : Int) < (l : Int) by omega)]
      walk_at "d"
      have hd : ((l : Int) / 2) = ((l / 2 : Nat) : Int) := rfl
      by_cases h1 : l % 2 = 1
      · rw [show (((l : Int) % 2) == 1) = true by simp; omega]
        walk_at "d"
        refine ⟨n, g, s, rfl, hn, ?_⟩
        walk_at "d"
        refine ⟨n, s, s, rfl, hn, ?_⟩
        walk_at "d"
        rw [hd]
        refine ⟨cdiv_of (n := 5) (by decide) (by decide), l / 2, by omega, l / 2, s * s, rfl, rfl, g * s, rfl, by omega, ?_, rfl⟩
        rw [← sq_odd, show 2 * ((l / 2 : Nat) : Int) + 1 = (l : Int) by omega]
        exact hq
      · rw [show (((l : Int) % 2) == 1) = false by simp; omega]
        walk_at "d"
        refine ⟨n, s, s, rfl, hn, ?_⟩
        walk_at "d"
        rw [hd]
        refine ⟨cdiv_of (n := 5) (by decide) (by decide), l / 2, by omega, l / 2, s * s, rfl, rfl, g, rfl, by omega, ?_, rfl⟩
        rw [← sq_even, show 2 * ((l / 2 : Nat) : Int) = (l : Int) by omega]
        exact hq
    · have : l = 0 := by omega
      subst this
      rw [decide_eq_false (show ¬ (0 : Int) < ((0 : Nat) : Int) by decide)]
      walk_at "d"
      rwa [show zpw s ((0 : Nat) : Int) = Gp.one from rfl, gmul_one] at hq
  have hq1 : Q (chD ((Gp.one : Pm n) * zpw s (l : Int))) := by rw [gone_mul]; exact hQ
  walk_at "d"
  rcases hcase with ⟨h0, rfl, e⟩ | ⟨h0, rfl, e⟩
  · rw [decide_eq_true h0]
    walk_at "d"
    refine ⟨n, c, rfl, hn, ?_⟩
    walk_at "d"
    rw [e]
    refine hlen _ _ ?_
    refine ⟨n, rfl, hn, ?_⟩
    exact key l _ _ hl hq1
  · rw [decide_eq_false h0]
    walk_at "d"
    refine hlen _ _ ?_
    refine ⟨n, rfl, hn, ?_⟩
    have := key l s _ hl hq1
    rw [← e] at this
    exact this

theorem cal_raised (hgK : gg.K = K) (D : Def K mg "raised" s_raised)
    (C_after : Cal P w K mg base gg 1 "after" s_after ["one", "other"] S_after)
    (C_idle : Cal P w K mg base gg 1 "idle" s_idle ["states"] S_idle)
    (C_undone : Cal P w K mg base gg 1 "undone" s_undone ["change"] S_undone) (z_len : mg "len" = none) : Cal P w K mg base gg 2 "raised" s_raised ["change", "count"] S_raised :=
  cal_of hgK D sc_raised mo_raised (fun _ _ _ h => by obtain ⟨_, _, _, rfl, _⟩ := h; rfl) (fun _ _ _ _ _ _ us hl => match us, hl with | [_, _], _ => rfl) (body_raised C_after C_idle C_undone z_len)
abbrev s_size_of : Stmt := topS 15
theorem sc_size_of : FnScope ["change"] ["change"] (defScope s_size_of) := ⟨rfl, rfl, rfl, by decide +kernel, rfl, by decide +kernel, by decide +kernel⟩
def S_size_of : SpD := fun args Q E => ∃ (v : PyData), args = [.v v] ∧ Q (.int (sizeD v : Nat))
theorem mo_size_of : MoS S_size_of := fun _ _ _ _ _ m m' ⟨v, h0, q⟩ => ⟨v, h0, m _ q⟩
theorem body_size_of (z_isinstance : mg "isinstance" = none) (z_tuple : mg "tuple" = none) (z_len : mg "len" = none) : Body P w K mg base gg 0 "size_of" s_size_of ["change"] ["change"] S_size_of := by
  intro f cdv A outer s H E G xe hgi hG hxd hfx hx hgd hr po
  have hK : (cxOf (L2.CX P w) P w K mg base ["change"] "size_of" (defScope s_size_of) f cdv A outer s H E).K = G.K := hG.symm
  refine ⟨_, (dss_one (ds_ret (de_if (dt_val (de_isi hK (T := "tuple") (by decide) z_isinstance (by decide +kernel) z_tuple (bv 0))) (de_len z_len (dab_cons (bv 0) dab_nil)) de_int))), ?_⟩
  try simp only [hxd]
  clear hK po hr hgd hx hfx hG hgi hxd
  rintro args Q ⟨v, rfl, hQ⟩
  walk_at "d"
  cases v <;> (walk_at "d"; exact hQ)

theorem cal_size_of (hgK : gg.K = K) (D : Def K mg "size_of" s_size_of) (z_isinstance : mg "isinstance" = none) (z_tuple : mg "tuple" = none) (z_len : mg "len" = none) : Cal P w K mg base gg 1 "size_of" s_size_of ["change"] S_size_of :=
  cal_of hgK D sc_size_of mo_size_of (fun _ _ _ h => by obtain ⟨_, rfl, _⟩ := h; rfl) (fun _ _ _ _ _ _ us hl => match us, hl with | [_], _ => rfl) (body_size_of z_isinstance z_tuple z_len)
abbrev s_followed : Stmt := topS 16
theorem sc_followed : FnScope ["one", "other", "first"] ["one", "other"] (defScope s_followed) := ⟨rfl, rfl, rfl, by decide +kernel, rfl, by decide +kernel, by decide +kernel⟩
def S_followed (C : Addr) : SpD := fun args Q E => ∃ (v : PyData) (w : PyData), args = [.v v, .v w] ∧ (smallC v) ∧ (smallC w) ∧ ((∀ (n : Nat) (a b : Pm n), 0 < n → v = chD a → w = chD b → Q (chD (a * b))) ∧ (okC v w = false → E C (.int 0)))
theorem mo_followed (C : Addr) : MoS (S_followed C_InvalidChange) := fun _ _ _ _ _ m m' ⟨v, w, h0, h1, h2, q⟩ => ⟨v, w, h0, h1, h2, ⟨fun n a b h0 e1 e2 => m _ (q.1 n a b h0 e1 e2), fun e => m' _ _ (q.2 e)⟩⟩
theorem body_followed
    (C_after : Cal P w K mg base gg 1 "after" s_after ["one", "other"] S_after)
    (C_checked_change : Cal P w K mg base gg 4 "checked_change" s_checked_change ["states", "value"] (S_checked_change C_InvalidChange))
    (C_size_of : Cal P w K mg base gg 1 "size_of" s_size_of ["change"] S_size_of) (z_len : mg "len" = none) : Body P w K mg base gg 4 "followed" s_followed ["one", "other", "first"] ["one", "other"] (S_followed C_InvalidChange) := by
  intro f cdv A outer s H E G xe hgi hG hxd hfx hx hgd hr po
  have hK : (cxOf (L2.CX P w) P w K mg base ["one", "other", "first"] "followed" (defScope s_followed) f cdv A outer s H E).K = G.K := hG.symm
  refine ⟨_, (dss_cons (ds_set (i := 2) sc_followed.nd rfl (by first | exact Or.inl rfl | exact Or.inr rfl) (de_cal C_checked_change hx hgd hr (by decide) (dg_val (de_cal C_size_of hx hgd hr (by decide) (dg_val (dv 0) dg_nil)) (dg_val (dv 0) dg_nil))))
    (dss_one (ds_ret (de_cal C_after hx hgd hr (by decide) (dg_val (dv 2) (dg_val (de_cal C_checked_change hx hgd hr (by decide) (dg_val (de_len z_len (dab_cons (bv 2) dab_nil)) (dg_val (dv 1) dg_nil))) dg_nil)))))), ?_⟩
  try simp only [hxd]
  clear hK po hr hgd hx hfx hG hgi hxd
  rintro args Q ⟨v, w, rfl, hv, hw, hQ, hE⟩
  have ck : ∀ (k : Nat) (u : PyData) (Q : PyData → Prop) (E : Addr → PyData → Prop), smallC u → (chgB k u = true → Q u) → (chgB k u = false → E C_InvalidChange (.int 0)) → callS (S_checked_change C_InvalidChange) [.v (.int (k : Int)), .v u] Q E := fun k u Q E hs hq he =>
    ⟨k, u, rfl, hs, fun c h0 e => hq (by rw [e]; exact chg_ch h0 c), he⟩
  have sz : ∀ {n : Nat} {c : Pm n}, smallC (chD c) → n ≤ 4096 := fun {n c} h => by
    have : (c.1.map natD).length ≤ 4096 := h
    rwa [List.length_map, c.2.len] at this
  have ln : ∀ {n : Nat} {c : Pm n} (Kq : Int → Prop) t, Kq (n : Int) → onLen (chD c) Kq t := fun {n c} Kq t h => by unfold chD natsL; rw [onLen_t, List.length_map, c.2.len]; exact h
  walk_at "d"
  refine ⟨v, rfl, ?_⟩
  walk_at "d"
  refine ck _ _ _ _ hv (fun h1 => ?_) fun h1 => hE (by unfold okC; rw [h1]; rfl)
  obtain ⟨n, hn, h0, a, rfl⟩ : ∃ n, sizeD v = n ∧ 0 < n ∧ ∃ a : Pm n, v = chD a := ⟨_, rfl, chg_of h1⟩
  walk_at "d"
  refine ln _ _ ?_
  walk_at "d"
  refine ck _ _ _ _ hw (fun h2 => ?_) fun h2 => hE (by unfold okC; rw [hn, h2, Bool.and_false])
  obtain ⟨_, b, rfl⟩ := chg_of h2
  walk_at "d"
  exact ⟨n, a, b, rfl, sz hv, hQ n a b h0 rfl rfl⟩

theorem cal_followed (hgK : gg.K = K) (D : Def K mg "followed" s_followed)
    (C_after : Cal P w K mg base gg 1 "after" s_after ["one", "other"] S_after)
    (C_checked_change : Cal P w K mg base gg 4 "checked_change" s_checked_change ["states", "value"] (S_checked_change C_InvalidChange))
    (C_size_of : Cal P w K mg base gg 1 "size_of" s_size_of ["change"] S_size_of) (z_len : mg "len" = none) : Cal P w K mg base gg 5 "followed" s_followed ["one", "other"] (S_followed C_InvalidChange) :=
  cal_of hgK D sc_followed (mo_followed C_InvalidChange) (fun _ _ _ h => by obtain ⟨_, _, rfl, _⟩ := h; rfl) (fun _ _ _ _ _ _ us hl => match us, hl with | [_, _], _ => rfl) (body_followed C_after C_checked_change C_size_of z_len)
abbrev s_back : Stmt := topS 17
theorem sc_back : FnScope ["change"] ["change"] (defScope s_back) := ⟨rfl, rfl, rfl, by decide +kernel, rfl, by decide +kernel, by decide +kernel⟩
def S_back (C : Addr) : SpD := fun args Q E => ∃ (v : PyData), args = [.v v] ∧ (smallC v) ∧ ((∀ (n : Nat) (c : Pm n), 0 < n → v = chD c → Q (chD (Gp.inv c))) ∧ (chgB (sizeD v) v = false → E C (.int 0)))
theorem mo_back (C : Addr) : MoS (S_back C_InvalidChange) := fun _ _ _ _ _ m m' ⟨v, h0, h1, q⟩ => ⟨v, h0, h1, ⟨fun n c h0 e => m _ (q.1 n c h0 e), fun e => m' _ _ (q.2 e)⟩⟩
theorem body_back
    (C_undone : Cal P w K mg base gg 1 "undone" s_undone ["change"] S_undone)
    (C_checked_change : Cal P w K mg base gg 4 "checked_change" s_checked_change ["states", "value"] (S_checked_change C_InvalidChange))
    (C_size_of : Cal P w K mg base gg 1 "size_of" s_size_of ["change"] S_size_of) : Body P w K mg base gg 4 "back" s_back ["change"] ["change"] (S_back C_InvalidChange) := by
  intro f cdv A outer s H E G xe hgi hG hxd hfx hx hgd hr po
  have hK : (cxOf (L2.CX P w) P w K mg base ["change"] "back" (defScope s_back) f cdv A outer s H E).K = G.K := hG.symm
  refine ⟨_, (dss_one (ds_ret (de_cal C_undone hx hgd hr (by decide) (dg_val (de_cal C_checked_change hx hgd hr (by decide) (dg_val (de_cal C_size_of hx hgd hr (by decide) (dg_val (dv 0) dg_nil)) (dg_val (dv 0) dg_nil))) dg_nil)))), ?_⟩
  try simp only [hxd]
  clear hK po hr hgd hx hfx hG hgi hxd
  rintro args Q ⟨v, rfl, hv, hQ, hE⟩
  have ck : ∀ (k : Nat) (u : PyData) (Q : PyData → Prop) (E : Addr → PyData → Prop), smallC u → (chgB k u = true → Q u) → (chgB k u = false → E C_InvalidChange (.int 0)) → callS (S_checked_change C_InvalidChange) [.v (.int (k : Int)), .v u] Q E := fun k u Q E hs hq he =>
    ⟨k, u, rfl, hs, fun c h0 e => hq (by rw [e]; exact chg_ch h0 c), he⟩
  have sz : ∀ {n : Nat} {c : Pm n}, smallC (chD c) → n ≤ 4096 := fun {n c} h => by
    have : (c.1.map natD).length ≤ 4096 := h
    rwa [List.length_map, c.2.len] at this
  have ln : ∀ {n : Nat} {c : Pm n} (Kq : Int → Prop) t, Kq (n : Int) → onLen (chD c) Kq t := fun {n c} Kq t h => by unfold chD natsL; rw [onLen_t, List.length_map, c.2.len]; exact h
  walk_at "d"
  refine ⟨v, rfl, ?_⟩
  walk_at "d"
  refine ck _ _ _ _ hv (fun h1 => ?_) fun h1 => hE h1
  obtain ⟨n, hn, h0, c, rfl⟩ : ∃ n, sizeD v = n ∧ 0 < n ∧ ∃ a : Pm n, v = chD a := ⟨_, rfl, chg_of h1⟩
  walk_at "d"
  exact ⟨n, c, rfl, sz hv, hQ n c h0 rfl⟩

theorem cal_back (hgK : gg.K = K) (D : Def K mg "back" s_back)
    (C_undone : Cal P w K mg base gg 1 "undone" s_undone ["change"] S_undone)
    (C_checked_change : Cal P w K mg base gg 4 "checked_change" s_checked_change ["states", "value"] (S_checked_change C_InvalidChange))
    (C_size_of : Cal P w K mg base gg 1 "size_of" s_size_of ["change"] S_size_of) : Cal P w K mg base gg 5 "back" s_back ["change"] (S_back C_InvalidChange) :=
  cal_of hgK D sc_back (mo_back C_InvalidChange) (fun _ _ _ h => by obtain ⟨_, rfl, _⟩ := h; rfl) (fun _ _ _ _ _ _ us hl => match us, hl with | [_], _ => rfl) (body_back C_undone C_checked_change C_size_of)
abbrev s_power : Stmt := topS 18
theorem sc_power : FnScope ["change", "count"] ["change", "count"] (defScope s_power) := ⟨rfl, rfl, rfl, by decide +kernel, rfl, by decide +kernel, by decide +kernel⟩
def S_power (C : Addr) : SpD := fun args Q E => ∃ (v : PyData) (z : Int), args = [.v v, .v (.int z)] ∧ (smallC v) ∧ (z.natAbs < 2 ^ 900) ∧ ((∀ (n : Nat) (c : Pm n), 0 < n → v = chD c → Q (chD (zpw c z))) ∧ (chgB (sizeD v) v = false → E C (.int 0)))
theorem mo_power (C : Addr) : MoS (S_power C_InvalidChange) := fun _ _ _ _ _ m m' ⟨v, z, h0, h1, h2, q⟩ => ⟨v, z, h0, h1, h2, ⟨fun n c h0 e => m _ (q.1 n c h0 e), fun e => m' _ _ (q.2 e)⟩⟩
theorem body_power
    (C_raised : Cal P w K mg base gg 2 "raised" s_raised ["change", "count"] S_raised)
    (C_checked_change : Cal P w K mg base gg 4 "checked_change" s_checked_change ["states", "value"] (S_checked_change C_InvalidChange))
    (C_size_of : Cal P w K mg base gg 1 "size_of" s_size_of ["change"] S_size_of) : Body P w K mg base gg 4 "power" s_power ["change", "count"] ["change", "count"] (S_power C_InvalidChange) := by
  intro f cdv A outer s H E G xe hgi hG hxd hfx hx hgd hr po
  have hK : (cxOf (L2.CX P w) P w K mg base ["change", "count"] "power" (defScope s_power) f cdv A outer s H E).K = G.K := hG.symm
  refine ⟨_, (dss_one (ds_ret (de_cal C_raised hx hgd hr (by decide) (dg_val (de_cal C_checked_change hx hgd hr (by decide) (dg_val (de_cal C_size_of hx hgd hr (by decide) (dg_val (dv 0) dg_nil)) (dg_val (dv 0) dg_nil))) (dg_val (dv 1) dg_nil))))), ?_⟩
  try simp only [hxd]
  clear hK po hr hgd hx hfx hG hgi hxd
  rintro args Q ⟨v, z, rfl, hv, hz, hQ, hE⟩
  have ck : ∀ (k : Nat) (u : PyData) (Q : PyData → Prop) (E : Addr → PyData → Prop), smallC u → (chgB k u = true → Q u) → (chgB k u = false → E C_InvalidChange (.int 0)) → callS (S_checked_change C_InvalidChange) [.v (.int (k : Int)), .v u] Q E := fun k u Q E hs hq he =>
    ⟨k, u, rfl, hs, fun c h0 e => hq (by rw [e]; exact chg_ch h0 c), he⟩
  have sz : ∀ {n : Nat} {c : Pm n}, smallC (chD c) → n ≤ 4096 := fun {n c} h => by
    have : (c.1.map natD).length ≤ 4096 := h
    rwa [List.length_map, c.2.len] at this
  have ln : ∀ {n : Nat} {c : Pm n} (Kq : Int → Prop) t, Kq (n : Int) → onLen (chD c) Kq t := fun {n c} Kq t h => by unfold chD natsL; rw [onLen_t, List.length_map, c.2.len]; exact h
  walk_at "d"
  refine ⟨v, rfl, ?_⟩
  walk_at "d"
  refine ck _ _ _ _ hv (fun h1 => ?_) fun h1 => hE h1
  obtain ⟨n, hn, h0, c, rfl⟩ : ∃ n, sizeD v = n ∧ 0 < n ∧ ∃ a : Pm n, v = chD a := ⟨_, rfl, chg_of h1⟩
  walk_at "d"
  exact ⟨n, c, z, rfl, sz hv, hz, hQ n c h0 rfl⟩

theorem cal_power (hgK : gg.K = K) (D : Def K mg "power" s_power)
    (C_raised : Cal P w K mg base gg 2 "raised" s_raised ["change", "count"] S_raised)
    (C_checked_change : Cal P w K mg base gg 4 "checked_change" s_checked_change ["states", "value"] (S_checked_change C_InvalidChange))
    (C_size_of : Cal P w K mg base gg 1 "size_of" s_size_of ["change"] S_size_of) : Cal P w K mg base gg 5 "power" s_power ["change", "count"] (S_power C_InvalidChange) :=
  cal_of hgK D sc_power (mo_power C_InvalidChange) (fun _ _ _ h => by obtain ⟨_, _, rfl, _⟩ := h; rfl) (fun _ _ _ _ _ _ us hl => match us, hl with | [_, _], _ => rfl) (body_power C_raised C_checked_change C_size_of)
abbrev s_order_of : Stmt := topS 20
theorem sc_order_of : FnScope ["change", "found", "seen", "state", "length"] ["change"] (defScope s_order_of) := ⟨rfl, rfl, rfl, by decide +kernel, rfl, by decide +kernel, by decide +kernel⟩
def S_order_of : SpD := fun args Q E => ∃ (n : Nat) (c : Pm n), args = [.v (chD c)] ∧ (n ≤ 60) ∧ (∀ f, OrdD c f → f ≤ n ^ n → Q (.int (f : Nat)))
theorem mo_order_of : MoS S_order_of := fun _ _ _ _ _ m m' ⟨n, c, h0, h1, q⟩ => ⟨n, c, h0, h1, fun f h h2 => m _ (q f h h2)⟩
theorem body_order_of
    (C_common_multiple : Cal P w K mg base gg 2 "common_multiple" s_common_multiple ["one", "other"] S_common_multiple) (z_range : mg "range" = none) (z_len : mg "len" = none) : Body P w K mg base gg 2 "order_of" s_order_of ["change", "found", "seen", "state", "length"] ["change"] S_order_of := by
  intro f cdv A outer s H E G xe hgi hG hxd hfx hx hgd hr po
  have hK : (cxOf (L2.CX P w) P w K mg base ["change", "found", "seen", "state", "length"] "order_of" (defScope s_order_of) f cdv A outer s H E).K = G.K := hG.symm
  refine ⟨_, (dss_cons (ds_parVO (i := 1) (j := 2) rfl sc_order_of.nd rfl rfl (by decide) rfl rfl de_int (df_repL ((df_lst (da_cons de_bl da_nil))).de.b (de_len z_len (dab_cons (bv 0) dab_nil)).b) rfl)
    (dss_cons (ds_for po hfx rfl (di_r1 z_range (de_len z_len (dab_cons (bv 0) dab_nil))) (tg_name (i := 3) sc_order_of.nd rfl (by first | exact Or.inl rfl | exact Or.inr rfl)) (dss_cons (ds_set (i := 4) sc_order_of.nd rfl (by first | exact Or.inl rfl | exact Or.inr rfl) de_int)
    (dss_cons (ds_while po (dt_not (dt_val (de_ix (bv 2) (bv 3)))) (dss_one (ds_asg (de_tup (da_cons de_bl (da_cons (de_ix (bv 0) (bv 3)) (da_cons (de_addU (bv 4) (de_int).b) da_nil)))) (tg_tup (n := 3) rfl (tgs_cons (tg_sub (pv 2) (dv 3)) (tgs_cons (tg_name (i := 3) sc_order_of.nd rfl (by first | exact Or.inl rfl | exact Or.inr rfl)) (tgs_cons (tg_name (i := 4) sc_order_of.nd rfl (by first | exact Or.inl rfl | exact Or.inr rfl)) tgs_nil)))))))
    (dss_one (ds_if (dt_gt (bv 4) (de_int).b) (dss_one (ds_set (i := 1) sc_order_of.nd rfl (by first | exact Or.inl rfl | exact Or.inr rfl) (de_cal C_common_multiple hx hgd hr (by decide) (dg_val (dv 1) (dg_val (dv 4) dg_nil))))) dss_nil)))))
    (dss_one (ds_ret (dv 1))))), ?_⟩
  try simp only [hxd]
  clear hK po hr hgd hx hfx hG hgi hxd
  rintro args Q ⟨n, c, rfl, hn, hQ⟩
  have sl : sizeLine = 16777216 := sizeLine_eq
  have el : c.1.length = n := c.2.len
  have bnd : ∀ i, i ≤ n → n ^ i < 2 ^ 900 := fun i hi => by
    by_cases n0 : n = 0
    · subst n0
      have : i = 0 := by omega
      subst this
      decide
    refine Nat.lt_of_le_of_lt (Nat.pow_le_pow_left hn i) (Nat.lt_of_le_of_lt (Nat.pow_le_pow_right (by decide) (show i ≤ 60 by omega)) ?_)
    decide +kernel
  unfold chD natsL
  walk_at "d"
  have er : (List.replicate c.1.length [PyData.bool false]).flatten = (List.replicate n false).map .bool := by
    rw [el, List.map_replicate]
    generalize n = k
    induction k with
    | zero => rfl
    | succ k ih => rw [List.replicate_succ, List.flatten_cons, ih, List.replicate_succ]; rfl
  rw [er]
  refine ⟨by omega, by omega, by omega, by omega, by omega, fun i ρ => ∃ (f : Nat) (seen : List Bool) (a3 a4 : Option SV), ρ = [some (.v (.tuple (c.1.map natD))), some (.v (.int (f : Int))), some (.o (seen.map .bool)), a3, a4] ∧ Seen c seen f ∧ (∀ s, s < i → seen.getD s false = true) ∧ f ≤ n ^ i, ⟨1, _, _, _, rfl, seen_start, fun s h => by omega, by simp⟩, ?_, ?_⟩
  · rintro i ρ ⟨f, seen, a3, a4, rfl, S, hs, hf⟩ hi
    have hi' : i < n := by rw [List.length_map, List.length_range, el] at hi; exact hi
    rw [List.getElem_map]
    have eg : (List.range c.1.length)[i]'(by simpa using hi) = i := by simp
    rw [eg]
    walk_at "d"
    refine ⟨fun m ρ => ∃ (j : Nat) (sn : List Bool), ρ = [some (.v (.tuple (c.1.map natD))), some (.v (.int (f : Int))), some (.o (sn.map .bool)), some (.v (.int (itr c j i : Nat))), some (.v (.int (j : Int)))] ∧ Rnd c seen i j sn ∧ m = n + 1 - j, ⟨_, 0, seen, rfl, rnd_start S.len hi', rfl⟩, ?_⟩
    rintro m ρ ⟨j, sn, rfl, R, hm⟩
    have hjl := R.le
    have hlt := itr_lt (c := c) (k := j) R.lt
    have hsl : itr c j i < sn.length := by rw [R.len]; exact hlt
    have hat : atI (sn.map PyData.bool) ((itr c j i : Nat) : Int) = some (.bool (sn.getD (itr c j i) false)) := atI_some (by omega) (by rw [Int.toNat_natCast, List.getElem?_map, List.getElem?_eq_getElem hsl, List.getD_eq_getElem?_getD, List.getElem?_eq_getElem hsl]; rfl)
    walk_at "d"
    refine ⟨_, hat, ?_⟩
    walk_at "d"
    cases hb : sn.getD (itr c j i) false with
    | false =>
      walk_at "d"
      have hcat : atI (c.1.map natD) ((itr c j i : Nat) : Int) = some (natD (itr c (j + 1) i)) := atI_some (by omega) (by rw [Int.toNat_natCast, List.getElem?_map, List.getElem?_eq_getElem (by rw [el]; exact hlt), ← gt_lt]; rfl)
      refine ⟨_, hcat, ?_⟩
      rw [show natD (itr c (j + 1) i) = .int ((itr c (j + 1) i : Nat) : Int) from rfl]
      walk_at "d"
      have R2 := rnd_next S.cl R hb
      refine ⟨itr c j i, ?_, ?_⟩
      · have := ixN_some (n := sn.length) (i := ((itr c j i : Nat) : Int)) (by omega) (by omega)
        rwa [Int.toNat_natCast] at this
      walk_at "d"
      have := R2.le
      exact ⟨n + 1 - (j + 1), by omega, j + 1, sn.set (itr c j i) true, by rw [List.map_set], rfl, by omega, R2, rfl⟩
    | true =>
      obtain ⟨S1, S2, S3⟩ := rnd_end S R hb
      have hall : ∀ s, s < i + 1 → sn.getD s false = true := fun s hs' => by
        by_cases e : s = i
        · rw [e]; exact S3
        · exact R.mono (by omega) (hs s (by omega))
      have hfn : f ≤ n ^ (i + 1) := Nat.le_trans hf (Nat.pow_le_pow_right (by omega) (by omega))
      walk_at "d"
      by_cases j0 : 0 < j
      · rw [decide_eq_true (show (0 : Int) < (j : Int) by omega)]
        walk_at "d"
        refine ⟨f, j, rfl, S.pos, j0, Nat.lt_of_le_of_lt hf (bnd i (by omega)), Nat.lt_of_le_of_lt (show j ≤ 60 by omega) (by decide), ?_⟩
        walk_at "d"
        exact ⟨Nat.lcm f j, rfl, sn, rfl, S2 j0, hall, Nat.le_trans (lcm_le S.pos hjl) (by rw [Nat.pow_succ]; exact Nat.mul_le_mul_right _ hf)⟩
      · rw [decide_eq_false (show ¬ (0 : Int) < (j : Int) by omega)]
        walk_at "d"
        have hj0 : j = 0 := by omega
        exact ⟨f, rfl, sn, rfl, S1 hj0, hall, hfn⟩
  rintro ρ ⟨f, seen, a3, a4, rfl, S, hs, hf⟩
  rw [List.length_map, List.length_range, el] at hs hf
  walk_at "d"
  exact hQ f (seen_end S hs) hf

theorem cal_order_of (hgK : gg.K = K) (D : Def K mg "order_of" s_order_of)
    (C_common_multiple : Cal P w K mg base gg 2 "common_multiple" s_common_multiple ["one", "other"] S_common_multiple) (z_range : mg "range" = none) (z_len : mg "len" = none) : Cal P w K mg base gg 3 "order_of" s_order_of ["change"] S_order_of :=
  cal_of hgK D sc_order_of mo_order_of (fun _ _ _ h => by obtain ⟨_, _, rfl, _⟩ := h; rfl) (fun _ _ _ _ _ _ us hl => match us, hl with | [_], _ => rfl) (body_order_of C_common_multiple z_range z_len)
abbrev s_order : Stmt := topS 19
theorem sc_order : FnScope ["change"] ["change"] (defScope s_order) := ⟨rfl, rfl, rfl, by decide +kernel, rfl, by decide +kernel, by decide +kernel⟩
def S_order (C : Addr) : SpD := fun args Q E => ∃ (v : PyData), args = [.v v] ∧ (smallC v) ∧ (sizeD v ≤ 60) ∧ ((∀ (n : Nat) (c : Pm n), 0 < n → v = chD c → ∀ f, OrdD c f → f ≤ n ^ n → Q (.int (f : Nat))) ∧ (chgB (sizeD v) v = false → E C (.int 0)))
theorem mo_order (C : Addr) : MoS (S_order C_InvalidChange) := fun _ _ _ _ _ m m' ⟨v, h0, h1, h2, q⟩ => ⟨v, h0, h1, h2, ⟨fun n c h0 e f h1 h2 => m _ (q.1 n c h0 e f h1 h2), fun e => m' _ _ (q.2 e)⟩⟩
theorem body_order
    (C_order_of : Cal P w K mg base gg 3 "order_of" s_order_of ["change"] S_order_of)
    (C_checked_change : Cal P w K mg base gg 4 "checked_change" s_checked_change ["states", "value"] (S_checked_change C_InvalidChange))
    (C_size_of : Cal P w K mg base gg 1 "size_of" s_size_of ["change"] S_size_of) : Body P w K mg base gg 4 "order" s_order ["change"] ["change"] (S_order C_InvalidChange) := by
  intro f cdv A outer s H E G xe hgi hG hxd hfx hx hgd hr po
  have hK : (cxOf (L2.CX P w) P w K mg base ["change"] "order" (defScope s_order) f cdv A outer s H E).K = G.K := hG.symm
  refine ⟨_, (dss_one (ds_ret (de_cal C_order_of hx hgd hr (by decide) (dg_val (de_cal C_checked_change hx hgd hr (by decide) (dg_val (de_cal C_size_of hx hgd hr (by decide) (dg_val (dv 0) dg_nil)) (dg_val (dv 0) dg_nil))) dg_nil)))), ?_⟩
  try simp only [hxd]
  clear hK po hr hgd hx hfx hG hgi hxd
  rintro args Q ⟨v, rfl, hv, hz, hQ, hE⟩
  have ck : ∀ (k : Nat) (u : PyData) (Q : PyData → Prop) (E : Addr → PyData → Prop), smallC u → (chgB k u = true → Q u) → (chgB k u = false → E C_InvalidChange (.int 0)) → callS (S_checked_change C_InvalidChange) [.v (.int (k : Int)), .v u] Q E := fun k u Q E hs hq he =>
    ⟨k, u, rfl, hs, fun c h0 e => hq (by rw [e]; exact chg_ch h0 c), he⟩
  have sz : ∀ {n : Nat} {c : Pm n}, smallC (chD c) → n ≤ 4096 := fun {n c} h => by
    have : (c.1.map natD).length ≤ 4096 := h
    rwa [List.length_map, c.2.len] at this
  have ln : ∀ {n : Nat} {c : Pm n} (Kq : Int → Prop) t, Kq (n : Int) → onLen (chD c) Kq t := fun {n c} Kq t h => by unfold chD natsL; rw [onLen_t, List.length_map, c.2.len]; exact h
  walk_at "d"
  refine ⟨v, rfl, ?_⟩
  walk_at "d"
  refine ck _ _ _ _ hv (fun h1 => ?_) fun h1 => hE h1
  obtain ⟨n, hn, h0, c, rfl⟩ : ∃ n, sizeD v = n ∧ 0 < n ∧ ∃ a : Pm n, v = chD a := ⟨_, rfl, chg_of h1⟩
  walk_at "d"
  exact ⟨n, c, rfl, by omega, hQ n c h0 rfl⟩

theorem cal_order (hgK : gg.K = K) (D : Def K mg "order" s_order)
    (C_order_of : Cal P w K mg base gg 3 "order_of" s_order_of ["change"] S_order_of)
    (C_checked_change : Cal P w K mg base gg 4 "checked_change" s_checked_change ["states", "value"] (S_checked_change C_InvalidChange))
    (C_size_of : Cal P w K mg base gg 1 "size_of" s_size_of ["change"] S_size_of) : Cal P w K mg base gg 5 "order" s_order ["change"] (S_order C_InvalidChange) :=
  cal_of hgK D sc_order (mo_order C_InvalidChange) (fun _ _ _ h => by obtain ⟨_, rfl, _⟩ := h; rfl) (fun _ _ _ _ _ _ us hl => match us, hl with | [_], _ => rfl) (body_order C_order_of C_checked_change C_size_of)
abbrev s_change_places : Stmt := topS 21
theorem sc_change_places : FnScope ["one", "other", "first", "second"] ["one", "other"] (defScope s_change_places) := ⟨rfl, rfl, rfl, by decide +kernel, rfl, by decide +kernel, by decide +kernel⟩
def S_change_places (C : Addr) : SpD := fun args Q E => ∃ (v : PyData) (w : PyData), args = [.v v, .v w] ∧ (smallC v) ∧ (smallC w) ∧ ((∀ (n : Nat) (a b : Pm n), 0 < n → v = chD a → w = chD b → Q (.bool (cmB a b))) ∧ (okC v w = false → E C (.int 0)))
theorem mo_change_places (C : Addr) : MoS (S_change_places C_InvalidChange) := fun _ _ _ _ _ m m' ⟨v, w, h0, h1, h2, q⟩ => ⟨v, w, h0, h1, h2, ⟨fun n a b h0 e1 e2 => m _ (q.1 n a b h0 e1 e2), fun e => m' _ _ (q.2 e)⟩⟩
theorem body_change_places
    (C_after : Cal P w K mg base gg 1 "after" s_after ["one", "other"] S_after)
    (C_checked_change : Cal P w K mg base gg 4 "checked_change" s_checked_change ["states", "value"] (S_checked_change C_InvalidChange))
    (C_size_of : Cal P w K mg base gg 1 "size_of" s_size_of ["change"] S_size_of) (z_len : mg "len" = none) : Body P w K mg base gg 4 "change_places" s_change_places ["one", "other", "first", "second"] ["one", "other"] (S_change_places C_InvalidChange) := by
  intro f cdv A outer s H E G xe hgi hG hxd hfx hx hgd hr po
  have hK : (cxOf (L2.CX P w) P w K mg base ["one", "other", "first", "second"] "change_places" (defScope s_change_places) f cdv A outer s H E).K = G.K := hG.symm
  refine ⟨_, (dss_cons (ds_set (i := 2) sc_change_places.nd rfl (by first | exact Or.inl rfl | exact Or.inr rfl) (de_cal C_checked_change hx hgd hr (by decide) (dg_val (de_cal C_size_of hx hgd hr (by decide) (dg_val (dv 0) dg_nil)) (dg_val (dv 0) dg_nil))))
    (dss_cons (ds_set (i := 3) sc_change_places.nd rfl (by first | exact Or.inl rfl | exact Or.inr rfl) (de_cal C_checked_change hx hgd hr (by decide) (dg_val (de_len z_len (dab_cons (bv 2) dab_nil)) (dg_val (dv 1) dg_nil))))
    (dss_one (ds_ret (de_eq hr (de_cal C_after hx hgd hr (by decide) (dg_val (dv 2) (dg_val (dv 3) dg_nil))).b (de_cal C_after hx hgd hr (by decide) (dg_val (dv 3) (dg_val (dv 2) dg_nil))).b))))), ?_⟩
  try simp only [hxd]
  clear hK po hr hgd hx hfx hG hgi hxd
  rintro args Q ⟨v, w, rfl, hv, hw, hQ, hE⟩
  have ck : ∀ (k : Nat) (u : PyData) (Q : PyData → Prop) (E : Addr → PyData → Prop), smallC u → (chgB k u = true → Q u) → (chgB k u = false → E C_InvalidChange (.int 0)) → callS (S_checked_change C_InvalidChange) [.v (.int (k : Int)), .v u] Q E := fun k u Q E hs hq he =>
    ⟨k, u, rfl, hs, fun c h0 e => hq (by rw [e]; exact chg_ch h0 c), he⟩
  have sz : ∀ {n : Nat} {c : Pm n}, smallC (chD c) → n ≤ 4096 := fun {n c} h => by
    have : (c.1.map natD).length ≤ 4096 := h
    rwa [List.length_map, c.2.len] at this
  have ln : ∀ {n : Nat} {c : Pm n} (Kq : Int → Prop) t, Kq (n : Int) → onLen (chD c) Kq t := fun {n c} Kq t h => by unfold chD natsL; rw [onLen_t, List.length_map, c.2.len]; exact h
  walk_at "d"
  refine ⟨v, rfl, ?_⟩
  walk_at "d"
  refine ck _ _ _ _ hv (fun h1 => ?_) fun h1 => hE (by unfold okC; rw [h1]; rfl)
  obtain ⟨n, hn, h0, a, rfl⟩ : ∃ n, sizeD v = n ∧ 0 < n ∧ ∃ a : Pm n, v = chD a := ⟨_, rfl, chg_of h1⟩
  walk_at "d"
  refine ln _ _ ?_
  walk_at "d"
  refine ck _ _ _ _ hw (fun h2 => ?_) fun h2 => hE (by unfold okC; rw [hn, h2, Bool.and_false])
  obtain ⟨_, b, rfl⟩ := chg_of h2
  walk_at "d"
  refine ⟨n, a, b, rfl, sz hv, ?_⟩
  walk_at "d"
  refine ⟨n, b, a, rfl, sz hv, ?_⟩
  walk_at "d"
  refine ⟨sh_ch _, sh_ch _, ?_⟩
  rw [eqv_ch]
  exact hQ n a b h0 rfl rfl

theorem cal_change_places (hgK : gg.K = K) (D : Def K mg "change_places" s_change_places)
    (C_after : Cal P w K mg base gg 1 "after" s_after ["one", "other"] S_after)
    (C_checked_change : Cal P w K mg base gg 4 "checked_change" s_checked_change ["states", "value"] (S_checked_change C_InvalidChange))
    (C_size_of : Cal P w K mg base gg 1 "size_of" s_size_of ["change"] S_size_of) (z_len : mg "len" = none) : Cal P w K mg base gg 5 "change_places" s_change_places ["one", "other"] (S_change_places C_InvalidChange) :=
  cal_of hgK D sc_change_places (mo_change_places C_InvalidChange) (fun _ _ _ h => by obtain ⟨_, _, rfl, _⟩ := h; rfl) (fun _ _ _ _ _ _ us hl => match us, hl with | [_, _], _ => rfl) (body_change_places C_after C_checked_change C_size_of z_len)
abbrev s_loop : Stmt := topS 22
theorem sc_loop : FnScope ["one", "other", "count"] ["one", "other", "count"] (defScope s_loop) := ⟨rfl, rfl, rfl, by decide +kernel, rfl, by decide +kernel, by decide +kernel⟩
def S_loop (C : Addr) : SpD := fun args Q E => ∃ (v : PyData) (w : PyData) (z : Int), args = [.v v, .v w, .v (.int z)] ∧ (smallC v) ∧ (smallC w) ∧ (z.natAbs < 2 ^ 900) ∧ ((∀ (n : Nat) (a b : Pm n), 0 < n → v = chD a → w = chD b → Q (chD (zpw (a * b) z))) ∧ (okC v w = false → E C (.int 0)))
theorem mo_loop (C : Addr) : MoS (S_loop C_InvalidChange) := fun _ _ _ _ _ m m' ⟨v, w, z, h0, h1, h2, h3, q⟩ => ⟨v, w, z, h0, h1, h2, h3, ⟨fun n a b h0 e1 e2 => m _ (q.1 n a b h0 e1 e2), fun e => m' _ _ (q.2 e)⟩⟩
theorem body_loop
    (C_raised : Cal P w K mg base gg 2 "raised" s_raised ["change", "count"] S_raised)
    (C_followed : Cal P w K mg base gg 5 "followed" s_followed ["one", "other"] (S_followed C_InvalidChange)) : Body P w K mg base gg 5 "loop" s_loop ["one", "other", "count"] ["one", "other", "count"] (S_loop C_InvalidChange) := by
  intro f cdv A outer s H E G xe hgi hG hxd hfx hx hgd hr po
  have hK : (cxOf (L2.CX P w) P w K mg base ["one", "other", "count"] "loop" (defScope s_loop) f cdv A outer s H E).K = G.K := hG.symm
  refine ⟨_, (dss_one (ds_ret (de_cal C_raised hx hgd hr (by decide) (dg_val (de_cal C_followed hx hgd hr (by decide) (dg_val (dv 0) (dg_val (dv 1) dg_nil))) (dg_val (dv 2) dg_nil))))), ?_⟩
  try simp only [hxd]
  clear hK po hr hgd hx hfx hG hgi hxd
  rintro args Q ⟨v, w, z, rfl, hv, hw, hz, hQ, hE⟩
  have ck : ∀ (k : Nat) (u : PyData) (Q : PyData → Prop) (E : Addr → PyData → Prop), smallC u → (chgB k u = true → Q u) → (chgB k u = false → E C_InvalidChange (.int 0)) → callS (S_checked_change C_InvalidChange) [.v (.int (k : Int)), .v u] Q E := fun k u Q E hs hq he =>
    ⟨k, u, rfl, hs, fun c h0 e => hq (by rw [e]; exact chg_ch h0 c), he⟩
  have sz : ∀ {n : Nat} {c : Pm n}, smallC (chD c) → n ≤ 4096 := fun {n c} h => by
    have : (c.1.map natD).length ≤ 4096 := h
    rwa [List.length_map, c.2.len] at this
  have ln : ∀ {n : Nat} {c : Pm n} (Kq : Int → Prop) t, Kq (n : Int) → onLen (chD c) Kq t := fun {n c} Kq t h => by unfold chD natsL; rw [onLen_t, List.length_map, c.2.len]; exact h
  walk_at "d"
  refine ⟨v, w, rfl, hv, hw, fun n a b h0 e1 e2 => ?_, hE⟩
  subst e1 e2
  walk_at "d"
  exact ⟨n, a * b, z, rfl, sz hv, hz, hQ n a b h0 rfl rfl⟩

theorem cal_loop (hgK : gg.K = K) (D : Def K mg "loop" s_loop)
    (C_raised : Cal P w K mg base gg 2 "raised" s_raised ["change", "count"] S_raised)
    (C_followed : Cal P w K mg base gg 5 "followed" s_followed ["one", "other"] (S_followed C_InvalidChange)) : Cal P w K mg base gg 6 "loop" s_loop ["one", "other", "count"] (S_loop C_InvalidChange) :=
  cal_of hgK D sc_loop (mo_loop C_InvalidChange) (fun _ _ _ h => by obtain ⟨_, _, _, rfl, _⟩ := h; rfl) (fun _ _ _ _ _ _ us hl => match us, hl with | [_, _, _], _ => rfl) (body_loop C_raised C_followed)
abbrev s_split_loop : Stmt := topS 23
theorem sc_split_loop : FnScope ["one", "other", "count"] ["one", "other", "count"] (defScope s_split_loop) := ⟨rfl, rfl, rfl, by decide +kernel, rfl, by decide +kernel, by decide +kernel⟩
def S_split_loop (C : Addr) : SpD := fun args Q E => ∃ (v : PyData) (w : PyData) (z : Int), args = [.v v, .v w, .v (.int z)] ∧ (smallC v) ∧ (smallC w) ∧ (z.natAbs < 2 ^ 900) ∧ ((∀ (n : Nat) (a b : Pm n), 0 < n → v = chD a → w = chD b → Q (chD (zpw a z * zpw b z))) ∧ (okC v w = false → E C (.int 0)))
theorem mo_split_loop (C : Addr) : MoS (S_split_loop C_InvalidChange) := fun _ _ _ _ _ m m' ⟨v, w, z, h0, h1, h2, h3, q⟩ => ⟨v, w, z, h0, h1, h2, h3, ⟨fun n a b h0 e1 e2 => m _ (q.1 n a b h0 e1 e2), fun e => m' _ _ (q.2 e)⟩⟩
theorem body_split_loop
    (C_after : Cal P w K mg base gg 1 "after" s_after ["one", "other"] S_after)
    (C_raised : Cal P w K mg base gg 2 "raised" s_raised ["change", "count"] S_raised)
    (C_followed : Cal P w K mg base gg 5 "followed" s_followed ["one", "other"] (S_followed C_InvalidChange)) : Body P w K mg base gg 5 "split_loop" s_split_loop ["one", "other", "count"] ["one", "other", "count"] (S_split_loop C_InvalidChange) := by
  intro f cdv A outer s H E G xe hgi hG hxd hfx hx hgd hr po
  have hK : (cxOf (L2.CX P w) P w K mg base ["one", "other", "count"] "split_loop" (defScope s_split_loop) f cdv A outer s H E).K = G.K := hG.symm
  refine ⟨_, (dss_cons (ds_expr (de_cal C_followed hx hgd hr (by decide) (dg_val (dv 0) (dg_val (dv 1) dg_nil))))
    (dss_one (ds_ret (de_cal C_after hx hgd hr (by decide) (dg_val (de_cal C_raised hx hgd hr (by decide) (dg_val (dv 0) (dg_val (dv 2) dg_nil))) (dg_val (de_cal C_raised hx hgd hr (by decide) (dg_val (dv 1) (dg_val (dv 2) dg_nil))) dg_nil)))))), ?_⟩
  try simp only [hxd]
  clear hK po hr hgd hx hfx hG hgi hxd
  rintro args Q ⟨v, w, z, rfl, hv, hw, hz, hQ, hE⟩
  have ck : ∀ (k : Nat) (u : PyData) (Q : PyData → Prop) (E : Addr → PyData → Prop), smallC u → (chgB k u = true → Q u) → (chgB k u = false → E C_InvalidChange (.int 0)) → callS (S_checked_change C_InvalidChange) [.v (.int (k : Int)), .v u] Q E := fun k u Q E hs hq he =>
    ⟨k, u, rfl, hs, fun c h0 e => hq (by rw [e]; exact chg_ch h0 c), he⟩
  have sz : ∀ {n : Nat} {c : Pm n}, smallC (chD c) → n ≤ 4096 := fun {n c} h => by
    have : (c.1.map natD).length ≤ 4096 := h
    rwa [List.length_map, c.2.len] at this
  have ln : ∀ {n : Nat} {c : Pm n} (Kq : Int → Prop) t, Kq (n : Int) → onLen (chD c) Kq t := fun {n c} Kq t h => by unfold chD natsL; rw [onLen_t, List.length_map, c.2.len]; exact h
  walk_at "d"
  refine ⟨v, w, rfl, hv, hw, fun n a b h0 e1 e2 => ?_, hE⟩
  subst e1 e2
  walk_at "d"
  refine ⟨n, a, z, rfl, sz hv, hz, ?_⟩
  walk_at "d"
  refine ⟨n, b, z, rfl, sz hv, hz, ?_⟩
  walk_at "d"
  exact ⟨n, zpw a z, zpw b z, rfl, sz hv, hQ n a b h0 rfl rfl⟩

theorem cal_split_loop (hgK : gg.K = K) (D : Def K mg "split_loop" s_split_loop)
    (C_after : Cal P w K mg base gg 1 "after" s_after ["one", "other"] S_after)
    (C_raised : Cal P w K mg base gg 2 "raised" s_raised ["change", "count"] S_raised)
    (C_followed : Cal P w K mg base gg 5 "followed" s_followed ["one", "other"] (S_followed C_InvalidChange)) : Cal P w K mg base gg 6 "split_loop" s_split_loop ["one", "other", "count"] (S_split_loop C_InvalidChange) :=
  cal_of hgK D sc_split_loop (mo_split_loop C_InvalidChange) (fun _ _ _ h => by obtain ⟨_, _, _, rfl, _⟩ := h; rfl) (fun _ _ _ _ _ _ us hl => match us, hl with | [_, _, _], _ => rfl) (body_split_loop C_after C_raised C_followed)
abbrev s__law_draw : Stmt := topS 25
theorem sc__law_draw : FnScope ["_law_script", "_law_salt", "_law_cell", "_law_cells", "_law_blend"] ["_law_script", "_law_salt"] (defScope s__law_draw) := ⟨rfl, rfl, rfl, by decide +kernel, rfl, by decide +kernel, by decide +kernel⟩
def S__law_draw : SpD := fun args Q E => ∃ (ns : List Int) (salt : Int), args = [.scr ns, .v (.int salt)] ∧ (0 ≤ salt) ∧ (salt ≤ 1000) ∧ (∀ (cs : List Int) (b : Int), cs.length ≤ 63 → (∀ c ∈ cs, 0 ≤ c) → 0 ≤ b → b < 2147483647 → Q (.list [.list (cs.map .int), .int b]))
theorem mo__law_draw : MoS S__law_draw := fun _ _ _ _ _ m m' ⟨ns, salt, h0, h1, h2, q⟩ => ⟨ns, salt, h0, h1, h2, fun cs b a1 a2 a3 a4 => m _ (q cs b a1 a2 a3 a4)⟩
theorem body__law_draw (z_int : mg "int" = none) (z_abs : mg "abs" = none) : Body P w K mg base gg 0 "_law_draw" s__law_draw ["_law_script", "_law_salt", "_law_cell", "_law_cells", "_law_blend"] ["_law_script", "_law_salt"] S__law_draw := by
  intro f cdv A outer s H E G xe hgi hG hxd hfx hx hgd hr po
  have hK : (cxOf (L2.CX P w) P w K mg base ["_law_script", "_law_salt", "_law_cell", "_law_cells", "_law_blend"] "_law_draw" (defScope s__law_draw) f cdv A outer s H E).K = G.K := hG.symm
  refine ⟨_, (dss_cons (ds_setLc (own := [("_law_cell", 2)]) (i := 3) rfl sc__law_draw.nd rfl rfl (sw_true rfl rfl rfl (by decide +kernel)) (dic_seq ((df_scr (i := 0) hK (pv 0) (do_some de_int))).de.b) (blkOk_by (N := ["_law_script", "_law_salt", "_law_cell", "_law_cells", "_law_blend"]) (sc := defScope s__law_draw) (by decide +kernel)) (fun _ _ _ _ _ => (tn_name (i := 2) sc__law_draw.nd rfl (by first | exact Or.inl rfl | exact Or.inr rfl))) (fun _ _ _ _ _ => dts_nil) (fun _ _ _ _ _ => (de_abs z_abs (dab_cons (de_int1 z_int (dab_cons (bv 2) dab_nil)).b dab_nil))) (by decide))
    (dss_cons (ds_set (i := 4) sc__law_draw.nd rfl (by first | exact Or.inl rfl | exact Or.inr rfl) (de_addU (de_int).b (de_mulU (de_int).b (bv 1)).b))
    (dss_cons (ds_for po hfx rfl (di_slot (pv 3)) (tg_name (i := 2) sc__law_draw.nd rfl (by first | exact Or.inl rfl | exact Or.inr rfl)) (dss_one (ds_set (i := 4) sc__law_draw.nd rfl (by first | exact Or.inl rfl | exact Or.inr rfl) (de_mod (de_int1 z_int (dab_cons (de_addU (de_addU (de_mulU (bv 4) (de_int).b).b (de_mod (bv 2) (de_int).b).b).b (de_int).b).b dab_nil)).b (de_int).b))))
    (dss_one (ds_ret ((df_lst (da_cons ((df_rev ((df_lc (own := [("_law_cell", 2)]) rfl sc__law_draw.nd (dic_seq (bv 3)) (blkOk_by (N := ["_law_script", "_law_salt", "_law_cell", "_law_cells", "_law_blend"]) (sc := defScope s__law_draw) (by decide +kernel)) (fun _ _ _ _ _ => (tn_name (i := 2) sc__law_draw.nd rfl (by first | exact Or.inl rfl | exact Or.inr rfl))) (fun _ _ _ _ _ => (dts_one (dt_ge (bv 2) (de_pow (de_int).b (de_int).b).b))) (fun _ _ _ _ _ => (dv 2)) (by decide))).de.b)).de (da_cons (dv 4) da_nil)))).de))))), ?_⟩
  try simp only [hxd]
  clear hK po hr hgd hx hfx hG hgi hxd
  rintro args Q ⟨ns, salt, rfl, s0, s1, hQ⟩
  have sl : sizeLine = 16777216 := sizeLine_eq
  walk_at "d"
  rw [cutD_to (by omega), ← List.map_take]
  refine lcB_n ab (by rw [List.length_take]; omega) (fun n hn R hR => ?_) ?_
  · walk_at "d"
    exact hR
  have hcl : ((ns.take (Int.toNat 48)).map ab).length ≤ 48 := by rw [List.length_map, List.length_take]; omega
  have hcn : ∀ c ∈ (ns.take (Int.toNat 48)).map ab, 0 ≤ c := fun c hc => by
    obtain ⟨x, _, rfl⟩ := List.mem_map.mp hc
    unfold ab; split <;> omega
  generalize (ns.take (Int.toNat 48)).map ab = cs at hcl hcn
  refine ⟨cmul_of (show (104729 : Int).natAbs < 2 ^ 64 by decide) (show salt.natAbs < 2 ^ 64 by omega), ?_⟩
  walk_at "d"
  refine ⟨fun i ρ => ∃ c b, ρ = [some (.scr ns), some (.v (.int salt)), c, some (.v (.list (cs.map .int))), some (.v (.int b))] ∧ 0 ≤ b ∧ b < 2147483647, ⟨none, _, rfl, by omega, by omega⟩, ?_, ?_⟩
  · rintro i ρ ⟨c, b, rfl, b0, b1⟩ hi
    rw [List.getElem_map]
    walk_at "d"
    refine ⟨cmul_of (show b.natAbs < 2 ^ 64 by omega) (show (48271 : Int).natAbs < 2 ^ 64 by decide), ?_, ?_⟩
    · exact Int.emod_nonneg _ (by decide)
    · exact Int.emod_lt_of_pos _ (by decide)
  · rintro ρ ⟨c, b, rfl, b0, b1⟩
    walk_at "d"
    refine lcB_f (fun x => decide ((10 : Int) ^ (18 : Int).toNat ≤ x)) (by omega) (fun n hn R hR => ?_) ?_
    · walk_at "d"
      refine ⟨⟨by decide, by decide, by decide⟩, ?_⟩
      exact if_push hR
    · walk_at "d"
      rw [← List.map_reverse]
      exact hQ _ b (by rw [List.length_reverse]; exact Nat.le_trans (List.length_filter_le _ _) (by omega)) (fun c hc => hcn c ((List.mem_filter.mp (List.mem_reverse.mp hc)).1)) b0 b1

theorem cal__law_draw (hgK : gg.K = K) (D : Def K mg "_law_draw" s__law_draw) (z_int : mg "int" = none) (z_abs : mg "abs" = none) : Cal P w K mg base gg 1 "_law_draw" s__law_draw ["_law_script", "_law_salt"] S__law_draw :=
  cal_of hgK D sc__law_draw mo__law_draw (fun _ _ _ h => by obtain ⟨_, _, rfl, _⟩ := h; rfl) (fun _ _ _ _ _ _ us hl => match us, hl with | [_, _], _ => rfl) (body__law_draw z_int z_abs)
abbrev s__law_of : Stmt := topS 27
theorem sc__law_of : FnScope ["_law_deal", "_law_some"] ["_law_deal", "_law_some"] (defScope s__law_of) := ⟨rfl, rfl, rfl, by decide +kernel, rfl, by decide +kernel, by decide +kernel⟩
def S__law_of : SpD := fun args Q E => ∃ (sv : SV) (d : PyData) (ds : List PyData), args = [.dl, sv] ∧ (AV sv d) ∧ (d = .list ds ∨ d = .tuple ds) ∧ (ds ≠ []) ∧ (ds.length ≤ 4096) ∧ (∀ x ∈ ds, Q x)
theorem mo__law_of : MoS S__law_of := fun _ _ _ _ _ m m' ⟨sv, d, ds, h0, h1, h2, h3, h4, q⟩ => ⟨sv, d, ds, h0, h1, h2, h3, h4, fun x z => m _ (q x z)⟩
theorem body__law_of
    (C__law_any : Cal P w K mg base gg 1 "_law_any" s__law_any ["_law_deal", "_law_bound"] S_any) (z_len : mg "len" = none) : Body P w K mg base gg 1 "_law_of" s__law_of ["_law_deal", "_law_some"] ["_law_deal", "_law_some"] S__law_of := by
  intro f cdv A outer s H E G xe hgi hG hxd hfx hx hgd hr po
  have hK : (cxOf (L2.CX P w) P w K mg base ["_law_deal", "_law_some"] "_law_of" (defScope s__law_of) f cdv A outer s H E).K = G.K := hG.symm
  refine ⟨_, (dss_one (ds_ret (de_ix (bv 1) (de_cal C__law_any hx hgd hr (by decide) (dg_deal (pv 0) (dg_val (de_len z_len (dab_cons (bv 1) dab_nil)) dg_nil))).b))), ?_⟩
  try simp only [hxd]
  clear hK po hr hgd hx hfx hG hgi hxd
  rintro args Q ⟨sv, d, ds, rfl, hv, e, hne, hl, hQ⟩
  have hp : 0 < ds.length := List.length_pos_iff.mpr hne
  rcases hv with rfl | ⟨es, rfl, rfl⟩
  all_goals
    walk_at "d"
    rcases e with h | h <;> cases h
  all_goals
    walk_at "d"
    refine ⟨ds.length, rfl, by omega, log_small (by omega), fun r h0 h1 => ?_⟩
    walk_at "d"
    exact ⟨ds[r.toNat]'(by omega), atI_some h0 (by rw [List.getElem?_eq_getElem]), hQ _ (List.getElem_mem _)⟩

theorem cal__law_of (hgK : gg.K = K) (D : Def K mg "_law_of" s__law_of)
    (C__law_any : Cal P w K mg base gg 1 "_law_any" s__law_any ["_law_deal", "_law_bound"] S_any) (z_len : mg "len" = none) : Cal P w K mg base gg 2 "_law_of" s__law_of ["_law_deal", "_law_some"] S__law_of :=
  cal_of hgK D sc__law_of mo__law_of (fun _ _ _ h => by obtain ⟨_, _, _, rfl, _⟩ := h; rfl) (fun _ _ _ _ _ _ us hl => match us, hl with | [_, _], _ => rfl) (body__law_of C__law_any z_len)
abbrev s__law_mixed : Stmt := topS 28
theorem sc__law_mixed : FnScope ["_law_deal", "_law_some", "_law_left", "_law_found"] ["_law_deal", "_law_some"] (defScope s__law_mixed) := ⟨rfl, rfl, rfl, by decide +kernel, rfl, by decide +kernel, by decide +kernel⟩
def S__law_mixed : SpD := fun args Q E => ∃ (d : PyData) (ds : List PyData), args = [.dl, .v d] ∧ (d = .list ds ∨ d = .tuple ds) ∧ (∀ x ∈ ds, Sh 60 x) ∧ (ds.length ≤ 4096) ∧ (∀ es : List PyData, es.Perm ds → Q (.list es))
theorem mo__law_mixed : MoS S__law_mixed := fun _ _ _ _ _ m m' ⟨d, ds, h0, h1, h2, h3, q⟩ => ⟨d, ds, h0, h1, h2, h3, fun x z => m _ (q x z)⟩
theorem body__law_mixed
    (C__law_any : Cal P w K mg base gg 1 "_law_any" s__law_any ["_law_deal", "_law_bound"] S_any) (z_len : mg "len" = none) (z_list : mg "list" = none) : Body P w K mg base gg 1 "_law_mixed" s__law_mixed ["_law_deal", "_law_some", "_law_left", "_law_found"] ["_law_deal", "_law_some"] S__law_mixed := by
  intro f cdv A outer s H E G xe hgi hG hxd hfx hx hgd hr po
  have hK : (cxOf (L2.CX P w) P w K mg base ["_law_deal", "_law_some", "_law_left", "_law_found"] "_law_mixed" (defScope s__law_mixed) f cdv A outer s H E).K = G.K := hG.symm
  refine ⟨_, (dss_cons (ds_parOO (i := 2) (j := 3) rfl sc__law_mixed.nd rfl rfl (by decide) rfl rfl (df_list z_list (dab_cons (bv 1) dab_nil)) (df_lst da_nil) rfl)
    (dss_cons (ds_while po (dt_ne hr (bv 2) ((df_lst da_nil)).de.b) (dss_one (ds_appPop (i := 2) (j := 3) (pv 2) (pv 3) (de_cal C__law_any hx hgd hr (by decide) (dg_deal (pv 0) (dg_val (de_len z_len (dab_cons (bv 2) dab_nil)) dg_nil))))))
    (dss_one (ds_rel 3 (ds_ret (dv 3)))))), ?_⟩
  try simp only [hxd]
  clear hK po hr hgd hx hfx hG hgi hxd
  rintro args Q ⟨d, ds, rfl, e, hsh, hl, hQ⟩
  have sl : sizeLine = 16777216 := sizeLine_eq
  walk_at "d"
  refine ⟨ds, e, ?_⟩
  walk_at "d"
  refine ⟨fun m ρ => ∃ l f, ρ = [some .dl, some (.v d), some (.o l), some (.o f)] ∧ (f ++ l).Perm ds ∧ m = l.length, ⟨_, ds, [], rfl, by simp, rfl⟩, ?_⟩
  rintro m ρ ⟨l, f, rfl, hp, hm⟩
  have hll : f.length + l.length = ds.length := by rw [← hp.length_eq, List.length_append]
  walk_at "d"
  refine ⟨(Sh.list (n := 60) (ShL.of fun x hx => hsh x (hp.mem_iff.mp (List.mem_append_right _ hx)))).ok, rfl, ?_⟩
  rw [eqv_listN]
  by_cases h : l = []
  · subst h
    walk_at "d"
    exact hQ f (by simpa using hp)
  · rw [decide_eq_false h]
    have h0 : 0 < l.length := List.length_pos_iff.mpr h
    walk_at "d"
    refine ⟨l.length, rfl, by omega, log_small (by omega), fun r r0 r1 => ?_⟩
    walk_at "d"
    refine ⟨r.toNat, by rw [Int.toNat_of_nonneg r0], l[r.toNat]'(by omega), by rw [List.getElem?_eq_getElem], by omega, by omega, ?_⟩
    refine ⟨l.length - 1, by omega, ?_, by rw [List.length_eraseIdx_of_lt (by omega)]⟩
    refine List.Perm.trans ?_ hp
    rw [List.append_assoc]
    refine List.Perm.append_left f ?_
    exact (perm_erase l r.toNat (by omega)).symm

theorem cal__law_mixed (hgK : gg.K = K) (D : Def K mg "_law_mixed" s__law_mixed)
    (C__law_any : Cal P w K mg base gg 1 "_law_any" s__law_any ["_law_deal", "_law_bound"] S_any) (z_len : mg "len" = none) (z_list : mg "list" = none) : Cal P w K mg base gg 2 "_law_mixed" s__law_mixed ["_law_deal", "_law_some"] S__law_mixed :=
  cal_of hgK D sc__law_mixed mo__law_mixed (fun _ _ _ h => by obtain ⟨_, _, rfl, _⟩ := h; rfl) (fun _ _ _ _ _ _ us hl => match us, hl with | [_, _], _ => rfl) (body__law_mixed C__law_any z_len z_list)
abbrev s__law_then : Stmt := topS 29
theorem sc__law_then : FnScope ["_law_one", "_law_other", "_law_state"] ["_law_one", "_law_other"] (defScope s__law_then) := ⟨rfl, rfl, rfl, by decide +kernel, rfl, by decide +kernel, by decide +kernel⟩
def S__law_then : SpD := fun args Q E => ∃ (n : Nat) (a : Pm n) (b : Pm n), args = [.v (chD a), .v (chD b)] ∧ (n ≤ 4096) ∧ Q (chD (a * b))
theorem mo__law_then : MoS S__law_then := fun _ _ _ _ _ m m' ⟨n, a, b, h0, h1, q⟩ => ⟨n, a, b, h0, h1, m _ q⟩
theorem body__law_then (z_tuple : mg "tuple" = none) : Body P w K mg base gg 0 "_law_then" s__law_then ["_law_one", "_law_other", "_law_state"] ["_law_one", "_law_other"] S__law_then := by
  intro f cdv A outer s H E G xe hgi hG hxd hfx hx hgd hr po
  have hK : (cxOf (L2.CX P w) P w K mg base ["_law_one", "_law_other", "_law_state"] "_law_then" (defScope s__law_then) f cdv A outer s H E).K = G.K := hG.symm
  refine ⟨_, (dss_one (ds_ret (de_tuple z_tuple (dab_cons ((df_lc (own := [("_law_state", 2)]) rfl sc__law_then.nd (dic_seq (bv 0)) (blkOk_by (N := ["_law_one", "_law_other", "_law_state"]) (sc := defScope s__law_then) (by decide +kernel)) (fun _ _ _ _ _ => (tn_name (i := 2) sc__law_then.nd rfl (by first | exact Or.inl rfl | exact Or.inr rfl))) (fun _ _ _ _ _ => dts_nil) (fun _ _ _ _ _ => (de_ix (bv 1) (bv 2))) (by decide))).de.b dab_nil)))), ?_⟩
  try simp only [hxd]
  clear hK po hr hgd hx hfx hG hgi hxd
  rintro args Q ⟨n, a, b, rfl, hn, hQ⟩
  have sl : sizeLine = 16777216 := sizeLine_eq
  have el : a.1.length = n := a.2.len
  unfold chD natsL
  walk_at "d"
  refine lcB_m (c := natD) (fun s => natD (gt b.1 s)) (by omega) (fun s hs R hR => ?_) ?_
  · have hlt := a.2.lt s hs
    rw [show natD s = .int (s : Int) from rfl]
    walk_at "d"
    exact ⟨_, atI_some (by omega) (by rw [Int.toNat_natCast, List.getElem?_map, List.getElem?_eq_getElem (by rw [b.2.len]; exact hlt), ← gt_lt]; rfl), hR⟩
  walk_at "d"
  have e : a.1.map (fun s => natD (gt b.1 s)) = (a * b).1.map natD := by rw [pm_val_mul]; unfold aft; rw [List.map_map]; rfl
  rw [e]
  exact hQ

theorem cal__law_then (hgK : gg.K = K) (D : Def K mg "_law_then" s__law_then) (z_tuple : mg "tuple" = none) : Cal P w K mg base gg 1 "_law_then" s__law_then ["_law_one", "_law_other"] S__law_then :=
  cal_of hgK D sc__law_then mo__law_then (fun _ _ _ h => by obtain ⟨_, _, _, rfl, _⟩ := h; rfl) (fun _ _ _ _ _ _ us hl => match us, hl with | [_, _], _ => rfl) (body__law_then z_tuple)
abbrev s__law_back : Stmt := topS 30
theorem sc__law_back : FnScope ["_law_one", "_law_found", "_law_state", "_law_to"] ["_law_one"] (defScope s__law_back) := ⟨rfl, rfl, rfl, by decide +kernel, rfl, by decide +kernel, by decide +kernel⟩
def S__law_back : SpD := fun args Q E => ∃ (n : Nat) (c : Pm n), args = [.v (chD c)] ∧ (n ≤ 4096) ∧ Q (chD (Gp.inv c))
theorem mo__law_back : MoS S__law_back := fun _ _ _ _ _ m m' ⟨n, c, h0, h1, q⟩ => ⟨n, c, h0, h1, m _ q⟩
theorem body__law_back (z_tuple : mg "tuple" = none) (z_enumerate : mg "enumerate" = none) (z_len : mg "len" = none) : Body P w K mg base gg 0 "_law_back" s__law_back ["_law_one", "_law_found", "_law_state", "_law_to"] ["_law_one"] S__law_back := by
  intro f cdv A outer s H E G xe hgi hG hxd hfx hx hgd hr po
  have hK : (cxOf (L2.CX P w) P w K mg base ["_law_one", "_law_found", "_law_state", "_law_to"] "_law_back" (defScope s__law_back) f cdv A outer s H E).K = G.K := hG.symm
  refine ⟨_, (dss_cons (ds_setO (i := 1) sc__law_back.nd rfl (by first | exact Or.inl rfl | exact Or.inr rfl) (df_repL ((df_lst (da_cons de_int da_nil))).de.b (de_len z_len (dab_cons (bv 0) dab_nil)).b))
    (dss_cons (ds_for po hfx rfl (di_enumerate z_enumerate (da_cons (dv 0) da_nil)) (tg_tup (n := 2) rfl (tgs_cons (tg_name (i := 2) sc__law_back.nd rfl (by first | exact Or.inl rfl | exact Or.inr rfl)) (tgs_cons (tg_name (i := 3) sc__law_back.nd rfl (by first | exact Or.inl rfl | exact Or.inr rfl)) tgs_nil))) (dss_one (ds_asg (dv 2) (tg_sub (pv 1) (dv 3)))))
    (dss_one (ds_ret (de_tuple z_tuple (dab_cons (bv 1) dab_nil)))))), ?_⟩
  try simp only [hxd]
  clear hK po hr hgd hx hfx hG hgi hxd
  rintro args Q ⟨n, c, rfl, hn, hQ⟩
  have sl : sizeLine = 16777216 := sizeLine_eq
  have el : c.1.length = n := c.2.len
  unfold chD natsL
  walk_at "d"
  have er : (List.replicate c.1.length [PyData.int 0]).flatten = (List.replicate n 0).map natD := by
    rw [el, List.map_replicate]
    generalize n = k
    induction k with
    | zero => rfl
    | succ k ih => rw [List.replicate_succ, List.flatten_cons, ih, List.replicate_succ]; rfl
  rw [er]
  refine ⟨by omega, by omega, by omega, fun i ρ => ∃ (gl : List Nat) (a2 a3 : Option SV), ρ = [some (.v (.tuple (c.1.map natD))), some (.o (gl.map natD)), a2, a3] ∧ gl.length = n ∧ ∀ j, j < i → gt gl (gt c.1 j) = j, ⟨_, _, _, rfl, List.length_replicate, fun j h => by omega⟩, ?_, ?_⟩
  · rintro i ρ ⟨gl, a2, a3, rfl, hgl, hg⟩ hi
    rw [numD_len, List.length_map, el] at hi
    have eg : (numD 0 (c.1.map natD))[i]'(by rw [numD_len, List.length_map, el]; exact hi) = .tuple [.int (i : Nat), natD (gt c.1 i)] := by
      have := numD_get 0 (c.1.map natD) i
      rw [List.getElem?_eq_getElem (by rw [numD_len, List.length_map, el]; exact hi), List.getElem?_map, List.getElem?_eq_getElem (by rw [el]; exact hi), ← gt_lt] at this
      simpa using this
    rw [eg]
    clear eg
    have hlt := c.2.gt hi
    rw [show natD (gt c.1 i) = .int ((gt c.1 i : Nat) : Int) from rfl]
    walk_at "d"
    refine ⟨gt c.1 i, ?_, gl.set (gt c.1 i) i, ?_, by rw [List.length_set, hgl], fun j hj => ?_⟩
    · have := ixN_some (n := gl.length) (i := ((gt c.1 i : Nat) : Int)) (by omega) (by omega)
      rwa [Int.toNat_natCast] at this
    · rw [List.map_set]; rfl
    · by_cases e : j = i
      · subst e
        rw [gt_lt (by rw [List.length_set, hgl]; exact hlt), List.getElem_set_self]
      · have hne : gt c.1 j ≠ gt c.1 i := fun z => e (c.2.inj (by omega) hi z)
        have hjl := c.2.gt (show j < n by omega)
        rw [gt_lt (by rw [List.length_set, hgl]; exact hjl), List.getElem_set_ne (fun z => hne z.symm), ← gt_lt (by rw [hgl]; exact hjl), hg j (by omega)]
  · rintro ρ ⟨gl, a2, a3, rfl, hgl, hg⟩
    rw [numD_len, List.length_map, el] at hg
    have e : gl = und c.1 := list_ext (by rw [hgl, und_len, el]) fun s hs => by
      rw [hgl] at hs
      obtain ⟨h1, h2⟩ := gt_und c.2 hs
      conv => lhs; rw [← h2]
      exact hg _ h1
    subst e
    walk_at "d"
    exact hQ

theorem cal__law_back (hgK : gg.K = K) (D : Def K mg "_law_back" s__law_back) (z_tuple : mg "tuple" = none) (z_enumerate : mg "enumerate" = none) (z_len : mg "len" = none) : Cal P w K mg base gg 1 "_law_back" s__law_back ["_law_one"] S__law_back :=
  cal_of hgK D sc__law_back mo__law_back (fun _ _ _ h => by obtain ⟨_, _, rfl, _⟩ := h; rfl) (fun _ _ _ _ _ _ us hl => match us, hl with | [_], _ => rfl) (body__law_back z_tuple z_enumerate z_len)
abbrev s__law_power : Stmt := topS 31
theorem sc__law_power : FnScope ["_law_one", "_law_count_here", "_law_step", "_law_left", "_law_found"] ["_law_one", "_law_count_here"] (defScope s__law_power) := ⟨rfl, rfl, rfl, by decide +kernel, rfl, by decide +kernel, by decide +kernel⟩
def S__law_power : SpD := fun args Q E => ∃ (n : Nat) (c : Pm n) (z : Int), args = [.v (chD c), .v (.int z)] ∧ (n ≤ 4096) ∧ (z.natAbs < 2 ^ 900) ∧ Q (chD (zpw c z))
theorem mo__law_power : MoS S__law_power := fun _ _ _ _ _ m m' ⟨n, c, z, h0, h1, h2, q⟩ => ⟨n, c, z, h0, h1, h2, m _ q⟩
theorem body__law_power
    (C__law_then : Cal P w K mg base gg 1 "_law_then" s__law_then ["_law_one", "_law_other"] S__law_then)
    (C__law_back : Cal P w K mg base gg 1 "_law_back" s__law_back ["_law_one"] S__law_back) (z_int : mg "int" = none) (z_tuple : mg "tuple" = none) (z_list : mg "list" = none) (z_len : mg "len" = none) (z_range : mg "range" = none) : Body P w K mg base gg 1 "_law_power" s__law_power ["_law_one", "_law_count_here", "_law_step", "_law_left", "_law_found"] ["_law_one", "_law_count_here"] S__law_power := by
  intro f cdv A outer s H E G xe hgi hG hxd hfx hx hgd hr po
  have hK : (cxOf (L2.CX P w) P w K mg base ["_law_one", "_law_count_here", "_law_step", "_law_left", "_law_found"] "_law_power" (defScope s__law_power) f cdv A outer s H E).K = G.K := hG.symm
  refine ⟨_, (dss_cons (ds_asg (de_if (dt_lt (bv 1) (de_int).b) (de_tup (da_cons (de_cal C__law_back hx hgd hr (by decide) (dg_val (dv 0) dg_nil)) (da_cons (de_sub (de_int).b (bv 1)) da_nil))) (de_tup (da_cons (dv 0) (da_cons (dv 1) da_nil)))) (tg_tup (n := 2) rfl (tgs_cons (tg_name (i := 2) sc__law_power.nd rfl (by first | exact Or.inl rfl | exact Or.inr rfl)) (tgs_cons (tg_name (i := 3) sc__law_power.nd rfl (by first | exact Or.inl rfl | exact Or.inr rfl)) tgs_nil))))
    (dss_cons (ds_set (i := 4) sc__law_power.nd rfl (by first | exact Or.inl rfl | exact Or.inr rfl) (de_tuple z_tuple (dab_cons ((df_listRg (de_len z_len (dab_cons (bv 0) dab_nil)) z_list z_range)).de.b dab_nil)))
    (dss_cons (ds_while po (dt_gt (bv 3) (de_int).b) (dss_cons (ds_if (dt_eq hr (de_mod (de_int1 z_int (dab_cons (bv 3) dab_nil)).b (de_int).b).b (de_int).b) (dss_one (ds_set (i := 4) sc__law_power.nd rfl (by first | exact Or.inl rfl | exact Or.inr rfl) (de_cal C__law_then hx hgd hr (by decide) (dg_val (dv 4) (dg_val (dv 2) dg_nil))))) dss_nil)
    (dss_one (ds_par (i := 2) (j := 3) rfl sc__law_power.nd rfl rfl (by decide) rfl rfl (de_cal C__law_then hx hgd hr (by decide) (dg_val (dv 2) (dg_val (dv 2) dg_nil))) (de_div (bv 3) (de_int).b) rfl))))
    (dss_one (ds_ret (dv 4)))))), ?_⟩
  try simp only [hxd]
  clear hK po hr hgd hx hfx hG hgi hxd
  rintro args Q ⟨n, c, z, rfl, hn, hz, hQ⟩
  have sl : sizeLine = 16777216 := sizeLine_eq
  have el : (c.1.map natD).length = n := by rw [List.length_map]; exact c.2.len
  have hlen : ∀ (Kq : Int → Prop) t, Kq (n : Int) → onLen (chD c) Kq t := fun Kq t h => by unfold chD natsL; rw [onLen_t, el]; exact h
  obtain ⟨s, l, hs, hl, hcase⟩ : ∃ (s : Pm n) (l : Nat), zpw s (l : Int) = zpw c z ∧ l < 2 ^ 900 ∧ ((z < 0 ∧ s = Gp.inv c ∧ -z = (l : Int)) ∨ (¬ z < 0 ∧ s = c ∧ z = (l : Int))) := by
    by_cases h0 : z < 0
    · exact ⟨Gp.inv c, (-z).toNat, by rw [Int.toNat_of_nonneg (by omega), inv_zpw, ← zpw_neg, Int.neg_neg], by omega, .inl ⟨h0, rfl, by omega⟩⟩
    · exact ⟨c, z.toNat, by rw [Int.toNat_of_nonneg (by omega)], by omega, .inr ⟨h0, rfl, by omega⟩⟩
  rw [← hs] at hQ
  clear hs
  have key : ∀ (l : Nat) (s g : Pm n), l < 2 ^ 900 → Q (chD (g * zpw s (l : Int))) → dWhile (tb (wGt (dVarB 3) (dC (PyData.int 0))))
        (dSeq (dIfS (tb (d2 fEq (wMod (dA fInt (aCons (dVarB 3) aNil)) (dC (PyData.int 2))) (dC (PyData.int 1)))) (dSet 4 (dCall (fun x => xe) S__law_then (gVal (dVar 4) (gVal (dVar 2) gNil')))) dNext)
          (dPar 2 3 (dCall (fun x => xe) S__law_then (gVal (dVar 2) (gVal (dVar 2) gNil'))) (wDiv (dVarB 3) (dC (PyData.int 2)))))
        (({ nx := fun _ => Q PyData.none, rt := Q } : DEnds).sq (dRet (dVar 4))) [some (SV.v (chD c)), some (SV.v (PyData.int z)), some (SV.v (chD s)), some (SV.v (PyData.int (l : Int))), some (SV.v (chD g))] := fun l s g hl hq => by
    refine ⟨fun m ρ => ∃ (l : Nat) (s g : Pm n), ρ = [some (SV.v (chD c)), some (SV.v (PyData.int z)), some (SV.v (chD s)), some (SV.v (PyData.int (l : Int))), some (SV.v (chD g))] ∧ l < 2 ^ 900 ∧ Q (chD (g * zpw s (l : Int))) ∧ m = l, ⟨_, l, s, g, rfl, hl, hq, rfl⟩, ?_⟩
    rintro m ρ ⟨l, s, g, rfl, hl, hq, hml⟩
    subst m
    walk_at "d"
    by_cases h0 : 0 < l
    · rw [decide_eq_true (show (0 : Int) < (l : Int) by omega)]
      walk_at "d"
      have hd : ((l : Int) / 2) = ((l / 2 : Nat) : Int) := rfl
      by_cases h1 : l % 2 = 1
      · rw [show (((l : Int) % 2) == 1) = true by simp; omega]
        walk_at "d"
        refine ⟨n, g, s, rfl, hn, ?_⟩
        walk_at "d"
        refine ⟨n, s, s, rfl, hn, ?_⟩
        walk_at "d"
        rw [hd]
        refine ⟨cdiv_of (n := 5) (by decide) (by decide), l / 2, by omega, l / 2, s * s, rfl, rfl, g * s, rfl, by omega, ?_, rfl⟩
        rw [← sq_odd, show 2 * ((l / 2 : Nat) : Int) + 1 = (l : Int) by omega]
        exact hq
      · rw [show (((l : Int) % 2) == 1) = false by simp; omega]
        walk_at "d"
        refine ⟨n, s, s, rfl, hn, ?_⟩
        walk_at "d"
        rw [hd]
        refine ⟨cdiv_of (n := 5) (by decide) (by decide), l / 2, by omega, l / 2, s * s, rfl, rfl, g, rfl, by omega, ?_, rfl⟩
        rw [← sq_even, show 2 * ((l / 2 : Nat) : Int) = (l : Int) by omega]
        exact hq
    · have : l = 0 := by omega
      subst this
      rw [decide_eq_false (show ¬ (0 : Int) < ((0 : Nat) : Int) by decide)]
      walk_at "d"
      rwa [show zpw s ((0 : Nat) : Int) = Gp.one from rfl, gmul_one] at hq
  have hq1 : Q (chD ((Gp.one : Pm n) * zpw s (l : Int))) := by rw [gone_mul]; exact hQ
  walk_at "d"
  rcases hcase with ⟨h0, rfl, e⟩ | ⟨h0, rfl, e⟩
  · rw [decide_eq_true h0]
    walk_at "d"
    refine ⟨n, c, rfl, hn, ?_⟩
    walk_at "d"
    rw [show (0 : Int) - z = (l : Int) by omega]
    refine hlen _ _ ?_
    walk_at "d"
    refine ⟨by omega, by omega, ?_⟩
    exact key l _ _ hl hq1
  · rw [decide_eq_false h0]
    walk_at "d"
    refine hlen _ _ ?_
    walk_at "d"
    refine ⟨by omega, by omega, ?_⟩
    have := key l s _ hl hq1
    rw [← e] at this
    exact this

theorem cal__law_power (hgK : gg.K = K) (D : Def K mg "_law_power" s__law_power)
    (C__law_then : Cal P w K mg base gg 1 "_law_then" s__law_then ["_law_one", "_law_other"] S__law_then)
    (C__law_back : Cal P w K mg base gg 1 "_law_back" s__law_back ["_law_one"] S__law_back) (z_int : mg "int" = none) (z_tuple : mg "tuple" = none) (z_list : mg "list" = none) (z_len : mg "len" = none) (z_range : mg "range" = none) : Cal P w K mg base gg 2 "_law_power" s__law_power ["_law_one", "_law_count_here"] S__law_power :=
  cal_of hgK D sc__law_power mo__law_power (fun _ _ _ h => by obtain ⟨_, _, _, rfl, _⟩ := h; rfl) (fun _ _ _ _ _ _ us hl => match us, hl with | [_, _], _ => rfl) (body__law_power C__law_then C__law_back z_int z_tuple z_list z_len z_range)
abbrev s__law_refused : Stmt := topS 32
theorem sc__law_refused : FnScope ["_law_work", "wrong"] ["_law_work"] (defScope s__law_refused) := ⟨rfl, rfl, rfl, by decide +kernel, rfl, by decide +kernel, by decide +kernel⟩
def S__law_refused (C : Addr) : SpL := fun wl Q E => wl (fun _ => Q .none) (fun C' d => C' = C ∧ Q d)
theorem mo__law_refused (C : Addr) : MoSL (S__law_refused C_InvalidChange) := fun wl wm Q Q' E E' m m' q => wm _ _ _ _ (fun _ z => m _ z) (fun _ _ z => ⟨z.1, m _ z.2⟩) q
theorem body__law_refused {fI_InvalidChange : Addr} (T_InvalidChange : PySem.ErX.ErrTxt P K mg "InvalidChange" "invalid change" C_InvalidChange fI_InvalidChange) : BodyL P w K mg base gg 0 "_law_refused" s__law_refused ["_law_work", "wrong"] "_law_work" (S__law_refused C_InvalidChange) := by
  intro g0 cdv A outer s H E G xe f c' q wl wm hgi hG hxd hfx hx hgd hr po hcall
  have hK : (cxOf (L2.CX P w) P w K mg base ["_law_work", "wrong"] "_law_refused" (defScope s__law_refused) g0 cdv A outer s H E).K = G.K := hG.symm
  refine ⟨_, (dss_cons (ds_try1 T_InvalidChange (i := 1) hx rfl rfl sc__law_refused.nd rfl rfl rfl (by decide) (fun G' pn xe' hKt hx po => have hK := hK.trans (congrArg (fun d : Dl2 => d.gi.K) hKt.dl.symm); have hgi := (congrArg Dl2.gi hKt.dl).trans hgi; (dss_one (ds_expr (hcall G' pn xe' hKt hx _ _)))) (fun a dd oe pn hz hf => (dss_one (ds_ret (de_at (i := 1) T_InvalidChange hz hf (pv 1))))))
    (dss_one (ds_ret de_non))), ?_⟩
  try simp only [hxd]
  clear hcall hK po hr hgd hx hfx hG hgi hxd
  intro Q hS
  walk_at "d"
  refine ⟨_, .refl, fun ρ C d => ρ = [some (.fn f c' q), none] ∧ C = C_InvalidChange ∧ Q d, ?_, fun F => ?_⟩
  · rintro ρ' C d ⟨rfl, hC, hd⟩
    refine ⟨by simp, .inl ⟨?_, fun a dd => ?_⟩⟩
    · unfold only
      rw [hC]
      simp
    · walk_at "d"
      refine ⟨_, rfl, ?_⟩
      exact hd
  · refine ⟨rfl, wm _ _ _ _ (fun d z => ?_) (fun C d z => ⟨rfl, z⟩) hS⟩
    walk_at "d"
    exact z

theorem cal__law_refused (D : Def K mg "_law_refused" s__law_refused) {fI_InvalidChange : Addr} (T_InvalidChange : PySem.ErX.ErrTxt P K mg "InvalidChange" "invalid change" C_InvalidChange fI_InvalidChange) : CalL P w K mg base gg 0 "_law_refused" s__law_refused ["_law_work", "wrong"] "_law_work" (S__law_refused C_InvalidChange) :=
  calL_of D sc__law_refused rfl (by first | exact Or.inl rfl | exact Or.inr (Or.inl rfl) | exact Or.inr (Or.inr rfl)) (mo__law_refused C_InvalidChange) (fun _ _ _ _ _ _ us hl => match us, hl with | [_], _ => rfl) (body__law_refused T_InvalidChange)
abbrev s__law_count : Stmt := topS 33
theorem sc__law_count : FnScope ["_law_deal"] ["_law_deal"] (defScope s__law_count) := ⟨rfl, rfl, rfl, by decide +kernel, rfl, by decide +kernel, by decide +kernel⟩
def S__law_count : SpD := fun args Q E => args = [.dl] ∧ (∀ z : Int, z.natAbs < 2 ^ 200 → Q (.int z))
theorem mo__law_count : MoS S__law_count := fun _ _ _ _ _ m m' ⟨h0, q⟩ => ⟨h0, fun z h => m _ (q z h)⟩
theorem body__law_count
    (C__law_of : Cal P w K mg base gg 2 "_law_of" s__law_of ["_law_deal", "_law_some"] S__law_of)
    (C__law_any : Cal P w K mg base gg 1 "_law_any" s__law_any ["_law_deal", "_law_bound"] S_any) : Body P w K mg base gg 2 "_law_count" s__law_count ["_law_deal"] ["_law_deal"] S__law_count := by
  intro f cdv A outer s H E G xe hgi hG hxd hfx hx hgd hr po
  have hK : (cxOf (L2.CX P w) P w K mg base ["_law_deal"] "_law_count" (defScope s__law_count) f cdv A outer s H E).K = G.K := hG.symm
  refine ⟨_, (dss_one (ds_ret (de_cal C__law_of hx hgd hr (by decide) (dg_deal (pv 0) (dg_val ((df_lst (da_cons de_int (da_cons de_int (da_cons (de_neg de_int) (da_cons de_int (da_cons de_int (da_cons (de_neg de_int) (da_cons (de_sub (de_sub (de_pow (de_int).b (de_int).b).b (de_int).b).b (de_cal C__law_any hx hgd hr (by decide) (dg_deal (pv 0) (dg_val (de_pow (de_int).b (de_int).b) dg_nil))).b) (da_cons (de_cal C__law_any hx hgd hr (by decide) (dg_deal (pv 0) (dg_val (de_pow (de_int).b (de_int).b) dg_nil))) (da_cons (de_sub (de_int).b (de_cal C__law_any hx hgd hr (by decide) (dg_deal (pv 0) (dg_val (de_pow (de_int).b (de_int).b) dg_nil))).b) da_nil))))))))))).de dg_nil))))), ?_⟩
  try simp only [hxd]
  clear hK po hr hgd hx hfx hG hgi hxd
  rintro args Q ⟨rfl, hQ⟩
  have sl : sizeLine = 16777216 := sizeLine_eq
  have ap : ∀ (b : Int) (Q : PyData → Prop) (E : Addr → PyData → Prop), 0 < b → b.natAbs.log2 < 9000 → (∀ r : Int, 0 ≤ r → r < b → Q (.int r)) → callS S_any [.dl, .v (.int b)] Q E := fun b Q E b0 b1 h => ⟨b, rfl, b0, b1, h⟩
  walk_at "d"
  refine ⟨⟨by decide, by decide, by decide⟩, ⟨by decide, by decide, by decide⟩, ap _ _ _ (by decide) (log_small (by decide)) fun r1 r10 r11 => ?_⟩
  walk_at "d"
  refine ⟨⟨by decide, by decide, by decide⟩, ap _ _ _ (by decide) (log_small (by decide)) fun r2 r20 r21 => ?_⟩
  walk_at "d"
  refine ⟨⟨by decide, by decide, by decide⟩, ap _ _ _ (by decide) (Nat.lt_trans (log_lt (k := 100) (by decide) (by decide)) (by decide)) fun r3 r30 r31 => ?_⟩
  walk_at "d"
  have e29 : (10 : Int) ^ Int.toNat 29 = 100000000000000000000000000000 := by decide
  have e18 : (10 : Int) ^ Int.toNat 18 = 1000000000000000000 := by decide
  have e9 : (10 : Int) ^ Int.toNat 9 = 1000000000 := by decide
  rw [e9] at r11 r21
  rw [e18] at r31
  rw [e29]
  refine ⟨_, _, _, rfl, .inl rfl, .inl rfl, by simp, by simp, fun x hx => ?_⟩
  have sm : ∀ z : Int, z.natAbs < 2 ^ 120 → Q (.int z) := fun z h => hQ z (Nat.lt_trans h (by decide))
  simp only [List.mem_cons, List.not_mem_nil, or_false] at hx
  rcases hx with rfl | rfl | rfl | rfl | rfl | rfl | rfl | rfl | rfl <;> exact sm _ (by omega)

theorem cal__law_count (hgK : gg.K = K) (D : Def K mg "_law_count" s__law_count)
    (C__law_of : Cal P w K mg base gg 2 "_law_of" s__law_of ["_law_deal", "_law_some"] S__law_of)
    (C__law_any : Cal P w K mg base gg 1 "_law_any" s__law_any ["_law_deal", "_law_bound"] S_any) : Cal P w K mg base gg 3 "_law_count" s__law_count ["_law_deal"] S__law_count :=
  cal_of hgK D sc__law_count mo__law_count (fun _ _ _ h => by obtain ⟨rfl, _⟩ := h; rfl) (fun _ _ _ _ _ _ us hl => match us, hl with | [_], _ => rfl) (body__law_count C__law_of C__law_any)
abbrev s__law_bad : Stmt := topS 34
theorem sc__law_bad : FnScope ["_law_deal", "_law_change", "_law_many", "_law_odd", "_law_to"] ["_law_deal", "_law_change"] (defScope s__law_bad) := ⟨rfl, rfl, rfl, by decide +kernel, rfl, by decide +kernel, by decide +kernel⟩
def S__law_bad : SpD := fun args Q E => ∃ (n : Nat) (c : Pm n), args = [.dl, .v (chD c)] ∧ (0 < n) ∧ (n ≤ 12) ∧ (∀ v, chgB n v = false → chgB (sizeD v) v = false → smallC v → sizeD v ≤ n + 1 → Q v)
theorem mo__law_bad : MoS S__law_bad := fun _ _ _ _ _ m m' ⟨n, c, h0, h1, h2, q⟩ => ⟨n, c, h0, h1, h2, fun v a b c d => m _ (q v a b c d)⟩
theorem body__law_bad
    (C__law_of : Cal P w K mg base gg 2 "_law_of" s__law_of ["_law_deal", "_law_some"] S__law_of) (z_tuple : mg "tuple" = none) (z_list : mg "list" = none) (z_len : mg "len" = none) : Body P w K mg base gg 2 "_law_bad" s__law_bad ["_law_deal", "_law_change", "_law_many", "_law_odd", "_law_to"] ["_law_deal", "_law_change"] S__law_bad := by
  intro f cdv A outer s H E G xe hgi hG hxd hfx hx hgd hr po
  have hK : (cxOf (L2.CX P w) P w K mg base ["_law_deal", "_law_change", "_law_many", "_law_odd", "_law_to"] "_law_bad" (defScope s__law_bad) f cdv A outer s H E).K = G.K := hG.symm
  refine ⟨_, (dss_cons (ds_set (i := 2) sc__law_bad.nd rfl (by first | exact Or.inl rfl | exact Or.inr rfl) (de_len z_len (dab_cons (bv 1) dab_nil)))
    (dss_cons (ds_set (i := 3) sc__law_bad.nd rfl (by first | exact Or.inl rfl | exact Or.inr rfl) ((df_lst (da_cons ((df_list z_list (dab_cons (bv 1) dab_nil))).de (da_cons (de_addU (bv 1) (de_tup (da_cons de_int da_nil)).b) (da_cons (de_addU (de_addU (de_slU (bv 1) (do_some de_int) do_none).b (de_slU (bv 1) do_none (do_some de_int)).b).b (de_slU (bv 1) do_none (do_some de_int)).b) (da_cons de_non (da_cons (de_tup da_nil) (da_cons de_str (da_cons de_int (da_cons (de_addU (de_tup (da_cons (de_neg de_int) da_nil)).b (de_slU (bv 1) (do_some de_int) do_none).b) (da_cons (de_addU (de_tup (da_cons (dv 2) da_nil)).b (de_slU (bv 1) (do_some de_int) do_none).b) da_nil))))))))))).de)
    (dss_cons (ds_set (i := 3) sc__law_bad.nd rfl (by first | exact Or.inl rfl | exact Or.inr rfl) (de_addU (bv 3) ((df_lst (da_cons (de_tuple z_tuple (dab_cons ((df_lc (own := [("_law_to", 4)]) rfl sc__law_bad.nd (dic_seq (bv 1)) (blkOk_by (N := ["_law_deal", "_law_change", "_law_many", "_law_odd", "_law_to"]) (sc := defScope s__law_bad) (by decide +kernel)) (fun _ _ _ _ _ => (tn_name (i := 4) sc__law_bad.nd rfl (by first | exact Or.inl rfl | exact Or.inr rfl))) (fun _ _ _ _ _ => dts_nil) (fun _ _ _ _ _ => (de_if (dt_eq hr (bv 4) (de_int).b) de_bl (dv 4))) (by decide))).de.b dab_nil)) (da_cons (de_addU (de_mulT (de_slU (bv 1) do_none (do_some de_int)).b (de_int).b).b (de_slU (bv 1) (do_some de_int) do_none).b) da_nil)))).de.b))
    (dss_one (ds_ret (de_cal C__law_of hx hgd hr (by decide) (dg_deal (pv 0) (dg_val (de_addU (bv 3) ((df_lst (da_cons (de_mulT (de_tup (da_cons de_bl da_nil)).b (bv 2)) (da_cons (de_addU (de_tup (da_cons de_non da_nil)).b (de_slU (bv 1) (do_some de_int) do_none).b) da_nil)))).de.b) dg_nil)))))))), ?_⟩
  try simp only [hxd]
  clear hK po hr hgd hx hfx hG hgi hxd
  rintro args Q ⟨n, c, rfl, h0, hn, hQ⟩
  have sl : sizeLine = 16777216 := sizeLine_eq
  have el : (c.1.map natD).length = n := by rw [List.length_map]; exact c.2.len
  have cl : c.1.length = n := c.2.len
  have hlen : ∀ (Kq : Int → Prop) t, Kq (n : Int) → onLen (chD c) Kq t := fun Kq t h => by unfold chD natsL; rw [onLen_t, el]; exact h
  walk_at "d"
  refine hlen _ _ ?_
  have zc : (0 : Nat) ∈ c.1 := by
    have := c.2.perm.symm.subset (List.mem_range.mpr h0)
    exact this
  have cdrop : ∀ i : Int, 0 ≤ i → cutD (c.1.map natD) (some i) none = (c.1.drop i.toNat).map natD := fun i h => by rw [cutD_from h, List.map_drop]
  have ctake : cutD (c.1.map natD) none (some 1) = (c.1.take 1).map natD := by rw [cutD_to (by decide), List.map_take]; rfl
  rw [show chD c = .tuple (c.1.map natD) from rfl]
  walk_at "d"
  rw [cdrop 1 (by decide), ctake]
  have l1 : (c.1.drop (Int.toNat 1)).length ≤ n := by rw [List.length_drop]; omega
  have l2 : (c.1.take 1).length ≤ 1 := by rw [List.length_take]; omega
  simp only [List.length_map, List.length_append]
  refine ⟨by omega, by omega, by omega, by omega, by omega, ?_⟩
  refine lcB_m (c := natD) (fun s : Nat => if s = 0 then PyData.bool false else natD s) (by omega) (fun s hs R hR => ?_) ?_
  · rw [show natD s = .int (s : Int) from rfl] at hR ⊢
    walk_at "d"
    by_cases e : s = 0
    · subst e
      walk_at "d"
      exact hR
    · rw [if_neg e] at hR
      rw [show ((s : Int) == 0) = false from beq_eq_false_iff_ne.mpr (by omega)]
      walk_at "d"
      exact hR
  walk_at "d"
  rw [cdrop 2 (by decide), ctake]
  have l3 : (c.1.drop (Int.toNat 2)).length ≤ n - 2 := by rw [List.length_drop, show Int.toNat 2 = 2 from rfl]; omega
  have l1' : (c.1.drop (Int.toNat 1)).length = n - 1 := by rw [List.length_drop, show Int.toNat 1 = 1 from rfl]; omega
  obtain ⟨y, t1⟩ : ∃ y, c.1.take 1 = [y] := by
    cases e : c.1 with
    | nil => rw [e] at cl; simp at cl; omega
    | cons y ys => exact ⟨y, rfl⟩
  rw [t1]
  have r2 : (List.replicate (Int.toNat 2) (List.map natD [y])).flatten = [natD y, natD y] := rfl
  have rn : (List.replicate n [PyData.bool true]).flatten.length = n := by simp
  refine ⟨by simp, by simp, by rw [r2]; simp only [List.length_cons, List.length_nil, List.length_map]; omega, by omega, by omega, by decide, by rw [cdrop 1 (by decide), List.length_map]; omega, ?_⟩
  rw [r2, cdrop 1 (by decide)]
  have fin : ∀ ds : List PyData, ds.length ≤ n + 1 → (∀ k, k = n ∨ k = ds.length → chgB k (.tuple ds) = false) → Q (.tuple ds) := fun ds h1 h2 => hQ _ (h2 _ (.inl rfl)) (h2 _ (.inr rfl)) (show ds.length ≤ 4096 by omega) h1
  have two : ∀ (l1 l2 : List PyData) (x : PyData), x ∈ l1 → x ∈ l2 → ¬ (l1 ++ l2).Nodup := fun l1 l2 x h1 h2 nd => (List.nodup_append.mp nd).2.2 x h1 x h2 rfl
  refine ⟨_, _, _, rfl, .inl rfl, .inl rfl, by simp, by simp, fun x hx => ?_⟩
  simp only [List.mem_cons, List.not_mem_nil, or_false] at hx
  rcases hx with rfl | rfl | rfl | rfl | rfl | rfl | rfl | rfl | rfl | rfl | rfl | rfl | rfl
  · exact hQ _ rfl rfl (show (c.1.map natD).length ≤ 4096 by omega) (Nat.zero_le _)
  · exact fin _ (by simp; omega) fun k _ => bad_dup (two _ _ (natD 0) (List.mem_map.mpr ⟨0, zc, rfl⟩) (by simp [natD]))
  · exact fin _ (by simp only [List.length_append, List.length_map, List.length_cons, List.length_nil]; omega) fun k _ => bad_dup (two _ _ (natD y) (by simp) (by simp))
  · exact hQ _ rfl rfl trivial (Nat.zero_le _)
  · exact fin [] (by simp) fun k hk => by
      show (decide (0 = k) && _ && _ && _) = false
      rcases hk with rfl | rfl
      · rw [decide_eq_false (by omega), Bool.false_and, Bool.false_and, Bool.false_and]
      · show (_ && _ && _ && decide ((0 : Nat) ≠ 0)) = false
        rw [show decide ((0 : Nat) ≠ 0) = false from rfl, Bool.and_false]
  · exact hQ _ rfl rfl trivial (Nat.zero_le _)
  · exact hQ _ rfl rfl trivial (Nat.zero_le _)
  · exact fin _ (by simp only [List.length_map, List.length_cons]; omega) fun k _ => bad_mem (x := .int (-1)) (by simp) fun s _ e => by
      have e : (-1 : Int) = (s : Int) := by injection e
      omega
  · exact fin _ (by simp only [List.length_map, List.length_cons]; omega) fun k hk => bad_mem (x := .int (n : Int)) (by simp) fun s hs e => by
      have e : (n : Int) = (s : Int) := by injection e
      simp only [List.length_map, List.length_cons] at hk
      omega
  · exact fin _ (by simp only [List.length_map]; omega) fun k _ => bad_mem (x := .bool false) (List.mem_map.mpr ⟨0, zc, rfl⟩) fun s _ e => by cases e
  · exact fin _ (by simp only [List.length_append, List.length_map, List.length_cons, List.length_nil]; omega) fun k _ => bad_dup (by simp)
  · exact fin _ (by omega) fun k _ => bad_mem (x := .bool true) (List.mem_flatten.mpr ⟨[.bool true], List.mem_replicate.mpr ⟨by omega, rfl⟩, by simp⟩) fun s _ e => by cases e
  · exact fin _ (by simp only [List.length_map, List.length_cons]; omega) fun k _ => bad_mem (x := .none) (by simp) fun s _ e => by cases e

theorem cal__law_bad (hgK : gg.K = K) (D : Def K mg "_law_bad" s__law_bad)
    (C__law_of : Cal P w K mg base gg 2 "_law_of" s__law_of ["_law_deal", "_law_some"] S__law_of) (z_tuple : mg "tuple" = none) (z_list : mg "list" = none) (z_len : mg "len" = none) : Cal P w K mg base gg 3 "_law_bad" s__law_bad ["_law_deal", "_law_change"] S__law_bad :=
  cal_of hgK D sc__law_bad mo__law_bad (fun _ _ _ h => by obtain ⟨_, _, rfl, _⟩ := h; rfl) (fun _ _ _ _ _ _ us hl => match us, hl with | [_, _], _ => rfl) (body__law_bad C__law_of z_tuple z_list z_len)
abbrev s__law_wrong_right : Stmt := topS 35
theorem sc__law_wrong_right : FnScope ["_law_one", "_law_bad_here", "_law_wide", "_law_told", "_law_many"] ["_law_one", "_law_bad_here", "_law_wide"] (defScope s__law_wrong_right) := ⟨rfl, rfl, rfl, by decide +kernel, rfl, by decide +kernel, by decide +kernel⟩
def S__law_wrong_right : SpD := fun args Q E => ∃ (n : Nat) (c : Pm n) (v : PyData) (w : PyData), args = [.v (chD c), .v v, .v w] ∧ (0 < n) ∧ (n ≤ 12) ∧ (smallC v) ∧ (smallC w) ∧ (sizeD v ≤ 60) ∧ (chgB n v = false) ∧ (chgB (sizeD v) v = false) ∧ (okC (chD c) w = false) ∧ (okC w (chD c) = false) ∧ Q (.bool true)
theorem mo__law_wrong_right : MoS S__law_wrong_right := fun _ _ _ _ _ m m' ⟨n, c, v, w, h0, h1, h2, h3, h4, h5, h6, h7, h8, h9, q⟩ => ⟨n, c, v, w, h0, h1, h2, h3, h4, h5, h6, h7, h8, h9, m _ q⟩
abbrev lq__law_wrong_right : Str := (envOfC "_law_wrong_right" (defScope s__law_wrong_right) 0 0 .none).qual ++ "<lambda>"
theorem body__law_wrong_right
    (CL__law_refused : CalL P w K mg base gg 0 "_law_refused" s__law_refused ["_law_work", "wrong"] "_law_work" (S__law_refused C_InvalidChange))
    (C_checked_change : Cal P w K mg base gg 4 "checked_change" s_checked_change ["states", "value"] (S_checked_change C_InvalidChange))
    (C_split_loop : Cal P w K mg base gg 6 "split_loop" s_split_loop ["one", "other", "count"] (S_split_loop C_InvalidChange))
    (C_loop : Cal P w K mg base gg 6 "loop" s_loop ["one", "other", "count"] (S_loop C_InvalidChange))
    (C_change_places : Cal P w K mg base gg 5 "change_places" s_change_places ["one", "other"] (S_change_places C_InvalidChange))
    (C_followed : Cal P w K mg base gg 5 "followed" s_followed ["one", "other"] (S_followed C_InvalidChange))
    (C_order : Cal P w K mg base gg 5 "order" s_order ["change"] (S_order C_InvalidChange))
    (C_power : Cal P w K mg base gg 5 "power" s_power ["change", "count"] (S_power C_InvalidChange))
    (C_back : Cal P w K mg base gg 5 "back" s_back ["change"] (S_back C_InvalidChange)) (z_len : mg "len" = none) {cc PT : Addr} (TB : LamX.TabB base mg cc PT) (hmT : (PT, lq__law_wrong_right) ∈ gg.T) (hu : ∀ p ∈ gg.T, p.1 = PT → p.2 = lq__law_wrong_right) : BodyC P w K mg base gg 8 "_law_wrong_right" s__law_wrong_right ["_law_one", "_law_bad_here", "_law_wide", "_law_told", "_law_many"] ["_law_one", "_law_bad_here", "_law_wide"] cc S__law_wrong_right := by
  intro f cdv hcd A outer s H E G xe hgi hG hxd hfx hx hgd hr po
  have hK : (cxOf (L2.CX P w) P w K mg base ["_law_one", "_law_bad_here", "_law_wide", "_law_told", "_law_many"] "_law_wrong_right" (defScope s__law_wrong_right) f cdv A outer s H E).K = G.K := hG.symm
  refine ⟨_, (dss_cons (ds_set (i := 4) sc__law_wrong_right.nd rfl (by first | exact Or.inl rfl | exact Or.inr rfl) (de_len z_len (dab_cons (bv 0) dab_nil)))
    (dss_cons (ds_setO (i := 3) sc__law_wrong_right.nd rfl (by first | exact Or.inl rfl | exact Or.inr rfl) (df_lst (da_cons (de_lam CL__law_refused hx hgd hr (by decide) TB hcd hmT hu (LamX.lamS_by (sc := defScope s__law_wrong_right) (by decide +kernel)) (fun f c' A outer s H E Gl Ed hgi hK hxd hfx hx hgd hr => by refine DE.cast ?_ (de_cal C_back hx hgd hr (by decide) (dg_val (dv 1) dg_nil)); first | rw [hxd] | rfl)) da_nil)))
    (dss_cons (ds_app (pv 3) (de_lam CL__law_refused hx hgd hr (by decide) TB hcd hmT hu (LamX.lamS_by (sc := defScope s__law_wrong_right) (by decide +kernel)) (fun f c' A outer s H E Gl Ed hgi hK hxd hfx hx hgd hr => by refine DE.cast ?_ (de_cal C_power hx hgd hr (by decide) (dg_val (dv 1) (dg_val de_int dg_nil))); first | rw [hxd] | rfl)))
    (dss_cons (ds_app (pv 3) (de_lam CL__law_refused hx hgd hr (by decide) TB hcd hmT hu (LamX.lamS_by (sc := defScope s__law_wrong_right) (by decide +kernel)) (fun f c' A outer s H E Gl Ed hgi hK hxd hfx hx hgd hr => by refine DE.cast ?_ (de_cal C_order hx hgd hr (by decide) (dg_val (dv 1) dg_nil)); first | rw [hxd] | rfl)))
    (dss_cons (ds_app (pv 3) (de_lam CL__law_refused hx hgd hr (by decide) TB hcd hmT hu (LamX.lamS_by (sc := defScope s__law_wrong_right) (by decide +kernel)) (fun f c' A outer s H E Gl Ed hgi hK hxd hfx hx hgd hr => by refine DE.cast ?_ (de_cal C_checked_change hx hgd hr (by decide) (dg_val (dv 4) (dg_val (dv 1) dg_nil))); first | rw [hxd] | rfl)))
    (dss_cons (ds_app (pv 3) (de_lam CL__law_refused hx hgd hr (by decide) TB hcd hmT hu (LamX.lamS_by (sc := defScope s__law_wrong_right) (by decide +kernel)) (fun f c' A outer s H E Gl Ed hgi hK hxd hfx hx hgd hr => by refine DE.cast ?_ (de_cal C_followed hx hgd hr (by decide) (dg_val (dv 0) (dg_val (dv 1) dg_nil))); first | rw [hxd] | rfl)))
    (dss_cons (ds_app (pv 3) (de_lam CL__law_refused hx hgd hr (by decide) TB hcd hmT hu (LamX.lamS_by (sc := defScope s__law_wrong_right) (by decide +kernel)) (fun f c' A outer s H E Gl Ed hgi hK hxd hfx hx hgd hr => by refine DE.cast ?_ (de_cal C_followed hx hgd hr (by decide) (dg_val (dv 1) (dg_val (dv 0) dg_nil))); first | rw [hxd] | rfl)))
    (dss_cons (ds_app (pv 3) (de_lam CL__law_refused hx hgd hr (by decide) TB hcd hmT hu (LamX.lamS_by (sc := defScope s__law_wrong_right) (by decide +kernel)) (fun f c' A outer s H E Gl Ed hgi hK hxd hfx hx hgd hr => by refine DE.cast ?_ (de_cal C_change_places hx hgd hr (by decide) (dg_val (dv 0) (dg_val (dv 2) dg_nil))); first | rw [hxd] | rfl)))
    (dss_cons (ds_app (pv 3) (de_lam CL__law_refused hx hgd hr (by decide) TB hcd hmT hu (LamX.lamS_by (sc := defScope s__law_wrong_right) (by decide +kernel)) (fun f c' A outer s H E Gl Ed hgi hK hxd hfx hx hgd hr => by refine DE.cast ?_ (de_cal C_loop hx hgd hr (by decide) (dg_val (dv 0) (dg_val (dv 2) (dg_val de_int dg_nil)))); first | rw [hxd] | rfl)))
    (dss_cons (ds_app (pv 3) (de_lam CL__law_refused hx hgd hr (by decide) TB hcd hmT hu (LamX.lamS_by (sc := defScope s__law_wrong_right) (by decide +kernel)) (fun f c' A outer s H E Gl Ed hgi hK hxd hfx hx hgd hr => by refine DE.cast ?_ (de_cal C_split_loop hx hgd hr (by decide) (dg_val (dv 2) (dg_val (dv 0) (dg_val de_int dg_nil)))); first | rw [hxd] | rfl)))
    (dss_cons (ds_app (pv 3) (de_lam CL__law_refused hx hgd hr (by decide) TB hcd hmT hu (LamX.lamS_by (sc := defScope s__law_wrong_right) (by decide +kernel)) (fun f c' A outer s H E Gl Ed hgi hK hxd hfx hx hgd hr => by refine DE.cast ?_ (de_cal C_checked_change hx hgd hr (by decide) (dg_val (de_addU (bv 4) (de_int).b) (dg_val (dv 0) dg_nil))); first | rw [hxd] | rfl)))
    (dss_one (ds_ret (de_eq hr (bv 3) (de_mulU ((df_lst (da_cons de_int da_nil))).de.b (de_int).b).b)))))))))))))), ?_⟩
  try simp only [hxd]
  clear hcd hK po hr hgd hx hfx hG hgi hxd TB hmT hu
  rintro args Q ⟨n, c, v, w, rfl, h0, hn, hv, hw, hz, b1, b2, b3, b4, hQ⟩
  have sl : sizeLine = 16777216 := sizeLine_eq
  have el : (c.1.map natD).length = n := by rw [List.length_map]; exact c.2.len
  have hlen : ∀ (Kq : Int → Prop) t, Kq (n : Int) → onLen (chD c) Kq t := fun Kq t h => by unfold chD natsL; rw [onLen_t, el]; exact h
  have hc : smallC (chD c) := by
    show (c.1.map natD).length ≤ 4096
    omega
  have no1 : ∀ (n' : Nat) (c' : Pm n'), 0 < n' → v = chD c' → False := fun n' c' h e => by
    rw [e, size_ch, chg_ch h] at b2; cases b2
  have o1 : okC (chD c) v = false := by unfold okC; rw [size_ch, b1, Bool.and_false]
  have o2 : okC v (chD c) = false := by unfold okC; rw [b2, Bool.false_and]
  have no3 : ∀ (n' : Nat) (a b : Pm n'), 0 < n' → chD c = chD a → v = chD b → False := fun n' a b h e1 e2 => by
    rw [e1, e2, okC_ch h] at o1; cases o1
  have no4 : ∀ (n' : Nat) (a b : Pm n'), 0 < n' → v = chD a → chD c = chD b → False := fun n' a b h e1 e2 => by
    rw [e1, e2, okC_ch h] at o2; cases o2
  have no5 : ∀ (n' : Nat) (a b : Pm n'), 0 < n' → chD c = chD a → w = chD b → False := fun n' a b h e1 e2 => by
    rw [e1, e2, okC_ch h] at b3; cases b3
  have no6 : ∀ (n' : Nat) (a b : Pm n'), 0 < n' → w = chD a → chD c = chD b → False := fun n' a b h e1 e2 => by
    rw [e1, e2, okC_ch h] at b4; cases b4
  have refOk : ∀ {wl : WL} {ρ : En} {Q : PyData → Prop} {E : Addr → PyData → Prop}, wl (fun C' d => C' = C_InvalidChange ∧ Q d) ρ (fun _ => Q .none) → S__law_refused C_InvalidChange (up wl ρ) Q E := fun {wl ρ Q E} h => ⟨_, _, fun _ z => z, fun _ _ z => z, h⟩
  walk_at "d"
  refine hlen _ _ ?_
  walk_at "d"
  first | refine refOk ?_ | refine ⟨by omega, refOk ?_⟩
  walk_at "d"
  refine ⟨v, rfl, hv, fun n' c' h e => (no1 n' c' h e).elim, fun _ => ⟨rfl, ?_⟩⟩
  walk_at "d"
  first | refine refOk ?_ | refine ⟨by omega, refOk ?_⟩
  walk_at "d"
  refine ⟨v, 2, rfl, hv, by decide, fun n' c' h e => (no1 n' c' h e).elim, fun _ => ⟨rfl, ?_⟩⟩
  walk_at "d"
  first | refine refOk ?_ | refine ⟨by omega, refOk ?_⟩
  walk_at "d"
  refine ⟨v, rfl, hv, hz, fun n' c' h e => (no1 n' c' h e).elim, fun _ => ⟨rfl, ?_⟩⟩
  walk_at "d"
  first | refine refOk ?_ | refine ⟨by omega, refOk ?_⟩
  walk_at "d"
  refine ⟨n, v, rfl, hv, fun c' h e => (no1 n c' h e).elim, fun _ => ⟨rfl, ?_⟩⟩
  walk_at "d"
  first | refine refOk ?_ | refine ⟨by omega, refOk ?_⟩
  walk_at "d"
  refine ⟨chD c, v, rfl, hc, hv, fun n' a b h e1 e2 => (no3 n' a b h e1 e2).elim, fun _ => ⟨rfl, ?_⟩⟩
  walk_at "d"
  first | refine refOk ?_ | refine ⟨by omega, refOk ?_⟩
  walk_at "d"
  refine ⟨v, chD c, rfl, hv, hc, fun n' a b h e1 e2 => (no4 n' a b h e1 e2).elim, fun _ => ⟨rfl, ?_⟩⟩
  walk_at "d"
  first | refine refOk ?_ | refine ⟨by omega, refOk ?_⟩
  walk_at "d"
  refine ⟨chD c, w, rfl, hc, hw, fun n' a b h e1 e2 => (no5 n' a b h e1 e2).elim, fun _ => ⟨rfl, ?_⟩⟩
  walk_at "d"
  first | refine refOk ?_ | refine ⟨by omega, refOk ?_⟩
  walk_at "d"
  refine ⟨chD c, w, 1, rfl, hc, hw, by decide, fun n' a b h e1 e2 => (no5 n' a b h e1 e2).elim, fun _ => ⟨rfl, ?_⟩⟩
  walk_at "d"
  first | refine refOk ?_ | refine ⟨by omega, refOk ?_⟩
  walk_at "d"
  refine ⟨w, chD c, 0, rfl, hw, hc, by decide, fun n' a b h e1 e2 => (no6 n' a b h e1 e2).elim, fun _ => ⟨rfl, ?_⟩⟩
  walk_at "d"
  refine ⟨by omega, refOk ?_⟩
  have b5 : chgB (n + 1) (chD c) = false := by
    show (decide ((c.1.map natD).length = n + 1) && _ && _ && _) = false
    rw [decide_eq_false (by omega), Bool.false_and, Bool.false_and, Bool.false_and]
  walk_at "d"
  rw [show (n : Int) + 1 = ((n + 1 : Nat) : Int) by omega]
  refine ⟨n + 1, chD c, rfl, hc, fun c' h e => ?_, fun _ => ⟨rfl, ?_⟩⟩
  · rw [e, chg_ch h] at b5; cases b5
  walk_at "d"
  refine ⟨by omega, by decide, by decide, by rw [sl]; decide, shaped_ints [0, 0, 0, 0, 0, 0, 0, 0, 0, 0], shaped_ints [0, 0, 0, 0, 0, 0, 0, 0, 0, 0], ?_⟩
  rw [show PyData.eqv (.list [.int 0, .int 0, .int 0, .int 0, .int 0, .int 0, .int 0, .int 0, .int 0, .int 0]) (.list (List.replicate (Int.toNat 10) [PyData.int 0]).flatten) = true from (eqv_ints [0, 0, 0, 0, 0, 0, 0, 0, 0, 0] [0, 0, 0, 0, 0, 0, 0, 0, 0, 0]).trans (by decide)]
  exact hQ

theorem cal__law_wrong_right (hgK : gg.K = K)
    (CL__law_refused : CalL P w K mg base gg 0 "_law_refused" s__law_refused ["_law_work", "wrong"] "_law_work" (S__law_refused C_InvalidChange))
    (C_checked_change : Cal P w K mg base gg 4 "checked_change" s_checked_change ["states", "value"] (S_checked_change C_InvalidChange))
    (C_split_loop : Cal P w K mg base gg 6 "split_loop" s_split_loop ["one", "other", "count"] (S_split_loop C_InvalidChange))
    (C_loop : Cal P w K mg base gg 6 "loop" s_loop ["one", "other", "count"] (S_loop C_InvalidChange))
    (C_change_places : Cal P w K mg base gg 5 "change_places" s_change_places ["one", "other"] (S_change_places C_InvalidChange))
    (C_followed : Cal P w K mg base gg 5 "followed" s_followed ["one", "other"] (S_followed C_InvalidChange))
    (C_order : Cal P w K mg base gg 5 "order" s_order ["change"] (S_order C_InvalidChange))
    (C_power : Cal P w K mg base gg 5 "power" s_power ["change", "count"] (S_power C_InvalidChange))
    (C_back : Cal P w K mg base gg 5 "back" s_back ["change"] (S_back C_InvalidChange)) (z_len : mg "len" = none) {cc PT : Addr} (TB : LamX.TabB base mg cc PT) (hmT : (PT, lq__law_wrong_right) ∈ gg.T) (hu : ∀ p ∈ gg.T, p.1 = PT → p.2 = lq__law_wrong_right) (D : DefC K mg "_law_wrong_right" s__law_wrong_right cc) : Cal P w K mg base gg 9 "_law_wrong_right" s__law_wrong_right ["_law_one", "_law_bad_here", "_law_wide"] S__law_wrong_right :=
  cal_ofC hgK D sc__law_wrong_right mo__law_wrong_right (fun _ _ _ h => by obtain ⟨_, _, _, _, rfl, _⟩ := h; rfl) (fun _ _ _ _ _ _ us hl => match us, hl with | [_, _, _], _ => rfl) (body__law_wrong_right CL__law_refused C_checked_change C_split_loop C_loop C_change_places C_followed C_order C_power C_back z_len TB hmT hu)

abbrev s_law : Stmt := topS 36
theorem sc_law : FnScope ["_law_script", "_law_deal", "_law_many", "_law_one", "_law_other", "_law_idle", "_law_n", "_law_k", "_law_step", "_law_turns", "_law_short", "_law_done", "_law_turn"] ["_law_script"] (defScope s_law) := ⟨rfl, rfl, rfl, by decide +kernel, rfl, by decide +kernel, by decide +kernel⟩
theorem fn_law {gs : GInv} (hgs : gs.K = K) (hgg : gg.K = K) (cv : Conv gs gg) {f : Addr} {fd : FuncData} (F : Fun K "law" "law" s_law f fd)
    (C__law_draw : Cal P w K mg base gs 1 "_law_draw" s__law_draw ["_law_script", "_law_salt"] S__law_draw)
    (C__law_wrong_right : Cal P w K mg base gg 9 "_law_wrong_right" s__law_wrong_right ["_law_one", "_law_bad_here", "_law_wide"] S__law_wrong_right)
    (C__law_bad : Cal P w K mg base gg 3 "_law_bad" s__law_bad ["_law_deal", "_law_change"] S__law_bad)
    (C_split_loop : Cal P w K mg base gg 6 "split_loop" s_split_loop ["one", "other", "count"] (S_split_loop C_InvalidChange))
    (C__law_then : Cal P w K mg base gg 1 "_law_then" s__law_then ["_law_one", "_law_other"] S__law_then)
    (C__law_power : Cal P w K mg base gg 2 "_law_power" s__law_power ["_law_one", "_law_count_here"] S__law_power)
    (C_loop : Cal P w K mg base gg 6 "loop" s_loop ["one", "other", "count"] (S_loop C_InvalidChange))
    (C_change_places : Cal P w K mg base gg 5 "change_places" s_change_places ["one", "other"] (S_change_places C_InvalidChange))
    (C_power : Cal P w K mg base gg 5 "power" s_power ["change", "count"] (S_power C_InvalidChange))
    (C_followed : Cal P w K mg base gg 5 "followed" s_followed ["one", "other"] (S_followed C_InvalidChange))
    (C__law_back : Cal P w K mg base gg 1 "_law_back" s__law_back ["_law_one"] S__law_back)
    (C__law_any : Cal P w K mg base gg 1 "_law_any" s__law_any ["_law_deal", "_law_bound"] S_any)
    (C_order : Cal P w K mg base gg 5 "order" s_order ["change"] (S_order C_InvalidChange))
    (C_back : Cal P w K mg base gg 5 "back" s_back ["change"] (S_back C_InvalidChange))
    (C_checked_change : Cal P w K mg base gg 4 "checked_change" s_checked_change ["states", "value"] (S_checked_change C_InvalidChange))
    (C__law_count : Cal P w K mg base gg 3 "_law_count" s__law_count ["_law_deal"] S__law_count)
    (C__law_mixed : Cal P w K mg base gg 2 "_law_mixed" s__law_mixed ["_law_deal", "_law_some"] S__law_mixed) (z_repr : mg "repr" = none) (z_int : mg "int" = none) (z_range : mg "range" = none) (z_tuple : mg "tuple" = none) (z_list : mg "list" = none) : FnG P w K mg base 10 f fd ["_law_script"] (spLaw K (fun H => gs.I (fun _ => False) H) 63) := by
  refine fnG_of F sc_law (fun vs H Q E ⟨a, ns, e, _⟩ => by rw [e]; rfl) fun cdv A outer s H vs Q E hgd hr hsp => ?_
  obtain ⟨a, ns, rfl, hlen, hS, hI, hQ⟩ := hsp
  have po : PassesOwn (model P w) (A.deeper (envOfC "law" (defScope s_law) s.heap.objs.size f cdv)) (envOfC "law" (defScope s_law) s.heap.objs.size f cdv) (cxOf (L2.CX P w) P w K mg base ["_law_script", "_law_deal", "_law_many", "_law_one", "_law_other", "_law_idle", "_law_n", "_law_k", "_law_step", "_law_turns", "_law_short", "_law_done", "_law_turn"] "law" (defScope s_law) f cdv A outer s H E).xe := passes_of rfl
  refine law_all (gs := gs) (gg := gg) (X := (cxOf (L2.CX P w) P w K mg base ["_law_script", "_law_deal", "_law_many", "_law_one", "_law_other", "_law_idle", "_law_n", "_law_k", "_law_step", "_law_turns", "_law_short", "_law_done", "_law_turn"] "law" (defScope s_law) f cdv A outer s H E)) (i := 1) hgs hgg cv sc_law.nd rfl (by first | exact Or.inl rfl | exact Or.inr rfl) (by first | exact Or.inl rfl | exact Or.inr rfl) rfl hS hI hQ (by decide) (de_cal C__law_draw (xw_no rfl hgs.symm rfl) hgd hr (by decide) (dg_scr (pv 0) (dg_val de_int dg_nil))) (fun G hgi hG hxd hfx hx => have hK : (cxOf (L2.CX P w) P w K mg base ["_law_script", "_law_deal", "_law_many", "_law_one", "_law_other", "_law_idle", "_law_n", "_law_k", "_law_step", "_law_turns", "_law_short", "_law_done", "_law_turn"] "law" (defScope s_law) f cdv A outer s H E).K = G.K := hG.symm; (dss_cons (ds_set (i := 2) sc_law.nd rfl (by first | exact Or.inl rfl | exact Or.inr rfl) (de_addU (de_int).b (de_cal C__law_any hx hgd hr (by decide) (dg_deal (pv 1) (dg_val de_int dg_nil))).b))
    (dss_cons (ds_par (i := 3) (j := 4) rfl sc_law.nd rfl rfl (by decide) rfl rfl (de_tuple z_tuple (dab_cons (de_cal C__law_mixed hx hgd hr (by decide) (dg_deal (pv 1) (dg_val ((df_listRg (dv 2) z_list z_range)).de dg_nil))).b dab_nil)) (de_tuple z_tuple (dab_cons (de_cal C__law_mixed hx hgd hr (by decide) (dg_deal (pv 1) (dg_val ((df_listRg (dv 2) z_list z_range)).de dg_nil))).b dab_nil)) rfl)
    (dss_cons (ds_par3 (i := 5) (j := 6) (l := 7) rfl sc_law.nd rfl rfl rfl (by decide) (by decide) (by decide) rfl rfl rfl (de_tuple z_tuple (dab_cons ((df_listRg (dv 2) z_list z_range)).de.b dab_nil)) (de_cal C__law_count hx hgd hr (by decide) (dg_deal (pv 1) dg_nil)) (de_cal C__law_count hx hgd hr (by decide) (dg_deal (pv 1) dg_nil)) rfl)
    (dss_cons (ds_if ((dw_or (dt_ne hr (de_repr hgd hr z_repr (dab_cons (de_calK (m := 2) [1, 0] C_checked_change hx hgd hr (by decide) (dk_val (dv 3) (dk_val (dv 2) dk_nil)) rfl (fun _ _ _ _ _ _ us hl => match us, hl with | [_, _], _ => rfl)).b dab_nil)).b (de_repr hgd hr z_repr (dab_cons (bv 3) dab_nil)).b) (dw_or1 (dt_ne hr (de_repr hgd hr z_repr (dab_cons (de_calK (m := 2) [1, 0] C_followed hx hgd hr (by decide) (dk_val (dv 4) (dk_val (dv 3) dk_nil)) rfl (fun _ _ _ _ _ _ us hl => match us, hl with | [_, _], _ => rfl)).b dab_nil)).b (de_repr hgd hr z_repr (dab_cons (de_cal C__law_then hx hgd hr (by decide) (dg_val (dv 3) (dg_val (dv 4) dg_nil))).b dab_nil)).b)))).dt (dss_one (ds_ret de_bl)) dss_nil)
    (dss_cons (ds_if ((dw_or (dt_ne hr (de_repr hgd hr z_repr (dab_cons (de_calK (m := 1) [0] C_back hx hgd hr (by decide) (dk_val (dv 3) dk_nil) rfl (fun _ _ _ _ _ _ us hl => match us, hl with | [_], _ => rfl)).b dab_nil)).b (de_repr hgd hr z_repr (dab_cons (de_cal C__law_back hx hgd hr (by decide) (dg_val (dv 3) dg_nil)).b dab_nil)).b) (dw_or1 (dt_ne hr (de_repr hgd hr z_repr (dab_cons (de_calK (m := 2) [1, 0] C_power hx hgd hr (by decide) (dk_val (dv 6) (dk_val (dv 3) dk_nil)) rfl (fun _ _ _ _ _ _ us hl => match us, hl with | [_, _], _ => rfl)).b dab_nil)).b (de_repr hgd hr z_repr (dab_cons (de_cal C__law_power hx hgd hr (by decide) (dg_val (dv 3) (dg_val (dv 6) dg_nil))).b dab_nil)).b)))).dt (dss_one (ds_ret de_bl)) dss_nil)
    (dss_cons (ds_par (i := 8) (j := 9) rfl sc_law.nd rfl rfl (by decide) rfl rfl (dv 3) de_int rfl)
    (dss_cons (ds_while po (dt_ne hr (bv 8) (bv 5)) (dss_one (ds_par (i := 8) (j := 9) rfl sc_law.nd rfl rfl (by decide) rfl rfl (de_cal C__law_then hx hgd hr (by decide) (dg_val (dv 8) (dg_val (dv 3) dg_nil))) (de_addU (bv 9) (de_int).b) rfl)))
    (dss_cons (ds_if ((dw_or (dt_ne hr (de_repr hgd hr z_repr (dab_cons (de_calK (m := 1) [0] C_order hx hgd hr (by decide) (dk_val (dv 3) dk_nil) rfl (fun _ _ _ _ _ _ us hl => match us, hl with | [_], _ => rfl)).b dab_nil)).b (de_repr hgd hr z_repr (dab_cons (bv 9) dab_nil)).b) (dw_or (dt_ne hr (de_cal C_power hx hgd hr (by decide) (dg_val (dv 3) (dg_val (de_addU (bv 6) (bv 9)) dg_nil))).b (de_cal C_power hx hgd hr (by decide) (dg_val (dv 3) (dg_val (dv 6) dg_nil))).b) (dw_or1 (dt_ne hr (de_cal C_power hx hgd hr (by decide) (dg_val (dv 3) (dg_val (de_mod (de_int1 z_int (dab_cons (bv 6) dab_nil)).b (bv 9)) dg_nil))).b (de_cal C_power hx hgd hr (by decide) (dg_val (dv 3) (dg_val (dv 6) dg_nil))).b))))).dt (dss_one (ds_ret de_bl)) dss_nil)
    (dss_cons (ds_par (i := 10) (j := 11) rfl sc_law.nd rfl rfl (by decide) rfl rfl (de_cal C__law_any hx hgd hr (by decide) (dg_deal (pv 1) (dg_val de_int dg_nil))) (dv 5) rfl)
    (dss_cons (ds_for po hfx rfl (di_r1 z_range (dv 10)) (tg_name (i := 12) sc_law.nd rfl (by first | exact Or.inl rfl | exact Or.inr rfl)) (dss_one (ds_set (i := 11) sc_law.nd rfl (by first | exact Or.inl rfl | exact Or.inr rfl) (de_cal C__law_then hx hgd hr (by decide) (dg_val (dv 11) (dg_val (dv 3) dg_nil))))))
    (dss_cons (ds_if ((dw_or (dt_ne hr (de_cal C_power hx hgd hr (by decide) (dg_val (dv 3) (dg_val (dv 10) dg_nil))).b (bv 11)) (dw_or1 (dt_ne hr (de_cal C_power hx hgd hr (by decide) (dg_val (dv 3) (dg_val (de_sub (de_int).b (bv 10)) dg_nil))).b (de_cal C__law_back hx hgd hr (by decide) (dg_val (dv 11) dg_nil)).b)))).dt (dss_one (ds_ret de_bl)) dss_nil)
    (dss_cons (ds_if ((dw_or (dt_ne hr (de_cal C_followed hx hgd hr (by decide) (dg_val (de_cal C_power hx hgd hr (by decide) (dg_val (dv 3) (dg_val (dv 6) dg_nil))) (dg_val (de_cal C_power hx hgd hr (by decide) (dg_val (dv 3) (dg_val (dv 7) dg_nil))) dg_nil))).b (de_cal C_power hx hgd hr (by decide) (dg_val (dv 3) (dg_val (de_addU (bv 6) (bv 7)) dg_nil))).b) (dw_or1 (dt_ne hr (de_cal C_power hx hgd hr (by decide) (dg_val (de_cal C_power hx hgd hr (by decide) (dg_val (dv 3) (dg_val (de_mod (de_int1 z_int (dab_cons (bv 6) dab_nil)).b (de_int).b) dg_nil))) (dg_val (de_mod (de_int1 z_int (dab_cons (bv 7) dab_nil)).b (de_int).b) dg_nil))).b (de_cal C_power hx hgd hr (by decide) (dg_val (dv 3) (dg_val (de_mulU (de_mod (de_int1 z_int (dab_cons (bv 6) dab_nil)).b (de_int).b).b (de_mod (de_int1 z_int (dab_cons (bv 7) dab_nil)).b (de_int).b).b) dg_nil))).b)))).dt (dss_one (ds_ret de_bl)) dss_nil)
    (dss_cons (ds_if ((dw_or (dt_ne hr (de_repr hgd hr z_repr (dab_cons (de_calK (m := 2) [1, 0] C_change_places hx hgd hr (by decide) (dk_val (dv 4) (dk_val (dv 3) dk_nil)) rfl (fun _ _ _ _ _ _ us hl => match us, hl with | [_, _], _ => rfl)).b dab_nil)).b (de_repr hgd hr z_repr (dab_cons (de_eq hr (de_cal C__law_then hx hgd hr (by decide) (dg_val (dv 3) (dg_val (dv 4) dg_nil))).b (de_cal C__law_then hx hgd hr (by decide) (dg_val (dv 4) (dg_val (dv 3) dg_nil))).b).b dab_nil)).b) (dw_or1 (dt_not (dt_val (de_cal C_change_places hx hgd hr (by decide) (dg_val (dv 3) (dg_val (de_cal C_power hx hgd hr (by decide) (dg_val (dv 3) (dg_val (dv 6) dg_nil))) dg_nil)))))))).dt (dss_one (ds_ret de_bl)) dss_nil)
    (dss_cons (ds_if (dt_ne hr (de_repr hgd hr z_repr (dab_cons (de_calK (m := 3) [2, 1, 0] C_loop hx hgd hr (by decide) (dk_val (dv 6) (dk_val (dv 4) (dk_val (dv 3) dk_nil))) rfl (fun _ _ _ _ _ _ us hl => match us, hl with | [_, _, _], _ => rfl)).b dab_nil)).b (de_repr hgd hr z_repr (dab_cons (de_cal C__law_power hx hgd hr (by decide) (dg_val (de_cal C__law_then hx hgd hr (by decide) (dg_val (dv 3) (dg_val (dv 4) dg_nil))) (dg_val (dv 6) dg_nil))).b dab_nil)).b) (dss_one (ds_ret de_bl)) dss_nil)
    (dss_cons (ds_if (dt_ne hr (de_repr hgd hr z_repr (dab_cons (de_calK (m := 3) [2, 1, 0] C_split_loop hx hgd hr (by decide) (dk_val (dv 6) (dk_val (dv 4) (dk_val (dv 3) dk_nil))) rfl (fun _ _ _ _ _ _ us hl => match us, hl with | [_, _, _], _ => rfl)).b dab_nil)).b (de_repr hgd hr z_repr (dab_cons (de_cal C__law_then hx hgd hr (by decide) (dg_val (de_cal C__law_power hx hgd hr (by decide) (dg_val (dv 3) (dg_val (dv 6) dg_nil))) (dg_val (de_cal C__law_power hx hgd hr (by decide) (dg_val (dv 4) (dg_val (dv 6) dg_nil))) dg_nil))).b dab_nil)).b) (dss_one (ds_ret de_bl)) dss_nil)
    (dss_one (ds_ret (de_cal C__law_wrong_right hx hgd hr (by decide) (dg_val (dv 3) (dg_val (de_cal C__law_bad hx hgd hr (by decide) (dg_deal (pv 1) (dg_val (dv 3) dg_nil))) (dg_val (de_addU (bv 3) (de_tup (da_cons (dv 2) da_nil)).b) dg_nil)))))))))))))))))))))) ?_
  clear po hgd hr hI cv hgg hgs
  refine ⟨(show 1 < 13 by decide), ?_⟩
  simp only [Dl.n_cx]
  walk_at "d"
  refine ⟨ns, 3, rfl, by decide, by decide, fun cs b c1 c2 b0 b1 => ⟨cs, b, rfl, c1, c2, b0, b1, fun G hxd => ?_⟩⟩
  simp only [hxd]
  have sl : sizeLine = 16777216 := sizeLine_eq
  have ap : ∀ (b : Int) (Q : PyData → Prop) (E : Addr → PyData → Prop), 0 < b → b.natAbs.log2 < 9000 → (∀ r : Int, 0 ≤ r → r < b → Q (.int r)) → callS S_any [.dl, .v (.int b)] Q E := fun b Q E b0 b1 h => ⟨b, rfl, b0, b1, h⟩
  walk_at "d"
  refine ap _ _ _ (by decide) (log_small (by decide)) fun r r0 r1 => ?_
  obtain ⟨n, hn, hn0, hn8⟩ : ∃ n : Nat, 1 + r = (n : Int) ∧ 0 < n ∧ n ≤ 8 := ⟨(1 + r).toNat, by omega, by omega, by omega⟩
  have hmx : ∀ (Q : PyData → Prop) (E : Addr → PyData → Prop), (∀ c : Pm n, Q (.list (c.1.map natD))) → callS S__law_mixed [SV.dl, SV.v (PyData.list (List.map (fun i : Nat => PyData.int (i : Int)) (List.range n)))] Q E := fun Q E h =>
    ⟨_, (List.range n).map natD, rfl, .inl rfl, fun x hx => (by obtain ⟨z, _, rfl⟩ := List.mem_map.mp hx; exact Sh.int _), by simp; omega, fun es hes => by obtain ⟨c, rfl⟩ := perm_nats hes; exact h c⟩
  have smc : ∀ c : Pm n, smallC (chD c) := fun c => by
    show (c.1.map natD).length ≤ 4096
    rw [List.length_map, c.2.len]; omega
  have inj : ∀ {n' : Nat} {a' : Pm n'} {c : Pm n}, chD c = chD a' → ∃ e : n' = n, e ▸ a' = c := fun {n' a' c} e => by
    have en : n' = n := by rw [← size_ch a', ← e, size_ch]
    subst en
    exact ⟨rfl, (chD_inj e).symm⟩
  have h200 : ∀ {z : Int}, z.natAbs < 2 ^ 200 → z.natAbs < 2 ^ 900 := fun {z} h => Nat.lt_trans h (Nat.pow_lt_pow_right (by decide) (by decide))
  have hpw : ∀ (c : Pm n) (z : Int) (Q : PyData → Prop) (E : Addr → PyData → Prop), z.natAbs < 2 ^ 900 → Q (chD (zpw c z)) → callS (S_power C_InvalidChange) [.v (chD c), .v (.int z)] Q E := fun c z Q E hz h =>
    ⟨_, z, rfl, smc c, hz, fun n' c' _ e => by
      obtain ⟨rfl, e1⟩ := inj e
      cases e1
      exact h, fun e => by rw [size_ch, chg_ch hn0] at e; cases e⟩
  have hbk : ∀ (c : Pm n) (Q : PyData → Prop) (E : Addr → PyData → Prop), Q (chD (Gp.inv c)) → callS (S_back C_InvalidChange) [.v (chD c)] Q E := fun c Q E h =>
    ⟨_, rfl, smc c, fun n' c' _ e => by
      obtain ⟨rfl, e1⟩ := inj e
      cases e1
      exact h, fun e => by rw [size_ch, chg_ch hn0] at e; cases e⟩
  have hor : ∀ (c : Pm n) (f : Nat), OrdD c f → ∀ (Q : PyData → Prop) (E : Addr → PyData → Prop), (f ≤ n ^ n → Q (.int (f : Int))) → callS (S_order C_InvalidChange) [.v (chD c)] Q E := fun c f O Q E h =>
    ⟨_, rfl, smc c, by rw [size_ch]; omega, fun n' c' _ e g Og hg => by
      obtain ⟨rfl, e1⟩ := inj e
      cases e1
      cases O.uniq Og
      exact h hg, fun e => by rw [size_ch, chg_ch hn0] at e; cases e⟩
  have hcp : ∀ (a b : Pm n) (Q : PyData → Prop) (E : Addr → PyData → Prop), Q (.bool (cmB a b)) → callS (S_change_places C_InvalidChange) [.v (chD a), .v (chD b)] Q E := fun a b Q E h =>
    ⟨_, _, rfl, smc a, smc b, fun n' a' b' _ e1 e2 => by
      obtain ⟨rfl, e1⟩ := inj e1
      obtain ⟨_, e2⟩ := inj e2
      cases e1
      cases e2
      exact h, fun e => by rw [okC_ch hn0] at e; cases e⟩
  have hlo : ∀ (a b : Pm n) (u : Int) (Q : PyData → Prop) (E : Addr → PyData → Prop), u.natAbs < 2 ^ 900 → Q (chD (zpw (a * b) u)) → callS (S_loop C_InvalidChange) [.v (chD a), .v (chD b), .v (.int u)] Q E := fun a b u Q E hu h =>
    ⟨_, _, u, rfl, smc a, smc b, hu, fun n' a' b' _ e1 e2 => by
      obtain ⟨rfl, e1⟩ := inj e1
      obtain ⟨_, e2⟩ := inj e2
      cases e1
      cases e2
      exact h, fun e => by rw [okC_ch hn0] at e; cases e⟩
  have hsp : ∀ (a b : Pm n) (u : Int) (Q : PyData → Prop) (E : Addr → PyData → Prop), u.natAbs < 2 ^ 900 → Q (chD (zpw a u * zpw b u)) → callS (S_split_loop C_InvalidChange) [.v (chD a), .v (chD b), .v (.int u)] Q E := fun a b u Q E hu h =>
    ⟨_, _, u, rfl, smc a, smc b, hu, fun n' a' b' _ e1 e2 => by
      obtain ⟨rfl, e1⟩ := inj e1
      obtain ⟨_, e2⟩ := inj e2
      cases e1
      cases e2
      exact h, fun e => by rw [okC_ch hn0] at e; cases e⟩
  have hlp : ∀ (c : Pm n) (z : Int) (Q : PyData → Prop) (E : Addr → PyData → Prop), z.natAbs < 2 ^ 900 → Q (chD (zpw c z)) → callS S__law_power [.v (chD c), .v (.int z)] Q E := fun c z Q E hz h => ⟨n, c, z, rfl, by omega, hz, h⟩
  have hth : ∀ (a b : Pm n) (Q : PyData → Prop) (E : Addr → PyData → Prop), Q (chD (a * b)) → callS S__law_then [.v (chD a), .v (chD b)] Q E := fun a b Q E h => ⟨n, a, b, rfl, by omega, h⟩
  have hfo : ∀ (a b : Pm n) (Q : PyData → Prop) (E : Addr → PyData → Prop), Q (chD (a * b)) → callS (S_followed C_InvalidChange) [.v (chD a), .v (chD b)] Q E := fun a b Q E h =>
    ⟨_, _, rfl, smc a, smc b, fun n' a' b' _ e1 e2 => by
      obtain ⟨rfl, e1⟩ := inj e1
      obtain ⟨_, e2⟩ := inj e2
      cases e1
      cases e2
      exact h, fun e => by rw [okC_ch hn0] at e; cases e⟩
  have htx : ∀ c : Pm n, Tx (8 * 1923 + 3) 1 (chD c) := fun c => by
    have e : chD c = .tuple ((c.1.map fun s : Nat => (s : Int)).map .int) := by unfold chD; rw [List.map_map]; rfl
    rw [e]
    refine Tx.ints (fun z hz => ?_) (by rw [List.length_map, c.2.len]; exact hn8)
    obtain ⟨s, hs, rfl⟩ := List.mem_map.mp hz
    have := c.2.lt s hs
    exact Nat.lt_trans (log_lt (k := 4) (by omega) (by decide)) (by decide)
  walk_at "d"
  rw [hn, Int.toNat_natCast]
  refine ⟨by omega, by omega, hmx _ _ fun x => ?_⟩
  walk_at "d"
  refine ⟨by omega, by omega, hmx _ _ fun y => ?_⟩
  walk_at "d"
  rw [show PyData.tuple (x.1.map natD) = chD x from rfl, show PyData.tuple (y.1.map natD) = chD y from rfl, show PyData.tuple ((List.range n).map fun i : Nat => PyData.int (i : Int)) = chD (Gp.one : Pm n) from rfl]
  refine ⟨by omega, by omega, ?_⟩
  refine ⟨rfl, fun z hz => ?_⟩
  walk_at "d"
  refine ⟨rfl, fun k hk => ?_⟩
  walk_at "d"
  refine ⟨n, chD x, rfl, smc x, fun _ _ _ => ?_, fun e => by rw [chg_ch hn0] at e; cases e⟩
  walk_at "d"
  refine ⟨(htx x).r, (htx x).r, (htx x).sh, (htx x).sh, ?_⟩
  rw [eqv_str, beq_self_eq_true]
  walk_at "d"
  refine hfo x y _ _ ?_
  walk_at "d"
  refine ⟨(htx _).r, hth x y _ _ ?_⟩
  walk_at "d"
  refine ⟨(htx _).r, (htx _).sh, (htx _).sh, ?_⟩
  rw [eqv_str, beq_self_eq_true]
  walk_at "d"
  refine hbk x _ _ ?_
  walk_at "d"
  refine ⟨(htx _).r, n, x, rfl, by omega, ?_⟩
  walk_at "d"
  refine ⟨(htx _).r, (htx _).sh, (htx _).sh, ?_⟩
  rw [eqv_str, beq_self_eq_true]
  walk_at "d"
  refine hpw x z _ _ (h200 hz) ?_
  walk_at "d"
  refine ⟨(htx _).r, hlp x z _ _ (h200 hz) ?_⟩
  walk_at "d"
  refine ⟨(htx _).r, (htx _).sh, (htx _).sh, ?_⟩
  rw [eqv_str, beq_self_eq_true]
  walk_at "d"
  obtain ⟨f, O⟩ := ordD_ex x
  have f0 := O.1
  refine ⟨fun m ρ => ∃ j : Nat, ρ = [some (.scr ns), some .dl, some (.v (.int (n : Int))), some (.v (chD x)), some (.v (chD y)), some (.v (chD (Gp.one : Pm n))), some (.v (.int z)), some (.v (.int k)), some (.v (chD (npw x j))), some (.v (.int (j : Int))), none, none, none] ∧ 0 < j ∧ j ≤ f ∧ m = f - j, ⟨_, 1, ?_, by decide, f0, rfl⟩, ?_⟩
  · rw [show npw x 1 = x from gone_mul]
    rfl
  rintro m ρ ⟨j, rfl, j0, jf, hm⟩
  walk_at "d"
  refine ⟨sh_ch _, sh_ch _, ?_⟩
  rw [eqv_ch]
  by_cases e : npw x j = Gp.one
  · have hj : j = f := Nat.le_antisymm jf (Nat.le_of_dvd j0 ((O.2 j).mp e))
    subst hj
    rw [decide_eq_true e]
    walk_at "d"
    refine hor x j O _ _ fun hnn => ?_
    have fb : j < 2 ^ 40 := Nat.lt_of_le_of_lt (Nat.le_trans hnn (Nat.le_trans (Nat.pow_le_pow_left hn8 n) (Nat.pow_le_pow_right (by decide) hn8))) (by decide)
    have htj : Tx (60 + 1) 0 (.int (j : Int)) := Tx.intS 60 0 (log_lt (k := 60) (by omega) (by decide))
    walk_at "d"
    refine ⟨htj.r, htj.r, htj.sh, htj.sh, ?_⟩
    rw [eqv_str, beq_self_eq_true]
    walk_at "d"
    have big : ∀ {u : Int}, u.natAbs < 2 ^ 210 → u.natAbs < 2 ^ 900 := fun {u} h => Nat.lt_trans h (Nat.pow_lt_pow_right (by decide) (by decide))
    have z1 : (z + (j : Int)).natAbs < 2 ^ 210 := by
      have h := Int.natAbs_add_le z (j : Int)
      rw [Int.natAbs_natCast] at h
      have : (2 : Nat) ^ 200 + 2 ^ 40 < 2 ^ 210 := by decide
      omega
    have m0 := Int.emod_nonneg z (show (j : Int) ≠ 0 by omega)
    have m1 := Int.emod_lt_of_pos z (show (0 : Int) < j by omega)
    have z2 : (z % (j : Int)).natAbs < 2 ^ 210 := by
      have : (2 : Nat) ^ 40 < 2 ^ 210 := by decide
      omega
    have one_j : ∀ u : Int, zpw x (u * (j : Int)) = Gp.one := fun u => O.z.mpr ⟨u, Int.mul_comm _ _⟩
    have p1 : zpw x (z + (j : Int)) = zpw x z := by
      have h := one_j 1
      rw [Int.one_mul] at h
      rw [zpw_add, h, gmul_one]
    have p2 : zpw x (z % (j : Int)) = zpw x z := by
      have h : z = z % (j : Int) + z / (j : Int) * (j : Int) := by rw [Int.mul_comm]; exact (Int.emod_add_mul_ediv z j).symm
      conv => rhs; rw [h]
      rw [zpw_add, one_j, gmul_one]
    have neq : ∀ c : Pm n, (!PyData.eqv (chD c) (chD c)) = false := fun c => by rw [eqv_ch, decide_eq_true rfl]; rfl
    refine hpw x _ _ _ (big z1) ?_
    rw [p1]
    walk_at "d"
    refine hpw x z _ _ (h200 hz) ?_
    walk_at "d"
    refine ⟨sh_ch _, sh_ch _, ?_⟩
    rw [eqv_ch, decide_eq_true rfl]
    walk_at "d"
    refine ⟨by omega, ?_⟩
    refine hpw x _ _ _ (big z2) ?_
    rw [p2]
    walk_at "d"
    refine hpw x z _ _ (h200 hz) ?_
    walk_at "d"
    refine ⟨sh_ch _, sh_ch _, ?_⟩
    rw [eqv_ch, decide_eq_true rfl]
    walk_at "d"
    refine ap _ _ _ (by decide) (log_small (by decide)) fun s s0 s1 => ?_
    obtain ⟨s', rfl⟩ : ∃ s' : Nat, s = (s' : Int) := ⟨s.toNat, by omega⟩
    walk_at "d"
    refine ⟨by omega, by omega, fun i ρ => ∃ a, ρ = [some (.scr ns), some .dl, some (.v (.int (n : Int))), some (.v (chD x)), some (.v (chD y)), some (.v (chD (Gp.one : Pm n))), some (.v (.int z)), some (.v (.int k)), some (.v (chD (npw x j))), some (.v (.int (j : Int))), some (.v (.int (s' : Int))), some (.v (chD (npw x i))), a], ⟨_, rfl⟩, ?_, ?_⟩
    · rintro i ρ ⟨a, rfl⟩ hi
      rw [List.getElem_map]
      walk_at "d"
      refine hth _ x _ _ ?_
      walk_at "d"
      exact ⟨rfl, _, rfl⟩
    rintro ρ ⟨a, rfl⟩
    rw [List.length_map, List.length_range]
    walk_at "d"
    have big2 : ∀ {u : Int}, u.natAbs < 2 ^ 20 → u.natAbs < 2 ^ 900 := fun {u} h => Nat.lt_trans h (Nat.pow_lt_pow_right (by decide) (by decide))
    refine hpw x _ _ _ (big2 (by omega)) ?_
    walk_at "d"
    refine ⟨sh_ch _, sh_ch _, ?_⟩
    rw [eqv_ch, show zpw x (s' : Int) = npw x s' from rfl, decide_eq_true rfl]
    walk_at "d"
    refine hpw x _ _ _ (big2 (by omega)) ?_
    walk_at "d"
    refine ⟨n, _, rfl, by omega, ?_⟩
    walk_at "d"
    refine ⟨sh_ch _, sh_ch _, ?_⟩
    rw [eqv_ch, show zpw x (0 - (s' : Int)) = Gp.inv (npw x s') by rw [Int.zero_sub, zpw_neg]; rfl, decide_eq_true rfl]
    walk_at "d"
    have z3 : (z + k).natAbs < 2 ^ 210 := by
      have h := Int.natAbs_add_le z k
      have : (2 : Nat) ^ 200 + 2 ^ 200 < 2 ^ 210 := by decide
      omega
    refine hpw x z _ _ (h200 hz) ?_
    walk_at "d"
    refine hpw x k _ _ (h200 hk) ?_
    walk_at "d"
    refine hfo _ _ _ _ ?_
    walk_at "d"
    refine hpw x _ _ _ (big z3) ?_
    walk_at "d"
    refine ⟨sh_ch _, sh_ch _, ?_⟩
    rw [eqv_ch, zpw_add, decide_eq_true rfl]
    walk_at "d"
    have q0 := Int.emod_nonneg z (show (1000 : Int) ≠ 0 by decide)
    have q1 := Int.emod_lt_of_pos z (show (0 : Int) < 1000 by decide)
    have q2 := Int.emod_nonneg k (show (1000 : Int) ≠ 0 by decide)
    have q3 := Int.emod_lt_of_pos k (show (0 : Int) < 1000 by decide)
    have q4 : (z % 1000 * (k % 1000)).natAbs < 2 ^ 20 := by
      rw [Int.natAbs_mul]
      have := Nat.mul_le_mul (show (z % 1000).natAbs ≤ 1000 by omega) (show (k % 1000).natAbs ≤ 1000 by omega)
      omega
    refine hpw x _ _ _ (big2 (by omega)) ?_
    walk_at "d"
    refine hpw _ _ _ _ (big2 (by omega)) ?_
    walk_at "d"
    refine ⟨cmul_of (n := 20) (k := 20) (by omega) (by omega), hpw x _ _ _ (big2 q4) ?_⟩
    walk_at "d"
    refine ⟨sh_ch _, sh_ch _, ?_⟩
    rw [eqv_ch, zpw_mul, decide_eq_true rfl]
    walk_at "d"
    have hbt : ∀ b : Bool, Tx 5 0 (.bool b) := fun b => Tx.bool b 0
    refine hcp x y _ _ ?_
    walk_at "d"
    refine ⟨(hbt _).r, hth x y _ _ ?_⟩
    walk_at "d"
    refine hth y x _ _ ?_
    walk_at "d"
    refine ⟨sh_ch _, sh_ch _, (hbt _).r, (hbt _).sh, (hbt _).sh, ?_⟩
    rw [eqv_ch, show decide (x * y = y * x) = cmB x y from rfl, eqv_str, beq_self_eq_true]
    walk_at "d"
    refine hpw x z _ _ (h200 hz) ?_
    walk_at "d"
    refine hcp _ _ _ _ ?_
    rw [show cmB x (zpw x z) = true from cmB_iff.mpr (by
      show x * zpw x z = zpw x z * x
      have h1 : zpw x (1 + z) = x * zpw x z := by rw [zpw_add, zpw_one]
      have h2 : zpw x (z + 1) = zpw x z * x := by rw [zpw_add, zpw_one]
      rw [← h1, ← h2, Int.add_comm])]
    walk_at "d"
    refine hlo x y z _ _ (h200 hz) ?_
    walk_at "d"
    refine ⟨(htx _).r, hth x y _ _ ?_⟩
    walk_at "d"
    refine hlp _ z _ _ (h200 hz) ?_
    walk_at "d"
    refine ⟨(htx _).r, (htx _).sh, (htx _).sh, ?_⟩
    rw [eqv_str, beq_self_eq_true]
    walk_at "d"
    refine hsp x y z _ _ (h200 hz) ?_
    walk_at "d"
    refine ⟨(htx _).r, hlp x z _ _ (h200 hz) ?_⟩
    walk_at "d"
    refine hlp y z _ _ (h200 hz) ?_
    walk_at "d"
    refine hth _ _ _ _ ?_
    walk_at "d"
    refine ⟨(htx _).r, (htx _).sh, (htx _).sh, ?_⟩
    rw [eqv_str, beq_self_eq_true]
    walk_at "d"
    have xl : x.1.length = n := x.2.len
    have wl : (x.1.map natD ++ [PyData.int (n : Int)]).length = n + 1 := by simp [xl]
    refine ⟨n, x, rfl, hn0, by omega, fun v b1 b2 sv szv => ?_⟩
    rw [show chD x = .tuple (x.1.map natD) from rfl]
    walk_at "d"
    refine ⟨by omega, ?_⟩
    refine ⟨n, x, v, .tuple (x.1.map natD ++ [.int (n : Int)]), rfl, hn0, by omega, sv, (by show (x.1.map natD ++ [PyData.int (n : Int)]).length ≤ 4096; omega), by omega, b1, b2, ?_, ?_, rfl⟩
    · unfold okC
      rw [size_ch]
      have : chgB n (.tuple (x.1.map natD ++ [.int (n : Int)])) = false := by
        show (decide ((x.1.map natD ++ [PyData.int (n : Int)]).length = n) && _ && _ && _) = false
        rw [decide_eq_false (by omega), Bool.false_and, Bool.false_and, Bool.false_and]
      rw [this, Bool.and_false]
    · unfold okC
      have : chgB (sizeD (.tuple (x.1.map natD ++ [.int (n : Int)]))) (chD x) = false := by
        show (decide ((x.1.map natD).length = (x.1.map natD ++ [PyData.int (n : Int)]).length) && _ && _ && _) = false
        rw [decide_eq_false (by rw [wl, List.length_map]; omega), Bool.false_and, Bool.false_and, Bool.false_and]
      rw [this, Bool.and_false]
  · rw [decide_eq_false e]
    have hj : j ≠ f := fun z => e ((O.2 j).mpr (z ▸ Nat.dvd_refl f))
    walk_at "d"
    refine hth _ x _ _ ?_
    walk_at "d"
    refine ⟨f - (j + 1), by omega, j + 1, ?_, ?_, by omega, by omega, rfl⟩
    · rfl
    · rfl

end
end K03
open PySem PySem.W PyProof.Rows
set_option maxHeartbeats 0 in
theorem PySem.Challenge.cw_batchnumbers_k03_powers_and_loops_holds : PySem.Challenge.rw_batchnumbers_k03_powers_and_loops.Holds := by
  w_on; o_law; k_head; (case hw => w_witness2)
  k_fill
  refine Dl.walk_ofGT (l := PySem.Challenge.rw_batchnumbers_k03_powers_and_loops) (n := 63) (k := 10) (x := "_law_script") rfl (by decide) rfl ⟨rfl, by decide, by decide⟩ (fun w h Y => PySem.W.km_in_of Y) ?F
  case F =>
    intro w mg fa h Y KX G hmg
    have hT8 := PySem.W.km_tabs_of Y
    have D__law_any : Dl.Def (L2.KOf KX) mg "_law_any" K03.s__law_any := by
      delta L2.KOf
      refine' Dl.def_mk KX G ?a ?l ?c ?k
      (case a => k_is); (case l => k_is); (case c => k_is); (case k => k_is)
    have D_is_integer : Dl.Def (L2.KOf KX) mg "is_integer" K03.s_is_integer := by
      delta L2.KOf
      refine' Dl.def_mk KX G ?a ?l ?c ?k
      (case a => k_is); (case l => k_is); (case c => k_is); (case k => k_is)
    have D_is_number : Dl.Def (L2.KOf KX) mg "is_number" K03.s_is_number := by
      delta L2.KOf
      refine' Dl.def_mk KX G ?a ?l ?c ?k
      (case a => k_is); (case l => k_is); (case c => k_is); (case k => k_is)
    have D_is_index : Dl.Def (L2.KOf KX) mg "is_index" K03.s_is_index := by
      delta L2.KOf
      refine' Dl.def_mk KX G ?a ?l ?c ?k
      (case a => k_is); (case l => k_is); (case c => k_is); (case k => k_is)
    have D_common_divisor : Dl.Def (L2.KOf KX) mg "common_divisor" K03.s_common_divisor := by
      delta L2.KOf
      refine' Dl.def_mk KX G ?a ?l ?c ?k
      (case a => k_is); (case l => k_is); (case c => k_is); (case k => k_is)
    have D_common_multiple : Dl.Def (L2.KOf KX) mg "common_multiple" K03.s_common_multiple := by
      delta L2.KOf
      refine' Dl.def_mk KX G ?a ?l ?c ?k
      (case a => k_is); (case l => k_is); (case c => k_is); (case k => k_is)
    have D_checked_change : Dl.Def (L2.KOf KX) mg "checked_change" K03.s_checked_change := by
      delta L2.KOf
      refine' Dl.def_mk KX G ?a ?l ?c ?k
      (case a => k_is); (case l => k_is); (case c => k_is); (case k => k_is)
    have D_idle : Dl.Def (L2.KOf KX) mg "idle" K03.s_idle := by
      delta L2.KOf
      refine' Dl.def_mk KX G ?a ?l ?c ?k
      (case a => k_is); (case l => k_is); (case c => k_is); (case k => k_is)
    have D_after : Dl.Def (L2.KOf KX) mg "after" K03.s_after := by
      delta L2.KOf
      refine' Dl.def_mk KX G ?a ?l ?c ?k
      (case a => k_is); (case l => k_is); (case c => k_is); (case k => k_is)
    have D_undone : Dl.Def (L2.KOf KX) mg "undone" K03.s_undone := by
      delta L2.KOf
      refine' Dl.def_mk KX G ?a ?l ?c ?k
      (case a => k_is); (case l => k_is); (case c => k_is); (case k => k_is)
    have D_raised : Dl.Def (L2.KOf KX) mg "raised" K03.s_raised := by
      delta L2.KOf
      refine' Dl.def_mk KX G ?a ?l ?c ?k
      (case a => k_is); (case l => k_is); (case c => k_is); (case k => k_is)
    have D_size_of : Dl.Def (L2.KOf KX) mg "size_of" K03.s_size_of := by
      delta L2.KOf
      refine' Dl.def_mk KX G ?a ?l ?c ?k
      (case a => k_is); (case l => k_is); (case c => k_is); (case k => k_is)
    have D_followed : Dl.Def (L2.KOf KX) mg "followed" K03.s_followed := by
      delta L2.KOf
      refine' Dl.def_mk KX G ?a ?l ?c ?k
      (case a => k_is); (case l => k_is); (case c => k_is); (case k => k_is)
    have D_back : Dl.Def (L2.KOf KX) mg "back" K03.s_back := by
      delta L2.KOf
      refine' Dl.def_mk KX G ?a ?l ?c ?k
      (case a => k_is); (case l => k_is); (case c => k_is); (case k => k_is)
    have D_power : Dl.Def (L2.KOf KX) mg "power" K03.s_power := by
      delta L2.KOf
      refine' Dl.def_mk KX G ?a ?l ?c ?k
      (case a => k_is); (case l => k_is); (case c => k_is); (case k => k_is)
    have D_order_of : Dl.Def (L2.KOf KX) mg "order_of" K03.s_order_of := by
      delta L2.KOf
      refine' Dl.def_mk KX G ?a ?l ?c ?k
      (case a => k_is); (case l => k_is); (case c => k_is); (case k => k_is)
    have D_order : Dl.Def (L2.KOf KX) mg "order" K03.s_order := by
      delta L2.KOf
      refine' Dl.def_mk KX G ?a ?l ?c ?k
      (case a => k_is); (case l => k_is); (case c => k_is); (case k => k_is)
    have D_change_places : Dl.Def (L2.KOf KX) mg "change_places" K03.s_change_places := by
      delta L2.KOf
      refine' Dl.def_mk KX G ?a ?l ?c ?k
      (case a => k_is); (case l => k_is); (case c => k_is); (case k => k_is)
    have D_loop : Dl.Def (L2.KOf KX) mg "loop" K03.s_loop := by
      delta L2.KOf
      refine' Dl.def_mk KX G ?a ?l ?c ?k
      (case a => k_is); (case l => k_is); (case c => k_is); (case k => k_is)
    have D_split_loop : Dl.Def (L2.KOf KX) mg "split_loop" K03.s_split_loop := by
      delta L2.KOf
      refine' Dl.def_mk KX G ?a ?l ?c ?k
      (case a => k_is); (case l => k_is); (case c => k_is); (case k => k_is)
    have D__law_draw : Dl.Def (L2.KOf KX) mg "_law_draw" K03.s__law_draw := by
      delta L2.KOf
      refine' Dl.def_mk KX G ?a ?l ?c ?k
      (case a => k_is); (case l => k_is); (case c => k_is); (case k => k_is)
    have D__law_of : Dl.Def (L2.KOf KX) mg "_law_of" K03.s__law_of := by
      delta L2.KOf
      refine' Dl.def_mk KX G ?a ?l ?c ?k
      (case a => k_is); (case l => k_is); (case c => k_is); (case k => k_is)
    have D__law_mixed : Dl.Def (L2.KOf KX) mg "_law_mixed" K03.s__law_mixed := by
      delta L2.KOf
      refine' Dl.def_mk KX G ?a ?l ?c ?k
      (case a => k_is); (case l => k_is); (case c => k_is); (case k => k_is)
    have D__law_then : Dl.Def (L2.KOf KX) mg "_law_then" K03.s__law_then := by
      delta L2.KOf
      refine' Dl.def_mk KX G ?a ?l ?c ?k
      (case a => k_is); (case l => k_is); (case c => k_is); (case k => k_is)
    have D__law_back : Dl.Def (L2.KOf KX) mg "_law_back" K03.s__law_back := by
      delta L2.KOf
      refine' Dl.def_mk KX G ?a ?l ?c ?k
      (case a => k_is); (case l => k_is); (case c => k_is); (case k => k_is)
    have D__law_power : Dl.Def (L2.KOf KX) mg "_law_power" K03.s__law_power := by
      delta L2.KOf
      refine' Dl.def_mk KX G ?a ?l ?c ?k
      (case a => k_is); (case l => k_is); (case c => k_is); (case k => k_is)
    have D__law_refused : Dl.Def (L2.KOf KX) mg "_law_refused" K03.s__law_refused := by
      delta L2.KOf
      refine' Dl.def_mk KX G ?a ?l ?c ?k
      (case a => k_is); (case l => k_is); (case c => k_is); (case k => k_is)
    have D__law_count : Dl.Def (L2.KOf KX) mg "_law_count" K03.s__law_count := by
      delta L2.KOf
      refine' Dl.def_mk KX G ?a ?l ?c ?k
      (case a => k_is); (case l => k_is); (case c => k_is); (case k => k_is)
    have D__law_bad : Dl.Def (L2.KOf KX) mg "_law_bad" K03.s__law_bad := by
      delta L2.KOf
      refine' Dl.def_mk KX G ?a ?l ?c ?k
      (case a => k_is); (case l => k_is); (case c => k_is); (case k => k_is)
    obtain ⟨cc, D__law_wrong_right, hC8⟩ : ∃ cc, Dl.DefC (L2.KOf KX) mg "_law_wrong_right" K03.s__law_wrong_right cc ∧ PySem.W.CodeHd h cc 243 := by
      delta L2.KOf
      refine' ⟨_, Dl.def_mkC KX G ?a ?l ?c ?k, ?h⟩
      (case a => k_is); (case l => k_is); (case c => k_is); (case k => k_is); (case h => exact PySem.W.codeHd_of_K KX (by kernel_rfl))
    have nT8 : (L2.KOf KX).lookup 243 = none := by
      delta L2.KOf
      kernel_rfl
    have D_law : Dl.Def (L2.KOf KX) mg "law" K03.s_law := by
      delta L2.KOf
      refine' Dl.def_mk KX G ?a ?l ?c ?k
      (case a => k_is); (case l => k_is); (case c => k_is); (case k => k_is)
    have z_abs : mg "abs" = none := by
      refine' PySem.W.mg_none_of KX G ?e
      (case e => k_is)
    have z_all : mg "all" = none := by
      refine' PySem.W.mg_none_of KX G ?e
      (case e => k_is)
    have z_bool : mg "bool" = none := by
      refine' PySem.W.mg_none_of KX G ?e
      (case e => k_is)
    have z_enumerate : mg "enumerate" = none := by
      refine' PySem.W.mg_none_of KX G ?e
      (case e => k_is)
    have z_int : mg "int" = none := by
      refine' PySem.W.mg_none_of KX G ?e
      (case e => k_is)
    have z_isinstance : mg "isinstance" = none := by
      refine' PySem.W.mg_none_of KX G ?e
      (case e => k_is)
    have z_len : mg "len" = none := by
      refine' PySem.W.mg_none_of KX G ?e
      (case e => k_is)
    have z_list : mg "list" = none := by
      refine' PySem.W.mg_none_of KX G ?e
      (case e => k_is)
    have z_range : mg "range" = none := by
      refine' PySem.W.mg_none_of KX G ?e
      (case e => k_is)
    have z_repr : mg "repr" = none := by
      refine' PySem.W.mg_none_of KX G ?e
      (case e => k_is)
    have z_sorted : mg "sorted" = none := by
      refine' PySem.W.mg_none_of KX G ?e
      (case e => k_is)
    have z_tuple : mg "tuple" = none := by
      refine' PySem.W.mg_none_of KX G ?e
      (case e => k_is)
    obtain ⟨C_InvalidChange, fI_InvalidChange, T_InvalidChange⟩ : ∃ C fI, PySem.ErX.ErrTxt PySem.Challenge.rw_batchnumbers_k03_powers_and_loops.prog (L2.KOf KX) mg "InvalidChange" "invalid change" C fI := by
      delta L2.KOf
      refine' ⟨_, _, Dl.err_mk KX G ?aC ?xL ?rv ?sa ?ga ?gg ?nb ?a1 ?t1 ?l1 ?c1 ?cd ?v2 ?fe ?ce ?ev ?kC ?eC ?tC ?hC ?iC ?sC ?mr ?su ?sb ?sp ?an ?tp⟩
      (case aC => k_is); (case xL => k_is); (case rv => first | rfl | decide +kernel | k_is); (case sa => k_is); (case ga => k_is); (case gg => k_is); (case nb => k_is); (case a1 => k_is); (case t1 => k_is); (case l1 => k_is); (case c1 => k_is); (case cd => k_is); (case v2 => first | rfl | k_is); (case fe => first | rfl | decide +kernel | k_is); (case ce => k_is); (case ev => exact ⟨_, fun _ => rfl⟩); (case kC => k_is); (case eC => k_is); (case tC => k_is); (case hC => k_is); (case iC => k_is); (case sC => first | rfl | k_is); (case mr => first | rfl | k_is); (case su => first | rfl | k_is); (case sb => first | rfl | k_is); (case sp => k_is); (case an => k_is); (case tp => first | rfl | decide +kernel)
    refine ⟨[(cc, 243)], fun H => (Dl.giT (L2.KOf KX) [(243, K03.lq__law_wrong_right)]).I (fun _ => False) H, fun p hp => ?_, fun p hp => ?_, fun p hp => ?_, fun H hO => Dl.onlyT hO ?_ ?_, ?_⟩
    · rw [List.mem_singleton.mp hp]; exact hT8 _ (List.mem_singleton.mpr rfl)
    · rw [List.mem_singleton.mp hp]; exact nT8
    · rw [List.mem_singleton.mp hp]; exact hC8
    · intro p hp; rw [List.mem_singleton.mp hp]; exact List.mem_singleton.mpr rfl
    · intro p hp; rw [List.mem_singleton.mp hp]; exact ⟨_, List.mem_singleton.mpr rfl⟩
    refine Dl.law_mkT D_law hmg (fun _ _ _ _ _ _ _ => rfl) fun base f fd ht hF => ?_
    have TB := ht (cc, 243) (List.mem_singleton.mpr rfl)
    have hmT : (243, K03.lq__law_wrong_right) ∈ (Dl.giT (L2.KOf KX) [(243, K03.lq__law_wrong_right)]).T := List.mem_singleton.mpr rfl
    have hu : ∀ p ∈ (Dl.giT (L2.KOf KX) [(243, K03.lq__law_wrong_right)]).T, p.1 = 243 → p.2 = K03.lq__law_wrong_right := fun p hp _ => by rw [List.mem_singleton.mp hp]
    have C__law_any := K03.cal__law_any (P := PySem.Challenge.rw_batchnumbers_k03_powers_and_loops.prog) (w := w) (base := base) (gg := Dl.giT (L2.KOf KX) [(243, K03.lq__law_wrong_right)]) D__law_any z_int
    have C_is_integer := K03.cal_is_integer (P := PySem.Challenge.rw_batchnumbers_k03_powers_and_loops.prog) (w := w) (base := base) (gg := Dl.giT (L2.KOf KX) [(243, K03.lq__law_wrong_right)]) rfl D_is_integer z_isinstance z_bool z_int
    have C_is_number := K03.cal_is_number (P := PySem.Challenge.rw_batchnumbers_k03_powers_and_loops.prog) (w := w) (base := base) (gg := Dl.giT (L2.KOf KX) [(243, K03.lq__law_wrong_right)]) rfl D_is_number C_is_integer
    have C_is_index := K03.cal_is_index (P := PySem.Challenge.rw_batchnumbers_k03_powers_and_loops.prog) (w := w) (base := base) (gg := Dl.giT (L2.KOf KX) [(243, K03.lq__law_wrong_right)]) rfl D_is_index C_is_number
    have C_common_divisor := K03.cal_common_divisor (P := PySem.Challenge.rw_batchnumbers_k03_powers_and_loops.prog) (w := w) (base := base) (gg := Dl.giT (L2.KOf KX) [(243, K03.lq__law_wrong_right)]) rfl D_common_divisor
    have C_common_multiple := K03.cal_common_multiple (P := PySem.Challenge.rw_batchnumbers_k03_powers_and_loops.prog) (w := w) (base := base) (gg := Dl.giT (L2.KOf KX) [(243, K03.lq__law_wrong_right)]) rfl D_common_multiple C_common_divisor
    have C_checked_change := K03.cal_checked_change (P := PySem.Challenge.rw_batchnumbers_k03_powers_and_loops.prog) (w := w) (base := base) (gg := Dl.giT (L2.KOf KX) [(243, K03.lq__law_wrong_right)]) rfl D_checked_change C_is_index z_sorted z_list z_range z_all z_len z_isinstance z_tuple T_InvalidChange
    have C_idle := K03.cal_idle (P := PySem.Challenge.rw_batchnumbers_k03_powers_and_loops.prog) (w := w) (base := base) (gg := Dl.giT (L2.KOf KX) [(243, K03.lq__law_wrong_right)]) rfl D_idle z_tuple z_range
    have C_after := K03.cal_after (P := PySem.Challenge.rw_batchnumbers_k03_powers_and_loops.prog) (w := w) (base := base) (gg := Dl.giT (L2.KOf KX) [(243, K03.lq__law_wrong_right)]) rfl D_after z_tuple
    have C_undone := K03.cal_undone (P := PySem.Challenge.rw_batchnumbers_k03_powers_and_loops.prog) (w := w) (base := base) (gg := Dl.giT (L2.KOf KX) [(243, K03.lq__law_wrong_right)]) rfl D_undone z_tuple z_enumerate z_len
    have C_raised := K03.cal_raised (P := PySem.Challenge.rw_batchnumbers_k03_powers_and_loops.prog) (w := w) (base := base) (gg := Dl.giT (L2.KOf KX) [(243, K03.lq__law_wrong_right)]) rfl D_raised C_after C_idle C_undone z_len
    have C_size_of := K03.cal_size_of (P := PySem.Challenge.rw_batchnumbers_k03_powers_and_loops.prog) (w := w) (base := base) (gg := Dl.giT (L2.KOf KX) [(243, K03.lq__law_wrong_right)]) rfl D_size_of z_isinstance z_tuple z_len
    have C_followed := K03.cal_followed (P := PySem.Challenge.rw_batchnumbers_k03_powers_and_loops.prog) (w := w) (base := base) (gg := Dl.giT (L2.KOf KX) [(243, K03.lq__law_wrong_right)]) rfl D_followed C_after C_checked_change C_size_of z_len
    have C_back := K03.cal_back (P := PySem.Challenge.rw_batchnumbers_k03_powers_and_loops.prog) (w := w) (base := base) (gg := Dl.giT (L2.KOf KX) [(243, K03.lq__law_wrong_right)]) rfl D_back C_undone C_checked_change C_size_of
    have C_power := K03.cal_power (P := PySem.Challenge.rw_batchnumbers_k03_powers_and_loops.prog) (w := w) (base := base) (gg := Dl.giT (L2.KOf KX) [(243, K03.lq__law_wrong_right)]) rfl D_power C_raised C_checked_change C_size_of
    have C_order_of := K03.cal_order_of (P := PySem.Challenge.rw_batchnumbers_k03_powers_and_loops.prog) (w := w) (base := base) (gg := Dl.giT (L2.KOf KX) [(243, K03.lq__law_wrong_right)]) rfl D_order_of C_common_multiple z_range z_len
    have C_order := K03.cal_order (P := PySem.Challenge.rw_batchnumbers_k03_powers_and_loops.prog) (w := w) (base := base) (gg := Dl.giT (L2.KOf KX) [(243, K03.lq__law_wrong_right)]) rfl D_order C_order_of C_checked_change C_size_of
    have C_change_places := K03.cal_change_places (P := PySem.Challenge.rw_batchnumbers_k03_powers_and_loops.prog) (w := w) (base := base) (gg := Dl.giT (L2.KOf KX) [(243, K03.lq__law_wrong_right)]) rfl D_change_places C_after C_checked_change C_size_of z_len
    have C_loop := K03.cal_loop (P := PySem.Challenge.rw_batchnumbers_k03_powers_and_loops.prog) (w := w) (base := base) (gg := Dl.giT (L2.KOf KX) [(243, K03.lq__law_wrong_right)]) rfl D_loop C_raised C_followed
    have C_split_loop := K03.cal_split_loop (P := PySem.Challenge.rw_batchnumbers_k03_powers_and_loops.prog) (w := w) (base := base) (gg := Dl.giT (L2.KOf KX) [(243, K03.lq__law_wrong_right)]) rfl D_split_loop C_after C_raised C_followed
    have C__law_draw := K03.cal__law_draw (P := PySem.Challenge.rw_batchnumbers_k03_powers_and_loops.prog) (w := w) (base := base) (gg := Dl.giT (L2.KOf KX) [(243, K03.lq__law_wrong_right)]) rfl D__law_draw z_int z_abs
    have C__law_of := K03.cal__law_of (P := PySem.Challenge.rw_batchnumbers_k03_powers_and_loops.prog) (w := w) (base := base) (gg := Dl.giT (L2.KOf KX) [(243, K03.lq__law_wrong_right)]) rfl D__law_of C__law_any z_len
    have C__law_mixed := K03.cal__law_mixed (P := PySem.Challenge.rw_batchnumbers_k03_powers_and_loops.prog) (w := w) (base := base) (gg := Dl.giT (L2.KOf KX) [(243, K03.lq__law_wrong_right)]) rfl D__law_mixed C__law_any z_len z_list
    have C__law_then := K03.cal__law_then (P := PySem.Challenge.rw_batchnumbers_k03_powers_and_loops.prog) (w := w) (base := base) (gg := Dl.giT (L2.KOf KX) [(243, K03.lq__law_wrong_right)]) rfl D__law_then z_tuple
    have C__law_back := K03.cal__law_back (P := PySem.Challenge.rw_batchnumbers_k03_powers_and_loops.prog) (w := w) (base := base) (gg := Dl.giT (L2.KOf KX) [(243, K03.lq__law_wrong_right)]) rfl D__law_back z_tuple z_enumerate z_len
    have C__law_power := K03.cal__law_power (P := PySem.Challenge.rw_batchnumbers_k03_powers_and_loops.prog) (w := w) (base := base) (gg := Dl.giT (L2.KOf KX) [(243, K03.lq__law_wrong_right)]) rfl D__law_power C__law_then C__law_back z_int z_tuple z_list z_len z_range
    have CL__law_refused := K03.cal__law_refused (P := PySem.Challenge.rw_batchnumbers_k03_powers_and_loops.prog) (w := w) (base := base) (gg := Dl.giT (L2.KOf KX) [(243, K03.lq__law_wrong_right)]) D__law_refused T_InvalidChange
    have C__law_count := K03.cal__law_count (P := PySem.Challenge.rw_batchnumbers_k03_powers_and_loops.prog) (w := w) (base := base) (gg := Dl.giT (L2.KOf KX) [(243, K03.lq__law_wrong_right)]) rfl D__law_count C__law_of C__law_any
    have C__law_bad := K03.cal__law_bad (P := PySem.Challenge.rw_batchnumbers_k03_powers_and_loops.prog) (w := w) (base := base) (gg := Dl.giT (L2.KOf KX) [(243, K03.lq__law_wrong_right)]) rfl D__law_bad C__law_of z_tuple z_list z_len
    have C__law_wrong_right := K03.cal__law_wrong_right (P := PySem.Challenge.rw_batchnumbers_k03_powers_and_loops.prog) (w := w) (base := base) (gg := Dl.giT (L2.KOf KX) [(243, K03.lq__law_wrong_right)]) rfl CL__law_refused C_checked_change C_split_loop C_loop C_change_places C_followed C_order C_power C_back z_len TB hmT hu D__law_wrong_right
    exact K03.fn_law rfl rfl Dl.convT hF C__law_draw C__law_wrong_right C__law_bad C_split_loop C__law_then C__law_power C_loop C_change_places C_power C_followed C__law_back C__law_any C_order C_back C_checked_change C__law_count C__law_mixed z_repr z_int z_range z_tuple z_list
