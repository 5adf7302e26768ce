import PyProof.Rows.All
import Wide.All
import OpenK.AllK
import Wide.FinOn
import HandS.ForMost
import HandS.Slots
import HandS.SlotsOwn
import HandS.Codes
import HandS.Wide
import HandS.Zip
import HandS.StrMore
import HandS.IsInst
import HandS.Flow
import HandS.Lambda
import HandS.WideBits
import HandS.TupAny
import HandS.TupMul
import HandS.Steps
import HandS.TupLe
import HandS.Strs
import HandS.SortInts
import HandS.Conv
import PyProof.Rows.SetFrom
import HandS.SetFor
import HandS.Iter
import KE.GoesMore
import KE.KDictZip
import PyProof.Rows.StrMul
import OpenK.KMeth
import KE.KOpsOwn
import HandS.Defaults
import HandS.HeadHook4
import KE.GoesEnum
import HandS.FStr
import HandS.Star
import HandS.DictComp
import HandS.Style
import OpenK.KOps
import HandS.OwnEq
import PyProof.InstEq
import KE.KDictKeyed
import KE.KDictDisplayH
import HandS.Exc
import HandS.WordsExc
import HandS.ExcInit
import KE.KExcSuper
import KE.KSuper
import HandS.ExcField
import HandS.ExcIs
import HandS.HeadWalk
import PyProof.ReprRoads
import PyProof.CallFns
import HandS.ExcValue
import PyProof.TwoTypes
import PyProof.Raises
import PyProof.AutoIntOps
import HandS.ClsMeth
import PyProof.ReprNest
import PySem.Challenge.RW_looseknobs_k01_ratios_made
import KE.KStateDown
import Lean
import HandS.Head0
import HandS.Head1
import HandS.Head2
import HandS.HeadEnd
set_option Elab.async false
set_option linter.all false
set_option maxRecDepth 100000
set_option maxHeartbeats 1000000
/-! The D layer: a deterministic semantics over trees; its link to HandS. -/
namespace D
open PySem PySem.Spec PyProof.Rows L2 SlX

inductive DV where
  | non | bl (b : Bool) | int (i : Int) | str (s : List Nat) | ref (n : Nat)
  | tup (xs : List DV) | obj (c : Nat) (fs : List DV) | scr (ns : List Int) | fls (xs : List DV) | exc (c : Nat) (v : DV)
inductive DO where
  | lst (xs : List DV) | dic (kvs : List (DV × DV)) | dfz (kvs : List (DV × DV)) | ins (c : Nat) (fs : List (Option DV)) | dead
  | pot (n : Nat) (ds : List (Nat × Nat))
/-- the classes' addresses; what the three numbers of a pot with these draws ahead of it keep -/
structure Cl where
  ad : Nat → Addr
  pot : Nat → List (Nat × Nat) → Int → Int → Int → Prop
  ex : Nat → Addr
  T : List (Addr × Str)
abbrev Hs := List DO
inductive R (α : Type) where
  | ok (a : α) (h : Hs) | err (c : Nat) (v : DV) (h : Hs) | stuck
abbrev M (α : Type) := Hs → R α
abbrev Sl := List (Option DV)
def ret {α : Type} (a : α) : M α := fun h => .ok a h
def stk {α : Type} : M α := fun _ => .stuck
def bnd {α β : Type} (m : M α) (f : α → M β) : M β := fun h => match m h with
  | .ok a h1 => f a h1
  | .err c v h1 => .err c v h1
  | .stuck => .stuck
theorem bnd_ok {α β : Type} {m : M α} {f : α → M β} {h h' : Hs} {b : β} (e : bnd m f h = .ok b h') : ∃ a h1, m h = .ok a h1 ∧ f a h1 = .ok b h' := by
  unfold bnd at e
  cases q : m h with
  | stuck => rw [q] at e; cases e
  | err c v h1 => rw [q] at e; cases e
  | ok a h1 => rw [q] at e; exact ⟨a, h1, rfl, e⟩
theorem ret_ok {α : Type} {a b : α} {h h' : Hs} (e : ret a h = .ok b h') : a = b ∧ h = h' := by
  unfold ret at e
  cases e
  exact ⟨rfl, rfl⟩

/-- the world: where the objects of the D heap stand; which addresses are frozen -/
structure Wd where
  ρ : List (Addr × Addr)
  F : Addr → Prop

section
variable (K : PySem.W.Frag) (cl : Cl)
/-- an exception that was caught: its class is at C, its dict at dx -/
def XcO (a C dx : Addr) : HO := .ext fun h => ∃ (o : Obj) (vs : Array Value), h.get? a = some o ∧ o.cls = .ref C ∧ o.dict = some dx ∧ o.data = .fields vs
/-- the table of code objects at P: each bears the name q -/
def TabF (W : Wd) (H : Hp) (P : Addr) (q : Str) : Prop := ∃ ps : Array Value, H P = some (.tbl ps) ∧ TriplesOk ps.toList ∧ ∀ (pos : Pos) (cv : Value), codeAmong pos ps.toList = some cv → ∃ c, cv = .ref c ∧ W.F c ∧ H c = some (LamX.CodeO c q)
/-- a tuple that stays as it is -/
def FzT (W : Wd) (H : Hp) (a : Addr) (xs : List V) : Prop := (W.F a ∧ Rd H a (.tup xs)) ∨
  ∃ (o : Obj) (its : Array Value) (n : Nat), K.lookup a = some o ∧ o.cls = .type "tuple" ∧ o.data = .seq its n ∧ its.size ≤ sizeLine ∧ Vals xs its.toList
def FzL (W : Wd) (H : Hp) (a : Addr) (xs : List V) : Prop := (W.F a ∧ ∃ o, H a = some (.frz o (.lst xs))) ∨
  ∃ (o : Obj) (its : Array Value) (n : Nat), K.lookup a = some o ∧ o.cls = .type "list" ∧ o.dict = none ∧ o.data = .seq its n ∧ its.size ≤ sizeLine ∧ Vals xs its.toList
mutual
inductive RV (W : Wd) (H : Hp) : DV → V → Prop
  | non : RV W H .non .non
  | bl (b : Bool) : RV W H (.bl b) (.bl b)
  | int (i : Int) : RV W H (.int i) (.int i)
  | str (s : List Nat) : RV W H (.str s) (.str (SX.S s))
  | ref {n : Nat} {a d : Addr} : W.ρ[n]? = some (a, d) → RV W H (.ref n) (.ref a)
  | tup {ds : List DV} {xs : List V} {a : Addr} : FzT K W H a xs → RVs W H ds xs → RV W H (.tup ds) (.ref a)
  | obj {c : Nat} {ds : List DV} {xs : List V} {rest : List (Option V)} {a dx : Addr} : W.F a → W.F dx → dx ≠ a → H a = some (SlO a (cl.ad c) dx (xs.map some ++ rest)) → H dx = some (.xd []) → RVs W H ds xs → RV W H (.obj c ds) (.ref a)
  | scr {ns : List Int} {a : Addr} : FzL K W H a (ns.map V.int) → RV W H (.scr ns) (.ref a)
  | fls {ds : List DV} {xs : List V} {a : Addr} : FzL K W H a xs → RVs W H ds xs → RV W H (.fls ds) (.ref a)
  | exc {c : Nat} {d : DV} {x : V} {a dx : Addr} : W.F a → W.F dx → dx ≠ a → H a = some (XcO a (cl.ex c) dx) → H dx = some (.xd [(("value" : Str), x)]) → RV W H d x → RV W H (.exc c d) (.ref a)
inductive RVs (W : Wd) (H : Hp) : List DV → List V → Prop
  | nil : RVs W H [] []
  | cons {d : DV} {ds : List DV} {x : V} {xs : List V} : RV W H d x → RVs W H ds xs → RVs W H (d :: ds) (x :: xs)
end
/-- keys of a dict: ints and texts -/
def RK : DV → Key → Prop
  | .int i, k => k = .inl i
  | .str s, k => k = .inr (SX.S s)
  | _, _ => False
inductive RKV (W : Wd) (H : Hp) : List (DV × DV) → List (Key × V) → Prop
  | nil : RKV W H [] []
  | cons {d e : DV} {k : Key} {x : V} {ds : List (DV × DV)} {xs : List (Key × V)} : RK d k → RV K cl W H e x → RKV W H ds xs → RKV W H ((d, e) :: ds) ((k, x) :: xs)
/-- slots, as far as they are known -/
def ROs (W : Wd) (H : Hp) (ds : List (Option DV)) (xs : List (Option V)) : Prop := ∀ (i : Nat) (d : DV), ds[i]? = some (some d) → ∃ x, xs[i]? = some (some x) ∧ RV K cl W H d x
/-- the slots of a frame -/
def RSl (W : Wd) (H : Hp) (ds : List (Option DV)) (xs : List (Option V)) : Prop := ds.length = xs.length ∧ ROs K cl W H ds xs
/-- an instance's own dict -/
def OwnD (u : HO) : Prop := (∃ y, u = .own y) ∨ u = .xd []
/-- an object of the D heap at a -/
def DOk (W : Wd) (H : Hp) (a dx : Addr) : DO → Prop
  | .lst ds => ¬ W.F a ∧ ∃ xs, H a = some (.lst xs) ∧ RVs K cl W H ds xs
  | .dic kvs => ¬ W.F a ∧ ∃ ks, H a = some (.dK ks) ∧ RKV K cl W H kvs ks
  | .dfz kvs => W.F a ∧ ∃ od ks, H a = some (.frz od (.dK ks)) ∧ RKV K cl W H kvs ks
  | .ins c fs => ¬ W.F a ∧ ¬ W.F dx ∧ dx ≠ a ∧ (∃ o, H dx = some o ∧ OwnD o) ∧ ∃ vs, Slt H a (cl.ad c) dx vs ∧ ROs K cl W H fs vs
  | .dead => True
  | .pot n ds => ¬ W.F a ∧ ∃ i j k, H a = some (.lst [.int i, .int j, .int k]) ∧ cl.pot n ds i j k
structure HRel (W : Wd) (h : Hs) (H : Hp) : Prop where
  len : h.length = W.ρ.length
  nd : (W.ρ.map (·.1)).Nodup
  tr : ∀ a, W.F a → ∃ o, H a = some o
  tr2 : ∀ p ∈ W.ρ, ∃ o, H p.1 = some o ∧ ∀ ps, o ≠ .tbl ps
  ok : ∀ (n : Nat) (o : DO) (a dx : Addr), h[n]? = some o → W.ρ[n]? = some (a, dx) → DOk K cl W H a dx o
  sep : ∀ (n m : Nat) (c c' : Nat) (fs fs' : List (Option DV)) (a dx b dy : Addr), h[n]? = some (.ins c fs) → h[m]? = some (.ins c' fs') → W.ρ[n]? = some (a, dx) → W.ρ[m]? = some (b, dy) → n ≠ m → dx ≠ dy
  tb : ∀ p ∈ cl.T, TabF W H p.1 p.2
  nt : cl.T ≠ [] → ∀ a, W.F a → ∀ ps, H a ≠ some (.tbl ps)
/-- a later world -/
structure Ext (W : Wd) (H : Hp) (W' : Wd) (H' : Hp) : Prop where
  pre : ∀ (n : Nat) (p : Addr × Addr), W.ρ[n]? = some p → W'.ρ[n]? = some p
  sub : ∀ a, W.F a → W'.F a
  keep : ∀ a, W.F a → H' a = H a
  new : ∀ (n : Nat) (p : Addr × Addr), W'.ρ[n]? = some p → W.ρ[n]? = some p ∨ ¬ W.F p.1
end
section
variable {K : PySem.W.Frag} {cl : Cl} {W W1 W2 : Wd} {H H1 H2 : Hp}
theorem TabF.go {P : Addr} {q : Str} (x : TabF W H P q) (sub : ∀ a, W.F a → W1.F a) (keep : ∀ a, W.F a → H1 a = H a) (kt : ∀ b ps, H b = some (.tbl ps) → H1 b = some (.tbl ps)) : TabF W1 H1 P q := by
  obtain ⟨ps, h1, h2, h3⟩ := x
  refine ⟨ps, kt _ _ h1, h2, fun pos cv e => ?_⟩
  obtain ⟨c, e1, e2, e3⟩ := h3 pos cv e
  exact ⟨c, e1, sub c e2, (keep c e2).trans e3⟩
theorem Ext.refl : Ext W H W H := ⟨fun _ _ h => h, fun _ h => h, fun _ _ => rfl, fun _ _ h => .inl h⟩
theorem Ext.trans (a : Ext W H W1 H1) (b : Ext W1 H1 W2 H2) : Ext W H W2 H2 :=
  ⟨fun n p h => b.pre n p (a.pre n p h), fun x h => b.sub x (a.sub x h), fun x h => (b.keep x (a.sub x h)).trans (a.keep x h), fun n p h => (b.new n p h).elim (a.new n p) fun q => .inr fun z => q (a.sub _ z)⟩
theorem FzT.mono {a : Addr} {xs : List V} (e : Ext W H W1 H1) (h : FzT K W H a xs) : FzT K W1 H1 a xs := by
  rcases h with ⟨h1, h2⟩ | h
  · refine .inl ⟨e.sub a h1, ?_⟩
    rcases h2 with h2 | ⟨o, h2⟩
    · exact .inl ((e.keep a h1).trans h2)
    · exact .inr ⟨o, (e.keep a h1).trans h2⟩
  · exact .inr h
theorem FzL.mono {a : Addr} {xs : List V} (e : Ext W H W1 H1) (h : FzL K W H a xs) : FzL K W1 H1 a xs := by
  rcases h with ⟨h1, o, h2⟩ | h
  · exact .inl ⟨e.sub a h1, o, (e.keep a h1).trans h2⟩
  · exact .inr h
theorem FzT.sq {a : Addr} {xs : List V} (h : FzT K W H a xs) : SqT K H a xs := h.elim (fun q => .inl q.2) .inr
theorem FzL.sq {a : Addr} {xs : List V} (h : FzL K W H a xs) : SqL K H a xs := h.elim (fun q => .inl (.inr q.2)) .inr
mutual
theorem RV.mono (e : Ext W H W1 H1) : ∀ {d : DV} {x : V}, RV K cl W H d x → RV K cl W1 H1 d x
  | _, _, .non => .non
  | _, _, .bl b => .bl b
  | _, _, .int i => .int i
  | _, _, .str s => .str s
  | _, _, .ref h => .ref (e.pre _ _ h)
  | _, _, .tup h r => .tup (h.mono e) (RVs.mono e r)
  | _, _, .obj f1 f2 n h1 h2 r => .obj (e.sub _ f1) (e.sub _ f2) n ((e.keep _ f1).trans h1) ((e.keep _ f2).trans h2) (RVs.mono e r)
  | _, _, .scr h => .scr (h.mono e)
  | _, _, .fls h r => .fls (h.mono e) (RVs.mono e r)
  | _, _, .exc f1 f2 n h1 h2 r => .exc (e.sub _ f1) (e.sub _ f2) n ((e.keep _ f1).trans h1) ((e.keep _ f2).trans h2) (RV.mono e r)
theorem RVs.mono (e : Ext W H W1 H1) : ∀ {ds : List DV} {xs : List V}, RVs K cl W H ds xs → RVs K cl W1 H1 ds xs
  | _, _, .nil => .nil
  | _, _, .cons r t => .cons (RV.mono e r) (RVs.mono e t)
end
theorem RVs.length : ∀ {ds : List DV} {xs : List V}, RVs K cl W H ds xs → ds.length = xs.length
  | _, _, .nil => rfl
  | _, _, .cons _ t => by rw [List.length_cons, List.length_cons, RVs.length t]
theorem RVs.get : ∀ {ds : List DV} {xs : List V} {i : Nat} {d : DV}, RVs K cl W H ds xs → ds[i]? = some d → ∃ x, xs[i]? = some x ∧ RV K cl W H d x
  | _, _, _, _, .nil, e => by simp at e
  | _, _, 0, _, .cons r _, e => by simp at e; subst e; exact ⟨_, rfl, r⟩
  | _, _, i + 1, d, .cons _ t, e => by
    obtain ⟨x, h1, h2⟩ := RVs.get (i := i) (d := d) t (by simpa using e)
    exact ⟨x, by simpa using h1, h2⟩
theorem RVs.append : ∀ {ds es : List DV} {xs ys : List V}, RVs K cl W H ds xs → RVs K cl W H es ys → RVs K cl W H (ds ++ es) (xs ++ ys)
  | _, _, _, _, .nil, s => s
  | _, _, _, _, .cons r t, s => .cons r (RVs.append t s)
theorem RVs.set {d : DV} {x : V} (r : RV K cl W H d x) : ∀ {ds : List DV} {xs : List V} (i : Nat), RVs K cl W H ds xs → RVs K cl W H (ds.set i d) (xs.set i x)
  | _, _, _, .nil => .nil
  | _, _, 0, .cons _ t => .cons r t
  | _, _, i + 1, .cons q t => .cons q (RVs.set r i t)
theorem RVs.drop : ∀ {ds : List DV} {xs : List V} (n : Nat), RVs K cl W H ds xs → RVs K cl W H (ds.drop n) (xs.drop n)
  | _, _, 0, r => r
  | _, _, _ + 1, .nil => .nil
  | _, _, n + 1, .cons _ t => RVs.drop n t
theorem RVs.take : ∀ {ds : List DV} {xs : List V} (n : Nat), RVs K cl W H ds xs → RVs K cl W H (ds.take n) (xs.take n)
  | _, _, 0, _ => .nil
  | _, _, _ + 1, .nil => .nil
  | _, _, n + 1, .cons r t => .cons r (RVs.take n t)
theorem RVs.eraseIdx : ∀ {ds : List DV} {xs : List V} (i : Nat), RVs K cl W H ds xs → RVs K cl W H (ds.eraseIdx i) (xs.eraseIdx i)
  | _, _, _, .nil => .nil
  | _, _, 0, .cons _ t => t
  | _, _, i + 1, .cons q t => .cons q (RVs.eraseIdx i t)
theorem RVs.ints : ∀ {ns : List Int} {xs : List V}, RVs K cl W H (ns.map .int) xs → xs = ns.map .int
  | [], _, h => by cases h; rfl
  | n :: ns, _, h => by
    rw [List.map_cons] at h
    cases h with
    | cons r t => cases r; rw [RVs.ints t]; rfl
theorem RKV.mono (e : Ext W H W1 H1) : ∀ {ds : List (DV × DV)} {xs : List (Key × V)}, RKV K cl W H ds xs → RKV K cl W1 H1 ds xs
  | _, _, .nil => .nil
  | _, _, .cons k r t => .cons k (r.mono e) (RKV.mono e t)
theorem ROs.mono {ds : List (Option DV)} {xs : List (Option V)} (e : Ext W H W1 H1) (r : ROs K cl W H ds xs) : ROs K cl W1 H1 ds xs := fun i d h => by
  obtain ⟨x, h1, h2⟩ := r i d h
  exact ⟨x, h1, h2.mono e⟩
theorem RSl.mono {ds : List (Option DV)} {xs : List (Option V)} (e : Ext W H W1 H1) (r : RSl K cl W H ds xs) : RSl K cl W1 H1 ds xs := ⟨r.1, r.2.mono e⟩
end

section
variable {K : PySem.W.Frag} {cl : Cl} {W W1 : Wd} {h : Hs} {H H1 : Hp}
/-- nothing that is tracked changes; what is frozen anew was not there -/
theorem DOk.grow {a dx : Addr} {o : DO} (e : Ext W H W1 H1) (st : ∀ b u, H b = some u → H1 b = some u) (fr : ∀ b, W1.F b → W.F b ∨ H b = none) (x : DOk K cl W H a dx o) : DOk K cl W1 H1 a dx o := by
  have nf : ∀ b, ¬ W.F b → (∃ u, H b = some u) → ¬ W1.F b := fun b n ⟨u, hu⟩ q => by
    rcases fr b q with q | q
    · exact n q
    · rw [hu] at q; cases q
  cases o with
  | lst ds =>
    obtain ⟨n, xs, h1, r⟩ := x
    exact ⟨nf a n ⟨_, h1⟩, xs, st _ _ h1, r.mono e⟩
  | dic kvs =>
    obtain ⟨n, xs, h1, r⟩ := x
    exact ⟨nf a n ⟨_, h1⟩, xs, st _ _ h1, r.mono e⟩
  | dfz kvs =>
    obtain ⟨n, od, xs, h1, r⟩ := x
    exact ⟨e.sub a n, od, xs, st _ _ h1, r.mono e⟩
  | ins c fs =>
    obtain ⟨n1, n2, ne, ⟨u, hu, ow⟩, vs, sl, r⟩ := x
    have ha : ∃ u, H a = some u := by
      rcases sl with ⟨q, _⟩ | ⟨q, _⟩
      · exact ⟨_, q⟩
      · exact ⟨_, q⟩
    refine ⟨nf a n1 ha, nf dx n2 ⟨u, hu⟩, ne, ⟨u, st _ _ hu, ow⟩, vs, ?_, r.mono e⟩
    rcases sl with ⟨q, q2⟩ | ⟨q, q2⟩
    · exact .inl ⟨st _ _ q, q2⟩
    · exact .inr ⟨st _ _ q, st _ _ q2⟩
  | dead => exact True.intro
  | pot n ds =>
    obtain ⟨n1, i, j, k, h1, r⟩ := x
    exact ⟨nf a n1 ⟨_, h1⟩, i, j, k, st _ _ h1, r⟩
theorem HRel.grow (x : HRel K cl W h H) (e : Ext W H W1 H1) (hρ : W1.ρ = W.ρ) (st : ∀ b u, H b = some u → H1 b = some u) (fr : ∀ b, W1.F b → W.F b ∨ H b = none) (tr : ∀ b, W1.F b → ∃ u, H1 b = some u) (nt : cl.T ≠ [] → ∀ b, W1.F b → ∀ ps, H1 b ≠ some (.tbl ps)) : HRel K cl W1 h H1 where
  len := by rw [hρ]; exact x.len
  nd := by rw [hρ]; exact x.nd
  tr := tr
  tr2 := fun p hp => by
    rw [hρ] at hp
    obtain ⟨u, q, nu⟩ := x.tr2 p hp
    exact ⟨u, st _ _ q, nu⟩
  ok := fun n o a dx h1 h2 => (x.ok n o a dx h1 (by rw [← hρ]; exact h2)).grow e st fr
  sep := by rw [hρ]; exact x.sep
  tb := fun p hp => (x.tb p hp).go e.sub e.keep fun b ps q => st b _ q
  nt := nt
/-- the world with p frozen -/
def Wd.fz (W : Wd) (p : Addr) : Wd := ⟨W.ρ, fun a => W.F a ∨ a = p⟩
theorem ext_new {p : Addr} {o : HO} (hp : H p = none) (x : HRel K cl W h H) : Ext W H (W.fz p) (upd H p o) :=
  ⟨fun _ _ q => q, fun _ q => .inl q, fun a q => by
    obtain ⟨u, hu⟩ := x.tr a q
    exact upd_ne (ne_of_none hu hp), fun _ _ q => .inl q⟩
/-- a new frozen object -/
theorem HRel.new {p : Addr} {o : HO} (x : HRel K cl W h H) (hp : H p = none) (no : ∀ ps, o ≠ .tbl ps := by intro _ z; cases z) : HRel K cl (W.fz p) h (upd H p o) :=
  x.grow (ext_new hp x) rfl (fun b u q => by rw [upd_ne (ne_of_none q hp)]; exact q) (fun b q => by
    rcases q with q | q
    · exact .inl q
    · rw [q]; exact .inr hp) (fun b q => by
    by_cases e : b = p
    · rw [e]; exact ⟨o, upd_same⟩
    · rcases q with q | q
      · obtain ⟨u, hu⟩ := x.tr b q
        exact ⟨u, by rw [upd_ne e]; exact hu⟩
      · exact absurd q e) fun t0 b q ps z => by
    by_cases e : b = p
    · rw [e, upd_same] at z
      exact no ps (Option.some.inj z)
    · rw [upd_ne e] at z
      rcases q with q | q
      · exact x.nt t0 b q ps z
      · exact e q
/-- .. a tuple -/
theorem rv_tup {p : Addr} {ds : List DV} {xs : List V} (x : HRel K cl W h H) (hp : H p = none) (r : RVs K cl W H ds xs) : RV K cl (W.fz p) (upd H p (.tup xs)) (.tup ds) (.ref p) :=
  .tup (.inl ⟨.inr rfl, .inl upd_same⟩) (r.mono (ext_new hp x))
/-- the world with one more object of the D heap at p -/
def Wd.add (W : Wd) (p : Addr) : Wd := ⟨W.ρ ++ [(p, p)], W.F⟩
theorem ext_add {p : Addr} {o : HO} (hp : H p = none) (x : HRel K cl W h H) : Ext W H (W.add p) (upd H p o) :=
  ⟨fun n q e => by
    show (W.ρ ++ [(p, p)])[n]? = some q
    rw [List.getElem?_append_left (List.getElem?_eq_some_iff.mp e).1]; exact e, fun _ q => q, fun a q => by
    obtain ⟨u, hu⟩ := x.tr a q
    exact upd_ne (ne_of_none hu hp), fun n q e => by
    have e : (W.ρ ++ [(p, p)])[n]? = some q := e
    by_cases hn : n < W.ρ.length
    · rw [List.getElem?_append_left hn] at e; exact .inl e
    · refine .inr fun z => ?_
      rw [List.getElem?_append_right (by omega)] at e
      have q1 : q = (p, p) := by
        cases k : n - W.ρ.length with
        | zero => rw [k] at e; simpa using e.symm
        | succ k' => rw [k] at e; simp at e
      rw [q1] at z
      obtain ⟨u, hu⟩ := x.tr p z
      rw [hp] at hu; cases hu⟩
theorem getElem?_snoc {α : Type} {l : List α} {a b : α} {n : Nat} (e : (l ++ [a])[n]? = some b) : (l[n]? = some b ∧ n < l.length) ∨ (n = l.length ∧ a = b) := by
  by_cases hn : n < l.length
  · rw [List.getElem?_append_left hn] at e; exact .inl ⟨e, hn⟩
  · rw [List.getElem?_append_right (by omega)] at e
    cases k : n - l.length with
    | zero => rw [k] at e; exact .inr ⟨by omega, by simpa using e⟩
    | succ k' => rw [k] at e; simp at e
/-- a new list or dict -/
theorem HRel.add {p : Addr} {o : HO} {d : DO} (x : HRel K cl W h H) (hp : H p = none) (hd : ∀ c fs, d ≠ .ins c fs) (ok : DOk K cl (W.add p) (upd H p o) p p d) (no : ∀ ps, o ≠ .tbl ps := by intro _ z; cases z) : HRel K cl (W.add p) (h ++ [d]) (upd H p o) := by
  have st : ∀ b u, H b = some u → upd H p o b = some u := fun b u q => by rw [upd_ne (ne_of_none q hp)]; exact q
  have e := ext_add (o := o) hp x
  refine ⟨?_, ?_, fun a q => ?_, fun q hq => ?_, fun n d' a dx h1 h2 => ?_, fun n m c c' fs fs' a dx b dy h1 h2 h3 h4 hn => ?_, fun q hq => (x.tb q hq).go e.sub e.keep fun b ps z => st b _ z, fun t0 b q ps z => x.nt t0 b q ps (by rw [e.keep b q] at z; exact z)⟩
  · show (h ++ [d]).length = (W.ρ ++ [(p, p)]).length
    rw [List.length_append, List.length_append, x.len]; rfl
  · show ((W.ρ ++ [(p, p)]).map (·.1)).Nodup
    rw [List.map_append, List.nodup_append]
    refine ⟨x.nd, by simp, ?_⟩
    intro a ha b hb z
    simp at hb
    subst hb
    subst z
    obtain ⟨q, hq, e⟩ := List.mem_map.mp ha
    obtain ⟨u, hu, _⟩ := x.tr2 q hq
    rw [e, hp] at hu
    cases hu
  · obtain ⟨u, hu⟩ := x.tr a q
    exact ⟨u, st _ _ hu⟩
  · have hq : q ∈ W.ρ ++ [(p, p)] := hq
    rcases List.mem_append.mp hq with hq | hq
    · obtain ⟨u, hu, nu⟩ := x.tr2 q hq
      exact ⟨u, st _ _ hu, nu⟩
    · rw [List.mem_singleton.mp hq]; exact ⟨o, upd_same, no⟩
  · have h2 : (W.ρ ++ [(p, p)])[n]? = some (a, dx) := h2
    rcases getElem?_snoc h1 with ⟨q, hn⟩ | ⟨q, q2⟩
    · rw [List.getElem?_append_left (by rw [← x.len]; exact hn)] at h2
      exact (x.ok n d' a dx q h2).grow e st fun b q => .inl q
    · rcases getElem?_snoc h2 with ⟨_, hn⟩ | ⟨_, q3⟩
      · rw [← x.len] at hn; omega
      · cases q3; subst q2; exact ok
  · have h3 : (W.ρ ++ [(p, p)])[n]? = some (a, dx) := h3
    have h4 : (W.ρ ++ [(p, p)])[m]? = some (b, dy) := h4
    rcases getElem?_snoc h1 with ⟨q, hn1⟩ | ⟨_, q2⟩
    · rcases getElem?_snoc h2 with ⟨q', hn2⟩ | ⟨_, q2⟩
      · rw [List.getElem?_append_left (by rw [← x.len]; exact hn1)] at h3
        rw [List.getElem?_append_left (by rw [← x.len]; exact hn2)] at h4
        exact x.sep n m c c' fs fs' a dx b dy q q' h3 h4 hn
      · exact absurd q2 (hd _ _)
    · exact absurd q2 (hd _ _)
theorem HRel.at {n : Nat} {o : DO} (x : HRel K cl W h H) (e : h[n]? = some o) : ∃ a dx, W.ρ[n]? = some (a, dx) ∧ DOk K cl W H a dx o := by
  have hn := (List.getElem?_eq_some_iff.mp e).1
  have hn2 : n < W.ρ.length := by rw [← x.len]; exact hn
  have q : W.ρ[n]? = some W.ρ[n] := List.getElem?_eq_getElem hn2
  exact ⟨(W.ρ[n]).1, (W.ρ[n]).2, q, x.ok n o _ _ e q⟩
theorem HRel.inj {n m : Nat} {a dx dy : Addr} (x : HRel K cl W h H) (h1 : W.ρ[n]? = some (a, dx)) (h2 : W.ρ[m]? = some (a, dy)) : n = m := by
  have e1 : (W.ρ.map (·.1))[n]? = some a := by rw [List.getElem?_map, h1]; rfl
  have e2 : (W.ρ.map (·.1))[m]? = some a := by rw [List.getElem?_map, h2]; rfl
  exact nd_ix x.nd e1 e2
/-- a list or dict of the D heap is written -/
theorem ext_wr {a : Addr} {o : HO} (nf : ¬ W.F a) : Ext W H W (upd H a o) := ⟨fun _ _ q => q, fun _ q => q, fun b q => upd_ne fun z => nf (by rw [← z]; exact q), fun _ _ q => .inl q⟩
theorem HRel.wr {n : Nat} {a dx : Addr} {o u : HO} {d : DO} (x : HRel K cl W h H) (hn : W.ρ[n]? = some (a, dx)) (nf : ¬ W.F a) (ha : H a = some u) (hu : (∃ xs, u = .lst xs) ∨ ∃ ks, u = .dK ks) (hd : ∀ c fs, d ≠ .ins c fs) (ok : DOk K cl W (upd H a o) a dx d) (no : ∀ ps, o ≠ .tbl ps := by intro _ z; cases z) :
    HRel K cl W (h.set n d) (upd H a o) := by
  have e := ext_wr (H := H) (o := o) nf
  have other : ∀ b, b ≠ a → upd H a o b = H b := fun b hb => upd_ne hb
  refine ⟨by rw [List.length_set]; exact x.len, x.nd, fun b q => ?_, fun q hq => ?_, fun m d' b dy h1 h2 => ?_, fun m k c c' fs fs' b dy b' dz h1 h2 h3 h4 hmk => ?_, fun q hq => (x.tb q hq).go e.sub e.keep fun b ps z => (other b fun y => by
    rw [y, ha] at z
    rcases hu with ⟨_, hu⟩ | ⟨_, hu⟩ <;> (rw [hu] at z; cases z)).trans z, fun t0 b q ps z => x.nt t0 b q ps (by rw [e.keep b q] at z; exact z)⟩
  · obtain ⟨u, hu⟩ := x.tr b q
    exact ⟨u, by rw [other b fun z => nf (by rw [← z]; exact q)]; exact hu⟩
  · by_cases z : q.1 = a
    · exact ⟨o, by rw [z]; exact upd_same, no⟩
    · obtain ⟨u, hu, nu⟩ := x.tr2 q hq
      exact ⟨u, by rw [other _ z]; exact hu, nu⟩
  · by_cases hm : m = n
    · subst hm
      rw [hn] at h2
      cases h2
      have : m < h.length := by
        rw [x.len]; exact (List.getElem?_eq_some_iff.mp hn).1
      rw [List.getElem?_set_self this] at h1
      cases h1
      exact ok
    · rw [List.getElem?_set_ne (Ne.symm hm)] at h1
      have q := x.ok m d' b dy h1 h2
      have nb : b ≠ a := fun z => hm (x.inj (a := a) (by rw [← z]; exact h2) hn)
      cases d' with
      | lst ds =>
        obtain ⟨n1, xs, h1, r⟩ := q
        exact ⟨n1, xs, (other b nb).trans h1, r.mono e⟩
      | dic ds =>
        obtain ⟨n1, xs, h1, r⟩ := q
        exact ⟨n1, xs, (other b nb).trans h1, r.mono e⟩
      | dfz ds =>
        obtain ⟨n1, od, xs, h1, r⟩ := q
        exact ⟨n1, od, xs, (other b nb).trans h1, r.mono e⟩
      | ins c fs =>
        obtain ⟨n1, n2, ne, ⟨u', hu', ow⟩, vs, sl, r⟩ := q
        by_cases z : dy = a
        · exfalso
          rw [z, ha] at hu'
          have q2 := Option.some.inj hu'
          rw [← q2] at ow
          rcases ow with ⟨y, ow⟩ | ow <;> rcases hu with ⟨xs, hu⟩ | ⟨ks, hu⟩ <;> (rw [hu] at ow; cases ow)
        · refine ⟨n1, n2, ne, ⟨u', (other dy z).trans hu', ow⟩, vs, ?_, r.mono e⟩
          rcases sl with ⟨q1, q2⟩ | ⟨q1, q2⟩
          · exact .inl ⟨(other b nb).trans q1, q2⟩
          · exact .inr ⟨(other b nb).trans q1, (other dy z).trans q2⟩
      | dead => exact True.intro
      | pot m ds =>
        obtain ⟨n1, i, j, k, h1, r⟩ := q
        exact ⟨n1, i, j, k, (other b nb).trans h1, r⟩
  · have ni : ∀ {j : Nat} {c : Nat} {fs : List (Option DV)}, (h.set n d)[j]? = some (.ins c fs) → h[j]? = some (.ins c fs) := fun {j c fs} z => by
      by_cases hj : j = n
      · subst hj
        have : j < h.length := by
          rw [x.len]; exact (List.getElem?_eq_some_iff.mp hn).1
        rw [List.getElem?_set_self this] at z
        cases z
        exact absurd rfl (hd c fs)
      · rw [List.getElem?_set_ne (Ne.symm hj)] at z
        exact z
    exact x.sep m k c c' fs fs' b dy b' dz (ni h1) (ni h2) h3 h4 hmk
end

/-! ### a list or dict that grows while it is out of sight (a comprehension's): frozen between the turns -/
section
variable {K : PySem.W.Frag} {cl : Cl} {W W1 : Wd} {h : Hs} {H H1 : Hp} {D : Addr}
def Acc (u : HO) : Prop := (∃ xs, u = .lst xs) ∨ ∃ ks, u = .dK ks
theorem Acc.no {u : HO} (a : Acc u) : (∀ xs, u ≠ .tup xs) ∧ (∀ o v, u ≠ .frz o v) ∧ (∀ φ, u ≠ .ext φ) ∧ ∀ fs, u ≠ .xd fs := by
  rcases a with ⟨xs, rfl⟩ | ⟨ks, rfl⟩ <;> exact ⟨fun _ z => (nomatch z), fun _ _ z => (nomatch z), fun _ z => (nomatch z), fun _ z => (nomatch z)⟩
/-- the world with D taken away, or with D changed: nothing that is known leans on D -/
structure Off (W : Wd) (H : Hp) (W1 : Wd) (H1 : Hp) (D : Addr) : Prop where
  pre : ∀ (n : Nat) (p : Addr × Addr), W.ρ[n]? = some p → W1.ρ[n]? = some p
  sub : ∀ a, a ≠ D → W.F a → W1.F a
  keep : ∀ a, a ≠ D → W.F a → H1 a = H a
  acc : ∃ u, H D = some u ∧ Acc u
theorem FzT.off {a : Addr} {xs : List V} (e : Off W H W1 H1 D) (x : FzT K W H a xs) : FzT K W1 H1 a xs := by
  obtain ⟨u, hu, ac⟩ := e.acc
  rcases x with ⟨h1, h2⟩ | x
  · have ne : a ≠ D := fun z => by
      rw [z] at h2
      rcases h2 with h2 | ⟨o, h2⟩
      · rw [hu] at h2; exact ac.no.1 _ (Option.some.inj h2)
      · rw [hu] at h2; exact ac.no.2.1 _ _ (Option.some.inj h2)
    refine .inl ⟨e.sub a ne h1, ?_⟩
    rcases h2 with h2 | ⟨o, h2⟩
    · exact .inl ((e.keep a ne h1).trans h2)
    · exact .inr ⟨o, (e.keep a ne h1).trans h2⟩
  · exact .inr x
theorem FzL.off {a : Addr} {xs : List V} (e : Off W H W1 H1 D) (x : FzL K W H a xs) : FzL K W1 H1 a xs := by
  obtain ⟨u, hu, ac⟩ := e.acc
  rcases x with ⟨h1, o, h2⟩ | x
  · have ne : a ≠ D := fun z => by
      rw [z, hu] at h2
      exact ac.no.2.1 _ _ (Option.some.inj h2)
    exact .inl ⟨e.sub a ne h1, o, (e.keep a ne h1).trans h2⟩
  · exact .inr x
mutual
theorem RV.off (e : Off W H W1 H1 D) : ∀ {d : DV} {x : V}, RV K cl W H d x → RV K cl W1 H1 d x
  | _, _, .non => .non
  | _, _, .bl b => .bl b
  | _, _, .int i => .int i
  | _, _, .str s => .str s
  | _, _, .ref h => .ref (e.pre _ _ h)
  | _, _, .tup h r => .tup (h.off e) (RVs.off e r)
  | _, _, .obj f1 f2 n h1 h2 r => by
    obtain ⟨u, hu, ac⟩ := e.acc
    have n1 : ∀ {a b c d : Addr} {vs : List (Option V)}, H a = some (SlO b c d vs) → a ≠ D := fun {a b c d vs} q z => by
      rw [z, hu] at q
      exact ac.no.2.2.1 _ (Option.some.inj q)
    have n2 : ∀ {a : Addr}, H a = some (.xd []) → a ≠ D := fun {a} q z => by
      rw [z, hu] at q
      exact ac.no.2.2.2 _ (Option.some.inj q)
    exact .obj (e.sub _ (n1 h1) f1) (e.sub _ (n2 h2) f2) n ((e.keep _ (n1 h1) f1).trans h1) ((e.keep _ (n2 h2) f2).trans h2) (RVs.off e r)
  | _, _, .scr h => .scr (h.off e)
  | _, _, .fls h r => .fls (h.off e) (RVs.off e r)
  | _, _, .exc f1 f2 n h1 h2 r => by
    obtain ⟨u, hu, ac⟩ := e.acc
    have n1 : ∀ {a : Addr} {φ : Heap → Prop}, H a = some (.ext φ) → a ≠ D := fun {a φ} q z => by
      rw [z, hu] at q
      exact ac.no.2.2.1 _ (Option.some.inj q)
    have n2 : ∀ {a : Addr} {fs : List (Str × V)}, H a = some (.xd fs) → a ≠ D := fun {a fs} q z => by
      rw [z, hu] at q
      exact ac.no.2.2.2 _ (Option.some.inj q)
    exact .exc (e.sub _ (n1 h1) f1) (e.sub _ (n2 h2) f2) n ((e.keep _ (n1 h1)  f1).trans h1) ((e.keep _ (n2 h2) f2).trans h2) (RV.off e r)
theorem RVs.off (e : Off W H W1 H1 D) : ∀ {ds : List DV} {xs : List V}, RVs K cl W H ds xs → RVs K cl W1 H1 ds xs
  | _, _, .nil => .nil
  | _, _, .cons r t => .cons (RV.off e r) (RVs.off e t)
end
theorem RKV.off (e : Off W H W1 H1 D) : ∀ {ds : List (DV × DV)} {xs : List (Key × V)}, RKV K cl W H ds xs → RKV K cl W1 H1 ds xs
  | _, _, .nil => .nil
  | _, _, .cons k r t => .cons k (r.off e) (RKV.off e t)
theorem ROs.off {ds : List (Option DV)} {xs : List (Option V)} (e : Off W H W1 H1 D) (r : ROs K cl W H ds xs) : ROs K cl W1 H1 ds xs := fun i d h => by
  obtain ⟨x, h1, h2⟩ := r i d h
  exact ⟨x, h1, h2.off e⟩
theorem RSl.off {ds : List (Option DV)} {xs : List (Option V)} (e : Off W H W1 H1 D) (r : RSl K cl W H ds xs) : RSl K cl W1 H1 ds xs := ⟨r.1, r.2.off e⟩
/-- D is none of the D heap's objects, nor an own dict of one -/
def Apart (W : Wd) (h : Hs) (D : Addr) : Prop := ∀ (n : Nat) (a dx : Addr), W.ρ[n]? = some (a, dx) → a ≠ D
theorem DOk.off {a dx : Addr} {o : DO} (e : Off W H W1 H1 D) (hρ : W1.ρ = W.ρ) (ne : a ≠ D) (st : ∀ b, b ≠ D → H1 b = H b) (fr : ∀ b, b ≠ D → W1.F b → W.F b) (x : DOk K cl W H a dx o) : DOk K cl W1 H1 a dx o := by
  obtain ⟨u, hu, ac⟩ := e.acc
  cases o with
  | lst ds =>
    obtain ⟨n, xs, h1, r⟩ := x
    exact ⟨fun q => n (fr a ne q), xs, (st a ne).trans h1, r.off e⟩
  | dic kvs =>
    obtain ⟨n, xs, h1, r⟩ := x
    exact ⟨fun q => n (fr a ne q), xs, (st a ne).trans h1, r.off e⟩
  | dfz kvs =>
    obtain ⟨n, od, xs, h1, r⟩ := x
    exact ⟨e.sub a ne n, od, xs, (st a ne).trans h1, r.off e⟩
  | ins c fs =>
    obtain ⟨n1, n2, nea, ⟨v, hv, ow⟩, vs, sl, r⟩ := x
    by_cases z : dx = D
    · exfalso
      rw [z, hu] at hv
      rw [← Option.some.inj hv] at ow
      rcases ow with ⟨y, ow⟩ | ow <;> rcases ac with ⟨xs, ac⟩ | ⟨ks, ac⟩ <;> (rw [ac] at ow; cases ow)
    · refine ⟨fun q => n1 (fr a ne q), fun q => n2 (fr dx z q), nea, ⟨v, (st dx z).trans hv, ow⟩, vs, ?_, r.off e⟩
      rcases sl with ⟨q1, q2⟩ | ⟨q1, q2⟩
      · exact .inl ⟨(st a ne).trans q1, q2⟩
      · exact .inr ⟨(st a ne).trans q1, (st dx z).trans q2⟩
  | dead => exact True.intro
  | pot n ds =>
    obtain ⟨n1, i, j, k, h1, r⟩ := x
    exact ⟨fun q => n1 (fr a ne q), i, j, k, (st a ne).trans h1, r⟩
theorem TabF.off {P : Addr} {q : Str} (x : TabF W H P q) (e : Off W H W1 H1 D) (st : ∀ b, b ≠ D → H1 b = H b) : TabF W1 H1 P q := by
  obtain ⟨u, hu, ac⟩ := e.acc
  obtain ⟨ps, h1, h2, h3⟩ := x
  have nP : P ≠ D := fun z => by
    rw [z, hu] at h1
    rcases ac with ⟨_, ac⟩ | ⟨_, ac⟩ <;> (rw [ac] at h1; cases h1)
  refine ⟨ps, (st P nP).trans h1, h2, fun pos cv y => ?_⟩
  obtain ⟨c, e1, e2, e3⟩ := h3 pos cv y
  have nc : c ≠ D := fun z => by
    rw [z, hu] at e3
    exact ac.no.2.2.1 _ (Option.some.inj e3)
  exact ⟨c, e1, e.sub c nc e2, (st c nc).trans e3⟩
theorem HRel.off (x : HRel K cl W h H) (e : Off W H W1 H1 D) (hρ : W1.ρ = W.ρ) (ap : Apart W h D) (st : ∀ b, b ≠ D → H1 b = H b) (fr : ∀ b, b ≠ D → W1.F b → W.F b) (tr : W1.F D → ∃ u, H1 D = some u) (ntD : W1.F D → ∀ ps, H1 D ≠ some (.tbl ps)) : HRel K cl W1 h H1 where
  len := by rw [hρ]; exact x.len
  nd := by rw [hρ]; exact x.nd
  tr := fun a q => by
    by_cases z : a = D
    · rw [z] at q ⊢; exact tr q
    · obtain ⟨u, hu⟩ := x.tr a (fr a z q)
      exact ⟨u, (st a z).trans hu⟩
  tr2 := fun p hp => by
    rw [hρ] at hp
    obtain ⟨n, hn⟩ := List.mem_iff_getElem?.mp hp
    obtain ⟨u, q, nu⟩ := x.tr2 p hp
    exact ⟨u, (st _ (ap n p.1 p.2 hn)).trans q, nu⟩
  ok := fun n o a dx h1 h2 => by
    rw [hρ] at h2
    exact (x.ok n o a dx h1 h2).off e hρ (ap n a dx h2) st fr
  sep := by rw [hρ]; exact x.sep
  tb := fun p hp => (x.tb p hp).off e st
  nt := fun t0 a q ps y => by
    by_cases z : a = D
    · rw [z] at q y; exact ntD q ps y
    · exact x.nt t0 a (fr a z q) ps ((st a z).symm.trans y)
/-- the accumulated list changes -/
theorem Off.wr {o : HO} (hD : ∃ u, H D = some u ∧ Acc u) : Off W H W (upd H D o) D := ⟨fun _ _ q => q, fun _ _ q => q, fun a ne _ => upd_ne ne, hD⟩
theorem HRel.accWr {o : HO} (x : HRel K cl W h H) (hD : ∃ u, H D = some u ∧ Acc u) (ap : Apart W h D) (no : ∀ ps, o ≠ .tbl ps) : HRel K cl W h (upd H D o) :=
  x.off (Off.wr hD) rfl ap (fun b ne => upd_ne ne) (fun _ _ q => q) (fun _ => ⟨o, upd_same⟩) fun _ ps z => no ps (Option.some.inj (upd_same.symm.trans z))
/-- it is let go: an object of the D heap from now on -/
def Wd.let (W : Wd) (D : Addr) : Wd := ⟨W.ρ ++ [(D, D)], fun a => W.F a ∧ a ≠ D⟩
theorem Off.let (hD : ∃ u, H D = some u ∧ Acc u) : Off W H (W.let D) H D := ⟨fun n q e => by
    show (W.ρ ++ [(D, D)])[n]? = some q
    rw [List.getElem?_append_left (List.getElem?_eq_some_iff.mp e).1]; exact e, fun a ne q => ⟨q, ne⟩, fun _ _ _ => rfl, hD⟩
theorem HRel.let {d : DO} (x : HRel K cl W h H) (hD : ∃ u, H D = some u ∧ Acc u) (ap : Apart W h D) (hd : ∀ c fs, d ≠ .ins c fs) (ok : DOk K cl (W.let D) H D D d) : HRel K cl (W.let D) (h ++ [d]) H where
  len := by
    show (h ++ [d]).length = (W.ρ ++ [(D, D)]).length
    rw [List.length_append, List.length_append, x.len]; rfl
  nd := by
    show ((W.ρ ++ [(D, D)]).map (·.1)).Nodup
    rw [List.map_append, List.nodup_append]
    refine ⟨x.nd, by simp, ?_⟩
    intro a ha b hb z
    simp at hb
    subst hb
    obtain ⟨q, hq, e⟩ := List.mem_map.mp ha
    obtain ⟨n, hn⟩ := List.mem_iff_getElem?.mp hq
    exact ap n q.1 q.2 hn (e.trans z)
  tr := fun a q => x.tr a q.1
  tr2 := fun p hp => by
    have hp : p ∈ W.ρ ++ [(D, D)] := hp
    rcases List.mem_append.mp hp with hp | hp
    · exact x.tr2 p hp
    · rw [List.mem_singleton.mp hp]
      obtain ⟨u, hu, ac⟩ := hD
      exact ⟨u, hu, fun ps y => by rcases ac with ⟨_, ac⟩ | ⟨_, ac⟩ <;> (rw [ac] at y; cases y)⟩
  ok := fun n o a dx h1 h2 => by
    have h2 : (W.ρ ++ [(D, D)])[n]? = some (a, dx) := h2
    rcases getElem?_snoc h1 with ⟨q, hn⟩ | ⟨q, q2⟩
    · rw [List.getElem?_append_left (by rw [← x.len]; exact hn)] at h2
      have z := x.ok n o a dx q h2
      have ne := ap n a dx h2
      have e := Off.let (W := W) hD
      cases o with
      | lst ds =>
        obtain ⟨n1, xs, q1, r⟩ := z
        exact ⟨fun q => n1 q.1, xs, q1, r.off e⟩
      | dic ds =>
        obtain ⟨n1, xs, q1, r⟩ := z
        exact ⟨fun q => n1 q.1, xs, q1, r.off e⟩
      | dfz ds =>
        obtain ⟨n1, od, xs, q1, r⟩ := z
        exact ⟨⟨n1, ne⟩, od, xs, q1, r.off e⟩
      | ins c fs =>
        obtain ⟨n1, n2, nea, ow, vs, sl, r⟩ := z
        exact ⟨fun q => n1 q.1, fun q => n2 q.1, nea, ow, vs, sl, r.off e⟩
      | dead => exact True.intro
      | pot m ds =>
        obtain ⟨n1, i, j, k, h1, r⟩ := z
        exact ⟨fun q => n1 q.1, i, j, k, h1, r⟩
    · rcases getElem?_snoc h2 with ⟨_, hn⟩ | ⟨_, q3⟩
      · rw [← x.len] at hn; omega
      · cases q3; subst q2; exact ok
  sep := fun n m c c' fs fs' a dx b dy h1 h2 h3 h4 hn => by
    have h3 : (W.ρ ++ [(D, D)])[n]? = some (a, dx) := h3
    have h4 : (W.ρ ++ [(D, D)])[m]? = some (b, dy) := h4
    rcases getElem?_snoc h1 with ⟨q, hn1⟩ | ⟨_, q2⟩
    · rcases getElem?_snoc h2 with ⟨q', hn2⟩ | ⟨_, q2⟩
      · rw [List.getElem?_append_left (by rw [← x.len]; exact hn1)] at h3
        rw [List.getElem?_append_left (by rw [← x.len]; exact hn2)] at h4
        exact x.sep n m c c' fs fs' a dx b dy q q' h3 h4 hn
      · exact absurd q2 (hd _ _)
    · exact absurd q2 (hd _ _)
  tb := fun p hp => (x.tb p hp).off (Off.let hD) fun _ _ => rfl
  nt := fun t0 a q => x.nt t0 a q.1
/-- what is apart stays so -/
theorem Apart.ext {h1 : Hs} (ap : Apart W h D) (e : Ext W H W1 H1) (hF : W.F D) : Apart W1 h1 D := fun n a dx q => by
  rcases e.new n (a, dx) q with z | z
  · exact ap n a dx z
  · exact fun y => z (by show W.F a; rw [y]; exact hF)
theorem Apart.fresh (x : HRel K cl W h H) (hD : H D = none) : Apart W h D := fun n a dx q z => by
  obtain ⟨u, hu, _⟩ := x.tr2 (a, dx) (List.mem_of_getElem? q)
  have hu : H a = some u := hu
  rw [z, hD] at hu
  cases hu
end
end D
set_option Elab.async false
set_option linter.all false
set_option maxRecDepth 100000
set_option maxHeartbeats 1000000
/-! D1: expressions. -/
namespace D
open PySem PySem.Spec PyProof.Rows L2 SlX

abbrev Ex := Sl → M DV
abbrev Exs := Sl → M (List DV)
abbrev Tx := Sl → M Bool
section
variable (K : PySem.W.Frag) (cl : Cl)
/-- what is wanted behind: any later world with the D heap h' and the value v -/
def Po (W : Wd) (H : Hp) (h' : Hs) (v : DV) (Q : VK) : Prop := ∀ W' H' x, Ext W H W' H' → HRel K cl W' h' H' → RV K cl W' H' v x → Q x H'
def tE (m : Ex) : TE := fun σ H Q => ∃ W h sl v h', HRel K cl W h H ∧ RSl K cl W H sl σ ∧ m sl h = .ok v h' ∧ Po K cl W H h' v Q
def tA (m : Exs) : TA := fun σ H Q => ∃ W h sl vs h', HRel K cl W h H ∧ RSl K cl W H sl σ ∧ m sl h = .ok vs h' ∧ ∀ W' H' xs, Ext W H W' H' → HRel K cl W' h' H' → RVs K cl W' H' vs xs → Q xs H'
def tT (m : Tx) : TT := fun σ H Q => ∃ W h sl b h', HRel K cl W h H ∧ RSl K cl W H sl σ ∧ m sl h = .ok b h' ∧ ∀ W' H', Ext W H W' H' → HRel K cl W' h' H' → Q b H'
/-- operations by values -/
def rD1 (g : DV → M DV) : V → Hp → VK → Prop := fun x H Q => ∃ W h d v h', HRel K cl W h H ∧ RV K cl W H d x ∧ g d h = .ok v h' ∧ Po K cl W H h' v Q
def rD2 (g : DV → DV → M DV) : R2 := fun x y H Q => ∃ W h d1 d2 v h', HRel K cl W h H ∧ RV K cl W H d1 x ∧ RV K cl W H d2 y ∧ g d1 d2 h = .ok v h' ∧ Po K cl W H h' v Q
def rDL (g : List DV → M DV) : List V → Hp → VK → Prop := fun xs H Q => ∃ W h ds v h', HRel K cl W h H ∧ RVs K cl W H ds xs ∧ g ds h = .ok v h' ∧ Po K cl W H h' v Q
/-- a def's promise -/
def spD (n : Nat) (g : List DV → M DV) : Sp := fun vs H Q _ => vs.length = n ∧ rDL K cl g vs H Q
end
abbrev DE (cl : Cl) (X : Cx) (e : Expr) (m : Ex) : Prop := PE X e (tE X.K cl m)
abbrev DA (cl : Cl) (X : Cx) (es : List Expr) (m : Exs) : Prop := PA X es (tA X.K cl m)
abbrev DT (cl : Cl) (X : Cx) (e : Expr) (m : Tx) : Prop := PT X e (tT X.K cl m)
abbrev DW (cl : Cl) (X : Cx) (e : Expr) (m : Tx) : Prop := PW X e (tT X.K cl m)
abbrev O2 (cl : Cl) (X : Cx) (f : Value → Value → Sem Value) (g : DV → DV → M DV) : Prop := OpR X f (rD2 X.K cl g)
abbrev O1 (cl : Cl) (X : Cx) (f : Value → Sem Value) (g : DV → M DV) : Prop := UnR X f (rD1 X.K cl g)
abbrev CD (cl : Cl) (X : Cx) (f : Value) (g : List DV → M DV) : Prop := CallR X f (rDL X.K cl g)

section
variable {K : PySem.W.Frag} {cl : Cl} {W W1 : Wd} {H H1 : Hp} {h h' : Hs}
theorem _root_.L2.PE.mono {X : Cx} {e : Expr} {t t' : TE} (p : PE X e t) (f : ∀ σ H Q, t' σ H Q → t σ H Q) : PE X e t' := ⟨fun pins s σ H Q I q => p.run pins s σ H Q I (f _ _ _ q)⟩
theorem _root_.L2.PT.mono {X : Cx} {e : Expr} {t t' : TT} (p : PT X e t) (f : ∀ σ H Q, t' σ H Q → t σ H Q) : PT X e t' := ⟨fun pins s σ H Q I q => p.run pins s σ H Q I (f _ _ _ q)⟩
theorem _root_.L2.PW.mono {X : Cx} {e : Expr} {t t' : TT} (p : PW X e t) (f : ∀ σ H Q, t' σ H Q → t σ H Q) : PW X e t' := ⟨fun w pins s σ H Q I q => p.run w pins s σ H Q I (f _ _ _ q)⟩
theorem _root_.L2.PA.mono {X : Cx} {es : List Expr} {t t' : TA} (p : PA X es t) (f : ∀ σ H Q, t' σ H Q → t σ H Q) : PA X es t' := ⟨fun pos pins s σ H Q I q => p.run pos pins s σ H Q I (f _ _ _ q)⟩
theorem Po.go {v : DV} {Q : VK} (e : Ext W H W1 H1) (p : Po K cl W H h' v Q) : Po K cl W1 H1 h' v Q := fun W' H' x e' r v' => p W' H' x (e.trans e') r v'
/-- here and now -/
theorem Po.now {v : DV} {x : V} {Q : VK} (p : Po K cl W H h v Q) (r : HRel K cl W h H) (rv : RV K cl W H v x) : Q x H := p W H x .refl r rv

/-! ### names and constants -/
def eSlot (i : Nat) : Ex := fun sl => match sl[i]? with
  | some (some v) => ret v
  | _ => stk
def eC (v : DV) : Ex := fun _ => ret v
variable {X : Cx} {pos : Pos}
theorem de_var {i : Nat} {x : Str} (hN : X.N[i]? = some x) (hv : Vis X.env.scope x) (hd : (x == ("__debug__" : Str)) = false := by decide) (hcd : (x == ("__classdict__" : Str)) = false := by decide) : DE cl X (.Name x pos) (eSlot i) := by
  refine (pe_var hN hv hd hcd).mono fun σ H Q q => ?_
  obtain ⟨W, h, sl, v, h', rel, rs, e, po⟩ := q
  unfold eSlot at e
  cases q : sl[i]? with
  | none => rw [q] at e; cases e
  | some o =>
    cases o with
    | none => rw [q] at e; cases e
    | some d =>
      rw [q] at e
      obtain ⟨rfl, rfl⟩ := ret_ok e
      obtain ⟨x, e1, r⟩ := rs.2 i d q
      exact ⟨x, e1, po.now rel r⟩
theorem de_c {e : Expr} {v : V} {d : DV} (p : PE X e (tC v)) (r : ∀ W H, RV X.K cl W H d v) : DE cl X e (eC d) := p.mono fun σ H Q q => by
  obtain ⟨W, h, sl, v, h', rel, rs, e, po⟩ := q
  obtain ⟨rfl, rfl⟩ := ret_ok e
  exact po.now rel (r W H)
theorem de_int {i : Int} {j} : DE cl X (.Constant (.int i) j pos) (eC (.int i)) := de_c pe_int fun _ _ => .int i
theorem de_bl {b : Bool} {j} : DE cl X (.Constant (.bool b) j pos) (eC (.bl b)) := de_c pe_bl fun _ _ => .bl b
theorem de_non {j} : DE cl X (.Constant .none j pos) (eC .non) := de_c pe_non fun _ _ => .non
theorem de_str {x : Str} {j} : DE cl X (.Constant (.str x) j pos) (eC (.str x.cps.toList)) := de_c pe_str fun _ _ => by
  have q := RV.str (K := X.K) (cl := cl) (W := ‹_›) (H := ‹_›) x.cps.toList
  rw [SX.S_tl] at q
  exact q

/-! ### two, three in a row -/
theorem te_then {m : Ex} {f : DV → Sl → M DV} {σ : L2.St} {Q : VK} (q : tE K cl (fun sl => bnd (m sl) fun d => f d sl) σ H Q) :
    tE K cl m σ H fun x H1 => ∃ W h sl d v h', HRel K cl W h H1 ∧ RSl K cl W H1 sl σ ∧ RV K cl W H1 d x ∧ f d sl h = .ok v h' ∧ Po K cl W H1 h' v Q := by
  obtain ⟨W, h, sl, v, h', rel, rs, e, po⟩ := q
  obtain ⟨d, h1, e1, e2⟩ := bnd_ok e
  exact ⟨W, h, sl, d, h1, rel, rs, e1, fun W' H' x ext rel' rv => ⟨W', h1, sl, d, v, h', rel', rs.mono ext, rv, e2, po.go ext⟩⟩
theorem te_then2 {a b : Ex} {g : DV → DV → M DV} {σ : L2.St} {Q : VK} (q : tE K cl (fun sl => bnd (a sl) fun x => bnd (b sl) fun y => g x y) σ H Q) :
    tE K cl a σ H fun x H1 => tE K cl b σ H1 fun y H2 => rD2 K cl g x y H2 Q := by
  obtain ⟨W, h, sl, v, h', rel, rs, e, po⟩ := q
  obtain ⟨d, h1, e1, e2⟩ := bnd_ok e
  obtain ⟨d2, h2, e3, e4⟩ := bnd_ok e2
  exact ⟨W, h, sl, d, h1, rel, rs, e1, fun W1 H1 x ext rel1 rv => ⟨W1, h1, sl, d2, h2, rel1, rs.mono ext, e3, fun W2 H2 y ext2 rel2 rv2 =>
    ⟨W2, h2, d, d2, v, h', rel2, rv.mono ext2, rv2, e4, (po.go ext).go ext2⟩⟩⟩
def eOp (g : DV → DV → M DV) (a b : Ex) : Ex := fun sl => bnd (a sl) fun x => bnd (b sl) fun y => g x y
def eUn (g : DV → M DV) (a : Ex) : Ex := fun sl => bnd (a sl) g
variable {a b c : Expr} {ma mb mc : Ex}
theorem de_op {op : Operator} {g : DV → DV → M DV} (ho : O2 cl X (binaryOp op) g) (ha : DE cl X a ma) (hb : DE cl X b mb) : DE cl X (.BinOp a op b pos) (eOp g ma mb) := (pe_op ho ha hb).mono fun _ _ _ q => te_then2 q
theorem de_cmp {op : CmpOp} {g : DV → DV → M DV} (ho : O2 cl X (compareOp op) g) (ha : DE cl X a ma) (hb : DE cl X b mb) (hm : behindInMarks op b = false) : DE cl X (.Compare a [op] [b] pos) (eOp g ma mb) := (pe_cmpR ho ha hb hm).mono fun _ _ _ q => te_then2 q
theorem de_un {op : UnaryOp} {g : DV → M DV} (ho : O1 cl X (unaryOp op) g) (ha : DE cl X a ma) : DE cl X (.UnaryOp op a pos) (eUn g ma) := (pe_un ho ha).mono fun σ H Q q => by
  obtain ⟨W, h, sl, v, h', rel, rs, e, po⟩ := te_then (f := fun d _ => g d) q
  refine ⟨W, h, sl, v, h', rel, rs, e, fun W' H' x ext rel' rv => ?_⟩
  obtain ⟨W1, h1, sl1, d, v1, h2, r1, _, r3, r4, r5⟩ := po W' H' x ext rel' rv
  exact ⟨W1, h1, d, v1, h2, r1, r3, r4, r5⟩
def eIx (g : DV → DV → M DV) (a b : Ex) : Ex := eOp g a b
theorem de_ix {g : DV → DV → M DV} (ho : IxR X (rD2 X.K cl g)) (ha : DE cl X a ma) (hb : DE cl X b mb) (hs : PlainIx b) : DE cl X (.Subscript a b pos) (eOp g ma mb) := (pe_ix ho ha hb hs).mono fun _ _ _ q => te_then2 q

/-! ### argument lists, displays -/
def aNil : Exs := fun _ => ret []
def aCons (m : Ex) (ms : Exs) : Exs := fun sl => bnd (m sl) fun d => bnd (ms sl) fun ds => ret (d :: ds)
variable {es : List Expr} {ms : Exs}
theorem da_nil : DA cl X [] aNil := pa_nil.mono fun σ H Q q => by
  obtain ⟨W, h, sl, v, h', rel, rs, e, po⟩ := q
  obtain ⟨rfl, rfl⟩ := ret_ok e
  exact po W H [] .refl rel .nil
theorem da_cons (ha : DE cl X a ma) (hr : DA cl X es ms) (hs : starEach (a :: es) X.env = (false, eval a X.env) :: starEach es X.env := by rfl) : DA cl X (a :: es) (aCons ma ms) := (pa_cons ha hr hs).mono fun σ H Q q => by
  obtain ⟨W, h, sl, v, h', rel, rs, e, po⟩ := q
  obtain ⟨d, h1, e1, e2⟩ := bnd_ok e
  obtain ⟨ds, h2, e3, e4⟩ := bnd_ok e2
  obtain ⟨rfl, rfl⟩ := ret_ok e4
  exact ⟨W, h, sl, d, h1, rel, rs, e1, fun W1 H1 x ext rel1 rv => ⟨W1, h1, sl, ds, h2, rel1, rs.mono ext, e3, fun W2 H2 xs ext2 rel2 rvs =>
    po W2 H2 (x :: xs) (ext.trans ext2) rel2 (.cons (rv.mono ext2) rvs)⟩⟩
theorem ta_then {m : Exs} {g : List DV → M DV} {σ : L2.St} {Q : VK} (q : tE K cl (fun sl => bnd (m sl) g) σ H Q) : tA K cl m σ H fun xs H1 => rDL K cl g xs H1 Q := by
  obtain ⟨W, h, sl, v, h', rel, rs, e, po⟩ := q
  obtain ⟨d, h1, e1, e2⟩ := bnd_ok e
  exact ⟨W, h, sl, d, h1, rel, rs, e1, fun W' H' xs ext rel' rv => ⟨W', h1, d, v, h', rel', rv, e2, po.go ext⟩⟩
def fits (n : Nat) : Bool := Nat.ble n 16777216
theorem fits_ok {n : Nat} (h : fits n = true) : n ≤ sizeLine := by
  rw [sizeLine_eq]; exact Nat.le_of_ble_eq_true h
def tupD (ds : List DV) : M DV := if fits ds.length then ret (.tup ds) else stk
def lstD (ds : List DV) : M DV := if fits ds.length then fun h => .ok (.ref h.length) (h ++ [.lst ds]) else stk
theorem fit_if {α : Type} {n : Nat} {m : M α} {v : α} (e : (if fits n then m else stk) h = .ok v h') : n ≤ sizeLine ∧ m h = .ok v h' := by
  cases q : fits n with
  | false => rw [q] at e; cases e
  | true => rw [q] at e; exact ⟨fits_ok q, e⟩
/-- a new tuple -/
theorem po_tup {ds : List DV} {xs : List V} {Q : VK} (po : Po K cl W H h (.tup ds) Q) (rel : HRel K cl W h H) (r : RVs K cl W H ds xs) (p : Addr) (hp : H p = none) : Q (.ref p) (upd H p (.tup xs)) :=
  po _ _ _ (ext_new hp rel) (rel.new hp) (rv_tup rel hp r)
theorem po_lst {ds : List DV} {xs : List V} {Q : VK} (po : Po K cl W H (h ++ [.lst ds]) (.ref h.length) Q) (rel : HRel K cl W h H) (r : RVs K cl W H ds xs) (p : Addr) (hp : H p = none) : Q (.ref p) (upd H p (.lst xs)) := by
  have e := ext_add (o := .lst xs) hp rel
  refine po _ _ _ e (rel.add hp (fun _ _ z => by cases z) ⟨fun q => ?_, xs, upd_same, r.mono e⟩) (.ref (d := p) ?_)
  · obtain ⟨u, hu⟩ := rel.tr p q
    rw [hp] at hu; cases hu
  · show (W.ρ ++ [(p, p)])[h.length]? = some (p, p)
    rw [rel.len]; simp
def eTup (ms : Exs) : Ex := fun sl => bnd (ms sl) tupD
def eLst (ms : Exs) : Ex := fun sl => bnd (ms sl) lstD
theorem de_tup {x1} (hm : DA cl X es ms) : DE cl X (.Tuple es x1 pos) (eTup ms) := (pe_tup hm).mono fun σ H Q q => by
  obtain ⟨W, h, sl, v, h', rel, rs, e, po⟩ := ta_then q
  refine ⟨W, h, sl, v, h', rel, rs, e, fun W' H' xs ext rel' rv => ?_⟩
  obtain ⟨W1, h1, ds, v1, h2, r1, r2, r3, r4⟩ := po W' H' xs ext rel' rv
  obtain ⟨z, r3⟩ := fit_if r3
  obtain ⟨rfl, rfl⟩ := ret_ok r3
  exact ⟨by rw [← r2.length]; exact z, fun p hp => po_tup r4 r1 r2 p hp⟩
theorem de_lst (hm : DA cl X es ms) : DE cl X (.List es pos) (eLst ms) := (pe_lst hm).mono fun σ H Q q => by
  obtain ⟨W, h, sl, v, h', rel, rs, e, po⟩ := ta_then q
  refine ⟨W, h, sl, v, h', rel, rs, e, fun W' H' xs ext rel' rv => ?_⟩
  obtain ⟨W1, h1, ds, v1, h2, r1, r2, r3, r4⟩ := po W' H' xs ext rel' rv
  obtain ⟨z, r3⟩ := fit_if r3
  cases r3
  exact ⟨by rw [← r2.length]; exact z, fun p hp => po_lst r4 r1 r2 p hp⟩

/-! ### calls -/
def eCall (g : List DV → M DV) (ms : Exs) : Ex := fun sl => bnd (ms sl) g
variable {x : Str} {p : Pos} {e : Expr}
theorem de_callB {id : String} {g : List DV → M DV} (hc : CD cl X (.builtin id) g) (hg : Gl X x) (hm : X.mg x = none) (hv : bootBuiltins x = some (.builtin id)) (ha : DA cl X (e :: es) ms) (hn : x ≠ "__name__" := by decide) (hdb : (x == ("__debug__" : Str)) = false := by decide)
    (he : starEach (e :: es) X.env = (false, eval e X.env) :: starEach es X.env := by rfl) (hpl : (backTo pos (starEach es X.env)).any (·.1) = false := by rfl) : DE cl X (.Call (.Name x p) (e :: es) [] pos) (eCall g ms) :=
  (pe_callB hc hg hm hv ha hn hdb he hpl).mono fun _ _ _ q => ta_then q
theorem de_callTy {T : String} {g : List DV → M DV} (hc : CD cl X (.type T) g) (hg : Gl X x) (hm : X.mg x = none) (hv : bootBuiltins x = some (.type T)) (ha : DA cl X (e :: es) ms) (hn : x ≠ "__name__" := by decide) (hdb : (x == ("__debug__" : Str)) = false := by decide)
    (he : starEach (e :: es) X.env = (false, eval e X.env) :: starEach es X.env := by rfl) (hpl : (backTo pos (starEach es X.env)).any (·.1) = false := by rfl) : DE cl X (.Call (.Name x p) (e :: es) [] pos) (eCall g ms) :=
  (pe_callTy hc hg hm hv ha hn hdb he hpl).mono fun _ _ _ q => ta_then q
/-- a def that may be called by its name with n arguments -/
def Cal (P : Program) (w : World) (K : PySem.W.Frag) (mg : Str → Option Value) (base : Heap) (cl : Cl) (k : Nat) (x : Str) (n : Nat) (g : List DV → M DV) : Prop :=
  ∃ (f : Addr) (fd : FuncData) (ps : List Str), FnOk P w K mg base L2.CX0 k f fd ps (spD K cl n g) ∧ mg x = some (.ref f) ∧ PySem.W.keepIn K (.ref f) = true ∧ Binds K fd ps []
theorem de_call {k j n : Nat} {g : List DV → M DV} (C : Cal X.prog X.w X.K X.mg X.base cl k x n g) (hr : Room j X.A) (hk : k ≤ j) (hg : Gl X x) (ha : DA cl X (e :: es) ms) (hl : (e :: es).length = n)
    (hn : ∀ sl h vs h', ms sl h = .ok vs h' → vs.length = n)
    (hdb : (x == ("__debug__" : Str)) = false := by decide) (he : starEach (e :: es) X.env = (false, eval e X.env) :: starEach es X.env := by rfl) (hpl : (backTo pos (starEach es X.env)).any (·.1) = false := by rfl) :
    DE cl X (.Call (.Name x p) (e :: es) [] pos) (eCall g ms) := by
  obtain ⟨f, fd, ps, F, hm, hkp, hb⟩ := C
  refine (pe_call F (hr.mono hk) hg hm hkp hb .nil (L2.pass0) ha hdb he hpl).mono fun σ H Q q => ?_
  obtain ⟨W, h, sl, v, h', rel, rs, e, po⟩ := q
  obtain ⟨d, h1, e1, e2⟩ := bnd_ok e
  refine ⟨W, h, sl, d, h1, rel, rs, e1, fun W' H' xs ext rel' rv => ?_⟩
  show spD X.K cl n g (xs ++ []) H' Q E0
  rw [List.append_nil]
  exact ⟨by rw [← rv.length]; exact hn _ _ _ _ e1, W', h1, d, v, h', rel', rv, e2, po.go ext⟩
theorem len_nil {sl : Sl} {vs : List DV} (e : aNil sl h = .ok vs h') : vs.length = 0 := by
  obtain ⟨rfl, _⟩ := ret_ok e; rfl
theorem len_cons {n : Nat} {m : Ex} {ms : Exs} (hn : ∀ sl h vs h', ms sl h = .ok vs h' → vs.length = n) : ∀ sl h vs h', aCons m ms sl h = .ok vs h' → vs.length = n + 1 := fun sl h vs h' e => by
  obtain ⟨d, h1, e1, e2⟩ := bnd_ok e
  obtain ⟨ds, h2, e3, e4⟩ := bnd_ok e2
  obtain ⟨rfl, rfl⟩ := ret_ok e4
  rw [List.length_cons, hn _ _ _ _ e3]

/-! ### truth, tests -/
def truD (d : DV) : M Bool := match d with
  | .non => ret false
  | .bl b => ret b
  | .int i => ret (i != 0)
  | .str s => if fits s.length then ret (!s.isEmpty) else stk
  | .tup ds => ret (!ds.isEmpty)
  | .scr ns => ret (!ns.isEmpty)
  | .fls ds => ret (!ds.isEmpty)
  | .ref n => fun h => match h[n]? with
    | some (.lst ds) => .ok (!ds.isEmpty) h
    | some (.dic ks) => .ok (!ks.isEmpty) h
    | _ => .stuck
  | .obj _ _ => stk
  | .exc _ _ => stk
theorem isEmpty_rvs {ds : List DV} {xs : List V} (r : RVs K cl W H ds xs) : xs.isEmpty = ds.isEmpty := by cases r <;> rfl
theorem isEmpty_rkv {ds : List (DV × DV)} {xs : List (Key × V)} (r : RKV K cl W H ds xs) : xs.isEmpty = ds.isEmpty := by cases r <;> rfl
theorem S_len0 (s : List Nat) : (((SX.S s).length : Int) != 0) = !s.isEmpty := by
  rw [SX.S_len]
  cases s with
  | nil => rfl
  | cons c r => simp; omega
theorem truD_ok {d : DV} {x : V} {b : Bool} (rel : HRel K cl W h H) (r : RV K cl W H d x) (e : truD d h = .ok b h') : h' = h ∧ TruV K x H b := by
  cases r with
  | non => obtain ⟨rfl, rfl⟩ := ret_ok e; exact ⟨rfl, rfl⟩
  | bl b => obtain ⟨rfl, rfl⟩ := ret_ok e; exact ⟨rfl, rfl⟩
  | int i => obtain ⟨rfl, rfl⟩ := ret_ok e; exact ⟨rfl, rfl⟩
  | str s =>
    obtain ⟨z, e⟩ := fit_if e
    obtain ⟨rfl, rfl⟩ := ret_ok e
    exact ⟨rfl, by rw [SX.S_len]; exact z, (S_len0 s).symm⟩
  | tup f r => obtain ⟨rfl, rfl⟩ := ret_ok e; exact ⟨rfl, .inr (.inl ⟨_, f.sq, by rw [isEmpty_rvs r]⟩)⟩
  | fls f r => obtain ⟨rfl, rfl⟩ := ret_ok e; exact ⟨rfl, .inl ⟨_, f.sq, by rw [isEmpty_rvs r]⟩⟩
  | scr f =>
    obtain ⟨rfl, rfl⟩ := ret_ok e
    refine ⟨rfl, .inl ⟨_, f.sq, ?_⟩⟩
    rename_i ns _
    cases ns <;> rfl
  | obj => cases e
  | exc => cases e
  | ref hn =>
    rename_i n a dx
    have e' : (match h[n]? with
    | some (.lst ds) => R.ok (!ds.isEmpty) h
    | some (.dic ks) => R.ok (!ks.isEmpty) h
    | _ => R.stuck) = R.ok b h' := e
    cases q : h[n]? with
    | none => rw [q] at e'; cases e'
    | some o =>
      rw [q] at e'
      cases o with
      | lst ds =>
        cases e'
        obtain ⟨_, xs, h1, r⟩ := rel.ok n _ a dx q hn
        exact ⟨rfl, .inl ⟨xs, SqL.of h1, by rw [isEmpty_rvs r]⟩⟩
      | dic ks =>
        cases e'
        obtain ⟨_, xs, h1, r⟩ := rel.ok n _ a dx q hn
        exact ⟨rfl, .inr (.inr ⟨xs, h1, by rw [isEmpty_rkv r]⟩)⟩
      | dfz ks => cases e'
      | ins c fs => cases e'
      | dead => cases e'
      | pot _ _ => cases e'
/-- a value as a test -/
def bE (m : Ex) : Tx := fun sl => bnd (m sl) truD
theorem dt_e (ha : DE cl X a ma) (he : ∀ whole, isTrue a X.env whole = (do let v ← whole; standAt a.pos; holding [v] (truthy v)) := by intro _; rfl) : DT cl X a (bE ma) := (pt_truth ha he).mono fun σ H Q q => by
  obtain ⟨W, h, sl, v, h', rel, rs, e, po⟩ := q
  obtain ⟨d, h1, e1, e2⟩ := bnd_ok e
  refine ⟨W, h, sl, d, h1, rel, rs, e1, fun W' H' x ext rel' rv => ?_⟩
  obtain ⟨rfl, t⟩ := truD_ok rel' rv e2
  exact ⟨v, t, po W' H' ext rel'⟩
/-- a bool that comes out of an operation -/
def boolOf (d : DV) : M Bool := match d with
  | .bl b => ret b
  | _ => stk
theorem boolOf_ok {d : DV} {b : Bool} (e : boolOf d h = .ok b h') : d = .bl b ∧ h' = h := by
  cases d <;> first | (obtain ⟨rfl, rfl⟩ := ret_ok e; exact ⟨rfl, rfl⟩) | cases e
def bCmp (g : DV → DV → M DV) (a b : Ex) : Tx := fun sl => bnd (a sl) fun x => bnd (b sl) fun y => bnd (g x y) boolOf
theorem tt_then2 {a b : Ex} {g : DV → DV → M DV} {σ : L2.St} {Q : Bool → Hp → Prop} (q : tT K cl (bCmp g a b) σ H Q) :
    tE K cl a σ H fun x H1 => tE K cl b σ H1 fun y H2 => rD2 K cl g x y H2 fun z H3 => ∃ k, z = .bl k ∧ Q k H3 := by
  obtain ⟨W, h, sl, v, h', rel, rs, e, po⟩ := q
  obtain ⟨d, h1, e1, e2⟩ := bnd_ok e
  obtain ⟨d2, h2, e3, e4⟩ := bnd_ok e2
  obtain ⟨d3, h3, e5, e6⟩ := bnd_ok e4
  obtain ⟨rfl, rfl⟩ := boolOf_ok e6
  exact ⟨W, h, sl, d, h1, rel, rs, e1, fun W1 H1 x ext rel1 rv => ⟨W1, h1, sl, d2, h2, rel1, rs.mono ext, e3, fun W2 H2 y ext2 rel2 rv2 =>
    ⟨W2, h2, d, d2, .bl v, h', rel2, rv.mono ext2, rv2, e5, fun W3 H3 z ext3 rel3 rv3 => by
      cases rv3
      exact ⟨v, rfl, po W3 H3 ((ext.trans ext2).trans ext3) rel3⟩⟩⟩⟩
theorem dt_cmp {op : CmpOp} {g : DV → DV → M DV} (ho : O2 cl X (compareOp op) g) (ha : DE cl X a ma) (hb : DE cl X b mb) (hm : behindInMarks op b = false) : DT cl X (.Compare a [op] [b] pos) (bCmp g ma mb) := (pt_cmpR ho ha hb hm).mono fun _ _ _ q => tt_then2 q
def bAnd (a b : Tx) : Tx := fun sl => bnd (a sl) fun x => if x then b sl else ret false
def bOr (a b : Tx) : Tx := fun sl => bnd (a sl) fun x => if x then ret true else b sl
def bNot (a : Tx) : Tx := fun sl => bnd (a sl) fun x => ret (!x)
variable {ta tb : Tx} {rest : List Expr}
theorem dt_not (ha : DT cl X a ta) : DT cl X (.UnaryOp .Not a pos) (bNot ta) := (pt_not ha).mono fun σ H Q q => by
  obtain ⟨W, h, sl, v, h', rel, rs, e, po⟩ := q
  obtain ⟨d, h1, e1, e2⟩ := bnd_ok e
  obtain ⟨rfl, rfl⟩ := ret_ok e2
  exact ⟨W, h, sl, d, h1, rel, rs, e1, po⟩
theorem dw_and1 (ha : DT cl X a ta) : DW cl X (.BoolOp .And [a] pos) ta := pw_and1 ha
theorem dw_or1 (ha : DT cl X a ta) : DW cl X (.BoolOp .Or [a] pos) ta := pw_or1 ha
theorem dw_and (ha : DT cl X a ta) (hb : DW cl X (.BoolOp .And (b :: rest) pos) tb) : DW cl X (.BoolOp .And (a :: b :: rest) pos) (bAnd ta tb) := (pw_and ha hb).mono fun σ H Q q => by
  obtain ⟨W, h, sl, v, h', rel, rs, e, po⟩ := q
  obtain ⟨d, h1, e1, e2⟩ := bnd_ok e
  refine ⟨W, h, sl, d, h1, rel, rs, e1, fun W1 H1 ext rel1 => ?_⟩
  cases d with
  | true => exact iteT ⟨W1, h1, sl, v, h', rel1, rs.mono ext, e2, fun W2 H2 ext2 rel2 => po W2 H2 (ext.trans ext2) rel2⟩
  | false =>
    obtain ⟨rfl, rfl⟩ := ret_ok e2
    exact iteF (po W1 H1 ext rel1)
theorem dw_or (ha : DT cl X a ta) (hb : DW cl X (.BoolOp .Or (b :: rest) pos) tb) : DW cl X (.BoolOp .Or (a :: b :: rest) pos) (bOr ta tb) := (pw_or ha hb).mono fun σ H Q q => by
  obtain ⟨W, h, sl, v, h', rel, rs, e, po⟩ := q
  obtain ⟨d, h1, e1, e2⟩ := bnd_ok e
  refine ⟨W, h, sl, d, h1, rel, rs, e1, fun W1 H1 ext rel1 => ?_⟩
  cases d with
  | false => exact iteF ⟨W1, h1, sl, v, h', rel1, rs.mono ext, e2, fun W2 H2 ext2 rel2 => po W2 H2 (ext.trans ext2) rel2⟩
  | true =>
    obtain ⟨rfl, rfl⟩ := ret_ok e2
    exact iteT (po W1 H1 ext rel1)
theorem DW.dt (p : DW cl X a ta) : DT cl X a ta := PW.pt p
/-- a if t else b -/
def eIf (t : Tx) (a b : Ex) : Ex := fun sl => bnd (t sl) fun x => if x then a sl else b sl
theorem de_if (hc : DT cl X c ta) (ha : DE cl X a ma) (hb : DE cl X b mb) : DE cl X (.IfExp c a b pos) (eIf ta ma mb) := (pe_ifExp hc ha hb).mono fun σ H Q q => by
  obtain ⟨W, h, sl, v, h', rel, rs, e, po⟩ := q
  obtain ⟨d, h1, e1, e2⟩ := bnd_ok e
  refine ⟨W, h, sl, d, h1, rel, rs, e1, fun W1 H1 ext rel1 => ?_⟩
  cases d with
  | true => exact iteT ⟨W1, h1, sl, v, h', rel1, rs.mono ext, e2, po.go ext⟩
  | false => exact iteF ⟨W1, h1, sl, v, h', rel1, rs.mono ext, e2, po.go ext⟩
/-- and, or, not as values -/
def eAnd (a b : Ex) : Ex := fun sl => bnd (a sl) fun x => bnd (truD x) fun k => if k then b sl else ret x
def eOr (a b : Ex) : Ex := fun sl => bnd (a sl) fun x => bnd (truD x) fun k => if k then ret x else b sl
def eNot (a : Ex) : Ex := fun sl => bnd (a sl) fun x => bnd (truD x) fun k => ret (.bl (!k))
theorem de_one {op} (ha : DE cl X a ma) : DE cl X (.BoolOp op [a] pos) ma := pe_one ha
theorem de_and (ha : DE cl X a ma) (hb : DE cl X (.BoolOp .And (b :: rest) pos) mb) : DE cl X (.BoolOp .And (a :: b :: rest) pos) (eAnd ma mb) := (pe_andT ha hb).mono fun σ H Q q => by
  obtain ⟨W, h, sl, v, h', rel, rs, e, po⟩ := q
  obtain ⟨d, h1, e1, e2⟩ := bnd_ok e
  obtain ⟨k, h2, e3, e4⟩ := bnd_ok e2
  refine ⟨W, h, sl, d, h1, rel, rs, e1, fun W1 H1 x ext rel1 rv => ?_⟩
  obtain ⟨rfl, t⟩ := truD_ok rel1 rv e3
  refine ⟨k, t, ?_⟩
  cases k with
  | true => exact iteT ⟨W1, _, sl, v, h', rel1, rs.mono ext, e4, po.go ext⟩
  | false =>
    obtain ⟨rfl, rfl⟩ := ret_ok e4
    exact iteF (po W1 H1 x ext rel1 rv)
theorem de_or (ha : DE cl X a ma) (hb : DE cl X (.BoolOp .Or (b :: rest) pos) mb) : DE cl X (.BoolOp .Or (a :: b :: rest) pos) (eOr ma mb) := (pe_orT ha hb).mono fun σ H Q q => by
  obtain ⟨W, h, sl, v, h', rel, rs, e, po⟩ := q
  obtain ⟨d, h1, e1, e2⟩ := bnd_ok e
  obtain ⟨k, h2, e3, e4⟩ := bnd_ok e2
  refine ⟨W, h, sl, d, h1, rel, rs, e1, fun W1 H1 x ext rel1 rv => ?_⟩
  obtain ⟨rfl, t⟩ := truD_ok rel1 rv e3
  refine ⟨k, t, ?_⟩
  cases k with
  | false => exact iteF ⟨W1, _, sl, v, h', rel1, rs.mono ext, e4, po.go ext⟩
  | true =>
    obtain ⟨rfl, rfl⟩ := ret_ok e4
    exact iteT (po W1 H1 x ext rel1 rv)
theorem de_not (ha : DE cl X a ma) : DE cl X (.UnaryOp .Not a pos) (eNot ma) := (pe_notT ha).mono fun σ H Q q => by
  obtain ⟨W, h, sl, v, h', rel, rs, e, po⟩ := q
  obtain ⟨d, h1, e1, e2⟩ := bnd_ok e
  obtain ⟨k, h2, e3, e4⟩ := bnd_ok e2
  obtain ⟨rfl, rfl⟩ := ret_ok e4
  refine ⟨W, h, sl, d, h1, rel, rs, e1, fun W1 H1 x ext rel1 rv => ?_⟩
  obtain ⟨rfl, t⟩ := truD_ok rel1 rv e3
  exact ⟨k, t, po W1 H1 _ ext rel1 (.bl _)⟩
/-- a < b < c -/
def eChain (g g' : DV → DV → M DV) (a b c : Ex) : Ex := fun sl => bnd (a sl) fun x => bnd (b sl) fun y => bnd (g x y) fun z => bnd (boolOf z) fun k => if k then bnd (c sl) fun u => g' y u else ret (.bl false)
theorem te_chain {ma mb mc : Ex} {g g' : DV → DV → M DV} {σ : L2.St} {Q : VK} (q : tE K cl (eChain g g' ma mb mc) σ H Q) : tChain (rD2 K cl g) (rD2 K cl g') (tE K cl ma) (tE K cl mb) (tE K cl mc) σ H Q := by
  obtain ⟨W, h, sl, v, h', rel, rs, e, po⟩ := q
  obtain ⟨d, h1, e1, e2⟩ := bnd_ok e
  obtain ⟨d2, h2, e3, e4⟩ := bnd_ok e2
  obtain ⟨d3, h3, e5, e6⟩ := bnd_ok e4
  obtain ⟨k, h4, e7, e8⟩ := bnd_ok e6
  obtain ⟨rfl, rfl⟩ := boolOf_ok e7
  refine ⟨W, h, sl, d, h1, rel, rs, e1, fun W1 H1 x ext rel1 rv => ⟨W1, h1, sl, d2, h2, rel1, rs.mono ext, e3, fun W2 H2 y ext2 rel2 rv2 =>
    ⟨W2, h2, d, d2, .bl k, _, rel2, rv.mono ext2, rv2, e5, fun W3 H3 z ext3 rel3 rv3 => ?_⟩⟩⟩
  cases rv3
  refine ⟨k, rfl, ?_⟩
  cases k with
  | true =>
    refine iteT ?_
    obtain ⟨d5, h5, e9, e10⟩ := bnd_ok e8
    exact ⟨W3, _, sl, d5, h5, rel3, ((rs.mono ext).mono ext2).mono ext3, e9, fun W4 H4 u ext4 rel4 rv4 => ⟨W4, h5, d2, d5, v, h', rel4, (rv2.mono ext3).mono ext4, rv4, e10, (((po.go ext).go ext2).go ext3).go ext4⟩⟩
  | false =>
    obtain ⟨rfl, rfl⟩ := ret_ok e8
    exact iteF (po W3 H3 _ ((ext.trans ext2).trans ext3) rel3 (.bl _))
theorem de_chain {op op' : CmpOp} {g g' : DV → DV → M DV} (ho : O2 cl X (compareOp op) g) (ho' : O2 cl X (compareOp op') g') (ha : DE cl X a ma) (hb : DE cl X b mb) (hc : DE cl X c mc)
    (hm : lastMarks [op, op'] [b, c] = false := by with_unfolding_all rfl) : DE cl X (.Compare a [op, op'] [b, c] pos) (eChain g g' ma mb mc) := (pe_chain ho ho' ha hb hc hm).mono fun _ _ _ q => te_chain q
def bChain (g g' : DV → DV → M DV) (a b c : Ex) : Tx := fun sl => bnd (eChain g g' a b c sl) boolOf
theorem dt_chain {op op' : CmpOp} {g g' : DV → DV → M DV} (ho : O2 cl X (compareOp op) g) (ho' : O2 cl X (compareOp op') g') (ha : DE cl X a ma) (hb : DE cl X b mb) (hc : DE cl X c mc)
    (hm : lastMarks [op, op'] [b, c] = false := by with_unfolding_all rfl) : DT cl X (.Compare a [op, op'] [b, c] pos) (bChain g g' ma mb mc) := (pt_chain ho ho' ha hb hc hm).mono fun σ H Q q => by
  obtain ⟨W, h, sl, v, h', rel, rs, e, po⟩ := q
  obtain ⟨d, h1, e1, e2⟩ := bnd_ok e
  obtain ⟨rfl, rfl⟩ := boolOf_ok e2
  refine te_chain ⟨W, h, sl, _, _, rel, rs, e1, fun W' H' x ext rel' rv => ?_⟩
  cases rv
  exact ⟨v, rfl, po W' H' ext rel'⟩
end
end D
set_option Elab.async false
set_option linter.all false
set_option maxRecDepth 100000
set_option maxHeartbeats 1000000
/-! D2: statements, defs. -/
namespace D
open PySem PySem.Spec PyProof.Rows L2 SlX

inductive Fl where
  | nx | rt (v : DV) | bk | ct
abbrev Sx := Sl → M (Fl × Sl)
section
variable (K : PySem.W.Frag) (cl : Cl)
def fin (W : Wd) (H : Hp) (h' : Hs) (sl' : Sl) (fl : Fl) (D : Ends) : Prop := match fl with
  | .nx => ∀ W' H' σ', Ext W H W' H' → HRel K cl W' h' H' → RSl K cl W' H' sl' σ' → D.nx σ' H'
  | .bk => ∀ W' H' σ', Ext W H W' H' → HRel K cl W' h' H' → RSl K cl W' H' sl' σ' → D.bk σ' H'
  | .ct => ∀ W' H' σ', Ext W H W' H' → HRel K cl W' h' H' → RSl K cl W' H' sl' σ' → D.ct σ' H'
  | .rt v => ∀ W' H' x, Ext W H W' H' → HRel K cl W' h' H' → RV K cl W' H' v x → D.rt x H'
def tS (m : Sx) : TS := fun D σ H => ∃ W h sl fl sl' h', HRel K cl W h H ∧ RSl K cl W H sl σ ∧ m sl h = .ok (fl, sl') h' ∧ fin K cl W H h' sl' fl D
/-- a target: the slots that it stores (vs) -/
def tG (vs : List Nat) (f : DV → Sl → Option Sl) : TG := fun x σ H Q => ∃ W h sl d sl', HRel K cl W h H ∧ RSl K cl W H sl σ ∧ RV K cl W H d x ∧ f d sl = some sl' ∧
  ∀ σ', RSl K cl W H sl' σ' → (σ'.length = σ.length ∧ ∀ j, j ∉ vs → σ'[j]? = σ[j]?) → Q σ' H
def tGs (vs : List Nat) (f : List DV → Sl → Option Sl) : TGs := fun xs σ H Q => ∃ W h sl ds sl', HRel K cl W h H ∧ RSl K cl W H sl σ ∧ RVs K cl W H ds xs ∧ f ds sl = some sl' ∧
  ∀ σ', RSl K cl W H sl' σ' → (σ'.length = σ.length ∧ ∀ j, j ∉ vs → σ'[j]? = σ[j]?) → Q σ' H
end
abbrev DS (cl : Cl) (X : Cx) (st : Stmt) (m : Sx) : Prop := PS X st (tS X.K cl m)
abbrev DSs (cl : Cl) (X : Cx) (st : List Stmt) (m : Sx) : Prop := PSs X st (tS X.K cl m)
abbrev DG (cl : Cl) (X : Cx) (t : Expr) (vs : List Nat) (f : DV → Sl → Option Sl) : Prop := PG X t (tG X.K cl vs f)
abbrev DGs (cl : Cl) (X : Cx) (t : List Expr) (vs : List Nat) (f : List DV → Sl → Option Sl) : Prop := PGs X t (tGs X.K cl vs f)
section
theorem _root_.L2.PS.mono {X : Cx} {st : Stmt} {t t' : TS} (p : PS X st t) (f : ∀ D σ H, t' D σ H → t D σ H) : PS X st t' := ⟨fun pins s σ H D I q => p.run pins s σ H D I (f _ _ _ q)⟩
theorem _root_.L2.PSs.mono {X : Cx} {st : List Stmt} {t t' : TS} (p : PSs X st t) (f : ∀ D σ H, t' D σ H → t D σ H) : PSs X st t' := ⟨fun pins s σ H D I q => p.run pins s σ H D I (f _ _ _ q)⟩
theorem _root_.L2.PG.mono {X : Cx} {e : Expr} {t t' : TG} (p : PG X e t) (f : ∀ v σ H Q, t' v σ H Q → t v σ H Q) : PG X e t' := ⟨fun pins s σ H v u Q I r q => p.run pins s σ H v u Q I r (f _ _ _ _ q)⟩
theorem _root_.L2.PGs.mono {X : Cx} {e : List Expr} {t t' : TGs} (p : PGs X e t) (f : ∀ v σ H Q, t' v σ H Q → t v σ H Q) : PGs X e t' := ⟨fun pins s σ H v u Q I r q => p.run pins s σ H v u Q I r (f _ _ _ _ q)⟩
variable {K : PySem.W.Frag} {cl : Cl} {W W1 : Wd} {H H1 : Hp} {h h' : Hs} {X : Cx} {pos : Pos}
theorem fin.go {sl' : Sl} {fl : Fl} {D : Ends} (e : Ext W H W1 H1) (p : fin K cl W H h' sl' fl D) : fin K cl W1 H1 h' sl' fl D := by
  cases fl with
  | nx => exact fun W' H' σ' e' r rs => p W' H' σ' (e.trans e') r rs
  | bk => exact fun W' H' σ' e' r rs => p W' H' σ' (e.trans e') r rs
  | ct => exact fun W' H' σ' e' r rs => p W' H' σ' (e.trans e') r rs
  | rt v => exact fun W' H' x e' r rv => p W' H' x (e.trans e') r rv
theorem RSl.set {sl : Sl} {σ : L2.St} {d : DV} {x : V} (rs : RSl K cl W H sl σ) (i : Nat) (rv : RV K cl W H d x) : RSl K cl W H (sl.set i (some d)) (σ.set i (some x)) := ⟨by rw [List.length_set, List.length_set, rs.1], fun j e q => by
  have hl := rs.1
  by_cases hj : j = i
  · subst hj
    have hlt : j < sl.length := by
      have := (List.getElem?_eq_some_iff.mp q).1
      rw [List.length_set] at this; exact this
    rw [List.getElem?_set_self hlt] at q
    cases q
    exact ⟨x, List.getElem?_set_self (by omega), rv⟩
  · rw [List.getElem?_set_ne (Ne.symm hj)] at q
    obtain ⟨y, h1, h2⟩ := rs.2 j e q
    exact ⟨y, by rw [List.getElem?_set_ne (Ne.symm hj)]; exact h1, h2⟩⟩

/-! ### targets -/
def gN (i : Nat) : DV → Sl → Option Sl := fun d sl => some (sl.set i (some d))
def gsNil : List DV → Sl → Option Sl := fun ds sl => match ds with
  | [] => some sl
  | _ => none
def gsCons (f : DV → Sl → Option Sl) (g : List DV → Sl → Option Sl) : List DV → Sl → Option Sl := fun ds sl => match ds with
  | d :: r => (f d sl).bind (g r)
  | [] => none
def gT (n : Nat) (g : List DV → Sl → Option Sl) : DV → Sl → Option Sl := fun d sl => match d with
  | .tup ds => if ds.length = n then g ds sl else none
  | _ => none
theorem dg_name {i : Nat} {x : Str} (hN : X.N.Nodup) (hi : X.N[i]? = some x) (hx : Loc X.env.scope x) (hf : X.fn x = true ∨ X.env.scope.names.lookup x = some .local := by first | exact .inl rfl | exact .inr rfl | assumption) : DG cl X (.Name x pos) [i] (gN i) :=
  (pg_name hN hi hx hf).mono fun v σ H Q q => by
    obtain ⟨W, h, sl, d, sl', rel, rs, rv, e, po⟩ := q
    cases e
    exact po _ (rs.set i rv) ⟨List.length_set, fun j hj => List.getElem?_set_ne (fun z => hj (by rw [← z]; exact List.mem_singleton_self _))⟩
theorem dgs_nil : DGs cl X [] [] gsNil := pgs_nil.mono fun v σ H Q q => by
  obtain ⟨W, h, sl, ds, sl', rel, rs, rv, e, po⟩ := q
  cases rv with
  | nil =>
    cases e
    exact ⟨rfl, po σ rs ⟨rfl, fun _ _ => rfl⟩⟩
  | cons r t => cases e
theorem dgs_cons {e : Expr} {es : List Expr} {vs ws : List Nat} {f : DV → Sl → Option Sl} {g : List DV → Sl → Option Sl} (h1 : DG cl X e vs f) (h2 : DGs cl X es ws g)
    (hs : (assignEach (e :: es) X.env).map (·.2) = assign e X.env :: (assignEach es X.env).map (·.2) := by rfl) : DGs cl X (e :: es) (vs ++ ws) (gsCons f g) := (pgs_cons h1 h2 hs).mono fun v σ H Q q => by
  obtain ⟨W, h, sl, ds, sl', rel, rs, rv, e, po⟩ := q
  cases rv with
  | nil => cases e
  | cons r t =>
    rename_i d ds' x xs
    have e' : (f d sl).bind (g ds') = some sl' := e
    cases q : f d sl with
    | none => rw [q] at e'; cases e'
    | some sl1 =>
      rw [q] at e'
      exact ⟨_, _, rfl, W, h, sl, d, sl1, rel, rs, r, q, fun σ1 rs1 z1 => ⟨W, h, sl1, ds', sl', rel, rs1, t, e', fun σ2 rs2 z2 => po σ2 rs2 ⟨z2.1.trans z1.1, fun j hj => (z2.2 j fun q => hj (List.mem_append_right _ q)).trans (z1.2 j fun q => hj (List.mem_append_left _ q))⟩⟩⟩
theorem dg_tup {es : List Expr} {k n : Nat} {vs : List Nat} {g : List DV → Sl → Option Sl} (hc : X.calm = true) (p : DGs cl X es vs g)
    (hn : (assignEach es X.env).length = n := by rfl) (hst : (assignEach es X.env).findIdx? (·.1) = none := by rfl) : DG cl X (.Tuple es k pos) vs (gT n g) := (pg_tup hc p hn hst).mono fun v σ H Q q => by
  obtain ⟨W, h, sl, d, sl', rel, rs, rv, e, po⟩ := q
  cases rv with
  | tup f r =>
    rename_i ds xs a
    have e' : (if ds.length = n then g ds sl else none) = some sl' := e
    by_cases z : ds.length = n
    · rw [if_pos z] at e'
      exact ⟨a, xs, rfl, f.sq, by rw [← r.length]; exact z, W, h, sl, ds, sl', rel, rs, r, e', po⟩
    · rw [if_neg z] at e'; cases e'
  | non => cases e
  | bl => cases e
  | int => cases e
  | str => cases e
  | ref => cases e
  | obj => cases e
  | scr => cases e
  | fls => cases e
  | exc => cases e

/-! ### blocks -/
def sNil : Sx := fun sl => ret (.nx, sl)
def sCons (m n : Sx) : Sx := fun sl => bnd (m sl) fun r => match r.1 with
  | .nx => n r.2
  | _ => ret r
theorem dss_nil : DSs cl X [] sNil := pss_nil.mono fun D σ H q => by
  obtain ⟨W, h, sl, fl, sl', h', rel, rs, e, po⟩ := q
  cases e
  exact po W H σ .refl rel rs
theorem dss_cons {st : Stmt} {rest : List Stmt} {m n : Sx} (h1 : DS cl X st m) (h2 : DSs cl X rest n) : DSs cl X (st :: rest) (sCons m n) := (pss_cons h1 h2).mono fun D σ H q => by
  obtain ⟨W, h, sl, fl, sl', h', rel, rs, e, po⟩ := q
  obtain ⟨⟨fl1, sl1⟩, h1, e1, e2⟩ := bnd_ok e
  refine ⟨W, h, sl, fl1, sl1, h1, rel, rs, e1, ?_⟩
  cases fl1 with
  | nx => exact fun W' H' σ' ext rel' rs' => ⟨W', h1, sl1, fl, sl', h', rel', rs', e2, po.go ext⟩
  | bk => cases e2; exact po
  | ct => cases e2; exact po
  | rt v => cases e2; exact po
theorem dss_one {st : Stmt} {m : Sx} (h1 : DS cl X st m) : DSs cl X [st] m := pss_one h1
def sRet (m : Ex) : Sx := fun sl => bnd (m sl) fun v => ret (.rt v, sl)
def sRetN : Sx := fun sl => ret (.rt .non, sl)
def sEx (m : Ex) : Sx := fun sl => bnd (m sl) fun _ => ret (.nx, sl)
def sIf (t : Tx) (a b : Sx) : Sx := fun sl => bnd (t sl) fun k => if k then a sl else b sl
def sBk : Sx := fun sl => ret (.bk, sl)
def sCt : Sx := fun sl => ret (.ct, sl)
def optM {α : Type} (o : Option α) : M α := match o with
  | some a => ret a
  | none => stk
def sAs (m : Ex) (f : DV → Sl → Option Sl) : Sx := fun sl => bnd (m sl) fun v => bnd (optM (f v sl)) fun sl' => ret (.nx, sl')
theorem optM_ok {α : Type} {o : Option α} {a : α} (e : optM o h = .ok a h') : o = some a ∧ h = h' := by
  cases o with
  | none => cases e
  | some b => cases e; exact ⟨rfl, rfl⟩
variable {e : Expr} {m : Ex} {tc : Tx} {c : Expr}
theorem ds_ret (he : DE cl X e m) : DS cl X (.Return (some e) pos) (sRet m) := (ps_ret he).mono fun D σ H q => by
  obtain ⟨W, h, sl, fl, sl', h', rel, rs, e, po⟩ := q
  obtain ⟨v, h1, e1, e2⟩ := bnd_ok e
  cases e2
  exact ⟨W, h, sl, v, h', rel, rs, e1, po⟩
theorem ds_retN : DS cl X (.Return none pos) sRetN := ps_retN.mono fun D σ H q => by
  obtain ⟨W, h, sl, fl, sl', h', rel, rs, e, po⟩ := q
  cases e
  exact po W H _ .refl rel .non
theorem ds_expr (he : DE cl X e m) (hs : swapsWith e none pos.line X.env = pure false := by rfl) : DS cl X (.Expr e pos) (sEx m) := (ps_expr he hs).mono fun D σ H q => by
  obtain ⟨W, h, sl, fl, sl', h', rel, rs, e, po⟩ := q
  obtain ⟨v, h1, e1, e2⟩ := bnd_ok e
  cases e2
  exact ⟨W, h, sl, v, h', rel, rs, e1, fun W' H' x ext rel' rv => po W' H' σ ext rel' (rs.mono ext)⟩
theorem ds_doc {x : Str} {j pos'} : DS cl X (.Expr (.Constant (.str x) j pos) pos') sNil := ps_doc.mono fun D σ H q => by
  obtain ⟨W, h, sl, fl, sl', h', rel, rs, e, po⟩ := q
  cases e
  exact po W H σ .refl rel rs
theorem ds_pass : DS cl X (.Pass pos) sNil := ps_pass.mono fun D σ H q => by
  obtain ⟨W, h, sl, fl, sl', h', rel, rs, e, po⟩ := q
  cases e
  exact po W H σ .refl rel rs
theorem ds_break : DS cl X (.Break pos) sBk := ps_break.mono fun D σ H q => by
  obtain ⟨W, h, sl, fl, sl', h', rel, rs, e, po⟩ := q
  cases e
  exact po W H σ .refl rel rs
theorem ds_cont : DS cl X (.Continue pos) sCt := ps_continue.mono fun D σ H q => by
  obtain ⟨W, h, sl, fl, sl', h', rel, rs, e, po⟩ := q
  cases e
  exact po W H σ .refl rel rs
theorem ds_if {a b : List Stmt} {ma mb : Sx} (hc : DT cl X c tc) (ha : DSs cl X a ma) (hb : DSs cl X b mb) : DS cl X (.If c a b pos) (sIf tc ma mb) := (ps_if hc ha hb).mono fun D σ H q => by
  obtain ⟨W, h, sl, fl, sl', h', rel, rs, e, po⟩ := q
  obtain ⟨k, h1, e1, e2⟩ := bnd_ok e
  refine ⟨W, h, sl, k, h1, rel, rs, e1, fun W' H' ext rel' => ?_⟩
  cases k with
  | true => exact iteT ⟨W', h1, sl, fl, sl', h', rel', rs.mono ext, e2, po.go ext⟩
  | false => exact iteF ⟨W', h1, sl, fl, sl', h', rel', rs.mono ext, e2, po.go ext⟩
/-- what the run never comes to -/
def sStk : Sx := fun _ => stk
theorem ds_never {st : Stmt} : DS cl X st sStk := ps_never.mono fun D σ H q => by
  obtain ⟨W, h, sl, fl, sl', h', rel, rs, e, po⟩ := q
  cases e
theorem dss_never {st : List Stmt} : DSs cl X st sStk := pss_never.mono fun D σ H q => by
  obtain ⟨W, h, sl, fl, sl', h', rel, rs, e, po⟩ := q
  cases e
theorem ts_asg {vs : List Nat} {f : DV → Sl → Option Sl} {D : Ends} {σ : L2.St} (q : tS K cl (sAs m f) D σ H) : tAsg (tE K cl m) (tG K cl vs f) D σ H := by
  obtain ⟨W, h, sl, fl, sl', h', rel, rs, e, po⟩ := q
  obtain ⟨v, h1, e1, e2⟩ := bnd_ok e
  obtain ⟨sl1, h2, e3, e4⟩ := bnd_ok e2
  obtain ⟨e3', rfl⟩ := optM_ok e3
  cases e4
  exact ⟨W, h, sl, v, h', rel, rs, e1, fun W' H' x ext rel' rv => ⟨W', h', sl, v, sl', rel', rs.mono ext, rv, e3', fun σ' rs' _ => po W' H' σ' ext rel' rs'⟩⟩
theorem ds_asg {tg : Expr} {vs : List Nat} {f : DV → Sl → Option Sl} (he : DE cl X e m) (hg : DG cl X tg vs f) (hs : swapsWithSole [tg] e pos.line X.env = pure false := by rfl) (hw : swappedStores [tg] e X.env = pure none := by rfl)
    (h1 : (assignEach [tg] X.env).map (·.2) = [assign tg X.env] := by rfl) : DS cl X (.Assign [tg] e pos) (sAs m f) := (ps_asg he hg hs hw h1).mono fun _ _ _ q => ts_asg q
theorem ds_set {i : Nat} {x : Str} {pos' : Pos} (hN : X.N.Nodup) (hi : X.N[i]? = some x) (hx : Loc X.env.scope x) (he : DE cl X e m) (hs : swapsWith e (some (.Name x pos')) pos.line X.env = pure false := by rfl) (hf : X.fn x = true ∨ X.env.scope.names.lookup x = some .local := by first | exact .inl rfl | exact .inr rfl | assumption) :
    DS cl X (.Assign [.Name x pos'] e pos) (sAs m (gN i)) := (ps_set hN hi hx he hs hf).mono fun D σ H q => by
  obtain ⟨W, h, sl, fl, sl', h', rel, rs, e, po⟩ := q
  obtain ⟨v, h1, e1, e2⟩ := bnd_ok e
  obtain ⟨sl1, h2, e3, e4⟩ := bnd_ok e2
  obtain ⟨e3', rfl⟩ := optM_ok e3
  cases e4
  cases e3'
  exact ⟨W, h, sl, v, h', rel, rs, e1, fun W' H' x ext rel' rv => po W' H' _ ext rel' ((rs.mono ext).set i rv)⟩
/-- a, b = x, y -/
def sPar (i j : Nat) (ms : Exs) : Sx := fun sl => bnd (ms sl) fun ds => match ds with
  | [v, w] => ret (.nx, (sl.set i (some v)).set j (some w))
  | _ => stk
theorem ds_par {i j : Nat} {x y : Str} {a b : Expr} {ms : Exs} {px py pt : Pos} {kt k2 pt2} (hc : X.calm = true) (hN : X.N.Nodup) (hi : X.N[i]? = some x) (hj : X.N[j]? = some y) (hij : i ≠ j)
    (hx : X.env.scope.names.lookup x = some .local) (hy : X.env.scope.names.lookup y = some .local) (ha : DA cl X [a, b] ms)
    (hw : swappedStores [.Tuple [.Name x px, .Name y py] kt pt] (.Tuple [a, b] k2 pt2) X.env = pure (some [x, y]))
    (hs : swapsWithSole [.Tuple [.Name x px, .Name y py] kt pt] (.Tuple [a, b] k2 pt2) pos.line X.env = pure false := by rfl) :
    DS cl X (.Assign [.Tuple [.Name x px, .Name y py] kt pt] (.Tuple [a, b] k2 pt2) pos) (sPar i j ms) := (ps_par hc hN hi hj hij hx hy ha hw hs).mono fun D σ H q => by
  obtain ⟨W, h, sl, fl, sl', h', rel, rs, e, po⟩ := q
  obtain ⟨ds, h1, e1, e2⟩ := bnd_ok e
  refine ⟨W, h, sl, ds, h1, rel, rs, e1, fun W' H' xs ext rel' rv => ?_⟩
  cases rv with
  | nil => cases e2
  | cons r1 t =>
    cases t with
    | nil => cases e2
    | cons r2 t =>
      cases t with
      | cons r3 t => cases e2
      | nil =>
        cases e2
        exact ⟨_, _, rfl, po W' H' _ ext rel' (((rs.mono ext).set i r1).set j r2)⟩

/-! ### while -/
def whD (t : Tx) (b : Sx) : Nat → Sx
  | 0 => fun _ => stk
  | n + 1 => fun sl => bnd (t sl) fun k => if k then bnd (b sl) fun r => match r.1 with
      | .nx => whD t b n r.2
      | .ct => whD t b n r.2
      | .bk => ret (.nx, r.2)
      | .rt v => ret (.rt v, r.2)
    else ret (.nx, sl)
def sWh (t : Tx) (b : Sx) : Sx := whD t b 1000000000
theorem ds_while {body : List Stmt} {mb : Sx} (hp : PassesOwn (model X.prog X.w) X.A X.env X.xe) (hc : DT cl X c tc) (hb : DSs cl X body mb) : DS cl X (.While c body [] pos) (sWh tc mb) := (ps_while hp hc hb).mono fun D σ H q => by
  obtain ⟨W, h, sl, fl, sl', h', rel, rs, e, po⟩ := q
  refine ⟨fun n σ1 H1 => ∃ W1 h1 sl1, Ext W H W1 H1 ∧ HRel X.K cl W1 h1 H1 ∧ RSl X.K cl W1 H1 sl1 σ1 ∧ whD tc mb n sl1 h1 = .ok (fl, sl') h', ⟨_, W, h, sl, .refl, rel, rs, e⟩, ?_⟩
  rintro n σ1 H1 ⟨W1, h1, sl1, ext1, rel1, rs1, e1⟩
  cases n with
  | zero => cases e1
  | succ n =>
    obtain ⟨k, h2, e2, e3⟩ := bnd_ok e1
    refine ⟨W1, h1, sl1, k, h2, rel1, rs1, e2, fun W2 H2 ext2 rel2 => ?_⟩
    cases k with
    | false =>
      refine iteF ?_
      cases e3
      exact po W2 H2 σ1 (ext1.trans ext2) rel2 (rs1.mono ext2)
    | true =>
      refine iteT ⟨fun σ3 H3 => ∃ W3 h3 sl3, Ext W H W3 H3 ∧ HRel X.K cl W3 h3 H3 ∧ RSl X.K cl W3 H3 sl3 σ3 ∧ whD tc mb n sl3 h3 = .ok (fl, sl') h', fun σ3 H3 q => ⟨n, Nat.lt_succ_self _, q⟩, ?_⟩
      obtain ⟨⟨fl1, sl3⟩, h3, e4, e5⟩ := bnd_ok e3
      refine ⟨W2, h2, sl1, fl1, sl3, h3, rel2, rs1.mono ext2, e4, ?_⟩
      cases fl1 with
      | nx => exact fun W' H' σ' ext rel' rs' => ⟨W', h3, sl3, (ext1.trans ext2).trans ext, rel', rs', e5⟩
      | ct => exact fun W' H' σ' ext rel' rs' => ⟨W', h3, sl3, (ext1.trans ext2).trans ext, rel', rs', e5⟩
      | bk =>
        cases e5
        exact fun W' H' σ' ext rel' rs' => po W' H' σ' ((ext1.trans ext2).trans ext) rel' rs'
      | rt v =>
        cases e5
        exact fun W' H' x ext rel' rv => po W' H' x ((ext1.trans ext2).trans ext) rel' rv

/-! ### a def -/
def runF (n : Nat) (b : Sx) : List DV → M DV := fun ds => bnd (b (ds.map some ++ List.replicate (n - ds.length) none)) fun r => match r.1 with
  | .nx => ret .non
  | .rt v => ret v
  | _ => stk
theorem ros_start {N : List Str} {ds : List DV} {vs : List V} (r : RVs K cl W H ds vs) : ROs K cl W H (ds.map some ++ List.replicate (N.length - ds.length) none) (L2.start N vs) := fun i d q => by
  unfold L2.start
  by_cases hi : i < ds.length
  · rw [List.getElem?_append_left (by simpa using hi), List.getElem?_map] at q
    cases e : ds[i]? with
    | none => rw [e] at q; cases q
    | some d' =>
      rw [e] at q
      cases q
      obtain ⟨x, h1, h2⟩ := r.get e
      refine ⟨x, ?_, h2⟩
      rw [List.getElem?_append_left (by simpa [← r.length] using hi), List.getElem?_map, h1]
      rfl
  · rw [List.getElem?_append_right (by simpa using hi), List.getElem?_replicate] at q
    split at q <;> cases q
theorem len_start {N : List Str} {ds : List DV} {vs : List V} (r : RVs K cl W H ds vs) (hl : ds.length ≤ N.length) : (ds.map some ++ List.replicate (N.length - ds.length) none).length = (L2.start N vs).length := by
  unfold L2.start
  simp only [List.length_append, List.length_map, List.length_replicate, r.length]
theorem run_spD {N : List Str} {n : Nat} {b : Sx} {vs : List V} {Q : VK} {E : XK} (hl : n ≤ N.length) (hs : spD K cl n (runF N.length b) vs H Q E) : tS K cl b { nx := fun _ H' => Q .non H', rt := Q } (L2.start N vs) H := by
  obtain ⟨hn, W, h, ds, v, h', rel, rvs, e, po⟩ := hs
  obtain ⟨⟨fl, sl'⟩, h1, e1, e2⟩ := bnd_ok e
  refine ⟨W, h, _, fl, sl', h1, rel, ⟨len_start rvs (by rw [rvs.length, hn]; exact hl), ros_start rvs⟩, e1, ?_⟩
  cases fl with
  | nx =>
    cases e2
    exact fun W' H' σ' ext rel' rs' => po W' H' .non ext rel' .non
  | rt v' =>
    cases e2
    exact po
  | bk => cases e2
  | ct => cases e2
/-- THE RULE for a def of the module -/
theorem d_def {P : Program} {w : World} {K : PySem.W.Frag} {mg : Str → Option Value} {base : Heap} {cl : Cl} {x qual : Str} {st : Stmt} {f : Addr} {fd : FuncData} {N ps : List Str} {k : Nat} {b : Sx} (F : L2.Fun K x qual st f fd) (S : FnScope N ps (defScope st)) (hl : ps.length ≤ N.length)
    (hb : ∀ (X : Cx), X.prog = P → X.w = w → X.K = K → X.mg = mg → X.base = base → X.calm = true → X.N = N → X.env.scope = defScope st → X.fn = (fun _ => true) → Room k X.A → DSs cl X.nox (defBody st) b) :
    FnOk P w K mg base L2.CX0 (k + 1) f fd ps (spD K cl ps.length (runF N.length b)) := by
  refine F.ok S (fun vs H Q E q => q.1) (fun cdv A outer s H vs Q E hr q => ⟨tS K cl b, ?_, run_spD hl q⟩)
  have z := hb (cxOf L2.CX0 P w K mg base N qual (defScope st) f cdv A outer s H E) rfl rfl rfl rfl rfl rfl rfl rfl rfl hr
  exact z
end
end D
set_option Elab.async false
set_option linter.all false
set_option maxRecDepth 100000
set_option maxHeartbeats 1000000
/-! D3: what is walked; for; list comprehensions. -/
namespace D
open PySem PySem.Spec PyProof.Rows L2 SlX

inductive Wlk where
  | lst (n : Nat) | vals (ds : List DV) | itm (n : Nat) | zip (a b : Wlk) | enum (a : Wlk)
def Wlk.all : Wlk → Hs → Option (List DV)
  | .lst n, h => match h[n]? with
    | some (.lst ds) => some ds
    | _ => none
  | .vals ds, _ => some ds
  | _, _ => none
/-- at turn i: it yields a value, or it stops; none: stuck -/
def Wlk.at : Wlk → Nat → Hs → Option (Option DV)
  | .lst n, i, h => match h[n]? with
    | some (.lst ds) => some ds[i]?
    | _ => none
  | .vals ds, i, _ => some ds[i]?
  | .itm n, i, h => match h[n]? with
    | some (.dfz kvs) => some (kvs[i]?.map fun kv => .tup [kv.1, kv.2])
    | _ => none
  | .zip a b, i, h => match a.all h, b.all h with
    | some xs, some ys => (match xs[i]?, ys[i]? with
      | some x, some y => some (some (.tup [x, y]))
      | _, _ => if Nat.ble i xs.length && (Nat.ble i ys.length && (Nat.beq i xs.length || Nat.beq i ys.length)) then some none else none)
    | _, _ => none
  | .enum a, i, h => match a.all h with
    | some xs => (match xs[i]? with
      | some x => some (some (.tup [.int (i : Int), x]))
      | none => if Nat.beq i xs.length then some none else none)
    | none => none
abbrev Ix := Sl → M Wlk
section
variable (K : PySem.W.Frag) (cl : Cl)
/-- the iterator J goes as t tells, wherever what it leans on (G) stands -/
def WalkD (J : It) (t : Wlk) (W0 : Wd) (H0 : Hp) : Prop := ∃ G : Wd → Hp → Prop, G W0 H0 ∧ (∀ W H W' H', Ext W H W' H' → G W H → G W' H') ∧ (∀ W H W' H' D, Off W H W' H' D → G W H → G W' H') ∧
  ∀ W h H i, G W H → HRel K cl W h H → (∀ d, t.at i h = some (some d) → J.go i H ∧ ∀ x H', J.yld i H x H' → ∃ W', Ext W H W' H' ∧ W'.ρ = W.ρ ∧ HRel K cl W' h H' ∧ RV K cl W' H' d x) ∧
    (t.at i h = some none → J.stop i H)
def tI (m : Ix) : TI := fun σ H R => ∃ W h sl t h', HRel K cl W h H ∧ RSl K cl W H sl σ ∧ m sl h = .ok t h' ∧ ∀ W' H' J, Ext W H W' H' → HRel K cl W' h' H' → WalkD K cl J t W' H' → R J H'
end
abbrev DI (cl : Cl) (X : Cx) (tg e : Expr) (m : Ix) : Prop := PI X tg e (tI X.K cl m)
section
variable {K : PySem.W.Frag} {cl : Cl} {W W1 : Wd} {H H1 : Hp} {h h' : Hs} {X : Cx} {pos : Pos}
theorem _root_.L2.PI.mono {X : Cx} {tg e : Expr} {t t' : TI} (p : PI X tg e t) (f : ∀ σ H R, t' σ H R → t σ H R) : PI X tg e t' := ⟨fun pins s σ H R I q => p.run pins s σ H R I (f _ _ _ q)⟩
/-! ### a list, a tuple, a text -/
def iAny (K : PySem.W.Frag) (tl : TE) : TI := fun σ H R => tl σ H fun x H1 => (∃ a, x = .ref a ∧ (∃ xs, SqL K H1 a xs) ∧ R (Itl K a) H1) ∨ (∃ a, x = .ref a ∧ (∃ xs, SqT K H1 a xs) ∧ R (Itt K a) H1) ∨ ∃ z, x = .str z ∧ R (Its z) H1
theorem pi_any {tg l : Expr} {tl : TE} (hl : PE X l tl) : PI X tg l (iAny X.K tl) := by
  refine ⟨fun pins s σ H R I h => ?_⟩
  refine thn (hl.run pins s σ H _ I h) fun v s1 ⟨x, H1, I1, r1, q1⟩ => ?_
  rcases q1 with ⟨a, e, ⟨xs, hq⟩, q⟩ | ⟨a, e, ⟨xs, hq⟩, q⟩ | ⟨z, e, q⟩
  · subst e
    cases r1
    obtain ⟨its, rv, p, hz⟩ := I1.list hq
    refine wpAny_pyIter_list p.isList ?_
    refine ⟨s1.heap.objs.size, [s1.heap.objs.size], _, _, H1, rfl, I1.kept (t' := s1.toks) fun b o e => Heap.get?_push_of_some _ e, turn_list a _, ⟨_, Heap.get?_push_size _ rfl, rfl, rfl⟩, fun b hb => ?_, q⟩
    have e : b = s1.heap.objs.size := by simpa using hb
    subst e
    exact I1.fpOk (Nat.le_refl _) (I1.hok.fresh (Nat.le_refl _))
  · subst e
    cases r1
    obtain ⟨its, rv, p, hz⟩ := I1.tuple hq
    refine wpAny_pyIter_tuple (show s1.heap.IsTuple a its.toArray from p) ?_
    refine ⟨s1.heap.objs.size, [s1.heap.objs.size], _, _, H1, rfl, I1.kept (t' := s1.toks) fun b o e => Heap.get?_push_of_some _ e, turn_tuple a _, ⟨_, Heap.get?_push_size _ rfl, rfl, rfl⟩, fun b hb => ?_, q⟩
    have e : b = s1.heap.objs.size := by simpa using hb
    subst e
    exact I1.fpOk (Nat.le_refl _) (I1.hok.fresh (Nat.le_refl _))
  · subst e
    obtain ⟨t, rfl⟩ := r1
    cases ha : z.cps.all (· < 128)
    · exact wpAny_pyIter_wide ha (pi_one (tk := s1.toks) I1 _ (turn_str _ z t "str_iterator" (.inr rfl)) ⟨_, Heap.get?_push_size _ rfl, rfl, rfl⟩ q)
    · exact wpAny_pyIter_ascii ha (pi_one (tk := s1.toks) I1 _ (turn_str _ z t "str_ascii_iterator" (.inl rfl)) ⟨_, Heap.get?_push_size _ rfl, rfl, rfl⟩ q)
/-- what a value is walked as -/
def itrOf (d : DV) : M Wlk := match d with
  | .ref n => ret (.lst n)
  | .tup ds => ret (.vals ds)
  | .str s => ret (.vals (s.map fun c => .str [c]))
  | .scr ns => ret (.vals (ns.map .int))
  | .fls ds => ret (.vals ds)
  | _ => stk
/-- the same, where the list is there -/
def itrAt (d : DV) : M Wlk := match d with
  | .ref n => fun h => match h[n]? with
    | some (.lst _) => .ok (.lst n) h
    | _ => .stuck
  | .tup ds => ret (.vals ds)
  | .str s => ret (.vals (s.map fun c => .str [c]))
  | .scr ns => ret (.vals (ns.map .int))
  | .fls ds => ret (.vals ds)
  | _ => stk
theorem at_lst {n i : Nat} {o : Option DV} (e : (Wlk.lst n).at i h = some o) : ∃ ds, h[n]? = some (.lst ds) ∧ ds[i]? = o := by
  have e' : (match h[n]? with
    | some (.lst ds) => some ds[i]?
    | _ => none) = some o := e
  cases q : h[n]? with
  | none => rw [q] at e'; cases e'
  | some u =>
    rw [q] at e'
    cases u with
    | lst ds => exact ⟨ds, rfl, Option.some.inj e'⟩
    | dic _ => cases e'
    | dfz _ => cases e'
    | ins _ _ => cases e'
    | dead => cases e'
    | pot _ _ => cases e'
theorem walk_ref {n : Nat} {a dx : Addr} (hn : W.ρ[n]? = some (a, dx)) : WalkD K cl (Itl K a) (.lst n) W H := by
  refine ⟨fun W H => W.ρ[n]? = some (a, dx), hn, fun _ _ _ _ e q => e.pre _ _ q, fun _ _ _ _ _ e q => e.pre _ _ q, fun W h H i q rel => ⟨fun d e => ?_, fun e => ?_⟩⟩
  · obtain ⟨ds, e1, e2⟩ := at_lst e
    obtain ⟨_, xs, h1, r⟩ := rel.ok n _ a dx e1 q
    obtain ⟨x, hx, rx⟩ := r.get e2
    refine ⟨⟨xs, x, SqL.of h1, hx⟩, fun y H' ⟨e3, hy⟩ => ?_⟩
    subst e3
    have := hy xs (SqL.of h1)
    rw [hx] at this
    cases this
    exact ⟨W, .refl, rfl, rel, rx⟩
  · obtain ⟨ds, e1, e2⟩ := at_lst e
    obtain ⟨_, xs, h1, r⟩ := rel.ok n _ a dx e1 q
    exact ⟨xs, SqL.of h1, by rw [← r.length]; exact List.getElem?_eq_none_iff.mp e2⟩
theorem walk_tup {a : Addr} {ds : List DV} {xs : List V} (f : FzT K W H a xs) (r : RVs K cl W H ds xs) : WalkD K cl (Itt K a) (.vals ds) W H := by
  refine ⟨fun W H => FzT K W H a xs ∧ RVs K cl W H ds xs, ⟨f, r⟩, fun _ _ _ _ e q => ⟨q.1.mono e, q.2.mono e⟩, fun _ _ _ _ _ e q => ⟨q.1.off e, q.2.off e⟩, fun W h H i ⟨f, r⟩ rel => ⟨fun d e => ?_, fun e => ?_⟩⟩
  · have e2 : ds[i]? = some d := Option.some.inj e
    obtain ⟨x, hx, rx⟩ := r.get e2
    refine ⟨⟨xs, x, f.sq, hx⟩, fun y H' ⟨e3, hy⟩ => ?_⟩
    subst e3
    have := hy xs f.sq
    rw [hx] at this
    cases this
    exact ⟨W, .refl, rfl, rel, rx⟩
  · have e2 : ds[i]? = none := Option.some.inj e
    exact ⟨xs, f.sq, by rw [← r.length]; exact List.getElem?_eq_none_iff.mp e2⟩
theorem walk_scr {a : Addr} {ns : List Int} (f : FzL K W H a (ns.map V.int)) : WalkD K cl (Itl K a) (.vals (ns.map .int)) W H := by
  refine ⟨fun W H => FzL K W H a (ns.map V.int), f, fun _ _ _ _ e q => q.mono e, fun _ _ _ _ _ e q => q.off e, fun W h H i f rel => ⟨fun d e => ?_, fun e => ?_⟩⟩
  · have e2 : (ns.map DV.int)[i]? = some d := Option.some.inj e
    rw [List.getElem?_map] at e2
    cases q : ns[i]? with
    | none => rw [q] at e2; cases e2
    | some n =>
      rw [q] at e2
      cases e2
      have hx : (ns.map V.int)[i]? = some (.int n) := by rw [List.getElem?_map, q]; rfl
      refine ⟨⟨_, _, f.sq, hx⟩, fun y H' ⟨e3, hy⟩ => ?_⟩
      subst e3
      have := hy _ f.sq
      rw [hx] at this
      cases this
      exact ⟨W, .refl, rfl, rel, .int n⟩
  · have e2 : (ns.map DV.int)[i]? = none := Option.some.inj e
    have q := List.getElem?_eq_none_iff.mp e2
    exact ⟨_, f.sq, by simpa using q⟩
theorem walk_fls {a : Addr} {ds : List DV} {xs : List V} (f : FzL K W H a xs) (r : RVs K cl W H ds xs) : WalkD K cl (Itl K a) (.vals ds) W H := by
  refine ⟨fun W H => FzL K W H a xs ∧ RVs K cl W H ds xs, ⟨f, r⟩, fun _ _ _ _ e q => ⟨q.1.mono e, q.2.mono e⟩, fun _ _ _ _ _ e q => ⟨q.1.off e, q.2.off e⟩, fun W h H i ⟨f, r⟩ rel => ⟨fun d e => ?_, fun e => ?_⟩⟩
  · have e2 : ds[i]? = some d := Option.some.inj e
    obtain ⟨x, hx, rx⟩ := r.get e2
    refine ⟨⟨xs, x, f.sq, hx⟩, fun y H' ⟨e3, hy⟩ => ?_⟩
    subst e3
    have := hy xs f.sq
    rw [hx] at this
    cases this
    exact ⟨W, .refl, rfl, rel, rx⟩
  · have e2 : ds[i]? = none := Option.some.inj e
    exact ⟨xs, f.sq, by rw [← r.length]; exact List.getElem?_eq_none_iff.mp e2⟩
theorem walk_txt {s : List Nat} : WalkD K cl (Its (SX.S s)) (.vals (s.map fun c => .str [c])) W H := by
  refine ⟨fun _ _ => True, trivial, fun _ _ _ _ _ q => q, fun _ _ _ _ _ _ q => q, fun W h H i _ rel => ⟨fun d e => ?_, fun e => ?_⟩⟩
  · have e2 : (s.map fun c => DV.str [c])[i]? = some d := Option.some.inj e
    rw [List.getElem?_map] at e2
    cases q : s[i]? with
    | none => rw [q] at e2; cases e2
    | some c =>
      rw [q] at e2
      cases e2
      refine ⟨by show i < (SX.S s).cps.size; simpa using (List.getElem?_eq_some_iff.mp q).1, fun y H' ⟨e3, c', hc, hy⟩ => ?_⟩
      subst e3
      have : c' = c := by
        have z : s[i]? = some c' := by simpa using hc
        rw [q] at z
        exact (Option.some.inj z).symm
      subst this
      subst hy
      exact ⟨W, .refl, rfl, rel, .str [c']⟩
  · have e2 : (s.map fun c => DV.str [c])[i]? = none := Option.some.inj e
    have q := List.getElem?_eq_none_iff.mp e2
    show (SX.S s).cps.size ≤ i
    simpa using q
def iE (m : Ex) : Ix := fun sl => bnd (m sl) itrAt
theorem di_e {tg l : Expr} {m : Ex} (hl : DE cl X l m) : DI cl X tg l (iE m) := (pi_any hl).mono fun σ H R q => by
  obtain ⟨W, h, sl, t, h', rel, rs, e, po⟩ := q
  obtain ⟨d, h1, e1, e2⟩ := bnd_ok e
  refine ⟨W, h, sl, d, h1, rel, rs, e1, fun W' H' x ext rel' rv => ?_⟩
  cases rv with
  | ref hn =>
    rename_i n a dx
    have e3 : (match h1[n]? with
    | some (.lst _) => D.R.ok (Wlk.lst n) h1
    | _ => D.R.stuck) = D.R.ok t h' := e2
    cases q : h1[n]? with
    | none => rw [q] at e3; cases e3
    | some u =>
      rw [q] at e3
      cases u with
      | lst ds =>
        cases e3
        obtain ⟨_, xs, q1, _⟩ := rel'.ok n _ a dx q hn
        exact .inl ⟨a, rfl, ⟨xs, SqL.of q1⟩, po W' H' _ ext rel' (walk_ref hn)⟩
      | dic _ => cases e3
      | dfz _ => cases e3
      | ins _ _ => cases e3
      | dead => cases e3
      | pot _ _ => cases e3
  | tup f r =>
    cases e2
    exact .inr (.inl ⟨_, rfl, ⟨_, f.sq⟩, po W' H' _ ext rel' (walk_tup f r)⟩)
  | str s =>
    cases e2
    exact .inr (.inr ⟨_, rfl, po W' H' _ ext rel' walk_txt⟩)
  | fls f r =>
    cases e2
    exact .inl ⟨_, rfl, ⟨_, f.sq⟩, po W' H' _ ext rel' (walk_fls f r)⟩
  | scr f =>
    cases e2
    exact .inl ⟨_, rfl, ⟨_, f.sq⟩, po W' H' _ ext rel' (walk_scr f)⟩
  | non => cases e2
  | bl => cases e2
  | int => cases e2
  | obj => cases e2
  | exc => cases e2
/-! ### range -/
def rangeV (lo : Int) (n : Nat) : List DV := (List.range n).map fun i => .int (lo + (i : Nat))
theorem walk_rng {lo : Int} {n : Nat} : WalkD K cl (L2.Itr lo n) (.vals (rangeV lo n)) W H := by
  refine ⟨fun _ _ => True, trivial, fun _ _ _ _ _ q => q, fun _ _ _ _ _ _ q => q, fun W h H i _ rel => ⟨fun d e => ?_, fun e => ?_⟩⟩
  · have e2 : (rangeV lo n)[i]? = some d := Option.some.inj e
    unfold rangeV at e2
    rw [List.getElem?_map] at e2
    by_cases hi : i < n
    · rw [List.getElem?_range hi] at e2
      cases e2
      refine ⟨hi, fun y H' ⟨e3, hy⟩ => ?_⟩
      subst e3
      subst hy
      exact ⟨W, .refl, rfl, rel, .int _⟩
    · rw [List.getElem?_eq_none (by simp; omega)] at e2
      cases e2
  · have e2 : (rangeV lo n)[i]? = none := Option.some.inj e
    have q := List.getElem?_eq_none_iff.mp e2
    unfold rangeV at q
    show n ≤ i
    simpa using q
def small (i : Int) : Bool := Nat.ble i.natAbs 4611686018427387903
theorem small_ok {i : Int} (h : small i = true) : -(2 ^ 62) ≤ i ∧ i < 2 ^ 62 := by
  have q : i.natAbs ≤ 4611686018427387903 := Nat.le_of_ble_eq_true h
  omega
def rng1 (ds : List DV) : M Wlk := match ds with
  | [.int j] => if small j then ret (.vals (rangeV 0 j.toNat)) else stk
  | _ => stk
def rng2 (ds : List DV) : M Wlk := match ds with
  | [.int i, .int j] => if small i && small j then ret (.vals (rangeV i (j - i).toNat)) else stk
  | _ => stk
theorem rng1_ok {ds : List DV} {t : Wlk} (e : rng1 ds h = .ok t h') : ∃ j, ds = [.int j] ∧ small j = true ∧ t = .vals (rangeV 0 j.toNat) ∧ h = h' := by
  unfold rng1 at e
  split at e
  · rename_i j
    cases z : small j with
    | false => rw [z] at e; cases e
    | true => rw [z] at e; cases e; exact ⟨j, rfl, z, rfl, rfl⟩
  · cases e
theorem rng2_ok {ds : List DV} {t : Wlk} (e : rng2 ds h = .ok t h') : ∃ i j, ds = [.int i, .int j] ∧ small i = true ∧ small j = true ∧ t = .vals (rangeV i (j - i).toNat) ∧ h = h' := by
  unfold rng2 at e
  split at e
  · rename_i i j
    cases z : small i with
    | false => rw [z] at e; cases e
    | true =>
      cases z2 : small j with
      | false => rw [z, z2] at e; cases e
      | true => rw [z, z2] at e; cases e; exact ⟨i, j, rfl, z, z2, rfl, rfl⟩
  · cases e
theorem RVs.i1 {i : Int} {xs : List V} (r : RVs K cl W H [.int i] xs) : xs = [.int i] := by
  cases r with
  | cons a b => cases a; cases b; rfl
theorem RVs.i2 {i j : Int} {xs : List V} (r : RVs K cl W H [.int i, .int j] xs) : xs = [.int i, .int j] := by
  cases r with
  | cons a b =>
    cases a
    cases b with
    | cons a b => cases a; cases b; rfl
def iRg (g : List DV → M Wlk) (ms : Exs) : Ix := fun sl => bnd (ms sl) g
variable {tg : Expr} {p : Pos} {ms : Exs}
theorem di_range1 {a : Expr} (hg : Gl X "range") (hm : X.mg "range" = none) (ha : DA cl X [a] ms) (hs : starEach [a] X.env = [(false, eval a X.env)] := by rfl) : DI cl X tg (.Call (.Name "range" p) [a] [] pos) (iRg rng1 ms) := (pi_range1 hg hm ha hs).mono fun σ H R q => by
  obtain ⟨W, h, sl, t, h', rel, rs, e, po⟩ := q
  obtain ⟨ds, h1, e1, e2⟩ := bnd_ok e
  refine ⟨W, h, sl, ds, h1, rel, rs, e1, fun W' H' xs ext rel' rv => ?_⟩
  obtain ⟨j, rfl, z, rfl, rfl⟩ := rng1_ok e2
  exact ⟨j, rv.i1, (small_ok z).1, (small_ok z).2, po W' H' _ ext rel' walk_rng⟩
theorem di_range2 {a b : Expr} (hg : Gl X "range") (hm : X.mg "range" = none) (ha : DA cl X [a, b] ms) (hs : starEach [a, b] X.env = [(false, eval a X.env), (false, eval b X.env)] := by rfl) (hs2 : starEach [b] X.env = [(false, eval b X.env)] := by rfl) : DI cl X tg (.Call (.Name "range" p) [a, b] [] pos) (iRg rng2 ms) := (pi_range2 hg hm ha hs hs2).mono fun σ H R q => by
  obtain ⟨W, h, sl, t, h', rel, rs, e, po⟩ := q
  obtain ⟨ds, h1, e1, e2⟩ := bnd_ok e
  refine ⟨W, h, sl, ds, h1, rel, rs, e1, fun W' H' xs ext rel' rv => ?_⟩
  obtain ⟨i, j, rfl, z, z2, rfl, rfl⟩ := rng2_ok e2
  exact ⟨i, j, rv.i2, ⟨(small_ok z).1, (small_ok z).2, (small_ok z2).1, (small_ok z2).2⟩, po W' H' _ ext rel' walk_rng⟩

/-! ### for -/
def forD (t : Wlk) (f : DV → Sl → Option Sl) (b : Sx) : Nat → Nat → Sx
  | 0, _ => fun _ => stk
  | n + 1, i => fun sl h => match t.at i h with
    | some (some d) => bnd (optM (f d sl)) (fun sl1 => bnd (b sl1) fun r => match r.1 with
      | .nx => forD t f b n (i + 1) r.2
      | .ct => forD t f b n (i + 1) r.2
      | .bk => ret (.nx, r.2)
      | .rt v => ret (.rt v, r.2)) h
    | some none => .ok (.nx, sl) h
    | none => .stuck
def sFor (mi : Ix) (f : DV → Sl → Option Sl) (b : Sx) : Sx := fun sl => bnd (mi sl) fun t => forD t f b 16777216 0 sl
theorem ds_for {iter : Expr} {body : List Stmt} {vs : List Nat} {mi : Ix} {f : DV → Sl → Option Sl} {mb : Sx} (hp : PassesOwn (model X.prog X.w) X.A X.env X.xe) (hc : X.calm = true) (hi : DI cl X tg iter mi) (hg : DG cl X tg vs f) (hb : DSs cl X body mb)
    (hs : ∀ x, foldedSetIterable iter X.env x = pure x := by intro _; rfl) : DS cl X (.For tg iter body [] pos) (sFor mi f mb) := (ps_for hp hc hi hg hb hs).mono fun D σ H q => by
  obtain ⟨W, h, sl, fl, sl', h', rel, rs, e, po⟩ := q
  obtain ⟨t, h1, e1, e2⟩ := bnd_ok e
  refine ⟨W, h, sl, t, h1, rel, rs, e1, fun W1 H1 J ext1 rel1 wk => ?_⟩
  obtain ⟨G, g0, gE, _, gW⟩ := wk
  refine ⟨fun i n σ2 H2 => ∃ W2 h2 sl2, Ext W H W2 H2 ∧ G W2 H2 ∧ HRel X.K cl W2 h2 H2 ∧ RSl X.K cl W2 H2 sl2 σ2 ∧ forD t f mb n i sl2 h2 = .ok (fl, sl') h', ⟨_, W1, h1, sl, ext1, g0, rel1, rs.mono ext1, e2⟩, ?_⟩
  rintro i n σ2 H2 ⟨W2, h2, sl2, ext2, g2, rel2, rs2, e3⟩
  obtain ⟨y1, y2⟩ := gW W2 h2 H2 i g2 rel2
  cases n with
  | zero => cases e3
  | succ n =>
    have e4 : (match t.at i h2 with
    | some (some d) => bnd (optM (f d sl2)) (fun sl1 => bnd (mb sl1) fun r => match r.1 with
      | .nx => forD t f mb n (i + 1) r.2
      | .ct => forD t f mb n (i + 1) r.2
      | .bk => ret (.nx, r.2)
      | .rt v => ret (.rt v, r.2)) h2
    | some none => .ok (.nx, sl2) h2
    | none => .stuck) = .ok (fl, sl') h' := e3
    cases q : t.at i h2 with
    | none => rw [q] at e4; cases e4
    | some o =>
      rw [q] at e4
      cases o with
      | none =>
        cases e4
        exact .inl ⟨y2 q, po W2 H2 σ2 ext2 rel2 rs2⟩
      | some d =>
        obtain ⟨go, yl⟩ := y1 d q
        refine .inr ⟨go, fun σ3 H3 => ∃ W3 h3 sl3, Ext W H W3 H3 ∧ G W3 H3 ∧ HRel X.K cl W3 h3 H3 ∧ RSl X.K cl W3 H3 sl3 σ3 ∧ forD t f mb n (i + 1) sl3 h3 = .ok (fl, sl') h', fun σ3 H3 z => ⟨n, Nat.lt_succ_self _, z⟩, fun x H3 yx => ?_⟩
        obtain ⟨W3, ext3, _, rel3, rx⟩ := yl x H3 yx
        obtain ⟨sl3, h3, e5, e6⟩ := bnd_ok e4
        obtain ⟨e5', rfl⟩ := optM_ok e5
        refine ⟨W3, h2, sl2, d, sl3, rel3, rs2.mono ext3, rx, e5', fun σ4 rs4 _ => ?_⟩
        obtain ⟨⟨fl1, sl5⟩, h5, e7, e8⟩ := bnd_ok e6
        refine ⟨W3, h2, sl3, fl1, sl5, h5, rel3, rs4, e7, ?_⟩
        cases fl1 with
        | nx => exact fun W' H' σ' ext rel' rs' => ⟨W', h5, sl5, (ext2.trans ext3).trans ext, gE _ _ _ _ (ext3.trans ext) g2, rel', rs', e8⟩
        | ct => exact fun W' H' σ' ext rel' rs' => ⟨W', h5, sl5, (ext2.trans ext3).trans ext, gE _ _ _ _ (ext3.trans ext) g2, rel', rs', e8⟩
        | bk =>
          cases e8
          exact fun W' H' σ' ext rel' rs' => po W' H' σ' ((ext2.trans ext3).trans ext) rel' rs'
        | rt v =>
          cases e8
          exact fun W' H' x' ext rel' rv => po W' H' x' ((ext2.trans ext3).trans ext) rel' rv

/-! ### list comprehensions -/
def lcD (t : Wlk) (f : DV → Sl → Option Sl) (tt : Tx) (el : Ex) (sl : Sl) : Nat → Nat → M (List DV)
  | 0, _ => stk
  | n + 1, i => fun h => match t.at i h with
    | some (some d) => bnd (optM (f d sl)) (fun sl1 => bnd (tt sl1) fun k => if k then bnd (el sl1) fun v => bnd (lcD t f tt el sl n (i + 1)) fun vs => ret (v :: vs) else lcD t f tt el sl n (i + 1)) h
    | some none => .ok [] h
    | none => .stuck
def wipeO (sl : Sl) : List Nat → Sl
  | [] => sl
  | v :: vs => (wipeO sl vs).set v none
def eLc (mi : Ix) (f : DV → Sl → Option Sl) (own : List Nat) (tt : Tx) (el : Ex) : Ex := fun sl => bnd (mi sl) fun t => bnd (lcD t f tt el (wipeO sl own) 16777216 0) lstD
theorem wipeO_len (sl : Sl) : ∀ vs, (wipeO sl vs).length = sl.length
  | [] => rfl
  | v :: vs => by unfold wipeO; rw [List.length_set, wipeO_len sl vs]
theorem ros_wipe {sl : Sl} {σ : L2.St} (rs : ROs K cl W H sl σ) : ∀ vs : List Nat, ROs K cl W H (wipeO sl vs) (wipe σ vs)
  | [] => rs
  | v :: vs => fun i d q => by
    have ih := ros_wipe rs vs
    unfold wipeO at q
    unfold wipe
    by_cases hi : v = i
    · subst hi
      by_cases hv : v < (wipeO sl vs).length
      · rw [List.getElem?_set_self hv] at q; cases q
      · rw [List.getElem?_eq_none (by simpa using hv)] at q; cases q
    · rw [List.getElem?_set_ne hi] at q
      obtain ⟨x, h1, h2⟩ := ih i d q
      exact ⟨x, by rw [List.getElem?_set_ne hi]; exact h1, h2⟩
theorem wipe_get (σ : L2.St) (i : Nat) : ∀ vs : List Nat, i ∉ vs → (wipe σ vs)[i]? = σ[i]?
  | [], _ => rfl
  | v :: vs, h => by
    unfold wipe
    rw [List.getElem?_set_ne (fun z => h (by rw [z]; exact List.mem_cons_self))]
    exact wipe_get σ i vs fun z => h (List.mem_cons_of_mem _ z)
theorem wipe_at (σ : L2.St) (i : Nat) (hi : i < σ.length) : ∀ vs : List Nat, i ∈ vs → (wipe σ vs)[i]? = some none
  | v :: vs, h => by
    unfold wipe
    by_cases z : v = i
    · subst z
      exact List.getElem?_set_self (by rw [wipe_length]; exact hi)
    · rw [List.getElem?_set_ne z]
      exact wipe_at σ i hi vs ((List.mem_cons.mp h).resolve_left fun q => z q.symm)
theorem wipe_same {σ σ2 : L2.St} {vs ws : List Nat} (hl : σ2.length = σ.length) (h : ∀ j, j ∉ ws → σ2[j]? = (wipe σ vs)[j]?) (sub : ∀ j ∈ ws, j ∈ vs) : wipe σ2 vs = wipe σ vs := by
  apply List.ext_getElem?
  intro i
  by_cases hi : i ∈ vs
  · by_cases hlt : i < σ.length
    · rw [wipe_at _ _ (by omega) _ hi, wipe_at _ _ hlt _ hi]
    · rw [List.getElem?_eq_none (by rw [wipe_length]; omega), List.getElem?_eq_none (by rw [wipe_length]; omega)]
  · rw [wipe_get _ _ _ hi, h i fun z => hi (sub i z)]
/-- the tests of a comprehension -/
abbrev DTs (cl : Cl) (X : Cx) (ifs : List Expr) (m : Tx) : Prop := PTs X ifs (tT X.K cl m)
def bYes : Tx := fun _ => ret true
theorem dts_nil : DTs cl X [] bYes := ⟨fun pins s σ H Q I q => by
  obtain ⟨W, h, sl, b, h', rel, rs, e, po⟩ := q
  cases e
  exact pts_nil.run pins s σ H Q I (po W H .refl rel)⟩
theorem dts_one {c : Expr} {m : Tx} (p : DT cl X c m) : DTs cl X [c] m := pts_one p
theorem lc_le {mi : Ix} {f : DV → Sl → Option Sl} {ws vs0 : List Nat} {tt : Tx} {el : Ex} {σ : L2.St} {Q : VK} (sub : ∀ j ∈ ws, j ∈ vs0) (q : tE K cl (eLc mi f vs0 tt el) σ H Q) : tLc (tI K cl mi) (tG K cl ws f) (tT K cl tt) (tE K cl el) vs0 σ H Q := by
  obtain ⟨W, h, sl0, v, h', rel, rs0, e, po⟩ := q
  -- the slots, as many as there are
  obtain ⟨t, h1, e1, e2⟩ := bnd_ok e
  obtain ⟨all, h2, e3, e4⟩ := bnd_ok e2
  obtain ⟨zall, e4⟩ := fit_if e4
  cases e4
  refine ⟨W, h, sl0, t, h1, rel, rs0, e1, fun W1 H1 J ext1 rel1 wk D hD => ?_⟩
  obtain ⟨G, g0, gE, gO, gW⟩ := wk
  have nD : ∀ a, W.F a → a ≠ D := fun a q z => by
    obtain ⟨u, hu⟩ := rel1.tr a (ext1.sub a q)
    rw [z, hD] at hu
    cases hu
  refine ⟨fun i n H2 => ∃ W2 h3 accD acc rest, Ext W H W2 H2 ∧ G W2 H2 ∧ HRel K cl W2 h3 H2 ∧ RSl K cl W2 H2 (wipeO sl0 vs0) (wipe σ vs0) ∧ W2.F D ∧ Apart W2 h3 D ∧ H2 D = some (.lst acc) ∧ RVs K cl W2 H2 accD acc ∧
    lcD t f tt el (wipeO sl0 vs0) n i h3 = .ok rest h2 ∧ accD ++ rest = all, ⟨_, W1.fz D, h1, [], [], all, ext1.trans (ext_new hD rel1), gE _ _ _ _ (ext_new hD rel1) g0, rel1.new hD,
    ⟨by rw [wipeO_len, wipe_length]; exact rs0.1, (ros_wipe rs0.2 _).mono (ext1.trans (ext_new hD rel1))⟩, .inr rfl, fun n a dx q => Apart.fresh (h := h1) rel1 hD n a dx q, upd_same, .nil, e3, rfl⟩, ?_⟩
  rintro i n H2 ⟨W2, h3, accD, acc, rest, ext2, g2, rel2, rs2, hF, ap, hDa, racc, e5, eall⟩
  obtain ⟨y1, y2⟩ := gW W2 h3 H2 i g2 rel2
  cases n with
  | zero => cases e5
  | succ n =>
    have e6 : (match t.at i h3 with
    | some (some d) => bnd (optM (f d (wipeO sl0 vs0))) (fun sl1 => bnd (tt sl1) fun k => if k then bnd (el sl1) fun v => bnd (lcD t f tt el (wipeO sl0 vs0) n (i + 1)) fun vs => ret (v :: vs) else lcD t f tt el (wipeO sl0 vs0) n (i + 1)) h3
    | some none => .ok [] h3
    | none => .stuck) = .ok rest h2 := e5
    cases q : t.at i h3 with
    | none => rw [q] at e6; cases e6
    | some o =>
      rw [q] at e6
      cases o with
      | none =>
        cases e6
        rw [List.append_nil] at eall
        subst eall
        have hacc : ∃ u, H2 D = some u ∧ Acc u := ⟨_, hDa, .inl ⟨_, rfl⟩⟩
        refine .inl ⟨y2 q, po (W2.let D) H2 (.ref D) ⟨fun n p e => (Off.let (W := W2) hacc).pre n p (ext2.pre n p e), fun a z => ⟨ext2.sub a z, nD a z⟩, ext2.keep, fun n p e => ?_⟩
          (rel2.let hacc ap (fun _ _ z => by cases z) ⟨fun z => z.2 rfl, acc, hDa, racc.off (Off.let hacc)⟩) (.ref (d := D) ?_)⟩
        · have e : (W2.ρ ++ [(D, D)])[n]? = some p := e
          rcases getElem?_snoc e with ⟨e, _⟩ | ⟨_, e⟩
          · exact ext2.new n p e
          · exact .inr fun z => nD _ z (by rw [← e])
        · show (W2.ρ ++ [(D, D)])[h2.length]? = some (D, D)
          rw [rel2.len]; simp
      | some d =>
        obtain ⟨go, yl⟩ := y1 d q
        refine .inr ⟨go, _, fun H3 z => ⟨n, Nat.lt_succ_self _, z⟩, fun x H3 yx => ?_⟩
        obtain ⟨W3, ext3, _, rel3, rx⟩ := yl x H3 yx
        obtain ⟨sl1, h4, e7, e8⟩ := bnd_ok e6
        obtain ⟨e7', rfl⟩ := optM_ok e7
        refine ⟨W3, h3, _, d, sl1, rel3, rs2.mono ext3, rx, e7', fun σ4 rs4 z4 => ⟨wipe_same (z4.1.trans (wipe_length _ _)) z4.2 sub, ?_⟩⟩
        obtain ⟨k, h5, e9, e10⟩ := bnd_ok e8
        refine ⟨W3, h3, sl1, k, h5, rel3, rs4, e9, fun W4 H4 ext4 rel4 => ?_⟩
        cases k with
        | false =>
          have ext := ext3.trans ext4
          exact iteF ⟨W4, h5, accD, acc, rest, ext2.trans ext, gE _ _ _ _ ext g2, rel4, rs2.mono ext, ext.sub D hF, ap.ext ext hF, (ext.keep D hF).trans hDa, racc.mono ext, e10, eall⟩
        | true =>
          refine iteT ?_
          obtain ⟨v, h6, e11, e12⟩ := bnd_ok e10
          obtain ⟨vs, h7, e13, e14⟩ := bnd_ok e12
          cases e14
          refine ⟨W4, h5, sl1, v, h6, rel4, rs4.mono ext4, e11, fun W5 H5 y ext5 rel5 rv5 => ?_⟩
          have ext := (ext3.trans ext4).trans ext5
          have hDb : H5 D = some (.lst acc) := (ext.keep D hF).trans hDa
          have hacc : ∃ u, H5 D = some u ∧ Acc u := ⟨_, hDb, .inl ⟨_, rfl⟩⟩
          have ap5 : Apart W5 h6 D := ap.ext ext hF
          have off : Off W5 H5 W5 (upd H5 D (.lst (acc ++ [y]))) D := Off.wr hacc
          have e25 := ext2.trans ext
          refine ⟨acc, hDb, ?_, W5, h6, accD ++ [v], acc ++ [y], vs, ⟨e25.pre, e25.sub, fun a z => (upd_ne (nD a z)).trans (e25.keep a z), e25.new⟩, gO _ _ _ _ D off (gE _ _ _ _ ext g2), rel5.accWr hacc ap5 (fun _ z => by cases z),
            (rs2.mono ext).off off, ext.sub D hF, ap5, upd_same, ((racc.mono ext).append (.cons rv5 .nil)).off off, e13, ?_⟩
          · rw [← racc.length]
            have : all.length ≤ sizeLine := zall
            rw [← eall, List.length_append, List.length_cons] at this
            omega
          · rw [List.append_assoc]; exact eall
theorem de_lc {elt tg iter : Expr} {ifs : List Expr} {scope : Scope} {own : List (Str × Nat)} {ws : List Nat} {mi : Ix} {f : DV → Sl → Option Sl} {tt : Tx} {el : Ex} (hc : X.calm = true) (hN : X.N.Nodup) (hi : DI cl X tg iter mi) (ok : BlkOk X.N X.env.scope scope own)
    (hg : ∀ (s : Shared) (H : Hp) (C : Addr) (cc : List (Str × Addr)) (fp : List Addr), DG cl (X.blk s H scope (compEnvC scope cc C X.env) fp) tg ws f) (sub : ∀ j ∈ ws, j ∈ own.map Prod.snd)
    (ht : ∀ (s : Shared) (H : Hp) (C : Addr) (cc : List (Str × Addr)) (fp : List Addr), DTs cl (X.blk s H scope (compEnvC scope cc C X.env) fp) ifs tt)
    (he : ∀ (s : Shared) (H : Hp) (C : Addr) (cc : List (Str × Addr)) (fp : List Addr), DE cl (X.blk s H scope (compEnvC scope cc C X.env) fp) elt el) (hs : ∀ x, foldedSetIterable iter X.env x = pure x := by intro _; rfl) :
    PE X (.ListComp elt [⟨tg, iter, ifs, 0⟩] scope pos) (tE X.K cl (eLc mi f (own.map Prod.snd) tt el)) := by
  exact (pe_lc (g := tG X.K cl ws f) (tt := tT X.K cl tt) (te := tE X.K cl el) hc hN hi ok (fun s H C cc fp => hg s H C cc fp) (fun s H C cc fp => ht s H C cc fp) (fun s H C cc fp => he s H C cc fp) hs).mono fun σ H Q q => lc_le sub q
end
end D
set_option Elab.async false
set_option linter.all false
set_option maxRecDepth 100000
set_option maxHeartbeats 2000000
/-! D4: operators. -/
namespace D
open PySem PySem.Spec PyProof.Rows L2 SlX
section
variable {K : PySem.W.Frag} {cl : Cl} {W W1 : Wd} {H H1 : Hp} {h h' : Hs} {X : Cx} {pos : Pos}

/-! ### + -/
def lsAt (n : Nat) : M (List DV) := fun h => match h[n]? with
  | some (.lst ds) => .ok ds h
  | _ => .stuck
theorem lsAt_ok {n : Nat} {ds : List DV} (e : lsAt n h = .ok ds h') : h' = h ∧ h[n]? = some (.lst ds) := by
  unfold lsAt at e
  cases q : h[n]? with
  | none => rw [q] at e; cases e
  | some u =>
    rw [q] at e
    cases u with
    | lst ds => cases e; exact ⟨rfl, rfl⟩
    | dic _ => cases e
    | dfz _ => cases e
    | ins _ _ => cases e
    | dead => cases e
    | pot _ _ => cases e
theorem HRel.lst {n : Nat} {ds : List DV} {a dx : Addr} (rel : HRel K cl W h H) (e : h[n]? = some (.lst ds)) (hn : W.ρ[n]? = some (a, dx)) : ¬ W.F a ∧ ∃ xs, H a = some (.lst xs) ∧ RVs K cl W H ds xs := rel.ok n _ a dx e hn
def addD (x y : DV) : M DV := match x, y with
  | .int i, .int j => ret (.int (i + j))
  | .str s, .str t => if fits (s.length + t.length) then ret (.str (s ++ t)) else stk
  | .tup a, .tup b => if fits (a.length + b.length) then ret (.tup (a ++ b)) else stk
  | .ref n, .ref m => bnd (lsAt n) fun a => bnd (lsAt m) fun b => lstD (a ++ b)
  | _, _ => stk
theorem o_add : O2 cl X (binaryOp .Add) addD := by
  intro pins s σ H x y v u Q I rx ry q
  obtain ⟨W, h, d1, d2, v', h', rel, r1, r2, e, po⟩ := q
  cases r1 <;> cases r2 <;> first | (cases e; done) | skip
  · rename_i i j
    cases e
    exact op_add pins s σ H _ _ v u Q I rx ry ⟨i, j, rfl, rfl, po.now rel (.int _)⟩
  · rename_i a b
    obtain ⟨z, e⟩ := fit_if e
    cases e
    refine op_add_str pins s σ H _ _ v u Q I rx ry ⟨_, _, rfl, rfl, by rw [SX.S_len, SX.S_len]; exact z, ?_⟩
    rw [SX.S_cat]
    exact po.now rel (.str _)
  · rename_i n a dx hn m b dy hm
    obtain ⟨l1, h1, e1, e2⟩ := bnd_ok e
    obtain ⟨rfl, q1⟩ := lsAt_ok e1
    obtain ⟨l2, h2, e3, e4⟩ := bnd_ok e2
    obtain ⟨rfl, q2⟩ := lsAt_ok e3
    obtain ⟨z, e4⟩ := fit_if e4
    cases e4
    obtain ⟨_, xs, hx, rx'⟩ := rel.lst q1 hn
    obtain ⟨_, ys, hy, ry'⟩ := rel.lst q2 hm
    exact op_cat pins s σ H _ _ v u Q I rx ry ⟨_, _, xs, ys, rfl, rfl, hx, hy, by rw [← rx'.length, ← ry'.length, ← List.length_append]; exact z, fun p hp => po_lst po rel (rx'.append ry') p hp⟩
  · rename_i ds xs a f1 t1 es ys b f2 t2
    obtain ⟨z, e⟩ := fit_if e
    cases e
    refine op_catA pins s σ H _ _ v u Q I rx ry ⟨_, _, xs, ys, rfl, rfl, f1.sq, f2.sq, by rw [← t1.length, ← t2.length]; exact z, fun e => ?_, fun _ e => ?_, fun _ _ p hp => ?_⟩
    · subst e
      cases t1
      exact po.now rel (.tup f2 t2)
    · subst e
      cases t2
      rw [List.append_nil] at po
      exact po.now rel (.tup f1 t1)
    · exact po_tup po rel (t1.append t2) p hp
def subD (x y : DV) : M DV := match x, y with
  | .int i, .int j => ret (.int (i - j))
  | _, _ => stk
theorem o_sub : O2 cl X (binaryOp .Sub) subD := by
  intro pins s σ H x y v u Q I rx ry q
  obtain ⟨W, h, d1, d2, v', h', rel, r1, r2, e, po⟩ := q
  cases r1 <;> cases r2 <;> first | (cases e; done) | skip
  rename_i i j
  cases e
  exact op_sub pins s σ H _ _ v u Q I rx ry ⟨i, j, rfl, rfl, po.now rel (.int _)⟩
/-! ### * -/
def mulOk (i j : Int) : Bool := Nat.blt i.natAbs 18446744073709551616 || Nat.blt j.natAbs 18446744073709551616 || Nat.blt (i.natAbs.log2 + j.natAbs.log2) 1000000
theorem mulOk_ok {i j : Int} (e : mulOk i j = true) : IntMulOk i j := by
  unfold mulOk at e
  rw [Bool.or_eq_true, Bool.or_eq_true] at e
  rcases e with (e | e) | e
  · have : i.natAbs < 18446744073709551616 := Nat.blt_eq.mp e
    exact CMul.ok (.inl ⟨by omega, by omega⟩)
  · have : j.natAbs < 18446744073709551616 := Nat.blt_eq.mp e
    exact CMul.ok (.inr ⟨by omega, by omega⟩)
  · exact CMulW.ok (Nat.blt_eq.mp e)
theorem op_mulA : OpR X (binaryOp .Mult) (rI IntMulOk fun i j => .int (i * j)) := opI fun _ _ _ _ _ _ _ hc q => mul_int q hc
def repS (n : Nat) (s : List Nat) : List Nat := (List.replicate n s).flatten
def mulD (x y : DV) : M DV := match x, y with
  | .int i, .int j => if mulOk i j then ret (.int (i * j)) else stk
  | _, _ => stk
theorem o_mul : O2 cl X (binaryOp .Mult) mulD := by
  intro pins s σ H x y v u Q I rx ry q
  obtain ⟨W, h, d1, d2, v', h', rel, r1, r2, e, po⟩ := q
  cases r1 <;> cases r2 <;> first | (cases e; done) | skip
  rename_i i j
  have e' : (if mulOk i j then ret (.int (i * j)) else stk) h = .ok v' h' := e
  cases z : mulOk i j with
  | false => rw [z] at e'; cases e'
  | true =>
    rw [z] at e'
    cases e'
    exact op_mulA pins s σ H _ _ v u Q I rx ry ⟨i, j, rfl, rfl, mulOk_ok z, po.now rel (.int _)⟩
/-! ### // % ** -/
def divOk (j : Int) : Bool := (Nat.blt j.natAbs 1073741824 || (decide (0 < j) && Nat.blt j.natAbs.log2 9000)) && (j != 0)
def fdivD (x y : DV) : M DV := match x, y with
  | .int i, .int j => if divOk j then ret (.int (i.fdiv j)) else stk
  | _, _ => stk
theorem if_ok {α : Type} {b : Bool} {m : M α} {v : α} (e : (if b then m else stk) h = .ok v h') : b = true ∧ m h = .ok v h' := by
  cases b with
  | false => cases e
  | true => exact ⟨rfl, e⟩
theorem o_fdiv : O2 cl X (binaryOp .FloorDiv) fdivD := by
  intro pins s σ H x y v u Q I rx ry q
  obtain ⟨W, h, d1, d2, v', h', rel, r1, r2, e, po⟩ := q
  cases r1 <;> cases r2 <;> first | (cases e; done) | skip
  rename_i i j
  obtain ⟨z, e⟩ := if_ok e
  cases e
  unfold divOk at z
  rw [Bool.and_eq_true, Bool.or_eq_true, Bool.and_eq_true] at z
  obtain ⟨z1, z2⟩ := z
  have hj : j ≠ 0 := by simpa using z2
  rcases z1 with z1 | ⟨z1, z3⟩
  · exact op_fdivN pins s σ H _ _ v u Q I rx ry ⟨i, j, rfl, rfl, ⟨hj, Nat.blt_eq.mp z1⟩, po.now rel (.int _)⟩
  · have hp : 0 < j := of_decide_eq_true z1
    refine op_fdivW pins s σ H _ _ v u Q I rx ry ⟨i, j, rfl, rfl, ⟨hp, Nat.blt_eq.mp z3⟩, ?_⟩
    show Q (V.int (i / j)) H
    rw [← Int.fdiv_eq_ediv_of_nonneg i (Int.le_of_lt hp)]
    exact po.now rel (.int _)
def modD (x y : DV) : M DV := match x, y with
  | .int i, .int j => if j != 0 then ret (.int (i.fmod j)) else stk
  | _, _ => stk
theorem o_mod : O2 cl X (binaryOp .Mod) modD := by
  intro pins s σ H x y v u Q I rx ry q
  obtain ⟨W, h, d1, d2, v', h', rel, r1, r2, e, po⟩ := q
  cases r1 <;> cases r2 <;> first | (cases e; done) | skip
  rename_i i j
  obtain ⟨z, e⟩ := if_ok e
  cases e
  exact op_modN pins s σ H _ _ v u Q I rx ry ⟨i, j, rfl, rfl, by simpa using z, po.now rel (.int _)⟩
def powOk (i j : Int) : Bool := decide (0 ≤ j) && Nat.ble ((i.natAbs.log2 + 1) * j.toNat) 134217728
def powD (x y : DV) : M DV := match x, y with
  | .int i, .int j => if powOk i j then ret (.int (i ^ j.toNat)) else stk
  | _, _ => stk
theorem op_powA : OpR X (binaryOp .Pow) (rI (fun i j => 0 ≤ j ∧ (Builtin.Int.intBits i : Int) * j ≤ 2 ^ 27) fun i j => .int (i ^ j.toNat)) := opI fun _ _ _ _ _ _ _ hc q => pow_int hc.1 hc.2 q
theorem o_pow : O2 cl X (binaryOp .Pow) powD := by
  intro pins s σ H x y v u Q I rx ry q
  obtain ⟨W, h, d1, d2, v', h', rel, r1, r2, e, po⟩ := q
  cases r1 <;> cases r2 <;> first | (cases e; done) | skip
  rename_i i j
  obtain ⟨z, e⟩ := if_ok e
  cases e
  unfold powOk at z
  rw [Bool.and_eq_true] at z
  have z1 : 0 ≤ j := of_decide_eq_true z.1
  have z2 : (i.natAbs.log2 + 1) * j.toNat ≤ 134217728 := Nat.le_of_ble_eq_true z.2
  have b : Builtin.Int.intBits i ≤ i.natAbs.log2 + 1 := by
    unfold Builtin.Int.intBits
    split <;> omega
  refine op_powA pins s σ H _ _ v u Q I rx ry ⟨i, j, rfl, rfl, ⟨z1, ?_⟩, po.now rel (.int _)⟩
  have z3 : Builtin.Int.intBits i * j.toNat ≤ 134217728 := Nat.le_trans (Nat.mul_le_mul_right _ b) z2
  have e1 : (j.toNat : Int) = j := Int.toNat_of_nonneg z1
  have z4 : ((Builtin.Int.intBits i * j.toNat : Nat) : Int) ≤ 134217728 := Int.ofNat_le.mpr z3
  rw [Int.natCast_mul, e1] at z4
  exact z4
def negD (x : DV) : M DV := match x with
  | .int i => ret (.int (-i))
  | _ => stk
theorem o_neg : O1 cl X (unaryOp .USub) negD := by
  intro pins s σ H x v Q I rx q
  obtain ⟨W, h, d1, v', h', rel, r1, e, po⟩ := q
  cases r1 <;> first | (cases e; done) | skip
  rename_i i
  cases e
  exact un_neg pins s σ H _ v Q I rx ⟨i, rfl, po.now rel (.int _)⟩

/-! ### comparisons -/
def ltS : List Nat → List Nat → Bool
  | [], [] => false
  | [], _ :: _ => true
  | _ :: _, [] => false
  | a :: r, b :: t => Nat.blt a b || (Nat.beq a b && ltS r t)
theorem ltS_iff : ∀ {s t : List Nat}, ltS s t = decide (s < t)
  | [], [] => rfl
  | [], _ :: _ => by simp [ltS]
  | _ :: _, [] => by simp [ltS]
  | a :: r, b :: t => by
    have ih := ltS_iff (s := r) (t := t)
    show (Nat.blt a b || (Nat.beq a b && ltS r t)) = _
    rw [ih]
    by_cases h1 : a < b
    · have : Nat.blt a b = true := Nat.blt_eq.mpr h1
      rw [this]
      simp [h1, List.cons_lt_cons_iff]
    · have e1 : Nat.blt a b = false := by
        cases q : Nat.blt a b with
        | false => rfl
        | true => exact absurd (Nat.blt_eq.mp q) h1
      rw [e1, Bool.false_or]
      by_cases h2 : a = b
      · subst h2
        have : Nat.beq a a = true := Nat.beq_refl a
        rw [this, Bool.true_and]
        simp [List.cons_lt_cons_iff]
      · have : Nat.beq a b = false := by
          cases q : Nat.beq a b with
          | false => rfl
          | true => exact absurd (Nat.eq_of_beq_eq_true q) h2
        rw [this, Bool.false_and]
        simp [List.cons_lt_cons_iff, h1, h2]
def ltD (x y : DV) : M DV := match x, y with
  | .int i, .int j => ret (.bl (decide (i < j)))
  | .str s, .str t => ret (.bl (ltS s t))
  | _, _ => stk
def leD (x y : DV) : M DV := match x, y with
  | .int i, .int j => ret (.bl (decide (i ≤ j)))
  | .str s, .str t => ret (.bl (!ltS t s))
  | _, _ => stk
def gtD (x y : DV) : M DV := match x, y with
  | .int i, .int j => ret (.bl (decide (j < i)))
  | .str s, .str t => ret (.bl (ltS t s))
  | _, _ => stk
def geD (x y : DV) : M DV := match x, y with
  | .int i, .int j => ret (.bl (decide (j ≤ i)))
  | .str s, .str t => ret (.bl (!ltS s t))
  | _, _ => stk
theorem S_tl (s : List Nat) : (SX.S s).cps.toList = s := rfl
theorem o_lt : O2 cl X (compareOp .Lt) ltD := by
  intro pins s σ H x y v u Q I rx ry q
  obtain ⟨W, h, d1, d2, v', h', rel, r1, r2, e, po⟩ := q
  cases r1 <;> cases r2 <;> first | (cases e; done) | skip
  · cases e
    exact op_lt pins s σ H _ _ v u Q I rx ry ⟨_, _, rfl, rfl, po.now rel (.bl _)⟩
  · cases e
    refine op_lt_str pins s σ H _ _ v u Q I rx ry ⟨_, _, rfl, rfl, ?_⟩
    have z := po.now rel (.bl _)
    rw [ltS_iff] at z
    exact z
theorem o_le : O2 cl X (compareOp .LtE) leD := by
  intro pins s σ H x y v u Q I rx ry q
  obtain ⟨W, h, d1, d2, v', h', rel, r1, r2, e, po⟩ := q
  cases r1 <;> cases r2 <;> first | (cases e; done) | skip
  · cases e
    exact op_le pins s σ H _ _ v u Q I rx ry ⟨_, _, rfl, rfl, po.now rel (.bl _)⟩
  · cases e
    refine op_le_str pins s σ H _ _ v u Q I rx ry ⟨_, _, rfl, rfl, ?_⟩
    have z := po.now rel (.bl _)
    rw [ltS_iff] at z
    exact z
theorem o_gt : O2 cl X (compareOp .Gt) gtD := by
  intro pins s σ H x y v u Q I rx ry q
  obtain ⟨W, h, d1, d2, v', h', rel, r1, r2, e, po⟩ := q
  cases r1 <;> cases r2 <;> first | (cases e; done) | skip
  · cases e
    exact op_gt pins s σ H _ _ v u Q I rx ry ⟨_, _, rfl, rfl, po.now rel (.bl _)⟩
  · cases e
    refine op_gt_str pins s σ H _ _ v u Q I rx ry ⟨_, _, rfl, rfl, ?_⟩
    have z := po.now rel (.bl _)
    rw [ltS_iff] at z
    exact z
theorem o_ge : O2 cl X (compareOp .GtE) geD := by
  intro pins s σ H x y v u Q I rx ry q
  obtain ⟨W, h, d1, d2, v', h', rel, r1, r2, e, po⟩ := q
  cases r1 <;> cases r2 <;> first | (cases e; done) | skip
  · cases e
    exact op_ge pins s σ H _ _ v u Q I rx ry ⟨_, _, rfl, rfl, po.now rel (.bl _)⟩
  · cases e
    refine op_ge_str pins s σ H _ _ v u Q I rx ry ⟨_, _, rfl, rfl, ?_⟩
    have z := po.now rel (.bl _)
    rw [ltS_iff] at z
    exact z
/-- == of flat values -/
def eqS : List Nat → List Nat → Bool
  | [], [] => true
  | a :: r, b :: t => Nat.beq a b && eqS r t
  | _, _ => false
theorem eqS_iff : ∀ {s t : List Nat}, eqS s t = decide (s = t)
  | [], [] => rfl
  | [], _ :: _ => rfl
  | _ :: _, [] => rfl
  | a :: r, b :: t => by
    have ih := eqS_iff (s := r) (t := t)
    show (Nat.beq a b && eqS r t) = _
    rw [ih]
    cases q : Nat.beq a b with
    | true =>
      have := Nat.eq_of_beq_eq_true q
      subst this
      simp
    | false =>
      have : a ≠ b := fun z => by rw [z, Nat.beq_refl] at q; cases q
      simp [this]
/-- flat values: what rEq serves -/
def eqF (x y : DV) : Option Bool := match x, y with
  | .non, .non => some true
  | .non, .int _ => some false
  | .int _, .non => some false
  | .non, .bl _ => some false
  | .bl _, .non => some false
  | .non, .str _ => some false
  | .str _, .non => some false
  | .int i, .int j => some (decide (i = j))
  | .bl a, .bl b => some (a == b)
  | .str s, .str t => some (eqS s t)
  | .int _, .str _ => some false
  | .str _, .int _ => some false
  | .bl _, .str _ => some false
  | .str _, .bl _ => some false
  | _, _ => none
theorem eqF_ok {d1 d2 : DV} {x y : V} {b : Bool} (r1 : RV K cl W H d1 x) (r2 : RV K cl W H d2 y) (e : eqF d1 d2 = some b) : scal x y = true ∧ decide (x = y) = b := by
  cases r1 <;> cases r2 <;> first | (cases e; done) | skip
  all_goals (cases e)
  · exact ⟨rfl, rfl⟩
  · exact ⟨rfl, rfl⟩
  · exact ⟨rfl, rfl⟩
  · exact ⟨rfl, rfl⟩
  · exact ⟨rfl, rfl⟩
  · refine ⟨rfl, ?_⟩
    rename_i a b
    cases a <;> cases b <;> rfl
  · exact ⟨rfl, rfl⟩
  · exact ⟨rfl, rfl⟩
  · refine ⟨rfl, ?_⟩
    rename_i i j
    by_cases z : i = j
    · subst z; simp
    · simp [z]
  · exact ⟨rfl, rfl⟩
  · exact ⟨rfl, rfl⟩
  · exact ⟨rfl, rfl⟩
  · exact ⟨rfl, rfl⟩
  · refine ⟨rfl, ?_⟩
    rename_i s t
    rw [eqS_iff]
    by_cases z : s = t
    · subst z; simp
    · have : ¬ V.str (SX.S s) = V.str (SX.S t) := fun q => by
        injection q with q
        exact z (SX.S_inj q)
      rw [decide_eq_false this, decide_eq_false z]
def isD (x y : DV) : M DV := match y with
  | .non => match x with
    | .non => ret (.bl true)
    | .bl _ => ret (.bl false)
    | .int _ => ret (.bl false)
    | .str _ => ret (.bl false)
    | .ref _ => ret (.bl false)
    | .tup _ => ret (.bl false)
    | .obj _ _ => ret (.bl false)
    | .scr _ => ret (.bl false)
    | .fls _ => ret (.bl false)
    | .exc _ _ => ret (.bl false)
  | .bl b => match x with
    | .bl a => ret (.bl (a == b))
    | _ => stk
  | _ => stk
def notD (g : DV → DV → M DV) (x y : DV) : M DV := bnd (g x y) fun z => match z with
  | .bl b => ret (.bl (!b))
  | _ => stk
theorem isN_val {d1 : DV} {x : V} {v' : DV} (r1 : RV K cl W H d1 x) (e : isD d1 .non h = .ok v' h') : h' = h ∧ v' = .bl (decide (x = .non)) := by
  cases r1 <;> (cases e; exact ⟨rfl, rfl⟩)
theorem o_is : O2 cl X (compareOp .Is) isD := by
  intro pins s σ H x y v u Q I rx ry q
  obtain ⟨W, h, d1, d2, v', h', rel, r1, r2, e, po⟩ := q
  cases r2 <;> first | (cases e; done) | skip
  · obtain ⟨rfl, rfl⟩ := isN_val r1 e
    exact op_isN pins s σ H _ _ v u Q I rx ry ⟨rfl, po.now rel (.bl _)⟩
  · cases r1 <;> first | (cases e; done) | skip
    cases e
    rename_i b a
    refine op_is_bl pins s σ H _ _ v u Q I rx ry ⟨_, _, rfl, rfl, ?_⟩
    have z := po.now rel (.bl _)
    rw [show decide (a = b) = (a == b) by cases a <;> cases b <;> rfl]
    exact z
theorem o_isnot : O2 cl X (compareOp .IsNot) (notD isD) := by
  intro pins s σ H x y v u Q I rx ry q
  obtain ⟨W, h, d1, d2, v', h', rel, r1, r2, e, po⟩ := q
  obtain ⟨z, h1, e1, e2⟩ := bnd_ok e
  cases r2 <;> first | (cases e1; done) | skip
  · obtain ⟨rfl, rfl⟩ := isN_val r1 e1
    cases e2
    exact op_notN pins s σ H _ _ v u Q I rx ry ⟨rfl, po.now rel (.bl _)⟩
  · cases r1 <;> first | (cases e1; done) | skip
    cases e1
    cases e2
    rename_i b a
    refine op_isnot_bl pins s σ H _ _ v u Q I rx ry ⟨_, _, rfl, rfl, ?_⟩
    have z := po.now rel (.bl _)
    rw [show (!decide (a = b)) = !(a == b) by cases a <;> cases b <;> rfl]
    exact z
end
end D
set_option Elab.async false
set_option linter.all false
set_option maxRecDepth 100000
set_option maxHeartbeats 2000000
/-! D5: builtins. -/
namespace D
open PySem PySem.Spec PyProof.Rows L2 SlX
section
variable {K : PySem.W.Frag} {cl : Cl} {W W1 : Wd} {H H1 : Hp} {h h' : Hs} {X : Cx} {pos : Pos}
/-- reading off a value that stays: what a value's length, its members are -/
def itsD (d : DV) : M (List DV) := match d with
  | .tup ds => ret ds
  | .scr ns => ret (ns.map .int)
  | .fls ds => ret ds
  | .ref n => lsAt n
  | _ => stk
theorem rv_scr {ns : List Int} {xs : List V} (r : RVs K cl W H (ns.map .int) xs) : xs = ns.map .int := r.ints
theorem rvs_ints : ∀ (ns : List Int), RVs K cl W H (ns.map .int) (ns.map .int)
  | [] => .nil
  | n :: t => .cons (.int n) (rvs_ints t)
theorem itsD_ok {d : DV} {x : V} {ds : List DV} (rel : HRel K cl W h H) (r : RV K cl W H d x) (e : itsD d h = .ok ds h') : h' = h ∧ ∃ a xs, x = .ref a ∧ (SqL K H a xs ∨ SqT K H a xs) ∧ RVs K cl W H ds xs := by
  cases r <;> first | (cases e; done) | skip
  · rename_i n a dx hn
    obtain ⟨rfl, q⟩ := lsAt_ok e
    obtain ⟨_, xs, hx, rx⟩ := rel.lst q hn
    exact ⟨rfl, a, xs, rfl, .inl (SqL.of hx), rx⟩
  · cases e
    exact ⟨rfl, _, _, rfl, .inr (FzT.sq (by assumption)), by assumption⟩
  · cases e
    exact ⟨rfl, _, _, rfl, .inl (FzL.sq (by assumption)), rvs_ints _⟩
  · cases e
    exact ⟨rfl, _, _, rfl, .inl (FzL.sq (by assumption)), by assumption⟩
/-- len -/
def lenD (ds : List DV) : M DV := match ds with
  | [.str s] => if fits s.length then ret (.int (s.length : Nat)) else stk
  | [.ref n] => fun h => match h[n]? with
    | some (.lst xs) => .ok (.int (xs.length : Nat)) h
    | some (.dic ks) => .ok (.int (ks.length : Nat)) h
    | _ => .stuck
  | [d] => bnd (itsD d) fun xs => ret (.int (xs.length : Nat))
  | _ => stk
theorem RVs.one {d : DV} {xs : List V} (r : RVs K cl W H [d] xs) : ∃ x, xs = [x] ∧ RV K cl W H d x := by
  cases r with
  | cons a b => cases b; exact ⟨_, rfl, a⟩
theorem RVs.two {d e : DV} {xs : List V} (r : RVs K cl W H [d, e] xs) : ∃ x y, xs = [x, y] ∧ RV K cl W H d x ∧ RV K cl W H e y := by
  cases r with
  | cons a b =>
    obtain ⟨y, rfl, c⟩ := RVs.one b
    exact ⟨_, y, rfl, a, c⟩
theorem RKV.length {ds : List (DV × DV)} {xs : List (Key × V)} (r : RKV K cl W H ds xs) : ds.length = xs.length := by
  induction r with
  | nil => rfl
  | cons _ _ _ ih => rw [List.length_cons, List.length_cons, ih]
theorem c_len : CD cl X (.builtin "len") lenD := by
  intro pins s σ H xs us Q I rv q
  obtain ⟨W, h, ds, v', h', rel, r, e, po⟩ := q
  cases r with
  | nil => cases e
  | cons r1 rr =>
    cases rr with
    | cons => cases r1 <;> cases e
    | nil =>
      cases r1 with
      | non => cases e
      | bl => cases e
      | int => cases e
      | obj => cases e
      | exc => cases e
      | str z =>
        obtain ⟨z1, e⟩ := fit_if e
        cases e
        exact call_len pins s σ H _ us Q I rv ⟨_, _, rfl, ⟨by rw [SX.S_len]; exact z1, rfl⟩, by rw [SX.S_len]; exact po.now rel (.int _)⟩
      | tup f t =>
        rename_i ds' xs' a'
        have e : R.ok (DV.int (ds'.length : Nat)) h = .ok v' h' := e
        cases e
        exact call_len pins s σ H _ us Q I rv ⟨_, _, rfl, .inr ⟨_, f.sq, rfl⟩, by rw [← t.length]; exact po.now rel (.int _)⟩
      | fls f t =>
        rename_i ds' xs' a'
        have e : R.ok (DV.int (ds'.length : Nat)) h = .ok v' h' := e
        cases e
        exact call_len pins s σ H _ us Q I rv ⟨_, _, rfl, .inl ⟨_, f.sq, rfl⟩, by rw [← t.length]; exact po.now rel (.int _)⟩
      | scr f =>
        rename_i ns' a'
        have e : R.ok (DV.int ((ns'.map DV.int).length : Nat)) h = .ok v' h' := e
        cases e
        exact call_len pins s σ H _ us Q I rv ⟨_, _, rfl, .inl ⟨_, f.sq, rfl⟩, by rw [List.length_map] at po ⊢; exact po.now rel (.int _)⟩
      | ref hn =>
        rename_i n a dx
        have e' : (match h[n]? with
          | some (.lst xs) => R.ok (.int (xs.length : Nat)) h
          | some (.dic ks) => R.ok (.int (ks.length : Nat)) h
          | _ => R.stuck) = R.ok v' h' := e
        cases q : h[n]? with
        | none => rw [q] at e'; cases e'
        | some o =>
          rw [q] at e'
          cases o with
          | lst ds =>
            cases e'
            obtain ⟨_, xs, h1, r⟩ := rel.ok n _ a dx q hn
            exact call_len pins s σ H _ us Q I rv ⟨_, _, rfl, .inl ⟨xs, SqL.of h1, rfl⟩, by rw [← r.length]; exact po.now rel (.int _)⟩
          | dic ks =>
            cases e'
            obtain ⟨_, xs, h1, r⟩ := rel.ok n _ a dx q hn
            exact call_lenD pins s σ H _ us Q I rv ⟨a, xs, rfl, h1, by rw [← r.length]; exact po.now rel (.int _)⟩
          | dfz ks => cases e'
          | ins c fs => cases e'
          | dead => cases e'
          | pot _ _ => cases e'
/-- abs, int of an int or bool -/
def absD (ds : List DV) : M DV := match ds with
  | [.int i] => ret (.int (if i < 0 then -i else i))
  | _ => stk
theorem c_abs : CD cl X (.builtin "abs") absD := by
  intro pins s σ H xs us Q I rv q
  obtain ⟨W, h, ds, v', h', rel, r, e, po⟩ := q
  unfold absD at e
  split at e
  · obtain ⟨x, rfl, r1⟩ := r.one
    cases r1
    cases e
    exact call_abs pins s σ H _ us Q I rv ⟨_, rfl, po.now rel (.int _)⟩
  · cases e
def intD (ds : List DV) : M DV := match ds with
  | [.int i] => ret (.int i)
  | [.bl b] => ret (.int (if b then 1 else 0))
  | _ => stk
theorem c_int : CD cl X (.type "int") intD := by
  intro pins s σ H xs us Q I rv q
  obtain ⟨W, h, ds, v', h', rel, r, e, po⟩ := q
  unfold intD at e
  split at e
  · obtain ⟨x, rfl, r1⟩ := r.one
    cases r1
    cases e
    exact call_int1 pins s σ H _ us Q I rv (.inl ⟨_, rfl, po.now rel (.int _)⟩)
  · obtain ⟨x, rfl, r1⟩ := r.one
    cases r1
    cases e
    exact call_int1 pins s σ H _ us Q I rv (.inr ⟨_, rfl, po.now rel (.int _)⟩)
  · cases e
/-- all, any, sum of a list -/
def blsOf : List DV → Option (List Bool)
  | [] => some []
  | .bl b :: t => (blsOf t).map (b :: ·)
  | _ => none
def intsOf : List DV → Option (List Int)
  | [] => some []
  | .int b :: t => (intsOf t).map (b :: ·)
  | _ => none
theorem blsOf_ok : ∀ {ds : List DV} {bs : List Bool} {xs : List V}, blsOf ds = some bs → RVs K cl W H ds xs → xs = bs.map V.bl
  | [], bs, xs, e, r => by cases e; cases r; rfl
  | d :: t, bs, xs, e, r => by
    cases r with
    | cons r1 r2 =>
      cases r1 <;> first | (cases e; done) | skip
      obtain ⟨cs, e1, e2⟩ := Option.map_eq_some_iff.mp (show (blsOf t).map _ = some bs from e)
      subst e2
      rw [blsOf_ok e1 r2]; rfl
theorem intsOf_ok : ∀ {ds : List DV} {bs : List Int} {xs : List V}, intsOf ds = some bs → RVs K cl W H ds xs → xs = bs.map V.int
  | [], bs, xs, e, r => by cases e; cases r; rfl
  | d :: t, bs, xs, e, r => by
    cases r with
    | cons r1 r2 =>
      cases r1 <;> first | (cases e; done) | skip
      obtain ⟨cs, e1, e2⟩ := Option.map_eq_some_iff.mp (show (intsOf t).map _ = some bs from e)
      subst e2
      rw [intsOf_ok e1 r2]; rfl
def lsOf (f : List DV → M DV) (ds : List DV) : M DV := match ds with
  | [.ref n] => bnd (lsAt n) f
  | [.fls ls] => f ls
  | _ => stk
theorem lsOf_ok {f : List DV → M DV} {ds : List DV} {xs : List V} {v : DV} (rel : HRel K cl W h H) (r : RVs K cl W H ds xs) (e : lsOf f ds h = .ok v h') : ∃ a ls ys, xs = [.ref a] ∧ SqL K H a ys ∧ RVs K cl W H ls ys ∧ f ls h = .ok v h' := by
  unfold lsOf at e
  split at e
  · obtain ⟨x, rfl, r1⟩ := r.one
    cases r1 with
    | ref hn =>
      obtain ⟨l, h1, e1, e2⟩ := bnd_ok e
      obtain ⟨rfl, q⟩ := lsAt_ok e1
      obtain ⟨_, ys, hy, ry⟩ := rel.lst q hn
      exact ⟨_, l, ys, rfl, SqL.of hy, ry, e2⟩
  · obtain ⟨x, rfl, r1⟩ := r.one
    cases r1 with
    | fls f t => exact ⟨_, _, _, rfl, f.sq, t, e⟩
  · cases e
def optV {α : Type} (o : Option α) (f : α → DV) : M DV := match o with
  | some a => ret (f a)
  | none => stk
theorem optV_ok {α : Type} {o : Option α} {f : α → DV} {v : DV} (e : optV o f h = .ok v h') : ∃ a, o = some a ∧ v = f a ∧ h' = h := by
  cases o with
  | none => cases e
  | some a => cases e; exact ⟨a, rfl, rfl, rfl⟩
def allD : List DV → M DV := lsOf fun ls => optV (blsOf ls) fun bs => .bl (bs.all id)
def anyD : List DV → M DV := lsOf fun ls => optV (blsOf ls) fun bs => .bl (bs.any id)
def sumI : List Int → Int
  | [] => 0
  | n :: t => n + sumI t
theorem sumI_eq : ∀ ns : List Int, ns.sum = sumI ns
  | [] => rfl
  | n :: t => by rw [List.sum_cons, sumI_eq t]; rfl
def sumD : List DV → M DV := lsOf fun ls => optV (intsOf ls) fun bs => .int (sumI bs)
theorem c_all (hc : X.calm = true) : CD cl X (.builtin "all") allD := by
  intro pins s σ H xs us Q I rv q
  obtain ⟨W, h, ds, v', h', rel, r, e, po⟩ := q
  obtain ⟨a, ls, ys, rfl, ha, ry, e⟩ := lsOf_ok rel r e
  obtain ⟨bs, e1, rfl, rfl⟩ := optV_ok e
  have := blsOf_ok e1 ry
  subst this
  exact cr_all hc pins s σ H _ us Q I rv ⟨a, bs, rfl, ha, po.now rel (.bl _)⟩
theorem c_any (hc : X.calm = true) : CD cl X (.builtin "any") anyD := by
  intro pins s σ H xs us Q I rv q
  obtain ⟨W, h, ds, v', h', rel, r, e, po⟩ := q
  obtain ⟨a, ls, ys, rfl, ha, ry, e⟩ := lsOf_ok rel r e
  obtain ⟨bs, e1, rfl, rfl⟩ := optV_ok e
  have := blsOf_ok e1 ry
  subst this
  exact cr_any hc pins s σ H _ us Q I rv ⟨a, bs, rfl, ha, po.now rel (.bl _)⟩
theorem c_sum (hc : X.calm = true) : CD cl X (.builtin "sum") sumD := by
  intro pins s σ H xs us Q I rv q
  obtain ⟨W, h, ds, v', h', rel, r, e, po⟩ := q
  obtain ⟨a, ls, ys, rfl, ha, ry, e⟩ := lsOf_ok rel r e
  obtain ⟨bs, e1, rfl, rfl⟩ := optV_ok e
  have := intsOf_ok e1 ry
  subst this
  exact cr_sum hc pins s σ H _ us Q I rv ⟨a, bs, rfl, ha, by rw [sumI_eq]; exact po.now rel (.int _)⟩
/-- list(xs), tuple(xs) of a list, a tuple -/
def listD (ds : List DV) : M DV := match ds with
  | [d] => bnd (itsD d) fun xs => lstD xs
  | _ => stk
theorem c_list : CD cl X (.type "list") listD := by
  intro pins s σ H xs us Q I rv q
  obtain ⟨W, h, ds, v', h', rel, r, e, po⟩ := q
  unfold listD at e
  split at e
  · obtain ⟨x, rfl, r1⟩ := r.one
    obtain ⟨l, h1, e1, e2⟩ := bnd_ok e
    obtain ⟨rfl, a, ys, rfl, sq, ry⟩ := itsD_ok rel r1 e1
    obtain ⟨z, e2⟩ := fit_if e2
    cases e2
    exact call_list_of pins s σ H _ us Q I rv ⟨a, ys, rfl, sq, fun p hp => po_lst po rel ry p hp⟩
  · cases e
def tupleD (ds : List DV) : M DV := match ds with
  | [.ref n] => bnd (lsAt n) fun xs => ret (.tup xs)
  | [.tup xs] => ret (.tup xs)
  | [.fls xs] => ret (.tup xs)
  | _ => stk
theorem c_tuple : CD cl X (.type "tuple") tupleD := by
  intro pins s σ H xs us Q I rv q
  obtain ⟨W, h, ds, v', h', rel, r, e, po⟩ := q
  unfold tupleD at e
  split at e
  · obtain ⟨x, rfl, r1⟩ := r.one
    cases r1 with
    | ref hn =>
      obtain ⟨l, h1, e1, e2⟩ := bnd_ok e
      obtain ⟨rfl, q⟩ := lsAt_ok e1
      obtain ⟨_, ys, hy, ry⟩ := rel.lst q hn
      cases e2
      exact call_tuple_of pins s σ H _ us Q I rv ⟨_, ys, rfl, .inl ⟨SqL.of hy, fun p hp => po_tup po rel ry p hp⟩⟩
  · obtain ⟨x, rfl, r1⟩ := r.one
    cases r1 with
    | tup f t =>
      cases e
      exact call_tuple_of pins s σ H _ us Q I rv ⟨_, _, rfl, .inr ⟨f.sq, po.now rel (.tup f t)⟩⟩
  · obtain ⟨x, rfl, r1⟩ := r.one
    cases r1 with
    | fls f t =>
      cases e
      exact call_tuple_of pins s σ H _ us Q I rv ⟨_, _, rfl, .inl ⟨f.sq, fun p hp => po_tup po rel t p hp⟩⟩
  · cases e
end
end D
set_option Elab.async false
set_option linter.all false
/-! S0: set(xs) of a list of ints, as a set that can be walked. -/
namespace DS
open PySem PySem.Spec PyProof.Rows PyProof L2
abbrev nuSet (w : World) : Obj := { cls := .type "set", dict := none, data := .set #[] 0 (.fresh 0 0 (!w.params.followText "set-order")) }
section
variable {P : Program} {w : World} {A : Around} {E : Value → Shared → Prop} {s : Shared}
set_option maxRecDepth 100000 in
set_option maxHeartbeats 3200000 in
theorem call_set_lstI {l : Addr} {zs : Array Value} (ns : List Int) {Q : Value → Shared → Prop} (hh : A.handled = none) (hl : s.heap.IsList l zs) (hit : IntsAre zs.toList ns) (hb : ns.length + 1 < scanBound)
    (h : ∀ (h' : Heap) (tk c : Nat), SetR w h' s.heap.objs.size (fun j => decide (j ∈ ns)) c → c ≤ ns.length → (∀ b o, s.heap.get? b = some o → h'.get? b = some o) → Q (.ref s.heap.objs.size) { s with heap := h', toks := tk }) :
    wpAny (model P w) A (call (.type "set") [.ref l]) Q E s := by
  have hez : zs.size = ns.length := by
    have q := IntsAre.length hit
    rw [Array.length_toList] at q
    exact q
  obtain ⟨c, tl, hro⟩ := F.called_set.mro
  have hma := F.called_set.made
  have hsu := F.called_set.sub
  refine wpAny_call (codeAny_of_tree ?_)
  show wpAny _ _ (callAny (.type "set") _) _ _ _
  refine wpAny_pure ⟨Code.quiet_builtin _ (by decide +kernel), codeAny_builtin F.entry_type_call ?_⟩
  rw [Around.under_plain (weight_type_call_type "set" [.ref l] []) rfl]
  have g1 := F.called_set.notType
  have g2 := F.called_set.canCreate
  have hcq := F.typeCall_set_1 (.ref l)
  repeat (any_goals (first | assumption | wp_step))

  refine codeAny_mono (code_set_led1 (.ref l) (E := E) (Q₁ := fun obj s₁ => obj = .ref s.heap.objs.size ∧ s₁ = { s with heap := s.heap.push (nuSet w) }) ⟨rfl, rfl⟩) fun r s₁ hr => ?_
  cases r with
  | error e => exact hr
  | ok fl =>
    cases fl with
    | ret obj =>
      obtain ⟨rfl, rfl⟩ := hr
      have hS : (s.heap.push (nuSet w)).get? s.heap.objs.size = some (nuSet w) := Heap.get?_push_size _ rfl
      have hT : Shared.TypeIs { s with heap := s.heap.push (nuSet w) } (.ref s.heap.objs.size) "set" := ⟨_, hS, rfl⟩
      have hlq := F.called_set.init.lookup
      have hbq := F.called_set.init.bind (.ref s.heap.objs.size)
      repeat (any_goals (first | assumption | wp_step))

      refine codeAny_mono (codeAny_call_builtin (R := wants (fun r s₂ => r = .none ∧ ∃ h' tk c, s₂ = { s with heap := h', toks := tk } ∧ SetR w h' s.heap.objs.size (fun j => decide (j ∈ ns)) c ∧ c ≤ ns.length ∧
          (∀ b o, s.heap.get? b = some o → h'.get? b = some o)) E) F.called_set.init.plain F.entry_set_init (check_set_init_1 hT ?_)) fun r₂ s₂ hr₂ => ?_
      · obtain ⟨ol, hov, hcv, nl, hdv⟩ := hl
        obtain ⟨oc, od, oda, osl⟩ := ol
        simp only at hcv hdv
        subst hcv; subst hdv
        have hov' : (s.heap.push (nuSet w)).get? l = some { cls := .type "list", dict := od, data := .seq zs nl, slots := osl } := Heap.get?_push_of_some _ hov
        have hq1 := F.sub_list_set
        have hq2 := F.sub_list_frozenset
        have hne : (Value.type "list" == Value.type "dict") = false := by decide
        have hl1 : (s.heap.push (nuSet w)).IsList l zs := ⟨_, hov', rfl, nl, rfl⟩
        unfold Builtin.«set.__init__» noKeywords Builtin.Frozenset.updateFrom
        generalize hqI : pyIter = PI
        wp_walk
        subst hqI

        refine wpAny_pyIter_list hl1 ?_
        refine wpAny_bind (wpAny_runValue ?_)
        have hlq2 : l < s.heap.objs.size := Heap.lt_size hov
        have hhq : A.in1.in1.in1.handled = none := by simp [hh]
        have hzq : (s.heap.push (nuSet w)).objs.size = s.heap.objs.size + 1 := Heap.size_push ..
        have hnq : l ≠ (s.heap.push (nuSet w)).objs.size := by
          rw [Heap.size_push]; exact Nat.ne_of_lt (Nat.lt_succ_of_lt hlq2)
        have hsf : s.heap.objs.size ∉ [(s.heap.push (nuSet w)).objs.size, l] := by
          rw [Heap.size_push]; simp only [List.mem_cons, List.mem_singleton, List.not_mem_nil, or_false, not_or]
          exact ⟨Nat.ne_of_lt (Nat.lt_succ_self _), Nat.ne_of_gt hlq2⟩
        have hvq : ∀ (i : Nat) (v : Value), zs[i]? = some v → ∃ k t, ns[i]? = some k ∧ v = .int k t := fun i v hv => by
          have hi : i < ns.length := by rw [← hez]; exact (Array.getElem?_eq_some_iff.mp hv).1
          obtain ⟨t, e⟩ := PyProof.Rows.IntsAre.int_at hit i v (by rw [Array.getElem?_toList]; exact hv)
          refine ⟨ns[i], t, List.getElem?_eq_getElem hi, ?_⟩
          rw [e, List.getD_eq_getElem?_getD, List.getElem?_eq_getElem hi] <;> rfl
        refine set_update_ints ((Walks.list hhq _ l hnq zs).toS) s.heap.objs.size
          hsf ns hez hb hvq (zs.size - 0) 0 _ (by omega) (Nat.zero_le _)
          ⟨⟨_, Heap.get?_push_size _ rfl, rfl, rfl⟩, (hl1.push _)⟩ ?hS0 ?hR
        case hS0 =>
          have hgq : ((s.heap.push (nuSet w)).push { cls := .type "list_iterator", data := .fields #[.ref l, .int 0 0] }).get? s.heap.objs.size
              = some (nuSet w) := Heap.get?_push_of_some _ hS
          exact ⟨0, Nat.le_refl 0, setR_new_at hgq⟩
        case hR =>
          intro s' c' hm hc' hS'
          obtain ⟨h', gg, d', tk', os'⟩ := s'
          have eg : gg = s.gens := hm.gens
          have ed : d' = s.drawn := hm.drawn
          have eo : os' = s.os := hm.os
          subst eg; subst ed; subst eo
          show wpAny _ _ _ _ _ _
          refine wpAny_pure ?_
          show wpAny _ _ (ret Value.none) _ _ _
          rw [hez] at hc'
          refine wpAny_pure ⟨rfl, h', tk', c', rfl, hS', hc', fun b o e => ?_⟩
          have k0 : b < s.heap.objs.size := Heap.lt_size e
          have k1 : b ≠ s.heap.objs.size := Nat.ne_of_lt k0
          have k2 : b ≠ (s.heap.push (nuSet w)).objs.size := by
            rw [Heap.size_push]; exact Nat.ne_of_lt (Nat.lt_succ_of_lt k0)
          exact hm.heap b o (by simp only [List.mem_cons, List.mem_singleton, List.not_mem_nil, or_false, not_or]; exact ⟨k1, k2⟩) (Heap.get?_push_of_some _ (Heap.get?_push_of_some _ e))
      · cases r₂ with
        | error e => exact hr₂
        | ok fm =>
          cases fm with
          | ret r =>
            obtain ⟨rfl, h', tk, c', rfl, hZ, hY, hX⟩ := hr₂
            repeat (any_goals (first | assumption | wp_step))
            exact h _ _ _ hZ hY hX
          | _ => exact hr₂.elim
    | _ => exact hr.elim
end
end DS
set_option Elab.async false
set_option linter.all false
set_option maxRecDepth 100000
set_option maxHeartbeats 2000000
/-! D6: more builtins: sorted(set(ints)), methods, in, subscripts. -/
namespace D
open PySem PySem.Spec PyProof.Rows L2 SlX
section
variable {K : PySem.W.Frag} {cl : Cl} {W W1 : Wd} {H H1 : Hp} {h h' : Hs} {X : Cx} {pos : Pos}
/-! ### sorted(set(ints)) -/
/-- put into a rising list; what is there stays once -/
def insI (i : Int) : List Int → List Int
  | [] => [i]
  | j :: t => if i < j then i :: j :: t else if i = j then j :: t else j :: insI i t
def setI : List Int → List Int
  | [] => []
  | i :: t => insI i (setI t)
theorem mem_insI (i k : Int) : ∀ l, k ∈ insI i l ↔ k = i ∨ k ∈ l
  | [] => by simp [insI]
  | j :: t => by
    unfold insI
    split
    · simp
    · split
      · rename_i e; subst e; simp
      · rw [List.mem_cons, mem_insI i k t, List.mem_cons]
        constructor
        · rintro (a | a | a)
          · exact .inr (.inl a)
          · exact .inl a
          · exact .inr (.inr a)
        · rintro (a | a | a)
          · exact .inr (.inl a)
          · exact .inl a
          · exact .inr (.inr a)
theorem mem_setI (k : Int) : ∀ l, k ∈ setI l ↔ k ∈ l
  | [] => Iff.rfl
  | i :: t => by
    show k ∈ insI i (setI t) ↔ _
    rw [mem_insI, mem_setI k t, List.mem_cons]
theorem rise_insI (i : Int) : ∀ l : List Int, l.Pairwise (· < ·) → (insI i l).Pairwise (· < ·)
  | [], _ => by simp [insI]
  | j :: t, q => by
    have ⟨q1, q2⟩ := List.pairwise_cons.mp q
    unfold insI
    split
    · rename_i e
      refine List.pairwise_cons.mpr ⟨fun k hk => ?_, q⟩
      rcases List.mem_cons.mp hk with z | z
      · omega
      · have := q1 k z; omega
    · split
      · exact q
      · refine List.pairwise_cons.mpr ⟨fun k hk => ?_, rise_insI i t q2⟩
        rcases (mem_insI i k t).mp hk with z | z
        · omega
        · exact q1 k z
theorem rise_setI : ∀ l : List Int, (setI l).Pairwise (· < ·)
  | [] => List.Pairwise.nil
  | i :: t => rise_insI i _ (rise_setI t)
theorem rise_one : ∀ {l m : List Int}, l.Pairwise (· < ·) → m.Pairwise (· < ·) → (∀ k, k ∈ l ↔ k ∈ m) → l = m
  | [], [], _, _, _ => rfl
  | [], b :: m, _, _, h => by have := (h b).2 (List.mem_cons_self ..); cases this
  | a :: l, [], _, _, h => by have := (h a).1 (List.mem_cons_self ..); cases this
  | a :: l, b :: m, p, q, h => by
    have ⟨p1, p2⟩ := List.pairwise_cons.mp p
    have ⟨q1, q2⟩ := List.pairwise_cons.mp q
    have ab : a = b := by
      rcases List.mem_cons.mp ((h a).1 (List.mem_cons_self ..)) with z | z
      · exact z
      · rcases List.mem_cons.mp ((h b).2 (List.mem_cons_self ..)) with y | y
        · exact y.symm
        · have := q1 a z; have := p1 b y; omega
    subst ab
    have : l = m := rise_one p2 q2 fun k => by
      constructor
      · intro z
        rcases List.mem_cons.mp ((h k).1 (List.mem_cons_of_mem _ z)) with y | y
        · subst y; have := p1 k z; omega
        · exact y
      · intro z
        rcases List.mem_cons.mp ((h k).2 (List.mem_cons_of_mem _ z)) with y | y
        · subst y; have := q1 k z; omega
        · exact y
    rw [this]
def rSetI (K : PySem.W.Frag) (w : World) : List V → Hp → VK → Prop := fun xs H Q => ∃ (l : Addr) (ns : List Int), xs = [V.ref l] ∧ SqL K H l (ns.map V.int) ∧ ns.length < 64 ∧ ∀ p c, c ≤ ns.length → H p = none → Q (.ref p) (upd H p (SetO w p (fun j => decide (j ∈ ns)) c))
theorem cr_setI (hc : X.calm = true) : CallR X (.type "set") (rSetI X.K X.w) := by
  intro pins s σ H xs us Q I r h
  obtain ⟨l, ns, rfl, hl, hf, q⟩ := h
  rw [Vals.ref1 r]
  obtain ⟨its, rv, pl, hz⟩ := I.list hl
  have hn : H s.heap.objs.size = none := I.hok.fresh (Nat.le_refl _)
  refine DS.call_set_lstI (P := X.prog) (w := X.w) ns (I.ok.hd hc) pl.isList (by simpa using ints_of_vals rv) (by unfold scanBound; omega) fun h' tk c R hc k => ?_
  exact ⟨.ref s.heap.objs.size, _, I.laid (t' := tk) k (Nat.le_refl _) (setO_new R), rfl, q _ c hc hn⟩
def lstOf (d : DV) : M (List DV) := match d with
  | .ref n => lsAt n
  | .scr ns => ret (ns.map .int)
  | .fls ds => ret ds
  | _ => stk
theorem lstOf_ok {d : DV} {x : V} {ds : List DV} (rel : HRel K cl W h H) (r : RV K cl W H d x) (e : lstOf d h = .ok ds h') : h' = h ∧ ∃ a xs, x = .ref a ∧ SqL K H a xs ∧ RVs K cl W H ds xs := by
  cases r <;> first | (cases e; done) | skip
  · rename_i n a dx hn
    obtain ⟨rfl, q⟩ := lsAt_ok e
    obtain ⟨_, xs, hx, rx⟩ := rel.lst q hn
    exact ⟨rfl, a, xs, rfl, SqL.of hx, rx⟩
  · cases e
    exact ⟨rfl, _, _, rfl, FzL.sq (by assumption), rvs_ints _⟩
  · cases e
    exact ⟨rfl, _, _, rfl, FzL.sq (by assumption), by assumption⟩
def sortSetD (d : DV) : M DV := bnd (lstOf d) fun ds => match intsOf ds with
  | some ns => if Nat.blt ns.length 64 then lstD ((setI ns).map .int) else stk
  | none => stk
/-- sorted(set(xs)), xs a list of fewer than 64 ints -/
theorem de_sortSet {a : Expr} {m : Ex} {p p2 q : Pos} (hc : X.calm = true) (hg : Gl X "sorted") (hm : X.mg "sorted" = none) (hg2 : Gl X "set") (hm2 : X.mg "set" = none) (ha : DE cl X a m)
    (na : starEach [a] X.env = [(false, eval a X.env)] := by rfl) (nb : starEach [.Call (.Name "set" p2) [a] [] q] X.env = [(false, eval (.Call (.Name "set" p2) [a] [] q) X.env)] := by rfl) :
    DE cl X (.Call (.Name "sorted" p) [.Call (.Name "set" p2) [a] [] q] [] pos) (eUn sortSetD m) := by
  have hS : PE X (.Call (.Name "set" p2) [a] [] q) _ := pe_callTy (cr_setI hc) hg2 hm2 PyProof.Rows.boot_set (pa_cons ha pa_nil na) (by decide) (by decide) na (by rfl)
  have hT : PE X (.Call (.Name "sorted" p) [.Call (.Name "set" p2) [a] [] q] [] pos) _ := pe_callB (cr_sortedSet hc) hg hm boot_sorted (pa_cons hS pa_nil nb) (by decide) (by decide) nb (by rfl)
  refine hT.mono fun σ H Q z => ?_
  obtain ⟨W, h, sl, v, h', rel, rs, e, po⟩ := z
  obtain ⟨d, h1, e1, e2⟩ := bnd_ok e
  refine ⟨W, h, sl, d, h1, rel, rs, e1, fun W1 H1 x ext rel1 rv => ?_⟩
  obtain ⟨ds, h2, e3, e4⟩ := bnd_ok e2
  obtain ⟨rfl, a', xs, rfl, sq, rx⟩ := lstOf_ok rel1 rv e3
  cases z : intsOf ds with
  | none => rw [z] at e4; cases e4
  | some ns =>
    rw [z] at e4
    have ix := intsOf_ok z rx
    subst ix
    obtain ⟨hlt, e4⟩ := if_ok e4
    have hlt := Nat.blt_eq.mp hlt
    obtain ⟨zf, e4⟩ := fit_if e4
    cases e4
    refine ⟨a', ns, rfl, sq, hlt, fun p1 c hcn hp1 => ?_⟩
    refine ⟨p1, _, c, rfl, upd_same, by omega, fun ks p2 hk1 hk2 hk3 hp2 => ?_⟩
    have : ks = setI ns := rise_one hk1 (rise_setI ns) fun k => by
      rw [hk2 k, mem_setI, decide_eq_true_eq]
    subst this
    have ext1 := ext_new (o := SetO X.w p1 (fun j => decide (j ∈ ns)) c) hp1 rel1
    exact po_lst (po.go (ext.trans ext1)) (rel1.new hp1) (rvs_ints _) p2 hp2
/-! ### methods -/
/-- a method of a builtin type: the receiver, the rest -/
def rMD (K : PySem.W.Frag) (cl : Cl) (g : DV → List DV → M DV) : V → List V → Hp → VK → Prop := fun x xs H Q => ∃ W h d ds v h', HRel K cl W h H ∧ RV K cl W H d x ∧ RVs K cl W H ds xs ∧ g d ds h = .ok v h' ∧ Po K cl W H h' v Q
abbrev MD (cl : Cl) (X : Cx) (id : String) (g : DV → List DV → M DV) : Prop := MtR X id (rMD X.K cl g)
def strOf (d : DV) : M DV := match d with
  | .str s => ret (.str s)
  | _ => stk
def lstIs (d : DV) : M DV := match d with
  | .ref n => bnd (lsAt n) fun _ => ret (.ref n)
  | _ => stk
/-- o.m(e), o a text -/
def eM1 (g : DV → List DV → M DV) (mo me : Ex) : Ex := fun sl => bnd (mo sl) fun d => bnd (strOf d) fun d => bnd (me sl) fun y => g d [y]
def eM0 (g : DV → List DV → M DV) (mo : Ex) : Ex := fun sl => bnd (mo sl) fun d => bnd (strOf d) fun d => g d []
/-- o.m(es), o a list -/
def eML (g : DV → List DV → M DV) (mo : Ex) (ms : Exs) : Ex := fun sl => bnd (mo sl) fun d => bnd (lstIs d) fun d => bnd (ms sl) fun ys => g d ys
variable {o e : Expr} {es : List Expr} {mo me : Ex} {ms : Exs} {name : Str} {apos : Pos} {id : String} {g : DV → List DV → M DV}
theorem strOf_ok {d d' : DV} (e : strOf d h = .ok d' h') : d' = d ∧ h' = h ∧ ∃ s, d = .str s := by
  cases d <;> first | (cases e; done) | skip
  cases e
  exact ⟨rfl, rfl, _, rfl⟩
theorem lstIs_ok {d d' : DV} (e : lstIs d h = .ok d' h') : d' = d ∧ h' = h ∧ ∃ n ds, d = .ref n ∧ h[n]? = some (.lst ds) := by
  cases d <;> first | (cases e; done) | skip
  obtain ⟨l, h1, e1, e2⟩ := bnd_ok e
  obtain ⟨rfl, q⟩ := lsAt_ok e1
  cases e2
  exact ⟨rfl, rfl, _, _, rfl, q⟩
theorem de_m1 (slot : PySem.Slot "str" name id) (ty : typeOf (.builtin id) = pure (.type "method_descriptor")) (hm : MD cl X id g) (ho : DE cl X o mo) (he : DE cl X e me)
    (hs : starEach [e] X.env = [(false, eval e X.env)] := by rfl) (hbase : attributeBase o name X.env (eval o X.env) = eval o X.env := by rfl) (hline : (apos.endLine == pos.line) = true := by rfl) :
    DE cl X (.Call (.Attribute o name apos) [e] [] pos) (eM1 g mo me) := (pe_m1 slot ty hm ho he hs hbase hline).mono fun σ H Q q => by
  obtain ⟨W, h, sl, v, h', rel, rs, e, po⟩ := q
  obtain ⟨d, h1, e1, e2⟩ := bnd_ok e
  obtain ⟨d', h2, e3, e4⟩ := bnd_ok e2
  obtain ⟨rfl, rfl, s, rfl⟩ := strOf_ok e3
  obtain ⟨y, h3, e5, e6⟩ := bnd_ok e4
  refine ⟨W, h, sl, _, _, rel, rs, e1, fun W1 H1 x ext rel1 rv => ?_⟩
  have hx : ∃ a, x = .str a := by cases rv; exact ⟨_, rfl⟩
  exact ⟨hx, W1, _, sl, y, _, rel1, rs.mono ext, e5, fun W2 H2 z ext2 rel2 rv2 => ⟨W2, _, _, _, v, h', rel2, rv.mono ext2, .cons rv2 .nil, e6, po.go (ext.trans ext2)⟩⟩
theorem de_m0 (slot : PySem.Slot "str" name id) (ty : typeOf (.builtin id) = pure (.type "method_descriptor")) (hm : MD cl X id g) (ho : DE cl X o mo)
    (hbase : attributeBase o name X.env (eval o X.env) = eval o X.env := by rfl) (hline : (apos.endLine == pos.line) = true := by rfl) :
    DE cl X (.Call (.Attribute o name apos) [] [] pos) (eM0 g mo) := (pe_m0 slot ty hm ho hbase hline).mono fun σ H Q q => by
  obtain ⟨W, h, sl, v, h', rel, rs, e, po⟩ := q
  obtain ⟨d, h1, e1, e2⟩ := bnd_ok e
  obtain ⟨d', h2, e3, e4⟩ := bnd_ok e2
  obtain ⟨rfl, rfl, s, rfl⟩ := strOf_ok e3
  refine ⟨W, h, sl, _, _, rel, rs, e1, fun W1 H1 x ext rel1 rv => ?_⟩
  have hx : ∃ a, x = .str a := by cases rv; exact ⟨_, rfl⟩
  exact ⟨hx, W1, _, _, _, v, h', rel1, rv, .nil, e4, po.go ext⟩
theorem de_mL (slot : PySem.Slot "list" name id) (hty : typeOf (.builtin id) = pure (.type "method_descriptor")) (hm : MD cl X id g) (ho : DE cl X o mo) (ha : DA cl X (e :: es) ms)
    (hbase : attributeBase o name X.env (eval o X.env) = eval o X.env := by rfl)
    (hfew : ((backTo pos (starEach (e :: es) X.env)).all (fun x => !x.1) && (backToKw pos (keywordEach [] X.env)).all (fun x => x.1.isSome)
      && decide ((e :: es).length + ([] : List Keyword).length + (if ([] : List Keyword).isEmpty then 0 else 1) < 30)) = true := by rfl)
    (hline : (apos.endLine == pos.line) = true := by rfl) (hs : starEach (e :: es) X.env = (false, eval e X.env) :: starEach es X.env := by rfl) (hplain : (backTo pos (starEach es X.env)).any (·.1) = false := by rfl) :
    DE cl X (.Call (.Attribute o name apos) (e :: es) [] pos) (eML g mo ms) := (pe_bm PySem.F.plainAttrs_list slot hty hm ho ha hbase hfew hline hs hplain).mono fun σ H Q q => by
  obtain ⟨W, h, sl, v, h', rel, rs, e, po⟩ := q
  obtain ⟨d, h1, e1, e2⟩ := bnd_ok e
  obtain ⟨d', h2, e3, e4⟩ := bnd_ok e2
  obtain ⟨rfl, rfl, n, ds0, rfl, hl⟩ := lstIs_ok e3
  obtain ⟨ys, h3, e5, e6⟩ := bnd_ok e4
  refine ⟨W, h, sl, _, _, rel, rs, e1, fun W1 H1 x ext rel1 rv => ?_⟩
  have hx : tyV X.K "list" x H1 := by
    cases rv with
    | ref hn =>
      obtain ⟨_, xs, hx, _⟩ := rel1.lst hl hn
      exact .inl ⟨rfl, xs, SqL.of hx⟩
  exact ⟨hx, W1, _, sl, ys, _, rel1, rs.mono ext, e5, fun W2 H2 z ext2 rel2 rv2 => ⟨W2, _, _, _, v, h', rel2, rv.mono ext2, rv2, e6, po.go (ext.trans ext2)⟩⟩
/-! texts -/
def preL : List Nat → List Nat → Bool
  | _, [] => true
  | [], _ :: _ => false
  | c :: s, d :: t => Nat.beq c d && preL s t
theorem preL_eq : ∀ s t : List Nat, preL s t = (decide (t.length ≤ s.length) && (s.take t.length == t))
  | s, [] => by cases s <;> simp [preL]
  | [], d :: t => by simp [preL]
  | c :: s, d :: t => by
    show (Nat.beq c d && preL s t) = _
    rw [preL_eq s t]
    have e1 : decide ((d :: t).length ≤ (c :: s).length) = decide (t.length ≤ s.length) := by simp
    have e2 : ((c :: s).take (d :: t).length == d :: t) = ((c == d) && (s.take t.length == t)) := rfl
    have e3 : Nat.beq c d = (c == d) := by
      rw [Bool.eq_iff_iff, Nat.beq_eq, beq_iff_eq]
    rw [e1, e2, e3]
    cases (c == d) <;> cases (decide (t.length ≤ s.length)) <;> rfl
theorem pre_sub (s t : List Nat) : (decide (0 + (SX.S t).length ≤ (SX.S s).length) && Builtin.Str.subAt (SX.S s) (SX.S t) 0) = preL s t := by
  rw [preL_eq, PySem.StrLaws.subAt_eq, SX.S_len, SX.S_len, Nat.zero_add]
  all_goals rfl
def startsD (d : DV) (ds : List DV) : M DV := match d, ds with
  | .str s, [.str t] => ret (.bl (preL s t))
  | _, _ => stk
theorem m_startswith : MD cl X "str.startswith" startsD := by
  intro pins s σ H x xs v us Q I rx rs q
  obtain ⟨W, h, d, ds, v', h', rel, r1, r2, e, po⟩ := q
  unfold startsD at e
  split at e
  · obtain ⟨y, rfl, r3⟩ := r2.one
    cases r1
    cases r3
    cases e
    rename_i a b
    refine mt_startswith pins s σ H _ _ v us Q I rx rs ⟨SX.S a, SX.S b, rfl, rfl, ?_⟩
    show Q (.bl (decide (0 + (SX.S b).length ≤ (SX.S a).length) && Builtin.Str.subAt (SX.S a) (SX.S b) 0)) H
    rw [pre_sub]
    exact po.now rel (.bl _)
  · cases e
def rmpreD (d : DV) (ds : List DV) : M DV := match d, ds with
  | .str s, [.str t] => if fits s.length then ret (.str (if preL s t then s.drop t.length else s)) else stk
  | _, _ => stk
theorem m_removeprefix : MD cl X "str.removeprefix" rmpreD := by
  intro pins s σ H x xs v us Q I rx rs q
  obtain ⟨W, h, d, ds, v', h', rel, r1, r2, e, po⟩ := q
  unfold rmpreD at e
  split at e
  · obtain ⟨y, rfl, r3⟩ := r2.one
    obtain ⟨z, e⟩ := fit_if e
    cases r1
    cases r3
    cases e
    rename_i a b
    refine mt_removeprefix pins s σ H _ _ v us Q I rx rs ⟨SX.S a, SX.S b, rfl, rfl, by rw [SX.S_len]; exact z, ?_⟩
    have e2 : Txt.removeprefix (SX.S a) (SX.S b) = SX.S (if preL a b then a.drop b.length else a) := by
      rw [PySem.StrLaws.removeprefix_eq, pre_sub]
      cases preL a b with
      | false => rfl
      | true =>
        rw [if_pos rfl, if_pos rfl, SX.S_len, SX.S_len]
        have : ((SX.S a).cps.toList.drop b.length).take (a.length - b.length) = a.drop b.length := by
          rw [S_tl, List.take_of_length_le (by rw [List.length_drop]; omega)]
        rw [this]
    rw [e2]
    exact po.now rel (.str _)
  · cases e
def strsOf : List DV → Option (List (List Nat))
  | [] => some []
  | .str s :: t => (strsOf t).map (s :: ·)
  | _ => none
theorem strsOf_ok : ∀ {ds : List DV} {bs : List (List Nat)} {xs : List V}, strsOf ds = some bs → RVs K cl W H ds xs → xs = (bs.map SX.S).map V.str
  | [], bs, xs, e, r => by cases e; cases r; rfl
  | d :: t, bs, xs, e, r => by
    cases r with
    | cons r1 r2 =>
      cases r1 <;> first | (cases e; done) | skip
      obtain ⟨cs, e1, e2⟩ := Option.map_eq_some_iff.mp (show (strsOf t).map _ = some bs from e)
      subst e2
      rw [strsOf_ok e1 r2]; rfl
def sumN : List (List Nat) → Nat
  | [] => 0
  | s :: t => s.length + sumN t
theorem sumN_eq : ∀ l : List (List Nat), ((l.map SX.S).map (·.length)).sum = sumN l
  | [] => rfl
  | s :: t => by rw [List.map_cons, List.map_cons, List.sum_cons, sumN_eq t, SX.S_len]; rfl
def joinD (d : DV) (ds : List DV) : M DV := match d, ds with
  | .str s, [x] => bnd (itsD x) fun ls => match strsOf ls with
    | some ps => if fits (sumN ps + ps.length * s.length) then ret (.str (TL.joinL s ps)) else stk
    | none => stk
  | _, _ => stk
theorem m_join : MD cl X "str.join" joinD := by
  intro pins s σ H x xs v us Q I rx rs q
  obtain ⟨W, h, d, ds, v', h', rel, r1, r2, e, po⟩ := q
  unfold joinD at e
  split at e
  · obtain ⟨y, rfl, r3⟩ := r2.one
    obtain ⟨ls, h1, e1, e2⟩ := bnd_ok e
    obtain ⟨rfl, a, ys, rfl, sq, ry⟩ := itsD_ok rel r3 e1
    cases z : strsOf ls with
    | none => rw [z] at e2; cases e2
    | some ps =>
      rw [z] at e2
      obtain ⟨zf, e2⟩ := fit_if e2
      cases e2
      cases r1
      have := strsOf_ok z ry
      subst this
      refine mt_join pins s σ H _ _ v us Q I rx rs ⟨_, a, _, rfl, rfl, sq, ?_, ?_⟩
      · rw [sumN_eq, SX.S_len, List.length_map]; exact zf
      · rw [SX.join_S]; exact po.now rel (.str _)
  · cases e
/-! lists -/
theorem ref_wr {n : Nat} {a dx : Addr} {ds es : List DV} {ys : List V} (rel : HRel K cl W h H) (e : h[n]? = some (.lst ds)) (hn : W.ρ[n]? = some (a, dx)) (r : RVs K cl W H es ys) :
    Ext W H W (upd H a (.lst ys)) ∧ HRel K cl W (h.set n (.lst es)) (upd H a (.lst ys)) := by
  obtain ⟨nf, xs, hx, rx⟩ := rel.lst e hn
  exact ⟨ext_wr nf, rel.wr hn nf hx (.inl ⟨_, rfl⟩) (fun _ _ z => by cases z) ⟨nf, ys, upd_same, r.mono (ext_wr nf)⟩⟩
def appendD (d : DV) (ds : List DV) : M DV := match d, ds with
  | .ref n, [y] => bnd (lsAt n) fun xs => if Nat.blt xs.length 16777216 then fun h => .ok .non (h.set n (.lst (xs ++ [y]))) else stk
  | _, _ => stk
theorem m_append : MD cl X "list.append" appendD := by
  intro pins s σ H x xs v us Q I rx rs q
  obtain ⟨W, h, d, ds, v', h', rel, r1, r2, e, po⟩ := q
  unfold appendD at e
  split at e
  · obtain ⟨y, rfl, r3⟩ := r2.one
    obtain ⟨ls, h1, e1, e2⟩ := bnd_ok e
    obtain ⟨rfl, q⟩ := lsAt_ok e1
    obtain ⟨z, e2⟩ := if_ok e2
    cases e2
    cases r1 with
    | ref hn =>
      obtain ⟨nf, ys, hy, ry⟩ := rel.lst q hn
      obtain ⟨ex, rel2⟩ := ref_wr rel q hn (ry.append (.cons r3 .nil))
      exact mt_append pins s σ H _ _ v us Q I rx rs ⟨_, ys, y, rfl, rfl, hy, by rw [← ry.length, sizeLine_eq]; exact Nat.blt_eq.mp z, po W _ .non ex rel2 .non⟩
  · cases e
def popAtD (d : DV) (ds : List DV) : M DV := match d, ds with
  | .ref n, [.int i] => bnd (lsAt n) fun xs => if small i then bnd (optM (ixN xs.length i)) fun k => bnd (optM xs[k]?) fun y => fun h => .ok y (h.set n (.lst (xs.eraseIdx k))) else stk
  | _, _ => stk
theorem ixN_seq {i : Int} {n k : Nat} (e : ixN n i = some k) : seqIndex? i n = some k := by
  unfold ixN at e
  unfold seqIndex?
  split at e
  · split at e
    · cases e
      have hj : (if i < 0 then i + (n : Int) else i) = i := if_neg (by omega)
      simp only [hj]
      rw [if_pos (by simp; omega)]
    · cases e
  · split at e
    · cases e
      have hj : (if i < 0 then i + (n : Int) else i) = i + n := if_pos (by omega)
      simp only [hj]
      rw [if_pos (by simp; omega)]
    · cases e
theorem m_pop : MD cl X "list.pop" popAtD := by
  intro pins s σ H x xs v us Q I rx rs q
  obtain ⟨W, h, d, ds, v', h', rel, r1, r2, e, po⟩ := q
  unfold popAtD at e
  split at e
  · rename_i n i
    obtain ⟨y, rfl, r3⟩ := r2.one
    obtain ⟨ls, h1, e1, e2⟩ := bnd_ok e
    obtain ⟨rfl, q⟩ := lsAt_ok e1
    obtain ⟨z, e2⟩ := if_ok e2
    cases r3
    cases r1 with
    | ref hn =>
      obtain ⟨nf, ys, hy, ry⟩ := rel.lst q hn
      obtain ⟨k, h2, e3, e4⟩ := bnd_ok e2
      obtain ⟨hk, rfl⟩ := optM_ok e3
      obtain ⟨y, h3, e5, e6⟩ := bnd_ok e4
      obtain ⟨hyk, rfl⟩ := optM_ok e5
      cases e6
      obtain ⟨x2, hx2, rx2⟩ := ry.get hyk
      obtain ⟨ex, rel2⟩ := ref_wr rel q hn (ry.eraseIdx k)
      have sm := small_ok z
      exact mt_popAt pins s σ H _ _ v us Q I rx rs ⟨_, ys, i, k, x2, rfl, rfl, hy, by omega, by omega, by rw [← ry.length]; exact ixN_seq hk, hx2, po W _ x2 ex rel2 (rx2.mono ex)⟩
  · cases e
/-! ### subscripts -/
def itemD (x y : DV) : M DV := match x, y with
  | .str s, .int i => if fits s.length then optV (atI s i) fun c => .str [c] else stk
  | d, .int i => bnd (itsD d) fun xs => optM (atI xs i)
  | _, _ => stk
theorem RVs.atI {ds : List DV} {xs : List V} {i : Int} {d : DV} (r : RVs K cl W H ds xs) (e : L2.atI ds i = some d) : ∃ x, L2.atI xs i = some x ∧ RV K cl W H d x := by
  unfold L2.atI at e ⊢
  rw [← r.length]
  cases z : ixN ds.length i with
  | none => rw [z] at e; cases e
  | some k =>
    rw [z] at e
    exact r.get e
theorem x_item : IxR X (rD2 X.K cl itemD) := by
  intro value slice pins s σ H x y v u Q I rx ry q
  obtain ⟨W, h, d1, d2, v', h', rel, r1, r2, e, po⟩ := q
  unfold itemD at e
  split at e
  · obtain ⟨z, e⟩ := fit_if e
    cases r1
    cases r2
    obtain ⟨c, e1, rfl, rfl⟩ := optV_ok e
    exact ix_str value slice pins s σ H _ _ v u Q I rx ry ⟨_, _, c, rfl, rfl, by rw [SX.S_len]; exact z, e1, po.now rel (.str _)⟩
  · cases r2
    obtain ⟨ls, h1, e1, e2⟩ := bnd_ok e
    obtain ⟨rfl, a, ys, rfl, sq, ry'⟩ := itsD_ok rel r1 e1
    obtain ⟨hv2, rfl⟩ := optM_ok e2
    obtain ⟨x2, hx2, rx2⟩ := ry'.atI hv2
    rcases sq with sq | sq
    · exact ix_list value slice pins s σ H _ _ v u Q I rx ry ⟨a, ys, _, x2, rfl, rfl, sq, hx2, po.now rel rx2⟩
    · exact ix_tup value slice pins s σ H _ _ v u Q I rx ry ⟨a, ys, _, x2, rfl, rfl, sq, hx2, po.now rel rx2⟩
  · cases e
end
end D
set_option Elab.async false
set_option linter.all false
set_option maxRecDepth 100000
set_option maxHeartbeats 2000000
/-! Z0: zip(x, y) of lists, tuples, texts in any mix, walked. -/
namespace ZG
open PySem PySem.Spec PyProof.Rows L2
/-- a source: a list, a tuple, a text -/
inductive SK where
  | lst (a : Addr) | tup (a : Addr) | txt (z : PySem.Str) (t : Tok)
def SK.val : SK → Value
  | .lst a => .ref a
  | .tup a => .ref a
  | .txt z t => .str z t
def SK.fp (k : SK) (it : Addr) : List Addr := match k with
  | .lst a => [it, a]
  | .tup a => [it, a]
  | .txt _ _ => [it]
def SK.st (k : SK) (it : Addr) (i : Nat) (h : Heap) : Prop := match k with
  | .lst a => h.IsListIter it a i
  | .tup a => h.IsTupleIter it a i
  | .txt z t => h.IsStrIter it (strIterType z) z t i
def SK.its (K : PySem.W.Frag) (H : Hp) (k : SK) (xs : List V) : Prop := match k with
  | .lst a => SqL K H a xs
  | .tup a => SqT K H a xs
  | .txt z _ => xs = z.cps.toList.map fun c => V.str ⟨#[c]⟩
def SK.old (k : SK) (n : Nat) : Prop := match k with
  | .lst a => a < n
  | .tup a => a < n
  | .txt _ _ => True
theorem SK.obj {k : SK} {it i : Nat} {h : Heap} (x : k.st it i h) : ∃ o, h.get? it = some o ∧ ∀ v, o.data ≠ .cell v := by
  cases k <;> (obtain ⟨o, e, _, d⟩ := x; exact ⟨o, e, fun v q => by rw [d] at q; cases q⟩)
theorem SK.keep {k : SK} {it i : Nat} {h h' : Heap} (x : k.st it i h) (e : ∀ o, h.get? it = some o → h'.get? it = some o) : k.st it i h' := by
  cases k <;> (obtain ⟨o, q, r⟩ := x; exact ⟨o, e o q, r⟩)
section
variable {X : Cx} {pins : List (Addr × Obj)} {σ : L2.St} {H : Hp} {s : Shared} {A : Around}
theorem SK.inj (I : Inv X pins σ H s) {k : SK} {xs ys : List V} (h1 : k.its X.K H xs) (h2 : k.its X.K H ys) : xs = ys := by
  cases k with
  | lst a => exact I.list_inj h1 h2
  | tup a => exact I.tuple_inj h1 h2
  | txt z t => exact Eq.trans h1 (Eq.symm h2)
/-- what the source's iterator draws, as things stand -/
theorem SK.draw (I : Inv X pins σ H s) (hh : A.handled = none) (k : SK) (it : Addr) (hne : ∀ b ∈ (k.fp it).tail, b ≠ it) {xs : List V} (hx : k.its X.K H xs) :
    ∃ P St, Draws X.prog X.w A it (k.fp it) xs.length P St ∧ (∀ i, k.st it i s.heap → St i s.heap) ∧ (∀ i h, St i h → k.st it i h) ∧ ∀ i v x, P i v → xs[i]? = some x → RelV x v := by
  cases k with
  | lst a =>
    obtain ⟨its, rv, p, _⟩ := I.list hx
    have e : its.toArray.size = xs.length := by rw [List.size_toArray, ← rv.length]
    refine ⟨_, _, e ▸ Draws.list hh it a (hne a (by simp [SK.fp])) its.toArray, fun i q => ⟨q, p.isList⟩, fun i h q => q.1, fun i v x q hx => ?_⟩
    obtain ⟨u, hu, ru⟩ := rv.get hx
    have q : its.toArray[i]? = some v := q
    rw [show its.toArray[i]? = its[i]? by simp] at q
    rw [hu] at q
    rw [← Option.some.inj q]
    exact ru
  | tup a =>
    obtain ⟨its, rv, p, _⟩ := I.tuple hx
    have e : its.toArray.size = xs.length := by rw [List.size_toArray, ← rv.length]
    refine ⟨_, _, e ▸ Draws.tuple hh it a (hne a (by simp [SK.fp])) its.toArray, fun i q => ⟨q, p⟩, fun i h q => q.1, fun i v x q hx => ?_⟩
    obtain ⟨u, hu, ru⟩ := rv.get hx
    have q : its.toArray[i]? = some v := q
    rw [show its.toArray[i]? = its[i]? by simp] at q
    rw [hu] at q
    rw [← Option.some.inj q]
    exact ru
  | txt z t =>
    have hx : xs = z.cps.toList.map fun c => V.str ⟨#[c]⟩ := hx
    subst hx
    have e : z.cps.size = (z.cps.toList.map fun c => V.str ⟨#[c]⟩).length := by rw [List.length_map, Array.length_toList]
    refine ⟨_, _, e ▸ Draws.text hh it z t, fun i q => q, fun i h q => q, fun i v x q hx => ?_⟩
    obtain ⟨c, u, hc, rfl⟩ := q
    rw [List.getElem?_map, Array.getElem?_toList, hc] at hx
    cases hx
    exact ⟨u, rfl⟩
end
structure Sep (z TI TO i1 i2 : Addr) (k1 k2 : SK) : Prop where
  s : ZipSep2 z TI TO i1 i2 (k1.fp i1) (k2.fp i2)
  n1 : ∀ b ∈ (k1.fp i1).tail, b ≠ i1
  n2 : ∀ b ∈ (k2.fp i2).tail, b ≠ i2
/-- the two sources, the items in new pairs -/
def ItG (K : PySem.W.Frag) (k1 k2 : SK) : It :=
  ⟨fun i H => ∃ (xs ys : List V) (x y : V), k1.its K H xs ∧ k2.its K H ys ∧ xs[i]? = some x ∧ ys[i]? = some y,
    fun i H v H' => ∃ T x y, v = .ref T ∧ H T = none ∧ H' = upd H T (.tup [x, y]) ∧ (∀ xs, k1.its K H xs → xs[i]? = some x) ∧ ∀ ys, k2.its K H ys → ys[i]? = some y,
    fun i H => ∃ xs ys : List V, k1.its K H xs ∧ k2.its K H ys ∧ i ≤ xs.length ∧ i ≤ ys.length ∧ (i = xs.length ∨ i = ys.length)⟩
theorem turn_zipG {P : Program} {w : World} {K : PySem.W.Frag} {elts : List Expr} {kk : Nat} {tpos : Pos} {z TI TO i1 i2 : Addr} {k1 k2 : SK} (D : Sep z TI TO i1 i2 k1 k2) :
    Turn P w K (.Tuple elts kk tpos) (ItG K k1 k2) [z, TI, TO, i1, i2] z (fun i h => IsZip h z TI TO .none ∧ IsTupOf2 h TI (.ref i1) (.ref i2) ∧ (∃ x y, IsTupOf2 h TO x y) ∧ k1.st i1 i h ∧ k2.st i2 i h) where
  mem := by simp
  obj := fun i h st c hc => by
    obtain ⟨hz, hTI, ⟨x, y, hTO⟩, u1, u2⟩ := st
    have ec : c = z ∨ c = TI ∨ c = TO ∨ c = i1 ∨ c = i2 := by simpa using hc
    rcases ec with rfl | rfl | rfl | rfl | rfl
    · exact ⟨_, hz, fun v q => nomatch q⟩
    · exact ⟨_, hTI, fun v q => nomatch q⟩
    · exact ⟨_, hTO, fun v q => nomatch q⟩
    · exact SK.obj u1
    · exact SK.obj u2
  keep := fun i h h' st k => by
    obtain ⟨hz, hTI, ⟨x, y, hTO⟩, u1, u2⟩ := st
    exact ⟨k z (by simp) _ hz, k TI (by simp) _ hTI, ⟨x, y, k TO (by simp) _ hTO⟩, SK.keep u1 fun o q => k i1 (by simp) o q, SK.keep u2 fun o q => k i2 (by simp) o q⟩
  item := by
    intro X hP hw hK hc i pins s σ H E I hf st hg
    subst hP hw hK
    obtain ⟨hz, hTI, ⟨x0, y0, hTO⟩, u1, u2⟩ := st
    obtain ⟨xs, ys, x, y, qx, qy, hx, hy⟩ := hg
    have hh : X.A.in1.handled = none := I.ok.hd hc
    obtain ⟨P1, S1, D1, a1, b1, c1⟩ := SK.draw I hh k1 i1 D.n1 qx
    obtain ⟨P2, S2, D2, a2, b2, c2⟩ := SK.draw I hh k2 i2 D.n2 qy
    have l1 : i < xs.length := (List.getElem?_eq_some_iff.mp hx).1
    have l2 : i < ys.length := (List.getElem?_eq_some_iff.mp hy).1
    have hzl : z < s.heap.objs.size := Heap.lt_size hz
    refine wpAny_pyNext_zipD2_item D.s D1 D2 hz hTI hTO (a1 i u1) (a2 i u2) l1 l2 fun v1 v2 h' tk p1 p2 z' TO' t1' t2' hT hsz hk => ?_
    refine ⟨_, rfl, wpAny_letOwnedTupleGo_zip (s := { s with heap := h', toks := tk }) z' fun h'' z'' sb => ?_⟩
    have hT2 : h''.get? s.heap.objs.size = some { cls := .type "tuple", data := .seq #[v1, v2] } := (sb.2 _ (Nat.ne_of_gt hzl)).trans hT
    have new : ObjOk X.prog X.w (upd H s.heap.objs.size (.tup [x, y])) h'' s.heap.objs.size (.tup [x, y]) :=
      ⟨by show 2 ≤ sizeLine; decide, [v1, v2], .cons (c1 i v1 x p1 hx) (.cons (c2 i v2 y p2 hy) .nil), ⟨_, hT2, rfl, _, rfl⟩⟩
    have J : Inv X pins σ (upd H s.heap.objs.size (.tup [x, y])) { s with heap := h'', toks := tk } :=
      I.turnedNew (t' := tk) (ch := [z, TI, TO, i1, i2]) (fun c o nb q => (sb.2 c (fun e => nb (by simp [e]))).trans (hk c o (fun e => nb (by simp [e])) (fun e => nb (by simp [e])) (fun e => nb (by simp [e])) (fun e => nb (by simp [e])) q)) hf (Nat.le_refl _) new
    refine ⟨.ref s.heap.objs.size, _, J, rfl, ⟨_, x, y, rfl, I.hok.fresh (Nat.le_refl _), rfl, fun l hl => by rw [SK.inj I hl qx]; exact hx, fun l hl => by rw [SK.inj I hl qy]; exact hy⟩, ⟨z'', ?_, ⟨v1, v2, ?_⟩, ?_, ?_⟩, fun c hcm => ?_⟩
    · exact (sb.2 _ D.s.TIz).trans (hk _ _ D.s.TIz D.s.TITO D.s.TIi1 D.s.TIi2 hTI)
    · exact (sb.2 _ D.s.TOz).trans TO'
    · exact SK.keep (b1 _ _ t1') fun o q => (sb.2 _ D.s.zi1.symm).trans q
    · exact SK.keep (b2 _ _ t2') fun o q => (sb.2 _ D.s.zi2.symm).trans q
    · have hlt : c < s.heap.objs.size := by
        have ec : c = z ∨ c = TI ∨ c = TO ∨ c = i1 ∨ c = i2 := by simpa using hcm
        rcases ec with rfl | rfl | rfl | rfl | rfl
        · exact hzl
        · exact Heap.lt_size hTI
        · exact Heap.lt_size hTO
        · obtain ⟨_, e, _⟩ := SK.obj u1; exact Heap.lt_size e
        · obtain ⟨_, e, _⟩ := SK.obj u2; exact Heap.lt_size e
      rw [upd_ne (Nat.ne_of_lt hlt)]
      exact (hf c hcm).1
  done := by
    intro X hP hw hK hc i pins s σ H E I hf st hg
    subst hP hw hK
    obtain ⟨hz, hTI, ⟨x0, y0, hTO⟩, u1, u2⟩ := st
    obtain ⟨xs, ys, qx, qy, e1, e2, e3⟩ := hg
    have hh : X.A.in1.handled = none := I.ok.hd hc
    obtain ⟨P1, S1, D1, a1, b1, c1⟩ := SK.draw I hh k1 i1 D.n1 qx
    obtain ⟨P2, S2, D2, a2, b2, c2⟩ := SK.draw I hh k2 i2 D.n2 qy
    exact wpAny_pyNext_zipD2_end D.s D1 D2 hz hTI hTO (a1 i u1) (a2 i u2) e1 e2 e3 fun h' tk hk => ⟨rfl, I.turnedL (t' := tk) (ch := [z, TI, TO, i1, i2]) (fun c o nb q =>
      hk c o (fun e => nb (by simp [e])) (fun e => nb (by simp [e])) (fun e => nb (by simp [e])) (fun e => nb (by simp [e])) q) hf⟩
  self := fun A i s Q E st h => wpAny_pyIter_zip st.1 h
/-- iter of a source begins -/
def SK.o (k : SK) : Obj := match k with
  | .lst a => { cls := .type "list_iterator", data := .fields #[.ref a, .int 0 0] }
  | .tup a => { cls := .type "tuple_iterator", data := .fields #[.ref a, .int 0 0] }
  | .txt z t => { cls := .type (strIterType z), data := .fields #[.str z t, .int 0 0] }
theorem SK.begins {X : Cx} {pins : List (Addr × Obj)} {σ : L2.St} {H : Hp} {s : Shared} (I : Inv X pins σ H s) {k : SK} {xs : List V} (hx : k.its X.K H xs) : ∃ Hq : Heap → Prop, Begins k.val k.o Hq ∧ Hq s.heap ∧ k.old s.heap.objs.size := by
  cases k with
  | lst a =>
    obtain ⟨its, rv, p, _⟩ := I.list hx
    exact ⟨_, begins_list a its.toArray, p.isList, p.lt⟩
  | tup a =>
    obtain ⟨its, rv, p, _⟩ := I.tuple hx
    exact ⟨_, begins_tuple a its.toArray, p, p.lt⟩
  | txt z t => exact ⟨_, begins_text z t, True.intro, True.intro⟩
theorem SK.st0 {k : SK} {it : Addr} {h : Heap} (e : h.get? it = some k.o) : k.st it 0 h := by
  cases k <;> exact ⟨_, e, rfl, rfl⟩
theorem fp_at (k : SK) (it n : Nat) (o : k.old n) (b : Nat) (hb : b ∈ k.fp it) : b = it ∨ b < n := by
  cases k with
  | lst a =>
    have hb : b ∈ [it, a] := hb
    rcases List.mem_cons.mp hb with z | z
    · exact .inl z
    · rw [List.mem_singleton.mp z]; exact .inr o
  | tup a =>
    have hb : b ∈ [it, a] := hb
    rcases List.mem_cons.mp hb with z | z
    · exact .inl z
    · rw [List.mem_singleton.mp z]; exact .inr o
  | txt z t =>
    have hb : b ∈ [it] := hb
    exact .inl (List.mem_singleton.mp hb)
theorem fp_tl (k : SK) (it n : Nat) (o : k.old n) (b : Nat) (hb : b ∈ (k.fp it).tail) : b < n := by
  cases k with
  | lst a =>
    have hb : b ∈ [a] := hb
    rw [List.mem_singleton.mp hb]; exact o
  | tup a =>
    have hb : b ∈ [a] := hb
    rw [List.mem_singleton.mp hb]; exact o
  | txt z t => cases hb
theorem fp_me (k : SK) (it : Addr) : it ∈ k.fp it := by cases k <;> exact List.mem_cons_self ..
theorem sep_of (n : Nat) {k1 k2 : SK} (o1 : k1.old n) (o2 : k2.old n) : Sep (n + 4) (n + 2) (n + 3) n (n + 1) k1 k2 := by
  have ne : ∀ a b : Nat, ¬ a = b → (show Addr from a) ≠ (show Addr from b) := fun a b h => h
  have g1 := fp_at k1 n n o1
  have g2 := fp_at k2 (n + 1) n o2
  exact ⟨⟨ne _ _ (by omega), ne _ _ (by omega), ne _ _ (by omega), ne _ _ (by omega), fp_me _ _, fun q => (by rcases g1 (n + 4) q with z | z <;> omega), fun q => (by rcases g1 (n + 3) q with z | z <;> omega), ne _ _ (by omega), fp_me _ _,
    fun q => (by rcases g2 (n + 4) q with z | z <;> omega), fun q => (by rcases g2 (n + 3) q with z | z <;> omega), fun q => (by rcases g2 n q with z | z <;> omega), fun q => (by rcases g1 (n + 1) q with z | z <;> omega)⟩,
    fun b hb => ne b n (by have := fp_tl k1 n n o1 b hb; omega), fun b hb => ne b (n + 1) (by have := fp_tl k2 (n + 1) n o2 b hb; omega)⟩
/-- a value as a source -/
def SrcV (x : V) (v : Value) (k : SK) : Prop := RelV x v ∧ v = k.val
def iZipG (K : PySem.W.Frag) (ta : TA) : TI := fun σ H R => ta σ H fun vs H1 => ∃ x y, vs = [x, y] ∧ ∀ v u, RelV x v → RelV y u → ∃ k1 k2 xs ys, v = SK.val k1 ∧ u = SK.val k2 ∧ SK.its K H1 k1 xs ∧ SK.its K H1 k2 ys ∧ R (ItG K k1 k2) H1
theorem pi_zipG {X : Cx} {e e2 : Expr} {ta : TA} {p pos tpos : Pos} {elts : List Expr} {kk : Nat} (hg : Gl X "zip") (hm : X.mg "zip" = none) (ha : PA X [e, e2] ta)
    (hs : starEach [e, e2] X.env = (false, eval e X.env) :: starEach [e2] X.env := by rfl) (hpl : (backTo pos (starEach [e2] X.env)).any (·.1) = false := by rfl) :
    PI X (.Tuple elts kk tpos) (.Call (.Name "zip" p) [e, e2] [] pos) (iZipG X.K ta) := by
  refine ⟨fun pins s σ H R I h => ?_⟩
  refine Call_ (ld_blt I hg hm boot_zip (PyProof.Rows.callWith_type1 (thn (ha.run pos pins s σ H _ I h) fun us s1 ⟨vs, H1, I1, r1, q1⟩ => ?_) hs hpl))
  obtain ⟨x, y, ex, q1⟩ := q1
  subst ex
  cases r1 with
  | cons r rr =>
    cases rr with
    | cons r' rr =>
      cases rr
      obtain ⟨k1, k2, xs, ys, rfl, rfl, qx, qy, q⟩ := q1 _ _ r r'
      obtain ⟨Q1, B1, h1, o1⟩ := SK.begins I1 qx
      obtain ⟨Q2, B2, h2, o2⟩ := SK.begins I1 qy
      refine zip_begins2 B1 B2 h1 h2 fun h' hz hTI hTO g1 g2 hsz hk => wpAny_pyIter_zip hz ?_
      have I2 : Inv X pins σ H1 { s1 with heap := h' } := I1.kept (t' := s1.toks) hk
      refine ⟨s1.heap.objs.size + 4, [s1.heap.objs.size + 4, s1.heap.objs.size + 2, s1.heap.objs.size + 3, s1.heap.objs.size, s1.heap.objs.size + 1], _, _, H1, rfl, I2, turn_zipG (sep_of _ o1 o2), ⟨hz, hTI, ⟨_, _, hTO⟩, SK.st0 g1, SK.st0 g2⟩, fun c hcm => ?_, q⟩
      have ec : c = s1.heap.objs.size + 4 ∨ c = s1.heap.objs.size + 2 ∨ c = s1.heap.objs.size + 3 ∨ c = s1.heap.objs.size ∨ c = s1.heap.objs.size + 1 := by simpa using hcm
      have hle : s1.heap.objs.size ≤ c := by
        rcases ec with q | q | q | q | q <;> rw [q] <;> first | exact Nat.le_refl _ | exact Nat.le_add_right _ _
      exact I1.fpOk hle (I1.hok.fresh hle)
end ZG
set_option Elab.async false
set_option linter.all false
set_option maxRecDepth 100000
set_option maxHeartbeats 4000000
/-! Z1: list(zip(x, y)): the pairs are kept. -/
namespace ZG
open PySem
section
variable {prog : Program} {w : World} {A : Around} {E : Value → Shared → Prop} {s : Shared} {z TI TO i1 i2 : Addr} {fp1 fp2 : List Addr} {n1 n2 i : Nat} {P1 P2 : Nat → Value → Prop} {St1 St2 : Nat → Heap → Prop}
theorem held_item {T : Addr} {f : Bool} {oT : Obj} {Q : Value → Shared → Prop} (D : ZipSep2 z TI TO i1 i2 fp1 fp2) (D1 : Draws prog w A i1 fp1 n1 P1 St1) (D2 : Draws prog w A i2 fp2 n2 P2 St2)
    (hz : IsZipHeld s.heap z TI TO T f) (hT : s.heap.get? T = some oT) (hTI : IsTupOf2 s.heap TI (.ref i1) (.ref i2)) (st1 : St1 i s.heap) (st2 : St2 i s.heap) (l1 : i < n1) (l2 : i < n2)
    (hQ : ∀ x y h' tk, P1 i x → P2 i y → IsZipHeld h' z TI TO T true → St1 (i + 1) h' → St2 (i + 1) h' → IsTupOf2 h' s.heap.objs.size x y → h'.objs.size = s.heap.objs.size + 1 →
      (∀ c o, c ≠ z → c ≠ i1 → c ≠ i2 → s.heap.get? c = some o → h'.get? c = some o) → Q (.ref s.heap.objs.size) { s with heap := h', toks := tk }) :
    wpAny (model prog w) A (Builtin.«zip.__next__» ⟨[.ref z], []⟩) (fun fin s' => ∃ v, fin = .done (.ret v) ∧ Q v s') E s := by
  show wpAny _ _ (field (.ref z) 2 >>= _) _ _ _
  refine wpAny_bind (wpAny_field hz rfl (x := .bool false) rfl ?_); show wpAny _ _ (field (.ref z) 3 >>= _) _ _ _
  refine wpAny_bind (wpAny_field hz rfl (x := .ref TI) rfl ?_); refine wpAny_bind (wpAny_seqItems hTI rfl ?_)
  show wpAny _ _ (Builtin.SmallTypes.ownedTupleIsFree (.ref z) >>= _) _ _ _; refine wpAny_bind (wpAny_tupleHeld_zip hz hT fun g1 z1 b1 => ?_)
  simp only [Bool.false_eq_true, if_false]; refine wpAny_bind ?_
  rw [← Array.forIn_toList]; simp only [List.forIn_cons, List.forIn_nil]
  refine wpAny_bind (wpAny_bind (wpAny_holding ?_)); show wpAny _ _ (Builtin.SmallTypes.nextOf (.ref i1) >>= _) _ _ _
  refine wpAny_bind (D1.item i { s with heap := g1 } _ _ l1 (D1.over st1 b1 D.zf1) fun x g2 t2 p1 u2 b2 => wpAny_pure ?_)
  refine wpAny_pure ?_; refine wpAny_bind (wpAny_bind (wpAny_holding ?_))
  show wpAny _ _ (Builtin.SmallTypes.nextOf (.ref i2) >>= _) _ _ _
  refine wpAny_bind (D2.item i { s with heap := g2, toks := t2 } _ _ l2 (D2.over (D2.over st2 b1 D.zf2) b2 D.sep1_2) fun y g3 t3 p2 u3 b3 => wpAny_pure ?_)
  refine wpAny_pure (wpAny_pure ?_); show wpAny _ _ (newTuple [x, y] >>= _) _ _ _
  refine wpAny_bind (wpAny_newTuple ?_)
  replace b1 : Heap.SameBut z s.heap g1 := b1
  replace b2 : Heap.SameBut i1 g1 g2 := b2
  replace b3 : Heap.SameBut i2 g2 g3 := b3
  have hsz : g3.objs.size = s.heap.objs.size := by rw [b3.1, b2.1, b1.1]
  have z3 : IsZipHeld g3 z TI TO T true := b3.extBut _ _ D.zi2 (b2.extBut _ _ D.zi1 z1)
  have hk : ∀ c o, c ≠ z → c ≠ i1 → c ≠ i2 → s.heap.get? c = some o → g3.get? c = some o := fun c o c1 c2 c3 e => b3.extBut _ _ c3 (b2.extBut _ _ c2 (b1.extBut _ _ c1 e))
  have v3 : St1 (i + 1) g3 := D1.over u2 b3 D.sep2_1
  refine wpAny_pure ⟨_, rfl, ?_⟩; show Q (.ref g3.objs.size) _
  have hp : IsTupOf2 (g3.push { cls := .type "tuple", data := .seq #[x, y] }) g3.objs.size x y := Heap.get?_push_size _ rfl
  have hz4 : (g3.push { cls := .type "tuple", data := .seq #[x, y] }).objs.size = g3.objs.size + 1 := Heap.size_push ..
  rw [hsz] at hp hz4 ⊢
  exact hQ x y _ t3 p1 p2 (Heap.get?_push_of_some _ z3) (D1.frame _ _ _ v3 fun b _ o e => Heap.get?_push_of_some _ e) (D2.frame _ _ _ u3 fun b _ o e => Heap.get?_push_of_some _ e) hp hz4 fun c o c1 c2 c3 e => Heap.get?_push_of_some _ (hk c o c1 c2 c3 e)
theorem held_end {T : Addr} {f : Bool} {oT : Obj} {Q : Fin → Shared → Prop} (D : ZipSep2 z TI TO i1 i2 fp1 fp2) (D1 : Draws prog w A i1 fp1 n1 P1 St1) (D2 : Draws prog w A i2 fp2 n2 P2 St2)
    (hz : IsZipHeld s.heap z TI TO T f) (hT : s.heap.get? T = some oT) (hTI : IsTupOf2 s.heap TI (.ref i1) (.ref i2)) (st1 : St1 i s.heap) (st2 : St2 i s.heap) (l1 : i ≤ n1) (l2 : i ≤ n2) (hend : i = n1 ∨ i = n2)
    (hE : ∀ h' e tk, (∀ c o, c ≠ z → c ≠ i1 → c ≠ i2 → s.heap.get? c = some o → h'.get? c = some o) → (∃ o, h'.get? e = some o ∧ o.cls = .type "StopIteration") → E (.ref e) { s with heap := h', toks := tk }) :
    wpAny (model prog w) A (Builtin.«zip.__next__» ⟨[.ref z], []⟩) Q E s := by
  show wpAny _ _ (field (.ref z) 2 >>= _) _ _ _
  refine wpAny_bind (wpAny_field hz rfl (x := .bool false) rfl ?_); show wpAny _ _ (field (.ref z) 3 >>= _) _ _ _
  refine wpAny_bind (wpAny_field hz rfl (x := .ref TI) rfl ?_); refine wpAny_bind (wpAny_seqItems hTI rfl ?_)
  show wpAny _ _ (Builtin.SmallTypes.ownedTupleIsFree (.ref z) >>= _) _ _ _; refine wpAny_bind (wpAny_tupleHeld_zip hz hT fun g1 z1 b1 => ?_)
  simp only [Bool.false_eq_true, if_false]; refine wpAny_bind ?_
  rw [← Array.forIn_toList]; simp only [List.forIn_cons, List.forIn_nil]
  refine wpAny_bind (wpAny_bind (wpAny_holding ?_)); show wpAny _ _ (Builtin.SmallTypes.nextOf (.ref i1) >>= _) _ _ _
  replace b1 : Heap.SameBut z s.heap g1 := b1
  by_cases q : i = n1
  · subst q
    refine wpAny_bind (D1.done { s with heap := g1 } _ _ (D1.over st1 b1 D.zf1) fun g2 e b2 he => ?_)
    exact hE g2 e s.toks (fun c o c1 c2 _ x => b2 _ _ c2 (b1.extBut _ _ c1 x)) he
  · have q2 : i = n2 := hend.resolve_left q
    refine wpAny_bind (D1.item i { s with heap := g1 } _ _ (by omega) (D1.over st1 b1 D.zf1) fun x g2 t2 p1 u2 b2 => wpAny_pure ?_)
    replace b2 : Heap.SameBut i1 g1 g2 := b2
    refine wpAny_pure ?_; refine wpAny_bind (wpAny_bind (wpAny_holding ?_))
    show wpAny _ _ (Builtin.SmallTypes.nextOf (.ref i2) >>= _) _ _ _
    have u : St2 i g2 := D2.over (D2.over st2 b1 D.zf2) b2 D.sep1_2
    subst q2
    refine wpAny_bind (D2.done { s with heap := g2, toks := t2 } _ _ u fun g3 e b3 he => ?_)
    exact hE g3 e t2 (fun c o c1 c2 c3 x => b3 _ _ c3 (b2.extBut _ _ c2 (b1.extBut _ _ c1 x))) he
/-- how the zip stands ahead of turn i, what it gave out being kept -/
def Zi (z TI TO : Addr) (b0 : Nat) (i : Nat) (h : Heap) : Prop := (i = 0 ∧ IsZip h z TI TO .none ∧ ∃ a b, IsTupOf2 h TO a b) ∨ ∃ (T : Nat) (f : Bool) (oT : Obj), IsZipHeld h z TI TO T f ∧ h.get? T = some oT ∧ b0 ≤ T
variable {b0 : Nat}
theorem zi_item {Q : Option Value → Shared → Prop} (D : ZipSep2 z TI TO i1 i2 fp1 fp2) (D1 : Draws prog w A.in1 i1 fp1 n1 P1 St1) (D2 : Draws prog w A.in1 i2 fp2 n2 P2 St2) (hb : ∀ c ∈ [z, TI, TO, i1, i2], Nat.lt c b0) (hsz0 : b0 ≤ s.heap.objs.size)
    (hz : Zi z TI TO b0 i s.heap) (hTI : IsTupOf2 s.heap TI (.ref i1) (.ref i2)) (st1 : St1 i s.heap) (st2 : St2 i s.heap) (l1 : i < n1) (l2 : i < n2)
    (hQ : ∀ x y h' tk, P1 i x → P2 i y → Zi z TI TO b0 (i + 1) h' → IsTupOf2 h' TI (.ref i1) (.ref i2) → St1 (i + 1) h' → St2 (i + 1) h' → IsTupOf2 h' s.heap.objs.size x y → h'.objs.size = s.heap.objs.size + 1 →
      (∀ c o, c ∉ [z, TO, i1, i2] → s.heap.get? c = some o → h'.get? c = some o) → Q (some (.ref s.heap.objs.size)) { s with heap := h', toks := tk }) :
    wpAny (model prog w) A (pyNext (.ref z)) Q E s := by
  rcases hz with ⟨_, hz, a, b, hTO⟩ | ⟨T, f, oT, hz, hT, hTb⟩
  · exact wpAny_pyNext_zipD2_item D D1 D2 hz hTI hTO st1 st2 l1 l2 fun x y h' tk p1 p2 z' TO' s1' s2' hn hs hk =>
      hQ x y h' tk p1 p2 (.inr ⟨s.heap.objs.size, false, _, z', hn, hsz0⟩) (hk _ _ D.TIz D.TITO D.TIi1 D.TIi2 hTI) s1' s2' hn hs fun c o hc e => hk c o (fun q => hc (by simp [q])) (fun q => hc (by simp [q])) (fun q => hc (by simp [q])) (fun q => hc (by simp [q])) e
  · have hTy : s.TypeIs (.ref z) "zip" := ⟨_, hz, rfl⟩
    unfold pyNext
    refine wpAny_bind (wpAny_attempt (wpAny_callSpecial?_slot (name := Str.ofString "__next__") hTy F.slot_zip_next
      (wpAny_call_entry F.slot_zip_next hTy F.entry_zip_next (held_item D D1 D2 hz hT hTI st1 st2 l1 l2 fun x y h' tk p1 p2 z' s1' s2' hn hs hk => wpAny_pure ?_) (F.args_zip_next_1 _))))
    have nT : ∀ c ∈ [z, TI, TO, i1, i2], T ≠ c := fun c hc e => by
      have q := hb c hc
      rw [← e] at q
      exact absurd hTb (Nat.not_le.mpr q)
    exact hQ x y h' tk p1 p2 (.inr ⟨T, true, oT, z', hk T oT (nT z (by simp)) (nT i1 (by simp)) (nT i2 (by simp)) hT, hTb⟩) (hk _ _ D.TIz D.TIi1 D.TIi2 hTI) s1' s2' hn hs fun c o hc e => hk c o (fun q => hc (by simp [q])) (fun q => hc (by simp [q])) (fun q => hc (by simp [q])) e
theorem zi_end {Q : Option Value → Shared → Prop} (D : ZipSep2 z TI TO i1 i2 fp1 fp2) (D1 : Draws prog w A.in1 i1 fp1 n1 P1 St1) (D2 : Draws prog w A.in1 i2 fp2 n2 P2 St2)
    (hz : Zi z TI TO b0 i s.heap) (hTI : IsTupOf2 s.heap TI (.ref i1) (.ref i2)) (st1 : St1 i s.heap) (st2 : St2 i s.heap) (l1 : i ≤ n1) (l2 : i ≤ n2) (hend : i = n1 ∨ i = n2)
    (hQ : ∀ h' tk, (∀ c o, c ∉ [z, TO, i1, i2] → s.heap.get? c = some o → h'.get? c = some o) → Q none { s with heap := h', toks := tk }) :
    wpAny (model prog w) A (pyNext (.ref z)) Q E s := by
  rcases hz with ⟨_, hz, a, b, hTO⟩ | ⟨T, f, oT, hz, hT, hTb⟩
  · exact wpAny_pyNext_zipD2_end D D1 D2 hz hTI hTO st1 st2 l1 l2 hend fun h' tk hk => hQ h' tk fun c o hc e => hk c o (fun q => hc (by simp [q])) (fun q => hc (by simp [q])) (fun q => hc (by simp [q])) (fun q => hc (by simp [q])) e
  · have hTy : s.TypeIs (.ref z) "zip" := ⟨_, hz, rfl⟩
    unfold pyNext
    refine wpAny_bind (wpAny_attempt (wpAny_callSpecial?_slot (name := Str.ofString "__next__") hTy F.slot_zip_next
      (wpAny_call_entry F.slot_zip_next hTy F.entry_zip_next (held_end D D1 D2 hz hT hTI st1 st2 l1 l2 hend fun h' e tk hk he => ?_) (F.args_zip_next_1 _))))
    obtain ⟨o, ho, hc⟩ := he
    exact wpAny_bind (wpAny_isInstance (T := "StopIteration") (b := true) ⟨o, ho, hc⟩ isSubtype_stop (wpAny_pure (hQ _ tk fun c o hc e => hk c o (fun q => hc (by simp [q])) (fun q => hc (by simp [q])) (fun q => hc (by simp [q])) e)))
/-- the pairs that were given out -/
def Pairs (P1 P2 : Nat → Value → Prop) (b0 : Nat) (h : Heap) (Ts : List Nat) : Prop := Ts.Pairwise (· < ·) ∧ ∀ (j T : Nat), Ts[j]? = some T → b0 ≤ T ∧ ∃ x y, IsTupOf2 h T x y ∧ P1 j x ∧ P2 j y
theorem loop {S : Addr} {R : Result → Shared → Prop} (res : Value) (D : ZipSep2 z TI TO i1 i2 fp1 fp2) (D1 : Draws prog w A.in1.in1 i1 fp1 n1 P1 St1) (D2 : Draws prog w A.in1.in1 i2 fp2 n2 P2 St2)
    (hb : ∀ c ∈ [z, TI, TO, i1, i2], Nat.lt c b0) (hSb : Nat.lt S b0) (hS1 : S ∉ fp1) (hS2 : S ∉ fp2) (hSz : S ≠ z) (hST : S ≠ TI) (hSO : S ≠ TO) (hn : min n1 n2 ≤ sizeLine) :
    ∀ (k i : Nat) (s : Shared) (acc : Array Value) (c : Nat) (Ts : List Nat), min n1 n2 - i = k → i ≤ min n1 n2 → b0 ≤ s.heap.objs.size → Zi z TI TO b0 i s.heap → IsTupOf2 s.heap TI (.ref i1) (.ref i2) → St1 i s.heap → St2 i s.heap →
      s.heap.get? S = some { cls := .type "list", dict := none, data := .seq acc c, slots := #[] } → acc.toList = Ts.map Value.ref → Ts.length = i → Pairs P1 P2 b0 s.heap Ts →
      (∀ h' tk acc' c' Ts', (∀ b o, b ∉ [S, z, TO, i1, i2] → s.heap.get? b = some o → h'.get? b = some o) → h'.get? S = some { cls := .type "list", dict := none, data := .seq acc' c', slots := #[] } → acc'.toList = Ts'.map Value.ref → Ts'.length = min n1 n2 → Pairs P1 P2 b0 h' Ts' →
        R (.ok (.ret res)) { s with heap := h', toks := tk }) →
      codeAny (model prog w) A (.builtin "list.extend.loop" ⟨[.ref S, .ref z, res], []⟩) R s := by
  have hSi1 : S ≠ i1 := fun e => hS1 (by rw [e]; exact D.mem1)
  have hSi2 : S ≠ i2 := fun e => hS2 (by rw [e]; exact D.mem2)
  have far : ∀ T : Nat, b0 ≤ T → (show Addr from T) ∉ [S, z, TO, i1, i2] := fun T hT hm => by
    have q : Nat.lt T b0 := by
      rcases List.mem_cons.mp hm with e | hm
      · rw [show T = S from e]; exact hSb
      · refine hb T ?_
        rcases List.mem_cons.mp hm with e | hm
        · rw [show T = z from e]; simp
        · exact List.mem_cons_of_mem _ (List.mem_cons_of_mem _ hm)
    exact absurd hT (Nat.not_le.mpr q)
  intro k
  induction k with
  | zero =>
    intro i s acc c Ts hk hi hsz hz hTI st1 st2 hS hacc hlen hp hR
    refine codeAny_builtin F.entry_extend_loop ?_
    rw [Around.under_plainId F.plain_extend_loop _]
    show wpAny _ A.in1 (pyNext (.ref z) >>= _) _ _ s
    refine wpAny_bind (zi_end D D1 D2 hz hTI st1 st2 (by omega) (by omega) (by omega) fun h' tk hk' => wpAny_pure ?_)
    have sub : ∀ b, b ∉ [S, z, TO, i1, i2] → b ∉ [z, TO, i1, i2] := fun b hb q => hb (List.mem_cons_of_mem _ q)
    refine hR h' tk acc c Ts (fun b o hb e => hk' b o (sub b hb) e) (hk' S _ (by simp [hSz, hSO, hSi1, hSi2]) hS) hacc (by omega) ⟨hp.1, fun j T e => ?_⟩
    obtain ⟨q, x, y, q2, q3⟩ := hp.2 j T e
    exact ⟨q, x, y, hk' T _ (sub T (far T q)) q2, q3⟩
  | succ k ih =>
    intro i s acc c Ts hk hi hsz hz hTI st1 st2 hS hacc hlen hp hR
    refine codeAny_builtin F.entry_extend_loop ?_
    rw [Around.under_plainId F.plain_extend_loop _]
    show wpAny _ A.in1 (pyNext (.ref z) >>= _) _ _ s
    refine wpAny_bind (zi_item D D1 D2 hb hsz hz hTI st1 st2 (by omega) (by omega) fun x y h' tk p1 p2 hz' hTI' s1' s2' hn' hsz' hk' => ?_)
    have sub : ∀ b, b ∉ [S, z, TO, i1, i2] → b ∉ [z, TO, i1, i2] := fun b hb q => hb (List.mem_cons_of_mem _ q)
    have hS' := hk' S _ (by simp [hSz, hSO, hSi1, hSi2]) hS
    have hai : acc.size = i := by rw [← Array.length_toList, hacc, List.length_map, hlen]
    show wpAny _ A.in1 (updateSeq S (·.push (.ref s.heap.objs.size)) >>= _) _ _ _
    refine wpAny_bind ?_
    refine wpAny_updateSeq hS' rfl (wpAny_pure ⟨plainId_quiet F.plain_extend_loop _, ?_⟩) (by rw [hai]; omega) (by show (acc.push _).size ≤ sizeLine + 1; rw [Array.size_push, hai]; omega)
    have oth : ∀ b o, b ≠ S → h'.get? b = some o → (h'.update S (Obj.mapSeq (·.push (.ref s.heap.objs.size)))).get? b = some o := fun b o nb e => (Heap.get?_update_other _ _ (Ne.symm nb)).trans e
    have hTs : ∀ T ∈ Ts, T < s.heap.objs.size := fun T hT => by
      obtain ⟨j, hj⟩ := List.mem_iff_getElem?.mp hT
      obtain ⟨_, x, y, q2, _⟩ := hp.2 j T hj
      exact Heap.lt_size q2
    have farS : ∀ T : Nat, b0 ≤ T → (show Addr from T) ≠ S := fun T hT e => far T hT (by rw [e]; simp)
    refine ih (i + 1) _ (acc.push (.ref s.heap.objs.size)) _ (Ts ++ [s.heap.objs.size]) (by omega) (by omega) ?_ ?_ (oth _ _ (Ne.symm hST) hTI') (D1.frame _ _ _ s1' fun b hb o e => oth b o (fun q => hS1 (by rw [← q]; exact hb)) e) (D2.frame _ _ _ s2' fun b hb o e => oth b o (fun q => hS2 (by rw [← q]; exact hb)) e)
      (Heap.get?_update_self _ hS' rfl) (by rw [Array.toList_push, hacc, List.map_append]; rfl) (by rw [List.length_append, hlen]; rfl) ⟨?_, fun j T e => ?_⟩ fun h2 tk2 acc' c' Ts' hk2 hS2 ha2 hl2 hp2 => ?_
    · show b0 ≤ (h'.update S _).objs.size
      rw [Heap.size_update, hsz']; omega
    · rcases hz' with ⟨e, _⟩ | ⟨T, f, oT, e1, e2, e3⟩
      · omega
      · exact .inr ⟨T, f, oT, oth _ _ (Ne.symm hSz) e1, oth _ _ (farS T e3) e2, e3⟩
    · refine List.pairwise_append.mpr ⟨hp.1, List.pairwise_singleton .., fun a ha b hb => ?_⟩
      rw [List.mem_singleton.mp hb]; exact hTs a ha
    · by_cases hj : j < Ts.length
      · rw [List.getElem?_append_left hj] at e
        obtain ⟨q, x', y', q2, q3⟩ := hp.2 j T e
        exact ⟨q, x', y', oth _ _ (farS T q) (hk' T _ (sub T (far T q)) q2), q3⟩
      · rw [List.getElem?_append_right (by omega)] at e
        have hj2 : j - Ts.length = 0 := by
          cases h0 : j - Ts.length with
          | zero => rfl
          | succ m => rw [h0] at e; simp at e
        rw [hj2] at e
        have e : s.heap.objs.size = T := by simpa using e
        have ji : j = i := by omega
        subst e ji
        exact ⟨hsz, x, y, oth _ _ (farS _ hsz) hn', p1, p2⟩
    · refine hR h2 tk2 acc' c' Ts' (fun b o hb e => hk2 b o hb (oth b o (fun q => hb (by rw [q]; simp)) (hk' b o (sub b hb) e))) hS2 ha2 hl2 hp2
end
end ZG
set_option Elab.async false
set_option linter.all false
set_option maxRecDepth 100000
set_option maxHeartbeats 4000000
/-! Z2: list(zip(x, y)), the call. -/
namespace ZG
open PySem PyProof.Rows
theorem zip_no_len : typeLookup (.type "zip") "__len__" = pure none := am_miss_of_fast (by decide +kernel)
theorem zip_no_hint : typeLookup (.type "zip") "__length_hint__" = pure none := am_miss_of_fast (by decide +kernel)
section
variable {prog : Program} {w : World} {A : Around} {E : Value → Shared → Prop} {s : Shared} {z TI TO i1 i2 : Addr} {fp1 fp2 : List Addr} {n1 n2 i : Nat} {P1 P2 : Nat → Value → Prop} {St1 St2 : Nat → Heap → Prop} {b0 : Nat}
theorem hint_zip {Q : Bool → Shared → Prop} (hT : s.TypeIs (.ref z) "zip") (h : Q true s) : wpAny (model prog w) A (Builtin.List.listLengthHint (.ref z)) Q E s := by
  unfold Builtin.List.listLengthHint
  refine wpAny_bind (wpAny_specialOf hT zip_no_len ?_)
  refine wpAny_bind (wpAny_specialOf hT zip_no_hint ?_)
  exact wpAny_pure h
/-- the zip at its start, with its cells, all below b0 -/
structure AtZ (P1 P2 : Nat → Value → Prop) (St1 St2 : Nat → Heap → Prop) (fp1 fp2 : List Addr) (z TI TO i1 i2 : Addr) (b0 : Nat) (h : Heap) : Prop where
  D : ZipSep2 z TI TO i1 i2 fp1 fp2
  hb : ∀ c ∈ [z, TI, TO, i1, i2], Nat.lt c b0
  fb1 : ∀ c ∈ fp1, Nat.lt c b0
  fb2 : ∀ c ∈ fp2, Nat.lt c b0
  hz : IsZip h z TI TO .none
  hTI : IsTupOf2 h TI (.ref i1) (.ref i2)
  hTO : ∃ a b, IsTupOf2 h TO a b
  s1 : St1 0 h
  s2 : St2 0 h
theorem AtZ.keep {h h' : Heap} (x : AtZ P1 P2 St1 St2 fp1 fp2 z TI TO i1 i2 b0 h) (D1 : Draws prog w A i1 fp1 n1 P1 St1) (D2 : Draws prog w A i2 fp2 n2 P2 St2) (k : ∀ b o, Nat.lt b b0 → h.get? b = some o → h'.get? b = some o) : AtZ P1 P2 St1 St2 fp1 fp2 z TI TO i1 i2 b0 h' := by
  obtain ⟨D, hb, f1, f2, hz, hTI, ⟨a, b, hTO⟩, s1, s2⟩ := x
  exact ⟨D, hb, f1, f2, k _ _ (hb z (by simp)) hz, k _ _ (hb TI (by simp)) hTI, ⟨a, b, k _ _ (hb TO (by simp)) hTO⟩, D1.frame _ _ _ s1 fun c hc o e => k c o (f1 c hc) e, D2.frame _ _ _ s2 fun c hc o e => k c o (f2 c hc) e⟩
theorem extend_zip {S : Addr} {R : Result → Shared → Prop} (res : Value) (D1 : Draws prog w A.in1.in1 i1 fp1 n1 P1 St1) (D2 : Draws prog w A.in1.in1 i2 fp2 n2 P2 St2) (x : AtZ P1 P2 St1 St2 fp1 fp2 z TI TO i1 i2 b0 s.heap)
    (hSb : Nat.le b0 S) (hn : min n1 n2 ≤ sizeLine) (c₀ : Nat) (hS : s.heap.get? S = some { cls := .type "list", data := .seq #[] c₀ })
    (hR : ∀ h' tk acc' c' Ts', (∀ b o, b ∉ [S, z, TO, i1, i2] → s.heap.get? b = some o → h'.get? b = some o) → h'.get? S = some { cls := .type "list", dict := none, data := .seq acc' c', slots := #[] } → acc'.toList = Ts'.map Value.ref → Ts'.length = min n1 n2 → Pairs P1 P2 (S + 1) h' Ts' →
        R (.ok (.ret res)) { s with heap := h', toks := tk }) :
    wpAny (model prog w) A.in1 (Builtin.List.listExtendWith (.ref S) (.ref z) res)
      (fun fin s' => match fin with | .done f => R (.ok f) s' | .again c' => c'.quiet = true ∧ codeAny (model prog w) A c' R s') (fun e s' => R (.error e) s') s := by
  have nS : ∀ c, Nat.lt c b0 → S ≠ c := fun c hc e => absurd hc (Nat.not_lt.mpr (by rw [← e]; exact hSb))
  have hSz := nS z (x.hb z (by simp))
  have hT : s.TypeIs (.ref z) "zip" := ⟨_, x.hz, rfl⟩
  have big : ∀ c, Nat.lt c b0 → Nat.lt c (S + 1) := fun c hc => Nat.lt_of_lt_of_le hc (Nat.le_succ_of_le hSb)
  have key : ∀ (h : Heap) (c₁ tk : Nat), (∀ b o, b ≠ S → s.heap.get? b = some o → h.get? b = some o) → h.objs.size = s.heap.objs.size →
      h.get? S = some { cls := .type "list", data := .seq #[] c₁ } → codeAny (model prog w) A (.builtin "list.extend.loop" ⟨[.ref S, .ref z, res], []⟩) R { s with heap := h, toks := tk } := by
    intro h c₁ tk hk hsz hS₁
    have y := x.keep (h' := h) D1 D2 fun b o hb e => hk b o (nS b hb).symm e
    refine loop (b0 := S + 1) res y.D D1 D2 (fun c hc => big c (y.hb c hc)) (Nat.lt_succ_self S) (fun hm => nS S (y.fb1 S hm) rfl) (fun hm => nS S (y.fb2 S hm) rfl) hSz (nS TI (y.hb TI (by simp))) (nS TO (y.hb TO (by simp))) hn
      (min n1 n2) 0 _ #[] c₁ [] rfl (Nat.zero_le _) ?_ (.inl ⟨rfl, y.hz, y.hTO⟩) y.hTI y.s1 y.s2 hS₁ rfl rfl ⟨List.Pairwise.nil, fun j T e => by simp at e⟩ fun h' tk' acc' c' Ts' hk' hS' ha hl hp => ?_
    · show S + 1 ≤ h.objs.size
      exact Heap.lt_size hS₁
    · exact hR h' tk' acc' c' Ts' (fun b o hb e => hk' b o hb (hk b o (fun q => hb (by rw [q]; simp)) e)) hS' ha hl hp
  unfold Builtin.List.listExtendWith
  refine wpAny_bind (wpAny_typeOf (T := "zip") hT ?_)
  have e1 : Builtin.List.listSameRef (.ref S) (.ref z) = false := by simp [Builtin.List.listSameRef, hSz]
  have e2 : (Value.type "zip" == Value.type "list") = false := by decide
  have e3 : (Value.type "zip" == Value.type "tuple") = false := by decide
  simp only [e1, e2, e3, Bool.or_false, Bool.false_eq_true, if_false]
  refine wpAny_bind (wpAny_pyIter_zip x.hz ?_); refine wpAny_bind (wpAny_holding (hint_zip hT ?_))
  refine wpAny_ite_split (fun _ => ?_) (fun _ => wpAny_pure ⟨plainId_quiet F.plain_extend_loop _, key _ c₀ _ (fun b o _ e => e) rfl hS⟩)
  refine wpAny_bind (wpAny_rule ?_); refine wpAny_bind ?_
  show wpAny _ _ (updateSeq S (·.push .none) >>= fun _ => updateSeq S (·.pop)) _ _ _; refine wpAny_bind (wpAny_updateSeq hS rfl ?_)
  have m2 := Heap.get?_update_self (Obj.mapSeq (·.push Value.none)) hS rfl
  refine wpAny_updateSeq (hz := by seq_fits) m2 rfl ?_; have m3 := Heap.get?_update_self (Obj.mapSeq (·.pop)) m2 rfl
  refine wpAny_pure ⟨plainId_quiet F.plain_extend_loop _, key _ _ _ (fun b o hb e => ?_) ?_ m3⟩
  · exact (Heap.get?_update_other _ _ (Ne.symm hb)).trans ((Heap.get?_update_other _ _ (Ne.symm hb)).trans e)
  · rw [Heap.size_update, Heap.size_update]
theorem init_zip {S : Addr} {R : Result → Shared → Prop} (D1 : Draws prog w A.in1.in1 i1 fp1 n1 P1 St1) (D2 : Draws prog w A.in1.in1 i2 fp2 n2 P2 St2) (x : AtZ P1 P2 St1 St2 fp1 fp2 z TI TO i1 i2 b0 s.heap)
    (hSb : Nat.le b0 S) (hn : min n1 n2 ≤ sizeLine) (hS : s.heap.get? S = some { cls := .type "list", data := .seq #[] })
    (hR : ∀ h' tk acc' c' Ts', (∀ b o, b ∉ [S, z, TO, i1, i2] → s.heap.get? b = some o → h'.get? b = some o) → h'.get? S = some { cls := .type "list", dict := none, data := .seq acc' c', slots := #[] } → acc'.toList = Ts'.map Value.ref → Ts'.length = min n1 n2 → Pairs P1 P2 (S + 1) h' Ts' →
        R (.ok (.ret .none)) { s with heap := h', toks := tk }) :
    wpAny (model prog w) A.in1 (Builtin.«list.__init__» ⟨[.ref S, .ref z], []⟩)
      (fun fin s' => match fin with | .done f => R (.ok f) s' | .again c' => c'.quiet = true ∧ codeAny (model prog w) A c' R s') (fun e s' => R (.error e) s') s := by
  show wpAny _ _ (do let old ← Builtin.List.listItems (.ref S); Builtin.List.listUpdate (.ref S) (fun _ => #[]); letGo old.toList.reverse; Builtin.List.listExtendWith (.ref S) (.ref z) .none) _ _ s
  refine wpAny_bind ?_; unfold Builtin.List.listItems
  refine wpAny_bind (wpAny_seqItems hS rfl (wpAny_pure ?_))
  show wpAny _ _ (updateSeq S (fun _ => #[]) >>= fun _ => letGo (#[] : Array Value).toList.reverse >>= fun _ => Builtin.List.listExtendWith (.ref S) (.ref z) .none) _ _ s
  refine wpAny_bind (wpAny_updateSeq hS rfl ?_)
  have m2 := Heap.get?_update_self (Obj.mapSeq (fun _ => (#[] : Array Value))) hS rfl
  have nS : ∀ c, Nat.lt c b0 → S ≠ c := fun c hc e => absurd hc (Nat.not_lt.mpr (by rw [← e]; exact hSb))
  have oth : ∀ b o, b ≠ S → s.heap.get? b = some o → (s.heap.update S (Obj.mapSeq (fun _ => (#[] : Array Value)))).get? b = some o :=
    fun b o nb e => (Heap.get?_update_other _ _ (Ne.symm nb)).trans e
  refine wpAny_bind (wpAny_letGo ?_)
  refine extend_zip .none D1 D2 (x.keep D1 D2 fun b o hb e => oth b o (nS b hb).symm e) hSb hn _ m2 fun h' tk acc' c' Ts' hk' hS' ha hl hp => ?_
  exact hR h' tk acc' c' Ts' (fun b o nb e => hk' b o nb (oth b o (fun q => nb (by rw [q]; simp)) e)) hS' ha hl hp
end
section
variable {prog : Program} {w : World} {A : Around} {E : Value → Shared → Prop} {s : Shared} {z TI TO i1 i2 : Addr} {fp1 fp2 : List Addr} {n1 n2 i : Nat} {P1 P2 : Nat → Value → Prop} {St1 St2 : Nat → Heap → Prop} {b0 : Nat}
theorem call_list_zip {Q : Value → Shared → Prop} (D1 : Draws prog w A.in1.in1.in1 i1 fp1 n1 P1 St1) (D2 : Draws prog w A.in1.in1.in1 i2 fp2 n2 P2 St2) (x : AtZ P1 P2 St1 St2 fp1 fp2 z TI TO i1 i2 s.heap.objs.size s.heap) (hn : min n1 n2 ≤ sizeLine)
    (hQ : ∀ h' tk acc' c' Ts', (∀ b o, b ∉ [z, TO, i1, i2] → s.heap.get? b = some o → h'.get? b = some o) → h'.get? s.heap.objs.size = some { cls := .type "list", dict := none, data := .seq acc' c', slots := #[] } → acc'.toList = Ts'.map Value.ref → Ts'.length = min n1 n2 → Pairs P1 P2 (s.heap.objs.size + 1) h' Ts' →
        Q (.ref s.heap.objs.size) { s with heap := h', toks := tk }) :
    wpAny (model prog w) A (call (.type "list") [.ref z]) Q E s := by
  refine callType_codes (Q₁ := fun obj s₁ => obj = .ref s.heap.objs.size ∧ s₁ = { s with heap := s.heap.push { cls := .type "list", data := .seq #[] } }) F.called_list (F.typeCall_list_1 _) F.entry_list_init
    (code_list_new _ ⟨rfl, rfl⟩) fun obj s₁ g₁ => ?_
  obtain ⟨rfl, rfl⟩ := g₁
  have hS : (s.heap.push { cls := .type "list", data := .seq #[] }).get? s.heap.objs.size = some { cls := .type "list", data := .seq #[] } := Heap.get?_push_size _ rfl
  refine ⟨⟨_, hS, rfl⟩, F.args_list_init_2 _ _, init_zip (A := A.in1) D1 D2 (x.keep D1 D2 fun b o _ e => Heap.get?_push_of_some _ e) (Nat.le_refl _) hn hS fun h' tk acc' c' Ts' hk' hS' ha hl hp => ?_⟩
  refine ⟨rfl, hQ h' tk acc' c' Ts' (fun b o nb e => hk' b o (fun q => ?_) (Heap.get?_push_of_some _ e)) hS' ha hl hp⟩
  rcases List.mem_cons.mp q with q | q
  · exact absurd (Heap.lt_size e) (by rw [q]; exact Nat.lt_irrefl _)
  · exact nb q
end
open L2
/-- the pairs laid down one after the other -/
def layT : Hp → List Addr → List (V × V) → Hp
  | H, T :: Ts, p :: ps => layT (upd H T (.tup [p.1, p.2])) Ts ps
  | H, _, _ => H
def FreshT : Hp → List Addr → List (V × V) → Prop
  | H, T :: Ts, p :: ps => H T = none ∧ FreshT (upd H T (.tup [p.1, p.2])) Ts ps
  | _, [], [] => True
  | _, _, _ => False
theorem layT_no : ∀ {Ts : List Addr} {ps : List (V × V)} {H : Hp} {b : Addr}, b ∉ Ts → layT H Ts ps b = H b
  | [], ps, H, b, _ => by cases ps <;> rfl
  | T :: Ts, [], H, b, _ => rfl
  | T :: Ts, p :: ps, H, b, hb => by
    show layT (upd H T _) Ts ps b = H b
    rw [layT_no (List.not_mem_of_not_mem_cons hb), upd_ne (List.ne_of_not_mem_cons hb)]
theorem layT_at : ∀ {Ts : List Addr} {ps : List (V × V)} {H : Hp} {j : Nat} {T : Addr}, Ts.Nodup → Ts.length = ps.length → Ts[j]? = some T → ∃ p, ps[j]? = some p ∧ layT H Ts ps T = some (.tup [p.1, p.2])
  | [], ps, H, j, T, _, _, e => by simp at e
  | T0 :: Ts, [], H, j, T, _, l, e => by simp at l
  | T0 :: Ts, p :: ps, H, 0, T, nd, l, e => by
    have e : T0 = T := by simpa using e
    subst e
    refine ⟨p, rfl, ?_⟩
    show layT (upd H T0 _) Ts ps T0 = _
    rw [layT_no (List.nodup_cons.mp nd).1, upd_same]
  | T0 :: Ts, p :: ps, H, j + 1, T, nd, l, e => by
    have e : Ts[j]? = some T := by simpa using e
    obtain ⟨q, h1, h2⟩ := layT_at (H := upd H T0 (.tup [p.1, p.2])) (List.nodup_cons.mp nd).2 (by simpa using l) e
    exact ⟨q, by simpa using h1, h2⟩
theorem freshT_of : ∀ {Ts : List Addr} {ps : List (V × V)} {H : Hp}, Ts.Nodup → Ts.length = ps.length → (∀ T ∈ Ts, H T = none) → FreshT H Ts ps
  | [], [], _, _, _, _ => True.intro
  | [], p :: ps, _, _, l, _ => by simp at l
  | T :: Ts, [], _, _, l, _ => by simp at l
  | T :: Ts, p :: ps, H, nd, l, n => ⟨n T (List.mem_cons_self ..), freshT_of (List.nodup_cons.mp nd).2 (by simpa using l) fun b hb => by
      rw [upd_ne fun e => (List.nodup_cons.mp nd).1 (by rw [← e]; exact hb)]; exact n b (List.mem_cons_of_mem _ hb)⟩
def tLstZip (K : PySem.W.Frag) (ta : TA) : TE := fun σ H Q => ta σ H fun vs H1 => ∃ x y, vs = [x, y] ∧ ∀ v u, RelV x v → RelV y u → ∃ k1 k2 xs ys, v = SK.val k1 ∧ u = SK.val k2 ∧ SK.its K H1 k1 xs ∧ SK.its K H1 k2 ys ∧ min xs.length ys.length ≤ sizeLine ∧
  ∀ (Ts : List Addr) (p : Addr), Ts.length = (xs.zip ys).length → FreshT H1 Ts (xs.zip ys) → layT H1 Ts (xs.zip ys) p = none → Q (.ref p) (upd (layT H1 Ts (xs.zip ys)) p (.lst (Ts.map .ref)))
theorem pe_listZip {X : Cx} {e e2 : Expr} {ta : TA} {p p2 q pos : Pos} (hc : X.calm = true) (hg : Gl X "list") (hm : X.mg "list" = none) (hg2 : Gl X "zip") (hm2 : X.mg "zip" = none) (ha : PA X [e, e2] ta)
    (hs : starEach [e, e2] X.env = (false, eval e X.env) :: starEach [e2] X.env := by rfl) (hpl : (backTo q (starEach [e2] X.env)).any (·.1) = false := by rfl)
    (na : starEach [.Call (.Name "zip" p2) [e, e2] [] q] X.env = (false, eval (.Call (.Name "zip" p2) [e, e2] [] q) X.env) :: starEach [] X.env := by rfl) :
    PE X (.Call (.Name "list" p) [.Call (.Name "zip" p2) [e, e2] [] q] [] pos) (tLstZip X.K ta) := by
  refine ⟨fun pins s σ H Q I h => ?_⟩
  refine Call_ (ld_blt I hg hm boot_list (PyProof.Rows.callWith_type1 (args_cons ?_ na) na))
  refine Call_ (ld_blt I hg2 hm2 boot_zip (PyProof.Rows.callWith_type1 (thn (ha.run q pins s σ H _ I h) fun us s1 ⟨vs, H1, I1, r1, q1⟩ => ?_) hs hpl))
  obtain ⟨x, y, ex, q1⟩ := q1
  subst ex
  cases r1 with
  | cons r rr =>
    cases rr with
    | cons r' rr =>
      cases rr
      obtain ⟨k1, k2, xs, ys, rfl, rfl, qx, qy, hn, q⟩ := q1 _ _ r r'
      obtain ⟨Q1, B1, g1, o1⟩ := SK.begins I1 qx
      obtain ⟨Q2, B2, g2, o2⟩ := SK.begins I1 qy
      refine zip_begins2 B1 B2 g1 g2 fun h' hz hTI hTO a1 a2 hsz hk => args_nil ?_
      have I2 : Inv X pins σ H1 { s1 with heap := h' } := I1.kept (t' := s1.toks) hk
      have S := sep_of s1.heap.objs.size o1 o2
      have hh : X.A.in1.in1.in1.handled = none := I1.ok.hd hc
      obtain ⟨P1, S1, D1, b1, c1, d1⟩ := SK.draw I2 hh k1 _ S.n1 qx
      obtain ⟨P2, S2, D2, b2, c2, d2⟩ := SK.draw I2 hh k2 _ S.n2 qy
      have hsz' : ({ s1 with heap := h' } : Shared).heap.objs.size = s1.heap.objs.size + 5 := hsz
      have lt5 : ∀ k : Nat, k < 5 → Nat.lt (s1.heap.objs.size + k) h'.objs.size := fun k hk => Nat.lt_of_lt_of_le (Nat.add_lt_add_left hk _) (Nat.le_of_eq hsz.symm)
      have below : ∀ (k : SK) (it : Nat), k.old s1.heap.objs.size → it < s1.heap.objs.size + 5 → ∀ c ∈ k.fp it, Nat.lt c h'.objs.size := fun k it o hi c hc => by
        refine Nat.lt_of_lt_of_le ?_ (Nat.le_of_eq hsz.symm)
        rcases fp_at k it _ o c hc with z | z
        · rw [z]; exact hi
        · exact Nat.lt_of_lt_of_le z (Nat.le_add_right _ _)
      refine call_list_zip D1 D2 (s := { s1 with heap := h' }) ⟨S.s, fun c hc => ?_, below k1 _ o1 (by omega), below k2 _ o2 (by omega), hz, hTI, ⟨_, _, hTO⟩, b1 0 (SK.st0 a1), b2 0 (SK.st0 a2)⟩ hn fun h2 tk acc c Ts hk2 hL hacc hlen hp => ?_
      · have ec : c = s1.heap.objs.size + 4 ∨ c = s1.heap.objs.size + 2 ∨ c = s1.heap.objs.size + 3 ∨ c = s1.heap.objs.size ∨ c = s1.heap.objs.size + 1 := by simpa using hc
        rcases ec with z | z | z | z | z <;> rw [z]
        · exact lt5 4 (by omega)
        · exact lt5 2 (by omega)
        · exact lt5 3 (by omega)
        · exact lt5 0 (by omega)
        · exact lt5 1 (by omega)
      -- what stands at the end
      have hk3 : ∀ b o, s1.heap.get? b = some o → h2.get? b = some o := fun b o e => hk2 b o (fun hm => by
        have hb : b < s1.heap.objs.size := Heap.lt_size e
        have ec : b = s1.heap.objs.size + 4 ∨ b = s1.heap.objs.size + 3 ∨ b = s1.heap.objs.size ∨ b = s1.heap.objs.size + 1 := by simpa using hm
        rcases ec with z | z | z | z
        · rw [z] at hb; exact absurd hb (Nat.not_lt.mpr (Nat.le_add_right _ _))
        · rw [z] at hb; exact absurd hb (Nat.not_lt.mpr (Nat.le_add_right _ _))
        · rw [z] at hb; exact absurd hb (Nat.lt_irrefl _)
        · rw [z] at hb; exact absurd hb (Nat.not_lt.mpr (Nat.le_add_right _ _))) (hk b o e)
      have hTsz : ∀ T ∈ Ts, h'.objs.size + 1 ≤ T := fun T hT => by
        obtain ⟨j, hj⟩ := List.mem_iff_getElem?.mp hT
        exact (hp.2 j T hj).1
      have old : ∀ b : Nat, b < s1.heap.objs.size → (b ∉ Ts ∧ b ≠ h'.objs.size) := fun b hb => ⟨fun hm => by have := hTsz b hm; omega, by omega⟩
      have nd : (show List Addr from Ts).Nodup := hp.1.imp fun h => Nat.ne_of_lt h
      have hzl : Ts.length = (xs.zip ys).length := by rw [hlen, List.length_zip]
      have fr : ∀ T ∈ Ts, H1 T = none := fun T hT => I1.hok.fresh (by have := hTsz T hT; show _ ≤ _; omega)
      have pn : (show Nat from h'.objs.size) ∉ Ts := fun hm => absurd (hTsz _ hm) (Nat.not_le.mpr (Nat.lt_succ_self _))
      have pf : H1 h'.objs.size = none := I1.hok.fresh (by show _ ≤ _; omega)
      have same : ∀ b : Nat, b < s1.heap.objs.size → upd (layT H1 Ts (xs.zip ys)) h'.objs.size (.lst (Ts.map .ref)) b = H1 b := fun b hb => by
        obtain ⟨n1, n2⟩ := old b hb
        rw [upd_ne n2, layT_no n1]
      have ltH : ∀ b u, H1 b = some u → b < s1.heap.objs.size := fun b u e => (I1.hok b u e).lt
      have kp : ∀ b u, H1 b = some u → upd (layT H1 Ts (xs.zip ys)) h'.objs.size (.lst (Ts.map .ref)) b = some u := fun b u e => (same b (ltH b u e)).trans e
      refine ⟨.ref h'.objs.size, upd (layT H1 Ts (xs.zip ys)) h'.objs.size (.lst (Ts.map .ref)), I1.un ⟨fun b o e _ _ _ => hk3 b o e, fun b o e _ _ _ => ⟨o.slots, hk3 b o e⟩, fun b o e n _ => (same b (Heap.lt_size e)).trans n, fun b o e _ => ⟨o, hk3 b o e⟩,
        fun b xs e => kp b _ e, fun b o u e => kp b _ e, fun b ps e => ⟨#[], by rw [kp b _ e]; simp⟩⟩ (fun b u e => ?_), rfl, q Ts h'.objs.size hzl (freshT_of nd hzl fr) ((layT_no pn).trans pf)⟩
      by_cases hb : b = h'.objs.size
      · subst hb
        rw [upd_same] at e
        cases e
        refine ⟨by rw [List.length_map, hlen]; exact hn, acc.toList, c, ?_, hL⟩
        rw [hacc]
        clear hlen hp hTsz old nd hzl fr pn same kp hL hacc
        induction Ts with
        | nil => exact .nil
        | cons T r ih => exact .cons rfl ih
      · rw [upd_ne hb] at e
        by_cases hT : b ∈ Ts
        · obtain ⟨j, hj⟩ := List.mem_iff_getElem?.mp hT
          obtain ⟨pr, h1, h3⟩ := layT_at (H := H1) nd hzl hj
          rw [h3] at e
          cases e
          obtain ⟨_, v1, v2, t1, t2, t3⟩ := hp.2 j b hj
          obtain ⟨e1, e2⟩ := List.getElem?_zip_eq_some.mp h1
          exact ⟨by show 2 ≤ sizeLine; decide, [v1, v2], .cons (d1 j v1 _ t2 e1) (.cons (d2 j v2 _ t3 e2) .nil), ⟨_, t1, rfl, _, rfl⟩⟩
        · rw [layT_no hT] at e
          exact (I1.hok b u e).stay (fun c v _ e => hk3 c v e) (fun c e => kp c _ e) fun c xs e => kp c _ e
end ZG
set_option Elab.async false
set_option linter.all false
set_option maxRecDepth 100000
set_option maxHeartbeats 2000000
/-! D7: zip, ranges, dicts, in, ==. -/
namespace D
open PySem PySem.Spec PyProof.Rows L2 SlX ZG
section
variable {K : PySem.W.Frag} {cl : Cl} {W W1 : Wd} {H H1 : Hp} {h h' : Hs} {X : Cx} {pos : Pos} {e e2 : Expr} {ms : Exs} {ma : Ex}
/-! ### zip -/
/-- the source k is what t tells, wherever what it leans on stands -/
def SrcD (K : PySem.W.Frag) (cl : Cl) (k : SK) (t : Wlk) (W0 : Wd) (H0 : Hp) : Prop := ∃ G : Wd → Hp → Prop, G W0 H0 ∧ (∀ W H W' H', Ext W H W' H' → G W H → G W' H') ∧ (∀ W H W' H' D, Off W H W' H' D → G W H → G W' H') ∧
  ∀ W h H ds, G W H → HRel K cl W h H → t.all h = some ds → ∃ xs, k.its K H xs ∧ RVs K cl W H ds xs
theorem rvs_txt : ∀ s : List Nat, RVs K cl W H (s.map fun c => .str [c]) (s.map fun c => V.str ⟨#[c]⟩)
  | [] => .nil
  | c :: t => .cons (.str [c]) (rvs_txt t)
theorem src_of {d : DV} {x : V} {v : Value} {t : Wlk} (rel : HRel K cl W h H) (r : RV K cl W H d x) (rv : RelV x v) (e : itrAt d h = .ok t h') : h' = h ∧ ∃ k : SK, v = k.val ∧ SrcD K cl k t W H ∧ ∃ ds, t.all h = some ds := by
  cases r <;> first | (cases e; done) | skip
  · cases e
    obtain ⟨tk, rfl⟩ := rv
    rename_i s
    refine ⟨rfl, .txt (SX.S s) tk, rfl, ⟨fun _ _ => True, True.intro, fun _ _ _ _ _ _ => True.intro, fun _ _ _ _ _ _ _ => True.intro, fun W h H ds _ _ e => ?_⟩, _, rfl⟩
    cases e
    exact ⟨_, rfl, rvs_txt s⟩
  · rename_i n a dx hn
    cases (show v = Value.ref a from rv)
    have e' : (match h[n]? with
      | some (.lst _) => R.ok (Wlk.lst n) h
      | _ => R.stuck) = R.ok t h' := e
    cases q : h[n]? with
    | none => rw [q] at e'; cases e'
    | some u =>
      rw [q] at e'
      cases u <;> first | (cases e'; done) | skip
      cases e'
      rename_i ds
      refine ⟨rfl, .lst a, rfl, ⟨fun W H => W.ρ[n]? = some (a, dx), hn, fun _ _ _ _ e q => e.pre _ _ q, fun _ _ _ _ _ e q => e.pre _ _ q, fun W h H es q rel e => ?_⟩, ds, by show (match h[n]? with | some (.lst ds) => some ds | _ => none) = _; rw [q]⟩
      have e2 : (match h[n]? with | some (.lst ds) => some ds | _ => none) = some es := e
      cases z : h[n]? with
      | none => rw [z] at e2; cases e2
      | some u =>
        rw [z] at e2
        cases u <;> first | (cases e2; done) | skip
        cases e2
        obtain ⟨_, xs, h1, r⟩ := rel.ok n _ a dx z q
        exact ⟨xs, SqL.of h1, r⟩
  · cases e
    rename_i ds xs a f t
    cases (show v = Value.ref a from rv)
    refine ⟨rfl, .tup a, rfl, ⟨fun W H => FzT K W H a xs ∧ RVs K cl W H ds xs, ⟨f, t⟩, fun _ _ _ _ e q => ⟨q.1.mono e, q.2.mono e⟩, fun _ _ _ _ _ e q => ⟨q.1.off e, q.2.off e⟩, fun W h H es q _ e => ?_⟩, _, rfl⟩
    cases e
    exact ⟨xs, q.1.sq, q.2⟩
  · cases e
    rename_i ns a f
    cases (show v = Value.ref a from rv)
    refine ⟨rfl, .lst a, rfl, ⟨fun W H => FzL K W H a (ns.map V.int), f, fun _ _ _ _ e q => q.mono e, fun _ _ _ _ _ e q => q.off e, fun W h H es q _ e => ?_⟩, _, rfl⟩
    cases e
    exact ⟨_, q.sq, rvs_ints ns⟩
  · cases e
    rename_i ds xs a f t
    cases (show v = Value.ref a from rv)
    refine ⟨rfl, .lst a, rfl, ⟨fun W H => FzL K W H a xs ∧ RVs K cl W H ds xs, ⟨f, t⟩, fun _ _ _ _ e q => ⟨q.1.mono e, q.2.mono e⟩, fun _ _ _ _ _ e q => ⟨q.1.off e, q.2.off e⟩, fun W h H es q _ e => ?_⟩, _, rfl⟩
    cases e
    exact ⟨xs, q.1.sq, q.2⟩
theorem SK.inj' {k : SK} {H : Hp} {xs ys : List V} (x : k.its K H xs) (h : ∀ zs, k.its K H zs → zs = ys) : xs = ys := h xs x
theorem walk_zip {k1 k2 : SK} {t1 t2 : Wlk} (a : SrcD K cl k1 t1 W H) (b : SrcD K cl k2 t2 W H) : WalkD K cl (ItG K k1 k2) (.zip t1 t2) W H := by
  obtain ⟨G1, g1, x1, o1, r1⟩ := a
  obtain ⟨G2, g2, x2, o2, r2⟩ := b
  refine ⟨fun W H => G1 W H ∧ G2 W H, ⟨g1, g2⟩, fun _ _ _ _ e q => ⟨x1 _ _ _ _ e q.1, x2 _ _ _ _ e q.2⟩, fun _ _ _ _ _ e q => ⟨o1 _ _ _ _ _ e q.1, o2 _ _ _ _ _ e q.2⟩, fun W h H i ⟨p1, p2⟩ rel => ⟨fun d e => ?_, fun e => ?_⟩⟩
  · have e' : (match t1.all h, t2.all h with
      | some xs, some ys => (match xs[i]?, ys[i]? with
        | some x, some y => some (some (DV.tup [x, y]))
        | _, _ => if Nat.ble i xs.length && (Nat.ble i ys.length && (Nat.beq i xs.length || Nat.beq i ys.length)) then some none else none)
      | _, _ => none) = some (some d) := e
    cases q1 : t1.all h with
    | none => rw [q1] at e'; cases e'
    | some ds =>
      cases q2 : t2.all h with
      | none => rw [q1, q2] at e'; cases e'
      | some es =>
        rw [q1, q2] at e'
        have e' : (match ds[i]?, es[i]? with
          | some x, some y => some (some (DV.tup [x, y]))
          | _, _ => if Nat.ble i ds.length && (Nat.ble i es.length && (Nat.beq i ds.length || Nat.beq i es.length)) then some none else none) = some (some d) := e'
        obtain ⟨xs, hx, rx⟩ := r1 W h H ds p1 rel q1
        obtain ⟨ys, hy, ry⟩ := r2 W h H es p2 rel q2
        cases z1 : ds[i]? with
        | none =>
          rw [z1] at e'
          have e' : (if Nat.ble i ds.length && (Nat.ble i es.length && (Nat.beq i ds.length || Nat.beq i es.length)) then some none else none) = some (some d) := e'
          split at e' <;> cases e'
        | some u =>
          cases z2 : es[i]? with
          | none =>
            rw [z1, z2] at e'
            have e' : (if Nat.ble i ds.length && (Nat.ble i es.length && (Nat.beq i ds.length || Nat.beq i es.length)) then some none else none) = some (some d) := e'
            split at e' <;> cases e'
          | some v =>
            rw [z1, z2] at e'
            cases e'
            obtain ⟨x, hxi, rx'⟩ := rx.get z1
            obtain ⟨y, hyi, ry'⟩ := ry.get z2
            refine ⟨⟨xs, ys, x, y, hx, hy, hxi, hyi⟩, fun z H' ⟨T, x', y', e1, hT, e3, e4, e5⟩ => ?_⟩
            have a1 := e4 xs hx
            have a2 := e5 ys hy
            rw [hxi] at a1
            rw [hyi] at a2
            cases a1
            cases a2
            subst e1 e3
            exact ⟨W.fz T, ext_new hT rel, rfl, rel.new hT, rv_tup rel hT (.cons rx' (.cons ry' .nil))⟩
  · have e' : (match t1.all h, t2.all h with
      | some xs, some ys => (match xs[i]?, ys[i]? with
        | some x, some y => some (some (DV.tup [x, y]))
        | _, _ => if Nat.ble i xs.length && (Nat.ble i ys.length && (Nat.beq i xs.length || Nat.beq i ys.length)) then some none else none)
      | _, _ => none) = some none := e
    cases q1 : t1.all h with
    | none => rw [q1] at e'; cases e'
    | some ds =>
      cases q2 : t2.all h with
      | none => rw [q1, q2] at e'; cases e'
      | some es =>
        rw [q1, q2] at e'
        obtain ⟨xs, hx, rx⟩ := r1 W h H ds p1 rel q1
        obtain ⟨ys, hy, ry⟩ := r2 W h H es p2 rel q2
        have fin : (if Nat.ble i ds.length && (Nat.ble i es.length && (Nat.beq i ds.length || Nat.beq i es.length)) then some none else none) = some (none : Option DV) → (ItG K k1 k2).stop i H := fun e' => by
          split at e'
          · rename_i c
            rw [Bool.and_eq_true, Bool.and_eq_true, Bool.or_eq_true] at c
            obtain ⟨c1, c2, c3⟩ := c
            refine ⟨xs, ys, hx, hy, by rw [← rx.length]; exact Nat.le_of_ble_eq_true c1, by rw [← ry.length]; exact Nat.le_of_ble_eq_true c2, ?_⟩
            rw [← rx.length, ← ry.length]
            rcases c3 with c3 | c3
            · exact .inl (Nat.eq_of_beq_eq_true c3)
            · exact .inr (Nat.eq_of_beq_eq_true c3)
          · cases e'
        have e' : (match ds[i]?, es[i]? with
          | some x, some y => some (some (DV.tup [x, y]))
          | _, _ => if Nat.ble i ds.length && (Nat.ble i es.length && (Nat.beq i ds.length || Nat.beq i es.length)) then some none else none) = some none := e'
        cases z1 : ds[i]? with
        | none => rw [z1] at e'; exact fin e'
        | some u =>
          cases z2 : es[i]? with
          | none => rw [z1, z2] at e'; exact fin e'
          | some v => rw [z1, z2] at e'; cases e'
def zip2 (ds : List DV) : M Wlk := match ds with
  | [x, y] => bnd (itrAt x) fun a => bnd (itrAt y) fun b => ret (.zip a b)
  | _ => stk
theorem di_zip {p tpos : Pos} {elts : List Expr} {kk : Nat} (hg : Gl X "zip") (hm : X.mg "zip" = none) (ha : DA cl X [e, e2] ms)
    (hs : starEach [e, e2] X.env = (false, eval e X.env) :: starEach [e2] X.env := by rfl) (hpl : (backTo pos (starEach [e2] X.env)).any (·.1) = false := by rfl) :
    DI cl X (.Tuple elts kk tpos) (.Call (.Name "zip" p) [e, e2] [] pos) (iRg zip2 ms) := (pi_zipG hg hm ha hs hpl).mono fun σ H R q => by
  obtain ⟨W, h, sl, t, h', rel, rs, e, po⟩ := q
  obtain ⟨ds, h1, e1, e2⟩ := bnd_ok e
  refine ⟨W, h, sl, ds, h1, rel, rs, e1, fun W1 H1 vs ext rel1 rv => ?_⟩
  unfold zip2 at e2
  split at e2
  · obtain ⟨a, h2, e3, e4⟩ := bnd_ok e2
    obtain ⟨b, h3, e5, e6⟩ := bnd_ok e4
    obtain ⟨rfl, rfl⟩ := ret_ok e6
    obtain ⟨x, y, rfl, rx, ry⟩ := rv.two
    refine ⟨x, y, rfl, fun v u hv hu => ?_⟩
    obtain ⟨rfl, k1, rfl, s1, d1, a1⟩ := src_of rel1 rx hv e3
    obtain ⟨rfl, k2, rfl, s2, d2, a2⟩ := src_of rel1 ry hu e5
    have t1 := s1
    have t2 := s2
    obtain ⟨G1, g1, _, _, r1⟩ := s1
    obtain ⟨G2, g2, _, _, r2⟩ := s2
    obtain ⟨xs, hx, _⟩ := r1 _ _ _ _ g1 rel1 a1
    obtain ⟨ys, hy, _⟩ := r2 _ _ _ _ g2 rel1 a2
    exact ⟨k1, k2, xs, ys, rfl, rfl, hx, hy, po W1 H1 _ ext rel1 (walk_zip t1 t2)⟩
  · cases e2
/-- pairs laid one after the other -/
theorem lay_ok : ∀ {Ts : List Addr} {ds es : List DV} {xs ys : List V} {W : Wd} {H : Hp}, HRel K cl W h H → Ts.length = (xs.zip ys).length → FreshT H Ts (xs.zip ys) → RVs K cl W H ds xs → RVs K cl W H es ys →
    ∃ W', Ext W H W' (layT H Ts (xs.zip ys)) ∧ HRel K cl W' h (layT H Ts (xs.zip ys)) ∧ RVs K cl W' (layT H Ts (xs.zip ys)) ((ds.zip es).map fun p => .tup [p.1, p.2]) (Ts.map .ref)
  | Ts, _, _, _, _, W, H, rel, l, f, .nil, r2 => by
    cases Ts with
    | nil => exact ⟨W, .refl, rel, .nil⟩
    | cons T r => simp at l
  | Ts, _, _, _, _, W, H, rel, l, f, .cons a b, .nil => by
    cases Ts with
    | nil => exact ⟨W, .refl, rel, .nil⟩
    | cons T r => simp at l
  | Ts, _, _, _, _, W, H, rel, l, f, .cons a b, .cons a2 b2 => by
    cases Ts with
    | nil => simp at l
    | cons T r =>
      obtain ⟨W', i1, i2, i3⟩ := lay_ok (Ts := r) (rel.new f.1) (by simpa using l) f.2 (b.mono (ext_new f.1 rel)) (b2.mono (ext_new f.1 rel))
      exact ⟨W', (ext_new f.1 rel).trans i1, i2, .cons ((rv_tup rel f.1 (.cons a (.cons a2 .nil))).mono i1) i3⟩
def zipL : List DV → List DV → List DV
  | x :: xs, y :: ys => .tup [x, y] :: zipL xs ys
  | _, _ => []
theorem zipL_eq : ∀ ds es : List DV, (ds.zip es).map (fun p => DV.tup [p.1, p.2]) = zipL ds es
  | [], es => by cases es <;> rfl
  | d :: ds, [] => rfl
  | d :: ds, e :: es => congrArg (DV.tup [d, e] :: ·) (zipL_eq ds es)
def allM (t : Wlk) : M (List DV) := fun h => match t.all h with
  | some ds => .ok ds h
  | none => .stuck
theorem allM_ok {t : Wlk} {ds : List DV} (e : allM t h = .ok ds h') : h' = h ∧ t.all h = some ds := by
  unfold allM at e
  cases q : t.all h with
  | none => rw [q] at e; cases e
  | some u => rw [q] at e; cases e; exact ⟨rfl, rfl⟩
def lstZip (ds : List DV) : M DV := match ds with
  | [x, y] => bnd (itrAt x) fun a => bnd (itrAt y) fun b => bnd (allM a) fun xs => bnd (allM b) fun ys => if fits (min xs.length ys.length) then fun h => .ok (.ref h.length) (h ++ [.lst (zipL xs ys)]) else stk
  | _ => stk
theorem de_listZip {p p2 q : Pos} (hc : X.calm = true) (hg : Gl X "list") (hm : X.mg "list" = none) (hg2 : Gl X "zip") (hm2 : X.mg "zip" = none) (ha : DA cl X [e, e2] ms)
    (hs : starEach [e, e2] X.env = (false, eval e X.env) :: starEach [e2] X.env := by rfl) (hpl : (backTo q (starEach [e2] X.env)).any (·.1) = false := by rfl)
    (na : starEach [.Call (.Name "zip" p2) [e, e2] [] q] X.env = (false, eval (.Call (.Name "zip" p2) [e, e2] [] q) X.env) :: starEach [] X.env := by rfl) :
    DE cl X (.Call (.Name "list" p) [.Call (.Name "zip" p2) [e, e2] [] q] [] pos) (eCall lstZip ms) := (pe_listZip hc hg hm hg2 hm2 ha hs hpl na).mono fun σ H Q z => by
  obtain ⟨W, h, sl, v, h', rel, rs, e, po⟩ := z
  obtain ⟨ds, h1, e1, e2⟩ := bnd_ok e
  refine ⟨W, h, sl, ds, h1, rel, rs, e1, fun W1 H1 vs ext rel1 rv => ?_⟩
  unfold lstZip at e2
  split at e2
  · obtain ⟨a, h2, e3, e4⟩ := bnd_ok e2
    obtain ⟨b, h3, e5, e6⟩ := bnd_ok e4
    obtain ⟨d1, h4, e7, e8⟩ := bnd_ok e6
    obtain ⟨d2, h5, e9, e10⟩ := bnd_ok e8
    obtain ⟨rfl, a1⟩ := allM_ok e7
    obtain ⟨rfl, a2⟩ := allM_ok e9
    obtain ⟨zf, e10⟩ := fit_if e10
    cases e10
    obtain ⟨x, y, rfl, rx, ry⟩ := rv.two
    refine ⟨x, y, rfl, fun v u hv hu => ?_⟩
    obtain ⟨rfl, k1, rfl, s1, _⟩ := src_of rel1 rx hv e3
    obtain ⟨rfl, k2, rfl, s2, _⟩ := src_of rel1 ry hu e5
    obtain ⟨G1, g1, _, _, r1⟩ := s1
    obtain ⟨G2, g2, _, _, r2⟩ := s2
    obtain ⟨xs, hx, qx⟩ := r1 _ _ _ _ g1 rel1 a1
    obtain ⟨ys, hy, qy⟩ := r2 _ _ _ _ g2 rel1 a2
    refine ⟨k1, k2, xs, ys, rfl, rfl, hx, hy, by rw [← qx.length, ← qy.length]; exact zf, fun Ts p hl hf hp => ?_⟩
    obtain ⟨W2, ex, rel2, rt⟩ := lay_ok rel1 hl hf qx qy
    rw [zipL_eq] at rt
    exact po_lst (po.go (ext.trans ex)) rel2 rt p hp
  · cases e2
/-! ### list(range(..)) -/
theorem rgV_eq {i : Int} {n : Nat} : RVs K cl W H (rangeV i n) ((List.range n).map fun j => V.int (i + (j : Nat))) := by
  unfold rangeV
  induction n with
  | zero => exact .nil
  | succ n ih =>
    rw [List.range_succ, List.map_append, List.map_append]
    exact ih.append (.cons (.int _) .nil)
def lstRg1 (d : DV) : M DV := match d with
  | .int j => if small j then (if fits j.toNat then fun h => .ok (.ref h.length) (h ++ [.lst (rangeV 0 j.toNat)]) else stk) else stk
  | _ => stk
theorem de_listRg1 {a : Expr} {p p2 q : Pos} (hc : X.calm = true) (hg : Gl X "list") (hm : X.mg "list" = none) (hg2 : Gl X "range") (hm2 : X.mg "range" = none) (ha : DE cl X a ma)
    (na : starEach [a] X.env = (false, eval a X.env) :: starEach [] X.env := by rfl) (nb : starEach [.Call (.Name "range" p2) [a] [] q] X.env = (false, eval (.Call (.Name "range" p2) [a] [] q) X.env) :: starEach [] X.env := by rfl) :
    DE cl X (.Call (.Name "list" p) [.Call (.Name "range" p2) [a] [] q] [] pos) (eUn lstRg1 ma) := (pe_listRg hc hg hm (prg_1 hg2 hm2 ha na) nb).mono fun σ H Q z => by
  obtain ⟨W, h, sl, v, h', rel, rs, e, po⟩ := z
  obtain ⟨d, h1, e1, e2⟩ := bnd_ok e
  refine ⟨W, h, sl, d, h1, rel, rs, e1, fun W1 H1 x ext rel1 rv => ?_⟩
  unfold lstRg1 at e2
  split at e2
  · rename_i j
    obtain ⟨z, e2⟩ := if_ok e2
    obtain ⟨z2, e2⟩ := fit_if e2
    cases e2
    have sm := small_ok z
    rw [sizeLine_eq] at z2
    cases rv with
    | int _ =>
      refine ⟨j, rfl, ⟨by omega, by omega, sm.1, sm.2, by rw [Int.sub_zero]; omega⟩, fun p hp => ?_⟩
      have e : rgV 0 j = (List.range j.toNat).map fun i => V.int (0 + (i : Nat)) := by
        unfold rgV
        rw [Int.sub_zero]
      rw [e]
      exact po_lst (po.go ext) rel1 rgV_eq p hp
  · cases e2
def lstRg2 (ds : List DV) : M DV := match ds with
  | [.int i, .int j] => if small i && small j then (if fits (j - i).toNat then fun h => .ok (.ref h.length) (h ++ [.lst (rangeV i (j - i).toNat)]) else stk) else stk
  | _ => stk
/-! ### == of flat values -/
def eqD (x y : DV) : M DV := optV (eqF x y) .bl
theorem o_eq : O2 cl X (compareOp .Eq) eqD := by
  intro pins s σ H x y v u Q I rx ry q
  obtain ⟨W, h, d1, d2, v', h', rel, r1, r2, e, po⟩ := q
  obtain ⟨b, e1, rfl, rfl⟩ := optV_ok e
  obtain ⟨z1, z2⟩ := eqF_ok r1 r2 e1
  exact op_eq pins s σ H x y v u Q I rx ry ⟨z1, by rw [z2]; exact po.now rel (.bl _)⟩
def neD (x y : DV) : M DV := optV (eqF x y) fun b => .bl !b
theorem o_ne : O2 cl X (compareOp .NotEq) neD := by
  intro pins s σ H x y v u Q I rx ry q
  obtain ⟨W, h, d1, d2, v', h', rel, r1, r2, e, po⟩ := q
  obtain ⟨b, e1, rfl, rfl⟩ := optV_ok e
  obtain ⟨z1, z2⟩ := eqF_ok r1 r2 e1
  exact op_ne pins s σ H x y v u Q I rx ry ⟨z1, by rw [z2]; exact po.now rel (.bl _)⟩
/-! ### in: a sign in a text; a flat value in a list, a tuple of such -/
def memN (c : Nat) : List Nat → Bool
  | [] => false
  | d :: t => Nat.beq c d || memN c t
theorem memN_eq (c : Nat) : ∀ l : List Nat, memN c l = decide (c ∈ l)
  | [] => by simp [memN]
  | d :: t => by
    show (Nat.beq c d || memN c t) = _
    rw [memN_eq c t]
    cases q : Nat.beq c d with
    | true => simp [Nat.eq_of_beq_eq_true q]
    | false =>
      have : c ≠ d := fun z => by rw [z, Nat.beq_refl] at q; cases q
      simp [this]
def flatD : DV → Bool
  | .non => true
  | .bl _ => true
  | .int _ => true
  | .str _ => true
  | _ => false
def eqvD : DV → DV → Bool
  | .non, .non => true
  | .bl a, .bl b => a == b
  | .bl a, .int b => decide ((if a then 1 else 0) = b)
  | .int a, .bl b => decide (a = (if b then 1 else 0))
  | .int a, .int b => decide (a = b)
  | .str a, .str b => eqS a b
  | _, _ => false
theorem eqvD_ok {d1 d2 : DV} {x y : V} (r1 : RV K cl W H d1 x) (r2 : RV K cl W H d2 y) (f1 : flatD d1 = true) (f2 : flatD d2 = true) : eqV x y = eqvD d1 d2 ∧ flatV x = true ∧ flatV y = true := by
  cases r1 <;> first | (cases f1; done) | skip
  all_goals (cases r2 <;> first | (cases f2; done) | skip)
  all_goals (refine ⟨?_, rfl, rfl⟩)
  all_goals first
    | rfl
    | (show (SX.S _ == SX.S _) = eqS _ _
       rw [SX.S_beq, eqS_iff, Bool.eq_iff_iff, beq_iff_eq, decide_eq_true_eq])
    | (show (_ == _) = decide _
       rw [Bool.eq_iff_iff, beq_iff_eq, decide_eq_true_eq])
theorem inV_ok {d : DV} {x : V} (r : RV K cl W H d x) (f : flatD d = true) : ∀ {ds : List DV} {xs : List V}, RVs K cl W H ds xs → ds.all flatD = true → inV x xs = ds.any (fun e => eqvD e d) ∧ xs.all flatV = true
  | _, _, .nil, _ => ⟨rfl, rfl⟩
  | _, _, .cons a b, g => by
    rename_i e ds y xs
    obtain ⟨g1, g2⟩ := Bool.and_eq_true_iff.mp (List.all_cons ▸ g)
    obtain ⟨i1, i2⟩ := inV_ok r f b g2
    obtain ⟨j1, j2, j3⟩ := eqvD_ok a r g1 f
    refine ⟨?_, ?_⟩
    · show (eqV y x || inV x xs) = (eqvD e d || ds.any fun e => eqvD e d)
      rw [i1, j1]
    · rw [List.all_cons, j2, i2]; rfl
def inD (x y : DV) : M DV := match y with
  | .str t => match x with
    | .str [c] => ret (.bl (memN c t))
    | _ => stk
  | d => bnd (itsD d) fun xs => if flatD x && xs.all flatD then ret (.bl (xs.any fun e => eqvD e x)) else stk
theorem o_in : O2 cl X (compareOp .In) inD := by
  intro pins s σ H x y v u Q I rx ry q
  obtain ⟨W, h, d1, d2, v', h', rel, r1, r2, e, po⟩ := q
  unfold inD at e
  split at e
  · split at e
    · cases r1
      cases r2
      cases e
      refine op_in_sign pins s σ H _ _ v u Q I rx ry ⟨_, _, rfl, rfl, ?_⟩
      rw [D.S_tl, ← memN_eq]
      exact po.now rel (.bl _)
    · cases e
  · obtain ⟨ls, h1, e1, e2⟩ := bnd_ok e
    obtain ⟨rfl, a, xs, rfl, sq, rxs⟩ := itsD_ok rel r2 e1
    obtain ⟨z, e2⟩ := if_ok e2
    obtain ⟨z1, z2⟩ := Bool.and_eq_true_iff.mp z
    cases e2
    obtain ⟨i1, i2⟩ := inV_ok r1 z1 rxs z2
    have fx : flatV x = true := by
      cases r1 <;> first | (cases z1; done) | rfl
    exact op_in_seq pins s σ H _ _ v u Q I rx ry ⟨a, xs, rfl, sq, fx, i2, by rw [if_neg (by decide), i1]; exact po.now rel (.bl _)⟩
def ninD (x y : DV) : M DV := notD inD x y
theorem o_nin : O2 cl X (compareOp .NotIn) (notD inD) := by
  intro pins s σ H x y v u Q I rx ry q
  obtain ⟨W, h, d1, d2, v', h', rel, r1, r2, e, po⟩ := q
  obtain ⟨w, h1, e0, e9⟩ := bnd_ok e
  unfold inD at e0
  split at e0
  · split at e0
    · cases r1
      cases r2
      cases e0
      cases e9
      refine op_notIn_sign pins s σ H _ _ v u Q I rx ry ⟨_, _, rfl, rfl, ?_⟩
      rw [D.S_tl, ← memN_eq]
      exact po.now rel (.bl _)
    · cases e0
  · obtain ⟨ls, h1, e1, e2⟩ := bnd_ok e0
    obtain ⟨rfl, a, xs, rfl, sq, rxs⟩ := itsD_ok rel r2 e1
    obtain ⟨z, e2⟩ := if_ok e2
    obtain ⟨z1, z2⟩ := Bool.and_eq_true_iff.mp z
    cases e2
    cases e9
    obtain ⟨i1, i2⟩ := inV_ok r1 z1 rxs z2
    have fx : flatV x = true := by
      cases r1 <;> first | (cases z1; done) | rfl
    exact op_notIn_seq pins s σ H _ _ v u Q I rx ry ⟨a, xs, rfl, sq, fx, i2, by rw [if_pos rfl, i1]; exact po.now rel (.bl _)⟩
end
end D
set_option Elab.async false
set_option linter.all false
set_option maxRecDepth 100000
set_option maxHeartbeats 2000000
/-! D8: dicts, written dicts, texts times numbers, isinstance, globals. -/
namespace D
open PySem PySem.Spec PyProof.Rows L2 SlX ZG
section
variable {K : PySem.W.Frag} {cl : Cl} {W W1 : Wd} {H H1 : Hp} {h h' : Hs} {X : Cx} {pos : Pos} {e e2 : Expr} {ms : Exs} {ma mb mo : Ex}
/-! ### dicts -/
def keyEq : DV → DV → Bool
  | .int i, .int j => decide (i = j)
  | .str s, .str t => eqS s t
  | _, _ => false
def isKey : DV → Bool
  | .int _ => true
  | .str _ => true
  | _ => false
theorem keyEq_ok {d e : DV} {k l : Key} (a : RK d k) (b : RK e l) : decide (k = l) = keyEq d e := by
  cases d <;> first | exact a.elim | skip
  all_goals (cases e <;> first | exact b.elim | skip)
  all_goals (have a := a; have b := b; unfold RK at a b; subst a b)
  · rename_i i j
    show decide (Sum.inl i = (Sum.inl j : Key)) = decide (i = j)
    by_cases z : i = j
    · subst z; simp
    · simp [z]
  · show decide (Sum.inl _ = (Sum.inr _ : Key)) = false
    simp
  · show decide (Sum.inr _ = (Sum.inl _ : Key)) = false
    simp
  · rename_i s t
    show decide (Sum.inr (SX.S s) = (Sum.inr (SX.S t) : Key)) = eqS s t
    rw [eqS_iff]
    by_cases z : s = t
    · subst z; simp
    · have : ¬ (Sum.inr (SX.S s) = (Sum.inr (SX.S t) : Key)) := fun q => by
        injection q with q
        exact z (SX.S_inj q)
      simp [z, this]
theorem rk_of {d : DV} {x : V} (r : RV K cl W H d x) (f : isKey d = true) : ∃ k, RK d k ∧ x = kV k := by
  cases r <;> first | (cases f; done) | skip
  · exact ⟨.inl _, rfl, rfl⟩
  · exact ⟨.inr _, rfl, rfl⟩
def putKD (kvs : List (DV × DV)) (k v : DV) : List (DV × DV) := if kvs.any (fun kv => keyEq kv.1 k) then kvs.map (fun kv => if keyEq kv.1 k then (kv.1, v) else kv) else kvs ++ [(k, v)]
theorem rkv_any {ds : List (DV × DV)} {xs : List (Key × V)} {d : DV} {k : Key} (r : RKV K cl W H ds xs) (a : RK d k) : (xs.any fun kv => decide (kv.1 = k)) = ds.any fun kv => keyEq kv.1 d := by
  induction r with
  | nil => rfl
  | cons b c t ih => rw [List.any_cons, List.any_cons, ih, keyEq_ok b a]
theorem RKV.append {ds es : List (DV × DV)} {xs ys : List (Key × V)} (r : RKV K cl W H ds xs) (t : RKV K cl W H es ys) : RKV K cl W H (ds ++ es) (xs ++ ys) := by
  induction r with
  | nil => exact t
  | cons b c _ ih => exact .cons b c ih
theorem RKV.put {ds : List (DV × DV)} {xs : List (Key × V)} {d e : DV} {k : Key} {x : V} (r : RKV K cl W H ds xs) (a : RK d k) (rx : RV K cl W H e x) : RKV K cl W H (putKD ds d e) (putK xs k x) := by
  unfold putKD putK
  rw [rkv_any r a]
  cases ds.any (fun kv => keyEq kv.1 d) with
  | false => exact r.append (.cons a rx .nil)
  | true =>
    rw [if_pos rfl, if_pos rfl]
    induction r with
    | nil => exact .nil
    | cons b c t ih =>
      rename_i d0 e0 k0 x0 ds0 xs0
      rw [List.map_cons, List.map_cons]
      have q := keyEq_ok b a
      by_cases z : k0 = k
      · have q2 : keyEq d0 d = true := by rw [← q]; exact decide_eq_true z
        rw [if_pos z, if_pos q2]
        exact .cons b rx ih
      · have q2 : ¬ keyEq d0 d = true := by rw [← q]; simp [z]
        rw [if_neg z, if_neg q2]
        exact .cons b c ih
def lookKD (kvs : List (DV × DV)) (k : DV) : Option DV := match kvs with
  | [] => none
  | kv :: t => if keyEq kv.1 k then some kv.2 else lookKD t k
theorem RKV.look {ds : List (DV × DV)} {xs : List (Key × V)} {d : DV} {k : Key} (r : RKV K cl W H ds xs) (a : RK d k) : (lookKD ds d = none ∧ valV xs k = none) ∨ ∃ e x, lookKD ds d = some e ∧ valV xs k = some x ∧ RV K cl W H e x := by
  induction r with
  | nil => exact .inl ⟨rfl, rfl⟩
  | cons b c t ih =>
    rename_i d0 e0 k0 x0 ds0 xs0
    have q := keyEq_ok b a
    show (((if keyEq d0 d then some e0 else lookKD ds0 d) = none ∧ valV ((k0, x0) :: xs0) k = none) ∨ _)
    by_cases z : k0 = k
    · have q2 : keyEq d0 d = true := by rw [← q]; exact decide_eq_true z
      refine .inr ⟨e0, x0, ?_, ?_, c⟩
      · show (if keyEq d0 d then some e0 else lookKD ds0 d) = some e0
        rw [if_pos q2]
      · unfold valV
        rw [List.find?_cons_of_pos (by simp [z])]
        rfl
    · have q2 : ¬ keyEq d0 d = true := by rw [← q]; simp [z]
      have e1 : valV ((k0, x0) :: xs0) k = valV xs0 k := by
        unfold valV
        rw [List.find?_cons_of_neg (by simp [z])]
      have e2 : lookKD ((d0, e0) :: ds0) d = lookKD ds0 d := by
        show (if keyEq d0 d then some e0 else lookKD ds0 d) = _
        rw [if_neg q2]
      rw [e1, if_neg q2]
      rcases ih with ih | ⟨e', x', h1, h2, h3⟩
      · exact .inl ih
      · exact .inr ⟨e', x', by rw [e2]; exact h1, h2, h3⟩
def dicAt (d : DV) : M (List (DV × DV)) := fun h => match d with
  | .ref n => (match h[n]? with
    | some (.dic ks) => .ok ks h
    | _ => .stuck)
  | _ => .stuck
theorem dicAt_ok {d : DV} {x : V} {ks : List (DV × DV)} (rel : HRel K cl W h H) (r : RV K cl W H d x) (e : dicAt d h = .ok ks h') : h' = h ∧ ∃ a xs, x = .ref a ∧ H a = some (.dK xs) ∧ RKV K cl W H ks xs := by
  unfold dicAt at e
  cases r <;> first | (cases e; done) | skip
  rename_i n a dx hn
  have e : (match h[n]? with
    | some (.dic ks) => R.ok ks h
    | _ => R.stuck) = R.ok ks h' := e
  cases q : h[n]? with
  | none => rw [q] at e; cases e
  | some u =>
    rw [q] at e
    cases u <;> first | (cases e; done) | skip
    cases e
    obtain ⟨_, xs, hx, rx⟩ := rel.ok n _ a dx q hn
    exact ⟨rfl, a, xs, rfl, hx, rx⟩
/-- d.get(k, z) -/
def eGet2 (mo mk mz : Ex) : Ex := fun sl => bnd (mo sl) fun d => bnd (dicAt d) fun _ => bnd (mk sl) fun k => bnd (mz sl) fun z => bnd (dicAt d) fun ks => if isKey k then ret ((lookKD ks k).getD z) else stk
variable {o k z : Expr} {mk mz : Ex} {apos : Pos}
theorem de_get2 {j : Nat} (hr : Room j X.A) (ho : DE cl X o mo) (hk : DE cl X k mk) (hz : DE cl X z mz) (m : M2 X o "get" apos k z pos) : DE cl X (.Call (.Attribute o "get" apos) [k, z] [] pos) (eGet2 mo mk mz) :=
  (pe_dget2 (by have := hr.un; omega) ho hk hz m).mono fun σ H Q q => by
  obtain ⟨W, h, sl, v, h', rel, rs, e, po⟩ := q
  obtain ⟨d, h1, e1, e2⟩ := bnd_ok e
  obtain ⟨ks0, h2, e3, e4⟩ := bnd_ok e2
  obtain ⟨kd, h3, e5, e6⟩ := bnd_ok e4
  obtain ⟨zd, h4, e7, e8⟩ := bnd_ok e6
  obtain ⟨ks, h5, e9, e10⟩ := bnd_ok e8
  obtain ⟨zk, e10⟩ := if_ok e10
  obtain ⟨rfl, rfl⟩ := ret_ok e10
  refine ⟨W, h, sl, d, h1, rel, rs, e1, fun W1 H1 x ext1 rel1 rv1 => ?_⟩
  obtain ⟨rfl, a, xs0, rfl, hx0, rx0⟩ := dicAt_ok rel1 rv1 e3
  refine ⟨a, rfl, .inl ⟨xs0, Rd.of hx0⟩, W1, _, sl, kd, h3, rel1, rs.mono ext1, e5, fun W2 H2 y ext2 rel2 rvk => ⟨W2, h3, sl, zd, h4, rel2, (rs.mono ext1).mono ext2, e7, fun W3 H3 w ext3 rel3 rvz => ?_⟩⟩
  obtain ⟨rfl, a', xs, ea, hx, rx⟩ := dicAt_ok rel3 ((rv1.mono ext2).mono ext3) e9
  cases ea
  obtain ⟨key, rk, rfl⟩ := rk_of (rvk.mono ext3) zk
  refine ⟨valV xs key, .inl ⟨xs, key, Rd.of hx, rfl, rfl⟩, ?_⟩
  rcases rx.look rk with ⟨l1, l2⟩ | ⟨e', x', l1, l2, l3⟩
  · rw [l2]
    rw [l1] at po
    exact po W3 H3 w ((ext1.trans ext2).trans ext3) rel3 rvz
  · rw [l2]
    rw [l1] at po
    exact po W3 H3 x' ((ext1.trans ext2).trans ext3) rel3 l3
/-- dict(pairs) -/
def pairsD : List DV → Option (List (DV × DV))
  | [] => some []
  | .tup [k, v] :: t => if isKey k then (pairsD t).map ((k, v) :: ·) else none
  | _ => none
def mergeD (ks : List (DV × DV)) : List (DV × DV) → List (DV × DV)
  | [] => ks
  | p :: t => mergeD (putKD ks p.1 p.2) t
theorem pairsD_ok : ∀ {ds : List DV} {ps : List (DV × DV)} {xs : List V}, pairsD ds = some ps → RVs K cl W H ds xs → ∃ (as : List Addr) (kvs : List (Key × V)), xs = as.map V.ref ∧ Paired (fun p kv => SqT K H p [kV kv.1, kv.2]) as kvs ∧ RKV K cl W H ps kvs
  | [], ps, xs, e, r => by cases e; cases r; exact ⟨[], [], rfl, .nil, .nil⟩
  | d :: t, ps, xs, e, r => by
    cases r with
    | cons r1 r2 =>
      unfold pairsD at e
      split at e
      · rename_i q; cases q
      · rename_i k v t' q
        cases q
        split at e
        · rename_i zk
          obtain ⟨qs, e1, e2⟩ := Option.map_eq_some_iff.mp e
          subst e2
          obtain ⟨as, kvs, rfl, p1, p2⟩ := pairsD_ok e1 r2
          cases r1 with
          | tup f rr =>
            obtain ⟨x, y, rfl, rk, ry⟩ := rr.two
            obtain ⟨key, k1, rfl⟩ := rk_of rk zk
            exact ⟨_ :: as, (key, y) :: kvs, rfl, .cons f.sq p1, .cons k1 ry p2⟩
        · cases e
      · cases e
theorem merge_ok {ps ks : List (DV × DV)} {kvs xs : List (Key × V)} (a : RKV K cl W H ks xs) (r : RKV K cl W H ps kvs) : RKV K cl W H (mergeD ks ps) (mergeK xs kvs) := by
  induction r generalizing ks xs with
  | nil => exact a
  | cons b c t ih => exact ih (a.put b c)
def dictD : List DV → M DV := lsOf fun ls => match pairsD ls with
  | some ps => fun h => .ok (.ref h.length) (h ++ [.dic (mergeD [] ps)])
  | none => stk
theorem po_dic {ks : List (DV × DV)} {xs : List (Key × V)} {Q : VK} (po : Po K cl W H (h ++ [.dic ks]) (.ref h.length) Q) (rel : HRel K cl W h H) (r : RKV K cl W H ks xs) (p : Addr) (hp : H p = none) : Q (.ref p) (upd H p (.dK xs)) := by
  have e := ext_add (o := .dK xs) hp rel
  refine po _ _ _ e (rel.add hp (fun _ _ z => by cases z) ⟨fun q => ?_, xs, upd_same, r.mono e⟩) (.ref (d := p) ?_)
  · obtain ⟨u, hu⟩ := rel.tr p q
    rw [hp] at hu; cases hu
  · show (W.ρ ++ [(p, p)])[h.length]? = some (p, p)
    rw [rel.len]; simp
theorem c_dict (hc : X.calm = true) : CD cl X (.type "dict") dictD := by
  intro pins s σ H xs us Q I rv q
  obtain ⟨W, h, ds, v', h', rel, r, e, po⟩ := q
  obtain ⟨a, ls, ys, rfl, ha, ry, e⟩ := lsOf_ok rel r e
  cases z : pairsD ls with
  | none => rw [z] at e; cases e
  | some ps =>
    rw [z] at e
    cases e
    obtain ⟨as, kvs, rfl, p1, p2⟩ := pairsD_ok z ry
    exact call_dictP hc pins s σ H _ us Q I rv ⟨a, as, kvs, rfl, ha, p1, fun p hp => po_dic po rel (merge_ok .nil p2) p hp⟩
/-! ### written dicts: texts to texts -/
def lookT : List (List Nat × List Nat) → List Nat → Option (List Nat)
  | [], _ => none
  | p :: t, s => if eqS p.1 s then some p.2 else lookT t s
structure KTab (K : PySem.W.Frag) (w : World) (d : Addr) (tab : List (List Nat × List Nat)) : Prop where
  kd : ∃ es n, KDict K w d es n
  look : ∀ s, ∃ r, PySem.W.nsIn K d (SX.S s) = some r ∧ ((lookT tab s = none ∧ r = none) ∨ ∃ t tok, lookT tab s = some t ∧ r = some (.str (SX.S t) tok))
def eKdIn (tab : List (List Nat × List Nat)) (m : Ex) : Ex := fun sl => bnd (m sl) fun d => match d with
  | .str s => ret (.bl (lookT tab s).isSome)
  | _ => stk
theorem de_kdin {x : Str} {p : Pos} {d : Addr} {tab : List (List Nat × List Nat)} (T : KTab X.K X.w d tab) (hg : Gl X x) (hm : X.mg x = some (.ref d)) (hk : DE cl X k mk) (hd : (x == ("__debug__" : Str)) = false := by decide) (hb : behindInMarks .In (.Name x p) = false := by rfl) :
    DE cl X (.Compare k [.In] [.Name x p] pos) (eKdIn tab mk) := by
  obtain ⟨es, n, D⟩ := T.kd
  refine (pe_cmpR (op_in_kd D) hk (pe_glob hg hm (show RelV (.ref d) (.ref d) from rfl) hd) hb).mono fun σ H Q q => ?_
  obtain ⟨W, h, sl, v, h', rel, rs, e, po⟩ := q
  obtain ⟨kd, h1, e1, e2⟩ := bnd_ok e
  refine ⟨W, h, sl, kd, h1, rel, rs, e1, fun W1 H1 y ext rel1 rv => ?_⟩
  split at e2
  · cases e2
    cases rv
    rename_i s
    obtain ⟨r, h1, h2⟩ := T.look s
    refine ⟨SX.S s, r, rfl, rfl, h1, ?_⟩
    have : r.isSome = (lookT tab s).isSome := by
      rcases h2 with ⟨a, b⟩ | ⟨t, tok, a, b⟩ <;> rw [a, b] <;> rfl
    rw [this]
    exact po W1 H1 _ ext rel1 (.bl _)
  · cases e2
def eKdGet2 (tab : List (List Nat × List Nat)) (mk mz : Ex) : Ex := fun sl => bnd (mk sl) fun k => bnd (mz sl) fun z => match k with
  | .str s => (match lookT tab s with
    | some t => ret (.str t)
    | none => ret z)
  | _ => stk
theorem de_kdget2 {x : Str} {p : Pos} {d : Addr} {tab : List (List Nat × List Nat)} (T : KTab X.K X.w d tab) (hg : Gl X x) (hm : X.mg x = some (.ref d)) (hk : DE cl X k mk) (hz : DE cl X z mz) (m : M2 X (.Name x p) "get" apos k z pos) (hd : (x == ("__debug__" : Str)) = false := by decide) :
    DE cl X (.Call (.Attribute (.Name x p) "get" apos) [k, z] [] pos) (eKdGet2 tab mk mz) := by
  obtain ⟨es, n, D⟩ := T.kd
  refine ⟨fun pins s σ H Q I q => ?_⟩
  obtain ⟨W, h, sl, v, h', rel, rs, e, po⟩ := q
  obtain ⟨kd, h1, e1, e2⟩ := bnd_ok e
  obtain ⟨zd, h2, e3, e4⟩ := bnd_ok e2
  have ho : PE X (.Name x p) (tC (.ref d)) := pe_glob hg hm (show RelV (.ref d) (.ref d) from rfl) hd
  refine wpAny_Call_method m.base m.few m.line PySem.F.plainAttrs_dict PySem.F.slot_dict_get PySem.F.type_dict_get (thn (ho.run pins s σ H (fun x H1 => x = .ref d ∧ H1 = H) I ⟨rfl, rfl⟩) fun u s1 ⟨x1, H1, I1, rx, ex, eH⟩ => ?_)
  subst ex eH
  obtain rfl : u = Value.ref d := rx
  have ty := kd_type D I1
  obtain ⟨od, hod, hcd⟩ := ty
  refine ⟨⟨od, hod, hcd⟩, ?_, ?_⟩
  · intro b q
    cases q
    obtain ⟨ob, _, _, h1, h2, _⟩ := PySem.W.mapOf_K (prog := X.prog) (w := X.w) I1.kIn D.at_ D.lit
    exact ⟨ob, h1, h2.2.1⟩
  rw [m.trees]
  refine Calls.callWith_builtin rfl (Calls.evalArgs_plain (Calls.spliced_cons (thn (hk.run pins s1 σ H1 (fun y H2 => ∃ W2, Ext W H1 W2 H2 ∧ HRel X.K cl W2 h1 H2 ∧ RV X.K cl W2 H2 kd y) I1 ⟨W, h, sl, kd, h1, rel, rs, e1, fun W2 H2 y ex r2 rv => ⟨W2, ex, r2, rv⟩⟩) fun iv s2 ⟨y, H2, I2, ry, W2, ext2, rel2, rvk⟩ =>
    Calls.spliced_cons (thn (hz.run pins s2 σ H2 (fun w H3 => ∃ W3, Ext W2 H2 W3 H3 ∧ HRel X.K cl W3 h2 H3 ∧ RV X.K cl W3 H3 zd w) I2 ⟨W2, h1, sl, zd, h2, rel2, rs.mono ext2, e3, fun W3 H3 w ex r3 rv => ⟨W3, ex, r3, rv⟩⟩) fun fv s3 ⟨w, H3, I3, rz, W3, ext3, rel3, rvz⟩ => Calls.spliced_nil ?_))))
  split at e4
  · cases rvk
    obtain ⟨tk, rfl⟩ := ry
    have md := PySem.W.mapOf_K (prog := X.prog) (w := X.w) I3.kIn D.at_ D.lit
    obtain ⟨r, l1, l2⟩ := T.look _
    refine call_meetsIn PySem.F.slot_dict_get (kd_type D I3) PySem.F.entry_dict_get (PySem.F.args_dict_get_3 _ _ _) (meets_dict_get_default (PySem.strKind X.prog X.w) d (PySem.strKind_is X.prog X.w _ tk) D.low fv) ⟨_, md, ?_⟩
    rw [PySem.W.find_K D.at_ l1]
    rcases l2 with ⟨a, b⟩ | ⟨t, tok, a, b⟩
    · rw [a] at e4
      cases e4
      subst b
      exact ⟨w, H3, I3.tok _, rz, po W3 H3 w (ext2.trans ext3) rel3 rvz⟩
    · rw [a] at e4
      cases e4
      subst b
      exact ⟨.str (SX.S t), H3, I3.tok _, ⟨tok, rfl⟩, po W3 H3 _ (ext2.trans ext3) rel3 (.str t)⟩
  · cases e4
/-! ### a text so many times -/
def repD (x y : DV) : M DV := match x, y with
  | .str s, .int i => if Nat.ble s.length 16 && Nat.ble i.natAbs 1048576 then ret (.str (repS i.toNat s)) else stk
  | a, b => mulD a b
theorem fold_cat (x : Array Nat) : ∀ (n : Nat) (acc : Array Nat), (List.replicate n x).foldl (· ++ ·) acc = acc ++ ((List.replicate n x.toList).flatten).toArray
  | 0, acc => by simp
  | n + 1, acc => by
    rw [List.replicate_succ, List.foldl_cons, fold_cat x n, List.replicate_succ, List.flatten_cons]
    apply Array.ext'
    simp
theorem mul_S (s : List Nat) (i : Int) : Txt.mul (SX.S s) i = SX.S (repS i.toNat s) := by
  unfold Txt.mul
  split
  · rename_i q
    have : i.toNat = 0 := by omega
    rw [this]; rfl
  · rename_i q
    split
    · rename_i c
      rw [Bool.or_eq_true] at c
      rcases c with c | c
      · have : i = 1 := by simpa using c
        subst this
        show SX.S s = SX.S ([s].flatten)
        simp
      · have : s = [] := by
          have c : (SX.S s).length == 0 := c
          rw [SX.S_len] at c
          simpa using c
        subst this
        have : repS i.toNat [] = [] := by unfold repS; simp
        rw [this]
    · rw [show (SX.S s).cps = s.toArray from rfl, fold_cat]
      unfold repS SX.S
      simp
theorem o_rep : O2 cl X (binaryOp .Mult) repD := by
  intro pins s σ H x y v u Q I rx ry q
  obtain ⟨W, h, d1, d2, v', h', rel, r1, r2, e, po⟩ := q
  unfold repD at e
  split at e
  · obtain ⟨z, e⟩ := if_ok e
    obtain ⟨z1, z2⟩ := Bool.and_eq_true_iff.mp z
    have z1 := Nat.le_of_ble_eq_true z1
    have z2 := Nat.le_of_ble_eq_true z2
    cases e
    cases r1
    cases r2
    obtain ⟨t1, rfl⟩ := rx
    obtain ⟨t2, rfl⟩ := ry
    refine SB.mul (PyProof.Rows.mulOk_of 16 1048576 (by rw [SX.S_len]; exact z1) (by omega) (by omega) (by decide) (by decide)) fun t' k => ⟨.str (SX.S _), H, ?_, ⟨t', by rw [mul_S]⟩, po.now rel (.str _)⟩
    exact I.tok k
  · exact o_mul pins s σ H x y v u Q I rx ry ⟨W, h, _, _, v', h', rel, r1, r2, e, po⟩
end
end D
set_option Elab.async false
set_option linter.all false
set_option maxRecDepth 100000
set_option maxHeartbeats 2000000
/-! D9: classes with slots: making, fields, properties, methods, operators. -/
namespace D
open PySem PySem.Spec PyProof.Rows L2 SlX
section
variable {K : PySem.W.Frag} {cl : Cl} {W W1 : Wd} {H H1 : Hp} {h h' : Hs} {X : Cx} {pos : Pos} {e e2 : Expr} {ms : Exs} {ma mb mo : Ex}
/-! ### callees -/
def FnD (P : Program) (w : World) (K : PySem.W.Frag) (mg : Str → Option Value) (base : Heap) (cl : Cl) (k : Nat) (f n : Nat) (g : List DV → M DV) : Prop := ∃ fd ps, FnOk P w K mg base L2.CX0 k f fd ps (spD K cl n g) ∧ Binds K fd ps []
theorem FnD.r {P : Program} {w : World} {mg : Str → Option Value} {base : Heap} {k f n : Nat} {g : List DV → M DV} (F : FnD P w K mg base cl k f n g) : FnR P w K mg base L2.CX0 k f (spD K cl n g) := by
  obtain ⟨fd, ps, F, b⟩ := F
  refine (F.raw b .nil).imp fun vs H Q E q => ?_
  rw [List.append_nil]
  exact q
/-! ### the D heap: an instance comes, is written, is frozen -/
def Wd.addI (W : Wd) (x dx : Addr) : Wd := ⟨W.ρ ++ [(x, dx)], W.F⟩
theorem getElem?_pre {α : Type} {l r : List α} {n : Nat} {p : α} (e : l[n]? = some p) : (l ++ r)[n]? = some p := by
  rw [List.getElem?_append_left (List.getElem?_eq_some_iff.mp e).1]; exact e
theorem HRel.addI {x dx : Addr} {c : Nat} (rel : HRel K cl W h H) (nx : H x = none) (nd : H dx = none) (ne : dx ≠ x) :
    Ext W H (W.addI x dx) (upd (upd H dx (.own x)) x (.ins (cl.ad c) dx [])) ∧ HRel K cl (W.addI x dx) (h ++ [.ins c []]) (upd (upd H dx (.own x)) x (.ins (cl.ad c) dx [])) := by
  have oth : ∀ b, b ≠ x → b ≠ dx → upd (upd H dx (.own x)) x (.ins (cl.ad c) dx []) b = H b := fun b h1 h2 => by rw [upd_ne h1, upd_ne h2]
  have st : ∀ b u, H b = some u → upd (upd H dx (.own x)) x (.ins (cl.ad c) dx []) b = some u := fun b u q => (oth b (ne_of_none q nx) (ne_of_none q nd)).trans q
  have fx : ¬ W.F x := fun q => by obtain ⟨u, hu⟩ := rel.tr x q; rw [nx] at hu; cases hu
  have fd : ¬ W.F dx := fun q => by obtain ⟨u, hu⟩ := rel.tr dx q; rw [nd] at hu; cases hu
  have ext : Ext W H (W.addI x dx) (upd (upd H dx (.own x)) x (.ins (cl.ad c) dx [])) := ⟨fun n p q => getElem?_pre q, fun _ q => q, fun a q => oth a (fun z => fx (by rw [← z]; exact q)) (fun z => fd (by rw [← z]; exact q)), fun n p q => by
    rcases getElem?_snoc (show (W.ρ ++ [(x, dx)])[n]? = some p from q) with ⟨q, _⟩ | ⟨_, q⟩
    · exact .inl q
    · subst q; exact .inr fx⟩
  have nox : ∀ n dy, W.ρ[n]? ≠ some (x, dy) := fun n dy q => by
    obtain ⟨u, hu, _⟩ := rel.tr2 _ (List.mem_of_getElem? q)
    rw [nx] at hu; cases hu
  have hdx : upd (upd H dx (.own x)) x (.ins (cl.ad c) dx []) dx = some (.own x) := by rw [upd_ne ne, upd_same]
  refine ⟨ext, ?_, ?_, fun a q => ?_, fun q hq => ?_, fun n d' a dy h1 h2 => ?_, fun n m c1 c2 f1 f2 a d1 b d2 h1 h2 h3 h4 hn => ?_, fun p hp => (rel.tb p hp).go ext.sub ext.keep fun b ps z => st b _ z, fun t0 b q ps z => rel.nt t0 b q ps (by rw [ext.keep b q] at z; exact z)⟩
  · show (h ++ [DO.ins c []]).length = (W.ρ ++ [(x, dx)]).length
    rw [List.length_append, List.length_append, rel.len]; rfl
  · show ((W.ρ ++ [(x, dx)]).map (·.1)).Nodup
    rw [List.map_append, List.nodup_append]
    refine ⟨rel.nd, by simp, ?_⟩
    intro a ha b hb z
    simp at hb
    subst hb
    subst z
    obtain ⟨q, hq, e⟩ := List.mem_map.mp ha
    obtain ⟨u, hu, _⟩ := rel.tr2 q hq
    rw [e, nx] at hu
    cases hu
  · obtain ⟨u, hu⟩ := rel.tr a q
    exact ⟨u, st _ _ hu⟩
  · have hq : q ∈ W.ρ ++ [(x, dx)] := hq
    rcases List.mem_append.mp hq with hq | hq
    · obtain ⟨u, hu, nu⟩ := rel.tr2 q hq
      exact ⟨u, st _ _ hu, nu⟩
    · rw [List.mem_singleton.mp hq]; exact ⟨_, upd_same, fun _ z => by cases z⟩
  · have h2 : (W.ρ ++ [(x, dx)])[n]? = some (a, dy) := h2
    rcases getElem?_snoc h1 with ⟨q, hn⟩ | ⟨q, q2⟩
    · rw [List.getElem?_append_left (by rw [← rel.len]; exact hn)] at h2
      exact (rel.ok n d' a dy q h2).grow ext st fun b q => .inl q
    · rcases getElem?_snoc h2 with ⟨_, hn⟩ | ⟨_, q3⟩
      · rw [← rel.len] at hn; omega
      · cases q3
        subst q2
        exact ⟨fx, fd, ne, ⟨_, hdx, .inl ⟨x, rfl⟩⟩, [], .inl ⟨upd_same, rfl⟩, fun i d q => by simp at q⟩
  · have h3 : (W.ρ ++ [(x, dx)])[n]? = some (a, d1) := h3
    have h4 : (W.ρ ++ [(x, dx)])[m]? = some (b, d2) := h4
    have dold : ∀ {j : Nat} {cc : Nat} {ff : List (Option DV)} {aa dd : Addr}, h[j]? = some (.ins cc ff) → W.ρ[j]? = some (aa, dd) → dd ≠ dx := fun q1 q2 z => by
      obtain ⟨_, _, _, ⟨u, hu, _⟩, _⟩ := rel.ok _ _ _ _ q1 q2
      rw [z, nd] at hu; cases hu
    rcases getElem?_snoc h1 with ⟨q, hn1⟩ | ⟨q, q2⟩
    · rw [List.getElem?_append_left (by rw [← rel.len]; exact hn1)] at h3
      rcases getElem?_snoc h2 with ⟨q', hn2⟩ | ⟨q', q2⟩
      · rw [List.getElem?_append_left (by rw [← rel.len]; exact hn2)] at h4
        exact rel.sep n m c1 c2 f1 f2 a d1 b d2 q q' h3 h4 hn
      · have e4 : b = x ∧ d2 = dx := by
          rcases getElem?_snoc h4 with ⟨_, z⟩ | ⟨_, z⟩
          · rw [← rel.len] at z; omega
          · cases z; exact ⟨rfl, rfl⟩
        rw [e4.2]
        exact dold q h3
    · have e3 : a = x ∧ d1 = dx := by
        rcases getElem?_snoc h3 with ⟨_, z⟩ | ⟨_, z⟩
        · rw [← rel.len] at z; omega
        · cases z; exact ⟨rfl, rfl⟩
      rcases getElem?_snoc h2 with ⟨q', hn2⟩ | ⟨q', q2'⟩
      · rw [List.getElem?_append_left (by rw [← rel.len]; exact hn2)] at h4
        rw [e3.2]
        exact (dold q' h4).symm
      · omega
/-- a field is written -/
theorem HRel.slw {n c : Nat} {a dx : Addr} {fs fs' : List (Option DV)} {vs' : List (Option V)} (rel : HRel K cl W h H) (e : h[n]? = some (.ins c fs)) (hn : W.ρ[n]? = some (a, dx)) (r : ROs K cl W H fs' vs') :
    Ext W H W (slH H a (cl.ad c) dx vs') ∧ HRel K cl W (h.set n (.ins c fs')) (slH H a (cl.ad c) dx vs') := by
  obtain ⟨fa, fd, ne, ⟨u, hu, ow⟩, vs, sl, _⟩ := rel.ok n _ a dx e hn
  have oth : ∀ b, b ≠ a → b ≠ dx → slH H a (cl.ad c) dx vs' b = H b := fun b h1 h2 => slH_ne h1 h2
  have ext : Ext W H W (slH H a (cl.ad c) dx vs') := ⟨fun _ _ q => q, fun _ q => q, fun b q => oth b (fun z => fa (by rw [← z]; exact q)) (fun z => fd (by rw [← z]; exact q)), fun _ _ q => .inl q⟩
  have hda : slH H a (cl.ad c) dx vs' dx = some (.xd []) := by unfold slH; rw [upd_ne ne, upd_same]
  have haa : slH H a (cl.ad c) dx vs' a = some (SlO a (cl.ad c) dx vs') := by unfold slH; rw [upd_same]
  have ha0 : (∃ C d f, H a = some (.ins C d f)) ∨ ∃ φ, H a = some (.ext φ) := by
    rcases sl with ⟨q, _⟩ | ⟨q, _⟩
    · exact .inl ⟨_, _, _, q⟩
    · exact .inr ⟨_, q⟩
  have nown : ∀ b w, H b = some w → OwnD w → b ≠ a := fun b w hw o z => by
    rw [z] at hw
    rcases ha0 with ⟨_, _, _, q⟩ | ⟨_, q⟩ <;> (rw [q] at hw; cases hw; rcases o with ⟨_, o⟩ | o <;> cases o)
  have ndx : ∀ b w, H b = some w → ¬ OwnD w → b ≠ dx := fun b w hw o z => by
    rw [z, hu] at hw
    cases hw
    exact o ow
  refine ⟨ext, by rw [List.length_set]; exact rel.len, rel.nd, fun b q => ?_, fun q hq => ?_, fun m d' b dy h1 h2 => ?_, fun m k c1 c2 f1 f2 b d1 b' d2 h1 h2 h3 h4 hmk => ?_, fun p hp => (rel.tb p hp).go ext.sub ext.keep fun b ps z => ?_, fun t0 b q ps z => rel.nt t0 b q ps (by rw [ext.keep b q] at z; exact z)⟩
  rotate_right
  · refine (oth b (fun y => ?_) (ndx b _ z fun o => by rcases o with ⟨_, o⟩ | o <;> cases o)).trans z
    rw [y] at z
    rcases ha0 with ⟨_, _, _, q⟩ | ⟨_, q⟩ <;> (rw [q] at z; cases z)
  · obtain ⟨w, hw⟩ := rel.tr b q
    exact ⟨w, (ext.keep b q).trans hw⟩
  · by_cases z : q.1 = a
    · exact ⟨_, by rw [z]; exact haa, fun ps y => by first | (cases y; done) | (have y' : HO.ext _ = HO.tbl ps := y; cases y')⟩
    · by_cases z2 : q.1 = dx
      · exact ⟨_, by rw [z2]; exact hda, fun ps y => by first | (cases y; done) | (have y' : HO.ext _ = HO.tbl ps := y; cases y')⟩
      · obtain ⟨w, hw, nw⟩ := rel.tr2 q hq
        exact ⟨w, (oth _ z z2).trans hw, nw⟩
  · by_cases hm : m = n
    · subst hm
      rw [hn] at h2
      cases h2
      have : m < h.length := (List.getElem?_eq_some_iff.mp e).1
      rw [List.getElem?_set_self this] at h1
      cases h1
      exact ⟨fa, fd, ne, ⟨_, hda, .inr rfl⟩, vs', .inr ⟨haa, hda⟩, r.mono ext⟩
    · rw [List.getElem?_set_ne (Ne.symm hm)] at h1
      have q := rel.ok m d' b dy h1 h2
      have nb : b ≠ a := fun z => hm (rel.inj (a := a) (by rw [← z]; exact h2) hn)
      have no : ∀ w, H b = some w → (∀ y, w ≠ .own y) → w ≠ .xd [] → slH H a (cl.ad c) dx vs' b = some w := fun w hw k1 k2 => (oth b nb (ndx b w hw fun o => o.elim (fun ⟨y, o⟩ => k1 y o) k2)).trans hw
      cases d' with
      | lst ds =>
        obtain ⟨n1, xs, h1, r⟩ := q
        exact ⟨n1, xs, no _ h1 (fun y z => by cases z) (fun z => by cases z), r.mono ext⟩
      | dic ds =>
        obtain ⟨n1, xs, h1, r⟩ := q
        exact ⟨n1, xs, no _ h1 (fun y z => by cases z) (fun z => by cases z), r.mono ext⟩
      | dfz ds =>
        obtain ⟨n1, od, xs, h1, r⟩ := q
        exact ⟨n1, od, xs, no _ h1 (fun y z => by cases z) (fun z => by cases z), r.mono ext⟩
      | pot k ds =>
        obtain ⟨n1, i, j, l, h1, r⟩ := q
        exact ⟨n1, i, j, l, no _ h1 (fun y z => by cases z) (fun z => by cases z), r⟩
      | dead => exact True.intro
      | ins c0 f0 =>
        obtain ⟨n1, n2, ne', ⟨u', hu', ow'⟩, vs0, sl0, r0⟩ := q
        have d1 : dy ≠ a := nown dy u' hu' ow'
        have d2 : dy ≠ dx := (rel.sep n m c c0 fs f0 a dx b dy e h1 hn h2 (Ne.symm hm)).symm
        refine ⟨n1, n2, ne', ⟨u', (oth dy d1 d2).trans hu', ow'⟩, vs0, ?_, r0.mono ext⟩
        rcases sl0 with ⟨q1, q2⟩ | ⟨q1, q2⟩
        · exact .inl ⟨no _ q1 (fun y z => by cases z) (fun z => by cases z), q2⟩
        · exact .inr ⟨no _ q1 (fun y z => by cases z) (fun z => by cases z), (oth dy d1 d2).trans q2⟩
  · have back : ∀ {j : Nat} {cc : Nat} {ff : List (Option DV)}, (h.set n (.ins c fs'))[j]? = some (.ins cc ff) → ∃ gg cc', h[j]? = some (.ins cc' gg) := fun {j cc ff} z => by
      by_cases hj : j = n
      · subst hj; exact ⟨fs, c, e⟩
      · rw [List.getElem?_set_ne (Ne.symm hj)] at z
        exact ⟨ff, cc, z⟩
    obtain ⟨g1, k1, z1⟩ := back h1
    obtain ⟨g2, k2, z2⟩ := back h2
    exact rel.sep m k k1 k2 g1 g2 b d1 b' d2 z1 z2 h3 h4 hmk
/-- made: from now on it stays -/
def Wd.fz2 (W : Wd) (a dx : Addr) : Wd := ⟨W.ρ, fun b => W.F b ∨ b = a ∨ b = dx⟩
theorem ros_all : ∀ {ds : List DV} {vs : List (Option V)}, ROs K cl W H (ds.map some) vs → ∃ xs rest, vs = xs.map some ++ rest ∧ RVs K cl W H ds xs
  | [], vs, _ => ⟨[], vs, rfl, .nil⟩
  | d :: ds, vs, r => by
    obtain ⟨x, hx, rx⟩ := r 0 d rfl
    cases vs with
    | nil => simp at hx
    | cons v vs =>
      have hx : v = some x := by simpa using hx
      subst hx
      obtain ⟨xs, rest, e, rr⟩ := ros_all (ds := ds) (vs := vs) fun i d q => by
        obtain ⟨y, hy, ry⟩ := r (i + 1) d (by simpa using q)
        exact ⟨y, by simpa using hy, ry⟩
      exact ⟨x :: xs, rest, by rw [e]; rfl, .cons rx rr⟩
theorem HRel.freeze {n c : Nat} {a dx : Addr} {d : DV} {ds : List DV} (rel : HRel K cl W h H) (e : h[n]? = some (.ins c ((d :: ds).map some))) (hn : W.ρ[n]? = some (a, dx)) :
    Ext W H (W.fz2 a dx) H ∧ HRel K cl (W.fz2 a dx) (h.set n .dead) H ∧ RV K cl (W.fz2 a dx) H (.obj c (d :: ds)) (.ref a) := by
  obtain ⟨fa, fd, ne, ⟨u, hu, ow⟩, vs, sl, r⟩ := rel.ok n _ a dx e hn
  have ext : Ext W H (W.fz2 a dx) H := ⟨fun _ _ q => q, fun _ q => .inl q, fun _ _ => rfl, fun _ _ q => .inl q⟩
  obtain ⟨xs, rest, ev, rx⟩ := ros_all r
  have ne0 : vs ≠ [] := fun z => by
    rw [z] at ev
    cases rx
    cases ev
  have hsl : H a = some (SlO a (cl.ad c) dx vs) ∧ H dx = some (.xd []) := by
    rcases sl with ⟨_, q⟩ | q
    · exact absurd q ne0
    · exact q
  have ndx : ∀ b w, H b = some w → (∀ y, w ≠ .own y) → w ≠ .xd [] → b ≠ dx := fun b w hw k1 k2 z => by
    rw [z, hu] at hw
    cases hw
    exact ow.elim (fun ⟨y, o⟩ => k1 y o) k2
  refine ⟨ext, ⟨by rw [List.length_set]; exact rel.len, rel.nd, fun b q => ?_, rel.tr2, fun m d' b dy h1 h2 => ?_, fun m k c1 c2 f1 f2 b d1 b' d2 h1 h2 h3 h4 hmk => ?_, fun p hp => (rel.tb p hp).go ext.sub ext.keep fun _ _ z => z, fun t0 b q ps z => ?nt⟩, .obj (.inr (.inl rfl)) (.inr (.inr rfl)) ne (by rw [← ev]; exact hsl.1) hsl.2 (rx.mono ext)⟩
  case nt =>
    rcases q with q | q | q
    · exact rel.nt t0 b q ps z
    · rw [q] at z
      rw [hsl.1] at z
      have z' : HO.ext _ = HO.tbl ps := Option.some.inj z
      cases z'
    · rw [q, hsl.2] at z; cases z
  · rcases q with q | q | q
    · exact rel.tr b q
    · exact ⟨_, by rw [q]; exact hsl.1⟩
    · exact ⟨_, by rw [q]; exact hsl.2⟩
  · by_cases hm : m = n
    · subst hm
      have : m < h.length := (List.getElem?_eq_some_iff.mp e).1
      rw [List.getElem?_set_self this] at h1
      cases h1
      exact True.intro
    · rw [List.getElem?_set_ne (Ne.symm hm)] at h1
      have q := rel.ok m d' b dy h1 h2
      have nb : b ≠ a := fun z => hm (rel.inj (a := a) (by rw [← z]; exact h2) hn)
      have nf : ∀ w, H b = some w → (∀ y, w ≠ .own y) → w ≠ .xd [] → ¬ W.F b → ¬ (W.fz2 a dx).F b := fun w hw k1 k2 f z => by
        rcases z with z | z | z
        · exact f z
        · exact nb z
        · exact ndx b w hw k1 k2 z
      cases d' with
      | lst ds =>
        obtain ⟨n1, xs, h1, r⟩ := q
        exact ⟨nf _ h1 (fun y z => by cases z) (fun z => by cases z) n1, xs, h1, r.mono ext⟩
      | dic ds =>
        obtain ⟨n1, xs, h1, r⟩ := q
        exact ⟨nf _ h1 (fun y z => by cases z) (fun z => by cases z) n1, xs, h1, r.mono ext⟩
      | dfz ds =>
        obtain ⟨n1, od, xs, h1, r⟩ := q
        exact ⟨.inl n1, od, xs, h1, r.mono ext⟩
      | pot k ds =>
        obtain ⟨n1, i, j, l, h1, r⟩ := q
        exact ⟨nf _ h1 (fun y z => by cases z) (fun z => by cases z) n1, i, j, l, h1, r⟩
      | dead => exact True.intro
      | ins c0 f0 =>
        obtain ⟨n1, n2, ne', ⟨u', hu', ow'⟩, vs0, sl0, r0⟩ := q
        have d2 : dy ≠ dx := (rel.sep n m c c0 _ f0 a dx b dy e h1 hn h2 (Ne.symm hm)).symm
        have d1 : dy ≠ a := fun z => by
          rw [z, hsl.1] at hu'
          cases hu'
          rcases ow' with ⟨_, o⟩ | o <;> cases o
        have hb : ∃ w, H b = some w ∧ (∀ y, w ≠ .own y) ∧ w ≠ .xd [] := by
          rcases sl0 with ⟨q1, _⟩ | ⟨q1, _⟩
          · exact ⟨_, q1, (fun y z => by cases z), (fun z => by cases z)⟩
          · exact ⟨_, q1, (fun y z => by cases z), (fun z => by cases z)⟩
        obtain ⟨w, hw, k1, k2⟩ := hb
        refine ⟨nf w hw k1 k2 n1, fun z => ?_, ne', ⟨u', hu', ow'⟩, vs0, sl0, r0.mono ext⟩
        rcases z with z | z | z
        · exact n2 z
        · exact d1 z
        · exact d2 z
  · have back : ∀ {j : Nat} {cc : Nat} {ff : List (Option DV)}, (h.set n DO.dead)[j]? = some (.ins cc ff) → h[j]? = some (.ins cc ff) := fun {j cc ff} z => by
      by_cases hj : j = n
      · subst hj
        have : j < h.length := (List.getElem?_eq_some_iff.mp e).1
        rw [List.getElem?_set_self this] at z
        cases z
      · rw [List.getElem?_set_ne (Ne.symm hj)] at z
        exact z
    exact rel.sep m k c1 c2 f1 f2 b d1 b' d2 (back h1) (back h2) h3 h4 hmk
end
end D
set_option Elab.async false
set_option linter.all false
set_option maxRecDepth 100000
set_option maxHeartbeats 2000000
/-! D10: classes with slots, the rules; isinstance; globals. -/
namespace D
open PySem PySem.Spec PyProof.Rows L2 SlX
section
variable {K : PySem.W.Frag} {cl : Cl} {W W1 : Wd} {H H1 : Hp} {h h' : Hs} {X : Cx} {pos : Pos} {o e e2 : Expr} {es : List Expr} {ms : Exs} {ma mb mo : Ex} {f : Str}
theorem _root_.L2.PE.any {ι : Type} {X : Cx} {e : Expr} {t : ι → TE} {p : ι → Prop} (q : ∀ i, p i → PE X e (t i)) : PE X e (fun σ H Q => ∃ i, p i ∧ t i σ H Q) := ⟨fun pins s σ H Q I ⟨i, hp, z⟩ => (q i hp).run pins s σ H Q I z⟩
theorem _root_.L2.PE.or {X : Cx} {e : Expr} {t u : TE} (p : PE X e t) (q : PE X e u) : PE X e (fun σ H Q => t σ H Q ∨ u σ H Q) := ⟨fun pins s σ H Q I z => z.elim (p.run pins s σ H Q I) (q.run pins s σ H Q I)⟩
/-! ### e.f -/
inductive AtK where
  | sl (i : Nat) | pr (g : List DV → M DV)
def insAt (n : Nat) : M (Nat × List (Option DV)) := fun h => match h[n]? with
  | some (.ins c fs) => .ok (c, fs) h
  | _ => .stuck
theorem insAt_ok {n c : Nat} {fs : List (Option DV)} (e : insAt n h = .ok (c, fs) h') : h' = h ∧ h[n]? = some (.ins c fs) := by
  unfold insAt at e
  cases q : h[n]? with
  | none => rw [q] at e; cases e
  | some u =>
    rw [q] at e
    cases u <;> first | (cases e; done) | skip
    cases e
    exact ⟨rfl, rfl⟩
def atK (k : AtK) (c : Nat) (fs : List DV) : M DV := match k with
  | .sl i => optM fs[i]?
  | .pr g => g [.obj c fs]
def atF (k : AtK) (fs : List (Option DV)) : M DV := match k with
  | .sl i => bnd (optM fs[i]?) optM
  | .pr _ => stk
def atD (A : Nat → Option AtK) (d : DV) : M DV := match d with
  | .obj c fs => bnd (optM (A c)) fun k => atK k c fs
  | .ref n => bnd (insAt n) fun q => bnd (optM (A q.1)) fun k => atF k q.2
  | _ => stk
def eAttr (A : Nat → Option AtK) (m : Ex) : Ex := fun sl => bnd (m sl) (atD A)
/-- class c's f -/
def AtOk (X : Cx) (cl : Cl) (c : Nat) (f : Str) : AtK → Prop
  | .sl i => SCls X.K (cl.ad c) ∧ ∃ p, Slot1 X.K (cl.ad c) f p i
  | .pr g => SCls X.K (cl.ad c) ∧ ∃ (p gf : Addr) (j : Nat), PySem.W.findIn X.K (.ref (cl.ad c)) f = some (some (.ref p)) ∧ PySem.W.specialIn X.K (.ref p) "__get__" = some (some (.builtin "property.__get__")) ∧ PySem.W.takesIn X.K (.ref p) = some true ∧
      (∃ rest, PySem.W.recIn X.K p "property" = some (.ref gf :: rest)) ∧ FnR X.prog X.w X.K X.mg X.base L2.CX0 j gf (spD X.K cl 1 g) ∧ Room (j + 1) X.A
theorem slt_obj {c : Nat} {xs : List V} {rest : List (Option V)} {a dx : Addr} (h1 : H a = some (SlO a (cl.ad c) dx (xs.map some ++ rest))) (h2 : H dx = some (.xd [])) : Slt H a (cl.ad c) dx (xs.map some ++ rest) := .inr ⟨h1, h2⟩
theorem map_get {α : Type} {xs : List α} {rest : List (Option α)} {i : Nat} {x : α} (h : xs[i]? = some x) : (xs.map some ++ rest)[i]? = some (some x) := by
  have hi := (List.getElem?_eq_some_iff.mp h).1
  rw [List.getElem?_append_left (by rw [List.length_map]; exact hi), List.getElem?_map, h]
  rfl
theorem de_attr {A : Nat → Option AtK} (hA : ∀ c k, A c = some k → AtOk X cl c f k) (he : DE cl X e ma) (hb : attributeBase e f X.env (eval e X.env) = eval e X.env := by rfl) : DE cl X (.Attribute e f pos) (eAttr A ma) := by
  have p1 : PE X (.Attribute e f pos) _ := pe_sl he hb
  have p2 : PE X (.Attribute e f pos) _ := L2.PE.any (ι := Nat × (List DV → M DV)) (p := fun i => A i.1 = some (.pr i.2)) (t := fun i => tPropSl (cl.ad i.1) (spD X.K cl 1 i.2) L2.E0 (tE X.K cl ma)) fun i q => by
    obtain ⟨sc, p, gf, j, q1, q2, q3, q4, F, hr⟩ := hA _ _ q
    exact pe_propSl he sc q1 q2 q3 q4 F hr (fun _ _ _ _ z => z) hb
  refine (p1.or p2).mono fun σ H Q q => ?_
  obtain ⟨W, h, sl, v, h', rel, rs, e, po⟩ := q
  obtain ⟨d, h1, e1, e2⟩ := bnd_ok e
  unfold atD at e2
  split at e2
  · rename_i c fs
    obtain ⟨k, h2, e3, e4⟩ := bnd_ok e2
    obtain ⟨hk, rfl⟩ := optM_ok e3
    cases k with
    | sl i =>
      obtain ⟨hv, rfl⟩ := optM_ok (show optM fs[i]? _ = _ from e4)
      refine .inl ⟨W, h, sl, _, _, rel, rs, e1, fun W1 H1 x ext rel1 rv => ?_⟩
      obtain ⟨sc, p, sp⟩ := hA _ _ hk
      cases rv with
      | obj f1 f2 ne z1 z2 rr =>
        obtain ⟨y, hy, ry⟩ := rr.get hv
        exact ⟨_, _, _, p, _, i, y, rfl, slt_obj z1 z2, sc, sp, map_get hy, po W1 H1 y ext rel1 ry⟩
    | pr g =>
      refine .inr ⟨(c, g), hk, W, h, sl, _, _, rel, rs, e1, fun W1 H1 x ext rel1 rv => ?_⟩
      have rv' := rv
      cases rv with
      | obj f1 f2 ne z1 z2 rr => exact ⟨_, _, _, rfl, slt_obj z1 z2, rfl, W1, _, [_], v, h', rel1, .cons rv' .nil, e4, po.go ext⟩
  · rename_i n
    obtain ⟨⟨c, fs⟩, h2, e3, e4⟩ := bnd_ok e2
    obtain ⟨rfl, hn⟩ := insAt_ok e3
    obtain ⟨k, h2, e5, e6⟩ := bnd_ok e4
    obtain ⟨hk, rfl⟩ := optM_ok e5
    cases k with
    | sl i =>
      obtain ⟨w, h3, e7, e8⟩ := bnd_ok (show bnd (optM fs[i]?) optM _ = _ from e6)
      obtain ⟨hw, rfl⟩ := optM_ok e7
      obtain ⟨rfl, rfl⟩ := optM_ok e8
      refine .inl ⟨W, h, sl, _, _, rel, rs, e1, fun W1 H1 x ext rel1 rv => ?_⟩
      obtain ⟨sc, p, sp⟩ := hA _ _ hk
      cases rv with
      | ref hr =>
        obtain ⟨_, _, _, _, vs, st, r⟩ := rel1.ok n _ _ _ hn hr
        obtain ⟨y, hy, ry⟩ := r i _ hw
        exact ⟨_, _, _, p, vs, i, y, rfl, st, sc, sp, hy, po W1 H1 y ext rel1 ry⟩
    | pr g => cases e6
  · cases e2
/-! ### o.m(..) -/
def MetOk (X : Cx) (cl : Cl) (c n : Nat) (m : Str) (g : List DV → M DV) : Prop := SCls X.K (cl.ad c) ∧ ∃ (gf : Addr) (j : Nat), Meth X.K (cl.ad c) m gf ∧ FnR X.prog X.w X.K X.mg X.base L2.CX0 j gf (spD X.K cl n g) ∧ Room j X.A
def objAt (d : DV) : M (Nat × List DV) := match d with
  | .obj c fs => ret (c, fs)
  | _ => stk
theorem objAt_ok {d : DV} {q : Nat × List DV} (e : objAt d h = .ok q h') : h' = h ∧ d = .obj q.1 q.2 := by
  cases d <;> first | (cases e; done) | skip
  cases e
  exact ⟨rfl, rfl⟩
def eMeth (A : Nat → Option (List DV → M DV)) (mo : Ex) (ms : Exs) : Ex := fun sl => bnd (mo sl) fun d => bnd (objAt d) fun q => bnd (optM (A q.1)) fun g => bnd (ms sl) fun ds => g (.obj q.1 q.2 :: ds)
theorem de_meth {m : Str} {n : Nat} {apos : Pos} {A : Nat → Option (List DV → M DV)} {pl : Sem Bool} (hA : ∀ c g, A c = some g → MetOk X cl c (n + 1) m g) (ho : DE cl X o mo) (ha : DA cl X (e :: es) ms) (hn : ∀ sl h vs h', ms sl h = .ok vs h' → vs.length = n)
    (hst : starEach (e :: es) X.env = (false, eval e X.env) :: starEach es X.env := by rfl) (hpl : (backTo pos (starEach es X.env)).any (·.1) = false := by rfl)
    (ht : eval (.Call (.Attribute o m apos) (e :: es) [] pos) X.env = (do
      let ov ← eval o X.env
      standAt apos.atName
      let (f, first) ← holding [ov] (getMethod ov m pl)
      callWith pos f first (backTo pos (starEach (e :: es) X.env)) (backToKw pos (keywordEach [] X.env))) := by rfl) :
    DE cl X (.Call (.Attribute o m apos) (e :: es) [] pos) (eMeth A mo ms) := by
  have p : PE X (.Call (.Attribute o m apos) (e :: es) [] pos) _ := L2.PE.any (ι := Nat × (List DV → M DV)) (p := fun i => A i.1 = some i.2) (t := fun i => tMethSl (cl.ad i.1) (spD X.K cl (n + 1) i.2) L2.E0 (tE X.K cl mo) (tA X.K cl ms)) fun i q => by
    obtain ⟨sc, gf, j, k, F, hr⟩ := hA _ _ q
    exact pe_methSl ho sc k F hr L2.pass0 ha hst hpl ht
  refine p.mono fun σ H Q q => ?_
  obtain ⟨W, h, sl, v, h', rel, rs, e, po⟩ := q
  obtain ⟨d, h1, e1, e2⟩ := bnd_ok e
  obtain ⟨⟨c, fs⟩, h3, e5, e6⟩ := bnd_ok e2
  obtain ⟨rfl, rfl⟩ := objAt_ok e5
  obtain ⟨g, h4, e7, e8⟩ := bnd_ok e6
  obtain ⟨hg, rfl⟩ := optM_ok e7
  obtain ⟨ds, h2, e3, e4⟩ := bnd_ok e8
  refine ⟨(c, g), hg, W, h, sl, _, _, rel, rs, e1, fun W1 H1 x ext rel1 rv => ?_⟩
  have rv' := rv
  cases rv with
  | obj f1 f2 ne z1 z2 rr =>
    refine ⟨_, _, _, rfl, slt_obj z1 z2, W1, _, sl, ds, h2, rel1, rs.mono ext, e3, fun W2 H2 xs ext2 rel2 rvs => ⟨?_, W2, h2, _, v, h', rel2, .cons (rv'.mono ext2) rvs, e4, po.go (ext.trans ext2)⟩⟩
    rw [List.length_cons, ← rvs.length, hn _ _ _ _ e3]
theorem de_meth0 {m : Str} {apos : Pos} {A : Nat → Option (List DV → M DV)} {pl : Sem Bool} (hA : ∀ c g, A c = some g → MetOk X cl c 1 m g) (ho : DE cl X o mo)
    (ht : eval (.Call (.Attribute o m apos) [] [] pos) X.env = (do
      let ov ← eval o X.env
      standAt apos.atName
      let (f, first) ← holding [ov] (getMethod ov m pl)
      callWith pos f first (backTo pos (starEach [] X.env)) (backToKw pos (keywordEach [] X.env))) := by rfl) :
    DE cl X (.Call (.Attribute o m apos) [] [] pos) (eMeth A mo aNil) := by
  have p : PE X (.Call (.Attribute o m apos) [] [] pos) _ := L2.PE.any (ι := Nat × (List DV → M DV)) (p := fun i => A i.1 = some i.2) (t := fun i => tMethSl (cl.ad i.1) (spD X.K cl 1 i.2) L2.E0 (tE X.K cl mo) tNil) fun i q => by
    obtain ⟨sc, gf, j, k, F, hr⟩ := hA _ _ q
    exact pe_methSl0 ho sc k F hr L2.pass0 ht
  refine p.mono fun σ H Q q => ?_
  obtain ⟨W, h, sl, v, h', rel, rs, e, po⟩ := q
  obtain ⟨d, h1, e1, e2⟩ := bnd_ok e
  obtain ⟨⟨c, fs⟩, h3, e5, e6⟩ := bnd_ok e2
  obtain ⟨rfl, rfl⟩ := objAt_ok e5
  obtain ⟨g, h4, e7, e8⟩ := bnd_ok e6
  obtain ⟨hg, rfl⟩ := optM_ok e7
  obtain ⟨ds, h2, e3, e4⟩ := bnd_ok e8
  obtain ⟨rfl, rfl⟩ := ret_ok e3
  refine ⟨(c, g), hg, W, h, sl, _, _, rel, rs, e1, fun W1 H1 x ext rel1 rv => ?_⟩
  have rv' := rv
  cases rv with
  | obj f1 f2 ne z1 z2 rr => exact ⟨_, _, _, rfl, slt_obj z1 z2, rfl, W1, _, _, v, h', rel1, .cons rv' .nil, e4, po.go ext⟩
/-! ### C(..) -/
def allSome : List (Option DV) → Option (List DV)
  | [] => some []
  | some d :: t => (allSome t).map (d :: ·)
  | none :: _ => none
theorem allSome_ok : ∀ {fs : List (Option DV)} {ds : List DV}, allSome fs = some ds → fs = ds.map some
  | [], _, e => by cases e; rfl
  | some d :: t, _, e => by
    obtain ⟨es, e1, e2⟩ := Option.map_eq_some_iff.mp (show (allSome t).map _ = some _ from e)
    subst e2
    rw [allSome_ok e1]; rfl
  | none :: _, _, e => by cases e
def makeD (c : Nat) (g : List DV → M DV) (ds : List DV) : M DV := fun h => match g (.ref h.length :: ds) (h ++ [.ins c []]) with
  | .ok .non h2 => (match h2[h.length]? with
    | some (.ins c' fs) => (match allSome fs with
      | some (d :: t) => .ok (.obj c' (d :: t)) (h2.set h.length .dead)
      | _ => .stuck)
    | _ => .stuck)
  | _ => .stuck
theorem makeD_ok {c : Nat} {g : List DV → M DV} {ds : List DV} {v : DV} (e : makeD c g ds h = .ok v h') : ∃ h2 c' fs d t, g (.ref h.length :: ds) (h ++ [.ins c []]) = .ok .non h2 ∧ h2[h.length]? = some (.ins c' fs) ∧ allSome fs = some (d :: t) ∧ v = .obj c' (d :: t) ∧ h' = h2.set h.length .dead := by
  unfold makeD at e
  cases q : g (.ref h.length :: ds) (h ++ [.ins c []]) with
  | stuck => rw [q] at e; cases e
  | err c v h1 => rw [q] at e; cases e
  | ok r h2 =>
    rw [q] at e
    cases r <;> first | (cases e; done) | skip
    have e : (match h2[h.length]? with
      | some (.ins c' fs) => (match allSome fs with
        | some (d :: t) => R.ok (DV.obj c' (d :: t)) (h2.set h.length .dead)
        | _ => .stuck)
      | _ => .stuck) = R.ok v h' := e
    cases q2 : h2[h.length]? with
    | none => rw [q2] at e; cases e
    | some u =>
      rw [q2] at e
      cases u <;> first | (cases e; done) | skip
      rename_i c' fs
      have e : (match allSome fs with
        | some (d :: t) => R.ok (DV.obj c' (d :: t)) (h2.set h.length .dead)
        | _ => .stuck) = R.ok v h' := e
      cases q3 : allSome fs with
      | none => rw [q3] at e; cases e
      | some l =>
        rw [q3] at e
        cases l with
        | nil => cases e
        | cons d t => cases e; exact ⟨h2, c', fs, d, t, rfl, q2, q3, rfl, rfl⟩
end
end D
set_option Elab.async false
set_option linter.all false
set_option maxRecDepth 100000
set_option maxHeartbeats 2000000
/-! D11: making, storing, isinstance, own operators. -/
namespace D
open PySem PySem.Spec PyProof.Rows L2 SlX
section
variable {K : PySem.W.Frag} {cl : Cl} {W W1 : Wd} {H H1 : Hp} {h h' : Hs} {X : Cx} {pos : Pos} {o e e2 ce : Expr} {es : List Expr} {ms : Exs} {ma mb mo mv : Ex} {f x : Str} {p : Pos}
theorem de_make {c j k n : Nat} {g : List DV → M DV} {gf : Addr} (M : Mk X.K (cl.ad c) gf) (F : FnD X.prog X.w X.K X.mg X.base cl k gf (n + 1) g) (hr : Room j X.A) (hk : k + 1 ≤ j) (hg : Gl X x) (hm : X.mg x = some (.ref (cl.ad c))) (ha : DA cl X (e :: es) ms)
    (hn : ∀ sl h vs h', ms sl h = .ok vs h' → vs.length = n)
    (hdb : (x == ("__debug__" : Str)) = false := by decide) (he : starEach (e :: es) X.env = (false, eval e X.env) :: starEach es X.env := by rfl) (hpl : (backTo pos (starEach es X.env)).any (·.1) = false := by rfl) :
    DE cl X (.Call (.Name x p) (e :: es) [] pos) (eCall (makeD c g) ms) := by
  obtain ⟨fd, ps, F, hb⟩ := F
  refine (pe_make M F (hr.mono hk) hg hm hb .nil L2.pass0 ha hdb he hpl).mono fun σ H Q q => ?_
  obtain ⟨W, h, sl, v, h', rel, rs, e, po⟩ := q
  obtain ⟨ds, h1, e1, e2⟩ := bnd_ok e
  obtain ⟨h2, c', fs, d, t, g1, g2, g3, rfl, rfl⟩ := makeD_ok e2
  refine ⟨W, h, sl, ds, h1, rel, rs, e1, fun W1 H1 vs ext rel1 rv a dx na nd ne => ?_⟩
  obtain ⟨ex2, rel2⟩ := rel1.addI (c := c) na nd ne
  show spD X.K cl (n + 1) g (V.ref a :: (vs ++ [])) _ _ _
  rw [List.append_nil]
  have at2 : (W1.addI a dx).ρ[h1.length]? = some (a, dx) := by
    show (W1.ρ ++ [(a, dx)])[h1.length]? = some (a, dx)
    rw [rel1.len]; simp
  refine ⟨by rw [List.length_cons, ← rv.length, hn _ _ _ _ e1], W1.addI a dx, h1 ++ [.ins c []], .ref h1.length :: ds, .non, h2, rel2, .cons (.ref at2) (rv.mono ex2), g1, fun W3 H3 y ext3 rel3 ry => ?_⟩
  cases ry
  have at3 := ext3.pre _ _ at2
  have e5 := allSome_ok g3
  subst e5
  obtain ⟨ex4, rel4, r4⟩ := rel3.freeze g2 at3
  exact ⟨rfl, po _ _ _ (((ext.trans ex2).trans ext3).trans ex4) rel4 r4⟩
/-- o.f = value, in the making -/
def putO (i : Nat) (v : DV) (fs : List (Option DV)) : List (Option DV) := (fs ++ List.replicate (i + 1 - fs.length) none).set i (some v)
theorem ros_put {i : Nat} {v : DV} {y : V} {fs : List (Option DV)} {vs : List (Option V)} (r : ROs K cl W H fs vs) (ry : RV K cl W H v y) : ROs K cl W H (putO i v fs) (SlX.putS i y vs) := fun j d q => by
  unfold putO at q
  by_cases hj : j = i
  · subst hj
    have hl : j < (fs ++ List.replicate (j + 1 - fs.length) none).length := by
      rw [List.length_append, List.length_replicate]; omega
    rw [List.getElem?_set_self hl] at q
    cases q
    exact ⟨y, SlX.putS_get _ _ _, ry⟩
  · rw [List.getElem?_set_ne (Ne.symm hj)] at q
    have q2 : fs[j]? = some (some d) := by
      by_cases hl : j < fs.length
      · rw [List.getElem?_append_left hl] at q; exact q
      · rw [List.getElem?_append_right (by omega)] at q
        rw [List.getElem?_replicate] at q
        split at q <;> cases q
    obtain ⟨z, hz, rz⟩ := r j d q2
    exact ⟨z, (SlX.putS_ne hj).mpr hz, rz⟩
def refOf (d : DV) : M Nat := match d with
  | .ref n => ret n
  | _ => stk
theorem refOf_ok {d : DV} {n : Nat} (e : refOf d h = .ok n h') : h' = h ∧ d = .ref n := by
  cases d <;> first | (cases e; done) | skip
  cases e
  exact ⟨rfl, rfl⟩
def sSlo (A : Nat → Option Nat) (mo mv : Ex) : Sx := fun sl => bnd (mv sl) fun y => bnd (mo sl) fun d => bnd (refOf d) fun n => bnd (insAt n) fun q => bnd (optM (A q.1)) fun i => fun h => .ok (.nx, sl) (h.set n (.ins q.1 (putO i y q.2)))
theorem ds_slo {A : Nat → Option Nat} {value : Expr} {pos' : Pos} (hA : ∀ c i, A c = some i → SCls X.K (cl.ad c) ∧ ∃ p, Slot1 X.K (cl.ad c) f p i) (ho : DE cl X o mo) (hv : DE cl X value mv) (hs : swapsWith value (some (.Attribute o f pos')) pos.line X.env = pure false := by rfl) :
    DS cl X (.Assign [.Attribute o f pos'] value pos) (sSlo A mo mv) := (ps_sl ho hv hs).mono fun D σ H q => by
  obtain ⟨W, h, sl, fl, sl', h', rel, rs, e, po⟩ := q
  obtain ⟨y, h1, e1, e2⟩ := bnd_ok e
  obtain ⟨d, h2, e3, e4⟩ := bnd_ok e2
  obtain ⟨n, h3, e5, e6⟩ := bnd_ok e4
  obtain ⟨rfl, rfl⟩ := refOf_ok e5
  obtain ⟨⟨c, fs⟩, h4, e7, e8⟩ := bnd_ok e6
  obtain ⟨rfl, hn⟩ := insAt_ok e7
  obtain ⟨i, h5, e9, e10⟩ := bnd_ok e8
  obtain ⟨hi, rfl⟩ := optM_ok e9
  cases e10
  refine ⟨W, h, sl, y, h1, rel, rs, e1, fun W1 H1 vy ext1 rel1 ry => ⟨W1, h1, sl, _, _, rel1, rs.mono ext1, e3, fun W2 H2 vx ext2 rel2 rx => ?_⟩⟩
  obtain ⟨sc, p, sp⟩ := hA _ _ hi
  cases rx with
  | ref hr =>
    obtain ⟨_, _, _, _, vs, st, r⟩ := rel2.ok n _ _ _ hn hr
    obtain ⟨ex3, rel3⟩ := rel2.slw hn hr (ros_put (i := i) r (ry.mono ext2))
    exact ⟨_, _, _, p, vs, i, rfl, st, sc, sp, po W2 _ σ ((ext1.trans ext2).trans ex3) rel3 (((rs.mono ext1).mono ext2).mono ex3)⟩
/-! ### isinstance -/
inductive Tag where
  | non | bl | int | str | lst | tup | dic | ob (c : Nat)
def tagV (cl : Cl) : Tag → Value
  | .non => .type "NoneType"
  | .bl => .type "bool"
  | .int => .type "int"
  | .str => .type "str"
  | .lst => .type "list"
  | .tup => .type "tuple"
  | .dic => .type "dict"
  | .ob c => .ref (cl.ad c)
def tagM (d : DV) : M Tag := fun h => match d with
  | .non => .ok .non h
  | .bl _ => .ok .bl h
  | .int _ => .ok .int h
  | .str _ => .ok .str h
  | .tup _ => .ok .tup h
  | .scr _ => .ok .lst h
  | .fls _ => .ok .lst h
  | .exc _ _ => .stuck
  | .obj c _ => .ok (.ob c) h
  | .ref n => (match h[n]? with
    | some (.lst _) => .ok .lst h
    | some (.dic _) => .ok .dic h
    | some (.pot _ _) => .ok .lst h
    | _ => .stuck)
theorem fzt_ty {a : Addr} {xs : List V} (q : FzT K W H a xs) : TyX K H (.ref a) (.type "tuple") := by
  rcases q with ⟨_, q | ⟨o, q⟩⟩ | ⟨o, its, n, q, qc, _⟩
  · exact .base (.tup q)
  · exact .fTuple q
  · exact .kTuple q qc
theorem fzl_ty {a : Addr} {xs : List V} (q : FzL K W H a xs) : TyX K H (.ref a) (.type "list") := by
  rcases q with ⟨_, o, q⟩ | ⟨o, its, n, q, qc, _⟩
  · exact .base (.frz q)
  · exact .kList q qc
theorem tagM_ok {d : DV} {v : V} {t : Tag} (rel : HRel K cl W h H) (r : RV K cl W H d v) (e : tagM d h = .ok t h') : h' = h ∧ ((TyX K H v (tagV cl t)) ∨ ∃ c fs, d = .obj c fs ∧ t = .ob c) := by
  cases r <;> first | (cases e; done) | skip
  · cases e; exact ⟨rfl, .inl (.base .non)⟩
  · cases e; exact ⟨rfl, .inl (.base (.bl _))⟩
  · cases e; exact ⟨rfl, .inl (.base (.int _))⟩
  · cases e; exact ⟨rfl, .inl (.base (.str _))⟩
  · rename_i n a dx hn
    have e : (match h[n]? with
      | some (.lst _) => R.ok Tag.lst h
      | some (.dic _) => R.ok Tag.dic h
      | some (.pot _ _) => R.ok Tag.lst h
      | _ => R.stuck) = R.ok t h' := e
    cases q : h[n]? with
    | none => rw [q] at e; cases e
    | some u =>
      rw [q] at e
      cases u <;> first | (cases e; done) | skip
      · cases e
        obtain ⟨_, xs, hx, _⟩ := rel.ok n _ a dx q hn
        exact ⟨rfl, .inl (.base (.lst hx))⟩
      · cases e
        obtain ⟨_, xs, hx, _⟩ := rel.ok n _ a dx q hn
        exact ⟨rfl, .inl (.base (.dK hx))⟩
      · cases e
        obtain ⟨_, _, _, _, hx, _⟩ := rel.ok n _ a dx q hn
        exact ⟨rfl, .inl (.base (.lst hx))⟩
  · cases e; exact ⟨rfl, .inl (fzt_ty (by assumption))⟩
  · cases e; exact ⟨rfl, .inr ⟨_, _, rfl, rfl⟩⟩
  · cases e; exact ⟨rfl, .inl (fzl_ty (by assumption))⟩
  · cases e; exact ⟨rfl, .inl (fzl_ty (by assumption))⟩
def eIsi (T : Tag → Option Bool) (m : Ex) : Ex := fun sl => bnd (m sl) fun d => bnd (tagM d) fun t => optV (T t) .bl
theorem de_isi {T : Tag → Option Bool} {u : Value} {cv : V} (hT : ∀ t b, T t = some b → PySem.W.kitOne X.K (tagV cl t) u = some b) (hO : ∀ c b, T (.ob c) = some b → SCls X.K (cl.ad c) ∧ SIsi X.K (cl.ad c))
    (hc : ClsV cv u) (rc : RelV cv u) (one : ∀ w, RelV cv w → w = u) (hg : Gl X "isinstance") (hm : X.mg "isinstance" = none) (he : DE cl X e ma) (hce : PE X ce (tC cv))
    (h1 : starEach [e, ce] X.env = (false, eval e X.env) :: starEach [ce] X.env := by rfl) (h2 : starEach [ce] X.env = (false, eval ce X.env) :: starEach [] X.env := by rfl) (hpl : (backTo pos (starEach [ce] X.env)).any (·.1) = false := by rfl) :
    DE cl X (.Call (.Name "isinstance" p) [e, ce] [] pos) (eIsi T ma) := by
  have args := pa_cons he (pa_cons hce pa_nil h2) h1
  have p1 : PE X (.Call (.Name "isinstance" p) [e, ce] [] pos) _ := pe_callB call_isi hg hm boot_isinstance args (by decide) (by decide) h1 hpl
  have p2 : PE X (.Call (.Name "isinstance" p) [e, ce] [] pos) _ := pe_callB (SlX.call_isiSl u) hg hm boot_isinstance args (by decide) (by decide) h1 hpl
  refine (p1.or p2).mono fun σ H Q q => ?_
  obtain ⟨W, h, sl, v, h', rel, rs, e, po⟩ := q
  obtain ⟨d, h1, e1, e2⟩ := bnd_ok e
  obtain ⟨t, h2, e3, e4⟩ := bnd_ok e2
  obtain ⟨b, hb, rfl, rfl⟩ := optV_ok e4
  by_cases z : ∃ c fs, d = .obj c fs
  · obtain ⟨c, fs, rfl⟩ := z
    cases e3
    obtain ⟨sc, si⟩ := hO c b hb
    refine .inr ⟨W, h, sl, _, _, rel, rs, e1, fun W1 H1 x ext rel1 rv => ?_⟩
    cases rv with
    | obj f1 f2 ne z1 z2 rr => exact ⟨_, _, _, _, cv, b, rfl, rc, one, slt_obj z1 z2, sc, si, hT _ _ hb, po W1 H1 _ ext rel1 (.bl b)⟩
  · refine .inl ⟨W, h, sl, _, _, rel, rs, e1, fun W1 H1 x ext rel1 rv => ?_⟩
    obtain ⟨rfl, q | ⟨c, fs, q, _⟩⟩ := tagM_ok rel1 rv e3
    · exact ⟨x, cv, _, u, b, rfl, hc, q, hT _ _ hb, po W1 H1 _ ext rel1 (.bl b)⟩
    · exact absurd ⟨c, fs, q⟩ z
/-! ### own operators -/
def ownD (A : Nat → Option (List DV → M DV)) (g : DV → DV → M DV) (x y : DV) : M DV := match x, y with
  | .obj c fs, .obj c' fs' => bnd (optM (A c)) fun k => k [.obj c fs, .obj c' fs']
  | a, b => g a b
def OwnOk (X : Cx) (cl : Cl) (c : Nat) (n : Nat) (m : Str) (k : List DV → M DV) : Prop := ∃ (gf : Addr) (j : Nat), PySem.W.findIn X.K (.ref (cl.ad c)) m = some (some (.ref gf)) ∧ PySem.W.isFn X.K (.ref gf) = true ∧ FnR X.prog X.w X.K X.mg X.base L2.CX0 j gf (spD X.K cl n k) ∧ Room j X.A
theorem o_ownCmp {op : CmpOp} {A : Nat → Option (List DV → M DV)} {g : DV → DV → M DV} (hop : ∀ a b, compareOp op a b = richCompare op a b) (hA : ∀ c k, A c = some k → OwnOk X cl c 2 (cmpInfo op).2.1 k)
    (hf : ∀ c k c', A c = some k → PySem.W.notFirst X.K (cl.ad c) (.ref (cl.ad c')) = true) (hg : O2 cl X (compareOp op) g) : O2 cl X (compareOp op) (ownD A g) := by
  intro pins s σ H x y v u Q I rx ry q
  obtain ⟨W, h, d1, d2, v', h', rel, r1, r2, e, po⟩ := q
  unfold ownD at e
  split at e
  · rename_i c fs c' fs'
    obtain ⟨k, h2, e3, e4⟩ := bnd_ok e
    obtain ⟨hk, rfl⟩ := optM_ok e3
    obtain ⟨gf, j, q1, q2, F, hr⟩ := hA _ _ hk
    have r1' := r1
    have r2' := r2
    cases r1 with
    | obj f1 f2 ne z1 z2 rr =>
      cases r2 with
      | obj f1' f2' ne' z1' z2' rr' =>
        exact SlX.op_own hop q1 q2 F hr L2.pass0 pins s σ H _ _ v u Q I rx ry ⟨_, _, _, _, _, _, _, rfl, rfl, slt_obj z1 z2, slt_obj z1' z2', hf _ _ c' hk, rfl, W, _, _, v', h', rel, .cons r1' (.cons r2' .nil), e4, po⟩
  · exact hg pins s σ H x y v u Q I rx ry ⟨W, h, _, _, v', h', rel, r1, r2, e, po⟩
theorem o_ownBin {op : Operator} {A : Nat → Option (List DV → M DV)} {g : DV → DV → M DV} (hA : ∀ c k, A c = some k → PySem.W.selfFirst X.K (cl.ad c) = true ∧ OwnOk X cl c 2 (PySem.dunder op.info.2) k)
    (hg : O2 cl X (binaryOp op) g) : O2 cl X (binaryOp op) (fun x y => match x, y with
      | .obj c fs, .obj c' fs' => if Nat.beq c c' then bnd (optM (A c)) fun k => k [.obj c fs, .obj c' fs'] else stk
      | a, b => g a b) := by
  intro pins s σ H x y v u Q I rx ry q
  obtain ⟨W, h, d1, d2, v', h', rel, r1, r2, e, po⟩ := q
  dsimp only at e
  split at e
  · rename_i c fs c' fs'
    obtain ⟨hcc, e⟩ := if_ok e
    have hcc := Nat.eq_of_beq_eq_true hcc
    subst hcc
    obtain ⟨k, h2, e3, e4⟩ := bnd_ok e
    obtain ⟨hk, rfl⟩ := optM_ok e3
    obtain ⟨sf, gf, j, q1, q2, F, hr⟩ := hA _ _ hk
    have r1' := r1
    have r2' := r2
    cases r1 with
    | obj f1 f2 ne z1 z2 rr =>
      cases r2 with
      | obj f1' f2' ne' z1' z2' rr' =>
        cases rx
        cases ry
        obtain ⟨sl, od, _, J, _⟩ := slt_inst I (slt_obj z1 z2)
        obtain ⟨sl', od', _, J', _⟩ := slt_inst I (slt_obj z1' z2')
        obtain ⟨m, hF⟩ := I.fr
        refine PySem.W.binop_K (op := op) hF I.ok.mod.kin J J'.type sf q1 q2 (wpAny_mono (wpAny_call (run_fnR (us := [.ref _, .ref _]) (vs := [.ref _, .ref _]) F hr L2.pass0 I (.cons rfl (.cons rfl .nil)) ⟨rfl, W, _, [_, _], v', h', rel, .cons r1' (.cons r2' .nil), e4, po⟩)) (fun w s' z => ?_) fun _ _ x => x)
        obtain ⟨z', H', I', rz, qz⟩ := z
        exact cmpback rz ⟨z', H', I', rz, qz⟩
  · exact hg pins s σ H x y v u Q I rx ry ⟨W, h, _, _, v', h', rel, r1, r2, e, po⟩
theorem o_ownNeg {A : Nat → Option (List DV → M DV)} {g : DV → M DV} (hA : ∀ c k, A c = some k → OwnOk X cl c 1 "__neg__" k) (hg : O1 cl X (unaryOp .USub) g) :
    O1 cl X (unaryOp .USub) (fun x => match x with
      | .obj c fs => bnd (optM (A c)) fun k => k [.obj c fs]
      | a => g a) := by
  intro pins s σ H x v Q I rx q
  obtain ⟨W, h, d1, v', h', rel, r1, e, po⟩ := q
  dsimp only at e
  split at e
  · rename_i c fs
    obtain ⟨k, h2, e3, e4⟩ := bnd_ok e
    obtain ⟨hk, rfl⟩ := optM_ok e3
    obtain ⟨gf, j, q1, q2, F, hr⟩ := hA _ _ hk
    have r1' := r1
    cases r1 with
    | obj f1 f2 ne z1 z2 rr =>
      cases rx
      obtain ⟨sl, od, _, J, _⟩ := slt_inst I (slt_obj z1 z2)
      obtain ⟨m, hF⟩ := I.fr
      exact PySem.W.ksp_neg hF I.ok.mod.kin J q1 q2 (wpAny_call (run_fnR (us := [.ref _]) (vs := [.ref _]) F hr L2.pass0 I (.cons rfl .nil) ⟨rfl, W, _, [_], v', h', rel, .cons r1' .nil, e4, po⟩))
  · exact hg pins s σ H x v Q I rx ⟨W, h, _, v', h', rel, r1, e, po⟩
end
end D
set_option Elab.async false
set_option linter.all false
set_option maxRecDepth 100000
set_option maxHeartbeats 2000000
/-! D12: pots: a callee that is handed one, by itself. -/
namespace D
open PySem PySem.Spec PyProof.Rows L2 SlX
mutual
/-- nothing of the D heap is named -/
def noRef : DV → Bool
  | .ref _ => false
  | .tup xs => noRefs xs
  | .obj _ fs => noRefs fs
  | .fls xs => noRefs xs
  | .exc _ v => noRef v
  | _ => true
def noRefs : List DV → Bool
  | [] => true
  | d :: t => noRef d && noRefs t
end
section
variable {K : PySem.W.Frag} {clO clI : Cl} {W W1 : Wd} {H H1 : Hp} {h h' : Hs}
mutual
theorem RV.by_itself (had : ∀ c, clI.ad c = clO.ad c) (hex : ∀ c, clI.ex c = clO.ex c) (sub : ∀ a, W.F a → W1.F a) (keep : ∀ a, W.F a → H1 a = H a) : ∀ {d : DV} {x : V}, noRef d = true → RV K clO W H d x → RV K clI W1 H1 d x
  | _, _, _, .non => .non
  | _, _, _, .bl b => .bl b
  | _, _, _, .int i => .int i
  | _, _, _, .str s => .str s
  | _, _, q, .ref _ => by cases q
  | _, _, q, .tup f r => by
    refine .tup ?_ (RVs.by_itself had hex sub keep (show noRefs _ = true from q) r)
    rcases f with ⟨f1, f2 | ⟨o, f2⟩⟩ | f
    · exact .inl ⟨sub _ f1, .inl ((keep _ f1).trans f2)⟩
    · exact .inl ⟨sub _ f1, .inr ⟨o, (keep _ f1).trans f2⟩⟩
    · exact .inr f
  | _, _, q, .obj f1 f2 n h1 h2 r => by
    rw [← had] at h1
    exact .obj (sub _ f1) (sub _ f2) n ((keep _ f1).trans h1) ((keep _ f2).trans h2) (RVs.by_itself had hex sub keep (show noRefs _ = true from q) r)
  | _, _, q, .exc f1 f2 n h1 h2 r => by
    rw [← hex] at h1
    exact .exc (sub _ f1) (sub _ f2) n ((keep _ f1).trans h1) ((keep _ f2).trans h2) (RV.by_itself had hex sub keep (show noRef _ = true from q) r)
  | _, _, q, .fls f r => by
    refine .fls ?_ (RVs.by_itself had hex sub keep (show noRefs _ = true from q) r)
    rcases f with ⟨f1, o, f2⟩ | f
    · exact .inl ⟨sub _ f1, o, (keep _ f1).trans f2⟩
    · exact .inr f
  | _, _, _, .scr f => by
    refine .scr ?_
    rcases f with ⟨f1, o, f2⟩ | f
    · exact .inl ⟨sub _ f1, o, (keep _ f1).trans f2⟩
    · exact .inr f
theorem RVs.by_itself (had : ∀ c, clI.ad c = clO.ad c) (hex : ∀ c, clI.ex c = clO.ex c) (sub : ∀ a, W.F a → W1.F a) (keep : ∀ a, W.F a → H1 a = H a) : ∀ {d : List DV} {x : List V}, noRefs d = true → RVs K clO W H d x → RVs K clI W1 H1 d x
  | _, _, _, .nil => .nil
  | _, _, q, .cons a b => by
    have q2 := Bool.and_eq_true_iff.mp (show (noRef _ && noRefs _) = true from q)
    exact .cons (RV.by_itself had hex sub keep q2.1 a) (RVs.by_itself had hex sub keep q2.2 b)
end
theorem rv_flat {d : DV} {x : V} (f : flatD d = true) (r : RV K clI W H d x) : RV K clO W1 H1 d x := by
  cases r <;> first | (cases f; done) | skip
  · exact .non
  · exact .bl _
  · exact .int _
  · exact .str _
/-- a callee that is handed the list at a (the D heap's m), and else only what stands by itself -/
theorem frame_core (had : ∀ c, clI.ad c = clO.ad c) (hex : ∀ c, clI.ex c = clO.ex c) (hTO : clO.T = []) (hTI : clI.T = []) {m : Nat} {a dx : Addr} {o o' oI oE : DO} {g : List DV → M DV} {rest : List DV} {xs : List V} {v : DV} {hs : Hs} {Q : VK}
    (rel : HRel K clO W h H) (hm : W.ρ[m]? = some (a, dx)) (he : h[m]? = some o) (nf : ¬ W.F a) (ha : ∃ ys, H a = some (.lst ys)) (hI : ∀ Ws : Wd, ¬ Ws.F a → DOk K clI Ws H a dx oI) (n1 : ∀ c fs, oI ≠ .ins c fs) (n2 : ∀ c fs, o' ≠ .ins c fs)
    (r : RVs K clO W H rest xs) (nr : noRefs rest = true) (run : g (.ref 0 :: rest) [oI] = .ok v (oE :: hs)) (fv : flatD v = true)
    (post : ∀ (W' : Wd) (H' : Hp), DOk K clI W' H' a dx oE → ∀ W2 : Wd, ¬ W2.F a → DOk K clO W2 H' a dx o') (nE : ∀ (W' : Wd) (H' : Hp), DOk K clI W' H' a dx oE → ∃ ys, H' a = some (.lst ys)) (po : Po K clO W H (h.set m o') v Q) : rDL K clI g (.ref a :: xs) H Q := by
  obtain ⟨ys, hys⟩ := ha
  let Ws : Wd := ⟨[(a, dx)], fun b => b ≠ a ∧ ∃ u, H b = some u⟩
  have sub : ∀ b, W.F b → Ws.F b := fun b q => ⟨fun z => nf (by rw [← z]; exact q), rel.tr b q⟩
  have rs : HRel K clI Ws [oI] H := by
    refine ⟨rfl, by simp [Ws], fun b q => q.2, fun p hp => ?_, fun n d' b dy h1 h2 => ?_, fun n k c c' fs fs' b d1 b' d2 h1 h2 h3 h4 hnk => ?_, fun p hp => (by rw [hTI] at hp; cases hp), fun t0 => absurd hTI t0⟩
    · rw [List.mem_singleton.mp hp]; exact ⟨_, hys, fun _ z => by cases z⟩
    · have hn := (List.getElem?_eq_some_iff.mp h1).1
      have e0 : n = 0 := by simpa using hn
      subst e0
      cases h1
      cases h2
      exact hI Ws fun q => q.1 rfl
    · have hn := (List.getElem?_eq_some_iff.mp h1).1
      have e0 : n = 0 := by simpa using hn
      subst e0
      cases h1
      exact absurd rfl (n1 c fs)
  refine ⟨Ws, [oI], .ref 0 :: rest, v, oE :: hs, rs, .cons (.ref (d := dx) rfl) (r.by_itself had hex sub (fun _ _ => rfl) nr), run, fun W' H' x ext rel' rv => ?_⟩
  have at0 := ext.pre 0 (a, dx) rfl
  have okE := rel'.ok 0 oE a dx rfl at0
  obtain ⟨zs, hzs⟩ := nE W' H' okE
  have kept : ∀ b u, b ≠ a → H b = some u → H' b = some u := fun b u nb q => (ext.keep b ⟨nb, u, q⟩).trans q
  let W2 : Wd := ⟨W.ρ, fun b => W.F b ∨ (W'.F b ∧ H b = none)⟩
  have nf2 : ¬ W2.F a := fun q => by
    rcases q with q | ⟨_, q⟩
    · exact nf q
    · rw [hys] at q; cases q
  have ext2 : Ext W H W2 H' := ⟨fun _ _ q => q, fun _ q => .inl q, fun b q => ext.keep b (sub b q), fun _ _ q => .inl q⟩
  refine po W2 H' x ext2 ⟨by rw [List.length_set]; exact rel.len, rel.nd, fun b q => ?_, fun p hp => ?_, fun n d' b dy h1 h2 => ?_, fun n k c c' fs fs' b d1 b' d2 h1 h2 h3 h4 hnk => ?_, fun p hp => (by rw [hTO] at hp; cases hp), fun t0 => absurd hTO t0⟩ (rv_flat fv rv)
  · rcases q with q | ⟨q, _⟩
    · obtain ⟨u, hu⟩ := rel.tr b q
      exact ⟨u, kept b u (sub b q).1 hu⟩
    · exact rel'.tr b q
  · by_cases z : p.1 = a
    · exact ⟨_, by rw [z]; exact hzs, fun _ z => by cases z⟩
    · obtain ⟨u, hu, nu⟩ := rel.tr2 p hp
      exact ⟨u, kept _ u z hu, nu⟩
  · by_cases hn : n = m
    · subst hn
      have h2 : W.ρ[n]? = some (b, dy) := h2
      rw [hm] at h2
      cases h2
      have : n < h.length := (List.getElem?_eq_some_iff.mp he).1
      rw [List.getElem?_set_self this] at h1
      cases h1
      exact post W' H' okE W2 nf2
    · rw [List.getElem?_set_ne (Ne.symm hn)] at h1
      have q := rel.ok n d' b dy h1 h2
      have nb : b ≠ a := fun z => hn (rel.inj (a := a) (by rw [← z]; exact h2) hm)
      have nfb : ∀ c, (∃ u, H c = some u) → ¬ W.F c → ¬ W2.F c := fun c ⟨u, hu⟩ f z => by
        rcases z with z | ⟨_, z⟩
        · exact f z
        · rw [hu] at z; cases z
      cases d' with
      | lst ds =>
        obtain ⟨k1, xs, k2, k3⟩ := q
        exact ⟨nfb b ⟨_, k2⟩ k1, xs, kept _ _ nb k2, k3.mono ext2⟩
      | dic ds =>
        obtain ⟨k1, xs, k2, k3⟩ := q
        exact ⟨nfb b ⟨_, k2⟩ k1, xs, kept _ _ nb k2, k3.mono ext2⟩
      | dfz ds =>
        obtain ⟨k1, od, xs, k2, k3⟩ := q
        exact ⟨.inl k1, od, xs, kept _ _ nb k2, k3.mono ext2⟩
      | pot k ds =>
        obtain ⟨k1, i, j, l, k2, k3⟩ := q
        exact ⟨nfb b ⟨_, k2⟩ k1, i, j, l, kept _ _ nb k2, k3⟩
      | dead => exact True.intro
      | ins c0 f0 =>
        obtain ⟨k1, k2, k3, ⟨u, hu, ow⟩, vs, sl, k4⟩ := q
        have ndy : dy ≠ a := fun z => by
          rw [z, hys] at hu
          cases hu
          rcases ow with ⟨_, ow⟩ | ow <;> cases ow
        have hb : ∃ w, H b = some w := by
          rcases sl with ⟨q, _⟩ | ⟨q, _⟩
          · exact ⟨_, q⟩
          · exact ⟨_, q⟩
        refine ⟨nfb b hb k1, nfb dy ⟨u, hu⟩ k2, k3, ⟨u, kept _ _ ndy hu, ow⟩, vs, ?_, k4.mono ext2⟩
        rcases sl with ⟨q1, q2⟩ | ⟨q1, q2⟩
        · exact .inl ⟨kept _ _ nb q1, q2⟩
        · exact .inr ⟨kept _ _ nb q1, kept _ _ ndy q2⟩
  · have back : ∀ {j : Nat} {cc : Nat} {ff : List (Option DV)}, (h.set m o')[j]? = some (.ins cc ff) → h[j]? = some (.ins cc ff) := fun {j cc ff} z => by
      by_cases hj : j = m
      · subst hj
        have : j < h.length := (List.getElem?_eq_some_iff.mp he).1
        rw [List.getElem?_set_self this] at z
        cases z
        exact absurd rfl (n2 cc ff)
      · rw [List.getElem?_set_ne (Ne.symm hj)] at z
        exact z
    exact rel.sep n k c c' fs fs' b d1 b' d2 (back h1) (back h2) h3 h4 hnk
/-! ### draws -/
/-- one take: the pot's three numbers, how many, the digit, the numbers behind it -/
def Tk (tk : List DV → M DV) (i j c : Int) (u d : Nat) (i' j' c' : Int) : Prop := ∃ hs, tk [.ref 0, .int u] [.lst [.int i, .int j, .int c]] = .ok (.int d) (.lst [.int i', .int j', .int c'] :: hs)
def PotSt (n : Nat) (j c : Int) : Prop := 0 ≤ j ∧ j < 4611686018427387904 ∧ 0 ≤ c ∧ c ≤ n
/-- these draws come -/
def Drw (tk : List DV → M DV) : Nat → List (Nat × Nat) → Int → Int → Int → Prop
  | n, [], _, j, c => PotSt n j c
  | n, (u, d) :: L, i, j, c => PotSt n j c ∧ ∃ i' j' c', Tk tk i j c u d i' j' c' ∧ Drw tk (n + 1) L i' j' c'
/-- the classes at ad, pots of these takes, c0 takes ahead -/
def clP (ad : Nat → Addr) (tk : List DV → M DV) (c0 : Nat) : Cl := ⟨ad, fun n L i j c => Drw tk (c0 + n) L i j c, fun _ => 0, []⟩
theorem Drw.st {tk : List DV → M DV} : ∀ {n : Nat} {L : List (Nat × Nat)} {i j c : Int}, Drw tk n L i j c → PotSt n j c
  | _, [], _, _, _, x => x
  | _, _ :: _, _, _, _, x => x.1
/-- a take, by its pot -/
def takeD (ds : List DV) : M DV := fun h => match ds with
  | [.ref m, .int u] => (match h[m]? with
    | some (.pot n ((u', d) :: L)) => if decide (u = (u' : Int)) then .ok (.int d) (h.set m (.pot (n + 1) L)) else .stuck
    | _ => .stuck)
  | _ => .stuck
variable {P : Program} {w : World} {mg : Str → Option Value} {base : Heap}
theorem take_ok {ad : Nat → Addr} {tk : List DV → M DV} {c0 k : Nat} {f : Addr} (F : FnD P w K mg base (clP ad tk c0) k f 2 tk) : FnD P w K mg base (clP ad tk c0) k f 2 takeD := by
  obtain ⟨fd, ps, F, b⟩ := F
  refine ⟨fd, ps, F.imp (fun vs H Q E q => ⟨q.1, ?_⟩), b⟩
  obtain ⟨_, W, h, ds, v, h', rel, rv, e, po⟩ := q
  unfold takeD at e
  split at e
  · rename_i m u
    obtain ⟨x, y, rfl, rx, ry⟩ := rv.two
    cases q : h[m]? with
    | none => rw [q] at e; cases e
    | some o =>
      rw [q] at e
      cases o <;> first | (cases e; done) | skip
      rename_i n L
      cases L with
      | nil => cases e
      | cons p L =>
        obtain ⟨u', d⟩ := p
        have e : (if decide (u = (u' : Int)) then R.ok (DV.int d) (h.set m (.pot (n + 1) L)) else .stuck) = R.ok v h' := e
        split at e
        · rename_i hu
          have hu := of_decide_eq_true hu
          cases e
          cases rx with
          | ref hm =>
            obtain ⟨nf, i, j, c, hx, hp, i', j', c', ⟨hs, ht⟩, hd⟩ := rel.ok m _ _ _ q hm
            have ry' := ry
            cases ry
            subst hu
            refine frame_core (fun _ => rfl) (fun _ => rfl) rfl rfl rel hm q nf ⟨_, hx⟩ (oI := .lst [.int i, .int j, .int c]) (fun Ws n => ⟨n, _, hx, .cons (.int _) (.cons (.int _) (.cons (.int _) .nil))⟩) (fun _ _ z => by cases z) (fun _ _ z => by cases z) (.cons ry' .nil) rfl ht rfl (fun W' H' ok W2 n2 => ?_) (fun W' H' ok => ?_) po
            · obtain ⟨_, zs, hz, rz⟩ := ok
              have := intsOf_ok (bs := [i', j', c']) rfl rz
              subst this
              exact ⟨n2, i', j', c', hz, by rw [Nat.add_assoc] at hd; exact hd⟩
            · obtain ⟨_, zs, hz, rz⟩ := ok
              exact ⟨zs, hz⟩
        · cases e
  · cases e
/-! ### a callee that only draws: by all its draws -/
/-- all draws of a tree: at each node the number of its branches is asked for -/
inductive Tr where
  | leaf
  | nd (ts : List Tr)
/-- what holds of all draws holds of the pot -/
def pots (inc : Nat) (g : List DV → M DV) (rest : List DV) (v : DV) (L : List (Nat × Nat)) : Prop := ∃ k' hs, g (.ref 0 :: rest) [.pot 0 L] = .ok v (.pot k' [] :: hs) ∧ k' ≤ inc
/-- every pot has draws that G says -/
def AnyPot (tk : List DV → M DV) (c0 : Nat) (G : List (Nat × Nat) → Prop) : Prop := ∀ i j c, PotSt c0 j c → ∃ L, Drw tk c0 L i j c ∧ G L
def frameD (inc : Nat) (G : List DV → Option DV) (ds : List DV) : M DV := fun h => match ds with
  | .ref m :: rest => (match h[m]? with
    | some (.pot k []) => (match G rest with
      | some v => if Nat.ble k 1000000 then .ok v (h.set m (.pot (k + inc) [])) else .stuck
      | none => .stuck)
    | _ => .stuck)
  | _ => .stuck
theorem potSt_mono {n m : Nat} {j c : Int} (x : PotSt n j c) (h : n ≤ m) : PotSt m j c := ⟨x.1, x.2.1, x.2.2.1, by have := x.2.2.2; omega⟩
theorem frame_sp {ad : Nat → Addr} {tk : List DV → M DV} {c0 n inc : Nat} {g : List DV → M DV} {G : List DV → Option DV} {vs : List V} {Q : VK} {E : XK} (hc : c0 ≤ 1000000)
    (hG : ∀ rest v, G rest = some v → noRefs rest = true ∧ flatD v = true ∧ ∀ c1, c1 ≤ 2000000 → AnyPot tk c1 (pots inc g rest v)) (q : spD K (clP ad tk c0) n (frameD inc G) vs H Q E) : ∃ c1, c1 ≤ 2000000 ∧ spD K (clP ad tk c1) n g vs H Q E := by
  obtain ⟨hl, W, h, ds, v, h', rel, rv, e, po⟩ := q
  unfold frameD at e
  cases ds with
  | nil => cases e
  | cons d rest =>
    cases d <;> first | (cases e; done) | skip
    rename_i m
    have e : (match h[m]? with
      | some (.pot k []) => (match G rest with
        | some v => if Nat.ble k 1000000 then R.ok v (h.set m (.pot (k + inc) [])) else .stuck
        | none => .stuck)
      | _ => .stuck) = R.ok v h' := e
    cases q : h[m]? with
    | none => rw [q] at e; cases e
    | some o =>
      rw [q] at e
      cases o <;> first | (cases e; done) | skip
      rename_i k L
      cases L with
      | cons p L => cases e
      | nil =>
        have e : (match G rest with
          | some v => if Nat.ble k 1000000 then R.ok v (h.set m (.pot (k + inc) [])) else .stuck
          | none => .stuck) = R.ok v h' := e
        cases qG : G rest with
        | none => rw [qG] at e; cases e
        | some v0 =>
          rw [qG] at e
          have e : (if Nat.ble k 1000000 then R.ok v0 (h.set m (.pot (k + inc) [])) else .stuck) = R.ok v h' := e
          split at e
          · rename_i hk
            have hk := Nat.le_of_ble_eq_true hk
            cases e
            obtain ⟨nr, fv, any⟩ := hG rest _ qG
            refine ⟨c0 + k, by omega, hl, ?_⟩
            cases rv with
            | cons rm rr =>
              cases rm with
              | ref hm =>
                obtain ⟨nf, i, j, c, hx, hp⟩ := rel.ok m _ _ _ q hm
                obtain ⟨L, hL, k', hs, run, hk'⟩ := any (c0 + k) (by omega) i j c hp
                refine frame_core (clO := clP ad tk c0) (clI := clP ad tk (c0 + k)) (oI := .pot 0 L) (o' := .pot (k + inc) []) (fun _ => rfl) (fun _ => rfl) rfl rfl rel hm q nf ⟨_, hx⟩ (fun Ws n => ⟨n, i, j, c, hx, hL⟩) (fun _ _ z => by cases z) (fun _ _ z => by cases z) rr nr run fv (fun W' H' ok W2 n2 => ?_) (fun W' H' ok => ?_) po
                · obtain ⟨_, i', j', c', hz, hd⟩ := ok
                  exact ⟨n2, i', j', c', hz, potSt_mono (show PotSt (c0 + k + k') j' c' from hd) (by omega)⟩
                · obtain ⟨_, i', j', c', hz, _⟩ := ok
                  exact ⟨_, hz⟩
          · cases e
theorem frame_ok {ad : Nat → Addr} {tk : List DV → M DV} {c0 k n inc : Nat} {f : Addr} {fd : FuncData} {ps : List Str} {g : List DV → M DV} {G : List DV → Option DV} (hc : c0 ≤ 1000000) (F : ∀ c1, c1 ≤ 2000000 → FnOk P w K mg base L2.CX0 k f fd ps (spD K (clP ad tk c1) n g)) (b : Binds K fd ps [])
    (hG : ∀ rest v, G rest = some v → noRefs rest = true ∧ flatD v = true ∧ ∀ c1, c1 ≤ 2000000 → AnyPot tk c1 (pots inc g rest v)) : FnD P w K mg base (clP ad tk c0) k f n (frameD inc G) := by
  refine ⟨fd, ps, ⟨fun vs H Q E q => ?_, fun A outer s H args us vs Q E hr e0 hb r q => ?_⟩, b⟩
  · obtain ⟨c1, h1, z⟩ := frame_sp hc hG q
    exact (F c1 h1).len vs H Q E z
  · obtain ⟨c1, h1, z⟩ := frame_sp hc hG q
    exact (F c1 h1).run A outer s H args us vs Q E hr e0 hb r z
/-- the first one: the pot has just been made -/
def topD (G : List DV → Option DV) (ds : List DV) : M DV := fun h => match ds with
  | .ref m :: rest => (match h[m]? with
    | some (.lst [.int _, .int j, .int c]) => (match G rest with
      | some v => if decide (0 ≤ j) && (decide (j < 4611686018427387904) && decide (c = 0)) then .ok v (h.set m .dead) else .stuck
      | none => .stuck)
    | _ => .stuck)
  | _ => .stuck
theorem top_sp {ad : Nat → Addr} {tk : List DV → M DV} {c0 n inc : Nat} {g : List DV → M DV} {G : List DV → Option DV} {vs : List V} {Q : VK} {E : XK}
    (hG : ∀ rest v, G rest = some v → noRefs rest = true ∧ flatD v = true ∧ ∀ c1, c1 ≤ 2000000 → AnyPot tk c1 (pots inc g rest v)) (q : spD K (clP ad tk c0) n (topD G) vs H Q E) : spD K (clP ad tk 0) n g vs H Q E := by
  obtain ⟨hl, W, h, ds, v, h', rel, rv, e, po⟩ := q
  unfold topD at e
  split at e
  · rename_i m rest
    split at e
    · rename_i i j c hq
      split at e
      · rename_i v0 qG
        split at e
        · rename_i hk
          obtain ⟨k1, k2⟩ := Bool.and_eq_true_iff.mp hk
          obtain ⟨k4, k3⟩ := Bool.and_eq_true_iff.mp k2
          replace k1 := of_decide_eq_true k1
          replace k4 := of_decide_eq_true k4
          replace k3 := of_decide_eq_true k3
          subst k3
          cases e
          obtain ⟨nr, fv, any⟩ := hG rest _ qG
          refine ⟨hl, ?_⟩
          cases rv with
          | cons rm rr =>
            cases rm with
            | ref hm =>
              obtain ⟨nf, xs, hx, rx⟩ := rel.ok m _ _ _ hq hm
              have := intsOf_ok (bs := [i, j, 0]) rfl rx
              subst this
              obtain ⟨L, hL, k', hs, run, hk'⟩ := any 0 (by omega) i j 0 ⟨k1, k4, by omega, by omega⟩
              refine frame_core (clO := clP ad tk c0) (clI := clP ad tk 0) (oI := .pot 0 L) (o' := .dead) (fun _ => rfl) (fun _ => rfl) rfl rfl rel hm hq nf ⟨_, hx⟩ (fun Ws n => ⟨n, i, j, 0, hx, hL⟩) (fun _ _ z => by cases z) (fun _ _ z => by cases z) rr nr run fv (fun W' H' ok W2 n2 => True.intro) (fun W' H' ok => ?_) po
              obtain ⟨_, i', j', c', hz, _⟩ := ok
              exact ⟨_, hz⟩
        · cases e
      · cases e
    · cases e
  · cases e
theorem top_ok {ad : Nat → Addr} {tk : List DV → M DV} {c0 k n inc : Nat} {f : Addr} {g : List DV → M DV} {G : List DV → Option DV} (F : FnD P w K mg base (clP ad tk 0) k f n g)
    (hG : ∀ rest v, G rest = some v → noRefs rest = true ∧ flatD v = true ∧ ∀ c1, c1 ≤ 2000000 → AnyPot tk c1 (pots inc g rest v)) : FnD P w K mg base (clP ad tk c0) k f n (topD G) := by
  obtain ⟨fd, ps, F, b⟩ := F
  exact ⟨fd, ps, F.imp fun vs H Q E q => top_sp hG q, b⟩
/-! trees of draws -/
mutual
def trAll (f : List (Nat × Nat) → Bool) : Tr → List (Nat × Nat) → Bool
  | .leaf, acc => f acc.reverse
  | .nd ts, acc => trAlls f ts ts.length 0 acc
def trAlls (f : List (Nat × Nat) → Bool) : List Tr → Nat → Nat → List (Nat × Nat) → Bool
  | [], _, _, _ => true
  | t :: ts, u, d, acc => trAll f t ((u, d) :: acc) && trAlls f ts u (d + 1) acc
end
/-- takes of at least one, at most so many, come to something -/
def TkAll (tk : List DV → M DV) : Prop := ∀ (n u : Nat) (i j c : Int), n ≤ 4000000 → 1 ≤ u → u ≤ 1000000 → PotSt n j c → ∃ d, d < u ∧ ∃ i' j' c', Tk tk i j c u d i' j' c' ∧ PotSt (n + 1) j' c'
mutual
def trOk : Tr → Bool
  | .leaf => true
  | .nd ts => (Nat.blt 0 ts.length && Nat.ble ts.length 1000000) && trOks ts
def trOks : List Tr → Bool
  | [] => true
  | t :: ts => trOk t && trOks ts
end
def trDeep : Nat → Tr → Bool
  | _, .leaf => true
  | 0, .nd _ => false
  | n + 1, .nd ts => ts.all (trDeep n)
theorem trAlls_get {f : List (Nat × Nat) → Bool} {acc : List (Nat × Nat)} {u : Nat} : ∀ {ts : List Tr} {b d : Nat} {t : Tr}, trAlls f ts u b acc = true → ts[d]? = some t → trAll f t ((u, b + d) :: acc) = true
  | [], _, _, _, _, e => by simp at e
  | t0 :: ts, b, 0, t, h, e => by
    have e : t0 = t := by simpa using e
    subst e
    exact (Bool.and_eq_true_iff.mp (show (trAll f t0 ((u, b) :: acc) && trAlls f ts u (b + 1) acc) = true from h)).1
  | t0 :: ts, b, d + 1, t, h, e => by
    have h2 := (Bool.and_eq_true_iff.mp (show (trAll f t0 ((u, b) :: acc) && trAlls f ts u (b + 1) acc) = true from h)).2
    have := trAlls_get h2 (by simpa using e : ts[d]? = some t)
    rw [show b + (d + 1) = b + 1 + d by omega]
    exact this
theorem trOks_get : ∀ {ts : List Tr} {d : Nat} {t : Tr}, trOks ts = true → ts[d]? = some t → trOk t = true
  | [], _, _, _, e => by simp at e
  | t0 :: ts, 0, t, h, e => by
    have e : t0 = t := by simpa using e
    subst e
    exact (Bool.and_eq_true_iff.mp (show (trOk t0 && trOks ts) = true from h)).1
  | t0 :: ts, d + 1, t, h, e => trOks_get (Bool.and_eq_true_iff.mp (show (trOk t0 && trOks ts) = true from h)).2 (by simpa using e)
theorem tree_any {tk : List DV → M DV} (hT : TkAll tk) {f : List (Nat × Nat) → Bool} : ∀ (b : Nat) (t : Tr), trDeep b t = true → trOk t = true → ∀ (n : Nat) (acc : List (Nat × Nat)) (i j c : Int), n + b ≤ 4000000 → PotSt n j c → trAll f t acc = true → ∃ L, Drw tk n L i j c ∧ f (acc.reverse ++ L) = true
  | b, .leaf, _, _, n, acc, i, j, c, _, st, h => ⟨[], st, by rw [List.append_nil]; exact h⟩
  | 0, .nd ts, hd, _, _, _, _, _, _, _, _, _ => by cases hd
  | b + 1, .nd ts, hd, ho, n, acc, i, j, c, hn, st, h => by
    obtain ⟨o1, o2⟩ := Bool.and_eq_true_iff.mp (show ((Nat.blt 0 ts.length && Nat.ble ts.length 1000000) && trOks ts) = true from ho)
    obtain ⟨o3, o4⟩ := Bool.and_eq_true_iff.mp o1
    obtain ⟨d, hdu, i', j', c', t1, t2⟩ := hT n ts.length i j c (by omega) (Nat.blt_eq.mp o3) (Nat.le_of_ble_eq_true o4) st
    have hg : ts[d]? = some ts[d] := List.getElem?_eq_getElem hdu
    have a1 := trAlls_get (b := 0) (show trAlls f ts ts.length 0 acc = true from h) hg
    rw [Nat.zero_add] at a1
    have dd : trDeep b ts[d] = true := List.all_eq_true.mp (show ts.all (trDeep b) = true from hd) _ (List.getElem_mem hdu)
    obtain ⟨L, l1, l2⟩ := tree_any hT b ts[d] dd (trOks_get o2 hg) (n + 1) _ i' j' c' (by omega) t2 a1
    refine ⟨(ts.length, d) :: L, ⟨st, i', j', c', t1, l1⟩, ?_⟩
    rw [List.reverse_cons, List.append_assoc] at l2
    exact l2
def eqR (inc : Nat) (b : Bool) (r : R DV) : Bool := match r with
  | .ok (.bl b') (.pot k [] :: _) => (b == b') && Nat.ble k inc
  | _ => false
/-- G by a tree for the rest of the arguments: the callee tells b at all draws -/
def byTree (inc : Nat) (g : List DV → M DV) (b : Bool) (tr : List DV → Option Tr) (rest : List DV) : Option DV := match tr rest with
  | some t => if noRefs rest && (trDeep 1000 t && (trOk t && trAll (fun L => eqR inc b (g (.ref 0 :: rest) [.pot 0 L])) t [])) then some (.bl b) else none
  | none => none
theorem byTree_ok {tk : List DV → M DV} (hT : TkAll tk) {inc : Nat} {g : List DV → M DV} {b : Bool} {tr : List DV → Option Tr} : ∀ rest v, byTree inc g b tr rest = some v → noRefs rest = true ∧ flatD v = true ∧ ∀ c1, c1 ≤ 2000000 → AnyPot tk c1 (pots inc g rest v) := fun rest v e => by
  unfold byTree at e
  split at e
  · rename_i t ht
    split at e
    · rename_i c
      cases e
      obtain ⟨c1, c2⟩ := Bool.and_eq_true_iff.mp c
      obtain ⟨c2, c3⟩ := Bool.and_eq_true_iff.mp c2
      obtain ⟨c3, c4⟩ := Bool.and_eq_true_iff.mp c3
      refine ⟨c1, rfl, fun n hn i j c st => ?_⟩
      obtain ⟨L, l1, l2⟩ := tree_any hT 1000 t c2 c3 n [] i j c (by omega) st c4
      refine ⟨L, l1, ?_⟩
      have l2 : eqR inc b (g (.ref 0 :: rest) [.pot 0 L]) = true := l2
      unfold eqR at l2
      split at l2
      · rename_i b' k hs er
        obtain ⟨z1, z2⟩ := Bool.and_eq_true_iff.mp l2
        have z1 := beq_iff_eq.mp z1
        subst z1
        exact ⟨k, hs, er, Nat.le_of_ble_eq_true z2⟩
      · cases l2
    · cases e
  · cases e
end
end D
set_option Elab.async false
set_option linter.all false
set_option maxRecDepth 100000
set_option maxHeartbeats 2000000
/-! D13: xs[i] = v; max, min; a def by its data; globals. -/
namespace D
open PySem PySem.Spec PyProof.Rows L2 SlX
section
variable {K : PySem.W.Frag} {cl : Cl} {W W1 : Wd} {H H1 : Hp} {h h' : Hs} {X : Cx} {pos : Pos} {o i e : Expr} {mo mi me : Ex}
def sSub (mo mi me : Ex) : Sx := fun sl => bnd (me sl) fun v => bnd (mo sl) fun d => bnd (mi sl) fun k => bnd (refOf d) fun n => bnd (lsAt n) fun xs => match k with
  | .int k => bnd (optM (ixN xs.length k)) fun j => fun h => .ok (.nx, sl) (h.set n (.lst (xs.set j v)))
  | _ => stk
theorem ds_sub {pos' : Pos} (he : DE cl X e me) (ho : DE cl X o mo) (hi : DE cl X i mi)
    (ha : ∀ v, assign (.Subscript o i pos') X.env v = (do
      let ov ← holding [v] (eval o X.env)
      let iv ← holding [v, ov] (eval i X.env)
      standAt pos'
      holding [v, ov, iv] (setItem ov iv v)
      release [v, ov, iv] []) := by intro _; rfl)
    (hs : swapsWithSole [.Subscript o i pos'] e pos.line X.env = pure false := by rfl) (hw : swappedStores [.Subscript o i pos'] e X.env = pure none := by rfl)
    (h1 : (assignEach [.Subscript o i pos'] X.env).map (·.2) = [assign (.Subscript o i pos') X.env] := by rfl) : DS cl X (.Assign [.Subscript o i pos'] e pos) (sSub mo mi me) :=
  (ps_asg he (pg_sub ho hi set_list ha) hs hw h1).mono fun D σ H q => by
  obtain ⟨W, h, sl, fl, sl', h', rel, rs, e, po⟩ := q
  obtain ⟨v, h1, e1, e2⟩ := bnd_ok e
  obtain ⟨d, h2, e3, e4⟩ := bnd_ok e2
  obtain ⟨k, h3, e5, e6⟩ := bnd_ok e4
  obtain ⟨n, h4, e7, e8⟩ := bnd_ok e6
  obtain ⟨rfl, rfl⟩ := refOf_ok e7
  obtain ⟨xs, h5, e9, e10⟩ := bnd_ok e8
  obtain ⟨rfl, hn⟩ := lsAt_ok e9
  cases k <;> first | (cases e10; done) | skip
  rename_i k
  obtain ⟨j, h6, e11, e12⟩ := bnd_ok e10
  obtain ⟨hj, rfl⟩ := optM_ok e11
  cases e12
  refine ⟨W, h, sl, v, h1, rel, rs, e1, fun W1 H1 y ext1 rel1 ry => ⟨W1, h1, sl, _, h2, rel1, rs.mono ext1, e3, fun W2 H2 z ext2 rel2 rz => ⟨W2, h2, sl, _, _, rel2, (rs.mono ext1).mono ext2, e5, fun W3 H3 w ext3 rel3 rw => ?_⟩⟩⟩
  cases rw
  cases rz with
  | ref hr =>
    have hr3 := ext3.pre _ _ hr
    obtain ⟨nf, ys, hy, rys⟩ := rel3.lst hn hr3
    obtain ⟨ex4, rel4⟩ := ref_wr rel3 hn hr3 (RVs.set ((ry.mono ext2).mono ext3) j rys)
    have ext := (((ext1.trans ext2).trans ext3).trans ex4)
    exact ⟨_, ys, k, j, rfl, rfl, hy, by rw [← rys.length]; exact hj, po W3 _ σ ext rel4 (rs.mono ext)⟩
def maxD (ds : List DV) : M DV := match ds with
  | [.int i, .int j] => ret (.int (if j > i then j else i))
  | _ => stk
theorem c_max (hc : X.calm = true) : CD cl X (.builtin "max") maxD := by
  intro pins s σ H xs us Q I rv q
  obtain ⟨W, h, ds, v', h', rel, r, e, po⟩ := q
  unfold maxD at e
  split at e
  · have := r.i2
    subst this
    cases e
    exact call_max2 hc pins s σ H _ us Q I rv ⟨_, _, rfl, po.now rel (.int _)⟩
  · cases e
def minD (ds : List DV) : M DV := match ds with
  | [.int i, .int j] => ret (.int (if j < i then j else i))
  | _ => stk
theorem c_min (hc : X.calm = true) : CD cl X (.builtin "min") minD := by
  intro pins s σ H xs us Q I rv q
  obtain ⟨W, h, ds, v', h', rel, r, e, po⟩ := q
  unfold minD at e
  split at e
  · have := r.i2
    subst this
    cases e
    exact call_min2 hc pins s σ H _ us Q I rv ⟨_, _, rfl, po.now rel (.int _)⟩
  · cases e
/-- a def, by its data -/
theorem d_defD {P : Program} {w : World} {mg : Str → Option Value} {base : Heap} {x qual : Str} {params : Arguments} {body : List Stmt} {scope : Scope} {f : Addr} {fd : FuncData} {N ps : List Str} {k n : Nat} {b : Sx} (F : FunD K x qual params body scope [] [] f fd) (S : FnScope N ps scope) (hn : ps.length = n) (hl : n ≤ N.length)
    (hb : ∀ (cdv : Value) (A : Around) (outer : List Env) (s : Shared) (H : Hp) (E : XK), Room k (A.deeper (envOfC qual scope s.heap.objs.size f cdv)) → DSs cl (cxOf L2.CX0 P w K mg base N qual scope f cdv A outer s H E).nox body b) :
    FnOk P w K mg base L2.CX0 (k + 1) f fd ps (spD K cl n (runF N.length b)) := by
  subst hn
  exact F.ok S (fun vs H Q E q => q.1) fun cdv A outer s H vs Q E hr q => ⟨tS K cl b, PSs.nox (hb cdv A outer s H E hr), run_spD hl q⟩
/-- a text, a number of the module -/
theorem de_gstr {x : Str} {z : List Nat} {p : Pos} (hg : Gl X x) (hm : ∃ t, X.mg x = some (.str (SX.S z) t)) (hd : (x == ("__debug__" : Str)) = false := by decide) : DE cl X (.Name x p) (eC (.str z)) := by
  obtain ⟨t, hm⟩ := hm
  exact de_c (pe_glob hg hm (show RelV (.str (SX.S z)) (.str (SX.S z) t) from ⟨t, rfl⟩) hd) fun _ _ => .str z
theorem de_gint {x : Str} {z : Int} {p : Pos} (hg : Gl X x) (hm : ∃ t, X.mg x = some (.int z t)) (hd : (x == ("__debug__" : Str)) = false := by decide) : DE cl X (.Name x p) (eC (.int z)) := by
  obtain ⟨t, hm⟩ := hm
  exact de_c (pe_glob hg hm (show RelV (.int z) (.int z t) from ⟨t, rfl⟩) hd) fun _ _ => .int z
end
end D
set_option Elab.async false
set_option linter.all false
set_option maxRecDepth 100000
set_option maxHeartbeats 2000000
/-! D14: facts of the head: classes with slots, properties, written dicts. -/
namespace D
open PySem PySem.Spec PyProof.Rows L2 SlX He
section
variable {K : PySem.W.Frag}
/-! ### a def at any address -/
def fnA (K : PySem.W.Frag) (a : Addr) : FnW := match K.lookup a with
  | some ⟨_, _, .func fd, _⟩ => some (fd.name, fd.qualname, fd.params, fd.body, fd.scope, fd.globals, fd.closure, fd.builtins)
  | _ => none
def okA (K : PySem.W.Frag) (a : Addr) (d : DefD) : Bool := PySem.W.keepIn K (.ref a) && (match K.lookup a with
  | some ⟨_, _, .func fd, _⟩ => PySem.W.codeIn K fd.code d.qual && (dflB K fd.defaults (d.dvs K) && kwdB K fd.kwdefaults (d.kws K))
  | _ => false)
theorem funA {d : DefD} {a : Addr} (e : fnA K a = d.val) (c : okA K a d = true) : ∃ fd, FunD K d.name d.qual d.params d.body d.scope (d.dvs K) (d.kws K) a fd := by
  obtain ⟨kp, c2⟩ := ba c
  unfold fnA at e
  cases q : K.lookup a with
  | none => rw [q] at c2; cases c2
  | some ob =>
    obtain ⟨o1, o2, o3, o4⟩ := ob
    rw [q] at c2 e
    cases o3 with
    | func fd =>
      obtain ⟨m1, m2, m3, m4, m5, m6, m7, m8, m9, m10, m11, m12, m13, m14, m15⟩ := fd
      have e2 : (some (m1, m2, m3, m4, m5, m6, m7, m15) : FnW) = some (d.name, d.qual, d.params, .stmts d.body, d.scope, mainGlobals, [], builtinsNs) := e
      simp only [Option.some.injEq, Prod.mk.injEq] at e2
      obtain ⟨t1, t2, t3, t4, t5, t6, t7, t8⟩ := e2
      subst t1 t2 t3 t4 t5 t6 t7 t8
      obtain ⟨k1, k2⟩ := ba (show (PySem.W.codeIn K m13 d.qual && (dflB K m8 (d.dvs K) && kwdB K m9 (d.kws K))) = true from c2)
      obtain ⟨k3, k4⟩ := ba k2
      exact ⟨_, ⟨o1, o2, m8, m9, m10, m11, m12, m13, m14, o4, rfl, q, k1, dflB_ok k3, kwdB_ok k4⟩, kp⟩
    | _ => cases c2
/-! ### the Hook: HeadHook3's, one more Bool, defs at any address -/
abbrev AtD : Type := (PySem.W.Frag → Addr) × DefD
abbrev AlY : Type := AlT × (Bool × List FnW)
def obsP (fa : List Fa) (fn : List DefD) (ts : List Tab) (ps : List AtD) (ex : PySem.W.Frag → Bool) (K : PySem.W.Frag) : AlY := (obsT fa fn ts K, (ex K && ps.all fun p => okA K (p.1 K) p.2), ps.map fun p => fnA K (p.1 K))
def obsY (n : Nat) (fa : List Fa) (fn : List DefD) (ts : List Tab) (ps : List AtD) (ex : PySem.W.Frag → Bool) (g : Addr → Option Obj) : AlY := obsP fa fn ts ps ex (frG g (asD g n))
def valY (fn : List DefD) (ts : List Tab) (ps : List AtD) (w : World) : AlY := (valT fn ts w, true, ps.map fun p => p.2.val)
def SaysY (fa : List Fa) (fn : List DefD) (ts : List Tab) (ps : List AtD) (ex : PySem.W.Frag → Bool) (w : World) (K : PySem.W.Frag) : Prop := obsP fa fn ts ps ex K = valY fn ts ps w
def hookY (n : Nat) (fa : List Fa) (fn : List DefD) (ts : List Tab) (ps : List AtD) (ex : PySem.W.Frag → Bool) : PySem.W.Hook where
  α := AlY
  obs := fun s => obsY n fa fn ts ps ex s.heap.get?
  val := fun w => valY fn ts ps w
  says := fun w h => ∃ K : PySem.W.Frag, K.In h ∧ SaysY fa fn ts ps ex w K
  of := fun _ _ e => ⟨_, frG_in, e⟩
  keeps := fun _ _ _ ⟨K, hK, c⟩ k => ⟨K, PySem.W.Frag.In.keeps hK k, c⟩
variable {fa : List Fa} {fn : List DefD} {ts : List Tab} {ps : List AtD} {ex : PySem.W.Frag → Bool} {w : World}
theorem obsY_eq {n : Nat} {g : Addr → Option Obj} {s : Shared} (h : ∀ a, g a = s.heap.get? a) : obsY n fa fn ts ps ex g = (hookY n fa fn ts ps ex).obs s := by
  have e : g = s.heap.get? := funext h
  rw [e] <;> rfl
theorem SaysY.t (c : SaysY fa fn ts ps ex w K) : SaysT fa fn ts w K := congrArg (fun z : AlY => z.1) c
theorem SaysY.more (c : SaysY fa fn ts ps ex w K) : ex K = true := (ba (show (ex K && ps.all fun p => okA K (p.1 K) p.2) = true from congrArg (fun z : AlY => z.2.1) c)).1
theorem SaysY.pdef (c : SaysY fa fn ts ps ex w K) (i : Nat) {p : AtD} (h : ps[i]? = some p := by rfl) : ∃ fd, FunD K p.2.name p.2.qual p.2.params p.2.body p.2.scope (p.2.dvs K) (p.2.kws K) (p.1 K) fd := by
  have c2 := (ba (show (ex K && ps.all fun p => okA K (p.1 K) p.2) = true from congrArg (fun z : AlY => z.2.1) c)).2
  have e : ps.map (fun p => fnA K (p.1 K)) = ps.map fun p => p.2.val := congrArg (fun z : AlY => z.2.2) c
  have e2 : (ps.map fun p => fnA K (p.1 K))[i]? = (ps.map fun p => p.2.val)[i]? := by rw [e]
  rw [List.getElem?_map, List.getElem?_map, h] at e2
  exact funA (Option.some.inj e2) (List.all_eq_true.mp c2 p (List.mem_of_getElem? h))
/-! ### classes with slots -/
def sclB (K : PySem.W.Frag) (C : Addr) : Bool := PySem.W.plainGet K C Str.empty && (PySem.W.isClsIn K C && (PySem.W.plainOver K C && eqO (PySem.W.findIn K (.ref C) "__setattr__") (some (some (.builtin "object.__setattr__")))))
theorem sclB_ok {C : Addr} (h : sclB K C = true) : SCls K C := by
  obtain ⟨c1, c⟩ := ba h
  obtain ⟨c2, c⟩ := ba c
  obtain ⟨c3, c4⟩ := ba c
  exact ⟨c1, c2, c3, eqO_ok c4⟩
def eqOB (a b : Option Bool) : Bool := decide (a = b)
def sloB (K : PySem.W.Frag) (C : Addr) (f : Str) (i : Nat) : Bool := eqO (PySem.W.findIn K (.ref C) f) (some (some (.ref (ma K C f)))) && (eqO (PySem.W.specialIn K (.ref (ma K C f)) "__get__") (some (some (.builtin "member_descriptor.__get__"))) &&
  (decide (PySem.W.takesIn K (.ref (ma K C f)) = some true) && (decide (PySem.W.typeIn K (.ref (ma K C f)) = some (.type "member_descriptor")) && (decide (PySem.W.slotIn K (ma K C f) C = some i) && Nat.blt i 1000))))
theorem sloB_ok {C : Addr} {f : Str} {i : Nat} (h : sloB K C f i = true) : Slot1 K C f (ma K C f) i := by
  obtain ⟨c1, c⟩ := ba h
  obtain ⟨c2, c⟩ := ba c
  obtain ⟨c3, c⟩ := ba c
  obtain ⟨c4, c⟩ := ba c
  obtain ⟨c5, c6⟩ := ba c
  exact ⟨eqO_ok c1, eqO_ok c2, of_decide_eq_true c3, of_decide_eq_true c4, of_decide_eq_true c5, Nat.blt_eq.mp c6⟩
/-- the getter of a property -/
def pgA (C : Str) (f : Str) (K : PySem.W.Frag) : Addr := match PySem.W.recIn K (ma K (ga K C) f) "property" with
  | some (.ref g :: _) => g
  | _ => 0
def proB (K : PySem.W.Frag) (C f : Str) : Bool := eqO (PySem.W.findIn K (.ref (ga K C)) f) (some (some (.ref (ma K (ga K C) f)))) && (eqO (PySem.W.specialIn K (.ref (ma K (ga K C) f)) "__get__") (some (some (.builtin "property.__get__"))) &&
  (decide (PySem.W.takesIn K (.ref (ma K (ga K C) f)) = some true) && (match PySem.W.recIn K (ma K (ga K C) f) "property" with
    | some (.ref _ :: _) => true
    | _ => false)))
theorem proB_ok {C f : Str} (h : proB K C f = true) : PySem.W.findIn K (.ref (ga K C)) f = some (some (.ref (ma K (ga K C) f))) ∧ PySem.W.specialIn K (.ref (ma K (ga K C) f)) "__get__" = some (some (.builtin "property.__get__")) ∧
    PySem.W.takesIn K (.ref (ma K (ga K C) f)) = some true ∧ ∃ rest, PySem.W.recIn K (ma K (ga K C) f) "property" = some (.ref (pgA C f K) :: rest) := by
  obtain ⟨c1, c⟩ := ba h
  obtain ⟨c2, c⟩ := ba c
  obtain ⟨c3, c4⟩ := ba c
  refine ⟨eqO_ok c1, eqO_ok c2, of_decide_eq_true c3, ?_⟩
  unfold pgA
  split at c4
  · rename_i g r e
    rw [e]
    exact ⟨r, rfl⟩
  · cases c4
def isiB (K : PySem.W.Frag) (C : Addr) : Bool := eqO (PySem.W.findIn K (.ref C) "__class__") (some (some (.builtin "object.__class__"))) && (eqO (PySem.W.specialIn K (.builtin "object.__class__") "__get__") (some (some (.builtin "getset_descriptor.__get__"))) &&
  (decide (PySem.W.takesIn K (.builtin "object.__class__") = some true) && decide (PySem.W.mroIn K C (.type "object") = some true)))
theorem isiB_ok {C : Addr} (h : isiB K C = true) : SIsi K C := by
  obtain ⟨c1, c⟩ := ba h
  obtain ⟨c2, c⟩ := ba c
  obtain ⟨c3, c4⟩ := ba c
  exact ⟨eqO_ok c1, eqO_ok c2, of_decide_eq_true c3, of_decide_eq_true c4⟩
/-! ### written dicts -/
theorem ktab_of {d : Addr} {tab : List (List Nat × List Nat)} (kd : ∃ es n, KDict K w d es n) (hk : dicW K d = some (keysIn w.params (tab.map fun p => SX.S p.1))) (hv : valsB K d (tab.map fun p => (SX.S p.1, Dv.str (SX.S p.2))) = true) : KTab K w d tab := by
  refine ⟨kd, fun s => ?_⟩
  obtain ⟨es, n, D⟩ := kd
  have hkeys : es.toList.map He.keyOf = keysIn w.params (tab.map fun p => SX.S p.1) := by
    unfold dicW at hk
    rw [D.at_] at hk
    have hk : (match decide ("dict" = "dict") && ((#[] : Array (Option Value)).isEmpty && !(d == sysModules)) with
      | true => some (es.toList.map He.keyOf)
      | false => none) = some (keysIn w.params (tab.map fun p => SX.S p.1)) := hk
    rw [D.low] at hk
    exact Option.some.inj hk
  have find : ∀ (tab0 : List (List Nat × List Nat)), lookT tab0 s = none ∨ ∃ p ∈ tab0, p.1 = s ∧ lookT tab0 s = some p.2 := fun tab0 => by
    induction tab0 with
    | nil => exact .inl rfl
    | cons p t ih =>
      show (if eqS p.1 s then some p.2 else lookT t s) = none ∨ ∃ q ∈ p :: t, q.1 = s ∧ (if eqS p.1 s then some p.2 else lookT t s) = some q.2
      rw [eqS_iff]
      by_cases z : p.1 = s
      · exact .inr ⟨p, List.mem_cons_self .., z, by simp [z]⟩
      · simp only [z, decide_false, Bool.false_eq_true, if_false]
        rcases ih with ih | ⟨q, h1, h2, h3⟩
        · exact .inl ih
        · exact .inr ⟨q, List.mem_cons_of_mem _ h1, h2, h3⟩
  rcases find tab with h | ⟨p, h1, h2, h3⟩
  · refine ⟨none, ?_, .inl ⟨h, rfl⟩⟩
    have none_ : ∀ (tab0 : List (List Nat × List Nat)) (l : List DictEntry), lookT tab0 s = none → l.map He.keyOf = keysIn w.params (tab0.map fun p => SX.S p.1) → l.find? (·.key.isStr (SX.S s)) = none ∧ l.any (·.refKey) = false := fun tab0 => by
      induction tab0 with
      | nil =>
        intro l _ hl
        cases l with
        | nil => exact ⟨rfl, rfl⟩
        | cons e r => cases hl
      | cons p t ih =>
        intro l hlk hl
        cases l with
        | nil => cases hl
        | cons e r =>
          have hl2 : He.keyOf e :: r.map He.keyOf = some (SX.S p.1, PyData.keyHash w.params (SX.S p.1)) :: keysIn w.params (t.map fun p => SX.S p.1) := hl
          injection hl2 with q1 q2
          have hlk : (if eqS p.1 s then some p.2 else lookT t s) = none := hlk
          have ne : ¬ p.1 = s := fun z => by
            rw [eqS_iff, decide_eq_true z] at hlk
            cases hlk
          have hlk2 : lookT t s = none := by
            rw [eqS_iff, decide_eq_false ne] at hlk
            exact hlk
          obtain ⟨i1, i2⟩ := ih r hlk2 q2
          unfold He.keyOf at q1
          split at q1
          · rename_i x tk ek
            obtain ⟨q5, _⟩ := Prod.mk.inj (Option.some.inj q1)
            have n1 : e.key.isStr (SX.S s) = false := by
              rw [ek, q5]
              show (SX.S p.1 == SX.S s) = false
              rw [SX.S_beq]
              simpa using ne
            refine ⟨?_, ?_⟩
            · rw [List.find?_cons_of_neg (by rw [n1]; decide)]; exact i1
            · rw [List.any_cons, i2]
              show (e.refKey || false) = false
              unfold DictEntry.refKey
              rw [ek]
              rfl
          · cases q1
    obtain ⟨f1, f2⟩ := none_ tab es.toList h hkeys
    unfold PySem.W.nsIn
    rw [D.at_]
    show (match es.toList.find? (·.key.isStr (SX.S s)) with
      | some e => some (some e.val)
      | none => if es.toList.any (·.refKey) then none else some none) = some none
    rw [f1, f2]
    rfl
  · obtain ⟨u, hu, ru⟩ := valsB_ok hv (q := (SX.S p.1, Dv.str (SX.S p.2))) (List.mem_map.mpr ⟨p, h1, rfl⟩)
    obtain ⟨tok, rfl⟩ := (show ∃ t, u = Value.str (SX.S p.2) t from ru)
    exact ⟨some (.str (SX.S p.2) tok), by rw [← h2]; exact hu, .inr ⟨p.2, tok, h3, rfl⟩⟩
theorem SaysT.dicW (c : SaysT fa fn ts w K) (i : Nat) {t : Tab} (h : ts[i]? = some t := by rfl) : He.dicW K (t.1 K) = some (keysIn w.params t.2) := by
  have e : ts.map (fun t => He.dicW K (t.1 K)) = ts.map fun t => some (keysIn w.params t.2) := congrArg (fun z : AlT => z.2) c
  have e2 : (ts.map fun t => He.dicW K (t.1 K))[i]? = (ts.map fun t => some (keysIn w.params t.2))[i]? := by rw [e]
  rw [List.getElem?_map, List.getElem?_map, h] at e2
  exact Option.some.inj e2
end
end D
set_option Elab.async false
set_option linter.all false
set_option maxRecDepth 100000
set_option maxHeartbeats 2000000
/-! D15: short words for printed derivations. -/
namespace D
open PySem PySem.Spec PyProof.Rows L2 SlX
section
variable {cl : Cl} {X : Cx} {pos : Pos} {a b c e : Expr} {ma mb mc m : Ex}
theorem dv (i : Nat) {x : Str} (hN : X.N[i]? = some x := by rfl) (hv : Vis X.env.scope x := by first | exact Or.inl rfl | exact Or.inr (Or.inl rfl) | exact Or.inr (Or.inr rfl)) (hd : (x == ("__debug__" : Str)) = false := by decide)
    (hcd : (x == ("__classdict__" : Str)) = false := by decide) : DE cl X (.Name x pos) (eSlot i) := de_var hN hv hd hcd
theorem dstr (z : List Nat) {x : Str} {j} (h : x = SX.S z := by rfl) : DE cl X (.Constant (.str x) j pos) (eC (.str z)) := by
  subst h
  exact de_str
theorem dst (i : Nat) {x : Str} {pos' : Pos} (nd : X.N.Nodup) (he : DE cl X e m) (hi : X.N[i]? = some x := by rfl) (hx : Loc X.env.scope x := by first | exact Or.inl rfl | exact Or.inr rfl) (hs : swapsWith e (some (.Name x pos')) pos.line X.env = pure false := by rfl)
    (hf : X.fn x = true ∨ X.env.scope.names.lookup x = some .local := by first | exact .inl rfl | exact .inr rfl) : DS cl X (.Assign [.Name x pos'] e pos) (sAs m (gN i)) := ds_set nd hi hx he hs hf
theorem dgn (i : Nat) {x : Str} (nd : X.N.Nodup) (hi : X.N[i]? = some x := by rfl) (hx : Loc X.env.scope x := by first | exact Or.inl rfl | exact Or.inr rfl) (hf : X.fn x = true ∨ X.env.scope.names.lookup x = some .local := by first | exact .inl rfl | exact .inr rfl) :
    DG cl X (.Name x pos) [i] (gN i) := dg_name nd hi hx hf
theorem dcmp {op : CmpOp} {g : DV → DV → M DV} (ho : O2 cl X (compareOp op) g) (ha : DE cl X a ma) (hb : DE cl X b mb) (hm : behindInMarks op b = false := by first | rfl | exact nobehind _ (by decide) (by decide)) : DE cl X (.Compare a [op] [b] pos) (eOp g ma mb) := de_cmp ho ha hb hm
theorem tcmp {op : CmpOp} {g : DV → DV → M DV} (ho : O2 cl X (compareOp op) g) (ha : DE cl X a ma) (hb : DE cl X b mb) (hm : behindInMarks op b = false := by first | rfl | exact nobehind _ (by decide) (by decide)) : DT cl X (.Compare a [op] [b] pos) (bCmp g ma mb) := dt_cmp ho ha hb hm
def eKdGet1 (tab : List (List Nat × List Nat)) (mk : Ex) : Ex := fun sl => bnd (mk sl) fun k => match k with
  | .str s => (match lookT tab s with
    | some t => ret (.str t)
    | none => ret .non)
  | _ => stk
theorem de_kdget1 {k : Expr} {mk : Ex} {apos : Pos} {x : Str} {p : Pos} {d : Addr} {tab : List (List Nat × List Nat)} (T : KTab X.K X.w d tab) (hg : Gl X x) (hm : X.mg x = some (.ref d)) (hk : DE cl X k mk) (m : M1 X (.Name x p) "get" apos k pos) (hd : (x == ("__debug__" : Str)) = false := by decide) :
    DE cl X (.Call (.Attribute (.Name x p) "get" apos) [k] [] pos) (eKdGet1 tab mk) := by
  obtain ⟨es, n, D⟩ := T.kd
  refine ⟨fun pins s σ H Q I q => ?_⟩
  obtain ⟨W, h, sl, v, h', rel, rs, e, po⟩ := q
  obtain ⟨kd, h1, e1, e4⟩ := bnd_ok e
  have ho : PE X (.Name x p) (tC (.ref d)) := pe_glob hg hm (show RelV (.ref d) (.ref d) from rfl) hd
  refine wpAny_Call_method m.base m.few m.line PySem.F.plainAttrs_dict PySem.F.slot_dict_get PySem.F.type_dict_get (thn (ho.run pins s σ H (fun x H1 => x = .ref d ∧ H1 = H) I ⟨rfl, rfl⟩) fun u s1 ⟨x1, H1, I1, rx, ex, eH⟩ => ?_)
  subst ex eH
  obtain rfl : u = Value.ref d := rx
  have ty := kd_type D I1
  obtain ⟨od, hod, hcd⟩ := ty
  refine ⟨⟨od, hod, hcd⟩, ?_, ?_⟩
  · intro b q
    cases q
    obtain ⟨ob, _, _, h1, h2, _⟩ := PySem.W.mapOf_K (prog := X.prog) (w := X.w) I1.kIn D.at_ D.lit
    exact ⟨ob, h1, h2.2.1⟩
  rw [m.trees]
  refine Calls.callWith_builtin rfl (Calls.evalArgs_plain (Calls.spliced_cons (thn (hk.run pins s1 σ H1 (fun y H2 => ∃ W2, Ext W H1 W2 H2 ∧ HRel X.K cl W2 h1 H2 ∧ RV X.K cl W2 H2 kd y) I1 ⟨W, h, sl, kd, h1, rel, rs, e1, fun W2 H2 y ex r2 rv => ⟨W2, ex, r2, rv⟩⟩) fun iv s2 ⟨y, H2, I2, ry, W2, ext2, rel2, rvk⟩ => Calls.spliced_nil ?_)))
  split at e4
  · cases rvk
    obtain ⟨tk, rfl⟩ := ry
    have md := PySem.W.mapOf_K (prog := X.prog) (w := X.w) I2.kIn D.at_ D.lit
    obtain ⟨r, l1, l2⟩ := T.look _
    refine call_meetsIn PySem.F.slot_dict_get (kd_type D I2) PySem.F.entry_dict_get (PySem.F.args_dict_get_2 _ _) (meets_dict_get (PySem.strKind X.prog X.w) d (PySem.strKind_is X.prog X.w _ tk) D.low) ⟨_, md, ?_⟩
    rw [PySem.W.find_K D.at_ l1]
    rcases l2 with ⟨a, b⟩ | ⟨t, tok, a, b⟩
    · rw [a] at e4
      cases e4
      subst b
      exact ⟨.non, H2, I2.tok _, rfl, po W2 H2 .non ext2 rel2 .non⟩
    · rw [a] at e4
      cases e4
      subst b
      exact ⟨.str (SX.S t), H2, I2.tok _, ⟨tok, rfl⟩, po W2 H2 _ ext2 rel2 (.str t)⟩
  · cases e4
def bKdIn (tab : List (List Nat × List Nat)) (m : Ex) : Tx := fun sl => bnd (m sl) fun d => match d with
  | .str s => ret (lookT tab s).isSome
  | _ => stk
theorem dt_kdin {k : Expr} {mk : Ex} {x : Str} {p : Pos} {d : Addr} {tab : List (List Nat × List Nat)} (T : KTab X.K X.w d tab) (hg : Gl X x) (hm : X.mg x = some (.ref d)) (hk : DE cl X k mk) (hd : (x == ("__debug__" : Str)) = false := by decide) (hb : behindInMarks .In (.Name x p) = false := by rfl) :
    DT cl X (.Compare k [.In] [.Name x p] pos) (bKdIn tab mk) := by
  obtain ⟨es, n, D⟩ := T.kd
  refine (pt_cmpR (op_in_kd D) hk (pe_glob hg hm (show RelV (.ref d) (.ref d) from rfl) hd) hb).mono fun σ H Q q => ?_
  obtain ⟨W, h, sl, v, h', rel, rs, e, po⟩ := q
  obtain ⟨kd, h1, e1, e2⟩ := bnd_ok e
  refine ⟨W, h, sl, kd, h1, rel, rs, e1, fun W1 H1 y ext rel1 rv => ?_⟩
  split at e2
  · cases e2
    cases rv
    rename_i s
    obtain ⟨r, h1, h2⟩ := T.look s
    refine ⟨SX.S s, r, rfl, rfl, h1, r.isSome, rfl, ?_⟩
    have : r.isSome = (lookT tab s).isSome := by
      rcases h2 with ⟨a, b⟩ | ⟨t, tok, a, b⟩ <;> rw [a, b] <;> rfl
    rw [this]
    exact po W1 H1 ext rel1
  · cases e2
end
end D
set_option Elab.async false
set_option linter.all false
set_option maxRecDepth 100000
set_option maxHeartbeats 2000000
/-! D16: callees known by a table of their arguments. -/
namespace D
open PySem PySem.Spec PyProof.Rows L2 SlX
def eqI1 (i j : Int) : Bool := match i, j with
  | .ofNat a, .ofNat b => Nat.beq a b
  | .negSucc a, .negSucc b => Nat.beq a b
  | _, _ => false
theorem eqI1_ok {i j : Int} (h : eqI1 i j = true) : i = j := by
  cases i <;> cases j <;> first | (cases h; done) | skip
  · exact congrArg Int.ofNat (Nat.eq_of_beq_eq_true h)
  · exact congrArg Int.negSucc (Nat.eq_of_beq_eq_true h)
def eq1 : DV → DV → Bool
  | .non, .non => true
  | .bl a, .bl b => a == b
  | .int i, .int j => eqI1 i j
  | .str s, .str t => eqS s t
  | _, _ => false
theorem eq1_ok {a b : DV} (h : eq1 a b = true) : a = b := by
  cases a <;> cases b <;> first | (cases h; done) | skip
  · rfl
  · exact congrArg DV.bl (beq_iff_eq.mp h)
  · exact congrArg DV.int (eqI1_ok h)
  · have h : eqS _ _ = true := h
    rw [eqS_iff] at h
    exact congrArg DV.str (of_decide_eq_true h)
def eqLD : List DV → List DV → Bool
  | [], [] => true
  | a :: s, b :: t => eq1 a b && eqLD s t
  | _, _ => false
theorem eqLD_ok : ∀ {a b : List DV}, eqLD a b = true → a = b
  | [], [], _ => rfl
  | [], _ :: _, h => by cases h
  | _ :: _, [], h => by cases h
  | a :: s, b :: t, h => by
    obtain ⟨h1, h2⟩ := Bool.and_eq_true_iff.mp (show (eq1 a b && eqLD s t) = true from h)
    rw [eq1_ok h1, eqLD_ok h2]
def tblG (tab : List (List DV)) (rest : List DV) : Option DV := if tab.any (fun r => eqLD r rest) then some (.bl true) else none
theorem tbl_ok {tk : List DV → M DV} (hT : TkAll tk) {inc : Nat} {g : List DV → M DV} {tr : List DV → Option Tr} {tab : List (List DV)} (h : ∀ r ∈ tab, byTree inc g true tr r = some (.bl true)) :
    ∀ rest v, tblG tab rest = some v → noRefs rest = true ∧ flatD v = true ∧ ∀ c1, c1 ≤ 2000000 → AnyPot tk c1 (pots inc g rest v) := fun rest v e => by
  unfold tblG at e
  split at e
  · rename_i c
    cases e
    obtain ⟨r, hr, hq⟩ := List.any_eq_true.mp c
    have := eqLD_ok hq
    subst this
    exact byTree_ok hT _ _ (h _ hr)
  · cases e
theorem byTree_of {inc : Nat} {g : List DV → M DV} {b : Bool} {tr : List DV → Option Tr} {rest : List DV} {t : Tr} (ht : tr rest = some t) (h1 : noRefs rest = true) (h2 : trDeep 1000 t = true) (h3 : trOk t = true) (h4 : trAll (fun L => eqR inc b (g (.ref 0 :: rest) [.pot 0 L])) t [] = true) :
    byTree inc g b tr rest = some (.bl b) := by
  unfold byTree
  rw [ht]
  show (if noRefs rest && (trDeep 1000 t && (trOk t && trAll (fun L => eqR inc b (g (.ref 0 :: rest) [.pot 0 L])) t [])) then some (DV.bl b) else none) = _
  rw [h1, h2, h3, h4]
  rfl
theorem all_nil {α : Type} {p : α → Prop} : ∀ r ∈ ([] : List α), p r := fun _ h => by cases h
theorem all_cons {α : Type} {p : α → Prop} {a : α} {l : List α} (h : p a) (t : ∀ r ∈ l, p r) : ∀ r ∈ a :: l, p r := fun r hr => by
  rcases List.mem_cons.mp hr with z | z
  · rw [z]; exact h
  · exact t r z
end D
set_option Elab.async false
set_option linter.all false
set_option maxRecDepth 100000
set_option maxHeartbeats 4000000
/-! Z3: enumerate(x) of a list, a tuple, a text, walked. -/
namespace ZG
open PySem PySem.Spec PyProof.Rows L2
set_option maxHeartbeats 1000000 in
theorem meets_enum1 {v : Value} {o : Obj} {H : Heap → Prop} (B : Begins v o H) :
    Meets (Builtin.«enumerate.__new__» ⟨[.type "enumerate", v], []⟩) (fun _ R s => H s.heap ∧
      R (.ok (.ret (.ref (s.heap.push o).objs.size))) { s with heap := (s.heap.push o).push { cls := .type "enumerate", data := .fields #[.none, .bool false, .ref s.heap.objs.size, rawInt 0, .none, .none] } }) :=
  .of_wp fun prog w A R s h => by
    obtain ⟨hp, g, d, tk, os⟩ := s; obtain ⟨h1, h⟩ := h; have hsub := sub_enumerate
    have q1 : ∀ {A' : Around} {E : Value → Shared → Prop} {Q : Value → Shared → Prop}, Q (.ref hp.objs.size) ⟨hp.push o, g, d, tk, os⟩ → wpAny (model prog w) A' (pyIter v) Q E ⟨hp, g, d, tk, os⟩ :=
      fun q => B.iter prog w _ _ ⟨hp, g, d, tk, os⟩ _ h1 q
    wp_walk using q1; refine wpAny_stack_any fun st => wpAny_pure ?_
    split
    · rename_i c _ _ _ _ _; cases (c == Value.type "enumerate")
      · wp_walk using q1
        exact ⟨_, rfl, h⟩
      · wp_walk using q1
        exact ⟨_, rfl, h⟩
    · wp_walk using q1
      exact ⟨_, rfl, h⟩
section
variable {prog : Program} {w : World} {A : Around} {E : Value → Shared → Prop} {s : Shared}
theorem enum1_begins {v : Value} {o : Obj} {H : Heap → Prop} {Q : Value → Shared → Prop} (B : Begins v o H) (h1 : H s.heap)
    (h : ∀ h', IsEnum h' (s.heap.objs.size + 1) s.heap.objs.size 0 .none → h'.get? s.heap.objs.size = some o → h'.objs.size = s.heap.objs.size + 2 →
      (∀ b o, s.heap.get? b = some o → h'.get? b = some o) → Q (.ref (s.heap.objs.size + 1)) { s with heap := h' }) :
    wpAny (model prog w) A (call (.type "enumerate") [v]) Q E s := by
  refine callType_new F.called_enumerate (by decide) (F.typeCall_enumerate_1 _) (F.newCall_enumerate_1 _) (fun obj => F.args_object_init_2 obj _) F.entry_enumerate_new (meets_enum1 B) ⟨h1, ?_⟩
  have hz : (s.heap.push o).objs.size = s.heap.objs.size + 1 := Heap.size_push ..
  show _ ∧ _; rw [hz]
  have he : IsEnum ((s.heap.push o).push { cls := .type "enumerate", data := .fields #[.none, .bool false, .ref s.heap.objs.size, rawInt 0, .none, .none] }) (s.heap.objs.size + 1) s.heap.objs.size 0 .none := by
    have := Heap.get?_push_size (s.heap.push o) (o := { cls := .type "enumerate", data := .fields #[.none, .bool false, .ref s.heap.objs.size, rawInt 0, .none, .none] }) rfl
    rw [hz] at this; exact this
  exact ⟨⟨_, he, rfl⟩, h _ he (Heap.get?_push_of_some _ (Heap.get?_push_size _ B.free)) (by rw [Heap.size_push, hz]) fun b o x => Heap.get?_push_of_some _ (Heap.get?_push_of_some _ x)⟩
end
structure SepE (e it : Addr) (k : SK) : Prop where
  ne : e ≠ it
  ef : e ∉ k.fp it
  n1 : ∀ b ∈ (k.fp it).tail, b ≠ it
/-- the items with their places, in new pairs -/
def ItE (K : PySem.W.Frag) (k : SK) : It :=
  ⟨fun i H => ∃ (xs : List V) (x : V), k.its K H xs ∧ xs[i]? = some x,
    fun i H v H' => ∃ T x, v = .ref T ∧ H T = none ∧ H' = upd H T (.tup [.int (i : Nat), x]) ∧ ∀ xs, k.its K H xs → xs[i]? = some x,
    fun i H => ∃ xs : List V, k.its K H xs ∧ i = xs.length⟩
theorem turn_enumG {P : Program} {w : World} {K : PySem.W.Frag} {elts : List Expr} {kk : Nat} {tpos : Pos} {e it : Addr} {k : SK} (D : SepE e it k) :
    Turn P w K (.Tuple elts kk tpos) (ItE K k) [e, it] e (fun i h => (∃ old, IsEnum h e it ((i : Nat) : Int) old) ∧ k.st it i h) where
  mem := by simp
  obj := fun i h st c hc => by
    obtain ⟨⟨old, he⟩, u⟩ := st
    have ec : c = e ∨ c = it := by simpa using hc
    rcases ec with rfl | rfl
    · exact ⟨_, he, fun v q => nomatch q⟩
    · exact SK.obj u
  keep := fun i h h' st kp => by
    obtain ⟨⟨old, he⟩, u⟩ := st
    exact ⟨⟨old, kp e (by simp) _ he⟩, SK.keep u fun o q => kp it (by simp) o q⟩
  item := by
    intro X hP hw hK hc i pins s σ H E I hf st hg
    subst hP hw hK
    obtain ⟨⟨old, he⟩, u⟩ := st
    obtain ⟨xs, x, qx, hx⟩ := hg
    have hh : X.A.in1.handled = none := I.ok.hd hc
    obtain ⟨P1, S1, D1, a1, b1, c1⟩ := SK.draw I hh k it D.n1 qx
    have l1 : i < xs.length := (List.getElem?_eq_some_iff.mp hx).1
    have hel : e < s.heap.objs.size := Heap.lt_size he
    have hil : it < s.heap.objs.size := by obtain ⟨_, q, _⟩ := SK.obj u; exact Heap.lt_size q
    refine wpAny_pyNext_enum_itemC D1 he (a1 i u) l1 D.ne D.ef fun v h' tk p1 ho t1' hT hsz hk => ?_
    refine ⟨_, rfl, wpAny_letOwnedTupleGo_enum (s := { s with heap := h', toks := tk + 1 }) ho fun h'' he' sb => ?_⟩
    have hT2 : h''.get? s.heap.objs.size = some { cls := .type "tuple", data := .seq #[.int i tk, v] } := (sb.2 _ (Nat.ne_of_gt hel)).trans hT
    have new : ObjOk X.prog X.w (upd H s.heap.objs.size (.tup [.int (i : Nat), x])) h'' s.heap.objs.size (.tup [.int (i : Nat), x]) :=
      ⟨by show 2 ≤ sizeLine; decide, [.int i tk, v], .cons ⟨_, rfl⟩ (.cons (c1 i v x p1 hx) .nil), ⟨_, hT2, rfl, _, rfl⟩⟩
    have J : Inv X pins σ (upd H s.heap.objs.size (.tup [.int (i : Nat), x])) { s with heap := h'', toks := tk + 1 } :=
      I.turnedNew (t' := tk + 1) (ch := [e, it]) (fun b ob hb q => (sb.2 b (fun z => hb (by simp [z]))).trans (hk b ob (fun z => hb (by simp [z])) (fun z => hb (by simp [z])) q)) hf (Nat.le_refl _) new
    refine ⟨.ref s.heap.objs.size, _, J, rfl, ⟨_, x, rfl, I.hok.fresh (Nat.le_refl _), rfl, fun ys hy => by rw [SK.inj I hy qx]; exact hx⟩, ⟨⟨v, ?_⟩, SK.keep (b1 _ _ t1') fun o q => (sb.2 it (Ne.symm D.ne)).trans q⟩, fun b hb => ?_⟩
    · have e1 : ((i + 1 : Nat) : Int) = (i : Int) + 1 := by omega
      rw [e1]; exact he'
    · have hb' : b < s.heap.objs.size := by
        have ec : b = e ∨ b = it := by simpa using hb
        rcases ec with z | z
        · rw [z]; exact hel
        · rw [z]; exact hil
      rw [upd_ne (Nat.ne_of_lt hb')]
      exact (hf b hb).1
  done := by
    intro X hP hw hK hc i pins s σ H E I hf st hg
    subst hP hw hK
    obtain ⟨⟨old, he⟩, u⟩ := st
    obtain ⟨xs, qx, hx⟩ := hg
    subst hx
    have hh : X.A.in1.handled = none := I.ok.hd hc
    obtain ⟨P1, S1, D1, a1, b1, c1⟩ := SK.draw I hh k it D.n1 qx
    exact wpAny_pyNext_enum_endD D1 he (a1 _ u) fun h' hx => ⟨rfl, I.turnedL (t' := s.toks) (ch := [e, it]) (fun b o nb q => hx b o (fun z => nb (by simp [z])) q) hf⟩
  self := fun A i s Q E st h => let ⟨⟨_, he⟩, _⟩ := st; wpAny_pyIter_enum he h
def iEnumG (K : PySem.W.Frag) (ta : TE) : TI := fun σ H R => ta σ H fun x H1 => ∀ v, RelV x v → ∃ k xs, v = SK.val k ∧ SK.its K H1 k xs ∧ R (ItE K k) H1
theorem pi_enumG {X : Cx} {e : Expr} {te : TE} {p pos tpos : Pos} {elts : List Expr} {kk : Nat} (hg : Gl X "enumerate") (hm : X.mg "enumerate" = none) (he : PE X e te)
    (hs : starEach [e] X.env = (false, eval e X.env) :: starEach [] X.env := by rfl) :
    PI X (.Tuple elts kk tpos) (.Call (.Name "enumerate" p) [e] [] pos) (iEnumG X.K te) := by
  refine ⟨fun pins s σ H R I h => ?_⟩
  refine Call_ (ld_blt I hg hm boot_enumerate (PyProof.Rows.callWith_type1 (args_cons (thn (he.run pins s σ H _ I h) fun v s1 ⟨x, H1, I1, r1, q1⟩ => args_nil ?_) hs) hs))
  obtain ⟨k, xs, rfl, qx, q⟩ := q1 v r1
  obtain ⟨Q1, B1, h1, o1⟩ := SK.begins I1 qx
  refine enum1_begins B1 h1 fun h' he' g1 hsz hk => wpAny_pyIter_enum he' ?_
  have I2 : Inv X pins σ H1 { s1 with heap := h' } := I1.kept (t' := s1.toks) hk
  have g := fp_at k s1.heap.objs.size s1.heap.objs.size o1
  have t := fp_tl k s1.heap.objs.size s1.heap.objs.size o1
  have D : SepE (s1.heap.objs.size + 1) s1.heap.objs.size k := ⟨Nat.succ_ne_self _, fun hm => (by
    rcases g _ hm with z | z
    · exact absurd z (Nat.succ_ne_self _)
    · exact absurd z (Nat.not_lt.mpr (Nat.le_succ _))), fun b hb => Nat.ne_of_lt (t b hb)⟩
  refine ⟨s1.heap.objs.size + 1, [s1.heap.objs.size + 1, s1.heap.objs.size], _, _, H1, rfl, I2, turn_enumG D, ⟨⟨.none, he'⟩, SK.st0 g1⟩, fun b hb => ?_, q⟩
  have ec : b = s1.heap.objs.size + 1 ∨ b = s1.heap.objs.size := by simpa using hb
  have hle : s1.heap.objs.size ≤ b := by
    rcases ec with z | z <;> rw [z] <;> first | exact Nat.le_refl _ | exact Nat.le_add_right _ _
  exact I1.fpOk hle (I1.hok.fresh hle)
end ZG
set_option Elab.async false
set_option linter.all false
set_option maxRecDepth 100000
set_option maxHeartbeats 2000000
/-! D17: enumerate, slices, splits, f-strings, starred items, lists so many times. -/
namespace D
open PySem PySem.Spec PyProof.Rows L2 SlX ZG
section
variable {K : PySem.W.Frag} {cl : Cl} {W W1 : Wd} {H H1 : Hp} {h h' : Hs} {X : Cx} {pos : Pos} {e e2 : Expr} {es : List Expr} {ms : Exs} {ma me m ml mh : Ex}
/-! ### enumerate -/
theorem walk_enum {k : SK} {t : Wlk} (a : SrcD K cl k t W H) : WalkD K cl (ItE K k) (.enum t) W H := by
  obtain ⟨G1, g1, x1, o1, r1⟩ := a
  refine ⟨G1, g1, x1, o1, fun W h H i p1 rel => ⟨fun d e => ?_, fun e => ?_⟩⟩
  · have e' : (match t.all h with
      | some xs => (match xs[i]? with
        | some x => some (some (DV.tup [.int (i : Int), x]))
        | none => if Nat.beq i xs.length then some none else none)
      | none => none) = some (some d) := e
    cases q1 : t.all h with
    | none => rw [q1] at e'; cases e'
    | some ds =>
      rw [q1] at e'
      obtain ⟨xs, hx, rx⟩ := r1 W h H ds p1 rel q1
      have e' : (match ds[i]? with
        | some x => some (some (DV.tup [.int (i : Int), x]))
        | none => if Nat.beq i ds.length then some none else none) = some (some d) := e'
      cases z1 : ds[i]? with
      | none =>
        rw [z1] at e'
        have e' : (if Nat.beq i ds.length then some none else none) = some (some d) := e'
        split at e' <;> cases e'
      | some u =>
        rw [z1] at e'
        cases e'
        obtain ⟨x, hxi, rx'⟩ := rx.get z1
        refine ⟨⟨xs, x, hx, hxi⟩, fun z H' ⟨T, x', e1, hT, e3, e4⟩ => ?_⟩
        have a1 := e4 xs hx
        rw [hxi] at a1
        cases a1
        subst e1 e3
        exact ⟨W.fz T, ext_new hT rel, rfl, rel.new hT, rv_tup rel hT (.cons (.int _) (.cons rx' .nil))⟩
  · have e' : (match t.all h with
      | some xs => (match xs[i]? with
        | some x => some (some (DV.tup [.int (i : Int), x]))
        | none => if Nat.beq i xs.length then some none else none)
      | none => none) = some none := e
    cases q1 : t.all h with
    | none => rw [q1] at e'; cases e'
    | some ds =>
      rw [q1] at e'
      obtain ⟨xs, hx, rx⟩ := r1 W h H ds p1 rel q1
      have e' : (match ds[i]? with
        | some x => some (some (DV.tup [.int (i : Int), x]))
        | none => if Nat.beq i ds.length then some none else none) = some none := e'
      cases z1 : ds[i]? with
      | some u => rw [z1] at e'; cases e'
      | none =>
        rw [z1] at e'
        have e' : (if Nat.beq i ds.length then some (none : Option DV) else none) = some none := e'
        split at e'
        · rename_i c
          exact ⟨xs, hx, by rw [← rx.length]; exact Nat.eq_of_beq_eq_true c⟩
        · cases e'
def iEn (me : Ex) : Ix := fun sl => bnd (me sl) fun d => bnd (itrAt d) fun t => ret (.enum t)
theorem di_enum {p tpos : Pos} {elts : List Expr} {kk : Nat} (hg : Gl X "enumerate") (hm : X.mg "enumerate" = none) (he : DE cl X e me)
    (hs : starEach [e] X.env = (false, eval e X.env) :: starEach [] X.env := by rfl) : DI cl X (.Tuple elts kk tpos) (.Call (.Name "enumerate" p) [e] [] pos) (iEn me) := (pi_enumG hg hm he hs).mono fun σ H R q => by
  obtain ⟨W, h, sl, t, h', rel, rs, e, po⟩ := q
  obtain ⟨d, h1, e1, e2⟩ := bnd_ok e
  obtain ⟨a, h2, e3, e4⟩ := bnd_ok e2
  obtain ⟨rfl, rfl⟩ := ret_ok e4
  refine ⟨W, h, sl, d, h1, rel, rs, e1, fun W1 H1 x ext rel1 rv v hv => ?_⟩
  obtain ⟨rfl, k, rfl, s1, ds, a1⟩ := src_of rel1 rv hv e3
  have t1 := s1
  obtain ⟨G1, g1, _, _, r1⟩ := s1
  obtain ⟨xs, hx, _⟩ := r1 _ _ _ _ g1 rel1 a1
  exact ⟨k, xs, rfl, hx, po W1 H1 _ ext rel1 (walk_enum t1)⟩
/-! ### a[lo:hi] -/
abbrev Po' := Sl → M (Option Int)
def tO (K : PySem.W.Frag) (cl : Cl) (m : Po') : TO := fun σ H Q => ∃ W h sl o h', HRel K cl W h H ∧ RSl K cl W H sl σ ∧ m sl h = .ok o h' ∧ ∀ W' H', Ext W H W' H' → HRel K cl W' h' H' → Q o H'
def pNo : Po' := fun _ => ret none
def pSo (m : Ex) : Po' := fun sl => bnd (m sl) fun d => match d with
  | .int i => ret (some i)
  | _ => stk
theorem dp_no : PO X none (tO X.K cl pNo) := ⟨fun pins s σ H Q I q => by
  obtain ⟨W, h, sl, o, h', rel, rs, e, po⟩ := q
  obtain ⟨rfl, rfl⟩ := ret_ok e
  exact po_none.run pins s σ H Q I (po W H .refl rel)⟩
theorem dp_so (he : DE cl X e m) : PO X (some e) (tO X.K cl (pSo m)) := ⟨fun pins s σ H Q I q => by
  obtain ⟨W, h, sl, o, h', rel, rs, e, po⟩ := q
  obtain ⟨d, h1, e1, e2⟩ := bnd_ok e
  refine (po_some he).run pins s σ H Q I ⟨W, h, sl, d, h1, rel, rs, e1, fun W1 H1 x ext rel1 rv => ?_⟩
  split at e2
  · cases e2
    cases rv
    exact ⟨_, rfl, po W1 H1 ext rel1⟩
  · cases e2⟩
def sIxD (n d : Nat) : Option Int → Nat
  | none => d
  | some v => if v < 0 then (v + (n : Int)).toNat else min v.toNat n
def cutD {α : Type} (xs : List α) (lo hi : Option Int) : List α := (xs.drop (sIxD xs.length 0 lo)).take (sIxD xs.length xs.length hi - sIxD xs.length 0 lo)
theorem RVs.cut {ds : List DV} {xs : List V} (r : RVs K cl W H ds xs) (lo hi : Option Int) : RVs K cl W H (cutD ds lo hi) (cutV xs lo hi) := by
  unfold cutD cutV
  rw [r.length]
  exact (r.drop _).take _
def sliceD (x : DV) (lo hi : Option Int) : M DV := match x with
  | .str s => if fits s.length then ret (.str (cutD s lo hi)) else stk
  | .tup ds => ret (.tup (cutD ds lo hi))
  | .ref n => bnd (lsAt n) fun ds => fun h => .ok (.ref h.length) (h ++ [.lst (cutD ds lo hi)])
  | _ => stk
def eSlc (m : Ex) (l u : Po') : Ex := fun sl => bnd (m sl) fun x => bnd (l sl) fun lo => bnd (u sl) fun hi => sliceD x lo hi
theorem cut_whole {α : Type} (xs : List α) (lo hi : Option Int) (h0 : sIxD xs.length 0 lo = 0) (h1 : sIxD xs.length xs.length hi = xs.length) : cutD xs lo hi = xs := by
  unfold cutD
  rw [h0, h1]
  simp
theorem de_slc {lo hi : Option Expr} {l u : Po'} {p2 : Pos} (he : DE cl X e m) (hl : PO X lo (tO X.K cl l)) (hu : PO X hi (tO X.K cl u)) : DE cl X (.Subscript e (.Slice lo hi none p2) pos) (eSlc m l u) :=
  (pe_slice (sl_list.or (sl_tupA.or sl_str)) he hl hu).mono fun σ H Q q => by
  obtain ⟨W, h, sl, v, h', rel, rs, e, po⟩ := q
  obtain ⟨d, h1, e1, e2⟩ := bnd_ok e
  obtain ⟨lo', h2, e3, e4⟩ := bnd_ok e2
  obtain ⟨hi', h3, e5, e6⟩ := bnd_ok e4
  refine ⟨W, h, sl, d, h1, rel, rs, e1, fun W1 H1 x ext1 rel1 rv => ⟨W1, h1, sl, lo', h2, rel1, rs.mono ext1, e3, fun W2 H2 ext2 rel2 => ⟨W2, h2, sl, hi', h3, rel2, (rs.mono ext1).mono ext2, e5, fun W3 H3 ext3 rel3 => ?_⟩⟩⟩
  have rv3 := (rv.mono ext2).mono ext3
  have po3 := po.go ((ext1.trans ext2).trans ext3)
  clear rv
  cases rv3 with
  | non => cases e6
  | bl => cases e6
  | int => cases e6
  | obj => cases e6
  | scr => cases e6
  | fls => cases e6
  | exc => cases e6
  | str s =>
    obtain ⟨z, e6⟩ := fit_if (show (if fits s.length then ret (DV.str (cutD s lo' hi')) else stk) _ = _ from e6)
    cases e6
    refine .inr (.inr ⟨_, rfl, by rw [SX.S_len]; exact z, ?_⟩)
    have : cutS (SX.S s) lo' hi' = SX.S (cutD s lo' hi') := by
      unfold cutS
      rw [SX.S_len]
      rfl
    rw [this]
    exact po3.now rel3 (.str _)
  | tup f r =>
    rename_i ds xs a
    cases e6
    refine .inr (.inl ⟨a, xs, rfl, f.sq, fun ⟨w1, w2⟩ => ?_, fun _ p hp => po_tup po3 rel3 (r.cut lo' hi') p hp⟩)
    have : cutD ds lo' hi' = ds := cut_whole ds lo' hi' (by rw [r.length]; exact w1) (by rw [r.length]; exact w2)
    rw [this] at po3
    exact po3.now rel3 (.tup f r)
  | ref hn =>
    rename_i n a dx
    obtain ⟨ds, h4, e7, e8⟩ := bnd_ok (show bnd (lsAt n) (fun ds => fun h => R.ok (DV.ref h.length) (h ++ [.lst (cutD ds lo' hi')])) _ = _ from e6)
    obtain ⟨rfl, q⟩ := lsAt_ok e7
    cases e8
    obtain ⟨_, xs, hx, rx⟩ := rel3.lst q hn
    exact .inl ⟨a, xs, rfl, SqL.of hx, fun p hp => po_lst po3 rel3 (rx.cut lo' hi') p hp⟩
/-! ### s.split(t), xs.extend(ys), int(text) -/
def splitD (d : DV) (ds : List DV) : M DV := match d, ds with
  | .str s, [.str t] => if fits (s.length + 2) && (!t.isEmpty && t.all (fun c => Nat.blt c 256)) then fun h => .ok (.ref h.length) (h ++ [.lst ((TL.spl t 0 [] s).map .str)]) else stk
  | _, _ => stk
theorem rvs_strs : ∀ l : List (List Nat), RVs K cl W H (l.map .str) ((l.map SX.S).map V.str)
  | [] => .nil
  | s :: t => .cons (.str s) (rvs_strs t)
theorem m_split : MD cl X "str.split" splitD := by
  intro pins s σ H x xs v us Q I rx rs q
  obtain ⟨W, h, d, ds, v', h', rel, r1, r2, e, po⟩ := q
  unfold splitD at e
  split at e
  · rename_i a b
    obtain ⟨y, rfl, r3⟩ := r2.one
    obtain ⟨z, e⟩ := if_ok e
    obtain ⟨z1, z2⟩ := Bool.and_eq_true_iff.mp z
    obtain ⟨z2, z3⟩ := Bool.and_eq_true_iff.mp z2
    cases r1
    cases r3
    cases e
    have hb : b ≠ [] := fun q => by rw [q] at z2; cases z2
    refine mt_split pins s σ H _ _ v us Q I rx rs ⟨SX.S a, SX.S b, rfl, rfl, ?_, by rw [SX.S_len]; exact fits_ok z1, fun p hp => ?_⟩
    · rw [SX.S_len]
      cases b with
      | nil => exact absurd rfl hb
      | cons c r => rfl
    · rw [SX.split_S hb (by
        rw [List.all_eq_true] at z3 ⊢
        intro c hc
        have := Nat.blt_eq.mp (z3 c hc)
        exact decide_eq_true this)]
      exact po_lst po rel (rvs_strs _) p hp
  · cases e
def extendD (d : DV) (ds : List DV) : M DV := match d, ds with
  | .ref n, [.ref k] => bnd (lsAt n) fun xs => bnd (lsAt k) fun ys => if fits (xs.length + ys.length) then fun h => .ok .non (h.set n (.lst (xs ++ ys))) else stk
  | _, _ => stk
theorem m_extend : MD cl X "list.extend" extendD := by
  intro pins s σ H x xs v us Q I rx rs q
  obtain ⟨W, h, d, ds, v', h', rel, r1, r2, e, po⟩ := q
  unfold extendD at e
  split at e
  · obtain ⟨y, rfl, r3⟩ := r2.one
    obtain ⟨ls, h1, e1, e2⟩ := bnd_ok e
    obtain ⟨rfl, q⟩ := lsAt_ok e1
    obtain ⟨l2, h2, e3, e4⟩ := bnd_ok e2
    obtain ⟨rfl, q2⟩ := lsAt_ok e3
    obtain ⟨z, e4⟩ := fit_if e4
    cases e4
    cases r1 with
    | ref hn =>
      cases r3 with
      | ref hk =>
        obtain ⟨nf, ys, hy, ry⟩ := rel.lst q hn
        obtain ⟨_, zs, hz, rz⟩ := rel.lst q2 hk
        obtain ⟨ex, rel2⟩ := ref_wr rel q hn (ry.append rz)
        exact mt_extend pins s σ H _ _ v us Q I rx rs ⟨_, _, ys, zs, rfl, rfl, hy, hz, by rw [← ry.length, ← rz.length]; exact z, po W _ .non ex rel2 .non⟩
  · cases e
end
end D
set_option Elab.async false
set_option linter.all false
set_option maxRecDepth 100000
set_option maxHeartbeats 2000000
/-! D18: lists so many times, int(text), f-strings, starred items, names set to comprehensions, comprehensions of two. -/
namespace D
open PySem PySem.Spec PyProof.Rows L2 SlX ZG
section
variable {K : PySem.W.Frag} {cl : Cl} {W W1 : Wd} {H H1 : Hp} {h h' : Hs} {X : Cx} {pos : Pos} {e e2 : Expr} {es : List Expr} {ms : Exs} {ma me m ml mh : Ex}
/-! ### a * n -/
def lrepD (x y : DV) : M DV := match x, y with
  | .ref n, .int k => bnd (lsAt n) fun ds => if Nat.ble k.natAbs 1048576 && fits (ds.length * k.toNat) then fun h => .ok (.ref h.length) (h ++ [.lst (List.replicate k.toNat ds).flatten]) else stk
  | a, b => repD a b
theorem RVs.rep {ds : List DV} {xs : List V} (r : RVs K cl W H ds xs) : ∀ n : Nat, RVs K cl W H (List.replicate n ds).flatten (List.replicate n xs).flatten
  | 0 => .nil
  | n + 1 => by
    rw [List.replicate_succ, List.replicate_succ, List.flatten_cons, List.flatten_cons]
    exact r.append (RVs.rep r n)
theorem o_lrep : O2 cl X (binaryOp .Mult) lrepD := by
  intro pins s σ H x y v u Q I rx ry q
  obtain ⟨W, h, d1, d2, v', h', rel, r1, r2, e, po⟩ := q
  unfold lrepD at e
  split at e
  · rename_i n k
    obtain ⟨ds, h1, e1, e2⟩ := bnd_ok e
    obtain ⟨rfl, q⟩ := lsAt_ok e1
    obtain ⟨z, e2⟩ := if_ok e2
    obtain ⟨z1, z2⟩ := Bool.and_eq_true_iff.mp z
    have z1 := Nat.le_of_ble_eq_true z1
    cases e2
    cases r2
    cases r1 with
    | ref hn =>
      obtain ⟨_, xs, hx, rx'⟩ := rel.lst q hn
      exact op_rep pins s σ H _ _ v u Q I rx ry ⟨_, k, xs, rfl, rfl, hx, by omega, by omega, by rw [← rx'.length]; exact fits_ok z2, fun p hp => po_lst po rel (rx'.rep k.toNat) p hp⟩
  · exact o_rep pins s σ H x y v u Q I rx ry ⟨W, h, _, _, v', h', rel, r1, r2, e, po⟩
/-! ### int(text) -/
def intTD (ds : List DV) : M DV := match ds with
  | [.str a] => if a.all (fun c => Nat.ble 48 c && Nat.ble c 57) && (!a.isEmpty && Nat.ble a.length 600) then ret (.int (NumText.digitsVal a : Nat)) else stk
  | l => intD l
theorem c_intT : CD cl X (.type "int") intTD := by
  intro pins s σ H xs us Q I rv q
  obtain ⟨W, h, ds, v', h', rel, r, e, po⟩ := q
  unfold intTD at e
  split at e
  · rename_i a
    obtain ⟨z, e⟩ := if_ok e
    obtain ⟨z1, z2⟩ := Bool.and_eq_true_iff.mp z
    obtain ⟨z2, z3⟩ := Bool.and_eq_true_iff.mp z2
    have z3 := Nat.le_of_ble_eq_true z3
    obtain ⟨x, rfl, r1⟩ := r.one
    cases r1
    cases e
    refine call_int_str pins s σ H _ us Q I rv ⟨_, _, rfl, SX.int_S ?_ (fun q => by rw [q] at z2; cases z2) (by omega), by rw [SX.S_len]; omega, po.now rel (.int _)⟩
    rw [List.all_eq_true] at z1 ⊢
    intro c hc
    have := z1 c hc
    rw [Bool.and_eq_true] at this ⊢
    exact ⟨decide_eq_true (Nat.le_of_ble_eq_true this.1), decide_eq_true (Nat.le_of_ble_eq_true this.2)⟩
  · exact c_int pins s σ H xs us Q I rv ⟨W, h, _, v', h', rel, r, e, po⟩
/-! ### str(int), f-strings -/
/-- the digits, from the last -/
def numF : Nat → Nat → List Nat → List Nat
  | 0, _, acc => acc
  | f + 1, n, acc => if Nat.blt n 10 then (48 + n) :: acc else numF f (n / 10) ((48 + n % 10) :: acc)
theorem numF_ok : ∀ (f n : Nat) (acc : List Nat), n < 10 ^ f → f ≠ 0 → numF f n acc = TL.numL n ++ acc
  | 0, _, _, _, h => absurd rfl h
  | f + 1, n, acc, hn, _ => by
    unfold numF
    cases q : Nat.blt n 10 with
    | true =>
      rw [if_pos rfl, TL.numL_lt (Nat.blt_eq.mp q)]
      rfl
    | false =>
      have h10 : 10 ≤ n := by
        apply Nat.le_of_not_lt
        intro z
        rw [Nat.blt_eq.mpr z] at q
        cases q
      rw [if_neg Bool.false_ne_true, TL.numL_step h10]
      have hf : f ≠ 0 := fun z => by subst z; simp at hn; omega
      rw [numF_ok f (n / 10) _ (by rw [Nat.pow_succ] at hn; exact Nat.div_lt_of_lt_mul (by rw [Nat.mul_comm]; exact hn)) hf, List.append_assoc]
      rfl
def strN (i : Int) : Option (List Nat) := match i with
  | .ofNat n => if Nat.blt n 1000000000 then some (numF 9 n []) else none
  | .negSucc _ => none
theorem strN_ok {i : Int} {a : List Nat} (e : strN i = some a) : i.natAbs.log2 < 1920 ∧ (toString i : Str) = SX.S a := by
  unfold strN at e
  split at e
  · rename_i n
    split at e
    · rename_i q
      cases e
      have q := Nat.blt_eq.mp q
      have e9 := numF_ok 9 n [] q (by decide)
      rw [List.append_nil] at e9
      rw [e9]
      refine ⟨?_, SX.num_S n⟩
      show n.log2 < 1920
      by_cases hz : n = 0
      · subst hz; decide
      · exact (Nat.log2_lt hz).mpr (Nat.lt_trans q (by decide))
    · cases e
  · cases e
def strD (ds : List DV) : M DV := match ds with
  | [.int i] => (match strN i with
    | some a => ret (.str a)
    | none => stk)
  | _ => stk
theorem c_str : CD cl X (.type "str") strD := by
  intro pins s σ H xs us Q I rv q
  obtain ⟨W, h, ds, v', h', rel, r, e, po⟩ := q
  unfold strD at e
  split at e
  · rename_i i
    obtain ⟨x, rfl, r1⟩ := r.one
    cases r1
    cases q : strN i with
    | none => rw [q] at e; cases e
    | some a =>
      rw [q] at e
      cases e
      obtain ⟨z1, z2⟩ := strN_ok q
      refine call_str_int pins s σ H _ us Q I rv ⟨_, rfl, z1, ?_⟩
      rw [z2]
      exact po.now rel (.str _)
  · cases e
def fmtD (d : DV) : M DV := match d with
  | .str s => if fits s.length then ret (.str s) else stk
  | .int i => (match strN i with
    | some a => ret (.str a)
    | none => stk)
  | _ => stk
def eFmt (m : Ex) : Ex := fun sl => bnd (m sl) fmtD
theorem de_fmt (he : DE cl X e m) : DE cl X (.FormattedValue e (-1) none pos) (eFmt m) := (pe_fmt he).mono fun σ H Q q => by
  obtain ⟨W, h, sl, v, h', rel, rs, e, po⟩ := q
  obtain ⟨d, h1, e1, e2⟩ := bnd_ok e
  refine ⟨W, h, sl, d, h1, rel, rs, e1, fun W1 H1 x ext rel1 rv => ?_⟩
  unfold fmtD at e2
  split at e2
  · obtain ⟨z, e2⟩ := fit_if e2
    cases e2
    cases rv
    exact .inl ⟨_, rfl, by rw [SX.S_len]; exact z, (po.go ext).now rel1 (.str _)⟩
  · rename_i i
    cases q : strN i with
    | none => rw [q] at e2; cases e2
    | some a =>
      rw [q] at e2
      cases e2
      cases rv
      obtain ⟨z1, z2⟩ := strN_ok q
      refine .inr ⟨_, rfl, z1, ?_⟩
      rw [z2]
      exact (po.go ext).now rel1 (.str _)
  · cases e2
/-- the parts -/
inductive DJ (cl : Cl) (X : Cx) : List Expr → List Ex → Prop
  | nil : DJ cl X [] []
  | cons {e : Expr} {m : Ex} {es : List Expr} {ms : List Ex} (h : DE cl X e m) (r : DJ cl X es ms) : DJ cl X (e :: es) (m :: ms)
theorem DJ.pj {es : List Expr} {ms : List Ex} (d : DJ cl X es ms) : PJ X es (ms.map (tE X.K cl)) := by
  induction d with
  | nil => exact .nil
  | cons h r ih => exact .cons h ih
def jsD : List Ex → List Nat → Ex
  | [], acc => fun _ => ret (.str acc)
  | m :: ms, acc => fun sl => bnd (m sl) fun d => match d with
    | .str a => if fits (acc ++ a).length then jsD ms (acc ++ a) sl else stk
    | _ => stk
theorem js_ok : ∀ {ms : List Ex} {acc : List Nat} {σ : L2.St} {H : Hp} {Q : VK}, tE K cl (jsD ms acc) σ H Q → tJs (ms.map (tE K cl)) (SX.S acc) σ H fun out H1 => Q (.str out) H1
  | [], acc, σ, H, Q, q => by
    obtain ⟨W, h, sl, v, h', rel, rs, e, po⟩ := q
    cases e
    exact po.now rel (.str _)
  | m :: ms, acc, σ, H, Q, q => by
    obtain ⟨W, h, sl, v, h', rel, rs, e, po⟩ := q
    obtain ⟨d, h1, e1, e2⟩ := bnd_ok e
    refine ⟨W, h, sl, d, h1, rel, rs, e1, fun W1 H1 x ext rel1 rv => ?_⟩
    split at e2
    · rename_i a
      obtain ⟨z, e2⟩ := fit_if e2
      cases rv
      refine ⟨_, rfl, by rw [SX.S_cat, SX.S_len]; exact z, ?_⟩
      rw [SX.S_cat]
      exact js_ok ⟨W1, h1, sl, v, h', rel1, rs.mono ext, e2, po.go ext⟩
    · cases e2
theorem de_joined {v1 v2 : Expr} {rest : List Expr} {ms : List Ex} (d : DJ cl X (v1 :: v2 :: rest) ms) : DE cl X (.JoinedStr (v1 :: v2 :: rest) pos) (jsD ms []) := (pe_joined d.pj).mono fun σ H Q q => js_ok q
theorem de_joined1 (he : DE cl X e m) : DE cl X (.JoinedStr [e] pos) m := pe_joined1 he
/-! ### *xs among items -/
def aStar (m : Ex) (ms : Exs) : Exs := fun sl => bnd (m sl) fun d => match d with
  | .ref n => bnd (lsAt n) fun ds => bnd (ms sl) fun es => ret (ds ++ es)
  | .tup ds => bnd (ms sl) fun es => ret (ds ++ es)
  | _ => stk
theorem da_star {p : Pos} (he : DE cl X e m) (hr : DA cl X es ms) (hs : starEach (.Starred e p :: es) X.env = (true, eval e X.env) :: starEach es X.env := by rfl) : DA cl X (.Starred e p :: es) (aStar m ms) := (StX.pa_star he hr hs).mono fun σ H Q q => by
  obtain ⟨W, h, sl, v, h', rel, rs, e, po⟩ := q
  obtain ⟨d, h1, e1, e2⟩ := bnd_ok e
  refine ⟨W, h, sl, d, h1, rel, rs, e1, fun W1 H1 x ext rel1 rv => ?_⟩
  split at e2
  · rename_i n
    obtain ⟨ds, h2, e3, e4⟩ := bnd_ok e2
    obtain ⟨rfl, q⟩ := lsAt_ok e3
    obtain ⟨us, h3, e5, e6⟩ := bnd_ok e4
    cases e6
    cases rv with
    | ref hn =>
      obtain ⟨_, xs, hx, rx⟩ := rel1.lst q hn
      exact ⟨_, xs, rfl, .inr (SqL.of hx), W1, _, sl, us, _, rel1, rs.mono ext, e5, fun W2 H2 ys ext2 rel2 rys => po W2 H2 _ (ext.trans ext2) rel2 ((rx.mono ext2).append rys)⟩
  · rename_i ds
    obtain ⟨us, h3, e5, e6⟩ := bnd_ok e2
    cases e6
    cases rv with
    | tup f r =>
      exact ⟨_, _, rfl, .inl f.sq, W1, _, sl, us, _, rel1, rs.mono ext, e5, fun W2 H2 ys ext2 rel2 rys => po W2 H2 _ (ext.trans ext2) rel2 ((r.mono ext2).append rys)⟩
  · cases e2
/-! ### x = [comprehension] -/
theorem ds_setLc {i : Nat} {y : Str} {py : Pos} {elt tg iter : Expr} {ifs : List Expr} {scope : Scope} {own : List (Str × Nat)} {ws : List Nat} {mi : Ix} {f : DV → Sl → Option Sl} {tt : Tx} {el : Ex} {pos' : Pos} (hc : X.calm = true) (hN : X.N.Nodup) (hy : X.N[i]? = some y) (hyl : X.env.scope.names.lookup y = some .local)
    (hsw : swapsWith (.ListComp elt [⟨tg, iter, ifs, 0⟩] scope pos') (some (.Name y py)) pos.line X.env = pure true) (hi : DI cl X tg iter mi) (ok : BlkOk X.N X.env.scope scope own)
    (hg : ∀ (s : Shared) (H : Hp) (C : Addr) (cc : List (Str × Addr)) (fp : List Addr), DG cl (X.blk s H scope (compEnvC scope cc C X.env) fp) tg ws f) (sub : ∀ j ∈ ws, j ∈ own.map Prod.snd)
    (ht : ∀ (s : Shared) (H : Hp) (C : Addr) (cc : List (Str × Addr)) (fp : List Addr), DTs cl (X.blk s H scope (compEnvC scope cc C X.env) fp) ifs tt)
    (he : ∀ (s : Shared) (H : Hp) (C : Addr) (cc : List (Str × Addr)) (fp : List Addr), DE cl (X.blk s H scope (compEnvC scope cc C X.env) fp) elt el) (hs : ∀ x, foldedSetIterable iter X.env x = pure x := by intro _; rfl) :
    DS cl X (.Assign [.Name y py] (.ListComp elt [⟨tg, iter, ifs, 0⟩] scope pos') pos) (sAs (eLc mi f (own.map Prod.snd) tt el) (gN i)) :=
  (ps_setLc (g := tG X.K cl ws f) (tt := tT X.K cl tt) (te := tE X.K cl el) hc hN hy hyl hsw hi ok (fun s H C cc fp => hg s H C cc fp) (fun s H C cc fp => ht s H C cc fp) (fun s H C cc fp => he s H C cc fp) hs).mono fun D σ H q => by
    obtain ⟨W, h, sl, fl, sl', h', rel, rs, e, po⟩ := q
    obtain ⟨v, h1, e1, e2⟩ := bnd_ok e
    obtain ⟨sl1, h2, e3, e4⟩ := bnd_ok e2
    obtain ⟨e3', rfl⟩ := optM_ok e3
    cases e4
    cases e3'
    exact lc_le sub ⟨W, h, sl, v, h', rel, rs, e1, fun W' H' x ext rel' rv => po W' H' _ ext rel' ((rs.mono ext).set i rv)⟩
end
end D
set_option Elab.async false
set_option linter.all false
set_option maxRecDepth 100000
set_option maxHeartbeats 2000000
/-! D19: comprehensions of two generators. -/
namespace D
open PySem PySem.Spec PyProof.Rows L2 SlX ZG
section
variable {K : PySem.W.Frag} {cl : Cl} {W W1 : Wd} {H H1 : Hp} {h h' : Hs} {X : Cx} {pos : Pos}
/-- the walk of an inner generator, at the list D that is in the making -/
theorem lc_in {t : Wlk} {f : DV → Sl → Option Sl} {ws vs1 : List Nat} {tt : Tx} {el : Ex} {D : Addr} {σ2 : L2.St} {sl1 : Sl} {J : It} {Base : Wd → Hp → Prop} {mid : List DV} {h5 : Hs} {Nx : Hp → Prop} (sub : ∀ j ∈ ws, j ∈ vs1) (zmid : mid.length ≤ sizeLine)
    (bE : ∀ W H W' H', Ext W H W' H' → Base W H → Base W' H') (bO : ∀ W H acc acc', Base W H → H D = some (.lst acc) → Base W (upd H D (.lst acc')))
    (nx : ∀ W H acc, Base W H → HRel K cl W h5 H → W.F D → Apart W h5 D → H D = some (.lst acc) → RVs K cl W H mid acc → Nx H)
    {W0 : Wd} {h0 : Hs} {H0 : Hp} {acc0 : List V} {accD0 rest0 : List DV} {n0 : Nat} (b0 : Base W0 H0) (rel0 : HRel K cl W0 h0 H0) (rs0 : RSl K cl W0 H0 sl1 σ2) (hF0 : W0.F D) (ap0 : Apart W0 h0 D) (hD0 : H0 D = some (.lst acc0)) (racc0 : RVs K cl W0 H0 accD0 acc0)
    (e0 : lcD t f tt el (wipeO sl1 vs1) n0 0 h0 = .ok rest0 h5) (em0 : accD0 ++ rest0 = mid) (wk : WalkD K cl J t W0 H0) :
    ∃ W1 : Nat → Nat → Hp → Prop, (∃ m, W1 0 m H0) ∧ ∀ j k H, W1 j k H → (J.stop j H ∧ Nx H) ∨ (J.go j H ∧ ∃ Nx1 : Hp → Prop, (∀ H', Nx1 H' → ∃ k', k' < k ∧ W1 (j + 1) k' H') ∧ ∀ x H', J.yld j H x H' →
      tG K cl ws f x (wipe σ2 vs1) H' fun σ3 H5 => wipe σ3 vs1 = wipe σ2 vs1 ∧ tT K cl tt σ3 H5 fun b H6 => if b = true then tE K cl el σ3 H6 fun y H7 => ∃ acc, H7 D = some (.lst acc) ∧ acc.length < sizeLine ∧ Nx1 (upd H7 D (.lst (acc ++ [y]))) else Nx1 H6) := by
  obtain ⟨G, g0, gE, gO, gW⟩ := wk
  refine ⟨fun i n H2 => ∃ W2 h3 accD acc rest, Base W2 H2 ∧ G W2 H2 ∧ HRel K cl W2 h3 H2 ∧ RSl K cl W2 H2 (wipeO sl1 vs1) (wipe σ2 vs1) ∧ W2.F D ∧ Apart W2 h3 D ∧ H2 D = some (.lst acc) ∧ RVs K cl W2 H2 accD acc ∧
    lcD t f tt el (wipeO sl1 vs1) n i h3 = .ok rest h5 ∧ accD ++ rest = mid, ⟨_, W0, h0, accD0, acc0, rest0, b0, g0, rel0, ⟨by rw [wipeO_len, wipe_length]; exact rs0.1, ros_wipe rs0.2 _⟩, hF0, ap0, hD0, racc0, e0, em0⟩, ?_⟩
  rintro i n H2 ⟨W2, h3, accD, acc, rest, b2, g2, rel2, rs2, hF, ap, hDa, racc, e5, eall⟩
  obtain ⟨y1, y2⟩ := gW W2 h3 H2 i g2 rel2
  cases n with
  | zero => cases e5
  | succ n =>
    have e6 : (match t.at i h3 with
    | some (some d) => bnd (optM (f d (wipeO sl1 vs1))) (fun sl1' => bnd (tt sl1') fun k => if k then bnd (el sl1') fun v => bnd (lcD t f tt el (wipeO sl1 vs1) n (i + 1)) fun vs => ret (v :: vs) else lcD t f tt el (wipeO sl1 vs1) n (i + 1)) h3
    | some none => .ok [] h3
    | none => .stuck) = .ok rest h5 := e5
    cases q : t.at i h3 with
    | none => rw [q] at e6; cases e6
    | some o =>
      rw [q] at e6
      cases o with
      | none =>
        cases e6
        rw [List.append_nil] at eall
        subst eall
        exact .inl ⟨y2 q, nx W2 H2 acc b2 rel2 hF ap hDa racc⟩
      | some d =>
        obtain ⟨go, yl⟩ := y1 d q
        refine .inr ⟨go, _, fun H3 z => ⟨n, Nat.lt_succ_self _, z⟩, fun x H3 yx => ?_⟩
        obtain ⟨W3, ext3, _, rel3, rx⟩ := yl x H3 yx
        obtain ⟨sl3, h4, e7, e8⟩ := bnd_ok e6
        obtain ⟨e7', rfl⟩ := optM_ok e7
        refine ⟨W3, h3, _, d, sl3, rel3, rs2.mono ext3, rx, e7', fun σ4 rs4 z4 => ⟨wipe_same (z4.1.trans (wipe_length _ _)) z4.2 sub, ?_⟩⟩
        obtain ⟨k, h6, e9, e10⟩ := bnd_ok e8
        refine ⟨W3, h3, sl3, k, h6, rel3, rs4, e9, fun W4 H4 ext4 rel4 => ?_⟩
        cases k with
        | false =>
          have ext := ext3.trans ext4
          exact iteF ⟨W4, h6, accD, acc, rest, bE _ _ _ _ ext b2, gE _ _ _ _ ext g2, rel4, rs2.mono ext, ext.sub D hF, ap.ext ext hF, (ext.keep D hF).trans hDa, racc.mono ext, e10, eall⟩
        | true =>
          refine iteT ?_
          obtain ⟨v, h7, e11, e12⟩ := bnd_ok e10
          obtain ⟨vs, h8, e13, e14⟩ := bnd_ok e12
          cases e14
          refine ⟨W4, h6, sl3, v, h7, rel4, rs4.mono ext4, e11, fun W5 H5 y ext5 rel5 rv5 => ?_⟩
          have ext := (ext3.trans ext4).trans ext5
          have hDb : H5 D = some (.lst acc) := (ext.keep D hF).trans hDa
          have hacc : ∃ u, H5 D = some u ∧ Acc u := ⟨_, hDb, .inl ⟨_, rfl⟩⟩
          have ap5 : Apart W5 h7 D := ap.ext ext hF
          have off : Off W5 H5 W5 (upd H5 D (.lst (acc ++ [y]))) D := Off.wr hacc
          refine ⟨acc, hDb, ?_, W5, h7, accD ++ [v], acc ++ [y], vs, bO _ _ _ _ (bE _ _ _ _ ext b2) hDb, gO _ _ _ _ D off (gE _ _ _ _ ext g2), rel5.accWr hacc ap5 (fun _ z => by cases z),
            (rs2.mono ext).off off, ext.sub D hF, ap5, upd_same, ((racc.mono ext).append (.cons rv5 .nil)).off off, e13, ?_⟩
          · rw [← racc.length]
            have : mid.length ≤ sizeLine := zmid
            rw [← eall, List.length_append, List.length_cons] at this
            omega
          · rw [List.append_assoc]; exact eall
def lcD2 (t : Wlk) (f : DV → Sl → Option Sl) (tt : Tx) (mi1 : Ix) (f1 : DV → Sl → Option Sl) (own1 : List Nat) (tt1 : Tx) (el : Ex) (sl : Sl) : Nat → Nat → M (List DV)
  | 0, _ => stk
  | n + 1, i => fun h => match t.at i h with
    | some (some d) => bnd (optM (f d sl)) (fun sl1 => bnd (tt sl1) fun k => if k then bnd (mi1 sl1) fun t1 => bnd (lcD t1 f1 tt1 el (wipeO sl1 own1) 16777216 0) fun vs => bnd (lcD2 t f tt mi1 f1 own1 tt1 el sl n (i + 1)) fun us => ret (vs ++ us)
        else lcD2 t f tt mi1 f1 own1 tt1 el sl n (i + 1)) h
    | some none => .ok [] h
    | none => .stuck
def eLc2 (mi : Ix) (f : DV → Sl → Option Sl) (own : List Nat) (tt : Tx) (mi1 : Ix) (f1 : DV → Sl → Option Sl) (own1 : List Nat) (tt1 : Tx) (el : Ex) : Ex := fun sl => bnd (mi sl) fun t => bnd (lcD2 t f tt mi1 f1 own1 tt1 el (wipeO sl own) 16777216 0) lstD
theorem lc2_le {mi mi1 : Ix} {f f1 : DV → Sl → Option Sl} {ws vs0 ws1 vs1 : List Nat} {tt tt1 : Tx} {el : Ex} {σ : L2.St} {Q : VK} (sub : ∀ j ∈ ws, j ∈ vs0) (sub1 : ∀ j ∈ ws1, j ∈ vs1) (q : tE K cl (eLc2 mi f vs0 tt mi1 f1 vs1 tt1 el) σ H Q) :
    tLc2 (tI K cl mi) (tG K cl ws f) (tT K cl tt) (tI K cl mi1) (tG K cl ws1 f1) (tT K cl tt1) (tE K cl el) vs0 vs1 σ H Q := by
  obtain ⟨W, h, sl0, v, h', rel, rs0, e, po⟩ := q
  obtain ⟨t, h1, e1, e2⟩ := bnd_ok e
  obtain ⟨all, h2, e3, e4⟩ := bnd_ok e2
  obtain ⟨zall, e4⟩ := fit_if e4
  cases e4
  refine ⟨W, h, sl0, t, h1, rel, rs0, e1, fun W1 H1 J ext1 rel1 wk D hD => ?_⟩
  obtain ⟨G, g0, gE, gO, gW⟩ := wk
  have nD : ∀ a, W.F a → a ≠ D := fun a q z => by
    obtain ⟨u, hu⟩ := rel1.tr a (ext1.sub a q)
    rw [z, hD] at hu
    cases hu
  refine ⟨fun i n H2 => ∃ W2 h3 accD acc rest, Ext W H W2 H2 ∧ G W2 H2 ∧ HRel K cl W2 h3 H2 ∧ RSl K cl W2 H2 (wipeO sl0 vs0) (wipe σ vs0) ∧ W2.F D ∧ Apart W2 h3 D ∧ H2 D = some (.lst acc) ∧ RVs K cl W2 H2 accD acc ∧
    lcD2 t f tt mi1 f1 vs1 tt1 el (wipeO sl0 vs0) n i h3 = .ok rest h2 ∧ accD ++ rest = all, ⟨_, W1.fz D, h1, [], [], all, ext1.trans (ext_new hD rel1), gE _ _ _ _ (ext_new hD rel1) g0, rel1.new hD,
    ⟨by rw [wipeO_len, wipe_length]; exact rs0.1, (ros_wipe rs0.2 _).mono (ext1.trans (ext_new hD rel1))⟩, .inr rfl, fun n a dx q => Apart.fresh (h := h1) rel1 hD n a dx q, upd_same, .nil, e3, rfl⟩, ?_⟩
  rintro i n H2 ⟨W2, h3, accD, acc, rest, ext2, g2, rel2, rs2, hF, ap, hDa, racc, e5, eall⟩
  obtain ⟨y1, y2⟩ := gW W2 h3 H2 i g2 rel2
  cases n with
  | zero => cases e5
  | succ n =>
    have e6 : (match t.at i h3 with
    | some (some d) => bnd (optM (f d (wipeO sl0 vs0))) (fun sl1 => bnd (tt sl1) fun k => if k then bnd (mi1 sl1) fun t1 => bnd (lcD t1 f1 tt1 el (wipeO sl1 vs1) 16777216 0) fun vs => bnd (lcD2 t f tt mi1 f1 vs1 tt1 el (wipeO sl0 vs0) n (i + 1)) fun us => ret (vs ++ us)
        else lcD2 t f tt mi1 f1 vs1 tt1 el (wipeO sl0 vs0) n (i + 1)) h3
    | some none => .ok [] h3
    | none => .stuck) = .ok rest h2 := e5
    cases q : t.at i h3 with
    | none => rw [q] at e6; cases e6
    | some o =>
      rw [q] at e6
      cases o with
      | none =>
        cases e6
        rw [List.append_nil] at eall
        subst eall
        have hacc : ∃ u, H2 D = some u ∧ Acc u := ⟨_, hDa, .inl ⟨_, rfl⟩⟩
        refine .inl ⟨y2 q, po (W2.let D) H2 (.ref D) ⟨fun n p e => (Off.let (W := W2) hacc).pre n p (ext2.pre n p e), fun a z => ⟨ext2.sub a z, nD a z⟩, ext2.keep, fun n p e => ?_⟩
          (rel2.let hacc ap (fun _ _ z => by cases z) ⟨fun z => z.2 rfl, acc, hDa, racc.off (Off.let hacc)⟩) (.ref (d := D) ?_)⟩
        · have e : (W2.ρ ++ [(D, D)])[n]? = some p := e
          rcases getElem?_snoc e with ⟨e, _⟩ | ⟨_, e⟩
          · exact ext2.new n p e
          · exact .inr fun z => nD _ z (by rw [← e])
        · show (W2.ρ ++ [(D, D)])[h2.length]? = some (D, D)
          rw [rel2.len]; simp
      | some d =>
        obtain ⟨go, yl⟩ := y1 d q
        refine .inr ⟨go, _, fun H3 z => ⟨n, Nat.lt_succ_self _, z⟩, fun x H3 yx => ?_⟩
        obtain ⟨W3, ext3, _, rel3, rx⟩ := yl x H3 yx
        obtain ⟨sl1, h4, e7, e8⟩ := bnd_ok e6
        obtain ⟨e7', rfl⟩ := optM_ok e7
        refine ⟨W3, h3, _, d, sl1, rel3, rs2.mono ext3, rx, e7', fun σ4 rs4 z4 => ⟨wipe_same (z4.1.trans (wipe_length _ _)) z4.2 sub, ?_⟩⟩
        obtain ⟨k, h5, e9, e10⟩ := bnd_ok e8
        refine ⟨W3, h3, sl1, k, h5, rel3, rs4, e9, fun W4 H4 ext4 rel4 => ?_⟩
        cases k with
        | false =>
          have ext := ext3.trans ext4
          exact iteF ⟨W4, h5, accD, acc, rest, ext2.trans ext, gE _ _ _ _ ext g2, rel4, rs2.mono ext, ext.sub D hF, ap.ext ext hF, (ext.keep D hF).trans hDa, racc.mono ext, e10, eall⟩
        | true =>
          refine iteT ?_
          obtain ⟨t1, h6, e11, e12⟩ := bnd_ok e10
          obtain ⟨vs, h7, e13, e14⟩ := bnd_ok e12
          obtain ⟨us, h8, e15, e16⟩ := bnd_ok e14
          cases e16
          refine ⟨W4, h5, sl1, t1, h6, rel4, rs4.mono ext4, e11, fun W5 H5 J1 ext5 rel5 wk1 => ?_⟩
          have ext := (ext3.trans ext4).trans ext5
          have e25 := ext2.trans ext
          refine lc_in (sub := sub1) (Base := fun W6 H6 => Ext W H W6 H6 ∧ G W6 H6 ∧ RSl K cl W6 H6 (wipeO sl0 vs0) (wipe σ vs0)) (mid := accD ++ vs) (h5 := h7) ?_ ?_ ?_ ?_
            ⟨e25, gE _ _ _ _ ext g2, rs2.mono ext⟩ rel5 ((rs4.mono ext4).mono ext5) (ext.sub D hF) (ap.ext ext hF) ((ext.keep D hF).trans hDa) (racc.mono ext) e13 rfl wk1
          · have : all.length ≤ sizeLine := zall
            rw [← eall, List.length_append, List.length_append] at this
            rw [List.length_append]
            omega
          · exact fun _ _ _ _ x ⟨b1, b2, b3⟩ => ⟨b1.trans x, gE _ _ _ _ x b2, b3.mono x⟩
          · intro W6 H6 ac ac' ⟨b1, b2, b3⟩ hd
            have off : Off W6 H6 W6 (upd H6 D (.lst ac')) D := Off.wr ⟨_, hd, .inl ⟨_, rfl⟩⟩
            exact ⟨⟨b1.pre, b1.sub, fun a z => (upd_ne (nD a z)).trans (b1.keep a z), b1.new⟩, gO _ _ _ _ D off b2, b3.off off⟩
          · intro W6 H6 ac ⟨b1, b2, b3⟩ r6 f6 a6 d6 v6
            exact ⟨W6, h7, accD ++ vs, ac, us, b1, b2, r6, b3, f6, a6, d6, v6, e15, by rw [List.append_assoc]; exact eall⟩
theorem de_lc2 {elt tg iter tg1 iter1 : Expr} {ifs ifs1 : List Expr} {scope : Scope} {own : List (Str × Nat)} {vs1 ws ws1 : List Nat} {mi mi1 : Ix} {f f1 : DV → Sl → Option Sl} {tt tt1 : Tx} {el : Ex} (hc : X.calm = true) (hN : X.N.Nodup) (hi : DI cl X tg iter mi) (ok : BlkOk X.N X.env.scope scope own) (hv : ∀ i ∈ vs1, i ∈ own.map (·.2))
    (hg : ∀ (s : Shared) (H : Hp) (C : Addr) (cc : List (Str × Addr)) (fp : List Addr), DG cl (X.blk s H scope (compEnvC scope cc C X.env) fp) tg ws f) (sub : ∀ j ∈ ws, j ∈ own.map Prod.snd)
    (ht : ∀ (s : Shared) (H : Hp) (C : Addr) (cc : List (Str × Addr)) (fp : List Addr), DTs cl (X.blk s H scope (compEnvC scope cc C X.env) fp) ifs tt)
    (hi1 : ∀ (s : Shared) (H : Hp) (C : Addr) (cc : List (Str × Addr)) (fp : List Addr), DI cl (X.blk s H scope (compEnvC scope cc C X.env) fp) tg1 iter1 mi1)
    (hg1 : ∀ (s : Shared) (H : Hp) (C : Addr) (cc : List (Str × Addr)) (fp : List Addr), DG cl (X.blk s H scope (compEnvC scope cc C X.env) fp) tg1 ws1 f1) (sub1 : ∀ j ∈ ws1, j ∈ vs1)
    (ht1 : ∀ (s : Shared) (H : Hp) (C : Addr) (cc : List (Str × Addr)) (fp : List Addr), DTs cl (X.blk s H scope (compEnvC scope cc C X.env) fp) ifs1 tt1)
    (he : ∀ (s : Shared) (H : Hp) (C : Addr) (cc : List (Str × Addr)) (fp : List Addr), DE cl (X.blk s H scope (compEnvC scope cc C X.env) fp) elt el) (hs : ∀ x, foldedSetIterable iter X.env x = pure x := by intro _; rfl) (hs1 : ∀ env x, foldedSetIterable iter1 env x = pure x := by intro _ _; rfl) :
    DE cl X (.ListComp elt [⟨tg, iter, ifs, 0⟩, ⟨tg1, iter1, ifs1, 0⟩] scope pos) (eLc2 mi f (own.map Prod.snd) tt mi1 f1 vs1 tt1 el) :=
  (pe_lc2 (g := tG X.K cl ws f) (g1 := tG X.K cl ws1 f1) (tt := tT X.K cl tt) (tt1 := tT X.K cl tt1) (te := tE X.K cl el) hc hN hi ok hv (fun s H C cc fp => hg s H C cc fp) (fun s H C cc fp => ht s H C cc fp) (fun s H C cc fp => hi1 s H C cc fp) (fun s H C cc fp => hg1 s H C cc fp) (fun s H C cc fp => ht1 s H C cc fp) (fun s H C cc fp => he s H C cc fp) hs hs1).mono
    fun σ H Q q => lc2_le sub sub1 q
end
end D
set_option Elab.async false
set_option linter.all false
set_option maxRecDepth 100000
set_option maxHeartbeats 2000000
/-! D20: callees that lean on nothing but their arguments: their answers from a table. -/
namespace D
open PySem PySem.Spec PyProof.Rows L2 SlX
mutual
/-- made of what never changes -/
def pureV : DV → Bool
  | .non => true
  | .bl _ => true
  | .int _ => true
  | .str _ => true
  | .tup xs => pureVs xs
  | .obj _ fs => pureVs fs
  | .fls xs => pureVs xs
  | .exc _ v => pureV v
  | _ => false
def pureVs : List DV → Bool
  | [] => true
  | d :: t => pureV d && pureVs t
end
def noIns (h : Hs) : Bool := h.all fun o => match o with
  | .ins _ _ => false
  | _ => true
theorem noIns_ok {h : Hs} (e : noIns h = true) {n c : Nat} {fs : List (Option DV)} : h[n]? ≠ some (.ins c fs) := fun q => by
  have := List.all_eq_true.mp e _ (List.mem_of_getElem? q)
  cases this
/-- the answer that the table tells -/
def pureD (G : List DV → Option DV) (ds : List DV) : M DV := fun h => if noIns h then (match G ds with
  | some v => .ok v h
  | none => .stuck) else .stuck
/-- what lies there is no list, no dict -/
def Calm (u : HO) : Prop := (∀ xs, u ≠ .lst xs) ∧ ∀ ks, u ≠ .dK ks
section
variable {K : PySem.W.Frag} {cl : Cl} {W W1 : Wd} {H H1 : Hp} {h h' : Hs}
mutual
theorem RV.pure (hF : ∀ b u, W.F b → H b = some u → Calm u → W1.F b) : ∀ {d : DV} {x : V}, pureV d = true → RV K cl W H d x → RV K cl W1 H d x
  | _, _, _, .non => .non
  | _, _, _, .bl b => .bl b
  | _, _, _, .int i => .int i
  | _, _, _, .str s => .str s
  | _, _, q, .ref _ => by cases q
  | _, _, q, .tup f r => by
    refine .tup ?_ (RVs.pure hF (show pureVs _ = true from q) r)
    rcases f with ⟨f1, f2 | ⟨o, f2⟩⟩ | f
    · exact .inl ⟨hF _ _ f1 f2 ⟨fun _ z => (by cases z), fun _ z => (by cases z)⟩, .inl f2⟩
    · exact .inl ⟨hF _ _ f1 f2 ⟨fun _ z => (by cases z), fun _ z => (by cases z)⟩, .inr ⟨o, f2⟩⟩
    · exact .inr f
  | _, _, q, .obj f1 f2 n h1 h2 r =>
    .obj (hF _ _ f1 h1 ⟨fun _ z => (by cases z), fun _ z => (by cases z)⟩) (hF _ _ f2 h2 ⟨fun _ z => (by cases z), fun _ z => (by cases z)⟩) n h1 h2 (RVs.pure hF (show pureVs _ = true from q) r)
  | _, _, q, .scr f => by cases q
  | _, _, q, .exc f1 f2 n h1 h2 r => .exc (hF _ _ f1 h1 ⟨fun _ z => (by cases z), fun _ z => (by cases z)⟩) (hF _ _ f2 h2 ⟨fun _ z => (by cases z), fun _ z => (by cases z)⟩) n h1 h2 (RV.pure hF (show pureV _ = true from q) r)
  | _, _, q, .fls f r => by
    refine .fls ?_ (RVs.pure hF (show pureVs _ = true from q) r)
    rcases f with ⟨f1, o, f2⟩ | f
    · exact .inl ⟨hF _ _ f1 f2 ⟨fun _ z => (by cases z), fun _ z => (by cases z)⟩, o, f2⟩
    · exact .inr f
theorem RVs.pure (hF : ∀ b u, W.F b → H b = some u → Calm u → W1.F b) : ∀ {d : List DV} {x : List V}, pureVs d = true → RVs K cl W H d x → RVs K cl W1 H d x
  | _, _, _, .nil => .nil
  | _, _, q, .cons a b => by
    have q2 := Bool.and_eq_true_iff.mp (show (pureV _ && pureVs _) = true from q)
    exact .cons (RV.pure hF q2.1 a) (RVs.pure hF q2.2 b)
end
theorem pure_sp (hT : cl.T = []) {n : Nat} {g : List DV → M DV} {G : List DV → Option DV} {vs : List V} {Q : VK} {E : XK}
    (hG : ∀ ds v, G ds = some v → noRefs ds = true ∧ pureV v = true ∧ ∃ hs, g ds [] = .ok v hs) (q : spD K cl n (pureD G) vs H Q E) : spD K cl n g vs H Q E := by
  obtain ⟨hl, W, h, ds, v, h', rel, r, e, po⟩ := q
  refine ⟨hl, ?_⟩
  have e : (if noIns h then (match G ds with
    | some v => R.ok v h
    | none => .stuck) else .stuck) = R.ok v h' := e
  split at e
  · rename_i ni
    cases qG : G ds with
    | none => rw [qG] at e; cases e
    | some v0 =>
      rw [qG] at e
      cases e
      obtain ⟨nr, pv, hs, run⟩ := hG _ _ qG
      let Ws : Wd := ⟨[], fun b => ∃ u, H b = some u⟩
      have sub : ∀ b, W.F b → Ws.F b := fun b q => rel.tr b q
      have rs : HRel K cl Ws [] H := ⟨rfl, List.Pairwise.nil, fun b q => q, fun p hp => (by cases hp), fun n d' b dy h1 h2 => (by simp at h1), fun n k c c' fs fs' b d1 b' d2 h1 => (by simp at h1), fun p hp => (rel.tb p hp).go sub (fun _ _ => rfl) fun _ _ z => z, fun t0 => absurd hT t0⟩
      refine ⟨Ws, [], ds, v, hs, rs, r.by_itself (fun _ => rfl) (fun _ => rfl) sub (fun _ _ => rfl) nr, run, fun W' H' x ext rel' rv => ?_⟩
      have kept : ∀ b u, H b = some u → H' b = some u := fun b u q => (ext.keep b ⟨u, q⟩).trans q
      let W2 : Wd := ⟨W.ρ, fun b => W.F b ∨ (W'.F b ∧ ∀ u, H' b = some u → Calm u)⟩
      have nfl : ∀ b xs, H' b = some (.lst xs) → ¬ W.F b → ¬ W2.F b := fun b xs q nf z => by
        rcases z with z | ⟨_, z⟩
        · exact nf z
        · exact (z _ q).1 _ rfl
      have nfd : ∀ b ks, H' b = some (.dK ks) → ¬ W.F b → ¬ W2.F b := fun b xs q nf z => by
        rcases z with z | ⟨_, z⟩
        · exact nf z
        · exact (z _ q).2 _ rfl
      have ext2 : Ext W H W2 H' := ⟨fun _ _ q => q, fun _ q => .inl q, fun b q => ext.keep b (sub b q), fun _ _ q => .inl q⟩
      refine po W2 H' x ext2 ⟨rel.len, rel.nd, fun b q => ?_, fun p hp => ?_, fun n d' b dy h1 h2 => ?_, fun n k c c' fs fs' b d1 b' d2 h1 => absurd h1 (noIns_ok ni), fun p hp => ?_, fun t0 => absurd hT t0⟩ (rv.pure (W1 := W2) (fun b u f q cm => .inr ⟨f, fun u' q' => by rw [q] at q'; cases q'; exact cm⟩) pv)
      · rcases q with q | ⟨q, _⟩
        · obtain ⟨u, hu⟩ := rel.tr b q
          exact ⟨u, kept b u hu⟩
        · exact rel'.tr b q
      · obtain ⟨u, hu, nu⟩ := rel.tr2 p hp
        exact ⟨u, kept _ u hu, nu⟩
      · have q := rel.ok n d' b dy h1 h2
        cases d' with
        | lst ds =>
          obtain ⟨k1, xs, k2, k3⟩ := q
          exact ⟨nfl b _ (kept _ _ k2) k1, xs, kept _ _ k2, k3.mono ext2⟩
        | dic ds =>
          obtain ⟨k1, xs, k2, k3⟩ := q
          exact ⟨nfd b _ (kept _ _ k2) k1, xs, kept _ _ k2, k3.mono ext2⟩
        | dfz ds =>
          obtain ⟨k1, od, xs, k2, k3⟩ := q
          exact ⟨.inl k1, od, xs, kept _ _ k2, k3.mono ext2⟩
        | pot k ds =>
          obtain ⟨k1, i, j, l, k2, k3⟩ := q
          exact ⟨nfl b _ (kept _ _ k2) k1, i, j, l, kept _ _ k2, k3⟩
        | dead => exact True.intro
        | ins c0 f0 => exact absurd h1 (noIns_ok ni)
      · obtain ⟨ps, t1, t2, t3⟩ := rel'.tb p hp
        refine ⟨ps, t1, t2, fun pos cv e => ?_⟩
        obtain ⟨c, e1, e2, e3⟩ := t3 pos cv e
        refine ⟨c, e1, .inr ⟨e2, fun u q => ?_⟩, e3⟩
        rw [e3] at q
        rw [← Option.some.inj q]
        exact ⟨fun xs z => (by have z' : HO.ext _ = HO.lst xs := z; cases z'), fun ks z => (by have z' : HO.ext _ = HO.dK ks := z; cases z')⟩
  · cases e
theorem pure_ok (hT : cl.T = []) {P : Program} {w : World} {mg : Str → Option Value} {base : Heap} {k n : Nat} {f : Addr} {g : List DV → M DV} {G : List DV → Option DV} (F : FnD P w K mg base cl k f n g)
    (hG : ∀ ds v, G ds = some v → noRefs ds = true ∧ pureV v = true ∧ ∃ hs, g ds [] = .ok v hs) : FnD P w K mg base cl k f n (pureD G) := by
  obtain ⟨fd, ps, F, b⟩ := F
  exact ⟨fd, ps, F.imp fun vs H Q E q => pure_sp hT hG q, b⟩
mutual
def eqT : DV → DV → Bool
  | .tup a, .tup b => eqTs a b
  | .obj c a, .obj d b => Nat.beq c d && eqTs a b
  | a, b => eq1 a b
def eqTs : List DV → List DV → Bool
  | [], [] => true
  | a :: s, b :: t => eqT a b && eqTs s t
  | _, _ => false
end
mutual
theorem eqT_ok : ∀ (a b : DV), eqT a b = true → a = b := fun a b h => by
  cases a <;> cases b <;> first | (exact eq1_ok (by unfold eqT at h; exact h)) | skip
  · rename_i x y
    have h : eqTs x y = true := by unfold eqT at h; exact h
    rw [eqTs_ok x y h]
  · rename_i c x d y
    have h : (Nat.beq c d && eqTs x y) = true := by unfold eqT at h; exact h
    obtain ⟨h1, h2⟩ := Bool.and_eq_true_iff.mp h
    rw [Nat.eq_of_beq_eq_true h1, eqTs_ok x y h2]
theorem eqTs_ok : ∀ (a b : List DV), eqTs a b = true → a = b
  | [], [], _ => rfl
  | _ :: _, [], h => by unfold eqTs at h; cases h
  | [], _ :: _, h => by unfold eqTs at h; cases h
  | a :: s, b :: t, h => by
    unfold eqTs at h
    obtain ⟨h1, h2⟩ := Bool.and_eq_true_iff.mp h
    rw [eqT_ok a b h1, eqTs_ok s t h2]
end
/-- a table of answers -/
def tblP (tab : List (List DV × DV)) (ds : List DV) : Option DV := match tab with
  | [] => none
  | (r, v) :: t => if eqTs r ds then some v else tblP t ds
def runsTo (g : List DV → M DV) (p : List DV × DV) : Prop := noRefs p.1 = true ∧ pureV p.2 = true ∧ ∃ hs, g p.1 [] = .ok p.2 hs
theorem tblP_ok {g : List DV → M DV} : ∀ {tab : List (List DV × DV)}, (∀ p ∈ tab, runsTo g p) → ∀ ds v, tblP tab ds = some v → noRefs ds = true ∧ pureV v = true ∧ ∃ hs, g ds [] = .ok v hs
  | [], _, ds, v, e => by cases e
  | (r, u) :: t, h, ds, v, e => by
    have e : (if eqTs r ds then some u else tblP t ds) = some v := e
    split at e
    · rename_i c
      cases e
      have := eqTs_ok _ _ c
      subst this
      exact h _ (List.mem_cons_self ..)
    · exact tblP_ok (fun p hp => h p (List.mem_cons_of_mem _ hp)) ds v e
/-- the run, by the kernel -/
def valB (g : List DV → M DV) (ds : List DV) (v : DV) : Bool := noRefs ds && (pureV v && (match g ds [] with
  | .ok u _ => eqT u v
  | _ => false))
theorem valB_ok {g : List DV → M DV} {ds : List DV} {v : DV} (e : valB g ds v = true) : runsTo g (ds, v) := by
  obtain ⟨h1, h2⟩ := Bool.and_eq_true_iff.mp e
  obtain ⟨h2, h3⟩ := Bool.and_eq_true_iff.mp h2
  refine ⟨h1, h2, ?_⟩
  split at h3
  · rename_i u hs q
    have := eqT_ok _ _ h3
    cases this
    exact ⟨hs, q⟩
  · cases h3
end
end D
set_option Elab.async false
set_option linter.all false
set_option maxRecDepth 100000
set_option maxHeartbeats 2000000
/-! D21: calls without arguments, defaults, tables of several classes, ~x, xs[::-1]. -/
namespace D
open PySem PySem.Spec PyProof.Rows L2 SlX ZG
section
variable {K : PySem.W.Frag} {cl : Cl} {W W1 : Wd} {H H1 : Hp} {h h' : Hs} {X : Cx} {pos p : Pos} {e e2 : Expr} {es : List Expr} {ms : Exs} {ma me m ml mh : Ex} {x : Str}
/-! ### f() -/
def eCall0 (g : List DV → M DV) : Ex := fun _ => g []
theorem de_call0 {k j : Nat} {g : List DV → M DV} (C : Cal X.prog X.w X.K X.mg X.base cl k x 0 g) (hr : Room j X.A) (hk : k ≤ j) (hg : Gl X x) (hdb : (x == ("__debug__" : Str)) = false := by decide) : DE cl X (.Call (.Name x p) [] [] pos) (eCall0 g) := by
  obtain ⟨f, fd, ps, F, hm, hkp, hb⟩ := C
  refine (pe_call0 F (hr.mono hk) hg hm hkp hb .nil L2.pass0 hdb).mono fun σ H Q q => ?_
  obtain ⟨W, h, sl, v, h', rel, rs, e, po⟩ := q
  exact ⟨rfl, W, h, [], v, h', rel, .nil, e, po⟩
/-! ### tables by class -/
def tabA {α : Type} (L : List (Option α)) : Nat → Option α := fun c => match L[c]? with
  | some (some k) => some k
  | _ => none
theorem tab_at {α : Type} {L : List (Option α)} {p : Nat → α → Prop} (h : ∀ c k, L[c]? = some (some k) → p c k) : ∀ c k, tabA L c = some k → p c k := fun c k e => by
  unfold tabA at e
  split at e
  · rename_i k' q
    cases e
    exact h _ _ q
  · cases e
theorem at_nil {α : Type} {p : Nat → α → Prop} : ∀ c k, ([] : List (Option α))[c]? = some (some k) → p c k := fun c k e => by simp at e
theorem at_none {α : Type} {L : List (Option α)} {p : Nat → α → Prop} (r : ∀ c k, L[c]? = some (some k) → p (c + 1) k) : ∀ c k, (none :: L)[c]? = some (some k) → p c k
  | 0, k, e => by cases e
  | c + 1, k, e => r c k e
theorem at_some {α : Type} {o : α} {L : List (Option α)} {p : Nat → α → Prop} (h : p 0 o) (r : ∀ c k, L[c]? = some (some k) → p (c + 1) k) : ∀ c k, (some o :: L)[c]? = some (some k) → p c k
  | 0, k, e => by cases e; exact h
  | c + 1, k, e => r c k e
/-! ### ~x -/
def invD (A : Nat → Option (List DV → M DV)) : DV → M DV := fun x => match x with
  | .obj c fs => bnd (optM (A c)) fun k => k [.obj c fs]
  | _ => stk
theorem o_ownInv {A : Nat → Option (List DV → M DV)} (hA : ∀ c k, A c = some k → OwnOk X cl c 1 "__invert__" k) : O1 cl X (unaryOp .Invert) (invD A) := by
  intro pins s σ H x v Q I rx q
  obtain ⟨W, h, d1, v', h', rel, r1, e, po⟩ := q
  unfold invD at e
  split at e
  · rename_i c fs
    obtain ⟨k, h2, e3, e4⟩ := bnd_ok e
    obtain ⟨hk, rfl⟩ := optM_ok e3
    obtain ⟨gf, j, q1, q2, F, hr⟩ := hA _ _ hk
    have r1' := r1
    cases r1 with
    | obj f1 f2 ne z1 z2 rr =>
      cases rx
      obtain ⟨sl, od, _, J, _⟩ := slt_inst I (slt_obj z1 z2)
      obtain ⟨m, hF⟩ := I.fr
      exact PySem.W.ksp_inv hF I.ok.mod.kin J q1 q2 (wpAny_call (run_fnR (us := [.ref _]) (vs := [.ref _]) F hr L2.pass0 I (.cons rfl .nil) ⟨rfl, W, _, [_], v', h', rel, .cons r1' .nil, e4, po⟩))
  · cases e
/-! ### xs[::-1] -/
def eRev (m : Ex) : Ex := fun sl => bnd (m sl) fun d => match d with
  | .ref n => bnd (lsAt n) fun ds => fun h => .ok (.ref h.length) (h ++ [.lst ds.reverse])
  | _ => stk
theorem RVs.rev {ds : List DV} {xs : List V} (r : RVs K cl W H ds xs) : RVs K cl W H ds.reverse xs.reverse := by
  induction ds generalizing xs with
  | nil => cases r; exact .nil
  | cons d t ih =>
    cases r with
    | cons a b =>
      rw [List.reverse_cons, List.reverse_cons]
      exact (ih b).append (.cons a .nil)
theorem de_revL {k : Nat} {p1 p2 p3 : Pos} (he : DE cl X e m) : DE cl X (.Subscript e (.Slice none none (some (.UnaryOp .USub (.Constant (.int 1) k p1) p2)) p3) pos) (eRev m) := (pe_revL he).mono fun σ H Q q => by
  obtain ⟨W, h, sl, v, h', rel, rs, e, po⟩ := q
  obtain ⟨d, h1, e1, e2⟩ := bnd_ok e
  refine ⟨W, h, sl, d, h1, rel, rs, e1, fun W1 H1 x ext rel1 rv => ?_⟩
  split at e2
  · rename_i n
    obtain ⟨ds, h2, e3, e4⟩ := bnd_ok e2
    obtain ⟨rfl, q⟩ := lsAt_ok e3
    cases e4
    cases rv with
    | ref hn =>
      obtain ⟨_, xs, hx, rx⟩ := rel1.lst q hn
      exact ⟨_, xs, rfl, SqL.of hx, fun p hp => po_lst (po.go ext) rel1 rx.rev p hp⟩
  · cases e2
end
end D
set_option Elab.async false
set_option linter.all false
set_option maxRecDepth 100000
set_option maxHeartbeats 2000000
/-! D22: len of instances. -/
namespace D
open PySem PySem.Spec PyProof.Rows L2 SlX ZG
section
variable {K : PySem.W.Frag} {cl : Cl} {W W1 : Wd} {H H1 : Hp} {h h' : Hs} {X : Cx} {pos p : Pos} {e e2 : Expr} {es : List Expr} {ms : Exs} {ma me m ml mh : Ex} {x : Str}
/-- the def that stands behind a builtin, one unit below -/
def OwnOk1 (X : Cx) (cl : Cl) (c : Nat) (n : Nat) (m : Str) (k : List DV → M DV) : Prop := ∃ (gf : Addr) (j : Nat), PySem.W.findIn X.K (.ref (cl.ad c)) m = some (some (.ref gf)) ∧ PySem.W.isFn X.K (.ref gf) = true ∧ FnR X.prog X.w X.K X.mg X.base L2.CX0 j gf (spD X.K cl n k) ∧ Room (j + 1) X.A
def lenO (A : Nat → Option (List DV → M DV)) (ds : List DV) : M DV := match ds with
  | [.obj c fs] => bnd (optM (A c)) fun k => bnd (k [.obj c fs]) fun v => match v with
    | .int i => if Nat.ble i.natAbs 4611686018427387904 && decide (0 ≤ i) then ret (.int i) else stk
    | _ => stk
  | l => lenD l
theorem c_lenO {A : Nat → Option (List DV → M DV)} (hA : ∀ c k, A c = some k → OwnOk1 X cl c 1 "__len__" k) : CD cl X (.builtin "len") (lenO A) := by
  intro pins s σ H xs us Q I rv q
  obtain ⟨W, h, ds, v', h', rel, r, e, po⟩ := q
  unfold lenO at e
  split at e
  · rename_i c fs
    obtain ⟨k, h2, e3, e4⟩ := bnd_ok e
    obtain ⟨hk, rfl⟩ := optM_ok e3
    obtain ⟨v, h3, e5, e6⟩ := bnd_ok e4
    obtain ⟨gf, j, q1, q2, F, hr⟩ := hA _ _ hk
    obtain ⟨x, rfl, r1⟩ := r.one
    have r1' := r1
    cases r1 with
    | obj f1 f2 ne z1 z2 rr =>
      obtain ⟨u, rfl, ru⟩ := rv.one
      cases ru
      obtain ⟨sl, od, _, J, _⟩ := slt_inst I (slt_obj z1 z2)
      obtain ⟨m, hF⟩ := I.fr
      refine PySem.W.len_K hF I.ok.mod.kin J q1 q2 (wpAny_mono (wpAny_call (run_at (us := [.ref _]) (ws := [.ref _]) (Q := fun x H' => ∃ i : Int, x = .int i ∧ (0 ≤ i ∧ i < 2 ^ 63) ∧ Q (.int i) H') F hr.in1 I.env0.in1 L2.pass0 I (.cons rfl .nil) ⟨rfl, W, h, [_], v, h3, rel, .cons r1' .nil, e5, fun W1 H1 x ext rel1 rvx => ?_⟩)) (fun w s' z => ?_) fun _ _ x => x)
      · split at e6
        · obtain ⟨z, e6⟩ := if_ok e6
          obtain ⟨za, zb⟩ := Bool.and_eq_true_iff.mp z
          replace za := Nat.le_of_ble_eq_true za
          replace zb := of_decide_eq_true zb
          cases e6
          cases rvx
          exact ⟨_, rfl, ⟨zb, by omega⟩, (po.go ext).now rel1 (.int _)⟩
        · cases e6
      · obtain ⟨z', H', I', rz, i, ei, hb, qz⟩ := z
        subst ei
        obtain ⟨t, e⟩ := (show ∃ t, w = Value.int i t from rz)
        cases e
        exact ⟨hb, .int i, H', I'.tok _, ⟨_, rfl⟩, qz⟩
  · exact c_len pins s σ H xs us Q I rv ⟨W, h, _, v', h', rel, r, e, po⟩
end
end D
set_option Elab.async false
set_option linter.all false
set_option maxRecDepth 100000
set_option maxHeartbeats 2000000
/-! D23: == of lists and tuples of flat values, at any depth. -/
namespace D
open PySem PySem.Spec PyProof.Rows L2 SlX ZG
def eqF2 (a b : DV) : Bool := match a, b with
  | .non, .non => true
  | .bl x, .bl y => x == y
  | .bl x, .int j => decide ((if x then 1 else 0) = j)
  | .int i, .bl y => decide (i = (if y then 1 else 0))
  | .int i, .int j => decide (i = j)
  | .str s, .str t => eqS s t
  | _, _ => false
def pdAll (f : DV → Option PyData) : List DV → Option (List PyData)
  | [] => some []
  | d :: t => match f d with
    | some p => (match pdAll f t with
      | some ps => some (p :: ps)
      | none => none)
    | none => none
/-- the plain data of this depth -/
def pdF (h : Hs) : Nat → DV → Option PyData
  | _, .non => some .none
  | _, .bl b => some (.bool b)
  | _, .int i => some (.int i)
  | _, .str s => if s.all (fun c => Nat.blt c 1114112) then some (.str (SX.S s)) else none
  | n + 1, .tup ds => (match pdAll (pdF h n) ds with
    | some ps => some (.tuple ps)
    | none => none)
  | n + 1, .ref k => (match h[k]? with
    | some (.lst ds) => (match pdAll (pdF h n) ds with
      | some ps => some (.list ps)
      | none => none)
    | _ => none)
  | _, _ => none
def eqAllF (f : DV → DV → Bool) : List DV → List DV → Bool
  | [], [] => true
  | a :: s, b :: t => f a b && eqAllF f s t
  | _, _ => false
def eqX (h : Hs) : Nat → DV → DV → Bool
  | n + 1, .tup a, .tup b => eqAllF (eqX h n) a b
  | n + 1, .ref i, .ref j => (match h[i]?, h[j]? with
    | some (.lst a), some (.lst b) => eqAllF (eqX h n) a b
    | _, _ => false)
  | _, a, b => eqF2 a b
section
variable {K : PySem.W.Frag} {cl : Cl} {W W1 : Wd} {H H1 : Hp} {h h' : Hs} {X : Cx}
theorem pdAll_ok {n : Nat} (ih : ∀ d p x, pdF h n d = some p → RV K cl W H d x → Dp K H x p ∧ p.canLay0 = true ∧ p.depth ≤ n) : ∀ (ds : List DV) (ps : List PyData) (xs : List V), pdAll (pdF h n) ds = some ps → RVs K cl W H ds xs →
    DpAll K H xs ps ∧ PyData.canLayAll0 ps = true ∧ PyData.depthAll ps ≤ n
  | [], ps, xs, e, r => by
    cases e
    cases r
    exact ⟨.nil, by simp [PyData.canLayAll0], by simp [PyData.depthAll]⟩
  | d :: t, ps, xs, e, r => by
    cases r with
    | cons r1 r2 =>
      have e : (match pdF h n d with
        | some p => (match pdAll (pdF h n) t with
          | some ps => some (p :: ps)
          | none => none)
        | none => none) = some ps := e
      cases q1 : pdF h n d with
      | none => rw [q1] at e; cases e
      | some p =>
        rw [q1] at e
        cases q2 : pdAll (pdF h n) t with
        | none => rw [q2] at e; cases e
        | some qs =>
          rw [q2] at e
          cases e
          obtain ⟨a1, a2, a3⟩ := ih _ _ _ q1 r1
          obtain ⟨b1, b2, b3⟩ := pdAll_ok ih _ _ _ q2 r2
          refine ⟨.cons a1 b1, by simp [PyData.canLayAll0, a2, b2], ?_⟩
          simp only [PyData.depthAll]
          omega
theorem pdF_ok (rel : HRel K cl W h H) : ∀ (n : Nat) (d : DV) (p : PyData) (x : V), pdF h n d = some p → RV K cl W H d x → Dp K H x p ∧ p.canLay0 = true ∧ p.depth ≤ n := by
  intro n
  induction n with
  | zero =>
    intro d p x e r
    cases r <;> first | (cases e; done) | skip
    · cases e; exact ⟨.non, by simp [PyData.canLay0], by simp [PyData.depth]⟩
    · cases e; exact ⟨.bl _, by simp [PyData.canLay0], by simp [PyData.depth]⟩
    · cases e; exact ⟨.int _, by simp [PyData.canLay0], by simp [PyData.depth]⟩
    · rename_i s
      have e : (if s.all (fun c => Nat.blt c 1114112) then some (PyData.str (SX.S s)) else none) = some p := e
      split at e
      · rename_i z
        cases e
        refine ⟨.str _, ?_, by simp [PyData.depth]⟩
        have : PyData.strOk (SX.S s) = true := by
          unfold PyData.strOk
          rw [← Array.all_toList, List.all_eq_true]
          intro c hc
          exact decide_eq_true (Nat.blt_eq.mp (List.all_eq_true.mp z c hc))
        simpa [PyData.canLay0] using this
      · cases e
  | succ n ih =>
    intro d p x e r
    cases r with
    | non => cases e; exact ⟨.non, by simp [PyData.canLay0], by simp [PyData.depth]⟩
    | bl => cases e; exact ⟨.bl _, by simp [PyData.canLay0], by simp [PyData.depth]⟩
    | int => cases e; exact ⟨.int _, by simp [PyData.canLay0], by simp [PyData.depth]⟩
    | obj => cases e
    | scr => cases e
    | fls => cases e
    | exc => cases e
    | str s =>
      have e : (if s.all (fun c => Nat.blt c 1114112) then some (PyData.str (SX.S s)) else none) = some p := e
      split at e
      · rename_i z
        cases e
        refine ⟨.str _, ?_, by simp [PyData.depth]⟩
        have : PyData.strOk (SX.S s) = true := by
          unfold PyData.strOk
          rw [← Array.all_toList, List.all_eq_true]
          intro c hc
          exact decide_eq_true (Nat.blt_eq.mp (List.all_eq_true.mp z c hc))
        simpa [PyData.canLay0] using this
      · cases e
    | tup f rs =>
      rename_i ds xs a
      have e : (match pdAll (pdF h n) ds with
        | some ps => some (PyData.tuple ps)
        | none => none) = some p := e
      cases q : pdAll (pdF h n) ds with
      | none => rw [q] at e; cases e
      | some ps =>
        rw [q] at e
        cases e
        obtain ⟨b1, b2, b3⟩ := pdAll_ok ih _ _ _ q rs
        exact ⟨.tup f.sq b1, by simpa [PyData.canLay0] using b2, by simp only [PyData.depth]; omega⟩
    | ref hn =>
      rename_i k a dx
      have e : (match h[k]? with
        | some (.lst ds) => (match pdAll (pdF h n) ds with
          | some ps => some (PyData.list ps)
          | none => none)
        | _ => none) = some p := e
      split at e
      · rename_i ds q0
        obtain ⟨_, xs, hx, rx⟩ := rel.lst q0 hn
        cases q : pdAll (pdF h n) ds with
        | none => rw [q] at e; cases e
        | some ps =>
          rw [q] at e
          cases e
          obtain ⟨b1, b2, b3⟩ := pdAll_ok ih _ _ _ q rx
          exact ⟨.lst (SqL.of hx) b1, by simpa [PyData.canLay0] using b2, by simp only [PyData.depth]; omega⟩
      · cases e
theorem eqF2_ok {a b : DV} {n m : Nat} {p q : PyData} (ha : pdF h n a = some p) (hb : pdF h m b = some q) (fa : ∀ k ds, a = .ref k → b ≠ .ref ds) (ft : ∀ k ds, a = .tup k → b ≠ .tup ds) : eqF2 a b = PyData.eqv p q := by
  have pa : ∀ {a : DV} {n : Nat} {p : PyData}, pdF h n a = some p → (a = .non ∧ p = .none) ∨ (∃ x, a = .bl x ∧ p = .bool x) ∨ (∃ x, a = .int x ∧ p = .int x) ∨ (∃ x, a = .str x ∧ p = .str (SX.S x)) ∨ (∃ ds ps, a = .tup ds ∧ p = .tuple ps) ∨ ∃ k ps, a = .ref k ∧ p = .list ps := by
    intro a n p e
    cases a with
    | non => cases n <;> (cases e; exact .inl ⟨rfl, rfl⟩)
    | bl => cases n <;> (cases e; exact .inr (.inl ⟨_, rfl, rfl⟩))
    | int => cases n <;> (cases e; exact .inr (.inr (.inl ⟨_, rfl, rfl⟩)))
    | str s =>
      have e : (if s.all (fun c => Nat.blt c 1114112) then some (PyData.str (SX.S s)) else none) = some p := by cases n <;> exact e
      split at e
      · cases e; exact .inr (.inr (.inr (.inl ⟨_, rfl, rfl⟩)))
      · cases e
    | tup ds =>
      cases n with
      | zero => cases e
      | succ n =>
        have e : (match pdAll (pdF h n) ds with
          | some ps => some (PyData.tuple ps)
          | none => none) = some p := e
        split at e
        · cases e; exact .inr (.inr (.inr (.inr (.inl ⟨_, _, rfl, rfl⟩))))
        · cases e
    | ref k =>
      cases n with
      | zero => cases e
      | succ n =>
        have e : (match h[k]? with
          | some (.lst ds) => (match pdAll (pdF h n) ds with
            | some ps => some (PyData.list ps)
            | none => none)
          | _ => none) = some p := e
        split at e
        · split at e
          · cases e; exact .inr (.inr (.inr (.inr (.inr ⟨_, _, rfl, rfl⟩))))
          · cases e
        · cases e
    | obj => cases n <;> cases e
    | scr => cases n <;> cases e
    | fls => cases n <;> cases e
    | exc => cases n <;> cases e
  rcases pa ha with ⟨rfl, rfl⟩ | ⟨x, rfl, rfl⟩ | ⟨x, rfl, rfl⟩ | ⟨x, rfl, rfl⟩ | ⟨x, ps, rfl, rfl⟩ | ⟨x, ps, rfl, rfl⟩ <;>
  rcases pa hb with ⟨rfl, rfl⟩ | ⟨y, rfl, rfl⟩ | ⟨y, rfl, rfl⟩ | ⟨y, rfl, rfl⟩ | ⟨y, qs, rfl, rfl⟩ | ⟨y, qs, rfl, rfl⟩ <;>
  first
    | exact absurd rfl (fa _ _ rfl)
    | exact absurd rfl (ft _ _ rfl)
    | (simp only [PyData.eqv, eqF2]; done)
    | (simp only [PyData.eqv, eqF2, eqS_iff]; first | rfl | (rw [SX.S_beq_eq]) | (by_cases z : x = y <;> simp [z]) | (cases x <;> simp [eq_comm]) | (cases y <;> simp [eq_comm]))
theorem eqAll_ok {n : Nat} (ih : ∀ a b p q, pdF h n a = some p → pdF h n b = some q → eqX h n a b = PyData.eqv p q) : ∀ (as bs : List DV) (ps qs : List PyData), pdAll (pdF h n) as = some ps → pdAll (pdF h n) bs = some qs → eqAllF (eqX h n) as bs = PyData.eqvAll ps qs := by
  have cs : ∀ {d : DV} {t : List DV} {ps : List PyData}, pdAll (pdF h n) (d :: t) = some ps → ∃ p qs, ps = p :: qs ∧ pdF h n d = some p ∧ pdAll (pdF h n) t = some qs := by
    intro d t ps e
    have e : (match pdF h n d with
      | some p => (match pdAll (pdF h n) t with
        | some ps => some (p :: ps)
        | none => none)
      | none => none) = some ps := e
    split at e
    · rename_i p hp
      split at e
      · rename_i qs hq
        cases e
        exact ⟨p, qs, rfl, hp, hq⟩
      · cases e
    · cases e
  intro as
  induction as with
  | nil =>
    intro bs ps qs e1 e2
    cases e1
    cases bs with
    | nil => cases e2; simp [eqAllF, PyData.eqvAll]
    | cons b t =>
      obtain ⟨q, rs, rfl, _, _⟩ := cs e2
      simp [eqAllF, PyData.eqvAll]
  | cons a s k =>
    intro bs ps qs e1 e2
    obtain ⟨p, ps', rfl, h1, h2⟩ := cs e1
    cases bs with
    | nil => cases e2; simp [eqAllF, PyData.eqvAll]
    | cons b t =>
      obtain ⟨q, qs', rfl, h3, h4⟩ := cs e2
      show (eqX h n a b && eqAllF (eqX h n) s t) = _
      rw [ih _ _ _ _ h1 h3, k _ _ _ h2 h4]
      simp [PyData.eqvAll]
theorem eqX_ok : ∀ (n : Nat) (a b : DV) (p q : PyData), pdF h n a = some p → pdF h n b = some q → eqX h n a b = PyData.eqv p q := by
  intro n
  induction n with
  | zero => exact fun a b p q ha hb => eqF2_ok ha hb (fun k _ z => by subst z; cases ha) (fun k _ z => by subst z; cases ha)
  | succ n ih =>
    intro a b p q ha hb
    by_cases ct : ∃ x y, a = .tup x ∧ b = .tup y
    · obtain ⟨x, y, rfl, rfl⟩ := ct
      have ha : (match pdAll (pdF h n) x with
        | some ps => some (PyData.tuple ps)
        | none => none) = some p := ha
      have hb : (match pdAll (pdF h n) y with
        | some ps => some (PyData.tuple ps)
        | none => none) = some q := hb
      split at ha
      · rename_i ps h1
        split at hb
        · rename_i qs h2
          cases ha
          cases hb
          show eqAllF (eqX h n) x y = _
          rw [eqAll_ok ih _ _ _ _ h1 h2]
          simp [PyData.eqv]
        · cases hb
      · cases ha
    · by_cases cr : ∃ x y, a = .ref x ∧ b = .ref y
      · obtain ⟨x, y, rfl, rfl⟩ := cr
        have ha : (match h[x]? with
          | some (.lst ds) => (match pdAll (pdF h n) ds with
            | some ps => some (PyData.list ps)
            | none => none)
          | _ => none) = some p := ha
        have hb : (match h[y]? with
          | some (.lst ds) => (match pdAll (pdF h n) ds with
            | some ps => some (PyData.list ps)
            | none => none)
          | _ => none) = some q := hb
        split at ha
        · rename_i us k1
          split at ha
          · rename_i ps h1
            split at hb
            · rename_i ws k2
              split at hb
              · rename_i qs h2
                cases ha
                cases hb
                show (match h[x]?, h[y]? with
                  | some (.lst a), some (.lst b) => eqAllF (eqX h n) a b
                  | _, _ => false) = _
                rw [k1, k2]
                show eqAllF (eqX h n) us ws = _
                rw [eqAll_ok ih _ _ _ _ h1 h2]
                simp [PyData.eqv]
              · cases hb
            · cases hb
          · cases ha
        · cases ha
      · have e : eqX h (n + 1) a b = eqF2 a b := by
          unfold eqX
          split
          · rename_i x y
            exact absurd ⟨_, _, rfl, rfl⟩ ct
          · exact absurd ⟨_, _, rfl, rfl⟩ cr
          · rfl
        rw [e]
        exact eqF2_ok ha hb (fun k m z z2 => cr ⟨_, _, z, z2⟩) (fun k m z z2 => ct ⟨_, _, z, z2⟩)
def isSq : DV → Bool
  | .ref _ => true
  | .tup _ => true
  | _ => false
def deqD (x y : DV) : M DV := fun h => if isSq x || isSq y then (if (pdF h 4 x).isSome && (pdF h 4 y).isSome then .ok (.bl (eqX h 4 x y)) h else .stuck) else eqD x y h
def dneD (x y : DV) : M DV := fun h => if isSq x || isSq y then (if (pdF h 4 x).isSome && (pdF h 4 y).isSome then .ok (.bl (!eqX h 4 x y)) h else .stuck) else neD x y h
theorem shaped_of {p : PyData} (h1 : p.canLay0 = true) (h2 : p.depth ≤ 4) : SeqAt.shaped p = true := by
  unfold SeqAt.shaped
  rw [h1]
  exact decide_eq_true (by omega)
theorem o_deq (hu : X.A.units + 64 < cLine) : O2 cl X (compareOp .Eq) deqD := by
  intro pins s σ H x y v u Q I rx ry q
  obtain ⟨W, h, d1, d2, v', h', rel, r1, r2, e, po⟩ := q
  unfold deqD at e
  split at e
  · split at e
    · rename_i z
      cases e
      obtain ⟨z1, z2⟩ := Bool.and_eq_true_iff.mp z
      obtain ⟨p, hp⟩ := Option.isSome_iff_exists.mp z1
      obtain ⟨p2, hp2⟩ := Option.isSome_iff_exists.mp z2
      obtain ⟨a1, a2, a3⟩ := pdF_ok rel _ _ _ _ hp r1
      obtain ⟨b1, b2, b3⟩ := pdF_ok rel _ _ _ _ hp2 r2
      rw [eqX_ok _ _ _ _ _ hp hp2] at po
      exact op_eqD hu pins s σ H x y v u Q I rx ry ⟨p, p2, a1, b1, shaped_of a2 a3, shaped_of b2 b3, po.now rel (.bl _)⟩
    · cases e
  · exact o_eq pins s σ H x y v u Q I rx ry ⟨W, h, d1, d2, v', h', rel, r1, r2, e, po⟩
theorem o_dne (hu : X.A.units + 64 < cLine) : O2 cl X (compareOp .NotEq) dneD := by
  intro pins s σ H x y v u Q I rx ry q
  obtain ⟨W, h, d1, d2, v', h', rel, r1, r2, e, po⟩ := q
  unfold dneD at e
  split at e
  · split at e
    · rename_i z
      cases e
      obtain ⟨z1, z2⟩ := Bool.and_eq_true_iff.mp z
      obtain ⟨p, hp⟩ := Option.isSome_iff_exists.mp z1
      obtain ⟨p2, hp2⟩ := Option.isSome_iff_exists.mp z2
      obtain ⟨a1, a2, a3⟩ := pdF_ok rel _ _ _ _ hp r1
      obtain ⟨b1, b2, b3⟩ := pdF_ok rel _ _ _ _ hp2 r2
      rw [eqX_ok _ _ _ _ _ hp hp2] at po
      exact op_neD hu pins s σ H x y v u Q I rx ry ⟨p, p2, a1, b1, shaped_of a2 a3, shaped_of b2 b3, po.now rel (.bl _)⟩
    · cases e
  · exact o_ne pins s σ H x y v u Q I rx ry ⟨W, h, d1, d2, v', h', rel, r1, r2, e, po⟩
end
end D
set_option Elab.async false
set_option linter.all false
set_option maxRecDepth 100000
set_option maxHeartbeats 2000000
/-! D24: == of tuples, item by item, whatever the items do. -/
namespace GQ
open PySem PySem.SeqAt
open AutoSeq1 (wpAny_loadPart')
open MeetsSeq MeetsSeq2 MeetsSeq3 SeqRoads2
section
variable {prog : Program} {w : World} {A : Around} {R : Result → Shared → Prop}
theorem tuple_eqB (l b : Addr) (items items2 : Array Value) (n n2 : Nat) (dd dd2 : Option Addr) (sl sl2 : Array (Option Value)) (I : Nat → Shared → Prop)
    (turn : ∀ i (h1 : i < items.size) (h2 : i < items2.size) s, I i s → wpAny (model prog w) A.in1 (eqBool items[i] items2[i]) (fun r s' => (r = true ∧ I (i + 1) s') ∨ (r = false ∧ R (.ok (.ret (.bool false))) s')) (fun e s' => R (.error e) s') s)
    (fin : ∀ s, I (min items.size items2.size) s → R (.ok (.ret (.bool (items.size == items2.size)))) s) {s : Shared} (hl1 : s.heap.get? l = some { cls := .type "tuple", dict := dd, data := .seq items n, slots := sl }) (hb1 : s.heap.get? b = some { cls := .type "tuple", dict := dd2, data := .seq items2 n2, slots := sl2 }) (h : I 0 s) :
    wpAny (model prog w) A.in1 (Builtin.«tuple.__eq__» ⟨[.ref l, .ref b], []⟩) (FinOf prog w A R) (fun e s' => R (.error e) s') s := by
  have f2 := AutoSeq1.sub_tuple_tuple
  have hZ : (items.toList.zip items2.toList).length = min items.size items2.size := by simp
  have h0 := h
  obtain ⟨hp, g, d, tk, os⟩ := s
  wp_walk using wpAny_loadPart' hl1, wpAny_loadPart' hb1, wpAny_forIn_list _ (fun rest b s' => b.1 = none ∧ ∃ i, rest = (items.toList.zip items2.toList).drop i ∧ i ≤ min items.size items2.size ∧ I i s') _
  case turn =>
    rintro ⟨y, x⟩ rest b s' ⟨hb', i, hz, hi, hI⟩
    have hlt : i < (items.toList.zip items2.toList).length := by
      rcases Nat.lt_or_ge i (items.toList.zip items2.toList).length with h' | h'
      · exact h'
      · rw [List.drop_of_length_le h'] at hz; cases hz
    have h1 : i < items.size := by omega
    have h2 : i < items2.size := by omega
    rw [List.drop_eq_getElem_cons hlt] at hz
    injection hz with hyx hrest
    have hy : y = items[i] := by have := congrArg Prod.fst hyx; simpa using this
    have hx : x = items2[i] := by have := congrArg Prod.snd hyx; simpa using this
    subst hy hx
    refine wpAny_bind (wpAny_mono (turn i h1 h2 s' hI) (fun r s2 q2 => ?_) fun _ _ x => x)
    rcases q2 with ⟨hr, q2⟩ | ⟨hr, q2⟩
    · subst hr
      wp_walk
      exact ⟨rfl, i + 1, hrest, by omega, q2⟩
    · subst hr
      wp_walk
      exact q2
  case fin =>
    rintro ⟨b1, b2⟩ s' ⟨hb', i, hz, hi, hI⟩
    simp only at hb'
    subst hb'
    have hge : min items.size items2.size ≤ i := by
      rcases Nat.lt_or_ge i (items.toList.zip items2.toList).length with h' | h'
      · rw [List.drop_eq_getElem_cons h'] at hz; cases hz
      · exact hZ ▸ h'
    have hi' : i = min items.size items2.size := by omega
    have hR : R (.ok (.ret (.bool (items.size == items2.size)))) s' := fin s' (hi' ▸ hI)
    wp_walk
    simpa [Builtin.Tuple.tupleCompareSizes] using hR
  case h =>
    exact ⟨rfl, 0, rfl, Nat.zero_le _, h0⟩
end
section
variable {prog : Program} {w : World} {A : Around} {E : Value → Shared → Prop} {s : Shared}
theorem rc_tupB {l b : Addr} {items items2 : Array Value} {Q : Value → Shared → Prop} (hu : A.units < cLine) (I : Nat → Shared → Prop)
    (hl : s.heap.IsTuple l items) (hb : s.heap.IsTuple b items2)
    (turn : ∀ i (h1 : i < items.size) (h2 : i < items2.size) s, I i s → wpAny (model prog w) A.in1 (eqBool items[i] items2[i]) (fun r s' => (r = true ∧ I (i + 1) s') ∨ (r = false ∧ Q (.bool false) s')) E s)
    (fin : ∀ s, I (min items.size items2.size) s → Q (.bool (items.size == items2.size)) s) (h : I 0 s) : wpAny (model prog w) A (richCompare .Eq (.ref l) (.ref b)) Q E s := by
  obtain ⟨⟨cls, dd, data, sl⟩, ho, hc, n, hd⟩ := id hl
  obtain ⟨⟨cls2, dd2, data2, sl2⟩, ho2, hc2, n2, hd2⟩ := id hb
  simp only at hc hd hc2 hd2
  subst hc hd hc2 hd2
  refine wpAny_richCompare_same_room (op := .Eq) ⟨_, ho, rfl⟩ ⟨_, ho2, rfl⟩ F.slot_tuple_eq (call_here F.slot_tuple_eq ⟨_, ho, rfl⟩ F.entry_tuple_eq (F.args_tuple_eq_2 _ _) ?_) hu
  refine tuple_eqB (R := wants (fun v s' => v ≠ .notImplemented ∧ Q v s') E) l b items items2 n n2 dd dd2 sl sl2 I (fun i h1 h2 s' q => wpAny_mono (turn i h1 h2 s' q) (fun r s2 z => ?_) fun _ _ x => x) (fun s' q => ⟨(fun x => nomatch x), fin s' q⟩) ho ho2 h
  rcases z with z | ⟨z, z2⟩
  · exact .inl z
  · exact .inr ⟨z, (fun x => nomatch x), z2⟩
end
end GQ
set_option Elab.async false
set_option linter.all false
set_option maxRecDepth 100000
set_option maxHeartbeats 2000000
/-! D25: == of tuples of instances, by their own ==. -/
namespace D
open PySem PySem.Spec PyProof.Rows L2 SlX ZG
/-- two instances of one class, of flat fields -/
def eqO (A : Nat → Option (List DV → M DV)) (a b : DV) : Option Bool := match a, b with
  | .obj c fs, .obj c' fs' => if Nat.beq c c' && (Nat.beq fs.length fs'.length && (fs.all flatD && fs'.all flatD)) then (match A c with
    | some k => (match k [.obj c fs, .obj c' fs'] [] with
      | .ok (.bl r) _ => if r || !eqTs fs fs' then some r else none
      | _ => none)
    | none => none) else none
  | _, _ => none
def tupO (A : Nat → Option (List DV → M DV)) : List DV → List DV → Option Bool
  | [], [] => some true
  | [], _ :: _ => some false
  | _ :: _, [] => some false
  | a :: s, b :: t => match eqO A a b with
    | some true => tupO A s t
    | some false => some false
    | none => none
section
variable {K : PySem.W.Frag} {cl : Cl} {W W1 : Wd} {H H1 : Hp} {h h' : Hs} {X : Cx} {pins : List (Addr × Obj)} {σ : L2.St} {s : Shared}
theorem flat_det : ∀ {fs fs' : List DV} {xs ys : List V}, RVs K cl W H fs xs → RVs K cl W H fs' ys → fs.all flatD = true → fs'.all flatD = true → fs.length = fs'.length → (∀ (i : Nat) (v v' : V), xs[i]? = some v → ys[i]? = some v' → ∃ u, RelV v u ∧ RelV v' u) → eqTs fs fs' = true
  | [], [], _, _, _, _, _, _, _, _ => by simp [eqTs]
  | [], _ :: _, _, _, _, _, _, _, l, _ => by simp at l
  | _ :: _, [], _, _, _, _, _, _, l, _ => by simp at l
  | a :: s, b :: t, xs, ys, r1, r2, f1, f2, l, k => by
    cases r1 with
    | cons ra rs =>
      cases r2 with
      | cons rb rt =>
        rw [List.all_cons, Bool.and_eq_true] at f1 f2
        have ih := flat_det rs rt f1.2 f2.2 (by simpa using l) fun i v v' h1 h2 => k (i + 1) v v' (by simpa using h1) (by simpa using h2)
        obtain ⟨u, k1, k2⟩ := k 0 _ _ rfl rfl
        have e : eqT a b = true := by
          have g1 := f1.1
          have g2 := f2.1
          cases ra <;> first | (cases g1; done) | skip
          all_goals (cases rb <;> first | (cases g2; done) | skip)
          · simp [eqT, eq1]
          · cases k1; cases k2
          · cases k1; obtain ⟨_, e⟩ := k2; cases e
          · cases k1; obtain ⟨_, e⟩ := k2; cases e
          · cases k1; cases k2
          · cases k1; cases k2; simp [eqT, eq1]
          · cases k1; obtain ⟨_, e⟩ := k2; cases e
          · cases k1; obtain ⟨_, e⟩ := k2; cases e
          · obtain ⟨_, rfl⟩ := k1; cases k2
          · obtain ⟨_, rfl⟩ := k1; cases k2
          · obtain ⟨_, rfl⟩ := k1
            obtain ⟨_, e⟩ := k2
            cases e
            have ei : ∀ z : Int, eqI1 z z = true := fun z => by cases z <;> exact Nat.beq_refl _
            exact ei _
          · obtain ⟨_, rfl⟩ := k1; obtain ⟨_, e⟩ := k2; cases e
          · obtain ⟨_, rfl⟩ := k1; cases k2
          · obtain ⟨_, rfl⟩ := k1; cases k2
          · obtain ⟨_, rfl⟩ := k1; obtain ⟨_, e⟩ := k2; cases e
          · obtain ⟨_, rfl⟩ := k1
            obtain ⟨_, e⟩ := k2
            have q := (Value.str.inj e).1
            have q := SX.S_inj q
            subst q
            show eqS _ _ = true
            rw [eqS_iff]
            exact decide_eq_true rfl
        unfold eqTs
        rw [e, ih]
        rfl
/-- the own == of the class, as a def without a heap -/
def eqK (k : List DV → M DV) : List DV → Option DV := fun ds => match k ds [] with
  | .ok v _ => if noRefs ds && pureV v then some v else none
  | _ => none
theorem eqK_ok {k : List DV → M DV} : ∀ ds v, eqK k ds = some v → noRefs ds = true ∧ pureV v = true ∧ ∃ hs, k ds [] = .ok v hs := fun ds v e => by
  unfold eqK at e
  split at e
  · rename_i u hs q
    split at e
    · rename_i z
      cases e
      obtain ⟨z1, z2⟩ := Bool.and_eq_true_iff.mp z
      exact ⟨z1, z2, hs, q⟩
    · cases e
  · cases e
theorem flat_noRefs : ∀ {fs : List DV}, fs.all flatD = true → noRefs fs = true
  | [], _ => rfl
  | a :: t, h => by
    rw [List.all_cons, Bool.and_eq_true] at h
    show (noRef a && noRefs t) = true
    rw [flat_noRefs h.2]
    have h1 := h.1
    cases a <;> first | (cases h1; done) | rfl
theorem eqO_ok (hT : cl.T = []) {A : Nat → Option (List DV → M DV)} (hA : ∀ c k, A c = some k → OwnOk1 X cl c 2 "__eq__" k) (hf : ∀ c k c', A c = some k → PySem.W.notFirst X.K (cl.ad c) (.ref (cl.ad c')) = true) {a b : DV} {r : Bool} {x y : V} {u v : Value} (e : eqO A a b = some r)
    (I : Inv X pins σ H s) (rel : HRel X.K cl W h H) (ni : noIns h = true) (ra : RV X.K cl W H a x) (rb : RV X.K cl W H b y) (ru : RelV x u) (rv : RelV y v) :
    wpAny (model X.prog X.w) X.A.in1 (eqBool u v) (fun r' s' => r' = r ∧ ∃ W' H', Ext W H W' H' ∧ HRel X.K cl W' h H' ∧ Inv X pins σ H' s') X.xe s := by
  unfold eqO at e
  split at e
  · rename_i c fs c' fs'
    split at e
    · rename_i z
      obtain ⟨z1, z⟩ := Bool.and_eq_true_iff.mp z
      obtain ⟨z2, z⟩ := Bool.and_eq_true_iff.mp z
      obtain ⟨z3, z4⟩ := Bool.and_eq_true_iff.mp z
      have z1 := Nat.eq_of_beq_eq_true z1
      have z2 := Nat.eq_of_beq_eq_true z2
      subst z1
      split at e
      · rename_i k hk
        split at e
        · rename_i r0 hs run
          split at e
          · rename_i zz
            cases e
            obtain ⟨gf, j, q1, q2, F, hr⟩ := hA _ _ hk
            have ra' := ra
            have rb' := rb
            cases ra with
            | obj f1 f2 ne o1 o2 rr =>
              cases rb with
              | obj f1' f2' ne' o1' o2' rr' =>
                rename_i xs rest p dx ys rest' p' dx'
                cases ru
                cases rv
                obtain ⟨sl, od, s1, J, _⟩ := slt_inst I (slt_obj o1 o2)
                obtain ⟨sl', od', s2, J', _⟩ := slt_inst I (slt_obj o1' o2')
                by_cases hp : p = p'
                · subst hp
                  have hr : r = true := by
                    rcases Bool.or_eq_true_iff.mp zz with zz | zz
                    · exact zz
                    · have : eqTs fs fs' = true := flat_det rr rr' z3 z4 z2 fun i v v' h1 h2 => by
                        obtain ⟨u1, k1, k2⟩ := s1 i v (map_get h1)
                        obtain ⟨u2, k3, k4⟩ := s2 i v' (map_get h2)
                        have es : sl = sl' := by
                          have e1 := J.at_
                          have e2 := J'.at_
                          rw [e1] at e2
                          cases e2
                          rfl
                        subst es
                        rw [k1] at k3
                        cases k3
                        exact ⟨_, k2, k4⟩
                      rw [this] at zz
                      cases zz
                  subst hr
                  exact SeqAt.EqAt.same (A := X.A.in1) (s := s) (.ref p) X.prog X.w X.xe _ ⟨rfl, W, H, .refl, rel, I⟩
                · obtain ⟨m, hF⟩ := I.fr
                  refine GQ.eqBool_refG hp (PySem.W.cmp_K (op := .Eq) (tb := .ref (cl.ad c)) hr.in1.units0 hF I.ok.mod.kin J J'.type (hf _ _ c hk) q1 q2 ?_)
                  have hq : eqK k [.obj c fs, .obj c fs'] = some (.bl r) := by
                    unfold eqK
                    rw [run]
                    have : noRefs [DV.obj c fs, .obj c fs'] = true := by
                      show (noRefs fs && (noRefs fs' && true)) = true
                      rw [flat_noRefs z3, flat_noRefs z4]; rfl
                    show (if noRefs [DV.obj c fs, .obj c fs'] && pureV (.bl r) then some (DV.bl r) else none) = _
                    rw [this]
                    rfl
                  have hsp : spD X.K cl 2 (pureD (eqK k)) [.ref p, .ref p'] H (fun x H' => x = .bl r ∧ ∃ W', Ext W H W' H' ∧ HRel X.K cl W' h H') E0 := by
                    refine ⟨rfl, W, h, [_, _], .bl r, h, rel, .cons ra' (.cons rb' .nil), ?_, fun W' H' x ex rel' rx => ?_⟩
                    · unfold pureD
                      rw [ni, hq]
                      rfl
                    · cases rx
                      exact ⟨rfl, W', ex, rel'⟩
                  refine wpAny_mono (wpAny_call (run_at (us := [.ref p, .ref p']) (ws := [.ref p, .ref p']) F hr.in1 I.env0.in1 L2.pass0 I (.cons rfl (.cons rfl .nil)) (pure_sp hT eqK_ok hsp))) (fun w s' z => ?_) fun _ _ x => x
                  obtain ⟨z', H', I', rz, ez, W', ex, rel'⟩ := z
                  subst ez
                  cases rz
                  exact ⟨r, rfl, rfl, W', H', ex, rel', I'⟩
          · cases e
        · cases e
      · cases e
    · cases e
  · cases e
def eqTD (A : Nat → Option (List DV → M DV)) (g : DV → DV → M DV) (x y : DV) : M DV := fun h => match x, y with
  | .tup (.obj c fs :: s), .tup t => if noIns h then (match tupO A (.obj c fs :: s) t with
    | some r => .ok (.bl r) h
    | none => .stuck) else .stuck
  | .tup (a :: s), .tup (.obj c fs :: t) => if noIns h then (match tupO A (a :: s) (.obj c fs :: t) with
    | some r => .ok (.bl r) h
    | none => .stuck) else .stuck
  | a, b => g a b h
theorem RVs.at_ {ds : List DV} {xs : List V} (r : RVs K cl W H ds xs) {i : Nat} (h : i < xs.length) : ∃ d x, ds[i]? = some d ∧ xs[i]? = some x ∧ RV K cl W H d x := by
  have hd : i < ds.length := by rw [r.length]; exact h
  obtain ⟨x, h1, h2⟩ := r.get (List.getElem?_eq_getElem hd)
  exact ⟨_, x, List.getElem?_eq_getElem hd, h1, h2⟩
theorem tupO_run {A : Nat → Option (List DV → M DV)} : ∀ {as bs : List DV} {r : Bool}, tupO A as bs = some r →
    (r = true ∧ as.length = bs.length ∧ ∀ (i : Nat) (a b : DV), as[i]? = some a → bs[i]? = some b → eqO A a b = some true) ∨ (r = false ∧ ∃ n, n ≤ min as.length bs.length ∧ (∀ (i : Nat) (a b : DV), i < n → as[i]? = some a → bs[i]? = some b → eqO A a b = some true) ∧
      ((n = min as.length bs.length ∧ as.length ≠ bs.length) ∨ ∃ a b, as[n]? = some a ∧ bs[n]? = some b ∧ eqO A a b = some false))
  | [], [], r, e => by cases e; exact .inl ⟨rfl, rfl, fun i a b h => by simp at h⟩
  | [], _ :: _, r, e => by cases e; exact .inr ⟨rfl, 0, Nat.zero_le _, fun i a b h => absurd h (Nat.not_lt_zero _), .inl ⟨by simp, by simp⟩⟩
  | _ :: _, [], r, e => by cases e; exact .inr ⟨rfl, 0, Nat.zero_le _, fun i a b h => absurd h (Nat.not_lt_zero _), .inl ⟨by simp, by simp⟩⟩
  | a :: s, b :: t, r, e => by
    have e : (match eqO A a b with
      | some true => tupO A s t
      | some false => some false
      | none => none) = some r := e
    split at e
    · rename_i q
      rcases tupO_run e with ⟨rfl, l, k⟩ | ⟨rfl, n, hn, k, z⟩
      · refine .inl ⟨rfl, by simp [l], fun i x y h1 h2 => ?_⟩
        cases i with
        | zero => simp at h1 h2; subst h1; subst h2; exact q
        | succ i => exact k i x y (by simpa using h1) (by simpa using h2)
      · refine .inr ⟨rfl, n + 1, by simp only [List.length_cons]; omega, fun i x y hi h1 h2 => ?_, ?_⟩
        · cases i with
          | zero => simp at h1 h2; subst h1; subst h2; exact q
          | succ i => exact k i x y (by omega) (by simpa using h1) (by simpa using h2)
        · rcases z with ⟨z1, z2⟩ | ⟨x, y, z1, z2, z3⟩
          · exact .inl ⟨by simp only [List.length_cons]; omega, by simpa using z2⟩
          · exact .inr ⟨x, y, by simpa using z1, by simpa using z2, z3⟩
    · rename_i q
      cases e
      exact .inr ⟨rfl, 0, Nat.zero_le _, fun i a b h => absurd h (Nat.not_lt_zero _), .inr ⟨a, b, rfl, rfl, q⟩⟩
    · cases e
theorem tup_eq (hT : cl.T = []) {A : Nat → Option (List DV → M DV)} (hA : ∀ c k, A c = some k → OwnOk1 X cl c 2 "__eq__" k) (hf : ∀ c k c', A c = some k → PySem.W.notFirst X.K (cl.ad c) (.ref (cl.ad c')) = true) (hu : X.A.units < cLine) {as bs : List DV} {r : Bool} {a b : Addr} {xs ys : List V} {Q : VK} (e : tupO A as bs = some r)
    (I : Inv X pins σ H s) (rel : HRel X.K cl W h H) (ni : noIns h = true) (fa : FzT X.K W H a xs) (fb : FzT X.K W H b ys) (ra : RVs X.K cl W H as xs) (rb : RVs X.K cl W H bs ys) (po : Po X.K cl W H h (.bl r) Q) :
    wpAny (model X.prog X.w) X.A (richCompare .Eq (.ref a) (.ref b)) (EP X pins σ Q) X.xe s := by
  obtain ⟨its, v1, p1, _⟩ := I.tuple fa.sq
  obtain ⟨its2, v2, p2, _⟩ := I.tuple fb.sq
  have l1 : as.length = its.toArray.size := by rw [List.size_toArray, ra.length, v1.length]
  have l2 : bs.length = its2.toArray.size := by rw [List.size_toArray, rb.length, v2.length]
  have key := tupO_run e
  refine GQ.rc_tupB hu (fun i s' => (∀ (j : Nat) (x y : DV), j < i → as[j]? = some x → bs[j]? = some y → eqO A x y = some true) ∧ ∃ W' H', Ext W H W' H' ∧ HRel X.K cl W' h H' ∧ Inv X pins σ H' s') p1 p2 (fun i h1 h2 s' q => ?_) (fun s' q => ?_) ⟨fun j _ _ z => absurd z (Nat.not_lt_zero _), W, H, .refl, rel, I⟩
  · obtain ⟨past, W', H', ex, rel', I'⟩ := q
    have k1 : i < xs.length := by rw [v1.length]; simpa using h1
    have k2 : i < ys.length := by rw [v2.length]; simpa using h2
    obtain ⟨d1, x1, g1, g2, g3⟩ := ra.at_ k1
    obtain ⟨d2, x2, g4, g5, g6⟩ := rb.at_ k2
    obtain ⟨u, hu1, ru⟩ := v1.get g2
    obtain ⟨v, hv1, rv⟩ := v2.get g5
    have eu : its.toArray[i] = u := by
      have : its[i]? = some its.toArray[i] := by
        have h1' : i < its.length := by simpa using h1
        rw [List.getElem?_eq_getElem h1'] <;> simp
      rw [this] at hu1
      exact Option.some.inj hu1
    have ev : its2.toArray[i] = v := by
      have : its2[i]? = some its2.toArray[i] := by
        have h1' : i < its2.length := by simpa using h2
        rw [List.getElem?_eq_getElem h1'] <;> simp
      rw [this] at hv1
      exact Option.some.inj hv1
    rw [eu, ev]
    have he : eqO A d1 d2 = some true ∨ (eqO A d1 d2 = some false ∧ r = false) := by
      rcases key with ⟨_, _, k⟩ | ⟨hr, n, hn, k, z⟩
      · exact .inl (k i _ _ g1 g4)
      · by_cases c : i < n
        · exact .inl (k i _ _ c g1 g4)
        · rcases z with ⟨z1, _⟩ | ⟨x, y, z1, z2, z3⟩
          · exfalso
            have a1 : i < as.length := by rw [ra.length]; exact k1
            have a2 : i < bs.length := by rw [rb.length]; exact k2
            omega
          · by_cases c2 : i = n
            · subst c2
              rw [g1] at z1
              rw [g4] at z2
              cases z1
              cases z2
              exact .inr ⟨z3, hr⟩
            · have := past n x y (by omega) z1 z2
              rw [z3] at this
              cases this
    rcases he with he | ⟨he, hr⟩
    · refine wpAny_mono (eqO_ok hT hA hf he I' rel' ni (g3.mono ex) (g6.mono ex) ru rv) (fun r' s2 z => ?_) fun _ _ x => x
      obtain ⟨rfl, W2, H2, ex2, rel2, I2⟩ := z
      refine .inl ⟨rfl, fun j x y hj z1 z2 => ?_, W2, H2, ex.trans ex2, rel2, I2⟩
      by_cases c : j < i
      · exact past j x y c z1 z2
      · have : j = i := by omega
        subst this
        rw [g1] at z1
        rw [g4] at z2
        cases z1
        cases z2
        exact he
    · refine wpAny_mono (eqO_ok hT hA hf he I' rel' ni (g3.mono ex) (g6.mono ex) ru rv) (fun r' s2 z => ?_) fun _ _ x => x
      obtain ⟨rfl, W2, H2, ex2, rel2, I2⟩ := z
      subst hr
      exact .inr ⟨rfl, .bl false, H2, I2, rfl, (po.go (ex.trans ex2)).now rel2 (.bl _)⟩
  · obtain ⟨past, W', H', ex, rel', I'⟩ := q
    have hr : r = (its.toArray.size == its2.toArray.size) := by
      rw [← l1, ← l2]
      rcases key with ⟨hr, hl, _⟩ | ⟨hr, n, hn, k, z⟩
      · rw [hr, hl]; simp
      · rcases z with ⟨_, z2⟩ | ⟨x, y, z1, z2, z3⟩
        · rw [hr]; simp [z2]
        · have b1 := (List.getElem?_eq_some_iff.mp z1).1
          have b2 := (List.getElem?_eq_some_iff.mp z2).1
          have := past n x y (by omega) z1 z2
          rw [z3] at this
          cases this
    rw [← hr]
    exact ⟨.bl r, H', I', rfl, (po.go ex).now rel' (.bl _)⟩
theorem o_eqT (hT : cl.T = []) {A : Nat → Option (List DV → M DV)} {g : DV → DV → M DV} (hA : ∀ c k, A c = some k → OwnOk1 X cl c 2 "__eq__" k) (hf : ∀ c k c', A c = some k → PySem.W.notFirst X.K (cl.ad c) (.ref (cl.ad c')) = true) (hu : X.A.units < cLine) (hg : O2 cl X (compareOp .Eq) g) : O2 cl X (compareOp .Eq) (eqTD A g) := by
  intro pins s σ H x y v u Q I rx ry q
  obtain ⟨W, h, d1, d2, v', h', rel, r1, r2, e, po⟩ := q
  unfold eqTD at e
  split at e
  · split at e
    · rename_i ni
      split at e
      · rename_i r hr
        cases e
        cases r1 with
        | tup fa ra =>
          cases r2 with
          | tup fb rb =>
            cases rx
            cases ry
            exact tup_eq hT hA hf hu hr I rel ni fa fb ra rb po
      · cases e
    · cases e
  · split at e
    · rename_i ni
      split at e
      · rename_i r hr
        cases e
        cases r1 with
        | tup fa ra =>
          cases r2 with
          | tup fb rb =>
            cases rx
            cases ry
            exact tup_eq hT hA hf hu hr I rel ni fa fb ra rb po
      · cases e
    · cases e
  · exact hg pins s σ H x y v u Q I rx ry ⟨W, h, d1, d2, v', h', rel, r1, r2, e, po⟩
end
end D
set_option Elab.async false
set_option linter.all false
set_option maxRecDepth 100000
set_option maxHeartbeats 2000000
/-! D26: tuples cut by steps. -/
namespace HT
open PySem PySem.Spec PyProof.Rows L2
section
variable {prog : Program} {w : World} {A : Around} {E : Value → Shared → Prop} {s : Shared}
/-- the places that a slice names -/
def stepAt {α : Type} (xs : List α) (lo hi : Option Int) (st : Int) : List α := (List.range (Builtin.Slice.slicePlaces (Builtin.Slice.sliceAdjust lo hi st (xs.length : Int)).1 (Builtin.Slice.sliceAdjust lo hi st (xs.length : Int)).2 st)).filterMap fun (m : Nat) => xs[((Builtin.Slice.sliceAdjust lo hi st (xs.length : Int)).1 + (m : Int) * st).toNat]?
theorem sliceApplied_step {sl : Addr} {vl vu vs : Value} {lo hi : Option Int} {st : Int} {n : Nat} {Q : Int × Int × Nat → Shared → Prop} (hs : s.heap.IsSliceOf sl vl vu vs) (pl : IsPart vl lo) (pu : IsPart vu hi) (ps : IsPart vs (some st)) (h0 : st ≠ 0)
    (h : Q ((Builtin.Slice.sliceAdjust lo hi st (n : Int)).1, st, Builtin.Slice.slicePlaces (Builtin.Slice.sliceAdjust lo hi st (n : Int)).1 (Builtin.Slice.sliceAdjust lo hi st (n : Int)).2 st) s) : wpAny (model prog w) A (Builtin.Slice.sliceApplied (.ref sl) (pure (n : Int))) Q E s := by
  obtain ⟨os, hos, hcs, hds⟩ := id hs
  unfold Builtin.Slice.sliceApplied Builtin.Slice.sliceFields
  refine wpAny_bind (wpAny_bind (wpAny_field hos hds (x := vl) rfl (wpAny_bind (wpAny_field hos hds (x := vu) rfl (wpAny_bind (wpAny_field hos hds (x := vs) rfl (wpAny_pure ?_)))))))
  refine wpAny_bind (slicePart_ ps ?_)
  show wpAny _ _ (if (st == 0) = true then _ else _) _ _ s
  rw [if_neg (by simpa using h0)]
  refine wpAny_bind (slicePart_ pl (wpAny_bind (slicePart_ pu (wpAny_bind (wpAny_pure ?_)))))
  exact wpAny_pure h
theorem getItem_tuple_step {t sl : Addr} {items : List Value} {vl vu vs : Value} {lo hi : Option Int} {st : Int} {Q : Value → Shared → Prop} (ht : IsTup s.heap t items.toArray) (hs : s.heap.IsSliceOf sl vl vu vs) (pl : IsPart vl lo) (pu : IsPart vu hi) (ps : IsPart vs (some st)) (h0 : st ≠ 0) (h1 : st ≠ 1)
    (h : Q (.ref s.heap.objs.size) { s with heap := s.heap.push { cls := .type "tuple", data := .seq (stepAt items lo hi st).toArray } })
    (hsz : (stepAt items lo hi st).length ≤ sizeLine) : wpAny (model prog w) A (getItem (.ref t) (.ref sl)) Q E s := by
  have htake : sizeOk (.seq (stepAt items lo hi st).toArray) := by
    show (stepAt items lo hi st).toArray.size ≤ sizeLine
    rw [List.size_toArray]
    exact hsz
  obtain ⟨os, hos, hcs, hds⟩ := id hs
  have hTs : s.TypeIs (.ref sl) "slice" := ⟨os, hos, hcs⟩
  unfold getItem
  try with_reducible refine wpAny_holding ?_
  first | refine wpAny_bind (wpAny_pure ?_) | skip
  refine wpAny_bind (wpAny_sequenceKey ht.typeIs (by decide) ?_)
  refine wpAny_bind (wpAny_callSpecial?_slot (name := Str.ofString "__getitem__") ht.typeIs PyProof.Rows.slot_tuple_getitem
    (wpAny_call_entry PyProof.Rows.slot_tuple_getitem ht.typeIs entry_tuple_getitem ?_ (args_tuple_getitem _ _)))
  show wpAny _ _ (Builtin.Tuple.tupleItemsOf (.ref t) >>= _) _ _ s
  refine wpAny_bind (tupleItemsOf_ ht ?_)
  refine wpAny_bind (wpAny_typeOf hTs ?_)
  rw [if_pos (by decide)]
  refine wpAny_bind (sliceApplied_step hs pl pu ps h0 ?_)
  have hl : items.toArray.size = items.length := List.size_toArray
  have hno : ¬ (((Builtin.Slice.sliceAdjust lo hi st (items.toArray.size : Int)).1 == 0 && st == 1 && (Builtin.Slice.slicePlaces (Builtin.Slice.sliceAdjust lo hi st (items.toArray.size : Int)).1 (Builtin.Slice.sliceAdjust lo hi st (items.toArray.size : Int)).2 st) == items.toArray.size) = true) := by
    intro q
    rw [Bool.and_eq_true, Bool.and_eq_true] at q
    exact h1 (eq_of_beq q.1.2)
  have hpk : ((List.range (Builtin.Slice.slicePlaces (Builtin.Slice.sliceAdjust lo hi st (items.toArray.size : Int)).1 (Builtin.Slice.sliceAdjust lo hi st (items.toArray.size : Int)).2 st)).filterMap fun (m : Nat) => items.toArray[((Builtin.Slice.sliceAdjust lo hi st (items.toArray.size : Int)).1 + (m : Int) * st).toNat]?).toArray = (stepAt items lo hi st).toArray := by
    rw [hl]
    simp [stepAt]
  show wpAny _ _ (if ((Builtin.Slice.sliceAdjust lo hi st (items.toArray.size : Int)).1 == 0 && st == 1 && (Builtin.Slice.slicePlaces (Builtin.Slice.sliceAdjust lo hi st (items.toArray.size : Int)).1 (Builtin.Slice.sliceAdjust lo hi st (items.toArray.size : Int)).2 st) == items.toArray.size) = true then _ else _) _ _ s
  rw [if_neg hno, hpk]
  first
    | exact wpAny_bind (m := Builtin.Tuple.tupleExact _) (wpAny_newObj_type (wpAny_pure ⟨_, rfl, wpAny_pure h⟩) htake)
    | exact wpAny_bind (m := Builtin.Tuple.tupleExact _) (wpAny_newObj_type (wpAny_bind (wpAny_pure (wpAny_pure ⟨_, rfl, wpAny_pure h⟩))) htake)
    | exact wpAny_bind (wpAny_bind (m := Builtin.Tuple.tupleExact _) (wpAny_newObj_type (wpAny_pure (wpAny_pure ⟨_, rfl, wpAny_pure h⟩)) htake))
    | exact wpAny_bind (wpAny_bind (m := Builtin.Tuple.tupleExact _) (wpAny_newObj_type (wpAny_pure ⟨_, rfl, wpAny_pure h⟩) htake))
end
end HT

namespace D
open PySem PySem.Spec PyProof.Rows L2 SlX ZG
theorem vals_pick {xs : List V} {us : List Value} (r : Vals xs us) (f : Nat → Nat) : ∀ l : List Nat, Vals (l.filterMap fun m => xs[f m]?) (l.filterMap fun m => us[f m]?)
  | [] => .nil
  | m :: t => by
    rw [List.filterMap_cons, List.filterMap_cons]
    have ih := vals_pick r f t
    cases q : xs[f m]? with
    | none =>
      have : us[f m]? = none := by
        rw [List.getElem?_eq_none_iff] at q ⊢
        rw [← r.length]; exact q
      rw [this]
      exact ih
    | some x =>
      obtain ⟨u, hu, ru⟩ := r.get q
      rw [hu]
      exact .cons ru ih
theorem vals_step {xs : List V} {us : List Value} (r : Vals xs us) (lo hi : Option Int) (st : Int) : Vals (HT.stepAt xs lo hi st) (HT.stepAt us lo hi st) := by
  unfold HT.stepAt
  rw [r.length]
  exact vals_pick r (fun m => ((Builtin.Slice.sliceAdjust lo hi st (us.length : Int)).1 + (m : Int) * st).toNat) _
section
variable {K : PySem.W.Frag} {cl : Cl} {W W1 : Wd} {H H1 : Hp} {h h' : Hs} {X : Cx} {pos : Pos} {e se : Expr} {ms m mk : Ex}
theorem rvs_pick {ds : List DV} {xs : List V} (r : RVs K cl W H ds xs) (f : Nat → Nat) : ∀ l : List Nat, RVs K cl W H (l.filterMap fun m => ds[f m]?) (l.filterMap fun m => xs[f m]?)
  | [] => .nil
  | m :: t => by
    rw [List.filterMap_cons, List.filterMap_cons]
    have ih := rvs_pick r f t
    cases q : ds[f m]? with
    | none =>
      have : xs[f m]? = none := by
        rw [List.getElem?_eq_none_iff] at q ⊢
        rw [← r.length]; exact q
      rw [this]
      exact ih
    | some x =>
      obtain ⟨u, hu, ru⟩ := r.get q
      rw [hu]
      exact .cons ru ih
theorem RVs.step {ds : List DV} {xs : List V} (r : RVs K cl W H ds xs) (lo hi : Option Int) (st : Int) : RVs K cl W H (HT.stepAt ds lo hi st) (HT.stepAt xs lo hi st) := by
  unfold HT.stepAt
  rw [r.length]
  exact rvs_pick r (fun m => ((Builtin.Slice.sliceAdjust lo hi st (xs.length : Int)).1 + (m : Int) * st).toNat) _
/-- t[lo:hi:st] -/
def tStep (K : PySem.W.Frag) (te : TE) (tl tu ts : TO) : TE := fun σ H Q => te σ H fun x H1 => tl σ H1 fun lo H2 => tu σ H2 fun hi H3 => ts σ H3 fun st H4 =>
  (∃ a xs k, x = .ref a ∧ st = some k ∧ SqT K H4 a xs ∧ k ≠ 0 ∧ k ≠ 1 ∧ (HT.stepAt xs lo hi k).length ≤ sizeLine ∧ ∀ p, H4 p = none → Q (.ref p) (upd H4 p (.tup (HT.stepAt xs lo hi k)))) ∨
  ∃ a xs, x = .ref a ∧ st = some (-1) ∧ lo = none ∧ hi = none ∧ SqL K H4 a xs ∧ ∀ p, H4 p = none → Q (.ref p) (upd H4 p (.lst xs.reverse))
theorem pe_step {lo hi : Option Expr} {te : TE} {tl tu ts : TO} {p3 : Pos} (he : PE X e te) (hl : PO X lo tl) (hu : PO X hi tu) (hst : PO X (some se) ts) : PE X (.Subscript e (.Slice lo hi (some se) p3) pos) (tStep X.K te tl tu ts) := by
  refine ⟨fun pins s σ H Q I h => ?_⟩
  refine Subscript_ (thn (he.run pins s σ H _ I h) fun v s1 ⟨x, H1, I1, r1, q1⟩ => ?_)
  refine wpAny_Slice (thn (hl.run pins s1 σ H1 _ I1 q1) fun vl s2 ⟨l, H2, I2, pl, q2⟩ => ?_)
  refine thn (hu.run pins s2 σ H2 _ I2 q2) fun vu s3 ⟨u, H3, I3, pu, q3⟩ => ?_
  refine thn (hst.run pins s3 σ H3 _ I3 q3) fun vs s4 ⟨o, H4, I4, ps, q4⟩ => ?_
  have I5 : Inv X pins σ H4 { s4 with heap := s4.heap.push { cls := .type "slice", data := .fields #[vl, vu, vs] } } := I4.kept (t' := s4.toks) fun b ob q => Heap.get?_push_of_some _ q
  rcases q4 with ⟨a, xs, k, rfl, rfl, hx, k0, k1, hz, q⟩ | ⟨a, xs, rfl, rfl, rfl, rfl, hx, q⟩
  · cases r1
    obtain ⟨its, r, ht, hz1⟩ := I5.tuple hx
    refine tail_any (ops := [.ref a, .ref s4.heap.objs.size]) ht.typeIs (PyProof.Rows.slot_tuple_getitem.lookup) ?_ (by with_unfolding_all rfl)
    have rr := vals_step r l u k
    refine HT.getItem_tuple_step ht (Heap.IsSliceOf.new _ vl vu vs) pl pu ps k0 k1 ?_ (by rw [← rr.length]; exact hz)
    refine ⟨.ref _, _, I5.laid (t' := s4.toks) (o := .tup (HT.stepAt xs l u k)) (fun b ob q => Heap.get?_push_of_some _ q) (Nat.le_refl _) ?_, rfl, q _ (I5.hok.fresh (Nat.le_refl _))⟩
    exact ⟨hz, _, rr, IsTup.new _ _⟩
  · cases r1
    obtain ⟨its, r, ht, hz⟩ := I5.list hx
    have hlen := r.length
    refine tail_any (ops := [.ref a, .ref s4.heap.objs.size]) ht.isList.typeIs (PySem.slot_list_getitem.lookup) ?_ (by with_unfolding_all rfl)
    refine wpAny_getItem_list_slice ht.isList (Heap.IsSliceOf.new _ vl vu vs) pl pu ps (by decide) ?_ (by rw [List.size_toArray]; omega)
    rw [PySem.W.krv_pick]
    refine ⟨.ref _, _, I5.laid (t' := s4.toks) (o := .lst xs.reverse) (fun b ob q => Heap.get?_push_of_some _ q) (Nat.le_refl _) ?_, rfl, q _ (I5.hok.fresh (Nat.le_refl _))⟩
    exact ⟨by rw [List.length_reverse]; exact hz, _, 0, r.reverse, Heap.get?_push_size _ rfl⟩
def stepD (x : DV) (lo hi st : Option Int) : M DV := match x, st with
  | .tup ds, some k => if decide (k = 0) || decide (k = 1) then stk else (if fits (HT.stepAt ds lo hi k).length then ret (.tup (HT.stepAt ds lo hi k)) else stk)
  | .ref n, some k => if decide (k = -1) && (lo.isNone && hi.isNone) then bnd (lsAt n) fun ds => fun h => .ok (.ref h.length) (h ++ [.lst ds.reverse]) else stk
  | _, _ => stk
def eStep (m : Ex) (l u k : Po') : Ex := fun sl => bnd (m sl) fun x => bnd (l sl) fun lo => bnd (u sl) fun hi => bnd (k sl) fun st => stepD x lo hi st
theorem de_step {lo hi : Option Expr} {l u k : Po'} {p2 : Pos} (he : DE cl X e m) (hl : PO X lo (tO X.K cl l)) (hu : PO X hi (tO X.K cl u)) (hk : PO X (some se) (tO X.K cl k)) : DE cl X (.Subscript e (.Slice lo hi (some se) p2) pos) (eStep m l u k) := (pe_step he hl hu hk).mono fun σ H Q q => by
  obtain ⟨W, h, sl, v, h', rel, rs, e, po⟩ := q
  obtain ⟨d, h1, e1, e2⟩ := bnd_ok e
  obtain ⟨lo', h2, e3, e4⟩ := bnd_ok e2
  obtain ⟨hi', h3, e5, e6⟩ := bnd_ok e4
  obtain ⟨st', h4, e7, e8⟩ := bnd_ok e6
  refine ⟨W, h, sl, d, h1, rel, rs, e1, fun W1 H1 x ext1 rel1 rv => ⟨W1, h1, sl, lo', h2, rel1, rs.mono ext1, e3, fun W2 H2 ext2 rel2 => ⟨W2, h2, sl, hi', h3, rel2, (rs.mono ext1).mono ext2, e5, fun W3 H3 ext3 rel3 => ⟨W3, h3, sl, st', h4, rel3, ((rs.mono ext1).mono ext2).mono ext3, e7, fun W4 H4 ext4 rel4 => ?_⟩⟩⟩⟩
  have rv4 := ((rv.mono ext2).mono ext3).mono ext4
  have po4 := po.go (((ext1.trans ext2).trans ext3).trans ext4)
  clear rv
  unfold stepD at e8
  split at e8
  · rename_i ds kk
    split at e8
    · cases e8
    · rename_i nz
      obtain ⟨z, e8⟩ := fit_if e8
      cases e8
      simp only [Bool.or_eq_true, decide_eq_true_eq, not_or] at nz
      cases rv4 with
      | tup f r =>
        have r2 := r.step lo' hi' kk
        exact .inl ⟨_, _, kk, rfl, rfl, f.sq, nz.1, nz.2, by rw [← r2.length]; exact z, fun p hp => po_tup po4 rel4 r2 p hp⟩
  · rename_i n kk
    obtain ⟨z, e8⟩ := if_ok e8
    obtain ⟨z1, z2⟩ := Bool.and_eq_true_iff.mp z
    obtain ⟨z2, z3⟩ := Bool.and_eq_true_iff.mp z2
    have z1 := of_decide_eq_true z1
    obtain ⟨ds, h5, e9, e10⟩ := bnd_ok e8
    obtain ⟨rfl, q⟩ := lsAt_ok e9
    cases e10
    cases rv4 with
    | ref hn =>
      obtain ⟨_, xs, hx, rx⟩ := rel4.lst q hn
      exact .inr ⟨_, xs, rfl, by rw [z1], Option.isNone_iff_eq_none.mp z2, Option.isNone_iff_eq_none.mp z3, SqL.of hx, fun p hp => po_lst po4 rel4 rx.rev p hp⟩
  · cases e8
end
end D
set_option Elab.async false
set_option linter.all false
set_option maxRecDepth 100000
set_option maxHeartbeats 2000000
/-! D27: != of instances whose class has an own == alone. -/
namespace PySem.W
open PySem PySem.Calls PyProof.Rows
section
variable {prog : Program} {w : World} {A : Around} {E : Value → Shared → Prop} {s : Shared} {K : Frag} {x C L f : Addr} {h₀ : Heap} {m : Str → Option Value} {ox : Obj} {od : Option Obj} {b tb : Value}
/-- what a bool answer comes to, the other way round -/
def NeBack (Q : Value → Shared → Prop) (v : Value) (s' : Shared) : Prop := ∃ r, v = .bool r ∧ Q (.bool !r) s'
theorem ifBound_ne {Q : Option Value → Shared → Prop} {name : Str} (X : K.In s.heap) (I : InstAt s.heap x ox C od) (hs : findIn K (.ref C) name = some (some (.builtin "object.__ne__")))
    (h : wpAny (model prog w) A (call (.builtin "object.__ne__") [.ref x, b]) (fun v => Q (some v)) E s) : wpAny (model prog w) A (callSpecialIfBound? (.ref x) name [b]) Q E s := by
  simp only [callSpecialIfBound?, bindSpecialIfBound?]
  refine wpAny_holding (wpAny_bind (wpAny_bind (wpAny_bind (I.type.here ((looks_findIn X hs).here ?_)))))
  refine wpAny_bind (wpAny_askSetting (wpAny_ite ?_))
  have fin : wpAny (model prog w) A (call (.builtin "object.__ne__") ([.ref x] ++ [b]) >>= fun v => pure (some v)) Q E s := wpAny_bind (wpAny_mono h (fun v s' h' => wpAny_pure h') fun _ _ h' => h')
  have hb : bindSpecial (.builtin "object.__ne__") (.ref x) = pure (.builtin "object.__ne__", [.ref x]) := F.cmp_object.ne.bind _
  split
  · rw [hb]
    exact wpAny_bind (wpAny_pure (wpAny_pure (by exact fin)))
  · rw [hb]
    exact wpAny_tryCatch (wpAny_bind (wpAny_pure (wpAny_pure (by exact fin))))
theorem ne_run {Q : Value → Shared → Prop} (hu : A.in1.units < cLine) (X : K.In s.heap) (I : InstAt s.heap x ox C od) (hi : Looks (model prog w) s.heap (isInstance (.ref x) (.type "object")) true)
    (hs : findIn K (.ref C) "__eq__" = some (some (.ref f))) (hf : isFn K (.ref f) = true) (h : wpAny (model prog w) A.in1 (call (.ref f) [.ref x, b]) (NeBack Q) E s) :
    wpAny (model prog w) A (call (.builtin "object.__ne__") [.ref x, b]) Q E s := by
  refine wpAny_call (codeAny_call_builtin F.cmp_object.ne.plain F.cmpEntry_ne (@check_slot (model prog w) _ _ _ "object.__ne__" "object" "__ne__" (.ref x) [b] [] _ F.cmpKind_ne F.cmpSplit_ne hi (F.cmpArgs_ne _ _) ?_))
  unfold Builtin.«object.__ne__»
  refine wpAny_bind (wpAny_pure ?_)
  refine wpAny_bind (wpAny_cRoomFor hu ?_)
  refine wpAny_bind (ifBound_K X I hs hf (wpAny_mono h (fun v s' hv => ?_) fun _ _ e => e))
  obtain ⟨r, rfl, q⟩ := hv
  exact wpAny_bind (wpAny_truthy_bool (wpAny_pure q))
theorem cmpNe_K {Q : Value → Shared → Prop} (hu : A.in1.units < cLine) (F : Fr h₀ L s.heap m) (X₀ : K.In h₀) (I : InstAt s.heap x ox C od) (hb : Looks (model prog w) s.heap (typeOf b) tb) (hn : notFirst K C tb = true) (ho : mroIn K C (.type "object") = some true)
    (hne : findIn K (.ref C) "__ne__" = some (some (.builtin "object.__ne__"))) (hs : findIn K (.ref C) "__eq__" = some (some (.ref f))) (hf : isFn K (.ref f) = true)
    (h : wpAny (model prog w) A.in1 (call (.ref f) [.ref x, b]) (NeBack Q) E s) : wpAny (model prog w) A (richCompare .NotEq (.ref x) b) Q E s := by
  have X := X₀.keeps F.keep
  have hu0 : A.units < cLine := Nat.lt_of_succ_lt (show A.units + 1 < cLine from hu)
  have one : wpAny (model prog w) A (tryCompare (.ref x) (cmpInfo .NotEq).2.1 b) (fun r s' => ∃ v, r = some v ∧ Q v s') E s := by
    unfold tryCompare
    refine wpAny_bind (ifBound_ne X I hne (ne_run hu X I (I.type.andThen (looks_mroIn X ho)) hs hf (wpAny_mono h (fun v s' hv => ?_) fun _ _ e => e)))
    obtain ⟨r, rfl, q⟩ := hv
    exact ⟨r, rfl, wpAny_pure ⟨_, rfl, q⟩⟩
  unfold richCompare
  simp only [oneThing_ref]
  refine wpAny_holding (wpAny_bind (wpAny_cRoomFor hu0 ?_))
  refine wpAny_bind (I.type.here (wpAny_bind (hb.here ?_)))
  split
  · rename_i q
    have e : subIn K tb (.ref C) = some false := by
      rcases Bool.or_eq_true_iff.mp hn with e | e
      · rw [beq_iff_eq.mp e] at q; simp at q
      · exact beq_iff_eq.mp e
    refine wpAny_bind ((looks_subIn X e).here ?_)
    simp only [Bool.false_eq_true, if_false]
    refine wpAny_bind (wpAny_mono one (fun r s' z => ?_) fun _ _ e => e)
    obtain ⟨v, rfl, hq⟩ := z
    exact wpAny_pure hq
  · refine wpAny_bind (wpAny_pure ?_)
    simp only [Bool.false_eq_true, if_false]
    refine wpAny_bind (wpAny_mono one (fun r s' z => ?_) fun _ _ e => e)
    obtain ⟨v, rfl, hq⟩ := z
    exact wpAny_pure hq
end
end PySem.W

namespace D
open PySem PySem.Spec PyProof.Rows L2 SlX ZG
section
variable {cl : Cl} {H : Hp} {h : Hs} {W : Wd} {X : Cx}
/-- != where == alone is the class's own -/
def neO (A : Nat → Option (List DV → M DV)) (g : DV → DV → M DV) (x y : DV) : M DV := match x, y with
  | .obj c fs, .obj c' fs' => bnd (optM (A c)) fun k => bnd (k [.obj c fs, .obj c' fs']) fun v => match v with
    | .bl r => ret (.bl !r)
    | _ => stk
  | a, b => g a b
def NeOk (X : Cx) (cl : Cl) (c : Nat) : Prop := PySem.W.mroIn X.K (cl.ad c) (.type "object") = some true ∧ PySem.W.findIn X.K (.ref (cl.ad c)) "__ne__" = some (some (.builtin "object.__ne__"))
theorem o_ownNe {A : Nat → Option (List DV → M DV)} {g : DV → DV → M DV} (hA : ∀ c k, A c = some k → OwnOk1 X cl c 2 "__eq__" k) (hN : ∀ c k, A c = some k → NeOk X cl c) (hf : ∀ c k c', A c = some k → PySem.W.notFirst X.K (cl.ad c) (.ref (cl.ad c')) = true) (hg : O2 cl X (compareOp .NotEq) g) :
    O2 cl X (compareOp .NotEq) (neO A g) := by
  intro pins s σ H x y v u Q I rx ry q
  obtain ⟨W, h, d1, d2, v', h', rel, r1, r2, e, po⟩ := q
  unfold neO at e
  split at e
  · rename_i c fs c' fs'
    obtain ⟨k, h2, e3, e4⟩ := bnd_ok e
    obtain ⟨hk, rfl⟩ := optM_ok e3
    obtain ⟨w0, h3, e5, e6⟩ := bnd_ok e4
    obtain ⟨gf, j, q1, q2, F, hr⟩ := hA _ _ hk
    obtain ⟨n1, n2⟩ := hN _ _ hk
    have r1' := r1
    have r2' := r2
    cases r1 with
    | obj f1 f2 ne z1 z2 rr =>
      cases r2 with
      | obj f1' f2' ne' z1' z2' rr' =>
        cases rx
        cases ry
        obtain ⟨sl, od, _, J, _⟩ := slt_inst I (slt_obj z1 z2)
        obtain ⟨sl', od', _, J', _⟩ := slt_inst I (slt_obj z1' z2')
        obtain ⟨m, hF⟩ := I.fr
        refine PySem.W.cmp_ofNotEq (PySem.W.cmpNe_K hr.in1.units0 hF I.ok.mod.kin J J'.type (hf _ _ c' hk) n1 n2 q1 q2 (wpAny_mono (wpAny_call (run_at (us := [.ref _, .ref _]) (ws := [.ref _, .ref _]) (Q := fun x H' => ∃ r, x = .bl r ∧ Q (.bl !r) H') F hr.in1 I.env0.in1 L2.pass0 I (.cons rfl (.cons rfl .nil))
          ⟨rfl, W, h, [_, _], w0, h3, rel, .cons r1' (.cons r2' .nil), e5, fun W1 H1 x ext rel1 rvx => ?_⟩)) (fun w s' z => ?_) fun _ _ x => x))
        · split at e6
          · cases e6
            cases rvx
            exact ⟨_, rfl, (po.go ext).now rel1 (.bl _)⟩
          · cases e6
        · obtain ⟨z', H', I', rz, r, er, qz⟩ := z
          subst er
          cases rz
          exact ⟨r, rfl, .bl !r, H', I', rfl, qz⟩
  · exact hg pins s σ H x y v u Q I rx ry ⟨W, h, _, _, v', h', rel, r1, r2, e, po⟩
end
end D
set_option Elab.async false
set_option linter.all false
set_option maxRecDepth 100000
set_option maxHeartbeats 2000000
/-! D28: dict comprehensions. -/
namespace D
open PySem PySem.Spec PyProof.Rows L2 SlX ZG
section
variable {K : PySem.W.Frag} {cl : Cl} {W W1 : Wd} {H H1 : Hp} {h h' : Hs} {X : Cx} {pos : Pos}
def dcD (t : Wlk) (f : DV → Sl → Option Sl) (tt : Tx) (ek ev : Ex) (sl : Sl) : Nat → Nat → List (DV × DV) → M (List (DV × DV))
  | 0, _, _ => stk
  | n + 1, i, acc => fun h => match t.at i h with
    | some (some d) => bnd (optM (f d sl)) (fun sl1 => bnd (tt sl1) fun k => if k then bnd (ek sl1) fun a => bnd (ev sl1) fun b => if isKey a && fits (acc.length + 1) then dcD t f tt ek ev sl n (i + 1) (putKD acc a b) else stk else dcD t f tt ek ev sl n (i + 1) acc) h
    | some none => .ok acc h
    | none => .stuck
def eDc (mi : Ix) (f : DV → Sl → Option Sl) (own : List Nat) (tt : Tx) (ek ev : Ex) : Ex := fun sl => bnd (mi sl) fun t => bnd (dcD t f tt ek ev (wipeO sl own) 16777216 0 []) fun kvs => fun h => .ok (.ref h.length) (h ++ [.dic kvs])
theorem dc_le {mi : Ix} {f : DV → Sl → Option Sl} {ws vs0 : List Nat} {tt : Tx} {ek ev : Ex} {σ : L2.St} {Q : VK} (sub : ∀ j ∈ ws, j ∈ vs0) (q : tE K cl (eDc mi f vs0 tt ek ev) σ H Q) : tDc (tI K cl mi) (tG K cl ws f) (tT K cl tt) (tE K cl ek) (tE K cl ev) vs0 σ H Q := by
  obtain ⟨W, h, sl0, v, h', rel, rs0, e, po⟩ := q
  obtain ⟨t, h1, e1, e2⟩ := bnd_ok e
  obtain ⟨all, h2, e3, e4⟩ := bnd_ok e2
  cases e4
  refine ⟨W, h, sl0, t, h1, rel, rs0, e1, fun W1 H1 J ext1 rel1 wk D hD => ?_⟩
  obtain ⟨G, g0, gE, gO, gW⟩ := wk
  have nD : ∀ a, W.F a → a ≠ D := fun a q z => by
    obtain ⟨u, hu⟩ := rel1.tr a (ext1.sub a q)
    rw [z, hD] at hu
    cases hu
  refine ⟨fun i n H2 => ∃ W2 h3 accD acc, Ext W H W2 H2 ∧ G W2 H2 ∧ HRel K cl W2 h3 H2 ∧ RSl K cl W2 H2 (wipeO sl0 vs0) (wipe σ vs0) ∧ W2.F D ∧ Apart W2 h3 D ∧ H2 D = some (.dK acc) ∧ RKV K cl W2 H2 accD acc ∧
    dcD t f tt ek ev (wipeO sl0 vs0) n i accD h3 = .ok all h2, ⟨_, W1.fz D, h1, [], [], ext1.trans (ext_new hD rel1), gE _ _ _ _ (ext_new hD rel1) g0, rel1.new hD,
    ⟨by rw [wipeO_len, wipe_length]; exact rs0.1, (ros_wipe rs0.2 _).mono (ext1.trans (ext_new hD rel1))⟩, .inr rfl, fun n a dx q => Apart.fresh (h := h1) rel1 hD n a dx q, upd_same, .nil, e3⟩, ?_⟩
  rintro i n H2 ⟨W2, h3, accD, acc, ext2, g2, rel2, rs2, hF, ap, hDa, racc, e5⟩
  obtain ⟨y1, y2⟩ := gW W2 h3 H2 i g2 rel2
  cases n with
  | zero => cases e5
  | succ n =>
    have e6 : (match t.at i h3 with
    | some (some d) => bnd (optM (f d (wipeO sl0 vs0))) (fun sl1 => bnd (tt sl1) fun k => if k then bnd (ek sl1) fun a => bnd (ev sl1) fun b => if isKey a && fits (accD.length + 1) then dcD t f tt ek ev (wipeO sl0 vs0) n (i + 1) (putKD accD a b) else stk else dcD t f tt ek ev (wipeO sl0 vs0) n (i + 1) accD) h3
    | some none => .ok accD h3
    | none => .stuck) = .ok all h2 := e5
    cases q : t.at i h3 with
    | none => rw [q] at e6; cases e6
    | some o =>
      rw [q] at e6
      cases o with
      | none =>
        cases e6
        have hacc : ∃ u, H2 D = some u ∧ Acc u := ⟨_, hDa, .inr ⟨_, rfl⟩⟩
        refine .inl ⟨y2 q, po (W2.let D) H2 (.ref D) ⟨fun n p e => (Off.let (W := W2) hacc).pre n p (ext2.pre n p e), fun a z => ⟨ext2.sub a z, nD a z⟩, ext2.keep, fun n p e => ?_⟩
          (rel2.let hacc ap (fun _ _ z => by cases z) ⟨fun z => z.2 rfl, acc, hDa, racc.off (Off.let hacc)⟩) (.ref (d := D) ?_)⟩
        · have e : (W2.ρ ++ [(D, D)])[n]? = some p := e
          rcases getElem?_snoc e with ⟨e, _⟩ | ⟨_, e⟩
          · exact ext2.new n p e
          · exact .inr fun z => nD _ z (by rw [← e])
        · show (W2.ρ ++ [(D, D)])[h2.length]? = some (D, D)
          rw [rel2.len]; simp
      | some d =>
        obtain ⟨go, yl⟩ := y1 d q
        refine .inr ⟨go, _, fun H3 z => ⟨n, Nat.lt_succ_self _, z⟩, fun x H3 yx => ?_⟩
        obtain ⟨W3, ext3, _, rel3, rx⟩ := yl x H3 yx
        obtain ⟨sl1, h4, e7, e8⟩ := bnd_ok e6
        obtain ⟨e7', rfl⟩ := optM_ok e7
        refine ⟨W3, h3, _, d, sl1, rel3, rs2.mono ext3, rx, e7', fun σ4 rs4 z4 => ⟨wipe_same (z4.1.trans (wipe_length _ _)) z4.2 sub, ?_⟩⟩
        obtain ⟨k, h5, e9, e10⟩ := bnd_ok e8
        refine ⟨W3, h3, sl1, k, h5, rel3, rs4, e9, fun W4 H4 ext4 rel4 => ?_⟩
        cases k with
        | false =>
          have ext := ext3.trans ext4
          exact iteF ⟨W4, h5, accD, acc, ext2.trans ext, gE _ _ _ _ ext g2, rel4, rs2.mono ext, ext.sub D hF, ap.ext ext hF, (ext.keep D hF).trans hDa, racc.mono ext, e10⟩
        | true =>
          refine iteT ?_
          obtain ⟨a, h6, e11, e12⟩ := bnd_ok e10
          obtain ⟨b, h7, e13, e14⟩ := bnd_ok e12
          obtain ⟨z, e14⟩ := if_ok e14
          obtain ⟨z1, z2⟩ := Bool.and_eq_true_iff.mp z
          have z2 : accD.length + 1 ≤ sizeLine := fits_ok z2
          refine ⟨W4, h5, sl1, a, h6, rel4, rs4.mono ext4, e11, fun W5 H5 y ext5 rel5 rv5 => ⟨W5, h6, sl1, b, h7, rel5, (rs4.mono ext4).mono ext5, e13, fun W6 H6 y2 ext6 rel6 rv6 => ?_⟩⟩
          have ext := ((ext3.trans ext4).trans ext5).trans ext6
          obtain ⟨key, rk, ey⟩ := rk_of rv5 z1
          have hDb : H6 D = some (.dK acc) := (ext.keep D hF).trans hDa
          have hacc : ∃ u, H6 D = some u ∧ Acc u := ⟨_, hDb, .inr ⟨_, rfl⟩⟩
          have ap5 : Apart W6 h7 D := ap.ext ext hF
          have off : Off W6 H6 W6 (upd H6 D (.dK (putK acc key y2))) D := Off.wr hacc
          have e25 := ext2.trans ext
          refine ⟨acc, key, ey, hDb, ?_, W6, h7, putKD accD a b, putK acc key y2, ⟨e25.pre, e25.sub, fun a z => (upd_ne (nD a z)).trans (e25.keep a z), e25.new⟩, gO _ _ _ _ D off (gE _ _ _ _ ext g2), rel6.accWr hacc ap5 (fun _ z => by cases z),
            (rs2.mono ext).off off, ext.sub D hF, ap5, upd_same, ((racc.mono ext).put rk rv6).off off, e14⟩
          rw [← racc.length]
          omega
theorem de_dc {kx vx tg iter : Expr} {ifs : List Expr} {scope : Scope} {own : List (Str × Nat)} {ws : List Nat} {mi : Ix} {f : DV → Sl → Option Sl} {tt : Tx} {ek ev : Ex} (hc : X.calm = true) (hN : X.N.Nodup) (hi : DI cl X tg iter mi) (ok : BlkOk X.N X.env.scope scope own)
    (hg : ∀ (s : Shared) (H : Hp) (C : Addr) (cc : List (Str × Addr)) (fp : List Addr), DG cl (X.blk s H scope (compEnvC scope cc C X.env) fp) tg ws f) (sub : ∀ j ∈ ws, j ∈ own.map Prod.snd)
    (ht : ∀ (s : Shared) (H : Hp) (C : Addr) (cc : List (Str × Addr)) (fp : List Addr), DTs cl (X.blk s H scope (compEnvC scope cc C X.env) fp) ifs tt)
    (hk : ∀ (s : Shared) (H : Hp) (C : Addr) (cc : List (Str × Addr)) (fp : List Addr), DE cl (X.blk s H scope (compEnvC scope cc C X.env) fp) kx ek)
    (he : ∀ (s : Shared) (H : Hp) (C : Addr) (cc : List (Str × Addr)) (fp : List Addr), DE cl (X.blk s H scope (compEnvC scope cc C X.env) fp) vx ev) (hs : ∀ x, foldedSetIterable iter X.env x = pure x := by intro _; rfl) :
    DE cl X (.DictComp kx vx [⟨tg, iter, ifs, 0⟩] scope pos) (eDc mi f (own.map Prod.snd) tt ek ev) :=
  (pe_dc (g := tG X.K cl ws f) (tt := tT X.K cl tt) (tk := tE X.K cl ek) (tv := tE X.K cl ev) hc hN hi ok (fun s H C cc fp => hg s H C cc fp) (fun s H C cc fp => ht s H C cc fp) (fun s H C cc fp => hk s H C cc fp) (fun s H C cc fp => he s H C cc fp) hs).mono fun σ H Q q => dc_le sub q
end
end D
set_option Elab.async false
set_option linter.all false
set_option maxRecDepth 100000
set_option maxHeartbeats 2000000
/-! D29: defs and classes with defaults. -/
namespace D
open PySem PySem.Spec PyProof.Rows L2 SlX ZG
/-- these values stand in every world -/
def Stands (K : PySem.W.Frag) (cl : Cl) (dd : List DV) (dv : List V) : Prop := ∀ W H, RVs K cl W H dd dv
section
variable {K : PySem.W.Frag} {cl : Cl} {W W1 : Wd} {H H1 : Hp} {h h' : Hs} {X : Cx} {pos p : Pos} {x : Str} {e : Expr} {es : List Expr} {ms : Exs}
theorem Stands.nil : Stands K cl [] [] := fun _ _ => .nil
theorem Stands.non {dd : List DV} {dv : List V} (r : Stands K cl dd dv) : Stands K cl (.non :: dd) (.non :: dv) := fun W H => .cons .non (r W H)
theorem Stands.int {i : Int} {dd : List DV} {dv : List V} (r : Stands K cl dd dv) : Stands K cl (.int i :: dd) (.int i :: dv) := fun W H => .cons (.int i) (r W H)
theorem Stands.bl {i : Bool} {dd : List DV} {dv : List V} (r : Stands K cl dd dv) : Stands K cl (.bl i :: dd) (.bl i :: dv) := fun W H => .cons (.bl i) (r W H)
theorem Stands.str {s : List Nat} {dd : List DV} {dv : List V} (r : Stands K cl dd dv) : Stands K cl (.str s :: dd) (.str (SX.S s) :: dv) := fun W H => .cons (.str s) (r W H)
/-- () of the text -/
theorem Stands.tup0 {a : Addr} {o : Obj} {its : Array Value} {n : Nat} {dd : List DV} {dv : List V} (hk : K.lookup a = some o) (hc : o.cls = .type "tuple") (hd : o.data = .seq its n) (hz : its.toList = []) (r : Stands K cl dd dv) : Stands K cl (.tup [] :: dd) (.ref a :: dv) := fun W H =>
  .cons (.tup (xs := []) (.inr ⟨o, its, n, hk, hc, hd, by rw [← Array.length_toList, hz]; exact Nat.zero_le _, by rw [hz]; exact .nil⟩) .nil) (r W H)
/-- a def of n parameters, the last ones with these defaults -/
def FnDf (P : Program) (w : World) (K : PySem.W.Frag) (mg : Str → Option Value) (base : Heap) (cl : Cl) (k f n : Nat) (dd : List DV) (g : List DV → M DV) : Prop := ∃ (fd : FuncData) (ps : List Str) (ds : List Value) (dv : List V), FnOk P w K mg base L2.CX0 k f fd ps (spD K cl n g) ∧ Binds K fd ps ds ∧ Vals dv ds ∧ Stands K cl dd dv
theorem de_makeDf {c j k n : Nat} {dd : List DV} {g : List DV → M DV} {gf : Addr} (M : Mk X.K (cl.ad c) gf) (F : FnDf X.prog X.w X.K X.mg X.base cl k gf (n + 1 + dd.length) dd g) (hr : Room j X.A) (hk : k + 1 ≤ j) (hg : Gl X x) (hm : X.mg x = some (.ref (cl.ad c))) (ha : DA cl X (e :: es) ms)
    (hn : ∀ sl h vs h', ms sl h = .ok vs h' → vs.length = n)
    (hdb : (x == ("__debug__" : Str)) = false := by decide) (he : starEach (e :: es) X.env = (false, eval e X.env) :: starEach es X.env := by rfl) (hpl : (backTo pos (starEach es X.env)).any (·.1) = false := by rfl) :
    DE cl X (.Call (.Name x p) (e :: es) [] pos) (eCall (makeD c fun ds => g (ds ++ dd)) ms) := by
  obtain ⟨fd, ps, dvals, dv, F, hb, hv, st⟩ := F
  refine (pe_make M F (hr.mono hk) hg hm hb hv L2.pass0 ha hdb he hpl).mono fun σ H Q q => ?_
  obtain ⟨W, h, sl, v, h', rel, rs, e, po⟩ := q
  obtain ⟨ds, h1, e1, e2⟩ := bnd_ok e
  obtain ⟨h2, c', fs, d, t, g1, g2, g3, rfl, rfl⟩ := makeD_ok e2
  refine ⟨W, h, sl, ds, h1, rel, rs, e1, fun W1 H1 vs ext rel1 rv a dx na nd ne => ?_⟩
  obtain ⟨ex2, rel2⟩ := rel1.addI (c := c) na nd ne
  show spD X.K cl (n + 1 + dd.length) g (V.ref a :: (vs ++ dv)) _ _ _
  have at2 : (W1.addI a dx).ρ[h1.length]? = some (a, dx) := by
    show (W1.ρ ++ [(a, dx)])[h1.length]? = some (a, dx)
    rw [rel1.len]; simp
  have sd := st (W1.addI a dx) (upd (upd H1 dx (.own a)) a (.ins (cl.ad c) dx []))
  refine ⟨by rw [List.length_cons, List.length_append, ← rv.length, hn _ _ _ _ e1, ← sd.length]; omega, W1.addI a dx, h1 ++ [.ins c []], .ref h1.length :: (ds ++ dd), .non, h2, rel2, .cons (.ref at2) ((rv.mono ex2).append sd), (by rw [← List.cons_append]; exact g1), fun W3 H3 y ext3 rel3 ry => ?_⟩
  cases ry
  have at3 := ext3.pre _ _ at2
  have e5 := allSome_ok g3
  subst e5
  obtain ⟨ex4, rel4, r4⟩ := rel3.freeze g2 at3
  exact ⟨rfl, po _ _ _ (((ext.trans ex2).trans ext3).trans ex4) rel4 r4⟩
/-- a def of the module with defaults -/
def CalDf (P : Program) (w : World) (K : PySem.W.Frag) (mg : Str → Option Value) (base : Heap) (cl : Cl) (k : Nat) (x : Str) (n : Nat) (dd : List DV) (g : List DV → M DV) : Prop := ∃ f, mg x = some (.ref f) ∧ PySem.W.keepIn K (.ref f) = true ∧ FnDf P w K mg base cl k f n dd g
theorem de_callDf {k j n : Nat} {dd : List DV} {g : List DV → M DV} (C : CalDf X.prog X.w X.K X.mg X.base cl k x (n + dd.length) dd g) (hr : Room j X.A) (hk : k ≤ j) (hg : Gl X x) (ha : DA cl X (e :: es) ms)
    (hn : ∀ sl h vs h', ms sl h = .ok vs h' → vs.length = n)
    (hdb : (x == ("__debug__" : Str)) = false := by decide) (he : starEach (e :: es) X.env = (false, eval e X.env) :: starEach es X.env := by rfl) (hpl : (backTo pos (starEach es X.env)).any (·.1) = false := by rfl) :
    DE cl X (.Call (.Name x p) (e :: es) [] pos) (eCall (fun ds => g (ds ++ dd)) ms) := by
  obtain ⟨f, hm, hkp, fd, ps, dvals, dv, F, hb, hv, st⟩ := C
  refine (pe_call F (hr.mono hk) hg hm hkp hb hv (L2.pass0) ha hdb he hpl).mono fun σ H Q q => ?_
  obtain ⟨W, h, sl, v, h', rel, rs, e, po⟩ := q
  obtain ⟨d, h1, e1, e2⟩ := bnd_ok e
  refine ⟨W, h, sl, d, h1, rel, rs, e1, fun W' H' xs ext rel' rv => ?_⟩
  show spD X.K cl (n + dd.length) g (xs ++ dv) H' Q E0
  have sd := st W' H'
  exact ⟨by rw [List.length_append, ← rv.length, hn _ _ _ _ e1, ← sd.length], W', h1, d ++ dd, v, h', rel', rv.append sd, e2, po.go ext⟩
end
end D
set_option Elab.async false
set_option linter.all false
set_option maxRecDepth 100000
set_option maxHeartbeats 2000000
/-! D30: a, b, c = x, y, z. -/
namespace D
open PySem PySem.Spec PyProof.Rows L2 SlX ZG
section
variable {K : PySem.W.Frag} {cl : Cl} {W W1 : Wd} {H H1 : Hp} {h h' : Hs} {X : Cx} {pos p : Pos}
def sPar3 (i j l : Nat) (ms : Exs) : Sx := fun sl => bnd (ms sl) fun ds => match ds with
  | [u, v, w] => ret (.nx, ((sl.set i (some u)).set j (some v)).set l (some w))
  | _ => stk
theorem ds_par3 {i j l : Nat} {x y z : Str} {a b c : Expr} {ms : Exs} {px py pz pt : Pos} {kt k2 pt2} (hc : X.calm = true) (hN : X.N.Nodup) (hi : X.N[i]? = some x) (hj : X.N[j]? = some y) (hl : X.N[l]? = some z) (hij : i ≠ j) (hil : i ≠ l) (hjl : j ≠ l)
    (hx : X.env.scope.names.lookup x = some .local) (hy : X.env.scope.names.lookup y = some .local) (hz : X.env.scope.names.lookup z = some .local) (ha : DA cl X [a, b, c] ms)
    (hw : swappedStores [.Tuple [.Name x px, .Name y py, .Name z pz] kt pt] (.Tuple [a, b, c] k2 pt2) X.env = pure (some [x, y, z]))
    (hs : swapsWithSole [.Tuple [.Name x px, .Name y py, .Name z pz] kt pt] (.Tuple [a, b, c] k2 pt2) pos.line X.env = pure false := by rfl) :
    DS cl X (.Assign [.Tuple [.Name x px, .Name y py, .Name z pz] kt pt] (.Tuple [a, b, c] k2 pt2) pos) (sPar3 i j l ms) := (ps_par3 hc hN hi hj hl hij hil hjl hx hy hz ha hw hs).mono fun D σ H q => by
  obtain ⟨W, h, sl, fl, sl', h', rel, rs, e, po⟩ := q
  obtain ⟨ds, h1, e1, e2⟩ := bnd_ok e
  refine ⟨W, h, sl, ds, h1, rel, rs, e1, fun W' H' xs ext rel' rv => ?_⟩
  cases rv with
  | nil => cases e2
  | cons r1 t =>
    cases t with
    | nil => cases e2
    | cons r2 t =>
      cases t with
      | nil => cases e2
      | cons r3 t =>
        cases t with
        | cons r4 t => cases e2
        | nil =>
          cases e2
          exact ⟨_, _, _, rfl, po W' H' _ ext rel' ((((rs.mono ext).set i r1).set j r2).set l r3)⟩
end
end D
set_option Elab.async false
set_option linter.all false
set_option maxRecDepth 100000
set_option maxHeartbeats 2000000
/-! D31: a def with defaults, by its data. -/
namespace D
open PySem PySem.Spec PyProof.Rows L2 SlX ZG
section
variable {K : PySem.W.Frag} {cl : Cl}
theorem d_defDd {P : Program} {w : World} {mg : Str → Option Value} {base : Heap} {x qual : Str} {params : Arguments} {body : List Stmt} {scope : Scope} {dvs : List V} {kws : List (Str × V)} {f : Addr} {fd : FuncData} {N ps : List Str} {k n : Nat} {b : Sx} (F : FunD K x qual params body scope dvs kws f fd) (S : FnScope N ps scope) (hn : ps.length = n) (hl : n ≤ N.length)
    (hb : ∀ (cdv : Value) (A : Around) (outer : List Env) (s : Shared) (H : Hp) (E : XK), Room k (A.deeper (envOfC qual scope s.heap.objs.size f cdv)) → DSs cl (cxOf L2.CX0 P w K mg base N qual scope f cdv A outer s H E).nox body b) :
    FnOk P w K mg base L2.CX0 (k + 1) f fd ps (spD K cl n (runF N.length b)) := by
  subst hn
  exact F.ok S (fun vs H Q E q => q.1) fun cdv A outer s H vs Q E hr q => ⟨tS K cl b, PSs.nox (hb cdv A outer s H E hr), run_spD hl q⟩
/-- the last ones of the defaults serve -/
theorem FnDf.of {P : Program} {w : World} {mg : Str → Option Value} {base : Heap} {x qual : Str} {params : Arguments} {body : List Stmt} {scope : Scope} {dvs : List V} {kws : List (Str × V)} {f : Addr} {fd : FuncData} {ps : List Str} {k n : Nat} {dd : List DV} {g : List DV → M DV} {j : Nat}
    (F : FnOk P w K mg base L2.CX0 k f fd ps (spD K cl n g)) (b : ∃ ds, Vals (dvs.drop j) ds ∧ Binds K fd ps ds) (st : Stands K cl dd (dvs.drop j)) : FnDf P w K mg base cl k f n dd g := by
  obtain ⟨ds, hv, hb⟩ := b
  exact ⟨fd, ps, ds, _, F, hb, hv, st⟩
end
/-- x op y of instances of one class, by its own def -/
def binX (A : Nat → Option (List DV → M DV)) (g : DV → DV → M DV) : DV → DV → M DV := fun x y => match x, y with
  | .obj c fs, .obj c' fs' => if Nat.beq c c' then bnd (optM (A c)) fun k => k [.obj c fs, .obj c' fs'] else stk
  | a, b => g a b
def negX (A : Nat → Option (List DV → M DV)) (g : DV → M DV) : DV → M DV := fun x => match x with
  | .obj c fs => bnd (optM (A c)) fun k => k [.obj c fs]
  | a => g a
end D
set_option Elab.async false
set_option linter.all false
set_option maxRecDepth 100000
set_option maxHeartbeats 2000000
/-! D32: methods of texts by an argument list; a name set to a comprehension of two generators. -/
namespace D
open PySem PySem.Spec PyProof.Rows L2 SlX ZG
section
variable {K : PySem.W.Frag} {cl : Cl} {W W1 : Wd} {H H1 : Hp} {h h' : Hs} {X : Cx} {pos apos p : Pos} {o e : Expr} {es : List Expr} {ms : Exs} {mo : Ex} {name : Str} {id : String} {g : DV → List DV → M DV}
def eMS (g : DV → List DV → M DV) (mo : Ex) (ms : Exs) : Ex := fun sl => bnd (mo sl) fun d => match d with
  | .str s => bnd (ms sl) fun ds => g (.str s) ds
  | _ => stk
theorem de_mS (slot : PySem.Slot "str" name id) (hty : typeOf (.builtin id) = pure (.type "method_descriptor")) (hm : MD cl X id g) (ho : DE cl X o mo) (ha : DA cl X (e :: es) ms)
    (hbase : attributeBase o name X.env (eval o X.env) = eval o X.env := by rfl)
    (hfew : ((backTo pos (starEach (e :: es) X.env)).all (fun x => !x.1) && (backToKw pos (keywordEach [] X.env)).all (fun x => x.1.isSome)
      && decide ((e :: es).length + ([] : List Keyword).length + (if ([] : List Keyword).isEmpty then 0 else 1) < 30)) = true := by rfl)
    (hline : (apos.endLine == pos.line) = true := by rfl) (hs : starEach (e :: es) X.env = (false, eval e X.env) :: starEach es X.env := by rfl) (hplain : (backTo pos (starEach es X.env)).any (·.1) = false := by rfl) :
    DE cl X (.Call (.Attribute o name apos) (e :: es) [] pos) (eMS g mo ms) := (pe_bm PySem.F.plainAttrs_str slot hty hm ho ha hbase hfew hline hs hplain).mono fun σ H Q q => by
  obtain ⟨W, h, sl, v, h', rel, rs, e, po⟩ := q
  obtain ⟨d, h1, e1, e2⟩ := bnd_ok e
  split at e2
  · obtain ⟨ys, h3, e5, e6⟩ := bnd_ok e2
    refine ⟨W, h, sl, _, _, rel, rs, e1, fun W1 H1 x ext rel1 rv => ?_⟩
    have hx : tyV X.K "str" x H1 := by
      cases rv
      first | exact .inr (.inr ⟨_, rfl⟩) | exact .inr (.inl ⟨rfl, _, rfl⟩) | (unfold tyV; simp)
    exact ⟨hx, W1, _, sl, ys, _, rel1, rs.mono ext, e5, fun W2 H2 z ext2 rel2 rv2 => ⟨W2, _, _, _, v, h', rel2, rv.mono ext2, rv2, e6, po.go (ext.trans ext2)⟩⟩
  · cases e2
theorem ds_setLc2 {i : Nat} {y : Str} {py : Pos} {elt tg iter tg1 iter1 : Expr} {ifs ifs1 : List Expr} {scope : Scope} {own : List (Str × Nat)} {vs1 ws ws1 : List Nat} {mi mi1 : Ix} {f f1 : DV → Sl → Option Sl} {tt tt1 : Tx} {el : Ex} {pos' : Pos} (hc : X.calm = true) (hN : X.N.Nodup) (hy : X.N[i]? = some y) (hyl : X.env.scope.names.lookup y = some .local)
    (hsw : swapsWith (.ListComp elt [⟨tg, iter, ifs, 0⟩, ⟨tg1, iter1, ifs1, 0⟩] scope pos') (some (.Name y py)) pos.line X.env = pure true) (hi : DI cl X tg iter mi) (ok : BlkOk X.N X.env.scope scope own) (hv : ∀ i ∈ vs1, i ∈ own.map (·.2))
    (hg : ∀ (s : Shared) (H : Hp) (C : Addr) (cc : List (Str × Addr)) (fp : List Addr), DG cl (X.blk s H scope (compEnvC scope cc C X.env) fp) tg ws f) (sub : ∀ j ∈ ws, j ∈ own.map Prod.snd)
    (ht : ∀ (s : Shared) (H : Hp) (C : Addr) (cc : List (Str × Addr)) (fp : List Addr), DTs cl (X.blk s H scope (compEnvC scope cc C X.env) fp) ifs tt)
    (hi1 : ∀ (s : Shared) (H : Hp) (C : Addr) (cc : List (Str × Addr)) (fp : List Addr), DI cl (X.blk s H scope (compEnvC scope cc C X.env) fp) tg1 iter1 mi1)
    (hg1 : ∀ (s : Shared) (H : Hp) (C : Addr) (cc : List (Str × Addr)) (fp : List Addr), DG cl (X.blk s H scope (compEnvC scope cc C X.env) fp) tg1 ws1 f1) (sub1 : ∀ j ∈ ws1, j ∈ vs1)
    (ht1 : ∀ (s : Shared) (H : Hp) (C : Addr) (cc : List (Str × Addr)) (fp : List Addr), DTs cl (X.blk s H scope (compEnvC scope cc C X.env) fp) ifs1 tt1)
    (he : ∀ (s : Shared) (H : Hp) (C : Addr) (cc : List (Str × Addr)) (fp : List Addr), DE cl (X.blk s H scope (compEnvC scope cc C X.env) fp) elt el) (hs : ∀ x, foldedSetIterable iter X.env x = pure x := by intro _; rfl) (hs1 : ∀ env x, foldedSetIterable iter1 env x = pure x := by intro _ _; rfl) :
    DS cl X (.Assign [.Name y py] (.ListComp elt [⟨tg, iter, ifs, 0⟩, ⟨tg1, iter1, ifs1, 0⟩] scope pos') pos) (sAs (eLc2 mi f (own.map Prod.snd) tt mi1 f1 vs1 tt1 el) (gN i)) :=
  (ps_setLc2 (g := tG X.K cl ws f) (g1 := tG X.K cl ws1 f1) (tt := tT X.K cl tt) (tt1 := tT X.K cl tt1) (te := tE X.K cl el) hc hN hy hyl hsw hi ok hv (fun s H C cc fp => hg s H C cc fp) (fun s H C cc fp => ht s H C cc fp) (fun s H C cc fp => hi1 s H C cc fp) (fun s H C cc fp => hg1 s H C cc fp) (fun s H C cc fp => ht1 s H C cc fp) (fun s H C cc fp => he s H C cc fp) hs hs1).mono fun D σ H q => by
    obtain ⟨W, h, sl, fl, sl', h', rel, rs, e, po⟩ := q
    obtain ⟨v, h1, e1, e2⟩ := bnd_ok e
    obtain ⟨sl1, h2, e3, e4⟩ := bnd_ok e2
    obtain ⟨e3', rfl⟩ := optM_ok e3
    cases e4
    cases e3'
    exact lc2_le sub sub1 ⟨W, h, sl, v, h', rel, rs, e1, fun W' H' x ext rel' rv => po W' H' _ ext rel' ((rs.mono ext).set i rv)⟩
end
end D
set_option Elab.async false
set_option linter.all false
set_option maxRecDepth 100000
set_option maxHeartbeats 2000000
/-! D33: an empty tuple of the text. -/
namespace D
open PySem PySem.Spec PyProof.Rows L2 SlX ZG
/-- an empty tuple stands there -/
def Emp (K : PySem.W.Frag) (a : Addr) : Prop := ∃ (o : Obj) (its : Array Value) (n : Nat), K.lookup a = some o ∧ o.cls = .type "tuple" ∧ o.data = .seq its n ∧ its.toList = []
def empB (K : PySem.W.Frag) (a : Addr) : Bool := match K.lookup a with
  | some ⟨.type t, _, .seq its _, _⟩ => decide (t = "tuple") && its.toList.isEmpty
  | _ => false
theorem empB_ok {K : PySem.W.Frag} {a : Addr} (h : empB K a = true) : Emp K a := by
  unfold empB at h
  split at h
  · rename_i t dd its n sl q
    obtain ⟨h1, h2⟩ := Bool.and_eq_true_iff.mp h
    have h1 := of_decide_eq_true h1
    subst h1
    exact ⟨_, its, n, q, rfl, rfl, List.isEmpty_iff.mp h2⟩
  · cases h
theorem Stands.emp {K : PySem.W.Frag} {cl : Cl} {a : Addr} {dd : List DV} {dv : List V} (e : Emp K a) (r : Stands K cl dd dv) : Stands K cl (.tup [] :: dd) (.ref a :: dv) := by
  obtain ⟨o, its, n, h1, h2, h3, h4⟩ := e
  exact .tup0 h1 h2 h3 h4 r
end D
set_option Elab.async false
set_option linter.all false
set_option maxRecDepth 100000
set_option maxHeartbeats 2000000
/-! D34: a written dict from pairs of bools to texts, asked by a written tuple. -/
namespace D
open PySem PySem.Spec PyProof.Rows L2 SlX ZG
abbrev BB := Bool × Bool
def kbNum (b : Bool) : Int := if b = true then 1 else 0
def kbKey (p : BB) : NestedKey := .tup [.num (kbNum p.1), .num (kbNum p.2)]
def kbHash (p : BB) : Int := reduceHash (Builtin.Tuple.tupleHashOf [hashInt (kbNum p.1), hashInt (kbNum p.2)])
def kbEnt (K : PySem.W.Frag) (e : DictEntry) (p : BB × List Nat) : Bool := match e.key with
  | .ref a => decide (e.hash = kbHash p.1) && ((match K.lookup a with
    | some ⟨.type t, _, .seq vs _, _⟩ => decide (t = "tuple") && (match vs.toList with
      | [.bool x, .bool y] => (x == p.1.1) && (y == p.1.2)
      | _ => false)
    | _ => false) && (match e.val with
    | .str z _ => decide (z = SX.S p.2)
    | _ => false))
  | _ => false
def kbAll (K : PySem.W.Frag) : List DictEntry → List (BB × List Nat) → Bool
  | [], [] => true
  | e :: es, p :: ps => kbEnt K e p && kbAll K es ps
  | _, _ => false
def kbB (K : PySem.W.Frag) (d : Addr) (tab : List (BB × List Nat)) : Bool := match K.lookup d with
  | some ⟨.type t, none, .dict es _, sl⟩ => decide (t = "dict") && (sl.isEmpty && kbAll K es.toList tab)
  | _ => false
def lookB : List (BB × List Nat) → BB → Option (List Nat)
  | [], _ => none
  | p :: t, k => if (p.1.1 == k.1) && (p.1.2 == k.2) then some p.2 else lookB t k
section
variable {K : PySem.W.Frag} {P : Program} {w : World} {h : Heap}
theorem kbEnt_ok {e : DictEntry} {p : BB × List Nat} (X : K.In h) (c : kbEnt K e p = true) : ∃ (a : Addr) (t : Tok), e = entryOfKey (nestedKind P w) (kbKey p.1, a, .str (SX.S p.2) t) ∧ (nestedKind P w).is h (kbKey p.1) a := by
  unfold kbEnt at c
  obtain ⟨hs, ky, vl⟩ := e
  split at c
  · rename_i a q
    have q : ky = .ref a := q
    subst q
    obtain ⟨c1, c⟩ := Bool.and_eq_true_iff.mp c
    obtain ⟨c2, c3⟩ := Bool.and_eq_true_iff.mp c
    have c1 := of_decide_eq_true c1
    have c1 : hs = kbHash p.1 := c1
    split at c3
    · rename_i z t qv
      have qv : vl = .str z t := qv
      have c3 := of_decide_eq_true c3
      subst qv c3 c1
      refine ⟨a, t, rfl, ?_⟩
      split at c2
      · rename_i ty dd vs n sl ql
        obtain ⟨c4, c5⟩ := Bool.and_eq_true_iff.mp c2
        have c4 := of_decide_eq_true c4
        subst c4
        split at c5
        · rename_i x y qs
          obtain ⟨c6, c7⟩ := Bool.and_eq_true_iff.mp c5
          have c6 := beq_iff_eq.mp c6
          have c7 := beq_iff_eq.mp c7
          subst c6 c7
          refine ⟨.tup (X _ _ ql) rfl rfl ?_, by simp [kbKey, NestedKey.depth, NestedKey.depthAll]⟩
          rw [qs]
          exact .cons (.bool rfl) (.cons (.bool rfl) .nil)
        · cases c5
      · cases c2
    · cases c3
  · cases c
theorem kbAll_ok (X : K.In h) : ∀ {es : List DictEntry} {tab : List (BB × List Nat)}, kbAll K es tab = true → ∃ xs : List (NestedKey × Addr × Value), es = xs.map (entryOfKey (nestedKind P w)) ∧ (∀ x ∈ xs, (nestedKind P w).is h x.1 x.2.1) ∧
    xs.map (·.1) = tab.map (fun p => kbKey p.1) ∧ ∀ k t, lookB tab k = some t → ∃ tok, valueAt (pairsH xs) (kbKey k) = some (.str (SX.S t) tok)
  | [], [], _ => ⟨[], rfl, fun _ q => (by cases q), rfl, fun _ _ q => (by cases q)⟩
  | [], _ :: _, c => by cases c
  | _ :: _, [], c => by cases c
  | e :: es, p :: ps, c => by
    obtain ⟨c1, c2⟩ := Bool.and_eq_true_iff.mp (show (kbEnt K e p && kbAll K es ps) = true from c)
    obtain ⟨a, t, e1, e2⟩ := kbEnt_ok (P := P) (w := w) X c1
    obtain ⟨xs, x1, x2, x3, x4⟩ := kbAll_ok X c2
    refine ⟨(kbKey p.1, a, .str (SX.S p.2) t) :: xs, by rw [e1, x1]; rfl, fun x hx => ?_, by rw [List.map_cons, List.map_cons, x3], fun k t' q => ?_⟩
    · rcases List.mem_cons.mp hx with z | z
      · rw [z]; exact e2
      · exact x2 x z
    · have q : (if (p.1.1 == k.1) && (p.1.2 == k.2) then some p.2 else lookB ps k) = some t' := q
      by_cases z : p.1 = k
      · subst z
        simp at q
        subst q
        exact ⟨t, by simp [pairsH, valueAt]⟩
      · have ne : ¬ ((p.1.1 == k.1) && (p.1.2 == k.2)) = true := fun y => z (by
          obtain ⟨y1, y2⟩ := Bool.and_eq_true_iff.mp y
          exact Prod.ext (beq_iff_eq.mp y1) (beq_iff_eq.mp y2))
        rw [if_neg ne] at q
        obtain ⟨tok, v⟩ := x4 k t' q
        have nk : kbKey p.1 ≠ kbKey k := fun y => z (by
          obtain ⟨⟨p1, p2⟩, _⟩ := p
          obtain ⟨k1, k2⟩ := k
          simp [kbKey, kbNum] at y
          cases p1 <;> cases p2 <;> cases k1 <;> cases k2 <;> simp_all)
        refine ⟨tok, ?_⟩
        rw [← v]
        simp [pairsH, valueAt, nk]
end
structure KTabB (K : PySem.W.Frag) (d : Addr) (tab : List (BB × List Nat)) : Prop where
  ok : kbB K d tab = true
  nd : (tab.map fun p => kbKey p.1).Nodup
section
variable {cl : Cl} {X : Cx} {pos : Pos} {ms : Exs}
def boolsOf : DV → Option BB
  | .tup [.bl a, .bl b] => some (a, b)
  | _ => none
def rKb (K : PySem.W.Frag) (d : Addr) (tab : List (BB × List Nat)) : R2 := fun x y H Q => ∃ (a : Addr) (p : BB) (t : List Nat), x = .ref d ∧ y = .ref a ∧ SqT K H a [.bl p.1, .bl p.2] ∧ lookB tab p = some t ∧ Q (.str (SX.S t)) H
theorem ix_kb {d : Addr} {tab : List (BB × List Nat)} (T : KTabB X.K d tab) (hu : X.A.units + 9 < cLine) : IxR X (rKb X.K d tab) := by
  intro value slice pins s σ H x y v u Q I rx ry h hs
  obtain ⟨a, p, t, rfl, rfl, hq, hl, q⟩ := h
  cases rx
  cases ry
  obtain ⟨its, r, pl, hz⟩ := I.tuple hq
  have hb := T.ok
  unfold kbB at hb
  split at hb
  · rename_i ty es ep sl ql
    obtain ⟨c1, c2⟩ := Bool.and_eq_true_iff.mp hb
    obtain ⟨c2, c3⟩ := Bool.and_eq_true_iff.mp c2
    have c1 := of_decide_eq_true c1
    subst c1
    obtain ⟨xs, x1, x2, x3, x4⟩ := kbAll_ok (P := X.prog) (w := X.w) I.kIn c3
    have hsl : sl = #[] := Array.isEmpty_iff.mp c2
    subst hsl
    have dk : s.heap.DictKeyed (nestedKind X.prog X.w) d (pairsH xs) := Heap.DictKeyed.ofEntries xs (I.kIn _ _ ql) ⟨rfl, rfl, rfl⟩ rfl x1 x2 (by rw [x3]; exact T.nd)
    obtain ⟨tok, hv⟩ := x4 p t hl
    have hk : (nestedKind X.prog X.w).is s.heap (kbKey p) a := by
      obtain ⟨o, ho, hc, n, hd⟩ := pl
      refine ⟨.tup ho hc hd ?_, by simp [kbKey, NestedKey.depth, NestedKey.depthAll]⟩
      cases r with
      | cons r1 r =>
        cases r with
        | cons r2 r =>
          cases r
          cases r1
          cases r2
          exact .cons (.bool rfl) (.cons (.bool rfl) .nil)
    refine subscriptTail_builtinR (x := .str (SX.S t) tok) dk.typeIs PySem.F.slot_dict_getitem.lookup
      (getItem_keyed (knd := nestedKind X.prog X.w) (by show X.A.units + 1 + 8 < cLine; omega) hk dk hv ⟨rfl, .str (SX.S t), H, I.tok _, ⟨_, rfl⟩, q⟩) hs
  · cases hb
def eKb (tab : List (BB × List Nat)) (ms : Exs) : Ex := fun sl => bnd (ms sl) fun ds => match ds with
  | [.bl a, .bl b] => optV (lookB tab (a, b)) .str
  | _ => stk
theorem de_kb {x : Str} {p tp : Pos} {es : List Expr} {d : Addr} {tab : List (BB × List Nat)} {kk j : Nat} (hr : Room j X.A) (T : KTabB X.K d tab) (hg : Gl X x) (hm : X.mg x = some (.ref d)) (ha : DA cl X es ms) (hs : PlainIx (.Tuple es kk tp) := by intro _ _; rfl) (hd : (x == ("__debug__" : Str)) = false := by decide) :
    DE cl X (.Subscript (.Name x p) (.Tuple es kk tp) pos) (eKb tab ms) := by
  refine (pe_ix (ix_kb T (by have := hr.un; omega)) (pe_glob hg hm (show RelV (.ref d) (.ref d) from rfl) hd) (pe_tup ha) hs).mono fun σ H Q q => ?_
  obtain ⟨W, h, sl, v, h', rel, rs, e, po⟩ := q
  obtain ⟨ds, h1, e1, e2⟩ := bnd_ok e
  refine ⟨W, h, sl, ds, h1, rel, rs, e1, fun W1 H1 xs ext rel1 rv => ?_⟩
  split at e2
  · rename_i a b
    cases z : lookB tab (a, b) with
    | none => rw [z] at e2; cases e2
    | some t =>
      rw [z] at e2
      cases e2
      cases rv with
      | cons r1 rv =>
        cases rv with
        | cons r2 rv =>
          cases rv
          cases r1
          cases r2
          refine ⟨by rw [sizeLine_eq]; simp, fun p hp => ⟨p, (a, b), t, rfl, rfl, .inl (.inl upd_same), z, ?_⟩⟩
          exact po _ _ _ (ext.trans (ext_new hp rel1)) (rel1.new hp) (.str t)
  · cases e2
end
end D
set_option Elab.async false
set_option linter.all false
set_option maxRecDepth 100000
set_option maxHeartbeats 2000000
/-! E0: what is left behind in the D heap is dropped; lists are frozen. -/
namespace D
open PySem PySem.Spec PyProof.Rows L2 SlX ZG
mutual
/-- no object of the D heap from n on is named -/
def belV (n : Nat) : DV → Bool
  | .ref m => Nat.blt m n
  | .tup xs => belVs n xs
  | .obj _ fs => belVs n fs
  | .fls xs => belVs n xs
  | .exc _ v => belV n v
  | _ => true
def belVs (n : Nat) : List DV → Bool
  | [] => true
  | d :: t => belV n d && belVs n t
end
section
variable {K : PySem.W.Frag} {cl : Cl} {W W1 : Wd} {H H1 : Hp} {h h' : Hs} {X : Cx} {pos : Pos} {e : Expr} {m : Ex}
abbrev Wd.sh (W W1 : Wd) : Wd := ⟨W.ρ, W1.F⟩
mutual
theorem RV.bel (len : h.length = W.ρ.length) (pre : ∀ (n : Nat) (p : Addr × Addr), W.ρ[n]? = some p → W1.ρ[n]? = some p) : ∀ {d : DV} {y : V}, belV h.length d = true → RV K cl W1 H1 d y → RV K cl (W.sh W1) H1 d y
  | _, _, _, .non => .non
  | _, _, _, .bl b => .bl b
  | _, _, _, .int i => .int i
  | _, _, _, .str s => .str s
  | .ref n, .ref a, q, .ref (d := d) hn => by
    have q : n < h.length := Nat.blt_eq.mp q
    rw [len] at q
    have e1 : W.ρ[n]? = some W.ρ[n] := List.getElem?_eq_getElem q
    have e2 := pre _ _ e1
    rw [hn] at e2
    have e3 : W.ρ[n]? = some (a, d) := by rw [e1]; exact e2.symm
    exact .ref (d := d) (show (W.sh W1).ρ[n]? = some (a, d) from e3)
  | _, _, q, .tup f r => .tup f (RVs.bel len pre (show belVs h.length _ = true from q) r)
  | _, _, q, .obj f1 f2 n h1 h2 r => .obj f1 f2 n h1 h2 (RVs.bel len pre (show belVs h.length _ = true from q) r)
  | _, _, _, .scr f => .scr f
  | _, _, q, .exc f1 f2 n h1 h2 r => .exc f1 f2 n h1 h2 (RV.bel len pre (show belV h.length _ = true from q) r)
  | _, _, q, .fls f r => .fls f (RVs.bel len pre (show belVs h.length _ = true from q) r)
theorem RVs.bel (len : h.length = W.ρ.length) (pre : ∀ (n : Nat) (p : Addr × Addr), W.ρ[n]? = some p → W1.ρ[n]? = some p) : ∀ {d : List DV} {y : List V}, belVs h.length d = true → RVs K cl W1 H1 d y → RVs K cl (W.sh W1) H1 d y
  | _, _, _, .nil => .nil
  | _, _, q, .cons a b => by
    have q2 := Bool.and_eq_true_iff.mp (show (belV _ _ && belVs _ _) = true from q)
    exact .cons (RV.bel len pre q2.1 a) (RVs.bel len pre q2.2 b)
end
mutual
theorem RV.inb (len : h.length = W.ρ.length) : ∀ {d : DV} {y : V}, RV K cl W H d y → belV h.length d = true
  | _, _, .non => rfl
  | _, _, .bl b => rfl
  | _, _, .int i => rfl
  | _, _, .str s => rfl
  | _, _, .ref hn => Nat.blt_eq.mpr (by rw [len]; exact (List.getElem?_eq_some_iff.mp hn).1)
  | _, _, .tup f r => RVs.inb len r
  | _, _, .obj f1 f2 n h1 h2 r => RVs.inb len r
  | _, _, .scr f => rfl
  | _, _, .fls f r => RVs.inb len r
  | _, _, .exc f1 f2 n h1 h2 r => by
    have z := RV.inb len r
    exact z
theorem RVs.inb (len : h.length = W.ρ.length) : ∀ {d : List DV} {y : List V}, RVs K cl W H d y → belVs h.length d = true
  | _, _, .nil => rfl
  | _, _, .cons a b => by
    show (belV _ _ && belVs _ _) = true
    rw [RV.inb len a, RVs.inb len b]
    rfl
end
/-- an object that names nothing from n on -/
def belO (n : Nat) : DO → Bool
  | .lst xs => belVs n xs
  | .dic kvs => kvs.all fun p => belV n p.1 && belV n p.2
  | .dfz kvs => kvs.all fun p => belV n p.1 && belV n p.2
  | .ins _ fs => fs.all fun o => match o with
    | some d => belV n d
    | none => true
  | .dead => true
  | .pot _ _ => true
theorem RKV.bel (len : h.length = W.ρ.length) (pre : ∀ (n : Nat) (p : Addr × Addr), W.ρ[n]? = some p → W1.ρ[n]? = some p) : ∀ {d : List (DV × DV)} {y : List (Key × V)}, (d.all fun p => belV h.length p.1 && belV h.length p.2) = true → RKV K cl W1 H1 d y → RKV K cl (W.sh W1) H1 d y
  | _, _, _, .nil => .nil
  | _, _, q, .cons k r t => by
    rw [List.all_cons] at q
    obtain ⟨q1, q2⟩ := Bool.and_eq_true_iff.mp q
    exact .cons k (r.bel len pre (Bool.and_eq_true_iff.mp q1).2) (RKV.bel len pre q2 t)
theorem RKV.inb (len : h.length = W.ρ.length) : ∀ {d : List (DV × DV)} {y : List (Key × V)}, RKV K cl W H d y → (d.all fun p => belV h.length p.1 && belV h.length p.2) = true
  | _, _, .nil => rfl
  | _, _, .cons (d := d) k r t => by
    rw [List.all_cons, RKV.inb len t, r.inb len]
    cases d <;> first | rfl | (cases k; done)
theorem DOk.inb (len : h.length = W.ρ.length) {a dx : Addr} {o : DO} (x : DOk K cl W H a dx o) (ok : ∀ c fs, o ≠ .ins c fs) : belO h.length o = true := by
  cases o with
  | lst ds => obtain ⟨_, xs, _, r⟩ := x; exact r.inb len
  | dic ks => obtain ⟨_, xs, _, r⟩ := x; exact r.inb len
  | dfz ks => obtain ⟨_, _, xs, _, r⟩ := x; exact r.inb len
  | ins c fs => exact absurd rfl (ok c fs)
  | dead => rfl
  | pot _ _ => rfl
theorem DOk.bel (len : h.length = W.ρ.length) (pre : ∀ (n : Nat) (p : Addr × Addr), W.ρ[n]? = some p → W1.ρ[n]? = some p) {a dx : Addr} {o : DO} (b : belO h.length o = true) (x : DOk K cl W1 H1 a dx o) : DOk K cl (W.sh W1) H1 a dx o := by
  cases o with
  | lst ds => obtain ⟨n, xs, h1, r⟩ := x; exact ⟨n, xs, h1, r.bel len pre b⟩
  | dic ks => obtain ⟨n, xs, h1, r⟩ := x; exact ⟨n, xs, h1, r.bel len pre b⟩
  | dfz ks => obtain ⟨n, od, xs, h1, r⟩ := x; exact ⟨n, od, xs, h1, r.bel len pre b⟩
  | ins c fs =>
    obtain ⟨n1, n2, ne, ow, vs, sl, r⟩ := x
    refine ⟨n1, n2, ne, ow, vs, sl, fun i d q => ?_⟩
    obtain ⟨y, e, ry⟩ := r i d q
    have b1 := List.all_eq_true.mp (show (fs.all fun o => match o with
      | some d => belV h.length d
      | none => true) = true from b) _ (List.mem_of_getElem? q)
    exact ⟨y, e, ry.bel len pre b1⟩
  | dead => exact True.intro
  | pot k ds => exact x
theorem DOk.bel2 (len : h.length = W.ρ.length) (pre : ∀ (n : Nat) (p : Addr × Addr), W.ρ[n]? = some p → W1.ρ[n]? = some p) {a dx : Addr} {o : DO} (y : DOk K cl W H a dx o) (x : DOk K cl W1 H1 a dx o) : DOk K cl (W.sh W1) H1 a dx o := by
  cases o with
  | ins c fs =>
    obtain ⟨n1, n2, ne, ow, vs, sl, r⟩ := x
    obtain ⟨_, _, _, _, _, _, r0⟩ := y
    refine ⟨n1, n2, ne, ow, vs, sl, fun i d q => ?_⟩
    obtain ⟨y, e, ry⟩ := r i d q
    obtain ⟨_, _, ry0⟩ := r0 i d q
    exact ⟨y, e, ry.bel len pre (ry0.inb len)⟩
  | lst ds => exact x.bel len pre (y.inb len fun _ _ z => (by cases z))
  | dic ds => exact x.bel len pre (y.inb len fun _ _ z => (by cases z))
  | dfz ds => exact x.bel len pre (y.inb len fun _ _ z => (by cases z))
  | dead => exact True.intro
  | pot k ds => exact x
/-- h' is what was there, changed, and h2 behind it is dropped -/
def Cut (h h' h2 : Hs) : Prop := h2.length = h.length ∧ ∃ k, h' = h2 ++ k ∧ ∀ (i : Nat) (o : DO), h2[i]? = some o → h[i]? = some o ∨ belO h.length o = true
theorem Cut.self {k : Hs} : Cut h (h ++ k) h := ⟨rfl, k, rfl, fun _ _ q => .inl q⟩
/-- the world without what is dropped -/
theorem HRel.cut {h2 : Hs} (rel : HRel K cl W h H) (rel1 : HRel K cl W1 h' H1) (ext : Ext W H W1 H1) (c : Cut h h' h2) : HRel K cl (W.sh W1) h2 H1 ∧ Ext W H (W.sh W1) H1 := by
  obtain ⟨l2, k, e, c⟩ := c
  have up : ∀ (n : Nat) (o : DO), h2[n]? = some o → h'[n]? = some o := fun n o q => by rw [e]; exact getElem?_pre q
  refine ⟨⟨by rw [l2]; exact rel.len, rel.nd, rel1.tr, fun p hp => ?_, fun n o a dx h1 h3 => ?_, fun n m c1 c2 f1 f2 a dx b dy q1 q2 q3 q4 q5 => rel1.sep n m c1 c2 f1 f2 a dx b dy (up _ _ q1) (up _ _ q2) (ext.pre _ _ q3) (ext.pre _ _ q4) q5, rel1.tb, rel1.nt⟩,
    ⟨fun _ _ q => q, ext.sub, ext.keep, fun _ _ q => .inl q⟩⟩
  · obtain ⟨n, hn⟩ := List.mem_iff_getElem?.mp hp
    exact rel1.tr2 p (List.mem_of_getElem? (ext.pre _ _ hn))
  · have ok := rel1.ok n o a dx (up _ _ h1) (ext.pre _ _ h3)
    rcases c n o h1 with z | z
    · exact DOk.bel2 rel.len ext.pre (rel.ok n o a dx z h3) ok
    · exact DOk.bel rel.len ext.pre z ok
open Classical in
/-- what a computation leaves behind is dropped -/
noncomputable def cutM {α : Type} (ok : Nat → α → Bool) (m : M α) : M α := fun h => match m h with
  | .ok v h' => if c : ok h.length v = true ∧ ∃ h2, Cut h h' h2 then .ok v c.2.choose else .stuck
  | .err c v h' => .err c v h'
  | .stuck => .stuck
theorem cutM_ok {α : Type} {ok : Nat → α → Bool} {m : M α} {v : α} (e : cutM ok m h = .ok v h') : ∃ h1, m h = .ok v h1 ∧ ok h.length v = true ∧ Cut h h1 h' := by
  classical
  unfold cutM at e
  cases q : m h with
  | stuck => rw [q] at e; cases e
  | err => rw [q] at e; cases e
  | ok a h1 =>
    rw [q] at e
    by_cases c : ok h.length a = true ∧ ∃ h2, Cut h h1 h2
    · have e : (if c : ok h.length a = true ∧ ∃ h2, Cut h h1 h2 then R.ok a c.2.choose else R.stuck) = R.ok v h' := e
      rw [dif_pos c] at e
      cases e
      exact ⟨h1, rfl, c.1, c.2.choose_spec⟩
    · have e : (if c : ok h.length a = true ∧ ∃ h2, Cut h h1 h2 then R.ok a c.2.choose else R.stuck) = R.ok v h' := e
      rw [dif_neg c] at e
      cases e
theorem cut_fun {h1 h2 h3 : Hs} (a : Cut h h1 h2) (b : Cut h h1 h3) : h2 = h3 := by
  obtain ⟨l1, k1, e1, _⟩ := a
  obtain ⟨l2, k2, e2, _⟩ := b
  exact (List.append_inj (e1.symm.trans e2) (l1.trans l2.symm)).1
theorem cutM_s {α : Type} {ok : Nat → α → Bool} {m : M α} {v : α} {h1 h2 : Hs} (e : m h = .ok v h1) (p : ok h.length v = true) (c : Cut h h1 h2) : cutM ok m h = .ok v h2 := by
  classical
  unfold cutM
  rw [e]
  have z : ok h.length v = true ∧ ∃ h2, Cut h h1 h2 := ⟨p, h2, c⟩
  show (if c : ok h.length v = true ∧ ∃ h2, Cut h h1 h2 then R.ok v c.2.choose else R.stuck) = _
  rw [dif_pos z]
  rw [cut_fun z.2.choose_spec c]
/-- an expression -/
noncomputable def eTr (m : Ex) : Ex := fun sl => cutM belV (m sl)
theorem de_tr (p : DE cl X e m) : DE cl X e (eTr m) := p.mono fun σ H Q q => by
  obtain ⟨W, h, sl, v, h', rel, rs, e, po⟩ := q
  obtain ⟨h1, e1, b, c⟩ := cutM_ok e
  refine ⟨W, h, sl, v, h1, rel, rs, e1, fun W1 H1 x ext rel1 rv => ?_⟩
  obtain ⟨r2, e2⟩ := rel.cut rel1 ext c
  exact po _ _ _ e2 r2 (rv.bel rel.len ext.pre b)
/-- a test -/
noncomputable def tTr (m : Tx) : Tx := fun sl => cutM (fun _ _ => true) (m sl)
theorem dt_tr {m : Tx} (p : DT cl X e m) : DT cl X e (tTr m) := p.mono fun σ H Q q => by
  obtain ⟨W, h, sl, v, h', rel, rs, e, po⟩ := q
  obtain ⟨h1, e1, _, c⟩ := cutM_ok e
  refine ⟨W, h, sl, v, h1, rel, rs, e1, fun W1 H1 ext rel1 => ?_⟩
  obtain ⟨r2, e2⟩ := rel.cut rel1 ext c
  exact po _ _ e2 r2
/-- a def -/
noncomputable def trF (g : List DV → M DV) : List DV → M DV := fun ds => cutM belV (g ds)
theorem tr_sp {n : Nat} {g : List DV → M DV} {vs : List V} {Q : VK} {E : XK} (q : spD K cl n (trF g) vs H Q E) : spD K cl n g vs H Q E := by
  obtain ⟨hl, W, h, ds, v, h', rel, r, e, po⟩ := q
  obtain ⟨h1, e1, b, c⟩ := cutM_ok e
  refine ⟨hl, W, h, ds, v, h1, rel, r, e1, fun W1 H1 x ext rel1 rv => ?_⟩
  obtain ⟨r2, e2⟩ := rel.cut rel1 ext c
  exact po _ _ _ e2 r2 (rv.bel rel.len ext.pre b)
theorem tr_ok {P : Program} {w : World} {mg : Str → Option Value} {base : Heap} {k n : Nat} {f : Addr} {g : List DV → M DV} (F : FnD P w K mg base cl k f n g) : FnD P w K mg base cl k f n (trF g) := by
  obtain ⟨fd, ps, F, b⟩ := F
  exact ⟨fd, ps, F.imp fun vs H Q E q => tr_sp q, b⟩
/-! ### frozen lists -/
def tFz (t : TE) : TE := fun σ H Q => t σ H fun x H1 => (∃ a xs, x = .ref a ∧ H1 a = some (.lst xs) ∧ ∀ o, Q x (upd H1 a (.frz o (.lst xs)))) ∨ Q x H1
theorem pe_fz {t : TE} (p : PE X e t) : PE X e (tFz t) := ⟨fun pins s σ H Q I q => thn (p.run pins s σ H _ I q) fun u s1 ⟨x, H1, I1, r, z⟩ => by
  rcases z with ⟨a, xs, ex, ha, z⟩ | z
  · obtain ⟨od, I2⟩ := I1.lock ha True.intro
    exact ⟨x, _, I2, r, z od⟩
  · exact ⟨x, H1, I1, r, z⟩⟩
def frzD (d : DV) : M DV := match d with
  | .ref n => fun h => match h[n]? with
    | some (.lst ds) => .ok (.fls ds) (h.set n .dead)
    | _ => .stuck
  | .fls ds => ret (.fls ds)
  | _ => stk
theorem HRel.frz {n : Nat} {a dx : Addr} {ds : List DV} {xs : List V} {o : Obj} (rel : HRel K cl W h H) (hn : h[n]? = some (.lst ds)) (hp : W.ρ[n]? = some (a, dx)) (ha : H a = some (.lst xs)) (r : RVs K cl W H ds xs) :
    Ext W H (W.fz a) (upd H a (.frz o (.lst xs))) ∧ HRel K cl (W.fz a) (h.set n .dead) (upd H a (.frz o (.lst xs))) ∧ RV K cl (W.fz a) (upd H a (.frz o (.lst xs))) (.fls ds) (.ref a) := by
  have nf : ¬ W.F a := (rel.ok n _ a dx hn hp).1
  have e0 : Ext W H W (upd H a (.frz o (.lst xs))) := ext_wr nf
  have r0 : HRel K cl W (h.set n .dead) (upd H a (.frz o (.lst xs))) := rel.wr hp nf ha (.inl ⟨xs, rfl⟩) (fun _ _ z => by cases z) True.intro
  have e1 : Ext W H (W.fz a) (upd H a (.frz o (.lst xs))) := ⟨e0.pre, fun _ q => .inl q, e0.keep, fun _ _ q => .inl q⟩
  have e2 : Ext W (upd H a (.frz o (.lst xs))) (W.fz a) (upd H a (.frz o (.lst xs))) := ⟨fun _ _ q => q, fun _ q => .inl q, fun _ _ => rfl, fun _ _ q => .inl q⟩
  have hlt : n < h.length := (List.getElem?_eq_some_iff.mp hn).1
  refine ⟨e1, ⟨r0.len, r0.nd, fun b q => ?_, r0.tr2, fun m d b dy h1 h2 => ?_, r0.sep, fun p hp => (r0.tb p hp).go e2.sub e2.keep fun _ _ z => z, fun t0 b q ps z => ?nt⟩, .fls (.inl ⟨.inr rfl, o, upd_same⟩) (r.mono e1)⟩
  case nt =>
    rcases q with q | q
    · exact r0.nt t0 b q ps z
    · rw [q, upd_same] at z; cases z
  · rcases q with q | q
    · exact r0.tr b q
    · rw [q]; exact ⟨_, upd_same⟩
  · by_cases hm : m = n
    · subst hm
      rw [List.getElem?_set_self hlt] at h1
      cases h1
      exact True.intro
    · have ok := r0.ok m d b dy h1 h2
      have nb : b ≠ a := fun z => hm (r0.inj (a := a) (by rw [← z]; exact h2) hp)
      have no : ∀ c, c ≠ a → ¬ W.F c → ¬ (W.fz a).F c := fun c n1 n2 z => z.elim n2 n1
      cases d with
      | lst ds => obtain ⟨k1, xs, k2, k3⟩ := ok; exact ⟨no b nb k1, xs, k2, k3.mono e2⟩
      | dic ds => obtain ⟨k1, xs, k2, k3⟩ := ok; exact ⟨no b nb k1, xs, k2, k3.mono e2⟩
      | dfz ds => obtain ⟨k1, od, xs, k2, k3⟩ := ok; exact ⟨.inl k1, od, xs, k2, k3.mono e2⟩
      | ins c fs =>
        obtain ⟨k1, k2, k3, ⟨u, hu, ow⟩, vs, sl, k4⟩ := ok
        have ndy : dy ≠ a := fun z => by
          rw [z, upd_same] at hu
          cases hu
          rcases ow with ⟨_, ow⟩ | ow <;> cases ow
        exact ⟨no b nb k1, no dy ndy k2, k3, ⟨u, hu, ow⟩, vs, sl, k4.mono e2⟩
      | dead => exact True.intro
      | pot k ds => obtain ⟨k1, i, j, l, k2, k3⟩ := ok; exact ⟨no b nb k1, i, j, l, k2, k3⟩
def eFz (m : Ex) : Ex := fun sl => bnd (m sl) frzD
theorem de_fz (p : DE cl X e m) : DE cl X e (eFz m) := (pe_fz p).mono fun σ H Q q => by
  obtain ⟨W, h, sl, v, h', rel, rs, e, po⟩ := q
  obtain ⟨d, h1, e1, e2⟩ := bnd_ok e
  refine ⟨W, h, sl, d, h1, rel, rs, e1, fun W1 H1 x ext rel1 rv => ?_⟩
  cases rv <;> first | (cases e2; done) | skip
  · rename_i n a dx hp
    have e3 : (match h1[n]? with
      | some (.lst ds) => R.ok (DV.fls ds) (h1.set n .dead)
      | _ => .stuck) = R.ok v h' := e2
    cases q : h1[n]? with
    | none => rw [q] at e3; cases e3
    | some u =>
      rw [q] at e3
      cases u <;> first | (cases e3; done) | skip
      cases e3
      obtain ⟨_, xs, hx, r⟩ := rel1.ok n _ a dx q hp
      refine .inl ⟨a, xs, rfl, hx, fun o => ?_⟩
      obtain ⟨x1, x2, x3⟩ := rel1.frz (o := o) q hp hx r
      exact po _ _ _ (ext.trans x1) x2 x3
  · cases e2
    exact .inr (po _ _ _ ext rel1 (.fls (by assumption) (by assumption)))
end
end D
set_option Elab.async false
set_option linter.all false
set_option maxRecDepth 100000
set_option maxHeartbeats 4000000
/-! E1: runs told by what they come to. -/
namespace D
open PySem PySem.Spec PyProof.Rows L2 SlX ZG
section
variable {h h1 h2 : Hs} {sl sl1 sl2 : Sl} {v u : DV}
theorem Cut.refl {h : Hs} : Cut h h h := ⟨rfl, [], by simp, fun _ _ q => .inl q⟩
theorem cut_s {g : List DV → M DV} {ds : List DV} {v : DV} (e : g ds h = .ok v h1) (p : belV h.length v = true) (c : Cut h h1 h2) : trF g ds h = .ok v h2 := cutM_s e p c
/-- a def that leaves nothing behind -/
theorem cut_r {g : List DV → M DV} {ds : List DV} {v : DV} (e : g ds h = .ok v h) (p : belV h.length v = true := by rfl) : trF g ds h = .ok v h := cutM_s e p .refl
theorem tr_r {m : Ex} {k : Hs} (e : m sl h = .ok v (h ++ k)) (p : belV h.length v = true := by rfl) : eTr m sl h = .ok v h := cutM_s e p .self
theorem fits_le {n : Nat} (h : n ≤ 16777216) : fits n = true := Nat.ble_eq_true_of_le h
theorem bnd_s {α β : Type} {m : M α} {f : α → M β} {a : α} (e : m h = .ok a h1) : bnd m f h = f a h1 := by unfold bnd; rw [e]
/-! ### comprehensions -/
theorem lcD_run {t : Wlk} {f : DV → Sl → Option Sl} {tt : Tx} {el : Ex} (ds : List DV) (P : DV → Bool) (F : DV → DV) (S : DV → Sl) (ht : ∀ i, i ≤ ds.length → t.at i h = some ds[i]?)
    (hf : ∀ d ∈ ds, f d sl = some (S d)) (hp : ∀ d ∈ ds, tt (S d) h = .ok (P d) h) (he : ∀ d ∈ ds, P d = true → el (S d) h = .ok (F d) h) :
    ∀ (n i : Nat), i ≤ ds.length → ds.length - i < n → lcD t f tt el sl n i h = .ok (((ds.drop i).filter P).map F) h
  | 0, i, _, hl => by omega
  | n + 1, i, hi, hl => by
    have e0 : lcD t f tt el sl (n + 1) i h = (match t.at i h with
      | some (some d) => bnd (optM (f d sl)) (fun sl1 => bnd (tt sl1) fun k => if k then bnd (el sl1) fun v => bnd (lcD t f tt el sl n (i + 1)) fun vs => ret (v :: vs) else lcD t f tt el sl n (i + 1)) h
      | some none => .ok [] h
      | none => .stuck) := rfl
    rw [e0, ht i hi]
    by_cases q : i < ds.length
    · rw [List.getElem?_eq_getElem q]
      have hm : ds[i] ∈ ds := List.getElem_mem q
      show bnd (optM (f ds[i] sl)) _ h = _
      rw [bnd_s (a := S ds[i]) (h1 := h) (by rw [hf _ hm]; rfl), bnd_s (hp _ hm)]
      have ih := lcD_run ds P F S ht hf hp he n (i + 1) q (by omega)
      rw [List.drop_eq_getElem_cons q]
      cases z : P ds[i] with
      | true =>
        rw [if_pos rfl, bnd_s (he _ hm z), bnd_s ih, List.filter_cons_of_pos z]
        rfl
      | false =>
        rw [if_neg (by decide), ih, List.filter_cons_of_neg (by rw [z]; decide)]
    · have : i = ds.length := by omega
      subst this
      rw [List.getElem?_eq_none (Nat.le_refl _), List.drop_length]
      rfl
theorem filter_yes {α : Type} (ds : List α) : ds.filter (fun _ => true) = ds := by simp
/-- a walk whose items stand by themselves -/
theorem at_vals (ds : List DV) (i : Nat) (hi : i ≤ ds.length) : (Wlk.vals ds).at i h = some ds[i]? := rfl
theorem zip_len : ∀ (xs ys : List DV), (zipL xs ys).length = min xs.length ys.length
  | [], ys => by simp [zipL]
  | _ :: _, [] => by simp [zipL]
  | x :: xs, y :: ys => by
    show (zipL xs ys).length + 1 = min (xs.length + 1) (ys.length + 1)
    rw [zip_len xs ys]
    omega
theorem zip_at : ∀ (xs ys : List DV) (i : Nat), (zipL xs ys)[i]? = (match xs[i]?, ys[i]? with
  | some x, some y => some (DV.tup [x, y])
  | _, _ => none)
  | [], ys, i => by simp [zipL]
  | _ :: _, [], i => by simp [zipL]
  | x :: xs, y :: ys, 0 => by simp [zipL]
  | x :: xs, y :: ys, i + 1 => by simpa [zipL] using zip_at xs ys i
theorem at_zip {a b : Wlk} {xs ys : List DV} (ha : a.all h = some xs) (hb : b.all h = some ys) (i : Nat) (hi : i ≤ (zipL xs ys).length) : (Wlk.zip a b).at i h = some (zipL xs ys)[i]? := by
  rw [zip_len] at hi
  rw [zip_at]
  show (match a.all h, b.all h with
    | some xs, some ys => (match xs[i]?, ys[i]? with
      | some x, some y => some (some (DV.tup [x, y]))
      | _, _ => if Nat.ble i xs.length && (Nat.ble i ys.length && (Nat.beq i xs.length || Nat.beq i ys.length)) then some none else none)
    | _, _ => none) = _
  rw [ha, hb]
  by_cases q : i < xs.length ∧ i < ys.length
  · simp only [List.getElem?_eq_getElem q.1, List.getElem?_eq_getElem q.2]
  · have c : (Nat.ble i xs.length && (Nat.ble i ys.length && (Nat.beq i xs.length || Nat.beq i ys.length))) = true := by
      have : i = xs.length ∨ i = ys.length := by omega
      rw [Nat.ble_eq_true_of_le (by omega), Nat.ble_eq_true_of_le (by omega)]
      rcases this with z | z <;> simp [z]
    by_cases q1 : i < xs.length
    · have q2 : ¬ i < ys.length := fun z => q ⟨q1, z⟩
      simp only [List.getElem?_eq_getElem q1, List.getElem?_eq_none (by omega : ys.length ≤ i), c, if_true]
    · simp only [List.getElem?_eq_none (by omega : xs.length ≤ i), c, if_true]
theorem eLc_run {mi : Ix} {f : DV → Sl → Option Sl} {own : List Nat} {tt : Tx} {el : Ex} {t : Wlk} (ds : List DV) (P : DV → Bool) (F : DV → DV) (S : DV → Sl) (hi : mi sl h = .ok t h) (ht : ∀ i, i ≤ ds.length → t.at i h = some ds[i]?)
    (hl : ds.length < 16777216) (hf : ∀ d ∈ ds, f d (wipeO sl own) = some (S d)) (hp : ∀ d ∈ ds, tt (S d) h = .ok (P d) h) (he : ∀ d ∈ ds, P d = true → el (S d) h = .ok (F d) h) :
    eLc mi f own tt el sl h = .ok (.ref h.length) (h ++ [.lst ((ds.filter P).map F)]) := by
  unfold eLc
  rw [bnd_s hi, bnd_s (lcD_run ds P F S ht hf hp he 16777216 0 (Nat.zero_le _) (by omega))]
  show (if fits ((ds.filter P).map F).length then fun h => R.ok (DV.ref h.length) (h ++ [DO.lst ((ds.filter P).map F)]) else stk) h = _
  have : ((ds.filter P).map F).length ≤ ds.length := by rw [List.length_map]; exact List.length_filter_le _ _
  rw [fits_le (by omega)]
  rfl
/-- the same without ifs -/
theorem eLc_all {mi : Ix} {f : DV → Sl → Option Sl} {own : List Nat} {el : Ex} {t : Wlk} (ds : List DV) (F : DV → DV) (S : DV → Sl) (hi : mi sl h = .ok t h) (ht : ∀ i, i ≤ ds.length → t.at i h = some ds[i]?)
    (hl : ds.length < 16777216) (hf : ∀ d ∈ ds, f d (wipeO sl own) = some (S d)) (he : ∀ d ∈ ds, el (S d) h = .ok (F d) h) :
    eLc mi f own bYes el sl h = .ok (.ref h.length) (h ++ [.lst (ds.map F)]) := by
  have z := eLc_run (f := f) (own := own) (tt := bYes) (el := el) ds (fun _ => true) F S hi ht hl hf (fun _ _ => rfl) fun d hd _ => he d hd
  rw [filter_yes] at z
  exact z
theorem lsAt_snoc {ls : List DV} : lsAt h.length (h ++ [DO.lst ls]) = R.ok ls (h ++ [DO.lst ls]) := by
  unfold lsAt
  rw [List.getElem?_append_right (Nat.le_refl _), Nat.sub_self]
  rfl
theorem blsOf_map {α : Type} (p : α → Bool) : ∀ xs : List α, blsOf (xs.map fun x => DV.bl (p x)) = some (xs.map p)
  | [] => rfl
  | x :: t => by
    show (blsOf (t.map fun x => DV.bl (p x))).map (p x :: ·) = _
    rw [blsOf_map p t]; rfl
theorem intsOf_map {α : Type} (p : α → Int) : ∀ xs : List α, intsOf (xs.map fun x => DV.int (p x)) = some (xs.map p)
  | [] => rfl
  | x :: t => by
    show (intsOf (t.map fun x => DV.int (p x))).map (p x :: ·) = _
    rw [intsOf_map p t]; rfl
theorem strsOf_map {α : Type} (p : α → List Nat) : ∀ xs : List α, strsOf (xs.map fun x => DV.str (p x)) = some (xs.map p)
  | [] => rfl
  | x :: t => by
    show (strsOf (t.map fun x => DV.str (p x))).map (p x :: ·) = _
    rw [strsOf_map p t]; rfl
theorem args_one {m : Ex} (e : m sl h = .ok v h1) : aCons m aNil sl h = .ok [v] h1 := by
  unfold aCons
  rw [bnd_s e]; rfl
/-- all([..]) -/
theorem all_lc {mi : Ix} {f : DV → Sl → Option Sl} {own : List Nat} {el : Ex} {t : Wlk} (ds : List DV) (F : DV → Bool) (S : DV → Sl) (hi : mi sl h = .ok t h) (ht : ∀ i, i ≤ ds.length → t.at i h = some ds[i]?)
    (hl : ds.length < 16777216) (hf : ∀ d ∈ ds, f d (wipeO sl own) = some (S d)) (he : ∀ d ∈ ds, el (S d) h = .ok (.bl (F d)) h) :
    eTr (eCall allD (aCons (eLc mi f own bYes el) aNil)) sl h = .ok (.bl (ds.all F)) h := by
  refine tr_r (k := [.lst (ds.map fun d => .bl (F d))]) ?_
  unfold eCall
  rw [bnd_s (args_one (eLc_all ds (fun d => .bl (F d)) S hi ht hl hf he))]
  show bnd (lsAt h.length) _ _ = _
  rw [bnd_s lsAt_snoc, blsOf_map]
  show R.ok (DV.bl ((ds.map F).all id)) _ = _
  rw [List.all_map]; rfl
theorem any_lc {mi : Ix} {f : DV → Sl → Option Sl} {own : List Nat} {el : Ex} {t : Wlk} (ds : List DV) (F : DV → Bool) (S : DV → Sl) (hi : mi sl h = .ok t h) (ht : ∀ i, i ≤ ds.length → t.at i h = some ds[i]?)
    (hl : ds.length < 16777216) (hf : ∀ d ∈ ds, f d (wipeO sl own) = some (S d)) (he : ∀ d ∈ ds, el (S d) h = .ok (.bl (F d)) h) :
    eTr (eCall anyD (aCons (eLc mi f own bYes el) aNil)) sl h = .ok (.bl (ds.any F)) h := by
  refine tr_r (k := [.lst (ds.map fun d => .bl (F d))]) ?_
  unfold eCall
  rw [bnd_s (args_one (eLc_all ds (fun d => .bl (F d)) S hi ht hl hf he))]
  show bnd (lsAt h.length) _ _ = _
  rw [bnd_s lsAt_snoc, blsOf_map]
  show R.ok (DV.bl ((ds.map F).any id)) _ = _
  rw [List.any_map]; rfl
theorem sum_lc {mi : Ix} {f : DV → Sl → Option Sl} {own : List Nat} {el : Ex} {t : Wlk} (ds : List DV) (F : DV → Int) (S : DV → Sl) (hi : mi sl h = .ok t h) (ht : ∀ i, i ≤ ds.length → t.at i h = some ds[i]?)
    (hl : ds.length < 16777216) (hf : ∀ d ∈ ds, f d (wipeO sl own) = some (S d)) (he : ∀ d ∈ ds, el (S d) h = .ok (.int (F d)) h) :
    eTr (eCall sumD (aCons (eLc mi f own bYes el) aNil)) sl h = .ok (.int (sumI (ds.map F))) h := by
  refine tr_r (k := [.lst (ds.map fun d => .int (F d))]) ?_
  unfold eCall
  rw [bnd_s (args_one (eLc_all ds (fun d => .int (F d)) S hi ht hl hf he))]
  show bnd (lsAt h.length) _ _ = _
  rw [bnd_s lsAt_snoc, intsOf_map]
  rfl
theorem joinL_nil : ∀ ps : List (List Nat), TL.joinL [] ps = ps.flatten := by
  intro ps
  induction ps with
  | nil => rfl
  | cons a t ih =>
    cases t with
    | nil => simp [TL.joinL]
    | cons b t => simp [TL.joinL] at ih ⊢; exact ih
theorem sumN_fl : ∀ ps : List (List Nat), sumN ps = ps.flatten.length
  | [] => rfl
  | s :: t => by
    show s.length + sumN t = _
    rw [sumN_fl t, List.flatten_cons, List.length_append]
theorem join_lc {mi : Ix} {f : DV → Sl → Option Sl} {own : List Nat} {el : Ex} {t : Wlk} (ds : List DV) (F : DV → List Nat) (S : DV → Sl) (hi : mi sl h = .ok t h) (ht : ∀ i, i ≤ ds.length → t.at i h = some ds[i]?)
    (hl : ds.length < 16777216) (hf : ∀ d ∈ ds, f d (wipeO sl own) = some (S d)) (he : ∀ d ∈ ds, el (S d) h = .ok (.str (F d)) h) (hs : (ds.map F).flatten.length ≤ 16777216) :
    eTr (eM1 joinD (eC (.str [])) (eLc mi f own bYes el)) sl h = .ok (.str (ds.map F).flatten) h := by
  refine tr_r (k := [.lst (ds.map fun d => .str (F d))]) ?_
  unfold eM1
  rw [bnd_s (m := eC (.str []) sl) (a := .str []) (h1 := h) rfl, bnd_s (m := strOf (.str [])) (a := .str []) (h1 := h) rfl, bnd_s (eLc_all ds (fun d => .str (F d)) S hi ht hl hf he)]
  show bnd (lsAt h.length) _ _ = _
  rw [bnd_s lsAt_snoc, strsOf_map]
  show (if fits (sumN (ds.map F) + (ds.map F).length * ([] : List Nat).length) then D.ret (DV.str (TL.joinL [] (ds.map F))) else stk) _ = _
  rw [sumN_fl, joinL_nil, fits_le (by simpa using hs)]
  rfl
end
end D
set_option Elab.async false
set_option linter.all false
set_option maxRecDepth 100000
set_option maxHeartbeats 4000000
/-! E2: pots, run symbolically. -/
namespace D
open PySem PySem.Spec PyProof.Rows L2 SlX ZG
abbrev potL (i j c : Int) : DO := .lst [.int i, .int j, .int c]
/-- the law's _law_take, with its four numbers -/
def takeB (A B C E : Int) : List DV → M DV := runF 5 (sCons (sIf (bCmp gtD (eOp itemD (eSlot 0) (eC (.int (0)))) (eC (.int (0)))) (sCons (sAs (eOp modD (eCall intTD (aCons (eOp itemD (eSlot 0) (eC (.int (0)))) aNil)) (eSlot 1)) (gN 4)) (sCons (sSub (eSlot 0) (eC (.int (0))) (eOp fdivD (eOp itemD (eSlot 0) (eC (.int (0)))) (eSlot 1))) (sCons (sRet (eSlot 4)) sNil))) sNil) (sCons (sSub (eSlot 0) (eC (.int (2))) (eOp addD (eOp itemD (eSlot 0) (eC (.int (2)))) (eC (.int (1))))) (sCons (sAs (eOp itemD (eLst (aCons (eC (.int (2147483647))) (aCons (eC (.int (2147483629))) (aCons (eC (.int (2147483587))) (aCons (eC (.int (2147483579))) (aCons (eC (.int (2147483563))) aNil)))))) (eOp modD (eCall intTD (aCons (eOp itemD (eSlot 0) (eC (.int (2)))) aNil)) (eC (.int (5))))) (gN 2)) (sCons (sAs (eOp modD (eCall intTD (aCons (eOp powD (eCall intTD (aCons (eOp addD (eOp addD (eOp itemD (eSlot 0) (eC (.int (1)))) (eOp lrepD (eOp lrepD (eC (.int (A))) (eOp itemD (eSlot 0) (eC (.int (2))))) (eOp itemD (eSlot 0) (eC (.int (2)))))) (eC (.int (B)))) aNil)) (eC (.int (3)))) aNil)) (eSlot 2)) (gN 3)) (sCons (sRet (eOp modD (eCall intTD (aCons (eOp fdivD (eOp lrepD (eSlot 3) (eOp addD (eOp modD (eCall intTD (aCons (eSlot 3) aNil)) (eC (.int (C)))) (eOp lrepD (eC (.int (E))) (eOp itemD (eSlot 0) (eC (.int (2))))))) (eC (.int (149)))) aNil)) (eSlot 1))) sNil)))))
section
variable {h : Hs} {m : Nat} {i j c : Int}
theorem lsAt_of {ls : List DV} (hm : h[m]? = some (.lst ls)) : lsAt m h = .ok ls h := by unfold lsAt; rw [hm]
theorem item0 (hm : h[m]? = some (potL i j c)) : itemD (.ref m) (.int 0) h = .ok (.int i) h := by
  show bnd (lsAt m) _ h = _
  rw [bnd_s (lsAt_of hm)]; rfl
theorem item1 (hm : h[m]? = some (potL i j c)) : itemD (.ref m) (.int 1) h = .ok (.int j) h := by
  show bnd (lsAt m) _ h = _
  rw [bnd_s (lsAt_of hm)]; rfl
theorem item2 (hm : h[m]? = some (potL i j c)) : itemD (.ref m) (.int 2) h = .ok (.int c) h := by
  show bnd (lsAt m) _ h = _
  rw [bnd_s (lsAt_of hm)]; rfl
theorem divU {u : Nat} (h1 : 1 ≤ u) (h2 : u ≤ 1000000) : divOk (u : Int) = true := by
  unfold divOk
  rw [Bool.and_eq_true, Bool.or_eq_true]
  refine ⟨.inl (Nat.blt_eq.mpr (by omega)), ?_⟩
  have : ((u : Int) != 0) = true := by simp; omega
  exact this
theorem ne0 {u : Int} (h1 : u ≠ 0) : (u != 0) = true := by simpa using h1
theorem modD_s {i j : Int} (hj : j ≠ 0) : modD (.int i) (.int j) h = .ok (.int (i.fmod j)) h := by
  show (if j != 0 then D.ret (DV.int (i.fmod j)) else stk) h = _
  rw [ne0 hj]; rfl
theorem fdivD_s {i j : Int} (hj : divOk j = true) : fdivD (.int i) (.int j) h = .ok (.int (i.fdiv j)) h := by
  show (if divOk j then D.ret (DV.int (i.fdiv j)) else stk) h = _
  rw [hj]; rfl
theorem mulD_s {i j : Int} (hj : mulOk i j = true) : lrepD (.int i) (.int j) h = .ok (.int (i * j)) h := by
  show (if mulOk i j then D.ret (DV.int (i * j)) else stk) h = _
  rw [hj]; rfl
theorem powD_s {i j : Int} (hj : powOk i j = true) : powD (.int i) (.int j) h = .ok (.int (i ^ j.toNat)) h := by
  show (if powOk i j then D.ret (DV.int (i ^ j.toNat)) else stk) h = _
  rw [hj]; rfl
theorem mulOk_l {i j : Int} (hi : i.natAbs < 18446744073709551616) : mulOk i j = true := by
  unfold mulOk
  rw [Nat.blt_eq.mpr hi]; rfl
theorem mulOk_r {i j : Int} (hi : j.natAbs < 18446744073709551616) : mulOk i j = true := by
  unfold mulOk
  rw [Bool.or_eq_true, Bool.or_eq_true]
  exact .inl (.inr (Nat.blt_eq.mpr hi))
theorem powOk_3 {i : Int} (hi : i.natAbs < 18446744073709551616) : powOk i 3 = true := by
  have : i.natAbs.log2 < 64 := by
    by_cases z : i.natAbs = 0
    · rw [z]; decide
    · exact (Nat.log2_lt z).mpr hi
  unfold powOk
  rw [Bool.and_eq_true]
  exact ⟨by decide, Nat.ble_eq_true_of_le (by show (i.natAbs.log2 + 1) * 3 ≤ 134217728; omega)⟩
theorem fmod_to {i : Int} {u : Nat} (h1 : 1 ≤ u) : ∃ d : Nat, d < u ∧ i.fmod u = d := by
  have p : (0 : Int) < u := by omega
  have a := Int.fmod_nonneg_of_pos i p
  have b := Int.fmod_lt_of_pos i p
  exact ⟨(i.fmod u).toNat, by omega, by omega⟩
def primes : List DV := [.int 2147483647, .int 2147483629, .int 2147483587, .int 2147483579, .int 2147483563]
theorem prime_at (k : Nat) (hk : k < 5) : ∃ p : Nat, L2.atI primes (k : Int) = some (.int p) ∧ 1 ≤ p ∧ p ≤ 2147483647 := by
  match k, hk with
  | 0, _ => exact ⟨2147483647, rfl, by decide, by decide⟩
  | 1, _ => exact ⟨2147483629, rfl, by decide, by decide⟩
  | 2, _ => exact ⟨2147483587, rfl, by decide, by decide⟩
  | 3, _ => exact ⟨2147483579, rfl, by decide, by decide⟩
  | 4, _ => exact ⟨2147483563, rfl, by decide, by decide⟩
theorem cutSet {o : DO} {k : Hs} (ho : belO h.length o = true) : Cut h (h.set m o ++ k) (h.set m o) := ⟨List.length_set, k, rfl, fun i q z => by
  by_cases e : i = m
  · subst e
    have hl := (List.getElem?_eq_some_iff.mp z).1
    rw [List.length_set] at hl
    rw [List.getElem?_set_self hl] at z
    cases z
    exact .inr ho
  · rw [List.getElem?_set_ne (Ne.symm e)] at z
    exact .inl z⟩
theorem potBel {n : Nat} : belO n (potL i j c) = true := rfl
theorem set_get {o : DO} (hm : ∃ u, h[m]? = some u) : (h.set m o)[m]? = some o := by
  obtain ⟨u, hu⟩ := hm
  exact List.getElem?_set_self (List.getElem?_eq_some_iff.mp hu).1
theorem sub0 {sl : Sl} {k : Nat} {ls : List DV} {e : Ex} {v : DV} (hs : sl[0]? = some (some (.ref m))) (hm : h[m]? = some (.lst ls)) (he : e sl h = .ok v h) (hk : k < ls.length) : sSub (eSlot 0) (eC (.int (k : Nat))) e sl h = .ok (.nx, sl) (h.set m (.lst (ls.set k v))) := by
  have e0 : eSlot 0 sl h = .ok (.ref m) h := by unfold eSlot; rw [hs]; rfl
  have ix : ixN ls.length (k : Nat) = some k := by
    unfold ixN
    rw [if_pos (by omega), if_pos (by omega)]
    simp
  unfold sSub
  rw [bnd_s he, bnd_s e0]
  show bnd (eC (.int (k : Nat)) sl) _ h = _
  rw [bnd_s (m := eC (.int (k : Nat)) sl) (a := .int (k : Nat)) (h1 := h) rfl]
  rw [bnd_s (m := refOf (.ref m)) (a := m) (h1 := h) rfl, bnd_s (lsAt_of hm)]
  show bnd (optM (ixN ls.length (k : Nat))) _ h = _
  rw [ix]; rfl
/-- one draw -/
theorem take_s {A B C E : Int} (hA : 0 ≤ A ∧ A ≤ 1048576) (hB : 0 ≤ B ∧ B ≤ 1048576) (hC : 1 ≤ C ∧ C ≤ 1048576) (hE : 0 ≤ E ∧ E ≤ 1048576) {n u : Nat} (hm : h[m]? = some (potL i j c)) (st : PotSt n j c) (hn : n ≤ 1000000) (h1 : 1 ≤ u) (h2 : u ≤ 1000000) :
    ∃ (d : Nat) (i' j' c' : Int), trF (takeB A B C E) [.ref m, .int u] h = .ok (.int d) (h.set m (potL i' j' c')) ∧ d < u ∧ PotSt (n + 1) j' c' := by
  have hu := divU h1 h2
  have hu0 : (u : Int) ≠ 0 := by omega
  by_cases hi : 0 < i
  · obtain ⟨d, d1, d2⟩ := fmod_to (i := i) h1
    refine ⟨d, i.fdiv u, j, c, ?_, d1, potSt_mono st (Nat.le_succ n)⟩
    refine cut_s (h1 := h.set m (potL (i.fdiv u) j c) ++ []) ?_ rfl (cutSet potBel)
    rw [List.append_nil]
    have s0 := sub0 (sl := [some (.ref m), some (.int u), none, none, some (.int d)]) (k := 0) (ls := [.int i, .int j, .int c]) (e := eOp fdivD (eOp itemD (eSlot 0) (eC (.int (0)))) (eSlot 1)) (v := .int (i.fdiv u)) rfl hm (by
      simp only [runF, sCons, sNil, sIf, sRet, sRetN, sAs, sEx, eIf, eOp, eUn, eC, eSlot, eCall, aCons, aNil, bnd, D.ret, optM, gN, bCmp, boolOf, bNot, bE, bOr, bAnd, eAnd, eOr, truD, List.map_cons, List.map_nil, List.length_cons, List.length_nil, List.replicate_succ, List.replicate_zero, List.getElem?_cons_zero, List.getElem?_cons_succ, List.cons_append, List.nil_append, List.set_cons_zero, List.set_cons_succ, if_true, if_false, Bool.false_eq_true, Nat.reduceAdd, Nat.reduceSub, item0 hm, fdivD_s hu]) (by simp)
    have s0 : sSub (eSlot 0) (eC (.int (0))) (eOp fdivD (eOp itemD (eSlot 0) (eC (.int (0)))) (eSlot 1)) [some (.ref m), some (.int u), none, none, some (.int d)] h = .ok (.nx, [some (.ref m), some (.int u), none, none, some (.int d)]) (h.set m (potL (i.fdiv u) j c)) := s0
    simp only [takeB, runF, sCons, sNil, sIf, sRet, sRetN, sAs, sEx, eIf, eOp, eUn, eC, eSlot, eCall, aCons, aNil, bnd, D.ret, optM, gN, bCmp, boolOf, bNot, bE, bOr, bAnd, eAnd, eOr, truD, List.map_cons, List.map_nil, List.length_cons, List.length_nil, List.replicate_succ, List.replicate_zero, List.getElem?_cons_zero, List.getElem?_cons_succ, List.cons_append, List.nil_append, List.set_cons_zero, List.set_cons_succ, if_true, if_false, Bool.false_eq_true, Nat.reduceAdd, Nat.reduceSub, item0 hm, gtD, decide_eq_true hi, intTD, intD, modD_s hu0, d2, s0]
  · obtain ⟨s1, s2, s3, s4⟩ := st
    obtain ⟨k, k1, k2⟩ := fmod_to (i := c + 1) (u := 5) (by decide)
    obtain ⟨p, p1, p2, p3⟩ := prime_at k k1
    have k2 : (c + 1).fmod 5 = (k : Int) := k2
    have cc0 : 0 ≤ (c + 1) * (c + 1) := Int.mul_nonneg (by omega) (by omega)
    have cc1 : (c + 1) * (c + 1) ≤ 1000001 * 1000001 := Int.mul_le_mul (by omega) (by omega) (by omega) (by omega)
    have c0 : 0 ≤ (A * (c + 1)) * (c + 1) := Int.mul_nonneg (Int.mul_nonneg hA.1 (by omega)) (by omega)
    have cc : (A * (c + 1)) * (c + 1) ≤ 1048576 * (1000001 * 1000001) := by
      rw [Int.mul_assoc]
      exact Int.mul_le_mul hA.2 cc1 cc0 (by decide)
    have big : (j + (A * (c + 1)) * (c + 1) + B).natAbs < 18446744073709551616 := by omega
    obtain ⟨b, b1, b2⟩ := fmod_to (i := (j + (A * (c + 1)) * (c + 1) + B) ^ 3) (u := p) p2
    obtain ⟨d, d1, d2⟩ := fmod_to (i := ((b : Int) * ((b : Int).fmod C + E * (c + 1))).fdiv 149) h1
    refine ⟨d, i, j, c + 1, ?_, d1, s1, s2, by omega, by omega⟩
    refine cut_s (h1 := h.set m (potL i j (c + 1)) ++ [.lst primes]) ?_ rfl (cutSet potBel)
    have s0 := sub0 (sl := [some (.ref m), some (.int u), none, none, none]) (k := 2) (ls := [.int i, .int j, .int c]) (e := eOp addD (eOp itemD (eSlot 0) (eC (.int (2)))) (eC (.int (1)))) (v := .int (c + 1)) rfl hm (by
      simp only [runF, sCons, sNil, sIf, sRet, sRetN, sAs, sEx, eIf, eOp, eUn, eC, eSlot, eCall, aCons, aNil, bnd, D.ret, optM, gN, bCmp, boolOf, bNot, bE, bOr, bAnd, eAnd, eOr, truD, List.map_cons, List.map_nil, List.length_cons, List.length_nil, List.replicate_succ, List.replicate_zero, List.getElem?_cons_zero, List.getElem?_cons_succ, List.cons_append, List.nil_append, List.set_cons_zero, List.set_cons_succ, if_true, if_false, Bool.false_eq_true, Nat.reduceAdd, Nat.reduceSub, item2 hm, addD]) (by simp)
    have s0 : sSub (eSlot 0) (eC (.int (2))) (eOp addD (eOp itemD (eSlot 0) (eC (.int (2)))) (eC (.int (1)))) [some (.ref m), some (.int u), none, none, none] h = .ok (.nx, [some (.ref m), some (.int u), none, none, none]) (h.set m (potL i j (c + 1))) := s0
    have hm2 : (h.set m (potL i j (c + 1)))[m]? = some (potL i j (c + 1)) := set_get ⟨_, hm⟩
    have hlt : m < (h.set m (potL i j (c + 1))).length := (List.getElem?_eq_some_iff.mp hm2).1
    have hm3 : (h.set m (potL i j (c + 1)) ++ [DO.lst primes])[m]? = some (potL i j (c + 1)) := by rw [List.getElem?_append_left hlt]; exact hm2
    have pr : itemD (.ref (h.set m (potL i j (c + 1))).length) (.int (k : Nat)) (h.set m (potL i j (c + 1)) ++ [DO.lst primes]) = .ok (.int p) (h.set m (potL i j (c + 1)) ++ [DO.lst primes]) := by
      show bnd (lsAt _) (fun xs => optM (atI xs (k : Nat))) _ = _
      rw [bnd_s lsAt_snoc]
      show optM (L2.atI primes (k : Int)) _ = _
      rw [p1]; rfl
    have pl : eLst (aCons (eC (.int (2147483647))) (aCons (eC (.int (2147483629))) (aCons (eC (.int (2147483587))) (aCons (eC (.int (2147483579))) (aCons (eC (.int (2147483563))) aNil))))) [some (.ref m), some (.int u), none, none, none] (h.set m (potL i j (c + 1))) = .ok (.ref (h.set m (potL i j (c + 1))).length) (h.set m (potL i j (c + 1)) ++ [DO.lst primes]) := rfl
    have p0 : (p : Int) ≠ 0 := by omega
    have pw := powD_s (h := h.set m (potL i j (c + 1)) ++ [DO.lst primes]) (powOk_3 big)
    have e3 : (3 : Int).toNat = 3 := rfl
    rw [e3] at pw
    have aOk : mulOk A (c + 1) = true := mulOk_l (by omega)
    have aOk2 : mulOk (A * (c + 1)) (c + 1) = true := mulOk_r (by omega)
    have eOk : mulOk E (c + 1) = true := mulOk_l (by omega)
    have bOk : mulOk (b : Int) ((b : Int).fmod C + E * (c + 1)) = true := mulOk_l (by omega)
    have b2 : ((j + A * (c + 1) * (c + 1) + B) ^ 3).fmod (p : Int) = (b : Int) := b2
    simp only [takeB, runF, sCons, List.map_cons, List.map_nil, List.length_cons, List.length_nil, List.replicate_succ, List.replicate_zero, Nat.reduceAdd, Nat.reduceSub, List.cons_append, List.nil_append]
    have t1 : (sIf (bCmp gtD (eOp itemD (eSlot 0) (eC (.int (0)))) (eC (.int (0)))) (sCons (sAs (eOp modD (eCall intTD (aCons (eOp itemD (eSlot 0) (eC (.int (0)))) aNil)) (eSlot 1)) (gN 4)) (sCons (sSub (eSlot 0) (eC (.int (0))) (eOp fdivD (eOp itemD (eSlot 0) (eC (.int (0)))) (eSlot 1))) (sCons (sRet (eSlot 4)) sNil))) sNil) [some (.ref m), some (.int u), none, none, none] h = .ok (.nx, [some (.ref m), some (.int u), none, none, none]) h := by
      simp only [runF, sCons, sNil, sIf, sRet, sRetN, sAs, sEx, eIf, eOp, eUn, eC, eSlot, eCall, aCons, aNil, bnd, D.ret, optM, gN, bCmp, boolOf, bNot, bE, bOr, bAnd, eAnd, eOr, truD, List.map_cons, List.map_nil, List.length_cons, List.length_nil, List.replicate_succ, List.replicate_zero, List.getElem?_cons_zero, List.getElem?_cons_succ, List.cons_append, List.nil_append, List.set_cons_zero, List.set_cons_succ, if_true, if_false, Bool.false_eq_true, Nat.reduceAdd, Nat.reduceSub, item0 hm, gtD, decide_eq_false hi]
    have t2 : (eOp itemD (eLst (aCons (eC (.int (2147483647))) (aCons (eC (.int (2147483629))) (aCons (eC (.int (2147483587))) (aCons (eC (.int (2147483579))) (aCons (eC (.int (2147483563))) aNil)))))) (eOp modD (eCall intTD (aCons (eOp itemD (eSlot 0) (eC (.int (2)))) aNil)) (eC (.int (5))))) [some (.ref m), some (.int u), none, none, none] (h.set m (potL i j (c + 1))) = .ok (.int p) (h.set m (potL i j (c + 1)) ++ [DO.lst primes]) := by
      unfold eOp
      rw [bnd_s pl]
      simp only [runF, sCons, sNil, sIf, sRet, sRetN, sAs, sEx, eIf, eOp, eUn, eC, eSlot, eCall, aCons, aNil, bnd, D.ret, optM, gN, bCmp, boolOf, bNot, bE, bOr, bAnd, eAnd, eOr, truD, List.map_cons, List.map_nil, List.length_cons, List.length_nil, List.replicate_succ, List.replicate_zero, List.getElem?_cons_zero, List.getElem?_cons_succ, List.cons_append, List.nil_append, List.set_cons_zero, List.set_cons_succ, if_true, if_false, Bool.false_eq_true, Nat.reduceAdd, Nat.reduceSub, item2 hm3, intTD, intD, modD_s (show (5 : Int) ≠ 0 by decide), k2, pr]
    have t3 : (eOp modD (eCall intTD (aCons (eOp powD (eCall intTD (aCons (eOp addD (eOp addD (eOp itemD (eSlot 0) (eC (.int (1)))) (eOp lrepD (eOp lrepD (eC (.int (A))) (eOp itemD (eSlot 0) (eC (.int (2))))) (eOp itemD (eSlot 0) (eC (.int (2)))))) (eC (.int (B)))) aNil)) (eC (.int (3)))) aNil)) (eSlot 2)) [some (.ref m), some (.int u), some (.int p), none, none] (h.set m (potL i j (c + 1)) ++ [DO.lst primes]) = .ok (.int b) (h.set m (potL i j (c + 1)) ++ [DO.lst primes]) := by
      simp only [runF, sCons, sNil, sIf, sRet, sRetN, sAs, sEx, eIf, eOp, eUn, eC, eSlot, eCall, aCons, aNil, bnd, D.ret, optM, gN, bCmp, boolOf, bNot, bE, bOr, bAnd, eAnd, eOr, truD, List.map_cons, List.map_nil, List.length_cons, List.length_nil, List.replicate_succ, List.replicate_zero, List.getElem?_cons_zero, List.getElem?_cons_succ, List.cons_append, List.nil_append, List.set_cons_zero, List.set_cons_succ, if_true, if_false, Bool.false_eq_true, Nat.reduceAdd, Nat.reduceSub, item1 hm3, item2 hm3, mulD_s aOk, mulD_s aOk2, addD, intTD, intD, pw, modD_s p0, b2]
    have t4 : (eOp modD (eCall intTD (aCons (eOp fdivD (eOp lrepD (eSlot 3) (eOp addD (eOp modD (eCall intTD (aCons (eSlot 3) aNil)) (eC (.int (C)))) (eOp lrepD (eC (.int (E))) (eOp itemD (eSlot 0) (eC (.int (2))))))) (eC (.int (149)))) aNil)) (eSlot 1)) [some (.ref m), some (.int u), some (.int p), some (.int b), none] (h.set m (potL i j (c + 1)) ++ [DO.lst primes]) = .ok (.int d) (h.set m (potL i j (c + 1)) ++ [DO.lst primes]) := by
      simp only [runF, sCons, sNil, sIf, sRet, sRetN, sAs, sEx, eIf, eOp, eUn, eC, eSlot, eCall, aCons, aNil, bnd, D.ret, optM, gN, bCmp, boolOf, bNot, bE, bOr, bAnd, eAnd, eOr, truD, List.map_cons, List.map_nil, List.length_cons, List.length_nil, List.replicate_succ, List.replicate_zero, List.getElem?_cons_zero, List.getElem?_cons_succ, List.cons_append, List.nil_append, List.set_cons_zero, List.set_cons_succ, if_true, if_false, Bool.false_eq_true, Nat.reduceAdd, Nat.reduceSub, item2 hm3, mulD_s eOk, addD, intTD, intD, modD_s (show C ≠ 0 by omega), mulD_s bOk, fdivD_s (show divOk 149 = true from rfl), modD_s hu0, d2]
    simp only [bnd, t1, s0, sAs, t2, gN, optM, D.ret, List.set_cons_zero, List.set_cons_succ, t3, sRet, t4, sNil]
end
end D
set_option Elab.async false
set_option linter.all false
set_option maxRecDepth 100000
set_option maxHeartbeats 4000000
/-! E3: what holds behind any draws. -/
namespace D
open PySem PySem.Spec PyProof.Rows L2 SlX ZG
/-- at most k draws from the pot at m; what comes keeps P; F: what is known of the rest -/
def PJ {α : Type} (F : Hs → Prop) (g : M α) (m k : Nat) (P : α → Prop) : Prop := ∀ (h : Hs) (i j c : Int) (n : Nat), F h → h[m]? = some (potL i j c) → PotSt n j c → n + k ≤ 1000000 →
  ∃ (a : α) (i' j' c' : Int) (t : Hs), g h = .ok a (h.set m (potL i' j' c') ++ t) ∧ PotSt (n + k) j' c' ∧ P a
def Stab (F : Hs → Prop) (m : Nat) : Prop := ∀ (h : Hs) (o : DO) (t : Hs), m < h.length → F h → F (h.set m o ++ t)
theorem stab_true {m : Nat} : Stab (fun _ => True) m := fun _ _ _ _ _ => True.intro
theorem stab_lst {F : Hs → Prop} {m r : Nat} {ls : List DV} (s : Stab F m) (ne : r ≠ m) : Stab (fun h => F h ∧ h[r]? = some (.lst ls)) m := fun h o t hm ⟨q, e⟩ => by
  refine ⟨s h o t hm q, ?_⟩
  have hr := (List.getElem?_eq_some_iff.mp e).1
  rw [List.getElem?_append_left (by rw [List.length_set]; exact hr), List.getElem?_set_ne (Ne.symm ne)]
  exact e
section
variable {α β : Type} {F : Hs → Prop} {m k k' : Nat} {g : M α} {P : α → Prop} {Q : β → Prop}
theorem set_app {h t : Hs} {x y : DO} (hm : m < h.length) : (h.set m x ++ t).set m y = h.set m y ++ t := by
  rw [List.set_append_left _ _ (by rw [List.length_set]; exact hm), List.set_set]
theorem get_app {h t : Hs} {x : DO} (hm : m < h.length) : (h.set m x ++ t)[m]? = some x := by
  rw [List.getElem?_append_left (by rw [List.length_set]; exact hm), List.getElem?_set_self hm]
theorem set_id {h : Hs} {x : DO} (e : h[m]? = some x) : h.set m x = h := by
  obtain ⟨hm, e⟩ := List.getElem?_eq_some_iff.mp e
  rw [← e]
  exact List.set_getElem_self hm
theorem pj_pure {a : α} (e : ∀ h, F h → g h = .ok a h) (p : P a) : PJ F g m 0 P := fun h i j c n hF hm st hn =>
  ⟨a, i, j, c, [], by rw [set_id hm, List.append_nil]; exact e h hF, st, p⟩
theorem pj_junk {a : α} (e : ∀ h, F h → ∃ t, g h = .ok a (h ++ t)) (p : P a) : PJ F g m 0 P := fun h i j c n hF hm st hn => by
  obtain ⟨t, e⟩ := e h hF
  exact ⟨a, i, j, c, t, by rw [set_id hm]; exact e, st, p⟩
theorem pj_mono {P' : α → Prop} (x : PJ F g m k P) (hk : k ≤ k') (hp : ∀ a, P a → P' a) : PJ F g m k' P' := fun h i j c n hF hm st hn => by
  obtain ⟨a, i', j', c', t, e, s, p⟩ := x h i j c n hF hm st (by omega)
  exact ⟨a, i', j', c', t, e, potSt_mono s (by omega), hp a p⟩
theorem pj_bnd {f : α → M β} (s : Stab F m) (x : PJ F g m k P) (y : ∀ a, P a → PJ F (f a) m k' Q) : PJ F (bnd g f) m (k + k') Q := fun h i j c n hF hm st hn => by
  have hlt := (List.getElem?_eq_some_iff.mp hm).1
  obtain ⟨a, i1, j1, c1, t1, e1, s1, p1⟩ := x h i j c n hF hm st (by omega)
  obtain ⟨b, i2, j2, c2, t2, e2, s2, p2⟩ := y a p1 _ i1 j1 c1 (n + k) (s h _ t1 hlt hF) (get_app hlt) s1 (by omega)
  refine ⟨b, i2, j2, c2, t1 ++ t2, ?_, by rw [← Nat.add_assoc]; exact s2, p2⟩
  rw [bnd_s e1, e2, set_app hlt, List.append_assoc]
theorem pj_cut {ok : Nat → α → Bool} (x : PJ F g m k P) (hk : ∀ n a, P a → ok n a = true) : PJ F (cutM ok g) m k P := fun h i j c n hF hm st hn => by
  obtain ⟨a, i1, j1, c1, t1, e1, s1, p1⟩ := x h i j c n hF hm st hn
  refine ⟨a, i1, j1, c1, [], ?_, s1, p1⟩
  rw [List.append_nil]
  exact cutM_s e1 (hk _ _ p1) (cutSet potBel)
theorem pj_F {F' : Hs → Prop} (x : PJ F g m k P) (hF : ∀ h, F' h → F h) : PJ F' g m k P := fun h i j c n q => x h i j c n (hF h q)
end
section
variable {F : Hs → Prop} {m k k' : Nat} {A B C E : Int}
theorem pj_take (hA : 0 ≤ A ∧ A ≤ 1048576) (hB : 0 ≤ B ∧ B ≤ 1048576) (hC : 1 ≤ C ∧ C ≤ 1048576) (hE : 0 ≤ E ∧ E ≤ 1048576) {u : Nat} (h1 : 1 ≤ u) (h2 : u ≤ 1000000) : PJ F (trF (takeB A B C E) [.ref m, .int u]) m 1 (fun v => ∃ d : Nat, d < u ∧ v = .int d) := fun h i j c n hF hm st hn => by
  obtain ⟨d, i', j', c', e, hd, s⟩ := take_s hA hB hC hE hm st (by omega) h1 h2
  exact ⟨.int d, i', j', c', [], by rw [List.append_nil]; exact e, s, d, hd, rfl⟩
/-- _law_of -/
def ofB (tk : List DV → M DV) : List DV → M DV := runF 2 (sCons (sRet (eOp itemD (eSlot 1) (eCall tk (aCons (eSlot 0) (aCons (eCall lenD (aCons (eSlot 1) aNil)) aNil))))) sNil)
theorem runF_rt {n : Nat} {b : Sx} {ds : List DV} {h h1 : Hs} {v : DV} {sl : Sl} (e : b (ds.map some ++ List.replicate (n - ds.length) none) h = .ok (Fl.rt v, sl) h1) : runF n b ds h = .ok v h1 := by unfold runF; rw [bnd_s e]; rfl
theorem of_core {tk : List DV → M DV} {x : DV} {N : Nat} {P : DV → Prop} {sl : Sl} (hs : sl = [some (.ref m), some x]) (hl : ∀ h, F h → lenD [x] h = .ok (.int N) h) (ht : PJ F (tk [.ref m, .int N]) m 1 (fun v => ∃ d : Nat, d < N ∧ v = .int d)) (hp : ∀ v, P v → ∀ n, belV n v = true) (st : Stab F m)
    (hi : ∀ d, d < N → ∃ v, P v ∧ ∀ h, F h → itemD x (.int (d : Nat)) h = .ok v h) : PJ F (trF (ofB tk) [.ref m, x]) m 1 P := by
  refine pj_cut ?_ fun n v p => hp v p n
  intro h i j c n hF hm s hn
  have hlt := (List.getElem?_eq_some_iff.mp hm).1
  obtain ⟨v, i', j', c', t, e, s', d, hd, rfl⟩ := ht h i j c n hF hm s hn
  obtain ⟨v, pv, hv⟩ := hi d hd
  refine ⟨v, i', j', c', t, ?_, s', pv⟩
  have hv := hv _ (st h (potL i' j' c') t hlt hF)
  simp only [ofB, runF, sCons, sNil, sIf, sRet, sRetN, sAs, sEx, eIf, eOp, eUn, eC, eSlot, eCall, aCons, aNil, bnd, D.ret, optM, gN, bCmp, boolOf, bNot, bE, bOr, bAnd, eAnd, eOr, truD, List.map_cons, List.map_nil, List.length_cons, List.length_nil, List.replicate_succ, List.replicate_zero, List.getElem?_cons_zero, List.getElem?_cons_succ, List.cons_append, List.nil_append, List.set_cons_zero, List.set_cons_succ, if_true, if_false, Bool.false_eq_true, Nat.reduceAdd, Nat.reduceSub, hl h hF, e, hv]
theorem pj_of_str {tk : List DV → M DV} {s : List Nat} (hn : s.length ≤ 1000000) (ht : PJ F (tk [.ref m, .int (s.length : Nat)]) m 1 (fun v => ∃ d : Nat, d < s.length ∧ v = .int d)) (st : Stab F m) : PJ F (trF (ofB tk) [.ref m, .str s]) m 1 (fun v => ∃ c, c ∈ s ∧ v = .str [c]) := by
  have ff : fits s.length = true := fits_le (by omega)
  refine of_core (N := s.length) rfl (fun h _ => ?_) ht (fun v ⟨c, _, e⟩ n => by rw [e]; rfl) st fun d hd => ⟨.str [s[d]], ⟨s[d], List.getElem_mem hd, rfl⟩, fun h _ => ?_⟩
  · show (if fits s.length then D.ret (DV.int (s.length : Nat)) else stk) h = _
    rw [ff]; rfl
  · have ix : L2.atI s (d : Nat) = some s[d] := by
      unfold L2.atI
      have e : ixN s.length (d : Nat) = some d := by
        unfold ixN
        rw [if_pos (by omega), if_pos (by omega)]
        simp
      rw [e]
      exact List.getElem?_eq_getElem hd
    show (if fits s.length then optV (L2.atI s (d : Nat)) (fun c => DV.str [c]) else stk) h = _
    rw [ff, ix]; rfl
theorem atI_lt {α : Type} {s : List α} {d : Nat} (hd : d < s.length) : L2.atI s (d : Nat) = some s[d] := by
  unfold L2.atI
  have e : ixN s.length (d : Nat) = some d := by
    unfold ixN
    rw [if_pos (by omega), if_pos (by omega)]
    simp
  rw [e]
  exact List.getElem?_eq_getElem hd
theorem pj_of_ref {tk : List DV → M DV} {ds : List DV} {r : Nat} (hF : ∀ h, F h → h[r]? = some (.lst ds)) (hb : ∀ v ∈ ds, ∀ n, belV n v = true) (ht : PJ F (tk [.ref m, .int (ds.length : Nat)]) m 1 (fun v => ∃ d : Nat, d < ds.length ∧ v = .int d)) (st : Stab F m) : PJ F (trF (ofB tk) [.ref m, .ref r]) m 1 (fun v => v ∈ ds) := by
  refine of_core (N := ds.length) rfl (fun h q => ?_) ht (fun v hv n => hb v hv n) st fun d hd => ⟨ds[d], List.getElem_mem hd, fun h q => ?_⟩
  · show (match h[r]? with
      | some (.lst xs) => R.ok (DV.int (xs.length : Nat)) h
      | some (.dic ks) => R.ok (DV.int (ks.length : Nat)) h
      | _ => .stuck) = _
    rw [hF h q]
  · show bnd (lsAt r) (fun xs => optM (L2.atI xs (d : Nat))) h = _
    rw [bnd_s (lsAt_of (hF h q))]
    show optM (L2.atI ds (d : Nat)) h = _
    rw [atI_lt hd]; rfl
/-- _law_of(pot, [..]), the list written -/
theorem pj_of_lit {tk : List DV → M DV} {ds : List DV} {sl : Sl} {p : Nat} {ms : Exs} (hs : sl[p]? = some (some (.ref m))) (hms : ∀ h, ms sl h = .ok ds h) (hn : ds.length ≤ 1000000) (hb : ∀ v ∈ ds, ∀ n, belV n v = true)
    (ht : ∀ F : Hs → Prop, PJ F (tk [.ref m, .int (ds.length : Nat)]) m 1 (fun v => ∃ d : Nat, d < ds.length ∧ v = .int d)) : PJ F (eCall (trF (ofB tk)) (aCons (eSlot p) (aCons (eLst ms) aNil)) sl) m 1 (fun v => v ∈ ds) := fun h i j c n hF hm s hn' => by
  have hlt := (List.getElem?_eq_some_iff.mp hm).1
  have e0 : eSlot p sl h = .ok (.ref m) h := by unfold eSlot; rw [hs]; rfl
  have e1 : eLst ms sl h = .ok (.ref h.length) (h ++ [.lst ds]) := by
    unfold eLst
    rw [bnd_s (hms h)]
    show (if fits ds.length then fun h => R.ok (DV.ref h.length) (h ++ [DO.lst ds]) else stk) h = _
    rw [fits_le (by omega)]; rfl
  have ea : aCons (eSlot p) (aCons (eLst ms) aNil) sl h = .ok [.ref m, .ref h.length] (h ++ [.lst ds]) := by
    unfold aCons
    rw [bnd_s e0, bnd_s (a := [DV.ref h.length]) (h1 := h ++ [DO.lst ds]) (by rw [bnd_s e1]; rfl)]
    rfl
  have x := pj_of_ref (F := fun h' => h'[h.length]? = some (.lst ds)) (m := m) (r := h.length) (fun _ q => q) hb (ht _) (fun h' o t hm' q => by
    have q : h'[h.length]? = some (.lst ds) := q
    have hr := (List.getElem?_eq_some_iff.mp q).1
    show (h'.set m o ++ t)[h.length]? = some (.lst ds)
    rw [List.getElem?_append_left (by rw [List.length_set]; exact hr), List.getElem?_set_ne (by omega)]
    exact q)
  have hat : (h ++ [DO.lst ds])[h.length]? = some (.lst ds) := by rw [List.getElem?_append_right (Nat.le_refl _), Nat.sub_self]; rfl
  obtain ⟨v, i', j', c', t, e, s', pv⟩ := x (h ++ [.lst ds]) i j c n hat (by rw [List.getElem?_append_left hlt]; exact hm) s hn'
  refine ⟨v, i', j', c', [.lst ds] ++ t, ?_, s', pv⟩
  unfold eCall
  rw [bnd_s ea, e, List.set_append_left _ _ hlt, List.append_assoc]
/-! ### comprehensions, loops -/
theorem pj_lcD {f : DV → Sl → Option Sl} {el : Ex} {sl : Sl} {P : DV → Prop} (st : Stab F m) (ds : List DV) (S : DV → Sl) (hf : ∀ d ∈ ds, f d sl = some (S d)) (he : ∀ d ∈ ds, PJ F (el (S d)) m k P) :
    ∀ (n i : Nat), i ≤ ds.length → ds.length - i < n → PJ F (lcD (.vals ds) f bYes el sl n i) m ((ds.length - i) * k) (fun vs => vs.length = ds.length - i ∧ ∀ v ∈ vs, P v)
  | 0, i, _, hl => by omega
  | n + 1, i, hi, hl => by
    by_cases q : i < ds.length
    · have hm : ds[i] ∈ ds := List.getElem_mem q
      have e0 : lcD (.vals ds) f bYes el sl (n + 1) i = bnd (el (S ds[i])) fun v => bnd (lcD (.vals ds) f bYes el sl n (i + 1)) fun vs => D.ret (v :: vs) := by
        funext h
        show (match some ds[i]? with
          | some (some d) => bnd (optM (f d sl)) (fun sl1 => bnd (bYes sl1) fun k => if k then bnd (el sl1) fun v => bnd (lcD (.vals ds) f bYes el sl n (i + 1)) fun vs => D.ret (v :: vs) else lcD (.vals ds) f bYes el sl n (i + 1)) h
          | some none => R.ok [] h
          | none => .stuck) = _
        rw [List.getElem?_eq_getElem q]
        show bnd (optM (f ds[i] sl)) _ h = _
        rw [bnd_s (a := S ds[i]) (h1 := h) (by rw [hf _ hm]; rfl)]
        rfl
      rw [e0]
      have ih := pj_lcD (P := P) st ds S hf he n (i + 1) q (by omega)
      have z := pj_bnd st (he _ hm) fun v hv => pj_bnd (Q := fun vs : List DV => vs.length = ds.length - i ∧ ∀ v ∈ vs, P v) (f := fun vs => D.ret (v :: vs)) st ih fun vs hvs => pj_pure (a := v :: vs) (fun h _ => rfl) ⟨by rw [List.length_cons, hvs.1]; omega, fun w hw => by
        rcases List.mem_cons.mp hw with z | z
        · rw [z]; exact hv
        · exact hvs.2 w z⟩
      refine pj_mono z ?_ fun _ q => q
      have : ds.length - i = ds.length - (i + 1) + 1 := by omega
      rw [this, Nat.add_mul]
      omega
    · have hi' : ds.length - i = 0 := by omega
      rw [hi', Nat.zero_mul]
      refine pj_pure (a := []) (fun h _ => ?_) ⟨rfl, fun v hv => by cases hv⟩
      show (match some ds[i]? with
          | some (some d) => bnd (optM (f d sl)) (fun sl1 => bnd (bYes sl1) fun k => if k then bnd (el sl1) fun v => bnd (lcD (.vals ds) f bYes el sl n (i + 1)) fun vs => D.ret (v :: vs) else lcD (.vals ds) f bYes el sl n (i + 1)) h
          | some none => R.ok [] h
          | none => .stuck) = _
      rw [List.getElem?_eq_none (by omega)]
/-- a list that is made by draws, and what comes behind it -/
theorem pj_lc {β : Type} {Q : β → Prop} {mi : Ix} {f : DV → Sl → Option Sl} {own : List Nat} {el : Ex} {sl : Sl} {P : DV → Prop} {rest : DV → M β} (st : Stab F m) (ds : List DV) (S : DV → Sl) (hi : ∀ h, F h → mi sl h = .ok (.vals ds) h) (hl : ds.length < 16777216)
    (hf : ∀ d ∈ ds, f d (wipeO sl own) = some (S d)) (he : ∀ d ∈ ds, PJ F (el (S d)) m k P) (hr : ∀ (vs : List DV) (r : Nat), vs.length = ds.length → (∀ v ∈ vs, P v) → r ≠ m → PJ (fun h => F h ∧ h[r]? = some (.lst vs)) (rest (.ref r)) m k' Q) :
    PJ F (bnd (eLc mi f own bYes el sl) rest) m (ds.length * k + k') Q := fun h i j c n hF hm s hn => by
  have hlt := (List.getElem?_eq_some_iff.mp hm).1
  have z := pj_lcD (P := P) st ds S hf he 16777216 0 (Nat.zero_le _) (by omega)
  rw [Nat.sub_zero] at z
  obtain ⟨vs, i1, j1, c1, t1, e1, s1, l1, p1⟩ := z h i j c n hF hm s (by omega)
  have e2 : eLc mi f own bYes el sl h = .ok (.ref (h.set m (potL i1 j1 c1) ++ t1).length) ((h.set m (potL i1 j1 c1) ++ t1) ++ [.lst vs]) := by
    unfold eLc
    rw [bnd_s (hi h hF), bnd_s e1]
    show (if fits vs.length then fun h => R.ok (DV.ref h.length) (h ++ [DO.lst vs]) else stk) _ = _
    rw [fits_le (by omega)]; rfl
  have ne : (h.set m (potL i1 j1 c1) ++ t1).length ≠ m := by
    rw [List.length_append, List.length_set]; omega
  have f1 : F ((h.set m (potL i1 j1 c1) ++ t1) ++ [.lst vs]) := by rw [List.append_assoc]; exact st h _ _ hlt hF
  have f2 : ((h.set m (potL i1 j1 c1) ++ t1) ++ [.lst vs])[(h.set m (potL i1 j1 c1) ++ t1).length]? = some (.lst vs) := by rw [List.getElem?_append_right (Nat.le_refl _), Nat.sub_self]; rfl
  have f3 : ((h.set m (potL i1 j1 c1) ++ t1) ++ [.lst vs])[m]? = some (potL i1 j1 c1) := by rw [List.append_assoc]; exact get_app hlt
  obtain ⟨b, i2, j2, c2, t2, e3, s2, q2⟩ := hr vs _ l1 p1 ne ((h.set m (potL i1 j1 c1) ++ t1) ++ [.lst vs]) i1 j1 c1 (n + ds.length * k) ⟨f1, f2⟩ f3 s1 (by omega)
  refine ⟨b, i2, j2, c2, (t1 ++ [.lst vs]) ++ t2, ?_, by rw [← Nat.add_assoc]; exact s2, q2⟩
  rw [bnd_s e2, e3, List.append_assoc (h.set m _), set_app hlt, List.append_assoc]
theorem strsOf_of {P : Nat → Prop} : ∀ {vs : List DV}, (∀ v ∈ vs, ∃ c, P c ∧ v = .str [c]) → ∃ s : List Nat, s.length = vs.length ∧ (∀ c ∈ s, P c) ∧ strsOf vs = some (s.map fun c => [c])
  | [], _ => ⟨[], rfl, fun _ h => (by cases h), rfl⟩
  | v :: vs, h => by
    obtain ⟨c, pc, e⟩ := h v (List.mem_cons_self ..)
    obtain ⟨s, l, ps, e2⟩ := strsOf_of (P := P) fun w hw => h w (List.mem_cons_of_mem _ hw)
    refine ⟨c :: s, by simp [l], fun d hd => ?_, ?_⟩
    · rcases List.mem_cons.mp hd with z | z
      · rw [z]; exact pc
      · exact ps d z
    · rw [e]
      show (strsOf vs).map ([c] :: ·) = _
      rw [e2]; rfl
theorem flat1 : ∀ s : List Nat, (s.map fun c => [c]).flatten = s
  | [] => rfl
  | c :: s => by rw [List.map_cons, List.flatten_cons, flat1 s]; rfl
/-- "".join([..]) of drawn signs -/
theorem pj_join {mi : Ix} {f : DV → Sl → Option Sl} {own : List Nat} {el : Ex} {sl : Sl} {P : Nat → Prop} (st : Stab F m) (ds : List DV) (S : DV → Sl) (hi : ∀ h, F h → mi sl h = .ok (.vals ds) h) (hl : ds.length < 16777216)
    (hf : ∀ d ∈ ds, f d (wipeO sl own) = some (S d)) (he : ∀ d ∈ ds, PJ F (el (S d)) m k (fun v => ∃ c, P c ∧ v = .str [c])) : PJ F (eTr (eM1 joinD (eC (.str [])) (eLc mi f own bYes el)) sl) m (ds.length * k) (fun v => ∃ s, s.length = ds.length ∧ (∀ c ∈ s, P c) ∧ v = .str s) := by
  refine pj_cut ?_ fun n v ⟨s, _, _, e⟩ => by rw [e]; rfl
  have e0 : eM1 joinD (eC (.str [])) (eLc mi f own bYes el) sl = bnd (eLc mi f own bYes el sl) fun y => joinD (.str []) [y] := rfl
  rw [e0]
  have z := pj_lc (k' := 0) (Q := fun v => ∃ s : List Nat, s.length = ds.length ∧ (∀ c ∈ s, P c) ∧ v = .str s) (rest := fun y => joinD (.str []) [y]) st ds S hi hl hf he fun vs r hv hp ne => by
    obtain ⟨s, l, ps, e⟩ := strsOf_of hp
    refine pj_pure (a := .str s) (fun h ⟨_, q⟩ => ?_) ⟨s, l.trans hv, ps, rfl⟩
    show bnd (lsAt r) _ h = _
    rw [bnd_s (lsAt_of q), e]
    show (if fits (sumN (s.map fun c => [c]) + (s.map fun c => [c]).length * ([] : List Nat).length) then D.ret (DV.str (TL.joinL [] (s.map fun c => [c]))) else stk) _ = _
    rw [sumN_fl, joinL_nil, flat1, fits_le (by simp; omega)]
    rfl
  exact z
/-- a loop -/
theorem pj_forD {f : DV → Sl → Option Sl} {b : Sx} {I : Sl → Prop} (st : Stab F m) (ds : List DV) (hb : ∀ d ∈ ds, ∀ sl, I sl → ∃ sl1, f d sl = some sl1 ∧ PJ F (b sl1) m k (fun r => r.1 = .nx ∧ I r.2)) :
    ∀ (n i : Nat) (sl : Sl), I sl → i ≤ ds.length → ds.length - i < n → PJ F (forD (.vals ds) f b n i sl) m ((ds.length - i) * k) (fun r => r.1 = .nx ∧ I r.2)
  | 0, i, _, _, _, hl => by omega
  | n + 1, i, sl, hI, hi, hl => by
    by_cases q : i < ds.length
    · have hm : ds[i] ∈ ds := List.getElem_mem q
      obtain ⟨sl1, e1, z1⟩ := hb _ hm sl hI
      have e0 : forD (.vals ds) f b (n + 1) i sl = bnd (b sl1) fun r => match r.1 with
          | .nx => forD (.vals ds) f b n (i + 1) r.2
          | .ct => forD (.vals ds) f b n (i + 1) r.2
          | .bk => D.ret (.nx, r.2)
          | .rt v => D.ret (.rt v, r.2) := by
        funext h
        show (match some ds[i]? with
          | some (some d) => bnd (optM (f d sl)) (fun sl1 => bnd (b sl1) fun r => match r.1 with
            | .nx => forD (.vals ds) f b n (i + 1) r.2
            | .ct => forD (.vals ds) f b n (i + 1) r.2
            | .bk => D.ret (.nx, r.2)
            | .rt v => D.ret (.rt v, r.2)) h
          | some none => R.ok (.nx, sl) h
          | none => .stuck) = _
        rw [List.getElem?_eq_getElem q]
        show bnd (optM (f ds[i] sl)) _ h = _
        rw [bnd_s (a := sl1) (h1 := h) (by rw [e1]; rfl)]
      rw [e0]
      have z := pj_bnd (k' := (ds.length - (i + 1)) * k) (Q := fun r : Fl × Sl => r.1 = .nx ∧ I r.2) st z1 (f := fun r => match r.1 with
          | .nx => forD (.vals ds) f b n (i + 1) r.2
          | .ct => forD (.vals ds) f b n (i + 1) r.2
          | .bk => D.ret (.nx, r.2)
          | .rt v => D.ret (.rt v, r.2)) fun r hr => by
        obtain ⟨r1, r2⟩ := r
        obtain ⟨h1, h2⟩ := hr
        have h1 : r1 = .nx := h1
        subst h1
        exact pj_forD st ds hb n (i + 1) r2 h2 q (by omega)
      refine pj_mono z ?_ fun _ q => q
      have : ds.length - i = ds.length - (i + 1) + 1 := by omega
      rw [this, Nat.add_mul]
      omega
    · have hi' : ds.length - i = 0 := by omega
      rw [hi', Nat.zero_mul]
      refine pj_pure (a := (.nx, sl)) (fun h _ => ?_) ⟨rfl, hI⟩
      show (match some ds[i]? with
          | some (some d) => bnd (optM (f d sl)) (fun sl1 => bnd (b sl1) fun r => match r.1 with
            | .nx => forD (.vals ds) f b n (i + 1) r.2
            | .ct => forD (.vals ds) f b n (i + 1) r.2
            | .bk => D.ret (.nx, r.2)
            | .rt v => D.ret (.rt v, r.2)) h
          | some none => R.ok (.nx, sl) h
          | none => .stuck) = _
      rw [List.getElem?_eq_none (by omega)]
theorem pj_for {mi : Ix} {f : DV → Sl → Option Sl} {b : Sx} {I : Sl → Prop} {sl : Sl} (st : Stab F m) (ds : List DV) (hi : ∀ h, F h → mi sl h = .ok (.vals ds) h) (hl : ds.length < 16777216) (hI : I sl)
    (hb : ∀ d ∈ ds, ∀ sl, I sl → ∃ sl1, f d sl = some sl1 ∧ PJ F (b sl1) m k (fun r => r.1 = .nx ∧ I r.2)) : PJ F (sFor mi f b sl) m (ds.length * k) (fun r => r.1 = .nx ∧ I r.2) := by
  have z := pj_bnd (k := 0) (P := fun t => t = Wlk.vals ds) (Q := fun r : Fl × Sl => r.1 = .nx ∧ I r.2) (f := fun t => forD t f b 16777216 0 sl) st (pj_pure (g := mi sl) (a := .vals ds) hi rfl) fun t ht => by
    subst ht
    exact pj_forD st ds hb 16777216 0 sl hI (Nat.zero_le _) (by omega)
  rw [Nat.zero_add, Nat.sub_zero] at z
  exact z
/-! ### statements -/
theorem pj_as {x : Ex} {y : Sx} {i : Nat} {sl : Sl} {P : DV → Prop} {Q : Fl × Sl → Prop} (st : Stab F m) (a : PJ F (x sl) m k P) (b : ∀ v, P v → PJ F (y (sl.set i (some v))) m k' Q) : PJ F (sCons (sAs x (gN i)) y sl) m (k + k') Q := by
  have e0 : sCons (sAs x (gN i)) y sl = bnd (x sl) fun v => y (sl.set i (some v)) := by
    funext h
    show bnd (bnd (x sl) fun v => bnd (optM (gN i v sl)) fun sl' => D.ret (Fl.nx, sl')) _ h = _
    unfold bnd
    cases x sl h <;> rfl
  rw [e0]
  exact pj_bnd st a b
theorem pj_stm {x y : Sx} {sl : Sl} {I : Sl → Prop} {Q : Fl × Sl → Prop} (st : Stab F m) (a : PJ F (x sl) m k (fun r => r.1 = .nx ∧ I r.2)) (b : ∀ sl1, I sl1 → PJ F (y sl1) m k' Q) : PJ F (sCons x y sl) m (k + k') Q := by
  refine pj_bnd st a fun r hr => ?_
  obtain ⟨r1, r2⟩ := r
  obtain ⟨h1, h2⟩ := hr
  have h1 : r1 = .nx := h1
  subst h1
  exact b r2 h2
/-- a statement that is passed by -/
theorem pj_skip {x y : Sx} {sl sl1 : Sl} {Q : Fl × Sl → Prop} (st : Stab F m) (a : ∀ h, F h → ∃ t, x sl h = .ok (.nx, sl1) (h ++ t)) (b : PJ F (y sl1) m k Q) : PJ F (sCons x y sl) m k Q := by
  have z := pj_stm (k := 0) (x := x) (y := y) (sl := sl) (I := fun s => s = sl1) st (pj_junk (a := (.nx, sl1)) a ⟨rfl, rfl⟩) fun s hs => by rw [hs]; exact b
  rw [Nat.zero_add] at z
  exact z
theorem pj_ret {x : Ex} {y : Sx} {sl : Sl} {P : DV → Prop} (st : Stab F m) (a : PJ F (x sl) m k P) : PJ F (sCons (sRet x) y sl) m k (fun r => ∃ v, r.1 = .rt v ∧ P v) := by
  have e0 : sCons (sRet x) y sl = bnd (x sl) fun v => D.ret (.rt v, sl) := by
    funext h
    show bnd (bnd (x sl) fun v => D.ret (Fl.rt v, sl)) _ h = _
    unfold bnd
    cases x sl h <;> rfl
  rw [e0]
  have z := pj_bnd (k' := 0) (Q := fun r : Fl × Sl => ∃ v, r.1 = .rt v ∧ P v) (f := fun v => D.ret (.rt v, sl)) st a fun v hv => pj_pure (a := (.rt v, sl)) (fun _ _ => rfl) ⟨v, rfl, hv⟩
  exact z
/-- a def -/
theorem pj_run {n : Nat} {b : Sx} {ds : List DV} {P : DV → Prop} (st : Stab F m) (a : PJ F (b (ds.map some ++ List.replicate (n - ds.length) none)) m k (fun r => ∃ v, r.1 = .rt v ∧ P v)) : PJ F (runF n b ds) m k P := by
  have z := pj_bnd (k' := 0) (Q := P) (f := fun r : Fl × Sl => match r.1 with
    | .nx => D.ret DV.non
    | .rt v => D.ret v
    | _ => stk) st a fun r hr => by
    obtain ⟨r1, r2⟩ := r
    obtain ⟨v, h1, h2⟩ := hr
    have h1 : r1 = .rt v := h1
    subst h1
    exact pj_pure (a := v) (fun _ _ => rfl) h2
  exact z
theorem pj_one {x : Ex} {sl : Sl} {P : DV → Prop} {Q : List DV → Prop} (st : Stab F m) (a : PJ F (x sl) m k P) (b : ∀ v, P v → Q [v]) : PJ F (aCons x aNil sl) m k Q := by
  have z := pj_bnd (k' := 0) (Q := Q) (f := fun v => bnd (aNil sl) fun ds => D.ret (v :: ds)) st a fun v hv => pj_pure (a := [v]) (fun _ _ => rfl) (b v hv)
  exact z
end
end D
set_option Elab.async false
set_option linter.all false
set_option maxRecDepth 100000
set_option maxHeartbeats 4000000
/-! E4: a law over its cells. -/
namespace D
open PySem PySem.Spec PyProof.Rows L2 SlX ZG
section
variable {h : Hs}
def potB (a b c d e : Int) : List DV → M DV := runF 5 (sCons (sAs (eIf (bCmp ltD (eSlot 1) (eCall lenD (aCons (eSlot 0) aNil))) (eOp itemD (eSlot 0) (eSlot 1)) (eOp addD (eOp lrepD (eC (.int (a))) (eSlot 1)) (eC (.int (b))))) (gN 2)) (sCons (sAs (eOp lrepD (eOp modD (eCall intTD (aCons (eCall absD (aCons (eSlot 2) aNil)) aNil)) (eOp powD (eOp powD (eC (.int (10))) (eC (.int (60)))) (eC (.int (5))))) (eCall intTD (aCons (eOp geD (eCall absD (aCons (eSlot 2) aNil)) (eOp powD (eC (.int (10))) (eC (.int (18))))) aNil))) (gN 3)) (sCons (sAs (eOp modD (eCall intTD (aCons (eSlot 2) aNil)) (eC (.int (2305843009213693951)))) (gN 4)) (sCons (sRet (eLst (aCons (eSlot 3) (aCons (eOp modD (eCall intTD (aCons (eOp addD (eOp addD (eOp lrepD (eSlot 4) (eC (.int (c)))) (eOp lrepD (eOp lrepD (eC (.int (d))) (eSlot 1)) (eSlot 1))) (eC (.int (e)))) aNil)) (eC (.int (2305843009213693921)))) (aCons (eC (.int (0))) aNil))))) sNil))))
theorem len_scr {ns : List Int} : lenD [.scr ns] h = .ok (.int (ns.length : Nat)) h := by
  have e : lenD [.scr ns] h = R.ok (DV.int ((ns.map DV.int).length : Nat)) h := rfl
  rw [e, List.length_map]
theorem absD_s (z : Int) : absD [.int z] h = .ok (.int (if z < 0 then -z else z)) h := rfl
theorem b2i_small (q : Bool) : (if q then (1 : Int) else 0).natAbs < 18446744073709551616 := by cases q <;> decide
theorem pot_s {a b c d e : Int} (ha : 0 ≤ a ∧ a ≤ 1048576) (hc : 0 ≤ c ∧ c ≤ 1048576) (hd : 0 ≤ d ∧ d ≤ 1048576) (ns : List Int) (hl : ns.length ≤ 63) (p : Nat) (hp : p < 100) :
    ∃ i j : Int, 0 ≤ j ∧ j < 4611686018427387904 ∧ potB a b c d e [.scr ns, .int p] h = .ok (.ref h.length) (h ++ [potL i j 0]) := by
  have cell : ∃ z : Int, (eIf (bCmp ltD (eSlot 1) (eCall lenD (aCons (eSlot 0) aNil))) (eOp itemD (eSlot 0) (eSlot 1)) (eOp addD (eOp lrepD (eC (.int (a))) (eSlot 1)) (eC (.int (b))))) [some (.scr ns), some (.int p), none, none, none] h = .ok (.int z) h := by
    have hln : lenD [.scr ns] h = .ok (.int (ns.length : Nat)) h := len_scr
    by_cases q : (p : Int) < (ns.length : Nat)
    · have hl : p < ns.length := by omega
      refine ⟨ns[p], ?_⟩
      have it : itemD (.scr ns) (.int p) h = .ok (.int ns[p]) h := by
        show bnd (itsD (.scr ns)) (fun xs => optM (L2.atI xs (p : Nat))) h = _
        rw [bnd_s (m := itsD (.scr ns)) (a := ns.map .int) (h1 := h) rfl]
        show optM (L2.atI (ns.map DV.int) (p : Nat)) h = _
        rw [atI_lt (s := ns.map DV.int) (d := p) (by rw [List.length_map]; exact hl), List.getElem_map]
        rfl
      simp only [runF, sCons, sNil, sIf, sRet, sRetN, sAs, sEx, eIf, eOp, eUn, eC, eSlot, eCall, aCons, aNil, bnd, D.ret, optM, gN, bCmp, boolOf, bNot, bE, bOr, bAnd, eAnd, eOr, truD, List.map_cons, List.map_nil, List.length_cons, List.length_nil, List.replicate_succ, List.replicate_zero, List.getElem?_cons_zero, List.getElem?_cons_succ, List.cons_append, List.nil_append, List.set_cons_zero, List.set_cons_succ, if_true, if_false, Bool.false_eq_true, Nat.reduceAdd, Nat.reduceSub, hln, ltD, decide_eq_true q, it]
    · refine ⟨a * p + b, ?_⟩
      simp only [runF, sCons, sNil, sIf, sRet, sRetN, sAs, sEx, eIf, eOp, eUn, eC, eSlot, eCall, aCons, aNil, bnd, D.ret, optM, gN, bCmp, boolOf, bNot, bE, bOr, bAnd, eAnd, eOr, truD, List.map_cons, List.map_nil, List.length_cons, List.length_nil, List.replicate_succ, List.replicate_zero, List.getElem?_cons_zero, List.getElem?_cons_succ, List.cons_append, List.nil_append, List.set_cons_zero, List.set_cons_succ, if_true, if_false, Bool.false_eq_true, Nat.reduceAdd, Nat.reduceSub, hln, ltD, decide_eq_false q, mulD_s (mulOk_l (i := a) (j := (p : Int)) (by omega)), addD]
  obtain ⟨z, hz⟩ := cell
  obtain ⟨s, s1, s2⟩ := fmod_to (i := z) (u := 2305843009213693951) (by decide)
  obtain ⟨j, j1, j2⟩ := fmod_to (i := (s : Int) * c + d * (p : Int) * p + e) (u := 2305843009213693921) (by decide)
  have s2 : z.fmod 2305843009213693951 = (s : Int) := s2
  have j2 : ((s : Int) * c + d * (p : Int) * p + e).fmod 2305843009213693921 = (j : Int) := j2
  have p60 : powD (.int 10) (.int 60) h = .ok (.int (10 ^ 60)) h := powD_s (i := 10) (j := 60) (by decide +kernel)
  have p5 : powD (.int (10 ^ 60)) (.int 5) h = .ok (.int ((10 ^ 60) ^ 5)) h := powD_s (i := 10 ^ 60) (j := 5) (by decide +kernel)
  have p18 : powD (.int 10) (.int 18) h = .ok (.int (10 ^ 18)) h := powD_s (i := 10) (j := 18) (by decide +kernel)
  have m300 : modD (.int (if z < 0 then -z else z)) (.int ((10 ^ 60) ^ 5)) h = .ok (.int ((if z < 0 then -z else z).fmod ((10 ^ 60) ^ 5))) h := modD_s (by decide +kernel)
  have geq : geD (.int (if z < 0 then -z else z)) (.int (10 ^ 18)) h = .ok (.bl (decide ((10 : Int) ^ 18 ≤ (if z < 0 then -z else z)))) h := rfl
  have mo : lrepD (.int ((if z < 0 then -z else z).fmod ((10 ^ 60) ^ 5))) (.int (if decide ((10 : Int) ^ 18 ≤ (if z < 0 then -z else z)) then 1 else 0)) h = .ok (.int (((if z < 0 then -z else z).fmod ((10 ^ 60) ^ 5)) * (if decide ((10 : Int) ^ 18 ≤ (if z < 0 then -z else z)) then 1 else 0))) h := mulD_s (mulOk_r (b2i_small _))
  have cb : ∀ q : Bool, intTD [.bl q] h = .ok (.int (if q then 1 else 0)) h := fun q => rfl
  have ci : ∀ q : Int, intTD [.int q] h = .ok (.int q) h := fun q => rfl
  obtain ⟨own, hown⟩ : ∃ own : Int, (((if z < 0 then -z else z).fmod ((10 ^ 60) ^ 5)) * (if decide ((10 : Int) ^ 18 ≤ (if z < 0 then -z else z)) then 1 else 0)) = own := ⟨_, rfl⟩
  rw [hown] at mo
  refine ⟨own, j, by omega, by omega, ?_⟩
  have t2 : (eOp lrepD (eOp modD (eCall intTD (aCons (eCall absD (aCons (eSlot 2) aNil)) aNil)) (eOp powD (eOp powD (eC (.int (10))) (eC (.int (60)))) (eC (.int (5))))) (eCall intTD (aCons (eOp geD (eCall absD (aCons (eSlot 2) aNil)) (eOp powD (eC (.int (10))) (eC (.int (18))))) aNil))) [some (.scr ns), some (.int p), some (.int z), none, none] h = .ok (.int own) h := by
    simp only [eOp, eCall, aCons, aNil, eSlot, eC, List.getElem?_cons_zero, List.getElem?_cons_succ, bnd, D.ret, absD_s, ci, cb, p60, p5, p18, m300, geq]
    exact mo
  have t3 : (eOp modD (eCall intTD (aCons (eSlot 2) aNil)) (eC (.int (2305843009213693951)))) [some (.scr ns), some (.int p), some (.int z), some (.int own), none] h = .ok (.int s) h := by
    simp only [eOp, eCall, aCons, aNil, eSlot, eC, List.getElem?_cons_zero, List.getElem?_cons_succ, bnd, D.ret, ci, modD_s (show (2305843009213693951 : Int) ≠ 0 by decide), s2]
  have t4 : (eLst (aCons (eSlot 3) (aCons (eOp modD (eCall intTD (aCons (eOp addD (eOp addD (eOp lrepD (eSlot 4) (eC (.int (c)))) (eOp lrepD (eOp lrepD (eC (.int (d))) (eSlot 1)) (eSlot 1))) (eC (.int (e)))) aNil)) (eC (.int (2305843009213693921)))) (aCons (eC (.int (0))) aNil)))) [some (.scr ns), some (.int p), some (.int z), some (.int own), some (.int s)] h = .ok (.ref h.length) (h ++ [potL own j 0]) := by
    have f3 : fits 3 = true := rfl
    simp only [eLst, eOp, eCall, aCons, aNil, eSlot, eC, List.getElem?_cons_zero, List.getElem?_cons_succ, bnd, D.ret, ci, mulD_s (mulOk_r (i := (s : Int)) (j := c) (by omega)), mulD_s (mulOk_l (i := d) (j := (p : Int)) (by omega)), mulD_s (mulOk_r (i := d * (p : Int)) (j := (p : Int)) (by omega)), addD, modD_s (show (2305843009213693921 : Int) ≠ 0 by decide), j2, lstD, List.length_cons, List.length_nil, Nat.reduceAdd, f3, if_true]
  simp only [potB, runF, sCons, List.map_cons, List.map_nil, List.length_cons, List.length_nil, List.replicate_succ, List.replicate_zero, Nat.reduceAdd, Nat.reduceSub, List.cons_append, List.nil_append, bnd, sAs, hz, gN, optM, D.ret, List.set_cons_zero, List.set_cons_succ, t2, t3, sRet, t4, sNil]
def cellsB : List DV → M DV := runF 2 (sCons (sRet (eUn lstRg1 (eCall maxD (aCons (eC (.int (1))) (aCons (eCall minD (aCons (eSlot 1) (aCons (eCall lenD (aCons (eSlot 0) aNil)) aNil))) aNil))))) sNil)
theorem cells_s (ns : List Int) (hl : ns.length ≤ 63) (N : Nat) (h1 : 1 ≤ N) (hN : N < 100) : ∃ k : Nat, k ≤ N ∧ cellsB [.scr ns, .int N] h = .ok (.ref h.length) (h ++ [.lst (rangeV 0 k)]) := by
  have hln : lenD [.scr ns] h = .ok (.int (ns.length : Nat)) h := len_scr
  have mn : minD [.int N, .int (ns.length : Nat)] h = .ok (.int (min N ns.length : Nat)) h := by
    show R.ok (DV.int (if ((ns.length : Nat) : Int) < (N : Nat) then ((ns.length : Nat) : Int) else (N : Nat))) h = _
    by_cases q : ((ns.length : Nat) : Int) < (N : Nat)
    · rw [if_pos q, Nat.min_eq_right (by omega)]
    · rw [if_neg q, Nat.min_eq_left (by omega)]
  have mx : maxD [.int 1, .int (min N ns.length : Nat)] h = .ok (.int (max 1 (min N ns.length) : Nat)) h := by
    show R.ok (DV.int (if ((min N ns.length : Nat) : Int) > 1 then ((min N ns.length : Nat) : Int) else 1)) h = _
    by_cases q : ((min N ns.length : Nat) : Int) > 1
    · rw [if_pos q, Nat.max_eq_right (by omega)]
    · rw [if_neg q, Nat.max_eq_left (by omega)]; rfl
  refine ⟨max 1 (min N ns.length), by omega, ?_⟩
  have sm : small ((max 1 (min N ns.length) : Nat) : Int) = true := Nat.ble_eq_true_of_le (by omega)
  have ff : fits ((max 1 (min N ns.length) : Nat) : Int).toNat = true := fits_le (by omega)
  have rg : lstRg1 (.int (max 1 (min N ns.length) : Nat)) h = .ok (.ref h.length) (h ++ [.lst (rangeV 0 (max 1 (min N ns.length)))]) := by
    show (if small ((max 1 (min N ns.length) : Nat) : Int) then (if fits ((max 1 (min N ns.length) : Nat) : Int).toNat then fun h => R.ok (DV.ref h.length) (h ++ [DO.lst (rangeV 0 ((max 1 (min N ns.length) : Nat) : Int).toNat)]) else stk) else stk) h = _
    rw [sm, ff]
    rfl
  simp only [cellsB, runF, sCons, sNil, sIf, sRet, sRetN, sAs, sEx, eIf, eOp, eUn, eC, eSlot, eCall, aCons, aNil, bnd, D.ret, optM, gN, bCmp, boolOf, bNot, bE, bOr, bAnd, eAnd, eOr, truD, List.map_cons, List.map_nil, List.length_cons, List.length_nil, List.replicate_succ, List.replicate_zero, List.getElem?_cons_zero, List.getElem?_cons_succ, List.cons_append, List.nil_append, List.set_cons_zero, List.set_cons_succ, if_true, if_false, Bool.false_eq_true, Nat.reduceAdd, Nat.reduceSub, hln, mn, mx, rg]
/-- a comprehension over a list that stands there, every turn of it telling True -/
theorem lc_true {ds : List DV} {el : Ex} {sl : Sl} {r : Nat} {S : DV → Sl} {f : DV → Sl → Option Sl} (hf : ∀ d ∈ ds, f d sl = some (S d)) (hel : ∀ d ∈ ds, ∀ h : Hs, h[r]? = some (.lst ds) → ∃ t, el (S d) h = .ok (.bl true) (h ++ t)) :
    ∀ (n i : Nat) (h : Hs), h[r]? = some (.lst ds) → ds.length - i < n → ∃ t, lcD (.lst r) f bYes el sl n i h = .ok (List.replicate (ds.length - i) (.bl true)) (h ++ t)
  | 0, i, h, _, hl => by omega
  | n + 1, i, h, h0, hl => by
    have e : lcD (.lst r) f bYes el sl (n + 1) i h = (match (Wlk.lst r).at i h with
      | some (some d) => bnd (optM (f d sl)) (fun sl1 => bnd (bYes sl1) fun k => if k then bnd (el sl1) fun v => bnd (lcD (.lst r) f bYes el sl n (i + 1)) fun vs => D.ret (v :: vs) else lcD (.lst r) f bYes el sl n (i + 1)) h
      | some none => .ok [] h
      | none => .stuck) := rfl
    have ha : (Wlk.lst r).at i h = some ds[i]? := by
      show (match h[r]? with | some (.lst ds) => some ds[i]? | _ => none) = _
      rw [h0]
    rw [e, ha]
    by_cases hi : i < ds.length
    · rw [List.getElem?_eq_getElem hi]
      obtain ⟨t1, e1⟩ := hel ds[i] (List.getElem_mem hi) h h0
      have h1 : (h ++ t1)[r]? = some (.lst ds) := getElem?_pre h0
      obtain ⟨t2, e3⟩ := lc_true hf hel n (i + 1) (h ++ t1) h1 (by omega)
      refine ⟨t1 ++ t2, ?_⟩
      show bnd (optM (f ds[i] sl)) _ h = _
      rw [bnd_s (a := S ds[i]) (h1 := h) (by rw [hf _ (List.getElem_mem hi)]; rfl)]
      show bnd (el (S ds[i])) (fun v => bnd (lcD (.lst r) f bYes el sl n (i + 1)) fun vs => D.ret (v :: vs)) h = _
      rw [bnd_s e1, bnd_s e3]
      have : ds.length - i = (ds.length - (i + 1)) + 1 := by omega
      rw [this, List.replicate_succ, List.append_assoc]
      rfl
    · rw [List.getElem?_eq_none (by omega)]
      have : ds.length - i = 0 := by omega
      rw [this]
      exact ⟨[], by rw [List.append_nil]; rfl⟩
theorem blsOf_rep : ∀ n : Nat, blsOf (List.replicate n (DV.bl true)) = some (List.replicate n true)
  | 0 => rfl
  | n + 1 => by
    rw [List.replicate_succ]
    show (blsOf (List.replicate n (DV.bl true))).map (true :: ·) = _
    rw [blsOf_rep n]
    rfl
noncomputable def lawB (right pot cells : List DV → M DV) (N : Int) : List DV → M DV := runF 2 (sCons (sRet (eTr (eCall allD (aCons (eLc (iE (eCall cells (aCons (eSlot 0) (aCons (eC (.int (N))) aNil)))) (gN 1) [1] bYes (eCall right (aCons (eCall pot (aCons (eSlot 0) (aCons (eSlot 1) aNil))) aNil))) aNil)))) sNil)
/-- the law, by what holds of one cell -/
theorem law_s {right : List DV → M DV} {a b c d e : Int} (ha : 0 ≤ a ∧ a ≤ 1048576) (hc : 0 ≤ c ∧ c ≤ 1048576) (hd : 0 ≤ d ∧ d ≤ 1048576) (hr : ∀ m, PJ (fun _ => True) (right [.ref m]) m 1000000 (fun v => v = .bl true)) (N : Nat) (h1 : 1 ≤ N) (hN : N < 100) (ns : List Int) (hl : ns.length ≤ 63) :
    ∃ h', lawB right (potB a b c d e) cellsB (N : Nat) [.scr ns] [] = .ok (.bl true) h' := by
  obtain ⟨k, hk, hcs⟩ := cells_s (h := []) ns hl N h1 hN
  have hlen : (rangeV 0 k).length = k := by unfold rangeV; rw [List.length_map, List.length_range]
  obtain ⟨t, e2⟩ := lc_true (ds := rangeV 0 k) (r := 0) (f := gN 1) (el := eCall right (aCons (eCall (potB a b c d e) (aCons (eSlot 0) (aCons (eSlot 1) aNil))) aNil)) (sl := [some (.scr ns), none]) (S := fun d => [some (.scr ns), some d]) (fun d _ => rfl) (fun d' hd' h h0 => by
    unfold rangeV at hd'
    obtain ⟨p, hp, rfl⟩ := List.mem_map.mp hd'
    have hp := List.mem_range.mp hp
    rw [Int.zero_add]
    obtain ⟨i, j, j1, j2, ep⟩ := pot_s (h := h) (b := b) (e := e) ha hc hd ns hl p (by omega)
    have hm : (h ++ [potL i j 0])[h.length]? = some (potL i j 0) := by rw [List.getElem?_append_right (Nat.le_refl _), Nat.sub_self]; rfl
    obtain ⟨v, i', j', c', t, er, _, rfl⟩ := hr h.length (h ++ [potL i j 0]) i j 0 0 True.intro hm ⟨j1, j2, by omega, by omega⟩ (by omega)
    refine ⟨[potL i' j' c'] ++ t, ?_⟩
    have ea : aCons (eCall (potB a b c d e) (aCons (eSlot 0) (aCons (eSlot 1) aNil))) aNil [some (.scr ns), some (.int p)] h = .ok [.ref h.length] (h ++ [potL i j 0]) := by
      refine args_one ?_
      simp only [eCall, aCons, aNil, eSlot, List.getElem?_cons_zero, List.getElem?_cons_succ, bnd, D.ret, ep]
    show bnd (aCons (eCall (potB a b c d e) (aCons (eSlot 0) (aCons (eSlot 1) aNil))) aNil [some (.scr ns), some (.int p)]) right h = _
    rw [bnd_s ea, er, List.set_append_right _ _ (Nat.le_refl _), Nat.sub_self, List.append_assoc]
    rfl) 16777216 0 [.lst (rangeV 0 k)] rfl (by rw [hlen]; omega)
  rw [hlen, Nat.sub_zero] at e2
  have i1 : (iE (eCall cellsB (aCons (eSlot 0) (aCons (eC (.int (N : Nat))) aNil)))) [some (.scr ns), none] [] = .ok (.lst 0) [.lst (rangeV 0 k)] := by
    unfold iE
    rw [bnd_s (a := .ref 0) (h1 := [.lst (rangeV 0 k)]) (by
      simp only [eCall, aCons, aNil, eSlot, eC, List.getElem?_cons_zero, List.getElem?_cons_succ, bnd, D.ret, hcs]
      rfl)]
    rfl
  have fk : fits (List.replicate k (DV.bl true)).length = true := by rw [List.length_replicate]; exact fits_le (by omega)
  have e3 : eLc (iE (eCall cellsB (aCons (eSlot 0) (aCons (eC (.int (N : Nat))) aNil)))) (gN 1) [1] bYes (eCall right (aCons (eCall (potB a b c d e) (aCons (eSlot 0) (aCons (eSlot 1) aNil))) aNil)) [some (.scr ns), none] [] = .ok (.ref ([DO.lst (rangeV 0 k)] ++ t).length) (([DO.lst (rangeV 0 k)] ++ t) ++ [.lst (List.replicate k (.bl true))]) := by
    unfold eLc
    rw [bnd_s i1]
    show bnd (lcD (.lst 0) (gN 1) bYes _ [some (.scr ns), none] 16777216 0) lstD _ = _
    rw [bnd_s e2]
    show (if fits (List.replicate k (DV.bl true)).length then fun h => R.ok (DV.ref h.length) (h ++ [DO.lst (List.replicate k (DV.bl true))]) else stk) _ = _
    rw [fk]; rfl
  have e4 : eTr (eCall allD (aCons (eLc (iE (eCall cellsB (aCons (eSlot 0) (aCons (eC (.int (N : Nat))) aNil)))) (gN 1) [1] bYes (eCall right (aCons (eCall (potB a b c d e) (aCons (eSlot 0) (aCons (eSlot 1) aNil))) aNil))) aNil)) [some (.scr ns), none] [] = .ok (.bl true) [] := by
    refine tr_r (k := ([DO.lst (rangeV 0 k)] ++ t) ++ [.lst (List.replicate k (.bl true))]) ?_
    show bnd (aCons (eLc (iE (eCall cellsB (aCons (eSlot 0) (aCons (eC (.int (N : Nat))) aNil)))) (gN 1) [1] bYes (eCall right (aCons (eCall (potB a b c d e) (aCons (eSlot 0) (aCons (eSlot 1) aNil))) aNil))) aNil [some (.scr ns), none]) allD [] = _
    rw [bnd_s (args_one e3)]
    show bnd (lsAt ([DO.lst (rangeV 0 k)] ++ t).length) _ _ = _
    rw [bnd_s lsAt_snoc, blsOf_rep]
    have : (List.replicate k true).all id = true := by
      rw [List.all_eq_true]
      intro x hx
      exact (List.mem_replicate.mp hx).2
    show R.ok (DV.bl ((List.replicate k true).all id)) _ = _
    rw [this]
    rfl
  refine ⟨[], ?_⟩
  simp only [lawB, runF, sCons, List.map_cons, List.map_nil, List.length_cons, List.length_nil, List.replicate_succ, List.replicate_zero, Nat.reduceAdd, Nat.reduceSub, List.cons_append, List.nil_append, sRet, bnd, e4, D.ret]
end
end D
set_option Elab.async false
set_option linter.all false
set_option maxRecDepth 100000
set_option maxHeartbeats 2000000
/-! X1: what may raise. -/
namespace D
open PySem PySem.Spec PyProof.Rows L2 SlX ZG
/-- a run's end: a value, an error, never stuck -/
def Rn {α : Type} (r : R α) (P : α → Hs → Prop) (Pe : Nat → DV → Hs → Prop) : Prop := match r with
  | .ok a h => P a h
  | .err c v h => Pe c v h
  | .stuck => False
theorem Rn.bnd {α β : Type} {m : M α} {f : α → M β} {h : Hs} {P : β → Hs → Prop} {Pe : Nat → DV → Hs → Prop} (q : Rn (D.bnd m f h) P Pe) : Rn (m h) (fun a h1 => Rn (f a h1) P Pe) Pe := by
  unfold D.bnd at q
  cases z : m h with
  | ok a h1 => rw [z] at q; exact q
  | err c v h1 => rw [z] at q; exact q
  | stuck => rw [z] at q; exact q
theorem Rn.mono {α : Type} {r : R α} {P P' : α → Hs → Prop} {Pe Pe' : Nat → DV → Hs → Prop} (q : Rn r P Pe) (h1 : ∀ a h, P a h → P' a h) (h2 : ∀ c v h, Pe c v h → Pe' c v h) : Rn r P' Pe' := by
  cases r with
  | ok a h => exact h1 _ _ q
  | err c v h => exact h2 _ _ _ q
  | stuck => exact q
/-- no error -/
def noE {α : Type} (m : M α) : M α := fun h => match m h with
  | .ok a h' => .ok a h'
  | _ => .stuck
theorem Rn.noE {α : Type} {m : M α} {h : Hs} {P : α → Hs → Prop} {Pe : Nat → DV → Hs → Prop} (q : Rn (D.noE m h) P Pe) : ∃ a h', m h = .ok a h' ∧ P a h' := by
  unfold D.noE at q
  cases z : m h with
  | ok a h1 => rw [z] at q; exact ⟨a, h1, rfl, q⟩
  | err c v h1 => rw [z] at q; exact q.elim
  | stuck => rw [z] at q; exact q.elim
theorem noE_s {α : Type} {m : M α} {h h' : Hs} {a : α} (e : m h = .ok a h') : noE m h = .ok a h' := by unfold noE; rw [e]
section
variable (K : PySem.W.Frag) (cl : Cl)
/-- what is wanted of an error -/
def PoE (W : Wd) (H : Hp) (h' : Hs) (c : Nat) (v : DV) (E : XK) : Prop := ∀ (W' : Wd) (H' : Hp) (dx : Addr) (x : V), Ext W H W' H' → HRel K cl W' h' H' → W'.F dx → H' dx = some (.xd [(("value" : Str), x)]) → RV K cl W' H' v x → E (.ref (cl.ex c)) (some dx) H'
def tX (E : XK) (m : Ex) : TE := fun σ H Q => ∃ W h sl, HRel K cl W h H ∧ RSl K cl W H sl σ ∧ Rn (m sl h) (fun v h' => Po K cl W H h' v Q) (fun c v h' => PoE K cl W H h' c v E)
def tXA (E : XK) (m : Exs) : TA := fun σ H Q => ∃ W h sl, HRel K cl W h H ∧ RSl K cl W H sl σ ∧ Rn (m sl h) (fun vs h' => ∀ W' H' xs, Ext W H W' H' → HRel K cl W' h' H' → RVs K cl W' H' vs xs → Q xs H') (fun c v h' => PoE K cl W H h' c v E)
/-- operations by values -/
def rX2 (E : XK) (g : DV → DV → M DV) : R2 := fun x y H Q => ∃ W h d1 d2, HRel K cl W h H ∧ RV K cl W H d1 x ∧ RV K cl W H d2 y ∧ Rn (g d1 d2 h) (fun v h' => Po K cl W H h' v Q) (fun c v h' => PoE K cl W H h' c v E)
def rXL (g : List DV → M DV) : List V → Hp → VK → XK → Prop := fun xs H Q E => ∃ W h ds, HRel K cl W h H ∧ RVs K cl W H ds xs ∧ Rn (g ds h) (fun v h' => Po K cl W H h' v Q) (fun c v h' => PoE K cl W H h' c v E)
/-- a def's promise -/
def spX (n : Nat) (g : List DV → M DV) : Sp := fun vs H Q E => vs.length = n ∧ rXL K cl g vs H Q E
def tSX (E : XK) (m : Sx) : TS := fun D σ H => ∃ W h sl, HRel K cl W h H ∧ RSl K cl W H sl σ ∧ Rn (m sl h) (fun r h' => fin K cl W H h' r.2 r.1 D) (fun c v h' => PoE K cl W H h' c v E)
end
abbrev DX (cl : Cl) (X : Cx) (E : XK) (e : Expr) (m : Ex) : Prop := PE X e (tX X.K cl E m)
abbrev DAX (cl : Cl) (X : Cx) (E : XK) (es : List Expr) (m : Exs) : Prop := PA X es (tXA X.K cl E m)
abbrev DSX (cl : Cl) (X : Cx) (E : XK) (st : Stmt) (m : Sx) : Prop := PS X st (tSX X.K cl E m)
abbrev DSsX (cl : Cl) (X : Cx) (E : XK) (st : List Stmt) (m : Sx) : Prop := PSs X st (tSX X.K cl E m)
abbrev O2X (cl : Cl) (X : Cx) (E : XK) (f : Value → Value → Sem Value) (g : DV → DV → M DV) : Prop := OpR X f (rX2 X.K cl E g)
section
variable {K : PySem.W.Frag} {cl : Cl} {W W1 : Wd} {H H1 : Hp} {h h' : Hs} {X : Cx} {E : XK} {pos : Pos} {e a b : Expr} {es : List Expr} {m ma mb : Ex} {ms : Exs}
theorem PoE.go {c : Nat} {v : DV} (e : Ext W H W1 H1) (p : PoE K cl W H h' c v E) : PoE K cl W1 H1 h' c v E := fun W' H' dx x e' r f q rv => p W' H' dx x (e.trans e') r f q rv
theorem Rn.go {r : R DV} {Q : VK} (ext : Ext W H W1 H1) (q : Rn r (fun v h' => Po K cl W H h' v Q) (fun c v h' => PoE K cl W H h' c v E)) : Rn r (fun v h' => Po K cl W1 H1 h' v Q) (fun c v h' => PoE K cl W1 H1 h' c v E) :=
  q.mono (fun _ _ z => z.go ext) fun _ _ _ z => z.go ext
/-! ### expressions -/
theorem dx_lift (p : DE cl X e m) : DX cl X E e (fun sl => noE (m sl)) := p.mono fun σ H Q ⟨W, h, sl, rel, rs, q⟩ => by
  obtain ⟨v, h', e, po⟩ := q.noE
  exact ⟨W, h, sl, v, h', rel, rs, e, po⟩
theorem tx_then {f : DV → Sl → M DV} {σ : L2.St} {Q : VK} (q : tX K cl E (fun sl => bnd (m sl) fun d => f d sl) σ H Q) :
    tX K cl E m σ H fun x H1 => ∃ W h sl d, HRel K cl W h H1 ∧ RSl K cl W H1 sl σ ∧ RV K cl W H1 d x ∧ Rn (f d sl h) (fun v h' => Po K cl W H1 h' v Q) (fun c v h' => PoE K cl W H1 h' c v E) := by
  obtain ⟨W, h, sl, rel, rs, q⟩ := q
  exact ⟨W, h, sl, rel, rs, q.bnd.mono (fun d h1 z W' H' x ext rel' rv => ⟨W', h1, sl, d, rel', rs.mono ext, rv, z.go ext⟩) fun _ _ _ z => z⟩
theorem tx_then2 {g : DV → DV → M DV} {σ : L2.St} {Q : VK} (q : tX K cl E (eOp g ma mb) σ H Q) : tX K cl E ma σ H fun x H1 => tX K cl E mb σ H1 fun y H2 => rX2 K cl E g x y H2 Q := by
  obtain ⟨W, h, sl, rel, rs, q⟩ := q
  refine ⟨W, h, sl, rel, rs, (Rn.bnd q).mono (fun d h1 z W1 H1 x ext rel1 rv => ?_) fun _ _ _ z => z⟩
  refine ⟨W1, h1, sl, rel1, rs.mono ext, (Rn.bnd z).mono (fun d2 h2 z2 W2 H2 y ext2 rel2 rv2 => ?_) fun _ _ _ z => z.go ext⟩
  exact ⟨W2, h2, d, d2, rel2, rv.mono ext2, rv2, (z2.go ext).go ext2⟩
theorem dx_op {op : Operator} {g : DV → DV → M DV} (ho : O2X cl X E (binaryOp op) g) (ha : DX cl X E a ma) (hb : DX cl X E b mb) : DX cl X E (.BinOp a op b pos) (eOp g ma mb) := (pe_op ho ha hb).mono fun _ _ _ q => tx_then2 q
theorem dxa_nil : DAX cl X E [] aNil := pa_nil.mono fun σ H Q ⟨W, h, sl, rel, rs, q⟩ => q W H [] .refl rel .nil
theorem dxa_cons (ha : DX cl X E a ma) (hr : DAX cl X E es ms) (hs : starEach (a :: es) X.env = (false, eval a X.env) :: starEach es X.env := by rfl) : DAX cl X E (a :: es) (aCons ma ms) := (pa_cons ha hr hs).mono fun σ H Q ⟨W, h, sl, rel, rs, q⟩ => by
  refine ⟨W, h, sl, rel, rs, (Rn.bnd q).mono (fun d h1 z W1 H1 x ext rel1 rv => ?_) fun _ _ _ z => z⟩
  refine ⟨W1, h1, sl, rel1, rs.mono ext, (Rn.bnd z).mono (fun ds h2 z2 W2 H2 xs ext2 rel2 rvs => ?_) fun _ _ _ z => z.go ext⟩
  exact z2 W2 H2 (x :: xs) (ext.trans ext2) rel2 (.cons (rv.mono ext2) rvs)
theorem dxa_lift (p : DA cl X es ms) : DAX cl X E es (fun sl => noE (ms sl)) := p.mono fun σ H Q ⟨W, h, sl, rel, rs, q⟩ => by
  obtain ⟨v, h', e, po⟩ := q.noE
  exact ⟨W, h, sl, v, h', rel, rs, e, po⟩
theorem txa_then {g : List DV → M DV} {σ : L2.St} {Q : VK} (q : tX K cl E (fun sl => bnd (ms sl) g) σ H Q) : tXA K cl E ms σ H fun xs H1 => rXL K cl g xs H1 Q E := by
  obtain ⟨W, h, sl, rel, rs, q⟩ := q
  exact ⟨W, h, sl, rel, rs, (Rn.bnd q).mono (fun ds h1 z W' H' xs ext rel' rv => ⟨W', h1, ds, rel', rv, z.go ext⟩) fun _ _ _ z => z⟩
/-- a def that may raise, by its name -/
def CalX (P : Program) (w : World) (K : PySem.W.Frag) (mg : Str → Option Value) (base : Heap) (cl : Cl) (k : Nat) (x : Str) (n : Nat) (g : List DV → M DV) : Prop :=
  ∃ (f : Addr) (fd : FuncData) (ps : List Str), FnOk P w K mg base (L2.CX P w) k f fd ps (spX K cl n g) ∧ mg x = some (.ref f) ∧ PySem.W.keepIn K (.ref f) = true ∧ Binds K fd ps []
def FnX (P : Program) (w : World) (K : PySem.W.Frag) (mg : Str → Option Value) (base : Heap) (cl : Cl) (k : Nat) (f n : Nat) (g : List DV → M DV) : Prop := ∃ fd ps, FnOk P w K mg base (L2.CX P w) k f fd ps (spX K cl n g) ∧ Binds K fd ps []
theorem FnX.r {P : Program} {w : World} {mg : Str → Option Value} {base : Heap} {k f n : Nat} {g : List DV → M DV} (F : FnX P w K mg base cl k f n g) : FnR P w K mg base (L2.CX P w) k f (spX K cl n g) := by
  obtain ⟨fd, ps, F, b⟩ := F
  refine (F.raw b .nil).imp fun vs H Q E q => ?_
  rw [List.append_nil]
  exact q
variable {x : Str} {p : Pos}
theorem dx_call {k j n : Nat} {g : List DV → M DV} (tk : Takes X (fun c d _ H => E c d H)) (C : CalX X.prog X.w X.K X.mg X.base cl k x n g) (hr : Room j X.A) (hk : k ≤ j) (hg : Gl X x) (ha : DAX cl X E (e :: es) ms) (hl : (e :: es).length = n)
    (hn : ∀ sl h vs h', ms sl h = .ok vs h' → vs.length = n)
    (hdb : (x == ("__debug__" : Str)) = false := by decide) (he : starEach (e :: es) X.env = (false, eval e X.env) :: starEach es X.env := by rfl) (hpl : (backTo pos (starEach es X.env)).any (·.1) = false := by rfl) :
    DX cl X E (.Call (.Name x p) (e :: es) [] pos) (eCall g ms) := by
  obtain ⟨f, fd, ps, F, hm, hkp, hb⟩ := C
  refine (pe_call (E := E) F (hr.mono hk) hg hm hkp hb .nil (passes_call tk fun _ _ _ _ z => z) ha hdb he hpl).mono fun σ H Q q => ?_
  obtain ⟨W, h, sl, rel, rs, q⟩ := q
  refine ⟨W, h, sl, rel, rs, ?_⟩
  have q1 := Rn.bnd q
  cases z : ms sl h with
  | stuck => rw [z] at q1; exact q1
  | err c v h1 => rw [z] at q1; exact q1
  | ok ds h1 =>
    rw [z] at q1
    intro W' H' xs ext rel' rv
    show spX X.K cl n g (xs ++ []) H' Q E
    rw [List.append_nil]
    exact ⟨by rw [← rv.length]; exact hn _ _ _ _ z, W', h1, ds, rel', rv, Rn.go ext q1⟩
/-! ### a promise without errors -/
theorem FnOk.noX {P : Program} {w : World} {mg : Str → Option Value} {base : Heap} {k : Nat} {f : Addr} {fd : FuncData} {ps : List Str} {n : Nat} {g : List DV → M DV} (F : FnOk P w K mg base (L2.CX P w) k f fd ps (spX K cl n g)) : FnOk P w K mg base L2.CX0 k f fd ps (spD K cl n g) := by
  have up : ∀ {vs : List V} {H : Hp} {Q : VK} {E : XK}, spD K cl n g vs H Q E → spX K cl n g vs H Q E0 := fun {vs H Q E} ⟨hl, W, h, ds, v, h', rel, rv, e, po⟩ => ⟨hl, W, h, ds, rel, rv, by rw [e]; exact po⟩
  refine ⟨fun vs H Q E q => F.len vs H Q E0 (up q), fun A outer s H args us vs Q E hr e0 hb r q => ?_⟩
  refine codeAny_mono (F.run A outer s H args us vs Q E0 hr e0 hb r (up q)) fun r s' hq => ?_
  cases r with
  | error er =>
    obtain ⟨_, _, _, _, _, _, _, _, _, _, _, _, z⟩ := hq
    exact z.elim
  | ok fl => cases fl <;> exact hq
theorem FnX.noX {P : Program} {w : World} {mg : Str → Option Value} {base : Heap} {k f n : Nat} {g : List DV → M DV} (F : FnX P w K mg base cl k f n g) : FnD P w K mg base cl k f n g := by
  obtain ⟨fd, ps, F, b⟩ := F
  exact ⟨fd, ps, FnOk.noX F, b⟩
theorem CalX.noX {P : Program} {w : World} {mg : Str → Option Value} {base : Heap} {k n : Nat} {g : List DV → M DV} (C : CalX P w K mg base cl k x n g) : Cal P w K mg base cl k x n g := by
  obtain ⟨f, fd, ps, F, hm, hkp, hb⟩ := C
  exact ⟨f, fd, ps, FnOk.noX F, hm, hkp, hb⟩
/-- what is left behind is dropped -/
theorem trX_sp {n : Nat} {g : List DV → M DV} {vs : List V} {Q : VK} {E : XK} (q : spX K cl n (trF g) vs H Q E) : spX K cl n g vs H Q E := by
  obtain ⟨hl, W, h, ds, rel, r, q⟩ := q
  refine ⟨hl, W, h, ds, rel, r, ?_⟩
  cases z : g ds h with
  | stuck => unfold trF cutM at q; rw [z] at q; exact q
  | err c v h1 => unfold trF cutM at q; rw [z] at q; exact q
  | ok v h1 =>
    cases z2 : trF g ds h with
    | stuck => rw [z2] at q; exact q.elim
    | err c v h2 =>
      exfalso
      unfold trF cutM at z2
      rw [z] at z2
      classical
      dsimp only at z2
      split at z2 <;> cases z2
    | ok v2 h2 =>
      rw [z2] at q
      obtain ⟨h3, e3, b, c⟩ := cutM_ok z2
      rw [z] at e3
      cases e3
      intro W1 H1 x ext rel1 rv
      obtain ⟨r2, e2⟩ := rel.cut rel1 ext c
      exact q _ _ _ e2 r2 (rv.bel rel.len ext.pre b)
theorem trX_ok {P : Program} {w : World} {mg : Str → Option Value} {base : Heap} {k n : Nat} {f : Addr} {g : List DV → M DV} (F : FnX P w K mg base cl k f n g) : FnX P w K mg base cl k f n (trF g) := by
  obtain ⟨fd, ps, F, b⟩ := F
  exact ⟨fd, ps, F.imp fun vs H Q E q => trX_sp q, b⟩
/-! ### statements -/
variable {st : Stmt} {rest : List Stmt} {sm sn : Sx} {c : Expr} {tc : Tx}
theorem Rn.goS {r : R (Fl × Sl)} {D : Ends} (ext : Ext W H W1 H1) (q : Rn r (fun r h' => fin K cl W H h' r.2 r.1 D) (fun c v h' => PoE K cl W H h' c v E)) : Rn r (fun r h' => fin K cl W1 H1 h' r.2 r.1 D) (fun c v h' => PoE K cl W1 H1 h' c v E) :=
  q.mono (fun _ _ z => z.go ext) fun _ _ _ z => z.go ext
theorem dsx_lift (p : DS cl X st sm) : DSX cl X E st (fun sl => noE (sm sl)) := p.mono fun D σ H ⟨W, h, sl, rel, rs, q⟩ => by
  obtain ⟨⟨fl, sl'⟩, h', e, po⟩ := q.noE
  exact ⟨W, h, sl, fl, sl', h', rel, rs, e, po⟩
theorem dssx_nil : DSsX cl X E [] sNil := pss_nil.mono fun D σ H ⟨W, h, sl, rel, rs, q⟩ => q W H σ .refl rel rs
theorem dssx_cons (h1 : DSX cl X E st sm) (h2 : DSsX cl X E rest sn) : DSsX cl X E (st :: rest) (sCons sm sn) := (pss_cons h1 h2).mono fun D σ H ⟨W, h, sl, rel, rs, q⟩ => by
  refine ⟨W, h, sl, rel, rs, (Rn.bnd q).mono (fun r h1 z => ?_) fun _ _ _ z => z⟩
  obtain ⟨fl, sl1⟩ := r
  cases fl with
  | nx => exact fun W' H' σ' ext rel' rs' => ⟨W', h1, sl1, rel', rs', Rn.goS ext z⟩
  | bk => exact z
  | ct => exact z
  | rt v => exact z
theorem dsx_ret (he : DX cl X E e m) : DSX cl X E (.Return (some e) pos) (sRet m) := (ps_ret he).mono fun D σ H ⟨W, h, sl, rel, rs, q⟩ =>
  ⟨W, h, sl, rel, rs, (Rn.bnd q).mono (fun v h1 z => z) fun _ _ _ z => z⟩
theorem dsx_expr (he : DX cl X E e m) (hs : swapsWith e none pos.line X.env = pure false := by rfl) : DSX cl X E (.Expr e pos) (sEx m) := (ps_expr he hs).mono fun D σ H ⟨W, h, sl, rel, rs, q⟩ =>
  ⟨W, h, sl, rel, rs, (Rn.bnd q).mono (fun v h1 z W' H' x ext rel' rv => z W' H' σ ext rel' (rs.mono ext)) fun _ _ _ z => z⟩
theorem dsx_if {x y : List Stmt} {mx my : Sx} (hc : DT cl X c tc) (ha : DSsX cl X E x mx) (hb : DSsX cl X E y my) : DSX cl X E (.If c x y pos) (sIf (fun sl => noE (tc sl)) mx my) := (ps_if hc ha hb).mono fun D σ H ⟨W, h, sl, rel, rs, q⟩ => by
  obtain ⟨k, h1, e1, q1⟩ := (Rn.bnd q).noE
  refine ⟨W, h, sl, k, h1, rel, rs, e1, fun W' H' ext rel' => ?_⟩
  cases k with
  | true => exact iteT ⟨W', h1, sl, rel', rs.mono ext, Rn.goS ext q1⟩
  | false => exact iteF ⟨W', h1, sl, rel', rs.mono ext, Rn.goS ext q1⟩
theorem dsx_set {i : Nat} {x : Str} {pos' : Pos} (hN : X.N.Nodup) (hi : X.N[i]? = some x) (hx : Loc X.env.scope x) (he : DX cl X E e m) (hs : swapsWith e (some (.Name x pos')) pos.line X.env = pure false := by rfl) (hf : X.fn x = true ∨ X.env.scope.names.lookup x = some .local := by first | exact .inl rfl | exact .inr rfl | assumption) :
    DSX cl X E (.Assign [.Name x pos'] e pos) (sAs m (gN i)) := (ps_set hN hi hx he hs hf).mono fun D σ H ⟨W, h, sl, rel, rs, q⟩ => by
  refine ⟨W, h, sl, rel, rs, (Rn.bnd q).mono (fun v h1 z W' H' x ext rel' rv => ?_) fun _ _ _ z => z⟩
  exact z W' H' _ ext rel' ((rs.mono ext).set i rv)
/-! ### a def -/
theorem run_spX {N : List Str} {n : Nat} {b : Sx} {vs : List V} {Q : VK} {E : XK} (hl : n ≤ N.length) (hs : spX K cl n (runF N.length b) vs H Q E) : tSX K cl E b { nx := fun _ H' => Q .non H', rt := Q } (L2.start N vs) H := by
  obtain ⟨hn, W, h, ds, rel, rvs, q⟩ := hs
  refine ⟨W, h, _, rel, ⟨len_start rvs (by rw [rvs.length, hn]; exact hl), ros_start rvs⟩, (Rn.bnd q).mono (fun r h1 z => ?_) fun _ _ _ z => z⟩
  obtain ⟨fl, sl'⟩ := r
  cases fl with
  | nx => exact fun W' H' σ' ext rel' rs' => z W' H' .non ext rel' .non
  | rt v' => exact z
  | bk => exact (show False from z).elim
  | ct => exact (show False from z).elim
theorem d_defX {P : Program} {w : World} {mg : Str → Option Value} {base : Heap} {x qual : Str} {params : Arguments} {body : List Stmt} {scope : Scope} {dvs : List V} {kws : List (Str × V)} {f : Addr} {fd : FuncData} {N ps : List Str} {k n : Nat} {b : Sx} (F : FunD K x qual params body scope dvs kws f fd) (S : FnScope N ps scope) (hn : ps.length = n) (hl : n ≤ N.length)
    (hb : ∀ (cdv : Value) (A : Around) (outer : List Env) (s : Shared) (H : Hp) (E : XK), Room k (A.deeper (envOfC qual scope s.heap.objs.size f cdv)) → DSsX cl (cxOf (L2.CX P w) P w K mg base N qual scope f cdv A outer s H E) E body b) :
    FnOk P w K mg base (L2.CX P w) (k + 1) f fd ps (spX K cl n (runF N.length b)) := by
  subst hn
  exact F.ok S (fun vs H Q E q => q.1) fun cdv A outer s H vs Q E hr q => ⟨tSX K cl E b, hb cdv A outer s H E hr, run_spX hl q⟩
end
end D
set_option Elab.async false
set_option linter.all false
set_option maxRecDepth 100000
set_option maxHeartbeats 4000000
/-! X2: exception classes below one whose __init__ calls super's and keeps its value: made and raised. -/
namespace D
open PySem PySem.Spec PyProof.Rows L2 SlX ZG
abbrev veTailB : List Value := [.type "ValueError", .type "Exception", .type "BaseException", .type "object"]
/-- the __init__ at f of the class at D: its code -/
structure InK (P : Program) (K : PySem.W.Frag) (mg : Str → Option Value) (qual : Str) (params : Arguments) (body : List Stmt) (scope : Scope) (D f : Addr) : Prop where
  fn : ∃ (oc kV doc pm ct ccl cl : Value) (od an cdd cld : Option Addr) (osl ccs csl : Array (Option Value)) (cda cc : Addr) (vs : Array Value) (file : Str) (tf : Tok),
    K.lookup f = some ⟨oc, od, .func (PySem.W.ksFn "__init__" qual params body scope .none kV doc pm an (.ref cda) ct cc), osl⟩ ∧ PySem.W.codeIn K (.ref cda) qual = true ∧
      K.lookup cda = some ⟨ccl, cdd, .fields vs, ccs⟩ ∧ vs[2]? = some (.str file tf) ∧ ((P.main.file : Str) == file) = true ∧ K.lookup cc = some ⟨cl, cld, .cell (some (.ref D)), csl⟩
  cls : ∃ cd, PySem.W.clsIn K D = some cd
  tI : PySem.W.typeIn K (.ref f) = some (.type "function")
  sup : mg "super" = none
  stat : PySem.W.nsIn K cStatics "thirdparty.any" = some none
  top : (P.main.scope.names.lookup ("super" : Str)).isSome = false
/-- the shape of such an __init__ -/
structure InS (params : Arguments) (body : List Stmt) (scope : Scope) : Prop where
  bd : ∃ p0 p1 p2 p3 p4 p5 p6 p7 p8 p9, body = [.Expr (.Call (.Attribute (.Call (.Name "super" p0) [] [] p1) "__init__" p2) [.Name "value" p3] [] p4) p5, .Assign [.Attribute (.Name "self" p6) "value" p7] (.Name "value" p8) p9] ∧ (p2.endLine == p4.line) = true
  kind : scope.kind = .function
  co : scope.isCoroutine = false
  gen : scope.isGenerator = false
  cell : ∀ x ∈ scope.names, x.2 ≠ .cell
  sup : scope.names.lookup ("super" : Str) = some .globalImplicit
  cls : scope.names.lookup ("__class__" : Str) = some .free
  self : scope.names.lookup ("self" : Str) = some .local
  val : scope.names.lookup ("value" : Str) = some .local
  hd : ∃ ar, (params.posonlyargs ++ params.args).head? = some ar ∧ ar.arg = "self"
  bind : ∀ (qual : Str) (b : List Stmt) (kV doc pm : Value) (an : Option Addr) (cdv ct : Value) (cc : Addr) (x v : Value), bindArgs (PySem.W.ksFn "__init__" qual params b scope .none kV doc pm an cdv ct cc) ⟨[x, v], []⟩ = (pure [(("self" : Str), x), (("value" : Str), v)] : Sem (List (Str × Value)))
/-- a class at C below it -/
structure ExK (K : PySem.W.Frag) (D f C : Addr) : Prop where
  oex : OexC K C
  init : PySem.W.findIn K (.ref C) "__init__" = some (some (.ref f))
  sub : PySem.W.mroIn K C (.ref D) = some true
  sm : PySem.W.ks_superIn K C D "__init__" = some (some (.builtin "ValueError.__init__"))
  ve : PySem.W.subIn K (.ref C) (.type "ValueError") = some true
  q : PySem.W.excInitIn K C veTailB "ValueError.__new__" = true
  no : PySem.W.findIn K (.ref C) "value" = some none
section
variable {P : Program} {w : World} {K : PySem.W.Frag} {mg : Str → Option Value} {qual : Str} {params : Arguments} {body : List Stmt} {scope : Scope} {D f C : Addr}
theorem run_init (I : InK P K mg qual params body scope D f) (S : InS params body scope) (X : ExK K D f C) {base hp : Heap} (M : L2.Mod K mg base) (kb : ∀ b o, base.get? b = some o → hp.get? b = some o) {A : Around} {R : Result → Shared → Prop} {v : Value} {g : Array GenState} {d : Drawn} {t : Nat} {os : OsState}
    (hroom : A.depth < recursionLimit)
    (hq : ∀ h' tk' t1 dx, (∀ b o, hp.get? b = some o → h'.get? b = some o) → hp.objs.size ≤ dx → dx ≠ hp.objs.size + 1 → h'.get? (hp.objs.size + 1) = some { cls := .ref C, dict := some dx, data := .fields #[.ref t1, .none, .none, .none, .bool false, .none] } →
      h'.Ns1 dx (fun y => if y = "value" then some v else none) → R (.ok (.ret .none)) ⟨h', g, d, tk', os⟩) :
    codeAny (model P w) A (.call (.ref f) ⟨[.ref (hp.objs.size + 1), v], []⟩) R ⟨(hp.push (PySem.W.kdv_tup [v])).push (PySem.HandSPX.excO C hp.objs.size), g, d, t, os⟩ := by
  obtain ⟨oc, kV, doc, pm, ct, ccl, cl, od, an, cdd, cld, osl, ccs, csl, cda, cc, vs, file, tf, hf, hcd, hcda, hvs, hfile, hcc⟩ := I.fn
  obtain ⟨p0, p1, p2, p3, p4, p5, p6, p7, p8, p9, rfl, hline⟩ := S.bd
  obtain ⟨cdD, hD⟩ := I.cls
  obtain ⟨ar, har, hself⟩ := S.hd
  have kk : ∀ b o, hp.get? b = some o → ((hp.push (PySem.W.kdv_tup [v])).push (PySem.HandSPX.excO C hp.objs.size)).get? b = some o := fun b o e => Heap.get?_push_of_some _ (Heap.get?_push_of_some _ e)
  have hget : ((hp.push (PySem.W.kdv_tup [v])).push (PySem.HandSPX.excO C hp.objs.size)).get? (hp.objs.size + 1) = some (PySem.HandSPX.excO C hp.objs.size) := by heap_get
  have X0 : K.In hp := M.kin.keeps kb
  have Xc := X0.keeps kk
  have hpn : hp.get? (hp.objs.size + 1) = none := by
    cases z : hp.get? (hp.objs.size + 1) with
    | none => rfl
    | some o => exact absurd (Heap.lt_size z) (Nat.not_lt_of_le (Nat.le_succ _))
  refine PySem.ks_codeAny_call_defAt (fd := PySem.W.ksFn "__init__" qual params _ scope .none kV doc pm an (.ref cda) ct cc) (binds := [("self", .ref (hp.objs.size + 1)), ("value", v)]) hroom (Xc _ _ hf) rfl ((M.nolimit.keeps kb).keeps kk) (PySem.W.codeRec_of Xc hcd) rfl (.of_eq (S.bind _ _ _ _ _ _ _ _ _ _ _)) S.cell
    (fun y hy => ?_) (fun h1 hns hk1 => ?_) S.co S.gen S.kind
  · rcases List.mem_cons.mp hy with rfl | hy
    · exact S.self
    · rcases List.mem_cons.mp hy with rfl | hy
      · exact S.val
      · cases hy
  generalize hL : ((hp.push (PySem.W.kdv_tup [v])).push (PySem.HandSPX.excO C hp.objs.size)).objs.size = L at *
  have hLs : L = hp.objs.size + 2 := by rw [← hL]; simp [Heap.push]
  have Fr1 : Fr hp L h1 (fun y => ([("self", .ref (hp.objs.size + 1)), ("value", v)] : List (Str × Value)).reverse.lookup y) := ⟨hns, fun b o e => hk1 b o (kk b o e), by omega⟩
  have N1 : News hp L h1 [(hp.objs.size + 1, PySem.W.excObj C hp.objs.size none .none)] := fun p hp' => by
    rcases List.mem_cons.mp hp' with rfl | hp'
    · exact ⟨hk1 _ _ hget, by show hp.objs.size + 1 ≠ L; omega, hpn⟩
    · cases hp'
  have ms : (fun y => ([("self", .ref (hp.objs.size + 1)), ("value", v)] : List (Str × Value)).reverse.lookup y) ar.arg = some (.ref (hp.objs.size + 1)) := by rw [hself]; rfl
  have mv : (fun y => ([("self", .ref (hp.objs.size + 1)), ("value", v)] : List (Str × Value)).reverse.lookup y) ("value" : Str) = some v := rfl
  have mz : (fun y => ([("self", .ref (hp.objs.size + 1)), ("value", v)] : List (Str × Value)).reverse.lookup y) ("self" : Str) = some (.ref (hp.objs.size + 1)) := rfl
  generalize hm : (fun y => ([("self", .ref (hp.objs.size + 1)), ("value", v)] : List (Str × Value)).reverse.lookup y) = m at *
  obtain ⟨mb, hnb, hbo⟩ := M.blt
  obtain ⟨oD, hD1, hD2⟩ : ∃ oD, hp.get? D = some oD ∧ oD.data = .cls cdD := by
    unfold PySem.W.clsIn at hD
    split at hD
    · rename_i ho
      cases hD
      exact ⟨_, X0 _ _ ho, rfl⟩
    · cases hD
  show PySem.wpAt _ (A.deeper (PySem.W.ksEnv qual scope L f (.ref cda) cc)) (.func _ (PySem.W.ksEnv qual scope L f (.ref cda) cc)) (execs _ (PySem.W.ksEnv qual scope L f (.ref cda) cc)) _ _ _
  refine PySem.ks_wpAt_execs_cons (PySem.ks_wpAt_Expr_any (PySem.ks_wpAt_MethodCall (pl := do return (← importBound (.Call (.Name "super" p0) [] [] p1) (PySem.W.ksEnv qual scope L f (.ref cda) cc)).getD true) ?_ ?he) ?hi)
  case he =>
    have hpos : methodCallPos true (.Call (.Name "super" p0) [] [] p1) (PySem.W.ksEnv qual scope L f (.ref cda) cc) p2 p4 = pure p4 := by unfold methodCallPos; rw [hline]; rfl
    show (do
      let ov ← attributeBase (.Call (.Name "super" p0) [] [] p1) "__init__" (PySem.W.ksEnv qual scope L f (.ref cda) cc) (eval (.Call (.Name "super" p0) [] [] p1) (PySem.W.ksEnv qual scope L f (.ref cda) cc))
      standAt p2.atName
      methodCall (.Call (.Name "super" p0) [] [] p1) "__init__" p2 p4 (PySem.W.ksEnv qual scope L f (.ref cda) cc) ov 1 (backTo p4 (starEach [.Name "value" p3] (PySem.W.ksEnv qual scope L f (.ref cda) cc))) []) = _
    unfold methodCall calleeOf
    rw [show methodCallForm 1 (backTo p4 (starEach [.Name "value" p3] (PySem.W.ksEnv qual scope L f (.ref cda) cc))) [] = true from rfl, hpos]
    simp
  case hi => unfold interactive; rw [show (PySem.W.ksEnv qual scope L f (.ref cda) cc).scope.kind = .function from S.kind]; rfl
  have hka : (PySem.W.ksEnv qual scope L f (.ref cda) cc).kindOf ar.arg = some .local := by rw [hself]; exact S.self
  refine PySem.ks_wpAt_super_base (env := PySem.W.ksEnv qual scope L f (.ref cda) cc) S.sup S.cls rfl rfl ((X0.keeps Fr1.keep) _ _ hf) rfl har rfl ((X0.keeps Fr1.keep) _ _ hcda) rfl hvs hfile I.top ?_
  refine PySem.W.ks_loadName_global S.kind S.sup (Calls.loadGlobal_builtin (env := PySem.W.ksEnv qual scope L f (.ref cda) cc) ((M.glob.keeps kb).keeps Fr1.keep) I.sup ((hnb.keeps kb).keeps Fr1.keep) ((hbo _ (by decide +kernel)).trans (by decide +kernel : bootBuiltins "super" = some (.type "super"))) ⟨rfl, ?_⟩)
  refine wpAny_loadName_free S.kind S.cls rfl ⟨_, (X0.keeps Fr1.keep) _ _ hcc, rfl⟩ ?_
  refine wpAny_loadName_local S.kind hka Fr1.ns ms ?_
  refine PySem.ks_wpAny_isType_cls (Fr1.keep _ _ hD1) hD2 ⟨rfl, ?_⟩
  refine PySem.ks_wpAny_call_super (C := C) (Fr1.keep _ _ hD1) hD2 (N1 _ (List.mem_cons_self ..)).1 rfl (fun c e => by cases e) (PySem.W.looks_mroIn (X0.keeps Fr1.keep) X.sub) (fun h2 e2 k2 => ?_)
  obtain ⟨Fr2, N2, l2⟩ := PySem.W.ks_newsPush (s := ⟨h1, g, d, t, os⟩) Fr1 N1 rfl e2 k2
  refine PySem.W.kxs_method (odx := none) PySem.W.kxs_ValueError Fr2 X0 N2 (List.mem_cons_self ..) (PySem.W.InstAt.of_exc0 N2 (.tail _ (List.mem_cons_self ..))) I.stat X.sm X.ve rfl (fun q h3 Fr3 N3 l3 => ?_)
  refine PySem.W.kxs_callWith1 N3 (List.mem_cons_self ..) ?_ rfl rfl
  refine Calls.spliced_cons (wpAny_Name (wpAny_loadName_local S.kind S.val Fr3.ns mv (Calls.spliced_nil ⟨PySem.W.kxs_at N3 (List.mem_cons_self ..), ?_⟩)))
  have ne1 : ∀ p ∈ [(h1.objs.size, PySem.W.ks_superObj D (hp.objs.size + 1) C), (hp.objs.size + 1, PySem.W.excObj C hp.objs.size none .none)], p.1 < q := l3
  have U : PySem.W.UpdF (hp.objs.size + 1) (PySem.W.excObj C hp.objs.size none .none) [(q, PySem.W.kxs_mw "ValueError.__init__" (hp.objs.size + 1)), (h1.objs.size, PySem.W.ks_superObj D (hp.objs.size + 1) C), (hp.objs.size + 1, PySem.W.excObj C hp.objs.size none .none)]
      (fun o' => (q, PySem.W.kxs_mw "ValueError.__init__" (hp.objs.size + 1)) :: (h1.objs.size, PySem.W.ks_superObj D (hp.objs.size + 1) C) :: (hp.objs.size + 1, o') :: []) := by
    refine .tail ?_ (.tail ?_ (.head fun p hp => nomatch hp))
    · have := ne1 _ (.tail _ (List.mem_cons_self ..))
      exact Nat.ne_of_gt this
    · exact Nat.ne_of_gt (l2 _ (List.mem_cons_self ..))
  refine PySem.W.kxs_call Fr3 X0 N3 F.excBase_ValueError X.q (List.mem_cons_self ..) U (by rw [sizeLine_eq]; show 1 ≤ _; omega) (fun t' h4 Fr4 N4 l4 => ?_)
  refine PySem.ks_wpAt_execs_cons (PySem.ks_wpAt_Assign_Attr (wpAt_of_wpAny (wpAny_Name (wpAny_loadName_local S.kind S.val Fr4.ns mv (wpAny_Name (wpAny_loadName_local S.kind S.self Fr4.ns mz ?_))))))
  obtain ⟨nm, qn, Nn, bs, bm, sn, sub, ab, col, dd, k0, k1, k2', k3, k5, hC, hbm⟩ := X.oex.cls
  have hcl : PySem.W.clsIn K C = some { name := nm, bases := bs, mro := .ref C :: bm, ns := Nn, qualname := qn, hasDict := true, slotNames := sn, subclasses := sub, abstract := ab, collection := col, hasDel := false } := by unfold PySem.W.clsIn; rw [hC] <;> rfl
  have h4e := (N4 (hp.objs.size + 1, PySem.W.excObj C t' none .none) (.tail _ (.tail _ (.tail _ (List.mem_cons_self ..))))).1
  refine PySem.W.set_plain (od := none) (X0.keeps Fr4.keep) ⟨h4e, rfl, rfl, trivial⟩ X.oex.sa ?_
  refine PySem.HandSPX.exc_osa (X0.keeps Fr4.keep) h4e hcl (show PySem.HandSPX.refsVE (.ref C :: bm) = true from hbm) rfl X.no (fun h5 tk5 dx k5 dn dne hx hn => ?_)
  refine wpAt_of_wpAny (wpAny_execs_nil ?_)
  have sz := Nat.le_of_lt (Nat.lt_of_le_of_lt (Nat.le_succ _) (Heap.lt_size h4e))
  exact hq _ _ _ _ (fun b o e => k5 b o (fun z => by rw [z, hpn] at e; cases e) (Fr4.keep b o e)) (Nat.le_trans sz dn) dne hx hn
end
end D
set_option Elab.async false
set_option linter.all false
set_option maxRecDepth 100000
set_option maxHeartbeats 2000000
/-! X3: raise C(e). -/
namespace D
open PySem PySem.Spec PyProof.Rows L2 SlX ZG
/-- what C(e) makes: its dict is new -/
def tMkK (C : Addr) (ta : TA) : L2.St → Hp → XK → Prop := fun σ H Q => ta σ H fun vs H1 => ∃ v, vs = [v] ∧ ∀ d, H1 d = none → Q (.ref C) (some d) (upd H1 d (.xd [(("value" : Str), v)]))
section
variable {X : Cx} {mgq : Str} {params : Arguments} {body : List Stmt} {scope : Scope} {B f C : Addr} {x : Str} {e : Expr} {p pos : Pos} {ta : TA} {k : Nat}
theorem pmk_kx (I0 : InK X.prog X.K X.mg mgq params body scope B f) (S : InS params body scope) (T : ExK X.K B f C) (hr : Room (k + 1) X.A) (hg : Gl X x) (hm : X.mg x = some (.ref C)) (ha : PA X [e] ta)
    (hdb : (x == ("__debug__" : Str)) = false := by decide) (he : starEach [e] X.env = (false, eval e X.env) :: starEach [] X.env := by rfl) : PMk X (.Call (.Name x p) [e] [] pos) (tMkK C ta) := fun pins s σ H Q I h => by
  obtain ⟨nm, q, N, bs, bm, sn, sub, ab, col, dd, k0, k1, k2, k3, k5, hC, hbm⟩ := T.oex.cls
  refine wpAny_Call_Name_kw (ld_glob I hg hm ?_ hdb)
  refine PySem.W.callWith_K (h₀ := X.base) I.ok.mod.kin T.oex.kC (thn (ha.run pos pins s σ H _ I h) fun us s1 ⟨vs, H1, J1, rus, v, hvs, q1⟩ => ⟨J1.kIn, ?_⟩) he rfl
  subst hvs
  obtain ⟨u, rest, rfl, ru, rr⟩ : ∃ u rest, us = u :: rest ∧ RelV v u ∧ rest = [] := by
    cases rus with
    | cons a b => cases b; exact ⟨_, _, rfl, a, rfl⟩
  subst rr
  show wpAny _ _ (call (.ref C) [u]) _ _ _
  obtain ⟨hp, g, dr, tk, os⟩ := s1
  have hC' : hp.get? C = _ := J1.kIn _ _ hC
  refine wpAny_call (PySem.HandSPX.call_own F.excBase_ValueError (fun Y => PySem.HandSPX.refsVE_contains Y bm hbm) hC' (PySem.W.looks_findIn J1.kIn T.init) (fun self => PySem.W.bind_fn J1.kIn self I0.tI) (by rw [sizeLine_eq]; show 1 ≤ _; omega)
    (run_init I0 S T J1.ok.mod J1.bk (hr.make C [u] []).depth fun h' tk' t1 dx kk ld ne hx hn => ⟨rfl, ?_⟩))
  have hn1 : H1 (hp.objs.size + 1) = none := J1.hok.fresh (Nat.le_succ _)
  have hnd : H1 dx = none := J1.hok.fresh ld
  obtain ⟨G, g1, g2⟩ := restrict h' fun b => decide (b ≠ hp.objs.size + 1)
  have gk : ∀ b, b ≠ hp.objs.size + 1 → G.get? b = h'.get? b := fun b hb => g1 b (decide_eq_true hb)
  have ge : G.get? (hp.objs.size + 1) = none := g2 _ (by simp)
  have old : ∀ {b : Addr} {o : Obj}, hp.get? b = some o → b ≠ hp.objs.size + 1 := fun {b o} z => Nat.ne_of_lt (Nat.lt_of_lt_of_le (Heap.lt_size z) (Nat.le_succ _))
  have J := J1.laid (t' := tk') (a := dx) (o := .xd [(("value" : Str), v)]) (h' := G) (fun b o z => (gk b (old z)).trans (kk b o z)) ld ⟨_, hn.at fun o y => (gk dx ne).trans y, relO_put (fs := []) ru fun _ => True.intro⟩
  refine ⟨hp.objs.size + 1, _, _, ⟨G, g, dr, tk', os⟩, _, .ref C, some dx, rfl, J, fun b o z => ?_, ge, hx, ⟨rfl, rfl⟩, rfl, rfl, ?_, rfl, J1.bare, raises_own T.oex.exC T.oex.tyC, q1 dx hnd⟩
  · by_cases hb : b = hp.objs.size + 1
    · rw [hb, ge] at z; cases z
    · exact (gk b hb).symm.trans z
  · rw [upd_ne (Ne.symm ne)]
    exact hn1
/-- raise, of the c-th class -/
def sRz (c : Nat) (m : Ex) : Sx := fun sl => bnd (noE (m sl)) fun v h => .err c v h
variable {cl : Cl} {E : XK} {m : Ex} {c : Nat} {pos' : Pos}
theorem dsx_raise (tk : Takes X (fun c d _ H => E c d H)) (hc : X.calm = true) (I0 : InK X.prog X.K X.mg mgq params body scope B f) (S : InS params body scope) (T : ExK X.K B f (cl.ex c)) (hr : Room (k + 1) X.A) (hg : Gl X x) (hm : X.mg x = some (.ref (cl.ex c))) (ha : DE cl X e m)
    (hdb : (x == ("__debug__" : Str)) = false := by decide) (he : starEach [e] X.env = (false, eval e X.env) :: starEach [] X.env := by rfl) : DSX cl X E (.Raise (some (.Call (.Name x p) [e] [] pos)) none pos') (sRz c m) :=
  (ps_raise hc tk (pmk_kx I0 S T hr hg hm (da_cons ha da_nil he) hdb he)).mono fun D σ H ⟨W, h, sl, rel, rs, q⟩ => by
    obtain ⟨v, h1, z, q1⟩ := (Rn.bnd q).noE
    refine ⟨W, h, sl, [v], h1, rel, rs, ?_, fun W1 H1 xs ext rel1 rv => ?_⟩
    · show bnd (m sl) _ h = _
      unfold bnd
      rw [z]
      rfl
    · cases rv with
      | cons rx rn =>
        cases rn
        refine ⟨_, rfl, fun d nd => ?_⟩
        exact q1 (W1.fz d) _ d _ (ext.trans (ext_new nd rel1)) (rel1.new nd) (.inr rfl) upd_same (rx.mono (ext_new nd rel1))
end
end D
set_option Elab.async false
set_option linter.all false
set_option maxRecDepth 100000
set_option maxHeartbeats 2000000
/-! X4: try with an exception that is kept. -/
namespace D
open PySem PySem.Spec PyProof.Rows L2 SlX ZG
section
variable {X : Cx} {pins : List (Addr × Obj)} {σ : L2.St} {H : Hp} {sI s4 : Shared} {a C dx : Addr} {vs : Array Value} {oe : Obj}
/-- what was not there at sI is tracked from now on -/
theorem inv_trk (J : Inv X pins σ H sI) (nx : sI.heap.get? a = none) (na : H a = none) (nex : a ∉ X.ex) (J4 : Inv X pins σ H s4) (he : s4.heap.get? a = some oe) (hz : Zc (.ref C) (some dx) oe) (hd : oe.data = .fields vs) : Inv X pins σ (upd H a (XcO a C dx)) s4 := by
  have neI : ∀ {b : Addr} {o : Obj}, sI.heap.get? b = some o → b ≠ a := fun {b o} e z => by rw [z, nx] at e; cases e
  have ne0 : ∀ {b : Addr} {o : Obj}, X.s_0.heap.get? b = some o → b ≠ a := fun {b o} e z => by
    obtain ⟨o', e'⟩ := J.base.there b o e (by rw [z]; exact nex)
    exact neI e' z
  have neH : ∀ {b : Addr} {u : HO}, H b = some u → b ≠ a := fun {b u} e z => by rw [z, na] at e; cases e
  refine ⟨J4.ok, J4.os, J4.bare, ⟨J4.base.keep, J4.base.slot, fun b o e n hx => ?_, J4.base.there, fun b xs e => ?_, fun b o u e => ?_, fun b ps e => ?_⟩, J4.loc, J4.cell, ?_, fun y c e => ?_, fun p hp => ?_, fun b u e => ?_, J4.len⟩
  · rw [upd_ne (ne0 e)]; exact J4.base.free b o e n hx
  · have z := J4.base.tups b xs e
    rw [upd_ne (neH z)]; exact z
  · have z := J4.base.frzs b o u e
    rw [upd_ne (neH z)]; exact z
  · obtain ⟨more, z⟩ := J4.base.tbls b ps e
    exact ⟨more, by rw [upd_ne (neH z)]; exact z⟩
  · obtain ⟨m, ⟨oL, _, _, eL, _⟩, _⟩ := J.loc
    rw [upd_ne (neI eL)]; exact J4.free
  · obtain ⟨w, o, eo, _⟩ := J.cell y c e
    rw [upd_ne (neI eo)]; exact J4.freeC y c e
  · obtain ⟨e1, e2, e3, e4, e5⟩ := J4.pin p hp
    exact ⟨e1, by rw [upd_ne (neI (J.pin p hp).1)]; exact e2, e3, e4, e5⟩
  · by_cases hb : b = a
    · subst hb
      rw [upd_same] at e
      cases e
      exact ⟨⟨oe, vs, he, hz.1, hz.2, hd⟩, ⟨_, he⟩, fun h1 h2 ⟨o', vs', q, r⟩ k => ⟨o', vs', k _ q, r⟩⟩
    · rw [upd_ne hb] at e
      exact (J4.hok b u e).stay (fun _ _ _ q => q) (fun c q => by rw [upd_ne (neH q)]; exact q) fun c xs q => by rw [upd_ne (neH q)]; exact q
theorem inv_suite (I : Inv X pins σ H s4) : Inv (X.suite a (X.pn ++ pins)) [] σ H s4 :=
  ⟨I.ok.suite a _, I.os, I.bare, I.base, I.loc, I.cell, I.free, I.freeC, fun p hp => I.pin p (by rw [List.append_nil] at hp; exact hp), I.hok, I.len⟩
theorem inv_back {pn' : List (Addr × Obj)} (I : Inv (X.suite a (X.pn ++ pins)) pn' σ H s4) (ok : X.Ok) : Inv X pins σ H s4 :=
  ⟨ok, I.os, I.bare, I.base, I.loc, I.cell, I.free, I.freeC, fun p hp => I.pin p (List.mem_append_left _ hp), I.hok, I.len⟩
end
/-- the wish of 'except x as n': what comes of x's class is bound to slot i and goes on -/
def wKx (K : PySem.W.Frag) (c : Value) (i : Nat) (ts : TS) (Wout : WX) (D : Ends) : WX := fun cls d σ H =>
  ∃ b, PySem.W.exmOne K cls c = some b ∧ (b = true → ∃ C dx, cls = .ref C ∧ d = some dx ∧ ∀ a, H a = none → ts { nx := fun σ' H' => D.nx (σ'.set i none) H', rt := D.rt, bk := fun σ' H' => D.bk (σ'.set i none) H', ct := fun σ' H' => D.ct (σ'.set i none) H' } (σ.set i (some (.ref a))) (upd H a (XcO a C dx))) ∧
    (b = false → Wout cls d σ H)
section
variable {X : Cx} {x n : Str} {c : Value} {i : Nat} {body suite : List Stmt} {b₀ : Stmt} {np pos pos' : Pos} {tb : WX → TS} {ts : TS} {Wout : WX}
theorem ps_try_kx (hs : X.stack = X.env :: X.outer) (hf : X.env.frame = some X.env.locals) (hex : X.ex = []) (hN : X.N.Nodup) (hi : X.N[i]? = some n) (hln : X.env.kindOf n = some .local) (hc : Names X x c) (tk : Takes X Wout)
    (hb : ∀ (W : WX) (pn : List (Addr × Obj)) (xe : Value → Shared → Prop), Takes (X.tr pn xe) W → PassesOwn (model X.prog X.w) X.A X.env xe → PSs (X.tr pn xe) body (tb W))
    (hsu : ∀ (a : Addr) (pn : List (Addr × Obj)), PSs (X.suite a pn) (b₀ :: suite) ts) :
    PS X (.Try body [.ExceptHandler (some (.Name x np)) (some n) (b₀ :: suite) pos'] [] [] pos) (fun D σ H => tb (wKx X.K c i ts Wout D) D σ H) := by
  refine ⟨fun pins s σ H D I h => wpAny_Try_except ?_⟩
  have ok := I.ok
  have hfr : X.A.frames = some (X.env :: X.outer) := ok.frames.trans (congrArg some hs)
  let xe' : Value → Shared → Prop := fun e s₁ => wpAny (model X.prog X.w) X.A (noteFrame e X.env) (fun _ s₂ => wpAny (model X.prog X.w) X.A (setFlight e none) (fun _ s₃ =>
    wpAny (model X.prog X.w) X.A (handleBy e X.env [.ExceptHandler (some (.Name x np)) (some n) (b₀ :: suite) pos']) (SP X pins D) X.xe s₃) X.xe s₂) X.xe s₁
  have catch_ : Takes (X.tr (X.pn ++ pins) xe') (wKx X.K c i ts Wout D) := fun u s' xx => by
    obtain ⟨a, B, sI, pins', σ1, H1, cls, d, eu, J', nb, up, sky, na, os, ag, b, hb1, hyes, hno⟩ := xx
    subst eu
    have J : Inv X pins σ1 H1 sI := J'.ofTry ok
    have skyL : Sky B (X.env :: X.outer) a (Zc cls d) X.env.locals s'.heap := by rw [← hs]; exact sky
    show wpAny (model X.prog X.w) X.A (noteFrame (.ref a) X.env) _ _ _
    refine Sky.land Zc.steady hfr hf skyL fun h3 fl3 up3 => ?_
    have J3 : Inv X pins σ1 H1 { s' with heap := h3 } := J.landed nb fl3.1 (up.trans up3) os ag
    obtain ⟨oe3, vs3, he3, hz3, hd3⟩ := fl3.there
    have nfr : a ∉ frs (X.env :: X.outer) := fun hm => by
      obtain ⟨_, o', e', hnf⟩ := fl3.2.2.1.mem hm
      have e' : h3.get? a = some o' := e'
      rw [he3] at e'
      cases e'
      exact hnf _ hd3
    have nL : a ≠ X.env.locals := fun z => nfr (List.mem_filterMap.mpr ⟨X.env, List.mem_cons_self, by rw [hf, z]⟩)
    have nF : a ∉ X.fs := fun hm => by
      obtain ⟨e, he, q⟩ := List.mem_filterMap.mp hm
      exact nfr (List.mem_filterMap.mpr ⟨e, List.mem_cons_of_mem _ he, q⟩)
    have nI : sI.heap.get? a = none := by
      cases z : sI.heap.get? a with
      | none => rfl
      | some o =>
        have zB := nb a o z (by rw [hs]; exact nfr)
        have fB : B.get? a = none := fl3.2.1
        rw [fB] at zB
        cases zB
    have S3 := J3.suite he3 hd3 na nL nF
    refine wpAny_handleBy_cons (codeAny_handlers_test ?_) (by intro q; cases q)
    have LT : PySem.W.Looks (model X.prog X.w) h3 (typeOf (.ref a)) cls := fun A Q E s k q => wpAny_typeOf_ref (k _ _ he3) (by rw [hz3.1]; exact q)
    have test : ∀ {Q : Value → Shared → Prop} {E : Value → Shared → Prop}, Q c { s' with heap := h3 } → wpAny (model X.prog X.w) (X.A.mark (some (.ref a))) (eval (.Name x np) X.env) Q E { s' with heap := h3 } := fun {Q E} q => by
      obtain ⟨hg, hdbg, hm⟩ := hc
      rcases hm with hm | ⟨hm, hv, hnn⟩
      · exact ld_glob (X := X.suite a ((a, oe3) :: (X.pn ++ pins))) S3 hg hm q hdbg
      · exact ld_blt (X := X.suite a ((a, oe3) :: (X.pn ++ pins))) S3 hg hm hv q hnn hdbg
    refine test ((PySem.W.exm_one (M := model X.prog X.w) (J3.kIn) LT hb1).here ?_)
    cases b with
    | true =>
      obtain ⟨C, dx, rfl, rfl, hy⟩ := hyes rfl
      refine codeAny_handlers_suite_as (HandSPX.lands_againZ fl3 fun h4 fl4 up4 => ?_)
      have J4 : Inv X pins σ1 H1 { s' with heap := h4 } := J.landed nb fl4.1 ((up.trans up3).trans up4) os ag
      obtain ⟨oe4, vs4, he4, hz4, hd4⟩ := fl4.there
      have nex : a ∉ X.ex := by rw [hex]; exact List.not_mem_nil
      have J5 : Inv X pins σ1 (upd H1 a (XcO a C dx)) { s' with heap := h4 } := inv_trk J nI na nex J4 he4 hz4 hd4
      have S5 : Inv (X.suite a (X.pn ++ pins)) [] σ1 (upd H1 a (XcO a C dx)) { s' with heap := h4 } := inv_suite J5
      refine store_ok (X := X.suite a (X.pn ++ pins)) (v := .ref a) S5 hN hi (.inl hln) rfl (fun s6 S6 => ?_) (.inr hln)
      have end_ : ∀ {σ6 : L2.St} {H6 : Hp} {s7 : Shared} {Q : Shared → Prop}, Inv (X.suite a (X.pn ++ pins)) [] σ6 H6 s7 → (∀ s8, Inv X pins (σ6.set i none) H6 s8 → Q s8) →
          wpAny (model X.prog X.w) X.A (do bindName X.env n .none; unbindBehindTheSuite X.env n pos') (fun _ s8 => Q s8) X.xe s7 := fun {σ6 H6 s7 Q} S7 hq => gone_ok (inv_back S7 ok) hN hi hln hq
      refine wpAny_mono ((hsu a (X.pn ++ pins)).run [] s6 _ _ _ S6 (hy a na)) (fun f s7 hsp => ?_) (fun _ _ z => False.elim z)
      cases f with
      | ret u =>
        obtain ⟨v6, σ6, H6, S7, r6, q6⟩ := hsp
        exact end_ S7 fun s8 J8 => ⟨_, _, _, J8, r6, q6⟩
      | next =>
        obtain ⟨σ6, H6, S7, q6⟩ := hsp
        exact end_ S7 fun s8 J8 => ⟨_, _, J8, q6⟩
      | brk =>
        obtain ⟨σ6, H6, S7, q6⟩ := hsp
        exact end_ S7 fun s8 J8 => ⟨_, _, J8, q6⟩
      | cont =>
        obtain ⟨σ6, H6, S7, q6⟩ := hsp
        exact end_ S7 fun s8 J8 => ⟨_, _, J8, q6⟩
    | false =>
      show wpAny _ X.A (handleBy (.ref a) X.env []) _ _ _
      have onw : wpAny (model X.prog X.w) X.A (setFlight (.ref a) X.env.frame) (fun _ s4 => wpAny (model X.prog X.w) X.A (throw (.ref a) : Sem Flow) (SP X pins D) X.xe s4) X.xe { s' with heap := h3 } := by
        rw [hf]
        exact HandSPX.setFlight_upZ fl3 fun h4 hh4 up4 => wpAny_throw (tk _ _ ⟨a, B, sI, pins, σ1, H1, cls, d, rfl, J, nb, (up.trans up3).trans up4, .inr (.inr (by rw [hs]; exact hh4)), na, os, ag, hno rfl⟩)
      obtain ⟨oe, vs, T, oT, ts', he, hz, hd, h1, hr⟩ := fl3.2.2.2
      refine wpAny_handleBy_nil ?_
      unfold PySem.passOn
      refine wpAny_bind (wpAny_field he hd h1 ?_)
      rw [if_neg (show ¬ ((Value.ref T == Value.none) = true) from by simp)]
      first
        | exact wpAny_bind (wpAny_pure (wpAny_bind onw))
        | exact wpAny_bind onw
  refine wpAny_mono ((hb (wKx X.K c i ts Wout D) (X.pn ++ pins) xe' catch_ PassesOwn.looking).run [] s σ H D (I.toTry _) h) (fun f s1 hsp => ?_) (fun e s1 he => he)
  cases f with
  | ret u =>
    obtain ⟨v, σ', H', J', r, q⟩ := hsp
    exact ⟨v, σ', H', J'.ofTry ok, r, q⟩
  | next =>
    obtain ⟨σ', H', J', q⟩ := hsp
    exact wpAny_execs_nil ⟨σ', H', J'.ofTry ok, q⟩
  | brk =>
    obtain ⟨σ', H', J', q⟩ := hsp
    exact ⟨σ', H', J'.ofTry ok, q⟩
  | cont =>
    obtain ⟨σ', H', J', q⟩ := hsp
    exact ⟨σ', H', J'.ofTry ok, q⟩
end
end D
set_option Elab.async false
set_option linter.all false
set_option maxRecDepth 100000
set_option maxHeartbeats 2000000
/-! X5: a lambda handed to a def that calls it within a try. -/
namespace D
open PySem PySem.Spec PyProof.Rows L2 SlX ZG LamX
section
variable {X : Cx} {pins : List (Addr × Obj)} {σ : L2.St} {H : Hp} {s : Shared}
/-- the handed lambda is called; what it may let out is told of the caller's slots -/
theorem act_x {Ng : List Str} {x : Str} {sg : Scope} {g f c' : Addr} {cdg pm ctv : Value} {params : Arguments} {body : Expr} {scope : Scope} {k : Nat} {a : Str} {pn : List (Addr × Obj)} {xe : Value → Shared → Prop} {W : WX} {tb : XK → TE} {p1 p2 : Pos}
    (I : Inv X pins σ H s) (L : LamS X.env.scope scope) (hf : s.heap.get? f = some (PySem.W.kla_obj "<lambda>" (X.env.qual ++ "<lambda>") params body scope (cloFrom X.env.cells scope.names []) pm c' ctv)) (hfn : H f = none) (hfr : f ∉ frs X.stack)
    (hbind : bindArgs (PySem.W.kla_fn "<lambda>" (X.env.qual ++ "<lambda>") params body scope (cloFrom X.env.cells scope.names []) pm (.ref c') ctv) ⟨[], []⟩ = pure [])
    (tk : Takes ((cxOf C8.CX0 X.prog X.w X.K X.mg X.base Ng x sg g cdg X.A X.stack s H C8.E0).tr pn xe) W) (hr : Room (k + 1) (X.A.deeper (envOfC x sg s.heap.objs.size g cdg)))
    (hbody : ∀ (A : Around) (outer : List Env) (s : Shared) (H : Hp) (E : XK), Room k (A.deeper (lamEnv X scope s.heap.objs.size f c')) → PE (lamCx X A outer s H E scope f c') body (tb E))
    (hN : Ng[0]? = some a) (hv : Vis sg a) (hd : (a == ("__debug__" : Str)) = false) (hcd : (a == ("__classdict__" : Str)) = false) :
    PE ((cxOf C8.CX0 X.prog X.w X.K X.mg X.base Ng x sg g cdg X.A X.stack s H C8.E0).tr pn xe) (.Call (.Name a p1) [] [] p2)
      (fun σZ HZ Q => σZ[0]? = some (some (.ref f)) ∧ HZ c' = some (CodeO c' (X.env.qual ++ "<lambda>")) ∧ ∃ (E : XK) (Q' : VK), (∀ cls d H', E cls d H' → W cls d σZ H') ∧ (∀ v H', Q' v H' → Q v H') ∧ tb E σ HZ Q') := ⟨fun pz sz σz Hz Q Iz ⟨h0, hc, E, Q', hW, hQ, ht⟩ => by
  refine wpAny_Call_Name_kw (thn ((pe_var (pos := p1) (i := 0) hN hv hd hcd).run pz sz σz Hz (fun v H1 => v = .ref f ∧ H1 = Hz) Iz ⟨.ref f, h0, rfl, rfl⟩) fun u s1 ⟨v, H1, I1, r1, ev, eH⟩ => ?_)
  subst ev
  subst eH
  have eu : u = Value.ref f := r1
  subst eu
  have fAt := I1.base.keep f _ hf hfn hfr (fun z => nomatch (show f ∈ ([] : List Addr) from z))
  obtain ⟨⟨oc, vs, t, hoc, hdc, hvc⟩, _, _⟩ := I1.hok c' _ hc
  have run : codeAny (model X.prog X.w) (X.A.deeper (envOfC x sg s.heap.objs.size g cdg)) (.call (.ref f) ⟨[], []⟩) (CR (L2.CX X.prog X.w) (envOfC x sg s.heap.objs.size g cdg :: X.stack) X.prog X.w H1 s1 Q' E) s1 := by
    refine PySem.W.kla_callFunE hr.depth fAt rfl L.co L.gen rfl ⟨c', oc, vs, t, rfl, hoc, hdc, hvc⟩ ?_
    rw [hbind]
    refine wpAny_pure (wpAny_newFunctionEnv (fun y hy => (L.own y hy).2) (fun y hy => absurd hy (by simp)) (fun h₁ hns hsb => ⟨I1.nolimit.fresh _ hsb, ?_⟩) L.kind)
    have kp : ∀ b o, s1.heap.get? b = some o → h₁.get? b = some o := fun b o e => hsb.extBut b o (Nat.ne_of_lt (Heap.lt_size e)) (Heap.get?_push_of_some _ e)
    have J := lam_start2 (tk := s1.toks + ([] : List (Str × Value)).length) (E := E) (f := f) (c' := c') I L I1.env0 hr.hd I1.base hns kp
    exact PySem.W.kla_codeExpr (wpAny_mono ((hbody _ _ s1 H1 E (hr.deeper _)).run [] _ _ H1 Q' J ht) (fun v s' ⟨w', H', J', rv, q⟩ => ⟨w', H', J'.os, J'.bare, J'.base, J'.hok, rv, q⟩) fun e s' hq => hq)
  refine PySem.W.callWith_F0 ⟨_, _, _, _, fAt⟩ (wpAny_call (codeAny_mono run fun r s' hq => ?_))
  cases r with
  | error e => exact tk e s' (XE.of_call I1 hW hq)
  | ok fl =>
    cases fl with
    | ret u =>
      obtain ⟨v, H', b1, b2, b3⟩ := I1.after hq
      exact ⟨v, H', b1, b2, hQ _ _ b3⟩
    | next => exact hq.elim
    | brk => exact hq.elim
    | cont => exact hq.elim⟩
end
/-- a def that calls what it is handed -/
def GivesX (X : Cx) (Ng : List Str) (x : Str) (sg : Scope) (g : Addr) (cdg : Value) (bg : List Stmt) (a : Str) (q : Str) (TT : (XK → Hp → VK → Prop) → Hp → VK → Prop) : Prop :=
  ∀ (f c' : Addr) (s : Shared) (H : Hp) (Q : VK) (tl : XK → Hp → VK → Prop),
    (∀ (W : WX) (pn : List (Addr × Obj)) (xe : Value → Shared → Prop) (p1 p2 : Pos), Takes ((cxOf C8.CX0 X.prog X.w X.K X.mg X.base Ng x sg g cdg X.A X.stack s H C8.E0).tr pn xe) W →
      PE ((cxOf C8.CX0 X.prog X.w X.K X.mg X.base Ng x sg g cdg X.A X.stack s H C8.E0).tr pn xe) (.Call (.Name a p1) [] [] p2) (fun σZ HZ Q => σZ[0]? = some (some (.ref f)) ∧ HZ c' = some (CodeO c' q) ∧ ∃ (E : XK) (Q' : VK), (∀ cls d H', E cls d H' → W cls d σZ H') ∧ (∀ v H', Q' v H' → Q v H') ∧ tl E HZ Q')) →
    H c' = some (CodeO c' q) → TT tl H Q →
    ∃ t, PSs (cxOf C8.CX0 X.prog X.w X.K X.mg X.base Ng x sg g cdg X.A X.stack s H C8.E0).nox bg t ∧ t { nx := fun _ H' => Q .non H', rt := Q } (L2.start Ng [.ref f]) H
section
variable {X : Cx}
theorem pe_lamx {TT : (XK → Hp → VK → Prop) → Hp → VK → Prop} {T : List (Addr × Str)} {x a : Str} {g c P : Addr} {k : Nat} {pg : Arguments} {bg : List Stmt} {sg : Scope} {fd : FuncData} {Ng : List Str} {params : Arguments} {body : Expr} {scope : Scope} {t : XK → TE} {p lpos pos : Pos}
    (hg : Gl X x) (hm : X.mg x = some (.ref g)) (F : FunD X.K x x pg bg sg [] [] g fd) (hb : L2.Binds X.K fd [a] []) (Sg : FnScope Ng [a] sg) (hNg : Ng[0]? = some a) (hva : Vis sg a) (hG : ∀ cdg, GivesX X Ng x sg g cdg bg a (X.env.qual ++ "<lambda>") TT)
    (TB : TabB X.base X.mg c P) (hcode : X.env.code = .ref c) (hmT : (P, X.env.qual ++ "<lambda>") ∈ T) (hu : ∀ p ∈ T, p.1 = P → p.2 = X.env.qual ++ "<lambda>") (hr : Room (k + 2) X.A) (L : LamS X.env.scope scope) (hdef : defaultsOf params X.env = ([], []))
    (hbind : ∀ (q : Str) (cl : List (Str × Addr)) (pm cv ctv : Value), bindArgs (PySem.W.kla_fn "<lambda>" q params body scope cl pm cv ctv) ⟨[], []⟩ = pure [])
    (hbody : ∀ (A : Around) (outer : List Env) (s : Shared) (H : Hp) (E : XK) (f c' : Addr), Room k (A.deeper (lamEnv X scope s.heap.objs.size f c')) → PE (lamCx X A outer s H E scope f c') body (t E))
    (hdb : (x == ("__debug__" : Str)) = false := by decide) (hd : (a == ("__debug__" : Str)) = false := by decide) (hcd : (a == ("__classdict__" : Str)) = false := by decide) :
    PE X (.Call (.Name x p) [.Lambda params body scope lpos] [] pos) (tLam T TT t) := ⟨fun pins s σ H Q I ⟨hT, h⟩ => by
  obtain ⟨⟨oc, od, dV, kV, doc, pm, an, cdv, ct, osl, rfl, lk, hcg, _, _⟩, hk⟩ := F
  refine wpAny_Call_Name_kw (ld_glob I hg hm ?_ hdb)
  refine PySem.W.callWith_K (h₀ := X.base) I.ok.mod.kin hk ?_ (by rfl) (by rfl)
  refine Calls.spliced_cons (lam_make2 I TB hcode hmT hu hT hdef (L.has I.ok) fun f c' pm' ctv H1 s' I1 eN T1 hf hfn hfr hco => Calls.spliced_nil ⟨I1.kIn, ?_⟩)
  refine wpAny_call (codeAny_mono (R := CR C8.CX0 X.stack X.prog X.w H1 s' Q C8.E0) ?_ fun r s2 hq => ?_)
  · refine run_ofS (N := Ng) (ps := [a]) (us := [.ref f]) (vs := [.ref f]) lk hcg Sg hr I1.env0 (hb s' [.ref f] I1.kIn rfl) (.cons rfl .nil) rfl fun hr' => ?_
    obtain ⟨t', ht', hq'⟩ := hG cdv f c' s' H1 Q (fun E H' Q' => t E σ H' Q') (fun W pn xe p1 p2 tk => act_x I1 L hf hfn hfr (hbind _ _ _ _ _) tk hr' (fun A outer s H E hr2 => hbody A outer s H E f c' hr2) hNg hva hd hcd) hco (h H1 eN T1)
    exact ⟨t', ht'.nox, hq'⟩
  · cases r with
    | error e => exact (show False from hq).elim
    | ok fl =>
      cases fl with
      | ret u => exact I1.after hq
      | next => exact hq.elim
      | brk => exact hq.elim
      | cont => exact hq.elim⟩
/-- heard: what was raised, what was told -/
def TTh (K : PySem.W.Frag) (CS : Addr) : (XK → Hp → VK → Prop) → Hp → VK → Prop := fun tl H Q => ∀ p0, H p0 = none →
  tl (fun cls d H' => PySem.W.exmOne K cls (.ref CS) = some true ∧ ∃ C dx, cls = .ref C ∧ d = some dx ∧ ∀ a, H' a = none → ∀ p, upd H' a (XcO a C dx) p = none → Q (.ref p) (upd (upd H' a (XcO a C dx)) p (.tup [.ref a, .non]))) (upd H p0 (.tup [.non, .non]))
    fun v H' => ∀ p, H' p = none → Q (.ref p) (upd H' p (.tup [.non, v]))
theorem heard_gives {x q e : Str} {sg : Scope} {g CS : Addr} {cdg : Value} {j1 j2 : Nat} {p1 p2 p3 p4 p5 p6 p7 p8 p9 p10 p11 q1 q2 q3 q4 q5 q6 q7 q8 q9 q10 : Pos} {k1 k2 k3 : Nat} (hge : sg.names.lookup e = some .globalImplicit) (hme : X.mg e = some (.ref CS)) (hde : (e == ("__debug__" : Str)) = false)
    (h1 : sg.names.lookup ("call" : Str) = some .local) (h2 : sg.names.lookup ("caught" : Str) = some .local) (h3 : sg.names.lookup ("back" : Str) = some .local) (h4 : sg.names.lookup ("error" : Str) = some .local)
    (hw : ∀ L : Addr, swappedStores [.Tuple [.Name "caught" p1, .Name "back" p2] k1 p3] (.Tuple [.Constant .none j1 p4, .Constant .none j2 p5] k2 p6) (envOfC x sg L g cdg) = (pure none : Sem (Option (List Str)))) :
    GivesX X ["call", "caught", "back", "error"] x sg g cdg [.Assign [.Tuple [.Name "caught" p1, .Name "back" p2] k1 p3] (.Tuple [.Constant .none j1 p4, .Constant .none j2 p5] k2 p6) p7,
      .Try [.Assign [.Name "back" p8] (.Call (.Name "call" p9) [] [] p10) p11] [.ExceptHandler (some (.Name e q1)) (some "error") [.Assign [.Name "caught" q2] (.Name "error" q3) q4] q5] [] [] q6, .Return (some (.Tuple [.Name "caught" q7, .Name "back" q8] k3 q9)) q10] "call" q (TTh X.K CS) := by
  intro f c' s H Q tl act hc h
  have nd : (["call", "caught", "back", "error"] : List Str).Nodup := by decide
  have S1 := ps_asg (X := (cxOf C8.CX0 X.prog X.w X.K X.mg X.base ["call", "caught", "back", "error"] x sg g cdg X.A X.stack s H C8.E0).nox) (pos := p7) (pe_tup (x1 := k2) (pos := p6) (pa_cons (pe_non (j := j1) (pos := p4)) (pa_cons (pe_non (j := j2) (pos := p5)) pa_nil)))
    (pg_tup (k := k1) (pos := p3) (n := 2) rfl (pgs_cons (pg_name (i := 1) (pos := p1) nd rfl (.inl h2)) (pgs_cons (pg_name (i := 2) (pos := p2) nd rfl (.inl h3)) pgs_nil))) rfl (hw s.heap.objs.size)
  have S2 := ps_try_kx (X := (cxOf C8.CX0 X.prog X.w X.K X.mg X.base ["call", "caught", "back", "error"] x sg g cdg X.A X.stack s H C8.E0).nox) (i := 3) (x := e) (n := "error") (c := .ref CS) (np := q1) (pos := q6) (pos' := q5) (Wout := fun _ _ _ _ => False) rfl rfl rfl nd rfl h4 ⟨hge, hde, .inl hme⟩ L2.takes0
    (fun W pn xe tk _ => pss_one (ps_set (i := 2) (x := "back") (pos' := p8) (pos := p11) nd rfl (.inl h3) (act W pn xe p9 p10 tk)))
    (fun a pn => pss_one (ps_set (i := 1) (x := "caught") (pos' := q2) (pos := q4) nd rfl (.inl h2) (pe_var (i := 3) (pos := q3) rfl (.inl h4))))
  have S3 := ps_ret (X := (cxOf C8.CX0 X.prog X.w X.K X.mg X.base ["call", "caught", "back", "error"] x sg g cdg X.A X.stack s H C8.E0).nox) (pos := q10) (pe_tup (x1 := k3) (pos := q9) (pa_cons (pe_var (i := 1) (pos := q7) rfl (.inl h2)) (pa_cons (pe_var (i := 2) (pos := q8) rfl (.inl h3)) pa_nil)))
  refine ⟨_, pss_cons S1 (pss_cons S2 (pss_one S3)), by rw [sizeLine_eq]; show 2 ≤ _; omega, fun p0 hp0 => ⟨p0, _, rfl, .inl (Rd.of upd_same), rfl, .non, [.non], rfl, .non, [], rfl, rfl, rfl, by rw [upd_ne (ne_of_none hc hp0)]; exact hc, _, _, ?_, ?_, h p0 hp0⟩⟩
  · intro cls d H' z
    obtain ⟨ex, C, dx, e1, e2, hq⟩ := z
    subst e1
    exact ⟨true, ex, fun _ => ⟨C, dx, rfl, e2, fun a na => ⟨.ref a, rfl, .ref a, rfl, .non, rfl, by rw [sizeLine_eq]; show 2 ≤ _; omega, hq a na⟩⟩, fun z => by cases z⟩
  · intro v H' hq
    exact ⟨.non, rfl, v, rfl, by rw [sizeLine_eq]; show 2 ≤ _; omega, hq⟩
end
end D
set_option Elab.async false
set_option linter.all false
set_option maxRecDepth 100000
set_option maxHeartbeats 2000000
/-! X6: heard, in the D layer. -/
namespace D
open PySem PySem.Spec PyProof.Rows L2 SlX ZG LamX
theorem heap_at (a : Addr) (o : Obj) (f : o.isFreed = false) : ∃ h : Heap, h.get? a = some o := by
  have sz : ∀ n : Nat, ∃ h : Heap, h.objs.size = n := fun n => by
    induction n with
    | zero => exact ⟨{}, rfl⟩
    | succ n ih =>
      obtain ⟨h, e⟩ := ih
      exact ⟨h.push o, by rw [← e]; show (h.objs.push o).size = _; simp⟩
  obtain ⟨h, e⟩ := sz a
  exact ⟨h.push o, by rw [← e]; exact Heap.get?_push_size _ f⟩
theorem slO_code {a C dx : Addr} {vs : List (Option V)} {q : Str} : SlO a C dx vs ≠ CodeO a q := fun z => by
  obtain ⟨h, hh⟩ := heap_at a { cls := .none, data := .fields #[.none, .str q 0] } rfl
  have e := HO.ext.inj z
  have c : ∃ (oc : Obj) (vs : Array Value) (t : Tok), h.get? a = some oc ∧ oc.data = .fields vs ∧ vs[1]? = some (.str q t) := ⟨_, _, 0, hh, rfl, rfl⟩
  rw [← congrFun e h] at c
  obtain ⟨sl, c1, _⟩ := c
  rw [hh] at c1
  cases c1
section
variable {K : PySem.W.Frag} {cl : Cl} {W W1 : Wd} {H H1 : Hp} {h : Hs}
theorem HRel.tabs (rel : HRel K cl W h H) : Tabs cl.T H := fun p hp => by
  obtain ⟨ps, h1, h2, h3⟩ := rel.tb p hp
  exact ⟨ps, h1, h2, fun pos cv e => by
    obtain ⟨c, e1, _, e2⟩ := h3 pos cv e
    exact ⟨c, e1, e2⟩⟩
/-- the world with all code objects frozen -/
def Wd.co (W : Wd) (H : Hp) : Wd := ⟨W.ρ, fun b => W.F b ∨ ∃ q, H b = some (CodeO b q)⟩
/-- a lambda was made: nothing but tables changed -/
theorem HRel.lam (rel : HRel K cl W h H) (t0 : cl.T ≠ []) (e : ExtN H H1) (t : Tabs cl.T H1) : Ext W H (W.co H1) H1 ∧ HRel K cl (W.co H1) h H1 := by
  have keep : ∀ a, W.F a → H1 a = H a := fun a q => by
    obtain ⟨o, ho⟩ := rel.tr a q
    exact (e a o ho fun ps z => rel.nt t0 a q ps (by rw [ho, z])).trans ho.symm
  have ext : Ext W H (W.co H1) H1 := ⟨fun _ _ q => q, fun _ q => .inl q, keep, fun _ _ q => .inl q⟩
  have st : ∀ {b : Addr} {u : HO}, H b = some u → (∀ ps, u ≠ .tbl ps) → H1 b = some u := fun q n => e _ _ q n
  have nf : ∀ {b : Addr} {u : HO}, H b = some u → (∀ q, u ≠ CodeO b q) → (∀ ps, u ≠ .tbl ps) → ¬ W.F b → ¬ (W.co H1).F b := fun {b u} q n n2 f z => by
    rcases z with z | ⟨q', z⟩
    · exact f z
    · rw [st q n2] at z
      exact n q' (Option.some.inj z)
  refine ⟨ext, rel.len, rel.nd, fun a q => ?_, fun p hp => ?_, fun n o a dx h1 h2 => ?_, rel.sep, fun p hp => ?_, fun _ a q ps z => ?_⟩
  · rcases q with q | ⟨q, z⟩
    · obtain ⟨o, ho⟩ := rel.tr a q
      exact ⟨o, (keep a q).trans ho⟩
    · exact ⟨_, z⟩
  · obtain ⟨o, ho, no⟩ := rel.tr2 p hp
    exact ⟨o, st ho no, no⟩
  · have ok := rel.ok n o a dx h1 h2
    cases o with
    | lst ds =>
      obtain ⟨k1, xs, k2, k3⟩ := ok
      exact ⟨nf k2 (fun _ z => by cases z) (fun _ z => by cases z) k1, xs, st k2 (fun _ z => by cases z), k3.mono ext⟩
    | dic ds =>
      obtain ⟨k1, xs, k2, k3⟩ := ok
      exact ⟨nf k2 (fun _ z => by cases z) (fun _ z => by cases z) k1, xs, st k2 (fun _ z => by cases z), k3.mono ext⟩
    | dfz ds =>
      obtain ⟨k1, od, xs, k2, k3⟩ := ok
      exact ⟨.inl k1, od, xs, st k2 (fun _ z => by cases z), k3.mono ext⟩
    | pot k ds =>
      obtain ⟨k1, i, j, l, k2, k3⟩ := ok
      exact ⟨nf k2 (fun _ z => by cases z) (fun _ z => by cases z) k1, i, j, l, st k2 (fun _ z => by cases z), k3⟩
    | dead => exact True.intro
    | ins c fs =>
      obtain ⟨n1, n2, ne, ⟨u, hu, ow⟩, vs, sl, r⟩ := ok
      have nu : (∀ q, u ≠ CodeO dx q) ∧ ∀ ps, u ≠ .tbl ps := by
        rcases ow with ⟨y, ow⟩ | ow <;> (rw [ow]; exact ⟨fun _ z => (by cases z), fun _ z => (by cases z)⟩)
      have ha : ∃ u, H a = some u ∧ (∀ q, u ≠ CodeO a q) ∧ ∀ ps, u ≠ .tbl ps := by
        rcases sl with ⟨q, _⟩ | ⟨q, _⟩
        · exact ⟨_, q, fun _ z => (by cases z), fun _ z => (by cases z)⟩
        · exact ⟨_, q, fun q' z => slO_code z, fun _ z => (by have z' : HO.ext _ = HO.tbl _ := z; cases z')⟩
      obtain ⟨v, hv, v1, v2⟩ := ha
      refine ⟨nf hv v1 v2 n1, nf hu nu.1 nu.2 n2, ne, ⟨u, st hu nu.2, ow⟩, vs, ?_, r.mono ext⟩
      rcases sl with ⟨q, q2⟩ | ⟨q, q2⟩
      · exact .inl ⟨st q (fun _ z => by cases z), q2⟩
      · exact .inr ⟨st q (fun _ z => by have z' : HO.ext _ = HO.tbl _ := z; cases z'), st q2 (fun _ z => by cases z)⟩
  · obtain ⟨ps, h1, h2, h3⟩ := t p hp
    exact ⟨ps, h1, h2, fun pos cv y => by
      obtain ⟨c, e1, e2⟩ := h3 pos cv y
      exact ⟨c, e1, .inr ⟨_, e2⟩, e2⟩⟩
  · rcases q with q | ⟨q, y⟩
    · exact rel.nt (by assumption) a q ps ((keep a q).symm.trans z)
    · rw [z] at y
      cases y
/-- what was raised (none), what was told (none) -/
def eHeard (m : Ex) : Ex := fun sl h => match m sl h with
  | .ok v h' => .ok (.tup [.non, v]) h'
  | .err c v h' => .ok (.tup [.exc c v, .non]) h'
  | .stuck => .stuck
end
section
variable {X : Cx} {cl : Cl}
theorem de_heard {CS : Addr} {x : Str} {a : Str} {g c P : Addr} {k : Nat} {pg : Arguments} {bg : List Stmt} {sg : Scope} {fd : FuncData} {Ng : List Str} {params : Arguments} {body : Expr} {scope : Scope} {m : Ex} {p lpos pos : Pos}
    (t0 : cl.T ≠ []) (hex : ∀ c, PySem.W.exmOne X.K (.ref (cl.ex c)) (.ref CS) = some true)
    (hg : Gl X x) (hm : X.mg x = some (.ref g)) (F : FunD X.K x x pg bg sg [] [] g fd) (hb : L2.Binds X.K fd [a] []) (Sg : FnScope Ng [a] sg) (hNg : Ng[0]? = some a) (hva : Vis sg a) (hG : ∀ cdg, GivesX X Ng x sg g cdg bg a (X.env.qual ++ "<lambda>") (TTh X.K CS))
    (TB : TabB X.base X.mg c P) (hcode : X.env.code = .ref c) (hmT : (P, X.env.qual ++ "<lambda>") ∈ cl.T) (hu : ∀ p ∈ cl.T, p.1 = P → p.2 = X.env.qual ++ "<lambda>") (hr : Room (k + 2) X.A) (L : LamS X.env.scope scope) (hdef : defaultsOf params X.env = ([], []))
    (hbind : ∀ (q : Str) (cl : List (Str × Addr)) (pm cv ctv : Value), bindArgs (PySem.W.kla_fn "<lambda>" q params body scope cl pm cv ctv) ⟨[], []⟩ = pure [])
    (hbody : ∀ (A : Around) (outer : List Env) (s : Shared) (H : Hp) (E : XK) (f c' : Addr), Room k (A.deeper (lamEnv X scope s.heap.objs.size f c')) → DX cl (lamCx X A outer s H E scope f c') E body m)
    (hdb : (x == ("__debug__" : Str)) = false := by decide) (hd : (a == ("__debug__" : Str)) = false := by decide) (hcd : (a == ("__classdict__" : Str)) = false := by decide) :
    DE cl X (.Call (.Name x p) [.Lambda params body scope lpos] [] pos) (eHeard m) :=
  (pe_lamx (T := cl.T) (t := fun E => tX X.K cl E m) hg hm F hb Sg hNg hva hG TB hcode hmT hu hr L hdef hbind hbody hdb hd hcd).mono fun σ H Q ⟨W, h, sl, v, h', rel, rs, e, po⟩ => by
    refine ⟨rel.tabs, fun H1 eN T1 p0 hp0 => ?_⟩
    obtain ⟨ext9, rel9⟩ := rel.lam t0 eN T1
    have ext := ext9.trans (ext_new (o := .tup [.non, .non]) hp0 rel9)
    have rel1 := rel9.new (o := .tup [.non, .non]) hp0
    refine ⟨(W.co H1).fz p0, h, sl, rel1, rs.mono ext, ?_⟩
    unfold eHeard at e
    cases z : m sl h with
    | stuck => rw [z] at e; cases e
    | ok d h2 =>
      rw [z] at e
      cases e
      intro W2 H2 y ext2 rel2 rv p hp
      exact po _ _ _ ((ext.trans ext2).trans (ext_new hp rel2)) (rel2.new (o := .tup _) hp) (rv_tup rel2 hp (.cons .non (.cons rv .nil)))
    | err n d h2 =>
      rw [z] at e
      cases e
      intro W2 H2 dx y ext2 rel2 fd hd rv
      refine ⟨hex n, cl.ex n, dx, rfl, rfl, fun a ha p hp => ?_⟩
      have ext3 := ext_new (o := XcO a (cl.ex n) dx) ha rel2
      have rel3 : HRel X.K cl (W2.fz a) _ (upd H2 a (XcO a (cl.ex n) dx)) := rel2.new ha (fun ps z => (by have z' : HO.ext _ = HO.tbl _ := z; cases z'))
      have rv3 : RV X.K cl (W2.fz a) (upd H2 a (XcO a (cl.ex n) dx)) (.exc n d) (.ref a) := .exc (.inr rfl) (.inl fd) (ne_of_none hd ha) upd_same (by rw [upd_ne (ne_of_none hd ha)]; exact hd) (rv.mono ext3)
      exact po _ _ _ (((ext.trans ext2).trans ext3).trans (ext_new hp rel3)) (rel3.new (o := .tup _) hp) (rv_tup rel3 hp (.cons rv3 (.cons .non .nil)))
end
end D
set_option Elab.async false
set_option linter.all false
set_option maxRecDepth 100000
set_option maxHeartbeats 2000000
/-! X7: isinstance of what was caught, its value; calls that may raise: own operators, methods, classes. -/
namespace D
open PySem PySem.Spec PyProof.Rows L2 SlX ZG
section
variable {prog : Program} {w : World} {A : Around} {E : Value → Shared → Prop} {s : Shared} {K : PySem.W.Frag} {x C : Addr} {ox : Obj} {od : Option Obj}
theorem kin_cls {Q : Option Value → Shared → Prop} (T : ExcC K C) (X : K.In s.heap) (I : PySem.W.InstAt s.heap x ox C od) (h : Q (some (.ref C)) { s with toks := s.toks + 1 }) : wpAny (model prog w) A (getAttr? (.ref x) "__class__") Q E s := by
  have hf : PySem.W.findObj K C od "__class__" = some (.bind (.builtin "getset_descriptor.__get__") (.builtin "object.__class__")) := by
    obtain ⟨cd, hc, _⟩ := PySem.W.any_some T.hd
    unfold PySem.W.findObj
    rw [hc, Option.bind_some, T.ha, Option.bind_some]
    simp [T.hn, T.ht]
  obtain ⟨hp, gs, dr, tk, os⟩ := s
  have kT := I.type (M := model prog w)
  have kG := PySem.W.looks_findIn (M := model prog w) X T.hg
  have kA := PySem.W.looks_findIn (M := model prog w) X T.hk
  have kF := PySem.W.looks_find (M := model prog w) X I hf
  have kI : PySem.W.Looks (model prog w) hp (isInstance (.ref x) (.type "BaseException")) true := kT.andThen (PySem.W.looks_subIn X T.hs)
  have n0 : (false && onTheHeap (Value.builtin "BaseException.__getattribute__")) = false := rfl
  have n1 : (onTheHeap (Value.ref C) && Value.builtin "BaseException.__getattribute__" == Value.builtin "object.__getattribute__") = false := by
    rw [show (Value.builtin "BaseException.__getattribute__" == Value.builtin "object.__getattribute__") = false from by decide +kernel] <;> rfl
  unfold getAttr? getAttrBy? getAttrBy
  refine wpAny_bind (wpAny_mkText (wpAny_bind (wpAny_attempt (wpAny_holding (wpAny_bind (kT.at (wpAny_bind (kG.at ?_))))))))
  show wpAny _ _ (if (onTheHeap (Value.ref C) && Value.builtin "BaseException.__getattribute__" == Value.builtin "object.__getattribute__") = true then _ else _) _ _ _
  rw [n1, if_neg Bool.false_ne_true]
  unfold getAttrByItsOwn hookBefore
  refine wpAny_bind ?_
  rw [if_pos (show onTheHeap (Value.ref C) = true from rfl)]
  refine kA.at (wpAny_bind (wpAny_attempt (wpAny_holding ?_)))
  unfold callGetattribute
  rw [n0, if_neg Bool.false_ne_true]
  unfold boundAndCalled
  rw [PySem.F.excAttr_ValueError.ga.bind (.ref x)]
  refine wpAny_bind (wpAny_pure ?_)
  show wpAny _ _ (call (.builtin "BaseException.__getattribute__") [.ref x, .str "__class__" tk]) _ _ _
  refine wpAny_call (codeAny_call_builtin PySem.F.excAttr_ValueError.ga.plain PySem.F.entry_bexc_ga ?_)
  refine @PySem.W.check_slot (model prog w) _ _ ⟨hp, gs, dr, tk + 1, os⟩ "BaseException.__getattribute__" "BaseException" "__getattribute__" (.ref x) [.str "__class__" tk] [] _ (by decide +kernel) (by decide +kernel) kI (PySem.F.args_bexc_ga (.ref x) (.str "__class__" tk)) ?_
  unfold Builtin.«object.__getattribute__»
  refine wpAny_bind (wpAny_of_eq (a := ((Value.ref x : Value), [Value.str "__class__" tk])) (by first | rfl | (simp only [slotArgs]; rfl)) ?_)
  refine wpAny_bind (wpAny_pure (wpAny_bind (kT.at (wpAny_bind (kF.at ?_)))))
  show wpAny _ _ (holding [Value.builtin "object.__class__"] (call (.builtin "getset_descriptor.__get__") [.builtin "object.__class__", .ref x, .ref C]) >>= PySem.ret) _ _ _
  refine wpAny_bind (wpAny_holding (wpAny_call (PySem.W.class_get (s := ⟨hp, gs, dr, tk + 1, os⟩) (ox := ox) (od := od) X I T.hm ?_)))
  refine wpAny_pure ?_
  show wpAny _ _ (handedOut (.ref C)) _ _ _
  rw [PySem.W.handedOut_of (v := .ref C) rfl]
  first
    | exact wpAny_pure (wpAny_pure h)
    | exact wpAny_pure h
    | exact wpAny_pure (wpAny_bind (wpAny_pure (wpAny_pure h)))
theorem kit_cls (T : ExcC K C) : PySem.W.KitX K (.ref x) (.ref C) (fun h => PySem.W.InstAt h x ox C od) where
  ty := fun _ _ _ I => I.type
  it := fun _ _ X _ => by
    obtain ⟨cd, hc, _⟩ := PySem.W.any_some T.hd
    unfold PySem.W.clsIn at hc
    split at hc
    · rename_i ho
      intro A' Q' E' s' k q
      unfold isType loadHead
      exact wpAny_bind (wpAny_loadPart (k _ _ (X _ _ ho)) (wpAny_pure q))
    · cases hc
  ne := (PySem.W.handS_kitx_exc (x := x) (ox := ox) T.hg T.hk T.hs T.hd T.ha T.hn T.ht T.hm).ne
  ca := fun X I k => kin_cls T X I k
end
section
variable {K : PySem.W.Frag} {cl : Cl} {W W1 : Wd} {H H1 : Hp} {h h' : Hs} {X : Cx} {E : XK} {pos : Pos} {o e e2 ce : Expr} {es : List Expr} {ms : Exs} {m ma mb mo : Ex} {x : Str} {p : Pos}
/-- what is known of a caught exception -/
theorem xc_at {pins : List (Addr × Obj)} {σ : L2.St} {s : Shared} {a C dx : Addr} {fs : List (Str × V)} (I : Inv X pins σ H s) (ha : H a = some (XcO a C dx)) (hd : H dx = some (.xd fs)) : ∃ ox od, PySem.W.InstAt s.heap a ox C (some od) ∧ s.heap.get? dx = some od ∧
    ∃ mA : Str → Option Value, (∀ n, PySem.W.lookIn n od = some (mA n)) ∧ ∀ n, RelO (fs.lookup n) (mA n) := by
  have q : ObjOk X.prog X.w H s.heap a (.ext fun h => ∃ (o : Obj) (vs : Array Value), h.get? a = some o ∧ o.cls = .ref C ∧ o.dict = some dx ∧ o.data = .fields vs) := I.hok a _ ha
  obtain ⟨⟨ox, vs, h1, h2, h3, h4⟩, _⟩ := q
  have q2 : ObjOk X.prog X.w H s.heap dx (.xd fs) := I.hok dx _ hd
  obtain ⟨mA, hns, hr⟩ := q2
  obtain ⟨od, ho, hl⟩ := lookIn_ns hns
  exact ⟨ox, od, ⟨h1, h2, by unfold PySem.W.notCls; rw [h4] <;> rfl, by rw [h3]; exact ho⟩, ho, mA, hl, hr⟩
/-! ### isinstance -/
def rIsX (K : PySem.W.Frag) (u : Value) : List V → Hp → VK → Prop := fun xs H Q => ∃ (a C dx : Addr) (fs : List (Str × V)) (c : V) (b : Bool), xs = [V.ref a, c] ∧ RelV c u ∧ (∀ w, RelV c w → w = u) ∧ H a = some (XcO a C dx) ∧ H dx = some (.xd fs) ∧ ExcC K C ∧ PySem.W.kitOne K (.ref C) u = some b ∧ Q (.bl b) H
theorem call_isX (u : Value) : CallR X (.builtin "isinstance") (rIsX X.K u) := by
  intro pins s σ H xs us Q I r h
  obtain ⟨a, C, dx, fs, c, b, rfl, rc, one, ha, hd, T, hk, q⟩ := h
  obtain ⟨u1, u2, rfl, r1, r2⟩ := r.two
  cases (show u1 = Value.ref a from r1)
  cases one _ r2
  obtain ⟨ox, od, J, _⟩ := xc_at I ha hd
  exact PySem.W.kia_one (kit_cls T) I.kIn J hk (fun z => nomatch z) fun tk => ⟨.bl b, H, I.kept (t' := tk) fun _ _ z => z, rfl, q⟩
def eIsx (T : Tag → Option Bool) (TX : Nat → Option Bool) (m : Ex) : Ex := fun sl => bnd (m sl) fun d => match d with
  | .exc c _ => optV (TX c) .bl
  | d => bnd (tagM d) fun t => optV (T t) .bl
theorem de_isx {T : Tag → Option Bool} {TX : Nat → Option Bool} {u : Value} {cv : V} (hT : ∀ t b, T t = some b → PySem.W.kitOne X.K (tagV cl t) u = some b) (hO : ∀ c b, T (.ob c) = some b → SCls X.K (cl.ad c) ∧ SIsi X.K (cl.ad c))
    (hX : ∀ c b, TX c = some b → ExcC X.K (cl.ex c) ∧ PySem.W.kitOne X.K (.ref (cl.ex c)) u = some b)
    (hc : ClsV cv u) (rc : RelV cv u) (one : ∀ w, RelV cv w → w = u) (hg : Gl X "isinstance") (hm : X.mg "isinstance" = none) (he : DE cl X e ma) (hce : PE X ce (tC cv))
    (h1 : starEach [e, ce] X.env = (false, eval e X.env) :: starEach [ce] X.env := by rfl) (h2 : starEach [ce] X.env = (false, eval ce X.env) :: starEach [] X.env := by rfl) (hpl : (backTo pos (starEach [ce] X.env)).any (·.1) = false := by rfl) :
    DE cl X (.Call (.Name "isinstance" p) [e, ce] [] pos) (eIsx T TX ma) := by
  have p0 : PE X (.Call (.Name "isinstance" p) [e, ce] [] pos) _ := de_isi hT hO hc rc one hg hm he hce h1 h2 hpl
  have p3 : PE X (.Call (.Name "isinstance" p) [e, ce] [] pos) _ := pe_callB (call_isX u) hg hm boot_isinstance (pa_cons he (pa_cons hce pa_nil h2) h1) (by decide) (by decide) h1 hpl
  refine (p0.or p3).mono fun σ H Q q => ?_
  obtain ⟨W, h, sl, v, h', rel, rs, e, po⟩ := q
  obtain ⟨d, h1, e1, e2⟩ := bnd_ok e
  by_cases z : ∃ c y, d = .exc c y
  · obtain ⟨c, y, rfl⟩ := z
    obtain ⟨b, hb, rfl, rfl⟩ := optV_ok e2
    obtain ⟨T1, k1⟩ := hX c b hb
    refine .inr ⟨W, h, sl, _, _, rel, rs, e1, fun W1 H1 x ext rel1 rv => ?_⟩
    cases rv with
    | exc f1 f2 ne z1 z2 rr => exact ⟨_, _, _, _, cv, b, rfl, rc, one, z1, z2, T1, k1, po W1 H1 _ ext rel1 (.bl b)⟩
  · refine .inl ⟨W, h, sl, v, h', rel, rs, ?_, po⟩
    unfold eIsi bnd
    rw [e1]
    cases d <;> first | exact e2 | exact absurd ⟨_, _, rfl⟩ z
/-! ### .value -/
def eVal (m : Ex) : Ex := fun sl => bnd (m sl) fun d => match d with
  | .exc _ v => ret v
  | _ => stk
theorem de_val (hX : ∀ c, XfC X.K (cl.ex c) ∧ PySem.W.findIn X.K (.ref (cl.ex c)) "value" = some none) (he : DE cl X e ma) (hb : attributeBase e "value" X.env (eval e X.env) = eval e X.env := by rfl) : DE cl X (.Attribute e "value" pos) (eVal ma) := ⟨fun pins s σ H Q I ⟨W, h, sl, v, h', rel, rs, e, po⟩ => by
  obtain ⟨d, h1, e1, e2⟩ := bnd_ok e
  refine attr_of hb (thn (he.run pins s σ H (fun x H1 => ∃ W1, Ext W H W1 H1 ∧ HRel X.K cl W1 h1 H1 ∧ RV X.K cl W1 H1 d x) I ⟨W, h, sl, d, h1, rel, rs, e1, fun W1 H1 x ext rel1 rv => ⟨W1, ext, rel1, rv⟩⟩) fun u s1 ⟨x, H1, I1, rx, W1, ext, rel1, rv⟩ => ?_)
  cases rv with
  | exc f1 f2 ne z1 z2 rr =>
    cases e2
    obtain rfl : u = Value.ref _ := rx
    obtain ⟨T, no⟩ := hX _
    obtain ⟨ox, od, J, ho, mA, hl, hr⟩ := xc_at I1 z1 z2
    obtain ⟨y, hu, ru⟩ := RelO.some_of (v := _) (o := mA "value") (by simpa using hr "value")
    exact HandSPX.exc_get I1.kIn J T.ga T.gg T.exC (PySem.W.findObj_own T.hdC no rfl (by rw [hl, hu])) (handed_of ru) ⟨_, H1, I1.tok _, ru, po W1 H1 _ ext rel1 rr⟩
  | _ => cases e2⟩
/-! ### what may raise -/
def OwnX (X : Cx) (cl : Cl) (c : Nat) (n : Nat) (m : Str) (k : List DV → M DV) : Prop := ∃ (gf : Addr) (j : Nat), PySem.W.findIn X.K (.ref (cl.ad c)) m = some (some (.ref gf)) ∧ PySem.W.isFn X.K (.ref gf) = true ∧ FnR X.prog X.w X.K X.mg X.base (L2.CX X.prog X.w) j gf (spX X.K cl n k) ∧ Room j X.A
theorem ox_bin {op : Operator} {A : Nat → Option (List DV → M DV)} {g : DV → DV → M DV} (tk : Takes X (fun c d _ H => E c d H)) (hA : ∀ c k, A c = some k → PySem.W.selfFirst X.K (cl.ad c) = true ∧ OwnX X cl c 2 (PySem.dunder op.info.2) k)
    (hg : O2 cl X (binaryOp op) g) : O2X cl X E (binaryOp op) (fun x y => match x, y with
      | .obj c fs, .obj c' fs' => if Nat.beq c c' then bnd (optM (A c)) fun k => k [.obj c fs, .obj c' fs'] else stk
      | a, b => noE (g a b)) := by
  intro pins s σ H x y v u Q I rx ry q
  obtain ⟨W, h, d1, d2, rel, r1, r2, e⟩ := q
  dsimp only at e
  split at e
  · rename_i c fs c' fs'
    cases hcc : Nat.beq c c' with
    | false => rw [hcc] at e; exact e.elim
    | true =>
      rw [hcc] at e
      have e : Rn (bnd (optM (A c)) (fun k => k [.obj c fs, .obj c' fs']) h) _ _ := e
      have hcc := Nat.eq_of_beq_eq_true hcc
      subst hcc
      cases hk : A c with
      | none => rw [hk] at e; exact e.elim
      | some k =>
        rw [hk] at e
        obtain ⟨sf, gf, j, q1, q2, F, hr⟩ := hA _ _ hk
        have r1' := r1
        have r2' := r2
        cases r1 with
        | obj f1 f2 ne z1 z2 rr =>
          cases r2 with
          | obj f1' f2' ne' z1' z2' rr' =>
            cases rx
            cases ry
            obtain ⟨sl, od, _, J, _⟩ := slt_inst I (slt_obj z1 z2)
            obtain ⟨sl', od', _, J', _⟩ := slt_inst I (slt_obj z1' z2')
            obtain ⟨m, hF⟩ := I.fr
            refine PySem.W.binop_K (op := op) hF I.ok.mod.kin J J'.type sf q1 q2 (wpAny_mono (wpAny_call (run_fnR (us := [.ref _, .ref _]) (vs := [.ref _, .ref _]) F hr (passes_call tk fun _ _ _ _ z => z) I (.cons rfl (.cons rfl .nil)) ⟨rfl, W, h, [_, _], rel, .cons r1' (.cons r2' .nil), e⟩)) (fun w s' z => ?_) fun _ _ y => y)
            obtain ⟨z', H', I', rz, qz⟩ := z
            exact cmpback rz ⟨z', H', I', rz, qz⟩
  · obtain ⟨a, h', e1, po⟩ := Rn.noE e
    exact hg pins s σ H x y v u Q I rx ry ⟨W, h, _, _, a, h', rel, r1, r2, e1, po⟩
end
end D
set_option Elab.async false
set_option linter.all false
set_option maxRecDepth 100000
set_option maxHeartbeats 2000000
/-! X8: the head's facts with exception classes and tables of code objects; the law's end. -/
namespace D
open PySem PySem.Spec PyProof.Rows L2 SlX ZG He
/-! ### the script's list -/
def spF (sp : Sp) : Sp := fun vs H Q E => sp vs H Q E ∨ ∃ a xs, vs = [V.ref a] ∧ H a = some (.lst xs) ∧ ∀ o, sp vs (upd H a (.frz o (.lst xs))) Q E
theorem thaw {P : Program} {w : World} {K : PySem.W.Frag} {mg : Str → Option Value} {base : Heap} {k : Nat} {f : Addr} {fd : FuncData} {ps : List Str} {sp : Sp} (F : FnOk P w K mg base L2.CX0 k f fd ps sp) : FnOk P w K mg base L2.CX0 k f fd ps (spF sp) := by
  refine ⟨fun vs H Q E q => ?_, fun A outer s H args us vs Q E hr e0 hb r q => ?_⟩
  · rcases q with q | ⟨a, xs, _, _, q⟩
    · exact F.len vs H Q E q
    · exact F.len vs _ Q E (q { cls := .none, data := .fields #[] })
  · rcases q with q | ⟨a, xs, _, ha, q⟩
    · exact F.run A outer s H args us vs Q E hr e0 hb r q
    · obtain ⟨hl, its, n, rv, ho⟩ := e0.hok a _ ha
      have nb : ∀ {b : Addr}, H b = none → b ≠ a := fun {b} z y => by rw [y, ha] at z; cases z
      have q2 := q { cls := .type "list", data := .seq its.toArray n }
      have hok2 : HOk P w (upd H a (.frz { cls := .type "list", data := .seq its.toArray n } (.lst xs))) s.heap := fun b u e => by
        by_cases hba : b = a
        · subst hba
          rw [upd_same] at e
          cases e
          exact ⟨ho, hl, its, n, rv, ho⟩
        · rw [upd_ne hba] at e
          exact (e0.hok b u e).stay (fun _ _ _ z => z) (fun c z => by rw [upd_ne (fun y => by rw [y, ha] at z; cases z)]; exact z) fun c ys z => by rw [upd_ne (fun y => by rw [y, ha] at z; cases z)]; exact z
      have e2 : Env0 P w K mg base A outer s (upd H a (.frz { cls := .type "list", data := .seq its.toArray n } (.lst xs))) :=
        ⟨e0.frames, e0.mod, fun b o z => ⟨(e0.bs b o z).1, by rw [upd_ne (nb (e0.bs b o z).2)]; exact (e0.bs b o z).2⟩, e0.bsz, e0.funs, fun b hb => by rw [upd_ne (nb (e0.frf b hb))]; exact e0.frf b hb, hok2, e0.bare⟩
      refine codeAny_mono (F.run A outer s _ args us vs Q E hr e2 hb r q2) fun r' s' z => ?_
      cases r' with
      | error e => exact z.elim
      | ok fl =>
        cases fl with
        | ret u =>
          obtain ⟨v, H', z1, z2, un, z3, z4, z5⟩ := z
          exact ⟨v, H', z1, z2, ⟨fun b o e h => un.keep b o e (by rw [upd_ne (nb h)]; exact h), fun b o e h => un.slot b o e (by rw [upd_ne (nb h)]; exact h), fun b o e h => un.free b o e (by rw [upd_ne (nb h)]; exact h), un.there,
            fun b ys h => un.tups b ys (by rw [upd_ne (fun y => by rw [y, ha] at h; cases h)]; exact h), fun b o u h => un.frzs b o u (by rw [upd_ne (fun y => by rw [y, ha] at h; cases h)]; exact h), fun b ps h => un.tbls b ps (by rw [upd_ne (fun y => by rw [y, ha] at h; cases h)]; exact h)⟩, z3, z4, z5⟩
        | next => exact z.elim
        | brk => exact z.elim
        | cont => exact z.elim
/-- the law's promise at its entry -/
theorem law_in {K : PySem.W.Frag} {cl : Cl} {g : List DV → M DV} {H : Hp} {a : Addr} {ns : List Int} {h' : Hs} (e : g [.scr ns] [] = .ok (.bl true) h') (hT : ∀ p ∈ cl.T, H p.1 = some (.tbl #[])) (hS : SqL K H a (ns.map V.int)) :
    spF (spD K cl 1 g) [.ref a] H (fun v _ => v = .bl true) fun _ _ _ => False := by
  have key : ∀ H2 : Hp, (∀ p ∈ cl.T, H2 p.1 = some (.tbl #[])) → (∀ W : Wd, (∀ b, W.F b ↔ ∃ u, H2 b = some u ∧ ∀ ps, u ≠ .tbl ps) → FzL K W H2 a (ns.map V.int)) → spD K cl 1 g [.ref a] H2 (fun v _ => v = .bl true) fun _ _ _ => False := fun H2 hT2 fz => by
    refine ⟨rfl, ⟨[], fun b => ∃ u, H2 b = some u ∧ ∀ ps, u ≠ .tbl ps⟩, [], [.scr ns], .bl true, h', ⟨rfl, List.Pairwise.nil, fun b ⟨u, q, _⟩ => ⟨u, q⟩, fun p hp => (by cases hp), fun n d b dx h1 => (by simp at h1), fun n m c1 c2 f1 f2 b d1 b2 d2 h1 => (by simp at h1), fun p hp => ?_, fun _ b ⟨u, q, n⟩ ps z => ?_⟩,
      .cons (.scr (fz _ fun b => Iff.rfl)) .nil, e, fun W1 H1 x _ _ rv => ?_⟩
    · exact ⟨#[], hT2 p hp, True.intro, fun pos cv q => by
        have z : codeAmong pos [] = some cv := q
        simp [codeAmong] at z⟩
    · rw [q] at z
      exact n ps (Option.some.inj z)
    · cases rv
      rfl
  rcases hS with hS | hS
  · rcases hS with hS | ⟨o2, hS⟩
    · refine .inr ⟨a, _, rfl, hS, fun o => key _ (fun p hp => ?_) fun W hW => .inl ⟨(hW a).mpr ⟨_, upd_same, fun _ z => by cases z⟩, o, upd_same⟩⟩
      rw [upd_ne (fun z => by have := hT p hp; rw [z, hS] at this; cases this)]
      exact hT p hp
    · exact .inl (key H hT fun W hW => .inl ⟨(hW a).mpr ⟨_, hS, fun _ z => by cases z⟩, o2, hS⟩)
  · exact .inl (key H hT fun W hW => .inr hS)
/-! ### exception classes -/
section
variable {K : PySem.W.Frag}
def oexB (K : PySem.W.Frag) (C : Addr) : Bool := (match K.lookup C with
  | some ⟨.type t, _, .cls cd, sl⟩ => (match cd.mro, sl.toList with
    | .ref C' :: bm, [_, _, _, _, some (.builtin n), _] => decide (t = "type") && (decide (C' = C) && (decide (n = "ValueError.__new__") && (!cd.hasDel && (cd.hasDict && PySem.HandSPX.refsVE bm))))
    | _, _ => false)
  | _ => false) && (He.eqO (PySem.W.findIn K (.ref C) "__setattr__") (some (some (.builtin "object.__setattr__"))) && (decide (PySem.W.subIn K (.ref C) (.type "BaseException") = some true) && (decide (PySem.W.typeIn K (.ref C) = some (.type "type")) && PySem.W.keepIn K (.ref C))))
theorem oexB_ok {C : Addr} (h : oexB K C = true) : OexC K C := by
  obtain ⟨h1, h⟩ := ba h
  obtain ⟨h2, h⟩ := ba h
  obtain ⟨h3, h⟩ := ba h
  obtain ⟨h4, h5⟩ := ba h
  refine ⟨?_, He.eqO_ok h2, of_decide_eq_true h3, of_decide_eq_true h4, h5⟩
  cases q : K.lookup C with
  | none => rw [q] at h1; cases h1
  | some ob =>
    rw [q] at h1
    obtain ⟨oc, dd, dt, sl⟩ := ob
    cases oc with
    | type t =>
      cases dt with
      | cls cd =>
        obtain ⟨nm, bs, mro, ns, qn, hd, sn, sub, ab, col, del⟩ := cd
        obtain ⟨sl⟩ := sl
        dsimp only at h1
        split at h1
        · rename_i _ C' bm k0 k1 k2 k3 n k5
          obtain ⟨c1, h1⟩ := ba h1
          obtain ⟨c2, h1⟩ := ba h1
          obtain ⟨c3, h1⟩ := ba h1
          obtain ⟨c4, h1⟩ := ba h1
          obtain ⟨c5, c6⟩ := ba h1
          have c1 := of_decide_eq_true c1
          have c2 := of_decide_eq_true c2
          have c3 := of_decide_eq_true c3
          subst c1 c2 c3
          cases del with
          | true => cases c4
          | false =>
            subst c5
            exact ⟨nm, qn, ns, bs, bm, sn, sub, ab, col, dd, k0, k1, k2, k3, k5, rfl, c6⟩
        · cases h1
      | _ => cases h1
    | _ => cases dt <;> cases h1
def exkB (K : PySem.W.Frag) (B f C : Addr) : Bool := oexB K C && (He.eqO (PySem.W.findIn K (.ref C) "__init__") (some (some (.ref f))) && (decide (PySem.W.mroIn K C (.ref B) = some true) && (He.eqO (PySem.W.ks_superIn K C B "__init__") (some (some (.builtin "ValueError.__init__"))) &&
  (decide (PySem.W.subIn K (.ref C) (.type "ValueError") = some true) && (PySem.W.excInitIn K C veTailB "ValueError.__new__" && He.eqO (PySem.W.findIn K (.ref C) "value") (some none))))))
theorem exkB_ok {B f C : Addr} (h : exkB K B f C = true) : ExK K B f C := by
  obtain ⟨h1, h⟩ := ba h
  obtain ⟨h2, h⟩ := ba h
  obtain ⟨h3, h⟩ := ba h
  obtain ⟨h4, h⟩ := ba h
  obtain ⟨h5, h⟩ := ba h
  obtain ⟨h6, h7⟩ := ba h
  exact ⟨oexB_ok h1, He.eqO_ok h2, of_decide_eq_true h3, He.eqO_ok h4, of_decide_eq_true h5, h6, He.eqO_ok h7⟩
def excB (K : PySem.W.Frag) (C : Addr) : Bool := xfB K C && isiB K C
theorem excB_ok {C : Addr} (h : excB K C = true) : ExcC K C ∧ XfC K C := by
  obtain ⟨h1, h2⟩ := ba h
  have a := xfB_ok h1
  have b := isiB_ok h2
  exact ⟨⟨a.ga, a.gg, a.exC, a.hdC, b.ca, b.cn, b.ct, b.cm⟩, a⟩
/-- the def of an __init__ with super -/
def fnC (K : PySem.W.Frag) (a : Addr) : FnW := match K.lookup a with
  | some ⟨_, _, .func fd, _⟩ => (match fd.closure with
    | [(n, _)] => if n = "__class__" then some (fd.name, fd.qualname, fd.params, fd.body, fd.scope, fd.globals, [], fd.builtins) else none
    | _ => none)
  | _ => none
def okC (K : PySem.W.Frag) (B a : Addr) (qual file : Str) : Bool := PySem.W.isClsIn K B && (decide (PySem.W.typeIn K (.ref a) = some (.type "function")) && (He.eqO (PySem.W.nsIn K cStatics "thirdparty.any") (some none) && (match K.lookup a with
  | some ⟨_, _, .func fd, _⟩ => PySem.W.codeIn K fd.code qual && (decide (fd.defaults = Value.none) && ((match fd.code with
    | .ref c => (match K.lookup c with
      | some ⟨_, _, .fields vs, _⟩ => (match (vs[2]? : Option Value) with
        | some (Value.str x _) => x == file
        | _ => false)
      | _ => false)
    | _ => false) && (match fd.closure with
    | [(_, cc)] => (match K.lookup cc with
      | some ⟨_, _, .cell (some (.ref d)), _⟩ => decide (d = B)
      | _ => false)
    | _ => false)))
  | _ => false)))
theorem inK_of {P : Program} {mg : Str → Option Value} {d : DefD} {B a : Addr} {file : Str} (hn : d.name = "__init__") (e : fnC K a = d.val) (c : okC K B a d.qual file = true) (hf : (P.main.file : Str) = file) (hs : mg "super" = none) (ht : (P.main.scope.names.lookup ("super" : Str)).isSome = false) : InK P K mg d.qual d.params d.body d.scope B a := by
  obtain ⟨c1, c⟩ := ba c
  obtain ⟨c2, c⟩ := ba c
  obtain ⟨c3, c⟩ := ba c
  refine ⟨?_, ?_, of_decide_eq_true c2, hs, He.eqO_ok c3, ht⟩
  · unfold fnC at e
    cases q : K.lookup a with
    | none => rw [q] at c; cases c
    | some ob =>
      obtain ⟨o1, o2, o3, o4⟩ := ob
      rw [q] at c e
      cases o3 with
      | func fd =>
        obtain ⟨m1, m2, m3, m4, m5, m6, m7, m8, m9, m10, m11, m12, m13, m14, m15⟩ := fd
        cases m7 with
        | nil => cases e
        | cons p r =>
          cases r with
          | cons _ _ => cases e
          | nil =>
            obtain ⟨n, cc⟩ := p
            have e : (if n = "__class__" then (some (m1, m2, m3, m4, m5, m6, [], m15) : FnW) else none) = some (d.name, d.qual, d.params, .stmts d.body, d.scope, mainGlobals, [], builtinsNs) := e
            by_cases hnn : n = "__class__"
            · rw [if_pos hnn] at e
              simp only [Option.some.injEq, Prod.mk.injEq, and_true, true_and] at e
              obtain ⟨t1, t2, t3, t4, t5, t6, t8⟩ := e
              obtain ⟨k1, c⟩ := ba (show (PySem.W.codeIn K m13 d.qual && _) = true from c)
              obtain ⟨k0, c⟩ := ba c
              have k9 : m8 = Value.none := of_decide_eq_true k0
              obtain ⟨k2, k3⟩ := ba c
              cases m13 with
              | ref cda =>
                dsimp only at k2
                cases q2 : K.lookup cda with
                | none => rw [q2] at k2; cases k2
                | some o2 =>
                  obtain ⟨a1, a2, a3, a4⟩ := o2
                  rw [q2] at k2
                  cases a3 with
                  | fields vs =>
                    dsimp only at k2
                    split at k2
                    · rename_i x tf hv
                      dsimp only at k3
                      cases q3 : K.lookup cc with
                      | none => rw [q3] at k3; cases k3
                      | some o3 =>
                        obtain ⟨b1, b2, b3, b4⟩ := o3
                        rw [q3] at k3
                        split at k3
                        · rename_i dd _ hd
                          cases hd
                          have k3 := of_decide_eq_true k3
                          subst k3
                          subst t1 t2 t3 t4 t5 t6 t8 hnn k9
                          refine ⟨o1, m9, m10, m11, m14, a1, b1, o2, m12, a2, b2, o4, a4, b4, cda, cc, vs, x, tf, ?_, k1, q2, hv, ?_, q3⟩
                          · rw [← hn]
                          · rw [hf]
                            exact (by rw [beq_iff_eq] at k2 ⊢; exact k2.symm)
                        · cases k3
                    · cases k2
                  | _ => cases k2
              | _ => cases k2
            · rw [if_neg hnn] at e; cases e
      | _ => cases c
  · exact Option.isSome_iff_exists.mp c1
end
end D
set_option Elab.async false
set_option linter.all false
set_option maxRecDepth 100000
set_option maxHeartbeats 2000000
/-! X9: the Hook; a def that makes lambdas; short forms. -/
namespace D
open PySem PySem.Spec PyProof.Rows L2 SlX ZG He LamX
/-! ### the Hook -/
def inA (B : Str) (K : PySem.W.Frag) : Addr := ma K (ga K B) "__init__"
def exZ (ps : List AtD) (ex : PySem.W.Frag → Bool) (B : Str) (d : DefD) (file : Str) (K : PySem.W.Frag) : Bool := ex K && (ps.all (fun p => okA K (p.1 K) p.2) && okC K (ga K B) (inA B K) d.qual file)
abbrev AlZ : Type := AlX × (List FnW × FnW)
def kz (g : Addr → Option Obj) (n : Nat) : PySem.W.Frag := frT g (sysModules :: cStatics :: asD g n)
def obsZ (n : Nat) (fa : List Fa) (fn : List DefD) (ts : List Tab) (ps : List AtD) (tf : List Defn) (ex : PySem.W.Frag → Bool) (B : Str) (d : DefD) (file : Str) (g : Addr → Option Obj) : AlZ :=
  ((obsT fa fn ts (kz g n), exZ ps ex B d file (kz g n) && tabsB g tf (kz g n)), ps.map (fun p => fnA (kz g n) (p.1 (kz g n))), fnC (kz g n) (inA B (kz g n)))
theorem says_kz {n : Nat} {fa : List Fa} {fn : List DefD} {ts : List Tab} {tf : List Defn} {ex : PySem.W.Frag → Bool} {w : World} {h : Heap} (e1 : obsT fa fn ts (kz h.get? n) = valT fn ts w) (e2 : (ex (kz h.get? n) && tabsB h.get? tf (kz h.get? n)) = true) : SaysX fa fn ts tf ex w h (kz h.get? n) := by
  obtain ⟨m1, m2⟩ := ba e2
  have each : ∀ p ∈ tf, PySem.W.codeHdIn (kz h.get? n) (cT (kz h.get? n) p).1 (cT (kz h.get? n) p).2 = true ∧ ∃ o, h.get? (cT (kz h.get? n) p).2 = some o ∧ emptyTab o = true := fun p hp => by
    obtain ⟨m3, m4⟩ := ba (List.all_eq_true.mp m2 p hp)
    cases q : h.get? (cT (kz h.get? n) p).2 with
    | none => rw [q] at m4; cases m4
    | some o => exact ⟨m3, o, rfl, by rw [q] at m4; exact m4⟩
  refine ⟨e1, m1, fun p hp => (each p hp).1, fun p hp => ?_, fun p hp => ?_⟩
  · obtain ⟨_, o, q, z⟩ := each p hp
    exact frT_none q z
  · obtain ⟨_, o, q, z⟩ := each p hp
    rw [q, emptyTab_eq z]
def valZ (fn : List DefD) (ts : List Tab) (ps : List AtD) (d : DefD) (w : World) : AlZ := (valX fn ts w, ps.map (fun p => p.2.val), d.val)
structure SaysZ (fa : List Fa) (fn : List DefD) (ts : List Tab) (ps : List AtD) (tf : List Defn) (ex : PySem.W.Frag → Bool) (B : Str) (d : DefD) (file : Str) (w : World) (h : Heap) (K : PySem.W.Frag) : Prop where
  x : SaysX fa fn ts tf (exZ ps ex B d file) w h K
  p : ps.map (fun p => fnA K (p.1 K)) = ps.map (fun p => p.2.val)
  c : fnC K (inA B K) = d.val
def hookZ (n : Nat) (fa : List Fa) (fn : List DefD) (ts : List Tab) (ps : List AtD) (tf : List Defn) (ex : PySem.W.Frag → Bool) (B : Str) (d : DefD) (file : Str) : PySem.W.Hook where
  α := AlZ
  obs := fun s => obsZ n fa fn ts ps tf ex B d file s.heap.get?
  val := fun w => valZ fn ts ps d w
  says := fun w h => ∃ K : PySem.W.Frag, K.In h ∧ SaysZ fa fn ts ps tf ex B d file w h K
  of := fun _ _ e => ⟨_, frT_in, says_kz (congrArg (fun z : AlZ => z.1.1) e) (congrArg (fun z : AlZ => z.1.2) e), congrArg (fun z : AlZ => z.2.1) e, congrArg (fun z : AlZ => z.2.2) e⟩
  keeps := fun _ _ _ ⟨K, hK, c⟩ k => ⟨K, PySem.W.Frag.In.keeps hK k, ⟨c.x.t, c.x.more, c.x.hd, c.x.out, fun p hp => k _ _ (c.x.empty p hp)⟩, c.p, c.c⟩
section
variable {fa : List Fa} {fn : List DefD} {ts : List Tab} {ps : List AtD} {tf : List Defn} {ex : PySem.W.Frag → Bool} {B : Str} {d : DefD} {file : Str} {w : World} {h : Heap} {K : PySem.W.Frag} {n : Nat}
theorem obsZ_eq {g : Addr → Option Obj} {s : Shared} (h : ∀ a, g a = s.heap.get? a) : obsZ n fa fn ts ps tf ex B d file g = (hookZ n fa fn ts ps tf ex B d file).obs s := by
  have e : g = s.heap.get? := funext h
  rw [e] <;> rfl
theorem SaysZ.t (c : SaysZ fa fn ts ps tf ex B d file w h K) : SaysT fa fn ts w K := c.x.t
theorem SaysZ.more (c : SaysZ fa fn ts ps tf ex B d file w h K) : ex K = true := (ba (show (ex K && _) = true from c.x.more)).1
theorem SaysZ.okc (c : SaysZ fa fn ts ps tf ex B d file w h K) : okC K (ga K B) (inA B K) d.qual file = true := (ba (ba (show (ex K && (ps.all (fun p => okA K (p.1 K) p.2) && okC K (ga K B) (inA B K) d.qual file)) = true from c.x.more)).2).2
theorem SaysZ.pdef (c : SaysZ fa fn ts ps tf ex B d file w h K) (i : Nat) {p : AtD} (hp : ps[i]? = some p := by rfl) : ∃ fd, FunD K p.2.name p.2.qual p.2.params p.2.body p.2.scope (p.2.dvs K) (p.2.kws K) (p.1 K) fd := by
  have c2 := (ba (ba (show (ex K && (ps.all (fun p => okA K (p.1 K) p.2) && okC K (ga K B) (inA B K) d.qual file)) = true from c.x.more)).2).1
  have e2 : (ps.map fun p => fnA K (p.1 K))[i]? = (ps.map fun p => p.2.val)[i]? := by rw [c.p]
  rw [List.getElem?_map, List.getElem?_map, hp] at e2
  exact funA (Option.some.inj e2) (List.all_eq_true.mp c2 p (List.mem_of_getElem? hp))
end
/-! ### a def that makes lambdas -/
def cdA (K : PySem.W.Frag) (a : Addr) : Addr := match K.lookup a with
  | some ⟨_, _, .func fd, _⟩ => (match fd.code with
    | .ref c => c
    | _ => 0)
  | _ => 0
theorem d_defL {P : Program} {w : World} {K : PySem.W.Frag} {mg : Str → Option Value} {base : Heap} {cl : Cl} {x qual : Str} {params : Arguments} {body : List Stmt} {scope : Scope} {dvs : List V} {kws : List (Str × V)} {f : Addr} {fd : FuncData} {N ps : List Str} {k n : Nat} {b : Sx}
    (F : FunD K x qual params body scope dvs kws f fd) (S : FnScope N ps scope) (hn : ps.length = n) (hl : n ≤ N.length)
    (hb : ∀ (A : Around) (outer : List Env) (s : Shared) (H : Hp) (E : XK), Room k (A.deeper (envOfC qual scope s.heap.objs.size f (.ref (cdA K f)))) → DSs cl (cxOf L2.CX0 P w K mg base N qual scope f (.ref (cdA K f)) A outer s H E).nox body b) :
    FnOk P w K mg base L2.CX0 (k + 1) f fd ps (spD K cl n (runF N.length b)) := by
  subst hn
  obtain ⟨oc, od, dV, kV, doc, pm, an, cdv, ct, osl, rfl, lk, hcd, _, _⟩ := F.ex
  obtain ⟨c, rfl⟩ := codeIn_ref hcd
  have e : cdA K f = c := by
    unfold cdA
    rw [lk]
  rw [e] at hb
  exact fn_of lk hcd S (fun vs H Q E q => q.1) fun A outer s H vs Q E hr q => ⟨tS K cl b, PSs.nox (hb A outer s H E hr), run_spD hl q⟩
/-! ### short forms -/
def binXX (A : Nat → Option (List DV → M DV)) (g : DV → DV → M DV) : DV → DV → M DV := fun x y => match x, y with
  | .obj c fs, .obj c' fs' => if Nat.beq c c' then bnd (optM (A c)) fun k => k [.obj c fs, .obj c' fs'] else stk
  | a, b => noE (g a b)
theorem noE_len {ms : Exs} {n : Nat} (h : ∀ sl h vs h', ms sl h = .ok vs h' → vs.length = n) : ∀ sl h vs h', noE (ms sl) h = .ok vs h' → vs.length = n := fun sl h0 vs h' e => by
  unfold noE at e
  cases q : ms sl h0 with
  | ok a h1 =>
    rw [q] at e
    cases e
    exact h _ _ _ _ q
  | err c v h1 => rw [q] at e; cases e
  | stuck => rw [q] at e; cases e
end D
set_option Elab.async false
set_option linter.all false
set_option maxRecDepth 100000
set_option maxHeartbeats 2000000
/-! Y0: dict displays with text keys; d[k]. -/
namespace D
open PySem PySem.Spec PyProof.Rows L2 SlX ZG
section
variable {K : PySem.W.Frag} {cl : Cl} {W W1 : Wd} {H H1 : Hp} {h h' : Hs} {X : Cx} {pos : Pos}
inductive DPs (cl : Cl) (X : Cx) : List (Option Expr) → List Expr → List (List Nat) → List Ex → Prop
  | nil : DPs cl X [] [] [] []
  | cons {k v : Expr} {ks : List (Option Expr)} {vs : List Expr} {s : List Nat} {ss : List (List Nat)} {m : Ex} {ms : List Ex} (hk : PE X k (tC (.str (SX.S s)))) (hv : DE cl X v m) (r : DPs cl X ks vs ss ms) : DPs cl X (some k :: ks) (v :: vs) (s :: ss) (m :: ms)
def trsOf (K : PySem.W.Frag) (cl : Cl) : List (List Nat) → List Ex → List (TE × TE)
  | s :: ss, m :: ms => (tC (.str (SX.S s)), tE K cl m) :: trsOf K cl ss ms
  | _, _ => []
def valsE : List Ex → Exs
  | [] => aNil
  | m :: r => aCons m (valsE r)
theorem pps_of {ks : List (Option Expr)} {vs : List Expr} {ss : List (List Nat)} {ms : List Ex} (p : DPs cl X ks vs ss ms) : PPs X pos ks vs (trsOf X.K cl ss ms) := by
  induction p with
  | nil => exact pps_nil
  | cons hk hv r ih => exact pps_cons hk hv ih
theorem DPs.len {ks : List (Option Expr)} {vs : List Expr} {ss : List (List Nat)} {ms : List Ex} (p : DPs cl X ks vs ss ms) : ss.length = ms.length ∧ ks.length = ms.length := by
  induction p with
  | nil => exact ⟨rfl, rfl⟩
  | cons hk hv r ih => exact ⟨congrArg (· + 1) ih.1, congrArg (· + 1) ih.2⟩
theorem pairs_run {sl : Sl} {σ : L2.St} : ∀ {ss : List (List Nat)} {ms : List Ex} {W : Wd} {H : Hp} {h h' : Hs} {ds : List DV} {Q : List (V × V) → Hp → Prop}, ss.length = ms.length → HRel K cl W h H → RSl K cl W H sl σ → valsE ms sl h = .ok ds h' →
    (∀ W' H' xs, Ext W H W' H' → HRel K cl W' h' H' → RVs K cl W' H' ds xs → Q ((ss.map fun s => V.str (SX.S s)).zip xs) H') → tPairs (trsOf K cl ss ms) σ H Q
  | [], [], W, H, h, h', ds, Q, _, rel, rs, e, q => by
    obtain ⟨rfl, rfl⟩ := ret_ok e
    exact q W H [] .refl rel .nil
  | s :: ss, m :: ms, W, H, h, h', ds, Q, hl, rel, rs, e, q => by
    obtain ⟨d, h1, e1, e2⟩ := bnd_ok e
    obtain ⟨ds2, h2, e3, e4⟩ := bnd_ok e2
    obtain ⟨rfl, rfl⟩ := ret_ok e4
    refine ⟨W, h, sl, d, h1, rel, rs, e1, fun W1 H1 x ext1 rel1 rv => ?_⟩
    exact pairs_run (Nat.succ.inj hl) rel1 (rs.mono ext1) e3 fun W2 H2 xs ext2 rel2 rvs => q W2 H2 (x :: xs) (ext1.trans ext2) rel2 (.cons (rv.mono ext2) rvs)
  | [], _ :: _, _, _, _, _, _, _, hl, _, _, _, _ => by cases hl
  | _ :: _, [], _, _, _, _, _, _, hl, _, _, _, _ => by cases hl
/-- the dict, its keys in order -/
def zipD : List (List Nat) → List DV → List (DV × DV)
  | s :: ss, d :: ds => (.str s, d) :: zipD ss ds
  | _, _ => []
def zipK : List (List Nat) → List V → List (Key × V)
  | s :: ss, x :: xs => (.inr (SX.S s), x) :: zipK ss xs
  | _, _ => []
theorem zipK_ok : ∀ {ss : List (List Nat)} {xs : List V}, (ss.map fun s => V.str (SX.S s)).zip xs = (zipK ss xs).map fun kv => (kV kv.1, kv.2)
  | [], xs => by cases xs <;> rfl
  | s :: ss, [] => rfl
  | s :: ss, x :: xs => by
    exact congrArg ((V.str (SX.S s), x) :: ·) (zipK_ok (ss := ss) (xs := xs))
theorem zipK_len : ∀ {ss : List (List Nat)} {xs : List V}, (zipK ss xs).length ≤ ss.length
  | [], xs => by cases xs <;> exact Nat.le_refl 0
  | s :: ss, [] => Nat.zero_le _
  | s :: ss, x :: xs => Nat.succ_le_succ zipK_len
theorem zip_rkv : ∀ {ss : List (List Nat)} {ds : List DV} {xs : List V}, RVs K cl W H ds xs → RKV K cl W H (zipD ss ds) (zipK ss xs)
  | [], ds, xs, r => by cases r <;> exact .nil
  | s :: ss, _, _, .nil => .nil
  | s :: ss, _, _, .cons a b => .cons rfl a (zip_rkv b)
def eDisp (ss : List (List Nat)) (ms : List Ex) : Ex := fun sl => bnd (valsE ms sl) fun ds h => .ok (.ref h.length) (h ++ [.dic (mergeD [] (zipD ss ds))])
theorem de_disp {keys : List (Option Expr)} {values : List Expr} {ss : List (List Nat)} {ms : List Ex} (p : DPs cl X keys values ss ms) (hall : keys.all (·.isSome) = true) (hl : keys.length = values.length) (h0 : keys ≠ []) (h15 : keys.length ≤ 15) : DE cl X (.Dict keys values pos) (eDisp ss ms) :=
  (pe_disp (pps_of p) hall hl h0 h15).mono fun σ H Q ⟨W, h, sl, v, h', rel, rs, e, po⟩ => by
    obtain ⟨ds, h1, e1, e2⟩ := bnd_ok e
    cases e2
    obtain ⟨l1, l2⟩ := p.len
    intro p0 hp
    have ext0 := ext_new (o := .dK []) hp rel
    have ap0 : Apart (W.fz p0) h p0 := fun n a dx q => Apart.fresh (h := h) rel hp n a dx q
    refine pairs_run l1 (rel.new (o := .dK []) hp) (rs.mono ext0) e1 fun W2 H2 xs ext2 rel2 rvs => ?_
    have at2 : H2 p0 = some (.dK []) := (ext2.keep p0 (.inr rfl)).trans upd_same
    refine ⟨at2, zipK ss xs, zipK_ok, Nat.le_trans zipK_len (by rw [l1, ← l2]; exact h15), ?_⟩
    have acc2 : ∃ u, H2 p0 = some u ∧ Acc u := ⟨_, at2, .inr ⟨_, rfl⟩⟩
    have ap2 : Apart W2 h1 p0 := ap0.ext ext2 (.inr rfl)
    have off : Off W2 H2 W2 (upd H2 p0 (.dK (mergeK [] (zipK ss xs)))) p0 := Off.wr acc2
    have rel3 := rel2.accWr acc2 ap2 (o := .dK (mergeK [] (zipK ss xs))) (fun _ z => by cases z)
    have acc3 : ∃ u, upd H2 p0 (.dK (mergeK [] (zipK ss xs))) p0 = some u ∧ Acc u := ⟨_, upd_same, .inr ⟨_, rfl⟩⟩
    have r3 := (merge_ok (ps := zipD ss ds) .nil (zip_rkv (rvs.off off))).off (Off.let acc3)
    have nP : ∀ a, W.F a → a ≠ p0 := fun a q z => by
      obtain ⟨u, hu⟩ := rel.tr a q
      rw [z, hp] at hu; cases hu
    have e02 := ext0.trans ext2
    refine po (W2.let p0) _ (.ref p0) ⟨fun n q z => getElem?_pre (e02.pre n q z), fun a q => ⟨e02.sub a q, nP a q⟩, fun a q => (upd_ne (nP a q)).trans (e02.keep a q), fun n q z => ?_⟩ (rel3.let acc3 ap2 (fun _ _ z => by cases z) ⟨fun z => z.2 rfl, _, upd_same, r3⟩) (.ref (d := p0) ?_)
    · rcases getElem?_snoc (show (W2.ρ ++ [(p0, p0)])[n]? = some q from z) with ⟨z, _⟩ | ⟨_, z⟩
      · exact e02.new n q z
      · subst z
        exact .inr fun y => nP p0 y rfl
    · show (W2.ρ ++ [(p0, p0)])[h1.length]? = some (p0, p0)
      rw [rel2.len]; simp
/-! ### d[k] -/
def eDget (mo mk : Ex) : Ex := fun sl => bnd (mo sl) fun d => bnd (mk sl) fun k => bnd (dicAt d) fun ks => if isKey k then optM (lookKD ks k) else stk
variable {o k : Expr} {mo mk : Ex}
theorem de_dget {j : Nat} (hr : Room j X.A) (ho : DE cl X o mo) (hk : DE cl X k mk) (hs : NoSl k) : DE cl X (.Subscript o k pos) (eDget mo mk) :=
  (pe_dget (by have := hr.un; omega) ho hk hs).mono fun σ H Q ⟨W, h, sl, v, h', rel, rs, e, po⟩ => by
    obtain ⟨d, h1, e1, e2⟩ := bnd_ok e
    obtain ⟨kd, h2, e3, e4⟩ := bnd_ok e2
    obtain ⟨ks, h3, e5, e6⟩ := bnd_ok e4
    obtain ⟨zk, e6⟩ := if_ok e6
    obtain ⟨e7, rfl⟩ := optM_ok e6
    refine ⟨W, h, sl, d, h1, rel, rs, e1, fun W1 H1 x ext1 rel1 rv1 => ⟨W1, h1, sl, kd, h2, rel1, rs.mono ext1, e3, fun W2 H2 y ext2 rel2 rvk => ?_⟩⟩
    obtain ⟨rfl, a, xs, rfl, hx, rx⟩ := dicAt_ok rel2 (rv1.mono ext2) e5
    obtain ⟨key, rk, rfl⟩ := rk_of rvk zk
    rcases rx.look rk with ⟨l1, l2⟩ | ⟨e', x', l1, l2, l3⟩
    · rw [l1] at e7; cases e7
    · rw [l1] at e7
      cases e7
      exact ⟨a, x', rfl, .inl ⟨xs, key, Rd.of hx, rfl, l2.symm⟩, po W2 H2 x' (ext1.trans ext2) rel2 l3⟩
theorem pe_strS (z : List Nat) {x : Str} {j : Nat} {pos : Pos} (h : x = SX.S z := by rfl) : PE X (.Constant (.str x) j pos) (tC (.str (SX.S z))) := by
  subst h
  exact pe_str
end
end D
set_option Elab.async false
set_option linter.all false
set_option maxRecDepth 100000
set_option maxHeartbeats 2000000
/-! Y1: for loops run; the rows of bits. -/
namespace D
open PySem PySem.Spec PyProof.Rows L2 SlX ZG
theorem forD_s {t : Wlk} {f : DV → Sl → Option Sl} {b : Sx} (ds : List DV) (I : Nat → Sl → Hs → Prop) (ht : ∀ k sl h, k ≤ ds.length → I k sl h → t.at k h = some ds[k]?)
    (step : ∀ k (hk : k < ds.length) sl h, I k sl h → ∃ sl1 sl2 h2, f ds[k] sl = some sl1 ∧ b sl1 h = .ok (.nx, sl2) h2 ∧ I (k + 1) sl2 h2) :
    ∀ (n i : Nat) (sl : Sl) (h : Hs), I i sl h → i ≤ ds.length → ds.length - i < n → ∃ sl2 h2, forD t f b n i sl h = .ok (.nx, sl2) h2 ∧ I ds.length sl2 h2
  | 0, i, _, _, _, _, hl => by omega
  | n + 1, i, sl, h, hI, hi, hl => by
    have e0 : forD t f b (n + 1) i sl h = (match t.at i h with
      | some (some d) => bnd (optM (f d sl)) (fun sl1 => bnd (b sl1) fun r => match r.1 with
        | .nx => forD t f b n (i + 1) r.2
        | .ct => forD t f b n (i + 1) r.2
        | .bk => D.ret (.nx, r.2)
        | .rt v => D.ret (.rt v, r.2)) h
      | some none => .ok (.nx, sl) h
      | none => .stuck) := rfl
    rw [e0, ht i sl h hi hI]
    by_cases q : i < ds.length
    · obtain ⟨sl1, sl2, h2, e1, e2, hI2⟩ := step i q sl h hI
      rw [List.getElem?_eq_getElem q]
      show ∃ sl2 h2, bnd (optM (f ds[i] sl)) _ h = _ ∧ _
      rw [bnd_s (a := sl1) (h1 := h) (by rw [e1]; rfl), bnd_s e2]
      exact forD_s ds I ht step n (i + 1) sl2 h2 hI2 q (by omega)
    · have : i = ds.length := by omega
      subst this
      rw [List.getElem?_eq_none (Nat.le_refl _)]
      exact ⟨sl, h, rfl, hI⟩
theorem for_s {mi : Ix} {t : Wlk} {f : DV → Sl → Option Sl} {b : Sx} {sl : Sl} {h h0 : Hs} (ds : List DV) (I : Nat → Sl → Hs → Prop) (hm : mi sl h = .ok t h0) (h00 : I 0 sl h0) (hl : ds.length < 16777216) (ht : ∀ k sl h, k ≤ ds.length → I k sl h → t.at k h = some ds[k]?)
    (step : ∀ k (hk : k < ds.length) sl h, I k sl h → ∃ sl1 sl2 h2, f ds[k] sl = some sl1 ∧ b sl1 h = .ok (.nx, sl2) h2 ∧ I (k + 1) sl2 h2) :
    ∃ sl2 h2, sFor mi f b sl h = .ok (.nx, sl2) h2 ∧ I ds.length sl2 h2 := by
  unfold sFor
  rw [bnd_s hm]
  exact forD_s ds I ht step 16777216 0 sl h0 h00 (Nat.zero_le _) (by omega)
/-! ### rows of bits -/
def spots : Nat → List (List Int)
  | 0 => [[]]
  | n + 1 => (spots n).map (· ++ [0]) ++ (spots n).map (· ++ [1])
def rowV (r : List Int) : DV := .tup (r.map .int)
theorem spots_len : ∀ n, (spots n).length = 2 ^ n
  | 0 => rfl
  | n + 1 => by
    show ((spots n).map _ ++ (spots n).map _).length = _
    rw [List.length_append, List.length_map, List.length_map, spots_len n, Nat.pow_succ]
    omega
theorem spots_row : ∀ n, ∀ r ∈ spots n, r.length = n ∧ ∀ b ∈ r, b = 0 ∨ b = 1
  | 0, r, hr => by
    rw [List.mem_singleton.mp hr]
    exact ⟨rfl, fun _ h => by cases h⟩
  | n + 1, r, hr => by
    rcases List.mem_append.mp hr with hr | hr <;>
    · obtain ⟨s, hs, rfl⟩ := List.mem_map.mp hr
      obtain ⟨h1, h2⟩ := spots_row n s hs
      refine ⟨by rw [List.length_append, h1]; rfl, fun b hb => ?_⟩
      rcases List.mem_append.mp hb with hb | hb
      · exact h2 b hb
      · simp at hb
        subst hb
        simp
def spotsB : List DV → M DV := runF 4 (sCons (sAs (eLst (aCons (eTup aNil) aNil)) (gN 1)) (sCons (sFor (iRg rng1 (aCons (eSlot 0) aNil)) (gN 2) (sCons (sAs (eOp addD (eLc (iE (eSlot 1)) (gN 3) [3] bYes (eOp addD (eSlot 3) (eTup (aCons (eC (.int (0))) aNil)))) (eLc (iE (eSlot 1)) (gN 3) [3] bYes (eOp addD (eSlot 3) (eTup (aCons (eC (.int (1))) aNil))))) (gN 1)) sNil)) (sCons (sRet (eSlot 1)) sNil)))
theorem addT {a b : List DV} {h : Hs} (hl : a.length + b.length ≤ 16777216) : addD (.tup a) (.tup b) h = .ok (.tup (a ++ b)) h := by
  show (if fits (a.length + b.length) then D.ret (DV.tup (a ++ b)) else stk) h = _
  rw [fits_le hl]
  rfl
theorem at_snoc' {α : Type} {l : List α} {a : α} : (l ++ [a])[l.length]? = some a := by
  rw [List.getElem?_append_right (Nat.le_refl _), Nat.sub_self]; rfl
theorem at_app {h k : Hs} {r : Nat} {o : DO} (e : h[r]? = some o) : (h ++ k)[r]? = some o := by
  rw [List.getElem?_append_left (List.getElem?_eq_some_iff.mp e).1]; exact e
theorem addL {a b : List DV} {p q : Nat} {h : Hs} (ha : h[p]? = some (.lst a)) (hb : h[q]? = some (.lst b)) (hl : a.length + b.length ≤ 16777216) : addD (.ref p) (.ref q) h = .ok (.ref h.length) (h ++ [.lst (a ++ b)]) := by
  show bnd (lsAt p) (fun a => bnd (lsAt q) fun b => lstD (a ++ b)) h = _
  rw [bnd_s (lsAt_of ha), bnd_s (lsAt_of hb)]
  show (if fits (a ++ b).length then fun h => R.ok (DV.ref h.length) (h ++ [DO.lst (a ++ b)]) else stk) h = _
  rw [fits_le (by rw [List.length_append]; exact hl)]
  rfl
theorem lst_at {h : Hs} {r : Nat} {ds : List DV} (e : h[r]? = some (.lst ds)) (i : Nat) (_ : i ≤ ds.length) : (Wlk.lst r).at i h = some ds[i]? := by
  show (match h[r]? with
    | some (.lst ds) => some ds[i]?
    | _ => none) = _
  rw [e]
theorem itr_lst {h : Hs} {r : Nat} {ds : List DV} (e : h[r]? = some (.lst ds)) : itrAt (.ref r) h = .ok (.lst r) h := by
  unfold itrAt
  dsimp only
  rw [e]
theorem row_ext {h : Hs} {b : Int} {r : Nat} {n : Nat} {a c d : Option DV} (hr : h[r]? = some (.lst ((spots n).map rowV))) (hn : n < 20) :
    eLc (iE (eSlot 1)) (gN 3) [3] bYes (eOp addD (eSlot 3) (eTup (aCons (eC (.int b)) aNil))) [a, some (.ref r), c, d] h = .ok (.ref h.length) (h ++ [.lst (((spots n).map (· ++ [b])).map rowV)]) := by
  have hl : ((spots n).map rowV).length < 16777216 := by
    rw [List.length_map, spots_len]
    exact Nat.lt_of_lt_of_le (Nat.pow_lt_pow_right (by decide) hn) (by decide)
  have z := eLc_all (mi := iE (eSlot 1)) (f := gN 3) (own := [3]) (el := eOp addD (eSlot 3) (eTup (aCons (eC (.int b)) aNil))) (t := .lst r) (sl := [a, some (.ref r), c, d]) (h := h) ((spots n).map rowV) (fun d => match d with
    | .tup xs => .tup (xs ++ [.int b])
    | d => d) (fun d => [a, some (.ref r), c, some d]) (itr_lst hr) (fun i hi => lst_at hr i hi) hl (fun d _ => rfl) (fun d hd => by
      obtain ⟨x, hx, rfl⟩ := List.mem_map.mp hd
      have hx := (spots_row n x hx).1
      exact addT (by rw [List.length_map, hx]; show n + 1 ≤ _; omega))
  rw [z, List.map_map, List.map_map]
  have e : ((fun d => match d with
      | DV.tup xs => DV.tup (xs ++ [.int b])
      | d => d) ∘ rowV) = (rowV ∘ fun x => x ++ [b]) := by
    funext x
    show DV.tup (x.map DV.int ++ [.int b]) = DV.tup ((x ++ [b]).map DV.int)
    rw [List.map_append]
    rfl
  rw [e]
def lapB : Sx := sCons (sAs (eOp addD (eLc (iE (eSlot 1)) (gN 3) [3] bYes (eOp addD (eSlot 3) (eTup (aCons (eC (.int (0))) aNil)))) (eLc (iE (eSlot 1)) (gN 3) [3] bYes (eOp addD (eSlot 3) (eTup (aCons (eC (.int (1))) aNil))))) (gN 1)) sNil
theorem lap_s {h : Hs} {r i : Nat} {a x d : Option DV} (er : h[r]? = some (.lst ((spots i).map rowV))) (hi : i < 20) : ∃ k q, lapB [a, some (.ref r), x, d] h = .ok (.nx, [a, some (.ref q), x, d]) (h ++ k) ∧ (h ++ k)[q]? = some (.lst ((spots (i + 1)).map rowV)) := by
  have z0 := row_ext (b := 0) (a := a) (c := x) (d := d) er hi
  generalize hA : (((spots i).map (· ++ [(0 : Int)])).map rowV) = A at *
  have z1 := row_ext (b := 1) (a := a) (c := x) (d := d) (h := h ++ [DO.lst A]) (at_app er) hi
  generalize hB : (((spots i).map (· ++ [(1 : Int)])).map rowV) = B at *
  have lA : A.length = 2 ^ i := by rw [← hA, List.length_map, List.length_map, spots_len]
  have lB : B.length = 2 ^ i := by rw [← hB, List.length_map, List.length_map, spots_len]
  have p20 : 2 ^ i ≤ 1048576 := Nat.le_trans (Nat.pow_le_pow_right (by decide) (Nat.le_of_lt hi)) (by decide)
  have z2 : addD (.ref h.length) (.ref (h ++ [DO.lst A]).length) (h ++ [DO.lst A] ++ [DO.lst B]) = _ := addL (a := A) (b := B) (at_app at_snoc') at_snoc' (by omega)
  refine ⟨[DO.lst A, DO.lst B, DO.lst (A ++ B)], (h ++ [DO.lst A] ++ [DO.lst B]).length, ?_, ?_⟩
  · have ez : eOp addD (eLc (iE (eSlot 1)) (gN 3) [3] bYes (eOp addD (eSlot 3) (eTup (aCons (eC (.int (0))) aNil)))) (eLc (iE (eSlot 1)) (gN 3) [3] bYes (eOp addD (eSlot 3) (eTup (aCons (eC (.int (1))) aNil)))) [a, some (.ref r), x, d] h = .ok (.ref (h ++ [DO.lst A] ++ [DO.lst B]).length) (h ++ [DO.lst A, DO.lst B, DO.lst (A ++ B)]) := by
      show bnd (eLc (iE (eSlot 1)) (gN 3) [3] bYes (eOp addD (eSlot 3) (eTup (aCons (eC (.int (0))) aNil))) [a, some (.ref r), x, d]) (fun v => bnd (eLc (iE (eSlot 1)) (gN 3) [3] bYes (eOp addD (eSlot 3) (eTup (aCons (eC (.int (1))) aNil))) [a, some (.ref r), x, d]) fun w => addD v w) h = _
      rw [bnd_s z0, bnd_s z1, z2]
      simp
    show bnd (bnd (eOp addD _ _ [a, some (.ref r), x, d]) _) _ h = _
    unfold bnd
    rw [ez]
    rfl
  · have e : h ++ [DO.lst A, DO.lst B, DO.lst (A ++ B)] = (h ++ [DO.lst A] ++ [DO.lst B]) ++ [DO.lst (A ++ B)] := by simp
    rw [e, at_snoc']
    show _ = some (DO.lst (((spots i).map (· ++ [(0 : Int)]) ++ (spots i).map (· ++ [(1 : Int)])).map rowV))
    rw [List.map_append, hA, hB]
theorem spots_s (n : Nat) (hn : n < 20) (h : Hs) : ∃ r k, spotsB [.int n] h = .ok (.ref r) (h ++ k) ∧ (h ++ k)[r]? = some (.lst ((spots n).map rowV)) := by
  have sm : small (n : Int) = true := by
    unfold small
    simp
    omega
  have rg : (iRg rng1 (aCons (eSlot 0) aNil)) [some (.int n), some (.ref h.length), none, none] (h ++ [.lst [.tup []]]) = .ok (.vals (rangeV 0 n)) (h ++ [.lst [.tup []]]) := by
    show rng1 [.int n] (h ++ [.lst [.tup []]]) = _
    unfold rng1
    dsimp only
    rw [sm]
    rfl
  have ln : (rangeV 0 n).length = n := by unfold rangeV; rw [List.length_map, List.length_range]
  obtain ⟨sl2, h2, e, k, r, x, eh, er, es⟩ := for_s (b := lapB) (f := gN 2) (rangeV 0 n) (fun i sl h' => ∃ k r x, h' = h ++ k ∧ h'[r]? = some (.lst ((spots i).map rowV)) ∧ sl = [some (.int n), some (.ref r), x, none]) rg ⟨_, h.length, none, rfl, at_snoc', rfl⟩ (by rw [ln]; omega) (fun k sl h' hk _ => rfl)
    (fun i hi sl h' ⟨k, r, x, eh, er, es⟩ => by
      subst es
      obtain ⟨k2, q, e1, e2⟩ := lap_s (a := some (.int n)) (x := some ((rangeV 0 n)[i])) (d := none) er (by omega)
      exact ⟨_, _, _, rfl, e1, k ++ k2, q, _, by rw [eh, List.append_assoc], e2, rfl⟩)
  rw [ln] at er
  refine ⟨r, k, ?_, by rw [← eh]; exact er⟩
  unfold spotsB
  refine runF_rt (sl := sl2) ?_
  show sCons _ _ [some (.int n), none, none, none] h = _
  unfold sCons
  rw [bnd_s (a := (Fl.nx, [some (.int n), some (.ref h.length), none, none])) (h1 := h ++ [.lst [.tup []]])]
  · show bnd (sFor _ _ lapB _) _ _ = _
    rw [bnd_s e, eh, es]
    rfl
  · rfl
end D
set_option Elab.async false
set_option linter.all false
set_option maxRecDepth 100000
set_option maxHeartbeats 2000000
/-! methods that may raise. -/
namespace D
open PySem PySem.Spec PyProof.Rows L2 SlX
section
variable {cl : Cl} {X : Cx} {E : XK} {o e : Expr} {es : List Expr} {pos : Pos} {mo : Ex} {ms : Exs}
def MetX (X : Cx) (cl : Cl) (c n : Nat) (m : Str) (g : List DV → M DV) : Prop := SCls X.K (cl.ad c) ∧ ∃ (gf : Addr) (j : Nat), Meth X.K (cl.ad c) m gf ∧ FnR X.prog X.w X.K X.mg X.base (L2.CX X.prog X.w) j gf (spX X.K cl n g) ∧ Room j X.A
def eMethX (A : Nat → Option (List DV → M DV)) (mo : Ex) (ms : Exs) : Ex := fun sl => bnd (noE (mo sl)) fun d => bnd (objAt d) fun q => bnd (optM (A q.1)) fun g => bnd (noE (ms sl)) fun ds => g (.obj q.1 q.2 :: ds)
theorem Rn.objAt {d : DV} {h : Hs} {P : Nat × List DV → Hs → Prop} {Pe : Nat → DV → Hs → Prop} (q : Rn (objAt d h) P Pe) : ∃ c fs, d = .obj c fs ∧ P (c, fs) h := by
  cases d <;> first | exact q.elim | skip
  exact ⟨_, _, rfl, q⟩
theorem Rn.opt {α : Type} {a : Option α} {h : Hs} {P : α → Hs → Prop} {Pe : Nat → DV → Hs → Prop} (q : Rn (optM a h) P Pe) : ∃ b, a = some b ∧ P b h := by
  cases a with
  | none => exact q.elim
  | some b => exact ⟨b, rfl, q⟩
theorem dx_meth {m : Str} {n : Nat} {apos : Pos} {A : Nat → Option (List DV → M DV)} {pl : Sem Bool} (tk : Takes X (fun c d _ H => E c d H)) (hA : ∀ c g, A c = some g → MetX X cl c (n + 1) m g) (ho : DE cl X o mo) (ha : DA cl X (e :: es) ms) (hn : ∀ sl h vs h', ms sl h = .ok vs h' → vs.length = n)
    (hst : starEach (e :: es) X.env = (false, eval e X.env) :: starEach es X.env := by rfl) (hpl : (backTo pos (starEach es X.env)).any (·.1) = false := by rfl)
    (ht : eval (.Call (.Attribute o m apos) (e :: es) [] pos) X.env = (do
      let ov ← eval o X.env
      standAt apos.atName
      let (f, first) ← holding [ov] (getMethod ov m pl)
      callWith pos f first (backTo pos (starEach (e :: es) X.env)) (backToKw pos (keywordEach [] X.env))) := by rfl) :
    DX cl X E (.Call (.Attribute o m apos) (e :: es) [] pos) (eMethX A mo ms) := by
  have p : PE X (.Call (.Attribute o m apos) (e :: es) [] pos) _ := L2.PE.any (ι := Nat × (List DV → M DV)) (p := fun i => A i.1 = some i.2) (t := fun i => tMethSl (cl.ad i.1) (spX X.K cl (n + 1) i.2) E (tE X.K cl mo) (tA X.K cl ms)) fun i q => by
    obtain ⟨sc, gf, j, k, F, hr⟩ := hA _ _ q
    exact pe_methSl ho sc k F hr (passes_call tk fun _ _ _ _ z => z) ha hst hpl ht
  refine p.mono fun σ H Q ⟨W, h, sl, rel, rs, q⟩ => ?_
  obtain ⟨d, h1, e1, q1⟩ := (Rn.bnd q).noE
  obtain ⟨c, fs, rfl, q2⟩ := (Rn.bnd q1).objAt
  obtain ⟨g, hg, q3⟩ := (Rn.bnd q2).opt
  obtain ⟨ds, h2, e3, q4⟩ := (Rn.bnd q3).noE
  refine ⟨(c, g), hg, W, h, sl, _, _, rel, rs, e1, fun W1 H1 x ext rel1 rv => ?_⟩
  have rv' := rv
  cases rv with
  | obj f1 f2 ne z1 z2 rr =>
    refine ⟨_, _, _, rfl, slt_obj z1 z2, W1, _, sl, ds, h2, rel1, rs.mono ext, e3, fun W2 H2 xs ext2 rel2 rvs => ⟨?_, W2, h2, _, rel2, .cons (rv'.mono ext2) rvs, q4.go (ext.trans ext2)⟩⟩
    rw [List.length_cons, ← rvs.length, hn _ _ _ _ e3]
end
end D
set_option Elab.async false
set_option linter.all false
set_option maxRecDepth 100000
set_option maxHeartbeats 2000000
/-! defs that are called where nothing is being shown (no repr under way). -/
namespace D
open PySem PySem.Spec PyProof.Rows L2 SlX
/-- a def's promise where no repr is under way -/
structure FnG (P : Program) (w : World) (K : PySem.W.Frag) (mg : Str → Option Value) (base : Heap) (C : CXT) (k : Nat) (f : Addr) (fd : FuncData) (ps : List Str) (sp : Sp) : Prop where
  ln : ∀ vs H Q E, sp vs H Q E → vs.length = ps.length
  go : ∀ (A : Around), A.guards = some [] → ∀ (out : List Env) (s : Shared) (H : Hp) (ar : Args) (us : List Value) (vs : List V) (Q : VK) (E : XK), Room k A → Env0 P w K mg base A out s H → BindsTo s fd ar (ps.zip us) → Vals vs us → sp vs H Q E →
    codeAny (model P w) A (.call (.ref f) ar) (CR C out P w H s Q E) s
section
variable {P : Program} {w : World} {K : PySem.W.Frag} {mg : Str → Option Value} {base : Heap} {C : CXT} {k j : Nat} {f : Addr} {fd : FuncData} {ps N : List Str} {sp : Sp}
theorem FnG.of (F : FnOk P w K mg base C k f fd ps sp) : FnG P w K mg base C k f fd ps sp := ⟨F.len, fun A _ => F.run A⟩
theorem fnG_made {x qual : Str} {params : Arguments} {body : List Stmt} {scope : Scope} {dvs : List V} {kws : List (Str × V)} (F : FunD K x qual params body scope dvs kws f fd) (S : FnScope N ps scope) (ln : ∀ vs H Q E, sp vs H Q E → vs.length = ps.length)
    (hb : ∀ (cdv : Value) (A : Around), A.guards = some [] → ∀ (out : List Env) (s : Shared) (H : Hp) (vs : List V) (Q : VK) (E : XK), Room k (A.deeper (envOfC qual scope s.heap.objs.size f cdv)) → sp vs H Q E →
      ∃ t, PSs (cxOf C P w K mg base N qual scope f cdv A out s H E) body t ∧ t { nx := fun _ H' => Q .non H', rt := Q } (start N vs) H) : FnG P w K mg base C (k + 1) f fd ps sp := by
  obtain ⟨oc, od, dV, kV, doc, pm, an, cdv, ct, sl, rfl, lk, hc, _, _⟩ := F.ex
  refine ⟨ln, fun A hg out s H ar us vs Q E hr e0 bd r hsp => ?_⟩
  have kin : K.In s.heap := e0.mod.kin.keeps fun b o e => (e0.bs b o e).1
  have nl : s.heap.NoLimit := e0.mod.nolimit.keeps fun b o e => (e0.bs b o e).1
  have len := ln _ _ _ _ hsp
  have kd : ∀ y ∈ ps.zip us, scope.names.lookup y.1 = some .local ∨ (scope.names.lookup y.1 = some .cell ∧ ((cellsFrom (s.heap.objs.size + 1) scope.names []).lookup y.1).isSome = true) := by
    rintro ⟨n, v⟩ hy
    exact (S.par n (List.of_mem_zip hy).1).imp id fun q => ⟨q, PySem.W.cellsFrom_some _ _ _ (.inl q)⟩
  refine codeAny_call_function hr.depth (kin _ _ lk) rfl S.co S.gen rfl (PySem.W.codeRec_of kin hc) (bd _ _ _ _ ?_)
  refine wpAny_newFunctionEnv_cells S.kind kd fun env he s1 x => ?_
  subst he
  refine ⟨nl.keeps x.toInCall.keep, codeAny_func ?_⟩
  obtain ⟨t, ht, hq⟩ := hb cdv A hg out s H vs Q E (hr.deeper _) hsp
  have I := inv_start (CX := C) (E := E) (qual := qual) (f := f) (cd := cdv) S hr.hd e0 len r x
  refine wpAny_mono (ht.run [] s1 (start N vs) H _ I hq) (fun fl s' z => ?_) fun e s' z => z
  cases fl with
  | ret u =>
    obtain ⟨y, τ, G', J, ry, qy⟩ := z
    exact ⟨y, G', J.os, J.bare, J.base, J.hok, ry, qy⟩
  | next =>
    obtain ⟨τ, G', J, qy⟩ := z
    exact ⟨V.non, G', J.os, J.bare, J.base, J.hok, rfl, qy⟩
  | brk => obtain ⟨_, _, _, qy⟩ := z; exact qy.elim
  | cont => obtain ⟨_, _, _, qy⟩ := z; exact qy.elim
end
section
variable {X : Cx} {cl : Cl} {h : Hs} {x : Str} {p pos : Pos} {e : Expr} {es : List Expr} {ms : Exs} {C : CXT} {k j : Nat} {f : Addr} {fd : FuncData} {ps : List Str} {sp : Sp}
/-- a call where nothing is being shown -/
theorem pe_callG {E : XK} {t : TA} (F : FnG X.prog X.w X.K X.mg X.base C k f fd ps sp) (hg : X.A.guards = some []) (hr : Room k X.A) (gl : Gl X x) (hm : X.mg x = some (.ref f)) (hk : PySem.W.keepIn X.K (.ref f) = true) (hb : Binds X.K fd ps []) (hx : Passes C X E) (ha : PA X (e :: es) t)
    (hd : (x == ("__debug__" : Str)) = false := by decide) (he : starEach (e :: es) X.env = (false, eval e X.env) :: starEach es X.env := by rfl) (hpl : (backTo pos (starEach es X.env)).any (·.1) = false := by rfl) :
    PE X (.Call (.Name x p) (e :: es) [] pos) (tCall sp [] E t) := by
  refine ⟨fun pins s σ H Q I w => wpAny_Call_Name_kw (ld_glob I gl hm ?_ hd)⟩
  refine PySem.W.callWith_K (h₀ := X.base) I.ok.mod.kin hk (thn (ha.run pos pins s σ H _ I w) fun us s1 ⟨vs, H1, J, r, q⟩ => ⟨J.kIn, ?_⟩) he hpl
  have q : sp (vs ++ []) H1 Q E := q
  rw [List.append_nil] at q
  have hl : us.length = ps.length := by rw [← r.length]; exact F.ln _ _ _ _ q
  have bd := hb s1 us J.kIn (by rw [List.append_nil]; exact hl)
  rw [List.append_nil] at bd
  refine wpAny_call (codeAny_mono (F.go X.A hg X.stack s1 H1 ⟨us, []⟩ us vs Q E hr J.env0 bd r q) fun fl s' z => ?_)
  match fl, z with
  | .error er, z => exact hx pins σ H1 s1 er s' J z
  | .ok (.ret u), z => exact J.after z
  | .ok .next, z => exact z.elim
  | .ok .brk, z => exact z.elim
  | .ok .cont, z => exact z.elim
def CalG (P : Program) (w : World) (K : PySem.W.Frag) (mg : Str → Option Value) (base : Heap) (cl : Cl) (k : Nat) (x : Str) (n : Nat) (g : List DV → M DV) : Prop :=
  ∃ (f : Addr) (fd : FuncData) (ps : List Str), FnG P w K mg base L2.CX0 k f fd ps (spD K cl n g) ∧ mg x = some (.ref f) ∧ PySem.W.keepIn K (.ref f) = true ∧ Binds K fd ps []
theorem de_callG {n : Nat} {g : List DV → M DV} (F : CalG X.prog X.w X.K X.mg X.base cl k x n g) (hg : X.A.guards = some []) (hr : Room j X.A) (hk : k ≤ j) (gl : Gl X x) (ha : DA cl X (e :: es) ms) (hl : (e :: es).length = n)
    (hn : ∀ sl h vs h', ms sl h = .ok vs h' → vs.length = n)
    (hdb : (x == ("__debug__" : Str)) = false := by decide) (he : starEach (e :: es) X.env = (false, eval e X.env) :: starEach es X.env := by rfl) (hpl : (backTo pos (starEach es X.env)).any (·.1) = false := by rfl) :
    DE cl X (.Call (.Name x p) (e :: es) [] pos) (eCall g ms) := by
  obtain ⟨f, fd, ps, F, hm, hkp, hb⟩ := F
  refine (pe_callG F hg (hr.mono hk) gl hm hkp hb (L2.pass0) ha hdb he hpl).mono fun σ H Q q => ?_
  obtain ⟨W, h, sl, v, h', rel, rs, e, po⟩ := q
  obtain ⟨d, h1, e1, e2⟩ := bnd_ok e
  refine ⟨W, h, sl, d, h1, rel, rs, e1, fun W' H' xs ext rel' rv => ?_⟩
  show spD X.K cl n g (xs ++ []) H' Q E0
  rw [List.append_nil]
  exact ⟨by rw [← rv.length]; exact hn _ _ _ _ e1, W', h1, d, v, h', rel', rv, e2, po.go ext⟩
end
section
variable {cl : Cl}
/-- a def that may show values -/
theorem d_defG {P : Program} {w : World} {K : PySem.W.Frag} {mg : Str → Option Value} {base : Heap} {x qual : Str} {params : Arguments} {body : List Stmt} {scope : Scope} {f : Addr} {fd : FuncData} {N ps : List Str} {k n : Nat} {b : Sx} (F : FunD K x qual params body scope [] [] f fd) (S : FnScope N ps scope) (hn : ps.length = n) (hl : n ≤ N.length)
    (hb : ∀ (cdv : Value) (A : Around), A.guards = some [] → ∀ (outer : List Env) (s : Shared) (H : Hp) (E : XK), Room k (A.deeper (envOfC qual scope s.heap.objs.size f cdv)) → (A.deeper (envOfC qual scope s.heap.objs.size f cdv)).guards = some [] → DSs cl (cxOf L2.CX0 P w K mg base N qual scope f cdv A outer s H E).nox body b) :
    FnG P w K mg base L2.CX0 (k + 1) f fd ps (spD K cl n (runF N.length b)) := by
  subst hn
  exact fnG_made F S (fun vs H Q E q => q.1) fun cdv A hg out s H vs Q E hr q => ⟨tS K cl b, PSs.nox (hb cdv A hg out s H E hr hg), run_spD hl q⟩
end
end D
set_option Elab.async false
set_option linter.all false
set_option maxRecDepth 100000
set_option maxHeartbeats 2000000
/-! X12: repr of data, where no repr is under way. -/
namespace D
open PySem PySem.Spec PyProof.Rows L2 SlX
/-- a leaf -/
inductive LfP : V → PyData → Prop
  | non : LfP .non .none
  | bl (b : Bool) : LfP (.bl b) (.bool b)
  | int (i : Int) : LfP (.int i) (.int i)
  | str (x : Str) : LfP (.str x) (.str x)
def KeyP : Key → PyData → Prop
  | .inl i, p => p = .int i
  | .inr x, p => p = .str x
/-- a dict's data -/
inductive KvP : List (Key × V) → List (PyData × PyData) → Prop
  | nil : KvP [] []
  | cons {k : Key} {v : V} {a b : PyData} {s : List (Key × V)} {t : List (PyData × PyData)} : KeyP k a → LfP v b → KvP s t → KvP ((k, v) :: s) ((a, b) :: t)
theorem LfP.reads {h : Heap} {v : V} {p : PyData} {u : Value} (q : LfP v p) (r : RelV v u) : Reads h u p [] := by
  cases q with
  | non => cases r; exact .none
  | bl b => cases r; exact .bool b
  | int i => obtain ⟨t, rfl⟩ := r; exact .int i t
  | str x => obtain ⟨t, rfl⟩ := r; exact .str x t
theorem KvP.reads {P : Program} {w : World} {h : Heap} : ∀ {kvs : List (Key × V)} {ps : List (PyData × PyData)} {vs : List (Key × Value)} {es : List DictEntry}, KvP kvs ps → KV kvs vs → Pairs (mixKind P w) es vs →
    ReadsAll h (es.map (·.key)) (ps.map (·.1)) [] ∧ ReadsAll h (es.map (·.val)) (ps.map (·.2)) [] := by
  intro kvs ps vs es q
  induction q generalizing vs es with
  | nil =>
    intro r z
    cases r
    cases z
    exact ⟨.nil, .nil⟩
  | @cons k v a b s t h1 h2 _ ih =>
    intro r z
    cases r with
    | cons r1 r2 =>
      obtain ⟨rk, rv⟩ := r1
      cases z with
      | cons z1 z2 z3 =>
        rename_i e es
        obtain ⟨i1, i2⟩ := ih r2 z3
        have hk : Reads h e.key a [] := by
          rcases keyIs_shape z1 with ⟨i, tk, e1, e2⟩ | ⟨x, tk, e1, e2⟩
          · rw [e2]
            have rk : k = _ := rk
            rw [rk.trans e1] at h1
            cases (show a = _ from h1)
            exact .int i tk
          · rw [e2]
            have rk : k = _ := rk
            rw [rk.trans e1] at h1
            cases (show a = _ from h1)
            exact .str x tk
        have hv : Reads h e.val b [] := by
          rw [z2]
          exact h2.reads rv
        exact ⟨ReadsAll.cons (as := []) (bs := []) hk i1, ReadsAll.cons (as := []) (bs := []) hv i2⟩
/-- what repr shows of a value -/
def ShP (K : PySem.W.Frag) (H : Hp) (v : V) (p : PyData) : Prop := (Dp K H v p ∧ p.hasDict = false) ∨ ∃ a kvs ps, v = .ref a ∧ H a = some (.dK kvs) ∧ KvP kvs ps ∧ p = .dict ps
section
variable {X : Cx}
theorem call_repr_data (hg : X.A.guards = some []) (hu : X.A.units + 64 < cLine) : CallR X (.builtin "repr") (fun xs H Q => ∃ v p, xs = [v] ∧ ShP X.K H v p ∧ p.depth ≤ 40 ∧ p.showable = true ∧ p.shown.length ≤ sizeLine ∧ Q (.str p.shown) H) := by
  intro pins s σ H xs us Q I r h
  obtain ⟨v, p, rfl, sp, hd, hs, hz, q⟩ := h
  have seen : ∀ {a : Addr} {as : List Addr}, Reads s.heap (.ref a) p as → (p.hasDict = true → sysModules ∉ as) → wpAny (model X.prog X.w) X.A (call (.builtin "repr") [.ref a]) (EP X pins σ Q) X.xe s := fun rd hm =>
    repr_of_reads' rd hs hm hg (by omega) (fun _ _ e => e) (fun h' t tk hk => ⟨.str _, H, I.kept hk, ⟨t, rfl⟩, q⟩) hz
  rcases sp with ⟨dp, hn⟩ | ⟨a, kvs, ps, rfl, ha, hk, rfl⟩
  · cases r with
    | cons r1 r2 =>
      cases r2
      rename_i u
      cases dp with
      | non => cases r1; exact PySem.P.repr_of_none ⟨.str _, H, I.tok _, ⟨_, rfl⟩, by simpa only [PyData.shown] using q⟩
      | bl b => cases r1; exact PySem.P.repr_of_bool ⟨.str _, H, I.tok _, ⟨_, rfl⟩, by simpa only [PyData.shown] using q⟩
      | int i =>
        obtain ⟨t, rfl⟩ := r1
        exact PySem.P.repr_of_int (by simpa [PyData.showable] using hs) ⟨.str _, H, I.tok _, ⟨_, rfl⟩, by simpa only [PyData.shown] using q⟩
      | str x =>
        obtain ⟨t, rfl⟩ := r1
        exact PySem.P.repr_of_str ⟨.str _, H, I.tok _, ⟨_, rfl⟩, by simpa only [PyData.shown] using q⟩ (by simpa only [PyData.shown] using hz)
      | lst h1 h2 =>
        have r1' := r1
        cases r1
        obtain ⟨as, rd⟩ := Dp.reads I _ _ _ (.lst h1 h2) r1'
        exact seen rd fun z => by rw [hn] at z; cases z
      | tup h1 h2 =>
        have r1' := r1
        cases r1
        obtain ⟨as, rd⟩ := Dp.reads I _ _ _ (.tup h1 h2) r1'
        exact seen rd fun z => by rw [hn] at z; cases z
  · cases r with
    | cons r1 r2 =>
      cases r2
      cases r1
      obtain ⟨_, sm, vs, kv, o, es, ep, ho, hx, hdt, _, pr, _⟩ := dk_of I.hok ha
      obtain ⟨i1, i2⟩ := hk.reads kv pr
      have rd := Reads.dict (as := []) (bs := []) ho hx.1 hdt i1 i2
      refine seen rd fun _ z => ?_
      have z : sysModules = a := by simpa using z
      rw [z] at sm
      simp at sm
end
/-! ### the D function -/
def keyF : DV → Option PyData
  | .int i => some (.int i)
  | .str s => some (.str (SX.S s))
  | _ => none
def kvF (h : Hs) : List (DV × DV) → Option (List (PyData × PyData))
  | [] => some []
  | (k, v) :: t => match keyF k, pdF h 0 v, kvF h t with
    | some a, some b, some c => some ((a, b) :: c)
    | _, _, _ => none
def shF (h : Hs) (d : DV) : Option PyData := match d with
  | .ref k => (match h[k]? with
    | some (.dic kvs) => (match kvF h kvs with
      | some ps => some (.dict ps)
      | none => none)
    | _ => pdF h 4 (.ref k))
  | d => pdF h 4 d
open Classical in
noncomputable def reprD (d : DV) : M DV := fun h => match shF h d with
  | some p => if p.depth ≤ 40 ∧ p.showable = true ∧ p.shown.length ≤ sizeLine then .ok (.str p.shown.cps.toList) h else .stuck
  | none => .stuck
section
variable {K : PySem.W.Frag} {cl : Cl} {W : Wd} {H : Hp} {h h' : Hs} {X : Cx}
theorem pdF_leaf {d : DV} {p : PyData} {x : V} (e : pdF h 0 d = some p) (r : RV K cl W H d x) : LfP x p := by
  cases r <;> first | (cases e; done) | skip
  · cases e; exact .non
  · cases e; exact .bl _
  · cases e; exact .int _
  · rename_i s
    have e : (if s.all (fun c => Nat.blt c 1114112) then some (PyData.str (SX.S s)) else none) = some p := e
    split at e
    · cases e; exact .str _
    · cases e
theorem kvF_ok : ∀ {kvs : List (DV × DV)} {ks : List (Key × V)} {ps : List (PyData × PyData)}, kvF h kvs = some ps → RKV K cl W H kvs ks → KvP ks ps := by
  intro kvs ks ps e r
  induction r generalizing ps with
  | nil => cases e; exact .nil
  | @cons d e1 k x ds xs rk rv _ ih =>
    have e : (match keyF d, pdF h 0 e1, kvF h ds with
      | some a, some b, some c => some ((a, b) :: c)
      | _, _, _ => none) = some ps := e
    split at e
    · rename_i a b c q1 q2 q3
      cases e
      refine .cons ?_ (pdF_leaf q2 rv) (ih q3)
      cases d <;> first | (cases q1; done) | skip
      · cases q1; cases (show k = _ from rk); rfl
      · cases q1; cases (show k = _ from rk); rfl
    · cases e
theorem shF_ok {d : DV} {p : PyData} {x : V} (rel : HRel K cl W h H) (e : shF h d = some p) (r : RV K cl W H d x) : ShP K H x p := by
  have base : ∀ {d : DV} {p : PyData}, pdF h 4 d = some p → RV K cl W H d x → ShP K H x p := fun e r => by
    obtain ⟨h1, h2, _⟩ := pdF_ok rel _ _ _ _ e r
    exact .inl ⟨h1, PyData.hasDict_of_canLay _ h2⟩
  unfold shF at e
  split at e
  · rename_i k
    split at e
    · rename_i kvs q
      split at e
      · rename_i ps q2
        cases e
        cases r with
        | ref hn =>
          obtain ⟨_, ks, hx, rk⟩ := rel.ok _ _ _ _ q hn
          exact .inr ⟨_, _, _, rfl, hx, kvF_ok q2 rk, rfl⟩
      · cases e
    · exact base e r
  · exact base e r
noncomputable def reprL1 (ds : List DV) : M DV := match ds with
  | [d] => reprD d
  | _ => stk
theorem c_repr (hg : X.A.guards = some []) (hu : X.A.units + 64 < cLine) : CD cl X (.builtin "repr") reprL1 := by
  intro pins s σ H xs us Q I rv q
  obtain ⟨W, h, ds, v', h', rel, r, e, po⟩ := q
  unfold reprL1 at e
  split at e
  · rename_i d
    obtain ⟨x, rfl, r1⟩ := r.one
    unfold reprD at e
    cases z : shF h d with
    | none => rw [z] at e; cases e
    | some p =>
      rw [z] at e
      dsimp only at e
      split at e
      · rename_i c
        cases e
        refine call_repr_data hg hu pins s σ H _ us Q I rv ⟨x, p, rfl, shF_ok rel z r1, c.1, c.2.1, c.2.2, ?_⟩
        exact po.now rel (.str _)
      · cases e
  · cases e
end
end D
set_option Elab.async false
set_option linter.all false
set_option maxRecDepth 100000
set_option maxHeartbeats 2000000
/-! X13: defs that may show values: trimmed, with lambdas, at the law's end. -/
namespace D
open PySem PySem.Spec PyProof.Rows L2 SlX ZG He LamX
section
variable {P : Program} {w : World} {K : PySem.W.Frag} {mg : Str → Option Value} {base : Heap} {cl : Cl} {k n : Nat} {f : Addr} {fd : FuncData} {ps N : List Str} {sp sp' : Sp}
theorem FnG.less (F : FnG P w K mg base L2.CX0 k f fd ps sp) (i : ∀ vs H Q E, sp' vs H Q E → sp vs H Q E) : FnG P w K mg base L2.CX0 k f fd ps sp' :=
  ⟨fun vs H Q E q => F.ln vs H Q E (i _ _ _ _ q), fun A hg out s H ar us vs Q E hr e0 bd r q => F.go A hg out s H ar us vs Q E hr e0 bd r (i _ _ _ _ q)⟩
theorem trG_fn {g : List DV → M DV} (F : FnG P w K mg base L2.CX0 k f fd ps (spD K cl n g)) : FnG P w K mg base L2.CX0 k f fd ps (spD K cl n (trF g)) := F.less fun _ _ _ _ q => tr_sp q
/-- a def that makes lambdas and may show values -/
theorem d_defLG {x qual : Str} {params : Arguments} {body : List Stmt} {scope : Scope} {b : Sx} (F : FunD K x qual params body scope [] [] f fd) (S : FnScope N ps scope) (hn : ps.length = n) (hl : n ≤ N.length)
    (hb : ∀ (A : Around) (outer : List Env) (s : Shared) (H : Hp) (E : XK), Room k (A.deeper (envOfC qual scope s.heap.objs.size f (.ref (cdA K f)))) → (A.deeper (envOfC qual scope s.heap.objs.size f (.ref (cdA K f)))).guards = some [] → DSs cl (cxOf L2.CX0 P w K mg base N qual scope f (.ref (cdA K f)) A outer s H E).nox body b) :
    FnG P w K mg base L2.CX0 (k + 1) f fd ps (spD K cl n (runF N.length b)) := by
  subst hn
  obtain ⟨oc, od, dV, kV, doc, pm, an, cdv0, ct0, sl0, e0, lk0, hc0, _, _⟩ := F.ex
  obtain ⟨c0, rfl⟩ := codeIn_ref hc0
  have ec : cdA K f = c0 := by
    subst e0
    unfold cdA
    rw [lk0]
  rw [ec] at hb
  refine ⟨fun vs H Q E q => q.1, fun A hg out s H ar us vs Q E hr e1 bd r hsp => ?_⟩
  subst e0
  have kin : K.In s.heap := e1.mod.kin.keeps fun b o e => (e1.bs b o e).1
  have nl : s.heap.NoLimit := e1.mod.nolimit.keeps fun b o e => (e1.bs b o e).1
  have len := hsp.1
  have kd : ∀ y ∈ ps.zip us, scope.names.lookup y.1 = some .local ∨ (scope.names.lookup y.1 = some .cell ∧ ((cellsFrom (s.heap.objs.size + 1) scope.names []).lookup y.1).isSome = true) := by
    rintro ⟨n, v⟩ hy
    exact (S.par n (List.of_mem_zip hy).1).imp id fun q => ⟨q, PySem.W.cellsFrom_some _ _ _ (.inl q)⟩
  refine codeAny_call_function hr.depth (kin _ _ lk0) rfl S.co S.gen rfl (PySem.W.codeRec_of kin hc0) (bd _ _ _ _ ?_)
  refine wpAny_newFunctionEnv_cells S.kind kd fun env he s1 x => ?_
  subst he
  refine ⟨nl.keeps x.toInCall.keep, codeAny_func ?_⟩
  refine wpAny_mono ((PSs.nox (hb A out s H E (hr.deeper _) hg)).run [] s1 (start N vs) H _ (inv_start (CX := L2.CX0) (E := E) (qual := qual) (f := f) (cd := .ref c0) S hr.hd e1 len r x) (run_spD hl hsp)) (fun fl s' z => ?_) fun e s' z => z
  cases fl with
  | ret u =>
    obtain ⟨y, τ, G', J, ry, qy⟩ := z
    exact ⟨y, G', J.os, J.bare, J.base, J.hok, ry, qy⟩
  | next =>
    obtain ⟨τ, G', J, qy⟩ := z
    exact ⟨V.non, G', J.os, J.bare, J.base, J.hok, rfl, qy⟩
  | brk => obtain ⟨_, _, _, qy⟩ := z; exact qy.elim
  | cont => obtain ⟨_, _, _, qy⟩ := z; exact qy.elim
/-- the script's list may be frozen -/
theorem thawG (F : FnG P w K mg base L2.CX0 k f fd ps sp) : FnG P w K mg base L2.CX0 k f fd ps (spF sp) := by
  refine ⟨fun vs H Q E q => ?_, fun A hg outer s H args us vs Q E hr e0 hb r q => ?_⟩
  · rcases q with q | ⟨a, xs, _, _, q⟩
    · exact F.ln vs H Q E q
    · exact F.ln vs _ Q E (q { cls := .none, data := .fields #[] })
  · rcases q with q | ⟨a, xs, _, ha, q⟩
    · exact F.go A hg outer s H args us vs Q E hr e0 hb r q
    · obtain ⟨hl, its, n, rv, ho⟩ := e0.hok a _ ha
      have nb : ∀ {b : Addr}, H b = none → b ≠ a := fun {b} z y => by rw [y, ha] at z; cases z
      have q2 := q { cls := .type "list", data := .seq its.toArray n }
      have hok2 : HOk P w (upd H a (.frz { cls := .type "list", data := .seq its.toArray n } (.lst xs))) s.heap := fun b u e => by
        by_cases hba : b = a
        · subst hba
          rw [upd_same] at e
          cases e
          exact ⟨ho, hl, its, n, rv, ho⟩
        · rw [upd_ne hba] at e
          exact (e0.hok b u e).stay (fun _ _ _ z => z) (fun c z => by rw [upd_ne (fun y => by rw [y, ha] at z; cases z)]; exact z) fun c ys z => by rw [upd_ne (fun y => by rw [y, ha] at z; cases z)]; exact z
      have e2 : Env0 P w K mg base A outer s (upd H a (.frz { cls := .type "list", data := .seq its.toArray n } (.lst xs))) :=
        ⟨e0.frames, e0.mod, fun b o z => ⟨(e0.bs b o z).1, by rw [upd_ne (nb (e0.bs b o z).2)]; exact (e0.bs b o z).2⟩, e0.bsz, e0.funs, fun b hb => by rw [upd_ne (nb (e0.frf b hb))]; exact e0.frf b hb, hok2, e0.bare⟩
      refine codeAny_mono (F.go A hg outer s _ args us vs Q E hr e2 hb r q2) fun r' s' z => ?_
      cases r' with
      | error e => exact z.elim
      | ok fl =>
        cases fl with
        | ret u =>
          obtain ⟨v, H', z1, z2, un, z3, z4, z5⟩ := z
          exact ⟨v, H', z1, z2, ⟨fun b o e h => un.keep b o e (by rw [upd_ne (nb h)]; exact h), fun b o e h => un.slot b o e (by rw [upd_ne (nb h)]; exact h), fun b o e h => un.free b o e (by rw [upd_ne (nb h)]; exact h), un.there,
            fun b ys h => un.tups b ys (by rw [upd_ne (fun y => by rw [y, ha] at h; cases h)]; exact h), fun b o u h => un.frzs b o u (by rw [upd_ne (fun y => by rw [y, ha] at h; cases h)]; exact h), fun b ps h => un.tbls b ps (by rw [upd_ne (fun y => by rw [y, ha] at h; cases h)]; exact h)⟩, z3, z4, z5⟩
        | next => exact z.elim
        | brk => exact z.elim
        | cont => exact z.elim
end
/-! ### the law's end -/
section
variable {P : Program} {w : World} {K : PySem.W.Frag} {mg mb : Str → Option Value} {k : Nat} {fa a : Addr} {tb : List (Addr × Addr)} {fd : FuncData} {x : Str} {sp : Sp} {st : Shared} {vs : List Value} {ns : List Int}
/-- what the law's call may start from -/
structure EndAt (K : PySem.W.Frag) (mg mb : Str → Option Value) (tb : List (Addr × Addr)) (st : Shared) : Prop where
  kin : K.In st.heap
  main : st.heap.Ns mainGlobals mg
  blt : st.heap.Ns builtinsNs mb
  boot : ∀ x : Str, x ≠ "__name__" → mb x = bootBuiltins x
  lim : st.heap.NoLimit
  gens : st.gens = #[]
  emp : ∀ p ∈ tb, st.heap.get? p.2 = some { cls := .none, data := .fields #[] }
  out : ∀ p ∈ tb, K.lookup p.2 = none
  hds : ∀ p ∈ tb, PySem.W.CodeHd st.heap p.1 p.2
  bm : ∃ (bm : Addr) (ob : Obj), mg "__builtins__" = some (.ref bm) ∧ bm ≠ builtinsNs ∧ st.heap.get? bm = some ob ∧ ob.cls = .type "module" ∧ ob.dict = some builtinsNs ∧ ob.data = .plain
/-- the abstract heap at the end's beginning: the tables and, where it is not the fragment's, the script -/
structure HpAt (st : Shared) (K : PySem.W.Frag) (tb : List (Addr × Addr)) (a : Addr) (H : Hp) : Prop where
  tabs : ∀ p ∈ tb, H p.2 = some (.tbl #[])
  some_ : ∀ b, H b = none ∨ b ∈ tb.map (·.2) ∨ ∃ o xs, H b = some (.frz o (.lst xs))
  who : ∀ b, H b ≠ none → b = a ∨ b ∈ tb.map (·.2)
  free : H a ≠ none → K.lookup a = none
theorem EndAt.tab (Z : EndAt K mg mb tb st) {b : Addr} (hb : b ∈ tb.map (·.2)) : st.heap.get? b = some { cls := .none, data := .fields #[] } := by
  obtain ⟨p, hp, rfl⟩ := List.mem_map.mp hb
  exact Z.emp p hp
theorem HpAt.off (Z : EndAt K mg mb tb st) {H : Hp} (Y : HpAt st K tb a H) (ha : st.heap.get? a = some { cls := .type "list", data := .seq vs.toArray }) {b : Addr} {o : Obj} (e : st.heap.get? b = some o) (h1 : ∀ us m, o.data ≠ .seq us m) (h2 : o.data ≠ .fields #[]) : H b = none := by
  cases q : H b with
  | none => rfl
  | some u =>
    rcases Y.who b (by rw [q]; intro z; cases z) with y | y
    · subst y
      cases e.symm.trans ha
      exact absurd rfl (h1 _ _)
    · cases e.symm.trans (Z.tab y)
      exact absurd rfl h2
theorem HpAt.dic (Z : EndAt K mg mb tb st) {H : Hp} (Y : HpAt st K tb a H) (ha : st.heap.get? a = some { cls := .type "list", data := .seq vs.toArray }) {b : Addr} {m : Str → Option Value} (q : st.heap.Ns b m) : (hidT st.heap H).Ns b m := by
  obtain ⟨o, es, ep, e, d, r⟩ := q
  exact ⟨o, es, ep, hidT_get e (Y.off Z ha e (fun _ _ z => by cases d.symm.trans z) fun z => by cases d.symm.trans z), d, r⟩
theorem HpAt.frag (Z : EndAt K mg mb tb st) {H : Hp} (Y : HpAt st K tb a H) (ha : st.heap.get? a = some { cls := .type "list", data := .seq vs.toArray }) : K.In (hidT st.heap H) := fun b o e => by
  refine hidT_get (Z.kin b o e) ?_
  cases q : H b with
  | none => rfl
  | some u =>
    rcases Y.who b (by rw [q]; intro z; cases z) with y | y
    · subst y
      cases (Y.free (by rw [q]; intro z; cases z)).symm.trans e
    · obtain ⟨p, hp, rfl⟩ := List.mem_map.mp y
      cases (Z.out p hp).symm.trans e
theorem HpAt.mod (Z : EndAt K mg mb tb st) {H : Hp} (Y : HpAt st K tb a H) (ha : st.heap.get? a = some { cls := .type "list", data := .seq vs.toArray }) : L2.Mod K mg (hidT st.heap H) := by
  obtain ⟨mc, l1, l2⟩ := Z.lim
  exact ⟨Y.frag Z ha, Y.dic Z ha Z.main, ⟨mb, Y.dic Z ha Z.blt, Z.boot⟩, mc, Y.dic Z ha l1, l2⟩
theorem HpAt.tabB (Z : EndAt K mg mb tb st) {H : Hp} (Y : HpAt st K tb a H) (ha : st.heap.get? a = some { cls := .type "list", data := .seq vs.toArray }) (p : Addr × Addr) (hp : p ∈ tb) : TabB (hidT st.heap H) mg p.1 p.2 := by
  have hT := Z.emp p hp
  obtain ⟨gm, es, ep, ge, gd, _⟩ := Z.main
  refine ⟨?_, ?_, fun z => ?_⟩
  · obtain ⟨o, us, file, tf, fl, tg, inF, text, tt, e1, r1, r2, r3, rest⟩ := Z.hds p hp
    exact ⟨o, us, file, tf, fl, tg, inF, text, tt, hidT_get e1 (Y.off Z ha e1 (fun _ _ z => by cases r2.symm.trans z) fun z => by cases r2.symm.trans z; simp at r3), r1, r2, r3, rest⟩
  · obtain ⟨m, ob, b1, b2, b3, b4, b5, b6⟩ := Z.bm
    refine ⟨m, ob, b1, b2, fun q => ?_, fun q => ?_, hidT_get b3 (Y.off Z ha b3 (fun _ _ z => by cases b6.symm.trans z) fun z => by cases b6.symm.trans z), b4, b5, b6⟩
    · subst q
      cases ge.symm.trans b3
      cases gd.symm.trans b6
    · subst q
      cases hT.symm.trans b3
      cases b6
  · rw [z] at ge
    cases ge.symm.trans hT
    cases gd
/-- the call, from such a heap -/
theorem end_run (Z : EndAt K mg mb tb st) {H : Hp} (Y : HpAt st K tb a H) (ha : st.heap.get? a = some { cls := .type "list", data := .seq vs.toArray }) (hok : HOk P w H st.heap) (hr : Room k callerA)
    (F : FnG P w K mg (hidT st.heap H) L2.CX0 k fa fd [x] sp) (hbind : ∀ (s : Shared) (u : Value), BindsTo s fd ⟨[u], []⟩ [(x, u)]) (q : sp [.ref a] H (fun v _ => v = .bl true) fun _ _ _ => False) :
    codeAny (model P w) callerA (.call (.ref fa) ⟨[.ref a], []⟩) (fun r s' => r = .ok (.ret (.bool true)) ∧ OldK st.heap s'.heap ∧ s'.os = st.os ∧ AllBare s'.gens) st := by
  have e0 : Env0 P w K mg (hidT st.heap H) callerA [] st H :=
    { frames := rfl, mod := Y.mod Z ha, bs := fun b o e => of_hidT e, bsz := Nat.le_of_eq (hidT_size _ _), funs := trivial, frf := fun b z => (by cases (show b ∈ ([] : List Addr) from z)), hok := hok, bare := .of_eq Z.gens }
  refine codeAny_mono (F.go callerA rfl [] st H ⟨[.ref a], []⟩ [.ref a] [.ref a] _ _ hr e0 (hbind st (.ref a)) (.cons rfl .nil) q) fun r s' z => ?_
  cases r with
  | error e => exact z.elim
  | ok fl =>
    cases fl with
    | next => exact z.elim
    | brk => exact z.elim
    | cont => exact z.elim
    | ret u =>
      obtain ⟨v, G, os, bare, un, okG, rv, qv⟩ := z
      cases (show v = V.bl true from qv)
      cases (show u = Value.bool true from rv)
      have same : ∀ b o, b ∉ tb.map (·.2) → st.heap.get? b = some o → s'.heap.get? b = some o := fun b o nb e => by
        cases y : H b with
        | none => exact un.keep b o e y (fun z => by cases (show b ∈ ([] : List Addr) from z)) (by simp)
        | some t =>
          rcases Y.some_ b with z | z | ⟨ob, xs, z⟩
          · cases y.symm.trans z
          · exact absurd z nb
          · have e1 := (hok b _ z).1
            have e2 := (okG b _ (un.frzs b ob _ z)).1
            cases e.symm.trans e1
            exact e2
      have grew : ∀ p ∈ tb, ∃ more : Array Value, s'.heap.get? p.2 = some { cls := .none, data := .fields more } := fun p hp => by
        obtain ⟨more, z⟩ := un.tbls p.2 #[] (Y.tabs p hp)
        exact ⟨_, okG p.2 _ z⟩
      refine ⟨rfl, ⟨fun b o e => ?_, fun b o e => ?_⟩, os, bare⟩
      · by_cases hb : b ∈ tb.map (·.2)
        · obtain ⟨p, hp, rfl⟩ := List.mem_map.mp hb
          obtain ⟨more, hm⟩ := grew p hp
          cases (Z.emp p hp).symm.trans e
          exact .inr (.inl ⟨((Z.hds p hp).tab (Z.emp p hp)).isCodeTable, rfl, #[], more, rfl, by rw [Array.empty_append]; exact hm⟩)
        · exact .inl (same b o hb e)
      · by_cases hb : b ∈ tb.map (·.2)
        · obtain ⟨p, hp, rfl⟩ := List.mem_map.mp hb
          obtain ⟨more, hm⟩ := grew p hp
          exact ⟨_, hm⟩
        · exact ⟨o, same b o hb e⟩
open Classical in
/-- the law's call -/
theorem end_call (Z : EndAt K mg mb tb st) (ha : st.heap.get? a = some { cls := .type "list", data := .seq vs.toArray }) (hi : IntsAre vs ns) (hl : ns.length ≤ sizeLine) (hr : Room k callerA)
    (F : ∀ base : Heap, K.In base → base.Ns mainGlobals mg → (∀ p ∈ tb, TabB base mg p.1 p.2) → FnG P w K mg base L2.CX0 k fa fd [x] sp) (hbind : ∀ (s : Shared) (u : Value), BindsTo s fd ⟨[u], []⟩ [(x, u)])
    (hsp : ∀ H : Hp, (∀ p ∈ tb, H p.2 = some (.tbl #[])) → SqL K H a (ns.map V.int) → sp [.ref a] H (fun v _ => v = .bl true) fun _ _ _ => False) :
    codeAny (model P w) callerA (.call (.ref fa) ⟨[.ref a], []⟩) (fun r s' => r = .ok (.ret (.bool true)) ∧ OldK st.heap s'.heap ∧ s'.os = st.os ∧ AllBare s'.gens) st := by
  have rv := vals_ints hi
  have aT : a ∉ tb.map (·.2) := fun z => by
    have y := (Z.tab z).symm.trans ha
    cases (show Data.fields #[] = Data.seq vs.toArray _ from congrArg Obj.data (Option.some.inj y))
  let H0 : Hp := fun b => if b ∈ tb.map (·.2) then some (.tbl #[]) else none
  have t0 : ∀ {b : Addr}, b ∈ tb.map (·.2) → H0 b = some (.tbl #[]) := fun {b} z => if_pos z
  have n0 : ∀ {b : Addr}, b ∉ tb.map (·.2) → H0 b = none := fun {b} z => if_neg z
  have inT : ∀ p ∈ tb, p.2 ∈ tb.map (·.2) := fun p hp => List.mem_map.mpr ⟨p, hp, rfl⟩
  have who0 : ∀ {b : Addr} {u : HO}, H0 b = some u → b ∈ tb.map (·.2) ∧ u = .tbl #[] := fun {b u} e => by
    by_cases hb : b ∈ tb.map (·.2)
    · rw [t0 hb] at e
      cases e
      exact ⟨hb, rfl⟩
    · rw [n0 hb] at e
      cases e
  have last : ∀ H : Hp, HpAt st K tb a H → HOk P w H st.heap → SqL K H a (ns.map V.int) → codeAny (model P w) callerA (.call (.ref fa) ⟨[.ref a], []⟩) (fun r s' => r = .ok (.ret (.bool true)) ∧ OldK st.heap s'.heap ∧ s'.os = st.os ∧ AllBare s'.gens) st := fun H Y hok hS =>
    end_run Z Y ha hok hr (F _ (Y.frag Z ha) (Y.dic Z ha Z.main) (Y.tabB Z ha)) hbind (hsp H Y.tabs hS)
  cases hk : K.lookup a with
  | some o =>
    have e := Z.kin a o hk
    cases e.symm.trans ha
    refine last H0 ⟨fun p hp => t0 (inT p hp), fun b => ?_, fun b z => ?_, fun z => absurd (n0 aT) z⟩ (fun b u e => ?_) (.inr ⟨_, vs.toArray, _, hk, rfl, rfl, rfl, by rw [List.size_toArray, hi.length]; exact hl, by simpa using rv⟩)
    · by_cases hb : b ∈ tb.map (·.2)
      · exact .inr (.inl hb)
      · exact .inl (n0 hb)
    · obtain ⟨u, hu⟩ := Option.ne_none_iff_exists'.mp z
      exact .inr (who0 hu).1
    · obtain ⟨hb, rfl⟩ := who0 e
      exact Z.tab hb
  | none =>
    refine last (upd H0 a (.frz { cls := .type "list", data := .seq vs.toArray } (.lst (ns.map V.int)))) ⟨fun p hp => ?_, fun b => ?_, fun b z => ?_, fun _ => hk⟩ (fun b u e => ?_) (.inl (.inr ⟨_, upd_same⟩))
    · rw [upd_ne fun z => aT (by rw [← z]; exact inT p hp)]
      exact t0 (inT p hp)
    · by_cases hb : b = a
      · subst hb
        exact .inr (.inr ⟨_, _, upd_same⟩)
      · rw [upd_ne hb]
        by_cases hb2 : b ∈ tb.map (·.2)
        · exact .inr (.inl hb2)
        · exact .inl (n0 hb2)
    · by_cases hb : b = a
      · exact .inl hb
      · rw [upd_ne hb] at z
        obtain ⟨u, hu⟩ := Option.ne_none_iff_exists'.mp z
        exact .inr (who0 hu).1
    · by_cases hb : b = a
      · subst hb
        rw [upd_same] at e
        cases e
        exact ⟨ha, by rw [List.length_map]; exact hl, vs, _, rv, ha⟩
      · rw [upd_ne hb] at e
        obtain ⟨hb2, rfl⟩ := who0 e
        exact Z.tab hb2
/-- what is known of a law that may show values -/
def LawG (l : PySem.W.OpenLaw) (w : World) (K : PySem.W.Frag) (k n : Nat) (x : Str) (mg : Str → Option Value) (fa : Addr) (h : Heap) : Prop :=
  ∃ (fd : FuncData) (tb : List (Addr × Addr)) (sp : Sp), (∀ p ∈ tb, h.get? p.2 = some { cls := .none, data := .fields #[] }) ∧ (∀ p ∈ tb, K.lookup p.2 = none) ∧ (∀ p ∈ tb, PySem.W.CodeHd h p.1 p.2) ∧ (∀ (s : Shared) (u : Value), BindsTo s fd ⟨[u], []⟩ [(x, u)]) ∧
    (∀ (H : Hp) (a : Addr) (ns : List Int), ns.length ≤ n → (∀ p ∈ tb, H p.2 = some (.tbl #[])) → SqL K H a (ns.map V.int) → sp [.ref a] H (fun v _ => v = .bl true) fun _ _ _ => False) ∧
    ∀ base : Heap, K.In base → base.Ns mainGlobals mg → (∀ p ∈ tb, TabB base mg p.1 p.2) → FnG l.prog w K mg base L2.CX0 k fa fd [x] sp
theorem walk_G {l : PySem.W.OpenLaw} {n k : Nat} {q : Program} {loose : List Str} {XP : (Str → Option Value) → Heap → Prop} {YP : World → Heap → Prop} {d : DefRec} {x : Str} (hn : l.most = some n) (hn2 : n ≤ sizeLine) (hdf : d.params.defaults = []) (hr : Room k callerA)
    (F : ∀ (w : World) (mg : Str → Option Value) (fa : Addr) (h : Heap), YP w h → h.Ns mainGlobals mg → mg d.name = some (.ref fa) → ∃ K : PySem.W.Frag, K.In h ∧ LawG l w K k n x mg fa h) :
    PySem.W.WalkO q loose XP YP l.row.toRowW d [] (fun f vs => PySem.call f vs) := by
  refine Att.attach_callB hn hdf fun w s₀ st mg mb fa o pm cd doc a vs ns G Y ho hd hcd hmg hobj hints hlen hbits hg => ?_
  obtain ⟨K, KX, fd, tb, sp, hT, nT, C, hb, hsp, hF⟩ := F w mg fa _ Y G.T.g hmg
  have Z : EndAt K mg mb tb st := ⟨KX, G.T.g, G.T.b, G.T.builtins, G.T.nolimit, hg, hT, nT, C, G.T.bmain⟩
  exact end_call Z hobj hints (Nat.le_trans hlen hn2) hr hF hb fun H hH hS => hsp H a ns hlen hH hS
end
end D
set_option Elab.async false
set_option linter.all false
set_option maxRecDepth 100000
set_option maxHeartbeats 2000000
/-! X14: makers that may raise; own == beside a value of any kind; {}. -/
namespace D
open PySem PySem.Spec PyProof.Rows L2 SlX ZG
section
variable {K : PySem.W.Frag} {cl : Cl} {W W1 : Wd} {H H1 : Hp} {h h' : Hs} {X : Cx} {pos p : Pos} {e : Expr} {es : List Expr} {ms : Exs} {x : Str} {E : XK}
/-- C(..), which may raise -/
def makeX (c : Nat) (g : List DV → M DV) (ds : List DV) : M DV := fun h => match g (.ref h.length :: ds) (h ++ [.ins c []]) with
  | .ok .non h2 => (match h2[h.length]? with
    | some (.ins c' fs) => (match allSome fs with
      | some (d :: t) => .ok (.obj c' (d :: t)) (h2.set h.length .dead)
      | _ => .stuck)
    | _ => .stuck)
  | .ok _ _ => .stuck
  | .err c v h2 => .err c v h2
  | .stuck => .stuck
def eMakeX (c : Nat) (g : List DV → M DV) (ms : Exs) : Ex := fun sl => bnd (noE (ms sl)) (makeX c g)
theorem makeX_rn {c : Nat} {g : List DV → M DV} {ds : List DV} {P : DV → Hs → Prop} {Pe : Nat → DV → Hs → Prop} (q : Rn (makeX c g ds h) P Pe) :
    Rn (g (.ref h.length :: ds) (h ++ [.ins c []])) (fun v h2 => v = .non ∧ ∃ c' fs d t, h2[h.length]? = some (.ins c' fs) ∧ allSome fs = some (d :: t) ∧ P (.obj c' (d :: t)) (h2.set h.length .dead)) Pe := by
  unfold makeX at q
  cases z : g (.ref h.length :: ds) (h ++ [.ins c []]) with
  | stuck => rw [z] at q; exact q
  | err c v h2 => rw [z] at q; exact q
  | ok r h2 =>
    rw [z] at q
    cases r <;> first | exact q.elim | skip
    have q : Rn (match h2[h.length]? with
      | some (.ins c' fs) => (match allSome fs with
        | some (d :: t) => R.ok (DV.obj c' (d :: t)) (h2.set h.length .dead)
        | _ => .stuck)
      | _ => .stuck) P Pe := q
    refine ⟨rfl, ?_⟩
    cases q2 : h2[h.length]? with
    | none => rw [q2] at q; exact q.elim
    | some u =>
      rw [q2] at q
      cases u <;> first | exact q.elim | skip
      rename_i c' fs
      have q : Rn (match allSome fs with
        | some (d :: t) => R.ok (DV.obj c' (d :: t)) (h2.set h.length .dead)
        | _ => .stuck) P Pe := q
      cases q3 : allSome fs with
      | none => rw [q3] at q; exact q.elim
      | some l =>
        rw [q3] at q
        cases l with
        | nil => exact q.elim
        | cons d t => exact ⟨c', fs, d, t, rfl, q3, q⟩
theorem dx_make {c j k n : Nat} {g : List DV → M DV} {gf : Addr} (tk : Takes X (fun c d _ H => E c d H)) (M : Mk X.K (cl.ad c) gf) (F : FnX X.prog X.w X.K X.mg X.base cl k gf (n + 1) g) (hr : Room j X.A) (hk : k + 1 ≤ j) (hg : Gl X x) (hm : X.mg x = some (.ref (cl.ad c))) (ha : DA cl X (e :: es) ms)
    (hn : ∀ sl h vs h', ms sl h = .ok vs h' → vs.length = n)
    (hdb : (x == ("__debug__" : Str)) = false := by decide) (he : starEach (e :: es) X.env = (false, eval e X.env) :: starEach es X.env := by rfl) (hpl : (backTo pos (starEach es X.env)).any (·.1) = false := by rfl) :
    DX cl X E (.Call (.Name x p) (e :: es) [] pos) (eMakeX c g ms) := by
  obtain ⟨fd, ps, F, hb⟩ := F
  refine (pe_make M F (hr.mono hk) hg hm hb .nil (passes_call tk fun _ _ _ _ z => z) ha hdb he hpl).mono fun σ H Q ⟨W, h, sl, rel, rs, q⟩ => ?_
  obtain ⟨ds, h1, e1, q1⟩ := (Rn.bnd q).noE
  refine ⟨W, h, sl, ds, h1, rel, rs, e1, fun W1 H1 vs ext rel1 rv a dx na nd ne => ?_⟩
  obtain ⟨ex2, rel2⟩ := rel1.addI (c := c) na nd ne
  show spX X.K cl (n + 1) g (V.ref a :: (vs ++ [])) _ _ _
  rw [List.append_nil]
  have at2 : (W1.addI a dx).ρ[h1.length]? = some (a, dx) := by
    show (W1.ρ ++ [(a, dx)])[h1.length]? = some (a, dx)
    rw [rel1.len]; simp
  refine ⟨by rw [List.length_cons, ← rv.length, hn _ _ _ _ e1], W1.addI a dx, h1 ++ [.ins c []], .ref h1.length :: ds, rel2, .cons (.ref at2) (rv.mono ex2), (makeX_rn q1).mono (fun v h2 z => ?_) fun c v h2 z => z.go (ext.trans ex2)⟩
  obtain ⟨rfl, c', fs, d, t, g2, g3, po⟩ := z
  intro W3 H3 y ext3 rel3 ry
  cases ry
  have at3 := ext3.pre _ _ at2
  have e5 := allSome_ok g3
  subst e5
  obtain ⟨ex4, rel4, r4⟩ := rel3.freeze g2 at3
  exact ⟨rfl, po _ _ _ (((ext.trans ex2).trans ext3).trans ex4) rel4 r4⟩
/-- own ==, the other side of any kind -/
def ownAD (A : Nat → Option (List DV → M DV)) (g : DV → DV → M DV) (x y : DV) : M DV := match x with
  | .obj c fs => bnd (tagM y) fun _ => bnd (optM (A c)) fun k => k [.obj c fs, y]
  | a => g a y
/-- the kinds of values that are no instances -/
def tagT : List String := ["NoneType", "bool", "int", "str", "list", "tuple", "dict"]
theorem o_ownAny {op : CmpOp} {A : Nat → Option (List DV → M DV)} {g : DV → DV → M DV} (hop : ∀ a b, compareOp op a b = richCompare op a b) (hA : ∀ c k, A c = some k → OwnOk X cl c 2 (cmpInfo op).2.1 k)
    (hf : ∀ c k c', A c = some k → PySem.W.notFirst X.K (cl.ad c) (.ref (cl.ad c')) = true) (ht : ∀ c k, A c = some k → ∀ T ∈ tagT, PySem.W.notFirst X.K (cl.ad c) (.type T) = true) (hg : O2 cl X (compareOp op) g) : O2 cl X (compareOp op) (ownAD A g) := by
  intro pins s σ H x y v u Q I rx ry q
  obtain ⟨W, h, d1, d2, v', h', rel, r1, r2, e, po⟩ := q
  unfold ownAD at e
  split at e
  · rename_i c fs
    obtain ⟨t, h2, e1, e2⟩ := bnd_ok e
    obtain ⟨k, h3, e3, e4⟩ := bnd_ok e2
    obtain ⟨hk, rfl⟩ := optM_ok e3
    obtain ⟨gf, j, q1, q2, F, hr⟩ := hA _ _ hk
    have r1' := r1
    have r2' := r2
    obtain ⟨rfl, ty⟩ := tagM_ok rel r2 e1
    cases r1 with
    | obj f1 f2 ne z1 z2 rr =>
      by_cases zo : ∃ c' fs', d2 = .obj c' fs'
      · obtain ⟨c', fs', rfl⟩ := zo
        cases r2 with
        | obj f1' f2' ne' z1' z2' rr' =>
          exact SlX.op_own hop q1 q2 F hr L2.pass0 pins s σ H _ _ v u Q I rx ry ⟨_, _, _, _, _, _, _, rfl, rfl, slt_obj z1 z2, slt_obj z1' z2', hf _ _ c' hk, rfl, W, _, _, v', h', rel, .cons r1' (.cons r2' .nil), e4, po⟩
      · rcases ty with ty | ⟨c', fs', z, _⟩
        · have hT : PySem.W.notFirst X.K (cl.ad c) (tagV cl t) = true := by
            cases t <;> first | exact ht _ _ hk _ (by simp [tagT]) | exact hf _ _ _ hk
          cases (show v = Value.ref _ from rx)
          obtain ⟨sl, od, _, J, _⟩ := slt_inst I (slt_obj z1 z2)
          obtain ⟨P, KX, hP, _⟩ := kit_of I ry ty
          obtain ⟨m, hF⟩ := I.fr
          rw [hop]
          refine PySem.W.cmp_K (op := op) hr.units0 hF I.ok.mod.kin J (KX.ty _ _ I.kIn hP) hT q1 q2 ?_
          refine wpAny_mono (wpAny_call (run_fnR (us := [.ref _, u]) (vs := [.ref _, y]) F hr L2.pass0 I (.cons rfl (.cons ry .nil)) ⟨rfl, W, _, _, v', h', rel, .cons r1' (.cons r2' .nil), e4, po⟩)) (fun w s' z => ?_) fun _ _ x => x
          obtain ⟨z', H', I', rz, qz⟩ := z
          exact cmpback rz ⟨z', H', I', rz, qz⟩
        · exact absurd ⟨c', fs', z⟩ zo
  · exact hg pins s σ H x y v u Q I rx ry ⟨W, h, _, _, v', h', rel, r1, r2, e, po⟩

/-- {} -/
def eDic0 : Ex := fun sl h => .ok (.ref h.length) (h ++ [.dic []])
theorem de_dic0 : DE cl X (.Dict [] [] pos) eDic0 := pe_dnewK.mono fun σ H Q ⟨W, h, sl, v, h', rel, rs, e, po⟩ => by
  cases e
  intro p hp
  have nf : ¬ W.F p := fun q => by
    obtain ⟨u, hu⟩ := rel.tr p q
    rw [hp] at hu; cases hu
  refine po (W.add p) _ (.ref p) (ext_add hp rel) (rel.add hp (fun _ _ z => by cases z) ⟨nf, [], upd_same, .nil⟩) (.ref (d := p) ?_)
  show (W.ρ ++ [(p, p)])[h.length]? = some (p, p)
  rw [rel.len]; simp
end
end D
set_option Elab.async false
set_option linter.all false
set_option maxRecDepth 100000
set_option maxHeartbeats 2000000
/-! X15: repr of data with dicts at any depth. -/
namespace D
open PySem PySem.Spec PyProof.Rows L2 SlX
def kvsF (f : DV → Option PyData) : List (DV × DV) → Option (List (PyData × PyData))
  | [] => some []
  | (k, v) :: t => match keyF k, f v, kvsF f t with
    | some a, some b, some c => some ((a, b) :: c)
    | _, _, _ => none
/-- plain data of this depth -/
def pdN (h : Hs) : Nat → DV → Option PyData
  | _, .non => some .none
  | _, .bl b => some (.bool b)
  | _, .int i => some (.int i)
  | _, .str s => some (.str (SX.S s))
  | n + 1, .tup ds => (match pdAll (pdN h n) ds with
    | some ps => some (.tuple ps)
    | none => none)
  | n + 1, .ref k => (match h[k]? with
    | some (.lst ds) => (match pdAll (pdN h n) ds with
      | some ps => some (.list ps)
      | none => none)
    | some (.dic kvs) => (match kvsF (pdN h n) kvs with
      | some ps => some (.dict ps)
      | none => none)
    | _ => none)
  | _, _ => none
/-- the dict of modules is none of the tracked objects -/
def SysM (K : PySem.W.Frag) : Prop := ∃ o, K.lookup sysModules = some o ∧ o.cls = .type "dict"
section
variable {X : Cx} {pins : List (Addr × Obj)} {σ : L2.St} {H : Hp} {s : Shared} {cl : Cl} {W : Wd} {h h' : Hs}
theorem sys_free (I : Inv X pins σ H s) (S : SysM X.K) : H sysModules = none := by
  obtain ⟨o, e, _⟩ := S
  exact (I.env0.bs _ _ (I.ok.mod.kin _ _ e)).2
theorem sys_lst (I : Inv X pins σ H s) (S : SysM X.K) {a : Addr} {xs : List V} (q : SqL X.K H a xs) : a ≠ sysModules := fun z => by
  subst z
  have f := sys_free I S
  obtain ⟨o, e, c⟩ := S
  rcases q with (q | ⟨u, q⟩) | ⟨o', its, n, e', c', _⟩
  · rw [f] at q; cases q
  · rw [f] at q; cases q
  · rw [e] at e'
    cases e'
    rw [c] at c'
    simp at c'
abbrev Rds (h : Heap) (u : Value) (p : PyData) : Prop := ∃ as, Reads h u p as ∧ sysModules ∉ as
abbrev RdsAll (h : Heap) (us : List Value) (ps : List PyData) : Prop := ∃ as, ReadsAll h us ps as ∧ sysModules ∉ as
theorem all_reads {f : DV → Option PyData} (ih : ∀ d p x u, f d = some p → RV X.K cl W H d x → RelV x u → Rds s.heap u p) : ∀ (ds : List DV) (ps : List PyData) (xs : List V) (us : List Value), pdAll f ds = some ps → RVs X.K cl W H ds xs → Vals xs us → RdsAll s.heap us ps
  | [], ps, xs, us, e, r, z => by
    cases e
    cases r
    cases z
    exact ⟨[], .nil, by simp⟩
  | d :: t, ps, xs, us, e, r, z => by
    have e : (match f d with
      | some p => (match pdAll f t with
        | some ps => some (p :: ps)
        | none => none)
      | none => none) = some ps := e
    cases r with
    | cons r1 r2 =>
      cases z with
      | cons z1 z2 =>
        split at e
        · rename_i p q1
          split at e
          · rename_i qs q2
            cases e
            obtain ⟨as, a1, a2⟩ := ih _ _ _ _ q1 r1 z1
            obtain ⟨bs, b1, b2⟩ := all_reads ih t _ _ _ q2 r2 z2
            exact ⟨as ++ bs, .cons a1 b1, by simp [a2, b2]⟩
          · cases e
        · cases e
theorem kvs_reads {P : Program} {w : World} {f : DV → Option PyData} (ih : ∀ d p x u, f d = some p → RV X.K cl W H d x → RelV x u → Rds s.heap u p) : ∀ (kvs : List (DV × DV)) (ps : List (PyData × PyData)) (ks : List (Key × V)) (vs : List (Key × Value)) (es : List DictEntry), kvsF f kvs = some ps → RKV X.K cl W H kvs ks → KV ks vs → Pairs (mixKind P w) es vs →
    RdsAll s.heap (es.map (·.key)) (ps.map (·.1)) ∧ RdsAll s.heap (es.map (·.val)) (ps.map (·.2))
  | [], ps, ks, vs, es, e, r, z, y => by
    cases e
    cases r
    cases z
    cases y
    exact ⟨⟨[], .nil, by simp⟩, ⟨[], .nil, by simp⟩⟩
  | (k, v) :: t, ps, ks, vs, es, e, r, z, y => by
    have e : (match keyF k, f v, kvsF f t with
      | some a, some b, some c => some ((a, b) :: c)
      | _, _, _ => none) = some ps := e
    split at e
    · rename_i a b c q1 q2 q3
      cases e
      cases r with
      | cons rk rv rt =>
        cases z with
        | cons z1 z2 =>
          cases y with
          | cons y1 y2 y3 =>
            rename_i kk x ks kv0 vs e0 es
            obtain ⟨i1, i2⟩ := z1
            obtain ⟨⟨as, a1, a2⟩, ⟨bs, b1, b2⟩⟩ := kvs_reads ih t _ _ _ _ q3 rt z2 y3
            have hk : Reads s.heap e0.key a [] := by
              have i1 : kk = _ := i1
              cases k <;> first | (cases q1; done) | skip
              · cases q1
                cases (show kk = _ from rk)
                rcases keyIs_shape y1 with ⟨i, tk, e1, e2⟩ | ⟨xx, tk, e1, e2⟩
                · rw [e2]
                  cases i1.trans e1
                  exact .int _ tk
                · cases i1.trans e1
              · cases q1
                cases (show kk = _ from rk)
                rcases keyIs_shape y1 with ⟨i, tk, e1, e2⟩ | ⟨xx, tk, e1, e2⟩
                · cases i1.trans e1
                · rw [e2]
                  cases i1.trans e1
                  exact .str _ tk
            obtain ⟨cs, c1, c2⟩ := ih _ _ _ _ q2 rv i2
            refine ⟨⟨[] ++ as, .cons hk a1, by simpa using a2⟩, ⟨cs ++ bs, .cons (show Reads s.heap e0.val b cs by rw [y2]; exact c1) b1, by simp [c2, b2]⟩⟩
    · cases e
theorem pdN_reads (I : Inv X pins σ H s) (S : SysM X.K) (rel : HRel X.K cl W h H) : ∀ (n : Nat) (d : DV) (p : PyData) (x : V) (u : Value), pdN h n d = some p → RV X.K cl W H d x → RelV x u → Rds s.heap u p := by
  intro n
  induction n with
  | zero =>
    intro d p x u e r z
    cases r <;> first | (cases e; done) | skip
    · cases e; cases z; exact ⟨[], .none, by simp⟩
    · cases e; cases z; exact ⟨[], .bool _, by simp⟩
    · cases e; obtain ⟨t, rfl⟩ := z; exact ⟨[], .int _ t, by simp⟩
    · cases e; obtain ⟨t, rfl⟩ := z; exact ⟨[], .str _ t, by simp⟩
  | succ n ih =>
    intro d p x u e r z
    cases r with
    | non => cases e; cases z; exact ⟨[], .none, by simp⟩
    | bl => cases e; cases z; exact ⟨[], .bool _, by simp⟩
    | int => cases e; obtain ⟨t, rfl⟩ := z; exact ⟨[], .int _ t, by simp⟩
    | str => cases e; obtain ⟨t, rfl⟩ := z; exact ⟨[], .str _ t, by simp⟩
    | obj => cases e
    | scr => cases e
    | fls => cases e
    | exc => cases e
    | tup f rs =>
      rename_i ds xs a
      have e : (match pdAll (pdN h n) ds with
        | some ps => some (PyData.tuple ps)
        | none => none) = some p := e
      split at e
      · rename_i ps q
        cases e
        cases z
        obtain ⟨its, rv, ⟨o, ho, hc, m, hd⟩, _⟩ := I.tuple f.sq
        obtain ⟨as, a1, a2⟩ := all_reads ih _ _ _ _ q rs rv
        exact ⟨as, Reads.tuple ho hc hd a1, a2⟩
      · cases e
    | ref hn =>
      rename_i k a dx
      have e : (match h[k]? with
        | some (.lst ds) => (match pdAll (pdN h n) ds with
          | some ps => some (PyData.list ps)
          | none => none)
        | some (.dic kvs) => (match kvsF (pdN h n) kvs with
          | some ps => some (PyData.dict ps)
          | none => none)
        | _ => none) = some p := e
      split at e
      · rename_i ds q0
        split at e
        · rename_i ps q
          cases e
          obtain ⟨_, xs, hx, rx⟩ := rel.lst q0 hn
          cases z
          obtain ⟨its, rv, ⟨o, m, ho, hc, _, hd⟩, _⟩ := I.list (SqL.of hx)
          obtain ⟨as, a1, a2⟩ := all_reads ih _ _ _ _ q rx rv
          refine ⟨a :: as, Reads.list ho hc hd a1, ?_⟩
          have := sys_lst I S (SqL.of (K := X.K) hx)
          simp [a2, Ne.symm this]
        · cases e
      · rename_i kvs q0
        split at e
        · rename_i ps q
          cases e
          obtain ⟨_, ks, hx, rk⟩ := rel.ok _ _ _ _ q0 hn
          cases z
          obtain ⟨_, sm, vs, kv, o, es, ep, ho, hxd, hdt, _, pr, _⟩ := dk_of I.hok hx
          obtain ⟨⟨as, a1, a2⟩, ⟨bs, b1, b2⟩⟩ := kvs_reads ih _ _ _ _ _ q rk kv pr
          refine ⟨a :: as ++ bs, Reads.dict ho hxd.1 hdt a1 b1, fun y => ?_⟩
          have y : sysModules = a ∨ sysModules ∈ as ∨ sysModules ∈ bs := by simpa using y
          rcases y with y | y | y
          · rw [y] at sm
            simp at sm
          · exact a2 y
          · exact b2 y
        · cases e
      · cases e
open Classical in
noncomputable def reprN (d : DV) : M DV := fun h => match pdN h 6 d with
  | some p => if p.depth ≤ 40 ∧ p.showable = true ∧ p.shown.length ≤ sizeLine then .ok (.str p.shown.cps.toList) h else .stuck
  | none => .stuck
noncomputable def reprL2 (ds : List DV) : M DV := match ds with
  | [d] => reprN d
  | _ => stk
theorem call_reprN (hg : X.A.guards = some []) (hu : X.A.units + 64 < cLine) (I : Inv X pins σ H s) {u : Value} {p : PyData} (rd : Rds s.heap u p) (h1 : p.depth ≤ 40) (h2 : p.showable = true) (h3 : p.shown.length ≤ sizeLine) {Q : VK} (q : Q (.str p.shown) H) :
    wpAny (model X.prog X.w) X.A (call (.builtin "repr") [u]) (EP X pins σ Q) X.xe s := by
  obtain ⟨as, rd, ns⟩ := rd
  have seen : ∀ {a : Addr} {as : List Addr}, Reads s.heap (.ref a) p as → sysModules ∉ as → wpAny (model X.prog X.w) X.A (call (.builtin "repr") [.ref a]) (EP X pins σ Q) X.xe s := fun rd hm =>
    repr_of_reads' rd h2 (fun _ => hm) hg (by omega) (fun _ _ e => e) (fun h' t tk hk => ⟨.str _, H, I.kept hk, ⟨t, rfl⟩, q⟩) h3
  cases rd with
  | none => exact PySem.P.repr_of_none ⟨.str _, H, I.tok _, ⟨_, rfl⟩, by simpa only [PyData.shown] using q⟩
  | bool b => exact PySem.P.repr_of_bool ⟨.str _, H, I.tok _, ⟨_, rfl⟩, by simpa only [PyData.shown] using q⟩
  | int i t => exact PySem.P.repr_of_int (by simpa [PyData.showable] using h2) ⟨.str _, H, I.tok _, ⟨_, rfl⟩, by simpa only [PyData.shown] using q⟩
  | str x t => exact PySem.P.repr_of_str ⟨.str _, H, I.tok _, ⟨_, rfl⟩, by simpa only [PyData.shown] using q⟩ (by simpa only [PyData.shown] using h3)
  | list a b c d => exact seen (.list a b c d) ns
  | tuple a b c d => exact seen (.tuple a b c d) ns
  | dict a b c d e => exact seen (.dict a b c d e) ns
theorem c_reprN (hg : X.A.guards = some []) (hu : X.A.units + 64 < cLine) (S : SysM X.K) : CD cl X (.builtin "repr") reprL2 := by
  intro pins s σ H xs us Q I rv q
  obtain ⟨W, h, ds, v', h', rel, r, e, po⟩ := q
  unfold reprL2 at e
  split at e
  · rename_i d
    obtain ⟨x, rfl, r1⟩ := r.one
    cases rv with
    | cons rv1 rv2 =>
      cases rv2
      unfold reprN at e
      cases z : pdN h 6 d with
      | none => rw [z] at e; cases e
      | some p =>
        rw [z] at e
        dsimp only at e
        split at e
        · rename_i c
          cases e
          exact call_reprN hg hu I (pdN_reads I S rel _ _ _ _ _ z r1 rv1) c.1 c.2.1 c.2.2 (po.now rel (.str _))
        · cases e
  · cases e
end
end D
set_option Elab.async false
set_option linter.all false
set_option maxRecDepth 100000
set_option maxHeartbeats 2000000
/-! X16: exceptions made, not raised. -/
namespace D
open PySem PySem.Spec PyProof.Rows L2 SlX ZG
/-- C(e), an exception: it stands at a, its dict at d -/
def tMkE (C : Addr) (ta : TA) : TE := fun σ H Q => ta σ H fun vs H1 => ∃ v, vs = [v] ∧ ∀ d a, H1 d = none → H1 a = none → d ≠ a → Q (.ref a) (upd (upd H1 d (.xd [(("value" : Str), v)])) a (XcO a C d))
section
variable {X : Cx} {mgq : Str} {params : Arguments} {body : List Stmt} {scope : Scope} {B f C : Addr} {x : Str} {e : Expr} {p pos : Pos} {ta : TA} {k : Nat}
theorem pe_mkx (I0 : InK X.prog X.K X.mg mgq params body scope B f) (S : InS params body scope) (T : ExK X.K B f C) (hr : Room (k + 1) X.A) (hg : Gl X x) (hm : X.mg x = some (.ref C)) (ha : PA X [e] ta)
    (hdb : (x == ("__debug__" : Str)) = false := by decide) (he : starEach [e] X.env = (false, eval e X.env) :: starEach [] X.env := by rfl) : PE X (.Call (.Name x p) [e] [] pos) (tMkE C ta) := ⟨fun pins s σ H Q I h => by
  obtain ⟨nm, q, N, bs, bm, sn, sub, ab, col, dd, k0, k1, k2, k3, k5, hC, hbm⟩ := T.oex.cls
  refine wpAny_Call_Name_kw (ld_glob I hg hm ?_ hdb)
  refine PySem.W.callWith_K (h₀ := X.base) I.ok.mod.kin T.oex.kC (thn (ha.run pos pins s σ H _ I h) fun us s1 ⟨vs, H1, J1, rus, v, hvs, q1⟩ => ⟨J1.kIn, ?_⟩) he rfl
  subst hvs
  obtain ⟨u, rest, rfl, ru, rr⟩ : ∃ u rest, us = u :: rest ∧ RelV v u ∧ rest = [] := by
    cases rus with
    | cons a b => cases b; exact ⟨_, _, rfl, a, rfl⟩
  subst rr
  show wpAny _ _ (call (.ref C) [u]) _ _ _
  obtain ⟨hp, g, dr, tk, os⟩ := s1
  have hC' : hp.get? C = _ := J1.kIn _ _ hC
  refine wpAny_call (PySem.HandSPX.call_own F.excBase_ValueError (fun Y => PySem.HandSPX.refsVE_contains Y bm hbm) hC' (PySem.W.looks_findIn J1.kIn T.init) (fun self => PySem.W.bind_fn J1.kIn self I0.tI) (by rw [sizeLine_eq]; show 1 ≤ _; omega)
    (run_init I0 S T J1.ok.mod J1.bk (hr.make C [u] []).depth fun h' tk' t1 dx kk ld ne hx hn => ⟨rfl, ?_⟩))
  have hn1 : H1 (hp.objs.size + 1) = none := J1.hok.fresh (Nat.le_succ _)
  have hnd : H1 dx = none := J1.hok.fresh ld
  obtain ⟨G, g1, g2⟩ := restrict h' fun b => decide (b ≠ hp.objs.size + 1)
  have gk : ∀ b, b ≠ hp.objs.size + 1 → G.get? b = h'.get? b := fun b hb => g1 b (decide_eq_true hb)
  have ge : G.get? (hp.objs.size + 1) = none := g2 _ (by simp)
  have old : ∀ {b : Addr} {o : Obj}, hp.get? b = some o → b ≠ hp.objs.size + 1 := fun {b o} z => Nat.ne_of_lt (Nat.lt_of_lt_of_le (Heap.lt_size z) (Nat.le_succ _))
  have J := J1.laid (t' := tk') (a := dx) (o := .xd [(("value" : Str), v)]) (h' := G) (fun b o z => (gk b (old z)).trans (kk b o z)) ld ⟨_, hn.at fun o y => (gk dx ne).trans y, relO_put (fs := []) ru fun _ => True.intro⟩
  have up : ∀ b o, G.get? b = some o → h'.get? b = some o := fun b o z => by
    by_cases hb : b = hp.objs.size + 1
    · rw [hb, ge] at z; cases z
    · exact (gk b hb).symm.trans z
  have na : upd H1 dx (.xd [(("value" : Str), v)]) (hp.objs.size + 1) = none := by
    rw [upd_ne (Ne.symm ne)]
    exact hn1
  have J2 := J.un (t' := tk') (H' := upd (upd H1 dx (.xd [(("value" : Str), v)])) (hp.objs.size + 1) (XcO (hp.objs.size + 1) C dx)) (Un.laidN up ge na) (J.hok.laidN up na ⟨⟨_, _, hx, rfl, rfl, rfl⟩, ⟨_, hx⟩, fun ha hb ⟨o', vs', q, r⟩ k => ⟨o', vs', k _ q, r⟩⟩)
  exact (show EP X pins σ Q (.ref (hp.objs.size + 1)) _ from ⟨.ref (hp.objs.size + 1), _, J2, rfl, q1 dx (hp.objs.size + 1) hnd hn1 ne⟩)⟩
variable {cl : Cl} {m : Ex} {c : Nat}
def eMkx (c : Nat) (m : Ex) : Ex := fun sl => bnd (m sl) fun v => ret (.exc c v)
theorem de_mkx (I0 : InK X.prog X.K X.mg mgq params body scope B f) (S : InS params body scope) (T : ExK X.K B f (cl.ex c)) (hr : Room (k + 1) X.A) (hg : Gl X x) (hm : X.mg x = some (.ref (cl.ex c))) (ha : DE cl X e m)
    (hdb : (x == ("__debug__" : Str)) = false := by decide) (he : starEach [e] X.env = (false, eval e X.env) :: starEach [] X.env := by rfl) : DE cl X (.Call (.Name x p) [e] [] pos) (eMkx c m) :=
  (pe_mkx I0 S T hr hg hm (da_cons ha da_nil he) hdb he).mono fun σ H Q ⟨W, h, sl, v, h', rel, rs, e, po⟩ => by
    obtain ⟨d, h1, e1, e2⟩ := bnd_ok e
    cases e2
    refine ⟨W, h, sl, [d], h', rel, rs, ?_, fun W1 H1 xs ext rel1 rv => ?_⟩
    · show bnd (m sl) _ h = _
      unfold bnd
      rw [e1]
      rfl
    · cases rv with
      | cons rx rn =>
        cases rn
        rename_i y
        refine ⟨y, rfl, fun dx a nd na ne => ?_⟩
        have ext2 := ext_new (o := .xd [(("value" : Str), y)]) nd rel1
        have rel2 : HRel X.K cl (W1.fz dx) h' (upd H1 dx (.xd [(("value" : Str), y)])) := rel1.new nd
        have na2 : upd H1 dx (.xd [(("value" : Str), y)]) a = none := (upd_ne (Ne.symm ne)).trans na
        have ext3 := ext_new (o := XcO a (cl.ex c) dx) na2 rel2
        have rel3 : HRel X.K cl ((W1.fz dx).fz a) h' (upd (upd H1 dx (.xd [(("value" : Str), y)])) a (XcO a (cl.ex c) dx)) := rel2.new na2 (fun ps z => (by have z' : HO.ext _ = HO.tbl _ := z; cases z'))
        exact po _ _ _ ((ext.trans ext2).trans ext3) rel3 (.exc (.inr rfl) (.inl (.inr rfl)) ne upd_same (by rw [upd_ne ne]; exact upd_same) ((rx.mono ext2).mono ext3))
end
end D
set_option Elab.async false
set_option linter.all false
set_option maxRecDepth 100000
set_option maxHeartbeats 2000000
/-! X17: ints beside instances with own operators. -/
namespace D
open PySem PySem.Spec PyProof.Rows L2 SlX
section
variable {prog : Program} {w : World} {A : Around} {E : Value → Shared → Prop} {s : Shared} {x : Addr} {ox : Obj} {a : Int} {t : Tok}
theorem bin_no {nm : String} {f : Int → Int → Sem Fin} {M : Model} (hx : s.heap.get? x = some ox) (hd : ox.data = .plain) (hs : slotArgs nm 1 ⟨[.int a t, .ref x], []⟩ = pure (Value.int a t, [Value.ref x])) :
    wpAny M A (Builtin.Int.intBinary nm f false ⟨[.int a t, .ref x], []⟩) (fun fin s' => ∃ v, fin = .done (.ret v) ∧ v = .notImplemented ∧ s' = s) E s := by
  unfold Builtin.Int.intBinary
  rw [hs]
  refine wpAny_bind (wpAny_pure ?_)
  refine wpAny_bind (wpAny_pure ?_)
  show wpAny _ _ (asInt? (.ref x) >>= _) _ _ _
  unfold asInt?
  refine wpAny_bind (wpAny_bind (wpAny_load hx ?_))
  rw [hd]
  refine wpAny_pure ?_
  refine wpAny_bind (wpAny_rule ?_)
  exact wpAny_pure ⟨_, rfl, rfl, rfl⟩
theorem cno_add (hx : s.heap.get? x = some ox) (hd : ox.data = .plain) {Q : Option Value → Shared → Prop} (h : Q none s) : wpAny (model prog w) A (call (.builtin "int.__add__") [.int a t, .ref x]) (fun v s' => v = .notImplemented ∧ Q none s') E s :=
  wpAny_call_entry F.slot_int_add (typeIs_int s a t) F.entry_int_add (wpAny_mono (bin_no hx hd rfl) (fun fin s' ⟨v, e1, e2, e3⟩ => ⟨v, e1, e2, by rw [e3]; exact h⟩) fun _ _ z => z) (F.args_int_add_2 _ _)
theorem cno_sub (hx : s.heap.get? x = some ox) (hd : ox.data = .plain) {Q : Option Value → Shared → Prop} (h : Q none s) : wpAny (model prog w) A (call (.builtin "int.__sub__") [.int a t, .ref x]) (fun v s' => v = .notImplemented ∧ Q none s') E s :=
  wpAny_call_entry F.slot_int_sub (typeIs_int s a t) F.entry_int_sub (wpAny_mono (bin_no hx hd rfl) (fun fin s' ⟨v, e1, e2, e3⟩ => ⟨v, e1, e2, by rw [e3]; exact h⟩) fun _ _ z => z) (F.args_int_sub_2 _ _)
theorem cno_mul (hx : s.heap.get? x = some ox) (hd : ox.data = .plain) {Q : Option Value → Shared → Prop} (h : Q none s) : wpAny (model prog w) A (call (.builtin "int.__mul__") [.int a t, .ref x]) (fun v s' => v = .notImplemented ∧ Q none s') E s :=
  wpAny_call_entry F.slot_int_mul (typeIs_int s a t) F.entry_int_mul (wpAny_mono (bin_no hx hd rfl) (fun fin s' ⟨v, e1, e2, e3⟩ => ⟨v, e1, e2, by rw [e3]; exact h⟩) fun _ _ z => z) (F.args_int_mul_2 _ _)
theorem cno_lt (hx : s.heap.get? x = some ox) (hd : ox.data = .plain) {Q : Option Value → Shared → Prop} (h : Q none s) : wpAny (model prog w) A (call (.builtin "int.__lt__") [.int a t, .ref x]) (fun v s' => v = .notImplemented ∧ Q none s') E s :=
  wpAny_call_entry F.slot_int_lt (typeIs_int s a t) F.entry_int_lt (wpAny_mono (bin_no hx hd rfl) (fun fin s' ⟨v, e1, e2, e3⟩ => ⟨v, e1, e2, by rw [e3]; exact h⟩) fun _ _ z => z) (F.args_int_lt_2 _ _)
theorem cno_le (hx : s.heap.get? x = some ox) (hd : ox.data = .plain) {Q : Option Value → Shared → Prop} (h : Q none s) : wpAny (model prog w) A (call (.builtin "int.__le__") [.int a t, .ref x]) (fun v s' => v = .notImplemented ∧ Q none s') E s :=
  wpAny_call_entry F.slot_int_le (typeIs_int s a t) F.entry_int_le (wpAny_mono (bin_no hx hd rfl) (fun fin s' ⟨v, e1, e2, e3⟩ => ⟨v, e1, e2, by rw [e3]; exact h⟩) fun _ _ z => z) (F.args_int_le_2 _ _)
theorem cno_gt (hx : s.heap.get? x = some ox) (hd : ox.data = .plain) {Q : Option Value → Shared → Prop} (h : Q none s) : wpAny (model prog w) A (call (.builtin "int.__gt__") [.int a t, .ref x]) (fun v s' => v = .notImplemented ∧ Q none s') E s :=
  wpAny_call_entry F.slot_int_gt (typeIs_int s a t) F.entry_int_gt (wpAny_mono (bin_no hx hd rfl) (fun fin s' ⟨v, e1, e2, e3⟩ => ⟨v, e1, e2, by rw [e3]; exact h⟩) fun _ _ z => z) (F.args_int_gt_2 _ _)
theorem cno_ge (hx : s.heap.get? x = some ox) (hd : ox.data = .plain) {Q : Option Value → Shared → Prop} (h : Q none s) : wpAny (model prog w) A (call (.builtin "int.__ge__") [.int a t, .ref x]) (fun v s' => v = .notImplemented ∧ Q none s') E s :=
  wpAny_call_entry F.slot_int_ge (typeIs_int s a t) F.entry_int_ge (wpAny_mono (bin_no hx hd rfl) (fun fin s' ⟨v, e1, e2, e3⟩ => ⟨v, e1, e2, by rw [e3]; exact h⟩) fun _ _ z => z) (F.args_int_ge_2 _ _)
end
end D
namespace PySem.W
open Sem (wp)
open PyProof.Rows
section
variable {prog : Program} {w : World} {A : Around} {E : Value → Shared → Prop} {s : Shared} {K : Frag} {x C L f f0 : Addr} {h₀ : Heap} {m : Str → Option Value} {ox : Obj} {od : Option Obj} {nm : String} {i : Int} {t : Tok}
/-- int op instance: the instance's reflected def -/
theorem refl_bin {op : Operator} {id : String} {Q : Value → Shared → Prop} (F : Fr h₀ L s.heap m) (X₀ : K.In h₀) (I : InstAt s.heap x ox C od) (hc : selfFirst K C = true) (hs : findIn K (.ref C) (PySem.dunder op.info.2) = some (some (.ref f0)))
    (hr : findIn K (.ref C) (dunderR op.info.2) = some (some (.ref f))) (hf : isFn K (.ref f) = true) (hl : fillsNumberSlot (.type "int") op.info.2 = pure true) (hsl : Slot "int" (PySem.dunder op.info.2) id) (hsub : subIn K (.ref C) (.type "int") = some false)
    (hno : ∀ (Q : Option Value → Shared → Prop), Q none s → wpAny (model prog w) A (call (.builtin id) [.int i t, .ref x]) (fun v s' => v = .notImplemented ∧ Q none s') E s)
    (h : wpAny (model prog w) A (call (.ref f) [.ref x, .int i t]) (CmpBack Q) E s) : wpAny (model prog w) A (binaryOp op (.int i t) (.ref x)) Q E s := by
  have X := X₀.keeps F.keep
  obtain ⟨cd, rest, hcd, hm⟩ := ksp_first hc
  rcases hi : op.info with ⟨sym, nm'⟩
  rw [hi] at hs hr hl hsl
  dsimp only at hs hr hl hsl
  have two := ksp_try X I hr hf h
  have one : ∀ Q : Option Value → Shared → Prop, Q none s → wpAny (model prog w) A (tryMethod (.int i t) (PySem.dunder nm') (.ref x)) Q E s := fun Q q => wpAny_tryMethod_declines (typeIs_int s i t) hsl (hno Q q)
  obtain ⟨hh, g, d, tt, os⟩ := s
  have L1 : Looks (model prog w) hh (typeOf (.ref x)) (.ref C) := I.type
  have L2 : Looks (model prog w) hh (typeOf (.int i t)) (.type "int") := Looks.of_pure rfl
  have L3 : Looks (model prog w) hh (fillsNumberSlot (.ref C) nm') true := fills_K X hcd hm hs
  have L4 : Looks (model prog w) hh (fillsNumberSlot (.type "int") nm') true := Looks.of_pure hl
  have L5 : Looks (model prog w) hh (isSubtype (.ref C) (.type "int")) false := looks_subIn X hsub
  have L7 : Looks (model prog w) hh (numberSlotInPython (.type "int") nm') false := Looks.of_pure rfl
  have hne : (Value.type "int" == Value.ref C) = false := Bool.eq_false_iff.mpr fun q => by cases beq_iff_eq.mp q
  simp only [binaryOp, hi]
  refine wpAny_holding (wpAny_bind ?_)
  unfold binaryOp1
  refine wpAny_bind (L2.at (wpAny_bind (L1.at (wpAny_bind (L4.at ?_)))))
  simp only [hne, Bool.false_eq_true, if_false]
  ksp_lk
  refine one _ ?_
  ksp_lk
  refine wpAny_mono two (fun r s' hr' => ?_) fun _ _ e => e
  obtain ⟨v, rfl, hq⟩ := hr'
  ksp_lk
  exact hq
/-- int < instance: the instance's other def -/
theorem refl_cmp {op : CmpOp} {id : String} {Q : Value → Shared → Prop} (hu : A.units < cLine) (F : Fr h₀ L s.heap m) (X₀ : K.In h₀) (I : InstAt s.heap x ox C od) (hr : findIn K (.ref C) (cmpInfo op).2.2 = some (some (.ref f))) (hf : isFn K (.ref f) = true)
    (hsl : Slot "int" (cmpInfo op).2.1 id) (hsub : subIn K (.ref C) (.type "int") = some false) (hno : ∀ (Q : Option Value → Shared → Prop), Q none s → wpAny (model prog w) A (call (.builtin id) [.int i t, .ref x]) (fun v s' => v = .notImplemented ∧ Q none s') E s)
    (h : wpAny (model prog w) A (call (.ref f) [.ref x, .int i t]) (CmpBack Q) E s) : wpAny (model prog w) A (richCompare op (.int i t) (.ref x)) Q E s := by
  have X := X₀.keeps F.keep
  have two : wpAny (model prog w) A (tryCompare (.ref x) (cmpInfo op).2.2 (.int i t)) (fun r s' => ∃ v, r = some v ∧ Q v s') E s := by
    unfold tryCompare
    refine wpAny_bind (ifBound_K X I hr hf (wpAny_mono h (fun v s' hv => ?_) fun _ _ e => e))
    cases v <;> first | exact hv.elim | exact wpAny_pure ⟨_, rfl, hv⟩
  have one : ∀ Q : Option Value → Shared → Prop, Q none s → wpAny (model prog w) A (tryCompare (.int i t) (cmpInfo op).2.1 (.ref x)) Q E s := fun Q q => wpAny_tryCompare_declines (typeIs_int s i t) hsl (hno Q q)
  have L2 : Looks (model prog w) s.heap (typeOf (.int i t)) (.type "int") := Looks.of_pure rfl
  have ot : oneThing? op (.int i t) (.ref x) = none := by cases op <;> rfl
  have hne : (Value.type "int" != Value.ref C) = true := by
    have : (Value.type "int" == Value.ref C) = false := Bool.eq_false_iff.mpr fun q => by cases beq_iff_eq.mp q
    simp [bne, this]
  unfold richCompare
  simp only [ot]
  refine wpAny_holding (wpAny_bind (wpAny_cRoomFor hu ?_))
  refine wpAny_bind (L2.here (wpAny_bind (I.type.here ?_)))
  rw [if_pos hne]
  refine wpAny_bind ((looks_subIn X hsub).here ?_)
  simp only [Bool.false_eq_true, if_false]
  refine wpAny_bind (one _ ?_)
  simp only [Bool.not_false, if_true]
  refine wpAny_bind (wpAny_mono two (fun r s' z => ?_) fun _ _ e => e)
  obtain ⟨v, rfl, hq⟩ := z
  exact wpAny_pure hq
end
end PySem.W
set_option Elab.async false
set_option linter.all false
set_option maxRecDepth 100000
set_option maxHeartbeats 2000000
/-! X18: own operators beside ints; division by any number; repr of own instances. -/
namespace D
open PySem PySem.Spec PyProof.Rows L2 SlX
section
variable {K : PySem.W.Frag} {cl : Cl} {W : Wd} {H : Hp} {h h' : Hs} {X : Cx}
/-- what the head tells of a class beside int -/
def binB (K : PySem.W.Frag) (C : Addr) (nm : String) : Bool := PySem.W.selfFirst K C && ((PySem.W.findIn K (.type "int") (PySem.dunder nm)).isSome && ((PySem.W.findIn K (.type "int") (PySem.dunderR nm)).isSome && (decide (PySem.W.subIn K (.type "int") (.ref C) = some false) && decide (PySem.W.subIn K (.ref C) (.type "int") = some false))))
structure BinI (K : PySem.W.Frag) (C : Addr) (nm : String) : Prop where
  sf : PySem.W.selfFirst K C = true
  fo : ∃ o, PySem.W.findIn K (.type "int") (PySem.dunder nm) = some o
  ro : ∃ o, PySem.W.findIn K (.type "int") (PySem.dunderR nm) = some o
  s1 : PySem.W.subIn K (.type "int") (.ref C) = some false
  s2 : PySem.W.subIn K (.ref C) (.type "int") = some false
theorem binB_ok {C : Addr} {nm : String} (e : binB K C nm = true) : BinI K C nm := by
  unfold binB at e
  simp only [Bool.and_eq_true, decide_eq_true_eq] at e
  exact ⟨e.1, Option.isSome_iff_exists.mp e.2.1, Option.isSome_iff_exists.mp e.2.2.1, e.2.2.2.1, e.2.2.2.2⟩
def binMD (A R : Nat → Option (List DV → M DV)) (g : DV → DV → M DV) (x y : DV) : M DV := match x, y with
  | .obj c fs, .obj c' fs' => if Nat.beq c c' then bnd (optM (A c)) fun k => k [.obj c fs, .obj c' fs'] else stk
  | .obj c fs, .int i => bnd (optM (A c)) fun k => k [.obj c fs, .int i]
  | .int i, .obj c fs => bnd (optM (R c)) fun k => k [.obj c fs, .int i]
  | a, b => g a b
theorem o_binM {op : Operator} {id : String} {A R : Nat → Option (List DV → M DV)} {g : DV → DV → M DV} (hI : ∀ c k, A c = some k → BinI X.K (cl.ad c) op.info.2) (hA : ∀ c k, A c = some k → OwnOk X cl c 2 (PySem.dunder op.info.2) k) (hR : ∀ c k, R c = some k → OwnOk X cl c 2 (PySem.dunderR op.info.2) k)
    (hAR : ∀ c, (A c).isSome = (R c).isSome) (hl : fillsNumberSlot (.type "int") op.info.2 = pure true) (hsl : Slot "int" (PySem.dunder op.info.2) id)
    (hno : ∀ {prog : Program} {w : World} {A : Around} {E : Value → Shared → Prop} {s : Shared} {x : Addr} {ox : Obj} {a : Int} {t : Tok} (hx : s.heap.get? x = some ox) (hd : ox.data = .plain) {Q : Option Value → Shared → Prop} (h : Q none s), wpAny (model prog w) A (call (.builtin id) [.int a t, .ref x]) (fun v s' => v = .notImplemented ∧ Q none s') E s)
    (hg : O2 cl X (binaryOp op) g) : O2 cl X (binaryOp op) (binMD A R g) := by
  intro pins s σ H x y v u Q I rx ry q
  obtain ⟨W, h, d1, d2, v', h', rel, r1, r2, e, po⟩ := q
  unfold binMD at e
  split at e
  · rename_i c fs c' fs'
    obtain ⟨hcc, e⟩ := if_ok e
    have hcc := Nat.eq_of_beq_eq_true hcc
    subst hcc
    obtain ⟨k, h2, e3, e4⟩ := bnd_ok e
    obtain ⟨hk, rfl⟩ := optM_ok e3
    obtain ⟨gf, j, q1, q2, F, hr⟩ := hA _ _ hk
    have r1' := r1
    have r2' := r2
    cases r1 with
    | obj f1 f2 ne z1 z2 rr =>
      cases r2 with
      | obj f1' f2' ne' z1' z2' rr' =>
        cases rx
        cases ry
        obtain ⟨sl, od, _, J, _⟩ := slt_inst I (slt_obj z1 z2)
        obtain ⟨sl', od', _, J', _⟩ := slt_inst I (slt_obj z1' z2')
        obtain ⟨m, hF⟩ := I.fr
        refine PySem.W.binop_K (op := op) hF I.ok.mod.kin J J'.type (hI _ _ hk).sf q1 q2 (wpAny_mono (wpAny_call (run_fnR (us := [.ref _, .ref _]) (vs := [.ref _, .ref _]) F hr L2.pass0 I (.cons rfl (.cons rfl .nil)) ⟨rfl, W, _, [_, _], v', h', rel, .cons r1' (.cons r2' .nil), e4, po⟩)) (fun w s' z => ?_) fun _ _ x => x)
        obtain ⟨z', H', I', rz, qz⟩ := z
        exact cmpback rz ⟨z', H', I', rz, qz⟩
  · rename_i c fs i
    obtain ⟨k, h2, e3, e4⟩ := bnd_ok e
    obtain ⟨hk, rfl⟩ := optM_ok e3
    obtain ⟨gf, j, q1, q2, F, hr⟩ := hA _ _ hk
    obtain ⟨kr, hkr⟩ := Option.isSome_iff_exists.mp ((hAR c).symm.trans (by rw [hk]; rfl))
    obtain ⟨gr, jr, p1, p2, _, _⟩ := hR _ _ hkr
    have B := hI _ _ hk
    obtain ⟨fo, b1⟩ := B.fo
    obtain ⟨ro, b2⟩ := B.ro
    have r1' := r1
    have r2' := r2
    cases r1 with
    | obj f1 f2 ne z1 z2 rr =>
      cases r2
      cases rx
      obtain ⟨t, rfl⟩ := ry
      obtain ⟨sl, od, _, J, _⟩ := slt_inst I (slt_obj z1 z2)
      obtain ⟨m, hF⟩ := I.fr
      refine PySem.W.ksp_binT (op := op) hF I.ok.mod.kin J rfl B.sf q1 q2 p1 (.inr ⟨_, rfl⟩) b1 b2 B.s1 (wpAny_mono (wpAny_call (run_fnR (us := [.ref _, .int i t]) (vs := [.ref _, .int i]) F hr L2.pass0 I (.cons rfl (.cons ⟨t, rfl⟩ .nil)) ⟨rfl, W, _, [_, _], v', h', rel, .cons r1' (.cons r2' .nil), e4, po⟩)) (fun w s' z => ?_) fun _ _ x => x)
      obtain ⟨z', H', I', rz, qz⟩ := z
      exact cmpback rz ⟨z', H', I', rz, qz⟩
  · rename_i i c fs
    obtain ⟨k, h2, e3, e4⟩ := bnd_ok e
    obtain ⟨hk, rfl⟩ := optM_ok e3
    obtain ⟨gf, j, q1, q2, F, hr⟩ := hR _ _ hk
    obtain ⟨ka, hka⟩ := Option.isSome_iff_exists.mp ((hAR c).trans (by rw [hk]; rfl))
    obtain ⟨ga, ja, p1, p2, _, _⟩ := hA _ _ hka
    have B := hI _ _ hka
    have r1' := r1
    have r2' := r2
    cases r2 with
    | obj f1 f2 ne z1 z2 rr =>
      cases r1
      cases ry
      obtain ⟨t, rfl⟩ := rx
      obtain ⟨sl, od, _, J, _⟩ := slt_inst I (slt_obj z1 z2)
      obtain ⟨m, hF⟩ := I.fr
      refine PySem.W.refl_bin (op := op) hF I.ok.mod.kin J B.sf p1 q1 q2 hl hsl B.s2 (fun Q q => hno J.at_ rfl q) (wpAny_mono (wpAny_call (run_fnR (us := [.ref _, .int i t]) (vs := [.ref _, .int i]) F hr L2.pass0 I (.cons rfl (.cons ⟨t, rfl⟩ .nil)) ⟨rfl, W, _, [_, _], v', h', rel, .cons r2' (.cons r1' .nil), e4, po⟩)) (fun w s' z => ?_) fun _ _ x => x)
      obtain ⟨z', H', I', rz, qz⟩ := z
      exact cmpback rz ⟨z', H', I', rz, qz⟩
  · exact hg pins s σ H x y v u Q I rx ry ⟨W, h, _, _, v', h', rel, r1, r2, e, po⟩
/-- own comparisons, beside ints on either side -/
def cmpMD (A S : Nat → Option (List DV → M DV)) (g : DV → DV → M DV) (x y : DV) : M DV := match x, y with
  | .obj c fs, .obj c' fs' => bnd (optM (A c)) fun k => k [.obj c fs, .obj c' fs']
  | .obj c fs, .int i => bnd (optM (A c)) fun k => k [.obj c fs, .int i]
  | .int i, .obj c fs => bnd (optM (S c)) fun k => k [.obj c fs, .int i]
  | a, b => g a b
theorem o_cmpM {op : CmpOp} {id : String} {A S : Nat → Option (List DV → M DV)} {g : DV → DV → M DV} (hop : ∀ a b, compareOp op a b = richCompare op a b) (hA : ∀ c k, A c = some k → OwnOk X cl c 2 (cmpInfo op).2.1 k) (hS : ∀ c k, S c = some k → OwnOk X cl c 2 (cmpInfo op).2.2 k)
    (hf : ∀ c k c', A c = some k → PySem.W.notFirst X.K (cl.ad c) (.ref (cl.ad c')) = true) (ht : ∀ c k, A c = some k → ∀ T ∈ tagT, PySem.W.notFirst X.K (cl.ad c) (.type T) = true) (hsub : ∀ c k, S c = some k → PySem.W.subIn X.K (.ref (cl.ad c)) (.type "int") = some false)
    (hsl : Slot "int" (cmpInfo op).2.1 id)
    (hno : ∀ {prog : Program} {w : World} {A : Around} {E : Value → Shared → Prop} {s : Shared} {x : Addr} {ox : Obj} {a : Int} {t : Tok} (hx : s.heap.get? x = some ox) (hd : ox.data = .plain) {Q : Option Value → Shared → Prop} (h : Q none s), wpAny (model prog w) A (call (.builtin id) [.int a t, .ref x]) (fun v s' => v = .notImplemented ∧ Q none s') E s)
    (hg : O2 cl X (compareOp op) g) : O2 cl X (compareOp op) (cmpMD A S g) := by
  intro pins s σ H x y v u Q I rx ry q
  obtain ⟨W, h, d1, d2, v', h', rel, r1, r2, e, po⟩ := q
  unfold cmpMD at e
  split at e
  · rename_i c fs c' fs'
    obtain ⟨k, h2, e3, e4⟩ := bnd_ok e
    obtain ⟨hk, rfl⟩ := optM_ok e3
    obtain ⟨gf, j, q1, q2, F, hr⟩ := hA _ _ hk
    have r1' := r1
    have r2' := r2
    cases r1 with
    | obj f1 f2 ne z1 z2 rr =>
      cases r2 with
      | obj f1' f2' ne' z1' z2' rr' =>
        exact SlX.op_own hop q1 q2 F hr L2.pass0 pins s σ H _ _ v u Q I rx ry ⟨_, _, _, _, _, _, _, rfl, rfl, slt_obj z1 z2, slt_obj z1' z2', hf _ _ c' hk, rfl, W, _, _, v', h', rel, .cons r1' (.cons r2' .nil), e4, po⟩
  · rename_i c fs i
    obtain ⟨k, h2, e3, e4⟩ := bnd_ok e
    obtain ⟨hk, rfl⟩ := optM_ok e3
    obtain ⟨gf, j, q1, q2, F, hr⟩ := hA _ _ hk
    have r1' := r1
    have r2' := r2
    cases r1 with
    | obj f1 f2 ne z1 z2 rr =>
      cases r2
      cases rx
      obtain ⟨t, rfl⟩ := ry
      obtain ⟨sl, od, _, J, _⟩ := slt_inst I (slt_obj z1 z2)
      obtain ⟨m, hF⟩ := I.fr
      rw [hop]
      refine PySem.W.cmp_K (op := op) (tb := .type "int") hr.units0 hF I.ok.mod.kin J (PySem.W.Looks.of_pure rfl) (ht _ _ hk _ (by simp [tagT])) q1 q2 ?_
      refine wpAny_mono (wpAny_call (run_fnR (us := [.ref _, .int i t]) (vs := [.ref _, .int i]) F hr L2.pass0 I (.cons rfl (.cons ⟨t, rfl⟩ .nil)) ⟨rfl, W, _, [_, _], v', h', rel, .cons r1' (.cons r2' .nil), e4, po⟩)) (fun w s' z => ?_) fun _ _ x => x
      obtain ⟨z', H', I', rz, qz⟩ := z
      exact cmpback rz ⟨z', H', I', rz, qz⟩
  · rename_i i c fs
    obtain ⟨k, h2, e3, e4⟩ := bnd_ok e
    obtain ⟨hk, rfl⟩ := optM_ok e3
    obtain ⟨gf, j, q1, q2, F, hr⟩ := hS _ _ hk
    have r1' := r1
    have r2' := r2
    cases r2 with
    | obj f1 f2 ne z1 z2 rr =>
      cases r1
      cases ry
      obtain ⟨t, rfl⟩ := rx
      obtain ⟨sl, od, _, J, _⟩ := slt_inst I (slt_obj z1 z2)
      obtain ⟨m, hF⟩ := I.fr
      rw [hop]
      refine PySem.W.refl_cmp (op := op) hr.units0 hF I.ok.mod.kin J q1 q2 hsl (hsub _ _ hk) (fun Q q => hno J.at_ rfl q) ?_
      refine wpAny_mono (wpAny_call (run_fnR (us := [.ref _, .int i t]) (vs := [.ref _, .int i]) F hr L2.pass0 I (.cons rfl (.cons ⟨t, rfl⟩ .nil)) ⟨rfl, W, _, [_, _], v', h', rel, .cons r2' (.cons r1' .nil), e4, po⟩)) (fun w s' z => ?_) fun _ _ x => x
      obtain ⟨z', H', I', rz, qz⟩ := z
      exact cmpback rz ⟨z', H', I', rz, qz⟩
  · exact hg pins s σ H x y v u Q I rx ry ⟨W, h, _, _, v', h', rel, r1, r2, e, po⟩
/-- // of ints of up to 2700 figures below -/
def divZ (j : Int) : Bool := Nat.blt j.natAbs.log2 8990 && (j != 0)
def fdivZ (x y : DV) : M DV := match x, y with
  | .int i, .int j => if divZ j then ret (.int (i.fdiv j)) else stk
  | _, _ => stk
theorem o_fdivZ : O2 cl X (binaryOp .FloorDiv) fdivZ := by
  intro pins s σ H x y v u Q I rx ry q
  obtain ⟨W, h, d1, d2, v', h', rel, r1, r2, e, po⟩ := q
  unfold fdivZ at e
  split at e
  · rename_i i j
    obtain ⟨z, e⟩ := if_ok e
    cases e
    cases r1
    cases r2
    obtain ⟨t, rfl⟩ := rx
    obtain ⟨t2, rfl⟩ := ry
    unfold divZ at z
    obtain ⟨z1, z2⟩ := Bool.and_eq_true_iff.mp z
    have z1 := Nat.blt_eq.mp z1
    have nz : ¬(j == 0) = true := by simpa using z2
    have np : ¬(Builtin.divisionGoesByPylong i j) = true := by
      unfold Builtin.divisionGoesByPylong
      dsimp only
      rw [Bool.and_eq_true, decide_eq_true_eq]
      rintro ⟨y1, _⟩
      rw [if_neg nz] at y1
      omega
    exact PySem.AutoIntOps.floordiv_1 nz np ⟨.int (i.fdiv j), H, I.tok _, ⟨_, rfl⟩, po.now rel (.int _)⟩
  · cases e
/-- repr, own or not -/
noncomputable def reprOL (A : Nat → Option (List DV → M DV)) (ds : List DV) : M DV := match ds with
  | [.obj c fs] => bnd (optM (A c)) fun k => bnd (k [.obj c fs]) fun v => match v with
    | .str s => ret (.str s)
    | _ => stk
  | [d] => reprN d
  | _ => stk
theorem c_reprO {A : Nat → Option (List DV → M DV)} (hg : X.A.guards = some []) (hu : X.A.units + 64 < cLine) (S : SysM X.K) (hA : ∀ c k, A c = some k → OwnOk1 X cl c 1 "__repr__" k) : CD cl X (.builtin "repr") (reprOL A) := by
  intro pins s σ H xs us Q I rv q
  obtain ⟨W, h, ds, v', h', rel, r, e, po⟩ := q
  unfold reprOL at e
  split at e
  · rename_i c fs
    obtain ⟨k, h2, e3, e4⟩ := bnd_ok e
    obtain ⟨hk, rfl⟩ := optM_ok e3
    obtain ⟨v, h3, e5, e6⟩ := bnd_ok e4
    obtain ⟨gf, j, q1, q2, F, hr⟩ := hA _ _ hk
    obtain ⟨x, rfl, r1⟩ := r.one
    have r1' := r1
    cases r1 with
    | obj f1 f2 ne z1 z2 rr =>
      obtain ⟨u, rfl, ru⟩ := rv.one
      cases ru
      obtain ⟨sl, od, _, J, _⟩ := slt_inst I (slt_obj z1 z2)
      obtain ⟨m, hF⟩ := I.fr
      refine PySem.W.repr_K (by show X.A.units + 1 < cLine; omega) hF I.ok.mod.kin J q1 q2 (wpAny_mono (wpAny_call (run_at (us := [.ref _]) (ws := [.ref _]) (Q := fun x H' => ∃ t : Str, x = .str t ∧ Q (.str t) H') F hr.in1 I.env0.in1 L2.pass0 I (.cons rfl .nil) ⟨rfl, W, h, [_], v, h3, rel, .cons r1' .nil, e5, fun W1 H1 x ext rel1 rvx => ?_⟩)) (fun w s' z => ?_) fun _ _ x => x)
      · split at e6
        · cases e6
          cases rvx
          exact ⟨_, rfl, (po.go ext).now rel1 (.str _)⟩
        · cases e6
      · obtain ⟨z', H', I', rz, i, ei, qz⟩ := z
        subst ei
        obtain ⟨t, e⟩ := (show ∃ t, w = Value.str i t from rz)
        cases e
        exact ⟨.str i, H', I', ⟨_, rfl⟩, qz⟩
  · rename_i d nd
    exact c_reprN hg hu S pins s σ H xs us Q I rv ⟨W, h, _, v', h', rel, r, e, po⟩
  · cases e
end
end D
set_option Elab.async false
set_option linter.all false
set_option maxRecDepth 100000
set_option maxHeartbeats 2000000
/-! X19: texts of any int; staticmethods called on their class. -/
namespace D
open PySem PySem.Spec PyProof.Rows L2 SlX
/-- the text of an int -/
def numZ : Int → List Nat
  | .ofNat n => TL.numL n
  | .negSucc n => 45 :: TL.numL (n + 1)
theorem numZ_S (i : Int) : (toString i : Str) = SX.S (numZ i) := by
  cases i with
  | ofNat n => exact SX.num_S n
  | negSucc n =>
    have e : toString (Int.negSucc n) = "-" ++ Nat.repr (n + 1) := rfl
    have e2 : Str.ofString (Nat.repr (n + 1)) = SX.S (TL.numL (n + 1)) := SX.num_S (n + 1)
    show Str.ofString (toString (Int.negSucc n)) = _
    rw [e]
    have e3 : Str.ofString ("-" ++ Nat.repr (n + 1)) = Str.ofString "-" ++ Str.ofString (Nat.repr (n + 1)) := by
      apply TL.ext_tl
      rw [TL.tl_append]
      show (Str.ofString _).cps.toList = (Str.ofString _).cps.toList ++ (Str.ofString _).cps.toList
      rw [signs_ofString, signs_ofString, signs_ofString, String.toList_append, List.map_append]
    rw [e3, e2]
    exact SX.S_cat [45] (TL.numL (n + 1))
def strZ (ds : List DV) : M DV := match ds with
  | [.int i] => if Nat.blt i.natAbs.log2 1920 then ret (.str (numZ i)) else stk
  | _ => stk
def fmtZ (d : DV) : M DV := match d with
  | .str s => if fits s.length then ret (.str s) else stk
  | .int i => if Nat.blt i.natAbs.log2 1920 then ret (.str (numZ i)) else stk
  | _ => stk
def eFmtZ (m : Ex) : Ex := fun sl => bnd (m sl) fmtZ
section
variable {K : PySem.W.Frag} {cl : Cl} {W W1 : Wd} {H H1 : Hp} {h h' : Hs} {X : Cx} {pos : Pos} {e e2 : Expr} {es : List Expr} {ms : Exs} {m mo : Ex}
theorem c_strZ : CD cl X (.type "str") strZ := by
  intro pins s σ H xs us Q I rv q
  obtain ⟨W, h, ds, v', h', rel, r, e, po⟩ := q
  unfold strZ at e
  split at e
  · rename_i i
    obtain ⟨z, e⟩ := if_ok e
    obtain ⟨x, rfl, r1⟩ := r.one
    cases r1
    cases e
    refine call_str_int pins s σ H _ us Q I rv ⟨_, rfl, Nat.blt_eq.mp z, ?_⟩
    rw [numZ_S]
    exact po.now rel (.str _)
  · cases e
theorem de_fmtZ (he : DE cl X e m) : DE cl X (.FormattedValue e (-1) none pos) (eFmtZ m) := (pe_fmt he).mono fun σ H Q q => by
  obtain ⟨W, h, sl, v, h', rel, rs, e, po⟩ := q
  obtain ⟨d, h1, e1, e2⟩ := bnd_ok e
  refine ⟨W, h, sl, d, h1, rel, rs, e1, fun W1 H1 x ext rel1 rv => ?_⟩
  unfold fmtZ at e2
  split at e2
  · obtain ⟨z, e2⟩ := fit_if e2
    cases e2
    cases rv
    exact .inl ⟨_, rfl, by rw [SX.S_len]; exact z, (po.go ext).now rel1 (.str _)⟩
  · rename_i i
    obtain ⟨z, e2⟩ := if_ok e2
    cases e2
    cases rv
    refine .inr ⟨_, rfl, Nat.blt_eq.mp z, ?_⟩
    rw [numZ_S]
    exact (po.go ext).now rel1 (.str _)
  · cases e2
/-! ### staticmethods -/
/-- C.m is a staticmethod: its def at g -/
structure SMet (K : PySem.W.Frag) (C : Addr) (m : Str) (g : Addr) : Prop where
  rd : ClX.CRead K C (.type "type")
  at_ : ∃ p, PySem.W.findCls K (.ref C) (.type "type") m = some (.get (.builtin "staticmethod.__get__") (.ref p) .none (.ref C)) ∧ ∃ rest, PySem.W.recIn K p "staticmethod" = some (.ref g :: rest)
  kp : PySem.W.keepIn K (.ref g) = true
theorem getmethsm_ok {C g : Addr} {mm : Str} {pl : Sem Bool} {A : Around} {E : Value → Shared → Prop} {pins : List (Addr × Obj)} {σ : L2.St} {s : Shared} {Q : Value × List Value → Shared → Prop} (I : Inv X pins σ H s) (k : SMet X.K C mm g) (h : ∀ s', Inv X pins σ H s' → Q (.ref g, []) s') :
    wpAny (model X.prog X.w) A (getMethod (.ref C) mm pl) Q E s := by
  obtain ⟨p, k1, rest, k2⟩ := k.at_
  refine PySem.W.method_cls I.kIn k.rd.ga ?_
  refine PySem.W.cls_bind I.kIn k.rd.rd k1 ?_
  exact wpAny_call (PySem.W.sm_get (s := { s with toks := s.toks + 1 }) I.kIn k2 (PySem.W.handed_on rfl (h _ (I.tok _))))
def tSMeth (C : Addr) (sp : Sp) (E : XK) (ta : TE) (t : TA) : TE := fun σ H Q => ta σ H fun x H1 => x = .ref C ∧ t σ H1 fun vs H2 => sp vs H2 Q E
theorem pe_smeth {o : Expr} {mm : Str} {apos : Pos} {ta : TE} {t : TA} {CX : CXT} {k : Nat} {C g : Addr} {sp : Sp} {E : XK} {pl : Sem Bool} (he : PE X o ta) (c : SMet X.K C mm g) (F : FnR X.prog X.w X.K X.mg X.base CX k g sp) (hr : Room k X.A) (hx : Passes CX X E) (ha : PA X (e :: es) t)
    (hst : starEach (e :: es) X.env = (false, eval e X.env) :: starEach es X.env := by rfl) (hpl : (backTo pos (starEach es X.env)).any (·.1) = false := by rfl)
    (ht : eval (.Call (.Attribute o mm apos) (e :: es) [] pos) X.env = (do
      let ov ← eval o X.env
      standAt apos.atName
      let (f, first) ← holding [ov] (getMethod ov mm pl)
      callWith pos f first (backTo pos (starEach (e :: es) X.env)) (backToKw pos (keywordEach [] X.env))) := by rfl) :
    PE X (.Call (.Attribute o mm apos) (e :: es) [] pos) (tSMeth C sp E ta t) := by
  refine ⟨fun pins s σ H Q I h => ?_⟩
  refine PySem.W.methodCall_KW (pl := pl) (thn (he.run pins s σ H _ I h) fun u s1 ⟨x, H1, I1, rx, ex, q⟩ => ?_) ht
  subst ex
  obtain rfl : u = Value.ref C := rx
  refine getmethsm_ok I1 c fun s2 I2 => ?_
  refine PySem.W.callWith_K (first := []) (h₀ := X.base) I2.ok.mod.kin c.kp (thn (ha.run pos pins s2 σ H1 _ I2 q) fun us s3 ⟨ws, H2, I3, r, q2⟩ => ⟨I3.kIn, ?_⟩) hst hpl
  exact wpAny_call (run_fnR F hr hx I3 r q2)
theorem de_sm {x mm : Str} {p apos : Pos} {c k n : Nat} {g : List DV → M DV} {gf : Addr} {pl : Sem Bool} (hS : SMet X.K (cl.ad c) mm gf) (F : FnR X.prog X.w X.K X.mg X.base L2.CX0 k gf (spD X.K cl n g)) (hr : Room k X.A) (hg : Gl X x) (hm : X.mg x = some (.ref (cl.ad c))) (ha : DA cl X (e :: es) ms)
    (hn : ∀ sl h vs h', ms sl h = .ok vs h' → vs.length = n) (hd : (x == ("__debug__" : Str)) = false := by decide)
    (hst : starEach (e :: es) X.env = (false, eval e X.env) :: starEach es X.env := by rfl) (hpl : (backTo pos (starEach es X.env)).any (·.1) = false := by rfl)
    (ht : eval (.Call (.Attribute (.Name x p) mm apos) (e :: es) [] pos) X.env = (do
      let ov ← eval (.Name x p) X.env
      standAt apos.atName
      let (f, first) ← holding [ov] (getMethod ov mm pl)
      callWith pos f first (backTo pos (starEach (e :: es) X.env)) (backToKw pos (keywordEach [] X.env))) := by rfl) :
    DE cl X (.Call (.Attribute (.Name x p) mm apos) (e :: es) [] pos) (eCall g ms) :=
  (pe_smeth (pe_glob (v := .ref (cl.ad c)) hg hm rfl hd) hS F hr L2.pass0 ha hst hpl ht).mono fun σ H Q q => by
    obtain ⟨W, h, sl, v, h', rel, rs, e, po⟩ := q
    obtain ⟨d, h1, e1, e2⟩ := bnd_ok e
    exact ⟨rfl, W, h, sl, d, h1, rel, rs, e1, fun W' H' xs ext rel' rv => ⟨by rw [← rv.length]; exact hn _ _ _ _ e1, W', h1, d, v, h', rel', rv, e2, po.go ext⟩⟩
theorem dx_sm {E : XK} {x mm : Str} {p apos : Pos} {c k n : Nat} {g : List DV → M DV} {gf : Addr} {pl : Sem Bool} (tk : Takes X (fun c d _ H => E c d H)) (hS : SMet X.K (cl.ad c) mm gf) (F : FnR X.prog X.w X.K X.mg X.base (L2.CX X.prog X.w) k gf (spX X.K cl n g)) (hr : Room k X.A) (hg : Gl X x) (hm : X.mg x = some (.ref (cl.ad c))) (ha : DA cl X (e :: es) ms)
    (hn : ∀ sl h vs h', ms sl h = .ok vs h' → vs.length = n) (hd : (x == ("__debug__" : Str)) = false := by decide)
    (hst : starEach (e :: es) X.env = (false, eval e X.env) :: starEach es X.env := by rfl) (hpl : (backTo pos (starEach es X.env)).any (·.1) = false := by rfl)
    (ht : eval (.Call (.Attribute (.Name x p) mm apos) (e :: es) [] pos) X.env = (do
      let ov ← eval (.Name x p) X.env
      standAt apos.atName
      let (f, first) ← holding [ov] (getMethod ov mm pl)
      callWith pos f first (backTo pos (starEach (e :: es) X.env)) (backToKw pos (keywordEach [] X.env))) := by rfl) :
    DX cl X E (.Call (.Attribute (.Name x p) mm apos) (e :: es) [] pos) (eCall g fun sl => noE (ms sl)) :=
  (pe_smeth (E := E) (pe_glob (v := .ref (cl.ad c)) hg hm rfl hd) hS F hr (passes_call tk fun _ _ _ _ z => z) ha hst hpl ht).mono fun σ H Q q => by
    obtain ⟨W, h, sl, rel, rs, q⟩ := q
    obtain ⟨ds, h1, e1, q1⟩ := (Rn.bnd q).noE
    exact ⟨rfl, W, h, sl, ds, h1, rel, rs, e1, fun W' H' xs ext rel' rv => ⟨by rw [← rv.length]; exact hn _ _ _ _ e1, W', h1, _, rel', rv, q1.go ext⟩⟩
end
/-! ### the head's facts of a staticmethod -/
def smA (C m : Str) (K : PySem.W.Frag) : Addr := match PySem.W.findCls K (.ref (He.ga K C)) (.type "type") m with
  | some (.get _ (.ref p) _ _) => (match PySem.W.recIn K p "staticmethod" with
    | some (.ref g :: _) => g
    | _ => 0)
  | _ => 0
def smB (K : PySem.W.Frag) (C m : Str) : Bool := PySem.W.readsIn K (He.ga K C) (.type "type") && (He.eqO (PySem.W.specialIn K (.ref (He.ga K C)) "__getattribute__") (some (some (.builtin "type.__getattribute__"))) && (PySem.W.keepIn K (.ref (smA C m K)) &&
  (match PySem.W.findCls K (.ref (He.ga K C)) (.type "type") m with
    | some (.get (.builtin g) (.ref p) .none (.ref D)) => decide (g = "staticmethod.__get__") && (decide (D = He.ga K C) && (match PySem.W.recIn K p "staticmethod" with
      | some (.ref _ :: _) => true
      | _ => false))
    | _ => false)))
theorem smB_ok {K : PySem.W.Frag} {C m : Str} (h : smB K C m = true) : SMet K (He.ga K C) m (smA C m K) := by
  unfold smB at h
  rw [Bool.and_eq_true, Bool.and_eq_true, Bool.and_eq_true] at h
  obtain ⟨h1, h2, h3, h4⟩ := h
  refine ⟨⟨h1, He.eqO_ok h2⟩, ?_, h3⟩
  unfold smA
  split at h4
  · rename_i g p D e
    rw [Bool.and_eq_true, Bool.and_eq_true] at h4
    obtain ⟨k1, k2, k3⟩ := h4
    have k1 := of_decide_eq_true k1
    have k2 := of_decide_eq_true k2
    subst k1 k2
    rw [e]
    refine ⟨p, rfl, ?_⟩
    dsimp only
    split at k3
    · rename_i f r e2
      rw [e2]
      exact ⟨r, rfl⟩
    · cases k3
  · cases h4
end D
set_option Elab.async false
set_option linter.all false
set_option maxRecDepth 100000
set_option maxHeartbeats 2000000
/-! X20: a lambda handed on by a def that lets it be heard. -/
namespace D
open PySem PySem.Spec PyProof.Rows L2 SlX ZG LamX
theorem un2 {fs : List Addr} {L : Addr} {H H1 H2 : Hp} {h h1 h2 : Heap} (a : Un fs [] H H1 h h1) (b : Un (L :: fs) [] H1 H2 h1 h2) (hL : ∀ o, h.get? L ≠ some o) : Un fs [] H H2 h h2 where
  keep := fun c ob q n hc hx => b.keep c ob (a.keep c ob q n hc hx) (a.free c ob q n hx) (fun z => by
    rcases List.mem_cons.mp z with z | z
    · subst z; exact hL _ q
    · exact hc z) hx
  slot := fun c ob q n hc hx => by
    obtain ⟨sl, e1⟩ := a.slot c ob q n hc hx
    obtain ⟨sl', e2⟩ := b.slot c _ e1 (a.free c ob q n hx) (List.mem_cons_of_mem _ hc) hx
    exact ⟨sl', e2⟩
  free := fun c ob q n hx => by
    obtain ⟨o', e1⟩ := a.there c ob q hx
    exact b.free c o' e1 (a.free c ob q n hx) hx
  there := fun c ob q hx => by
    obtain ⟨o', e1⟩ := a.there c ob q hx
    exact b.there c o' e1 hx
  tups := fun c xs q => b.tups c xs (a.tups c xs q)
  frzs := fun c o u q => b.frzs c o u (a.frzs c o u q)
  tbls := fun c ps q => by
    obtain ⟨m1, e1⟩ := a.tbls c ps q
    obtain ⟨m2, e2⟩ := b.tbls c _ e1
    exact ⟨m1 ++ m2, by rw [e2, Array.append_assoc]⟩
section
variable {X : Cx} {pins : List (Addr × Obj)} {σ : L2.St} {H : Hp} {s : Shared}
/-- the handed lambda is called, from any frame behind -/
theorem act_g {Ng : List Str} {x : Str} {sg : Scope} {g f c' : Addr} {cdg pm ctv : Value} {params : Arguments} {body : Expr} {scope : Scope} {k : Nat} {a : Str} {pn : List (Addr × Obj)} {xe : Value → Shared → Prop} {W : WX} {tb : XK → TE} {p1 p2 : Pos} {AZ : Around} {stk : List Env} {sY : Shared} {HY : Hp}
    (I : Inv X pins σ H s) (L : LamS X.env.scope scope) (hf : s.heap.get? f = some (PySem.W.kla_obj "<lambda>" (X.env.qual ++ "<lambda>") params body scope (cloFrom X.env.cells scope.names []) pm c' ctv)) (hfn : H f = none) (hfr : f ∉ frs X.stack)
    (hun : ∀ pz sz σz Hz, Inv ((cxOf C8.CX0 X.prog X.w X.K X.mg X.base Ng x sg g cdg AZ stk sY HY C8.E0).tr pn xe) pz σz Hz sz → Un (frs X.stack) [] H Hz s.heap sz.heap)
    (hbind : bindArgs (PySem.W.kla_fn "<lambda>" (X.env.qual ++ "<lambda>") params body scope (cloFrom X.env.cells scope.names []) pm (.ref c') ctv) ⟨[], []⟩ = pure [])
    (tk : Takes ((cxOf C8.CX0 X.prog X.w X.K X.mg X.base Ng x sg g cdg AZ stk sY HY C8.E0).tr pn xe) W) (hr : Room (k + 1) (AZ.deeper (envOfC x sg sY.heap.objs.size g cdg)))
    (hbody : ∀ (A : Around) (outer : List Env) (s : Shared) (H : Hp) (E : XK), Room k (A.deeper (lamEnv X scope s.heap.objs.size f c')) → PE (lamCx X A outer s H E scope f c') body (tb E))
    (hN : Ng[0]? = some a) (hv : Vis sg a) (hd : (a == ("__debug__" : Str)) = false) (hcd : (a == ("__classdict__" : Str)) = false) :
    PE ((cxOf C8.CX0 X.prog X.w X.K X.mg X.base Ng x sg g cdg AZ stk sY HY C8.E0).tr pn xe) (.Call (.Name a p1) [] [] p2)
      (fun σZ HZ Q => σZ[0]? = some (some (.ref f)) ∧ HZ c' = some (CodeO c' (X.env.qual ++ "<lambda>")) ∧ ∃ (E : XK) (Q' : VK), (∀ cls d H', E cls d H' → W cls d σZ H') ∧ (∀ v H', Q' v H' → Q v H') ∧ tb E σ HZ Q') := ⟨fun pz sz σz Hz Q Iz ⟨h0, hc, E, Q', hW, hQ, ht⟩ => by
  refine wpAny_Call_Name_kw (thn ((pe_var (pos := p1) (i := 0) hN hv hd hcd).run pz sz σz Hz (fun v H1 => v = .ref f ∧ H1 = Hz) Iz ⟨.ref f, h0, rfl, rfl⟩) fun u s1 ⟨v, H1, I1, r1, ev, eH⟩ => ?_)
  subst ev
  subst eH
  have eu : u = Value.ref f := r1
  subst eu
  have un1 := hun _ _ _ _ I1
  have fAt := un1.keep f _ hf hfn hfr (fun z => nomatch (show f ∈ ([] : List Addr) from z))
  obtain ⟨⟨oc, vs, t, hoc, hdc, hvc⟩, _, _⟩ := I1.hok c' _ hc
  have run : codeAny (model X.prog X.w) (AZ.deeper (envOfC x sg sY.heap.objs.size g cdg)) (.call (.ref f) ⟨[], []⟩) (CR (L2.CX X.prog X.w) (envOfC x sg sY.heap.objs.size g cdg :: stk) X.prog X.w H1 s1 Q' E) s1 := by
    refine PySem.W.kla_callFunE hr.depth fAt rfl L.co L.gen rfl ⟨c', oc, vs, t, rfl, hoc, hdc, hvc⟩ ?_
    rw [hbind]
    refine wpAny_pure (wpAny_newFunctionEnv (fun y hy => (L.own y hy).2) (fun y hy => absurd hy (by simp)) (fun h₁ hns hsb => ⟨I1.nolimit.fresh _ hsb, ?_⟩) L.kind)
    have kp : ∀ b o, s1.heap.get? b = some o → h₁.get? b = some o := fun b o e => hsb.extBut b o (Nat.ne_of_lt (Heap.lt_size e)) (Heap.get?_push_of_some _ e)
    have J := lam_start2 (tk := s1.toks + ([] : List (Str × Value)).length) (E := E) (f := f) (c' := c') I L I1.env0 hr.hd un1 hns kp
    exact PySem.W.kla_codeExpr (wpAny_mono ((hbody _ _ s1 H1 E (hr.deeper _)).run [] _ _ H1 Q' J ht) (fun v s' ⟨w', H', J', rv, q⟩ => ⟨w', H', J'.os, J'.bare, J'.base, J'.hok, rv, q⟩) fun e s' hq => hq)
  refine PySem.W.callWith_F0 ⟨_, _, _, _, fAt⟩ (wpAny_call (codeAny_mono run fun r s' hq => ?_))
  cases r with
  | error e => exact tk e s' (XE.of_call I1 hW hq)
  | ok fl =>
    cases fl with
    | ret u =>
      obtain ⟨v, H', b1, b2, b3⟩ := I1.after hq
      exact ⟨v, H', b1, b2, hQ _ _ b3⟩
    | next => exact hq.elim
    | brk => exact hq.elim
    | cont => exact hq.elim⟩
end
/-- a def that calls what it is handed, called with a slot's value -/
theorem pe_hand {Y : Cx} {x y a q : Str} {g f c' : Addr} {fd : FuncData} {k i : Nat} {pg : Arguments} {bg : List Stmt} {sg : Scope} {Ng : List Str} {TT : (XK → Hp → VK → Prop) → Hp → VK → Prop} {tl : XK → Hp → VK → Prop} {p p2 pos : Pos}
    (hg : Gl Y x) (hm : Y.mg x = some (.ref g)) (F : FunD Y.K x x pg bg sg [] [] g fd) (hb : L2.Binds Y.K fd [a] []) (Sg : FnScope Ng [a] sg) (hNg : Ng[0]? = some a) (hva : Vis sg a) (hG : ∀ cdg, GivesX Y Ng x sg g cdg bg a q TT) (hr : Room (k + 1) Y.A)
    (hyi : Y.N[i]? = some y) (hyv : Vis Y.env.scope y)
    (act : ∀ (pins : List (Addr × Obj)) (s : Shared) (σ : L2.St) (H : Hp) (cdg : Value) (W : WX) (pn : List (Addr × Obj)) (xe : Value → Shared → Prop) (p1 p2 : Pos), Inv Y pins σ H s → Room k (Y.A.deeper (envOfC x sg s.heap.objs.size g cdg)) → Takes ((cxOf C8.CX0 Y.prog Y.w Y.K Y.mg Y.base Ng x sg g cdg Y.A Y.stack s H C8.E0).tr pn xe) W →
      PE ((cxOf C8.CX0 Y.prog Y.w Y.K Y.mg Y.base Ng x sg g cdg Y.A Y.stack s H C8.E0).tr pn xe) (.Call (.Name a p1) [] [] p2) (fun σZ HZ Q => σZ[0]? = some (some (.ref f)) ∧ HZ c' = some (CodeO c' q) ∧ ∃ (E : XK) (Q' : VK), (∀ cls d H', E cls d H' → W cls d σZ H') ∧ (∀ v H', Q' v H' → Q v H') ∧ tl E HZ Q'))
    (hdb : (x == ("__debug__" : Str)) = false := by decide) (hdy : (y == ("__debug__" : Str)) = false := by decide) (hcy : (y == ("__classdict__" : Str)) = false := by decide)
    (he : starEach [.Name y p2] Y.env = (false, eval (.Name y p2) Y.env) :: starEach [] Y.env := by rfl) :
    PE Y (.Call (.Name x p) [.Name y p2] [] pos) (fun σ H Q => σ[i]? = some (some (.ref f)) ∧ H c' = some (CodeO c' q) ∧ TT tl H Q) := ⟨fun pins s σ H Q I ⟨h0, hc, h⟩ => by
  obtain ⟨⟨oc, od, dV, kV, doc, pm, an, cdv, ct, osl, rfl, lk, hcg, _, _⟩, hk⟩ := F
  refine wpAny_Call_Name_kw (ld_glob I hg hm ?_ hdb)
  refine PySem.W.callWith_K (h₀ := Y.base) I.ok.mod.kin hk ?_ he (by rfl)
  rw [he]
  refine Calls.spliced_cons (thn ((pe_var (pos := p2) hyi hyv hdy hcy).run pins s σ H (fun v H1 => v = .ref f ∧ H1 = H) I ⟨.ref f, h0, rfl, rfl⟩) fun u s1 ⟨v, H1, I1, r1, ev, eH⟩ => Calls.spliced_nil ⟨I1.kIn, ?_⟩)
  subst ev
  subst eH
  refine wpAny_call (codeAny_mono (R := CR C8.CX0 Y.stack Y.prog Y.w H1 s1 Q C8.E0) ?_ fun r s2 hq => ?_)
  · refine run_ofS (N := Ng) (ps := [a]) (us := [u]) (vs := [.ref f]) lk hcg Sg hr I1.env0 (hb s1 [u] I1.kIn rfl) (.cons r1 .nil) rfl fun hr' => ?_
    obtain ⟨t', ht', hq'⟩ := hG cdv f c' s1 H1 Q tl (fun W pn xe p1 p2 tk => act pins s1 σ H1 cdv W pn xe p1 p2 I1 hr' tk) hc h
    exact ⟨t', ht'.nox, hq'⟩
  · cases r with
    | error e => exact (show False from hq).elim
    | ok fl =>
      cases fl with
      | ret u => exact I1.after hq
      | next => exact hq.elim
      | brk => exact hq.elim
      | cont => exact hq.elim⟩
end D
set_option Elab.async false
set_option linter.all false
set_option maxRecDepth 100000
set_option maxHeartbeats 2000000
/-! X21: a lambda handed to a def that asks what it raises. -/
namespace D
open PySem PySem.Spec PyProof.Rows L2 SlX ZG LamX
/-- the frame of such a def -/
abbrev cxY (X : Cx) (x : Str) (sg : Scope) (g : Addr) (N : List Str) (cd : Value) (s : Shared) (H : Hp) : Cx := (cxOf C8.CX0 X.prog X.w X.K X.mg X.base N x sg g cd X.A X.stack s H C8.E0).nox
def eRefused (m me : Ex) (b : Sx) : Ex := fun sl => bnd (me sl) fun v => bnd (eHeard m sl) fun t => bnd (itemD t (.int 0)) fun c => bnd (b [none, some v, some c]) fun r => match r.1 with
  | .nx => ret .non
  | .rt w => ret w
  | _ => stk
section
variable {X : Cx} {cl : Cl}
theorem de_refused {CS : Addr} {x1 a1 b1 cN x2 a2 : Str} {g1 g2 c P : Addr} {k : Nat} {pg1 pg2 : Arguments} {rest bg2 : List Stmt} {s1g s2g : Scope} {fd1 fd2 : FuncData} {N2 : List Str} {params : Arguments} {body e ix : Expr} {scope : Scope} {m me : Ex} {b : Sx} {p lpos pos q1 q2 q3 q4 q5 q6 : Pos}
    (t0 : cl.T ≠ []) (hex : ∀ c, PySem.W.exmOne X.K (.ref (cl.ex c)) (.ref CS) = some true)
    (hg1 : Gl X x1) (hm1 : X.mg x1 = some (.ref g1)) (F1 : FunD X.K x1 x1 pg1 (.Assign [.Name cN q1] (.Subscript (.Call (.Name x2 q2) [.Name a1 q3] [] q4) ix q5) q6 :: rest) s1g [] [] g1 fd1) (hb1 : L2.Binds X.K fd1 [a1, b1] []) (Sg1 : FnScope [a1, b1, cN] [a1, b1] s1g)
    (hm2 : X.mg x2 = some (.ref g2)) (F2 : FunD X.K x2 x2 pg2 bg2 s2g [] [] g2 fd2) (hb2 : L2.Binds X.K fd2 [a2] []) (Sg2 : FnScope N2 [a2] s2g) (hN2 : N2[0]? = some a2) (hva2 : Vis s2g a2)
    (hg2 : ∀ cd s H, Gl (cxY X x1 s1g g1 [a1, b1, cN] cd s H) x2) (hG : ∀ cd s H cdg, GivesX (cxY X x1 s1g g1 [a1, b1, cN] cd s H) N2 x2 s2g g2 cdg bg2 a2 (X.env.qual ++ "<lambda>") (TTh X.K CS))
    (hv1 : Vis s1g a1) (hc1 : Loc s1g cN) (hix : ∀ cd s H, PE (cxY X x1 s1g g1 [a1, b1, cN] cd s H) ix (tC (.int 0))) (hpx : PlainIx ix)
    (hsw : ∀ cd s H, swapsWith (.Subscript (.Call (.Name x2 q2) [.Name a1 q3] [] q4) ix q5) (some (.Name cN q1)) q6.line (cxY X x1 s1g g1 [a1, b1, cN] cd s H).env = pure false) (hfn : ∀ cd s H, (cxY X x1 s1g g1 [a1, b1, cN] cd s H).fn cN = true ∨ (cxY X x1 s1g g1 [a1, b1, cN] cd s H).env.scope.names.lookup cN = some .local)
    (hst2 : ∀ cd s H, starEach [.Name a1 q3] (cxY X x1 s1g g1 [a1, b1, cN] cd s H).env = (false, eval (.Name a1 q3) (cxY X x1 s1g g1 [a1, b1, cN] cd s H).env) :: starEach [] (cxY X x1 s1g g1 [a1, b1, cN] cd s H).env)
    (hrest : ∀ (cd : Value) (s : Shared) (H : Hp), Room (k + 3) (cxY X x1 s1g g1 [a1, b1, cN] cd s H).A → DSs cl (cxY X x1 s1g g1 [a1, b1, cN] cd s H) rest b)
    (TB : TabB X.base X.mg c P) (hcode : X.env.code = .ref c) (hmT : (P, X.env.qual ++ "<lambda>") ∈ cl.T) (hu : ∀ p ∈ cl.T, p.1 = P → p.2 = X.env.qual ++ "<lambda>") (hr : Room (k + 4) X.A) (L : LamS X.env.scope scope) (hdef : defaultsOf params X.env = ([], []))
    (hbind : ∀ (q : Str) (cl : List (Str × Addr)) (pm cv ctv : Value), bindArgs (PySem.W.kla_fn "<lambda>" q params body scope cl pm cv ctv) ⟨[], []⟩ = pure [])
    (hbody : ∀ (A : Around) (outer : List Env) (s : Shared) (H : Hp) (E : XK) (f c' : Addr), Room k (A.deeper (lamEnv X scope s.heap.objs.size f c')) → DX cl (lamCx X A outer s H E scope f c') E body m)
    (he : DA cl X [e] (aCons me aNil)) (hstk : X.stack = X.env :: X.outer ∧ X.env.frame = some X.env.locals)
    (hst1 : starEach [.Lambda params body scope lpos, e] X.env = (false, eval (.Lambda params body scope lpos) X.env) :: starEach [e] X.env := by rfl) (hpl : (backTo pos (starEach [e] X.env)).any (·.1) = false := by rfl)
    (hdb : (x1 == ("__debug__" : Str)) = false := by decide) (hd2 : (x2 == ("__debug__" : Str)) = false := by decide) (hda : (a1 == ("__debug__" : Str)) = false := by decide) (hca : (a1 == ("__classdict__" : Str)) = false := by decide) (hda2 : (a2 == ("__debug__" : Str)) = false := by decide) (hca2 : (a2 == ("__classdict__" : Str)) = false := by decide)
    (hn3 : ([a1, b1, cN] : List Str).Nodup := by decide) :
    DE cl X (.Call (.Name x1 p) [.Lambda params body scope lpos, e] [] pos) (eRefused m me b) := ⟨fun pins s σ H Q I ⟨W, h, sl, v, h', rel, rs, ev, po⟩ => by
  obtain ⟨vv, h1, e1, ev⟩ := bnd_ok ev
  obtain ⟨tv, h2, e2, ev⟩ := bnd_ok ev
  obtain ⟨cv, h3, e3, ev⟩ := bnd_ok ev
  obtain ⟨⟨fl, sl'⟩, h4, e4, ev⟩ := bnd_ok ev
  obtain ⟨⟨oc, od, dV, kV, doc, pm, an, cdv, ct, osl, rfl, lk, hcg, _, _⟩, hk⟩ := F1
  refine wpAny_Call_Name_kw (ld_glob I hg1 hm1 ?_ hdb)
  refine PySem.W.callWith_K (h₀ := X.base) I.ok.mod.kin hk ?_ hst1 hpl
  rw [hst1]
  show wpAny _ _ (spliced ((false, eval (.Lambda params body scope lpos) X.env) :: backTo pos (starEach [e] X.env))) _ _ s
  refine Calls.spliced_cons (lam_make2 I TB hcode hmT hu rel.tabs hdef (L.has I.ok) fun f c' pm' ctv H1 s' I1 eN T1 hf hfnone hfr hco => ?_)
  obtain ⟨ext9, rel9⟩ := rel.lam t0 eN T1
  have fLoc : f ≠ X.env.locals ∧ f ∉ X.fs := by
    rw [hstk.1] at hfr
    have hfr' : f ∉ X.env.locals :: frs X.outer := by
      have : frs (X.env :: X.outer) = X.env.locals :: frs X.outer := by unfold frs; rw [List.filterMap_cons, hstk.2]
      rw [this] at hfr
      exact hfr
    exact ⟨fun z => hfr' (by rw [z]; exact List.mem_cons_self ..), fun z => hfr' (List.mem_cons_of_mem _ z)⟩
  have I1p : Inv X ((f, PySem.W.kla_obj "<lambda>" (X.env.qual ++ "<lambda>") params body scope (cloFrom X.env.cells scope.names []) pm' c' ctv) :: pins) σ H1 s' := I1.pins_of fun q hq => by
    rcases List.mem_cons.mp hq with rfl | hq
    · exact ⟨hf, hfnone, fLoc.1, fLoc.2, fun v z => (by cases z)⟩
    · exact I1.pin q (List.mem_append_right _ hq)
  refine thn (he.run pos _ s' σ H1 (fun xs H2 => ∃ W2 x, xs = [x] ∧ Ext W H W2 H2 ∧ Ext (W.co H1) H1 W2 H2 ∧ HRel X.K cl W2 h1 H2 ∧ RV X.K cl W2 H2 vv x) I1p ⟨W.co H1, h, sl, [vv], h1, rel9, rs.mono ext9, by
      show bnd (me sl) _ h = _
      unfold bnd
      rw [e1]
      rfl, fun W' H' xs ext' rel' rv => by
      cases rv with
      | cons rv1 rv2 =>
        cases rv2
        exact ⟨W', _, rfl, ext9.trans ext', ext', rel', rv1⟩⟩) fun us s2 ⟨xs, H2, I2p, rvs, W2, x, ex, ext2, ext2', rel2, rx⟩ => ⟨I2p.kIn, ?_⟩
  subst ex
  have pf := I2p.pin (f, PySem.W.kla_obj "<lambda>" (X.env.qual ++ "<lambda>") params body scope (cloFrom X.env.cells scope.names []) pm' c' ctv) (List.mem_append_right _ List.mem_cons_self)
  have hf2 : s2.heap.get? f = some (PySem.W.kla_obj "<lambda>" (X.env.qual ++ "<lambda>") params body scope (cloFrom X.env.cells scope.names []) pm' c' ctv) := pf.1
  have hfn2 : H2 f = none := pf.2.1
  have I2 : Inv X pins σ H2 s2 := I2p.pins_of fun r hr => I2p.pin r (List.mem_append_right _ (List.mem_cons_of_mem _ hr))
  have hco2 : H2 c' = some (CodeO c' (X.env.qual ++ "<lambda>")) := (ext2'.keep c' (.inr ⟨_, hco⟩)).trans hco
  have rs2 := rs.mono ext2
  obtain ⟨u, rfl, ru⟩ : ∃ u, us = [u] ∧ RelV x u := by
    cases rvs with
    | cons z1 z2 => cases z2; exact ⟨_, rfl, z1⟩
  refine wpAny_call (codeAny_mono (R := CR C8.CX0 X.stack X.prog X.w H2 s2 Q C8.E0) ?_ fun r s3 hq => ?_)
  · refine run_ofS (N := [a1, b1, cN]) (ps := [a1, b1]) (us := [.ref f, u]) (vs := [.ref f, x]) lk hcg Sg1 hr I2.env0 (hb1 s2 [.ref f, u] I2.kIn rfl) (.cons rfl (.cons ru .nil)) rfl fun hrY => ?_
    have act : ∀ (pz : List (Addr × Obj)) (s4 : Shared) (σ4 : L2.St) (H4 : Hp) (cdg : Value) (W4 : WX) (pn : List (Addr × Obj)) (xe : Value → Shared → Prop) (p1 p2 : Pos), Inv (cxY X x1 s1g g1 [a1, b1, cN] cdv s2 H2) pz σ4 H4 s4 → Room (k + 1) ((X.A.deeper (envOfC x1 s1g s2.heap.objs.size g1 cdv)).deeper (envOfC x2 s2g s4.heap.objs.size g2 cdg)) →
        Takes ((cxOf C8.CX0 X.prog X.w X.K X.mg X.base N2 x2 s2g g2 cdg (X.A.deeper (envOfC x1 s1g s2.heap.objs.size g1 cdv)) (envOfC x1 s1g s2.heap.objs.size g1 cdv :: X.stack) s4 H4 C8.E0).tr pn xe) W4 →
        PE ((cxOf C8.CX0 X.prog X.w X.K X.mg X.base N2 x2 s2g g2 cdg (X.A.deeper (envOfC x1 s1g s2.heap.objs.size g1 cdv)) (envOfC x1 s1g s2.heap.objs.size g1 cdv :: X.stack) s4 H4 C8.E0).tr pn xe) (.Call (.Name a2 p1) [] [] p2) (fun σZ HZ Q => σZ[0]? = some (some (.ref f)) ∧ HZ c' = some (CodeO c' (X.env.qual ++ "<lambda>")) ∧ ∃ (E : XK) (Q' : VK), (∀ cls d H', E cls d H' → W4 cls d σZ H') ∧ (∀ v H', Q' v H' → Q v H') ∧ tX X.K cl E m σ HZ Q') := fun pz s4 σ4 H4 cdg W4 pn xe p1 p2 J hr4 tk => by
      have jb : Un (frs X.stack) [] H2 H4 s2.heap s4.heap := J.base
      have hno : ∀ o, s2.heap.get? s2.heap.objs.size ≠ some o := fun o z => by
        rw [Heap.get?_none_of_le (Nat.le_refl _)] at z
        cases z
      refine act_g (tb := fun E => tX X.K cl E m) I2 L hf2 hfn2 hfr (fun py sz σz Hz Iz => ?_) (hbind _ _ _ _ _) tk hr4 (fun A outer s H E hr2 => hbody A outer s H E f c' hr2) hN2 hva2 hda2 hca2
      have ib : Un (s2.heap.objs.size :: frs X.stack) [] H4 Hz s4.heap sz.heap := Iz.base
      exact un2 jb ib hno
    have hand := pe_hand (Y := cxY X x1 s1g g1 [a1, b1, cN] cdv s2 H2) (i := 0) (f := f) (c' := c') (k := k + 1) (p := q2) (p2 := q3) (pos := q4) (tl := fun E H' Q' => tX X.K cl E m σ H' Q') (hg2 cdv s2 H2) hm2 F2 hb2 Sg2 hN2 hva2 (hG cdv s2 H2) (hrY.mono (by omega)) rfl hv1 act hd2 hda hca (hst2 cdv s2 H2)
    have S1 := ps_set (X := cxY X x1 s1g g1 [a1, b1, cN] cdv s2 H2) (i := 2) (x := cN) (pos' := q1) (pos := q6) hn3 rfl hc1 (pe_ix (pos := q5) (x_item (cl := cl)) hand (hix cdv s2 H2) hpx) (hsw cdv s2 H2) (hfn cdv s2 H2)
    refine ⟨_, PSs.nox (pss_cons S1 (hrest cdv s2 H2 (hrY.mono (by omega)))), rfl, hco2, fun p0 hp0 => ?_⟩
    have ext3 := ext2.trans (ext_new (o := .tup [.non, .non]) hp0 rel2)
    have rel3 := rel2.new (o := .tup [.non, .non]) hp0
    have extV := ext_new (o := .tup [.non, .non]) hp0 rel2
    -- behind the heard
    have go : ∀ (W5 : Wd) (H5 : Hp) (y : V), Ext W2 H2 W5 H5 → HRel X.K cl W5 h2 H5 → RV X.K cl W5 H5 tv y → tC (.int 0) (L2.start [a1, b1, cN] [.ref f, x]) H5 fun z H6 => rD2 X.K cl itemD y z H6 fun w H7 => gName 2 w (L2.start [a1, b1, cN] [.ref f, x]) H7 fun σ' H' => tS X.K cl b { nx := fun _ H' => Q .non H', rt := Q } σ' H' := fun W5 H5 y ext5 rel5 ry => by
      refine ⟨W5, h2, tv, .int 0, cv, h3, rel5, ry, .int 0, e3, fun W6 H6 w ext6 rel6 rw_ => ?_⟩
      have rx6 := (rx.mono (ext5.trans ext6))
      refine ⟨W6, h3, [none, some vv, some cv], fl, sl', h4, rel6, ⟨rfl, fun i d q => ?_⟩, e4, ?_⟩
      · match i, q with
        | 0, q => cases q
        | 1, q => cases q; exact ⟨x, rfl, rx6⟩
        | 2, q => cases q; exact ⟨w, rfl, rw_⟩
        | i + 3, q => cases q
      · have extAll := (ext2.trans ext5).trans ext6
        cases fl with
        | nx =>
          cases ev
          exact fun W7 H7 σ7 ext7 rel7 rs7 => po W7 H7 .non (extAll.trans ext7) rel7 .non
        | rt v7 =>
          cases ev
          exact fun W7 H7 x7 ext7 rel7 rv7 => po W7 H7 x7 (extAll.trans ext7) rel7 rv7
        | bk => cases ev
        | ct => cases ev
    refine ⟨W2.fz p0, h1, sl, rel3, rs.mono ext3, ?_⟩
    unfold eHeard at e2
    cases z : m sl h1 with
    | stuck => rw [z] at e2; cases e2
    | ok d h5 =>
      rw [z] at e2
      cases e2
      intro W5 H5 y ext5 rel5 rv p hp
      exact go _ _ _ ((extV.trans ext5).trans (ext_new hp rel5)) (rel5.new (o := .tup _) hp) (rv_tup rel5 hp (.cons .non (.cons rv .nil)))
    | err n d h5 =>
      rw [z] at e2
      cases e2
      intro W5 H5 dx y ext5 rel5 fd hd rv
      refine ⟨hex n, cl.ex n, dx, rfl, rfl, fun a ha p hp => ?_⟩
      have ext6 := ext_new (o := XcO a (cl.ex n) dx) ha rel5
      have rel6 : HRel X.K cl (W5.fz a) _ (upd H5 a (XcO a (cl.ex n) dx)) := rel5.new ha (fun ps z => (by have z' : HO.ext _ = HO.tbl _ := z; cases z'))
      have rv6 : RV X.K cl (W5.fz a) (upd H5 a (XcO a (cl.ex n) dx)) (.exc n d) (.ref a) := .exc (.inr rfl) (.inl fd) (ne_of_none hd ha) upd_same (by rw [upd_ne (ne_of_none hd ha)]; exact hd) (rv.mono ext6)
      exact go _ _ _ (((extV.trans ext5).trans ext6).trans (ext_new hp rel6)) (rel6.new (o := .tup _) hp) (rv_tup rel6 hp (.cons rv6 (.cons .non .nil)))
  · cases r with
    | error e => exact (show False from hq).elim
    | ok fl =>
      cases fl with
      | ret u => exact I2.after hq
      | next => exact hq.elim
      | brk => exact hq.elim
      | cont => exact hq.elim⟩
end
end D
set_option Elab.async false
set_option linter.all false
set_option maxRecDepth 100000
set_option maxHeartbeats 2000000
/-! X22: repr of a tuple that holds own instances. -/
open PySem PySem.Calls PyProof.Rows Builtin in
theorem PySem.W.reprBy_K {prog : Program} {w : World} {A : Around} {E : Value → Shared → Prop} {s : Shared} {K : Frag} {x C f L : Addr} {ox : Obj} {od : Option Obj} {h₀ : Heap} {m : PySem.Str → Option Value} {Q : PySem.Str → Shared → Prop} {base : Nat} (hb : base ≤ sizeLine) (hu : A.units < cLine) (F : Fr h₀ L s.heap m) (X₀ : K.In h₀) (I : InstAt s.heap x ox C od) (hs : findIn K (.ref C) "__repr__" = some (some (.ref f))) (hf : isFn K (.ref f) = true)
    (h : wpAny (model prog w) A (call (.ref f) [.ref x]) (fun v s' => ∃ t i, v = .str t i ∧ Q t s') E s) : wpAny (model prog w) A (pyReprUnder base (.ref x)) Q E s := by
  have X := X₀.keeps F.keep
  refine wpAny_pyReprUnder_ref hb ?_
  unfold pyReprObjUnder pyReprObjBy
  refine wpAny_bind (wpAny_cRoomFor hu ?_)
  refine wpAny_bind (wpAny_bind (I.type.here ((looks_findIn X hs).here ?_)))
  show wpAny _ _ (if (some (Value.ref f)).isNone = true then _ else _) _ _ _
  rw [if_neg (by simp)]
  have fin : wpAny (model prog w) A (call (.ref f) ([.ref x] ++ []) >>= fun v => pure (some v)) (fun (r : Option Value) s' => ∃ t i, r = some (.str t i) ∧ Q t s') E s := wpAny_bind (wpAny_mono h (fun v s' ⟨t, i, e, q⟩ => wpAny_pure ⟨t, i, by rw [e], q⟩) fun _ _ h' => h')
  have mid : wpAny (model prog w) A (callSpecialIfBoundBy? (fun g first => match reprUnder? g, first with
      | some twin, [self] => call twin [self, rawInt base]
      | _, _ => call g (first ++ [])) (.ref x) "__repr__") (fun (r : Option Value) s' => ∃ t i, r = some (.str t i) ∧ Q t s') E s := by
    simp only [callSpecialIfBoundBy?, bindSpecialIfBound?]
    refine wpAny_holding (wpAny_bind (wpAny_bind (wpAny_bind (I.type.here ((looks_findIn X hs).here ?_)))))
    refine wpAny_bind (wpAny_askSetting (wpAny_ite ?_))
    split
    · exact wpAny_bind ((bind_fn X _ (beq_iff_eq.mp hf)).here (wpAny_pure (by exact fin)))
    · exact wpAny_tryCatch (wpAny_bind ((bind_fn X _ (beq_iff_eq.mp hf)).here (wpAny_pure (by exact fin))))
  refine wpAny_bind (wpAny_mono mid (fun r s' hr => ?_) fun _ _ y => y)
  obtain ⟨t, i, rfl, q⟩ := hr
  refine wpAny_bind (wpAny_isInstance (T := "str") (b := true) rfl isSubtype_str_str ?_)
  exact wpAny_pure ⟨t, i, rfl, q⟩
namespace D
open PySem PySem.Spec PyProof.Rows L2 SlX
/-- an operation below a builtin that guards -/
def OwnOk2 (X : Cx) (cl : Cl) (c n : Nat) (m : Str) (g : List DV → M DV) : Prop := ∃ (gf : Addr) (j : Nat), PySem.W.findIn X.K (.ref (cl.ad c)) m = some (some (.ref gf)) ∧ PySem.W.isFn X.K (.ref gf) = true ∧ FnR X.prog X.w X.K X.mg X.base L2.CX0 j gf (spD X.K cl n g) ∧ Room (j + 2) X.A
def isOb : DV → Bool
  | .obj _ _ => true
  | _ => false
open Classical in
noncomputable def itT (A : Nat → Option (List DV → M DV)) (d : DV) : M (List Nat) := match d with
  | .obj c fs => bnd (optM (A c)) fun k => bnd (k [.obj c fs]) fun v => match v with
    | .str s => ret s
    | _ => stk
  | d => fun h => match pdN h 5 d with
    | some p => if p.depth ≤ 30 ∧ p.showable = true ∧ p.shown.length ≤ sizeLine then .ok p.shown.cps.toList h else .stuck
    | none => .stuck
noncomputable def itsT (A : Nat → Option (List DV → M DV)) : List DV → M (List (List Nat))
  | [] => ret []
  | d :: t => bnd (itT A d) fun s => bnd (itsT A t) fun r => ret (s :: r)
open Classical in
noncomputable def reprOT (A : Nat → Option (List DV → M DV)) (ds : List DV) : M DV := match ds with
  | [.tup xs] => if xs.any isOb then bnd (itsT A xs) fun ts => (if (tupleText (ts.map SX.S)).length ≤ sizeLine then ret (.str (tupleText (ts.map SX.S)).cps.toList) else stk) else reprN (.tup xs)
  | l => reprOL A l
section
variable {K : PySem.W.Frag} {cl : Cl} {W : Wd} {H : Hp} {h h' : Hs} {X : Cx} {pins : List (Addr × Obj)} {σ : L2.St} {s : Shared}
theorem strS (t : Str) : SX.S t.cps.toList = t := TL.ext_tl rfl
abbrev tupCd (a : Addr) : Code := .builtin "tuple.__repr__" ⟨[.ref a], []⟩
theorem tup_depth {A : Around} {a : Addr} : (A.under (tupCd a)).depth = A.depth + 1 := by
  have hg : (tupCd a).isGuard = true := isGuard_tuple_repr _
  first
    | (simp [Around.under, Code.weight, hg, Code.isCreation, Code.isCaller, Code.frames, Code.isFrame]; done)
    | (unfold Around.under Code.weight; rw [hg]; rfl)
theorem room_tup {k : Nat} {A : Around} {a : Addr} (r : Room (k + 1) A) : Room k (A.under (tupCd a)) :=
  ⟨r.hd, by have := r.dp; rw [tup_depth]; omega, by have := r.un; rw [units_under_tuple_repr]; omega⟩
theorem env0_tup {P : Program} {w : World} {mg : Str → Option Value} {base : Heap} {A : Around} {outer : List Env} {a : Addr} (e : Env0 P w K mg base A outer s H) : Env0 P w K mg base (A.under (tupCd a)) outer s H :=
  ⟨by first | exact e.frames | (simpa [Around.under, Code.envs, Code.isFrame, pushEnvs] using e.frames), e.mod, e.bs, e.bsz, e.funs, e.frf, e.hok, e.bare⟩
/-- what is read holds no instance -/
theorem not_read {hp : Heap} {a x C : Addr} {ox : Obj} {od : Option Obj} {o : Obj} {its : List Value} {n : Nat} (ha : hp.get? a = some o) (hc : o.cls = .type "tuple") (hd : o.data = .seq its.toArray n) (hi : Value.ref x ∈ its) (J : PySem.W.InstAt hp x ox C od) : ∀ d as, ¬ Reads hp (.ref a) d as := fun d as r => by
  have cx : ∀ d as, ¬ Reads hp (.ref x) d as := fun d as r => by
    have hx := J.at_
    have hcl := J.cls
    cases r with
    | list h1 h2 h3 h4 => rw [hx] at h1; cases h1; rw [hcl] at h2; cases h2
    | tuple h1 h2 h3 h4 => rw [hx] at h1; cases h1; rw [hcl] at h2; cases h2
    | dict h1 h2 h3 h4 h5 => rw [hx] at h1; cases h1; rw [hcl] at h2; cases h2
  have all : ∀ (l : List Value) ds as, ReadsAll hp l ds as → Value.ref x ∈ l → False := fun l => by
    induction l with
    | nil => intro ds as _ hm; cases hm
    | cons u t ih =>
      intro ds as r hm
      cases r with
      | cons r1 r2 =>
        rcases List.mem_cons.mp hm with e | hm
        · subst e; exact cx _ _ r1
        · exact ih _ _ r2 hm
  cases r with
  | list h1 h2 h3 h4 => rw [ha] at h1; cases h1; rw [hc] at h2; injection h2 with h2; exact absurd h2 (by decide)
  | tuple h1 h2 h3 h4 =>
    rw [ha] at h1
    cases h1
    rw [hd] at h3
    injection h3 with h3 _
    subst h3
    exact all _ _ _ h4 hi
  | dict h1 h2 h3 h4 h5 => rw [ha] at h1; cases h1; rw [hc] at h2; injection h2 with h2; exact absurd h2 (by decide)
theorem fold_its {A : Nat → Option (List DV → M DV)} {a : Addr} (hA : ∀ c k, A c = some k → OwnOk2 X cl c 1 "__repr__" k) (hg : X.A.guards = some []) (hu : X.A.units + 64 < cLine) (S : SysM X.K) :
    ∀ (ds : List DV) (xs : List V) (us : List Value) (ts : List (List Nat)) (W : Wd) (h : Hs) (H : Hp) (s : Shared) (acc : Array Str) (n : Nat) (h' : Hs) (Q : (Array Str × Nat) → Shared → Prop), itsT A ds h = .ok ts h' → RVs X.K cl W H ds xs → Vals xs us → HRel X.K cl W h H → Inv X pins σ H s → n + piled (ts.map SX.S) ≤ sizeLine →
      (∀ W1 H1 s1, Ext W H W1 H1 → Inv X pins σ H1 s1 → ∀ d as, ¬ Reads s1.heap (.ref a) d as) →
      (∀ W1 H1 s1, Ext W H W1 H1 → HRel X.K cl W1 h' H1 → Inv X pins σ H1 s1 → Q ⟨acc ++ (ts.map SX.S).toArray, n + piled (ts.map SX.S)⟩ s1) →
      wpAny (model X.prog X.w) (X.A.in1.under (tupCd a)) (forIn us (⟨acc, n⟩ : (Array Str × Nat)) tupBody) Q X.xe s
  | [], xs, us, ts, W, h, H, s, acc, n, h', Q, e, r, z, rel, I, hn, hna, hq => by
    cases e
    cases r
    cases z
    have h0 := hq W H s .refl rel I
    simp only [List.forIn_nil]
    exact wpAny_pure (by simpa [piled] using h0)
  | d :: ds, xs, us, ts, W, h, H, s, acc, n, h', Q, e, r, z, rel, I, hn, hna, hq => by
    obtain ⟨s0, h1, e1, e2⟩ := bnd_ok (show bnd (itT A d) _ h = _ from e)
    obtain ⟨r0, h2, e3, e4⟩ := bnd_ok e2
    cases e4
    cases r with
    | cons r1 r2 =>
      cases z with
      | cons z1 z2 =>
        rename_i x xs u us
        rw [List.map_cons, piled_cons] at hn
        have units : (X.A.in1.under (tupCd a)).units = X.A.units + 2 := by
          rw [units_under_tuple_repr]
        have item : ∀ Q' : Str → Shared → Prop, (∀ W1 H1 s1, Ext W H W1 H1 → HRel X.K cl W1 h1 H1 → Inv X pins σ H1 s1 → Q' (SX.S s0) s1) → wpAny (model X.prog X.w) (X.A.in1.under (tupCd a)) (pyReprUnder (n + 1) u) Q' X.xe s := fun Q' hq' => by
          unfold itT at e1
          split at e1
          · rename_i c fs
            obtain ⟨k, h4, e5, e6⟩ := bnd_ok e1
            obtain ⟨hk, rfl⟩ := optM_ok e5
            obtain ⟨v, h5, e7, e8⟩ := bnd_ok e6
            obtain ⟨gf, j, q1, q2, F, hr⟩ := hA _ _ hk
            have r1' := r1
            cases r1 with
            | obj f1 f2 ne y1 y2 rr =>
              cases z1
              obtain ⟨sl, od, _, J, _⟩ := slt_inst I (slt_obj y1 y2)
              obtain ⟨m, hF⟩ := I.fr
              refine PySem.W.reprBy_K (by omega) (by rw [units]; omega) hF I.ok.mod.kin J q1 q2 (wpAny_mono (wpAny_call (run_at (us := [.ref _]) (ws := [.ref _]) (Q := fun x H' => ∃ t : Str, x = .str t ∧ t = SX.S s0 ∧ ∃ W1, Ext W H W1 H' ∧ HRel X.K cl W1 h1 H') F (room_tup hr.in1) (env0_tup I.env0.in1) L2.pass0 I (.cons rfl .nil) ⟨rfl, W, h, [_], v, h5, rel, .cons r1' .nil, e7, fun W1 H1 x ext rel1 rvx => ?_⟩)) (fun w s' y => ?_) fun _ _ x => x)
              · split at e8
                · cases e8
                  cases rvx
                  exact ⟨_, rfl, rfl, W1, ext, rel1⟩
                · cases e8
              · obtain ⟨z', H', I', rz, t, ez, et, W1, ext, rel1⟩ := y
                subst ez
                obtain ⟨i, ew⟩ := (show ∃ i, w = Value.str t i from rz)
                subst et
                exact ⟨_, i, ew, hq' W1 H' s' ext rel1 I'⟩
          · rename_i d0 nd
            dsimp only at e1
            cases pz : pdN h 5 d with
            | none => rw [pz] at e1; cases e1
            | some p =>
              rw [pz] at e1
              dsimp only at e1
              split at e1
              · rename_i c
                cases e1
                obtain ⟨as, rd, ns⟩ := pdN_reads I S rel _ _ _ _ _ pz r1 z1
                obtain ⟨bs, b1, b2⟩ := ReprK.of_reads (prog := X.prog) (w := X.w) rd c.2.1 (fun _ => ns) c.2.2
                have hl : n + 1 + p.shown.length ≤ sizeLine := by
                  have e0 : (SX.S p.shown.cps.toList).length = p.shown.length := by rw [strS]
                  rw [e0] at hn
                  omega
                refine b2 (n + 1) hl _ _ _ _ _ (guards_under_guard (isGuard_tuple_repr _) hg) (fun b hb => (Clear.nil b).cons (a := a) fun ne => ?_) (by rw [units]; have := c.1; omega) (fun _ _ e => e) fun h' tk hk => ?_
                · obtain ⟨d', as', rb, _⟩ := b1 b hb
                  subst ne
                  exact hna W H s .refl I _ _ rb
                · have I' := I.kept (t' := tk) hk
                  have z := hq' W H _ .refl rel I'
                  rw [strS] at z
                  exact z
              · cases e1
        rw [List.forIn_cons]
        refine wpAny_bind (wpAny_bind (item _ fun W1 H1 s1 ext1 rel1 I1 => wpAny_pure ?_))
        refine fold_its hA hg hu S ds xs us r0 W1 h1 H1 s1 (acc.push (SX.S s0)) (n + ((SX.S s0).length + 2)) _ Q e3 (r2.mono ext1) z2 rel1 I1 (by omega) (fun W2 H2 s2 ext2 I2 => hna W2 H2 s2 (ext1.trans ext2) I2) fun W2 H2 s2 ext2 rel2 I2 => ?_
        have q := hq W2 H2 s2 (ext1.trans ext2) rel2 I2
        rw [List.map_cons, piled_cons] at q
        have en : n + ((SX.S s0).length + 2 + piled (r0.map SX.S)) = n + ((SX.S s0).length + 2) + piled (r0.map SX.S) := by omega
        rw [en] at q
        simpa using q
theorem c_reprT {A : Nat → Option (List DV → M DV)} (hg : X.A.guards = some []) (hu : X.A.units + 64 < cLine) (S : SysM X.K) (hA : ∀ c k, A c = some k → OwnOk2 X cl c 1 "__repr__" k) : CD cl X (.builtin "repr") (reprOT A) := by
  have hA1 : ∀ c k, A c = some k → OwnOk1 X cl c 1 "__repr__" k := fun c k e => by
    obtain ⟨gf, j, q1, q2, F, hr⟩ := hA c k e
    exact ⟨gf, j, q1, q2, F, hr.mono (by omega)⟩
  intro pins s σ H xs us Q I rv q
  obtain ⟨W, h, ds, v', h', rel, r, e, po⟩ := q
  unfold reprOT at e
  split at e
  · rename_i ys
    split at e
    · rename_i anyO
      obtain ⟨ts, h2, e3, e4⟩ := bnd_ok e
      split at e4
      · rename_i hsz
        cases e4
        obtain ⟨x, rfl, r1⟩ := r.one
        cases r1 with
        | tup f rs =>
          rename_i zs a
          obtain ⟨u, rfl, ru⟩ := rv.one
          cases ru
          obtain ⟨its, rvs, ⟨o, ho, hc, m, hd⟩, hz⟩ := I.tuple f.sq
          have hs1 : piled (ts.map SX.S) ≤ sizeLine := Nat.le_trans (piled_le_tupleText _) hsz
          have lenT : ts.length = its.length := by
            have k : ∀ (ds : List DV) (h h' : Hs) (ts : List (List Nat)), itsT A ds h = .ok ts h' → ts.length = ds.length := fun ds => by
              induction ds with
              | nil => intro h h' ts e; cases e; rfl
              | cons d t ih =>
                intro h h' ts e
                obtain ⟨s0, h1, _, e2⟩ := bnd_ok (show bnd (itT A d) _ h = _ from e)
                obtain ⟨r0, h2, e3, e4⟩ := bnd_ok e2
                cases e4
                rw [List.length_cons, List.length_cons, ih _ _ _ e3]
            rw [k _ _ _ _ e3, rs.length, rvs.length]
          -- the instance
          obtain ⟨i, c, fs, hi⟩ : ∃ i c fs, ys[i]? = some (DV.obj c fs) := by
            obtain ⟨d, hd, ob⟩ := List.any_eq_true.mp anyO
            cases d <;> first | (cases ob; done) | skip
            obtain ⟨i, hi, e⟩ := List.mem_iff_getElem.mp hd
            exact ⟨i, _, _, List.getElem?_eq_some_iff.mpr ⟨hi, e⟩⟩
          obtain ⟨y, hy, ry⟩ := rs.get hi
          have hna : ∀ W1 H1 s1, Ext W H W1 H1 → Inv X pins σ H1 s1 → ∀ d as, ¬ Reads s1.heap (.ref a) d as := fun W1 H1 s1 ext I1 => by
            have f1 : FzT X.K W1 H1 a zs := f.mono ext
            have ry1 := ry.mono ext
            obtain ⟨its1, rvs1, ⟨o1, ho1, hc1, m1, hd1⟩, _⟩ := I1.tuple f1.sq
            cases ry1 with
            | obj f1 f2 ne y1 y2 rr =>
              obtain ⟨sl, od, _, J, _⟩ := slt_inst I1 (slt_obj y1 y2)
              obtain ⟨u1, hu1, ru1⟩ : ∃ u1, its1[i]? = some u1 ∧ RelV _ u1 := rvs1.get hy
              cases (show u1 = Value.ref _ from ru1)
              exact not_read ho1 hc1 hd1 (List.mem_of_getElem? hu1) J
          refine call_repr_slot (by omega) ⟨o, ho, hc⟩ F.slot_tuple_repr ?_
          refine wpAny_call (codeAny_call_builtin_own (Code.quiet_builtin _ (by decide +kernel)) F.entry_tuple_repr (F.slot_tuple_repr.check _ _ _ _ _ _ _ _ ⟨o, ho, hc⟩ (F.args_tuple_repr_1 _) ?_))
          show wpOwn _ _ _ (Builtin.tupleReprAt 0 ⟨[.ref a], []⟩) _ _ s
          rw [tuple_repr_tree, tupleReprUnderWay_eq]
          refine wpOwn_bind (wpOwn_stackTailAny (show X.A.in1.guards = some [] from hg) (tupGuardF_off _) (tupGuardF_pos _) ?_)
          rw [show (([] : List Code).any fun c => tupGuardF (.ref a) (c, default)) = false from rfl]
          refine wpOwn_of_wpAny ?_
          show wpAny _ _ (tupleReprRest 0 (.ref a)) _ _ s
          unfold tupleReprRest Builtin.Tuple.tupleItemsOf
          refine wpAny_bind (wpAny_bind (wpAny_seqItems ho hd (wpAny_pure ?_)))
          rw [← Array.forIn_toList]
          refine wpAny_bind (fold_its hA hg hu S _ _ _ _ _ _ _ _ _ _ _ _ e3 rs rvs rel I (by rw [Nat.zero_add]; exact hs1) hna fun W1 H1 s1 ext1 rel1 I1 => ?_)
          have ez : tupleText (ts.map SX.S) = ("(" : Str) ++ Str.join ", " ((#[] : Array Str) ++ (ts.map SX.S).toArray).toList ++ (if its.toArray.size == 1 then ",)" else ")" : String) := by
            unfold tupleText
            simp [lenT]
          refine wpAny_bind (wpAny_mkStr (wpAny_pure ?_) (by rw [← ez]; exact hsz))
          have q := (po.go ext1).now rel1 (.str (tupleText (ts.map SX.S)).cps.toList)
          rw [strS] at q
          rw [← ez]
          exact ⟨_, _, rfl, .str _, H1, I1.tok _, ⟨_, rfl⟩, q⟩
      · cases e4
    · exact c_reprN hg hu S pins s σ H xs us Q I rv ⟨W, h, _, v', h', rel, r, e, po⟩
  · exact c_reprO hg hu S hA1 pins s σ H xs us Q I rv ⟨W, h, _, v', h', rel, r, e, po⟩
end
end D
set_option Elab.async false
set_option linter.all false
set_option maxRecDepth 100000
set_option maxHeartbeats 2000000
/-! X23: makers that may raise, with defaults. -/
namespace D
open PySem PySem.Spec PyProof.Rows L2 SlX ZG
def FnXDf (P : Program) (w : World) (K : PySem.W.Frag) (mg : Str → Option Value) (base : Heap) (cl : Cl) (k f n : Nat) (dd : List DV) (g : List DV → M DV) : Prop := ∃ (fd : FuncData) (ps : List Str) (ds : List Value) (dv : List V), FnOk P w K mg base (L2.CX P w) k f fd ps (spX K cl n g) ∧ Binds K fd ps ds ∧ Vals dv ds ∧ Stands K cl dd dv
theorem FnXDf.noX {P : Program} {w : World} {K : PySem.W.Frag} {mg : Str → Option Value} {base : Heap} {cl : Cl} {k f n : Nat} {dd : List DV} {g : List DV → M DV} (F : FnXDf P w K mg base cl k f n dd g) : FnDf P w K mg base cl k f n dd g := by
  obtain ⟨fd, ps, ds, dv, F, b, v, s⟩ := F
  exact ⟨fd, ps, ds, dv, D.FnOk.noX F, b, v, s⟩
section
variable {K : PySem.W.Frag} {cl : Cl} {W W1 : Wd} {H H1 : Hp} {h h' : Hs} {X : Cx} {pos p : Pos} {e : Expr} {es : List Expr} {ms : Exs} {x : Str} {E : XK}
theorem dx_makeDf {c j k n : Nat} {dd : List DV} {g : List DV → M DV} {gf : Addr} (tk : Takes X (fun c d _ H => E c d H)) (M : Mk X.K (cl.ad c) gf) (F : FnXDf X.prog X.w X.K X.mg X.base cl k gf (n + 1 + dd.length) dd g) (hr : Room j X.A) (hk : k + 1 ≤ j) (hg : Gl X x) (hm : X.mg x = some (.ref (cl.ad c))) (ha : DA cl X (e :: es) ms)
    (hn : ∀ sl h vs h', ms sl h = .ok vs h' → vs.length = n)
    (hdb : (x == ("__debug__" : Str)) = false := by decide) (he : starEach (e :: es) X.env = (false, eval e X.env) :: starEach es X.env := by rfl) (hpl : (backTo pos (starEach es X.env)).any (·.1) = false := by rfl) :
    DX cl X E (.Call (.Name x p) (e :: es) [] pos) (eMakeX c (fun ds => g (ds ++ dd)) ms) := by
  obtain ⟨fd, ps, dvals, dv, F, hb, hv, st⟩ := F
  refine (pe_make M F (hr.mono hk) hg hm hb hv (passes_call tk fun _ _ _ _ z => z) ha hdb he hpl).mono fun σ H Q ⟨W, h, sl, rel, rs, q⟩ => ?_
  obtain ⟨ds, h1, e1, q1⟩ := (Rn.bnd q).noE
  refine ⟨W, h, sl, ds, h1, rel, rs, e1, fun W1 H1 vs ext rel1 rv a dx na nd ne => ?_⟩
  obtain ⟨ex2, rel2⟩ := rel1.addI (c := c) na nd ne
  show spX X.K cl (n + 1 + dd.length) g (V.ref a :: (vs ++ dv)) _ _ _
  have at2 : (W1.addI a dx).ρ[h1.length]? = some (a, dx) := by
    show (W1.ρ ++ [(a, dx)])[h1.length]? = some (a, dx)
    rw [rel1.len]; simp
  have sd := st (W1.addI a dx) (upd (upd H1 dx (.own a)) a (.ins (cl.ad c) dx []))
  have q2 := makeX_rn q1
  simp only [List.cons_append] at q2
  refine ⟨by rw [List.length_cons, List.length_append, ← rv.length, hn _ _ _ _ e1, ← sd.length]; omega, W1.addI a dx, h1 ++ [.ins c []], .ref h1.length :: (ds ++ dd), rel2, .cons (.ref at2) ((rv.mono ex2).append sd), q2.mono (fun v h2 z => ?_) fun c v h2 z => z.go (ext.trans ex2)⟩
  obtain ⟨rfl, c', fs, d, t, g2, g3, po⟩ := z
  intro W3 H3 y ext3 rel3 ry
  cases ry
  have at3 := ext3.pre _ _ at2
  have e5 := allSome_ok g3
  subst e5
  obtain ⟨ex4, rel4, r4⟩ := rel3.freeze g2 at3
  exact ⟨rfl, po _ _ _ (((ext.trans ex2).trans ext3).trans ex4) rel4 r4⟩
end
end D
set_option Elab.async false
set_option linter.all false
set_option maxRecDepth 100000
set_option maxHeartbeats 0
/-! printed by gen.py: the law's defs as D functions; their derivations. -/
namespace Lw
open PySem PySem.Spec PyProof.Rows L2 SlX D
def top (i : Nat) : Stmt := PySem.Challenge.pw_looseknobs_k01_ratios_made.main.body.getD i (.Pass ⟨0, 0, 0, 0⟩)

def isn : Tag → Option Bool := fun t => match t with | .non => some false | _ => none
def isx_BadRatio : Nat → Option Bool := tabA [some true]
def isi_int : Tag → Option Bool := fun t => match t with | .non => some false | .bl => some true | .int => some true | .str => some false | .lst => some false | .tup => some false | .dic => some false | .ob c => tabA [some false] c
def isi_bool : Tag → Option Bool := fun t => match t with | .non => some false | .bl => some true | .int => some false | .str => some false | .lst => some false | .tup => some false | .dic => some false | .ob c => tabA [some false] c
def isi_Ratio : Tag → Option Bool := fun t => match t with | .non => some false | .bl => some false | .int => some false | .str => some false | .lst => some false | .tup => some false | .dic => some false | .ob c => tabA [some true] c
noncomputable def at_own_number : Nat → Option AtK := tabA [some (.sl 0)]
noncomputable def at_own_under : Nat → Option AtK := tabA [some (.sl 1)]
noncomputable def so_own_under : Nat → Option Nat := tabA [some (1)]
noncomputable def so_own_number : Nat → Option Nat := tabA [some (0)]
abbrev st__law_take : Stmt := top 22
abbrev st__law_of : Stmt := top 23
abbrev st__law_number : Stmt := top 28
abbrev st__law_heard : Stmt := top 25
abbrev st_Ratiodd_reprdd : Stmt := inClass (top 13) 7
abbrev st__law_is_refused : Stmt := top 30
abbrev st_common : Stmt := top 10
abbrev st_is_integer : Stmt := top 8
abbrev st_Ratiodd_initdd : Stmt := inClass (top 13) 1
abbrev st__law_gcd : Stmt := top 26
abbrev st__law_fr : Stmt := top 27
abbrev st_Ratio_number : Stmt := inClass (top 13) 2
abbrev st_Ratio_under : Stmt := inClass (top 13) 3
abbrev st_Ratiodd_eqdd : Stmt := inClass (top 13) 8
abbrev st__law_is_made : Stmt := top 29
abbrev st__law_right : Stmt := top 31
abbrev st__law_pot : Stmt := top 21
abbrev st__law_cells : Stmt := top 24
abbrev st_law : Stmt := top 32
noncomputable def f__law_take : List DV → M DV := runF 5 (sCons (sIf (bCmp gtD (eOp itemD (eSlot 0) (eC (.int (0)))) (eC (.int (0)))) (sCons (sAs (eOp modD (eCall intTD (aCons (eOp itemD (eSlot 0) (eC (.int (0)))) aNil)) (eSlot 1)) (gN 4)) (sCons (sSub (eSlot 0) (eC (.int (0))) (eOp fdivD (eOp itemD (eSlot 0) (eC (.int (0)))) (eSlot 1))) (sCons (sRet (eSlot 4)) sNil))) sNil) (sCons (sSub (eSlot 0) (eC (.int (2))) (eOp addD (eOp itemD (eSlot 0) (eC (.int (2)))) (eC (.int (1))))) (sCons (sAs (eOp itemD (eLst (aCons (eC (.int (2147483647))) (aCons (eC (.int (2147483629))) (aCons (eC (.int (2147483587))) (aCons (eC (.int (2147483579))) (aCons (eC (.int (2147483563))) aNil)))))) (eOp modD (eCall intTD (aCons (eOp itemD (eSlot 0) (eC (.int (2)))) aNil)) (eC (.int (5))))) (gN 2)) (sCons (sAs (eOp modD (eCall intTD (aCons (eOp powD (eCall intTD (aCons (eOp addD (eOp addD (eOp itemD (eSlot 0) (eC (.int (1)))) (eOp lrepD (eOp lrepD (eC (.int (100595))) (eOp itemD (eSlot 0) (eC (.int (2))))) (eOp itemD (eSlot 0) (eC (.int (2)))))) (eC (.int (38)))) aNil)) (eC (.int (3)))) aNil)) (eSlot 2)) (gN 3)) (sCons (sRet (eOp modD (eCall intTD (aCons (eOp fdivD (eOp lrepD (eSlot 3) (eOp addD (eOp modD (eCall intTD (aCons (eSlot 3) aNil)) (eC (.int (10065)))) (eOp lrepD (eC (.int (92))) (eOp itemD (eSlot 0) (eC (.int (2))))))) (eC (.int (149)))) aNil)) (eSlot 1))) sNil)))))
noncomputable def f__law_of : List DV → M DV := runF 2 (sCons (sRet (eOp itemD (eSlot 1) (eCall (trF f__law_take) (aCons (eSlot 0) (aCons (eCall lenD (aCons (eSlot 1) aNil)) aNil))))) sNil)
noncomputable def f__law_number : List DV → M DV := runF 2 (sCons (sAs (eCall (trF f__law_of) (aCons (eSlot 0) (aCons (eLst (aCons (eC (.int (1))) (aCons (eC (.int (2))) (aCons (eC (.int (3))) (aCons (eC (.int (6))) (aCons (eC (.int (10))) (aCons (eC (.int (12))) (aCons (eC (.int (35))) (aCons (eC (.int (360))) (aCons (eC (.int (999983))) (aCons (eOp powD (eC (.int (10))) (eC (.int (6)))) (aCons (eOp subD (eOp powD (eC (.int (10))) (eC (.int (8)))) (eC (.int (1)))) aNil)))))))))))) aNil))) (gN 1)) (sCons (sRet (eCall (trF f__law_of) (aCons (eSlot 0) (aCons (eLst (aCons (eSlot 1) (aCons (eUn negD (eSlot 1)) (aCons (eC (.int (0))) (aCons (eIf (bCmp ltD (eSlot 1) (eOp powD (eC (.int (10))) (eC (.int (7))))) (eOp lrepD (eSlot 1) (eCall (trF f__law_of) (aCons (eSlot 0) (aCons (eLst (aCons (eC (.int (1))) (aCons (eC (.int (1))) (aCons (eC (.int (2))) (aCons (eC (.int (3))) aNil))))) aNil)))) (eSlot 1)) (aCons (eC (.int (1))) (aCons (eUn negD (eC (.int (1)))) aNil))))))) aNil)))) sNil))
noncomputable def f_Ratiodd_reprdd : List DV → M DV := runF 1 (sCons (sIf (bCmp deqD (eAttr at_own_under (eSlot 0)) (eC (.int (1)))) (sCons (sRet (jsD [(eC (.str [82, 97, 116, 105, 111, 40])), (eFmtZ (eAttr at_own_number (eSlot 0))), (eC (.str [41]))] [])) sNil) sNil) (sCons (sRet (jsD [(eC (.str [82, 97, 116, 105, 111, 40])), (eFmtZ (eAttr at_own_number (eSlot 0))), (eC (.str [44, 32])), (eFmtZ (eAttr at_own_under (eSlot 0))), (eC (.str [41]))] [])) sNil))
noncomputable def ow_repr_0 : Nat → Option (List DV → M DV) := tabA [some ((trF f_Ratiodd_reprdd))]
noncomputable def f_common : List DV → M DV := runF 2 (sCons (sPar 0 1 (aCons (eCall absD (aCons (eSlot 0) aNil)) (aCons (eCall absD (aCons (eSlot 1) aNil)) aNil))) (sCons (sWh (bCmp dneD (eSlot 1) (eC (.int (0)))) (sCons (sPar 0 1 (aCons (eSlot 1) (aCons (eOp modD (eSlot 0) (eSlot 1)) aNil))) sNil)) (sCons (sRet (eSlot 0)) sNil)))
noncomputable def f_is_integer : List DV → M DV := runF 1 (sCons (sRet (eAnd (eIsi isi_int (eSlot 0)) (eNot (eIsi isi_bool (eSlot 0))))) sNil)
noncomputable def f_Ratiodd_initdd : List DV → M DV := runF 4 (sCons (sIf (fun sl => noE ((bOr (bNot (bE (eCall (trF f_is_integer) (aCons (eSlot 1) aNil)))) (bOr (bNot (bE (eCall (trF f_is_integer) (aCons (eSlot 2) aNil)))) (bCmp deqD (eSlot 2) (eC (.int (0)))))) sl)) (sCons (sRz 0 (eTup (aCons (eSlot 1) (aCons (eSlot 2) aNil)))) sNil) sNil) (sCons (fun sl => noE ((sAs (eCall (trF f_common) (aCons (eSlot 1) (aCons (eSlot 2) aNil))) (gN 3)) sl)) (sCons (fun sl => noE ((sAs (eIf (bCmp ltD (eSlot 2) (eC (.int (0)))) (eUn negD (eSlot 3)) (eSlot 3)) (gN 3)) sl)) (sCons (fun sl => noE ((sSlo so_own_number (eSlot 0) (eOp fdivZ (eSlot 1) (eSlot 3))) sl)) (sCons (fun sl => noE ((sSlo so_own_under (eSlot 0) (eOp fdivZ (eSlot 2) (eSlot 3))) sl)) sNil)))))
noncomputable def f__law_gcd : List DV → M DV := runF 2 (sCons (sPar 0 1 (aCons (eCall absD (aCons (eSlot 0) aNil)) (aCons (eCall absD (aCons (eSlot 1) aNil)) aNil))) (sCons (sWh (bCmp dneD (eSlot 1) (eC (.int (0)))) (sCons (sPar 0 1 (aCons (eSlot 1) (aCons (eOp modD (eCall intTD (aCons (eSlot 0) aNil)) (eCall intTD (aCons (eSlot 1) aNil))) aNil))) sNil)) (sCons (sRet (eSlot 0)) sNil)))
noncomputable def f__law_fr : List DV → M DV := runF 3 (sCons (sAs (eOp lrepD (eCall (trF f__law_gcd) (aCons (eSlot 0) (aCons (eSlot 1) aNil))) (eIf (bCmp ltD (eSlot 1) (eC (.int (0)))) (eUn negD (eC (.int (1)))) (eC (.int (1))))) (gN 2)) (sCons (sRet (eTup (aCons (eOp fdivZ (eSlot 0) (eSlot 2)) (aCons (eOp fdivZ (eSlot 1) (eSlot 2)) aNil)))) sNil))
noncomputable def f_Ratio_number : List DV → M DV := runF 1 (sCons (sRet (eAttr at_own_number (eSlot 0))) sNil)
noncomputable def at_number : Nat → Option AtK := tabA [some (.pr (trF f_Ratio_number))]
noncomputable def f_Ratio_under : List DV → M DV := runF 1 (sCons (sRet (eAttr at_own_under (eSlot 0))) sNil)
noncomputable def at_under : Nat → Option AtK := tabA [some (.pr (trF f_Ratio_under))]
noncomputable def f_Ratiodd_eqdd : List DV → M DV := runF 2 (sCons (sRet (eAnd (eIsi isi_Ratio (eSlot 1)) (eAnd (eOp deqD (eAttr at_own_number (eSlot 0)) (eAttr at_own_number (eSlot 1))) (eOp deqD (eAttr at_own_under (eSlot 0)) (eAttr at_own_under (eSlot 1)))))) sNil)
noncomputable def ow_eq_0 : Nat → Option (List DV → M DV) := tabA [some ((trF f_Ratiodd_eqdd))]
noncomputable def f__law_is_made : List DV → M DV := runF 5 (sCons (sPar 2 3 (aCons (eTr (eCall (makeD 0 f_Ratiodd_initdd) (aCons (eSlot 0) (aCons (eSlot 1) aNil)))) (aCons (eCall (trF f__law_fr) (aCons (eSlot 0) (aCons (eSlot 1) aNil))) aNil))) (sCons (sIf (bCmp (neO ow_eq_0 dneD) (eCall (reprOT ow_repr_0) (aCons (eTup (aCons (eAttr at_number (eSlot 2)) (aCons (eAttr at_under (eSlot 2)) aNil))) aNil)) (eCall (reprOT ow_repr_0) (aCons (eSlot 3) aNil))) (sCons (sRet (eC (.bl false))) sNil) sNil) (sCons (sAs (eOp addD (eOp addD (eOp addD (eC (.str [82, 97, 116, 105, 111, 40])) (eCall strZ (aCons (eOp itemD (eSlot 3) (eC (.int (0)))) aNil))) (eIf (bCmp (ownAD ow_eq_0 deqD) (eOp itemD (eSlot 3) (eC (.int (1)))) (eC (.int (1)))) (eC (.str [])) (eOp addD (eC (.str [44, 32])) (eCall strZ (aCons (eOp itemD (eSlot 3) (eC (.int (1)))) aNil))))) (eC (.str [41]))) (gN 4)) (sCons (sIf (bOr (bCmp (neO ow_eq_0 dneD) (eCall (reprOT ow_repr_0) (aCons (eSlot 2) aNil)) (eSlot 4)) (bNot (bCmp (ownAD ow_eq_0 deqD) (eSlot 2) (eTr (eCall (makeD 0 f_Ratiodd_initdd) (aCons (eOp itemD (eSlot 3) (eC (.int (0)))) (aCons (eOp itemD (eSlot 3) (eC (.int (1)))) aNil))))))) (sCons (sRet (eC (.bl false))) sNil) sNil) (sCons (sRet (eAnd (eNot (eOp (ownAD ow_eq_0 deqD) (eSlot 2) (eSlot 3))) (eAnd (eNot (eOp (ownAD ow_eq_0 deqD) (eSlot 2) (eOp itemD (eSlot 3) (eC (.int (0)))))) (eAnd (eOp (neO ow_eq_0 dneD) (eSlot 2) (eTr (eCall (makeD 0 f_Ratiodd_initdd) (aCons (eOp addD (eOp itemD (eSlot 3) (eC (.int (0)))) (eOp itemD (eSlot 3) (eC (.int (1))))) (aCons (eOp itemD (eSlot 3) (eC (.int (1)))) aNil))))) (eNot (eOp (ownAD ow_eq_0 deqD) (eSlot 2) (eSlot 4))))))) sNil)))))
noncomputable def f__law_right : List DV → M DV := runF 5 (sCons (sFor (iRg rng1 (aCons (eC (.int (12))) aNil)) (gN 1) (sCons (sAs (eTup (aCons (eCall (trF f__law_number) (aCons (eSlot 0) aNil)) (aCons (eCall (trF f__law_number) (aCons (eSlot 0) aNil)) aNil))) (gT 2 (gsCons (gN 2) (gsCons (gN 3) gsNil)))) (sCons (sIf (bCmp deqD (eSlot 3) (eC (.int (0)))) (sCons (sIf (bNot (bE (eRefused (eMakeX 0 f_Ratiodd_initdd (aCons (eSlot 2) (aCons (eSlot 3) aNil))) (eTup (aCons (eSlot 2) (aCons (eC (.int (0))) aNil))) (sCons (sRet (eAnd (eIsx isn isx_BadRatio (eSlot 2)) (eOp deqD (eCall (reprOT ow_repr_0) (aCons (eVal (eSlot 2)) aNil)) (eCall (reprOT ow_repr_0) (aCons (eSlot 1) aNil))))) sNil)))) (sCons (sRet (eC (.bl false))) sNil) sNil) sNil) (sCons (sIf (bNot (bE (eCall (trF f__law_is_made) (aCons (eSlot 2) (aCons (eSlot 3) aNil))))) (sCons (sRet (eC (.bl false))) sNil) sNil) sNil)) (sCons (sIf (bCmp dneD (eCall (reprOT ow_repr_0) (aCons (eCall (makeD 0 fun ds => f_Ratiodd_initdd (ds ++ [.int (1)])) (aCons (eSlot 2) aNil)) aNil)) (eOp addD (eOp addD (eC (.str [82, 97, 116, 105, 111, 40])) (eCall strZ (aCons (eSlot 2) aNil))) (eC (.str [41])))) (sCons (sRet (eC (.bl false))) sNil) sNil) (sCons (sAs (eCall (trF f__law_of) (aCons (eSlot 0) (aCons (eLst (aCons (eC .non) (aCons (eC (.bl true)) (aCons (eC (.bl false)) (aCons (eC (.str [49])) (aCons (eTup (aCons (eC (.int (1))) aNil)) (aCons (eLst (aCons (eC (.int (1))) aNil)) (aCons eDic0 (aCons (eCall (makeD 0 fun ds => f_Ratiodd_initdd (ds ++ [.int (1)])) (aCons (eC (.int (1))) aNil)) (aCons (eC (.str [49, 47, 50])) (aCons (eTup aNil) aNil))))))))))) aNil))) (gN 4)) (sCons (sIf (bNot (bE (eRefused (eMakeX 0 f_Ratiodd_initdd (aCons (eSlot 4) (aCons (eSlot 2) aNil))) (eTup (aCons (eSlot 4) (aCons (eSlot 2) aNil))) (sCons (sRet (eAnd (eIsx isn isx_BadRatio (eSlot 2)) (eOp deqD (eCall (reprOT ow_repr_0) (aCons (eVal (eSlot 2)) aNil)) (eCall (reprOT ow_repr_0) (aCons (eSlot 1) aNil))))) sNil)))) (sCons (sRet (eC (.bl false))) sNil) sNil) (sCons (sIf (bNot (bE (eRefused (eMakeX 0 f_Ratiodd_initdd (aCons (eSlot 2) (aCons (eSlot 4) aNil))) (eTup (aCons (eSlot 2) (aCons (eSlot 4) aNil))) (sCons (sRet (eAnd (eIsx isn isx_BadRatio (eSlot 2)) (eOp deqD (eCall (reprOT ow_repr_0) (aCons (eVal (eSlot 2)) aNil)) (eCall (reprOT ow_repr_0) (aCons (eSlot 1) aNil))))) sNil)))) (sCons (sRet (eC (.bl false))) sNil) sNil) (sCons (sIf (bNot (bE (eRefused (eMakeX 0 (fun ds => f_Ratiodd_initdd (ds ++ [.int (1)])) (aCons (eSlot 4) aNil)) (eTup (aCons (eSlot 4) (aCons (eC (.int (1))) aNil))) (sCons (sRet (eAnd (eIsx isn isx_BadRatio (eSlot 2)) (eOp deqD (eCall (reprOT ow_repr_0) (aCons (eVal (eSlot 2)) aNil)) (eCall (reprOT ow_repr_0) (aCons (eSlot 1) aNil))))) sNil)))) (sCons (sRet (eC (.bl false))) sNil) sNil) sNil)))))))) (sCons (sRet (eC (.bl true))) sNil))
noncomputable def f__law_pot : List DV → M DV := runF 5 (sCons (sAs (eIf (bCmp ltD (eSlot 1) (eCall lenD (aCons (eSlot 0) aNil))) (eOp itemD (eSlot 0) (eSlot 1)) (eOp addD (eOp lrepD (eC (.int (73))) (eSlot 1)) (eC (.int (44))))) (gN 2)) (sCons (sAs (eOp lrepD (eOp modD (eCall intTD (aCons (eCall absD (aCons (eSlot 2) aNil)) aNil)) (eOp powD (eOp powD (eC (.int (10))) (eC (.int (60)))) (eC (.int (5))))) (eCall intTD (aCons (eOp geD (eCall absD (aCons (eSlot 2) aNil)) (eOp powD (eC (.int (10))) (eC (.int (18))))) aNil))) (gN 3)) (sCons (sAs (eOp modD (eCall intTD (aCons (eSlot 2) aNil)) (eC (.int (2305843009213693951)))) (gN 4)) (sCons (sRet (eLst (aCons (eSlot 3) (aCons (eOp modD (eCall intTD (aCons (eOp addD (eOp addD (eOp lrepD (eSlot 4) (eC (.int (73202)))) (eOp lrepD (eOp lrepD (eC (.int (7111))) (eSlot 1)) (eSlot 1))) (eC (.int (202)))) aNil)) (eC (.int (2305843009213693921)))) (aCons (eC (.int (0))) aNil))))) sNil))))
noncomputable def f__law_cells : List DV → M DV := runF 2 (sCons (sRet (eUn lstRg1 (eCall maxD (aCons (eC (.int (1))) (aCons (eCall minD (aCons (eSlot 1) (aCons (eCall lenD (aCons (eSlot 0) aNil)) aNil))) aNil))))) sNil)
noncomputable def f_law : List DV → M DV := runF 2 (sCons (sRet (eTr (eCall allD (aCons (eLc (iE (eCall f__law_cells (aCons (eSlot 0) (aCons (eC (.int (6))) aNil)))) (gN 1) [1] bYes (eCall (trF f__law_right) (aCons (eCall f__law_pot (aCons (eSlot 0) (aCons (eSlot 1) aNil))) aNil))) aNil)))) sNil)
/-- what the head tells -/
structure Fs (K : PySem.W.Frag) (w : World) (mg : Str → Option Value) (cl : Cl) : Prop where
  b_int : mg ("int" : Str) = none
  b_len : mg ("len" : Str) = none
  c0_scl : SCls K (cl.ad 0)
  c0_sl_own_number : ∃ p, Slot1 K (cl.ad 0) ("own_number" : Str) p 0
  c0_sl_own_under : ∃ p, Slot1 K (cl.ad 0) ("own_under" : Str) p 1
  b_abs : mg ("abs" : Str) = none
  b_isinstance : mg ("isinstance" : Str) = none
  c0_isi : SIsi K (cl.ad 0)
  ki_int_0 : PySem.W.kitOne K (.ref (cl.ad 0)) (.type "int") = some false
  b_bool : mg ("bool" : Str) = none
  ki_bool_0 : PySem.W.kitOne K (.ref (cl.ad 0)) (.type "bool") = some false
  ki_Ratio_non : PySem.W.kitOne K (tagV cl .non) (.ref (cl.ad 0)) = some false
  ki_Ratio_bl : PySem.W.kitOne K (tagV cl .bl) (.ref (cl.ad 0)) = some false
  ki_Ratio_int : PySem.W.kitOne K (tagV cl .int) (.ref (cl.ad 0)) = some false
  ki_Ratio_str : PySem.W.kitOne K (tagV cl .str) (.ref (cl.ad 0)) = some false
  ki_Ratio_lst : PySem.W.kitOne K (tagV cl .lst) (.ref (cl.ad 0)) = some false
  ki_Ratio_tup : PySem.W.kitOne K (tagV cl .tup) (.ref (cl.ad 0)) = some false
  ki_Ratio_dic : PySem.W.kitOne K (tagV cl .dic) (.ref (cl.ad 0)) = some false
  ki_Ratio_0 : PySem.W.kitOne K (tagV cl (.ob 0)) (.ref (cl.ad 0)) = some true
  c0_name : mg ("Ratio" : Str) = some (.ref (cl.ad 0))
  c0_nf : ∀ c, PySem.W.notFirst K (cl.ad 0) (.ref (cl.ad c)) = true
  c0_nt : ∀ T ∈ tagT, PySem.W.notFirst K (cl.ad 0) (.type T) = true
  c0_mo : PySem.W.mroIn K (cl.ad 0) (.type "object") = some true
  c0_ne : PySem.W.findIn K (.ref (cl.ad 0)) "__ne__" = some (some (.builtin "object.__ne__"))
  sysm : SysM K
  b_repr : mg ("repr" : Str) = none
  b_str : mg ("str" : Str) = none
  b_range : mg ("range" : Str) = none
  b_min : mg ("min" : Str) = none
  b_max : mg ("max" : Str) = none
  b_list : mg ("list" : Str) = none
  b_all : mg ("all" : Str) = none
  b_super : mg ("super" : Str) = none
  fn__law_take : ∃ f fd, mg ("_law_take" : Str) = some (.ref f) ∧ FunD K ("_law_take" : Str) ("_law_take" : Str) (defArgs st__law_take) (defBody st__law_take) (defScope st__law_take) [] [] f fd
  fn__law_of : ∃ f fd, mg ("_law_of" : Str) = some (.ref f) ∧ FunD K ("_law_of" : Str) ("_law_of" : Str) (defArgs st__law_of) (defBody st__law_of) (defScope st__law_of) [] [] f fd
  fn__law_number : ∃ f fd, mg ("_law_number" : Str) = some (.ref f) ∧ FunD K ("_law_number" : Str) ("_law_number" : Str) (defArgs st__law_number) (defBody st__law_number) (defScope st__law_number) [] [] f fd
  fn__law_heard : ∃ f fd, mg ("_law_heard" : Str) = some (.ref f) ∧ FunD K ("_law_heard" : Str) ("_law_heard" : Str) (defArgs st__law_heard) (defBody st__law_heard) (defScope st__law_heard) [] [] f fd
  fn_Ratiodd_reprdd : ∃ f fd, Meth K (cl.ad 0) ("__repr__" : Str) f ∧ FunD K ("__repr__" : Str) ("Ratio.__repr__" : Str) (defArgs st_Ratiodd_reprdd) (defBody st_Ratiodd_reprdd) (defScope st_Ratiodd_reprdd) [] []  f fd
  fn__law_is_refused : ∃ f fd, mg ("_law_is_refused" : Str) = some (.ref f) ∧ FunD K ("_law_is_refused" : Str) ("_law_is_refused" : Str) (defArgs st__law_is_refused) (defBody st__law_is_refused) (defScope st__law_is_refused) [] [] f fd
  fn_common : ∃ f fd, mg ("common" : Str) = some (.ref f) ∧ FunD K ("common" : Str) ("common" : Str) (defArgs st_common) (defBody st_common) (defScope st_common) [] [] f fd
  fn_is_integer : ∃ f fd, mg ("is_integer" : Str) = some (.ref f) ∧ FunD K ("is_integer" : Str) ("is_integer" : Str) (defArgs st_is_integer) (defBody st_is_integer) (defScope st_is_integer) [] [] f fd
  fn_Ratiodd_initdd : ∃ f fd, Mk K (cl.ad 0) f ∧ FunD K ("__init__" : Str) ("Ratio.__init__" : Str) (defArgs st_Ratiodd_initdd) (defBody st_Ratiodd_initdd) (defScope st_Ratiodd_initdd) [.int (1)] []  f fd
  fn__law_gcd : ∃ f fd, mg ("_law_gcd" : Str) = some (.ref f) ∧ FunD K ("_law_gcd" : Str) ("_law_gcd" : Str) (defArgs st__law_gcd) (defBody st__law_gcd) (defScope st__law_gcd) [] [] f fd
  fn__law_fr : ∃ f fd, mg ("_law_fr" : Str) = some (.ref f) ∧ FunD K ("_law_fr" : Str) ("_law_fr" : Str) (defArgs st__law_fr) (defBody st__law_fr) (defScope st__law_fr) [] [] f fd
  fn_Ratio_number : ∃ p f fd, (PySem.W.findIn K (.ref (cl.ad 0)) ("number" : Str) = some (some (.ref p)) ∧ PySem.W.specialIn K (.ref p) "__get__" = some (some (.builtin "property.__get__")) ∧ PySem.W.takesIn K (.ref p) = some true ∧ ∃ rest, PySem.W.recIn K p "property" = some (.ref f :: rest)) ∧ FunD K ("number" : Str) ("Ratio.number" : Str) (defArgs st_Ratio_number) (defBody st_Ratio_number) (defScope st_Ratio_number) [] []  f fd
  fn_Ratio_under : ∃ p f fd, (PySem.W.findIn K (.ref (cl.ad 0)) ("under" : Str) = some (some (.ref p)) ∧ PySem.W.specialIn K (.ref p) "__get__" = some (some (.builtin "property.__get__")) ∧ PySem.W.takesIn K (.ref p) = some true ∧ ∃ rest, PySem.W.recIn K p "property" = some (.ref f :: rest)) ∧ FunD K ("under" : Str) ("Ratio.under" : Str) (defArgs st_Ratio_under) (defBody st_Ratio_under) (defScope st_Ratio_under) [] []  f fd
  fn_Ratiodd_eqdd : ∃ f fd, Meth K (cl.ad 0) ("__eq__" : Str) f ∧ FunD K ("__eq__" : Str) ("Ratio.__eq__" : Str) (defArgs st_Ratiodd_eqdd) (defBody st_Ratiodd_eqdd) (defScope st_Ratiodd_eqdd) [] []  f fd
  fn__law_is_made : ∃ f fd, mg ("_law_is_made" : Str) = some (.ref f) ∧ FunD K ("_law_is_made" : Str) ("_law_is_made" : Str) (defArgs st__law_is_made) (defBody st__law_is_made) (defScope st__law_is_made) [] [] f fd
  fn__law_right : ∃ f fd, mg ("_law_right" : Str) = some (.ref f) ∧ FunD K ("_law_right" : Str) ("_law_right" : Str) (defArgs st__law_right) (defBody st__law_right) (defScope st__law_right) [] [] f fd
  fn__law_pot : ∃ f fd, mg ("_law_pot" : Str) = some (.ref f) ∧ FunD K ("_law_pot" : Str) ("_law_pot" : Str) (defArgs st__law_pot) (defBody st__law_pot) (defScope st__law_pot) [] [] f fd
  fn__law_cells : ∃ f fd, mg ("_law_cells" : Str) = some (.ref f) ∧ FunD K ("_law_cells" : Str) ("_law_cells" : Str) (defArgs st__law_cells) (defBody st__law_cells) (defScope st__law_cells) [] [] f fd
  fn_law : ∃ f fd, mg ("law" : Str) = some (.ref f) ∧ FunD K ("law" : Str) ("law" : Str) (defArgs st_law) (defBody st_law) (defScope st_law) [] [] f fd
abbrev st_ini : Stmt := inClass (top 2) 0
theorem ini_s : InS (defArgs st_ini) (defBody st_ini) (defScope st_ini) := ⟨⟨_, _, _, _, _, _, _, _, _, _, rfl, rfl⟩, rfl, rfl, rfl, by decide +kernel, rfl, rfl, rfl, rfl, ⟨_, rfl, rfl⟩, fun _ _ _ _ _ _ _ _ _ _ _ => rfl⟩
/-- what the head tells of exception classes -/
structure Fx (P : Program) (K : PySem.W.Frag) (w : World) (mg : Str → Option Value) (cl : Cl) : Prop where
  ini : ∃ B f, InK P K mg (("KnobError.__init__" : Str)) (defArgs st_ini) (defBody st_ini) (defScope st_ini) B f ∧ ∀ c, ExK K B f (cl.ex c)
  g_0 : mg ("BadRatio" : Str) = some (.ref (cl.ex 0))
  xi_BadRatio_0 : PySem.W.kitOne K (.ref (cl.ex 0)) (.ref (cl.ex 0)) = some true
  xn_BadRatio : PySem.W.kitOne K (tagV cl .non) (.ref (cl.ex 0)) = some false
  xc : ∀ c, ExcC K (cl.ex c) ∧ XfC K (cl.ex c) ∧ PySem.W.findIn K (.ref (cl.ex c)) "value" = some none
  kn : ∃ B, mg ("KnobError" : Str) = some (.ref B) ∧ ∀ c, PySem.W.exmOne K (.ref (cl.ex c)) (.ref B) = some true
  t0 : cl.T ≠ []
section
variable {P : Program} {w : World} {K : PySem.W.Frag} {mg : Str → Option Value} {base : Heap} {cl : Cl}
theorem sc__law_take : FnScope ["pot", "upto", "prime", "blend", "digit"] ["pot", "upto"] (defScope st__law_take) := ⟨rfl, rfl, rfl, by decide +kernel, rfl, by decide +kernel, by decide +kernel⟩
theorem ok__law_take {f : Addr} {fd : FuncData} (E : Fs K w mg cl) (FX : Fx P K w mg cl) (F : FunD K ("_law_take" : Str) ("_law_take" : Str) (defArgs st__law_take) (defBody st__law_take) (defScope st__law_take) [] [] f fd)  : FnOk P w K mg base L2.CX0 1 f fd ["pot", "upto"] (spD K cl 2 f__law_take) :=
  d_defDd F sc__law_take rfl (by decide) fun cdv A outer s H E0 hr =>
    (dss_cons (ds_if (tcmp o_gt (de_ix x_item (dv 0) de_int (fun _ _ => rfl)) de_int) (dss_cons (dst 4 sc__law_take.nd (de_op o_mod (de_callTy c_intT (by rfl) E.b_int (by decide +kernel) (da_cons (de_ix x_item (dv 0) de_int (fun _ _ => rfl)) da_nil)) (dv 1)))
    (dss_cons (ds_sub (de_op o_fdiv (de_ix x_item (dv 0) de_int (fun _ _ => rfl)) (dv 1)) (dv 0) de_int)
    (dss_cons (ds_ret (dv 4))
    dss_nil))) dss_nil)
    (dss_cons (ds_sub (de_op o_add (de_ix x_item (dv 0) de_int (fun _ _ => rfl)) de_int) (dv 0) de_int)
    (dss_cons (dst 2 sc__law_take.nd (de_ix x_item (de_lst (da_cons de_int (da_cons de_int (da_cons de_int (da_cons de_int (da_cons de_int da_nil)))))) (de_op o_mod (de_callTy c_intT (by rfl) E.b_int (by decide +kernel) (da_cons (de_ix x_item (dv 0) de_int (fun _ _ => rfl)) da_nil)) de_int) (fun _ _ => rfl)))
    (dss_cons (dst 3 sc__law_take.nd (de_op o_mod (de_callTy c_intT (by rfl) E.b_int (by decide +kernel) (da_cons (de_op o_pow (de_callTy c_intT (by rfl) E.b_int (by decide +kernel) (da_cons (de_op o_add (de_op o_add (de_ix x_item (dv 0) de_int (fun _ _ => rfl)) (de_op o_lrep (de_op o_lrep de_int (de_ix x_item (dv 0) de_int (fun _ _ => rfl))) (de_ix x_item (dv 0) de_int (fun _ _ => rfl)))) de_int) da_nil)) de_int) da_nil)) (dv 2)))
    (dss_cons (ds_ret (de_op o_mod (de_callTy c_intT (by rfl) E.b_int (by decide +kernel) (da_cons (de_op o_fdiv (de_op o_lrep (dv 3) (de_op o_add (de_op o_mod (de_callTy c_intT (by rfl) E.b_int (by decide +kernel) (da_cons (dv 3) da_nil)) de_int) (de_op o_lrep de_int (de_ix x_item (dv 0) de_int (fun _ _ => rfl))))) de_int) da_nil)) (dv 1)))
    dss_nil)))))
theorem bn__law_take {f : Addr} {fd : FuncData} (F : FunD K ("_law_take" : Str) ("_law_take" : Str) (defArgs st__law_take) (defBody st__law_take) (defScope st__law_take) [] [] f fd) : Binds K fd ["pot", "upto"] [] := F.bindsN fun _ _ _ _ _ _ us hl => match us, hl with | [_, _], _ => rfl
theorem sc__law_of : FnScope ["pot", "some"] ["pot", "some"] (defScope st__law_of) := ⟨rfl, rfl, rfl, by decide +kernel, rfl, by decide +kernel, by decide +kernel⟩
theorem ok__law_of {f : Addr} {fd : FuncData} (E : Fs K w mg cl) (FX : Fx P K w mg cl) (F : FunD K ("_law_of" : Str) ("_law_of" : Str) (defArgs st__law_of) (defBody st__law_of) (defScope st__law_of) [] [] f fd) (C__law_take : Cal P w K mg base cl 1 ("_law_take" : Str) 2 (trF f__law_take)) : FnOk P w K mg base L2.CX0 2 f fd ["pot", "some"] (spD K cl 2 f__law_of) :=
  d_defDd F sc__law_of rfl (by decide) fun cdv A outer s H E0 hr =>
    (dss_cons (ds_ret (de_ix x_item (dv 1) (de_call C__law_take hr (by decide) (by rfl) (da_cons (dv 0) (da_cons (de_callB c_len (by rfl) E.b_len (by decide +kernel) (da_cons (dv 1) da_nil)) da_nil)) rfl (len_cons (len_cons (fun _ _ _ _ e => len_nil e)))) (fun _ _ => rfl)))
    dss_nil)
theorem bn__law_of {f : Addr} {fd : FuncData} (F : FunD K ("_law_of" : Str) ("_law_of" : Str) (defArgs st__law_of) (defBody st__law_of) (defScope st__law_of) [] [] f fd) : Binds K fd ["pot", "some"] [] := F.bindsN fun _ _ _ _ _ _ us hl => match us, hl with | [_, _], _ => rfl
theorem sc__law_number : FnScope ["pot", "size"] ["pot"] (defScope st__law_number) := ⟨rfl, rfl, rfl, by decide +kernel, rfl, by decide +kernel, by decide +kernel⟩
theorem ok__law_number {f : Addr} {fd : FuncData} (E : Fs K w mg cl) (FX : Fx P K w mg cl) (F : FunD K ("_law_number" : Str) ("_law_number" : Str) (defArgs st__law_number) (defBody st__law_number) (defScope st__law_number) [] [] f fd) (C__law_of : Cal P w K mg base cl 2 ("_law_of" : Str) 2 (trF f__law_of)) : FnOk P w K mg base L2.CX0 3 f fd ["pot"] (spD K cl 1 f__law_number) :=
  d_defDd F sc__law_number rfl (by decide) fun cdv A outer s H E0 hr =>
    (dss_cons (dst 1 sc__law_number.nd (de_call C__law_of hr (by decide) (by rfl) (da_cons (dv 0) (da_cons (de_lst (da_cons de_int (da_cons de_int (da_cons de_int (da_cons de_int (da_cons de_int (da_cons de_int (da_cons de_int (da_cons de_int (da_cons de_int (da_cons (de_op o_pow de_int de_int) (da_cons (de_op o_sub (de_op o_pow de_int de_int) de_int) da_nil)))))))))))) da_nil)) rfl (len_cons (len_cons (fun _ _ _ _ e => len_nil e)))))
    (dss_cons (ds_ret (de_call C__law_of hr (by decide) (by rfl) (da_cons (dv 0) (da_cons (de_lst (da_cons (dv 1) (da_cons (de_un o_neg (dv 1)) (da_cons de_int (da_cons (de_if (tcmp o_lt (dv 1) (de_op o_pow de_int de_int)) (de_op o_lrep (dv 1) (de_call C__law_of hr (by decide) (by rfl) (da_cons (dv 0) (da_cons (de_lst (da_cons de_int (da_cons de_int (da_cons de_int (da_cons de_int da_nil))))) da_nil)) rfl (len_cons (len_cons (fun _ _ _ _ e => len_nil e))))) (dv 1)) (da_cons de_int (da_cons (de_un o_neg de_int) da_nil))))))) da_nil)) rfl (len_cons (len_cons (fun _ _ _ _ e => len_nil e)))))
    dss_nil))
theorem bn__law_number {f : Addr} {fd : FuncData} (F : FunD K ("_law_number" : Str) ("_law_number" : Str) (defArgs st__law_number) (defBody st__law_number) (defScope st__law_number) [] [] f fd) : Binds K fd ["pot"] [] := F.bindsN fun _ _ _ _ _ _ us hl => match us, hl with | [_], _ => rfl
theorem sc__law_heard : FnScope ["call", "caught", "back", "error"] ["call"] (defScope st__law_heard) := ⟨rfl, rfl, rfl, by decide +kernel, rfl, by decide +kernel, by decide +kernel⟩
theorem bn__law_heard {f : Addr} {fd : FuncData} (F : FunD K ("_law_heard" : Str) ("_law_heard" : Str) (defArgs st__law_heard) (defBody st__law_heard) (defScope st__law_heard) [] [] f fd) : Binds K fd ["call"] [] := F.bindsN fun _ _ _ _ _ _ us hl => match us, hl with | [_], _ => rfl
theorem sc_Ratiodd_reprdd : FnScope ["self"] ["self"] (defScope st_Ratiodd_reprdd) := ⟨rfl, rfl, rfl, by decide +kernel, rfl, by decide +kernel, by decide +kernel⟩
theorem ok_Ratiodd_reprdd {f : Addr} {fd : FuncData} (E : Fs K w mg cl) (FX : Fx P K w mg cl) (F : FunD K ("__repr__" : Str) ("Ratio.__repr__" : Str) (defArgs st_Ratiodd_reprdd) (defBody st_Ratiodd_reprdd) (defScope st_Ratiodd_reprdd) [] [] f fd)  : FnOk P w K mg base L2.CX0 1 f fd ["self"] (spD K cl 1 f_Ratiodd_reprdd) :=
  d_defDd F sc_Ratiodd_reprdd rfl (by decide) fun cdv A outer s H E0 hr =>
    (dss_cons (ds_if (tcmp (o_deq hr.units) (de_attr (tab_at (at_some ⟨E.c0_scl, E.c0_sl_own_under⟩ at_nil)) (dv 0)) de_int) (dss_cons (ds_ret (de_joined (.cons (dstr [82, 97, 116, 105, 111, 40]) (.cons (de_fmtZ (de_attr (tab_at (at_some ⟨E.c0_scl, E.c0_sl_own_number⟩ at_nil)) (dv 0))) (.cons (dstr [41]) .nil)))))
    dss_nil) dss_nil)
    (dss_cons (ds_ret (de_joined (.cons (dstr [82, 97, 116, 105, 111, 40]) (.cons (de_fmtZ (de_attr (tab_at (at_some ⟨E.c0_scl, E.c0_sl_own_number⟩ at_nil)) (dv 0))) (.cons (dstr [44, 32]) (.cons (de_fmtZ (de_attr (tab_at (at_some ⟨E.c0_scl, E.c0_sl_own_under⟩ at_nil)) (dv 0))) (.cons (dstr [41]) .nil)))))))
    dss_nil))
theorem bn_Ratiodd_reprdd {f : Addr} {fd : FuncData} (F : FunD K ("__repr__" : Str) ("Ratio.__repr__" : Str) (defArgs st_Ratiodd_reprdd) (defBody st_Ratiodd_reprdd) (defScope st_Ratiodd_reprdd) [] [] f fd) : Binds K fd ["self"] [] := F.bindsN fun _ _ _ _ _ _ us hl => match us, hl with | [_], _ => rfl
theorem sc__law_is_refused : FnScope ["call", "value", "caught"] ["call", "value"] (defScope st__law_is_refused) := ⟨rfl, rfl, rfl, by decide +kernel, rfl, by decide +kernel, by decide +kernel⟩
theorem bn__law_is_refused {f : Addr} {fd : FuncData} (F : FunD K ("_law_is_refused" : Str) ("_law_is_refused" : Str) (defArgs st__law_is_refused) (defBody st__law_is_refused) (defScope st__law_is_refused) [] [] f fd) : Binds K fd ["call", "value"] [] := F.bindsN fun _ _ _ _ _ _ us hl => match us, hl with | [_, _], _ => rfl
theorem sc_common : FnScope ["one", "other"] ["one", "other"] (defScope st_common) := ⟨rfl, rfl, rfl, by decide +kernel, rfl, by decide +kernel, by decide +kernel⟩
theorem ok_common {f : Addr} {fd : FuncData} (E : Fs K w mg cl) (FX : Fx P K w mg cl) (F : FunD K ("common" : Str) ("common" : Str) (defArgs st_common) (defBody st_common) (defScope st_common) [] [] f fd)  : FnOk P w K mg base L2.CX0 1 f fd ["one", "other"] (spD K cl 2 f_common) :=
  d_defDd F sc_common rfl (by decide) fun cdv A outer s H E0 hr =>
    (dss_cons (ds_par (i := 0) (j := 1) (by rfl) sc_common.nd (by rfl) (by rfl) (by decide) (by rfl) (by rfl) (da_cons (de_callB c_abs (by rfl) E.b_abs (by decide +kernel) (da_cons (dv 0) da_nil)) (da_cons (de_callB c_abs (by rfl) E.b_abs (by decide +kernel) (da_cons (dv 1) da_nil)) da_nil)) (by rfl))
    (dss_cons (ds_while PassesOwn.never (tcmp (o_dne hr.units) (dv 1) de_int) (dss_cons (ds_par (i := 0) (j := 1) (by rfl) sc_common.nd (by rfl) (by rfl) (by decide) (by rfl) (by rfl) (da_cons (dv 1) (da_cons (de_op o_mod (dv 0) (dv 1)) da_nil)) (by rfl))
    dss_nil))
    (dss_cons (ds_ret (dv 0))
    dss_nil)))
theorem bn_common {f : Addr} {fd : FuncData} (F : FunD K ("common" : Str) ("common" : Str) (defArgs st_common) (defBody st_common) (defScope st_common) [] [] f fd) : Binds K fd ["one", "other"] [] := F.bindsN fun _ _ _ _ _ _ us hl => match us, hl with | [_, _], _ => rfl
theorem sc_is_integer : FnScope ["value"] ["value"] (defScope st_is_integer) := ⟨rfl, rfl, rfl, by decide +kernel, rfl, by decide +kernel, by decide +kernel⟩
theorem ok_is_integer {f : Addr} {fd : FuncData} (E : Fs K w mg cl) (FX : Fx P K w mg cl) (F : FunD K ("is_integer" : Str) ("is_integer" : Str) (defArgs st_is_integer) (defBody st_is_integer) (defScope st_is_integer) [] [] f fd)  : FnOk P w K mg base L2.CX0 1 f fd ["value"] (spD K cl 1 f_is_integer) :=
  d_defDd F sc_is_integer rfl (by decide) fun cdv A outer s H E0 hr =>
    (dss_cons (ds_ret (de_and (de_isi (T := isi_int) (u := .type "int") (cv := .ty "int") (fun t b h => by cases t <;> first | (cases h; exact kit_ty (by decide +kernel)) | exact tab_at (p := fun c b => PySem.W.kitOne K (.ref (cl.ad c)) (.type "int") = some b) (at_some E.ki_int_0 at_nil) _ _ h) (fun c b h => tab_at (p := fun c _ => SCls K (cl.ad c) ∧ SIsi K (cl.ad c)) (at_some ⟨E.c0_scl, E.c0_isi⟩ at_nil) c b h) (.ty _) rfl (fun w h => h) (by rfl) E.b_isinstance (dv 0) (pe_bltn (by rfl) E.b_int (by decide +kernel) rfl)) (de_one (de_not (de_isi (T := isi_bool) (u := .type "bool") (cv := .ty "bool") (fun t b h => by cases t <;> first | (cases h; exact kit_ty (by decide +kernel)) | exact tab_at (p := fun c b => PySem.W.kitOne K (.ref (cl.ad c)) (.type "bool") = some b) (at_some E.ki_bool_0 at_nil) _ _ h) (fun c b h => tab_at (p := fun c _ => SCls K (cl.ad c) ∧ SIsi K (cl.ad c)) (at_some ⟨E.c0_scl, E.c0_isi⟩ at_nil) c b h) (.ty _) rfl (fun w h => h) (by rfl) E.b_isinstance (dv 0) (pe_bltn (by rfl) E.b_bool (by decide +kernel) rfl))))))
    dss_nil)
theorem bn_is_integer {f : Addr} {fd : FuncData} (F : FunD K ("is_integer" : Str) ("is_integer" : Str) (defArgs st_is_integer) (defBody st_is_integer) (defScope st_is_integer) [] [] f fd) : Binds K fd ["value"] [] := F.bindsN fun _ _ _ _ _ _ us hl => match us, hl with | [_], _ => rfl
theorem sc_Ratiodd_initdd : FnScope ["self", "number", "under", "by"] ["self", "number", "under"] (defScope st_Ratiodd_initdd) := ⟨rfl, rfl, rfl, by decide +kernel, rfl, by decide +kernel, by decide +kernel⟩
theorem ok_Ratiodd_initdd {f : Addr} {fd : FuncData} (E : Fs K w mg cl) (FX : Fx P K w mg cl) (F : FunD K ("__init__" : Str) ("Ratio.__init__" : Str) (defArgs st_Ratiodd_initdd) (defBody st_Ratiodd_initdd) (defScope st_Ratiodd_initdd) dvs [] f fd) (C_common : Cal P w K mg base cl 1 ("common" : Str) 2 (trF f_common)) (C_is_integer : Cal P w K mg base cl 1 ("is_integer" : Str) 1 (trF f_is_integer)) : FnOk P w K mg base (L2.CX P w) 2 f fd ["self", "number", "under"] (spX K cl 3 f_Ratiodd_initdd) :=
  d_defX F sc_Ratiodd_initdd rfl (by decide) fun cdv A outer s H E0 hr => (have tk := takes_of (E := E0) rfl rfl rfl rfl
    (dssx_cons (dsx_if (DW.dt (dw_or (dt_not (dt_e (de_call C_is_integer hr (by decide) (by rfl) (da_cons (dv 1) da_nil) rfl (len_cons (fun _ _ _ _ e => len_nil e))))) (dw_or (dt_not (dt_e (de_call C_is_integer hr (by decide) (by rfl) (da_cons (dv 2) da_nil) rfl (len_cons (fun _ _ _ _ e => len_nil e))))) (dw_or1 (tcmp (o_deq hr.units) (dv 2) de_int))))) (dssx_cons (dsx_raise (c := 0) (k := 0) tk (by rfl) FX.ini.choose_spec.choose_spec.1 ini_s (FX.ini.choose_spec.choose_spec.2 0) (hr.mono (by decide)) (by rfl) FX.g_0 (de_tup (da_cons (dv 1) (da_cons (dv 2) da_nil))))
    dssx_nil) dssx_nil)
    (dssx_cons (dsx_lift (dst 3 sc_Ratiodd_initdd.nd (de_call C_common hr (by decide) (by rfl) (da_cons (dv 1) (da_cons (dv 2) da_nil)) rfl (len_cons (len_cons (fun _ _ _ _ e => len_nil e))))))
    (dssx_cons (dsx_lift (dst 3 sc_Ratiodd_initdd.nd (de_if (tcmp o_lt (dv 2) de_int) (de_un o_neg (dv 3)) (dv 3))))
    (dssx_cons (dsx_lift (ds_slo (A := so_own_number) (tab_at (at_some ⟨E.c0_scl, E.c0_sl_own_number⟩ at_nil)) (dv 0) (de_op o_fdivZ (dv 1) (dv 3))))
    (dssx_cons (dsx_lift (ds_slo (A := so_own_under) (tab_at (at_some ⟨E.c0_scl, E.c0_sl_own_under⟩ at_nil)) (dv 0) (de_op o_fdivZ (dv 2) (dv 3))))
    dssx_nil))))))
theorem bd_Ratiodd_initdd_0 {f : Addr} {fd : FuncData} (F : FunD K ("__init__" : Str) ("Ratio.__init__" : Str) (defArgs st_Ratiodd_initdd) (defBody st_Ratiodd_initdd) (defScope st_Ratiodd_initdd) [.int (1)] [] f fd) : ∃ ds, Vals (([.int (1)] : List V).drop 1) ds ∧ Binds K fd ["self", "number", "under"] ds := F.binds1 3 1 (by simp) (by rfl) fun _ _ _ _ _ _ _ us its hl h2 => match us, hl, its, h2 with | [_, _, _], _, [_], _ => ⟨_, rfl, rfl⟩
theorem bd_Ratiodd_initdd_1 {f : Addr} {fd : FuncData} (F : FunD K ("__init__" : Str) ("Ratio.__init__" : Str) (defArgs st_Ratiodd_initdd) (defBody st_Ratiodd_initdd) (defScope st_Ratiodd_initdd) [.int (1)] [] f fd) : ∃ ds, Vals (([.int (1)] : List V).drop 0) ds ∧ Binds K fd ["self", "number", "under"] ds := F.binds1 2 0 (by simp) (by rfl) fun _ _ _ _ _ _ _ us its hl h2 => match us, hl, its, h2 with | [_, _], _, [_], _ => ⟨_, rfl, rfl⟩
theorem bn_Ratiodd_initdd {f : Addr} {fd : FuncData} (F : FunD K ("__init__" : Str) ("Ratio.__init__" : Str) (defArgs st_Ratiodd_initdd) (defBody st_Ratiodd_initdd) (defScope st_Ratiodd_initdd) [.int (1)] [] f fd) : Binds K fd ["self", "number", "under"] [] := by
  obtain ⟨ds, hv, hb⟩ := bd_Ratiodd_initdd_0 F
  cases hv
  exact hb
theorem sc__law_gcd : FnScope ["one", "other"] ["one", "other"] (defScope st__law_gcd) := ⟨rfl, rfl, rfl, by decide +kernel, rfl, by decide +kernel, by decide +kernel⟩
theorem ok__law_gcd {f : Addr} {fd : FuncData} (E : Fs K w mg cl) (FX : Fx P K w mg cl) (F : FunD K ("_law_gcd" : Str) ("_law_gcd" : Str) (defArgs st__law_gcd) (defBody st__law_gcd) (defScope st__law_gcd) [] [] f fd)  : FnOk P w K mg base L2.CX0 1 f fd ["one", "other"] (spD K cl 2 f__law_gcd) :=
  d_defDd F sc__law_gcd rfl (by decide) fun cdv A outer s H E0 hr =>
    (dss_cons (ds_par (i := 0) (j := 1) (by rfl) sc__law_gcd.nd (by rfl) (by rfl) (by decide) (by rfl) (by rfl) (da_cons (de_callB c_abs (by rfl) E.b_abs (by decide +kernel) (da_cons (dv 0) da_nil)) (da_cons (de_callB c_abs (by rfl) E.b_abs (by decide +kernel) (da_cons (dv 1) da_nil)) da_nil)) (by rfl))
    (dss_cons (ds_while PassesOwn.never (tcmp (o_dne hr.units) (dv 1) de_int) (dss_cons (ds_par (i := 0) (j := 1) (by rfl) sc__law_gcd.nd (by rfl) (by rfl) (by decide) (by rfl) (by rfl) (da_cons (dv 1) (da_cons (de_op o_mod (de_callTy c_intT (by rfl) E.b_int (by decide +kernel) (da_cons (dv 0) da_nil)) (de_callTy c_intT (by rfl) E.b_int (by decide +kernel) (da_cons (dv 1) da_nil))) da_nil)) (by rfl))
    dss_nil))
    (dss_cons (ds_ret (dv 0))
    dss_nil)))
theorem bn__law_gcd {f : Addr} {fd : FuncData} (F : FunD K ("_law_gcd" : Str) ("_law_gcd" : Str) (defArgs st__law_gcd) (defBody st__law_gcd) (defScope st__law_gcd) [] [] f fd) : Binds K fd ["one", "other"] [] := F.bindsN fun _ _ _ _ _ _ us hl => match us, hl with | [_, _], _ => rfl
theorem sc__law_fr : FnScope ["number", "under", "by"] ["number", "under"] (defScope st__law_fr) := ⟨rfl, rfl, rfl, by decide +kernel, rfl, by decide +kernel, by decide +kernel⟩
theorem ok__law_fr {f : Addr} {fd : FuncData} (E : Fs K w mg cl) (FX : Fx P K w mg cl) (F : FunD K ("_law_fr" : Str) ("_law_fr" : Str) (defArgs st__law_fr) (defBody st__law_fr) (defScope st__law_fr) [] [] f fd) (C__law_gcd : Cal P w K mg base cl 1 ("_law_gcd" : Str) 2 (trF f__law_gcd)) : FnOk P w K mg base L2.CX0 2 f fd ["number", "under"] (spD K cl 2 f__law_fr) :=
  d_defDd F sc__law_fr rfl (by decide) fun cdv A outer s H E0 hr =>
    (dss_cons (dst 2 sc__law_fr.nd (de_op o_lrep (de_call C__law_gcd hr (by decide) (by rfl) (da_cons (dv 0) (da_cons (dv 1) da_nil)) rfl (len_cons (len_cons (fun _ _ _ _ e => len_nil e)))) (de_if (tcmp o_lt (dv 1) de_int) (de_un o_neg de_int) de_int)))
    (dss_cons (ds_ret (de_tup (da_cons (de_op o_fdivZ (dv 0) (dv 2)) (da_cons (de_op o_fdivZ (dv 1) (dv 2)) da_nil))))
    dss_nil))
theorem bn__law_fr {f : Addr} {fd : FuncData} (F : FunD K ("_law_fr" : Str) ("_law_fr" : Str) (defArgs st__law_fr) (defBody st__law_fr) (defScope st__law_fr) [] [] f fd) : Binds K fd ["number", "under"] [] := F.bindsN fun _ _ _ _ _ _ us hl => match us, hl with | [_, _], _ => rfl
theorem sc_Ratio_number : FnScope ["self"] ["self"] (defScope st_Ratio_number) := ⟨rfl, rfl, rfl, by decide +kernel, rfl, by decide +kernel, by decide +kernel⟩
theorem ok_Ratio_number {f : Addr} {fd : FuncData} (E : Fs K w mg cl) (FX : Fx P K w mg cl) (F : FunD K ("number" : Str) ("Ratio.number" : Str) (defArgs st_Ratio_number) (defBody st_Ratio_number) (defScope st_Ratio_number) [] [] f fd)  : FnOk P w K mg base L2.CX0 1 f fd ["self"] (spD K cl 1 f_Ratio_number) :=
  d_defDd F sc_Ratio_number rfl (by decide) fun cdv A outer s H E0 hr =>
    (dss_cons (ds_ret (de_attr (tab_at (at_some ⟨E.c0_scl, E.c0_sl_own_number⟩ at_nil)) (dv 0)))
    dss_nil)
theorem bn_Ratio_number {f : Addr} {fd : FuncData} (F : FunD K ("number" : Str) ("Ratio.number" : Str) (defArgs st_Ratio_number) (defBody st_Ratio_number) (defScope st_Ratio_number) [] [] f fd) : Binds K fd ["self"] [] := F.bindsN fun _ _ _ _ _ _ us hl => match us, hl with | [_], _ => rfl
theorem sc_Ratio_under : FnScope ["self"] ["self"] (defScope st_Ratio_under) := ⟨rfl, rfl, rfl, by decide +kernel, rfl, by decide +kernel, by decide +kernel⟩
theorem ok_Ratio_under {f : Addr} {fd : FuncData} (E : Fs K w mg cl) (FX : Fx P K w mg cl) (F : FunD K ("under" : Str) ("Ratio.under" : Str) (defArgs st_Ratio_under) (defBody st_Ratio_under) (defScope st_Ratio_under) [] [] f fd)  : FnOk P w K mg base L2.CX0 1 f fd ["self"] (spD K cl 1 f_Ratio_under) :=
  d_defDd F sc_Ratio_under rfl (by decide) fun cdv A outer s H E0 hr =>
    (dss_cons (ds_ret (de_attr (tab_at (at_some ⟨E.c0_scl, E.c0_sl_own_under⟩ at_nil)) (dv 0)))
    dss_nil)
theorem bn_Ratio_under {f : Addr} {fd : FuncData} (F : FunD K ("under" : Str) ("Ratio.under" : Str) (defArgs st_Ratio_under) (defBody st_Ratio_under) (defScope st_Ratio_under) [] [] f fd) : Binds K fd ["self"] [] := F.bindsN fun _ _ _ _ _ _ us hl => match us, hl with | [_], _ => rfl
theorem sc_Ratiodd_eqdd : FnScope ["self", "other"] ["self", "other"] (defScope st_Ratiodd_eqdd) := ⟨rfl, rfl, rfl, by decide +kernel, rfl, by decide +kernel, by decide +kernel⟩
theorem ok_Ratiodd_eqdd {f : Addr} {fd : FuncData} (E : Fs K w mg cl) (FX : Fx P K w mg cl) (F : FunD K ("__eq__" : Str) ("Ratio.__eq__" : Str) (defArgs st_Ratiodd_eqdd) (defBody st_Ratiodd_eqdd) (defScope st_Ratiodd_eqdd) [] [] f fd)  : FnOk P w K mg base L2.CX0 1 f fd ["self", "other"] (spD K cl 2 f_Ratiodd_eqdd) :=
  d_defDd F sc_Ratiodd_eqdd rfl (by decide) fun cdv A outer s H E0 hr =>
    (dss_cons (ds_ret (de_and (de_isi (T := isi_Ratio) (u := .ref (cl.ad 0)) (cv := .ref (cl.ad 0)) (fun t b h => by cases t with | non => cases h; exact E.ki_Ratio_non | bl => cases h; exact E.ki_Ratio_bl | int => cases h; exact E.ki_Ratio_int | str => cases h; exact E.ki_Ratio_str | lst => cases h; exact E.ki_Ratio_lst | tup => cases h; exact E.ki_Ratio_tup | dic => cases h; exact E.ki_Ratio_dic | ob c => exact tab_at (p := fun c b => PySem.W.kitOne K (tagV cl (.ob c)) (.ref (cl.ad 0)) = some b) (at_some E.ki_Ratio_0 at_nil) _ _ h) (fun c b h => tab_at (p := fun c _ => SCls K (cl.ad c) ∧ SIsi K (cl.ad c)) (at_some ⟨E.c0_scl, E.c0_isi⟩ at_nil) c b h) (.own _) rfl (fun w h => h) (by rfl) E.b_isinstance (dv 1) (pe_glob (by rfl) E.c0_name rfl)) (de_and (dcmp (o_deq hr.units) (de_attr (tab_at (at_some ⟨E.c0_scl, E.c0_sl_own_number⟩ at_nil)) (dv 0)) (de_attr (tab_at (at_some ⟨E.c0_scl, E.c0_sl_own_number⟩ at_nil)) (dv 1))) (de_one (dcmp (o_deq hr.units) (de_attr (tab_at (at_some ⟨E.c0_scl, E.c0_sl_own_under⟩ at_nil)) (dv 0)) (de_attr (tab_at (at_some ⟨E.c0_scl, E.c0_sl_own_under⟩ at_nil)) (dv 1)))))))
    dss_nil)
theorem bn_Ratiodd_eqdd {f : Addr} {fd : FuncData} (F : FunD K ("__eq__" : Str) ("Ratio.__eq__" : Str) (defArgs st_Ratiodd_eqdd) (defBody st_Ratiodd_eqdd) (defScope st_Ratiodd_eqdd) [] [] f fd) : Binds K fd ["self", "other"] [] := F.bindsN fun _ _ _ _ _ _ us hl => match us, hl with | [_, _], _ => rfl
theorem sc__law_is_made : FnScope ["top", "low", "part", "due", "text"] ["top", "low"] (defScope st__law_is_made) := ⟨rfl, rfl, rfl, by decide +kernel, rfl, by decide +kernel, by decide +kernel⟩
theorem ok__law_is_made {f : Addr} {fd : FuncData} (E : Fs K w mg cl) (FX : Fx P K w mg cl) (F : FunD K ("_law_is_made" : Str) ("_law_is_made" : Str) (defArgs st__law_is_made) (defBody st__law_is_made) (defScope st__law_is_made) [] [] f fd) (C_Ratiodd_reprdd : ∃ f, Meth K (cl.ad 0) ("__repr__" : Str) f ∧ FnD P w K mg base cl 1 f 1 (trF f_Ratiodd_reprdd)) (C_Ratiodd_initdd : ∃ f, Mk K (cl.ad 0) f ∧ FnX P w K mg base cl 2 f 3 f_Ratiodd_initdd) (C__law_fr : Cal P w K mg base cl 2 ("_law_fr" : Str) 2 (trF f__law_fr)) (C_Ratio_number : ∃ (p f : Addr), PySem.W.findIn K (.ref (cl.ad 0)) ("number" : Str) = some (some (.ref p)) ∧ PySem.W.specialIn K (.ref p) "__get__" = some (some (.builtin "property.__get__")) ∧ PySem.W.takesIn K (.ref p) = some true ∧ (∃ rest, PySem.W.recIn K p "property" = some (.ref f :: rest)) ∧ FnD P w K mg base cl 1 f 1 (trF f_Ratio_number)) (C_Ratio_under : ∃ (p f : Addr), PySem.W.findIn K (.ref (cl.ad 0)) ("under" : Str) = some (some (.ref p)) ∧ PySem.W.specialIn K (.ref p) "__get__" = some (some (.builtin "property.__get__")) ∧ PySem.W.takesIn K (.ref p) = some true ∧ (∃ rest, PySem.W.recIn K p "property" = some (.ref f :: rest)) ∧ FnD P w K mg base cl 1 f 1 (trF f_Ratio_under)) (C_Ratiodd_eqdd : ∃ f, Meth K (cl.ad 0) ("__eq__" : Str) f ∧ FnD P w K mg base cl 1 f 2 (trF f_Ratiodd_eqdd)) : FnG P w K mg base L2.CX0 4 f fd ["top", "low"] (spD K cl 2 f__law_is_made) :=
  d_defG F sc__law_is_made rfl (by decide) fun cdv A _ outer s H E0 hr hg =>
    (dss_cons (ds_par (i := 2) (j := 3) (by rfl) sc__law_is_made.nd (by rfl) (by rfl) (by decide) (by rfl) (by rfl) (da_cons (de_tr (de_make (c := 0) C_Ratiodd_initdd.choose_spec.1 (FnX.noX C_Ratiodd_initdd.choose_spec.2) hr (by decide) (by rfl) E.c0_name (da_cons (dv 0) (da_cons (dv 1) da_nil)) (len_cons (len_cons (fun _ _ _ _ e => len_nil e))))) (da_cons (de_call C__law_fr hr (by decide) (by rfl) (da_cons (dv 0) (da_cons (dv 1) da_nil)) rfl (len_cons (len_cons (fun _ _ _ _ e => len_nil e)))) da_nil)) (by rfl))
    (dss_cons (ds_if (tcmp (o_ownNe (A := ow_eq_0) (tab_at (at_some ⟨C_Ratiodd_eqdd.choose, 1, C_Ratiodd_eqdd.choose_spec.1.at_, C_Ratiodd_eqdd.choose_spec.1.fn, C_Ratiodd_eqdd.choose_spec.2.r, hr.mono (by decide)⟩ at_nil)) (tab_at (at_some ⟨E.c0_mo, E.c0_ne⟩ at_nil)) (fun c k c' e => (tab_at (p := fun c _ => ∀ c', PySem.W.notFirst K (cl.ad c) (.ref (cl.ad c')) = true) (at_some (E.c0_nf) at_nil)) c k e c') (o_dne hr.units)) (de_callB (c_reprT (A := ow_repr_0) hg hr.units E.sysm (tab_at (at_some ⟨C_Ratiodd_reprdd.choose, 1, C_Ratiodd_reprdd.choose_spec.1.at_, C_Ratiodd_reprdd.choose_spec.1.fn, C_Ratiodd_reprdd.choose_spec.2.r, hr.mono (by decide)⟩ at_nil))) (by rfl) E.b_repr (by decide +kernel) (da_cons (de_tup (da_cons (de_attr (tab_at (at_some ⟨E.c0_scl, C_Ratio_number.elim fun p z => ⟨p, z.choose, 1, z.choose_spec.1, z.choose_spec.2.1, z.choose_spec.2.2.1, z.choose_spec.2.2.2.1, z.choose_spec.2.2.2.2.r, hr.mono (by decide)⟩⟩ at_nil)) (dv 2)) (da_cons (de_attr (tab_at (at_some ⟨E.c0_scl, C_Ratio_under.elim fun p z => ⟨p, z.choose, 1, z.choose_spec.1, z.choose_spec.2.1, z.choose_spec.2.2.1, z.choose_spec.2.2.2.1, z.choose_spec.2.2.2.2.r, hr.mono (by decide)⟩⟩ at_nil)) (dv 2)) da_nil))) da_nil)) (de_callB (c_reprT (A := ow_repr_0) hg hr.units E.sysm (tab_at (at_some ⟨C_Ratiodd_reprdd.choose, 1, C_Ratiodd_reprdd.choose_spec.1.at_, C_Ratiodd_reprdd.choose_spec.1.fn, C_Ratiodd_reprdd.choose_spec.2.r, hr.mono (by decide)⟩ at_nil))) (by rfl) E.b_repr (by decide +kernel) (da_cons (dv 3) da_nil))) (dss_cons (ds_ret de_bl)
    dss_nil) dss_nil)
    (dss_cons (dst 4 sc__law_is_made.nd (de_op o_add (de_op o_add (de_op o_add (dstr [82, 97, 116, 105, 111, 40]) (de_callTy c_strZ (by rfl) E.b_str (by decide +kernel) (da_cons (de_ix x_item (dv 3) de_int (fun _ _ => rfl)) da_nil))) (de_if (tcmp (o_ownAny (A := ow_eq_0) (fun _ _ => rfl) (tab_at (at_some ⟨C_Ratiodd_eqdd.choose, 1, C_Ratiodd_eqdd.choose_spec.1.at_, C_Ratiodd_eqdd.choose_spec.1.fn, C_Ratiodd_eqdd.choose_spec.2.r, hr.mono (by decide)⟩ at_nil)) (fun c k c' e => (tab_at (p := fun c _ => ∀ c', PySem.W.notFirst K (cl.ad c) (.ref (cl.ad c')) = true) (at_some (E.c0_nf) at_nil)) c k e c') (fun c k e => (tab_at (p := fun c _ => ∀ T ∈ tagT, PySem.W.notFirst K (cl.ad c) (.type T) = true) (at_some (E.c0_nt) at_nil)) c k e) (o_deq hr.units)) (de_ix x_item (dv 3) de_int (fun _ _ => rfl)) de_int) (dstr []) (de_op o_add (dstr [44, 32]) (de_callTy c_strZ (by rfl) E.b_str (by decide +kernel) (da_cons (de_ix x_item (dv 3) de_int (fun _ _ => rfl)) da_nil))))) (dstr [41])))
    (dss_cons (ds_if (DW.dt (dw_or (tcmp (o_ownNe (A := ow_eq_0) (tab_at (at_some ⟨C_Ratiodd_eqdd.choose, 1, C_Ratiodd_eqdd.choose_spec.1.at_, C_Ratiodd_eqdd.choose_spec.1.fn, C_Ratiodd_eqdd.choose_spec.2.r, hr.mono (by decide)⟩ at_nil)) (tab_at (at_some ⟨E.c0_mo, E.c0_ne⟩ at_nil)) (fun c k c' e => (tab_at (p := fun c _ => ∀ c', PySem.W.notFirst K (cl.ad c) (.ref (cl.ad c')) = true) (at_some (E.c0_nf) at_nil)) c k e c') (o_dne hr.units)) (de_callB (c_reprT (A := ow_repr_0) hg hr.units E.sysm (tab_at (at_some ⟨C_Ratiodd_reprdd.choose, 1, C_Ratiodd_reprdd.choose_spec.1.at_, C_Ratiodd_reprdd.choose_spec.1.fn, C_Ratiodd_reprdd.choose_spec.2.r, hr.mono (by decide)⟩ at_nil))) (by rfl) E.b_repr (by decide +kernel) (da_cons (dv 2) da_nil)) (dv 4)) (dw_or1 (dt_not (tcmp (o_ownAny (A := ow_eq_0) (fun _ _ => rfl) (tab_at (at_some ⟨C_Ratiodd_eqdd.choose, 1, C_Ratiodd_eqdd.choose_spec.1.at_, C_Ratiodd_eqdd.choose_spec.1.fn, C_Ratiodd_eqdd.choose_spec.2.r, hr.mono (by decide)⟩ at_nil)) (fun c k c' e => (tab_at (p := fun c _ => ∀ c', PySem.W.notFirst K (cl.ad c) (.ref (cl.ad c')) = true) (at_some (E.c0_nf) at_nil)) c k e c') (fun c k e => (tab_at (p := fun c _ => ∀ T ∈ tagT, PySem.W.notFirst K (cl.ad c) (.type T) = true) (at_some (E.c0_nt) at_nil)) c k e) (o_deq hr.units)) (dv 2) (de_tr (de_make (c := 0) C_Ratiodd_initdd.choose_spec.1 (FnX.noX C_Ratiodd_initdd.choose_spec.2) hr (by decide) (by rfl) E.c0_name (da_cons (de_ix x_item (dv 3) de_int (fun _ _ => rfl)) (da_cons (de_ix x_item (dv 3) de_int (fun _ _ => rfl)) da_nil)) (len_cons (len_cons (fun _ _ _ _ e => len_nil e)))))))))) (dss_cons (ds_ret de_bl)
    dss_nil) dss_nil)
    (dss_cons (ds_ret (de_and (de_not (dcmp (o_ownAny (A := ow_eq_0) (fun _ _ => rfl) (tab_at (at_some ⟨C_Ratiodd_eqdd.choose, 1, C_Ratiodd_eqdd.choose_spec.1.at_, C_Ratiodd_eqdd.choose_spec.1.fn, C_Ratiodd_eqdd.choose_spec.2.r, hr.mono (by decide)⟩ at_nil)) (fun c k c' e => (tab_at (p := fun c _ => ∀ c', PySem.W.notFirst K (cl.ad c) (.ref (cl.ad c')) = true) (at_some (E.c0_nf) at_nil)) c k e c') (fun c k e => (tab_at (p := fun c _ => ∀ T ∈ tagT, PySem.W.notFirst K (cl.ad c) (.type T) = true) (at_some (E.c0_nt) at_nil)) c k e) (o_deq hr.units)) (dv 2) (dv 3))) (de_and (de_not (dcmp (o_ownAny (A := ow_eq_0) (fun _ _ => rfl) (tab_at (at_some ⟨C_Ratiodd_eqdd.choose, 1, C_Ratiodd_eqdd.choose_spec.1.at_, C_Ratiodd_eqdd.choose_spec.1.fn, C_Ratiodd_eqdd.choose_spec.2.r, hr.mono (by decide)⟩ at_nil)) (fun c k c' e => (tab_at (p := fun c _ => ∀ c', PySem.W.notFirst K (cl.ad c) (.ref (cl.ad c')) = true) (at_some (E.c0_nf) at_nil)) c k e c') (fun c k e => (tab_at (p := fun c _ => ∀ T ∈ tagT, PySem.W.notFirst K (cl.ad c) (.type T) = true) (at_some (E.c0_nt) at_nil)) c k e) (o_deq hr.units)) (dv 2) (de_ix x_item (dv 3) de_int (fun _ _ => rfl)))) (de_and (dcmp (o_ownNe (A := ow_eq_0) (tab_at (at_some ⟨C_Ratiodd_eqdd.choose, 1, C_Ratiodd_eqdd.choose_spec.1.at_, C_Ratiodd_eqdd.choose_spec.1.fn, C_Ratiodd_eqdd.choose_spec.2.r, hr.mono (by decide)⟩ at_nil)) (tab_at (at_some ⟨E.c0_mo, E.c0_ne⟩ at_nil)) (fun c k c' e => (tab_at (p := fun c _ => ∀ c', PySem.W.notFirst K (cl.ad c) (.ref (cl.ad c')) = true) (at_some (E.c0_nf) at_nil)) c k e c') (o_dne hr.units)) (dv 2) (de_tr (de_make (c := 0) C_Ratiodd_initdd.choose_spec.1 (FnX.noX C_Ratiodd_initdd.choose_spec.2) hr (by decide) (by rfl) E.c0_name (da_cons (de_op o_add (de_ix x_item (dv 3) de_int (fun _ _ => rfl)) (de_ix x_item (dv 3) de_int (fun _ _ => rfl))) (da_cons (de_ix x_item (dv 3) de_int (fun _ _ => rfl)) da_nil)) (len_cons (len_cons (fun _ _ _ _ e => len_nil e)))))) (de_one (de_not (dcmp (o_ownAny (A := ow_eq_0) (fun _ _ => rfl) (tab_at (at_some ⟨C_Ratiodd_eqdd.choose, 1, C_Ratiodd_eqdd.choose_spec.1.at_, C_Ratiodd_eqdd.choose_spec.1.fn, C_Ratiodd_eqdd.choose_spec.2.r, hr.mono (by decide)⟩ at_nil)) (fun c k c' e => (tab_at (p := fun c _ => ∀ c', PySem.W.notFirst K (cl.ad c) (.ref (cl.ad c')) = true) (at_some (E.c0_nf) at_nil)) c k e c') (fun c k e => (tab_at (p := fun c _ => ∀ T ∈ tagT, PySem.W.notFirst K (cl.ad c) (.type T) = true) (at_some (E.c0_nt) at_nil)) c k e) (o_deq hr.units)) (dv 2) (dv 4))))))))
    dss_nil)))))
theorem bn__law_is_made {f : Addr} {fd : FuncData} (F : FunD K ("_law_is_made" : Str) ("_law_is_made" : Str) (defArgs st__law_is_made) (defBody st__law_is_made) (defScope st__law_is_made) [] [] f fd) : Binds K fd ["top", "low"] [] := F.bindsN fun _ _ _ _ _ _ us hl => match us, hl with | [_, _], _ => rfl
theorem sc__law_right : FnScope ["pot", "lap", "top", "low", "odd"] ["pot"] (defScope st__law_right) := ⟨rfl, rfl, rfl, by decide +kernel, rfl, by decide +kernel, by decide +kernel⟩
theorem ok__law_right {f Pt : Addr} {fd : FuncData} (E : Fs K w mg cl) (FX : Fx P K w mg cl) (F : FunD K ("_law_right" : Str) ("_law_right" : Str) (defArgs st__law_right) (defBody st__law_right) (defScope st__law_right) [] [] f fd) (TB : LamX.TabB base mg (cdA K f) Pt) (hmT : (Pt, ("_law_right" : Str) ++ ".<locals>." ++ "<lambda>") ∈ cl.T) (hu : ∀ p ∈ cl.T, p.1 = Pt → p.2 = ("_law_right" : Str) ++ ".<locals>." ++ "<lambda>") (C__law_of : Cal P w K mg base cl 2 ("_law_of" : Str) 2 (trF f__law_of)) (C__law_number : Cal P w K mg base cl 3 ("_law_number" : Str) 1 (trF f__law_number)) (C_Ratiodd_reprdd : ∃ f, Meth K (cl.ad 0) ("__repr__" : Str) f ∧ FnD P w K mg base cl 1 f 1 (trF f_Ratiodd_reprdd)) (C_Ratiodd_initdd : ∃ f, Mk K (cl.ad 0) f ∧ FnX P w K mg base cl 2 f 3 f_Ratiodd_initdd) (C_Ratiodd_initdd_d1 : ∃ f, Mk K (cl.ad 0) f ∧ FnXDf P w K mg base cl 2 f (1 + 1 + ([.int (1)] : List DV).length) [.int (1)] f_Ratiodd_initdd) (C__law_is_made : CalG P w K mg base cl 4 ("_law_is_made" : Str) 2 (trF f__law_is_made)) : FnG P w K mg base L2.CX0 8 f fd ["pot"] (spD K cl 1 f__law_right) :=
  d_defLG F sc__law_right rfl (by decide) fun A outer s H E0 hr hg =>
    (dss_cons (ds_for PassesOwn.never (by rfl) (di_range1 (by rfl) E.b_range (da_cons de_int da_nil)) (dgn 1 sc__law_right.nd) (dss_cons (ds_asg (de_tup (da_cons (de_call C__law_number hr (by decide) (by rfl) (da_cons (dv 0) da_nil) rfl (len_cons (fun _ _ _ _ e => len_nil e))) (da_cons (de_call C__law_number hr (by decide) (by rfl) (da_cons (dv 0) da_nil) rfl (len_cons (fun _ _ _ _ e => len_nil e))) da_nil))) (dg_tup (by rfl) (dgs_cons (dgn 2 sc__law_right.nd) (dgs_cons (dgn 3 sc__law_right.nd) dgs_nil))))
    (dss_cons (ds_if (tcmp (o_deq hr.units) (dv 3) de_int) (dss_cons (ds_if (dt_not (dt_e (de_refused (k := 3) FX.t0 FX.kn.choose_spec.2 (by rfl) E.fn__law_is_refused.choose_spec.choose_spec.1 E.fn__law_is_refused.choose_spec.choose_spec.2 (bn__law_is_refused E.fn__law_is_refused.choose_spec.choose_spec.2) sc__law_is_refused E.fn__law_heard.choose_spec.choose_spec.1 E.fn__law_heard.choose_spec.choose_spec.2 (bn__law_heard E.fn__law_heard.choose_spec.choose_spec.2) sc__law_heard rfl (Or.inl rfl) (fun _ _ _ => by rfl) (fun _ _ _ cdg => (heard_gives rfl FX.kn.choose_spec.1 rfl rfl rfl rfl rfl (fun _ => rfl) : GivesX _ _ _ (defScope st__law_heard) _ cdg (defBody st__law_heard) _ _ _)) (Or.inl rfl) (by first | exact Or.inl rfl | exact Or.inr rfl) (fun _ _ _ => pe_int) (fun _ _ => rfl) (fun _ _ _ => by rfl) (fun _ _ _ => by first | exact .inl rfl | exact .inr rfl) (fun _ _ _ => by rfl) (fun cdY sY HY hr => (dss_cons (ds_ret (de_and (de_isx (T := isn) (TX := isx_BadRatio) (u := .ref (cl.ex 0)) (cv := .ref (cl.ex 0)) (fun t b h => by cases t with | non => cases h; exact FX.xn_BadRatio | _ => cases h) (fun c b h => by cases h) (fun c b h => ⟨(FX.xc c).1, tab_at (p := fun c b => PySem.W.kitOne K (.ref (cl.ex c)) (.ref (cl.ex 0)) = some b) (at_some FX.xi_BadRatio_0 at_nil) c b h⟩) (.own _) rfl (fun w h => h) (by rfl) E.b_isinstance (dv 2) (pe_glob (by rfl) FX.g_0 rfl)) (de_one (dcmp (o_deq hr.units) (de_callB (c_reprT (A := ow_repr_0) hg hr.units E.sysm (tab_at (at_some ⟨C_Ratiodd_reprdd.choose, 1, C_Ratiodd_reprdd.choose_spec.1.at_, C_Ratiodd_reprdd.choose_spec.1.fn, C_Ratiodd_reprdd.choose_spec.2.r, hr.mono (by decide)⟩ at_nil))) (by rfl) E.b_repr (by decide +kernel) (da_cons (de_val (fun c => ⟨(FX.xc c).2.1, (FX.xc c).2.2⟩) (dv 2)) da_nil)) (de_callB (c_reprT (A := ow_repr_0) hg hr.units E.sysm (tab_at (at_some ⟨C_Ratiodd_reprdd.choose, 1, C_Ratiodd_reprdd.choose_spec.1.at_, C_Ratiodd_reprdd.choose_spec.1.fn, C_Ratiodd_reprdd.choose_spec.2.r, hr.mono (by decide)⟩ at_nil))) (by rfl) E.b_repr (by decide +kernel) (da_cons (dv 1) da_nil))))))
    dss_nil)) TB rfl hmT hu (hr.mono (by decide)) (LamX.lamS_by rfl) rfl (fun _ _ _ _ _ => rfl) (fun A outer s H E0 f c hr => (have tk := takes_of (E := E0) rfl rfl rfl rfl; (dx_make (c := 0) tk C_Ratiodd_initdd.choose_spec.1 C_Ratiodd_initdd.choose_spec.2 hr (by decide) (by rfl) E.c0_name (da_cons (dv 2) (da_cons (dv 3) da_nil)) (len_cons (len_cons (fun _ _ _ _ e => len_nil e)))))) (da_cons (de_tup (da_cons (dv 2) (da_cons de_int da_nil))) da_nil) ⟨rfl, rfl⟩))) (dss_cons (ds_ret de_bl)
    dss_nil) dss_nil)
    dss_nil) (dss_cons (ds_if (dt_not (dt_e (de_callG C__law_is_made hg hr (by decide) (by rfl) (da_cons (dv 2) (da_cons (dv 3) da_nil)) rfl (len_cons (len_cons (fun _ _ _ _ e => len_nil e)))))) (dss_cons (ds_ret de_bl)
    dss_nil) dss_nil)
    dss_nil))
    (dss_cons (ds_if (tcmp (o_dne hr.units) (de_callB (c_reprT (A := ow_repr_0) hg hr.units E.sysm (tab_at (at_some ⟨C_Ratiodd_reprdd.choose, 1, C_Ratiodd_reprdd.choose_spec.1.at_, C_Ratiodd_reprdd.choose_spec.1.fn, C_Ratiodd_reprdd.choose_spec.2.r, hr.mono (by decide)⟩ at_nil))) (by rfl) E.b_repr (by decide +kernel) (da_cons (de_makeDf (c := 0) (n := 1) (dd := [.int (1)]) C_Ratiodd_initdd_d1.choose_spec.1 (FnXDf.noX C_Ratiodd_initdd_d1.choose_spec.2) hr (by decide) (by rfl) E.c0_name (da_cons (dv 2) da_nil) (len_cons (fun _ _ _ _ e => len_nil e))) da_nil)) (de_op o_add (de_op o_add (dstr [82, 97, 116, 105, 111, 40]) (de_callTy c_strZ (by rfl) E.b_str (by decide +kernel) (da_cons (dv 2) da_nil))) (dstr [41]))) (dss_cons (ds_ret de_bl)
    dss_nil) dss_nil)
    (dss_cons (dst 4 sc__law_right.nd (de_call C__law_of hr (by decide) (by rfl) (da_cons (dv 0) (da_cons (de_lst (da_cons de_non (da_cons de_bl (da_cons de_bl (da_cons (dstr [49]) (da_cons (de_tup (da_cons de_int da_nil)) (da_cons (de_lst (da_cons de_int da_nil)) (da_cons de_dic0 (da_cons (de_makeDf (c := 0) (n := 1) (dd := [.int (1)]) C_Ratiodd_initdd_d1.choose_spec.1 (FnXDf.noX C_Ratiodd_initdd_d1.choose_spec.2) hr (by decide) (by rfl) E.c0_name (da_cons de_int da_nil) (len_cons (fun _ _ _ _ e => len_nil e))) (da_cons (dstr [49, 47, 50]) (da_cons (de_tup da_nil) da_nil))))))))))) da_nil)) rfl (len_cons (len_cons (fun _ _ _ _ e => len_nil e)))))
    (dss_cons (ds_if (dt_not (dt_e (de_refused (k := 3) FX.t0 FX.kn.choose_spec.2 (by rfl) E.fn__law_is_refused.choose_spec.choose_spec.1 E.fn__law_is_refused.choose_spec.choose_spec.2 (bn__law_is_refused E.fn__law_is_refused.choose_spec.choose_spec.2) sc__law_is_refused E.fn__law_heard.choose_spec.choose_spec.1 E.fn__law_heard.choose_spec.choose_spec.2 (bn__law_heard E.fn__law_heard.choose_spec.choose_spec.2) sc__law_heard rfl (Or.inl rfl) (fun _ _ _ => by rfl) (fun _ _ _ cdg => (heard_gives rfl FX.kn.choose_spec.1 rfl rfl rfl rfl rfl (fun _ => rfl) : GivesX _ _ _ (defScope st__law_heard) _ cdg (defBody st__law_heard) _ _ _)) (Or.inl rfl) (by first | exact Or.inl rfl | exact Or.inr rfl) (fun _ _ _ => pe_int) (fun _ _ => rfl) (fun _ _ _ => by rfl) (fun _ _ _ => by first | exact .inl rfl | exact .inr rfl) (fun _ _ _ => by rfl) (fun cdY sY HY hr => (dss_cons (ds_ret (de_and (de_isx (T := isn) (TX := isx_BadRatio) (u := .ref (cl.ex 0)) (cv := .ref (cl.ex 0)) (fun t b h => by cases t with | non => cases h; exact FX.xn_BadRatio | _ => cases h) (fun c b h => by cases h) (fun c b h => ⟨(FX.xc c).1, tab_at (p := fun c b => PySem.W.kitOne K (.ref (cl.ex c)) (.ref (cl.ex 0)) = some b) (at_some FX.xi_BadRatio_0 at_nil) c b h⟩) (.own _) rfl (fun w h => h) (by rfl) E.b_isinstance (dv 2) (pe_glob (by rfl) FX.g_0 rfl)) (de_one (dcmp (o_deq hr.units) (de_callB (c_reprT (A := ow_repr_0) hg hr.units E.sysm (tab_at (at_some ⟨C_Ratiodd_reprdd.choose, 1, C_Ratiodd_reprdd.choose_spec.1.at_, C_Ratiodd_reprdd.choose_spec.1.fn, C_Ratiodd_reprdd.choose_spec.2.r, hr.mono (by decide)⟩ at_nil))) (by rfl) E.b_repr (by decide +kernel) (da_cons (de_val (fun c => ⟨(FX.xc c).2.1, (FX.xc c).2.2⟩) (dv 2)) da_nil)) (de_callB (c_reprT (A := ow_repr_0) hg hr.units E.sysm (tab_at (at_some ⟨C_Ratiodd_reprdd.choose, 1, C_Ratiodd_reprdd.choose_spec.1.at_, C_Ratiodd_reprdd.choose_spec.1.fn, C_Ratiodd_reprdd.choose_spec.2.r, hr.mono (by decide)⟩ at_nil))) (by rfl) E.b_repr (by decide +kernel) (da_cons (dv 1) da_nil))))))
    dss_nil)) TB rfl hmT hu (hr.mono (by decide)) (LamX.lamS_by rfl) rfl (fun _ _ _ _ _ => rfl) (fun A outer s H E0 f c hr => (have tk := takes_of (E := E0) rfl rfl rfl rfl; (dx_make (c := 0) tk C_Ratiodd_initdd.choose_spec.1 C_Ratiodd_initdd.choose_spec.2 hr (by decide) (by rfl) E.c0_name (da_cons (dv 4) (da_cons (dv 2) da_nil)) (len_cons (len_cons (fun _ _ _ _ e => len_nil e)))))) (da_cons (de_tup (da_cons (dv 4) (da_cons (dv 2) da_nil))) da_nil) ⟨rfl, rfl⟩))) (dss_cons (ds_ret de_bl)
    dss_nil) dss_nil)
    (dss_cons (ds_if (dt_not (dt_e (de_refused (k := 3) FX.t0 FX.kn.choose_spec.2 (by rfl) E.fn__law_is_refused.choose_spec.choose_spec.1 E.fn__law_is_refused.choose_spec.choose_spec.2 (bn__law_is_refused E.fn__law_is_refused.choose_spec.choose_spec.2) sc__law_is_refused E.fn__law_heard.choose_spec.choose_spec.1 E.fn__law_heard.choose_spec.choose_spec.2 (bn__law_heard E.fn__law_heard.choose_spec.choose_spec.2) sc__law_heard rfl (Or.inl rfl) (fun _ _ _ => by rfl) (fun _ _ _ cdg => (heard_gives rfl FX.kn.choose_spec.1 rfl rfl rfl rfl rfl (fun _ => rfl) : GivesX _ _ _ (defScope st__law_heard) _ cdg (defBody st__law_heard) _ _ _)) (Or.inl rfl) (by first | exact Or.inl rfl | exact Or.inr rfl) (fun _ _ _ => pe_int) (fun _ _ => rfl) (fun _ _ _ => by rfl) (fun _ _ _ => by first | exact .inl rfl | exact .inr rfl) (fun _ _ _ => by rfl) (fun cdY sY HY hr => (dss_cons (ds_ret (de_and (de_isx (T := isn) (TX := isx_BadRatio) (u := .ref (cl.ex 0)) (cv := .ref (cl.ex 0)) (fun t b h => by cases t with | non => cases h; exact FX.xn_BadRatio | _ => cases h) (fun c b h => by cases h) (fun c b h => ⟨(FX.xc c).1, tab_at (p := fun c b => PySem.W.kitOne K (.ref (cl.ex c)) (.ref (cl.ex 0)) = some b) (at_some FX.xi_BadRatio_0 at_nil) c b h⟩) (.own _) rfl (fun w h => h) (by rfl) E.b_isinstance (dv 2) (pe_glob (by rfl) FX.g_0 rfl)) (de_one (dcmp (o_deq hr.units) (de_callB (c_reprT (A := ow_repr_0) hg hr.units E.sysm (tab_at (at_some ⟨C_Ratiodd_reprdd.choose, 1, C_Ratiodd_reprdd.choose_spec.1.at_, C_Ratiodd_reprdd.choose_spec.1.fn, C_Ratiodd_reprdd.choose_spec.2.r, hr.mono (by decide)⟩ at_nil))) (by rfl) E.b_repr (by decide +kernel) (da_cons (de_val (fun c => ⟨(FX.xc c).2.1, (FX.xc c).2.2⟩) (dv 2)) da_nil)) (de_callB (c_reprT (A := ow_repr_0) hg hr.units E.sysm (tab_at (at_some ⟨C_Ratiodd_reprdd.choose, 1, C_Ratiodd_reprdd.choose_spec.1.at_, C_Ratiodd_reprdd.choose_spec.1.fn, C_Ratiodd_reprdd.choose_spec.2.r, hr.mono (by decide)⟩ at_nil))) (by rfl) E.b_repr (by decide +kernel) (da_cons (dv 1) da_nil))))))
    dss_nil)) TB rfl hmT hu (hr.mono (by decide)) (LamX.lamS_by rfl) rfl (fun _ _ _ _ _ => rfl) (fun A outer s H E0 f c hr => (have tk := takes_of (E := E0) rfl rfl rfl rfl; (dx_make (c := 0) tk C_Ratiodd_initdd.choose_spec.1 C_Ratiodd_initdd.choose_spec.2 hr (by decide) (by rfl) E.c0_name (da_cons (dv 2) (da_cons (dv 4) da_nil)) (len_cons (len_cons (fun _ _ _ _ e => len_nil e)))))) (da_cons (de_tup (da_cons (dv 2) (da_cons (dv 4) da_nil))) da_nil) ⟨rfl, rfl⟩))) (dss_cons (ds_ret de_bl)
    dss_nil) dss_nil)
    (dss_cons (ds_if (dt_not (dt_e (de_refused (k := 3) FX.t0 FX.kn.choose_spec.2 (by rfl) E.fn__law_is_refused.choose_spec.choose_spec.1 E.fn__law_is_refused.choose_spec.choose_spec.2 (bn__law_is_refused E.fn__law_is_refused.choose_spec.choose_spec.2) sc__law_is_refused E.fn__law_heard.choose_spec.choose_spec.1 E.fn__law_heard.choose_spec.choose_spec.2 (bn__law_heard E.fn__law_heard.choose_spec.choose_spec.2) sc__law_heard rfl (Or.inl rfl) (fun _ _ _ => by rfl) (fun _ _ _ cdg => (heard_gives rfl FX.kn.choose_spec.1 rfl rfl rfl rfl rfl (fun _ => rfl) : GivesX _ _ _ (defScope st__law_heard) _ cdg (defBody st__law_heard) _ _ _)) (Or.inl rfl) (by first | exact Or.inl rfl | exact Or.inr rfl) (fun _ _ _ => pe_int) (fun _ _ => rfl) (fun _ _ _ => by rfl) (fun _ _ _ => by first | exact .inl rfl | exact .inr rfl) (fun _ _ _ => by rfl) (fun cdY sY HY hr => (dss_cons (ds_ret (de_and (de_isx (T := isn) (TX := isx_BadRatio) (u := .ref (cl.ex 0)) (cv := .ref (cl.ex 0)) (fun t b h => by cases t with | non => cases h; exact FX.xn_BadRatio | _ => cases h) (fun c b h => by cases h) (fun c b h => ⟨(FX.xc c).1, tab_at (p := fun c b => PySem.W.kitOne K (.ref (cl.ex c)) (.ref (cl.ex 0)) = some b) (at_some FX.xi_BadRatio_0 at_nil) c b h⟩) (.own _) rfl (fun w h => h) (by rfl) E.b_isinstance (dv 2) (pe_glob (by rfl) FX.g_0 rfl)) (de_one (dcmp (o_deq hr.units) (de_callB (c_reprT (A := ow_repr_0) hg hr.units E.sysm (tab_at (at_some ⟨C_Ratiodd_reprdd.choose, 1, C_Ratiodd_reprdd.choose_spec.1.at_, C_Ratiodd_reprdd.choose_spec.1.fn, C_Ratiodd_reprdd.choose_spec.2.r, hr.mono (by decide)⟩ at_nil))) (by rfl) E.b_repr (by decide +kernel) (da_cons (de_val (fun c => ⟨(FX.xc c).2.1, (FX.xc c).2.2⟩) (dv 2)) da_nil)) (de_callB (c_reprT (A := ow_repr_0) hg hr.units E.sysm (tab_at (at_some ⟨C_Ratiodd_reprdd.choose, 1, C_Ratiodd_reprdd.choose_spec.1.at_, C_Ratiodd_reprdd.choose_spec.1.fn, C_Ratiodd_reprdd.choose_spec.2.r, hr.mono (by decide)⟩ at_nil))) (by rfl) E.b_repr (by decide +kernel) (da_cons (dv 1) da_nil))))))
    dss_nil)) TB rfl hmT hu (hr.mono (by decide)) (LamX.lamS_by rfl) rfl (fun _ _ _ _ _ => rfl) (fun A outer s H E0 f c hr => (have tk := takes_of (E := E0) rfl rfl rfl rfl; (dx_makeDf (c := 0) (n := 1) (dd := [.int (1)]) tk C_Ratiodd_initdd_d1.choose_spec.1 C_Ratiodd_initdd_d1.choose_spec.2 hr (by decide) (by rfl) E.c0_name (da_cons (dv 4) da_nil) (len_cons (fun _ _ _ _ e => len_nil e))))) (da_cons (de_tup (da_cons (dv 4) (da_cons de_int da_nil))) da_nil) ⟨rfl, rfl⟩))) (dss_cons (ds_ret de_bl)
    dss_nil) dss_nil)
    dss_nil))))))))
    (dss_cons (ds_ret de_bl)
    dss_nil))
theorem bn__law_right {f : Addr} {fd : FuncData} (F : FunD K ("_law_right" : Str) ("_law_right" : Str) (defArgs st__law_right) (defBody st__law_right) (defScope st__law_right) [] [] f fd) : Binds K fd ["pot"] [] := F.bindsN fun _ _ _ _ _ _ us hl => match us, hl with | [_], _ => rfl
theorem sc__law_pot : FnScope ["script", "place", "cell", "own", "small"] ["script", "place"] (defScope st__law_pot) := ⟨rfl, rfl, rfl, by decide +kernel, rfl, by decide +kernel, by decide +kernel⟩
theorem ok__law_pot {f : Addr} {fd : FuncData} (E : Fs K w mg cl) (FX : Fx P K w mg cl) (F : FunD K ("_law_pot" : Str) ("_law_pot" : Str) (defArgs st__law_pot) (defBody st__law_pot) (defScope st__law_pot) [] [] f fd)  : FnOk P w K mg base L2.CX0 1 f fd ["script", "place"] (spD K cl 2 f__law_pot) :=
  d_defDd F sc__law_pot rfl (by decide) fun cdv A outer s H E0 hr =>
    (dss_cons (dst 2 sc__law_pot.nd (de_if (tcmp o_lt (dv 1) (de_callB c_len (by rfl) E.b_len (by decide +kernel) (da_cons (dv 0) da_nil))) (de_ix x_item (dv 0) (dv 1) (fun _ _ => rfl)) (de_op o_add (de_op o_lrep de_int (dv 1)) de_int)))
    (dss_cons (dst 3 sc__law_pot.nd (de_op o_lrep (de_op o_mod (de_callTy c_intT (by rfl) E.b_int (by decide +kernel) (da_cons (de_callB c_abs (by rfl) E.b_abs (by decide +kernel) (da_cons (dv 2) da_nil)) da_nil)) (de_op o_pow (de_op o_pow de_int de_int) de_int)) (de_callTy c_intT (by rfl) E.b_int (by decide +kernel) (da_cons (dcmp o_ge (de_callB c_abs (by rfl) E.b_abs (by decide +kernel) (da_cons (dv 2) da_nil)) (de_op o_pow de_int de_int)) da_nil))))
    (dss_cons (dst 4 sc__law_pot.nd (de_op o_mod (de_callTy c_intT (by rfl) E.b_int (by decide +kernel) (da_cons (dv 2) da_nil)) de_int))
    (dss_cons (ds_ret (de_lst (da_cons (dv 3) (da_cons (de_op o_mod (de_callTy c_intT (by rfl) E.b_int (by decide +kernel) (da_cons (de_op o_add (de_op o_add (de_op o_lrep (dv 4) de_int) (de_op o_lrep (de_op o_lrep de_int (dv 1)) (dv 1))) de_int) da_nil)) de_int) (da_cons de_int da_nil)))))
    dss_nil))))
theorem bn__law_pot {f : Addr} {fd : FuncData} (F : FunD K ("_law_pot" : Str) ("_law_pot" : Str) (defArgs st__law_pot) (defBody st__law_pot) (defScope st__law_pot) [] [] f fd) : Binds K fd ["script", "place"] [] := F.bindsN fun _ _ _ _ _ _ us hl => match us, hl with | [_, _], _ => rfl
theorem sc__law_cells : FnScope ["script", "most"] ["script", "most"] (defScope st__law_cells) := ⟨rfl, rfl, rfl, by decide +kernel, rfl, by decide +kernel, by decide +kernel⟩
theorem ok__law_cells {f : Addr} {fd : FuncData} (E : Fs K w mg cl) (FX : Fx P K w mg cl) (F : FunD K ("_law_cells" : Str) ("_law_cells" : Str) (defArgs st__law_cells) (defBody st__law_cells) (defScope st__law_cells) [] [] f fd)  : FnOk P w K mg base L2.CX0 1 f fd ["script", "most"] (spD K cl 2 f__law_cells) :=
  d_defDd F sc__law_cells rfl (by decide) fun cdv A outer s H E0 hr =>
    (dss_cons (ds_ret (de_listRg1 (by rfl) (by rfl) E.b_list (by rfl) E.b_range (de_callB (c_max (by rfl)) (by rfl) E.b_max (by decide +kernel) (da_cons de_int (da_cons (de_callB (c_min (by rfl)) (by rfl) E.b_min (by decide +kernel) (da_cons (dv 1) (da_cons (de_callB c_len (by rfl) E.b_len (by decide +kernel) (da_cons (dv 0) da_nil)) da_nil))) da_nil)))))
    dss_nil)
theorem bn__law_cells {f : Addr} {fd : FuncData} (F : FunD K ("_law_cells" : Str) ("_law_cells" : Str) (defArgs st__law_cells) (defBody st__law_cells) (defScope st__law_cells) [] [] f fd) : Binds K fd ["script", "most"] [] := F.bindsN fun _ _ _ _ _ _ us hl => match us, hl with | [_, _], _ => rfl
theorem sc_law : FnScope ["script", "place"] ["script"] (defScope st_law) := ⟨rfl, rfl, rfl, by decide +kernel, rfl, by decide +kernel, by decide +kernel⟩
theorem ok_law {f : Addr} {fd : FuncData} (E : Fs K w mg cl) (FX : Fx P K w mg cl) (F : FunD K ("law" : Str) ("law" : Str) (defArgs st_law) (defBody st_law) (defScope st_law) [] [] f fd) (C__law_right : CalG P w K mg base cl 8 ("_law_right" : Str) 1 (trF f__law_right)) (C__law_pot : Cal P w K mg base cl 1 ("_law_pot" : Str) 2 f__law_pot) (C__law_cells : Cal P w K mg base cl 1 ("_law_cells" : Str) 2 f__law_cells) : FnG P w K mg base L2.CX0 9 f fd ["script"] (spD K cl 1 f_law) :=
  d_defG F sc_law rfl (by decide) fun cdv A _ outer s H E0 hr hg =>
    (dss_cons (ds_ret (de_tr (de_callB (c_all (by rfl)) (by rfl) E.b_all (by decide +kernel) (da_cons (de_lc (own := [(("place" : Str), 1)]) (by rfl) sc_law.nd (di_e (de_call C__law_cells hr (by decide) (by rfl) (da_cons (dv 0) (da_cons de_int da_nil)) rfl (len_cons (len_cons (fun _ _ _ _ e => len_nil e))))) (blkOk_by (N := ["script", "place"]) (sc := defScope st_law) (by decide +kernel)) (fun _ _ _ _ _ => (dgn 1 sc_law.nd)) (by decide) (fun _ _ _ _ _ => dts_nil) (fun _ _ _ _ _ => (de_callG C__law_right hg hr (by decide) (by rfl) (da_cons (de_call C__law_pot hr (by decide) (by rfl) (da_cons (dv 0) (da_cons (dv 1) da_nil)) rfl (len_cons (len_cons (fun _ _ _ _ e => len_nil e)))) da_nil) rfl (len_cons (fun _ _ _ _ e => len_nil e))))) da_nil))))
    dss_nil)
theorem bn_law {f : Addr} {fd : FuncData} (F : FunD K ("law" : Str) ("law" : Str) (defArgs st_law) (defBody st_law) (defScope st_law) [] [] f fd) : Binds K fd ["script"] [] := F.bindsN fun _ _ _ _ _ _ us hl => match us, hl with | [_], _ => rfl
end
end Lw
set_option Elab.async false
set_option linter.all false
set_option maxRecDepth 100000
set_option maxHeartbeats 4000000
/-! W0: runs. -/
namespace Lw
open PySem PySem.Spec PyProof.Rows L2 SlX D
theorem args_two {x y : Ex} {sl : Sl} {h h1 h2 : Hs} {u v : DV} (e1 : x sl h = .ok u h1) (e2 : y sl h1 = .ok v h2) : aCons x (aCons y aNil) sl h = .ok [u, v] h2 := by
  show bnd (x sl) _ h = _
  rw [bnd_s e1]
  show bnd (aCons y aNil sl) _ h1 = _
  rw [bnd_s (args_one e2)]
  rfl
theorem tup_of {ms : Exs} {sl : Sl} {h h1 : Hs} {ds : List DV} (e : ms sl h = .ok ds h1) (hl : ds.length ≤ 1000) : eTup ms sl h = .ok (.tup ds) h1 := by
  unfold eTup
  rw [bnd_s e]
  show (if fits ds.length then D.ret (DV.tup ds) else stk) h1 = _
  rw [fits_le (by omega)]; rfl
theorem eqS_self (a : List Nat) : eqS a a = true := by rw [eqS_iff]; exact decide_eq_true rfl
theorem getN {sl : Sl} {i : Nat} {v : DV} {h : Hs} (e : sl[i]? = some (some v)) : eSlot i sl h = .ok v h := by unfold eSlot; rw [e]; rfl
theorem cons_nx {x y : Sx} {sl sl1 : Sl} {h h1 : Hs} (e : x sl h = .ok (.nx, sl1) h1) : sCons x y sl h = y sl1 h1 := by
  unfold sCons
  rw [bnd_s e]
theorem cons_rt {x y : Sx} {sl sl1 : Sl} {h h1 : Hs} {v : DV} (e : x sl h = .ok (.rt v, sl1) h1) : sCons x y sl h = .ok (.rt v, sl1) h1 := by
  unfold sCons
  rw [bnd_s e]
  rfl
theorem ret_s {x : Ex} {sl : Sl} {h h1 : Hs} {v : DV} (e : x sl h = .ok v h1) : sRet x sl h = .ok (.rt v, sl) h1 := by
  unfold sRet
  rw [bnd_s e]
  rfl
theorem if_no {c : Tx} {x y : Sx} {sl : Sl} {h h1 : Hs} (e : c sl h = .ok false h1) : sIf c x y sl h = y sl h1 := by
  unfold sIf
  rw [bnd_s e]
  rfl
theorem if_yes {c : Tx} {x y : Sx} {sl : Sl} {h h1 : Hs} (e : c sl h = .ok true h1) : sIf c x y sl h = x sl h1 := by
  unfold sIf
  rw [bnd_s e]
  rfl
theorem as_s {x : Ex} {g : DV → Sl → Option Sl} {sl sl1 : Sl} {h h1 : Hs} {v : DV} (e : x sl h = .ok v h1) (eg : g v sl = some sl1) : sAs x g sl h = .ok (.nx, sl1) h1 := by
  unfold sAs
  rw [bnd_s e, eg]
  rfl
theorem call_s {g : List DV → D.M DV} {ms : Exs} {sl : Sl} {h h1 : Hs} {ds : List DV} (e : ms sl h = .ok ds h1) : eCall g ms sl h = g ds h1 := by
  unfold eCall
  rw [bnd_s e]
theorem cmp_s {g : DV → DV → D.M DV} {x y : Ex} {sl : Sl} {h h1 h2 h3 : Hs} {u v : DV} {b : Bool} (e1 : x sl h = .ok u h1) (e2 : y sl h1 = .ok v h2) (e3 : g u v h2 = .ok (.bl b) h3) : bCmp g x y sl h = .ok b h3 := by
  unfold bCmp
  rw [bnd_s e1, bnd_s e2, bnd_s e3]
  rfl
theorem op_s {g : DV → DV → D.M DV} {x y : Ex} {sl : Sl} {h h1 h2 h3 : Hs} {u v w : DV} (e1 : x sl h = .ok u h1) (e2 : y sl h1 = .ok v h2) (e3 : g u v h2 = .ok w h3) : eOp g x y sl h = .ok w h3 := by
  unfold eOp
  rw [bnd_s e1, bnd_s e2, e3]
theorem un_s {g : DV → D.M DV} {x : Ex} {sl : Sl} {h h1 h2 : Hs} {u w : DV} (e1 : x sl h = .ok u h1) (e3 : g u h1 = .ok w h2) : eUn g x sl h = .ok w h2 := by
  unfold eUn
  rw [bnd_s e1, e3]
theorem attr_s {A : Nat → Option AtK} {x : Ex} {sl : Sl} {h h1 h2 : Hs} {u w : DV} (e1 : x sl h = .ok u h1) (e3 : atD A u h1 = .ok w h2) : eAttr A x sl h = .ok w h2 := by
  unfold eAttr
  rw [bnd_s e1, e3]
theorem cons_s {x : Ex} {ms : Exs} {sl : Sl} {h h1 h2 : Hs} {u : DV} {ds : List DV} (e1 : x sl h = .ok u h1) (e2 : ms sl h1 = .ok ds h2) : aCons x ms sl h = .ok (u :: ds) h2 := by
  unfold aCons
  rw [bnd_s e1, bnd_s e2]
  rfl
theorem nil_s {sl : Sl} {h : Hs} : aNil sl h = .ok [] h := rfl
theorem if_val {c : Tx} {x y : Ex} {sl : Sl} {h h1 : Hs} {b : Bool} (e : c sl h = .ok b h1) : eIf c x y sl h = (if b then x sl h1 else y sl h1) := by
  unfold eIf
  rw [bnd_s e]
  cases b <;> rfl
theorem isnon {v : DV} (n : v ≠ .non) (n2 : ∀ b, v ≠ .bl b) {h : Hs} : isD v .non h = .ok (.bl false) h := by
  cases v <;> first | exact absurd rfl n | rfl
theorem eqS_s (t : List Nat) (h : Hs) : deqD (.str t) (.str t) h = .ok (.bl true) h := by
  show D.ret (DV.bl (eqS t t)) h = _
  rw [eqS_self]; rfl
theorem or_no {a b : Tx} {sl : Sl} {h h1 : Hs} (e : a sl h = .ok false h1) : bOr a b sl h = b sl h1 := by
  unfold bOr
  rw [bnd_s e]
  rfl
theorem not_s {a : Tx} {sl : Sl} {h h1 : Hs} {b : Bool} (e : a sl h = .ok b h1) : bNot a sl h = .ok (!b) h1 := by
  unfold bNot
  rw [bnd_s e]
  rfl
theorem bE_s {x : Ex} {sl : Sl} {h h1 : Hs} {b : Bool} (e : x sl h = .ok (.bl b) h1) : bE x sl h = .ok b h1 := by
  unfold bE
  rw [bnd_s e]
  rfl
theorem or_yes {a b : Tx} {sl : Sl} {h h1 : Hs} (e : a sl h = .ok true h1) : bOr a b sl h = .ok true h1 := by
  unfold bOr
  rw [bnd_s e]
  rfl
theorem lst_of {ms : Exs} {sl : Sl} {h h1 : Hs} {ds : List DV} (e : ms sl h = .ok ds h1) (hl : ds.length ≤ 1000) : eLst ms sl h = .ok (.ref h1.length) (h1 ++ [.lst ds]) := by
  unfold eLst
  rw [bnd_s e]
  show (if fits ds.length then fun h => R.ok (DV.ref h.length) (h ++ [.lst ds]) else stk) h1 = _
  rw [fits_le (by omega)]; rfl
theorem at_snoc {α : Type} {l : List α} {a : α} : (l ++ [a])[l.length]? = some a := by
  rw [List.getElem?_append_right (Nat.le_refl _), Nat.sub_self]; rfl
theorem set_snoc {α : Type} {l : List α} {a b : α} : (l ++ [a]).set l.length b = l ++ [b] := by
  rw [List.set_append_right _ _ (Nat.le_refl _), Nat.sub_self]; rfl
theorem insAt_snoc {h : Hs} {c : Nat} {fs : List (Option DV)} : insAt h.length (h ++ [DO.ins c fs]) = R.ok (c, fs) (h ++ [DO.ins c fs]) := by
  unfold insAt
  rw [at_snoc]
/-! ### sizes -/
def Sz (n : Nat) (x : Int) : Prop := x.natAbs < 2 ^ n
theorem Sz.mono {n m : Nat} {x : Int} (s : Sz n x) (h : n ≤ m) : Sz m x := Nat.lt_of_lt_of_le s (Nat.pow_le_pow_right (by decide) h)
theorem Sz.neg {n : Nat} {x : Int} (s : Sz n x) : Sz n (-x) := by unfold Sz; rw [Int.natAbs_neg]; exact s
theorem Sz.mul {n m : Nat} {x y : Int} (s : Sz n x) (t : Sz m y) : Sz (n + m) (x * y) := by
  unfold Sz at *
  rw [Int.natAbs_mul, Nat.pow_add]
  exact Nat.mul_lt_mul'' s t
theorem Sz.add {n : Nat} {x y : Int} (s : Sz n x) (t : Sz n y) : Sz (n + 1) (x + y) := by
  unfold Sz at *
  have := Int.natAbs_add_le x y
  rw [Nat.pow_succ]
  omega
theorem Sz.log {n : Nat} {x : Int} (s : Sz n x) (hn : 0 < n) : x.natAbs.log2 < n := by
  by_cases z : x.natAbs = 0
  · rw [z]; exact hn
  · exact (Nat.log2_lt z).mpr s
theorem Sz.mulOk {n m : Nat} {x y : Int} (s : Sz n x) (t : Sz m y) (hn : 0 < n) (hm : 0 < m) (h : n + m ≤ 100000) : mulOk x y = true := by
  unfold D.mulOk
  have a := s.log hn
  have b := t.log hm
  rw [Nat.blt_eq.mpr (show x.natAbs.log2 + y.natAbs.log2 < 1000000 by omega), Bool.or_true]
theorem Sz.divZ {n : Nat} {x : Int} (s : Sz n x) (hn : 0 < n) (h : n ≤ 8000) (z : x ≠ 0) : divZ x = true := by
  unfold D.divZ
  have a := s.log hn
  rw [Nat.blt_eq.mpr (show x.natAbs.log2 < 8990 by omega)]
  simpa using z
theorem mul_s {n m : Nat} {x y : Int} {h : Hs} (s : Sz n x) (t : Sz m y) (hn : 0 < n) (hm : 0 < m) (hh : n + m ≤ 100000) : lrepD (.int x) (.int y) h = .ok (.int (x * y)) h := mulD_s (s.mulOk t hn hm hh)
theorem div_s {n : Nat} {x y : Int} {h : Hs} (t : Sz n y) (hn : 0 < n) (hh : n ≤ 8000) (z : y ≠ 0) : fdivZ (.int x) (.int y) h = .ok (.int (x.fdiv y)) h := by
  show (if divZ y then D.ret (DV.int (x.fdiv y)) else stk) h = _
  rw [t.divZ hn hh z]; rfl
/-! ### the gcd -/
abbrev wC : Tx := bCmp dneD (eSlot 1) (eC (.int (0)))
theorem wh_gcd {b : Sx} {h : Hs} (hb : ∀ x y : Nat, y ≠ 0 → b [some (.int x), some (.int y)] h = .ok (.nx, [some (.int y), some (.int ((x % y : Nat) : Int))]) h) :
    ∀ (n x y f : Nat), y < 2 ^ n → 2 * n + 1 ≤ f → whD wC b f [some (.int x), some (.int y)] h = .ok (.nx, [some (.int (Nat.gcd x y : Nat)), some (.int 0)]) h := by
  have cc : ∀ x y : Nat, wC [some (.int x), some (.int y)] h = .ok (!decide ((y : Int) = 0)) h := fun x y => rfl
  have e0 : ∀ (f : Nat) (sl : Sl), whD wC b (f + 1) sl h = bnd (wC sl) (fun k => if k then bnd (b sl) fun r => match r.1 with
      | .nx => whD wC b f r.2
      | .ct => whD wC b f r.2
      | .bk => D.ret (.nx, r.2)
      | .rt v => D.ret (.rt v, r.2)
    else D.ret (.nx, sl)) h := fun f sl => rfl
  have stop : ∀ x f : Nat, whD wC b (f + 1) [some (.int x), some (.int (0 : Nat))] h = .ok (.nx, [some (.int (Nat.gcd x 0 : Nat)), some (.int 0)]) h := fun x f => by
    rw [e0, bnd_s (cc x 0), Nat.gcd_zero_right]
    rfl
  have go : ∀ x y f : Nat, y ≠ 0 → whD wC b (f + 1) [some (.int x), some (.int y)] h = whD wC b f [some (.int y), some (.int ((x % y : Nat) : Int))] h := fun x y f z => by
    rw [e0, bnd_s (cc x y), decide_eq_false (show ¬ (y : Int) = 0 by omega)]
    show bnd (b _) _ h = _
    rw [bnd_s (hb x y z)]
  have gr : ∀ x y : Nat, Nat.gcd x y = Nat.gcd y (x % y) := fun x y => by rw [Nat.gcd_comm x y, Nat.gcd_rec y x, Nat.gcd_comm]
  intro n
  induction n with
  | zero =>
    intro x y f hy hf
    have : y = 0 := by simpa using hy
    subst this
    obtain ⟨f, rfl⟩ : ∃ g, f = g + 1 := ⟨f - 1, by omega⟩
    exact stop x f
  | succ n ih =>
    intro x y f hy hf
    obtain ⟨f, rfl⟩ : ∃ g, f = g + 1 := ⟨f - 1, by omega⟩
    by_cases z : y = 0
    · subst z; exact stop x f
    · rw [go x y f z, gr x y]
      obtain ⟨f, rfl⟩ : ∃ g, f = g + 1 := ⟨f - 1, by omega⟩
      have hr : x % y < y := Nat.mod_lt _ (by omega)
      generalize x % y = r at hr
      by_cases zr : r = 0
      · subst zr; exact stop y f
      · rw [go y r f zr, gr y r]
        refine ih r (y % r) f ?_ (by omega)
        have m1 : y % r < r := Nat.mod_lt _ (by omega)
        have m2 : y % r + r ≤ y := by
          have d := Nat.div_add_mod y r
          have p : 1 ≤ y / r := (Nat.le_div_iff_mul_le (by omega)).mpr (by omega)
          have q : r * 1 ≤ r * (y / r) := Nat.mul_le_mul_left r p
          omega
        rw [Nat.pow_succ] at hy
        omega
theorem abs_s (z : Int) (h : Hs) : absD [.int z] h = .ok (.int (z.natAbs : Int)) h := by
  show R.ok (DV.int (if z < 0 then -z else z)) h = _
  congr 2
  split <;> omega
theorem fm (x y : Nat) : (x : Int).fmod (y : Int) = ((x % y : Nat) : Int) := by
  rw [Int.fmod_eq_emod_of_nonneg _ (Int.natCast_nonneg y)]; rfl
theorem mod_s (x y : Nat) (z : y ≠ 0) (h : Hs) : modD (.int x) (.int y) h = .ok (.int ((x % y : Nat) : Int)) h := by
  rw [modD_s (by omega), fm]
theorem gcd_run {F : List DV → D.M DV} {b : Sx} (hF : F = runF 2 (sCons (sPar 0 1 (aCons (eCall absD (aCons (eSlot 0) aNil)) (aCons (eCall absD (aCons (eSlot 1) aNil)) aNil))) (sCons (sWh wC b) (sCons (sRet (eSlot 0)) sNil)))) {x y : Int} {n : Nat} (s : Sz n y) (hn : n ≤ 100000) (h : Hs)
    (hb : ∀ x y : Nat, y ≠ 0 → b [some (.int x), some (.int y)] h = .ok (.nx, [some (.int y), some (.int ((x % y : Nat) : Int))]) h) : trF F [.int x, .int y] h = .ok (.int (Int.gcd x y : Nat)) h := by
  refine cut_r ?_
  rw [hF]
  refine runF_rt (sl := [some (.int (Nat.gcd x.natAbs y.natAbs : Nat)), some (.int 0)]) ?_
  have a0 : (aCons (eCall absD (aCons (eSlot 0) aNil)) (aCons (eCall absD (aCons (eSlot 1) aNil)) aNil)) [some (.int x), some (.int y)] h = .ok [.int (x.natAbs : Int), .int (y.natAbs : Int)] h :=
    args_two ((call_s (args_one (v := .int x) (h1 := h) rfl)).trans (abs_s x h)) ((call_s (args_one (v := .int y) (h1 := h) rfl)).trans (abs_s y h))
  refine (cons_nx (sl1 := [some (.int (x.natAbs : Int)), some (.int (y.natAbs : Int))]) (h1 := h) ?_).trans ?_
  · unfold sPar
    rw [show ([DV.int x, DV.int y].map some ++ List.replicate (2 - [DV.int x, DV.int y].length) none) = [some (.int x), some (.int y)] from rfl, bnd_s a0]
    rfl
  have w := wh_gcd hb n x.natAbs y.natAbs 1000000000 s (by omega)
  refine (cons_nx w).trans ?_
  exact cons_rt (ret_s rfl)
theorem common_s {x y : Int} {n : Nat} (s : Sz n y) (hn : n ≤ 100000) (h : Hs) : trF f_common [.int x, .int y] h = .ok (.int (Int.gcd x y : Nat)) h :=
  gcd_run rfl s hn h fun x y z => by
    have a : (aCons (eSlot 1) (aCons (eOp modD (eSlot 0) (eSlot 1)) aNil)) [some (.int (x : Int)), some (.int (y : Int))] h = .ok [.int y, .int ((x % y : Nat) : Int)] h := args_two (u := .int y) (h1 := h) rfl (op_s (u := .int x) (v := .int y) (h1 := h) (h2 := h) rfl rfl (mod_s x y z h))
    refine (cons_nx (sl1 := [some (.int y), some (.int ((x % y : Nat) : Int))]) (h1 := h) ?_).trans rfl
    unfold sPar
    rw [bnd_s a]
    rfl
theorem gcd_s {x y : Int} {n : Nat} (s : Sz n y) (hn : n ≤ 100000) (h : Hs) : trF f__law_gcd [.int x, .int y] h = .ok (.int (Int.gcd x y : Nat)) h :=
  gcd_run rfl s hn h fun x y z => by
    have a : (aCons (eSlot 1) (aCons (eOp modD (eCall intTD (aCons (eSlot 0) aNil)) (eCall intTD (aCons (eSlot 1) aNil))) aNil)) [some (.int (x : Int)), some (.int (y : Int))] h = .ok [.int y, .int ((x % y : Nat) : Int)] h :=
      args_two (u := .int y) (h1 := h) rfl (op_s (u := .int x) (v := .int y) (h1 := h) (h2 := h) rfl rfl (mod_s x y z h))
    refine (cons_nx (sl1 := [some (.int y), some (.int ((x % y : Nat) : Int))]) (h1 := h) ?_).trans rfl
    unfold sPar
    rw [bnd_s a]
    rfl
end Lw
set_option Elab.async false
set_option linter.all false
set_option maxRecDepth 100000
set_option maxHeartbeats 4000000
/-! W1: fractions. -/
namespace Lw
open PySem PySem.Spec PyProof.Rows L2 SlX D
/-! ### the plain law of fractions -/
theorem gcd_negl (a b : Int) : Int.gcd (-a) b = Int.gcd a b := by unfold Int.gcd; rw [Int.natAbs_neg]
def gS (a b : Int) : Int := (Int.gcd a b : Int) * (if b < 0 then -1 else 1)
def frN (a b : Int) : Int := a.fdiv (gS a b)
def frU (a b : Int) : Int := b.fdiv (gS a b)
theorem g_pos {a b : Int} (hb : b ≠ 0) : 0 < Int.gcd a b := Int.gcd_pos_of_ne_zero_right a hb
theorem gS_ne {a b : Int} (hb : b ≠ 0) : gS a b ≠ 0 := by
  have := g_pos (a := a) hb
  unfold gS
  split <;> omega
theorem gS_abs (a b : Int) : (gS a b).natAbs = Int.gcd a b := by
  unfold gS
  split
  · rw [Int.mul_neg, Int.mul_one, Int.natAbs_neg]; exact Int.natAbs_natCast _
  · rw [Int.mul_one]; exact Int.natAbs_natCast _
theorem gS_dvd_l (a b : Int) : gS a b ∣ a := Int.natAbs_dvd.mp (by rw [gS_abs]; exact Int.gcd_dvd_left ..)
theorem gS_dvd_r (a b : Int) : gS a b ∣ b := Int.natAbs_dvd.mp (by rw [gS_abs]; exact Int.gcd_dvd_right ..)
theorem gS_sz {a b : Int} {n : Nat} (s : Sz n b) (hb : b ≠ 0) : Sz n (gS a b) := by
  unfold Sz at *
  rw [gS_abs]
  have : Int.gcd a b ≤ b.natAbs := Nat.le_of_dvd (by omega) (Nat.gcd_dvd_right ..)
  omega
theorem fdiv_dvd {a g : Int} (hg : g ≠ 0) (d : g ∣ a) : a.fdiv g * g = a := by
  rw [Int.fdiv_eq_ediv_of_dvd d]
  exact Int.ediv_mul_cancel d
theorem frN_mul {a b : Int} (hb : b ≠ 0) : frN a b * gS a b = a := fdiv_dvd (gS_ne hb) (gS_dvd_l a b)
theorem frU_mul {a b : Int} (hb : b ≠ 0) : frU a b * gS a b = b := fdiv_dvd (gS_ne hb) (gS_dvd_r a b)
theorem sz_div {x q g : Int} {n : Nat} (s : Sz n x) (e : q * g = x) (hg : g ≠ 0) : Sz n q := by
  unfold Sz at *
  rw [← e, Int.natAbs_mul] at s
  have : 1 ≤ g.natAbs := by omega
  have : q.natAbs * 1 ≤ q.natAbs * g.natAbs := Nat.mul_le_mul_left _ this
  omega
theorem frN_sz {a b : Int} {n : Nat} (s : Sz n a) (hb : b ≠ 0) : Sz n (frN a b) := sz_div s (frN_mul hb) (gS_ne hb)
theorem frU_sz {a b : Int} {n : Nat} (s : Sz n b) (hb : b ≠ 0) : Sz n (frU a b) := sz_div s (frU_mul hb) (gS_ne hb)
/-- in least terms -/
structure Least (a b : Int) : Prop where
  g : Int.gcd a b = 1
  p : 1 ≤ b
theorem Least.gS {a b : Int} (l : Least a b) : gS a b = 1 := by
  unfold Lw.gS
  rw [l.g, if_neg (by have := l.p; omega)]
  rfl
theorem Least.n {a b : Int} (l : Least a b) : frN a b = a := by unfold frN; rw [l.gS]; exact Int.fdiv_one a
theorem Least.u {a b : Int} (l : Least a b) : frU a b = b := by unfold frU; rw [l.gS]; exact Int.fdiv_one b
theorem Least.ne {a b : Int} (l : Least a b) : b ≠ 0 := by have := l.p; omega
theorem Least.neg {a b : Int} (l : Least a b) : Least (-a) b := ⟨by rw [gcd_negl]; exact l.g, l.p⟩
theorem gS_neg (a b : Int) : Lw.gS (-a) b = Lw.gS a b := by unfold Lw.gS; rw [gcd_negl]
theorem frN_neg {a b : Int} (hb : b ≠ 0) : frN (-a) b = -(frN a b) := by
  have h1 := frN_mul (a := -a) hb
  have h2 := frN_mul (a := a) hb
  rw [gS_neg] at h1
  have z := gS_ne (a := a) hb
  apply Int.eq_of_mul_eq_mul_right z
  rw [h1, Int.neg_mul, h2]
theorem frU_neg (a b : Int) : frU (-a) b = frU a b := by unfold frU; rw [gS_neg]
theorem fr_least {a b : Int} (hb : 0 < b) : Least (frN a b) (frU a b) := by
  have nb : b ≠ 0 := by omega
  have gp := g_pos (a := a) nb
  have e : gS a b = (Int.gcd a b : Int) := by unfold gS; rw [if_neg (by omega), Int.mul_one]
  have hN := frN_mul (a := a) nb
  have hU := frU_mul (a := a) nb
  rw [e] at hN hU
  constructor
  · have z := Int.gcd_mul_right (frN a b) (Int.gcd a b : Int) (frU a b)
    rw [hN, hU, Int.natAbs_natCast] at z
    have := Nat.eq_of_mul_eq_mul_right gp (show Int.gcd (frN a b) (frU a b) * Int.gcd a b = 1 * Int.gcd a b by rw [← z, Nat.one_mul])
    exact this
  · by_cases q : frU a b ≤ 0
    · have : frU a b * (Int.gcd a b : Int) ≤ 0 * (Int.gcd a b : Int) := Int.mul_le_mul_of_nonneg_right q (by omega)
      rw [hU, Int.zero_mul] at this
      omega
    · omega
/-! ### run -/
abbrev rV (a b : Int) : DV := .obj 0 [.int a, .int b]
abbrev pT (a b : Int) : DV := .tup [.int a, .int b]
section
variable {a b : Int} {n k : Nat} {h : Hs}
theorem fr_s (s : Sz n b) (hn : 0 < n) (hn2 : n ≤ 8000) (hb : b ≠ 0) (h : Hs) : trF f__law_fr [.int a, .int b] h = .ok (pT (frN a b) (frU a b)) h := by
  refine cut_r ?_
  have g1 := gcd_s (x := a) s (by omega) h
  have sg : Sz n (Int.gcd a b : Nat) := by
    have := gS_sz (a := a) s hb
    unfold Sz at *
    rw [gS_abs] at this
    exact this
  have sgn : ∀ S : Sl, S[1]? = some (some (.int b)) → eIf (bCmp ltD (eSlot 1) (eC (.int (0)))) (eUn negD (eC (.int (1)))) (eC (.int (1))) S h = .ok (.int (if b < 0 then -1 else 1)) h := fun S e => by
    have c1 : bCmp ltD (eSlot 1) (eC (.int (0))) S h = .ok (decide (b < 0)) h := cmp_s (getN e) (v := .int 0) (h2 := h) rfl rfl
    rw [if_val c1]
    by_cases q : b < 0
    · rw [decide_eq_true q, if_pos q]; rfl
    · rw [decide_eq_false q, if_neg q]; rfl
  have s1 : Sz 1 (if b < 0 then -1 else 1) := by
    unfold Sz
    split <;> decide
  refine runF_rt (sl := [some (.int a), some (.int b), some (.int (gS a b))]) ?_
  refine (cons_nx (as_s (v := .int (gS a b)) (h1 := h) (sl1 := [some (.int a), some (.int b), some (.int (gS a b))]) ?_ rfl)).trans ?_
  · exact op_s ((call_s (args_two (u := .int a) (v := .int b) (h1 := h) (h2 := h) rfl rfl)).trans g1) (sgn _ rfl) (mul_s sg s1 hn (by decide) (by omega))
  refine cons_rt (ret_s ?_)
  have sz := gS_sz (a := a) s hb
  exact tup_of (args_two (op_s (u := .int a) (v := .int (gS a b)) (h1 := h) (h2 := h) rfl rfl (div_s sz hn hn2 (gS_ne hb))) (op_s (u := .int b) (v := .int (gS a b)) (h1 := h) (h2 := h) rfl rfl (div_s sz hn hn2 (gS_ne hb)))) (Nat.le_of_ble_eq_true rfl)
theorem is_integer_s (a : Int) (h : Hs) : trF f_is_integer [.int a] h = .ok (.bl true) h := by
  refine cut_r ?_
  rfl
theorem init_s (s : Sz n b) (hn : 0 < n) (hn2 : n ≤ 8000) (hb : b ≠ 0) (h : Hs) : f_Ratiodd_initdd [.ref h.length, .int a, .int b] (h ++ [.ins 0 []]) = .ok .non (h ++ [.ins 0 [some (.int (frN a b)), some (.int (frU a b))]]) := by
  let h1 := h ++ [DO.ins 0 []]
  let h2 := h ++ [DO.ins 0 [some (.int (frN a b))]]
  let h3 := h ++ [DO.ins 0 [some (.int (frN a b)), some (.int (frU a b))]]
  let S0 : Sl := [some (.ref h.length), some (.int a), some (.int b), none]
  let S1 : Sl := [some (.ref h.length), some (.int a), some (.int b), some (.int (Int.gcd a b : Nat))]
  let S2 : Sl := [some (.ref h.length), some (.int a), some (.int b), some (.int (gS a b))]
  have i1 : bNot (bE (eCall (trF f_is_integer) (aCons (eSlot 1) aNil))) S0 h1 = .ok false h1 := not_s (b := true) (bE_s ((call_s (args_one (v := .int a) (h1 := h1) rfl)).trans (is_integer_s a h1)))
  have i2 : bNot (bE (eCall (trF f_is_integer) (aCons (eSlot 2) aNil))) S0 h1 = .ok false h1 := not_s (b := true) (bE_s ((call_s (args_one (v := .int b) (h1 := h1) rfl)).trans (is_integer_s b h1)))
  have i3 : bCmp deqD (eSlot 2) (eC (.int (0))) S0 h1 = .ok false h1 := cmp_s (u := .int b) (v := .int 0) (h1 := h1) (h2 := h1) rfl rfl (by
    show R.ok (DV.bl (decide (b = 0))) h1 = _
    rw [decide_eq_false hb])
  have g1 := common_s (x := a) s (by omega) h1
  have n1 : (eIf (bCmp ltD (eSlot 2) (eC (.int (0)))) (eUn negD (eSlot 3)) (eSlot 3)) S1 h1 = .ok (.int (gS a b)) h1 := by
    have c1 : bCmp ltD (eSlot 2) (eC (.int (0))) S1 h1 = .ok (decide (b < 0)) h1 := cmp_s (u := .int b) (v := .int 0) (h1 := h1) (h2 := h1) rfl rfl rfl
    rw [if_val c1]
    unfold gS
    by_cases q : b < 0
    · rw [decide_eq_true q, if_pos q, Int.mul_neg, Int.mul_one]; rfl
    · rw [decide_eq_false q, if_neg q, Int.mul_one]; rfl
  have sz := gS_sz (a := a) s hb
  have d1 : (eOp fdivZ (eSlot 1) (eSlot 3)) S2 h1 = .ok (.int (frN a b)) h1 := op_s (u := .int a) (v := .int (gS a b)) (h1 := h1) (h2 := h1) rfl rfl (div_s sz hn hn2 (gS_ne hb))
  have d2 : (eOp fdivZ (eSlot 2) (eSlot 3)) S2 h2 = .ok (.int (frU a b)) h2 := op_s (u := .int b) (v := .int (gS a b)) (h1 := h2) (h2 := h2) rfl rfl (div_s sz hn hn2 (gS_ne hb))
  have st1 : sSlo so_own_number (eSlot 0) (eOp fdivZ (eSlot 1) (eSlot 3)) S2 h1 = .ok (.nx, S2) h2 := by
    generalize eOp fdivZ (eSlot 1) (eSlot 3) = E at d1
    simp only [runF, sCons, sNil, sIf, sRet, sRetN, sAs, sEx, eIf, eOp, eUn, eC, eSlot, eCall, aCons, aNil, bnd, D.ret, optM, gN, bCmp, boolOf, bNot, bE, bOr, bAnd, eAnd, eOr, truD, List.map_cons, List.map_nil, List.length_cons, List.length_nil, List.replicate_succ, List.replicate_zero, List.getElem?_cons_zero, List.getElem?_cons_succ, List.cons_append, List.nil_append, List.set_cons_zero, List.set_cons_succ, if_true, if_false, Bool.false_eq_true, Nat.reduceAdd, Nat.reduceSub, S2, sSlo, refOf, h1] at d1 ⊢
    simp only [d1, insAt_snoc, so_own_number, tabA, putO, set_snoc, runF, sCons, sNil, sIf, sRet, sRetN, sAs, sEx, eIf, eOp, eUn, eC, eSlot, eCall, aCons, aNil, bnd, D.ret, optM, gN, bCmp, boolOf, bNot, bE, bOr, bAnd, eAnd, eOr, truD, List.map_cons, List.map_nil, List.length_cons, List.length_nil, List.replicate_succ, List.replicate_zero, List.getElem?_cons_zero, List.getElem?_cons_succ, List.cons_append, List.nil_append, List.set_cons_zero, List.set_cons_succ, if_true, if_false, Bool.false_eq_true, Nat.reduceAdd, Nat.reduceSub, h2]
  have st2 : sSlo so_own_under (eSlot 0) (eOp fdivZ (eSlot 2) (eSlot 3)) S2 h2 = .ok (.nx, S2) h3 := by
    generalize eOp fdivZ (eSlot 2) (eSlot 3) = E at d2
    simp only [runF, sCons, sNil, sIf, sRet, sRetN, sAs, sEx, eIf, eOp, eUn, eC, eSlot, eCall, aCons, aNil, bnd, D.ret, optM, gN, bCmp, boolOf, bNot, bE, bOr, bAnd, eAnd, eOr, truD, List.map_cons, List.map_nil, List.length_cons, List.length_nil, List.replicate_succ, List.replicate_zero, List.getElem?_cons_zero, List.getElem?_cons_succ, List.cons_append, List.nil_append, List.set_cons_zero, List.set_cons_succ, if_true, if_false, Bool.false_eq_true, Nat.reduceAdd, Nat.reduceSub, S2, sSlo, refOf, h2] at d2 ⊢
    simp only [d2, insAt_snoc, so_own_under, tabA, putO, set_snoc, runF, sCons, sNil, sIf, sRet, sRetN, sAs, sEx, eIf, eOp, eUn, eC, eSlot, eCall, aCons, aNil, bnd, D.ret, optM, gN, bCmp, boolOf, bNot, bE, bOr, bAnd, eAnd, eOr, truD, List.map_cons, List.map_nil, List.length_cons, List.length_nil, List.replicate_succ, List.replicate_zero, List.getElem?_cons_zero, List.getElem?_cons_succ, List.cons_append, List.nil_append, List.set_cons_zero, List.set_cons_succ, if_true, if_false, Bool.false_eq_true, Nat.reduceAdd, Nat.reduceSub, h3]
  refine (bnd_s (a := (Fl.nx, S2)) (h1 := h3) ?_).trans rfl
  refine (cons_nx (sl1 := S0) (h1 := h1) ((if_no (noE_s ((or_no i1).trans ((or_no i2).trans i3)))).trans rfl)).trans ?_
  refine (cons_nx (sl1 := S1) (h1 := h1) (noE_s (as_s ((call_s (args_two (u := .int a) (v := .int b) (h1 := h1) (h2 := h1) rfl rfl)).trans g1) rfl))).trans ?_
  refine (cons_nx (sl1 := S2) (h1 := h1) (noE_s (as_s n1 rfl))).trans ?_
  refine (cons_nx (sl1 := S2) (h1 := h2) (noE_s st1)).trans ?_
  exact (cons_nx (sl1 := S2) (h1 := h3) (noE_s st2)).trans rfl
theorem make_s (s : Sz n b) (hn : 0 < n) (hn2 : n ≤ 8000) (hb : b ≠ 0) (h : Hs) : makeD 0 f_Ratiodd_initdd [.int a, .int b] h = .ok (rV (frN a b) (frU a b)) (h ++ [.dead]) := by
  unfold makeD
  rw [init_s s hn hn2 hb]
  simp only [at_snoc, allSome, set_snoc, Option.map_some]
theorem makeX_s (s : Sz n b) (hn : 0 < n) (hn2 : n ≤ 8000) (hb : b ≠ 0) (h : Hs) : makeX 0 f_Ratiodd_initdd [.int a, .int b] h = .ok (rV (frN a b) (frU a b)) (h ++ [.dead]) := by
  unfold makeX
  rw [init_s s hn hn2 hb]
  simp only [at_snoc, allSome, set_snoc, Option.map_some]
theorem bnd_e {α β : Type} {m : D.M α} {f : α → D.M β} {c : Nat} {v : DV} {h h1 : Hs} (e : m h = .err c v h1) : bnd m f h = .err c v h1 := by unfold bnd; rw [e]
/-- what no number is, not made -/
theorem init_bad {v u : DV} (e : (bOr (bNot (bE (eCall (trF f_is_integer) (aCons (eSlot 1) aNil)))) (bOr (bNot (bE (eCall (trF f_is_integer) (aCons (eSlot 2) aNil)))) (bCmp deqD (eSlot 2) (eC (.int (0)))))) [some (.ref h.length), some v, some u, none] (h ++ [.ins 0 []]) = .ok true (h ++ [.ins 0 []])) :
    f_Ratiodd_initdd [.ref h.length, v, u] (h ++ [.ins 0 []]) = .err 0 (.tup [v, u]) (h ++ [.ins 0 []]) := by
  refine bnd_e ?_
  refine bnd_e ?_
  refine (if_yes (noE_s e)).trans ?_
  refine bnd_e ?_
  rfl
theorem makeX_bad {v u : DV} (e : (bOr (bNot (bE (eCall (trF f_is_integer) (aCons (eSlot 1) aNil)))) (bOr (bNot (bE (eCall (trF f_is_integer) (aCons (eSlot 2) aNil)))) (bCmp deqD (eSlot 2) (eC (.int (0)))))) [some (.ref h.length), some v, some u, none] (h ++ [.ins 0 []]) = .ok true (h ++ [.ins 0 []])) :
    makeX 0 f_Ratiodd_initdd [v, u] h = .err 0 (.tup [v, u]) (h ++ [.ins 0 []]) := by
  unfold makeX
  rw [init_bad e]
theorem rat_e {x y : Ex} {sl : Sl} (s : Sz n b) (hn : 0 < n) (hn2 : n ≤ 8000) (hb : b ≠ 0) (e1 : x sl h = .ok (.int a) h) (e2 : y sl h = .ok (.int b) h) : eTr (eCall (makeD 0 f_Ratiodd_initdd) (aCons x (aCons y aNil))) sl h = .ok (rV (frN a b) (frU a b)) h := by
  refine tr_r (k := [.dead]) ?_
  exact (call_s (args_two e1 e2)).trans (make_s s hn hn2 hb h)
theorem one_ne : (1 : Int) ≠ 0 := by decide
theorem sz1 : Sz 1 1 := by show (1 : Int).natAbs < 2 ^ 1; decide
theorem fr1 (a : Int) : frN a 1 = a ∧ frU a 1 = 1 := by
  have l : Least a 1 := ⟨Int.gcd_one_right .., by decide⟩
  exact ⟨l.n, l.u⟩
theorem make1_s (a : Int) (h : Hs) : makeD 0 (fun ds => f_Ratiodd_initdd (ds ++ [.int (1)])) [.int a] h = .ok (rV a 1) (h ++ [.dead]) := by
  have z := init_s (a := a) sz1 (by decide) (by decide) one_ne h
  rw [(fr1 a).1, (fr1 a).2] at z
  unfold makeD
  show (match f_Ratiodd_initdd [.ref h.length, .int a, .int 1] (h ++ [.ins 0 []]) with
    | .ok .non h2 => _
    | _ => _) = _
  rw [z]
  simp only [at_snoc, allSome, set_snoc, Option.map_some]
end
end Lw
set_option Elab.async false
set_option linter.all false
set_option maxRecDepth 100000
set_option maxHeartbeats 4000000
/-! W2: what is shown. -/
namespace Lw
open PySem PySem.Spec PyProof.Rows L2 SlX D
theorem eor_no {a b : Ex} {sl : Sl} {h h1 : Hs} (e : a sl h = .ok (.bl false) h1) : eOr a b sl h = b sl h1 := by
  unfold eOr
  rw [bnd_s e]
  rfl
theorem eand_yes {a b : Ex} {sl : Sl} {h h1 : Hs} (e : a sl h = .ok (.bl true) h1) : eAnd a b sl h = b sl h1 := by
  unfold eAnd
  rw [bnd_s e]
  rfl
theorem eand_no {a b : Ex} {sl : Sl} {h h1 : Hs} (e : a sl h = .ok (.bl false) h1) : eAnd a b sl h = .ok (.bl false) h1 := by
  unfold eAnd
  rw [bnd_s e]
  rfl
theorem enot_s {a : Ex} {sl : Sl} {h h1 : Hs} {b : Bool} (e : a sl h = .ok (.bl b) h1) : eNot a sl h = .ok (.bl (!b)) h1 := by
  unfold eNot
  rw [bnd_s e]
  rfl
theorem tagged {T : Tag → Option Bool} {x : Ex} {sl : Sl} {h : Hs} {v : DV} {t : Tag} {b : Bool} (e : x sl h = .ok v h) (e2 : tagM v h = .ok t h) (e3 : T t = some b) : eIsi T x sl h = .ok (.bl b) h := by
  unfold eIsi
  rw [bnd_s e, bnd_s e2, e3]
  rfl
theorem blt_of {i : Int} (s : Sz 1900 i) : Nat.blt i.natAbs.log2 1920 = true := Nat.blt_eq.mpr (by have := s.log (by decide); omega)
theorem str_s {i : Int} (s : Sz 1900 i) (h : Hs) : strZ [.int i] h = .ok (.str (numZ i)) h := by
  show (if Nat.blt i.natAbs.log2 1920 then D.ret (DV.str (numZ i)) else stk) h = _
  rw [blt_of s]; rfl
theorem fmt_s {i : Int} (s : Sz 1900 i) (h : Hs) : fmtZ (.int i) h = .ok (.str (numZ i)) h := by
  show (if Nat.blt i.natAbs.log2 1920 then D.ret (DV.str (numZ i)) else stk) h = _
  rw [blt_of s]; rfl
theorem numL_le {n : Nat} (s : n < 2 ^ 1900) : (TL.numL n).length ≤ 1900 := TL.numL_len (by decide) (Nat.lt_of_lt_of_le s (Nat.pow_le_pow_left (by decide) 1900))
theorem numZ_len {i : Int} (s : Sz 1900 i) : (numZ i).length ≤ 1901 := by
  cases i with
  | ofNat n =>
    have := numL_le (n := n) s
    show (TL.numL n).length ≤ 1901
    omega
  | negSucc n =>
    have := numL_le (n := n + 1) s
    show (TL.numL (n + 1)).length + 1 ≤ 1901
    omega
theorem fmt_e {x : Ex} {sl : Sl} {h : Hs} {i : Int} (s : Sz 1900 i) (e : x sl h = .ok (.int i) h) : eFmtZ x sl h = .ok (.str (numZ i)) h := by
  unfold eFmtZ
  rw [bnd_s e]
  exact fmt_s s h
theorem js_cons {m : Ex} {ms : List Ex} {acc a : List Nat} {sl : Sl} {h : Hs} (e : m sl h = .ok (.str a) h) (hl : acc.length + a.length ≤ 100000) : jsD (m :: ms) acc sl h = jsD ms (acc ++ a) sl h := by
  show bnd (m sl) _ h = _
  rw [bnd_s e]
  show (if fits (acc ++ a).length then jsD ms (acc ++ a) sl else stk) h = _
  rw [fits_le (by rw [List.length_append]; omega)]
  rfl
section
variable {a b : Int} {h : Hs}
theorem at_n (h : Hs) : atD at_own_number (rV a b) h = .ok (.int a) h := rfl
theorem at_u (h : Hs) : atD at_own_under (rV a b) h = .ok (.int b) h := rfl
theorem num_e {x : Ex} {sl : Sl} (e : x sl h = .ok (rV a b) h) : eAttr at_own_number x sl h = .ok (.int a) h := attr_s e (at_n h)
theorem und_e {x : Ex} {sl : Sl} (e : x sl h = .ok (rV a b) h) : eAttr at_own_under x sl h = .ok (.int b) h := attr_s e (at_u h)
theorem u1_s {S : Sl} (e : eSlot 0 S h = .ok (rV a b) h) : bCmp deqD (eAttr at_own_under (eSlot 0)) (eC (.int (1))) S h = .ok (decide (b = 1)) h := cmp_s (und_e e) (v := .int 1) (h2 := h) rfl rfl
/-- "Ratio(" -/
def pR : List Nat := [82, 97, 116, 105, 111, 40]
/-- the shown text -/
def rpF (a b : Int) : List Nat := if b = 1 then pR ++ numZ a ++ [41] else pR ++ numZ a ++ [44, 32] ++ numZ b ++ [41]
theorem repr_s (sa : Sz 1900 a) (sb : Sz 1900 b) (h : Hs) : trF f_Ratiodd_reprdd [rV a b] h = .ok (.str (rpF a b)) h := by
  refine cut_r ?_
  let S : Sl := [some (rV a b)]
  refine runF_rt (sl := S) ?_
  have e0 : eSlot 0 S h = .ok (rV a b) h := rfl
  have c1 := u1_s (S := S) e0
  have l1 := numZ_len sa
  have l2 := numZ_len sb
  have f1 : eC (.str [82, 97, 116, 105, 111, 40]) S h = .ok (.str pR) h := rfl
  have f3 : eC (.str [41]) S h = .ok (.str [41]) h := rfl
  have f4 : eC (.str [44, 32]) S h = .ok (.str [44, 32]) h := rfl
  have fa := fmt_e sa (num_e e0)
  have fb := fmt_e sb (und_e e0)
  have p6 : pR.length = 6 := rfl
  unfold rpF
  by_cases q : b = 1
  · rw [decide_eq_true q] at c1
    rw [if_pos q]
    refine cons_rt ((if_yes c1).trans (cons_rt (ret_s ?_)))
    rw [js_cons f1 (by decide), js_cons fa (by rw [List.nil_append]; omega), js_cons f3 (by rw [List.nil_append, List.length_append]; show _ + 1 ≤ _; omega)]
    rfl
  · rw [decide_eq_false q] at c1
    rw [if_neg q]
    refine (cons_nx (sl1 := S) (h1 := h) ((if_no c1).trans rfl)).trans (cons_rt (ret_s ?_))
    rw [js_cons f1 (by decide), js_cons fa (by rw [List.nil_append]; omega), js_cons f4 (by rw [List.nil_append, List.length_append]; show _ + 2 ≤ _; omega), js_cons fb (by rw [List.nil_append, List.length_append, List.length_append]; show _ + 2 + _ ≤ _; omega),
      js_cons f3 (by rw [List.nil_append, List.length_append, List.length_append, List.length_append]; show _ + 2 + _ + 1 ≤ _; omega)]
    rfl
theorem repr_e (sa : Sz 1900 a) (sb : Sz 1900 b) (h : Hs) : reprOT ow_repr_0 [rV a b] h = .ok (.str (rpF a b)) h := by
  show bnd (trF f_Ratiodd_reprdd [rV a b]) _ h = _
  rw [bnd_s (repr_s sa sb h)]
  rfl
end
/-! ### data shown -/
/-- data that can be shown, of some size -/
structure Dat (h : Hs) (v : DV) (p : PyData) : Prop where
  e : pdN h 5 v = some p
  d : p.depth ≤ 10
  s : p.showable = true
  l : p.shown.length ≤ 2000
def Shn (h : Hs) (v : DV) : Prop := (isOb v = false ∧ ∃ p, Dat h v p) ∨ v = rV 1 1
theorem tx_len {x : Int} (s : Sz 1900 x) : (Str.ofString (toString x)).length ≤ 1921 := by
  have e := int_text_length_le (k := 1920) (by decide) (Nat.lt_of_lt_of_le (s.log (by decide)) (by decide))
  rw [PySem.ofString_length]
  omega
theorem shn_int {i : Int} (s : Sz 1900 i) (h : Hs) : Shn h (.int i) := .inl ⟨rfl, .int i, rfl, by simp [PyData.depth], by
  have := s.log (by decide)
  simp only [PyData.showable, decide_eq_true (show i.natAbs.log2 < 1920 by omega)], by
  have := tx_len s
  simp only [PyData.shown]
  omega⟩
theorem pair_len (x y : Str) : (tupleText [x, y]).length ≤ x.length + y.length + 10 := by
  have j := join_length_add [x, y] (by simp)
  simp only [piled_cons, piled_nil] at j
  unfold tupleText
  rw [strLen_append, strLen_append]
  have e1 : ((("(" : String) : Str)).length = 1 := rfl
  have e2 : ((((if [x, y].length == 1 then ",)" else ")") : String) : Str)).length ≤ 2 := by split <;> decide
  rw [e1]
  omega
theorem it_s {h : Hs} {v : DV} (s : Shn h v) : ∃ t, itT ow_repr_0 v h = .ok t h ∧ (SX.S t).length ≤ 2000 := by
  rcases s with ⟨ob, p, d⟩ | rfl
  · refine ⟨p.shown.cps.toList, ?_, by rw [strS]; exact d.l⟩
    have z : itT ow_repr_0 v h = (match pdN h 5 v with
      | some p => if p.depth ≤ 30 ∧ p.showable = true ∧ p.shown.length ≤ sizeLine then R.ok p.shown.cps.toList h else R.stuck
      | none => R.stuck) := by
      cases v <;> first | rfl | (cases ob)
    rw [z, d.e]
    have := d.d
    have l := d.l
    exact if_pos ⟨by omega, d.s, by rw [sizeLine_eq]; omega⟩
  · refine ⟨rpF 1 1, ?_, ?_⟩
    · show bnd (trF f_Ratiodd_reprdd [rV 1 1]) _ h = _
      rw [bnd_s (repr_s (sz1.mono (by decide)) (sz1.mono (by decide)) h)]
      rfl
    · rw [SX.S_len]
      show (pR ++ numZ 1 ++ [41]).length ≤ 2000
      rw [show numZ 1 = [49] from TL.numL_lt (n := 1) (by decide)]
      decide
/-- a pair shown -/
theorem shows_two {h : Hs} {x y : DV} (sx : Shn h x) (sy : Shn h y) : ∃ t, reprOT ow_repr_0 [.tup [x, y]] h = .ok (.str t) h := by
  by_cases ob : [x, y].any isOb = true
  · obtain ⟨t, e1, l1⟩ := it_s sx
    obtain ⟨u, e2, l2⟩ := it_s sy
    have e : itsT ow_repr_0 [x, y] h = .ok [t, u] h := by
      show bnd (itT ow_repr_0 x) _ h = _
      rw [bnd_s e1]
      show bnd (bnd (itT ow_repr_0 y) _) _ h = _
      unfold bnd
      rw [e2]
      rfl
    refine ⟨(tupleText ([t, u].map SX.S)).cps.toList, ?_⟩
    have z : reprOT ow_repr_0 [.tup [x, y]] = bnd (itsT ow_repr_0 [x, y]) fun ts => (if (tupleText (ts.map SX.S)).length ≤ sizeLine then D.ret (.str (tupleText (ts.map SX.S)).cps.toList) else stk) := by
      unfold reprOT
      exact if_pos ob
    rw [z, bnd_s e, if_pos (by
      have := pair_len (SX.S t) (SX.S u)
      rw [sizeLine_eq]
      show (tupleText [SX.S t, SX.S u]).length ≤ _
      omega)]
    rfl
  · have ob : [x, y].any isOb = false := by simpa using ob
    have z : reprOT ow_repr_0 [.tup [x, y]] = reprN (.tup [x, y]) := by
      unfold reprOT
      exact if_neg (by rw [ob]; exact Bool.false_ne_true)
    have nob : ∀ {v : DV}, Shn h v → isOb v = false → ∃ p, Dat h v p := fun {v} s e => by
      rcases s with ⟨_, p, d⟩ | rfl
      · exact ⟨p, d⟩
      · cases e
    simp only [List.any_cons, List.any_nil, Bool.or_false, Bool.or_eq_false_iff] at ob
    obtain ⟨p, d1⟩ := nob sx ob.1
    obtain ⟨q, d2⟩ := nob sy ob.2
    refine ⟨(PyData.tuple [p, q]).shown.cps.toList, ?_⟩
    rw [z]
    unfold reprN
    have e : pdN h 6 (.tup [x, y]) = some (.tuple [p, q]) := by
      show (match pdAll (pdN h 5) [x, y] with
        | some ps => some (PyData.tuple ps)
        | none => none) = _
      unfold pdAll
      rw [d1.e]
      unfold pdAll
      rw [d2.e]
      rfl
    rw [e]
    have a1 := d1.d
    have a2 := d2.d
    have b1 := d1.l
    have b2 := d2.l
    refine if_pos ⟨?_, ?_, ?_⟩
    · simp only [PyData.depth, PyData.depthAll]
      omega
    · simp only [PyData.showable, PyData.showableAll, d1.s, d2.s, Bool.and_self]
    · simp only [PyData.shown, PyData.shownAll]
      have := pair_len p.shown q.shown
      rw [sizeLine_eq]
      omega
end Lw
set_option Elab.async false
set_option linter.all false
set_option maxRecDepth 100000
set_option maxHeartbeats 4000000
/-! W3: a Ratio that is made. -/
namespace Lw
open PySem PySem.Spec PyProof.Rows L2 SlX D
theorem add_s {s t : List Nat} (hs : s.length + t.length ≤ 100000) {h : Hs} : addD (.str s) (.str t) h = .ok (.str (s ++ t)) h := by
  show (if fits (s.length + t.length) then D.ret (DV.str (s ++ t)) else stk) h = _
  rw [fits_le (by omega)]; rfl
theorem gS_flip {a b : Int} (hb : b < 0) : gS a b = -(gS (-a) (-b)) := by
  unfold gS
  have e : Int.gcd (-a) (-b) = Int.gcd a b := by unfold Int.gcd; rw [Int.natAbs_neg, Int.natAbs_neg]
  rw [e, if_pos hb, if_neg (by omega), Int.mul_neg]
theorem fr_flip {a b : Int} (hb : b < 0) : frN a b = frN (-a) (-b) ∧ frU a b = frU (-a) (-b) := by
  have nb : b ≠ 0 := by omega
  have nb2 : -b ≠ 0 := by omega
  have z := gS_ne (a := -a) nb2
  have f := gS_flip (a := a) hb
  have h1 := frN_mul (a := a) nb
  have h2 := frU_mul (a := a) nb
  have k1 := frN_mul (a := -a) nb2
  have k2 := frU_mul (a := -a) nb2
  rw [f, Int.mul_neg] at h1 h2
  constructor
  · apply Int.eq_of_mul_eq_mul_right z
    omega
  · apply Int.eq_of_mul_eq_mul_right z
    omega
theorem fr_least' {a b : Int} (hb : b ≠ 0) : Least (frN a b) (frU a b) := by
  by_cases q : 0 < b
  · exact fr_least q
  · have hb : b < 0 := by omega
    rw [(fr_flip hb).1, (fr_flip hb).2]
    exact fr_least (by omega)
theorem least_up {a b : Int} (l : Least a b) : Least (a + b) b := ⟨by
  have g := l.g
  first
    | (rw [Int.gcd_add_self_left]; exact g)
    | (rw [Int.gcd_add_right_left_self]; exact g)
    | (simpa using g), l.p⟩
section
variable {a b c d : Int} {h : Hs}
theorem i0 (h : Hs) : itemD (pT a b) (.int 0) h = .ok (.int a) h := rfl
theorem i1 (h : Hs) : itemD (pT a b) (.int 1) h = .ok (.int b) h := rfl
theorem it0 {i : Nat} {sl : Sl} (e : sl[i]? = some (some (pT a b))) : eOp itemD (eSlot i) (eC (.int (0))) sl h = .ok (.int a) h := op_s (getN e) (v := .int 0) (h2 := h) rfl (i0 h)
theorem it1 {i : Nat} {sl : Sl} (e : sl[i]? = some (some (pT a b))) : eOp itemD (eSlot i) (eC (.int (1))) sl h = .ok (.int b) h := op_s (getN e) (v := .int 1) (h2 := h) rfl (i1 h)
theorem eq_s (h : Hs) : trF f_Ratiodd_eqdd [rV a b, rV c d] h = .ok (.bl (decide (a = c) && decide (b = d))) h := by
  refine cut_r ?_
  let S : Sl := [some (rV a b), some (rV c d)]
  refine runF_rt (sl := S) (cons_rt (ret_s ?_))
  have e1 : eOp deqD (eAttr at_own_number (eSlot 0)) (eAttr at_own_number (eSlot 1)) S h = .ok (.bl (decide (a = c))) h := op_s (num_e (a := a) (b := b) (h := h) rfl) (num_e (a := c) (b := d) (h := h) rfl) rfl
  have e2 : eOp deqD (eAttr at_own_under (eSlot 0)) (eAttr at_own_under (eSlot 1)) S h = .ok (.bl (decide (b = d))) h := op_s (und_e (a := a) (b := b) (h := h) rfl) (und_e (a := c) (b := d) (h := h) rfl) rfl
  have e0 : eIsi isi_Ratio (eSlot 1) S h = .ok (.bl true) h := rfl
  refine (eand_yes e0).trans ?_
  by_cases q : a = c
  · rw [decide_eq_true q] at e1 ⊢
    exact (eand_yes e1).trans e2
  · rw [decide_eq_false q] at e1 ⊢
    exact eand_no e1
theorem eq_odd {v : DV} {t : Tag} (e : tagM v h = .ok t h) (n : isi_Ratio t = some false) : trF f_Ratiodd_eqdd [rV a b, v] h = .ok (.bl false) h := by
  refine cut_r ?_
  let S : Sl := [some (rV a b), some v]
  refine runF_rt (sl := S) (cons_rt (ret_s ?_))
  exact eand_no (tagged (v := v) rfl e n)
theorem own_s (h : Hs) : ownAD ow_eq_0 deqD (rV a b) (rV c d) h = .ok (.bl (decide (a = c) && decide (b = d))) h := by
  show bnd (tagM (rV c d)) (fun _ => bnd (optM (ow_eq_0 0)) fun k => k [rV a b, rV c d]) h = _
  exact eq_s h
theorem own_odd {v : DV} {t : Tag} (e : tagM v h = .ok t h) (n : isi_Ratio t = some false) : ownAD ow_eq_0 deqD (rV a b) v h = .ok (.bl false) h := by
  show bnd (tagM v) (fun _ => bnd (optM (ow_eq_0 0)) fun k => k [rV a b, v]) h = _
  rw [bnd_s e]
  exact eq_odd e n
theorem ne_own (h : Hs) : neO ow_eq_0 dneD (rV a b) (rV c d) h = .ok (.bl (!(decide (a = c) && decide (b = d)))) h := by
  show bnd (trF f_Ratiodd_eqdd [rV a b, rV c d]) _ h = _
  rw [bnd_s (eq_s h)]
  rfl
theorem ne_str (t : List Nat) (h : Hs) : neO ow_eq_0 dneD (.str t) (.str t) h = .ok (.bl false) h := by
  show R.ok (DV.bl (!eqS t t)) h = _
  rw [eqS_self]; rfl
end
theorem made_s {top low : Int} (s1 : Sz 40 top) (s2 : Sz 40 low) (hb : low ≠ 0) (h : Hs) : trF f__law_is_made [.int top, .int low] h = .ok (.bl true) h := by
  refine cut_r ?_
  have l := fr_least' (a := top) hb
  have sN := frN_sz s1 hb
  have sU := frU_sz (a := top) s2 hb
  have fr := fr_s (a := top) s2 (by decide) (by decide) hb h
  have mk : eTr (eCall (makeD 0 f_Ratiodd_initdd) (aCons (eSlot 0) (aCons (eSlot 1) aNil))) [some (.int top), some (.int low), none, none, none] h = .ok (rV (frN top low) (frU top low)) h := rat_e s2 (by decide) (by decide) hb rfl rfl
  generalize frN top low = a at *
  generalize frU top low = b at *
  have sa : Sz 1900 a := sN.mono (by decide)
  have sb : Sz 1900 b := sU.mono (by decide)
  let S1 : Sl := [some (.int top), some (.int low), some (rV a b), some (pT a b), none]
  let S2 : Sl := [some (.int top), some (.int low), some (rV a b), some (pT a b), some (.str (rpF a b))]
  refine runF_rt (sl := S2) ?_
  have p1 : (aCons (eTr (eCall (makeD 0 f_Ratiodd_initdd) (aCons (eSlot 0) (aCons (eSlot 1) aNil)))) (aCons (eCall (trF f__law_fr) (aCons (eSlot 0) (aCons (eSlot 1) aNil))) aNil)) [some (.int top), some (.int low), none, none, none] h = .ok [rV a b, pT a b] h :=
    args_two mk ((call_s (args_two (u := .int top) (v := .int low) (h1 := h) (h2 := h) rfl rfl)).trans fr)
  refine (cons_nx (sl1 := S1) (h1 := h) ?_).trans ?_
  · unfold sPar
    rw [show (List.map some [DV.int top, DV.int low] ++ List.replicate (5 - [DV.int top, DV.int low].length) none) = [some (.int top), some (.int low), none, none, none] from rfl, bnd_s p1]
    rfl
  obtain ⟨t, e⟩ := shows_two (shn_int sa h) (shn_int sb h)
  have n1 : trF f_Ratio_number [rV a b] h = .ok (.int a) h := cut_r rfl
  have n2 : trF f_Ratio_under [rV a b] h = .ok (.int b) h := cut_r rfl
  have t1 : eTup (aCons (eAttr at_number (eSlot 2)) (aCons (eAttr at_under (eSlot 2)) aNil)) S1 h = .ok (pT a b) h := tup_of (args_two (attr_s (u := rV a b) (h1 := h) rfl n1) (attr_s (u := rV a b) (h1 := h) rfl n2)) (Nat.le_of_ble_eq_true rfl)
  have k1 := (call_s (args_one t1)).trans e
  have k2 : eCall (reprOT ow_repr_0) (aCons (eSlot 3) aNil) S1 h = .ok (.str t) h := (call_s (args_one (v := pT a b) (h1 := h) rfl)).trans e
  refine (cons_nx (sl1 := S1) (h1 := h) ((if_no (cmp_s k1 k2 (ne_str t h))).trans rfl)).trans ?_
  have la := numZ_len sa
  have lb := numZ_len sb
  have x0 : eCall strZ (aCons (eOp itemD (eSlot 3) (eC (.int (0)))) aNil) S1 h = .ok (.str (numZ a)) h := (call_s (args_one (it0 rfl))).trans (str_s sa h)
  have x1 : eCall strZ (aCons (eOp itemD (eSlot 3) (eC (.int (1)))) aNil) S1 h = .ok (.str (numZ b)) h := (call_s (args_one (it1 rfl))).trans (str_s sb h)
  have x2 : eOp addD (eC (.str [82, 97, 116, 105, 111, 40])) (eCall strZ (aCons (eOp itemD (eSlot 3) (eC (.int (0)))) aNil)) S1 h = .ok (.str (pR ++ numZ a)) h := op_s (u := .str pR) (h1 := h) rfl x0 (add_s (by show 6 + _ ≤ _; omega))
  have l2 : (pR ++ numZ a).length ≤ 1907 := by rw [List.length_append]; show 6 + _ ≤ _; omega
  have l3 : ([44, 32] ++ numZ b).length ≤ 1903 := by rw [List.length_append]; show 2 + _ ≤ _; omega
  have c1 : bCmp (ownAD ow_eq_0 deqD) (eOp itemD (eSlot 3) (eC (.int (1)))) (eC (.int (1))) S1 h = .ok (decide (b = 1)) h := cmp_s (it1 rfl) (v := .int 1) (h2 := h) rfl rfl
  have tx : (eOp addD (eOp addD (eOp addD (eC (.str [82, 97, 116, 105, 111, 40])) (eCall strZ (aCons (eOp itemD (eSlot 3) (eC (.int (0)))) aNil))) (eIf (bCmp (ownAD ow_eq_0 deqD) (eOp itemD (eSlot 3) (eC (.int (1)))) (eC (.int (1)))) (eC (.str [])) (eOp addD (eC (.str [44, 32])) (eCall strZ (aCons (eOp itemD (eSlot 3) (eC (.int (1)))) aNil))))) (eC (.str [41]))) S1 h = .ok (.str (rpF a b)) h := by
    unfold rpF
    by_cases q : b = 1
    · rw [decide_eq_true q] at c1
      rw [if_pos q]
      have y : eIf (bCmp (ownAD ow_eq_0 deqD) (eOp itemD (eSlot 3) (eC (.int (1)))) (eC (.int (1)))) (eC (.str [])) (eOp addD (eC (.str [44, 32])) (eCall strZ (aCons (eOp itemD (eSlot 3) (eC (.int (1)))) aNil))) S1 h = .ok (.str []) h := (if_val c1).trans rfl
      have z := op_s (y := eC (.str [41])) (op_s x2 y (add_s (by show _ + 0 ≤ _; omega))) (v := .str [41]) (h2 := h) rfl (add_s (h := h) (by rw [List.append_nil]; show _ + 1 ≤ _; omega))
      rw [List.append_nil] at z
      exact z
    · rw [decide_eq_false q] at c1
      rw [if_neg q]
      have y : eIf (bCmp (ownAD ow_eq_0 deqD) (eOp itemD (eSlot 3) (eC (.int (1)))) (eC (.int (1)))) (eC (.str [])) (eOp addD (eC (.str [44, 32])) (eCall strZ (aCons (eOp itemD (eSlot 3) (eC (.int (1)))) aNil))) S1 h = .ok (.str ([44, 32] ++ numZ b)) h := (if_val c1).trans (op_s (u := .str [44, 32]) (h1 := h) rfl x1 (add_s (by show 2 + _ ≤ _; omega)))
      have z := op_s (y := eC (.str [41])) (op_s x2 y (add_s (by omega))) (v := .str [41]) (h2 := h) rfl (add_s (h := h) (by rw [List.length_append]; show _ + 1 ≤ _; omega))
      rw [← List.append_assoc] at z
      exact z
  refine (cons_nx (as_s (sl1 := S2) tx rfl)).trans ?_
  have r1 : eCall (reprOT ow_repr_0) (aCons (eSlot 2) aNil) S2 h = .ok (.str (rpF a b)) h := (call_s (args_one (v := rV a b) (h1 := h) rfl)).trans (repr_e sa sb h)
  have m1 : eTr (eCall (makeD 0 f_Ratiodd_initdd) (aCons (eOp itemD (eSlot 3) (eC (.int (0)))) (aCons (eOp itemD (eSlot 3) (eC (.int (1)))) aNil))) S2 h = .ok (rV a b) h := by
    have z := rat_e (x := eOp itemD (eSlot 3) (eC (.int (0)))) (y := eOp itemD (eSlot 3) (eC (.int (1)))) (sl := S2) sU (by decide) (by decide) l.ne (it0 (h := h) rfl) (it1 rfl)
    rw [l.n, l.u] at z
    exact z
  have q1 : bCmp (neO ow_eq_0 dneD) (eCall (reprOT ow_repr_0) (aCons (eSlot 2) aNil)) (eSlot 4) S2 h = .ok false h := cmp_s r1 (v := .str (rpF a b)) (h2 := h) rfl (ne_str _ h)
  have q2 : bCmp (ownAD ow_eq_0 deqD) (eSlot 2) (eTr (eCall (makeD 0 f_Ratiodd_initdd) (aCons (eOp itemD (eSlot 3) (eC (.int (0)))) (aCons (eOp itemD (eSlot 3) (eC (.int (1)))) aNil)))) S2 h = .ok true h := cmp_s (u := rV a b) (h1 := h) rfl m1 (by rw [own_s, decide_eq_true rfl, decide_eq_true rfl]; rfl)
  refine (cons_nx (sl1 := S2) (h1 := h) ((if_no ((or_no q1).trans (not_s q2))).trans rfl)).trans (cons_rt (ret_s ?_))
  have o1 : eOp (ownAD ow_eq_0 deqD) (eSlot 2) (eSlot 3) S2 h = .ok (.bl false) h := op_s (u := rV a b) (v := pT a b) (h1 := h) (h2 := h) rfl rfl (own_odd (t := .tup) rfl rfl)
  have o2 : eOp (ownAD ow_eq_0 deqD) (eSlot 2) (eOp itemD (eSlot 3) (eC (.int (0)))) S2 h = .ok (.bl false) h := op_s (u := rV a b) (h1 := h) rfl (it0 (a := a) (b := b) rfl) (own_odd (t := .int) rfl rfl)
  have lu := least_up l
  have o3 : eOp (neO ow_eq_0 dneD) (eSlot 2) (eTr (eCall (makeD 0 f_Ratiodd_initdd) (aCons (eOp addD (eOp itemD (eSlot 3) (eC (.int (0)))) (eOp itemD (eSlot 3) (eC (.int (1))))) (aCons (eOp itemD (eSlot 3) (eC (.int (1)))) aNil)))) S2 h = .ok (.bl true) h := by
    have z := rat_e (a := a + b) (x := eOp addD (eOp itemD (eSlot 3) (eC (.int (0)))) (eOp itemD (eSlot 3) (eC (.int (1))))) (y := eOp itemD (eSlot 3) (eC (.int (1)))) (sl := S2) sU (by decide) (by decide) l.ne (op_s (it0 (h := h) rfl) (it1 rfl) rfl) (it1 rfl)
    rw [lu.n, lu.u] at z
    refine op_s (u := rV a b) (h1 := h) rfl z ?_
    have p := l.p
    rw [ne_own, decide_eq_false (show ¬ a = a + b by omega)]
    rfl
  have o4 : eOp (ownAD ow_eq_0 deqD) (eSlot 2) (eSlot 4) S2 h = .ok (.bl false) h := op_s (u := rV a b) (v := .str (rpF a b)) (h1 := h) (h2 := h) rfl rfl (own_odd (t := .str) rfl rfl)
  exact (eand_yes (enot_s o1)).trans ((eand_yes (enot_s o2)).trans ((eand_yes o3).trans (enot_s o4)))
end Lw
set_option Elab.async false
set_option linter.all false
set_option maxRecDepth 100000
set_option maxHeartbeats 4000000
/-! W4: what is refused. -/
namespace Lw
open PySem PySem.Spec PyProof.Rows L2 SlX D
noncomputable def bR : Sx := (sCons (sRet (eAnd (eIsx isn isx_BadRatio (eSlot 2)) (eOp deqD (eCall (reprOT ow_repr_0) (aCons (eVal (eSlot 2)) aNil)) (eCall (reprOT ow_repr_0) (aCons (eSlot 1) aNil))))) sNil)
theorem refused_s {m me : Ex} {sl : Sl} {h h1 : Hs} {v u : DV} (e1 : me sl h = .ok (.tup [v, u]) h) (e2 : m sl h = .err 0 (.tup [v, u]) h1) (sv : Shn h1 v) (su : Shn h1 u) : eRefused m me bR sl h = .ok (.bl true) h1 := by
  obtain ⟨t, e⟩ := shows_two sv su
  have e3 : eHeard m sl h = .ok (.tup [.exc 0 (.tup [v, u]), .non]) h1 := by unfold eHeard; rw [e2]
  have e4 : itemD (.tup [.exc 0 (.tup [v, u]), .non]) (.int 0) h1 = .ok (.exc 0 (.tup [v, u])) h1 := rfl
  have e5 : bR [none, some (.tup [v, u]), some (.exc 0 (.tup [v, u]))] h1 = .ok (.rt (.bl true), [none, some (.tup [v, u]), some (.exc 0 (.tup [v, u]))]) h1 := by
    refine cons_rt (ret_s ?_)
    have i1 : eIsx isn isx_BadRatio (eSlot 2) [none, some (.tup [v, u]), some (.exc 0 (.tup [v, u]))] h1 = .ok (.bl true) h1 := rfl
    refine (eand_yes i1).trans ?_
    exact op_s ((call_s (args_one (v := .tup [v, u]) (h1 := h1) rfl)).trans e) ((call_s (args_one (v := .tup [v, u]) (h1 := h1) rfl)).trans e) (eqS_s t h1)
  unfold eRefused
  rw [bnd_s e1, bnd_s e3, bnd_s e4, bnd_s e5]
  rfl
/-! ### values of other kinds -/
def flatO : List DV := [.non, .bl true, .bl false, .str [49], .tup [.int 1], .str [49, 47, 50], .tup []]
def objO : List DO := [.lst [.int 1], .dic []]
def OddV (m : Nat) (h : Hs) (v : DV) : Prop := (v ∈ flatO ∨ v = rV 1 1) ∨ ∃ r o, v = .ref r ∧ r ≠ m ∧ h[r]? = some o ∧ o ∈ objO
theorem OddV.keep {m : Nat} {h h' : Hs} {v : DV} (x : OddV m h v) (k : ∀ n o, n ≠ m → h[n]? = some o → h'[n]? = some o) : OddV m h' v := by
  rcases x with x | ⟨r, o, e, ne, ho, mo⟩
  · exact .inl x
  · exact .inr ⟨r, o, e, ne, k r o ne ho, mo⟩
theorem OddV.app {m : Nat} {h k : Hs} {v : DV} (x : OddV m h v) : OddV m (h ++ k) v := x.keep fun n o _ e => at_app e
def okP (p : PyData) : Bool := decide (p.depth ≤ 10) && (p.showable && decide (p.shown.length ≤ 2000))
theorem okP_ok {p : PyData} (h : okP p = true) : p.depth ≤ 10 ∧ p.showable = true ∧ p.shown.length ≤ 2000 := by
  unfold okP at h
  rw [Bool.and_eq_true, Bool.and_eq_true] at h
  exact ⟨of_decide_eq_true h.1, h.2.1, of_decide_eq_true h.2.2⟩
def datF : List PyData := [.none, .bool true, .bool false, .str (SX.S [49]), .tuple [.int 1], .str (SX.S [49, 47, 50]), .tuple []]
def datO : List PyData := [.list [.int 1], .dict []]
theorem datF_ok : datF.all okP = true := by decide +kernel
theorem datO_ok : datO.all okP = true := by decide +kernel
theorem flat_dat (h : Hs) : flatO.map (pdN h 5) = datF.map some := rfl
theorem odd_shn {m : Nat} {h : Hs} {v : DV} (x : OddV m h v) : Shn h v := by
  rcases x with (x | x) | ⟨r, o, rfl, _, ho, mo⟩
  · have q : pdN h 5 v ∈ datF.map some := by rw [← flat_dat h]; exact List.mem_map.mpr ⟨v, x, rfl⟩
    obtain ⟨p, hp, e⟩ := List.mem_map.mp q
    obtain ⟨a, b, c⟩ := okP_ok (List.all_eq_true.mp datF_ok p hp)
    refine .inl ⟨?_, p, e.symm, a, b, c⟩
    simp only [flatO, List.mem_cons, List.not_mem_nil, or_false] at x
    rcases x with rfl | rfl | rfl | rfl | rfl | rfl | rfl <;> rfl
  · exact .inr x
  · have q : pdN h 5 (.ref r) ∈ datO.map some := by
      have e : pdN h 5 (.ref r) = (match h[r]? with
        | some (.lst ds) => (match pdAll (pdN h 4) ds with
          | some ps => some (PyData.list ps)
          | none => none)
        | some (.dic kvs) => (match kvsF (pdN h 4) kvs with
          | some ps => some (PyData.dict ps)
          | none => none)
        | _ => none) := rfl
      rw [e, ho]
      simp only [objO, List.mem_cons, List.not_mem_nil, or_false] at mo
      rcases mo with rfl | rfl <;> simp [datO, kvsF, keyF, pdAll, pdN]
    obtain ⟨p, hp, e⟩ := List.mem_map.mp q
    obtain ⟨a, b, c⟩ := okP_ok (List.all_eq_true.mp datO_ok p hp)
    exact .inl ⟨rfl, p, e.symm, a, b, c⟩
theorem odd_int {m : Nat} {h : Hs} {v : DV} (x : OddV m h v) : trF f_is_integer [v] h = .ok (.bl false) h := by
  refine cut_r ?_
  refine runF_rt (sl := [some v]) (cons_rt (ret_s ?_))
  have fl : ∀ {t : Tag}, tagM v h = .ok t h → isi_int t = some false → eAnd (eIsi isi_int (eSlot 0)) (eNot (eIsi isi_bool (eSlot 0))) [some v] h = .ok (.bl false) h := fun e n => eand_no (tagged (v := v) rfl e n)
  have bl : ∀ b, v = .bl b → eAnd (eIsi isi_int (eSlot 0)) (eNot (eIsi isi_bool (eSlot 0))) [some v] h = .ok (.bl false) h := fun b e => by
    subst e
    exact (eand_yes (tagged (v := .bl b) (t := .bl) rfl rfl rfl)).trans (enot_s (tagged (v := .bl b) (t := .bl) (b := true) rfl rfl rfl))
  rcases x with (x | rfl) | ⟨r, o, rfl, _, ho, mo⟩
  · simp only [flatO, List.mem_cons, List.not_mem_nil, or_false] at x
    rcases x with rfl | rfl | rfl | rfl | rfl | rfl | rfl
    · exact fl (t := .non) rfl rfl
    · exact bl _ rfl
    · exact bl _ rfl
    · exact fl (t := .str) rfl rfl
    · exact fl (t := .tup) rfl rfl
    · exact fl (t := .str) rfl rfl
    · exact fl (t := .tup) rfl rfl
  · exact fl (t := .ob 0) rfl rfl
  · simp only [objO, List.mem_cons, List.not_mem_nil, or_false] at mo
    rcases mo with rfl | rfl
    · exact fl (t := .lst) (by unfold tagM; dsimp only; rw [ho]) rfl
    · exact fl (t := .dic) (by unfold tagM; dsimp only; rw [ho]) rfl
section
variable {h : Hs} {m : Nat}
theorem g1 {S : Sl} {i : Nat} {v : DV} {b : Bool} (e : S[i]? = some (some v)) (e2 : trF f_is_integer [v] h = .ok (.bl b) h) : bNot (bE (eCall (trF f_is_integer) (aCons (eSlot i) aNil))) S h = .ok (!b) h := not_s (bE_s ((call_s (args_one (getN e))).trans e2))
theorem bad_zero (a : Int) (h : Hs) : makeX 0 f_Ratiodd_initdd [.int a, .int 0] h = .err 0 (.tup [.int a, .int 0]) (h ++ [.ins 0 []]) :=
  makeX_bad ((or_no (g1 (b := true) rfl (is_integer_s a _))).trans ((or_no (g1 (b := true) rfl (is_integer_s 0 _))).trans rfl))
theorem bad_left {v u : DV} (x : OddV m h v) : makeX 0 f_Ratiodd_initdd [v, u] h = .err 0 (.tup [v, u]) (h ++ [.ins 0 []]) :=
  makeX_bad (or_yes (g1 (b := false) rfl (odd_int x.app)))
theorem bad_right {a : Int} {u : DV} (x : OddV m h u) : makeX 0 f_Ratiodd_initdd [.int a, u] h = .err 0 (.tup [.int a, u]) (h ++ [.ins 0 []]) :=
  makeX_bad ((or_no (g1 (b := true) rfl (is_integer_s a _))).trans (or_yes (g1 (b := false) rfl (odd_int x.app))))
end
end Lw
set_option Elab.async false
set_option linter.all false
set_option maxRecDepth 100000
set_option maxHeartbeats 4000000
/-! W5: draws; the law. -/
namespace Lw
open PySem PySem.Spec PyProof.Rows L2 SlX D
abbrev T0 : Hs → Prop := fun _ => True
theorem take_eq : f__law_take = takeB 100595 38 10065 92 := rfl
theorem of_eq : f__law_of = ofB (trF f__law_take) := rfl
/-- the heap h0, its pot behind n draws, and more -/
def St (h0 : Hs) (m n : Nat) (h : Hs) : Prop := ∃ (i j c : Int) (t : Hs), h = h0.set m (potL i j c) ++ t ∧ PotSt n j c
theorem St.pot {h0 h : Hs} {m n : Nat} (s : St h0 m n h) (hm : m < h0.length) : ∃ i j c, h[m]? = some (potL i j c) ∧ PotSt n j c := by
  obtain ⟨i, j, c, t, rfl, p⟩ := s
  exact ⟨i, j, c, get_app hm, p⟩
theorem St.app {h0 h k : Hs} {m n : Nat} (s : St h0 m n h) : St h0 m n (h ++ k) := by
  obtain ⟨i, j, c, t, rfl, p⟩ := s
  exact ⟨i, j, c, t ++ k, by rw [List.append_assoc], p⟩
theorem St.draw {h0 h t' : Hs} {m n n' : Nat} {i j c : Int} (s : St h0 m n h) (hm : m < h0.length) (p : PotSt n' j c) : St h0 m n' (h.set m (potL i j c) ++ t') := by
  obtain ⟨i1, j1, c1, t, rfl, _⟩ := s
  exact ⟨i, j, c, t ++ t', by rw [set_app hm, List.append_assoc], p⟩
theorem St.more {h0 h : Hs} {m n n' : Nat} (s : St h0 m n h) (hn : n ≤ n') : St h0 m n' h := by
  obtain ⟨i, j, c, t, e, p⟩ := s
  exact ⟨i, j, c, t, e, p.1, p.2.1, p.2.2.1, by have := p.2.2.2; omega⟩
theorem St.len {h0 h : Hs} {m n : Nat} (s : St h0 m n h) : h0.length ≤ h.length := by
  obtain ⟨i, j, c, t, rfl, _⟩ := s
  rw [List.length_append, List.length_set]
  omega
theorem keep_set {h t : Hs} {m : Nat} {x : DO} {n : Nat} {o : DO} (ne : n ≠ m) (e : h[n]? = some o) : (h.set m x ++ t)[n]? = some o := by
  have hl := (List.getElem?_eq_some_iff.mp e).1
  rw [List.getElem?_append_left (by rw [List.length_set]; exact hl), List.getElem?_set_ne (Ne.symm ne)]
  exact e
theorem run_p {α : Type} {g : D.M α} {m k n : Nat} {P : α → Prop} {h0 h : Hs} (x : PJ T0 g m k P) (s : St h0 m n h) (hm : m < h0.length) (hn : n + k ≤ 1000000) : ∃ a h2, g h = .ok a h2 ∧ P a ∧ St h0 m (n + k) h2 := by
  obtain ⟨i, j, c, e, p⟩ := s.pot hm
  obtain ⟨a, i', j', c', t, e1, p1, q⟩ := x h i j c n True.intro e p hn
  exact ⟨a, _, e1, q, s.draw hm p1⟩
section
variable {F : Hs → Prop} {m : Nat}
theorem tk (u : Nat) (h1 : 1 ≤ u) (h2 : u ≤ 1000000) : PJ F (trF f__law_take [.ref m, .int u]) m 1 (fun v => ∃ d : Nat, d < u ∧ v = .int d) := by
  rw [take_eq]
  exact pj_take (by decide) (by decide) (by decide) (by decide) h1 h2
theorem pj_cg {α : Type} {g g' : D.M α} {k : Nat} {P : α → Prop} (e : ∀ h, g h = g' h) (x : PJ F g' m k P) : PJ F g m k P := fun h i j c n hF hm st hn => by
  obtain ⟨a, i', j', c', t, e1, s, p⟩ := x h i j c n hF hm st hn
  exact ⟨a, i', j', c', t, (e h).trans e1, s, p⟩
theorem pj_acons {x : Ex} {ms : Exs} {sl : Sl} {P : DV → Prop} {P' : List DV → Prop} {k k' : Nat} (st : Stab F m) (a : PJ F (x sl) m k P) (b : PJ F (ms sl) m k' P') : PJ F (aCons x ms sl) m (k + k') (fun ds => ∃ u us, ds = u :: us ∧ P u ∧ P' us) := by
  have z := pj_bnd (k' := k') (Q := fun ds : List DV => ∃ u us, ds = u :: us ∧ P u ∧ P' us) (f := fun u => bnd (ms sl) fun ds => D.ret (u :: ds)) st a fun u hu => by
    have w := pj_bnd (k' := 0) (Q := fun ds : List DV => ∃ u us, ds = u :: us ∧ P u ∧ P' us) (f := fun ds => D.ret (u :: ds)) st b fun us hus => pj_pure (a := u :: us) (fun _ _ => rfl) ⟨u, us, rfl, hu, hus⟩
    exact w
  exact z
end
theorem of_at {m r n : Nat} {ds : List DV} {h : Hs} {i j c : Int} (hr : h[r]? = some (.lst ds)) (hm : h[m]? = some (potL i j c)) (s : PotSt n j c) (hn : n + 1 ≤ 1000000) (ne : r ≠ m) (h1 : 1 ≤ ds.length) (h2 : ds.length ≤ 1000000) (hb : ∀ v ∈ ds, belV h.length v = true) :
    ∃ v i' j' c', trF f__law_of [.ref m, .ref r] h = .ok v (h.set m (potL i' j' c')) ∧ PotSt (n + 1) j' c' ∧ v ∈ ds := by
  obtain ⟨v, i', j', c', t, e, s', d, hd, rfl⟩ := tk (F := T0) (m := m) ds.length h1 h2 h i j c n True.intro hm s hn
  refine ⟨ds[d], i', j', c', ?_, s', List.getElem_mem hd⟩
  have hr2 : (h.set m (potL i' j' c') ++ t)[r]? = some (.lst ds) := keep_set ne hr
  rw [of_eq]
  refine cut_s (h1 := h.set m (potL i' j' c') ++ t) ?_ (hb _ (List.getElem_mem hd)) (cutSet potBel)
  refine runF_rt (sl := [some (.ref m), some (.ref r)]) ?_
  refine cons_rt (ret_s ?_)
  have ln : eCall lenD (aCons (eSlot 1) aNil) [some (.ref m), some (.ref r)] h = .ok (.int (ds.length : Nat)) h := by
    refine (call_s (args_one (v := .ref r) (h1 := h) rfl)).trans ?_
    show (match h[r]? with
      | some (.lst xs) => R.ok (DV.int (xs.length : Nat)) h
      | some (.dic ks) => R.ok (DV.int (ks.length : Nat)) h
      | _ => .stuck) = _
    rw [hr]
  refine op_s (u := .ref r) (h1 := h) rfl ((call_s (cons_s (u := .ref m) (h1 := h) rfl (args_one ln))).trans e) ?_
  show bnd (lsAt r) (fun xs => optM (L2.atI xs (d : Nat))) _ = _
  rw [bnd_s (lsAt_of hr2)]
  show optM (L2.atI ds (d : Nat)) _ = _
  rw [atI_lt hd]
  rfl
section
variable {m : Nat}
theorem pj_of_lst {ms : Exs} {sl : Sl} {k : Nat} {P : List DV → Prop} (h0 : sl[0]? = some (some (.ref m))) (x : PJ T0 (ms sl) m k P) (hp : ∀ ds, P ds → 1 ≤ ds.length ∧ ds.length ≤ 1000 ∧ ∀ v ∈ ds, ∀ n, belV n v = true) : PJ T0 (eCall (trF f__law_of) (aCons (eSlot 0) (aCons (eLst ms) aNil)) sl) m (k + 1) (fun v => ∃ ds, P ds ∧ v ∈ ds) := fun h i j c n hF hm st hn => by
  have hlt := (List.getElem?_eq_some_iff.mp hm).1
  obtain ⟨ds, i1, j1, c1, t1, e1, p1, q⟩ := x h i j c n hF hm st (by omega)
  obtain ⟨l1, l2, hb⟩ := hp ds q
  let g := h.set m (potL i1 j1 c1) ++ t1
  have gm : g[m]? = some (potL i1 j1 c1) := get_app hlt
  have gl : h.length ≤ g.length := by show _ ≤ (h.set m (potL i1 j1 c1) ++ t1).length; rw [List.length_append, List.length_set]; omega
  obtain ⟨v, i2, j2, c2, e2, p2, hv⟩ := of_at (r := g.length) (h := g ++ [DO.lst ds]) (n := n + k) at_snoc (at_app gm) p1 (by omega) (by omega) l1 (by omega) (fun v hv => hb v hv _)
  refine ⟨v, i2, j2, c2, t1 ++ [.lst ds], ?_, p2, ds, q, hv⟩
  have e3 := (call_s (g := trF f__law_of) (cons_s (x := eSlot 0) (getN h0) (args_one (lst_of e1 l2)))).trans e2
  rw [e3]
  congr 1
  show (h.set m (potL i1 j1 c1) ++ t1 ++ [DO.lst ds]).set m (potL i2 j2 c2) = _
  rw [List.append_assoc, List.set_append_left _ _ (by rw [List.length_set]; exact hlt), List.set_set]
theorem int_bel {l : List Int} : ∀ v ∈ l.map DV.int, ∀ n, belV n v = true := fun v hv n => by
  obtain ⟨i, _, rfl⟩ := List.mem_map.mp hv
  rfl
def sizes : List Int := [1, 2, 3, 6, 10, 12, 35, 360, 999983, 1000000, 99999999]
abbrev IsN (v : DV) : Prop := ∃ i : Int, Sz 40 i ∧ v = .int i
theorem number_s : PJ T0 (trF f__law_number [.ref m]) m 3 IsN := by
  refine pj_cut ?_ fun n v ⟨_, _, e⟩ => by rw [e]; rfl
  refine pj_run stab_true ?_
  refine pj_mono (k := 1 + 2) ?_ (by decide) fun _ q => q
  refine pj_as (P := fun v => v ∈ sizes.map DV.int) stab_true ?_ fun v hv => ?_
  · rw [of_eq]
    exact pj_of_lit (p := 0) (ds := sizes.map DV.int) (ms := aCons (eC (.int (1))) (aCons (eC (.int (2))) (aCons (eC (.int (3))) (aCons (eC (.int (6))) (aCons (eC (.int (10))) (aCons (eC (.int (12))) (aCons (eC (.int (35))) (aCons (eC (.int (360))) (aCons (eC (.int (999983))) (aCons (eOp powD (eC (.int (10))) (eC (.int (6)))) (aCons (eOp subD (eOp powD (eC (.int (10))) (eC (.int (8)))) (eC (.int (1)))) aNil))))))))))) rfl (fun h => rfl) (Nat.le_of_ble_eq_true rfl) int_bel fun F => tk 11 (by decide) (by decide)
  obtain ⟨z, hz, rfl⟩ := List.mem_map.mp hv
  have zb : 0 < z ∧ z ≤ 99999999 := by
    simp only [sizes, List.mem_cons, List.not_mem_nil, or_false] at hz
    omega
  let S : Sl := [some (.ref m), some (.int z)]
  refine pj_ret stab_true ?_
  have p1 : ∀ {x : Ex} {v : DV}, (∀ h, x S h = .ok v h) → PJ T0 (x S) m 0 (fun u => u = v) := fun e => pj_pure (fun h _ => e h) rfl
  have in4 : PJ T0 (eIf (bCmp ltD (eSlot 1) (eOp powD (eC (.int (10))) (eC (.int (7))))) (eOp lrepD (eSlot 1) (eCall (trF f__law_of) (aCons (eSlot 0) (aCons (eLst (aCons (eC (.int (1))) (aCons (eC (.int (1))) (aCons (eC (.int (2))) (aCons (eC (.int (3))) aNil))))) aNil)))) (eSlot 1) S) m 1 IsN := by
    have c1 : ∀ h, bCmp ltD (eSlot 1) (eOp powD (eC (.int (10))) (eC (.int (7)))) S h = .ok (decide (z < 10000000)) h := fun h => cmp_s (u := .int z) (v := .int 10000000) (h1 := h) (h2 := h) rfl rfl rfl
    by_cases q : z < 10000000
    · have y : PJ T0 ((eCall (trF f__law_of) (aCons (eSlot 0) (aCons (eLst (aCons (eC (.int (1))) (aCons (eC (.int (1))) (aCons (eC (.int (2))) (aCons (eC (.int (3))) aNil))))) aNil))) S) m 1 (fun v => v ∈ ([1, 1, 2, 3] : List Int).map DV.int) := by
        rw [of_eq]
        exact pj_of_lit (p := 0) (ds := ([1, 1, 2, 3] : List Int).map DV.int) rfl (fun h => rfl) (Nat.le_of_ble_eq_true rfl) int_bel fun F => tk 4 (by decide) (by decide)
      have w := pj_bnd (F := T0) (m := m) (k := 1) (k' := 0) (Q := IsN) (f := fun v => lrepD (.int z) v) stab_true y fun v hv => by
        obtain ⟨d, hd, rfl⟩ := List.mem_map.mp hv
        have db : 1 ≤ d ∧ d ≤ 3 := by
          simp only [List.mem_cons, List.not_mem_nil, or_false] at hd
          omega
        have sz : Sz 30 z := by unfold Sz; show z.natAbs < 1073741824; omega
        have sd : Sz 3 d := by unfold Sz; show d.natAbs < 8; omega
        exact pj_pure (a := .int (z * d)) (fun h _ => mul_s sz sd (by decide) (by decide) (by decide)) ⟨z * d, (sz.mul sd).mono (by decide), rfl⟩
      refine pj_cg (g' := bnd (eCall (trF f__law_of) (aCons (eSlot 0) (aCons (eLst (aCons (eC (.int (1))) (aCons (eC (.int (1))) (aCons (eC (.int (2))) (aCons (eC (.int (3))) aNil))))) aNil)) S) fun v => lrepD (.int z) v) (fun h => ?_) w
      have c2 := c1 h
      rw [decide_eq_true q] at c2
      exact (if_val c2).trans rfl
    · refine pj_mono (pj_pure (a := .int z) (fun h _ => ?_) ⟨z, by unfold Sz; show z.natAbs < 1099511627776; omega, rfl⟩) (by decide) fun _ q => q
      have c2 := c1 h
      rw [decide_eq_false q] at c2
      exact (if_val c2).trans rfl
  have all := pj_acons stab_true (p1 (x := eSlot 1) (v := .int z) fun _ => rfl) (pj_acons stab_true (p1 (x := eUn negD (eSlot 1)) (v := .int (-z)) fun _ => rfl) (pj_acons stab_true (p1 (x := eC (.int (0))) (v := .int 0) fun _ => rfl) (pj_acons stab_true in4 (pj_acons stab_true (p1 (x := eC (.int (1))) (v := .int 1) fun _ => rfl) (pj_acons stab_true (p1 (x := eUn negD (eC (.int (1)))) (v := .int (-1)) fun _ => rfl) (pj_pure (g := aNil S) (P := fun ds => ds = []) (a := []) (fun _ _ => rfl) rfl))))))
  have szi : ∀ i : Int, -99999999 ≤ i → i ≤ 99999999 → IsN (.int i) := fun i a b => ⟨i, by unfold Sz; show i.natAbs < 1099511627776; omega, rfl⟩
  have z2 := pj_of_lst (sl := S) rfl (pj_mono (P' := fun ds => ds.length = 6 ∧ ∀ v ∈ ds, IsN v) all (Nat.le_refl _) fun ds ⟨u1, us1, e1, h1, u2, us2, e2, h2, u3, us3, e3, h3, u4, us4, e4, h4, u5, us5, e5, h5, u6, us6, e6, h6, h7⟩ => by
    subst e1 e2 e3 e4 e5 e6 h1 h2 h3 h5 h6 h7
    refine ⟨rfl, fun v hv => ?_⟩
    simp only [List.mem_cons, List.not_mem_nil, or_false] at hv
    rcases hv with rfl | rfl | rfl | rfl | rfl | rfl
    · exact szi _ (by omega) (by omega)
    · exact szi _ (by omega) (by omega)
    · exact szi _ (by omega) (by omega)
    · exact h4
    · exact szi _ (by omega) (by omega)
    · exact szi _ (by omega) (by omega)) fun ds ⟨l, k⟩ => ⟨by omega, by omega, fun v hv n => by
      obtain ⟨i, _, e⟩ := k v hv
      rw [e]; rfl⟩
  exact pj_mono z2 (by decide) fun v ⟨ds, ⟨_, k⟩, hv⟩ => k v hv
end
end Lw
set_option Elab.async false
set_option linter.all false
set_option maxRecDepth 100000
set_option maxHeartbeats 400000
/-! W6: the law. -/
namespace Lw
open PySem PySem.Spec PyProof.Rows L2 SlX D
theorem rng_len (n : Nat) : (rangeV 0 n).length = n := by unfold rangeV; rw [List.length_map, List.length_range]
noncomputable def mkE (m : Ex) (me : Ex) : Sx := (sIf (bNot (bE (eRefused m me bR))) (sCons (sRet (eC (.bl false))) sNil) sNil)
noncomputable def lapB : Sx := (sCons (sAs (eTup (aCons (eCall (trF f__law_number) (aCons (eSlot 0) aNil)) (aCons (eCall (trF f__law_number) (aCons (eSlot 0) aNil)) aNil))) (gT 2 (gsCons (gN 2) (gsCons (gN 3) gsNil)))) (sCons (sIf (bCmp deqD (eSlot 3) (eC (.int (0)))) (sCons (mkE (eMakeX 0 f_Ratiodd_initdd (aCons (eSlot 2) (aCons (eSlot 3) aNil))) (eTup (aCons (eSlot 2) (aCons (eC (.int (0))) aNil)))) sNil) (sCons (sIf (bNot (bE (eCall (trF f__law_is_made) (aCons (eSlot 2) (aCons (eSlot 3) aNil))))) (sCons (sRet (eC (.bl false))) sNil) sNil) sNil)) (sCons (sIf (bCmp dneD (eCall (reprOT ow_repr_0) (aCons (eCall (makeD 0 fun ds => f_Ratiodd_initdd (ds ++ [.int (1)])) (aCons (eSlot 2) aNil)) aNil)) (eOp addD (eOp addD (eC (.str [82, 97, 116, 105, 111, 40])) (eCall strZ (aCons (eSlot 2) aNil))) (eC (.str [41])))) (sCons (sRet (eC (.bl false))) sNil) sNil) (sCons (sAs (eCall (trF f__law_of) (aCons (eSlot 0) (aCons (eLst (aCons (eC .non) (aCons (eC (.bl true)) (aCons (eC (.bl false)) (aCons (eC (.str [49])) (aCons (eTup (aCons (eC (.int (1))) aNil)) (aCons (eLst (aCons (eC (.int (1))) aNil)) (aCons eDic0 (aCons (eCall (makeD 0 fun ds => f_Ratiodd_initdd (ds ++ [.int (1)])) (aCons (eC (.int (1))) aNil)) (aCons (eC (.str [49, 47, 50])) (aCons (eTup aNil) aNil))))))))))) aNil))) (gN 4)) (sCons (mkE (eMakeX 0 f_Ratiodd_initdd (aCons (eSlot 4) (aCons (eSlot 2) aNil))) (eTup (aCons (eSlot 4) (aCons (eSlot 2) aNil)))) (sCons (mkE (eMakeX 0 f_Ratiodd_initdd (aCons (eSlot 2) (aCons (eSlot 4) aNil))) (eTup (aCons (eSlot 2) (aCons (eSlot 4) aNil)))) (sCons (mkE (eMakeX 0 (fun ds => f_Ratiodd_initdd (ds ++ [.int (1)])) (aCons (eSlot 4) aNil)) (eTup (aCons (eSlot 4) (aCons (eC (.int (1))) aNil)))) sNil)))))))
theorem mk_go {m me : Ex} {sl : Sl} {h h1 : Hs} (e : eRefused m me bR sl h = .ok (.bl true) h1) : mkE m me sl h = .ok (.nx, sl) h1 := by
  have c := not_s (bE_s e)
  exact (if_no c).trans rfl
section
variable {m : Nat}
theorem mkx_two {x y : Ex} {sl : Sl} {h : Hs} {v u : DV} (e1 : x sl h = .ok v h) (e2 : y sl h = .ok u h) (e3 : makeX 0 f_Ratiodd_initdd [v, u] h = .err 0 (.tup [v, u]) (h ++ [.ins 0 []])) : eMakeX 0 f_Ratiodd_initdd (aCons x (aCons y aNil)) sl h = .err 0 (.tup [v, u]) (h ++ [.ins 0 []]) := by
  unfold eMakeX
  rw [bnd_s (noE_s (args_two e1 e2)), e3]
theorem mkx_one {x : Ex} {sl : Sl} {h : Hs} {v : DV} (e1 : x sl h = .ok v h) (e3 : makeX 0 f_Ratiodd_initdd [v, .int 1] h = .err 0 (.tup [v, .int 1]) (h ++ [.ins 0 []])) : eMakeX 0 (fun ds => f_Ratiodd_initdd (ds ++ [.int (1)])) (aCons x aNil) sl h = .err 0 (.tup [v, .int 1]) (h ++ [.ins 0 []]) := by
  unfold eMakeX
  rw [bnd_s (noE_s (args_one e1))]
  exact e3
theorem odd_draw {h0 h : Hs} {n : Nat} {sl : Sl} (hs : sl[0]? = some (some (.ref m))) (st : St h0 m n h) (hm : m < h0.length) (hn : n + 1 ≤ 1000000) :
    ∃ v h2, (eCall (trF f__law_of) (aCons (eSlot 0) (aCons (eLst (aCons (eC .non) (aCons (eC (.bl true)) (aCons (eC (.bl false)) (aCons (eC (.str [49])) (aCons (eTup (aCons (eC (.int (1))) aNil)) (aCons (eLst (aCons (eC (.int (1))) aNil)) (aCons eDic0 (aCons (eCall (makeD 0 fun ds => f_Ratiodd_initdd (ds ++ [.int (1)])) (aCons (eC (.int (1))) aNil)) (aCons (eC (.str [49, 47, 50])) (aCons (eTup aNil) aNil))))))))))) aNil))) sl h = .ok v h2 ∧ OddV m h2 v ∧ St h0 m (n + 1) h2 := by
  let g1 := h ++ [DO.lst [.int 1]]
  let g2 := g1 ++ [DO.dic []]
  let g3 := g2 ++ [DO.dead]
  let xs : List DV := [.non, .bl true, .bl false, .str [49], .tup [.int 1], .ref h.length, .ref g1.length, rV 1 1, .str [49, 47, 50], .tup []]
  let g4 := g3 ++ [DO.lst xs]
  have n1 : g1.length = h.length + 1 := by simp [g1]
  have n2 : g2.length = h.length + 2 := by simp [g2, n1]
  have n3 : g3.length = h.length + 3 := by simp [g3, n2]
  have n4 : g4.length = h.length + 4 := by simp [g4, n3]
  have hl := st.len
  have st4 : St h0 m n g4 := (((st.app (k := [DO.lst [.int 1]])).app (k := [DO.dic []])).app (k := [DO.dead])).app (k := [DO.lst xs])
  obtain ⟨i, j, c, em, p⟩ := st4.pot hm
  have k1 : g4[h.length]? = some (.lst [.int 1]) := at_app (at_app (at_app (at_snoc' (l := h))))
  have k2 : g4[g1.length]? = some (.dic []) := at_app (at_app (at_snoc' (l := g1)))
  obtain ⟨v, i', j', c', e, p', hv⟩ := of_at (r := g3.length) (h := g4) (n := n) (at_snoc' (l := g3)) em p hn (by omega) (by show 1 ≤ 10; omega) (by show 10 ≤ 1000000; omega) (fun v hv => by
    simp only [xs, List.mem_cons, List.not_mem_nil, or_false] at hv
    rcases hv with rfl | rfl | rfl | rfl | rfl | rfl | rfl | rfl | rfl | rfl
    iterate 5 rfl
    · exact Nat.blt_eq.mpr (show h.length < g4.length by omega)
    · exact Nat.blt_eq.mpr (show g1.length < g4.length by omega)
    iterate 3 rfl)
  have mk : eCall (makeD 0 fun ds => f_Ratiodd_initdd (ds ++ [.int (1)])) (aCons (eC (.int (1))) aNil) sl g2 = .ok (rV 1 1) g3 := (call_s (args_one (v := .int 1) (h1 := g2) rfl)).trans (make1_s 1 g2)
  have ms : (aCons (eC .non) (aCons (eC (.bl true)) (aCons (eC (.bl false)) (aCons (eC (.str [49])) (aCons (eTup (aCons (eC (.int (1))) aNil)) (aCons (eLst (aCons (eC (.int (1))) aNil)) (aCons eDic0 (aCons (eCall (makeD 0 fun ds => f_Ratiodd_initdd (ds ++ [.int (1)])) (aCons (eC (.int (1))) aNil)) (aCons (eC (.str [49, 47, 50])) (aCons (eTup aNil) aNil)))))))))) sl h = .ok xs g3 :=
    cons_s (u := .non) (h1 := h) rfl (cons_s (u := .bl true) (h1 := h) rfl (cons_s (u := .bl false) (h1 := h) rfl (cons_s (u := .str [49]) (h1 := h) rfl (cons_s (u := .tup [.int 1]) (h1 := h) rfl (cons_s (u := .ref h.length) (h1 := g1) rfl (cons_s (u := .ref g1.length) (h1 := g2) rfl (cons_s mk (cons_s (u := .str [49, 47, 50]) (h1 := g3) rfl (cons_s (u := .tup []) (h1 := g3) rfl nil_s)))))))))
  refine ⟨v, g4.set m (potL i' j' c'), ?_, ?_, by
    have z := St.draw (t' := []) (i := i') st4 hm p'
    rw [List.append_nil] at z
    exact z⟩
  · exact (call_s (cons_s (getN hs) (args_one (lst_of ms (Nat.le_of_ble_eq_true rfl))))).trans e
  · have keep : ∀ {k : Nat} {o : DO}, k ≠ m → g4[k]? = some o → (g4.set m (potL i' j' c'))[k]? = some o := fun ne e => by rw [List.getElem?_set_ne (Ne.symm ne)]; exact e
    simp only [xs, List.mem_cons, List.not_mem_nil, or_false] at hv
    rcases hv with rfl | rfl | rfl | rfl | rfl | rfl | rfl | rfl | rfl | rfl
    · exact .inl (.inl (by simp [flatO]))
    · exact .inl (.inl (by simp [flatO]))
    · exact .inl (.inl (by simp [flatO]))
    · exact .inl (.inl (by simp [flatO]))
    · exact .inl (.inl (by simp [flatO]))
    · exact .inr ⟨_, _, rfl, by omega, keep (by omega) k1, by simp [objO]⟩
    · exact .inr ⟨_, _, rfl, by omega, keep (by omega) k2, by simp [objO]⟩
    · exact .inl (.inr rfl)
    · exact .inl (.inl (by simp [flatO]))
    · exact .inl (.inl (by simp [flatO]))
theorem dne_str (t : List Nat) (h : Hs) : dneD (.str t) (.str t) h = .ok (.bl false) h := by
  show D.ret (DV.bl (!eqS t t)) h = _
  rw [eqS_self]; rfl
abbrev szA (a : Int) : Prop := Sz 40 a
theorem shn_a {a : Int} (sa : Sz 40 a) (h : Hs) : Shn h (.int a) := shn_int (sa.mono (by decide)) h
theorem shn_1 {i : Int} (hi : i = 0 ∨ i = 1) (h : Hs) : Shn h (.int i) := shn_int ((show Sz 1 i from by rcases hi with rfl | rfl <;> (unfold Sz; decide)).mono (by decide)) h
abbrev R5 (m : Nat) (x1 x2 x3 x4 : Option DV) : Sl := [some (.ref m), x1, x2, x3, x4]
noncomputable def stA : Sx := (sIf (bCmp deqD (eSlot 3) (eC (.int (0)))) (sCons (mkE (eMakeX 0 f_Ratiodd_initdd (aCons (eSlot 2) (aCons (eSlot 3) aNil))) (eTup (aCons (eSlot 2) (aCons (eC (.int (0))) aNil)))) sNil) (sCons (sIf (bNot (bE (eCall (trF f__law_is_made) (aCons (eSlot 2) (aCons (eSlot 3) aNil))))) (sCons (sRet (eC (.bl false))) sNil) sNil) sNil))
theorem zero_s {x1 x4 : Option DV} {a : Int} (sa : Sz 40 a) (h : Hs) : mkE (eMakeX 0 f_Ratiodd_initdd (aCons (eSlot 2) (aCons (eSlot 3) aNil))) (eTup (aCons (eSlot 2) (aCons (eC (.int (0))) aNil))) (R5 m x1 (some (.int a)) (some (.int 0)) x4) h = .ok (.nx, R5 m x1 (some (.int a)) (some (.int 0)) x4) (h ++ [.ins 0 []]) := by
  refine mk_go (refused_s (v := .int a) (u := .int 0) ?_ ?_ (shn_a sa _) (shn_1 (.inl rfl) _))
  · exact tup_of (args_two (u := .int a) (v := .int 0) (h1 := h) (h2 := h) rfl rfl) (Nat.le_of_ble_eq_true rfl)
  · exact mkx_two (v := .int a) (u := .int 0) rfl rfl (bad_zero a h)
theorem stA_s {x1 x4 : Option DV} {a b : Int} (sa : Sz 40 a) (sb : Sz 40 b) (h : Hs) : ∃ t, stA (R5 m x1 (some (.int a)) (some (.int b)) x4) h = .ok (.nx, R5 m x1 (some (.int a)) (some (.int b)) x4) (h ++ t) := by
  have c0 : bCmp deqD (eSlot 3) (eC (.int (0))) (R5 m x1 (some (.int a)) (some (.int b)) x4) h = .ok (decide (b = 0)) h := rfl
  by_cases q : b = 0
  · subst q
    rw [decide_eq_true rfl] at c0
    refine ⟨[.ins 0 []], ?_⟩
    unfold stA
    rw [if_yes c0, cons_nx (zero_s sa h)]
    rfl
  · rw [decide_eq_false q] at c0
    refine ⟨[], ?_⟩
    have y : eCall (trF f__law_is_made) (aCons (eSlot 2) (aCons (eSlot 3) aNil)) (R5 m x1 (some (.int a)) (some (.int b)) x4) h = .ok (.bl true) h := (call_s (args_two (u := .int a) (v := .int b) (h1 := h) (h2 := h) rfl rfl)).trans (made_s sa sb q h)
    unfold stA
    rw [if_no c0, cons_nx (sl1 := R5 m x1 (some (.int a)) (some (.int b)) x4) (h1 := h) ((if_no (not_s (bE_s y))).trans rfl), List.append_nil]
    rfl
noncomputable def stB : Tx := bCmp dneD (eCall (reprOT ow_repr_0) (aCons (eCall (makeD 0 fun ds => f_Ratiodd_initdd (ds ++ [.int (1)])) (aCons (eSlot 2) aNil)) aNil)) (eOp addD (eOp addD (eC (.str [82, 97, 116, 105, 111, 40])) (eCall strZ (aCons (eSlot 2) aNil))) (eC (.str [41])))
theorem stB_s {S : Sl} {a : Int} (e : S[2]? = some (some (.int a))) (sa : Sz 40 a) (h : Hs) : stB S h = .ok false (h ++ [.dead]) := by
  have sa9 : Sz 1900 a := sa.mono (by decide)
  have la := numZ_len sa9
  have mk : eCall (makeD 0 fun ds => f_Ratiodd_initdd (ds ++ [.int (1)])) (aCons (eSlot 2) aNil) S h = .ok (rV a 1) (h ++ [.dead]) := (call_s (args_one (getN e))).trans (make1_s a h)
  have r := (call_s (args_one mk)).trans (repr_e sa9 (sz1.mono (by decide)) (h ++ [.dead]))
  have x0 : eCall strZ (aCons (eSlot 2) aNil) S (h ++ [.dead]) = .ok (.str (numZ a)) (h ++ [.dead]) := (call_s (args_one (getN e))).trans (str_s sa9 _)
  have y0 : eOp addD (eC (.str [82, 97, 116, 105, 111, 40])) (eCall strZ (aCons (eSlot 2) aNil)) S (h ++ [.dead]) = .ok (.str (pR ++ numZ a)) (h ++ [.dead]) := op_s (u := .str pR) (h1 := h ++ [.dead]) rfl x0 (add_s (by show 6 + _ ≤ _; omega))
  have t : (eOp addD (eOp addD (eC (.str [82, 97, 116, 105, 111, 40])) (eCall strZ (aCons (eSlot 2) aNil))) (eC (.str [41]))) S (h ++ [.dead]) = .ok (.str (pR ++ numZ a ++ [41])) (h ++ [.dead]) := op_s y0 (v := .str [41]) (h2 := h ++ [.dead]) rfl (add_s (by rw [List.length_append]; show 6 + _ + 1 ≤ _; omega))
  have rp : rpF a 1 = pR ++ numZ a ++ [41] := if_pos rfl
  rw [rp] at r
  exact cmp_s r t (dne_str _ _)
section
variable {x1 x3 : Option DV} {a : Int} {v : DV} {h : Hs}
theorem odd1 (sa : Sz 40 a) (o : OddV m h v) : mkE (eMakeX 0 f_Ratiodd_initdd (aCons (eSlot 4) (aCons (eSlot 2) aNil))) (eTup (aCons (eSlot 4) (aCons (eSlot 2) aNil))) (R5 m x1 (some (.int a)) x3 (some v)) h = .ok (.nx, R5 m x1 (some (.int a)) x3 (some v)) (h ++ [.ins 0 []]) := by
  refine mk_go (refused_s (v := v) (u := .int a) ?_ ?_ (odd_shn (m := m) o.app) (shn_a sa _))
  · exact tup_of (args_two (u := v) (v := .int a) (h1 := h) (h2 := h) rfl rfl) (Nat.le_of_ble_eq_true rfl)
  · exact mkx_two (v := v) (u := .int a) rfl rfl (bad_left o)
theorem odd2 (sa : Sz 40 a) (o : OddV m h v) : mkE (eMakeX 0 f_Ratiodd_initdd (aCons (eSlot 2) (aCons (eSlot 4) aNil))) (eTup (aCons (eSlot 2) (aCons (eSlot 4) aNil))) (R5 m x1 (some (.int a)) x3 (some v)) h = .ok (.nx, R5 m x1 (some (.int a)) x3 (some v)) (h ++ [.ins 0 []]) := by
  refine mk_go (refused_s (v := .int a) (u := v) ?_ ?_ (shn_a sa _) (odd_shn (m := m) o.app))
  · exact tup_of (args_two (u := .int a) (v := v) (h1 := h) (h2 := h) rfl rfl) (Nat.le_of_ble_eq_true rfl)
  · exact mkx_two (v := .int a) (u := v) rfl rfl (bad_right o)
theorem odd3 (o : OddV m h v) : mkE (eMakeX 0 (fun ds => f_Ratiodd_initdd (ds ++ [.int (1)])) (aCons (eSlot 4) aNil)) (eTup (aCons (eSlot 4) (aCons (eC (.int (1))) aNil))) (R5 m x1 (some (.int a)) x3 (some v)) h = .ok (.nx, R5 m x1 (some (.int a)) x3 (some v)) (h ++ [.ins 0 []]) := by
  refine mk_go (refused_s (v := v) (u := .int 1) ?_ ?_ (odd_shn (m := m) o.app) (shn_1 (.inr rfl) _))
  · exact tup_of (args_two (u := v) (v := .int 1) (h1 := h) (h2 := h) rfl rfl) (Nat.le_of_ble_eq_true rfl)
  · exact mkx_one (v := v) rfl (bad_left o)
end
theorem turn_s {h0 h : Hs} {n : Nat} {x1 x2 x3 x4 : Option DV} (st : St h0 m n h) (hm : m < h0.length) (hn : n + 7 ≤ 1000000) :
    ∃ y2 y3 y4 h2, lapB (R5 m x1 x2 x3 x4) h = .ok (.nx, R5 m x1 y2 y3 y4) h2 ∧ St h0 m (n + 7) h2 := by
  have pn : ∀ S : Sl, S[0]? = some (some (.ref m)) → PJ T0 (eCall (trF f__law_number) (aCons (eSlot 0) aNil) S) m 3 IsN := fun S e => pj_cg (g' := trF f__law_number [.ref m]) (fun h => call_s (args_one (getN e))) number_s
  obtain ⟨v, k1, e1, ⟨a, sa, rfl⟩, st1⟩ := run_p (pn (R5 m x1 x2 x3 x4) rfl) st hm (by omega)
  obtain ⟨v, k2, e2, ⟨b, sb, rfl⟩, st2⟩ := run_p (pn (R5 m x1 x2 x3 x4) rfl) st1 hm (by omega)
  have s1 : (sAs (eTup (aCons (eCall (trF f__law_number) (aCons (eSlot 0) aNil)) (aCons (eCall (trF f__law_number) (aCons (eSlot 0) aNil)) aNil))) (gT 2 (gsCons (gN 2) (gsCons (gN 3) gsNil)))) (R5 m x1 x2 x3 x4) h = .ok (.nx, R5 m x1 (some (.int a)) (some (.int b)) x4) k2 := as_s (v := .tup [.int a, .int b]) (tup_of (args_two e1 e2) (Nat.le_of_ble_eq_true rfl)) rfl
  obtain ⟨t3, s2⟩ := stA_s (m := m) (x1 := x1) (x4 := x4) sa sb k2
  have st3 : St h0 m (n + 6) (k2 ++ t3) := (st2.app (k := t3)).more (by omega)
  generalize k2 ++ t3 = k3 at s2 st3
  have c2 := stB_s (S := R5 m x1 (some (.int a)) (some (.int b)) x4) rfl sa k3
  have st4 : St h0 m (n + 6) (k3 ++ [.dead]) := st3.app
  generalize k3 ++ [.dead] = k4 at c2 st4
  obtain ⟨v, k5, e5, ov, st5⟩ := odd_draw (sl := R5 m x1 (some (.int a)) (some (.int b)) x4) rfl st4 hm (by omega)
  have r6 := odd1 (x1 := x1) (x3 := some (.int b)) sa ov
  have o6 := ov.app (k := [.ins 0 []])
  have st6 := st5.app (k := [.ins 0 []])
  generalize k5 ++ [.ins 0 []] = k6 at r6 o6 st6
  have r7 := odd2 (x1 := x1) (x3 := some (.int b)) sa o6
  have o7 := o6.app (k := [.ins 0 []])
  have st7 := st6.app (k := [.ins 0 []])
  generalize k6 ++ [.ins 0 []] = k7 at r7 o7 st7
  have r8 := odd3 (x1 := x1) (x3 := some (.int b)) (a := a) o7
  have st8 := st7.app (k := [.ins 0 []])
  generalize k7 ++ [.ins 0 []] = k8 at r8 st8
  refine ⟨some (.int a), some (.int b), some v, k8, ?_, st8⟩
  unfold lapB
  rw [cons_nx s1]
  have s2' := cons_nx (y := sCons (sIf stB (sCons (sRet (eC (.bl false))) sNil) sNil) (sCons (sAs (eCall (trF f__law_of) (aCons (eSlot 0) (aCons (eLst (aCons (eC .non) (aCons (eC (.bl true)) (aCons (eC (.bl false)) (aCons (eC (.str [49])) (aCons (eTup (aCons (eC (.int (1))) aNil)) (aCons (eLst (aCons (eC (.int (1))) aNil)) (aCons eDic0 (aCons (eCall (makeD 0 fun ds => f_Ratiodd_initdd (ds ++ [.int (1)])) (aCons (eC (.int (1))) aNil)) (aCons (eC (.str [49, 47, 50])) (aCons (eTup aNil) aNil))))))))))) aNil))) (gN 4)) (sCons (mkE (eMakeX 0 f_Ratiodd_initdd (aCons (eSlot 4) (aCons (eSlot 2) aNil))) (eTup (aCons (eSlot 4) (aCons (eSlot 2) aNil)))) (sCons (mkE (eMakeX 0 f_Ratiodd_initdd (aCons (eSlot 2) (aCons (eSlot 4) aNil))) (eTup (aCons (eSlot 2) (aCons (eSlot 4) aNil)))) (sCons (mkE (eMakeX 0 (fun ds => f_Ratiodd_initdd (ds ++ [.int (1)])) (aCons (eSlot 4) aNil)) (eTup (aCons (eSlot 4) (aCons (eC (.int (1))) aNil)))) sNil))))) s2
  refine Eq.trans s2' ?_
  rw [cons_nx (sl1 := R5 m x1 (some (.int a)) (some (.int b)) x4) (h1 := k4) ((if_no c2).trans rfl), cons_nx (as_s (sl1 := R5 m x1 (some (.int a)) (some (.int b)) (some v)) e5 rfl), cons_nx r6, cons_nx r7, cons_nx r8]
  rfl
theorem right_s : PJ T0 (trF f__law_right [.ref m]) m 1000000 (fun v => v = .bl true) := by
  refine pj_mono (k := 84) ?_ (by decide) fun _ q => q
  refine pj_cut ?_ fun n v e => by rw [e]; rfl
  intro h i j c n _ hmp s hn
  have hm := (List.getElem?_eq_some_iff.mp hmp).1
  have rl := rng_len 12
  obtain ⟨sl2, h2, e2, st2, y1, y2, y3, y4, es⟩ := for_s (b := lapB) (f := gN 1) (mi := iRg rng1 (aCons (eC (.int (12))) aNil)) (sl := [some (.ref m), none, none, none, none]) (h := h) (h0 := h) (t := .vals (rangeV 0 12)) (rangeV 0 12)
    (fun k sl h' => St h m (n + 7 * k) h' ∧ ∃ y1 y2 y3 y4, sl = [some (.ref m), y1, y2, y3, y4]) rfl ⟨⟨i, j, c, [], by rw [set_id hmp, List.append_nil], s⟩, none, none, none, none, rfl⟩ (by rw [rl]; decide) (fun k sl h' _ _ => rfl)
    (fun k hk sl h' ⟨st, y1, y2, y3, y4, es⟩ => by
      rw [rl] at hk
      subst es
      obtain ⟨z2, z3, z4, h2, e, st2⟩ := turn_s (x1 := some (rangeV 0 12)[k]) (x2 := y2) (x3 := y3) (x4 := y4) st hm (by omega)
      exact ⟨_, _, h2, rfl, e, st2, _, _, _, _, rfl⟩)
  rw [rl] at st2
  subst es
  obtain ⟨i', j', c', t, e, p⟩ := st2
  refine ⟨.bl true, i', j', c', t, ?_, p, rfl⟩
  rw [← e]
  refine runF_rt (sl := [some (.ref m), y1, y2, y3, y4]) ?_
  exact (cons_nx e2).trans (cons_rt (ret_s rfl))
end
theorem law_run (ns : List Int) (hl : ns.length ≤ 63) : ∃ h', f_law [.scr ns] [] = .ok (.bl true) h' :=
  law_s (right := trF f__law_right) (a := 73) (b := 44) (c := 73202) (d := 7111) (e := 202) (by decide) (by decide) (by decide) (fun m => right_s) 6 (by decide) (by decide) ns hl
end Lw
set_option Elab.async false
set_option linter.all false
set_option maxRecDepth 100000
set_option maxHeartbeats 0
/-! printed by gen.py: what the head is asked, its run. -/
namespace Lw
open PySem PySem.Spec PyProof.Rows L2 SlX D
def dd__law_take : He.DefD := ⟨(("_law_take" : Str), none), ("_law_take" : Str), ("_law_take" : Str), defArgs st__law_take, defBody st__law_take, defScope st__law_take, [], []⟩
def dd__law_of : He.DefD := ⟨(("_law_of" : Str), none), ("_law_of" : Str), ("_law_of" : Str), defArgs st__law_of, defBody st__law_of, defScope st__law_of, [], []⟩
def dd__law_number : He.DefD := ⟨(("_law_number" : Str), none), ("_law_number" : Str), ("_law_number" : Str), defArgs st__law_number, defBody st__law_number, defScope st__law_number, [], []⟩
def dd__law_heard : He.DefD := ⟨(("_law_heard" : Str), none), ("_law_heard" : Str), ("_law_heard" : Str), defArgs st__law_heard, defBody st__law_heard, defScope st__law_heard, [], []⟩
def dd_Ratiodd_reprdd : He.DefD := ⟨(("Ratio" : Str), some ("__repr__" : Str)), ("__repr__" : Str), ("Ratio.__repr__" : Str), defArgs st_Ratiodd_reprdd, defBody st_Ratiodd_reprdd, defScope st_Ratiodd_reprdd, [], []⟩
def dd__law_is_refused : He.DefD := ⟨(("_law_is_refused" : Str), none), ("_law_is_refused" : Str), ("_law_is_refused" : Str), defArgs st__law_is_refused, defBody st__law_is_refused, defScope st__law_is_refused, [], []⟩
def dd_common : He.DefD := ⟨(("common" : Str), none), ("common" : Str), ("common" : Str), defArgs st_common, defBody st_common, defScope st_common, [], []⟩
def dd_is_integer : He.DefD := ⟨(("is_integer" : Str), none), ("is_integer" : Str), ("is_integer" : Str), defArgs st_is_integer, defBody st_is_integer, defScope st_is_integer, [], []⟩
def dd_Ratiodd_initdd : He.DefD := ⟨(("Ratio" : Str), some ("__init__" : Str)), ("__init__" : Str), ("Ratio.__init__" : Str), defArgs st_Ratiodd_initdd, defBody st_Ratiodd_initdd, defScope st_Ratiodd_initdd, [.int (1)], []⟩
def dd__law_gcd : He.DefD := ⟨(("_law_gcd" : Str), none), ("_law_gcd" : Str), ("_law_gcd" : Str), defArgs st__law_gcd, defBody st__law_gcd, defScope st__law_gcd, [], []⟩
def dd__law_fr : He.DefD := ⟨(("_law_fr" : Str), none), ("_law_fr" : Str), ("_law_fr" : Str), defArgs st__law_fr, defBody st__law_fr, defScope st__law_fr, [], []⟩
def dd_Ratio_number : He.DefD := ⟨(("Ratio" : Str), some ("number" : Str)), ("number" : Str), ("Ratio.number" : Str), defArgs st_Ratio_number, defBody st_Ratio_number, defScope st_Ratio_number, [], []⟩
def dd_Ratio_under : He.DefD := ⟨(("Ratio" : Str), some ("under" : Str)), ("under" : Str), ("Ratio.under" : Str), defArgs st_Ratio_under, defBody st_Ratio_under, defScope st_Ratio_under, [], []⟩
def dd_Ratiodd_eqdd : He.DefD := ⟨(("Ratio" : Str), some ("__eq__" : Str)), ("__eq__" : Str), ("Ratio.__eq__" : Str), defArgs st_Ratiodd_eqdd, defBody st_Ratiodd_eqdd, defScope st_Ratiodd_eqdd, [], []⟩
def dd__law_is_made : He.DefD := ⟨(("_law_is_made" : Str), none), ("_law_is_made" : Str), ("_law_is_made" : Str), defArgs st__law_is_made, defBody st__law_is_made, defScope st__law_is_made, [], []⟩
def dd__law_right : He.DefD := ⟨(("_law_right" : Str), none), ("_law_right" : Str), ("_law_right" : Str), defArgs st__law_right, defBody st__law_right, defScope st__law_right, [], []⟩
def dd__law_pot : He.DefD := ⟨(("_law_pot" : Str), none), ("_law_pot" : Str), ("_law_pot" : Str), defArgs st__law_pot, defBody st__law_pot, defScope st__law_pot, [], []⟩
def dd__law_cells : He.DefD := ⟨(("_law_cells" : Str), none), ("_law_cells" : Str), ("_law_cells" : Str), defArgs st__law_cells, defBody st__law_cells, defScope st__law_cells, [], []⟩
def dd_law : He.DefD := ⟨(("law" : Str), none), ("law" : Str), ("law" : Str), defArgs st_law, defBody st_law, defScope st_law, [], []⟩
def adN (c : Nat) : PySem.Str := match c with | 0 => ("Ratio" : Str) | _ => ("Ratio" : Str)
def dd_ini : He.DefD := ⟨(("KnobError" : Str), some "__init__"), "__init__", ("KnobError.__init__" : Str), defArgs st_ini, defBody st_ini, defScope st_ini, [], []⟩
def tfs : List He.Defn := [(("_law_right" : Str), none)]
def dfn : List He.DefD := [dd__law_take, dd__law_of, dd__law_number, dd__law_heard, dd_Ratiodd_reprdd, dd__law_is_refused, dd_common, dd_is_integer, dd_Ratiodd_initdd, dd__law_gcd, dd__law_fr, dd_Ratiodd_eqdd, dd__law_is_made, dd__law_right, dd__law_pot, dd__law_cells, dd_law]
def pps : List AtD := [(pgA ("Ratio" : Str) ("number" : Str), dd_Ratio_number), (pgA ("Ratio" : Str) ("under" : Str), dd_Ratio_under)]
def ffa : List He.Fa := [.glo ("_law_take" : Str),
  .glo ("_law_of" : Str),
  .glo ("_law_number" : Str),
  .glo ("_law_heard" : Str),
  .glo ("_law_is_refused" : Str),
  .glo ("common" : Str),
  .glo ("is_integer" : Str),
  .glo ("_law_gcd" : Str),
  .glo ("_law_fr" : Str),
  .glo ("_law_is_made" : Str),
  .glo ("_law_right" : Str),
  .glo ("_law_pot" : Str),
  .glo ("_law_cells" : Str),
  .glo ("law" : Str),
  .glo ("Ratio" : Str),
  .glo ("BadRatio" : Str),
  .glo ("KnobError" : Str),
  .free ("int" : Str),
  .free ("len" : Str),
  .free ("abs" : Str),
  .free ("isinstance" : Str),
  .free ("bool" : Str),
  .free ("repr" : Str),
  .free ("str" : Str),
  .free ("range" : Str),
  .free ("min" : Str),
  .free ("max" : Str),
  .free ("list" : Str),
  .free ("all" : Str),
  .free ("super" : Str),
  .meth ("Ratio" : Str) ("__repr__" : Str),
  .mkr ("Ratio" : Str),
  .meth ("Ratio" : Str) ("__eq__" : Str)]
def tts : List He.Tab := []
def eex (K : PySem.W.Frag) : List Bool := [sclB K (He.ga K ("Ratio" : Str)),
  sloB K (He.ga K ("Ratio" : Str)) ("own_number" : Str) 0,
  sloB K (He.ga K ("Ratio" : Str)) ("own_under" : Str) 1,
  isiB K (He.ga K ("Ratio" : Str)),
  decide (PySem.W.kitOne K (.ref (He.ga K ("Ratio" : Str))) (.type "int") = some false),
  decide (PySem.W.kitOne K (.ref (He.ga K ("Ratio" : Str))) (.type "bool") = some false),
  decide (PySem.W.kitOne K (tagV ⟨fun c => He.ga K (adN c), fun _ _ _ _ _ => True, fun _ => 0, []⟩ .non) (.ref (He.ga K ("Ratio" : Str))) = some false),
  decide (PySem.W.kitOne K (tagV ⟨fun c => He.ga K (adN c), fun _ _ _ _ _ => True, fun _ => 0, []⟩ .bl) (.ref (He.ga K ("Ratio" : Str))) = some false),
  decide (PySem.W.kitOne K (tagV ⟨fun c => He.ga K (adN c), fun _ _ _ _ _ => True, fun _ => 0, []⟩ .int) (.ref (He.ga K ("Ratio" : Str))) = some false),
  decide (PySem.W.kitOne K (tagV ⟨fun c => He.ga K (adN c), fun _ _ _ _ _ => True, fun _ => 0, []⟩ .str) (.ref (He.ga K ("Ratio" : Str))) = some false),
  decide (PySem.W.kitOne K (tagV ⟨fun c => He.ga K (adN c), fun _ _ _ _ _ => True, fun _ => 0, []⟩ .lst) (.ref (He.ga K ("Ratio" : Str))) = some false),
  decide (PySem.W.kitOne K (tagV ⟨fun c => He.ga K (adN c), fun _ _ _ _ _ => True, fun _ => 0, []⟩ .tup) (.ref (He.ga K ("Ratio" : Str))) = some false),
  decide (PySem.W.kitOne K (tagV ⟨fun c => He.ga K (adN c), fun _ _ _ _ _ => True, fun _ => 0, []⟩ .dic) (.ref (He.ga K ("Ratio" : Str))) = some false),
  decide (PySem.W.kitOne K (tagV ⟨fun c => He.ga K (adN c), fun _ _ _ _ _ => True, fun _ => 0, []⟩ (.ob 0)) (.ref (He.ga K ("Ratio" : Str))) = some true),
  PySem.W.notFirst K (He.ga K ("Ratio" : Str)) (.ref (He.ga K ("Ratio" : Str))),
  tagT.all fun T => PySem.W.notFirst K (He.ga K ("Ratio" : Str)) (.type T),
  decide (PySem.W.mroIn K (He.ga K ("Ratio" : Str)) (.type "object") = some true),
  decide (PySem.W.findIn K (.ref (He.ga K ("Ratio" : Str))) "__ne__" = some (some (.builtin "object.__ne__"))),
  proB K ("Ratio" : Str) ("number" : Str),
  proB K ("Ratio" : Str) ("under" : Str),
  (match K.lookup sysModules with | some o => decide (o.cls = .type "dict") | none => false),
  exkB K (He.ga K ("KnobError" : Str)) (inA ("KnobError" : Str) K) (He.ga K ("BadRatio" : Str)),
  decide (PySem.W.exmOne K (.ref (He.ga K ("BadRatio" : Str))) (.ref (He.ga K ("KnobError" : Str))) = some true),
  excB K (He.ga K ("BadRatio" : Str)),
  He.eqO (PySem.W.findIn K (.ref (He.ga K ("BadRatio" : Str))) "value") (some none),
  exkB K (He.ga K ("KnobError" : Str)) (inA ("KnobError" : Str) K) (He.ga K ("KnobError" : Str)),
  decide (PySem.W.exmOne K (.ref (He.ga K ("KnobError" : Str))) (.ref (He.ga K ("KnobError" : Str))) = some true),
  excB K (He.ga K ("KnobError" : Str)),
  He.eqO (PySem.W.findIn K (.ref (He.ga K ("KnobError" : Str))) "value") (some none),
  decide (PySem.W.kitOne K (.ref (He.ga K ("BadRatio" : Str))) (.ref (He.ga K ("BadRatio" : Str))) = some true),
  decide (PySem.W.kitOne K ((.type "NoneType")) (.ref (He.ga K ("BadRatio" : Str))) = some false)]
def nms0 : List PySem.Str := ["_wall", "KnobError", "BadRatio", "BadText", "FIGURES", "MINUS", "is_integer", "is_whole", "common", "STROKE", "Ratio", "is_number", "as_ratio", "gap", "joined", "multiplied", "ratio_in", "_law_pot", "_law_take", "_law_of", "_law_cells", "_law_heard", "_law_gcd", "_law_fr", "_law_number", "_law_is_made", "_law_is_refused", "_law_right"]
def nms : List PySem.Str := nms0
abbrev R : PySem.W.OpenRow := PySem.W.OpenLaw.row PySem.Challenge.rw_looseknobs_k01_ratios_made
abbrev qv : Program := PySem.W.view R.prog [32]
abbrev exB (K : PySem.W.Frag) : Bool := (eex K).all id
abbrev fil : Str := PySem.Challenge.pw_looseknobs_k01_ratios_made.main.file
abbrev hk : PySem.W.Hook := hookZ 7 ffa dfn tts pps tfs exB ("KnobError" : Str) dd_ini fil
def ob (s : PySem.W.SharedT) : AlZ := obsZ 7 ffa dfn tts pps tfs exB ("KnobError" : Str) dd_ini fil (HandSHeadRun.getT s)
theorem ob_eq (s : PySem.W.SharedT) : ob s = hk.obs s.abs := obsZ_eq (HandSHeadRun.getT_eq s)
theorem run0 (w : World) : HandSHeadRun.RunEq R qv hk ob 30000 nms (w.withFollow "special-get-raises" false) := by
  intro os
  kernel_rfl
theorem run1 (w : World) : HandSHeadRun.RunEq R qv hk ob 30000 nms (w.withFollow "special-get-raises" true) := by
  intro os
  kernel_rfl
theorem run (w : World) : HandSHeadRun.RunEq R qv hk ob 30000 nms w := PySem.W.byRow2 "special-get-raises" (P := fun w => HandSHeadRun.RunEq R qv hk ob 30000 nms w) run0 run1 w
end Lw
set_option Elab.async false
set_option linter.all false
set_option maxRecDepth 100000
set_option maxHeartbeats 0
/-! printed by gen.py: the facts put together, the defs one on the other. -/
namespace Lw
open PySem PySem.Spec PyProof.Rows L2 SlX D
def exN (c : Nat) : PySem.Str := match c with | 0 => ("BadRatio" : Str) | _ => ("KnobError" : Str)
def lams (K : PySem.W.Frag) : List (Addr × Addr) := tfs.map (He.cT K)
def lamT (K : PySem.W.Frag) : List (Addr × Str) := tfs.map fun d => ((He.cT K d).2, d.1 ++ ".<locals>." ++ "<lambda>")
noncomputable abbrev clK (K : PySem.W.Frag) (c1 : Nat) : Cl := ⟨(fun c => He.ga K (adN c)), (clP (fun c => He.ga K (adN c)) f__law_take c1).pot, fun c => He.ga K (exN c), lamT K⟩
section
variable {P : Program} {w : World} {K : PySem.W.Frag} {h : Heap} {mg : Str → Option Value} {base : Heap}
theorem exAt (c : SaysZ ffa dfn tts pps tfs exB ("KnobError" : Str) dd_ini fil w h K) (i : Nat) {b : Bool} (e : (eex K)[i]? = some b := by rfl) : b = true :=
  List.all_eq_true.mp (show (eex K).all id = true from c.more) b (List.mem_of_getElem? e)
theorem fs (X : K.In h) (G : h.Ns mainGlobals mg) (c : SaysZ ffa dfn tts pps tfs exB ("KnobError" : Str) dd_ini fil w h K) (c1 : Nat) : Fs K w mg (clK K c1) where
  b_int := He.free_ok X G (c.t.d.fact 17 (f := .free ("int" : Str)) rfl)
  b_len := He.free_ok X G (c.t.d.fact 18 (f := .free ("len" : Str)) rfl)
  c0_scl := sclB_ok (exAt c 0)
  c0_sl_own_number := ⟨_, sloB_ok (exAt c 1)⟩
  c0_sl_own_under := ⟨_, sloB_ok (exAt c 2)⟩
  b_abs := He.free_ok X G (c.t.d.fact 19 (f := .free ("abs" : Str)) rfl)
  b_isinstance := He.free_ok X G (c.t.d.fact 20 (f := .free ("isinstance" : Str)) rfl)
  c0_isi := isiB_ok (exAt c 3)
  ki_int_0 := of_decide_eq_true (exAt c 4)
  b_bool := He.free_ok X G (c.t.d.fact 21 (f := .free ("bool" : Str)) rfl)
  ki_bool_0 := of_decide_eq_true (exAt c 5)
  ki_Ratio_non := of_decide_eq_true (exAt c 6)
  ki_Ratio_bl := of_decide_eq_true (exAt c 7)
  ki_Ratio_int := of_decide_eq_true (exAt c 8)
  ki_Ratio_str := of_decide_eq_true (exAt c 9)
  ki_Ratio_lst := of_decide_eq_true (exAt c 10)
  ki_Ratio_tup := of_decide_eq_true (exAt c 11)
  ki_Ratio_dic := of_decide_eq_true (exAt c 12)
  ki_Ratio_0 := of_decide_eq_true (exAt c 13)
  c0_name := He.glo_ok X G (c.t.d.fact 14 (f := .glo ("Ratio" : Str)) rfl)
  c0_nf := fun d => match d with | 0 => exAt c 14 | _ + 1 => exAt c 14
  c0_nt := fun T hT => List.all_eq_true.mp (exAt c 15) T hT
  c0_mo := of_decide_eq_true (exAt c 16)
  c0_ne := of_decide_eq_true (exAt c 17)
  sysm := by
    have z := exAt c 20
    revert z
    cases q : K.lookup sysModules with
    | none => intro z; cases z
    | some o => intro z; exact ⟨o, q, of_decide_eq_true z⟩
  b_repr := He.free_ok X G (c.t.d.fact 22 (f := .free ("repr" : Str)) rfl)
  b_str := He.free_ok X G (c.t.d.fact 23 (f := .free ("str" : Str)) rfl)
  b_range := He.free_ok X G (c.t.d.fact 24 (f := .free ("range" : Str)) rfl)
  b_min := He.free_ok X G (c.t.d.fact 25 (f := .free ("min" : Str)) rfl)
  b_max := He.free_ok X G (c.t.d.fact 26 (f := .free ("max" : Str)) rfl)
  b_list := He.free_ok X G (c.t.d.fact 27 (f := .free ("list" : Str)) rfl)
  b_all := He.free_ok X G (c.t.d.fact 28 (f := .free ("all" : Str)) rfl)
  b_super := He.free_ok X G (c.t.d.fact 29 (f := .free ("super" : Str)) rfl)
  fn__law_take := (c.t.d.def_ 0 (d := dd__law_take) rfl).elim fun fd F => ⟨_, fd, He.glo_ok X G (c.t.d.fact 0 (f := .glo ("_law_take" : Str)) rfl), F⟩
  fn__law_of := (c.t.d.def_ 1 (d := dd__law_of) rfl).elim fun fd F => ⟨_, fd, He.glo_ok X G (c.t.d.fact 1 (f := .glo ("_law_of" : Str)) rfl), F⟩
  fn__law_number := (c.t.d.def_ 2 (d := dd__law_number) rfl).elim fun fd F => ⟨_, fd, He.glo_ok X G (c.t.d.fact 2 (f := .glo ("_law_number" : Str)) rfl), F⟩
  fn__law_heard := (c.t.d.def_ 3 (d := dd__law_heard) rfl).elim fun fd F => ⟨_, fd, He.glo_ok X G (c.t.d.fact 3 (f := .glo ("_law_heard" : Str)) rfl), F⟩
  fn_Ratiodd_reprdd := (c.t.d.def_ 4 (d := dd_Ratiodd_reprdd) rfl).elim fun fd F => ⟨_, fd, He.meth_ok (c.t.d.fact 30 (f := .meth ("Ratio" : Str) ("__repr__" : Str)) rfl), F⟩
  fn__law_is_refused := (c.t.d.def_ 5 (d := dd__law_is_refused) rfl).elim fun fd F => ⟨_, fd, He.glo_ok X G (c.t.d.fact 4 (f := .glo ("_law_is_refused" : Str)) rfl), F⟩
  fn_common := (c.t.d.def_ 6 (d := dd_common) rfl).elim fun fd F => ⟨_, fd, He.glo_ok X G (c.t.d.fact 5 (f := .glo ("common" : Str)) rfl), F⟩
  fn_is_integer := (c.t.d.def_ 7 (d := dd_is_integer) rfl).elim fun fd F => ⟨_, fd, He.glo_ok X G (c.t.d.fact 6 (f := .glo ("is_integer" : Str)) rfl), F⟩
  fn_Ratiodd_initdd := (c.t.d.def_ 8 (d := dd_Ratiodd_initdd) rfl).elim fun fd F => ⟨_, fd, He.mkr_ok (c.t.d.fact 31 (f := .mkr ("Ratio" : Str)) rfl), F⟩
  fn__law_gcd := (c.t.d.def_ 9 (d := dd__law_gcd) rfl).elim fun fd F => ⟨_, fd, He.glo_ok X G (c.t.d.fact 7 (f := .glo ("_law_gcd" : Str)) rfl), F⟩
  fn__law_fr := (c.t.d.def_ 10 (d := dd__law_fr) rfl).elim fun fd F => ⟨_, fd, He.glo_ok X G (c.t.d.fact 8 (f := .glo ("_law_fr" : Str)) rfl), F⟩
  fn_Ratio_number := (c.pdef 0 (p := (pgA ("Ratio" : Str) ("number" : Str), dd_Ratio_number)) rfl).elim fun fd F => ⟨_, _, fd, proB_ok (exAt c 18), F⟩
  fn_Ratio_under := (c.pdef 1 (p := (pgA ("Ratio" : Str) ("under" : Str), dd_Ratio_under)) rfl).elim fun fd F => ⟨_, _, fd, proB_ok (exAt c 19), F⟩
  fn_Ratiodd_eqdd := (c.t.d.def_ 11 (d := dd_Ratiodd_eqdd) rfl).elim fun fd F => ⟨_, fd, He.meth_ok (c.t.d.fact 32 (f := .meth ("Ratio" : Str) ("__eq__" : Str)) rfl), F⟩
  fn__law_is_made := (c.t.d.def_ 12 (d := dd__law_is_made) rfl).elim fun fd F => ⟨_, fd, He.glo_ok X G (c.t.d.fact 9 (f := .glo ("_law_is_made" : Str)) rfl), F⟩
  fn__law_right := (c.t.d.def_ 13 (d := dd__law_right) rfl).elim fun fd F => ⟨_, fd, He.glo_ok X G (c.t.d.fact 10 (f := .glo ("_law_right" : Str)) rfl), F⟩
  fn__law_pot := (c.t.d.def_ 14 (d := dd__law_pot) rfl).elim fun fd F => ⟨_, fd, He.glo_ok X G (c.t.d.fact 11 (f := .glo ("_law_pot" : Str)) rfl), F⟩
  fn__law_cells := (c.t.d.def_ 15 (d := dd__law_cells) rfl).elim fun fd F => ⟨_, fd, He.glo_ok X G (c.t.d.fact 12 (f := .glo ("_law_cells" : Str)) rfl), F⟩
  fn_law := (c.t.d.def_ 16 (d := dd_law) rfl).elim fun fd F => ⟨_, fd, He.glo_ok X G (c.t.d.fact 13 (f := .glo ("law" : Str)) rfl), F⟩
theorem fx (X : K.In h) (G : h.Ns mainGlobals mg) (c : SaysZ ffa dfn tts pps tfs exB ("KnobError" : Str) dd_ini fil w h K) (c1 : Nat) : Fx (PySem.Challenge.rw_looseknobs_k01_ratios_made).prog K w mg (clK K c1) where
  ini := ⟨He.ga K ("KnobError" : Str), inA ("KnobError" : Str) K, inK_of (d := dd_ini) (file := fil) rfl c.c c.okc rfl (fs X G c c1).b_super (by rfl), fun i => match i with | 0 => exkB_ok (exAt c 21) | _ + 1 => exkB_ok (exAt c 25)⟩
  g_0 := He.glo_ok X G (c.t.d.fact 15 (f := .glo ("BadRatio" : Str)) rfl)
  xi_BadRatio_0 := of_decide_eq_true (exAt c 29)
  xn_BadRatio := of_decide_eq_true (exAt c 30)
  xc := fun i => match i with | 0 => ⟨(excB_ok (exAt c 23)).1, (excB_ok (exAt c 23)).2, He.eqO_ok (exAt c 24)⟩ | _ + 1 => ⟨(excB_ok (exAt c 27)).1, (excB_ok (exAt c 27)).2, He.eqO_ok (exAt c 28)⟩
  kn := ⟨He.ga K ("KnobError" : Str), He.glo_ok X G (c.t.d.fact 16 (f := .glo ("KnobError" : Str)) rfl), fun i => match i with | 0 => of_decide_eq_true (exAt c 22) | _ + 1 => of_decide_eq_true (exAt c 26)⟩
  t0 := fun z => by cases z
/-- the makers of lambdas -/
structure LmF (K : PySem.W.Frag) (mg : Str → Option Value) (base : Heap) : Prop where
  tb : ∀ p ∈ lams K, LamX.TabB base mg p.1 p.2
  lm__law_right : ∀ f, mg ("_law_right" : Str) = some (.ref f) → cdA K f = He.codeOf K (("_law_right" : Str), none)
theorem K__law_take (E : ∀ c1, Fs K w mg (clK K c1)) (FX : ∀ c1, Fx P K w mg (clK K c1)) (LM : LmF K mg base) (c1 : Nat) : Cal P w K mg base (clK K c1) 1 ("_law_take" : Str) 2 (trF f__law_take) := by
  obtain ⟨f, fd, hm, F⟩ := (E c1).fn__law_take
  obtain ⟨fd2, ps2, F2, b2⟩ := tr_ok ⟨fd, _, ok__law_take (P := P) (base := base) (E c1) (FX c1) F , bn__law_take F⟩
  exact ⟨f, fd2, ps2, F2, hm, F.kp, b2⟩
theorem K__law_of (E : ∀ c1, Fs K w mg (clK K c1)) (FX : ∀ c1, Fx P K w mg (clK K c1)) (LM : LmF K mg base) (c1 : Nat) : Cal P w K mg base (clK K c1) 2 ("_law_of" : Str) 2 (trF f__law_of) := by
  obtain ⟨f, fd, hm, F⟩ := (E c1).fn__law_of
  obtain ⟨fd2, ps2, F2, b2⟩ := tr_ok ⟨fd, _, ok__law_of (P := P) (base := base) (E c1) (FX c1) F (K__law_take E FX LM c1), bn__law_of F⟩
  exact ⟨f, fd2, ps2, F2, hm, F.kp, b2⟩
theorem K__law_number (E : ∀ c1, Fs K w mg (clK K c1)) (FX : ∀ c1, Fx P K w mg (clK K c1)) (LM : LmF K mg base) (c1 : Nat) : Cal P w K mg base (clK K c1) 3 ("_law_number" : Str) 1 (trF f__law_number) := by
  obtain ⟨f, fd, hm, F⟩ := (E c1).fn__law_number
  obtain ⟨fd2, ps2, F2, b2⟩ := tr_ok ⟨fd, _, ok__law_number (P := P) (base := base) (E c1) (FX c1) F (K__law_of E FX LM c1), bn__law_number F⟩
  exact ⟨f, fd2, ps2, F2, hm, F.kp, b2⟩
theorem K_Ratiodd_reprdd (E : ∀ c1, Fs K w mg (clK K c1)) (FX : ∀ c1, Fx P K w mg (clK K c1)) (LM : LmF K mg base) (c1 : Nat) : ∃ f, Meth K ((clK K c1).ad 0) ("__repr__" : Str) f ∧ FnD P w K mg base (clK K c1) 1 f 1 (trF f_Ratiodd_reprdd) := by
  obtain ⟨f, fd, hm, F⟩ := (E c1).fn_Ratiodd_reprdd
  exact ⟨f, hm, tr_ok ⟨fd, _, ok_Ratiodd_reprdd (P := P) (base := base) (E c1) (FX c1) F , bn_Ratiodd_reprdd F⟩⟩
theorem K_common (E : ∀ c1, Fs K w mg (clK K c1)) (FX : ∀ c1, Fx P K w mg (clK K c1)) (LM : LmF K mg base) (c1 : Nat) : Cal P w K mg base (clK K c1) 1 ("common" : Str) 2 (trF f_common) := by
  obtain ⟨f, fd, hm, F⟩ := (E c1).fn_common
  obtain ⟨fd2, ps2, F2, b2⟩ := tr_ok ⟨fd, _, ok_common (P := P) (base := base) (E c1) (FX c1) F , bn_common F⟩
  exact ⟨f, fd2, ps2, F2, hm, F.kp, b2⟩
theorem K_is_integer (E : ∀ c1, Fs K w mg (clK K c1)) (FX : ∀ c1, Fx P K w mg (clK K c1)) (LM : LmF K mg base) (c1 : Nat) : Cal P w K mg base (clK K c1) 1 ("is_integer" : Str) 1 (trF f_is_integer) := by
  obtain ⟨f, fd, hm, F⟩ := (E c1).fn_is_integer
  obtain ⟨fd2, ps2, F2, b2⟩ := tr_ok ⟨fd, _, ok_is_integer (P := P) (base := base) (E c1) (FX c1) F , bn_is_integer F⟩
  exact ⟨f, fd2, ps2, F2, hm, F.kp, b2⟩
theorem K_Ratiodd_initdd (E : ∀ c1, Fs K w mg (clK K c1)) (FX : ∀ c1, Fx P K w mg (clK K c1)) (LM : LmF K mg base) (c1 : Nat) : ∃ f, Mk K ((clK K c1).ad 0) f ∧ FnX P w K mg base (clK K c1) 2 f 3 f_Ratiodd_initdd := by
  obtain ⟨f, fd, hm, F⟩ := (E c1).fn_Ratiodd_initdd
  exact ⟨f, hm, fd, _, ok_Ratiodd_initdd (E c1) (FX c1) F (K_common E FX LM c1) (K_is_integer E FX LM c1), bn_Ratiodd_initdd F⟩
theorem K_Ratiodd_initdd_d1 (E : ∀ c1, Fs K w mg (clK K c1)) (FX : ∀ c1, Fx P K w mg (clK K c1)) (LM : LmF K mg base) (c1 : Nat) : ∃ f, Mk K ((clK K c1).ad 0) f ∧ FnXDf P w K mg base (clK K c1) 2 f (1 + 1 + ([.int (1)] : List DV).length) [.int (1)] f_Ratiodd_initdd := by
  obtain ⟨f, fd, hm, F⟩ := (E c1).fn_Ratiodd_initdd
  obtain ⟨ds, hv, hb⟩ := bd_Ratiodd_initdd_1 F
  exact ⟨f, hm, fd, _, ds, _, ok_Ratiodd_initdd (P := P) (base := base) (E c1) (FX c1) F (K_common E FX LM c1) (K_is_integer E FX LM c1), hb, hv, (Stands.int .nil)⟩
theorem K__law_gcd (E : ∀ c1, Fs K w mg (clK K c1)) (FX : ∀ c1, Fx P K w mg (clK K c1)) (LM : LmF K mg base) (c1 : Nat) : Cal P w K mg base (clK K c1) 1 ("_law_gcd" : Str) 2 (trF f__law_gcd) := by
  obtain ⟨f, fd, hm, F⟩ := (E c1).fn__law_gcd
  obtain ⟨fd2, ps2, F2, b2⟩ := tr_ok ⟨fd, _, ok__law_gcd (P := P) (base := base) (E c1) (FX c1) F , bn__law_gcd F⟩
  exact ⟨f, fd2, ps2, F2, hm, F.kp, b2⟩
theorem K__law_fr (E : ∀ c1, Fs K w mg (clK K c1)) (FX : ∀ c1, Fx P K w mg (clK K c1)) (LM : LmF K mg base) (c1 : Nat) : Cal P w K mg base (clK K c1) 2 ("_law_fr" : Str) 2 (trF f__law_fr) := by
  obtain ⟨f, fd, hm, F⟩ := (E c1).fn__law_fr
  obtain ⟨fd2, ps2, F2, b2⟩ := tr_ok ⟨fd, _, ok__law_fr (P := P) (base := base) (E c1) (FX c1) F (K__law_gcd E FX LM c1), bn__law_fr F⟩
  exact ⟨f, fd2, ps2, F2, hm, F.kp, b2⟩
theorem K_Ratio_number (E : ∀ c1, Fs K w mg (clK K c1)) (FX : ∀ c1, Fx P K w mg (clK K c1)) (LM : LmF K mg base) (c1 : Nat) : ∃ (p f : Addr), PySem.W.findIn K (.ref ((clK K c1).ad 0)) ("number" : Str) = some (some (.ref p)) ∧ PySem.W.specialIn K (.ref p) "__get__" = some (some (.builtin "property.__get__")) ∧ PySem.W.takesIn K (.ref p) = some true ∧ (∃ rest, PySem.W.recIn K p "property" = some (.ref f :: rest)) ∧ FnD P w K mg base (clK K c1) 1 f 1 (trF f_Ratio_number) := by
  obtain ⟨p, f, fd, ⟨h1, h2, h3, h4⟩, F⟩ := (E c1).fn_Ratio_number
  exact ⟨p, f, h1, h2, h3, h4, tr_ok ⟨fd, _, ok_Ratio_number (P := P) (base := base) (E c1) (FX c1) F , bn_Ratio_number F⟩⟩
theorem K_Ratio_under (E : ∀ c1, Fs K w mg (clK K c1)) (FX : ∀ c1, Fx P K w mg (clK K c1)) (LM : LmF K mg base) (c1 : Nat) : ∃ (p f : Addr), PySem.W.findIn K (.ref ((clK K c1).ad 0)) ("under" : Str) = some (some (.ref p)) ∧ PySem.W.specialIn K (.ref p) "__get__" = some (some (.builtin "property.__get__")) ∧ PySem.W.takesIn K (.ref p) = some true ∧ (∃ rest, PySem.W.recIn K p "property" = some (.ref f :: rest)) ∧ FnD P w K mg base (clK K c1) 1 f 1 (trF f_Ratio_under) := by
  obtain ⟨p, f, fd, ⟨h1, h2, h3, h4⟩, F⟩ := (E c1).fn_Ratio_under
  exact ⟨p, f, h1, h2, h3, h4, tr_ok ⟨fd, _, ok_Ratio_under (P := P) (base := base) (E c1) (FX c1) F , bn_Ratio_under F⟩⟩
theorem K_Ratiodd_eqdd (E : ∀ c1, Fs K w mg (clK K c1)) (FX : ∀ c1, Fx P K w mg (clK K c1)) (LM : LmF K mg base) (c1 : Nat) : ∃ f, Meth K ((clK K c1).ad 0) ("__eq__" : Str) f ∧ FnD P w K mg base (clK K c1) 1 f 2 (trF f_Ratiodd_eqdd) := by
  obtain ⟨f, fd, hm, F⟩ := (E c1).fn_Ratiodd_eqdd
  exact ⟨f, hm, tr_ok ⟨fd, _, ok_Ratiodd_eqdd (P := P) (base := base) (E c1) (FX c1) F , bn_Ratiodd_eqdd F⟩⟩
theorem K__law_is_made (E : ∀ c1, Fs K w mg (clK K c1)) (FX : ∀ c1, Fx P K w mg (clK K c1)) (LM : LmF K mg base) (c1 : Nat) : CalG P w K mg base (clK K c1) 4 ("_law_is_made" : Str) 2 (trF f__law_is_made) := by
  obtain ⟨f, fd, hm, F⟩ := (E c1).fn__law_is_made
  exact ⟨f, fd, _, (trG_fn (ok__law_is_made (P := P) (base := base) (E c1) (FX c1) F (K_Ratiodd_reprdd E FX LM c1) (K_Ratiodd_initdd E FX LM c1) (K__law_fr E FX LM c1) (K_Ratio_number E FX LM c1) (K_Ratio_under E FX LM c1) (K_Ratiodd_eqdd E FX LM c1))), hm, F.kp, bn__law_is_made F⟩
theorem K__law_right (E : ∀ c1, Fs K w mg (clK K c1)) (FX : ∀ c1, Fx P K w mg (clK K c1)) (LM : LmF K mg base) (c1 : Nat) : CalG P w K mg base (clK K c1) 8 ("_law_right" : Str) 1 (trF f__law_right) := by
  obtain ⟨f, fd, hm, F⟩ := (E c1).fn__law_right
  have TB : LamX.TabB base mg (cdA K f) (He.cT K (("_law_right" : Str), none)).2 := by rw [LM.lm__law_right f hm]; exact LM.tb (He.cT K (("_law_right" : Str), none)) (List.mem_cons_self ..)
  exact ⟨f, fd, _, (trG_fn (ok__law_right (P := P) (base := base) (E c1) (FX c1) F TB (List.mem_cons_self ..) (fun p hp _ => by rw [List.mem_singleton.mp hp]) (K__law_of E FX LM c1) (K__law_number E FX LM c1) (K_Ratiodd_reprdd E FX LM c1) (K_Ratiodd_initdd E FX LM c1) (K_Ratiodd_initdd_d1 E FX LM c1) (K__law_is_made E FX LM c1))), hm, F.kp, bn__law_right F⟩
theorem K__law_pot (E : ∀ c1, Fs K w mg (clK K c1)) (FX : ∀ c1, Fx P K w mg (clK K c1)) (LM : LmF K mg base) (c1 : Nat) : Cal P w K mg base (clK K c1) 1 ("_law_pot" : Str) 2 f__law_pot := by
  obtain ⟨f, fd, hm, F⟩ := (E c1).fn__law_pot
  exact ⟨f, fd, _, ok__law_pot (E c1) (FX c1) F , hm, F.kp, bn__law_pot F⟩
theorem K__law_cells (E : ∀ c1, Fs K w mg (clK K c1)) (FX : ∀ c1, Fx P K w mg (clK K c1)) (LM : LmF K mg base) (c1 : Nat) : Cal P w K mg base (clK K c1) 1 ("_law_cells" : Str) 2 f__law_cells := by
  obtain ⟨f, fd, hm, F⟩ := (E c1).fn__law_cells
  exact ⟨f, fd, _, ok__law_cells (E c1) (FX c1) F , hm, F.kp, bn__law_cells F⟩
theorem facts (X : K.In h) (G : h.Ns mainGlobals mg) {f : Addr} (hfa : mg ("law" : Str) = some (.ref f)) (c : SaysZ ffa dfn tts pps tfs exB ("KnobError" : Str) dd_ini fil w h K) :
    ∃ fd : FuncData, (∀ (s : Shared) (v : Value), BindsTo s fd ⟨[v], []⟩ [("script", v)]) ∧ ∀ base : Heap, K.In base → base.Ns mainGlobals mg → (∀ p ∈ lams K, LamX.TabB base mg p.1 p.2) → FnG (PySem.Challenge.rw_looseknobs_k01_ratios_made).prog w K mg base L2.CX0 9 f fd ["script"] (spF (spD K (clK K 0) 1 f_law)) := by
  have E := fs X G c
  have FX := fx X G c
  obtain ⟨fd, F⟩ := c.t.d.def_ 16 (d := dd_law) rfl
  have e := hfa.symm.trans (He.glo_ok X G (c.t.d.fact 13 (f := .glo ("law" : Str)) rfl))
  cases e
  have b := FunD.bindsA (ps := ["script"]) F fun _ _ _ _ _ _ us hl => match us, hl with | [_], _ => rfl
  refine ⟨fd, fun s v => b s [v] rfl, fun base KB GB TB => ?_⟩
  have LM : LmF K mg base := ⟨TB, fun f hm => by cases hm.symm.trans (He.glo_ok X G (c.t.d.fact 10 (f := .glo ("_law_right" : Str)) rfl)); rfl⟩
  exact thawG (ok_law (P := (PySem.Challenge.rw_looseknobs_k01_ratios_made).prog) (E 0) (FX 0) F (K__law_right E FX LM 0) (K__law_pot E FX LM 0) (K__law_cells E FX LM 0))
theorem law_sp {H : Hp} {a : Addr} {ns : List Int} (hl : ns.length ≤ 63) (hT : ∀ p ∈ lams K, H p.2 = some (.tbl #[])) (hS : SqL K H a (ns.map V.int)) : spF (spD K (clK K 0) 1 f_law) [.ref a] H (fun v _ => v = .bl true) fun _ _ _ => False := by
  obtain ⟨h', e⟩ := law_run ns hl
  refine law_in e (fun p hp => ?_) hS
  obtain ⟨d, hd, rfl⟩ := List.mem_map.mp (show p ∈ lamT K from hp)
  exact hT (He.cT K d) (List.mem_map.mpr ⟨d, hd, rfl⟩)
end
end Lw
open PySem PySem.W PySem.Calls PyProof.Rows
theorem PySem.Challenge.cw_looseknobs_k01_ratios_made_holds : PySem.Challenge.rw_looseknobs_k01_ratios_made.Holds := by
  w_on; o_law
  refine HandSHeadRun.head_any (r := OpenLaw.row PySem.Challenge.rw_looseknobs_k01_ratios_made) (q := Lw.qv) (H := Lw.hk) (ob := Lw.ob) (M := 30000) (loose := Lw.nms) (d := HandSHeadRun.topDef (OpenLaw.row PySem.Challenge.rw_looseknobs_k01_ratios_made).prog 32) (kwd := []) Lw.ob_eq
    (by kernel_rfl) (fun s => by kernel_rfl) Lw.run (by kernel_rfl) (by kernel_rfl) (by kernel_rfl) (by rfl) (by first | assumption | decide +kernel) (by decide +kernel) ⟨rfl, rfl, rfl, rfl, rfl, by decide +kernel⟩ ?hw ?hc
  case hw => w_witness2
  case hc =>
    refine D.walk_G (l := PySem.Challenge.rw_looseknobs_k01_ratios_made) (n := 63) (k := 9) (x := "script") rfl (by decide) (by kernel_rfl) ⟨rfl, by decide, by decide⟩ ?F
    intro w mg fa h Y G hmg0
    obtain ⟨K, KX, c⟩ := Y
    have hmg : mg ("law" : PySem.Str) = some (.ref fa) := by
      have e : (HandSHeadRun.topDef (OpenLaw.row PySem.Challenge.rw_looseknobs_k01_ratios_made).prog 32).name = ("law" : PySem.Str) := by kernel_rfl
      rw [← e]
      exact hmg0
    obtain ⟨fd, hb, hF⟩ := Lw.facts (w := w) KX G hmg c
    refine ⟨K, KX, fd, Lw.lams K, D.spF (D.spD K (Lw.clK K 0) 1 Lw.f_law), fun p hp => ?_, fun p hp => ?_, fun p hp => ?_, hb, fun H a ns hl hT hS => Lw.law_sp hl hT hS, hF⟩
    · obtain ⟨d, hd, rfl⟩ := List.mem_map.mp hp
      exact c.x.empty d hd
    · obtain ⟨d, hd, rfl⟩ := List.mem_map.mp hp
      exact c.x.out d hd
    · obtain ⟨d, hd, rfl⟩ := List.mem_map.mp hp
      exact PySem.W.codeHd_of_K KX (c.x.hd d hd)
