import PyProof.Rows.All
import Wide.All
import OpenK.AllK
import Wide.FinOn
import HandS.ForMost
import HandS.Slots
import HandS.SlotsOwn
import HandS.Codes
import HandS.Wide
import HandS.Zip
import HandS.StrMore
import HandS.IsInst
import HandS.Flow
import HandS.WideBits
import HandS.TupAny
import HandS.TupMul
import HandS.Steps
import HandS.TupLe
import HandS.Strs
import HandS.SortInts
import HandS.Conv
import PyProof.Rows.SetFrom
import HandS.SetFor
import HandS.Iter
import KE.GoesMore
import KE.KDictZip
import PyProof.Rows.StrMul
import OpenK.KMeth
import KE.KOpsOwn
import HandS.Defaults
import HandS.HeadHook4
import PySem.Challenge.RW_looseknobs_k09_words_by_hand
import KE.KStateDown
import Lean
import HandS.Head0
import HandS.Head1
import HandS.Head2
import HandS.HeadEnd
set_option Elab.async false
set_option linter.all false
set_option maxRecDepth 100000
set_option maxHeartbeats 1000000
/-! The D layer: a deterministic semantics over trees; its link to HandS. -/
namespace D
open PySem PySem.Spec PyProof.Rows L2 SlX

inductive DV where
  | non | bl (b : Bool) | int (i : Int) | str (s : List Nat) | ref (n : Nat)
  | tup (xs : List DV) | obj (c : Nat) (fs : List DV) | scr (ns : List Int)
inductive DO where
  | lst (xs : List DV) | dic (kvs : List (DV × DV)) | dfz (kvs : List (DV × DV)) | ins (c : Nat) (fs : List (Option DV)) | dead
  | pot (n : Nat) (ds : List (Nat × Nat))
/-- the classes' addresses; what the three numbers of a pot with these draws ahead of it keep -/
structure Cl where
  ad : Nat → Addr
  pot : Nat → List (Nat × Nat) → Int → Int → Int → Prop
abbrev Hs := List DO
inductive R (α : Type) where
  | ok (a : α) (h : Hs) | stuck
abbrev M (α : Type) := Hs → R α
abbrev Sl := List (Option DV)
def ret {α : Type} (a : α) : M α := fun h => .ok a h
def stk {α : Type} : M α := fun _ => .stuck
def bnd {α β : Type} (m : M α) (f : α → M β) : M β := fun h => match m h with
  | .ok a h1 => f a h1
  | .stuck => .stuck
theorem bnd_ok {α β : Type} {m : M α} {f : α → M β} {h h' : Hs} {b : β} (e : bnd m f h = .ok b h') : ∃ a h1, m h = .ok a h1 ∧ f a h1 = .ok b h' := by
  unfold bnd at e
  cases q : m h with
  | stuck => rw [q] at e; cases e
  | ok a h1 => rw [q] at e; exact ⟨a, h1, rfl, e⟩
theorem ret_ok {α : Type} {a b : α} {h h' : Hs} (e : ret a h = .ok b h') : a = b ∧ h = h' := by
  unfold ret at e
  cases e
  exact ⟨rfl, rfl⟩

/-- the world: where the objects of the D heap stand; which addresses are frozen -/
structure Wd where
  ρ : List (Addr × Addr)
  F : Addr → Prop

section
variable (K : PySem.W.Frag) (cl : Cl)
/-- a tuple that stays as it is -/
def FzT (W : Wd) (H : Hp) (a : Addr) (xs : List V) : Prop := (W.F a ∧ Rd H a (.tup xs)) ∨
  ∃ (o : Obj) (its : Array Value) (n : Nat), K.lookup a = some o ∧ o.cls = .type "tuple" ∧ o.data = .seq its n ∧ its.size ≤ sizeLine ∧ Vals xs its.toList
def FzL (W : Wd) (H : Hp) (a : Addr) (xs : List V) : Prop := (W.F a ∧ ∃ o, H a = some (.frz o (.lst xs))) ∨
  ∃ (o : Obj) (its : Array Value) (n : Nat), K.lookup a = some o ∧ o.cls = .type "list" ∧ o.dict = none ∧ o.data = .seq its n ∧ its.size ≤ sizeLine ∧ Vals xs its.toList
mutual
inductive RV (W : Wd) (H : Hp) : DV → V → Prop
  | non : RV W H .non .non
  | bl (b : Bool) : RV W H (.bl b) (.bl b)
  | int (i : Int) : RV W H (.int i) (.int i)
  | str (s : List Nat) : RV W H (.str s) (.str (SX.S s))
  | ref {n : Nat} {a d : Addr} : W.ρ[n]? = some (a, d) → RV W H (.ref n) (.ref a)
  | tup {ds : List DV} {xs : List V} {a : Addr} : FzT K W H a xs → RVs W H ds xs → RV W H (.tup ds) (.ref a)
  | obj {c : Nat} {ds : List DV} {xs : List V} {rest : List (Option V)} {a dx : Addr} : W.F a → W.F dx → dx ≠ a → H a = some (SlO a (cl.ad c) dx (xs.map some ++ rest)) → H dx = some (.xd []) → RVs W H ds xs → RV W H (.obj c ds) (.ref a)
  | scr {ns : List Int} {a : Addr} : FzL K W H a (ns.map V.int) → RV W H (.scr ns) (.ref a)
inductive RVs (W : Wd) (H : Hp) : List DV → List V → Prop
  | nil : RVs W H [] []
  | cons {d : DV} {ds : List DV} {x : V} {xs : List V} : RV W H d x → RVs W H ds xs → RVs W H (d :: ds) (x :: xs)
end
/-- keys of a dict: ints and texts -/
def RK : DV → Key → Prop
  | .int i, k => k = .inl i
  | .str s, k => k = .inr (SX.S s)
  | _, _ => False
inductive RKV (W : Wd) (H : Hp) : List (DV × DV) → List (Key × V) → Prop
  | nil : RKV W H [] []
  | cons {d e : DV} {k : Key} {x : V} {ds : List (DV × DV)} {xs : List (Key × V)} : RK d k → RV K cl W H e x → RKV W H ds xs → RKV W H ((d, e) :: ds) ((k, x) :: xs)
/-- slots, as far as they are known -/
def ROs (W : Wd) (H : Hp) (ds : List (Option DV)) (xs : List (Option V)) : Prop := ∀ (i : Nat) (d : DV), ds[i]? = some (some d) → ∃ x, xs[i]? = some (some x) ∧ RV K cl W H d x
/-- the slots of a frame -/
def RSl (W : Wd) (H : Hp) (ds : List (Option DV)) (xs : List (Option V)) : Prop := ds.length = xs.length ∧ ROs K cl W H ds xs
/-- an instance's own dict -/
def OwnD (u : HO) : Prop := (∃ y, u = .own y) ∨ u = .xd []
/-- an object of the D heap at a -/
def DOk (W : Wd) (H : Hp) (a dx : Addr) : DO → Prop
  | .lst ds => ¬ W.F a ∧ ∃ xs, H a = some (.lst xs) ∧ RVs K cl W H ds xs
  | .dic kvs => ¬ W.F a ∧ ∃ ks, H a = some (.dK ks) ∧ RKV K cl W H kvs ks
  | .dfz kvs => W.F a ∧ ∃ od ks, H a = some (.frz od (.dK ks)) ∧ RKV K cl W H kvs ks
  | .ins c fs => ¬ W.F a ∧ ¬ W.F dx ∧ dx ≠ a ∧ (∃ o, H dx = some o ∧ OwnD o) ∧ ∃ vs, Slt H a (cl.ad c) dx vs ∧ ROs K cl W H fs vs
  | .dead => True
  | .pot n ds => ¬ W.F a ∧ ∃ i j k, H a = some (.lst [.int i, .int j, .int k]) ∧ cl.pot n ds i j k
structure HRel (W : Wd) (h : Hs) (H : Hp) : Prop where
  len : h.length = W.ρ.length
  nd : (W.ρ.map (·.1)).Nodup
  tr : ∀ a, W.F a → ∃ o, H a = some o
  tr2 : ∀ p ∈ W.ρ, ∃ o, H p.1 = some o
  ok : ∀ (n : Nat) (o : DO) (a dx : Addr), h[n]? = some o → W.ρ[n]? = some (a, dx) → DOk K cl W H a dx o
  sep : ∀ (n m : Nat) (c c' : Nat) (fs fs' : List (Option DV)) (a dx b dy : Addr), h[n]? = some (.ins c fs) → h[m]? = some (.ins c' fs') → W.ρ[n]? = some (a, dx) → W.ρ[m]? = some (b, dy) → n ≠ m → dx ≠ dy
/-- a later world -/
structure Ext (W : Wd) (H : Hp) (W' : Wd) (H' : Hp) : Prop where
  pre : ∀ (n : Nat) (p : Addr × Addr), W.ρ[n]? = some p → W'.ρ[n]? = some p
  sub : ∀ a, W.F a → W'.F a
  keep : ∀ a, W.F a → H' a = H a
  new : ∀ (n : Nat) (p : Addr × Addr), W'.ρ[n]? = some p → W.ρ[n]? = some p ∨ ¬ W.F p.1
end
section
variable {K : PySem.W.Frag} {cl : Cl} {W W1 W2 : Wd} {H H1 H2 : Hp}
theorem Ext.refl : Ext W H W H := ⟨fun _ _ h => h, fun _ h => h, fun _ _ => rfl, fun _ _ h => .inl h⟩
theorem Ext.trans (a : Ext W H W1 H1) (b : Ext W1 H1 W2 H2) : Ext W H W2 H2 :=
  ⟨fun n p h => b.pre n p (a.pre n p h), fun x h => b.sub x (a.sub x h), fun x h => (b.keep x (a.sub x h)).trans (a.keep x h), fun n p h => (b.new n p h).elim (a.new n p) fun q => .inr fun z => q (a.sub _ z)⟩
theorem FzT.mono {a : Addr} {xs : List V} (e : Ext W H W1 H1) (h : FzT K W H a xs) : FzT K W1 H1 a xs := by
  rcases h with ⟨h1, h2⟩ | h
  · refine .inl ⟨e.sub a h1, ?_⟩
    rcases h2 with h2 | ⟨o, h2⟩
    · exact .inl ((e.keep a h1).trans h2)
    · exact .inr ⟨o, (e.keep a h1).trans h2⟩
  · exact .inr h
theorem FzL.mono {a : Addr} {xs : List V} (e : Ext W H W1 H1) (h : FzL K W H a xs) : FzL K W1 H1 a xs := by
  rcases h with ⟨h1, o, h2⟩ | h
  · exact .inl ⟨e.sub a h1, o, (e.keep a h1).trans h2⟩
  · exact .inr h
theorem FzT.sq {a : Addr} {xs : List V} (h : FzT K W H a xs) : SqT K H a xs := h.elim (fun q => .inl q.2) .inr
theorem FzL.sq {a : Addr} {xs : List V} (h : FzL K W H a xs) : SqL K H a xs := h.elim (fun q => .inl (.inr q.2)) .inr
mutual
theorem RV.mono (e : Ext W H W1 H1) : ∀ {d : DV} {x : V}, RV K cl W H d x → RV K cl W1 H1 d x
  | _, _, .non => .non
  | _, _, .bl b => .bl b
  | _, _, .int i => .int i
  | _, _, .str s => .str s
  | _, _, .ref h => .ref (e.pre _ _ h)
  | _, _, .tup h r => .tup (h.mono e) (RVs.mono e r)
  | _, _, .obj f1 f2 n h1 h2 r => .obj (e.sub _ f1) (e.sub _ f2) n ((e.keep _ f1).trans h1) ((e.keep _ f2).trans h2) (RVs.mono e r)
  | _, _, .scr h => .scr (h.mono e)
theorem RVs.mono (e : Ext W H W1 H1) : ∀ {ds : List DV} {xs : List V}, RVs K cl W H ds xs → RVs K cl W1 H1 ds xs
  | _, _, .nil => .nil
  | _, _, .cons r t => .cons (RV.mono e r) (RVs.mono e t)
end
theorem RVs.length : ∀ {ds : List DV} {xs : List V}, RVs K cl W H ds xs → ds.length = xs.length
  | _, _, .nil => rfl
  | _, _, .cons _ t => by rw [List.length_cons, List.length_cons, RVs.length t]
theorem RVs.get : ∀ {ds : List DV} {xs : List V} {i : Nat} {d : DV}, RVs K cl W H ds xs → ds[i]? = some d → ∃ x, xs[i]? = some x ∧ RV K cl W H d x
  | _, _, _, _, .nil, e => by simp at e
  | _, _, 0, _, .cons r _, e => by simp at e; subst e; exact ⟨_, rfl, r⟩
  | _, _, i + 1, d, .cons _ t, e => by
    obtain ⟨x, h1, h2⟩ := RVs.get (i := i) (d := d) t (by simpa using e)
    exact ⟨x, by simpa using h1, h2⟩
theorem RVs.append : ∀ {ds es : List DV} {xs ys : List V}, RVs K cl W H ds xs → RVs K cl W H es ys → RVs K cl W H (ds ++ es) (xs ++ ys)
  | _, _, _, _, .nil, s => s
  | _, _, _, _, .cons r t, s => .cons r (RVs.append t s)
theorem RVs.set {d : DV} {x : V} (r : RV K cl W H d x) : ∀ {ds : List DV} {xs : List V} (i : Nat), RVs K cl W H ds xs → RVs K cl W H (ds.set i d) (xs.set i x)
  | _, _, _, .nil => .nil
  | _, _, 0, .cons _ t => .cons r t
  | _, _, i + 1, .cons q t => .cons q (RVs.set r i t)
theorem RVs.drop : ∀ {ds : List DV} {xs : List V} (n : Nat), RVs K cl W H ds xs → RVs K cl W H (ds.drop n) (xs.drop n)
  | _, _, 0, r => r
  | _, _, _ + 1, .nil => .nil
  | _, _, n + 1, .cons _ t => RVs.drop n t
theorem RVs.take : ∀ {ds : List DV} {xs : List V} (n : Nat), RVs K cl W H ds xs → RVs K cl W H (ds.take n) (xs.take n)
  | _, _, 0, _ => .nil
  | _, _, _ + 1, .nil => .nil
  | _, _, n + 1, .cons r t => .cons r (RVs.take n t)
theorem RVs.eraseIdx : ∀ {ds : List DV} {xs : List V} (i : Nat), RVs K cl W H ds xs → RVs K cl W H (ds.eraseIdx i) (xs.eraseIdx i)
  | _, _, _, .nil => .nil
  | _, _, 0, .cons _ t => t
  | _, _, i + 1, .cons q t => .cons q (RVs.eraseIdx i t)
theorem RVs.ints : ∀ {ns : List Int} {xs : List V}, RVs K cl W H (ns.map .int) xs → xs = ns.map .int
  | [], _, h => by cases h; rfl
  | n :: ns, _, h => by
    rw [List.map_cons] at h
    cases h with
    | cons r t => cases r; rw [RVs.ints t]; rfl
theorem RKV.mono (e : Ext W H W1 H1) : ∀ {ds : List (DV × DV)} {xs : List (Key × V)}, RKV K cl W H ds xs → RKV K cl W1 H1 ds xs
  | _, _, .nil => .nil
  | _, _, .cons k r t => .cons k (r.mono e) (RKV.mono e t)
theorem ROs.mono {ds : List (Option DV)} {xs : List (Option V)} (e : Ext W H W1 H1) (r : ROs K cl W H ds xs) : ROs K cl W1 H1 ds xs := fun i d h => by
  obtain ⟨x, h1, h2⟩ := r i d h
  exact ⟨x, h1, h2.mono e⟩
theorem RSl.mono {ds : List (Option DV)} {xs : List (Option V)} (e : Ext W H W1 H1) (r : RSl K cl W H ds xs) : RSl K cl W1 H1 ds xs := ⟨r.1, r.2.mono e⟩
end

section
variable {K : PySem.W.Frag} {cl : Cl} {W W1 : Wd} {h : Hs} {H H1 : Hp}
/-- nothing that is tracked changes; what is frozen anew was not there -/
theorem DOk.grow {a dx : Addr} {o : DO} (e : Ext W H W1 H1) (st : ∀ b u, H b = some u → H1 b = some u) (fr : ∀ b, W1.F b → W.F b ∨ H b = none) (x : DOk K cl W H a dx o) : DOk K cl W1 H1 a dx o := by
  have nf : ∀ b, ¬ W.F b → (∃ u, H b = some u) → ¬ W1.F b := fun b n ⟨u, hu⟩ q => by
    rcases fr b q with q | q
    · exact n q
    · rw [hu] at q; cases q
  cases o with
  | lst ds =>
    obtain ⟨n, xs, h1, r⟩ := x
    exact ⟨nf a n ⟨_, h1⟩, xs, st _ _ h1, r.mono e⟩
  | dic kvs =>
    obtain ⟨n, xs, h1, r⟩ := x
    exact ⟨nf a n ⟨_, h1⟩, xs, st _ _ h1, r.mono e⟩
  | dfz kvs =>
    obtain ⟨n, od, xs, h1, r⟩ := x
    exact ⟨e.sub a n, od, xs, st _ _ h1, r.mono e⟩
  | ins c fs =>
    obtain ⟨n1, n2, ne, ⟨u, hu, ow⟩, vs, sl, r⟩ := x
    have ha : ∃ u, H a = some u := by
      rcases sl with ⟨q, _⟩ | ⟨q, _⟩
      · exact ⟨_, q⟩
      · exact ⟨_, q⟩
    refine ⟨nf a n1 ha, nf dx n2 ⟨u, hu⟩, ne, ⟨u, st _ _ hu, ow⟩, vs, ?_, r.mono e⟩
    rcases sl with ⟨q, q2⟩ | ⟨q, q2⟩
    · exact .inl ⟨st _ _ q, q2⟩
    · exact .inr ⟨st _ _ q, st _ _ q2⟩
  | dead => exact True.intro
  | pot n ds =>
    obtain ⟨n1, i, j, k, h1, r⟩ := x
    exact ⟨nf a n1 ⟨_, h1⟩, i, j, k, st _ _ h1, r⟩
theorem HRel.grow (x : HRel K cl W h H) (e : Ext W H W1 H1) (hρ : W1.ρ = W.ρ) (st : ∀ b u, H b = some u → H1 b = some u) (fr : ∀ b, W1.F b → W.F b ∨ H b = none) (tr : ∀ b, W1.F b → ∃ u, H1 b = some u) : HRel K cl W1 h H1 where
  len := by rw [hρ]; exact x.len
  nd := by rw [hρ]; exact x.nd
  tr := tr
  tr2 := fun p hp => by
    rw [hρ] at hp
    obtain ⟨u, q⟩ := x.tr2 p hp
    exact ⟨u, st _ _ q⟩
  ok := fun n o a dx h1 h2 => (x.ok n o a dx h1 (by rw [← hρ]; exact h2)).grow e st fr
  sep := by rw [hρ]; exact x.sep
/-- the world with p frozen -/
def Wd.fz (W : Wd) (p : Addr) : Wd := ⟨W.ρ, fun a => W.F a ∨ a = p⟩
theorem ext_new {p : Addr} {o : HO} (hp : H p = none) (x : HRel K cl W h H) : Ext W H (W.fz p) (upd H p o) :=
  ⟨fun _ _ q => q, fun _ q => .inl q, fun a q => by
    obtain ⟨u, hu⟩ := x.tr a q
    exact upd_ne (ne_of_none hu hp), fun _ _ q => .inl q⟩
/-- a new frozen object -/
theorem HRel.new {p : Addr} {o : HO} (x : HRel K cl W h H) (hp : H p = none) : HRel K cl (W.fz p) h (upd H p o) :=
  x.grow (ext_new hp x) rfl (fun b u q => by rw [upd_ne (ne_of_none q hp)]; exact q) (fun b q => by
    rcases q with q | q
    · exact .inl q
    · rw [q]; exact .inr hp) fun b q => by
    by_cases e : b = p
    · rw [e]; exact ⟨o, upd_same⟩
    · rcases q with q | q
      · obtain ⟨u, hu⟩ := x.tr b q
        exact ⟨u, by rw [upd_ne e]; exact hu⟩
      · exact absurd q e
/-- .. a tuple -/
theorem rv_tup {p : Addr} {ds : List DV} {xs : List V} (x : HRel K cl W h H) (hp : H p = none) (r : RVs K cl W H ds xs) : RV K cl (W.fz p) (upd H p (.tup xs)) (.tup ds) (.ref p) :=
  .tup (.inl ⟨.inr rfl, .inl upd_same⟩) (r.mono (ext_new hp x))
/-- the world with one more object of the D heap at p -/
def Wd.add (W : Wd) (p : Addr) : Wd := ⟨W.ρ ++ [(p, p)], W.F⟩
theorem ext_add {p : Addr} {o : HO} (hp : H p = none) (x : HRel K cl W h H) : Ext W H (W.add p) (upd H p o) :=
  ⟨fun n q e => by
    show (W.ρ ++ [(p, p)])[n]? = some q
    rw [List.getElem?_append_left (List.getElem?_eq_some_iff.mp e).1]; exact e, fun _ q => q, fun a q => by
    obtain ⟨u, hu⟩ := x.tr a q
    exact upd_ne (ne_of_none hu hp), fun n q e => by
    have e : (W.ρ ++ [(p, p)])[n]? = some q := e
    by_cases hn : n < W.ρ.length
    · rw [List.getElem?_append_left hn] at e; exact .inl e
    · refine .inr fun z => ?_
      rw [List.getElem?_append_right (by omega)] at e
      have q1 : q = (p, p) := by
        cases k : n - W.ρ.length with
        | zero => rw [k] at e; simpa using e.symm
        | succ k' => rw [k] at e; simp at e
      rw [q1] at z
      obtain ⟨u, hu⟩ := x.tr p z
      rw [hp] at hu; cases hu⟩
theorem getElem?_snoc {α : Type} {l : List α} {a b : α} {n : Nat} (e : (l ++ [a])[n]? = some b) : (l[n]? = some b ∧ n < l.length) ∨ (n = l.length ∧ a = b) := by
  by_cases hn : n < l.length
  · rw [List.getElem?_append_left hn] at e; exact .inl ⟨e, hn⟩
  · rw [List.getElem?_append_right (by omega)] at e
    cases k : n - l.length with
    | zero => rw [k] at e; exact .inr ⟨by omega, by simpa using e⟩
    | succ k' => rw [k] at e; simp at e
/-- a new list or dict -/
theorem HRel.add {p : Addr} {o : HO} {d : DO} (x : HRel K cl W h H) (hp : H p = none) (hd : ∀ c fs, d ≠ .ins c fs) (ok : DOk K cl (W.add p) (upd H p o) p p d) : HRel K cl (W.add p) (h ++ [d]) (upd H p o) := by
  have st : ∀ b u, H b = some u → upd H p o b = some u := fun b u q => by rw [upd_ne (ne_of_none q hp)]; exact q
  have e := ext_add (o := o) hp x
  refine ⟨?_, ?_, fun a q => ?_, fun q hq => ?_, fun n d' a dx h1 h2 => ?_, fun n m c c' fs fs' a dx b dy h1 h2 h3 h4 hn => ?_⟩
  · show (h ++ [d]).length = (W.ρ ++ [(p, p)]).length
    rw [List.length_append, List.length_append, x.len]; rfl
  · show ((W.ρ ++ [(p, p)]).map (·.1)).Nodup
    rw [List.map_append, List.nodup_append]
    refine ⟨x.nd, by simp, ?_⟩
    intro a ha b hb z
    simp at hb
    subst hb
    subst z
    obtain ⟨q, hq, e⟩ := List.mem_map.mp ha
    obtain ⟨u, hu⟩ := x.tr2 q hq
    rw [e, hp] at hu
    cases hu
  · obtain ⟨u, hu⟩ := x.tr a q
    exact ⟨u, st _ _ hu⟩
  · have hq : q ∈ W.ρ ++ [(p, p)] := hq
    rcases List.mem_append.mp hq with hq | hq
    · obtain ⟨u, hu⟩ := x.tr2 q hq
      exact ⟨u, st _ _ hu⟩
    · rw [List.mem_singleton.mp hq]; exact ⟨o, upd_same⟩
  · have h2 : (W.ρ ++ [(p, p)])[n]? = some (a, dx) := h2
    rcases getElem?_snoc h1 with ⟨q, hn⟩ | ⟨q, q2⟩
    · rw [List.getElem?_append_left (by rw [← x.len]; exact hn)] at h2
      exact (x.ok n d' a dx q h2).grow e st fun b q => .inl q
    · rcases getElem?_snoc h2 with ⟨_, hn⟩ | ⟨_, q3⟩
      · rw [← x.len] at hn; omega
      · cases q3; subst q2; exact ok
  · have h3 : (W.ρ ++ [(p, p)])[n]? = some (a, dx) := h3
    have h4 : (W.ρ ++ [(p, p)])[m]? = some (b, dy) := h4
    rcases getElem?_snoc h1 with ⟨q, hn1⟩ | ⟨_, q2⟩
    · rcases getElem?_snoc h2 with ⟨q', hn2⟩ | ⟨_, q2⟩
      · rw [List.getElem?_append_left (by rw [← x.len]; exact hn1)] at h3
        rw [List.getElem?_append_left (by rw [← x.len]; exact hn2)] at h4
        exact x.sep n m c c' fs fs' a dx b dy q q' h3 h4 hn
      · exact absurd q2 (hd _ _)
    · exact absurd q2 (hd _ _)
theorem HRel.at {n : Nat} {o : DO} (x : HRel K cl W h H) (e : h[n]? = some o) : ∃ a dx, W.ρ[n]? = some (a, dx) ∧ DOk K cl W H a dx o := by
  have hn := (List.getElem?_eq_some_iff.mp e).1
  have hn2 : n < W.ρ.length := by rw [← x.len]; exact hn
  have q : W.ρ[n]? = some W.ρ[n] := List.getElem?_eq_getElem hn2
  exact ⟨(W.ρ[n]).1, (W.ρ[n]).2, q, x.ok n o _ _ e q⟩
theorem HRel.inj {n m : Nat} {a dx dy : Addr} (x : HRel K cl W h H) (h1 : W.ρ[n]? = some (a, dx)) (h2 : W.ρ[m]? = some (a, dy)) : n = m := by
  have e1 : (W.ρ.map (·.1))[n]? = some a := by rw [List.getElem?_map, h1]; rfl
  have e2 : (W.ρ.map (·.1))[m]? = some a := by rw [List.getElem?_map, h2]; rfl
  exact nd_ix x.nd e1 e2
/-- a list or dict of the D heap is written -/
theorem ext_wr {a : Addr} {o : HO} (nf : ¬ W.F a) : Ext W H W (upd H a o) := ⟨fun _ _ q => q, fun _ q => q, fun b q => upd_ne fun z => nf (by rw [← z]; exact q), fun _ _ q => .inl q⟩
theorem HRel.wr {n : Nat} {a dx : Addr} {o u : HO} {d : DO} (x : HRel K cl W h H) (hn : W.ρ[n]? = some (a, dx)) (nf : ¬ W.F a) (ha : H a = some u) (hu : (∃ xs, u = .lst xs) ∨ ∃ ks, u = .dK ks) (hd : ∀ c fs, d ≠ .ins c fs) (ok : DOk K cl W (upd H a o) a dx d) :
    HRel K cl W (h.set n d) (upd H a o) := by
  have e := ext_wr (H := H) (o := o) nf
  have other : ∀ b, b ≠ a → upd H a o b = H b := fun b hb => upd_ne hb
  refine ⟨by rw [List.length_set]; exact x.len, x.nd, fun b q => ?_, fun q hq => ?_, fun m d' b dy h1 h2 => ?_, fun m k c c' fs fs' b dy b' dz h1 h2 h3 h4 hmk => ?_⟩
  · obtain ⟨u, hu⟩ := x.tr b q
    exact ⟨u, by rw [other b fun z => nf (by rw [← z]; exact q)]; exact hu⟩
  · by_cases z : q.1 = a
    · exact ⟨o, by rw [z]; exact upd_same⟩
    · obtain ⟨u, hu⟩ := x.tr2 q hq
      exact ⟨u, by rw [other _ z]; exact hu⟩
  · by_cases hm : m = n
    · subst hm
      rw [hn] at h2
      cases h2
      have : m < h.length := by
        rw [x.len]; exact (List.getElem?_eq_some_iff.mp hn).1
      rw [List.getElem?_set_self this] at h1
      cases h1
      exact ok
    · rw [List.getElem?_set_ne (Ne.symm hm)] at h1
      have q := x.ok m d' b dy h1 h2
      have nb : b ≠ a := fun z => hm (x.inj (a := a) (by rw [← z]; exact h2) hn)
      cases d' with
      | lst ds =>
        obtain ⟨n1, xs, h1, r⟩ := q
        exact ⟨n1, xs, (other b nb).trans h1, r.mono e⟩
      | dic ds =>
        obtain ⟨n1, xs, h1, r⟩ := q
        exact ⟨n1, xs, (other b nb).trans h1, r.mono e⟩
      | dfz ds =>
        obtain ⟨n1, od, xs, h1, r⟩ := q
        exact ⟨n1, od, xs, (other b nb).trans h1, r.mono e⟩
      | ins c fs =>
        obtain ⟨n1, n2, ne, ⟨u', hu', ow⟩, vs, sl, r⟩ := q
        by_cases z : dy = a
        · exfalso
          rw [z, ha] at hu'
          have q2 := Option.some.inj hu'
          rw [← q2] at ow
          rcases ow with ⟨y, ow⟩ | ow <;> rcases hu with ⟨xs, hu⟩ | ⟨ks, hu⟩ <;> (rw [hu] at ow; cases ow)
        · refine ⟨n1, n2, ne, ⟨u', (other dy z).trans hu', ow⟩, vs, ?_, r.mono e⟩
          rcases sl with ⟨q1, q2⟩ | ⟨q1, q2⟩
          · exact .inl ⟨(other b nb).trans q1, q2⟩
          · exact .inr ⟨(other b nb).trans q1, (other dy z).trans q2⟩
      | dead => exact True.intro
      | pot m ds =>
        obtain ⟨n1, i, j, k, h1, r⟩ := q
        exact ⟨n1, i, j, k, (other b nb).trans h1, r⟩
  · have ni : ∀ {j : Nat} {c : Nat} {fs : List (Option DV)}, (h.set n d)[j]? = some (.ins c fs) → h[j]? = some (.ins c fs) := fun {j c fs} z => by
      by_cases hj : j = n
      · subst hj
        have : j < h.length := by
          rw [x.len]; exact (List.getElem?_eq_some_iff.mp hn).1
        rw [List.getElem?_set_self this] at z
        cases z
        exact absurd rfl (hd c fs)
      · rw [List.getElem?_set_ne (Ne.symm hj)] at z
        exact z
    exact x.sep m k c c' fs fs' b dy b' dz (ni h1) (ni h2) h3 h4 hmk
end

/-! ### a list or dict that grows while it is out of sight (a comprehension's): frozen between the turns -/
section
variable {K : PySem.W.Frag} {cl : Cl} {W W1 : Wd} {h : Hs} {H H1 : Hp} {D : Addr}
def Acc (u : HO) : Prop := (∃ xs, u = .lst xs) ∨ ∃ ks, u = .dK ks
theorem Acc.no {u : HO} (a : Acc u) : (∀ xs, u ≠ .tup xs) ∧ (∀ o v, u ≠ .frz o v) ∧ (∀ φ, u ≠ .ext φ) ∧ ∀ fs, u ≠ .xd fs := by
  rcases a with ⟨xs, rfl⟩ | ⟨ks, rfl⟩ <;> exact ⟨fun _ z => (nomatch z), fun _ _ z => (nomatch z), fun _ z => (nomatch z), fun _ z => (nomatch z)⟩
/-- the world with D taken away, or with D changed: nothing that is known leans on D -/
structure Off (W : Wd) (H : Hp) (W1 : Wd) (H1 : Hp) (D : Addr) : Prop where
  pre : ∀ (n : Nat) (p : Addr × Addr), W.ρ[n]? = some p → W1.ρ[n]? = some p
  sub : ∀ a, a ≠ D → W.F a → W1.F a
  keep : ∀ a, a ≠ D → W.F a → H1 a = H a
  acc : ∃ u, H D = some u ∧ Acc u
theorem FzT.off {a : Addr} {xs : List V} (e : Off W H W1 H1 D) (x : FzT K W H a xs) : FzT K W1 H1 a xs := by
  obtain ⟨u, hu, ac⟩ := e.acc
  rcases x with ⟨h1, h2⟩ | x
  · have ne : a ≠ D := fun z => by
      rw [z] at h2
      rcases h2 with h2 | ⟨o, h2⟩
      · rw [hu] at h2; exact ac.no.1 _ (Option.some.inj h2)
      · rw [hu] at h2; exact ac.no.2.1 _ _ (Option.some.inj h2)
    refine .inl ⟨e.sub a ne h1, ?_⟩
    rcases h2 with h2 | ⟨o, h2⟩
    · exact .inl ((e.keep a ne h1).trans h2)
    · exact .inr ⟨o, (e.keep a ne h1).trans h2⟩
  · exact .inr x
theorem FzL.off {a : Addr} {xs : List V} (e : Off W H W1 H1 D) (x : FzL K W H a xs) : FzL K W1 H1 a xs := by
  obtain ⟨u, hu, ac⟩ := e.acc
  rcases x with ⟨h1, o, h2⟩ | x
  · have ne : a ≠ D := fun z => by
      rw [z, hu] at h2
      exact ac.no.2.1 _ _ (Option.some.inj h2)
    exact .inl ⟨e.sub a ne h1, o, (e.keep a ne h1).trans h2⟩
  · exact .inr x
mutual
theorem RV.off (e : Off W H W1 H1 D) : ∀ {d : DV} {x : V}, RV K cl W H d x → RV K cl W1 H1 d x
  | _, _, .non => .non
  | _, _, .bl b => .bl b
  | _, _, .int i => .int i
  | _, _, .str s => .str s
  | _, _, .ref h => .ref (e.pre _ _ h)
  | _, _, .tup h r => .tup (h.off e) (RVs.off e r)
  | _, _, .obj f1 f2 n h1 h2 r => by
    obtain ⟨u, hu, ac⟩ := e.acc
    have n1 : ∀ {a b c d : Addr} {vs : List (Option V)}, H a = some (SlO b c d vs) → a ≠ D := fun {a b c d vs} q z => by
      rw [z, hu] at q
      exact ac.no.2.2.1 _ (Option.some.inj q)
    have n2 : ∀ {a : Addr}, H a = some (.xd []) → a ≠ D := fun {a} q z => by
      rw [z, hu] at q
      exact ac.no.2.2.2 _ (Option.some.inj q)
    exact .obj (e.sub _ (n1 h1) f1) (e.sub _ (n2 h2) f2) n ((e.keep _ (n1 h1) f1).trans h1) ((e.keep _ (n2 h2) f2).trans h2) (RVs.off e r)
  | _, _, .scr h => .scr (h.off e)
theorem RVs.off (e : Off W H W1 H1 D) : ∀ {ds : List DV} {xs : List V}, RVs K cl W H ds xs → RVs K cl W1 H1 ds xs
  | _, _, .nil => .nil
  | _, _, .cons r t => .cons (RV.off e r) (RVs.off e t)
end
theorem RKV.off (e : Off W H W1 H1 D) : ∀ {ds : List (DV × DV)} {xs : List (Key × V)}, RKV K cl W H ds xs → RKV K cl W1 H1 ds xs
  | _, _, .nil => .nil
  | _, _, .cons k r t => .cons k (r.off e) (RKV.off e t)
theorem ROs.off {ds : List (Option DV)} {xs : List (Option V)} (e : Off W H W1 H1 D) (r : ROs K cl W H ds xs) : ROs K cl W1 H1 ds xs := fun i d h => by
  obtain ⟨x, h1, h2⟩ := r i d h
  exact ⟨x, h1, h2.off e⟩
theorem RSl.off {ds : List (Option DV)} {xs : List (Option V)} (e : Off W H W1 H1 D) (r : RSl K cl W H ds xs) : RSl K cl W1 H1 ds xs := ⟨r.1, r.2.off e⟩
/-- D is none of the D heap's objects, nor an own dict of one -/
def Apart (W : Wd) (h : Hs) (D : Addr) : Prop := ∀ (n : Nat) (a dx : Addr), W.ρ[n]? = some (a, dx) → a ≠ D
theorem DOk.off {a dx : Addr} {o : DO} (e : Off W H W1 H1 D) (hρ : W1.ρ = W.ρ) (ne : a ≠ D) (st : ∀ b, b ≠ D → H1 b = H b) (fr : ∀ b, b ≠ D → W1.F b → W.F b) (x : DOk K cl W H a dx o) : DOk K cl W1 H1 a dx o := by
  obtain ⟨u, hu, ac⟩ := e.acc
  cases o with
  | lst ds =>
    obtain ⟨n, xs, h1, r⟩ := x
    exact ⟨fun q => n (fr a ne q), xs, (st a ne).trans h1, r.off e⟩
  | dic kvs =>
    obtain ⟨n, xs, h1, r⟩ := x
    exact ⟨fun q => n (fr a ne q), xs, (st a ne).trans h1, r.off e⟩
  | dfz kvs =>
    obtain ⟨n, od, xs, h1, r⟩ := x
    exact ⟨e.sub a ne n, od, xs, (st a ne).trans h1, r.off e⟩
  | ins c fs =>
    obtain ⟨n1, n2, nea, ⟨v, hv, ow⟩, vs, sl, r⟩ := x
    by_cases z : dx = D
    · exfalso
      rw [z, hu] at hv
      rw [← Option.some.inj hv] at ow
      rcases ow with ⟨y, ow⟩ | ow <;> rcases ac with ⟨xs, ac⟩ | ⟨ks, ac⟩ <;> (rw [ac] at ow; cases ow)
    · refine ⟨fun q => n1 (fr a ne q), fun q => n2 (fr dx z q), nea, ⟨v, (st dx z).trans hv, ow⟩, vs, ?_, r.off e⟩
      rcases sl with ⟨q1, q2⟩ | ⟨q1, q2⟩
      · exact .inl ⟨(st a ne).trans q1, q2⟩
      · exact .inr ⟨(st a ne).trans q1, (st dx z).trans q2⟩
  | dead => exact True.intro
  | pot n ds =>
    obtain ⟨n1, i, j, k, h1, r⟩ := x
    exact ⟨fun q => n1 (fr a ne q), i, j, k, (st a ne).trans h1, r⟩
theorem HRel.off (x : HRel K cl W h H) (e : Off W H W1 H1 D) (hρ : W1.ρ = W.ρ) (ap : Apart W h D) (st : ∀ b, b ≠ D → H1 b = H b) (fr : ∀ b, b ≠ D → W1.F b → W.F b) (tr : W1.F D → ∃ u, H1 D = some u) : HRel K cl W1 h H1 where
  len := by rw [hρ]; exact x.len
  nd := by rw [hρ]; exact x.nd
  tr := fun a q => by
    by_cases z : a = D
    · rw [z] at q ⊢; exact tr q
    · obtain ⟨u, hu⟩ := x.tr a (fr a z q)
      exact ⟨u, (st a z).trans hu⟩
  tr2 := fun p hp => by
    rw [hρ] at hp
    obtain ⟨n, hn⟩ := List.mem_iff_getElem?.mp hp
    obtain ⟨u, q⟩ := x.tr2 p hp
    exact ⟨u, (st _ (ap n p.1 p.2 hn)).trans q⟩
  ok := fun n o a dx h1 h2 => by
    rw [hρ] at h2
    exact (x.ok n o a dx h1 h2).off e hρ (ap n a dx h2) st fr
  sep := by rw [hρ]; exact x.sep
/-- the accumulated list changes -/
theorem Off.wr {o : HO} (hD : ∃ u, H D = some u ∧ Acc u) : Off W H W (upd H D o) D := ⟨fun _ _ q => q, fun _ _ q => q, fun a ne _ => upd_ne ne, hD⟩
theorem HRel.accWr {o : HO} (x : HRel K cl W h H) (hD : ∃ u, H D = some u ∧ Acc u) (ap : Apart W h D) : HRel K cl W h (upd H D o) :=
  x.off (Off.wr hD) rfl ap (fun b ne => upd_ne ne) (fun _ _ q => q) fun _ => ⟨o, upd_same⟩
/-- it is let go: an object of the D heap from now on -/
def Wd.let (W : Wd) (D : Addr) : Wd := ⟨W.ρ ++ [(D, D)], fun a => W.F a ∧ a ≠ D⟩
theorem Off.let (hD : ∃ u, H D = some u ∧ Acc u) : Off W H (W.let D) H D := ⟨fun n q e => by
    show (W.ρ ++ [(D, D)])[n]? = some q
    rw [List.getElem?_append_left (List.getElem?_eq_some_iff.mp e).1]; exact e, fun a ne q => ⟨q, ne⟩, fun _ _ _ => rfl, hD⟩
theorem HRel.let {d : DO} (x : HRel K cl W h H) (hD : ∃ u, H D = some u ∧ Acc u) (ap : Apart W h D) (hd : ∀ c fs, d ≠ .ins c fs) (ok : DOk K cl (W.let D) H D D d) : HRel K cl (W.let D) (h ++ [d]) H where
  len := by
    show (h ++ [d]).length = (W.ρ ++ [(D, D)]).length
    rw [List.length_append, List.length_append, x.len]; rfl
  nd := by
    show ((W.ρ ++ [(D, D)]).map (·.1)).Nodup
    rw [List.map_append, List.nodup_append]
    refine ⟨x.nd, by simp, ?_⟩
    intro a ha b hb z
    simp at hb
    subst hb
    obtain ⟨q, hq, e⟩ := List.mem_map.mp ha
    obtain ⟨n, hn⟩ := List.mem_iff_getElem?.mp hq
    exact ap n q.1 q.2 hn (e.trans z)
  tr := fun a q => x.tr a q.1
  tr2 := fun p hp => by
    have hp : p ∈ W.ρ ++ [(D, D)] := hp
    rcases List.mem_append.mp hp with hp | hp
    · exact x.tr2 p hp
    · rw [List.mem_singleton.mp hp]
      obtain ⟨u, hu, _⟩ := hD
      exact ⟨u, hu⟩
  ok := fun n o a dx h1 h2 => by
    have h2 : (W.ρ ++ [(D, D)])[n]? = some (a, dx) := h2
    rcases getElem?_snoc h1 with ⟨q, hn⟩ | ⟨q, q2⟩
    · rw [List.getElem?_append_left (by rw [← x.len]; exact hn)] at h2
      have z := x.ok n o a dx q h2
      have ne := ap n a dx h2
      have e := Off.let (W := W) hD
      cases o with
      | lst ds =>
        obtain ⟨n1, xs, q1, r⟩ := z
        exact ⟨fun q => n1 q.1, xs, q1, r.off e⟩
      | dic ds =>
        obtain ⟨n1, xs, q1, r⟩ := z
        exact ⟨fun q => n1 q.1, xs, q1, r.off e⟩
      | dfz ds =>
        obtain ⟨n1, od, xs, q1, r⟩ := z
        exact ⟨⟨n1, ne⟩, od, xs, q1, r.off e⟩
      | ins c fs =>
        obtain ⟨n1, n2, nea, ow, vs, sl, r⟩ := z
        exact ⟨fun q => n1 q.1, fun q => n2 q.1, nea, ow, vs, sl, r.off e⟩
      | dead => exact True.intro
      | pot m ds =>
        obtain ⟨n1, i, j, k, h1, r⟩ := z
        exact ⟨fun q => n1 q.1, i, j, k, h1, r⟩
    · rcases getElem?_snoc h2 with ⟨_, hn⟩ | ⟨_, q3⟩
      · rw [← x.len] at hn; omega
      · cases q3; subst q2; exact ok
  sep := fun n m c c' fs fs' a dx b dy h1 h2 h3 h4 hn => by
    have h3 : (W.ρ ++ [(D, D)])[n]? = some (a, dx) := h3
    have h4 : (W.ρ ++ [(D, D)])[m]? = some (b, dy) := h4
    rcases getElem?_snoc h1 with ⟨q, hn1⟩ | ⟨_, q2⟩
    · rcases getElem?_snoc h2 with ⟨q', hn2⟩ | ⟨_, q2⟩
      · rw [List.getElem?_append_left (by rw [← x.len]; exact hn1)] at h3
        rw [List.getElem?_append_left (by rw [← x.len]; exact hn2)] at h4
        exact x.sep n m c c' fs fs' a dx b dy q q' h3 h4 hn
      · exact absurd q2 (hd _ _)
    · exact absurd q2 (hd _ _)
/-- what is apart stays so -/
theorem Apart.ext {h1 : Hs} (ap : Apart W h D) (e : Ext W H W1 H1) (hF : W.F D) : Apart W1 h1 D := fun n a dx q => by
  rcases e.new n (a, dx) q with z | z
  · exact ap n a dx z
  · exact fun y => z (by show W.F a; rw [y]; exact hF)
theorem Apart.fresh (x : HRel K cl W h H) (hD : H D = none) : Apart W h D := fun n a dx q z => by
  obtain ⟨u, hu⟩ := x.tr2 (a, dx) (List.mem_of_getElem? q)
  have hu : H a = some u := hu
  rw [z, hD] at hu
  cases hu
end
end D
set_option Elab.async false
set_option linter.all false
set_option maxRecDepth 100000
set_option maxHeartbeats 1000000
/-! D1: expressions. -/
namespace D
open PySem PySem.Spec PyProof.Rows L2 SlX

abbrev Ex := Sl → M DV
abbrev Exs := Sl → M (List DV)
abbrev Tx := Sl → M Bool
section
variable (K : PySem.W.Frag) (cl : Cl)
/-- what is wanted behind: any later world with the D heap h' and the value v -/
def Po (W : Wd) (H : Hp) (h' : Hs) (v : DV) (Q : VK) : Prop := ∀ W' H' x, Ext W H W' H' → HRel K cl W' h' H' → RV K cl W' H' v x → Q x H'
def tE (m : Ex) : TE := fun σ H Q => ∃ W h sl v h', HRel K cl W h H ∧ RSl K cl W H sl σ ∧ m sl h = .ok v h' ∧ Po K cl W H h' v Q
def tA (m : Exs) : TA := fun σ H Q => ∃ W h sl vs h', HRel K cl W h H ∧ RSl K cl W H sl σ ∧ m sl h = .ok vs h' ∧ ∀ W' H' xs, Ext W H W' H' → HRel K cl W' h' H' → RVs K cl W' H' vs xs → Q xs H'
def tT (m : Tx) : TT := fun σ H Q => ∃ W h sl b h', HRel K cl W h H ∧ RSl K cl W H sl σ ∧ m sl h = .ok b h' ∧ ∀ W' H', Ext W H W' H' → HRel K cl W' h' H' → Q b H'
/-- operations by values -/
def rD1 (g : DV → M DV) : V → Hp → VK → Prop := fun x H Q => ∃ W h d v h', HRel K cl W h H ∧ RV K cl W H d x ∧ g d h = .ok v h' ∧ Po K cl W H h' v Q
def rD2 (g : DV → DV → M DV) : R2 := fun x y H Q => ∃ W h d1 d2 v h', HRel K cl W h H ∧ RV K cl W H d1 x ∧ RV K cl W H d2 y ∧ g d1 d2 h = .ok v h' ∧ Po K cl W H h' v Q
def rDL (g : List DV → M DV) : List V → Hp → VK → Prop := fun xs H Q => ∃ W h ds v h', HRel K cl W h H ∧ RVs K cl W H ds xs ∧ g ds h = .ok v h' ∧ Po K cl W H h' v Q
/-- a def's promise -/
def spD (n : Nat) (g : List DV → M DV) : Sp := fun vs H Q _ => vs.length = n ∧ rDL K cl g vs H Q
end
abbrev DE (cl : Cl) (X : Cx) (e : Expr) (m : Ex) : Prop := PE X e (tE X.K cl m)
abbrev DA (cl : Cl) (X : Cx) (es : List Expr) (m : Exs) : Prop := PA X es (tA X.K cl m)
abbrev DT (cl : Cl) (X : Cx) (e : Expr) (m : Tx) : Prop := PT X e (tT X.K cl m)
abbrev DW (cl : Cl) (X : Cx) (e : Expr) (m : Tx) : Prop := PW X e (tT X.K cl m)
abbrev O2 (cl : Cl) (X : Cx) (f : Value → Value → Sem Value) (g : DV → DV → M DV) : Prop := OpR X f (rD2 X.K cl g)
abbrev O1 (cl : Cl) (X : Cx) (f : Value → Sem Value) (g : DV → M DV) : Prop := UnR X f (rD1 X.K cl g)
abbrev CD (cl : Cl) (X : Cx) (f : Value) (g : List DV → M DV) : Prop := CallR X f (rDL X.K cl g)

section
variable {K : PySem.W.Frag} {cl : Cl} {W W1 : Wd} {H H1 : Hp} {h h' : Hs}
theorem _root_.L2.PE.mono {X : Cx} {e : Expr} {t t' : TE} (p : PE X e t) (f : ∀ σ H Q, t' σ H Q → t σ H Q) : PE X e t' := ⟨fun pins s σ H Q I q => p.run pins s σ H Q I (f _ _ _ q)⟩
theorem _root_.L2.PT.mono {X : Cx} {e : Expr} {t t' : TT} (p : PT X e t) (f : ∀ σ H Q, t' σ H Q → t σ H Q) : PT X e t' := ⟨fun pins s σ H Q I q => p.run pins s σ H Q I (f _ _ _ q)⟩
theorem _root_.L2.PW.mono {X : Cx} {e : Expr} {t t' : TT} (p : PW X e t) (f : ∀ σ H Q, t' σ H Q → t σ H Q) : PW X e t' := ⟨fun w pins s σ H Q I q => p.run w pins s σ H Q I (f _ _ _ q)⟩
theorem _root_.L2.PA.mono {X : Cx} {es : List Expr} {t t' : TA} (p : PA X es t) (f : ∀ σ H Q, t' σ H Q → t σ H Q) : PA X es t' := ⟨fun pos pins s σ H Q I q => p.run pos pins s σ H Q I (f _ _ _ q)⟩
theorem Po.go {v : DV} {Q : VK} (e : Ext W H W1 H1) (p : Po K cl W H h' v Q) : Po K cl W1 H1 h' v Q := fun W' H' x e' r v' => p W' H' x (e.trans e') r v'
/-- here and now -/
theorem Po.now {v : DV} {x : V} {Q : VK} (p : Po K cl W H h v Q) (r : HRel K cl W h H) (rv : RV K cl W H v x) : Q x H := p W H x .refl r rv

/-! ### names and constants -/
def eSlot (i : Nat) : Ex := fun sl => match sl[i]? with
  | some (some v) => ret v
  | _ => stk
def eC (v : DV) : Ex := fun _ => ret v
variable {X : Cx} {pos : Pos}
theorem de_var {i : Nat} {x : Str} (hN : X.N[i]? = some x) (hv : Vis X.env.scope x) (hd : (x == ("__debug__" : Str)) = false := by decide) (hcd : (x == ("__classdict__" : Str)) = false := by decide) : DE cl X (.Name x pos) (eSlot i) := by
  refine (pe_var hN hv hd hcd).mono fun σ H Q q => ?_
  obtain ⟨W, h, sl, v, h', rel, rs, e, po⟩ := q
  unfold eSlot at e
  cases q : sl[i]? with
  | none => rw [q] at e; cases e
  | some o =>
    cases o with
    | none => rw [q] at e; cases e
    | some d =>
      rw [q] at e
      obtain ⟨rfl, rfl⟩ := ret_ok e
      obtain ⟨x, e1, r⟩ := rs.2 i d q
      exact ⟨x, e1, po.now rel r⟩
theorem de_c {e : Expr} {v : V} {d : DV} (p : PE X e (tC v)) (r : ∀ W H, RV X.K cl W H d v) : DE cl X e (eC d) := p.mono fun σ H Q q => by
  obtain ⟨W, h, sl, v, h', rel, rs, e, po⟩ := q
  obtain ⟨rfl, rfl⟩ := ret_ok e
  exact po.now rel (r W H)
theorem de_int {i : Int} {j} : DE cl X (.Constant (.int i) j pos) (eC (.int i)) := de_c pe_int fun _ _ => .int i
theorem de_bl {b : Bool} {j} : DE cl X (.Constant (.bool b) j pos) (eC (.bl b)) := de_c pe_bl fun _ _ => .bl b
theorem de_non {j} : DE cl X (.Constant .none j pos) (eC .non) := de_c pe_non fun _ _ => .non
theorem de_str {x : Str} {j} : DE cl X (.Constant (.str x) j pos) (eC (.str x.cps.toList)) := de_c pe_str fun _ _ => by
  have q := RV.str (K := X.K) (cl := cl) (W := ‹_›) (H := ‹_›) x.cps.toList
  rw [SX.S_tl] at q
  exact q

/-! ### two, three in a row -/
theorem te_then {m : Ex} {f : DV → Sl → M DV} {σ : L2.St} {Q : VK} (q : tE K cl (fun sl => bnd (m sl) fun d => f d sl) σ H Q) :
    tE K cl m σ H fun x H1 => ∃ W h sl d v h', HRel K cl W h H1 ∧ RSl K cl W H1 sl σ ∧ RV K cl W H1 d x ∧ f d sl h = .ok v h' ∧ Po K cl W H1 h' v Q := by
  obtain ⟨W, h, sl, v, h', rel, rs, e, po⟩ := q
  obtain ⟨d, h1, e1, e2⟩ := bnd_ok e
  exact ⟨W, h, sl, d, h1, rel, rs, e1, fun W' H' x ext rel' rv => ⟨W', h1, sl, d, v, h', rel', rs.mono ext, rv, e2, po.go ext⟩⟩
theorem te_then2 {a b : Ex} {g : DV → DV → M DV} {σ : L2.St} {Q : VK} (q : tE K cl (fun sl => bnd (a sl) fun x => bnd (b sl) fun y => g x y) σ H Q) :
    tE K cl a σ H fun x H1 => tE K cl b σ H1 fun y H2 => rD2 K cl g x y H2 Q := by
  obtain ⟨W, h, sl, v, h', rel, rs, e, po⟩ := q
  obtain ⟨d, h1, e1, e2⟩ := bnd_ok e
  obtain ⟨d2, h2, e3, e4⟩ := bnd_ok e2
  exact ⟨W, h, sl, d, h1, rel, rs, e1, fun W1 H1 x ext rel1 rv => ⟨W1, h1, sl, d2, h2, rel1, rs.mono ext, e3, fun W2 H2 y ext2 rel2 rv2 =>
    ⟨W2, h2, d, d2, v, h', rel2, rv.mono ext2, rv2, e4, (po.go ext).go ext2⟩⟩⟩
def eOp (g : DV → DV → M DV) (a b : Ex) : Ex := fun sl => bnd (a sl) fun x => bnd (b sl) fun y => g x y
def eUn (g : DV → M DV) (a : Ex) : Ex := fun sl => bnd (a sl) g
variable {a b c : Expr} {ma mb mc : Ex}
theorem de_op {op : Operator} {g : DV → DV → M DV} (ho : O2 cl X (binaryOp op) g) (ha : DE cl X a ma) (hb : DE cl X b mb) : DE cl X (.BinOp a op b pos) (eOp g ma mb) := (pe_op ho ha hb).mono fun _ _ _ q => te_then2 q
theorem de_cmp {op : CmpOp} {g : DV → DV → M DV} (ho : O2 cl X (compareOp op) g) (ha : DE cl X a ma) (hb : DE cl X b mb) (hm : behindInMarks op b = false) : DE cl X (.Compare a [op] [b] pos) (eOp g ma mb) := (pe_cmpR ho ha hb hm).mono fun _ _ _ q => te_then2 q
theorem de_un {op : UnaryOp} {g : DV → M DV} (ho : O1 cl X (unaryOp op) g) (ha : DE cl X a ma) : DE cl X (.UnaryOp op a pos) (eUn g ma) := (pe_un ho ha).mono fun σ H Q q => by
  obtain ⟨W, h, sl, v, h', rel, rs, e, po⟩ := te_then (f := fun d _ => g d) q
  refine ⟨W, h, sl, v, h', rel, rs, e, fun W' H' x ext rel' rv => ?_⟩
  obtain ⟨W1, h1, sl1, d, v1, h2, r1, _, r3, r4, r5⟩ := po W' H' x ext rel' rv
  exact ⟨W1, h1, d, v1, h2, r1, r3, r4, r5⟩
def eIx (g : DV → DV → M DV) (a b : Ex) : Ex := eOp g a b
theorem de_ix {g : DV → DV → M DV} (ho : IxR X (rD2 X.K cl g)) (ha : DE cl X a ma) (hb : DE cl X b mb) (hs : PlainIx b) : DE cl X (.Subscript a b pos) (eOp g ma mb) := (pe_ix ho ha hb hs).mono fun _ _ _ q => te_then2 q

/-! ### argument lists, displays -/
def aNil : Exs := fun _ => ret []
def aCons (m : Ex) (ms : Exs) : Exs := fun sl => bnd (m sl) fun d => bnd (ms sl) fun ds => ret (d :: ds)
variable {es : List Expr} {ms : Exs}
theorem da_nil : DA cl X [] aNil := pa_nil.mono fun σ H Q q => by
  obtain ⟨W, h, sl, v, h', rel, rs, e, po⟩ := q
  obtain ⟨rfl, rfl⟩ := ret_ok e
  exact po W H [] .refl rel .nil
theorem da_cons (ha : DE cl X a ma) (hr : DA cl X es ms) (hs : starEach (a :: es) X.env = (false, eval a X.env) :: starEach es X.env := by rfl) : DA cl X (a :: es) (aCons ma ms) := (pa_cons ha hr hs).mono fun σ H Q q => by
  obtain ⟨W, h, sl, v, h', rel, rs, e, po⟩ := q
  obtain ⟨d, h1, e1, e2⟩ := bnd_ok e
  obtain ⟨ds, h2, e3, e4⟩ := bnd_ok e2
  obtain ⟨rfl, rfl⟩ := ret_ok e4
  exact ⟨W, h, sl, d, h1, rel, rs, e1, fun W1 H1 x ext rel1 rv => ⟨W1, h1, sl, ds, h2, rel1, rs.mono ext, e3, fun W2 H2 xs ext2 rel2 rvs =>
    po W2 H2 (x :: xs) (ext.trans ext2) rel2 (.cons (rv.mono ext2) rvs)⟩⟩
theorem ta_then {m : Exs} {g : List DV → M DV} {σ : L2.St} {Q : VK} (q : tE K cl (fun sl => bnd (m sl) g) σ H Q) : tA K cl m σ H fun xs H1 => rDL K cl g xs H1 Q := by
  obtain ⟨W, h, sl, v, h', rel, rs, e, po⟩ := q
  obtain ⟨d, h1, e1, e2⟩ := bnd_ok e
  exact ⟨W, h, sl, d, h1, rel, rs, e1, fun W' H' xs ext rel' rv => ⟨W', h1, d, v, h', rel', rv, e2, po.go ext⟩⟩
def fits (n : Nat) : Bool := Nat.ble n 16777216
theorem fits_ok {n : Nat} (h : fits n = true) : n ≤ sizeLine := by
  rw [sizeLine_eq]; exact Nat.le_of_ble_eq_true h
def tupD (ds : List DV) : M DV := if fits ds.length then ret (.tup ds) else stk
def lstD (ds : List DV) : M DV := if fits ds.length then fun h => .ok (.ref h.length) (h ++ [.lst ds]) else stk
theorem fit_if {α : Type} {n : Nat} {m : M α} {v : α} (e : (if fits n then m else stk) h = .ok v h') : n ≤ sizeLine ∧ m h = .ok v h' := by
  cases q : fits n with
  | false => rw [q] at e; cases e
  | true => rw [q] at e; exact ⟨fits_ok q, e⟩
/-- a new tuple -/
theorem po_tup {ds : List DV} {xs : List V} {Q : VK} (po : Po K cl W H h (.tup ds) Q) (rel : HRel K cl W h H) (r : RVs K cl W H ds xs) (p : Addr) (hp : H p = none) : Q (.ref p) (upd H p (.tup xs)) :=
  po _ _ _ (ext_new hp rel) (rel.new hp) (rv_tup rel hp r)
theorem po_lst {ds : List DV} {xs : List V} {Q : VK} (po : Po K cl W H (h ++ [.lst ds]) (.ref h.length) Q) (rel : HRel K cl W h H) (r : RVs K cl W H ds xs) (p : Addr) (hp : H p = none) : Q (.ref p) (upd H p (.lst xs)) := by
  have e := ext_add (o := .lst xs) hp rel
  refine po _ _ _ e (rel.add hp (fun _ _ z => by cases z) ⟨fun q => ?_, xs, upd_same, r.mono e⟩) (.ref (d := p) ?_)
  · obtain ⟨u, hu⟩ := rel.tr p q
    rw [hp] at hu; cases hu
  · show (W.ρ ++ [(p, p)])[h.length]? = some (p, p)
    rw [rel.len]; simp
def eTup (ms : Exs) : Ex := fun sl => bnd (ms sl) tupD
def eLst (ms : Exs) : Ex := fun sl => bnd (ms sl) lstD
theorem de_tup {x1} (hm : DA cl X es ms) : DE cl X (.Tuple es x1 pos) (eTup ms) := (pe_tup hm).mono fun σ H Q q => by
  obtain ⟨W, h, sl, v, h', rel, rs, e, po⟩ := ta_then q
  refine ⟨W, h, sl, v, h', rel, rs, e, fun W' H' xs ext rel' rv => ?_⟩
  obtain ⟨W1, h1, ds, v1, h2, r1, r2, r3, r4⟩ := po W' H' xs ext rel' rv
  obtain ⟨z, r3⟩ := fit_if r3
  obtain ⟨rfl, rfl⟩ := ret_ok r3
  exact ⟨by rw [← r2.length]; exact z, fun p hp => po_tup r4 r1 r2 p hp⟩
theorem de_lst (hm : DA cl X es ms) : DE cl X (.List es pos) (eLst ms) := (pe_lst hm).mono fun σ H Q q => by
  obtain ⟨W, h, sl, v, h', rel, rs, e, po⟩ := ta_then q
  refine ⟨W, h, sl, v, h', rel, rs, e, fun W' H' xs ext rel' rv => ?_⟩
  obtain ⟨W1, h1, ds, v1, h2, r1, r2, r3, r4⟩ := po W' H' xs ext rel' rv
  obtain ⟨z, r3⟩ := fit_if r3
  cases r3
  exact ⟨by rw [← r2.length]; exact z, fun p hp => po_lst r4 r1 r2 p hp⟩

/-! ### calls -/
def eCall (g : List DV → M DV) (ms : Exs) : Ex := fun sl => bnd (ms sl) g
variable {x : Str} {p : Pos} {e : Expr}
theorem de_callB {id : String} {g : List DV → M DV} (hc : CD cl X (.builtin id) g) (hg : Gl X x) (hm : X.mg x = none) (hv : bootBuiltins x = some (.builtin id)) (ha : DA cl X (e :: es) ms) (hn : x ≠ "__name__" := by decide) (hdb : (x == ("__debug__" : Str)) = false := by decide)
    (he : starEach (e :: es) X.env = (false, eval e X.env) :: starEach es X.env := by rfl) (hpl : (backTo pos (starEach es X.env)).any (·.1) = false := by rfl) : DE cl X (.Call (.Name x p) (e :: es) [] pos) (eCall g ms) :=
  (pe_callB hc hg hm hv ha hn hdb he hpl).mono fun _ _ _ q => ta_then q
theorem de_callTy {T : String} {g : List DV → M DV} (hc : CD cl X (.type T) g) (hg : Gl X x) (hm : X.mg x = none) (hv : bootBuiltins x = some (.type T)) (ha : DA cl X (e :: es) ms) (hn : x ≠ "__name__" := by decide) (hdb : (x == ("__debug__" : Str)) = false := by decide)
    (he : starEach (e :: es) X.env = (false, eval e X.env) :: starEach es X.env := by rfl) (hpl : (backTo pos (starEach es X.env)).any (·.1) = false := by rfl) : DE cl X (.Call (.Name x p) (e :: es) [] pos) (eCall g ms) :=
  (pe_callTy hc hg hm hv ha hn hdb he hpl).mono fun _ _ _ q => ta_then q
/-- a def that may be called by its name with n arguments -/
def Cal (P : Program) (w : World) (K : PySem.W.Frag) (mg : Str → Option Value) (base : Heap) (cl : Cl) (k : Nat) (x : Str) (n : Nat) (g : List DV → M DV) : Prop :=
  ∃ (f : Addr) (fd : FuncData) (ps : List Str), FnOk P w K mg base L2.CX0 k f fd ps (spD K cl n g) ∧ mg x = some (.ref f) ∧ PySem.W.keepIn K (.ref f) = true ∧ Binds K fd ps []
theorem de_call {k j n : Nat} {g : List DV → M DV} (C : Cal X.prog X.w X.K X.mg X.base cl k x n g) (hr : Room j X.A) (hk : k ≤ j) (hg : Gl X x) (ha : DA cl X (e :: es) ms) (hl : (e :: es).length = n)
    (hn : ∀ sl h vs h', ms sl h = .ok vs h' → vs.length = n)
    (hdb : (x == ("__debug__" : Str)) = false := by decide) (he : starEach (e :: es) X.env = (false, eval e X.env) :: starEach es X.env := by rfl) (hpl : (backTo pos (starEach es X.env)).any (·.1) = false := by rfl) :
    DE cl X (.Call (.Name x p) (e :: es) [] pos) (eCall g ms) := by
  obtain ⟨f, fd, ps, F, hm, hkp, hb⟩ := C
  refine (pe_call F (hr.mono hk) hg hm hkp hb .nil (L2.pass0) ha hdb he hpl).mono fun σ H Q q => ?_
  obtain ⟨W, h, sl, v, h', rel, rs, e, po⟩ := q
  obtain ⟨d, h1, e1, e2⟩ := bnd_ok e
  refine ⟨W, h, sl, d, h1, rel, rs, e1, fun W' H' xs ext rel' rv => ?_⟩
  show spD X.K cl n g (xs ++ []) H' Q E0
  rw [List.append_nil]
  exact ⟨by rw [← rv.length]; exact hn _ _ _ _ e1, W', h1, d, v, h', rel', rv, e2, po.go ext⟩
theorem len_nil {sl : Sl} {vs : List DV} (e : aNil sl h = .ok vs h') : vs.length = 0 := by
  obtain ⟨rfl, _⟩ := ret_ok e; rfl
theorem len_cons {n : Nat} {m : Ex} {ms : Exs} (hn : ∀ sl h vs h', ms sl h = .ok vs h' → vs.length = n) : ∀ sl h vs h', aCons m ms sl h = .ok vs h' → vs.length = n + 1 := fun sl h vs h' e => by
  obtain ⟨d, h1, e1, e2⟩ := bnd_ok e
  obtain ⟨ds, h2, e3, e4⟩ := bnd_ok e2
  obtain ⟨rfl, rfl⟩ := ret_ok e4
  rw [List.length_cons, hn _ _ _ _ e3]

/-! ### truth, tests -/
def truD (d : DV) : M Bool := match d with
  | .non => ret false
  | .bl b => ret b
  | .int i => ret (i != 0)
  | .str s => if fits s.length then ret (!s.isEmpty) else stk
  | .tup ds => ret (!ds.isEmpty)
  | .scr ns => ret (!ns.isEmpty)
  | .ref n => fun h => match h[n]? with
    | some (.lst ds) => .ok (!ds.isEmpty) h
    | some (.dic ks) => .ok (!ks.isEmpty) h
    | _ => .stuck
  | .obj _ _ => stk
theorem isEmpty_rvs {ds : List DV} {xs : List V} (r : RVs K cl W H ds xs) : xs.isEmpty = ds.isEmpty := by cases r <;> rfl
theorem isEmpty_rkv {ds : List (DV × DV)} {xs : List (Key × V)} (r : RKV K cl W H ds xs) : xs.isEmpty = ds.isEmpty := by cases r <;> rfl
theorem S_len0 (s : List Nat) : (((SX.S s).length : Int) != 0) = !s.isEmpty := by
  rw [SX.S_len]
  cases s with
  | nil => rfl
  | cons c r => simp; omega
theorem truD_ok {d : DV} {x : V} {b : Bool} (rel : HRel K cl W h H) (r : RV K cl W H d x) (e : truD d h = .ok b h') : h' = h ∧ TruV K x H b := by
  cases r with
  | non => obtain ⟨rfl, rfl⟩ := ret_ok e; exact ⟨rfl, rfl⟩
  | bl b => obtain ⟨rfl, rfl⟩ := ret_ok e; exact ⟨rfl, rfl⟩
  | int i => obtain ⟨rfl, rfl⟩ := ret_ok e; exact ⟨rfl, rfl⟩
  | str s =>
    obtain ⟨z, e⟩ := fit_if e
    obtain ⟨rfl, rfl⟩ := ret_ok e
    exact ⟨rfl, by rw [SX.S_len]; exact z, (S_len0 s).symm⟩
  | tup f r => obtain ⟨rfl, rfl⟩ := ret_ok e; exact ⟨rfl, .inr (.inl ⟨_, f.sq, by rw [isEmpty_rvs r]⟩)⟩
  | scr f =>
    obtain ⟨rfl, rfl⟩ := ret_ok e
    refine ⟨rfl, .inl ⟨_, f.sq, ?_⟩⟩
    rename_i ns _
    cases ns <;> rfl
  | obj => cases e
  | ref hn =>
    rename_i n a dx
    have e' : (match h[n]? with
    | some (.lst ds) => R.ok (!ds.isEmpty) h
    | some (.dic ks) => R.ok (!ks.isEmpty) h
    | _ => R.stuck) = R.ok b h' := e
    cases q : h[n]? with
    | none => rw [q] at e'; cases e'
    | some o =>
      rw [q] at e'
      cases o with
      | lst ds =>
        cases e'
        obtain ⟨_, xs, h1, r⟩ := rel.ok n _ a dx q hn
        exact ⟨rfl, .inl ⟨xs, SqL.of h1, by rw [isEmpty_rvs r]⟩⟩
      | dic ks =>
        cases e'
        obtain ⟨_, xs, h1, r⟩ := rel.ok n _ a dx q hn
        exact ⟨rfl, .inr (.inr ⟨xs, h1, by rw [isEmpty_rkv r]⟩)⟩
      | dfz ks => cases e'
      | ins c fs => cases e'
      | dead => cases e'
      | pot _ _ => cases e'
/-- a value as a test -/
def bE (m : Ex) : Tx := fun sl => bnd (m sl) truD
theorem dt_e (ha : DE cl X a ma) (he : ∀ whole, isTrue a X.env whole = (do let v ← whole; standAt a.pos; holding [v] (truthy v)) := by intro _; rfl) : DT cl X a (bE ma) := (pt_truth ha he).mono fun σ H Q q => by
  obtain ⟨W, h, sl, v, h', rel, rs, e, po⟩ := q
  obtain ⟨d, h1, e1, e2⟩ := bnd_ok e
  refine ⟨W, h, sl, d, h1, rel, rs, e1, fun W' H' x ext rel' rv => ?_⟩
  obtain ⟨rfl, t⟩ := truD_ok rel' rv e2
  exact ⟨v, t, po W' H' ext rel'⟩
/-- a bool that comes out of an operation -/
def boolOf (d : DV) : M Bool := match d with
  | .bl b => ret b
  | _ => stk
theorem boolOf_ok {d : DV} {b : Bool} (e : boolOf d h = .ok b h') : d = .bl b ∧ h' = h := by
  cases d <;> first | (obtain ⟨rfl, rfl⟩ := ret_ok e; exact ⟨rfl, rfl⟩) | cases e
def bCmp (g : DV → DV → M DV) (a b : Ex) : Tx := fun sl => bnd (a sl) fun x => bnd (b sl) fun y => bnd (g x y) boolOf
theorem tt_then2 {a b : Ex} {g : DV → DV → M DV} {σ : L2.St} {Q : Bool → Hp → Prop} (q : tT K cl (bCmp g a b) σ H Q) :
    tE K cl a σ H fun x H1 => tE K cl b σ H1 fun y H2 => rD2 K cl g x y H2 fun z H3 => ∃ k, z = .bl k ∧ Q k H3 := by
  obtain ⟨W, h, sl, v, h', rel, rs, e, po⟩ := q
  obtain ⟨d, h1, e1, e2⟩ := bnd_ok e
  obtain ⟨d2, h2, e3, e4⟩ := bnd_ok e2
  obtain ⟨d3, h3, e5, e6⟩ := bnd_ok e4
  obtain ⟨rfl, rfl⟩ := boolOf_ok e6
  exact ⟨W, h, sl, d, h1, rel, rs, e1, fun W1 H1 x ext rel1 rv => ⟨W1, h1, sl, d2, h2, rel1, rs.mono ext, e3, fun W2 H2 y ext2 rel2 rv2 =>
    ⟨W2, h2, d, d2, .bl v, h', rel2, rv.mono ext2, rv2, e5, fun W3 H3 z ext3 rel3 rv3 => by
      cases rv3
      exact ⟨v, rfl, po W3 H3 ((ext.trans ext2).trans ext3) rel3⟩⟩⟩⟩
theorem dt_cmp {op : CmpOp} {g : DV → DV → M DV} (ho : O2 cl X (compareOp op) g) (ha : DE cl X a ma) (hb : DE cl X b mb) (hm : behindInMarks op b = false) : DT cl X (.Compare a [op] [b] pos) (bCmp g ma mb) := (pt_cmpR ho ha hb hm).mono fun _ _ _ q => tt_then2 q
def bAnd (a b : Tx) : Tx := fun sl => bnd (a sl) fun x => if x then b sl else ret false
def bOr (a b : Tx) : Tx := fun sl => bnd (a sl) fun x => if x then ret true else b sl
def bNot (a : Tx) : Tx := fun sl => bnd (a sl) fun x => ret (!x)
variable {ta tb : Tx} {rest : List Expr}
theorem dt_not (ha : DT cl X a ta) : DT cl X (.UnaryOp .Not a pos) (bNot ta) := (pt_not ha).mono fun σ H Q q => by
  obtain ⟨W, h, sl, v, h', rel, rs, e, po⟩ := q
  obtain ⟨d, h1, e1, e2⟩ := bnd_ok e
  obtain ⟨rfl, rfl⟩ := ret_ok e2
  exact ⟨W, h, sl, d, h1, rel, rs, e1, po⟩
theorem dw_and1 (ha : DT cl X a ta) : DW cl X (.BoolOp .And [a] pos) ta := pw_and1 ha
theorem dw_or1 (ha : DT cl X a ta) : DW cl X (.BoolOp .Or [a] pos) ta := pw_or1 ha
theorem dw_and (ha : DT cl X a ta) (hb : DW cl X (.BoolOp .And (b :: rest) pos) tb) : DW cl X (.BoolOp .And (a :: b :: rest) pos) (bAnd ta tb) := (pw_and ha hb).mono fun σ H Q q => by
  obtain ⟨W, h, sl, v, h', rel, rs, e, po⟩ := q
  obtain ⟨d, h1, e1, e2⟩ := bnd_ok e
  refine ⟨W, h, sl, d, h1, rel, rs, e1, fun W1 H1 ext rel1 => ?_⟩
  cases d with
  | true => exact iteT ⟨W1, h1, sl, v, h', rel1, rs.mono ext, e2, fun W2 H2 ext2 rel2 => po W2 H2 (ext.trans ext2) rel2⟩
  | false =>
    obtain ⟨rfl, rfl⟩ := ret_ok e2
    exact iteF (po W1 H1 ext rel1)
theorem dw_or (ha : DT cl X a ta) (hb : DW cl X (.BoolOp .Or (b :: rest) pos) tb) : DW cl X (.BoolOp .Or (a :: b :: rest) pos) (bOr ta tb) := (pw_or ha hb).mono fun σ H Q q => by
  obtain ⟨W, h, sl, v, h', rel, rs, e, po⟩ := q
  obtain ⟨d, h1, e1, e2⟩ := bnd_ok e
  refine ⟨W, h, sl, d, h1, rel, rs, e1, fun W1 H1 ext rel1 => ?_⟩
  cases d with
  | false => exact iteF ⟨W1, h1, sl, v, h', rel1, rs.mono ext, e2, fun W2 H2 ext2 rel2 => po W2 H2 (ext.trans ext2) rel2⟩
  | true =>
    obtain ⟨rfl, rfl⟩ := ret_ok e2
    exact iteT (po W1 H1 ext rel1)
theorem DW.dt (p : DW cl X a ta) : DT cl X a ta := PW.pt p
/-- a if t else b -/
def eIf (t : Tx) (a b : Ex) : Ex := fun sl => bnd (t sl) fun x => if x then a sl else b sl
theorem de_if (hc : DT cl X c ta) (ha : DE cl X a ma) (hb : DE cl X b mb) : DE cl X (.IfExp c a b pos) (eIf ta ma mb) := (pe_ifExp hc ha hb).mono fun σ H Q q => by
  obtain ⟨W, h, sl, v, h', rel, rs, e, po⟩ := q
  obtain ⟨d, h1, e1, e2⟩ := bnd_ok e
  refine ⟨W, h, sl, d, h1, rel, rs, e1, fun W1 H1 ext rel1 => ?_⟩
  cases d with
  | true => exact iteT ⟨W1, h1, sl, v, h', rel1, rs.mono ext, e2, po.go ext⟩
  | false => exact iteF ⟨W1, h1, sl, v, h', rel1, rs.mono ext, e2, po.go ext⟩
/-- and, or, not as values -/
def eAnd (a b : Ex) : Ex := fun sl => bnd (a sl) fun x => bnd (truD x) fun k => if k then b sl else ret x
def eOr (a b : Ex) : Ex := fun sl => bnd (a sl) fun x => bnd (truD x) fun k => if k then ret x else b sl
def eNot (a : Ex) : Ex := fun sl => bnd (a sl) fun x => bnd (truD x) fun k => ret (.bl (!k))
theorem de_one {op} (ha : DE cl X a ma) : DE cl X (.BoolOp op [a] pos) ma := pe_one ha
theorem de_and (ha : DE cl X a ma) (hb : DE cl X (.BoolOp .And (b :: rest) pos) mb) : DE cl X (.BoolOp .And (a :: b :: rest) pos) (eAnd ma mb) := (pe_andT ha hb).mono fun σ H Q q => by
  obtain ⟨W, h, sl, v, h', rel, rs, e, po⟩ := q
  obtain ⟨d, h1, e1, e2⟩ := bnd_ok e
  obtain ⟨k, h2, e3, e4⟩ := bnd_ok e2
  refine ⟨W, h, sl, d, h1, rel, rs, e1, fun W1 H1 x ext rel1 rv => ?_⟩
  obtain ⟨rfl, t⟩ := truD_ok rel1 rv e3
  refine ⟨k, t, ?_⟩
  cases k with
  | true => exact iteT ⟨W1, _, sl, v, h', rel1, rs.mono ext, e4, po.go ext⟩
  | false =>
    obtain ⟨rfl, rfl⟩ := ret_ok e4
    exact iteF (po W1 H1 x ext rel1 rv)
theorem de_or (ha : DE cl X a ma) (hb : DE cl X (.BoolOp .Or (b :: rest) pos) mb) : DE cl X (.BoolOp .Or (a :: b :: rest) pos) (eOr ma mb) := (pe_orT ha hb).mono fun σ H Q q => by
  obtain ⟨W, h, sl, v, h', rel, rs, e, po⟩ := q
  obtain ⟨d, h1, e1, e2⟩ := bnd_ok e
  obtain ⟨k, h2, e3, e4⟩ := bnd_ok e2
  refine ⟨W, h, sl, d, h1, rel, rs, e1, fun W1 H1 x ext rel1 rv => ?_⟩
  obtain ⟨rfl, t⟩ := truD_ok rel1 rv e3
  refine ⟨k, t, ?_⟩
  cases k with
  | false => exact iteF ⟨W1, _, sl, v, h', rel1, rs.mono ext, e4, po.go ext⟩
  | true =>
    obtain ⟨rfl, rfl⟩ := ret_ok e4
    exact iteT (po W1 H1 x ext rel1 rv)
theorem de_not (ha : DE cl X a ma) : DE cl X (.UnaryOp .Not a pos) (eNot ma) := (pe_notT ha).mono fun σ H Q q => by
  obtain ⟨W, h, sl, v, h', rel, rs, e, po⟩ := q
  obtain ⟨d, h1, e1, e2⟩ := bnd_ok e
  obtain ⟨k, h2, e3, e4⟩ := bnd_ok e2
  obtain ⟨rfl, rfl⟩ := ret_ok e4
  refine ⟨W, h, sl, d, h1, rel, rs, e1, fun W1 H1 x ext rel1 rv => ?_⟩
  obtain ⟨rfl, t⟩ := truD_ok rel1 rv e3
  exact ⟨k, t, po W1 H1 _ ext rel1 (.bl _)⟩
/-- a < b < c -/
def eChain (g g' : DV → DV → M DV) (a b c : Ex) : Ex := fun sl => bnd (a sl) fun x => bnd (b sl) fun y => bnd (g x y) fun z => bnd (boolOf z) fun k => if k then bnd (c sl) fun u => g' y u else ret (.bl false)
theorem te_chain {ma mb mc : Ex} {g g' : DV → DV → M DV} {σ : L2.St} {Q : VK} (q : tE K cl (eChain g g' ma mb mc) σ H Q) : tChain (rD2 K cl g) (rD2 K cl g') (tE K cl ma) (tE K cl mb) (tE K cl mc) σ H Q := by
  obtain ⟨W, h, sl, v, h', rel, rs, e, po⟩ := q
  obtain ⟨d, h1, e1, e2⟩ := bnd_ok e
  obtain ⟨d2, h2, e3, e4⟩ := bnd_ok e2
  obtain ⟨d3, h3, e5, e6⟩ := bnd_ok e4
  obtain ⟨k, h4, e7, e8⟩ := bnd_ok e6
  obtain ⟨rfl, rfl⟩ := boolOf_ok e7
  refine ⟨W, h, sl, d, h1, rel, rs, e1, fun W1 H1 x ext rel1 rv => ⟨W1, h1, sl, d2, h2, rel1, rs.mono ext, e3, fun W2 H2 y ext2 rel2 rv2 =>
    ⟨W2, h2, d, d2, .bl k, _, rel2, rv.mono ext2, rv2, e5, fun W3 H3 z ext3 rel3 rv3 => ?_⟩⟩⟩
  cases rv3
  refine ⟨k, rfl, ?_⟩
  cases k with
  | true =>
    refine iteT ?_
    obtain ⟨d5, h5, e9, e10⟩ := bnd_ok e8
    exact ⟨W3, _, sl, d5, h5, rel3, ((rs.mono ext).mono ext2).mono ext3, e9, fun W4 H4 u ext4 rel4 rv4 => ⟨W4, h5, d2, d5, v, h', rel4, (rv2.mono ext3).mono ext4, rv4, e10, (((po.go ext).go ext2).go ext3).go ext4⟩⟩
  | false =>
    obtain ⟨rfl, rfl⟩ := ret_ok e8
    exact iteF (po W3 H3 _ ((ext.trans ext2).trans ext3) rel3 (.bl _))
theorem de_chain {op op' : CmpOp} {g g' : DV → DV → M DV} (ho : O2 cl X (compareOp op) g) (ho' : O2 cl X (compareOp op') g') (ha : DE cl X a ma) (hb : DE cl X b mb) (hc : DE cl X c mc)
    (hm : lastMarks [op, op'] [b, c] = false := by with_unfolding_all rfl) : DE cl X (.Compare a [op, op'] [b, c] pos) (eChain g g' ma mb mc) := (pe_chain ho ho' ha hb hc hm).mono fun _ _ _ q => te_chain q
def bChain (g g' : DV → DV → M DV) (a b c : Ex) : Tx := fun sl => bnd (eChain g g' a b c sl) boolOf
theorem dt_chain {op op' : CmpOp} {g g' : DV → DV → M DV} (ho : O2 cl X (compareOp op) g) (ho' : O2 cl X (compareOp op') g') (ha : DE cl X a ma) (hb : DE cl X b mb) (hc : DE cl X c mc)
    (hm : lastMarks [op, op'] [b, c] = false := by with_unfolding_all rfl) : DT cl X (.Compare a [op, op'] [b, c] pos) (bChain g g' ma mb mc) := (pt_chain ho ho' ha hb hc hm).mono fun σ H Q q => by
  obtain ⟨W, h, sl, v, h', rel, rs, e, po⟩ := q
  obtain ⟨d, h1, e1, e2⟩ := bnd_ok e
  obtain ⟨rfl, rfl⟩ := boolOf_ok e2
  refine te_chain ⟨W, h, sl, _, _, rel, rs, e1, fun W' H' x ext rel' rv => ?_⟩
  cases rv
  exact ⟨v, rfl, po W' H' ext rel'⟩
end
end D
set_option Elab.async false
set_option linter.all false
set_option maxRecDepth 100000
set_option maxHeartbeats 1000000
/-! D2: statements, defs. -/
namespace D
open PySem PySem.Spec PyProof.Rows L2 SlX

inductive Fl where
  | nx | rt (v : DV) | bk | ct
abbrev Sx := Sl → M (Fl × Sl)
section
variable (K : PySem.W.Frag) (cl : Cl)
def fin (W : Wd) (H : Hp) (h' : Hs) (sl' : Sl) (fl : Fl) (D : Ends) : Prop := match fl with
  | .nx => ∀ W' H' σ', Ext W H W' H' → HRel K cl W' h' H' → RSl K cl W' H' sl' σ' → D.nx σ' H'
  | .bk => ∀ W' H' σ', Ext W H W' H' → HRel K cl W' h' H' → RSl K cl W' H' sl' σ' → D.bk σ' H'
  | .ct => ∀ W' H' σ', Ext W H W' H' → HRel K cl W' h' H' → RSl K cl W' H' sl' σ' → D.ct σ' H'
  | .rt v => ∀ W' H' x, Ext W H W' H' → HRel K cl W' h' H' → RV K cl W' H' v x → D.rt x H'
def tS (m : Sx) : TS := fun D σ H => ∃ W h sl fl sl' h', HRel K cl W h H ∧ RSl K cl W H sl σ ∧ m sl h = .ok (fl, sl') h' ∧ fin K cl W H h' sl' fl D
/-- a target: the slots that it stores (vs) -/
def tG (vs : List Nat) (f : DV → Sl → Option Sl) : TG := fun x σ H Q => ∃ W h sl d sl', HRel K cl W h H ∧ RSl K cl W H sl σ ∧ RV K cl W H d x ∧ f d sl = some sl' ∧
  ∀ σ', RSl K cl W H sl' σ' → (σ'.length = σ.length ∧ ∀ j, j ∉ vs → σ'[j]? = σ[j]?) → Q σ' H
def tGs (vs : List Nat) (f : List DV → Sl → Option Sl) : TGs := fun xs σ H Q => ∃ W h sl ds sl', HRel K cl W h H ∧ RSl K cl W H sl σ ∧ RVs K cl W H ds xs ∧ f ds sl = some sl' ∧
  ∀ σ', RSl K cl W H sl' σ' → (σ'.length = σ.length ∧ ∀ j, j ∉ vs → σ'[j]? = σ[j]?) → Q σ' H
end
abbrev DS (cl : Cl) (X : Cx) (st : Stmt) (m : Sx) : Prop := PS X st (tS X.K cl m)
abbrev DSs (cl : Cl) (X : Cx) (st : List Stmt) (m : Sx) : Prop := PSs X st (tS X.K cl m)
abbrev DG (cl : Cl) (X : Cx) (t : Expr) (vs : List Nat) (f : DV → Sl → Option Sl) : Prop := PG X t (tG X.K cl vs f)
abbrev DGs (cl : Cl) (X : Cx) (t : List Expr) (vs : List Nat) (f : List DV → Sl → Option Sl) : Prop := PGs X t (tGs X.K cl vs f)
section
theorem _root_.L2.PS.mono {X : Cx} {st : Stmt} {t t' : TS} (p : PS X st t) (f : ∀ D σ H, t' D σ H → t D σ H) : PS X st t' := ⟨fun pins s σ H D I q => p.run pins s σ H D I (f _ _ _ q)⟩
theorem _root_.L2.PSs.mono {X : Cx} {st : List Stmt} {t t' : TS} (p : PSs X st t) (f : ∀ D σ H, t' D σ H → t D σ H) : PSs X st t' := ⟨fun pins s σ H D I q => p.run pins s σ H D I (f _ _ _ q)⟩
theorem _root_.L2.PG.mono {X : Cx} {e : Expr} {t t' : TG} (p : PG X e t) (f : ∀ v σ H Q, t' v σ H Q → t v σ H Q) : PG X e t' := ⟨fun pins s σ H v u Q I r q => p.run pins s σ H v u Q I r (f _ _ _ _ q)⟩
theorem _root_.L2.PGs.mono {X : Cx} {e : List Expr} {t t' : TGs} (p : PGs X e t) (f : ∀ v σ H Q, t' v σ H Q → t v σ H Q) : PGs X e t' := ⟨fun pins s σ H v u Q I r q => p.run pins s σ H v u Q I r (f _ _ _ _ q)⟩
variable {K : PySem.W.Frag} {cl : Cl} {W W1 : Wd} {H H1 : Hp} {h h' : Hs} {X : Cx} {pos : Pos}
theorem fin.go {sl' : Sl} {fl : Fl} {D : Ends} (e : Ext W H W1 H1) (p : fin K cl W H h' sl' fl D) : fin K cl W1 H1 h' sl' fl D := by
  cases fl with
  | nx => exact fun W' H' σ' e' r rs => p W' H' σ' (e.trans e') r rs
  | bk => exact fun W' H' σ' e' r rs => p W' H' σ' (e.trans e') r rs
  | ct => exact fun W' H' σ' e' r rs => p W' H' σ' (e.trans e') r rs
  | rt v => exact fun W' H' x e' r rv => p W' H' x (e.trans e') r rv
theorem RSl.set {sl : Sl} {σ : L2.St} {d : DV} {x : V} (rs : RSl K cl W H sl σ) (i : Nat) (rv : RV K cl W H d x) : RSl K cl W H (sl.set i (some d)) (σ.set i (some x)) := ⟨by rw [List.length_set, List.length_set, rs.1], fun j e q => by
  have hl := rs.1
  by_cases hj : j = i
  · subst hj
    have hlt : j < sl.length := by
      have := (List.getElem?_eq_some_iff.mp q).1
      rw [List.length_set] at this; exact this
    rw [List.getElem?_set_self hlt] at q
    cases q
    exact ⟨x, List.getElem?_set_self (by omega), rv⟩
  · rw [List.getElem?_set_ne (Ne.symm hj)] at q
    obtain ⟨y, h1, h2⟩ := rs.2 j e q
    exact ⟨y, by rw [List.getElem?_set_ne (Ne.symm hj)]; exact h1, h2⟩⟩

/-! ### targets -/
def gN (i : Nat) : DV → Sl → Option Sl := fun d sl => some (sl.set i (some d))
def gsNil : List DV → Sl → Option Sl := fun ds sl => match ds with
  | [] => some sl
  | _ => none
def gsCons (f : DV → Sl → Option Sl) (g : List DV → Sl → Option Sl) : List DV → Sl → Option Sl := fun ds sl => match ds with
  | d :: r => (f d sl).bind (g r)
  | [] => none
def gT (n : Nat) (g : List DV → Sl → Option Sl) : DV → Sl → Option Sl := fun d sl => match d with
  | .tup ds => if ds.length = n then g ds sl else none
  | _ => none
theorem dg_name {i : Nat} {x : Str} (hN : X.N.Nodup) (hi : X.N[i]? = some x) (hx : Loc X.env.scope x) (hf : X.fn x = true ∨ X.env.scope.names.lookup x = some .local := by first | exact .inl rfl | exact .inr rfl | assumption) : DG cl X (.Name x pos) [i] (gN i) :=
  (pg_name hN hi hx hf).mono fun v σ H Q q => by
    obtain ⟨W, h, sl, d, sl', rel, rs, rv, e, po⟩ := q
    cases e
    exact po _ (rs.set i rv) ⟨List.length_set, fun j hj => List.getElem?_set_ne (fun z => hj (by rw [← z]; exact List.mem_singleton_self _))⟩
theorem dgs_nil : DGs cl X [] [] gsNil := pgs_nil.mono fun v σ H Q q => by
  obtain ⟨W, h, sl, ds, sl', rel, rs, rv, e, po⟩ := q
  cases rv with
  | nil =>
    cases e
    exact ⟨rfl, po σ rs ⟨rfl, fun _ _ => rfl⟩⟩
  | cons r t => cases e
theorem dgs_cons {e : Expr} {es : List Expr} {vs ws : List Nat} {f : DV → Sl → Option Sl} {g : List DV → Sl → Option Sl} (h1 : DG cl X e vs f) (h2 : DGs cl X es ws g)
    (hs : (assignEach (e :: es) X.env).map (·.2) = assign e X.env :: (assignEach es X.env).map (·.2) := by rfl) : DGs cl X (e :: es) (vs ++ ws) (gsCons f g) := (pgs_cons h1 h2 hs).mono fun v σ H Q q => by
  obtain ⟨W, h, sl, ds, sl', rel, rs, rv, e, po⟩ := q
  cases rv with
  | nil => cases e
  | cons r t =>
    rename_i d ds' x xs
    have e' : (f d sl).bind (g ds') = some sl' := e
    cases q : f d sl with
    | none => rw [q] at e'; cases e'
    | some sl1 =>
      rw [q] at e'
      exact ⟨_, _, rfl, W, h, sl, d, sl1, rel, rs, r, q, fun σ1 rs1 z1 => ⟨W, h, sl1, ds', sl', rel, rs1, t, e', fun σ2 rs2 z2 => po σ2 rs2 ⟨z2.1.trans z1.1, fun j hj => (z2.2 j fun q => hj (List.mem_append_right _ q)).trans (z1.2 j fun q => hj (List.mem_append_left _ q))⟩⟩⟩
theorem dg_tup {es : List Expr} {k n : Nat} {vs : List Nat} {g : List DV → Sl → Option Sl} (hc : X.calm = true) (p : DGs cl X es vs g)
    (hn : (assignEach es X.env).length = n := by rfl) (hst : (assignEach es X.env).findIdx? (·.1) = none := by rfl) : DG cl X (.Tuple es k pos) vs (gT n g) := (pg_tup hc p hn hst).mono fun v σ H Q q => by
  obtain ⟨W, h, sl, d, sl', rel, rs, rv, e, po⟩ := q
  cases rv with
  | tup f r =>
    rename_i ds xs a
    have e' : (if ds.length = n then g ds sl else none) = some sl' := e
    by_cases z : ds.length = n
    · rw [if_pos z] at e'
      exact ⟨a, xs, rfl, f.sq, by rw [← r.length]; exact z, W, h, sl, ds, sl', rel, rs, r, e', po⟩
    · rw [if_neg z] at e'; cases e'
  | non => cases e
  | bl => cases e
  | int => cases e
  | str => cases e
  | ref => cases e
  | obj => cases e
  | scr => cases e

/-! ### blocks -/
def sNil : Sx := fun sl => ret (.nx, sl)
def sCons (m n : Sx) : Sx := fun sl => bnd (m sl) fun r => match r.1 with
  | .nx => n r.2
  | _ => ret r
theorem dss_nil : DSs cl X [] sNil := pss_nil.mono fun D σ H q => by
  obtain ⟨W, h, sl, fl, sl', h', rel, rs, e, po⟩ := q
  cases e
  exact po W H σ .refl rel rs
theorem dss_cons {st : Stmt} {rest : List Stmt} {m n : Sx} (h1 : DS cl X st m) (h2 : DSs cl X rest n) : DSs cl X (st :: rest) (sCons m n) := (pss_cons h1 h2).mono fun D σ H q => by
  obtain ⟨W, h, sl, fl, sl', h', rel, rs, e, po⟩ := q
  obtain ⟨⟨fl1, sl1⟩, h1, e1, e2⟩ := bnd_ok e
  refine ⟨W, h, sl, fl1, sl1, h1, rel, rs, e1, ?_⟩
  cases fl1 with
  | nx => exact fun W' H' σ' ext rel' rs' => ⟨W', h1, sl1, fl, sl', h', rel', rs', e2, po.go ext⟩
  | bk => cases e2; exact po
  | ct => cases e2; exact po
  | rt v => cases e2; exact po
theorem dss_one {st : Stmt} {m : Sx} (h1 : DS cl X st m) : DSs cl X [st] m := pss_one h1
def sRet (m : Ex) : Sx := fun sl => bnd (m sl) fun v => ret (.rt v, sl)
def sRetN : Sx := fun sl => ret (.rt .non, sl)
def sEx (m : Ex) : Sx := fun sl => bnd (m sl) fun _ => ret (.nx, sl)
def sIf (t : Tx) (a b : Sx) : Sx := fun sl => bnd (t sl) fun k => if k then a sl else b sl
def sBk : Sx := fun sl => ret (.bk, sl)
def sCt : Sx := fun sl => ret (.ct, sl)
def optM {α : Type} (o : Option α) : M α := match o with
  | some a => ret a
  | none => stk
def sAs (m : Ex) (f : DV → Sl → Option Sl) : Sx := fun sl => bnd (m sl) fun v => bnd (optM (f v sl)) fun sl' => ret (.nx, sl')
theorem optM_ok {α : Type} {o : Option α} {a : α} (e : optM o h = .ok a h') : o = some a ∧ h = h' := by
  cases o with
  | none => cases e
  | some b => cases e; exact ⟨rfl, rfl⟩
variable {e : Expr} {m : Ex} {tc : Tx} {c : Expr}
theorem ds_ret (he : DE cl X e m) : DS cl X (.Return (some e) pos) (sRet m) := (ps_ret he).mono fun D σ H q => by
  obtain ⟨W, h, sl, fl, sl', h', rel, rs, e, po⟩ := q
  obtain ⟨v, h1, e1, e2⟩ := bnd_ok e
  cases e2
  exact ⟨W, h, sl, v, h', rel, rs, e1, po⟩
theorem ds_retN : DS cl X (.Return none pos) sRetN := ps_retN.mono fun D σ H q => by
  obtain ⟨W, h, sl, fl, sl', h', rel, rs, e, po⟩ := q
  cases e
  exact po W H _ .refl rel .non
theorem ds_expr (he : DE cl X e m) (hs : swapsWith e none pos.line X.env = pure false := by rfl) : DS cl X (.Expr e pos) (sEx m) := (ps_expr he hs).mono fun D σ H q => by
  obtain ⟨W, h, sl, fl, sl', h', rel, rs, e, po⟩ := q
  obtain ⟨v, h1, e1, e2⟩ := bnd_ok e
  cases e2
  exact ⟨W, h, sl, v, h', rel, rs, e1, fun W' H' x ext rel' rv => po W' H' σ ext rel' (rs.mono ext)⟩
theorem ds_doc {x : Str} {j pos'} : DS cl X (.Expr (.Constant (.str x) j pos) pos') sNil := ps_doc.mono fun D σ H q => by
  obtain ⟨W, h, sl, fl, sl', h', rel, rs, e, po⟩ := q
  cases e
  exact po W H σ .refl rel rs
theorem ds_pass : DS cl X (.Pass pos) sNil := ps_pass.mono fun D σ H q => by
  obtain ⟨W, h, sl, fl, sl', h', rel, rs, e, po⟩ := q
  cases e
  exact po W H σ .refl rel rs
theorem ds_break : DS cl X (.Break pos) sBk := ps_break.mono fun D σ H q => by
  obtain ⟨W, h, sl, fl, sl', h', rel, rs, e, po⟩ := q
  cases e
  exact po W H σ .refl rel rs
theorem ds_cont : DS cl X (.Continue pos) sCt := ps_continue.mono fun D σ H q => by
  obtain ⟨W, h, sl, fl, sl', h', rel, rs, e, po⟩ := q
  cases e
  exact po W H σ .refl rel rs
theorem ds_if {a b : List Stmt} {ma mb : Sx} (hc : DT cl X c tc) (ha : DSs cl X a ma) (hb : DSs cl X b mb) : DS cl X (.If c a b pos) (sIf tc ma mb) := (ps_if hc ha hb).mono fun D σ H q => by
  obtain ⟨W, h, sl, fl, sl', h', rel, rs, e, po⟩ := q
  obtain ⟨k, h1, e1, e2⟩ := bnd_ok e
  refine ⟨W, h, sl, k, h1, rel, rs, e1, fun W' H' ext rel' => ?_⟩
  cases k with
  | true => exact iteT ⟨W', h1, sl, fl, sl', h', rel', rs.mono ext, e2, po.go ext⟩
  | false => exact iteF ⟨W', h1, sl, fl, sl', h', rel', rs.mono ext, e2, po.go ext⟩
/-- what the run never comes to -/
def sStk : Sx := fun _ => stk
theorem ds_never {st : Stmt} : DS cl X st sStk := ps_never.mono fun D σ H q => by
  obtain ⟨W, h, sl, fl, sl', h', rel, rs, e, po⟩ := q
  cases e
theorem dss_never {st : List Stmt} : DSs cl X st sStk := pss_never.mono fun D σ H q => by
  obtain ⟨W, h, sl, fl, sl', h', rel, rs, e, po⟩ := q
  cases e
theorem ts_asg {vs : List Nat} {f : DV → Sl → Option Sl} {D : Ends} {σ : L2.St} (q : tS K cl (sAs m f) D σ H) : tAsg (tE K cl m) (tG K cl vs f) D σ H := by
  obtain ⟨W, h, sl, fl, sl', h', rel, rs, e, po⟩ := q
  obtain ⟨v, h1, e1, e2⟩ := bnd_ok e
  obtain ⟨sl1, h2, e3, e4⟩ := bnd_ok e2
  obtain ⟨e3', rfl⟩ := optM_ok e3
  cases e4
  exact ⟨W, h, sl, v, h', rel, rs, e1, fun W' H' x ext rel' rv => ⟨W', h', sl, v, sl', rel', rs.mono ext, rv, e3', fun σ' rs' _ => po W' H' σ' ext rel' rs'⟩⟩
theorem ds_asg {tg : Expr} {vs : List Nat} {f : DV → Sl → Option Sl} (he : DE cl X e m) (hg : DG cl X tg vs f) (hs : swapsWithSole [tg] e pos.line X.env = pure false := by rfl) (hw : swappedStores [tg] e X.env = pure none := by rfl)
    (h1 : (assignEach [tg] X.env).map (·.2) = [assign tg X.env] := by rfl) : DS cl X (.Assign [tg] e pos) (sAs m f) := (ps_asg he hg hs hw h1).mono fun _ _ _ q => ts_asg q
theorem ds_set {i : Nat} {x : Str} {pos' : Pos} (hN : X.N.Nodup) (hi : X.N[i]? = some x) (hx : Loc X.env.scope x) (he : DE cl X e m) (hs : swapsWith e (some (.Name x pos')) pos.line X.env = pure false := by rfl) (hf : X.fn x = true ∨ X.env.scope.names.lookup x = some .local := by first | exact .inl rfl | exact .inr rfl | assumption) :
    DS cl X (.Assign [.Name x pos'] e pos) (sAs m (gN i)) := (ps_set hN hi hx he hs hf).mono fun D σ H q => by
  obtain ⟨W, h, sl, fl, sl', h', rel, rs, e, po⟩ := q
  obtain ⟨v, h1, e1, e2⟩ := bnd_ok e
  obtain ⟨sl1, h2, e3, e4⟩ := bnd_ok e2
  obtain ⟨e3', rfl⟩ := optM_ok e3
  cases e4
  cases e3'
  exact ⟨W, h, sl, v, h', rel, rs, e1, fun W' H' x ext rel' rv => po W' H' _ ext rel' ((rs.mono ext).set i rv)⟩
/-- a, b = x, y -/
def sPar (i j : Nat) (ms : Exs) : Sx := fun sl => bnd (ms sl) fun ds => match ds with
  | [v, w] => ret (.nx, (sl.set i (some v)).set j (some w))
  | _ => stk
theorem ds_par {i j : Nat} {x y : Str} {a b : Expr} {ms : Exs} {px py pt : Pos} {kt k2 pt2} (hc : X.calm = true) (hN : X.N.Nodup) (hi : X.N[i]? = some x) (hj : X.N[j]? = some y) (hij : i ≠ j)
    (hx : X.env.scope.names.lookup x = some .local) (hy : X.env.scope.names.lookup y = some .local) (ha : DA cl X [a, b] ms)
    (hw : swappedStores [.Tuple [.Name x px, .Name y py] kt pt] (.Tuple [a, b] k2 pt2) X.env = pure (some [x, y]))
    (hs : swapsWithSole [.Tuple [.Name x px, .Name y py] kt pt] (.Tuple [a, b] k2 pt2) pos.line X.env = pure false := by rfl) :
    DS cl X (.Assign [.Tuple [.Name x px, .Name y py] kt pt] (.Tuple [a, b] k2 pt2) pos) (sPar i j ms) := (ps_par hc hN hi hj hij hx hy ha hw hs).mono fun D σ H q => by
  obtain ⟨W, h, sl, fl, sl', h', rel, rs, e, po⟩ := q
  obtain ⟨ds, h1, e1, e2⟩ := bnd_ok e
  refine ⟨W, h, sl, ds, h1, rel, rs, e1, fun W' H' xs ext rel' rv => ?_⟩
  cases rv with
  | nil => cases e2
  | cons r1 t =>
    cases t with
    | nil => cases e2
    | cons r2 t =>
      cases t with
      | cons r3 t => cases e2
      | nil =>
        cases e2
        exact ⟨_, _, rfl, po W' H' _ ext rel' (((rs.mono ext).set i r1).set j r2)⟩

/-! ### while -/
def whD (t : Tx) (b : Sx) : Nat → Sx
  | 0 => fun _ => stk
  | n + 1 => fun sl => bnd (t sl) fun k => if k then bnd (b sl) fun r => match r.1 with
      | .nx => whD t b n r.2
      | .ct => whD t b n r.2
      | .bk => ret (.nx, r.2)
      | .rt v => ret (.rt v, r.2)
    else ret (.nx, sl)
def sWh (t : Tx) (b : Sx) : Sx := whD t b 1000000000
theorem ds_while {body : List Stmt} {mb : Sx} (hp : PassesOwn (model X.prog X.w) X.A X.env X.xe) (hc : DT cl X c tc) (hb : DSs cl X body mb) : DS cl X (.While c body [] pos) (sWh tc mb) := (ps_while hp hc hb).mono fun D σ H q => by
  obtain ⟨W, h, sl, fl, sl', h', rel, rs, e, po⟩ := q
  refine ⟨fun n σ1 H1 => ∃ W1 h1 sl1, Ext W H W1 H1 ∧ HRel X.K cl W1 h1 H1 ∧ RSl X.K cl W1 H1 sl1 σ1 ∧ whD tc mb n sl1 h1 = .ok (fl, sl') h', ⟨_, W, h, sl, .refl, rel, rs, e⟩, ?_⟩
  rintro n σ1 H1 ⟨W1, h1, sl1, ext1, rel1, rs1, e1⟩
  cases n with
  | zero => cases e1
  | succ n =>
    obtain ⟨k, h2, e2, e3⟩ := bnd_ok e1
    refine ⟨W1, h1, sl1, k, h2, rel1, rs1, e2, fun W2 H2 ext2 rel2 => ?_⟩
    cases k with
    | false =>
      refine iteF ?_
      cases e3
      exact po W2 H2 σ1 (ext1.trans ext2) rel2 (rs1.mono ext2)
    | true =>
      refine iteT ⟨fun σ3 H3 => ∃ W3 h3 sl3, Ext W H W3 H3 ∧ HRel X.K cl W3 h3 H3 ∧ RSl X.K cl W3 H3 sl3 σ3 ∧ whD tc mb n sl3 h3 = .ok (fl, sl') h', fun σ3 H3 q => ⟨n, Nat.lt_succ_self _, q⟩, ?_⟩
      obtain ⟨⟨fl1, sl3⟩, h3, e4, e5⟩ := bnd_ok e3
      refine ⟨W2, h2, sl1, fl1, sl3, h3, rel2, rs1.mono ext2, e4, ?_⟩
      cases fl1 with
      | nx => exact fun W' H' σ' ext rel' rs' => ⟨W', h3, sl3, (ext1.trans ext2).trans ext, rel', rs', e5⟩
      | ct => exact fun W' H' σ' ext rel' rs' => ⟨W', h3, sl3, (ext1.trans ext2).trans ext, rel', rs', e5⟩
      | bk =>
        cases e5
        exact fun W' H' σ' ext rel' rs' => po W' H' σ' ((ext1.trans ext2).trans ext) rel' rs'
      | rt v =>
        cases e5
        exact fun W' H' x ext rel' rv => po W' H' x ((ext1.trans ext2).trans ext) rel' rv

/-! ### a def -/
def runF (n : Nat) (b : Sx) : List DV → M DV := fun ds => bnd (b (ds.map some ++ List.replicate (n - ds.length) none)) fun r => match r.1 with
  | .nx => ret .non
  | .rt v => ret v
  | _ => stk
theorem ros_start {N : List Str} {ds : List DV} {vs : List V} (r : RVs K cl W H ds vs) : ROs K cl W H (ds.map some ++ List.replicate (N.length - ds.length) none) (L2.start N vs) := fun i d q => by
  unfold L2.start
  by_cases hi : i < ds.length
  · rw [List.getElem?_append_left (by simpa using hi), List.getElem?_map] at q
    cases e : ds[i]? with
    | none => rw [e] at q; cases q
    | some d' =>
      rw [e] at q
      cases q
      obtain ⟨x, h1, h2⟩ := r.get e
      refine ⟨x, ?_, h2⟩
      rw [List.getElem?_append_left (by simpa [← r.length] using hi), List.getElem?_map, h1]
      rfl
  · rw [List.getElem?_append_right (by simpa using hi), List.getElem?_replicate] at q
    split at q <;> cases q
theorem len_start {N : List Str} {ds : List DV} {vs : List V} (r : RVs K cl W H ds vs) (hl : ds.length ≤ N.length) : (ds.map some ++ List.replicate (N.length - ds.length) none).length = (L2.start N vs).length := by
  unfold L2.start
  simp only [List.length_append, List.length_map, List.length_replicate, r.length]
theorem run_spD {N : List Str} {n : Nat} {b : Sx} {vs : List V} {Q : VK} {E : XK} (hl : n ≤ N.length) (hs : spD K cl n (runF N.length b) vs H Q E) : tS K cl b { nx := fun _ H' => Q .non H', rt := Q } (L2.start N vs) H := by
  obtain ⟨hn, W, h, ds, v, h', rel, rvs, e, po⟩ := hs
  obtain ⟨⟨fl, sl'⟩, h1, e1, e2⟩ := bnd_ok e
  refine ⟨W, h, _, fl, sl', h1, rel, ⟨len_start rvs (by rw [rvs.length, hn]; exact hl), ros_start rvs⟩, e1, ?_⟩
  cases fl with
  | nx =>
    cases e2
    exact fun W' H' σ' ext rel' rs' => po W' H' .non ext rel' .non
  | rt v' =>
    cases e2
    exact po
  | bk => cases e2
  | ct => cases e2
/-- THE RULE for a def of the module -/
theorem d_def {P : Program} {w : World} {K : PySem.W.Frag} {mg : Str → Option Value} {base : Heap} {cl : Cl} {x qual : Str} {st : Stmt} {f : Addr} {fd : FuncData} {N ps : List Str} {k : Nat} {b : Sx} (F : L2.Fun K x qual st f fd) (S : FnScope N ps (defScope st)) (hl : ps.length ≤ N.length)
    (hb : ∀ (X : Cx), X.prog = P → X.w = w → X.K = K → X.mg = mg → X.base = base → X.calm = true → X.N = N → X.env.scope = defScope st → X.fn = (fun _ => true) → Room k X.A → DSs cl X.nox (defBody st) b) :
    FnOk P w K mg base L2.CX0 (k + 1) f fd ps (spD K cl ps.length (runF N.length b)) := by
  refine F.ok S (fun vs H Q E q => q.1) (fun cdv A outer s H vs Q E hr q => ⟨tS K cl b, ?_, run_spD hl q⟩)
  have z := hb (cxOf L2.CX0 P w K mg base N qual (defScope st) f cdv A outer s H E) rfl rfl rfl rfl rfl rfl rfl rfl rfl hr
  exact z
end
end D
set_option Elab.async false
set_option linter.all false
set_option maxRecDepth 100000
set_option maxHeartbeats 1000000
/-! D3: what is walked; for; list comprehensions. -/
namespace D
open PySem PySem.Spec PyProof.Rows L2 SlX

inductive Wlk where
  | lst (n : Nat) | vals (ds : List DV) | itm (n : Nat) | zip (a b : Wlk) | enum (a : Wlk)
def Wlk.all : Wlk → Hs → Option (List DV)
  | .lst n, h => match h[n]? with
    | some (.lst ds) => some ds
    | _ => none
  | .vals ds, _ => some ds
  | _, _ => none
/-- at turn i: it yields a value, or it stops; none: stuck -/
def Wlk.at : Wlk → Nat → Hs → Option (Option DV)
  | .lst n, i, h => match h[n]? with
    | some (.lst ds) => some ds[i]?
    | _ => none
  | .vals ds, i, _ => some ds[i]?
  | .itm n, i, h => match h[n]? with
    | some (.dfz kvs) => some (kvs[i]?.map fun kv => .tup [kv.1, kv.2])
    | _ => none
  | .zip a b, i, h => match a.all h, b.all h with
    | some xs, some ys => (match xs[i]?, ys[i]? with
      | some x, some y => some (some (.tup [x, y]))
      | _, _ => if Nat.ble i xs.length && (Nat.ble i ys.length && (Nat.beq i xs.length || Nat.beq i ys.length)) then some none else none)
    | _, _ => none
  | .enum a, i, h => match a.at i h with
    | some (some x) => some (some (.tup [.int (i : Int), x]))
    | some none => some none
    | none => none
abbrev Ix := Sl → M Wlk
section
variable (K : PySem.W.Frag) (cl : Cl)
/-- the iterator J goes as t tells, wherever what it leans on (G) stands -/
def WalkD (J : It) (t : Wlk) (W0 : Wd) (H0 : Hp) : Prop := ∃ G : Wd → Hp → Prop, G W0 H0 ∧ (∀ W H W' H', Ext W H W' H' → G W H → G W' H') ∧ (∀ W H W' H' D, Off W H W' H' D → G W H → G W' H') ∧
  ∀ W h H i, G W H → HRel K cl W h H → (∀ d, t.at i h = some (some d) → J.go i H ∧ ∀ x H', J.yld i H x H' → ∃ W', Ext W H W' H' ∧ W'.ρ = W.ρ ∧ HRel K cl W' h H' ∧ RV K cl W' H' d x) ∧
    (t.at i h = some none → J.stop i H)
def tI (m : Ix) : TI := fun σ H R => ∃ W h sl t h', HRel K cl W h H ∧ RSl K cl W H sl σ ∧ m sl h = .ok t h' ∧ ∀ W' H' J, Ext W H W' H' → HRel K cl W' h' H' → WalkD K cl J t W' H' → R J H'
end
abbrev DI (cl : Cl) (X : Cx) (tg e : Expr) (m : Ix) : Prop := PI X tg e (tI X.K cl m)
section
variable {K : PySem.W.Frag} {cl : Cl} {W W1 : Wd} {H H1 : Hp} {h h' : Hs} {X : Cx} {pos : Pos}
theorem _root_.L2.PI.mono {X : Cx} {tg e : Expr} {t t' : TI} (p : PI X tg e t) (f : ∀ σ H R, t' σ H R → t σ H R) : PI X tg e t' := ⟨fun pins s σ H R I q => p.run pins s σ H R I (f _ _ _ q)⟩
/-! ### a list, a tuple, a text -/
def iAny (K : PySem.W.Frag) (tl : TE) : TI := fun σ H R => tl σ H fun x H1 => (∃ a, x = .ref a ∧ (∃ xs, SqL K H1 a xs) ∧ R (Itl K a) H1) ∨ (∃ a, x = .ref a ∧ (∃ xs, SqT K H1 a xs) ∧ R (Itt K a) H1) ∨ ∃ z, x = .str z ∧ R (Its z) H1
theorem pi_any {tg l : Expr} {tl : TE} (hl : PE X l tl) : PI X tg l (iAny X.K tl) := by
  refine ⟨fun pins s σ H R I h => ?_⟩
  refine thn (hl.run pins s σ H _ I h) fun v s1 ⟨x, H1, I1, r1, q1⟩ => ?_
  rcases q1 with ⟨a, e, ⟨xs, hq⟩, q⟩ | ⟨a, e, ⟨xs, hq⟩, q⟩ | ⟨z, e, q⟩
  · subst e
    cases r1
    obtain ⟨its, rv, p, hz⟩ := I1.list hq
    refine wpAny_pyIter_list p.isList ?_
    refine ⟨s1.heap.objs.size, [s1.heap.objs.size], _, _, H1, rfl, I1.kept (t' := s1.toks) fun b o e => Heap.get?_push_of_some _ e, turn_list a _, ⟨_, Heap.get?_push_size _ rfl, rfl, rfl⟩, fun b hb => ?_, q⟩
    have e : b = s1.heap.objs.size := by simpa using hb
    subst e
    exact I1.fpOk (Nat.le_refl _) (I1.hok.fresh (Nat.le_refl _))
  · subst e
    cases r1
    obtain ⟨its, rv, p, hz⟩ := I1.tuple hq
    refine wpAny_pyIter_tuple (show s1.heap.IsTuple a its.toArray from p) ?_
    refine ⟨s1.heap.objs.size, [s1.heap.objs.size], _, _, H1, rfl, I1.kept (t' := s1.toks) fun b o e => Heap.get?_push_of_some _ e, turn_tuple a _, ⟨_, Heap.get?_push_size _ rfl, rfl, rfl⟩, fun b hb => ?_, q⟩
    have e : b = s1.heap.objs.size := by simpa using hb
    subst e
    exact I1.fpOk (Nat.le_refl _) (I1.hok.fresh (Nat.le_refl _))
  · subst e
    obtain ⟨t, rfl⟩ := r1
    cases ha : z.cps.all (· < 128)
    · exact wpAny_pyIter_wide ha (pi_one (tk := s1.toks) I1 _ (turn_str _ z t "str_iterator" (.inr rfl)) ⟨_, Heap.get?_push_size _ rfl, rfl, rfl⟩ q)
    · exact wpAny_pyIter_ascii ha (pi_one (tk := s1.toks) I1 _ (turn_str _ z t "str_ascii_iterator" (.inl rfl)) ⟨_, Heap.get?_push_size _ rfl, rfl, rfl⟩ q)
/-- what a value is walked as -/
def itrOf (d : DV) : M Wlk := match d with
  | .ref n => ret (.lst n)
  | .tup ds => ret (.vals ds)
  | .str s => ret (.vals (s.map fun c => .str [c]))
  | .scr ns => ret (.vals (ns.map .int))
  | _ => stk
/-- the same, where the list is there -/
def itrAt (d : DV) : M Wlk := match d with
  | .ref n => fun h => match h[n]? with
    | some (.lst _) => .ok (.lst n) h
    | _ => .stuck
  | .tup ds => ret (.vals ds)
  | .str s => ret (.vals (s.map fun c => .str [c]))
  | .scr ns => ret (.vals (ns.map .int))
  | _ => stk
theorem at_lst {n i : Nat} {o : Option DV} (e : (Wlk.lst n).at i h = some o) : ∃ ds, h[n]? = some (.lst ds) ∧ ds[i]? = o := by
  have e' : (match h[n]? with
    | some (.lst ds) => some ds[i]?
    | _ => none) = some o := e
  cases q : h[n]? with
  | none => rw [q] at e'; cases e'
  | some u =>
    rw [q] at e'
    cases u with
    | lst ds => exact ⟨ds, rfl, Option.some.inj e'⟩
    | dic _ => cases e'
    | dfz _ => cases e'
    | ins _ _ => cases e'
    | dead => cases e'
    | pot _ _ => cases e'
theorem walk_ref {n : Nat} {a dx : Addr} (hn : W.ρ[n]? = some (a, dx)) : WalkD K cl (Itl K a) (.lst n) W H := by
  refine ⟨fun W H => W.ρ[n]? = some (a, dx), hn, fun _ _ _ _ e q => e.pre _ _ q, fun _ _ _ _ _ e q => e.pre _ _ q, fun W h H i q rel => ⟨fun d e => ?_, fun e => ?_⟩⟩
  · obtain ⟨ds, e1, e2⟩ := at_lst e
    obtain ⟨_, xs, h1, r⟩ := rel.ok n _ a dx e1 q
    obtain ⟨x, hx, rx⟩ := r.get e2
    refine ⟨⟨xs, x, SqL.of h1, hx⟩, fun y H' ⟨e3, hy⟩ => ?_⟩
    subst e3
    have := hy xs (SqL.of h1)
    rw [hx] at this
    cases this
    exact ⟨W, .refl, rfl, rel, rx⟩
  · obtain ⟨ds, e1, e2⟩ := at_lst e
    obtain ⟨_, xs, h1, r⟩ := rel.ok n _ a dx e1 q
    exact ⟨xs, SqL.of h1, by rw [← r.length]; exact List.getElem?_eq_none_iff.mp e2⟩
theorem walk_tup {a : Addr} {ds : List DV} {xs : List V} (f : FzT K W H a xs) (r : RVs K cl W H ds xs) : WalkD K cl (Itt K a) (.vals ds) W H := by
  refine ⟨fun W H => FzT K W H a xs ∧ RVs K cl W H ds xs, ⟨f, r⟩, fun _ _ _ _ e q => ⟨q.1.mono e, q.2.mono e⟩, fun _ _ _ _ _ e q => ⟨q.1.off e, q.2.off e⟩, fun W h H i ⟨f, r⟩ rel => ⟨fun d e => ?_, fun e => ?_⟩⟩
  · have e2 : ds[i]? = some d := Option.some.inj e
    obtain ⟨x, hx, rx⟩ := r.get e2
    refine ⟨⟨xs, x, f.sq, hx⟩, fun y H' ⟨e3, hy⟩ => ?_⟩
    subst e3
    have := hy xs f.sq
    rw [hx] at this
    cases this
    exact ⟨W, .refl, rfl, rel, rx⟩
  · have e2 : ds[i]? = none := Option.some.inj e
    exact ⟨xs, f.sq, by rw [← r.length]; exact List.getElem?_eq_none_iff.mp e2⟩
theorem walk_scr {a : Addr} {ns : List Int} (f : FzL K W H a (ns.map V.int)) : WalkD K cl (Itl K a) (.vals (ns.map .int)) W H := by
  refine ⟨fun W H => FzL K W H a (ns.map V.int), f, fun _ _ _ _ e q => q.mono e, fun _ _ _ _ _ e q => q.off e, fun W h H i f rel => ⟨fun d e => ?_, fun e => ?_⟩⟩
  · have e2 : (ns.map DV.int)[i]? = some d := Option.some.inj e
    rw [List.getElem?_map] at e2
    cases q : ns[i]? with
    | none => rw [q] at e2; cases e2
    | some n =>
      rw [q] at e2
      cases e2
      have hx : (ns.map V.int)[i]? = some (.int n) := by rw [List.getElem?_map, q]; rfl
      refine ⟨⟨_, _, f.sq, hx⟩, fun y H' ⟨e3, hy⟩ => ?_⟩
      subst e3
      have := hy _ f.sq
      rw [hx] at this
      cases this
      exact ⟨W, .refl, rfl, rel, .int n⟩
  · have e2 : (ns.map DV.int)[i]? = none := Option.some.inj e
    have q := List.getElem?_eq_none_iff.mp e2
    exact ⟨_, f.sq, by simpa using q⟩
theorem walk_txt {s : List Nat} : WalkD K cl (Its (SX.S s)) (.vals (s.map fun c => .str [c])) W H := by
  refine ⟨fun _ _ => True, trivial, fun _ _ _ _ _ q => q, fun _ _ _ _ _ _ q => q, fun W h H i _ rel => ⟨fun d e => ?_, fun e => ?_⟩⟩
  · have e2 : (s.map fun c => DV.str [c])[i]? = some d := Option.some.inj e
    rw [List.getElem?_map] at e2
    cases q : s[i]? with
    | none => rw [q] at e2; cases e2
    | some c =>
      rw [q] at e2
      cases e2
      refine ⟨by show i < (SX.S s).cps.size; simpa using (List.getElem?_eq_some_iff.mp q).1, fun y H' ⟨e3, c', hc, hy⟩ => ?_⟩
      subst e3
      have : c' = c := by
        have z : s[i]? = some c' := by simpa using hc
        rw [q] at z
        exact (Option.some.inj z).symm
      subst this
      subst hy
      exact ⟨W, .refl, rfl, rel, .str [c']⟩
  · have e2 : (s.map fun c => DV.str [c])[i]? = none := Option.some.inj e
    have q := List.getElem?_eq_none_iff.mp e2
    show (SX.S s).cps.size ≤ i
    simpa using q
def iE (m : Ex) : Ix := fun sl => bnd (m sl) itrAt
theorem di_e {tg l : Expr} {m : Ex} (hl : DE cl X l m) : DI cl X tg l (iE m) := (pi_any hl).mono fun σ H R q => by
  obtain ⟨W, h, sl, t, h', rel, rs, e, po⟩ := q
  obtain ⟨d, h1, e1, e2⟩ := bnd_ok e
  refine ⟨W, h, sl, d, h1, rel, rs, e1, fun W' H' x ext rel' rv => ?_⟩
  cases rv with
  | ref hn =>
    rename_i n a dx
    have e3 : (match h1[n]? with
    | some (.lst _) => D.R.ok (Wlk.lst n) h1
    | _ => D.R.stuck) = D.R.ok t h' := e2
    cases q : h1[n]? with
    | none => rw [q] at e3; cases e3
    | some u =>
      rw [q] at e3
      cases u with
      | lst ds =>
        cases e3
        obtain ⟨_, xs, q1, _⟩ := rel'.ok n _ a dx q hn
        exact .inl ⟨a, rfl, ⟨xs, SqL.of q1⟩, po W' H' _ ext rel' (walk_ref hn)⟩
      | dic _ => cases e3
      | dfz _ => cases e3
      | ins _ _ => cases e3
      | dead => cases e3
      | pot _ _ => cases e3
  | tup f r =>
    cases e2
    exact .inr (.inl ⟨_, rfl, ⟨_, f.sq⟩, po W' H' _ ext rel' (walk_tup f r)⟩)
  | str s =>
    cases e2
    exact .inr (.inr ⟨_, rfl, po W' H' _ ext rel' walk_txt⟩)
  | scr f =>
    cases e2
    exact .inl ⟨_, rfl, ⟨_, f.sq⟩, po W' H' _ ext rel' (walk_scr f)⟩
  | non => cases e2
  | bl => cases e2
  | int => cases e2
  | obj => cases e2
/-! ### range -/
def rangeV (lo : Int) (n : Nat) : List DV := (List.range n).map fun i => .int (lo + (i : Nat))
theorem walk_rng {lo : Int} {n : Nat} : WalkD K cl (L2.Itr lo n) (.vals (rangeV lo n)) W H := by
  refine ⟨fun _ _ => True, trivial, fun _ _ _ _ _ q => q, fun _ _ _ _ _ _ q => q, fun W h H i _ rel => ⟨fun d e => ?_, fun e => ?_⟩⟩
  · have e2 : (rangeV lo n)[i]? = some d := Option.some.inj e
    unfold rangeV at e2
    rw [List.getElem?_map] at e2
    by_cases hi : i < n
    · rw [List.getElem?_range hi] at e2
      cases e2
      refine ⟨hi, fun y H' ⟨e3, hy⟩ => ?_⟩
      subst e3
      subst hy
      exact ⟨W, .refl, rfl, rel, .int _⟩
    · rw [List.getElem?_eq_none (by simp; omega)] at e2
      cases e2
  · have e2 : (rangeV lo n)[i]? = none := Option.some.inj e
    have q := List.getElem?_eq_none_iff.mp e2
    unfold rangeV at q
    show n ≤ i
    simpa using q
def small (i : Int) : Bool := Nat.ble i.natAbs 4611686018427387903
theorem small_ok {i : Int} (h : small i = true) : -(2 ^ 62) ≤ i ∧ i < 2 ^ 62 := by
  have q : i.natAbs ≤ 4611686018427387903 := Nat.le_of_ble_eq_true h
  omega
def rng1 (ds : List DV) : M Wlk := match ds with
  | [.int j] => if small j then ret (.vals (rangeV 0 j.toNat)) else stk
  | _ => stk
def rng2 (ds : List DV) : M Wlk := match ds with
  | [.int i, .int j] => if small i && small j then ret (.vals (rangeV i (j - i).toNat)) else stk
  | _ => stk
theorem rng1_ok {ds : List DV} {t : Wlk} (e : rng1 ds h = .ok t h') : ∃ j, ds = [.int j] ∧ small j = true ∧ t = .vals (rangeV 0 j.toNat) ∧ h = h' := by
  unfold rng1 at e
  split at e
  · rename_i j
    cases z : small j with
    | false => rw [z] at e; cases e
    | true => rw [z] at e; cases e; exact ⟨j, rfl, z, rfl, rfl⟩
  · cases e
theorem rng2_ok {ds : List DV} {t : Wlk} (e : rng2 ds h = .ok t h') : ∃ i j, ds = [.int i, .int j] ∧ small i = true ∧ small j = true ∧ t = .vals (rangeV i (j - i).toNat) ∧ h = h' := by
  unfold rng2 at e
  split at e
  · rename_i i j
    cases z : small i with
    | false => rw [z] at e; cases e
    | true =>
      cases z2 : small j with
      | false => rw [z, z2] at e; cases e
      | true => rw [z, z2] at e; cases e; exact ⟨i, j, rfl, z, z2, rfl, rfl⟩
  · cases e
theorem RVs.i1 {i : Int} {xs : List V} (r : RVs K cl W H [.int i] xs) : xs = [.int i] := by
  cases r with
  | cons a b => cases a; cases b; rfl
theorem RVs.i2 {i j : Int} {xs : List V} (r : RVs K cl W H [.int i, .int j] xs) : xs = [.int i, .int j] := by
  cases r with
  | cons a b =>
    cases a
    cases b with
    | cons a b => cases a; cases b; rfl
def iRg (g : List DV → M Wlk) (ms : Exs) : Ix := fun sl => bnd (ms sl) g
variable {tg : Expr} {p : Pos} {ms : Exs}
theorem di_range1 {a : Expr} (hg : Gl X "range") (hm : X.mg "range" = none) (ha : DA cl X [a] ms) (hs : starEach [a] X.env = [(false, eval a X.env)] := by rfl) : DI cl X tg (.Call (.Name "range" p) [a] [] pos) (iRg rng1 ms) := (pi_range1 hg hm ha hs).mono fun σ H R q => by
  obtain ⟨W, h, sl, t, h', rel, rs, e, po⟩ := q
  obtain ⟨ds, h1, e1, e2⟩ := bnd_ok e
  refine ⟨W, h, sl, ds, h1, rel, rs, e1, fun W' H' xs ext rel' rv => ?_⟩
  obtain ⟨j, rfl, z, rfl, rfl⟩ := rng1_ok e2
  exact ⟨j, rv.i1, (small_ok z).1, (small_ok z).2, po W' H' _ ext rel' walk_rng⟩
theorem di_range2 {a b : Expr} (hg : Gl X "range") (hm : X.mg "range" = none) (ha : DA cl X [a, b] ms) (hs : starEach [a, b] X.env = [(false, eval a X.env), (false, eval b X.env)] := by rfl) (hs2 : starEach [b] X.env = [(false, eval b X.env)] := by rfl) : DI cl X tg (.Call (.Name "range" p) [a, b] [] pos) (iRg rng2 ms) := (pi_range2 hg hm ha hs hs2).mono fun σ H R q => by
  obtain ⟨W, h, sl, t, h', rel, rs, e, po⟩ := q
  obtain ⟨ds, h1, e1, e2⟩ := bnd_ok e
  refine ⟨W, h, sl, ds, h1, rel, rs, e1, fun W' H' xs ext rel' rv => ?_⟩
  obtain ⟨i, j, rfl, z, z2, rfl, rfl⟩ := rng2_ok e2
  exact ⟨i, j, rv.i2, ⟨(small_ok z).1, (small_ok z).2, (small_ok z2).1, (small_ok z2).2⟩, po W' H' _ ext rel' walk_rng⟩

/-! ### for -/
def forD (t : Wlk) (f : DV → Sl → Option Sl) (b : Sx) : Nat → Nat → Sx
  | 0, _ => fun _ => stk
  | n + 1, i => fun sl h => match t.at i h with
    | some (some d) => bnd (optM (f d sl)) (fun sl1 => bnd (b sl1) fun r => match r.1 with
      | .nx => forD t f b n (i + 1) r.2
      | .ct => forD t f b n (i + 1) r.2
      | .bk => ret (.nx, r.2)
      | .rt v => ret (.rt v, r.2)) h
    | some none => .ok (.nx, sl) h
    | none => .stuck
def sFor (mi : Ix) (f : DV → Sl → Option Sl) (b : Sx) : Sx := fun sl => bnd (mi sl) fun t => forD t f b 16777216 0 sl
theorem ds_for {iter : Expr} {body : List Stmt} {vs : List Nat} {mi : Ix} {f : DV → Sl → Option Sl} {mb : Sx} (hp : PassesOwn (model X.prog X.w) X.A X.env X.xe) (hc : X.calm = true) (hi : DI cl X tg iter mi) (hg : DG cl X tg vs f) (hb : DSs cl X body mb)
    (hs : ∀ x, foldedSetIterable iter X.env x = pure x := by intro _; rfl) : DS cl X (.For tg iter body [] pos) (sFor mi f mb) := (ps_for hp hc hi hg hb hs).mono fun D σ H q => by
  obtain ⟨W, h, sl, fl, sl', h', rel, rs, e, po⟩ := q
  obtain ⟨t, h1, e1, e2⟩ := bnd_ok e
  refine ⟨W, h, sl, t, h1, rel, rs, e1, fun W1 H1 J ext1 rel1 wk => ?_⟩
  obtain ⟨G, g0, gE, _, gW⟩ := wk
  refine ⟨fun i n σ2 H2 => ∃ W2 h2 sl2, Ext W H W2 H2 ∧ G W2 H2 ∧ HRel X.K cl W2 h2 H2 ∧ RSl X.K cl W2 H2 sl2 σ2 ∧ forD t f mb n i sl2 h2 = .ok (fl, sl') h', ⟨_, W1, h1, sl, ext1, g0, rel1, rs.mono ext1, e2⟩, ?_⟩
  rintro i n σ2 H2 ⟨W2, h2, sl2, ext2, g2, rel2, rs2, e3⟩
  obtain ⟨y1, y2⟩ := gW W2 h2 H2 i g2 rel2
  cases n with
  | zero => cases e3
  | succ n =>
    have e4 : (match t.at i h2 with
    | some (some d) => bnd (optM (f d sl2)) (fun sl1 => bnd (mb sl1) fun r => match r.1 with
      | .nx => forD t f mb n (i + 1) r.2
      | .ct => forD t f mb n (i + 1) r.2
      | .bk => ret (.nx, r.2)
      | .rt v => ret (.rt v, r.2)) h2
    | some none => .ok (.nx, sl2) h2
    | none => .stuck) = .ok (fl, sl') h' := e3
    cases q : t.at i h2 with
    | none => rw [q] at e4; cases e4
    | some o =>
      rw [q] at e4
      cases o with
      | none =>
        cases e4
        exact .inl ⟨y2 q, po W2 H2 σ2 ext2 rel2 rs2⟩
      | some d =>
        obtain ⟨go, yl⟩ := y1 d q
        refine .inr ⟨go, fun σ3 H3 => ∃ W3 h3 sl3, Ext W H W3 H3 ∧ G W3 H3 ∧ HRel X.K cl W3 h3 H3 ∧ RSl X.K cl W3 H3 sl3 σ3 ∧ forD t f mb n (i + 1) sl3 h3 = .ok (fl, sl') h', fun σ3 H3 z => ⟨n, Nat.lt_succ_self _, z⟩, fun x H3 yx => ?_⟩
        obtain ⟨W3, ext3, _, rel3, rx⟩ := yl x H3 yx
        obtain ⟨sl3, h3, e5, e6⟩ := bnd_ok e4
        obtain ⟨e5', rfl⟩ := optM_ok e5
        refine ⟨W3, h2, sl2, d, sl3, rel3, rs2.mono ext3, rx, e5', fun σ4 rs4 _ => ?_⟩
        obtain ⟨⟨fl1, sl5⟩, h5, e7, e8⟩ := bnd_ok e6
        refine ⟨W3, h2, sl3, fl1, sl5, h5, rel3, rs4, e7, ?_⟩
        cases fl1 with
        | nx => exact fun W' H' σ' ext rel' rs' => ⟨W', h5, sl5, (ext2.trans ext3).trans ext, gE _ _ _ _ (ext3.trans ext) g2, rel', rs', e8⟩
        | ct => exact fun W' H' σ' ext rel' rs' => ⟨W', h5, sl5, (ext2.trans ext3).trans ext, gE _ _ _ _ (ext3.trans ext) g2, rel', rs', e8⟩
        | bk =>
          cases e8
          exact fun W' H' σ' ext rel' rs' => po W' H' σ' ((ext2.trans ext3).trans ext) rel' rs'
        | rt v =>
          cases e8
          exact fun W' H' x' ext rel' rv => po W' H' x' ((ext2.trans ext3).trans ext) rel' rv

/-! ### list comprehensions -/
def lcD (t : Wlk) (f : DV → Sl → Option Sl) (tt : Tx) (el : Ex) (sl : Sl) : Nat → Nat → M (List DV)
  | 0, _ => stk
  | n + 1, i => fun h => match t.at i h with
    | some (some d) => bnd (optM (f d sl)) (fun sl1 => bnd (tt sl1) fun k => if k then bnd (el sl1) fun v => bnd (lcD t f tt el sl n (i + 1)) fun vs => ret (v :: vs) else lcD t f tt el sl n (i + 1)) h
    | some none => .ok [] h
    | none => .stuck
def wipeO (sl : Sl) : List Nat → Sl
  | [] => sl
  | v :: vs => (wipeO sl vs).set v none
def eLc (mi : Ix) (f : DV → Sl → Option Sl) (own : List Nat) (tt : Tx) (el : Ex) : Ex := fun sl => bnd (mi sl) fun t => bnd (lcD t f tt el (wipeO sl own) 16777216 0) lstD
theorem wipeO_len (sl : Sl) : ∀ vs, (wipeO sl vs).length = sl.length
  | [] => rfl
  | v :: vs => by unfold wipeO; rw [List.length_set, wipeO_len sl vs]
theorem ros_wipe {sl : Sl} {σ : L2.St} (rs : ROs K cl W H sl σ) : ∀ vs : List Nat, ROs K cl W H (wipeO sl vs) (wipe σ vs)
  | [] => rs
  | v :: vs => fun i d q => by
    have ih := ros_wipe rs vs
    unfold wipeO at q
    unfold wipe
    by_cases hi : v = i
    · subst hi
      by_cases hv : v < (wipeO sl vs).length
      · rw [List.getElem?_set_self hv] at q; cases q
      · rw [List.getElem?_eq_none (by simpa using hv)] at q; cases q
    · rw [List.getElem?_set_ne hi] at q
      obtain ⟨x, h1, h2⟩ := ih i d q
      exact ⟨x, by rw [List.getElem?_set_ne hi]; exact h1, h2⟩
theorem wipe_get (σ : L2.St) (i : Nat) : ∀ vs : List Nat, i ∉ vs → (wipe σ vs)[i]? = σ[i]?
  | [], _ => rfl
  | v :: vs, h => by
    unfold wipe
    rw [List.getElem?_set_ne (fun z => h (by rw [z]; exact List.mem_cons_self))]
    exact wipe_get σ i vs fun z => h (List.mem_cons_of_mem _ z)
theorem wipe_at (σ : L2.St) (i : Nat) (hi : i < σ.length) : ∀ vs : List Nat, i ∈ vs → (wipe σ vs)[i]? = some none
  | v :: vs, h => by
    unfold wipe
    by_cases z : v = i
    · subst z
      exact List.getElem?_set_self (by rw [wipe_length]; exact hi)
    · rw [List.getElem?_set_ne z]
      exact wipe_at σ i hi vs ((List.mem_cons.mp h).resolve_left fun q => z q.symm)
theorem wipe_same {σ σ2 : L2.St} {vs ws : List Nat} (hl : σ2.length = σ.length) (h : ∀ j, j ∉ ws → σ2[j]? = (wipe σ vs)[j]?) (sub : ∀ j ∈ ws, j ∈ vs) : wipe σ2 vs = wipe σ vs := by
  apply List.ext_getElem?
  intro i
  by_cases hi : i ∈ vs
  · by_cases hlt : i < σ.length
    · rw [wipe_at _ _ (by omega) _ hi, wipe_at _ _ hlt _ hi]
    · rw [List.getElem?_eq_none (by rw [wipe_length]; omega), List.getElem?_eq_none (by rw [wipe_length]; omega)]
  · rw [wipe_get _ _ _ hi, h i fun z => hi (sub i z)]
/-- the tests of a comprehension -/
abbrev DTs (cl : Cl) (X : Cx) (ifs : List Expr) (m : Tx) : Prop := PTs X ifs (tT X.K cl m)
def bYes : Tx := fun _ => ret true
theorem dts_nil : DTs cl X [] bYes := ⟨fun pins s σ H Q I q => by
  obtain ⟨W, h, sl, b, h', rel, rs, e, po⟩ := q
  cases e
  exact pts_nil.run pins s σ H Q I (po W H .refl rel)⟩
theorem dts_one {c : Expr} {m : Tx} (p : DT cl X c m) : DTs cl X [c] m := pts_one p
theorem de_lc {elt tg iter : Expr} {ifs : List Expr} {scope : Scope} {own : List (Str × Nat)} {ws : List Nat} {mi : Ix} {f : DV → Sl → Option Sl} {tt : Tx} {el : Ex} (hc : X.calm = true) (hN : X.N.Nodup) (hi : DI cl X tg iter mi) (ok : BlkOk X.N X.env.scope scope own)
    (hg : ∀ (s : Shared) (H : Hp) (C : Addr) (cc : List (Str × Addr)) (fp : List Addr), DG cl (X.blk s H scope (compEnvC scope cc C X.env) fp) tg ws f) (sub : ∀ j ∈ ws, j ∈ own.map Prod.snd)
    (ht : ∀ (s : Shared) (H : Hp) (C : Addr) (cc : List (Str × Addr)) (fp : List Addr), DTs cl (X.blk s H scope (compEnvC scope cc C X.env) fp) ifs tt)
    (he : ∀ (s : Shared) (H : Hp) (C : Addr) (cc : List (Str × Addr)) (fp : List Addr), DE cl (X.blk s H scope (compEnvC scope cc C X.env) fp) elt el) (hs : ∀ x, foldedSetIterable iter X.env x = pure x := by intro _; rfl) :
    PE X (.ListComp elt [⟨tg, iter, ifs, 0⟩] scope pos) (tE X.K cl (eLc mi f (own.map Prod.snd) tt el)) := by
  refine (pe_lc (g := tG X.K cl ws f) (tt := tT X.K cl tt) (te := tE X.K cl el) hc hN hi ok (fun s H C cc fp => hg s H C cc fp) (fun s H C cc fp => ht s H C cc fp) (fun s H C cc fp => he s H C cc fp) hs).mono fun σ H Q q => ?_
  obtain ⟨W, h, sl0, v, h', rel, rs0, e, po⟩ := q
  -- the slots, as many as there are
  obtain ⟨t, h1, e1, e2⟩ := bnd_ok e
  obtain ⟨all, h2, e3, e4⟩ := bnd_ok e2
  obtain ⟨zall, e4⟩ := fit_if e4
  cases e4
  refine ⟨W, h, sl0, t, h1, rel, rs0, e1, fun W1 H1 J ext1 rel1 wk D hD => ?_⟩
  obtain ⟨G, g0, gE, gO, gW⟩ := wk
  have nD : ∀ a, W.F a → a ≠ D := fun a q z => by
    obtain ⟨u, hu⟩ := rel1.tr a (ext1.sub a q)
    rw [z, hD] at hu
    cases hu
  refine ⟨fun i n H2 => ∃ W2 h3 accD acc rest, Ext W H W2 H2 ∧ G W2 H2 ∧ HRel X.K cl W2 h3 H2 ∧ RSl X.K cl W2 H2 (wipeO sl0 (own.map Prod.snd)) (wipe σ (own.map Prod.snd)) ∧ W2.F D ∧ Apart W2 h3 D ∧ H2 D = some (.lst acc) ∧ RVs X.K cl W2 H2 accD acc ∧
    lcD t f tt el (wipeO sl0 (own.map Prod.snd)) n i h3 = .ok rest h2 ∧ accD ++ rest = all, ⟨_, W1.fz D, h1, [], [], all, ext1.trans (ext_new hD rel1), gE _ _ _ _ (ext_new hD rel1) g0, rel1.new hD,
    ⟨by rw [wipeO_len, wipe_length]; exact rs0.1, (ros_wipe rs0.2 _).mono (ext1.trans (ext_new hD rel1))⟩, .inr rfl, fun n a dx q => Apart.fresh (h := h1) rel1 hD n a dx q, upd_same, .nil, e3, rfl⟩, ?_⟩
  rintro i n H2 ⟨W2, h3, accD, acc, rest, ext2, g2, rel2, rs2, hF, ap, hDa, racc, e5, eall⟩
  obtain ⟨y1, y2⟩ := gW W2 h3 H2 i g2 rel2
  cases n with
  | zero => cases e5
  | succ n =>
    have e6 : (match t.at i h3 with
    | some (some d) => bnd (optM (f d (wipeO sl0 (own.map Prod.snd)))) (fun sl1 => bnd (tt sl1) fun k => if k then bnd (el sl1) fun v => bnd (lcD t f tt el (wipeO sl0 (own.map Prod.snd)) n (i + 1)) fun vs => ret (v :: vs) else lcD t f tt el (wipeO sl0 (own.map Prod.snd)) n (i + 1)) h3
    | some none => .ok [] h3
    | none => .stuck) = .ok rest h2 := e5
    cases q : t.at i h3 with
    | none => rw [q] at e6; cases e6
    | some o =>
      rw [q] at e6
      cases o with
      | none =>
        cases e6
        rw [List.append_nil] at eall
        subst eall
        have hacc : ∃ u, H2 D = some u ∧ Acc u := ⟨_, hDa, .inl ⟨_, rfl⟩⟩
        refine .inl ⟨y2 q, po (W2.let D) H2 (.ref D) ⟨fun n p e => (Off.let (W := W2) hacc).pre n p (ext2.pre n p e), fun a z => ⟨ext2.sub a z, nD a z⟩, ext2.keep, fun n p e => ?_⟩
          (rel2.let hacc ap (fun _ _ z => by cases z) ⟨fun z => z.2 rfl, acc, hDa, racc.off (Off.let hacc)⟩) (.ref (d := D) ?_)⟩
        · have e : (W2.ρ ++ [(D, D)])[n]? = some p := e
          rcases getElem?_snoc e with ⟨e, _⟩ | ⟨_, e⟩
          · exact ext2.new n p e
          · exact .inr fun z => nD _ z (by rw [← e])
        · show (W2.ρ ++ [(D, D)])[h2.length]? = some (D, D)
          rw [rel2.len]; simp
      | some d =>
        obtain ⟨go, yl⟩ := y1 d q
        refine .inr ⟨go, _, fun H3 z => ⟨n, Nat.lt_succ_self _, z⟩, fun x H3 yx => ?_⟩
        obtain ⟨W3, ext3, _, rel3, rx⟩ := yl x H3 yx
        obtain ⟨sl1, h4, e7, e8⟩ := bnd_ok e6
        obtain ⟨e7', rfl⟩ := optM_ok e7
        refine ⟨W3, h3, _, d, sl1, rel3, rs2.mono ext3, rx, e7', fun σ4 rs4 z4 => ⟨wipe_same (z4.1.trans (wipe_length _ _)) z4.2 sub, ?_⟩⟩
        obtain ⟨k, h5, e9, e10⟩ := bnd_ok e8
        refine ⟨W3, h3, sl1, k, h5, rel3, rs4, e9, fun W4 H4 ext4 rel4 => ?_⟩
        cases k with
        | false =>
          have ext := ext3.trans ext4
          exact iteF ⟨W4, h5, accD, acc, rest, ext2.trans ext, gE _ _ _ _ ext g2, rel4, rs2.mono ext, ext.sub D hF, ap.ext ext hF, (ext.keep D hF).trans hDa, racc.mono ext, e10, eall⟩
        | true =>
          refine iteT ?_
          obtain ⟨v, h6, e11, e12⟩ := bnd_ok e10
          obtain ⟨vs, h7, e13, e14⟩ := bnd_ok e12
          cases e14
          refine ⟨W4, h5, sl1, v, h6, rel4, rs4.mono ext4, e11, fun W5 H5 y ext5 rel5 rv5 => ?_⟩
          have ext := (ext3.trans ext4).trans ext5
          have hDb : H5 D = some (.lst acc) := (ext.keep D hF).trans hDa
          have hacc : ∃ u, H5 D = some u ∧ Acc u := ⟨_, hDb, .inl ⟨_, rfl⟩⟩
          have ap5 : Apart W5 h6 D := ap.ext ext hF
          have off : Off W5 H5 W5 (upd H5 D (.lst (acc ++ [y]))) D := Off.wr hacc
          have e25 := ext2.trans ext
          refine ⟨acc, hDb, ?_, W5, h6, accD ++ [v], acc ++ [y], vs, ⟨e25.pre, e25.sub, fun a z => (upd_ne (nD a z)).trans (e25.keep a z), e25.new⟩, gO _ _ _ _ D off (gE _ _ _ _ ext g2), rel5.accWr hacc ap5,
            (rs2.mono ext).off off, ext.sub D hF, ap5, upd_same, ((racc.mono ext).append (.cons rv5 .nil)).off off, e13, ?_⟩
          · rw [← racc.length]
            have : all.length ≤ sizeLine := zall
            rw [← eall, List.length_append, List.length_cons] at this
            omega
          · rw [List.append_assoc]; exact eall
end
end D
set_option Elab.async false
set_option linter.all false
set_option maxRecDepth 100000
set_option maxHeartbeats 2000000
/-! D4: operators. -/
namespace D
open PySem PySem.Spec PyProof.Rows L2 SlX
section
variable {K : PySem.W.Frag} {cl : Cl} {W W1 : Wd} {H H1 : Hp} {h h' : Hs} {X : Cx} {pos : Pos}

/-! ### + -/
def lsAt (n : Nat) : M (List DV) := fun h => match h[n]? with
  | some (.lst ds) => .ok ds h
  | _ => .stuck
theorem lsAt_ok {n : Nat} {ds : List DV} (e : lsAt n h = .ok ds h') : h' = h ∧ h[n]? = some (.lst ds) := by
  unfold lsAt at e
  cases q : h[n]? with
  | none => rw [q] at e; cases e
  | some u =>
    rw [q] at e
    cases u with
    | lst ds => cases e; exact ⟨rfl, rfl⟩
    | dic _ => cases e
    | dfz _ => cases e
    | ins _ _ => cases e
    | dead => cases e
    | pot _ _ => cases e
theorem HRel.lst {n : Nat} {ds : List DV} {a dx : Addr} (rel : HRel K cl W h H) (e : h[n]? = some (.lst ds)) (hn : W.ρ[n]? = some (a, dx)) : ¬ W.F a ∧ ∃ xs, H a = some (.lst xs) ∧ RVs K cl W H ds xs := rel.ok n _ a dx e hn
def addD (x y : DV) : M DV := match x, y with
  | .int i, .int j => ret (.int (i + j))
  | .str s, .str t => if fits (s.length + t.length) then ret (.str (s ++ t)) else stk
  | .tup a, .tup b => if fits (a.length + b.length) then ret (.tup (a ++ b)) else stk
  | .ref n, .ref m => bnd (lsAt n) fun a => bnd (lsAt m) fun b => lstD (a ++ b)
  | _, _ => stk
theorem o_add : O2 cl X (binaryOp .Add) addD := by
  intro pins s σ H x y v u Q I rx ry q
  obtain ⟨W, h, d1, d2, v', h', rel, r1, r2, e, po⟩ := q
  cases r1 <;> cases r2 <;> first | (cases e; done) | skip
  · rename_i i j
    cases e
    exact op_add pins s σ H _ _ v u Q I rx ry ⟨i, j, rfl, rfl, po.now rel (.int _)⟩
  · rename_i a b
    obtain ⟨z, e⟩ := fit_if e
    cases e
    refine op_add_str pins s σ H _ _ v u Q I rx ry ⟨_, _, rfl, rfl, by rw [SX.S_len, SX.S_len]; exact z, ?_⟩
    rw [SX.S_cat]
    exact po.now rel (.str _)
  · rename_i n a dx hn m b dy hm
    obtain ⟨l1, h1, e1, e2⟩ := bnd_ok e
    obtain ⟨rfl, q1⟩ := lsAt_ok e1
    obtain ⟨l2, h2, e3, e4⟩ := bnd_ok e2
    obtain ⟨rfl, q2⟩ := lsAt_ok e3
    obtain ⟨z, e4⟩ := fit_if e4
    cases e4
    obtain ⟨_, xs, hx, rx'⟩ := rel.lst q1 hn
    obtain ⟨_, ys, hy, ry'⟩ := rel.lst q2 hm
    exact op_cat pins s σ H _ _ v u Q I rx ry ⟨_, _, xs, ys, rfl, rfl, hx, hy, by rw [← rx'.length, ← ry'.length, ← List.length_append]; exact z, fun p hp => po_lst po rel (rx'.append ry') p hp⟩
  · rename_i ds xs a f1 t1 es ys b f2 t2
    obtain ⟨z, e⟩ := fit_if e
    cases e
    refine op_catA pins s σ H _ _ v u Q I rx ry ⟨_, _, xs, ys, rfl, rfl, f1.sq, f2.sq, by rw [← t1.length, ← t2.length]; exact z, fun e => ?_, fun _ e => ?_, fun _ _ p hp => ?_⟩
    · subst e
      cases t1
      exact po.now rel (.tup f2 t2)
    · subst e
      cases t2
      rw [List.append_nil] at po
      exact po.now rel (.tup f1 t1)
    · exact po_tup po rel (t1.append t2) p hp
def subD (x y : DV) : M DV := match x, y with
  | .int i, .int j => ret (.int (i - j))
  | _, _ => stk
theorem o_sub : O2 cl X (binaryOp .Sub) subD := by
  intro pins s σ H x y v u Q I rx ry q
  obtain ⟨W, h, d1, d2, v', h', rel, r1, r2, e, po⟩ := q
  cases r1 <;> cases r2 <;> first | (cases e; done) | skip
  rename_i i j
  cases e
  exact op_sub pins s σ H _ _ v u Q I rx ry ⟨i, j, rfl, rfl, po.now rel (.int _)⟩
/-! ### * -/
def mulOk (i j : Int) : Bool := Nat.blt i.natAbs 18446744073709551616 || Nat.blt j.natAbs 18446744073709551616 || Nat.blt (i.natAbs.log2 + j.natAbs.log2) 1000000
theorem mulOk_ok {i j : Int} (e : mulOk i j = true) : IntMulOk i j := by
  unfold mulOk at e
  rw [Bool.or_eq_true, Bool.or_eq_true] at e
  rcases e with (e | e) | e
  · have : i.natAbs < 18446744073709551616 := Nat.blt_eq.mp e
    exact CMul.ok (.inl ⟨by omega, by omega⟩)
  · have : j.natAbs < 18446744073709551616 := Nat.blt_eq.mp e
    exact CMul.ok (.inr ⟨by omega, by omega⟩)
  · exact CMulW.ok (Nat.blt_eq.mp e)
theorem op_mulA : OpR X (binaryOp .Mult) (rI IntMulOk fun i j => .int (i * j)) := opI fun _ _ _ _ _ _ _ hc q => mul_int q hc
def repS (n : Nat) (s : List Nat) : List Nat := (List.replicate n s).flatten
def mulD (x y : DV) : M DV := match x, y with
  | .int i, .int j => if mulOk i j then ret (.int (i * j)) else stk
  | _, _ => stk
theorem o_mul : O2 cl X (binaryOp .Mult) mulD := by
  intro pins s σ H x y v u Q I rx ry q
  obtain ⟨W, h, d1, d2, v', h', rel, r1, r2, e, po⟩ := q
  cases r1 <;> cases r2 <;> first | (cases e; done) | skip
  rename_i i j
  have e' : (if mulOk i j then ret (.int (i * j)) else stk) h = .ok v' h' := e
  cases z : mulOk i j with
  | false => rw [z] at e'; cases e'
  | true =>
    rw [z] at e'
    cases e'
    exact op_mulA pins s σ H _ _ v u Q I rx ry ⟨i, j, rfl, rfl, mulOk_ok z, po.now rel (.int _)⟩
/-! ### // % ** -/
def divOk (j : Int) : Bool := (Nat.blt j.natAbs 1073741824 || (decide (0 < j) && Nat.blt j.natAbs.log2 9000)) && (j != 0)
def fdivD (x y : DV) : M DV := match x, y with
  | .int i, .int j => if divOk j then ret (.int (i.fdiv j)) else stk
  | _, _ => stk
theorem if_ok {α : Type} {b : Bool} {m : M α} {v : α} (e : (if b then m else stk) h = .ok v h') : b = true ∧ m h = .ok v h' := by
  cases b with
  | false => cases e
  | true => exact ⟨rfl, e⟩
theorem o_fdiv : O2 cl X (binaryOp .FloorDiv) fdivD := by
  intro pins s σ H x y v u Q I rx ry q
  obtain ⟨W, h, d1, d2, v', h', rel, r1, r2, e, po⟩ := q
  cases r1 <;> cases r2 <;> first | (cases e; done) | skip
  rename_i i j
  obtain ⟨z, e⟩ := if_ok e
  cases e
  unfold divOk at z
  rw [Bool.and_eq_true, Bool.or_eq_true, Bool.and_eq_true] at z
  obtain ⟨z1, z2⟩ := z
  have hj : j ≠ 0 := by simpa using z2
  rcases z1 with z1 | ⟨z1, z3⟩
  · exact op_fdivN pins s σ H _ _ v u Q I rx ry ⟨i, j, rfl, rfl, ⟨hj, Nat.blt_eq.mp z1⟩, po.now rel (.int _)⟩
  · have hp : 0 < j := of_decide_eq_true z1
    refine op_fdivW pins s σ H _ _ v u Q I rx ry ⟨i, j, rfl, rfl, ⟨hp, Nat.blt_eq.mp z3⟩, ?_⟩
    show Q (V.int (i / j)) H
    rw [← Int.fdiv_eq_ediv_of_nonneg i (Int.le_of_lt hp)]
    exact po.now rel (.int _)
def modD (x y : DV) : M DV := match x, y with
  | .int i, .int j => if j != 0 then ret (.int (i.fmod j)) else stk
  | _, _ => stk
theorem o_mod : O2 cl X (binaryOp .Mod) modD := by
  intro pins s σ H x y v u Q I rx ry q
  obtain ⟨W, h, d1, d2, v', h', rel, r1, r2, e, po⟩ := q
  cases r1 <;> cases r2 <;> first | (cases e; done) | skip
  rename_i i j
  obtain ⟨z, e⟩ := if_ok e
  cases e
  exact op_modN pins s σ H _ _ v u Q I rx ry ⟨i, j, rfl, rfl, by simpa using z, po.now rel (.int _)⟩
def powOk (i j : Int) : Bool := decide (0 ≤ j) && Nat.ble ((i.natAbs.log2 + 1) * j.toNat) 134217728
def powD (x y : DV) : M DV := match x, y with
  | .int i, .int j => if powOk i j then ret (.int (i ^ j.toNat)) else stk
  | _, _ => stk
theorem op_powA : OpR X (binaryOp .Pow) (rI (fun i j => 0 ≤ j ∧ (Builtin.Int.intBits i : Int) * j ≤ 2 ^ 27) fun i j => .int (i ^ j.toNat)) := opI fun _ _ _ _ _ _ _ hc q => pow_int hc.1 hc.2 q
theorem o_pow : O2 cl X (binaryOp .Pow) powD := by
  intro pins s σ H x y v u Q I rx ry q
  obtain ⟨W, h, d1, d2, v', h', rel, r1, r2, e, po⟩ := q
  cases r1 <;> cases r2 <;> first | (cases e; done) | skip
  rename_i i j
  obtain ⟨z, e⟩ := if_ok e
  cases e
  unfold powOk at z
  rw [Bool.and_eq_true] at z
  have z1 : 0 ≤ j := of_decide_eq_true z.1
  have z2 : (i.natAbs.log2 + 1) * j.toNat ≤ 134217728 := Nat.le_of_ble_eq_true z.2
  have b : Builtin.Int.intBits i ≤ i.natAbs.log2 + 1 := by
    unfold Builtin.Int.intBits
    split <;> omega
  refine op_powA pins s σ H _ _ v u Q I rx ry ⟨i, j, rfl, rfl, ⟨z1, ?_⟩, po.now rel (.int _)⟩
  have z3 : Builtin.Int.intBits i * j.toNat ≤ 134217728 := Nat.le_trans (Nat.mul_le_mul_right _ b) z2
  have e1 : (j.toNat : Int) = j := Int.toNat_of_nonneg z1
  have z4 : ((Builtin.Int.intBits i * j.toNat : Nat) : Int) ≤ 134217728 := Int.ofNat_le.mpr z3
  rw [Int.natCast_mul, e1] at z4
  exact z4
def negD (x : DV) : M DV := match x with
  | .int i => ret (.int (-i))
  | _ => stk
theorem o_neg : O1 cl X (unaryOp .USub) negD := by
  intro pins s σ H x v Q I rx q
  obtain ⟨W, h, d1, v', h', rel, r1, e, po⟩ := q
  cases r1 <;> first | (cases e; done) | skip
  rename_i i
  cases e
  exact un_neg pins s σ H _ v Q I rx ⟨i, rfl, po.now rel (.int _)⟩

/-! ### comparisons -/
def ltS : List Nat → List Nat → Bool
  | [], [] => false
  | [], _ :: _ => true
  | _ :: _, [] => false
  | a :: r, b :: t => Nat.blt a b || (Nat.beq a b && ltS r t)
theorem ltS_iff : ∀ {s t : List Nat}, ltS s t = decide (s < t)
  | [], [] => rfl
  | [], _ :: _ => by simp [ltS]
  | _ :: _, [] => by simp [ltS]
  | a :: r, b :: t => by
    have ih := ltS_iff (s := r) (t := t)
    show (Nat.blt a b || (Nat.beq a b && ltS r t)) = _
    rw [ih]
    by_cases h1 : a < b
    · have : Nat.blt a b = true := Nat.blt_eq.mpr h1
      rw [this]
      simp [h1, List.cons_lt_cons_iff]
    · have e1 : Nat.blt a b = false := by
        cases q : Nat.blt a b with
        | false => rfl
        | true => exact absurd (Nat.blt_eq.mp q) h1
      rw [e1, Bool.false_or]
      by_cases h2 : a = b
      · subst h2
        have : Nat.beq a a = true := Nat.beq_refl a
        rw [this, Bool.true_and]
        simp [List.cons_lt_cons_iff]
      · have : Nat.beq a b = false := by
          cases q : Nat.beq a b with
          | false => rfl
          | true => exact absurd (Nat.eq_of_beq_eq_true q) h2
        rw [this, Bool.false_and]
        simp [List.cons_lt_cons_iff, h1, h2]
def ltD (x y : DV) : M DV := match x, y with
  | .int i, .int j => ret (.bl (decide (i < j)))
  | .str s, .str t => ret (.bl (ltS s t))
  | _, _ => stk
def leD (x y : DV) : M DV := match x, y with
  | .int i, .int j => ret (.bl (decide (i ≤ j)))
  | .str s, .str t => ret (.bl (!ltS t s))
  | _, _ => stk
def gtD (x y : DV) : M DV := match x, y with
  | .int i, .int j => ret (.bl (decide (j < i)))
  | .str s, .str t => ret (.bl (ltS t s))
  | _, _ => stk
def geD (x y : DV) : M DV := match x, y with
  | .int i, .int j => ret (.bl (decide (j ≤ i)))
  | .str s, .str t => ret (.bl (!ltS s t))
  | _, _ => stk
theorem S_tl (s : List Nat) : (SX.S s).cps.toList = s := rfl
theorem o_lt : O2 cl X (compareOp .Lt) ltD := by
  intro pins s σ H x y v u Q I rx ry q
  obtain ⟨W, h, d1, d2, v', h', rel, r1, r2, e, po⟩ := q
  cases r1 <;> cases r2 <;> first | (cases e; done) | skip
  · cases e
    exact op_lt pins s σ H _ _ v u Q I rx ry ⟨_, _, rfl, rfl, po.now rel (.bl _)⟩
  · cases e
    refine op_lt_str pins s σ H _ _ v u Q I rx ry ⟨_, _, rfl, rfl, ?_⟩
    have z := po.now rel (.bl _)
    rw [ltS_iff] at z
    exact z
theorem o_le : O2 cl X (compareOp .LtE) leD := by
  intro pins s σ H x y v u Q I rx ry q
  obtain ⟨W, h, d1, d2, v', h', rel, r1, r2, e, po⟩ := q
  cases r1 <;> cases r2 <;> first | (cases e; done) | skip
  · cases e
    exact op_le pins s σ H _ _ v u Q I rx ry ⟨_, _, rfl, rfl, po.now rel (.bl _)⟩
  · cases e
    refine op_le_str pins s σ H _ _ v u Q I rx ry ⟨_, _, rfl, rfl, ?_⟩
    have z := po.now rel (.bl _)
    rw [ltS_iff] at z
    exact z
theorem o_gt : O2 cl X (compareOp .Gt) gtD := by
  intro pins s σ H x y v u Q I rx ry q
  obtain ⟨W, h, d1, d2, v', h', rel, r1, r2, e, po⟩ := q
  cases r1 <;> cases r2 <;> first | (cases e; done) | skip
  · cases e
    exact op_gt pins s σ H _ _ v u Q I rx ry ⟨_, _, rfl, rfl, po.now rel (.bl _)⟩
  · cases e
    refine op_gt_str pins s σ H _ _ v u Q I rx ry ⟨_, _, rfl, rfl, ?_⟩
    have z := po.now rel (.bl _)
    rw [ltS_iff] at z
    exact z
theorem o_ge : O2 cl X (compareOp .GtE) geD := by
  intro pins s σ H x y v u Q I rx ry q
  obtain ⟨W, h, d1, d2, v', h', rel, r1, r2, e, po⟩ := q
  cases r1 <;> cases r2 <;> first | (cases e; done) | skip
  · cases e
    exact op_ge pins s σ H _ _ v u Q I rx ry ⟨_, _, rfl, rfl, po.now rel (.bl _)⟩
  · cases e
    refine op_ge_str pins s σ H _ _ v u Q I rx ry ⟨_, _, rfl, rfl, ?_⟩
    have z := po.now rel (.bl _)
    rw [ltS_iff] at z
    exact z
/-- == of flat values -/
def eqS : List Nat → List Nat → Bool
  | [], [] => true
  | a :: r, b :: t => Nat.beq a b && eqS r t
  | _, _ => false
theorem eqS_iff : ∀ {s t : List Nat}, eqS s t = decide (s = t)
  | [], [] => rfl
  | [], _ :: _ => rfl
  | _ :: _, [] => rfl
  | a :: r, b :: t => by
    have ih := eqS_iff (s := r) (t := t)
    show (Nat.beq a b && eqS r t) = _
    rw [ih]
    cases q : Nat.beq a b with
    | true =>
      have := Nat.eq_of_beq_eq_true q
      subst this
      simp
    | false =>
      have : a ≠ b := fun z => by rw [z, Nat.beq_refl] at q; cases q
      simp [this]
/-- flat values: what rEq serves -/
def eqF (x y : DV) : Option Bool := match x, y with
  | .non, .non => some true
  | .non, .int _ => some false
  | .int _, .non => some false
  | .non, .bl _ => some false
  | .bl _, .non => some false
  | .non, .str _ => some false
  | .str _, .non => some false
  | .int i, .int j => some (decide (i = j))
  | .bl a, .bl b => some (a == b)
  | .str s, .str t => some (eqS s t)
  | .int _, .str _ => some false
  | .str _, .int _ => some false
  | .bl _, .str _ => some false
  | .str _, .bl _ => some false
  | _, _ => none
theorem eqF_ok {d1 d2 : DV} {x y : V} {b : Bool} (r1 : RV K cl W H d1 x) (r2 : RV K cl W H d2 y) (e : eqF d1 d2 = some b) : scal x y = true ∧ decide (x = y) = b := by
  cases r1 <;> cases r2 <;> first | (cases e; done) | skip
  all_goals (cases e)
  · exact ⟨rfl, rfl⟩
  · exact ⟨rfl, rfl⟩
  · exact ⟨rfl, rfl⟩
  · exact ⟨rfl, rfl⟩
  · exact ⟨rfl, rfl⟩
  · refine ⟨rfl, ?_⟩
    rename_i a b
    cases a <;> cases b <;> rfl
  · exact ⟨rfl, rfl⟩
  · exact ⟨rfl, rfl⟩
  · refine ⟨rfl, ?_⟩
    rename_i i j
    by_cases z : i = j
    · subst z; simp
    · simp [z]
  · exact ⟨rfl, rfl⟩
  · exact ⟨rfl, rfl⟩
  · exact ⟨rfl, rfl⟩
  · exact ⟨rfl, rfl⟩
  · refine ⟨rfl, ?_⟩
    rename_i s t
    rw [eqS_iff]
    by_cases z : s = t
    · subst z; simp
    · have : ¬ V.str (SX.S s) = V.str (SX.S t) := fun q => by
        injection q with q
        exact z (SX.S_inj q)
      rw [decide_eq_false this, decide_eq_false z]
def isD (x y : DV) : M DV := match y with
  | .non => match x with
    | .non => ret (.bl true)
    | .bl _ => ret (.bl false)
    | .int _ => ret (.bl false)
    | .str _ => ret (.bl false)
    | .ref _ => ret (.bl false)
    | .tup _ => ret (.bl false)
    | .obj _ _ => ret (.bl false)
    | .scr _ => ret (.bl false)
  | .bl b => match x with
    | .bl a => ret (.bl (a == b))
    | _ => stk
  | _ => stk
def notD (g : DV → DV → M DV) (x y : DV) : M DV := bnd (g x y) fun z => match z with
  | .bl b => ret (.bl (!b))
  | _ => stk
theorem isN_val {d1 : DV} {x : V} {v' : DV} (r1 : RV K cl W H d1 x) (e : isD d1 .non h = .ok v' h') : h' = h ∧ v' = .bl (decide (x = .non)) := by
  cases r1 <;> (cases e; exact ⟨rfl, rfl⟩)
theorem o_is : O2 cl X (compareOp .Is) isD := by
  intro pins s σ H x y v u Q I rx ry q
  obtain ⟨W, h, d1, d2, v', h', rel, r1, r2, e, po⟩ := q
  cases r2 <;> first | (cases e; done) | skip
  · obtain ⟨rfl, rfl⟩ := isN_val r1 e
    exact op_isN pins s σ H _ _ v u Q I rx ry ⟨rfl, po.now rel (.bl _)⟩
  · cases r1 <;> first | (cases e; done) | skip
    cases e
    rename_i b a
    refine op_is_bl pins s σ H _ _ v u Q I rx ry ⟨_, _, rfl, rfl, ?_⟩
    have z := po.now rel (.bl _)
    rw [show decide (a = b) = (a == b) by cases a <;> cases b <;> rfl]
    exact z
theorem o_isnot : O2 cl X (compareOp .IsNot) (notD isD) := by
  intro pins s σ H x y v u Q I rx ry q
  obtain ⟨W, h, d1, d2, v', h', rel, r1, r2, e, po⟩ := q
  obtain ⟨z, h1, e1, e2⟩ := bnd_ok e
  cases r2 <;> first | (cases e1; done) | skip
  · obtain ⟨rfl, rfl⟩ := isN_val r1 e1
    cases e2
    exact op_notN pins s σ H _ _ v u Q I rx ry ⟨rfl, po.now rel (.bl _)⟩
  · cases r1 <;> first | (cases e1; done) | skip
    cases e1
    cases e2
    rename_i b a
    refine op_isnot_bl pins s σ H _ _ v u Q I rx ry ⟨_, _, rfl, rfl, ?_⟩
    have z := po.now rel (.bl _)
    rw [show (!decide (a = b)) = !(a == b) by cases a <;> cases b <;> rfl]
    exact z
end
end D
set_option Elab.async false
set_option linter.all false
set_option maxRecDepth 100000
set_option maxHeartbeats 2000000
/-! D5: builtins. -/
namespace D
open PySem PySem.Spec PyProof.Rows L2 SlX
section
variable {K : PySem.W.Frag} {cl : Cl} {W W1 : Wd} {H H1 : Hp} {h h' : Hs} {X : Cx} {pos : Pos}
/-- reading off a value that stays: what a value's length, its members are -/
def itsD (d : DV) : M (List DV) := match d with
  | .tup ds => ret ds
  | .scr ns => ret (ns.map .int)
  | .ref n => lsAt n
  | _ => stk
theorem rv_scr {ns : List Int} {xs : List V} (r : RVs K cl W H (ns.map .int) xs) : xs = ns.map .int := r.ints
theorem rvs_ints : ∀ (ns : List Int), RVs K cl W H (ns.map .int) (ns.map .int)
  | [] => .nil
  | n :: t => .cons (.int n) (rvs_ints t)
theorem itsD_ok {d : DV} {x : V} {ds : List DV} (rel : HRel K cl W h H) (r : RV K cl W H d x) (e : itsD d h = .ok ds h') : h' = h ∧ ∃ a xs, x = .ref a ∧ (SqL K H a xs ∨ SqT K H a xs) ∧ RVs K cl W H ds xs := by
  cases r <;> first | (cases e; done) | skip
  · rename_i n a dx hn
    obtain ⟨rfl, q⟩ := lsAt_ok e
    obtain ⟨_, xs, hx, rx⟩ := rel.lst q hn
    exact ⟨rfl, a, xs, rfl, .inl (SqL.of hx), rx⟩
  · cases e
    exact ⟨rfl, _, _, rfl, .inr (FzT.sq (by assumption)), by assumption⟩
  · cases e
    exact ⟨rfl, _, _, rfl, .inl (FzL.sq (by assumption)), rvs_ints _⟩
/-- len -/
def lenD (ds : List DV) : M DV := match ds with
  | [.str s] => if fits s.length then ret (.int (s.length : Nat)) else stk
  | [.ref n] => fun h => match h[n]? with
    | some (.lst xs) => .ok (.int (xs.length : Nat)) h
    | some (.dic ks) => .ok (.int (ks.length : Nat)) h
    | _ => .stuck
  | [d] => bnd (itsD d) fun xs => ret (.int (xs.length : Nat))
  | _ => stk
theorem RVs.one {d : DV} {xs : List V} (r : RVs K cl W H [d] xs) : ∃ x, xs = [x] ∧ RV K cl W H d x := by
  cases r with
  | cons a b => cases b; exact ⟨_, rfl, a⟩
theorem RVs.two {d e : DV} {xs : List V} (r : RVs K cl W H [d, e] xs) : ∃ x y, xs = [x, y] ∧ RV K cl W H d x ∧ RV K cl W H e y := by
  cases r with
  | cons a b =>
    obtain ⟨y, rfl, c⟩ := RVs.one b
    exact ⟨_, y, rfl, a, c⟩
theorem RKV.length {ds : List (DV × DV)} {xs : List (Key × V)} (r : RKV K cl W H ds xs) : ds.length = xs.length := by
  induction r with
  | nil => rfl
  | cons _ _ _ ih => rw [List.length_cons, List.length_cons, ih]
theorem c_len : CD cl X (.builtin "len") lenD := by
  intro pins s σ H xs us Q I rv q
  obtain ⟨W, h, ds, v', h', rel, r, e, po⟩ := q
  cases r with
  | nil => cases e
  | cons r1 rr =>
    cases rr with
    | cons => cases r1 <;> cases e
    | nil =>
      cases r1 with
      | non => cases e
      | bl => cases e
      | int => cases e
      | obj => cases e
      | str z =>
        obtain ⟨z1, e⟩ := fit_if e
        cases e
        exact call_len pins s σ H _ us Q I rv ⟨_, _, rfl, ⟨by rw [SX.S_len]; exact z1, rfl⟩, by rw [SX.S_len]; exact po.now rel (.int _)⟩
      | tup f t =>
        rename_i ds' xs' a'
        have e : R.ok (DV.int (ds'.length : Nat)) h = .ok v' h' := e
        cases e
        exact call_len pins s σ H _ us Q I rv ⟨_, _, rfl, .inr ⟨_, f.sq, rfl⟩, by rw [← t.length]; exact po.now rel (.int _)⟩
      | scr f =>
        rename_i ns' a'
        have e : R.ok (DV.int ((ns'.map DV.int).length : Nat)) h = .ok v' h' := e
        cases e
        exact call_len pins s σ H _ us Q I rv ⟨_, _, rfl, .inl ⟨_, f.sq, rfl⟩, by rw [List.length_map] at po ⊢; exact po.now rel (.int _)⟩
      | ref hn =>
        rename_i n a dx
        have e' : (match h[n]? with
          | some (.lst xs) => R.ok (.int (xs.length : Nat)) h
          | some (.dic ks) => R.ok (.int (ks.length : Nat)) h
          | _ => R.stuck) = R.ok v' h' := e
        cases q : h[n]? with
        | none => rw [q] at e'; cases e'
        | some o =>
          rw [q] at e'
          cases o with
          | lst ds =>
            cases e'
            obtain ⟨_, xs, h1, r⟩ := rel.ok n _ a dx q hn
            exact call_len pins s σ H _ us Q I rv ⟨_, _, rfl, .inl ⟨xs, SqL.of h1, rfl⟩, by rw [← r.length]; exact po.now rel (.int _)⟩
          | dic ks =>
            cases e'
            obtain ⟨_, xs, h1, r⟩ := rel.ok n _ a dx q hn
            exact call_lenD pins s σ H _ us Q I rv ⟨a, xs, rfl, h1, by rw [← r.length]; exact po.now rel (.int _)⟩
          | dfz ks => cases e'
          | ins c fs => cases e'
          | dead => cases e'
          | pot _ _ => cases e'
/-- abs, int of an int or bool -/
def absD (ds : List DV) : M DV := match ds with
  | [.int i] => ret (.int (if i < 0 then -i else i))
  | _ => stk
theorem c_abs : CD cl X (.builtin "abs") absD := by
  intro pins s σ H xs us Q I rv q
  obtain ⟨W, h, ds, v', h', rel, r, e, po⟩ := q
  unfold absD at e
  split at e
  · obtain ⟨x, rfl, r1⟩ := r.one
    cases r1
    cases e
    exact call_abs pins s σ H _ us Q I rv ⟨_, rfl, po.now rel (.int _)⟩
  · cases e
def intD (ds : List DV) : M DV := match ds with
  | [.int i] => ret (.int i)
  | [.bl b] => ret (.int (if b then 1 else 0))
  | _ => stk
theorem c_int : CD cl X (.type "int") intD := by
  intro pins s σ H xs us Q I rv q
  obtain ⟨W, h, ds, v', h', rel, r, e, po⟩ := q
  unfold intD at e
  split at e
  · obtain ⟨x, rfl, r1⟩ := r.one
    cases r1
    cases e
    exact call_int1 pins s σ H _ us Q I rv (.inl ⟨_, rfl, po.now rel (.int _)⟩)
  · obtain ⟨x, rfl, r1⟩ := r.one
    cases r1
    cases e
    exact call_int1 pins s σ H _ us Q I rv (.inr ⟨_, rfl, po.now rel (.int _)⟩)
  · cases e
/-- all, any, sum of a list -/
def blsOf : List DV → Option (List Bool)
  | [] => some []
  | .bl b :: t => (blsOf t).map (b :: ·)
  | _ => none
def intsOf : List DV → Option (List Int)
  | [] => some []
  | .int b :: t => (intsOf t).map (b :: ·)
  | _ => none
theorem blsOf_ok : ∀ {ds : List DV} {bs : List Bool} {xs : List V}, blsOf ds = some bs → RVs K cl W H ds xs → xs = bs.map V.bl
  | [], bs, xs, e, r => by cases e; cases r; rfl
  | d :: t, bs, xs, e, r => by
    cases r with
    | cons r1 r2 =>
      cases r1 <;> first | (cases e; done) | skip
      obtain ⟨cs, e1, e2⟩ := Option.map_eq_some_iff.mp (show (blsOf t).map _ = some bs from e)
      subst e2
      rw [blsOf_ok e1 r2]; rfl
theorem intsOf_ok : ∀ {ds : List DV} {bs : List Int} {xs : List V}, intsOf ds = some bs → RVs K cl W H ds xs → xs = bs.map V.int
  | [], bs, xs, e, r => by cases e; cases r; rfl
  | d :: t, bs, xs, e, r => by
    cases r with
    | cons r1 r2 =>
      cases r1 <;> first | (cases e; done) | skip
      obtain ⟨cs, e1, e2⟩ := Option.map_eq_some_iff.mp (show (intsOf t).map _ = some bs from e)
      subst e2
      rw [intsOf_ok e1 r2]; rfl
def lsOf (f : List DV → M DV) (ds : List DV) : M DV := match ds with
  | [.ref n] => bnd (lsAt n) f
  | _ => stk
theorem lsOf_ok {f : List DV → M DV} {ds : List DV} {xs : List V} {v : DV} (rel : HRel K cl W h H) (r : RVs K cl W H ds xs) (e : lsOf f ds h = .ok v h') : ∃ a ls ys, xs = [.ref a] ∧ H a = some (.lst ys) ∧ RVs K cl W H ls ys ∧ f ls h = .ok v h' := by
  unfold lsOf at e
  split at e
  · obtain ⟨x, rfl, r1⟩ := r.one
    cases r1 with
    | ref hn =>
      obtain ⟨l, h1, e1, e2⟩ := bnd_ok e
      obtain ⟨rfl, q⟩ := lsAt_ok e1
      obtain ⟨_, ys, hy, ry⟩ := rel.lst q hn
      exact ⟨_, l, ys, rfl, hy, ry, e2⟩
  · cases e
def optV {α : Type} (o : Option α) (f : α → DV) : M DV := match o with
  | some a => ret (f a)
  | none => stk
theorem optV_ok {α : Type} {o : Option α} {f : α → DV} {v : DV} (e : optV o f h = .ok v h') : ∃ a, o = some a ∧ v = f a ∧ h' = h := by
  cases o with
  | none => cases e
  | some a => cases e; exact ⟨a, rfl, rfl, rfl⟩
def allD : List DV → M DV := lsOf fun ls => optV (blsOf ls) fun bs => .bl (bs.all id)
def anyD : List DV → M DV := lsOf fun ls => optV (blsOf ls) fun bs => .bl (bs.any id)
def sumI : List Int → Int
  | [] => 0
  | n :: t => n + sumI t
theorem sumI_eq : ∀ ns : List Int, ns.sum = sumI ns
  | [] => rfl
  | n :: t => by rw [List.sum_cons, sumI_eq t]; rfl
def sumD : List DV → M DV := lsOf fun ls => optV (intsOf ls) fun bs => .int (sumI bs)
theorem c_all (hc : X.calm = true) : CD cl X (.builtin "all") allD := by
  intro pins s σ H xs us Q I rv q
  obtain ⟨W, h, ds, v', h', rel, r, e, po⟩ := q
  obtain ⟨a, ls, ys, rfl, ha, ry, e⟩ := lsOf_ok rel r e
  obtain ⟨bs, e1, rfl, rfl⟩ := optV_ok e
  have := blsOf_ok e1 ry
  subst this
  exact cr_all hc pins s σ H _ us Q I rv ⟨a, bs, rfl, SqL.of ha, po.now rel (.bl _)⟩
theorem c_any (hc : X.calm = true) : CD cl X (.builtin "any") anyD := by
  intro pins s σ H xs us Q I rv q
  obtain ⟨W, h, ds, v', h', rel, r, e, po⟩ := q
  obtain ⟨a, ls, ys, rfl, ha, ry, e⟩ := lsOf_ok rel r e
  obtain ⟨bs, e1, rfl, rfl⟩ := optV_ok e
  have := blsOf_ok e1 ry
  subst this
  exact cr_any hc pins s σ H _ us Q I rv ⟨a, bs, rfl, SqL.of ha, po.now rel (.bl _)⟩
theorem c_sum (hc : X.calm = true) : CD cl X (.builtin "sum") sumD := by
  intro pins s σ H xs us Q I rv q
  obtain ⟨W, h, ds, v', h', rel, r, e, po⟩ := q
  obtain ⟨a, ls, ys, rfl, ha, ry, e⟩ := lsOf_ok rel r e
  obtain ⟨bs, e1, rfl, rfl⟩ := optV_ok e
  have := intsOf_ok e1 ry
  subst this
  exact cr_sum hc pins s σ H _ us Q I rv ⟨a, bs, rfl, SqL.of ha, by rw [sumI_eq]; exact po.now rel (.int _)⟩
/-- list(xs), tuple(xs) of a list, a tuple -/
def listD (ds : List DV) : M DV := match ds with
  | [d] => bnd (itsD d) fun xs => lstD xs
  | _ => stk
theorem c_list : CD cl X (.type "list") listD := by
  intro pins s σ H xs us Q I rv q
  obtain ⟨W, h, ds, v', h', rel, r, e, po⟩ := q
  unfold listD at e
  split at e
  · obtain ⟨x, rfl, r1⟩ := r.one
    obtain ⟨l, h1, e1, e2⟩ := bnd_ok e
    obtain ⟨rfl, a, ys, rfl, sq, ry⟩ := itsD_ok rel r1 e1
    obtain ⟨z, e2⟩ := fit_if e2
    cases e2
    exact call_list_of pins s σ H _ us Q I rv ⟨a, ys, rfl, sq, fun p hp => po_lst po rel ry p hp⟩
  · cases e
def tupleD (ds : List DV) : M DV := match ds with
  | [.ref n] => bnd (lsAt n) fun xs => ret (.tup xs)
  | [.tup xs] => ret (.tup xs)
  | _ => stk
theorem c_tuple : CD cl X (.type "tuple") tupleD := by
  intro pins s σ H xs us Q I rv q
  obtain ⟨W, h, ds, v', h', rel, r, e, po⟩ := q
  unfold tupleD at e
  split at e
  · obtain ⟨x, rfl, r1⟩ := r.one
    cases r1 with
    | ref hn =>
      obtain ⟨l, h1, e1, e2⟩ := bnd_ok e
      obtain ⟨rfl, q⟩ := lsAt_ok e1
      obtain ⟨_, ys, hy, ry⟩ := rel.lst q hn
      cases e2
      exact call_tuple_of pins s σ H _ us Q I rv ⟨_, ys, rfl, .inl ⟨SqL.of hy, fun p hp => po_tup po rel ry p hp⟩⟩
  · obtain ⟨x, rfl, r1⟩ := r.one
    cases r1 with
    | tup f t =>
      cases e
      exact call_tuple_of pins s σ H _ us Q I rv ⟨_, _, rfl, .inr ⟨f.sq, po.now rel (.tup f t)⟩⟩
  · cases e
end
end D
set_option Elab.async false
set_option linter.all false
/-! S0: set(xs) of a list of ints, as a set that can be walked. -/
namespace DS
open PySem PySem.Spec PyProof.Rows PyProof L2
abbrev nuSet (w : World) : Obj := { cls := .type "set", dict := none, data := .set #[] 0 (.fresh 0 0 (!w.params.followText "set-order")) }
section
variable {P : Program} {w : World} {A : Around} {E : Value → Shared → Prop} {s : Shared}
set_option maxRecDepth 100000 in
set_option maxHeartbeats 3200000 in
theorem call_set_lstI {l : Addr} {zs : Array Value} (ns : List Int) {Q : Value → Shared → Prop} (hh : A.handled = none) (hl : s.heap.IsList l zs) (hit : IntsAre zs.toList ns) (hb : ns.length + 1 < scanBound)
    (h : ∀ (h' : Heap) (tk c : Nat), SetR w h' s.heap.objs.size (fun j => decide (j ∈ ns)) c → c ≤ ns.length → (∀ b o, s.heap.get? b = some o → h'.get? b = some o) → Q (.ref s.heap.objs.size) { s with heap := h', toks := tk }) :
    wpAny (model P w) A (call (.type "set") [.ref l]) Q E s := by
  have hez : zs.size = ns.length := by
    have q := IntsAre.length hit
    rw [Array.length_toList] at q
    exact q
  obtain ⟨c, tl, hro⟩ := F.called_set.mro
  have hma := F.called_set.made
  have hsu := F.called_set.sub
  refine wpAny_call (codeAny_of_tree ?_)
  show wpAny _ _ (callAny (.type "set") _) _ _ _
  refine wpAny_pure ⟨Code.quiet_builtin _ (by decide +kernel), codeAny_builtin F.entry_type_call ?_⟩
  rw [Around.under_plain (weight_type_call_type "set" [.ref l] []) rfl]
  have g1 := F.called_set.notType
  have g2 := F.called_set.canCreate
  have hcq := F.typeCall_set_1 (.ref l)
  repeat (any_goals (first | assumption | wp_step))

  refine codeAny_mono (code_set_led1 (.ref l) (E := E) (Q₁ := fun obj s₁ => obj = .ref s.heap.objs.size ∧ s₁ = { s with heap := s.heap.push (nuSet w) }) ⟨rfl, rfl⟩) fun r s₁ hr => ?_
  cases r with
  | error e => exact hr
  | ok fl =>
    cases fl with
    | ret obj =>
      obtain ⟨rfl, rfl⟩ := hr
      have hS : (s.heap.push (nuSet w)).get? s.heap.objs.size = some (nuSet w) := Heap.get?_push_size _ rfl
      have hT : Shared.TypeIs { s with heap := s.heap.push (nuSet w) } (.ref s.heap.objs.size) "set" := ⟨_, hS, rfl⟩
      have hlq := F.called_set.init.lookup
      have hbq := F.called_set.init.bind (.ref s.heap.objs.size)
      repeat (any_goals (first | assumption | wp_step))

      refine codeAny_mono (codeAny_call_builtin (R := wants (fun r s₂ => r = .none ∧ ∃ h' tk c, s₂ = { s with heap := h', toks := tk } ∧ SetR w h' s.heap.objs.size (fun j => decide (j ∈ ns)) c ∧ c ≤ ns.length ∧
          (∀ b o, s.heap.get? b = some o → h'.get? b = some o)) E) F.called_set.init.plain F.entry_set_init (check_set_init_1 hT ?_)) fun r₂ s₂ hr₂ => ?_
      · obtain ⟨ol, hov, hcv, nl, hdv⟩ := hl
        obtain ⟨oc, od, oda, osl⟩ := ol
        simp only at hcv hdv
        subst hcv; subst hdv
        have hov' : (s.heap.push (nuSet w)).get? l = some { cls := .type "list", dict := od, data := .seq zs nl, slots := osl } := Heap.get?_push_of_some _ hov
        have hq1 := F.sub_list_set
        have hq2 := F.sub_list_frozenset
        have hne : (Value.type "list" == Value.type "dict") = false := by decide
        have hl1 : (s.heap.push (nuSet w)).IsList l zs := ⟨_, hov', rfl, nl, rfl⟩
        unfold Builtin.«set.__init__» noKeywords Builtin.Frozenset.updateFrom
        generalize hqI : pyIter = PI
        wp_walk
        subst hqI

        refine wpAny_pyIter_list hl1 ?_
        refine wpAny_bind (wpAny_runValue ?_)
        have hlq2 : l < s.heap.objs.size := Heap.lt_size hov
        have hhq : A.in1.in1.in1.handled = none := by simp [hh]
        have hzq : (s.heap.push (nuSet w)).objs.size = s.heap.objs.size + 1 := Heap.size_push ..
        have hnq : l ≠ (s.heap.push (nuSet w)).objs.size := by
          rw [Heap.size_push]; exact Nat.ne_of_lt (Nat.lt_succ_of_lt hlq2)
        have hsf : s.heap.objs.size ∉ [(s.heap.push (nuSet w)).objs.size, l] := by
          rw [Heap.size_push]; simp only [List.mem_cons, List.mem_singleton, List.not_mem_nil, or_false, not_or]
          exact ⟨Nat.ne_of_lt (Nat.lt_succ_self _), Nat.ne_of_gt hlq2⟩
        have hvq : ∀ (i : Nat) (v : Value), zs[i]? = some v → ∃ k t, ns[i]? = some k ∧ v = .int k t := fun i v hv => by
          have hi : i < ns.length := by rw [← hez]; exact (Array.getElem?_eq_some_iff.mp hv).1
          obtain ⟨t, e⟩ := PyProof.Rows.IntsAre.int_at hit i v (by rw [Array.getElem?_toList]; exact hv)
          refine ⟨ns[i], t, List.getElem?_eq_getElem hi, ?_⟩
          rw [e, List.getD_eq_getElem?_getD, List.getElem?_eq_getElem hi] <;> rfl
        refine set_update_ints ((Walks.list hhq _ l hnq zs).toS) s.heap.objs.size
          hsf ns hez hb hvq (zs.size - 0) 0 _ (by omega) (Nat.zero_le _)
          ⟨⟨_, Heap.get?_push_size _ rfl, rfl, rfl⟩, (hl1.push _)⟩ ?hS0 ?hR
        case hS0 =>
          have hgq : ((s.heap.push (nuSet w)).push { cls := .type "list_iterator", data := .fields #[.ref l, .int 0 0] }).get? s.heap.objs.size
              = some (nuSet w) := Heap.get?_push_of_some _ hS
          exact ⟨0, Nat.le_refl 0, setR_new_at hgq⟩
        case hR =>
          intro s' c' hm hc' hS'
          obtain ⟨h', gg, d', tk', os'⟩ := s'
          have eg : gg = s.gens := hm.gens
          have ed : d' = s.drawn := hm.drawn
          have eo : os' = s.os := hm.os
          subst eg; subst ed; subst eo
          show wpAny _ _ _ _ _ _
          refine wpAny_pure ?_
          show wpAny _ _ (ret Value.none) _ _ _
          rw [hez] at hc'
          refine wpAny_pure ⟨rfl, h', tk', c', rfl, hS', hc', fun b o e => ?_⟩
          have k0 : b < s.heap.objs.size := Heap.lt_size e
          have k1 : b ≠ s.heap.objs.size := Nat.ne_of_lt k0
          have k2 : b ≠ (s.heap.push (nuSet w)).objs.size := by
            rw [Heap.size_push]; exact Nat.ne_of_lt (Nat.lt_succ_of_lt k0)
          exact hm.heap b o (by simp only [List.mem_cons, List.mem_singleton, List.not_mem_nil, or_false, not_or]; exact ⟨k1, k2⟩) (Heap.get?_push_of_some _ (Heap.get?_push_of_some _ e))
      · cases r₂ with
        | error e => exact hr₂
        | ok fm =>
          cases fm with
          | ret r =>
            obtain ⟨rfl, h', tk, c', rfl, hZ, hY, hX⟩ := hr₂
            repeat (any_goals (first | assumption | wp_step))
            exact h _ _ _ hZ hY hX
          | _ => exact hr₂.elim
    | _ => exact hr.elim
end
end DS
set_option Elab.async false
set_option linter.all false
set_option maxRecDepth 100000
set_option maxHeartbeats 2000000
/-! D6: more builtins: sorted(set(ints)), methods, in, subscripts. -/
namespace D
open PySem PySem.Spec PyProof.Rows L2 SlX
section
variable {K : PySem.W.Frag} {cl : Cl} {W W1 : Wd} {H H1 : Hp} {h h' : Hs} {X : Cx} {pos : Pos}
/-! ### sorted(set(ints)) -/
/-- put into a rising list; what is there stays once -/
def insI (i : Int) : List Int → List Int
  | [] => [i]
  | j :: t => if i < j then i :: j :: t else if i = j then j :: t else j :: insI i t
def setI : List Int → List Int
  | [] => []
  | i :: t => insI i (setI t)
theorem mem_insI (i k : Int) : ∀ l, k ∈ insI i l ↔ k = i ∨ k ∈ l
  | [] => by simp [insI]
  | j :: t => by
    unfold insI
    split
    · simp
    · split
      · rename_i e; subst e; simp
      · rw [List.mem_cons, mem_insI i k t, List.mem_cons]
        constructor
        · rintro (a | a | a)
          · exact .inr (.inl a)
          · exact .inl a
          · exact .inr (.inr a)
        · rintro (a | a | a)
          · exact .inr (.inl a)
          · exact .inl a
          · exact .inr (.inr a)
theorem mem_setI (k : Int) : ∀ l, k ∈ setI l ↔ k ∈ l
  | [] => Iff.rfl
  | i :: t => by
    show k ∈ insI i (setI t) ↔ _
    rw [mem_insI, mem_setI k t, List.mem_cons]
theorem rise_insI (i : Int) : ∀ l : List Int, l.Pairwise (· < ·) → (insI i l).Pairwise (· < ·)
  | [], _ => by simp [insI]
  | j :: t, q => by
    have ⟨q1, q2⟩ := List.pairwise_cons.mp q
    unfold insI
    split
    · rename_i e
      refine List.pairwise_cons.mpr ⟨fun k hk => ?_, q⟩
      rcases List.mem_cons.mp hk with z | z
      · omega
      · have := q1 k z; omega
    · split
      · exact q
      · refine List.pairwise_cons.mpr ⟨fun k hk => ?_, rise_insI i t q2⟩
        rcases (mem_insI i k t).mp hk with z | z
        · omega
        · exact q1 k z
theorem rise_setI : ∀ l : List Int, (setI l).Pairwise (· < ·)
  | [] => List.Pairwise.nil
  | i :: t => rise_insI i _ (rise_setI t)
theorem rise_one : ∀ {l m : List Int}, l.Pairwise (· < ·) → m.Pairwise (· < ·) → (∀ k, k ∈ l ↔ k ∈ m) → l = m
  | [], [], _, _, _ => rfl
  | [], b :: m, _, _, h => by have := (h b).2 (List.mem_cons_self ..); cases this
  | a :: l, [], _, _, h => by have := (h a).1 (List.mem_cons_self ..); cases this
  | a :: l, b :: m, p, q, h => by
    have ⟨p1, p2⟩ := List.pairwise_cons.mp p
    have ⟨q1, q2⟩ := List.pairwise_cons.mp q
    have ab : a = b := by
      rcases List.mem_cons.mp ((h a).1 (List.mem_cons_self ..)) with z | z
      · exact z
      · rcases List.mem_cons.mp ((h b).2 (List.mem_cons_self ..)) with y | y
        · exact y.symm
        · have := q1 a z; have := p1 b y; omega
    subst ab
    have : l = m := rise_one p2 q2 fun k => by
      constructor
      · intro z
        rcases List.mem_cons.mp ((h k).1 (List.mem_cons_of_mem _ z)) with y | y
        · subst y; have := p1 k z; omega
        · exact y
      · intro z
        rcases List.mem_cons.mp ((h k).2 (List.mem_cons_of_mem _ z)) with y | y
        · subst y; have := q1 k z; omega
        · exact y
    rw [this]
def rSetI (K : PySem.W.Frag) (w : World) : List V → Hp → VK → Prop := fun xs H Q => ∃ (l : Addr) (ns : List Int), xs = [V.ref l] ∧ SqL K H l (ns.map V.int) ∧ ns.length < 64 ∧ ∀ p c, c ≤ ns.length → H p = none → Q (.ref p) (upd H p (SetO w p (fun j => decide (j ∈ ns)) c))
theorem cr_setI (hc : X.calm = true) : CallR X (.type "set") (rSetI X.K X.w) := by
  intro pins s σ H xs us Q I r h
  obtain ⟨l, ns, rfl, hl, hf, q⟩ := h
  rw [Vals.ref1 r]
  obtain ⟨its, rv, pl, hz⟩ := I.list hl
  have hn : H s.heap.objs.size = none := I.hok.fresh (Nat.le_refl _)
  refine DS.call_set_lstI (P := X.prog) (w := X.w) ns (I.ok.hd hc) pl.isList (by simpa using ints_of_vals rv) (by unfold scanBound; omega) fun h' tk c R hc k => ?_
  exact ⟨.ref s.heap.objs.size, _, I.laid (t' := tk) k (Nat.le_refl _) (setO_new R), rfl, q _ c hc hn⟩
def lstOf (d : DV) : M (List DV) := match d with
  | .ref n => lsAt n
  | .scr ns => ret (ns.map .int)
  | _ => stk
theorem lstOf_ok {d : DV} {x : V} {ds : List DV} (rel : HRel K cl W h H) (r : RV K cl W H d x) (e : lstOf d h = .ok ds h') : h' = h ∧ ∃ a xs, x = .ref a ∧ SqL K H a xs ∧ RVs K cl W H ds xs := by
  cases r <;> first | (cases e; done) | skip
  · rename_i n a dx hn
    obtain ⟨rfl, q⟩ := lsAt_ok e
    obtain ⟨_, xs, hx, rx⟩ := rel.lst q hn
    exact ⟨rfl, a, xs, rfl, SqL.of hx, rx⟩
  · cases e
    exact ⟨rfl, _, _, rfl, FzL.sq (by assumption), rvs_ints _⟩
def sortSetD (d : DV) : M DV := bnd (lstOf d) fun ds => match intsOf ds with
  | some ns => if Nat.blt ns.length 64 then lstD ((setI ns).map .int) else stk
  | none => stk
/-- sorted(set(xs)), xs a list of fewer than 64 ints -/
theorem de_sortSet {a : Expr} {m : Ex} {p p2 q : Pos} (hc : X.calm = true) (hg : Gl X "sorted") (hm : X.mg "sorted" = none) (hg2 : Gl X "set") (hm2 : X.mg "set" = none) (ha : DE cl X a m)
    (na : starEach [a] X.env = [(false, eval a X.env)] := by rfl) (nb : starEach [.Call (.Name "set" p2) [a] [] q] X.env = [(false, eval (.Call (.Name "set" p2) [a] [] q) X.env)] := by rfl) :
    DE cl X (.Call (.Name "sorted" p) [.Call (.Name "set" p2) [a] [] q] [] pos) (eUn sortSetD m) := by
  have hS : PE X (.Call (.Name "set" p2) [a] [] q) _ := pe_callTy (cr_setI hc) hg2 hm2 PyProof.Rows.boot_set (pa_cons ha pa_nil na) (by decide) (by decide) na (by rfl)
  have hT : PE X (.Call (.Name "sorted" p) [.Call (.Name "set" p2) [a] [] q] [] pos) _ := pe_callB (cr_sortedSet hc) hg hm boot_sorted (pa_cons hS pa_nil nb) (by decide) (by decide) nb (by rfl)
  refine hT.mono fun σ H Q z => ?_
  obtain ⟨W, h, sl, v, h', rel, rs, e, po⟩ := z
  obtain ⟨d, h1, e1, e2⟩ := bnd_ok e
  refine ⟨W, h, sl, d, h1, rel, rs, e1, fun W1 H1 x ext rel1 rv => ?_⟩
  obtain ⟨ds, h2, e3, e4⟩ := bnd_ok e2
  obtain ⟨rfl, a', xs, rfl, sq, rx⟩ := lstOf_ok rel1 rv e3
  cases z : intsOf ds with
  | none => rw [z] at e4; cases e4
  | some ns =>
    rw [z] at e4
    have ix := intsOf_ok z rx
    subst ix
    obtain ⟨hlt, e4⟩ := if_ok e4
    have hlt := Nat.blt_eq.mp hlt
    obtain ⟨zf, e4⟩ := fit_if e4
    cases e4
    refine ⟨a', ns, rfl, sq, hlt, fun p1 c hcn hp1 => ?_⟩
    refine ⟨p1, _, c, rfl, upd_same, by omega, fun ks p2 hk1 hk2 hk3 hp2 => ?_⟩
    have : ks = setI ns := rise_one hk1 (rise_setI ns) fun k => by
      rw [hk2 k, mem_setI, decide_eq_true_eq]
    subst this
    have ext1 := ext_new (o := SetO X.w p1 (fun j => decide (j ∈ ns)) c) hp1 rel1
    exact po_lst (po.go (ext.trans ext1)) (rel1.new hp1) (rvs_ints _) p2 hp2
/-! ### methods -/
/-- a method of a builtin type: the receiver, the rest -/
def rMD (K : PySem.W.Frag) (cl : Cl) (g : DV → List DV → M DV) : V → List V → Hp → VK → Prop := fun x xs H Q => ∃ W h d ds v h', HRel K cl W h H ∧ RV K cl W H d x ∧ RVs K cl W H ds xs ∧ g d ds h = .ok v h' ∧ Po K cl W H h' v Q
abbrev MD (cl : Cl) (X : Cx) (id : String) (g : DV → List DV → M DV) : Prop := MtR X id (rMD X.K cl g)
def strOf (d : DV) : M DV := match d with
  | .str s => ret (.str s)
  | _ => stk
def lstIs (d : DV) : M DV := match d with
  | .ref n => bnd (lsAt n) fun _ => ret (.ref n)
  | _ => stk
/-- o.m(e), o a text -/
def eM1 (g : DV → List DV → M DV) (mo me : Ex) : Ex := fun sl => bnd (mo sl) fun d => bnd (strOf d) fun d => bnd (me sl) fun y => g d [y]
def eM0 (g : DV → List DV → M DV) (mo : Ex) : Ex := fun sl => bnd (mo sl) fun d => bnd (strOf d) fun d => g d []
/-- o.m(es), o a list -/
def eML (g : DV → List DV → M DV) (mo : Ex) (ms : Exs) : Ex := fun sl => bnd (mo sl) fun d => bnd (lstIs d) fun d => bnd (ms sl) fun ys => g d ys
variable {o e : Expr} {es : List Expr} {mo me : Ex} {ms : Exs} {name : Str} {apos : Pos} {id : String} {g : DV → List DV → M DV}
theorem strOf_ok {d d' : DV} (e : strOf d h = .ok d' h') : d' = d ∧ h' = h ∧ ∃ s, d = .str s := by
  cases d <;> first | (cases e; done) | skip
  cases e
  exact ⟨rfl, rfl, _, rfl⟩
theorem lstIs_ok {d d' : DV} (e : lstIs d h = .ok d' h') : d' = d ∧ h' = h ∧ ∃ n ds, d = .ref n ∧ h[n]? = some (.lst ds) := by
  cases d <;> first | (cases e; done) | skip
  obtain ⟨l, h1, e1, e2⟩ := bnd_ok e
  obtain ⟨rfl, q⟩ := lsAt_ok e1
  cases e2
  exact ⟨rfl, rfl, _, _, rfl, q⟩
theorem de_m1 (slot : PySem.Slot "str" name id) (ty : typeOf (.builtin id) = pure (.type "method_descriptor")) (hm : MD cl X id g) (ho : DE cl X o mo) (he : DE cl X e me)
    (hs : starEach [e] X.env = [(false, eval e X.env)] := by rfl) (hbase : attributeBase o name X.env (eval o X.env) = eval o X.env := by rfl) (hline : (apos.endLine == pos.line) = true := by rfl) :
    DE cl X (.Call (.Attribute o name apos) [e] [] pos) (eM1 g mo me) := (pe_m1 slot ty hm ho he hs hbase hline).mono fun σ H Q q => by
  obtain ⟨W, h, sl, v, h', rel, rs, e, po⟩ := q
  obtain ⟨d, h1, e1, e2⟩ := bnd_ok e
  obtain ⟨d', h2, e3, e4⟩ := bnd_ok e2
  obtain ⟨rfl, rfl, s, rfl⟩ := strOf_ok e3
  obtain ⟨y, h3, e5, e6⟩ := bnd_ok e4
  refine ⟨W, h, sl, _, _, rel, rs, e1, fun W1 H1 x ext rel1 rv => ?_⟩
  have hx : ∃ a, x = .str a := by cases rv; exact ⟨_, rfl⟩
  exact ⟨hx, W1, _, sl, y, _, rel1, rs.mono ext, e5, fun W2 H2 z ext2 rel2 rv2 => ⟨W2, _, _, _, v, h', rel2, rv.mono ext2, .cons rv2 .nil, e6, po.go (ext.trans ext2)⟩⟩
theorem de_m0 (slot : PySem.Slot "str" name id) (ty : typeOf (.builtin id) = pure (.type "method_descriptor")) (hm : MD cl X id g) (ho : DE cl X o mo)
    (hbase : attributeBase o name X.env (eval o X.env) = eval o X.env := by rfl) (hline : (apos.endLine == pos.line) = true := by rfl) :
    DE cl X (.Call (.Attribute o name apos) [] [] pos) (eM0 g mo) := (pe_m0 slot ty hm ho hbase hline).mono fun σ H Q q => by
  obtain ⟨W, h, sl, v, h', rel, rs, e, po⟩ := q
  obtain ⟨d, h1, e1, e2⟩ := bnd_ok e
  obtain ⟨d', h2, e3, e4⟩ := bnd_ok e2
  obtain ⟨rfl, rfl, s, rfl⟩ := strOf_ok e3
  refine ⟨W, h, sl, _, _, rel, rs, e1, fun W1 H1 x ext rel1 rv => ?_⟩
  have hx : ∃ a, x = .str a := by cases rv; exact ⟨_, rfl⟩
  exact ⟨hx, W1, _, _, _, v, h', rel1, rv, .nil, e4, po.go ext⟩
theorem de_mL (slot : PySem.Slot "list" name id) (hty : typeOf (.builtin id) = pure (.type "method_descriptor")) (hm : MD cl X id g) (ho : DE cl X o mo) (ha : DA cl X (e :: es) ms)
    (hbase : attributeBase o name X.env (eval o X.env) = eval o X.env := by rfl)
    (hfew : ((backTo pos (starEach (e :: es) X.env)).all (fun x => !x.1) && (backToKw pos (keywordEach [] X.env)).all (fun x => x.1.isSome)
      && decide ((e :: es).length + ([] : List Keyword).length + (if ([] : List Keyword).isEmpty then 0 else 1) < 30)) = true := by rfl)
    (hline : (apos.endLine == pos.line) = true := by rfl) (hs : starEach (e :: es) X.env = (false, eval e X.env) :: starEach es X.env := by rfl) (hplain : (backTo pos (starEach es X.env)).any (·.1) = false := by rfl) :
    DE cl X (.Call (.Attribute o name apos) (e :: es) [] pos) (eML g mo ms) := (pe_bm PySem.F.plainAttrs_list slot hty hm ho ha hbase hfew hline hs hplain).mono fun σ H Q q => by
  obtain ⟨W, h, sl, v, h', rel, rs, e, po⟩ := q
  obtain ⟨d, h1, e1, e2⟩ := bnd_ok e
  obtain ⟨d', h2, e3, e4⟩ := bnd_ok e2
  obtain ⟨rfl, rfl, n, ds0, rfl, hl⟩ := lstIs_ok e3
  obtain ⟨ys, h3, e5, e6⟩ := bnd_ok e4
  refine ⟨W, h, sl, _, _, rel, rs, e1, fun W1 H1 x ext rel1 rv => ?_⟩
  have hx : tyV X.K "list" x H1 := by
    cases rv with
    | ref hn =>
      obtain ⟨_, xs, hx, _⟩ := rel1.lst hl hn
      exact .inl ⟨rfl, xs, SqL.of hx⟩
  exact ⟨hx, W1, _, sl, ys, _, rel1, rs.mono ext, e5, fun W2 H2 z ext2 rel2 rv2 => ⟨W2, _, _, _, v, h', rel2, rv.mono ext2, rv2, e6, po.go (ext.trans ext2)⟩⟩
/-! texts -/
def preL : List Nat → List Nat → Bool
  | _, [] => true
  | [], _ :: _ => false
  | c :: s, d :: t => Nat.beq c d && preL s t
theorem preL_eq : ∀ s t : List Nat, preL s t = (decide (t.length ≤ s.length) && (s.take t.length == t))
  | s, [] => by cases s <;> simp [preL]
  | [], d :: t => by simp [preL]
  | c :: s, d :: t => by
    show (Nat.beq c d && preL s t) = _
    rw [preL_eq s t]
    have e1 : decide ((d :: t).length ≤ (c :: s).length) = decide (t.length ≤ s.length) := by simp
    have e2 : ((c :: s).take (d :: t).length == d :: t) = ((c == d) && (s.take t.length == t)) := rfl
    have e3 : Nat.beq c d = (c == d) := by
      rw [Bool.eq_iff_iff, Nat.beq_eq, beq_iff_eq]
    rw [e1, e2, e3]
    cases (c == d) <;> cases (decide (t.length ≤ s.length)) <;> rfl
theorem pre_sub (s t : List Nat) : (decide (0 + (SX.S t).length ≤ (SX.S s).length) && Builtin.Str.subAt (SX.S s) (SX.S t) 0) = preL s t := by
  rw [preL_eq, PySem.StrLaws.subAt_eq, SX.S_len, SX.S_len, Nat.zero_add]
  all_goals rfl
def startsD (d : DV) (ds : List DV) : M DV := match d, ds with
  | .str s, [.str t] => ret (.bl (preL s t))
  | _, _ => stk
theorem m_startswith : MD cl X "str.startswith" startsD := by
  intro pins s σ H x xs v us Q I rx rs q
  obtain ⟨W, h, d, ds, v', h', rel, r1, r2, e, po⟩ := q
  unfold startsD at e
  split at e
  · obtain ⟨y, rfl, r3⟩ := r2.one
    cases r1
    cases r3
    cases e
    rename_i a b
    refine mt_startswith pins s σ H _ _ v us Q I rx rs ⟨SX.S a, SX.S b, rfl, rfl, ?_⟩
    show Q (.bl (decide (0 + (SX.S b).length ≤ (SX.S a).length) && Builtin.Str.subAt (SX.S a) (SX.S b) 0)) H
    rw [pre_sub]
    exact po.now rel (.bl _)
  · cases e
def rmpreD (d : DV) (ds : List DV) : M DV := match d, ds with
  | .str s, [.str t] => if fits s.length then ret (.str (if preL s t then s.drop t.length else s)) else stk
  | _, _ => stk
theorem m_removeprefix : MD cl X "str.removeprefix" rmpreD := by
  intro pins s σ H x xs v us Q I rx rs q
  obtain ⟨W, h, d, ds, v', h', rel, r1, r2, e, po⟩ := q
  unfold rmpreD at e
  split at e
  · obtain ⟨y, rfl, r3⟩ := r2.one
    obtain ⟨z, e⟩ := fit_if e
    cases r1
    cases r3
    cases e
    rename_i a b
    refine mt_removeprefix pins s σ H _ _ v us Q I rx rs ⟨SX.S a, SX.S b, rfl, rfl, by rw [SX.S_len]; exact z, ?_⟩
    have e2 : Txt.removeprefix (SX.S a) (SX.S b) = SX.S (if preL a b then a.drop b.length else a) := by
      rw [PySem.StrLaws.removeprefix_eq, pre_sub]
      cases preL a b with
      | false => rfl
      | true =>
        rw [if_pos rfl, if_pos rfl, SX.S_len, SX.S_len]
        have : ((SX.S a).cps.toList.drop b.length).take (a.length - b.length) = a.drop b.length := by
          rw [S_tl, List.take_of_length_le (by rw [List.length_drop]; omega)]
        rw [this]
    rw [e2]
    exact po.now rel (.str _)
  · cases e
def strsOf : List DV → Option (List (List Nat))
  | [] => some []
  | .str s :: t => (strsOf t).map (s :: ·)
  | _ => none
theorem strsOf_ok : ∀ {ds : List DV} {bs : List (List Nat)} {xs : List V}, strsOf ds = some bs → RVs K cl W H ds xs → xs = (bs.map SX.S).map V.str
  | [], bs, xs, e, r => by cases e; cases r; rfl
  | d :: t, bs, xs, e, r => by
    cases r with
    | cons r1 r2 =>
      cases r1 <;> first | (cases e; done) | skip
      obtain ⟨cs, e1, e2⟩ := Option.map_eq_some_iff.mp (show (strsOf t).map _ = some bs from e)
      subst e2
      rw [strsOf_ok e1 r2]; rfl
def sumN : List (List Nat) → Nat
  | [] => 0
  | s :: t => s.length + sumN t
theorem sumN_eq : ∀ l : List (List Nat), ((l.map SX.S).map (·.length)).sum = sumN l
  | [] => rfl
  | s :: t => by rw [List.map_cons, List.map_cons, List.sum_cons, sumN_eq t, SX.S_len]; rfl
def joinD (d : DV) (ds : List DV) : M DV := match d, ds with
  | .str s, [x] => bnd (itsD x) fun ls => match strsOf ls with
    | some ps => if fits (sumN ps + ps.length * s.length) then ret (.str (TL.joinL s ps)) else stk
    | none => stk
  | _, _ => stk
theorem m_join : MD cl X "str.join" joinD := by
  intro pins s σ H x xs v us Q I rx rs q
  obtain ⟨W, h, d, ds, v', h', rel, r1, r2, e, po⟩ := q
  unfold joinD at e
  split at e
  · obtain ⟨y, rfl, r3⟩ := r2.one
    obtain ⟨ls, h1, e1, e2⟩ := bnd_ok e
    obtain ⟨rfl, a, ys, rfl, sq, ry⟩ := itsD_ok rel r3 e1
    cases z : strsOf ls with
    | none => rw [z] at e2; cases e2
    | some ps =>
      rw [z] at e2
      obtain ⟨zf, e2⟩ := fit_if e2
      cases e2
      cases r1
      have := strsOf_ok z ry
      subst this
      refine mt_join pins s σ H _ _ v us Q I rx rs ⟨_, a, _, rfl, rfl, sq, ?_, ?_⟩
      · rw [sumN_eq, SX.S_len, List.length_map]; exact zf
      · rw [SX.join_S]; exact po.now rel (.str _)
  · cases e
/-! lists -/
theorem ref_wr {n : Nat} {a dx : Addr} {ds es : List DV} {ys : List V} (rel : HRel K cl W h H) (e : h[n]? = some (.lst ds)) (hn : W.ρ[n]? = some (a, dx)) (r : RVs K cl W H es ys) :
    Ext W H W (upd H a (.lst ys)) ∧ HRel K cl W (h.set n (.lst es)) (upd H a (.lst ys)) := by
  obtain ⟨nf, xs, hx, rx⟩ := rel.lst e hn
  exact ⟨ext_wr nf, rel.wr hn nf hx (.inl ⟨_, rfl⟩) (fun _ _ z => by cases z) ⟨nf, ys, upd_same, r.mono (ext_wr nf)⟩⟩
def appendD (d : DV) (ds : List DV) : M DV := match d, ds with
  | .ref n, [y] => bnd (lsAt n) fun xs => if Nat.blt xs.length 16777216 then fun h => .ok .non (h.set n (.lst (xs ++ [y]))) else stk
  | _, _ => stk
theorem m_append : MD cl X "list.append" appendD := by
  intro pins s σ H x xs v us Q I rx rs q
  obtain ⟨W, h, d, ds, v', h', rel, r1, r2, e, po⟩ := q
  unfold appendD at e
  split at e
  · obtain ⟨y, rfl, r3⟩ := r2.one
    obtain ⟨ls, h1, e1, e2⟩ := bnd_ok e
    obtain ⟨rfl, q⟩ := lsAt_ok e1
    obtain ⟨z, e2⟩ := if_ok e2
    cases e2
    cases r1 with
    | ref hn =>
      obtain ⟨nf, ys, hy, ry⟩ := rel.lst q hn
      obtain ⟨ex, rel2⟩ := ref_wr rel q hn (ry.append (.cons r3 .nil))
      exact mt_append pins s σ H _ _ v us Q I rx rs ⟨_, ys, y, rfl, rfl, hy, by rw [← ry.length, sizeLine_eq]; exact Nat.blt_eq.mp z, po W _ .non ex rel2 .non⟩
  · cases e
def popAtD (d : DV) (ds : List DV) : M DV := match d, ds with
  | .ref n, [.int i] => bnd (lsAt n) fun xs => if small i then bnd (optM (ixN xs.length i)) fun k => bnd (optM xs[k]?) fun y => fun h => .ok y (h.set n (.lst (xs.eraseIdx k))) else stk
  | _, _ => stk
theorem ixN_seq {i : Int} {n k : Nat} (e : ixN n i = some k) : seqIndex? i n = some k := by
  unfold ixN at e
  unfold seqIndex?
  split at e
  · split at e
    · cases e
      have hj : (if i < 0 then i + (n : Int) else i) = i := if_neg (by omega)
      simp only [hj]
      rw [if_pos (by simp; omega)]
    · cases e
  · split at e
    · cases e
      have hj : (if i < 0 then i + (n : Int) else i) = i + n := if_pos (by omega)
      simp only [hj]
      rw [if_pos (by simp; omega)]
    · cases e
theorem m_pop : MD cl X "list.pop" popAtD := by
  intro pins s σ H x xs v us Q I rx rs q
  obtain ⟨W, h, d, ds, v', h', rel, r1, r2, e, po⟩ := q
  unfold popAtD at e
  split at e
  · rename_i n i
    obtain ⟨y, rfl, r3⟩ := r2.one
    obtain ⟨ls, h1, e1, e2⟩ := bnd_ok e
    obtain ⟨rfl, q⟩ := lsAt_ok e1
    obtain ⟨z, e2⟩ := if_ok e2
    cases r3
    cases r1 with
    | ref hn =>
      obtain ⟨nf, ys, hy, ry⟩ := rel.lst q hn
      obtain ⟨k, h2, e3, e4⟩ := bnd_ok e2
      obtain ⟨hk, rfl⟩ := optM_ok e3
      obtain ⟨y, h3, e5, e6⟩ := bnd_ok e4
      obtain ⟨hyk, rfl⟩ := optM_ok e5
      cases e6
      obtain ⟨x2, hx2, rx2⟩ := ry.get hyk
      obtain ⟨ex, rel2⟩ := ref_wr rel q hn (ry.eraseIdx k)
      have sm := small_ok z
      exact mt_popAt pins s σ H _ _ v us Q I rx rs ⟨_, ys, i, k, x2, rfl, rfl, hy, by omega, by omega, by rw [← ry.length]; exact ixN_seq hk, hx2, po W _ x2 ex rel2 (rx2.mono ex)⟩
  · cases e
/-! ### subscripts -/
def itemD (x y : DV) : M DV := match x, y with
  | .str s, .int i => if fits s.length then optV (atI s i) fun c => .str [c] else stk
  | d, .int i => bnd (itsD d) fun xs => optM (atI xs i)
  | _, _ => stk
theorem RVs.atI {ds : List DV} {xs : List V} {i : Int} {d : DV} (r : RVs K cl W H ds xs) (e : L2.atI ds i = some d) : ∃ x, L2.atI xs i = some x ∧ RV K cl W H d x := by
  unfold L2.atI at e ⊢
  rw [← r.length]
  cases z : ixN ds.length i with
  | none => rw [z] at e; cases e
  | some k =>
    rw [z] at e
    exact r.get e
theorem x_item : IxR X (rD2 X.K cl itemD) := by
  intro value slice pins s σ H x y v u Q I rx ry q
  obtain ⟨W, h, d1, d2, v', h', rel, r1, r2, e, po⟩ := q
  unfold itemD at e
  split at e
  · obtain ⟨z, e⟩ := fit_if e
    cases r1
    cases r2
    obtain ⟨c, e1, rfl, rfl⟩ := optV_ok e
    exact ix_str value slice pins s σ H _ _ v u Q I rx ry ⟨_, _, c, rfl, rfl, by rw [SX.S_len]; exact z, e1, po.now rel (.str _)⟩
  · cases r2
    obtain ⟨ls, h1, e1, e2⟩ := bnd_ok e
    obtain ⟨rfl, a, ys, rfl, sq, ry'⟩ := itsD_ok rel r1 e1
    obtain ⟨hv2, rfl⟩ := optM_ok e2
    obtain ⟨x2, hx2, rx2⟩ := ry'.atI hv2
    rcases sq with sq | sq
    · exact ix_list value slice pins s σ H _ _ v u Q I rx ry ⟨a, ys, _, x2, rfl, rfl, sq, hx2, po.now rel rx2⟩
    · exact ix_tup value slice pins s σ H _ _ v u Q I rx ry ⟨a, ys, _, x2, rfl, rfl, sq, hx2, po.now rel rx2⟩
  · cases e
end
end D
set_option Elab.async false
set_option linter.all false
set_option maxRecDepth 100000
set_option maxHeartbeats 2000000
/-! Z0: zip(x, y) of lists, tuples, texts in any mix, walked. -/
namespace ZG
open PySem PySem.Spec PyProof.Rows L2
/-- a source: a list, a tuple, a text -/
inductive SK where
  | lst (a : Addr) | tup (a : Addr) | txt (z : PySem.Str) (t : Tok)
def SK.val : SK → Value
  | .lst a => .ref a
  | .tup a => .ref a
  | .txt z t => .str z t
def SK.fp (k : SK) (it : Addr) : List Addr := match k with
  | .lst a => [it, a]
  | .tup a => [it, a]
  | .txt _ _ => [it]
def SK.st (k : SK) (it : Addr) (i : Nat) (h : Heap) : Prop := match k with
  | .lst a => h.IsListIter it a i
  | .tup a => h.IsTupleIter it a i
  | .txt z t => h.IsStrIter it (strIterType z) z t i
def SK.its (K : PySem.W.Frag) (H : Hp) (k : SK) (xs : List V) : Prop := match k with
  | .lst a => SqL K H a xs
  | .tup a => SqT K H a xs
  | .txt z _ => xs = z.cps.toList.map fun c => V.str ⟨#[c]⟩
def SK.old (k : SK) (n : Nat) : Prop := match k with
  | .lst a => a < n
  | .tup a => a < n
  | .txt _ _ => True
theorem SK.obj {k : SK} {it i : Nat} {h : Heap} (x : k.st it i h) : ∃ o, h.get? it = some o ∧ ∀ v, o.data ≠ .cell v := by
  cases k <;> (obtain ⟨o, e, _, d⟩ := x; exact ⟨o, e, fun v q => by rw [d] at q; cases q⟩)
theorem SK.keep {k : SK} {it i : Nat} {h h' : Heap} (x : k.st it i h) (e : ∀ o, h.get? it = some o → h'.get? it = some o) : k.st it i h' := by
  cases k <;> (obtain ⟨o, q, r⟩ := x; exact ⟨o, e o q, r⟩)
section
variable {X : Cx} {pins : List (Addr × Obj)} {σ : L2.St} {H : Hp} {s : Shared} {A : Around}
theorem SK.inj (I : Inv X pins σ H s) {k : SK} {xs ys : List V} (h1 : k.its X.K H xs) (h2 : k.its X.K H ys) : xs = ys := by
  cases k with
  | lst a => exact I.list_inj h1 h2
  | tup a => exact I.tuple_inj h1 h2
  | txt z t => exact Eq.trans h1 (Eq.symm h2)
/-- what the source's iterator draws, as things stand -/
theorem SK.draw (I : Inv X pins σ H s) (hh : A.handled = none) (k : SK) (it : Addr) (hne : ∀ b ∈ (k.fp it).tail, b ≠ it) {xs : List V} (hx : k.its X.K H xs) :
    ∃ P St, Draws X.prog X.w A it (k.fp it) xs.length P St ∧ (∀ i, k.st it i s.heap → St i s.heap) ∧ (∀ i h, St i h → k.st it i h) ∧ ∀ i v x, P i v → xs[i]? = some x → RelV x v := by
  cases k with
  | lst a =>
    obtain ⟨its, rv, p, _⟩ := I.list hx
    have e : its.toArray.size = xs.length := by rw [List.size_toArray, ← rv.length]
    refine ⟨_, _, e ▸ Draws.list hh it a (hne a (by simp [SK.fp])) its.toArray, fun i q => ⟨q, p.isList⟩, fun i h q => q.1, fun i v x q hx => ?_⟩
    obtain ⟨u, hu, ru⟩ := rv.get hx
    have q : its.toArray[i]? = some v := q
    rw [show its.toArray[i]? = its[i]? by simp] at q
    rw [hu] at q
    rw [← Option.some.inj q]
    exact ru
  | tup a =>
    obtain ⟨its, rv, p, _⟩ := I.tuple hx
    have e : its.toArray.size = xs.length := by rw [List.size_toArray, ← rv.length]
    refine ⟨_, _, e ▸ Draws.tuple hh it a (hne a (by simp [SK.fp])) its.toArray, fun i q => ⟨q, p⟩, fun i h q => q.1, fun i v x q hx => ?_⟩
    obtain ⟨u, hu, ru⟩ := rv.get hx
    have q : its.toArray[i]? = some v := q
    rw [show its.toArray[i]? = its[i]? by simp] at q
    rw [hu] at q
    rw [← Option.some.inj q]
    exact ru
  | txt z t =>
    have hx : xs = z.cps.toList.map fun c => V.str ⟨#[c]⟩ := hx
    subst hx
    have e : z.cps.size = (z.cps.toList.map fun c => V.str ⟨#[c]⟩).length := by rw [List.length_map, Array.length_toList]
    refine ⟨_, _, e ▸ Draws.text hh it z t, fun i q => q, fun i h q => q, fun i v x q hx => ?_⟩
    obtain ⟨c, u, hc, rfl⟩ := q
    rw [List.getElem?_map, Array.getElem?_toList, hc] at hx
    cases hx
    exact ⟨u, rfl⟩
end
structure Sep (z TI TO i1 i2 : Addr) (k1 k2 : SK) : Prop where
  s : ZipSep2 z TI TO i1 i2 (k1.fp i1) (k2.fp i2)
  n1 : ∀ b ∈ (k1.fp i1).tail, b ≠ i1
  n2 : ∀ b ∈ (k2.fp i2).tail, b ≠ i2
/-- the two sources, the items in new pairs -/
def ItG (K : PySem.W.Frag) (k1 k2 : SK) : It :=
  ⟨fun i H => ∃ (xs ys : List V) (x y : V), k1.its K H xs ∧ k2.its K H ys ∧ xs[i]? = some x ∧ ys[i]? = some y,
    fun i H v H' => ∃ T x y, v = .ref T ∧ H T = none ∧ H' = upd H T (.tup [x, y]) ∧ (∀ xs, k1.its K H xs → xs[i]? = some x) ∧ ∀ ys, k2.its K H ys → ys[i]? = some y,
    fun i H => ∃ xs ys : List V, k1.its K H xs ∧ k2.its K H ys ∧ i ≤ xs.length ∧ i ≤ ys.length ∧ (i = xs.length ∨ i = ys.length)⟩
theorem turn_zipG {P : Program} {w : World} {K : PySem.W.Frag} {elts : List Expr} {kk : Nat} {tpos : Pos} {z TI TO i1 i2 : Addr} {k1 k2 : SK} (D : Sep z TI TO i1 i2 k1 k2) :
    Turn P w K (.Tuple elts kk tpos) (ItG K k1 k2) [z, TI, TO, i1, i2] z (fun i h => IsZip h z TI TO .none ∧ IsTupOf2 h TI (.ref i1) (.ref i2) ∧ (∃ x y, IsTupOf2 h TO x y) ∧ k1.st i1 i h ∧ k2.st i2 i h) where
  mem := by simp
  obj := fun i h st c hc => by
    obtain ⟨hz, hTI, ⟨x, y, hTO⟩, u1, u2⟩ := st
    have ec : c = z ∨ c = TI ∨ c = TO ∨ c = i1 ∨ c = i2 := by simpa using hc
    rcases ec with rfl | rfl | rfl | rfl | rfl
    · exact ⟨_, hz, fun v q => nomatch q⟩
    · exact ⟨_, hTI, fun v q => nomatch q⟩
    · exact ⟨_, hTO, fun v q => nomatch q⟩
    · exact SK.obj u1
    · exact SK.obj u2
  keep := fun i h h' st k => by
    obtain ⟨hz, hTI, ⟨x, y, hTO⟩, u1, u2⟩ := st
    exact ⟨k z (by simp) _ hz, k TI (by simp) _ hTI, ⟨x, y, k TO (by simp) _ hTO⟩, SK.keep u1 fun o q => k i1 (by simp) o q, SK.keep u2 fun o q => k i2 (by simp) o q⟩
  item := by
    intro X hP hw hK hc i pins s σ H E I hf st hg
    subst hP hw hK
    obtain ⟨hz, hTI, ⟨x0, y0, hTO⟩, u1, u2⟩ := st
    obtain ⟨xs, ys, x, y, qx, qy, hx, hy⟩ := hg
    have hh : X.A.in1.handled = none := I.ok.hd hc
    obtain ⟨P1, S1, D1, a1, b1, c1⟩ := SK.draw I hh k1 i1 D.n1 qx
    obtain ⟨P2, S2, D2, a2, b2, c2⟩ := SK.draw I hh k2 i2 D.n2 qy
    have l1 : i < xs.length := (List.getElem?_eq_some_iff.mp hx).1
    have l2 : i < ys.length := (List.getElem?_eq_some_iff.mp hy).1
    have hzl : z < s.heap.objs.size := Heap.lt_size hz
    refine wpAny_pyNext_zipD2_item D.s D1 D2 hz hTI hTO (a1 i u1) (a2 i u2) l1 l2 fun v1 v2 h' tk p1 p2 z' TO' t1' t2' hT hsz hk => ?_
    refine ⟨_, rfl, wpAny_letOwnedTupleGo_zip (s := { s with heap := h', toks := tk }) z' fun h'' z'' sb => ?_⟩
    have hT2 : h''.get? s.heap.objs.size = some { cls := .type "tuple", data := .seq #[v1, v2] } := (sb.2 _ (Nat.ne_of_gt hzl)).trans hT
    have new : ObjOk X.prog X.w (upd H s.heap.objs.size (.tup [x, y])) h'' s.heap.objs.size (.tup [x, y]) :=
      ⟨by show 2 ≤ sizeLine; decide, [v1, v2], .cons (c1 i v1 x p1 hx) (.cons (c2 i v2 y p2 hy) .nil), ⟨_, hT2, rfl, _, rfl⟩⟩
    have J : Inv X pins σ (upd H s.heap.objs.size (.tup [x, y])) { s with heap := h'', toks := tk } :=
      I.turnedNew (t' := tk) (ch := [z, TI, TO, i1, i2]) (fun c o nb q => (sb.2 c (fun e => nb (by simp [e]))).trans (hk c o (fun e => nb (by simp [e])) (fun e => nb (by simp [e])) (fun e => nb (by simp [e])) (fun e => nb (by simp [e])) q)) hf (Nat.le_refl _) new
    refine ⟨.ref s.heap.objs.size, _, J, rfl, ⟨_, x, y, rfl, I.hok.fresh (Nat.le_refl _), rfl, fun l hl => by rw [SK.inj I hl qx]; exact hx, fun l hl => by rw [SK.inj I hl qy]; exact hy⟩, ⟨z'', ?_, ⟨v1, v2, ?_⟩, ?_, ?_⟩, fun c hcm => ?_⟩
    · exact (sb.2 _ D.s.TIz).trans (hk _ _ D.s.TIz D.s.TITO D.s.TIi1 D.s.TIi2 hTI)
    · exact (sb.2 _ D.s.TOz).trans TO'
    · exact SK.keep (b1 _ _ t1') fun o q => (sb.2 _ D.s.zi1.symm).trans q
    · exact SK.keep (b2 _ _ t2') fun o q => (sb.2 _ D.s.zi2.symm).trans q
    · have hlt : c < s.heap.objs.size := by
        have ec : c = z ∨ c = TI ∨ c = TO ∨ c = i1 ∨ c = i2 := by simpa using hcm
        rcases ec with rfl | rfl | rfl | rfl | rfl
        · exact hzl
        · exact Heap.lt_size hTI
        · exact Heap.lt_size hTO
        · obtain ⟨_, e, _⟩ := SK.obj u1; exact Heap.lt_size e
        · obtain ⟨_, e, _⟩ := SK.obj u2; exact Heap.lt_size e
      rw [upd_ne (Nat.ne_of_lt hlt)]
      exact (hf c hcm).1
  done := by
    intro X hP hw hK hc i pins s σ H E I hf st hg
    subst hP hw hK
    obtain ⟨hz, hTI, ⟨x0, y0, hTO⟩, u1, u2⟩ := st
    obtain ⟨xs, ys, qx, qy, e1, e2, e3⟩ := hg
    have hh : X.A.in1.handled = none := I.ok.hd hc
    obtain ⟨P1, S1, D1, a1, b1, c1⟩ := SK.draw I hh k1 i1 D.n1 qx
    obtain ⟨P2, S2, D2, a2, b2, c2⟩ := SK.draw I hh k2 i2 D.n2 qy
    exact wpAny_pyNext_zipD2_end D.s D1 D2 hz hTI hTO (a1 i u1) (a2 i u2) e1 e2 e3 fun h' tk hk => ⟨rfl, I.turnedL (t' := tk) (ch := [z, TI, TO, i1, i2]) (fun c o nb q =>
      hk c o (fun e => nb (by simp [e])) (fun e => nb (by simp [e])) (fun e => nb (by simp [e])) (fun e => nb (by simp [e])) q) hf⟩
  self := fun A i s Q E st h => wpAny_pyIter_zip st.1 h
/-- iter of a source begins -/
def SK.o (k : SK) : Obj := match k with
  | .lst a => { cls := .type "list_iterator", data := .fields #[.ref a, .int 0 0] }
  | .tup a => { cls := .type "tuple_iterator", data := .fields #[.ref a, .int 0 0] }
  | .txt z t => { cls := .type (strIterType z), data := .fields #[.str z t, .int 0 0] }
theorem SK.begins {X : Cx} {pins : List (Addr × Obj)} {σ : L2.St} {H : Hp} {s : Shared} (I : Inv X pins σ H s) {k : SK} {xs : List V} (hx : k.its X.K H xs) : ∃ Hq : Heap → Prop, Begins k.val k.o Hq ∧ Hq s.heap ∧ k.old s.heap.objs.size := by
  cases k with
  | lst a =>
    obtain ⟨its, rv, p, _⟩ := I.list hx
    exact ⟨_, begins_list a its.toArray, p.isList, p.lt⟩
  | tup a =>
    obtain ⟨its, rv, p, _⟩ := I.tuple hx
    exact ⟨_, begins_tuple a its.toArray, p, p.lt⟩
  | txt z t => exact ⟨_, begins_text z t, True.intro, True.intro⟩
theorem SK.st0 {k : SK} {it : Addr} {h : Heap} (e : h.get? it = some k.o) : k.st it 0 h := by
  cases k <;> exact ⟨_, e, rfl, rfl⟩
theorem fp_at (k : SK) (it n : Nat) (o : k.old n) (b : Nat) (hb : b ∈ k.fp it) : b = it ∨ b < n := by
  cases k with
  | lst a =>
    have hb : b ∈ [it, a] := hb
    rcases List.mem_cons.mp hb with z | z
    · exact .inl z
    · rw [List.mem_singleton.mp z]; exact .inr o
  | tup a =>
    have hb : b ∈ [it, a] := hb
    rcases List.mem_cons.mp hb with z | z
    · exact .inl z
    · rw [List.mem_singleton.mp z]; exact .inr o
  | txt z t =>
    have hb : b ∈ [it] := hb
    exact .inl (List.mem_singleton.mp hb)
theorem fp_tl (k : SK) (it n : Nat) (o : k.old n) (b : Nat) (hb : b ∈ (k.fp it).tail) : b < n := by
  cases k with
  | lst a =>
    have hb : b ∈ [a] := hb
    rw [List.mem_singleton.mp hb]; exact o
  | tup a =>
    have hb : b ∈ [a] := hb
    rw [List.mem_singleton.mp hb]; exact o
  | txt z t => cases hb
theorem fp_me (k : SK) (it : Addr) : it ∈ k.fp it := by cases k <;> exact List.mem_cons_self ..
theorem sep_of (n : Nat) {k1 k2 : SK} (o1 : k1.old n) (o2 : k2.old n) : Sep (n + 4) (n + 2) (n + 3) n (n + 1) k1 k2 := by
  have ne : ∀ a b : Nat, ¬ a = b → (show Addr from a) ≠ (show Addr from b) := fun a b h => h
  have g1 := fp_at k1 n n o1
  have g2 := fp_at k2 (n + 1) n o2
  exact ⟨⟨ne _ _ (by omega), ne _ _ (by omega), ne _ _ (by omega), ne _ _ (by omega), fp_me _ _, fun q => (by rcases g1 (n + 4) q with z | z <;> omega), fun q => (by rcases g1 (n + 3) q with z | z <;> omega), ne _ _ (by omega), fp_me _ _,
    fun q => (by rcases g2 (n + 4) q with z | z <;> omega), fun q => (by rcases g2 (n + 3) q with z | z <;> omega), fun q => (by rcases g2 n q with z | z <;> omega), fun q => (by rcases g1 (n + 1) q with z | z <;> omega)⟩,
    fun b hb => ne b n (by have := fp_tl k1 n n o1 b hb; omega), fun b hb => ne b (n + 1) (by have := fp_tl k2 (n + 1) n o2 b hb; omega)⟩
/-- a value as a source -/
def SrcV (x : V) (v : Value) (k : SK) : Prop := RelV x v ∧ v = k.val
def iZipG (K : PySem.W.Frag) (ta : TA) : TI := fun σ H R => ta σ H fun vs H1 => ∃ x y, vs = [x, y] ∧ ∀ v u, RelV x v → RelV y u → ∃ k1 k2 xs ys, v = SK.val k1 ∧ u = SK.val k2 ∧ SK.its K H1 k1 xs ∧ SK.its K H1 k2 ys ∧ R (ItG K k1 k2) H1
theorem pi_zipG {X : Cx} {e e2 : Expr} {ta : TA} {p pos tpos : Pos} {elts : List Expr} {kk : Nat} (hg : Gl X "zip") (hm : X.mg "zip" = none) (ha : PA X [e, e2] ta)
    (hs : starEach [e, e2] X.env = (false, eval e X.env) :: starEach [e2] X.env := by rfl) (hpl : (backTo pos (starEach [e2] X.env)).any (·.1) = false := by rfl) :
    PI X (.Tuple elts kk tpos) (.Call (.Name "zip" p) [e, e2] [] pos) (iZipG X.K ta) := by
  refine ⟨fun pins s σ H R I h => ?_⟩
  refine Call_ (ld_blt I hg hm boot_zip (PyProof.Rows.callWith_type1 (thn (ha.run pos pins s σ H _ I h) fun us s1 ⟨vs, H1, I1, r1, q1⟩ => ?_) hs hpl))
  obtain ⟨x, y, ex, q1⟩ := q1
  subst ex
  cases r1 with
  | cons r rr =>
    cases rr with
    | cons r' rr =>
      cases rr
      obtain ⟨k1, k2, xs, ys, rfl, rfl, qx, qy, q⟩ := q1 _ _ r r'
      obtain ⟨Q1, B1, h1, o1⟩ := SK.begins I1 qx
      obtain ⟨Q2, B2, h2, o2⟩ := SK.begins I1 qy
      refine zip_begins2 B1 B2 h1 h2 fun h' hz hTI hTO g1 g2 hsz hk => wpAny_pyIter_zip hz ?_
      have I2 : Inv X pins σ H1 { s1 with heap := h' } := I1.kept (t' := s1.toks) hk
      refine ⟨s1.heap.objs.size + 4, [s1.heap.objs.size + 4, s1.heap.objs.size + 2, s1.heap.objs.size + 3, s1.heap.objs.size, s1.heap.objs.size + 1], _, _, H1, rfl, I2, turn_zipG (sep_of _ o1 o2), ⟨hz, hTI, ⟨_, _, hTO⟩, SK.st0 g1, SK.st0 g2⟩, fun c hcm => ?_, q⟩
      have ec : c = s1.heap.objs.size + 4 ∨ c = s1.heap.objs.size + 2 ∨ c = s1.heap.objs.size + 3 ∨ c = s1.heap.objs.size ∨ c = s1.heap.objs.size + 1 := by simpa using hcm
      have hle : s1.heap.objs.size ≤ c := by
        rcases ec with q | q | q | q | q <;> rw [q] <;> first | exact Nat.le_refl _ | exact Nat.le_add_right _ _
      exact I1.fpOk hle (I1.hok.fresh hle)
end ZG
set_option Elab.async false
set_option linter.all false
set_option maxRecDepth 100000
set_option maxHeartbeats 4000000
/-! Z1: list(zip(x, y)): the pairs are kept. -/
namespace ZG
open PySem
section
variable {prog : Program} {w : World} {A : Around} {E : Value → Shared → Prop} {s : Shared} {z TI TO i1 i2 : Addr} {fp1 fp2 : List Addr} {n1 n2 i : Nat} {P1 P2 : Nat → Value → Prop} {St1 St2 : Nat → Heap → Prop}
theorem held_item {T : Addr} {f : Bool} {oT : Obj} {Q : Value → Shared → Prop} (D : ZipSep2 z TI TO i1 i2 fp1 fp2) (D1 : Draws prog w A i1 fp1 n1 P1 St1) (D2 : Draws prog w A i2 fp2 n2 P2 St2)
    (hz : IsZipHeld s.heap z TI TO T f) (hT : s.heap.get? T = some oT) (hTI : IsTupOf2 s.heap TI (.ref i1) (.ref i2)) (st1 : St1 i s.heap) (st2 : St2 i s.heap) (l1 : i < n1) (l2 : i < n2)
    (hQ : ∀ x y h' tk, P1 i x → P2 i y → IsZipHeld h' z TI TO T true → St1 (i + 1) h' → St2 (i + 1) h' → IsTupOf2 h' s.heap.objs.size x y → h'.objs.size = s.heap.objs.size + 1 →
      (∀ c o, c ≠ z → c ≠ i1 → c ≠ i2 → s.heap.get? c = some o → h'.get? c = some o) → Q (.ref s.heap.objs.size) { s with heap := h', toks := tk }) :
    wpAny (model prog w) A (Builtin.«zip.__next__» ⟨[.ref z], []⟩) (fun fin s' => ∃ v, fin = .done (.ret v) ∧ Q v s') E s := by
  show wpAny _ _ (field (.ref z) 2 >>= _) _ _ _
  refine wpAny_bind (wpAny_field hz rfl (x := .bool false) rfl ?_); show wpAny _ _ (field (.ref z) 3 >>= _) _ _ _
  refine wpAny_bind (wpAny_field hz rfl (x := .ref TI) rfl ?_); refine wpAny_bind (wpAny_seqItems hTI rfl ?_)
  show wpAny _ _ (Builtin.SmallTypes.ownedTupleIsFree (.ref z) >>= _) _ _ _; refine wpAny_bind (wpAny_tupleHeld_zip hz hT fun g1 z1 b1 => ?_)
  simp only [Bool.false_eq_true, if_false]; refine wpAny_bind ?_
  rw [← Array.forIn_toList]; simp only [List.forIn_cons, List.forIn_nil]
  refine wpAny_bind (wpAny_bind (wpAny_holding ?_)); show wpAny _ _ (Builtin.SmallTypes.nextOf (.ref i1) >>= _) _ _ _
  refine wpAny_bind (D1.item i { s with heap := g1 } _ _ l1 (D1.over st1 b1 D.zf1) fun x g2 t2 p1 u2 b2 => wpAny_pure ?_)
  refine wpAny_pure ?_; refine wpAny_bind (wpAny_bind (wpAny_holding ?_))
  show wpAny _ _ (Builtin.SmallTypes.nextOf (.ref i2) >>= _) _ _ _
  refine wpAny_bind (D2.item i { s with heap := g2, toks := t2 } _ _ l2 (D2.over (D2.over st2 b1 D.zf2) b2 D.sep1_2) fun y g3 t3 p2 u3 b3 => wpAny_pure ?_)
  refine wpAny_pure (wpAny_pure ?_); show wpAny _ _ (newTuple [x, y] >>= _) _ _ _
  refine wpAny_bind (wpAny_newTuple ?_)
  replace b1 : Heap.SameBut z s.heap g1 := b1
  replace b2 : Heap.SameBut i1 g1 g2 := b2
  replace b3 : Heap.SameBut i2 g2 g3 := b3
  have hsz : g3.objs.size = s.heap.objs.size := by rw [b3.1, b2.1, b1.1]
  have z3 : IsZipHeld g3 z TI TO T true := b3.extBut _ _ D.zi2 (b2.extBut _ _ D.zi1 z1)
  have hk : ∀ c o, c ≠ z → c ≠ i1 → c ≠ i2 → s.heap.get? c = some o → g3.get? c = some o := fun c o c1 c2 c3 e => b3.extBut _ _ c3 (b2.extBut _ _ c2 (b1.extBut _ _ c1 e))
  have v3 : St1 (i + 1) g3 := D1.over u2 b3 D.sep2_1
  refine wpAny_pure ⟨_, rfl, ?_⟩; show Q (.ref g3.objs.size) _
  have hp : IsTupOf2 (g3.push { cls := .type "tuple", data := .seq #[x, y] }) g3.objs.size x y := Heap.get?_push_size _ rfl
  have hz4 : (g3.push { cls := .type "tuple", data := .seq #[x, y] }).objs.size = g3.objs.size + 1 := Heap.size_push ..
  rw [hsz] at hp hz4 ⊢
  exact hQ x y _ t3 p1 p2 (Heap.get?_push_of_some _ z3) (D1.frame _ _ _ v3 fun b _ o e => Heap.get?_push_of_some _ e) (D2.frame _ _ _ u3 fun b _ o e => Heap.get?_push_of_some _ e) hp hz4 fun c o c1 c2 c3 e => Heap.get?_push_of_some _ (hk c o c1 c2 c3 e)
theorem held_end {T : Addr} {f : Bool} {oT : Obj} {Q : Fin → Shared → Prop} (D : ZipSep2 z TI TO i1 i2 fp1 fp2) (D1 : Draws prog w A i1 fp1 n1 P1 St1) (D2 : Draws prog w A i2 fp2 n2 P2 St2)
    (hz : IsZipHeld s.heap z TI TO T f) (hT : s.heap.get? T = some oT) (hTI : IsTupOf2 s.heap TI (.ref i1) (.ref i2)) (st1 : St1 i s.heap) (st2 : St2 i s.heap) (l1 : i ≤ n1) (l2 : i ≤ n2) (hend : i = n1 ∨ i = n2)
    (hE : ∀ h' e tk, (∀ c o, c ≠ z → c ≠ i1 → c ≠ i2 → s.heap.get? c = some o → h'.get? c = some o) → (∃ o, h'.get? e = some o ∧ o.cls = .type "StopIteration") → E (.ref e) { s with heap := h', toks := tk }) :
    wpAny (model prog w) A (Builtin.«zip.__next__» ⟨[.ref z], []⟩) Q E s := by
  show wpAny _ _ (field (.ref z) 2 >>= _) _ _ _
  refine wpAny_bind (wpAny_field hz rfl (x := .bool false) rfl ?_); show wpAny _ _ (field (.ref z) 3 >>= _) _ _ _
  refine wpAny_bind (wpAny_field hz rfl (x := .ref TI) rfl ?_); refine wpAny_bind (wpAny_seqItems hTI rfl ?_)
  show wpAny _ _ (Builtin.SmallTypes.ownedTupleIsFree (.ref z) >>= _) _ _ _; refine wpAny_bind (wpAny_tupleHeld_zip hz hT fun g1 z1 b1 => ?_)
  simp only [Bool.false_eq_true, if_false]; refine wpAny_bind ?_
  rw [← Array.forIn_toList]; simp only [List.forIn_cons, List.forIn_nil]
  refine wpAny_bind (wpAny_bind (wpAny_holding ?_)); show wpAny _ _ (Builtin.SmallTypes.nextOf (.ref i1) >>= _) _ _ _
  replace b1 : Heap.SameBut z s.heap g1 := b1
  by_cases q : i = n1
  · subst q
    refine wpAny_bind (D1.done { s with heap := g1 } _ _ (D1.over st1 b1 D.zf1) fun g2 e b2 he => ?_)
    exact hE g2 e s.toks (fun c o c1 c2 _ x => b2 _ _ c2 (b1.extBut _ _ c1 x)) he
  · have q2 : i = n2 := hend.resolve_left q
    refine wpAny_bind (D1.item i { s with heap := g1 } _ _ (by omega) (D1.over st1 b1 D.zf1) fun x g2 t2 p1 u2 b2 => wpAny_pure ?_)
    replace b2 : Heap.SameBut i1 g1 g2 := b2
    refine wpAny_pure ?_; refine wpAny_bind (wpAny_bind (wpAny_holding ?_))
    show wpAny _ _ (Builtin.SmallTypes.nextOf (.ref i2) >>= _) _ _ _
    have u : St2 i g2 := D2.over (D2.over st2 b1 D.zf2) b2 D.sep1_2
    subst q2
    refine wpAny_bind (D2.done { s with heap := g2, toks := t2 } _ _ u fun g3 e b3 he => ?_)
    exact hE g3 e t2 (fun c o c1 c2 c3 x => b3 _ _ c3 (b2.extBut _ _ c2 (b1.extBut _ _ c1 x))) he
/-- how the zip stands ahead of turn i, what it gave out being kept -/
def Zi (z TI TO : Addr) (b0 : Nat) (i : Nat) (h : Heap) : Prop := (i = 0 ∧ IsZip h z TI TO .none ∧ ∃ a b, IsTupOf2 h TO a b) ∨ ∃ (T : Nat) (f : Bool) (oT : Obj), IsZipHeld h z TI TO T f ∧ h.get? T = some oT ∧ b0 ≤ T
variable {b0 : Nat}
theorem zi_item {Q : Option Value → Shared → Prop} (D : ZipSep2 z TI TO i1 i2 fp1 fp2) (D1 : Draws prog w A.in1 i1 fp1 n1 P1 St1) (D2 : Draws prog w A.in1 i2 fp2 n2 P2 St2) (hb : ∀ c ∈ [z, TI, TO, i1, i2], Nat.lt c b0) (hsz0 : b0 ≤ s.heap.objs.size)
    (hz : Zi z TI TO b0 i s.heap) (hTI : IsTupOf2 s.heap TI (.ref i1) (.ref i2)) (st1 : St1 i s.heap) (st2 : St2 i s.heap) (l1 : i < n1) (l2 : i < n2)
    (hQ : ∀ x y h' tk, P1 i x → P2 i y → Zi z TI TO b0 (i + 1) h' → IsTupOf2 h' TI (.ref i1) (.ref i2) → St1 (i + 1) h' → St2 (i + 1) h' → IsTupOf2 h' s.heap.objs.size x y → h'.objs.size = s.heap.objs.size + 1 →
      (∀ c o, c ∉ [z, TO, i1, i2] → s.heap.get? c = some o → h'.get? c = some o) → Q (some (.ref s.heap.objs.size)) { s with heap := h', toks := tk }) :
    wpAny (model prog w) A (pyNext (.ref z)) Q E s := by
  rcases hz with ⟨_, hz, a, b, hTO⟩ | ⟨T, f, oT, hz, hT, hTb⟩
  · exact wpAny_pyNext_zipD2_item D D1 D2 hz hTI hTO st1 st2 l1 l2 fun x y h' tk p1 p2 z' TO' s1' s2' hn hs hk =>
      hQ x y h' tk p1 p2 (.inr ⟨s.heap.objs.size, false, _, z', hn, hsz0⟩) (hk _ _ D.TIz D.TITO D.TIi1 D.TIi2 hTI) s1' s2' hn hs fun c o hc e => hk c o (fun q => hc (by simp [q])) (fun q => hc (by simp [q])) (fun q => hc (by simp [q])) (fun q => hc (by simp [q])) e
  · have hTy : s.TypeIs (.ref z) "zip" := ⟨_, hz, rfl⟩
    unfold pyNext
    refine wpAny_bind (wpAny_attempt (wpAny_callSpecial?_slot (name := Str.ofString "__next__") hTy F.slot_zip_next
      (wpAny_call_entry F.slot_zip_next hTy F.entry_zip_next (held_item D D1 D2 hz hT hTI st1 st2 l1 l2 fun x y h' tk p1 p2 z' s1' s2' hn hs hk => wpAny_pure ?_) (F.args_zip_next_1 _))))
    have nT : ∀ c ∈ [z, TI, TO, i1, i2], T ≠ c := fun c hc e => by
      have q := hb c hc
      rw [← e] at q
      exact absurd hTb (Nat.not_le.mpr q)
    exact hQ x y h' tk p1 p2 (.inr ⟨T, true, oT, z', hk T oT (nT z (by simp)) (nT i1 (by simp)) (nT i2 (by simp)) hT, hTb⟩) (hk _ _ D.TIz D.TIi1 D.TIi2 hTI) s1' s2' hn hs fun c o hc e => hk c o (fun q => hc (by simp [q])) (fun q => hc (by simp [q])) (fun q => hc (by simp [q])) e
theorem zi_end {Q : Option Value → Shared → Prop} (D : ZipSep2 z TI TO i1 i2 fp1 fp2) (D1 : Draws prog w A.in1 i1 fp1 n1 P1 St1) (D2 : Draws prog w A.in1 i2 fp2 n2 P2 St2)
    (hz : Zi z TI TO b0 i s.heap) (hTI : IsTupOf2 s.heap TI (.ref i1) (.ref i2)) (st1 : St1 i s.heap) (st2 : St2 i s.heap) (l1 : i ≤ n1) (l2 : i ≤ n2) (hend : i = n1 ∨ i = n2)
    (hQ : ∀ h' tk, (∀ c o, c ∉ [z, TO, i1, i2] → s.heap.get? c = some o → h'.get? c = some o) → Q none { s with heap := h', toks := tk }) :
    wpAny (model prog w) A (pyNext (.ref z)) Q E s := by
  rcases hz with ⟨_, hz, a, b, hTO⟩ | ⟨T, f, oT, hz, hT, hTb⟩
  · exact wpAny_pyNext_zipD2_end D D1 D2 hz hTI hTO st1 st2 l1 l2 hend fun h' tk hk => hQ h' tk fun c o hc e => hk c o (fun q => hc (by simp [q])) (fun q => hc (by simp [q])) (fun q => hc (by simp [q])) (fun q => hc (by simp [q])) e
  · have hTy : s.TypeIs (.ref z) "zip" := ⟨_, hz, rfl⟩
    unfold pyNext
    refine wpAny_bind (wpAny_attempt (wpAny_callSpecial?_slot (name := Str.ofString "__next__") hTy F.slot_zip_next
      (wpAny_call_entry F.slot_zip_next hTy F.entry_zip_next (held_end D D1 D2 hz hT hTI st1 st2 l1 l2 hend fun h' e tk hk he => ?_) (F.args_zip_next_1 _))))
    obtain ⟨o, ho, hc⟩ := he
    exact wpAny_bind (wpAny_isInstance (T := "StopIteration") (b := true) ⟨o, ho, hc⟩ isSubtype_stop (wpAny_pure (hQ _ tk fun c o hc e => hk c o (fun q => hc (by simp [q])) (fun q => hc (by simp [q])) (fun q => hc (by simp [q])) e)))
/-- the pairs that were given out -/
def Pairs (P1 P2 : Nat → Value → Prop) (b0 : Nat) (h : Heap) (Ts : List Nat) : Prop := Ts.Pairwise (· < ·) ∧ ∀ (j T : Nat), Ts[j]? = some T → b0 ≤ T ∧ ∃ x y, IsTupOf2 h T x y ∧ P1 j x ∧ P2 j y
theorem loop {S : Addr} {R : Result → Shared → Prop} (res : Value) (D : ZipSep2 z TI TO i1 i2 fp1 fp2) (D1 : Draws prog w A.in1.in1 i1 fp1 n1 P1 St1) (D2 : Draws prog w A.in1.in1 i2 fp2 n2 P2 St2)
    (hb : ∀ c ∈ [z, TI, TO, i1, i2], Nat.lt c b0) (hSb : Nat.lt S b0) (hS1 : S ∉ fp1) (hS2 : S ∉ fp2) (hSz : S ≠ z) (hST : S ≠ TI) (hSO : S ≠ TO) (hn : min n1 n2 ≤ sizeLine) :
    ∀ (k i : Nat) (s : Shared) (acc : Array Value) (c : Nat) (Ts : List Nat), min n1 n2 - i = k → i ≤ min n1 n2 → b0 ≤ s.heap.objs.size → Zi z TI TO b0 i s.heap → IsTupOf2 s.heap TI (.ref i1) (.ref i2) → St1 i s.heap → St2 i s.heap →
      s.heap.get? S = some { cls := .type "list", dict := none, data := .seq acc c, slots := #[] } → acc.toList = Ts.map Value.ref → Ts.length = i → Pairs P1 P2 b0 s.heap Ts →
      (∀ h' tk acc' c' Ts', (∀ b o, b ∉ [S, z, TO, i1, i2] → s.heap.get? b = some o → h'.get? b = some o) → h'.get? S = some { cls := .type "list", dict := none, data := .seq acc' c', slots := #[] } → acc'.toList = Ts'.map Value.ref → Ts'.length = min n1 n2 → Pairs P1 P2 b0 h' Ts' →
        R (.ok (.ret res)) { s with heap := h', toks := tk }) →
      codeAny (model prog w) A (.builtin "list.extend.loop" ⟨[.ref S, .ref z, res], []⟩) R s := by
  have hSi1 : S ≠ i1 := fun e => hS1 (by rw [e]; exact D.mem1)
  have hSi2 : S ≠ i2 := fun e => hS2 (by rw [e]; exact D.mem2)
  have far : ∀ T : Nat, b0 ≤ T → (show Addr from T) ∉ [S, z, TO, i1, i2] := fun T hT hm => by
    have q : Nat.lt T b0 := by
      rcases List.mem_cons.mp hm with e | hm
      · rw [show T = S from e]; exact hSb
      · refine hb T ?_
        rcases List.mem_cons.mp hm with e | hm
        · rw [show T = z from e]; simp
        · exact List.mem_cons_of_mem _ (List.mem_cons_of_mem _ hm)
    exact absurd hT (Nat.not_le.mpr q)
  intro k
  induction k with
  | zero =>
    intro i s acc c Ts hk hi hsz hz hTI st1 st2 hS hacc hlen hp hR
    refine codeAny_builtin F.entry_extend_loop ?_
    rw [Around.under_plainId F.plain_extend_loop _]
    show wpAny _ A.in1 (pyNext (.ref z) >>= _) _ _ s
    refine wpAny_bind (zi_end D D1 D2 hz hTI st1 st2 (by omega) (by omega) (by omega) fun h' tk hk' => wpAny_pure ?_)
    have sub : ∀ b, b ∉ [S, z, TO, i1, i2] → b ∉ [z, TO, i1, i2] := fun b hb q => hb (List.mem_cons_of_mem _ q)
    refine hR h' tk acc c Ts (fun b o hb e => hk' b o (sub b hb) e) (hk' S _ (by simp [hSz, hSO, hSi1, hSi2]) hS) hacc (by omega) ⟨hp.1, fun j T e => ?_⟩
    obtain ⟨q, x, y, q2, q3⟩ := hp.2 j T e
    exact ⟨q, x, y, hk' T _ (sub T (far T q)) q2, q3⟩
  | succ k ih =>
    intro i s acc c Ts hk hi hsz hz hTI st1 st2 hS hacc hlen hp hR
    refine codeAny_builtin F.entry_extend_loop ?_
    rw [Around.under_plainId F.plain_extend_loop _]
    show wpAny _ A.in1 (pyNext (.ref z) >>= _) _ _ s
    refine wpAny_bind (zi_item D D1 D2 hb hsz hz hTI st1 st2 (by omega) (by omega) fun x y h' tk p1 p2 hz' hTI' s1' s2' hn' hsz' hk' => ?_)
    have sub : ∀ b, b ∉ [S, z, TO, i1, i2] → b ∉ [z, TO, i1, i2] := fun b hb q => hb (List.mem_cons_of_mem _ q)
    have hS' := hk' S _ (by simp [hSz, hSO, hSi1, hSi2]) hS
    have hai : acc.size = i := by rw [← Array.length_toList, hacc, List.length_map, hlen]
    show wpAny _ A.in1 (updateSeq S (·.push (.ref s.heap.objs.size)) >>= _) _ _ _
    refine wpAny_bind ?_
    refine wpAny_updateSeq hS' rfl (wpAny_pure ⟨plainId_quiet F.plain_extend_loop _, ?_⟩) (by rw [hai]; omega) (by show (acc.push _).size ≤ sizeLine + 1; rw [Array.size_push, hai]; omega)
    have oth : ∀ b o, b ≠ S → h'.get? b = some o → (h'.update S (Obj.mapSeq (·.push (.ref s.heap.objs.size)))).get? b = some o := fun b o nb e => (Heap.get?_update_other _ _ (Ne.symm nb)).trans e
    have hTs : ∀ T ∈ Ts, T < s.heap.objs.size := fun T hT => by
      obtain ⟨j, hj⟩ := List.mem_iff_getElem?.mp hT
      obtain ⟨_, x, y, q2, _⟩ := hp.2 j T hj
      exact Heap.lt_size q2
    have farS : ∀ T : Nat, b0 ≤ T → (show Addr from T) ≠ S := fun T hT e => far T hT (by rw [e]; simp)
    refine ih (i + 1) _ (acc.push (.ref s.heap.objs.size)) _ (Ts ++ [s.heap.objs.size]) (by omega) (by omega) ?_ ?_ (oth _ _ (Ne.symm hST) hTI') (D1.frame _ _ _ s1' fun b hb o e => oth b o (fun q => hS1 (by rw [← q]; exact hb)) e) (D2.frame _ _ _ s2' fun b hb o e => oth b o (fun q => hS2 (by rw [← q]; exact hb)) e)
      (Heap.get?_update_self _ hS' rfl) (by rw [Array.toList_push, hacc, List.map_append]; rfl) (by rw [List.length_append, hlen]; rfl) ⟨?_, fun j T e => ?_⟩ fun h2 tk2 acc' c' Ts' hk2 hS2 ha2 hl2 hp2 => ?_
    · show b0 ≤ (h'.update S _).objs.size
      rw [Heap.size_update, hsz']; omega
    · rcases hz' with ⟨e, _⟩ | ⟨T, f, oT, e1, e2, e3⟩
      · omega
      · exact .inr ⟨T, f, oT, oth _ _ (Ne.symm hSz) e1, oth _ _ (farS T e3) e2, e3⟩
    · refine List.pairwise_append.mpr ⟨hp.1, List.pairwise_singleton .., fun a ha b hb => ?_⟩
      rw [List.mem_singleton.mp hb]; exact hTs a ha
    · by_cases hj : j < Ts.length
      · rw [List.getElem?_append_left hj] at e
        obtain ⟨q, x', y', q2, q3⟩ := hp.2 j T e
        exact ⟨q, x', y', oth _ _ (farS T q) (hk' T _ (sub T (far T q)) q2), q3⟩
      · rw [List.getElem?_append_right (by omega)] at e
        have hj2 : j - Ts.length = 0 := by
          cases h0 : j - Ts.length with
          | zero => rfl
          | succ m => rw [h0] at e; simp at e
        rw [hj2] at e
        have e : s.heap.objs.size = T := by simpa using e
        have ji : j = i := by omega
        subst e ji
        exact ⟨hsz, x, y, oth _ _ (farS _ hsz) hn', p1, p2⟩
    · refine hR h2 tk2 acc' c' Ts' (fun b o hb e => hk2 b o hb (oth b o (fun q => hb (by rw [q]; simp)) (hk' b o (sub b hb) e))) hS2 ha2 hl2 hp2
end
end ZG
set_option Elab.async false
set_option linter.all false
set_option maxRecDepth 100000
set_option maxHeartbeats 4000000
/-! Z2: list(zip(x, y)), the call. -/
namespace ZG
open PySem PyProof.Rows
theorem zip_no_len : typeLookup (.type "zip") "__len__" = pure none := am_miss_of_fast (by decide +kernel)
theorem zip_no_hint : typeLookup (.type "zip") "__length_hint__" = pure none := am_miss_of_fast (by decide +kernel)
section
variable {prog : Program} {w : World} {A : Around} {E : Value → Shared → Prop} {s : Shared} {z TI TO i1 i2 : Addr} {fp1 fp2 : List Addr} {n1 n2 i : Nat} {P1 P2 : Nat → Value → Prop} {St1 St2 : Nat → Heap → Prop} {b0 : Nat}
theorem hint_zip {Q : Bool → Shared → Prop} (hT : s.TypeIs (.ref z) "zip") (h : Q true s) : wpAny (model prog w) A (Builtin.List.listLengthHint (.ref z)) Q E s := by
  unfold Builtin.List.listLengthHint
  refine wpAny_bind (wpAny_specialOf hT zip_no_len ?_)
  refine wpAny_bind (wpAny_specialOf hT zip_no_hint ?_)
  exact wpAny_pure h
/-- the zip at its start, with its cells, all below b0 -/
structure AtZ (P1 P2 : Nat → Value → Prop) (St1 St2 : Nat → Heap → Prop) (fp1 fp2 : List Addr) (z TI TO i1 i2 : Addr) (b0 : Nat) (h : Heap) : Prop where
  D : ZipSep2 z TI TO i1 i2 fp1 fp2
  hb : ∀ c ∈ [z, TI, TO, i1, i2], Nat.lt c b0
  fb1 : ∀ c ∈ fp1, Nat.lt c b0
  fb2 : ∀ c ∈ fp2, Nat.lt c b0
  hz : IsZip h z TI TO .none
  hTI : IsTupOf2 h TI (.ref i1) (.ref i2)
  hTO : ∃ a b, IsTupOf2 h TO a b
  s1 : St1 0 h
  s2 : St2 0 h
theorem AtZ.keep {h h' : Heap} (x : AtZ P1 P2 St1 St2 fp1 fp2 z TI TO i1 i2 b0 h) (D1 : Draws prog w A i1 fp1 n1 P1 St1) (D2 : Draws prog w A i2 fp2 n2 P2 St2) (k : ∀ b o, Nat.lt b b0 → h.get? b = some o → h'.get? b = some o) : AtZ P1 P2 St1 St2 fp1 fp2 z TI TO i1 i2 b0 h' := by
  obtain ⟨D, hb, f1, f2, hz, hTI, ⟨a, b, hTO⟩, s1, s2⟩ := x
  exact ⟨D, hb, f1, f2, k _ _ (hb z (by simp)) hz, k _ _ (hb TI (by simp)) hTI, ⟨a, b, k _ _ (hb TO (by simp)) hTO⟩, D1.frame _ _ _ s1 fun c hc o e => k c o (f1 c hc) e, D2.frame _ _ _ s2 fun c hc o e => k c o (f2 c hc) e⟩
theorem extend_zip {S : Addr} {R : Result → Shared → Prop} (res : Value) (D1 : Draws prog w A.in1.in1 i1 fp1 n1 P1 St1) (D2 : Draws prog w A.in1.in1 i2 fp2 n2 P2 St2) (x : AtZ P1 P2 St1 St2 fp1 fp2 z TI TO i1 i2 b0 s.heap)
    (hSb : Nat.le b0 S) (hn : min n1 n2 ≤ sizeLine) (c₀ : Nat) (hS : s.heap.get? S = some { cls := .type "list", data := .seq #[] c₀ })
    (hR : ∀ h' tk acc' c' Ts', (∀ b o, b ∉ [S, z, TO, i1, i2] → s.heap.get? b = some o → h'.get? b = some o) → h'.get? S = some { cls := .type "list", dict := none, data := .seq acc' c', slots := #[] } → acc'.toList = Ts'.map Value.ref → Ts'.length = min n1 n2 → Pairs P1 P2 (S + 1) h' Ts' →
        R (.ok (.ret res)) { s with heap := h', toks := tk }) :
    wpAny (model prog w) A.in1 (Builtin.List.listExtendWith (.ref S) (.ref z) res)
      (fun fin s' => match fin with | .done f => R (.ok f) s' | .again c' => c'.quiet = true ∧ codeAny (model prog w) A c' R s') (fun e s' => R (.error e) s') s := by
  have nS : ∀ c, Nat.lt c b0 → S ≠ c := fun c hc e => absurd hc (Nat.not_lt.mpr (by rw [← e]; exact hSb))
  have hSz := nS z (x.hb z (by simp))
  have hT : s.TypeIs (.ref z) "zip" := ⟨_, x.hz, rfl⟩
  have big : ∀ c, Nat.lt c b0 → Nat.lt c (S + 1) := fun c hc => Nat.lt_of_lt_of_le hc (Nat.le_succ_of_le hSb)
  have key : ∀ (h : Heap) (c₁ tk : Nat), (∀ b o, b ≠ S → s.heap.get? b = some o → h.get? b = some o) → h.objs.size = s.heap.objs.size →
      h.get? S = some { cls := .type "list", data := .seq #[] c₁ } → codeAny (model prog w) A (.builtin "list.extend.loop" ⟨[.ref S, .ref z, res], []⟩) R { s with heap := h, toks := tk } := by
    intro h c₁ tk hk hsz hS₁
    have y := x.keep (h' := h) D1 D2 fun b o hb e => hk b o (nS b hb).symm e
    refine loop (b0 := S + 1) res y.D D1 D2 (fun c hc => big c (y.hb c hc)) (Nat.lt_succ_self S) (fun hm => nS S (y.fb1 S hm) rfl) (fun hm => nS S (y.fb2 S hm) rfl) hSz (nS TI (y.hb TI (by simp))) (nS TO (y.hb TO (by simp))) hn
      (min n1 n2) 0 _ #[] c₁ [] rfl (Nat.zero_le _) ?_ (.inl ⟨rfl, y.hz, y.hTO⟩) y.hTI y.s1 y.s2 hS₁ rfl rfl ⟨List.Pairwise.nil, fun j T e => by simp at e⟩ fun h' tk' acc' c' Ts' hk' hS' ha hl hp => ?_
    · show S + 1 ≤ h.objs.size
      exact Heap.lt_size hS₁
    · exact hR h' tk' acc' c' Ts' (fun b o hb e => hk' b o hb (hk b o (fun q => hb (by rw [q]; simp)) e)) hS' ha hl hp
  unfold Builtin.List.listExtendWith
  refine wpAny_bind (wpAny_typeOf (T := "zip") hT ?_)
  have e1 : Builtin.List.listSameRef (.ref S) (.ref z) = false := by simp [Builtin.List.listSameRef, hSz]
  have e2 : (Value.type "zip" == Value.type "list") = false := by decide
  have e3 : (Value.type "zip" == Value.type "tuple") = false := by decide
  simp only [e1, e2, e3, Bool.or_false, Bool.false_eq_true, if_false]
  refine wpAny_bind (wpAny_pyIter_zip x.hz ?_); refine wpAny_bind (wpAny_holding (hint_zip hT ?_))
  refine wpAny_ite_split (fun _ => ?_) (fun _ => wpAny_pure ⟨plainId_quiet F.plain_extend_loop _, key _ c₀ _ (fun b o _ e => e) rfl hS⟩)
  refine wpAny_bind (wpAny_rule ?_); refine wpAny_bind ?_
  show wpAny _ _ (updateSeq S (·.push .none) >>= fun _ => updateSeq S (·.pop)) _ _ _; refine wpAny_bind (wpAny_updateSeq hS rfl ?_)
  have m2 := Heap.get?_update_self (Obj.mapSeq (·.push Value.none)) hS rfl
  refine wpAny_updateSeq (hz := by seq_fits) m2 rfl ?_; have m3 := Heap.get?_update_self (Obj.mapSeq (·.pop)) m2 rfl
  refine wpAny_pure ⟨plainId_quiet F.plain_extend_loop _, key _ _ _ (fun b o hb e => ?_) ?_ m3⟩
  · exact (Heap.get?_update_other _ _ (Ne.symm hb)).trans ((Heap.get?_update_other _ _ (Ne.symm hb)).trans e)
  · rw [Heap.size_update, Heap.size_update]
theorem init_zip {S : Addr} {R : Result → Shared → Prop} (D1 : Draws prog w A.in1.in1 i1 fp1 n1 P1 St1) (D2 : Draws prog w A.in1.in1 i2 fp2 n2 P2 St2) (x : AtZ P1 P2 St1 St2 fp1 fp2 z TI TO i1 i2 b0 s.heap)
    (hSb : Nat.le b0 S) (hn : min n1 n2 ≤ sizeLine) (hS : s.heap.get? S = some { cls := .type "list", data := .seq #[] })
    (hR : ∀ h' tk acc' c' Ts', (∀ b o, b ∉ [S, z, TO, i1, i2] → s.heap.get? b = some o → h'.get? b = some o) → h'.get? S = some { cls := .type "list", dict := none, data := .seq acc' c', slots := #[] } → acc'.toList = Ts'.map Value.ref → Ts'.length = min n1 n2 → Pairs P1 P2 (S + 1) h' Ts' →
        R (.ok (.ret .none)) { s with heap := h', toks := tk }) :
    wpAny (model prog w) A.in1 (Builtin.«list.__init__» ⟨[.ref S, .ref z], []⟩)
      (fun fin s' => match fin with | .done f => R (.ok f) s' | .again c' => c'.quiet = true ∧ codeAny (model prog w) A c' R s') (fun e s' => R (.error e) s') s := by
  show wpAny _ _ (do let old ← Builtin.List.listItems (.ref S); Builtin.List.listUpdate (.ref S) (fun _ => #[]); letGo old.toList.reverse; Builtin.List.listExtendWith (.ref S) (.ref z) .none) _ _ s
  refine wpAny_bind ?_; unfold Builtin.List.listItems
  refine wpAny_bind (wpAny_seqItems hS rfl (wpAny_pure ?_))
  show wpAny _ _ (updateSeq S (fun _ => #[]) >>= fun _ => letGo (#[] : Array Value).toList.reverse >>= fun _ => Builtin.List.listExtendWith (.ref S) (.ref z) .none) _ _ s
  refine wpAny_bind (wpAny_updateSeq hS rfl ?_)
  have m2 := Heap.get?_update_self (Obj.mapSeq (fun _ => (#[] : Array Value))) hS rfl
  have nS : ∀ c, Nat.lt c b0 → S ≠ c := fun c hc e => absurd hc (Nat.not_lt.mpr (by rw [← e]; exact hSb))
  have oth : ∀ b o, b ≠ S → s.heap.get? b = some o → (s.heap.update S (Obj.mapSeq (fun _ => (#[] : Array Value)))).get? b = some o :=
    fun b o nb e => (Heap.get?_update_other _ _ (Ne.symm nb)).trans e
  refine wpAny_bind (wpAny_letGo ?_)
  refine extend_zip .none D1 D2 (x.keep D1 D2 fun b o hb e => oth b o (nS b hb).symm e) hSb hn _ m2 fun h' tk acc' c' Ts' hk' hS' ha hl hp => ?_
  exact hR h' tk acc' c' Ts' (fun b o nb e => hk' b o nb (oth b o (fun q => nb (by rw [q]; simp)) e)) hS' ha hl hp
end
section
variable {prog : Program} {w : World} {A : Around} {E : Value → Shared → Prop} {s : Shared} {z TI TO i1 i2 : Addr} {fp1 fp2 : List Addr} {n1 n2 i : Nat} {P1 P2 : Nat → Value → Prop} {St1 St2 : Nat → Heap → Prop} {b0 : Nat}
theorem call_list_zip {Q : Value → Shared → Prop} (D1 : Draws prog w A.in1.in1.in1 i1 fp1 n1 P1 St1) (D2 : Draws prog w A.in1.in1.in1 i2 fp2 n2 P2 St2) (x : AtZ P1 P2 St1 St2 fp1 fp2 z TI TO i1 i2 s.heap.objs.size s.heap) (hn : min n1 n2 ≤ sizeLine)
    (hQ : ∀ h' tk acc' c' Ts', (∀ b o, b ∉ [z, TO, i1, i2] → s.heap.get? b = some o → h'.get? b = some o) → h'.get? s.heap.objs.size = some { cls := .type "list", dict := none, data := .seq acc' c', slots := #[] } → acc'.toList = Ts'.map Value.ref → Ts'.length = min n1 n2 → Pairs P1 P2 (s.heap.objs.size + 1) h' Ts' →
        Q (.ref s.heap.objs.size) { s with heap := h', toks := tk }) :
    wpAny (model prog w) A (call (.type "list") [.ref z]) Q E s := by
  refine callType_codes (Q₁ := fun obj s₁ => obj = .ref s.heap.objs.size ∧ s₁ = { s with heap := s.heap.push { cls := .type "list", data := .seq #[] } }) F.called_list (F.typeCall_list_1 _) F.entry_list_init
    (code_list_new _ ⟨rfl, rfl⟩) fun obj s₁ g₁ => ?_
  obtain ⟨rfl, rfl⟩ := g₁
  have hS : (s.heap.push { cls := .type "list", data := .seq #[] }).get? s.heap.objs.size = some { cls := .type "list", data := .seq #[] } := Heap.get?_push_size _ rfl
  refine ⟨⟨_, hS, rfl⟩, F.args_list_init_2 _ _, init_zip (A := A.in1) D1 D2 (x.keep D1 D2 fun b o _ e => Heap.get?_push_of_some _ e) (Nat.le_refl _) hn hS fun h' tk acc' c' Ts' hk' hS' ha hl hp => ?_⟩
  refine ⟨rfl, hQ h' tk acc' c' Ts' (fun b o nb e => hk' b o (fun q => ?_) (Heap.get?_push_of_some _ e)) hS' ha hl hp⟩
  rcases List.mem_cons.mp q with q | q
  · exact absurd (Heap.lt_size e) (by rw [q]; exact Nat.lt_irrefl _)
  · exact nb q
end
open L2
/-- the pairs laid down one after the other -/
def layT : Hp → List Addr → List (V × V) → Hp
  | H, T :: Ts, p :: ps => layT (upd H T (.tup [p.1, p.2])) Ts ps
  | H, _, _ => H
def FreshT : Hp → List Addr → List (V × V) → Prop
  | H, T :: Ts, p :: ps => H T = none ∧ FreshT (upd H T (.tup [p.1, p.2])) Ts ps
  | _, [], [] => True
  | _, _, _ => False
theorem layT_no : ∀ {Ts : List Addr} {ps : List (V × V)} {H : Hp} {b : Addr}, b ∉ Ts → layT H Ts ps b = H b
  | [], ps, H, b, _ => by cases ps <;> rfl
  | T :: Ts, [], H, b, _ => rfl
  | T :: Ts, p :: ps, H, b, hb => by
    show layT (upd H T _) Ts ps b = H b
    rw [layT_no (List.not_mem_of_not_mem_cons hb), upd_ne (List.ne_of_not_mem_cons hb)]
theorem layT_at : ∀ {Ts : List Addr} {ps : List (V × V)} {H : Hp} {j : Nat} {T : Addr}, Ts.Nodup → Ts.length = ps.length → Ts[j]? = some T → ∃ p, ps[j]? = some p ∧ layT H Ts ps T = some (.tup [p.1, p.2])
  | [], ps, H, j, T, _, _, e => by simp at e
  | T0 :: Ts, [], H, j, T, _, l, e => by simp at l
  | T0 :: Ts, p :: ps, H, 0, T, nd, l, e => by
    have e : T0 = T := by simpa using e
    subst e
    refine ⟨p, rfl, ?_⟩
    show layT (upd H T0 _) Ts ps T0 = _
    rw [layT_no (List.nodup_cons.mp nd).1, upd_same]
  | T0 :: Ts, p :: ps, H, j + 1, T, nd, l, e => by
    have e : Ts[j]? = some T := by simpa using e
    obtain ⟨q, h1, h2⟩ := layT_at (H := upd H T0 (.tup [p.1, p.2])) (List.nodup_cons.mp nd).2 (by simpa using l) e
    exact ⟨q, by simpa using h1, h2⟩
theorem freshT_of : ∀ {Ts : List Addr} {ps : List (V × V)} {H : Hp}, Ts.Nodup → Ts.length = ps.length → (∀ T ∈ Ts, H T = none) → FreshT H Ts ps
  | [], [], _, _, _, _ => True.intro
  | [], p :: ps, _, _, l, _ => by simp at l
  | T :: Ts, [], _, _, l, _ => by simp at l
  | T :: Ts, p :: ps, H, nd, l, n => ⟨n T (List.mem_cons_self ..), freshT_of (List.nodup_cons.mp nd).2 (by simpa using l) fun b hb => by
      rw [upd_ne fun e => (List.nodup_cons.mp nd).1 (by rw [← e]; exact hb)]; exact n b (List.mem_cons_of_mem _ hb)⟩
def tLstZip (K : PySem.W.Frag) (ta : TA) : TE := fun σ H Q => ta σ H fun vs H1 => ∃ x y, vs = [x, y] ∧ ∀ v u, RelV x v → RelV y u → ∃ k1 k2 xs ys, v = SK.val k1 ∧ u = SK.val k2 ∧ SK.its K H1 k1 xs ∧ SK.its K H1 k2 ys ∧ min xs.length ys.length ≤ sizeLine ∧
  ∀ (Ts : List Addr) (p : Addr), Ts.length = (xs.zip ys).length → FreshT H1 Ts (xs.zip ys) → layT H1 Ts (xs.zip ys) p = none → Q (.ref p) (upd (layT H1 Ts (xs.zip ys)) p (.lst (Ts.map .ref)))
theorem pe_listZip {X : Cx} {e e2 : Expr} {ta : TA} {p p2 q pos : Pos} (hc : X.calm = true) (hg : Gl X "list") (hm : X.mg "list" = none) (hg2 : Gl X "zip") (hm2 : X.mg "zip" = none) (ha : PA X [e, e2] ta)
    (hs : starEach [e, e2] X.env = (false, eval e X.env) :: starEach [e2] X.env := by rfl) (hpl : (backTo q (starEach [e2] X.env)).any (·.1) = false := by rfl)
    (na : starEach [.Call (.Name "zip" p2) [e, e2] [] q] X.env = (false, eval (.Call (.Name "zip" p2) [e, e2] [] q) X.env) :: starEach [] X.env := by rfl) :
    PE X (.Call (.Name "list" p) [.Call (.Name "zip" p2) [e, e2] [] q] [] pos) (tLstZip X.K ta) := by
  refine ⟨fun pins s σ H Q I h => ?_⟩
  refine Call_ (ld_blt I hg hm boot_list (PyProof.Rows.callWith_type1 (args_cons ?_ na) na))
  refine Call_ (ld_blt I hg2 hm2 boot_zip (PyProof.Rows.callWith_type1 (thn (ha.run q pins s σ H _ I h) fun us s1 ⟨vs, H1, I1, r1, q1⟩ => ?_) hs hpl))
  obtain ⟨x, y, ex, q1⟩ := q1
  subst ex
  cases r1 with
  | cons r rr =>
    cases rr with
    | cons r' rr =>
      cases rr
      obtain ⟨k1, k2, xs, ys, rfl, rfl, qx, qy, hn, q⟩ := q1 _ _ r r'
      obtain ⟨Q1, B1, g1, o1⟩ := SK.begins I1 qx
      obtain ⟨Q2, B2, g2, o2⟩ := SK.begins I1 qy
      refine zip_begins2 B1 B2 g1 g2 fun h' hz hTI hTO a1 a2 hsz hk => args_nil ?_
      have I2 : Inv X pins σ H1 { s1 with heap := h' } := I1.kept (t' := s1.toks) hk
      have S := sep_of s1.heap.objs.size o1 o2
      have hh : X.A.in1.in1.in1.handled = none := I1.ok.hd hc
      obtain ⟨P1, S1, D1, b1, c1, d1⟩ := SK.draw I2 hh k1 _ S.n1 qx
      obtain ⟨P2, S2, D2, b2, c2, d2⟩ := SK.draw I2 hh k2 _ S.n2 qy
      have hsz' : ({ s1 with heap := h' } : Shared).heap.objs.size = s1.heap.objs.size + 5 := hsz
      have lt5 : ∀ k : Nat, k < 5 → Nat.lt (s1.heap.objs.size + k) h'.objs.size := fun k hk => Nat.lt_of_lt_of_le (Nat.add_lt_add_left hk _) (Nat.le_of_eq hsz.symm)
      have below : ∀ (k : SK) (it : Nat), k.old s1.heap.objs.size → it < s1.heap.objs.size + 5 → ∀ c ∈ k.fp it, Nat.lt c h'.objs.size := fun k it o hi c hc => by
        refine Nat.lt_of_lt_of_le ?_ (Nat.le_of_eq hsz.symm)
        rcases fp_at k it _ o c hc with z | z
        · rw [z]; exact hi
        · exact Nat.lt_of_lt_of_le z (Nat.le_add_right _ _)
      refine call_list_zip D1 D2 (s := { s1 with heap := h' }) ⟨S.s, fun c hc => ?_, below k1 _ o1 (by omega), below k2 _ o2 (by omega), hz, hTI, ⟨_, _, hTO⟩, b1 0 (SK.st0 a1), b2 0 (SK.st0 a2)⟩ hn fun h2 tk acc c Ts hk2 hL hacc hlen hp => ?_
      · have ec : c = s1.heap.objs.size + 4 ∨ c = s1.heap.objs.size + 2 ∨ c = s1.heap.objs.size + 3 ∨ c = s1.heap.objs.size ∨ c = s1.heap.objs.size + 1 := by simpa using hc
        rcases ec with z | z | z | z | z <;> rw [z]
        · exact lt5 4 (by omega)
        · exact lt5 2 (by omega)
        · exact lt5 3 (by omega)
        · exact lt5 0 (by omega)
        · exact lt5 1 (by omega)
      -- what stands at the end
      have hk3 : ∀ b o, s1.heap.get? b = some o → h2.get? b = some o := fun b o e => hk2 b o (fun hm => by
        have hb : b < s1.heap.objs.size := Heap.lt_size e
        have ec : b = s1.heap.objs.size + 4 ∨ b = s1.heap.objs.size + 3 ∨ b = s1.heap.objs.size ∨ b = s1.heap.objs.size + 1 := by simpa using hm
        rcases ec with z | z | z | z
        · rw [z] at hb; exact absurd hb (Nat.not_lt.mpr (Nat.le_add_right _ _))
        · rw [z] at hb; exact absurd hb (Nat.not_lt.mpr (Nat.le_add_right _ _))
        · rw [z] at hb; exact absurd hb (Nat.lt_irrefl _)
        · rw [z] at hb; exact absurd hb (Nat.not_lt.mpr (Nat.le_add_right _ _))) (hk b o e)
      have hTsz : ∀ T ∈ Ts, h'.objs.size + 1 ≤ T := fun T hT => by
        obtain ⟨j, hj⟩ := List.mem_iff_getElem?.mp hT
        exact (hp.2 j T hj).1
      have old : ∀ b : Nat, b < s1.heap.objs.size → (b ∉ Ts ∧ b ≠ h'.objs.size) := fun b hb => ⟨fun hm => by have := hTsz b hm; omega, by omega⟩
      have nd : (show List Addr from Ts).Nodup := hp.1.imp fun h => Nat.ne_of_lt h
      have hzl : Ts.length = (xs.zip ys).length := by rw [hlen, List.length_zip]
      have fr : ∀ T ∈ Ts, H1 T = none := fun T hT => I1.hok.fresh (by have := hTsz T hT; show _ ≤ _; omega)
      have pn : (show Nat from h'.objs.size) ∉ Ts := fun hm => absurd (hTsz _ hm) (Nat.not_le.mpr (Nat.lt_succ_self _))
      have pf : H1 h'.objs.size = none := I1.hok.fresh (by show _ ≤ _; omega)
      have same : ∀ b : Nat, b < s1.heap.objs.size → upd (layT H1 Ts (xs.zip ys)) h'.objs.size (.lst (Ts.map .ref)) b = H1 b := fun b hb => by
        obtain ⟨n1, n2⟩ := old b hb
        rw [upd_ne n2, layT_no n1]
      have ltH : ∀ b u, H1 b = some u → b < s1.heap.objs.size := fun b u e => (I1.hok b u e).lt
      have kp : ∀ b u, H1 b = some u → upd (layT H1 Ts (xs.zip ys)) h'.objs.size (.lst (Ts.map .ref)) b = some u := fun b u e => (same b (ltH b u e)).trans e
      refine ⟨.ref h'.objs.size, upd (layT H1 Ts (xs.zip ys)) h'.objs.size (.lst (Ts.map .ref)), I1.un ⟨fun b o e _ _ _ => hk3 b o e, fun b o e _ _ _ => ⟨o.slots, hk3 b o e⟩, fun b o e n _ => (same b (Heap.lt_size e)).trans n, fun b o e _ => ⟨o, hk3 b o e⟩,
        fun b xs e => kp b _ e, fun b o u e => kp b _ e, fun b ps e => ⟨#[], by rw [kp b _ e]; simp⟩⟩ (fun b u e => ?_), rfl, q Ts h'.objs.size hzl (freshT_of nd hzl fr) ((layT_no pn).trans pf)⟩
      by_cases hb : b = h'.objs.size
      · subst hb
        rw [upd_same] at e
        cases e
        refine ⟨by rw [List.length_map, hlen]; exact hn, acc.toList, c, ?_, hL⟩
        rw [hacc]
        clear hlen hp hTsz old nd hzl fr pn same kp hL hacc
        induction Ts with
        | nil => exact .nil
        | cons T r ih => exact .cons rfl ih
      · rw [upd_ne hb] at e
        by_cases hT : b ∈ Ts
        · obtain ⟨j, hj⟩ := List.mem_iff_getElem?.mp hT
          obtain ⟨pr, h1, h3⟩ := layT_at (H := H1) nd hzl hj
          rw [h3] at e
          cases e
          obtain ⟨_, v1, v2, t1, t2, t3⟩ := hp.2 j b hj
          obtain ⟨e1, e2⟩ := List.getElem?_zip_eq_some.mp h1
          exact ⟨by show 2 ≤ sizeLine; decide, [v1, v2], .cons (d1 j v1 _ t2 e1) (.cons (d2 j v2 _ t3 e2) .nil), ⟨_, t1, rfl, _, rfl⟩⟩
        · rw [layT_no hT] at e
          exact (I1.hok b u e).stay (fun c v _ e => hk3 c v e) (fun c e => kp c _ e) fun c xs e => kp c _ e
end ZG
set_option Elab.async false
set_option linter.all false
set_option maxRecDepth 100000
set_option maxHeartbeats 2000000
/-! D7: zip, ranges, dicts, in, ==. -/
namespace D
open PySem PySem.Spec PyProof.Rows L2 SlX ZG
section
variable {K : PySem.W.Frag} {cl : Cl} {W W1 : Wd} {H H1 : Hp} {h h' : Hs} {X : Cx} {pos : Pos} {e e2 : Expr} {ms : Exs} {ma : Ex}
/-! ### zip -/
/-- the source k is what t tells, wherever what it leans on stands -/
def SrcD (K : PySem.W.Frag) (cl : Cl) (k : SK) (t : Wlk) (W0 : Wd) (H0 : Hp) : Prop := ∃ G : Wd → Hp → Prop, G W0 H0 ∧ (∀ W H W' H', Ext W H W' H' → G W H → G W' H') ∧ (∀ W H W' H' D, Off W H W' H' D → G W H → G W' H') ∧
  ∀ W h H ds, G W H → HRel K cl W h H → t.all h = some ds → ∃ xs, k.its K H xs ∧ RVs K cl W H ds xs
theorem rvs_txt : ∀ s : List Nat, RVs K cl W H (s.map fun c => .str [c]) (s.map fun c => V.str ⟨#[c]⟩)
  | [] => .nil
  | c :: t => .cons (.str [c]) (rvs_txt t)
theorem src_of {d : DV} {x : V} {v : Value} {t : Wlk} (rel : HRel K cl W h H) (r : RV K cl W H d x) (rv : RelV x v) (e : itrAt d h = .ok t h') : h' = h ∧ ∃ k : SK, v = k.val ∧ SrcD K cl k t W H ∧ ∃ ds, t.all h = some ds := by
  cases r <;> first | (cases e; done) | skip
  · cases e
    obtain ⟨tk, rfl⟩ := rv
    rename_i s
    refine ⟨rfl, .txt (SX.S s) tk, rfl, ⟨fun _ _ => True, True.intro, fun _ _ _ _ _ _ => True.intro, fun _ _ _ _ _ _ _ => True.intro, fun W h H ds _ _ e => ?_⟩, _, rfl⟩
    cases e
    exact ⟨_, rfl, rvs_txt s⟩
  · rename_i n a dx hn
    cases (show v = Value.ref a from rv)
    have e' : (match h[n]? with
      | some (.lst _) => R.ok (Wlk.lst n) h
      | _ => R.stuck) = R.ok t h' := e
    cases q : h[n]? with
    | none => rw [q] at e'; cases e'
    | some u =>
      rw [q] at e'
      cases u <;> first | (cases e'; done) | skip
      cases e'
      rename_i ds
      refine ⟨rfl, .lst a, rfl, ⟨fun W H => W.ρ[n]? = some (a, dx), hn, fun _ _ _ _ e q => e.pre _ _ q, fun _ _ _ _ _ e q => e.pre _ _ q, fun W h H es q rel e => ?_⟩, ds, by show (match h[n]? with | some (.lst ds) => some ds | _ => none) = _; rw [q]⟩
      have e2 : (match h[n]? with | some (.lst ds) => some ds | _ => none) = some es := e
      cases z : h[n]? with
      | none => rw [z] at e2; cases e2
      | some u =>
        rw [z] at e2
        cases u <;> first | (cases e2; done) | skip
        cases e2
        obtain ⟨_, xs, h1, r⟩ := rel.ok n _ a dx z q
        exact ⟨xs, SqL.of h1, r⟩
  · cases e
    rename_i ds xs a f t
    cases (show v = Value.ref a from rv)
    refine ⟨rfl, .tup a, rfl, ⟨fun W H => FzT K W H a xs ∧ RVs K cl W H ds xs, ⟨f, t⟩, fun _ _ _ _ e q => ⟨q.1.mono e, q.2.mono e⟩, fun _ _ _ _ _ e q => ⟨q.1.off e, q.2.off e⟩, fun W h H es q _ e => ?_⟩, _, rfl⟩
    cases e
    exact ⟨xs, q.1.sq, q.2⟩
  · cases e
    rename_i ns a f
    cases (show v = Value.ref a from rv)
    refine ⟨rfl, .lst a, rfl, ⟨fun W H => FzL K W H a (ns.map V.int), f, fun _ _ _ _ e q => q.mono e, fun _ _ _ _ _ e q => q.off e, fun W h H es q _ e => ?_⟩, _, rfl⟩
    cases e
    exact ⟨_, q.sq, rvs_ints ns⟩
theorem SK.inj' {k : SK} {H : Hp} {xs ys : List V} (x : k.its K H xs) (h : ∀ zs, k.its K H zs → zs = ys) : xs = ys := h xs x
theorem walk_zip {k1 k2 : SK} {t1 t2 : Wlk} (a : SrcD K cl k1 t1 W H) (b : SrcD K cl k2 t2 W H) : WalkD K cl (ItG K k1 k2) (.zip t1 t2) W H := by
  obtain ⟨G1, g1, x1, o1, r1⟩ := a
  obtain ⟨G2, g2, x2, o2, r2⟩ := b
  refine ⟨fun W H => G1 W H ∧ G2 W H, ⟨g1, g2⟩, fun _ _ _ _ e q => ⟨x1 _ _ _ _ e q.1, x2 _ _ _ _ e q.2⟩, fun _ _ _ _ _ e q => ⟨o1 _ _ _ _ _ e q.1, o2 _ _ _ _ _ e q.2⟩, fun W h H i ⟨p1, p2⟩ rel => ⟨fun d e => ?_, fun e => ?_⟩⟩
  · have e' : (match t1.all h, t2.all h with
      | some xs, some ys => (match xs[i]?, ys[i]? with
        | some x, some y => some (some (DV.tup [x, y]))
        | _, _ => if Nat.ble i xs.length && (Nat.ble i ys.length && (Nat.beq i xs.length || Nat.beq i ys.length)) then some none else none)
      | _, _ => none) = some (some d) := e
    cases q1 : t1.all h with
    | none => rw [q1] at e'; cases e'
    | some ds =>
      cases q2 : t2.all h with
      | none => rw [q1, q2] at e'; cases e'
      | some es =>
        rw [q1, q2] at e'
        have e' : (match ds[i]?, es[i]? with
          | some x, some y => some (some (DV.tup [x, y]))
          | _, _ => if Nat.ble i ds.length && (Nat.ble i es.length && (Nat.beq i ds.length || Nat.beq i es.length)) then some none else none) = some (some d) := e'
        obtain ⟨xs, hx, rx⟩ := r1 W h H ds p1 rel q1
        obtain ⟨ys, hy, ry⟩ := r2 W h H es p2 rel q2
        cases z1 : ds[i]? with
        | none =>
          rw [z1] at e'
          have e' : (if Nat.ble i ds.length && (Nat.ble i es.length && (Nat.beq i ds.length || Nat.beq i es.length)) then some none else none) = some (some d) := e'
          split at e' <;> cases e'
        | some u =>
          cases z2 : es[i]? with
          | none =>
            rw [z1, z2] at e'
            have e' : (if Nat.ble i ds.length && (Nat.ble i es.length && (Nat.beq i ds.length || Nat.beq i es.length)) then some none else none) = some (some d) := e'
            split at e' <;> cases e'
          | some v =>
            rw [z1, z2] at e'
            cases e'
            obtain ⟨x, hxi, rx'⟩ := rx.get z1
            obtain ⟨y, hyi, ry'⟩ := ry.get z2
            refine ⟨⟨xs, ys, x, y, hx, hy, hxi, hyi⟩, fun z H' ⟨T, x', y', e1, hT, e3, e4, e5⟩ => ?_⟩
            have a1 := e4 xs hx
            have a2 := e5 ys hy
            rw [hxi] at a1
            rw [hyi] at a2
            cases a1
            cases a2
            subst e1 e3
            exact ⟨W.fz T, ext_new hT rel, rfl, rel.new hT, rv_tup rel hT (.cons rx' (.cons ry' .nil))⟩
  · have e' : (match t1.all h, t2.all h with
      | some xs, some ys => (match xs[i]?, ys[i]? with
        | some x, some y => some (some (DV.tup [x, y]))
        | _, _ => if Nat.ble i xs.length && (Nat.ble i ys.length && (Nat.beq i xs.length || Nat.beq i ys.length)) then some none else none)
      | _, _ => none) = some none := e
    cases q1 : t1.all h with
    | none => rw [q1] at e'; cases e'
    | some ds =>
      cases q2 : t2.all h with
      | none => rw [q1, q2] at e'; cases e'
      | some es =>
        rw [q1, q2] at e'
        obtain ⟨xs, hx, rx⟩ := r1 W h H ds p1 rel q1
        obtain ⟨ys, hy, ry⟩ := r2 W h H es p2 rel q2
        have fin : (if Nat.ble i ds.length && (Nat.ble i es.length && (Nat.beq i ds.length || Nat.beq i es.length)) then some none else none) = some (none : Option DV) → (ItG K k1 k2).stop i H := fun e' => by
          split at e'
          · rename_i c
            rw [Bool.and_eq_true, Bool.and_eq_true, Bool.or_eq_true] at c
            obtain ⟨c1, c2, c3⟩ := c
            refine ⟨xs, ys, hx, hy, by rw [← rx.length]; exact Nat.le_of_ble_eq_true c1, by rw [← ry.length]; exact Nat.le_of_ble_eq_true c2, ?_⟩
            rw [← rx.length, ← ry.length]
            rcases c3 with c3 | c3
            · exact .inl (Nat.eq_of_beq_eq_true c3)
            · exact .inr (Nat.eq_of_beq_eq_true c3)
          · cases e'
        have e' : (match ds[i]?, es[i]? with
          | some x, some y => some (some (DV.tup [x, y]))
          | _, _ => if Nat.ble i ds.length && (Nat.ble i es.length && (Nat.beq i ds.length || Nat.beq i es.length)) then some none else none) = some none := e'
        cases z1 : ds[i]? with
        | none => rw [z1] at e'; exact fin e'
        | some u =>
          cases z2 : es[i]? with
          | none => rw [z1, z2] at e'; exact fin e'
          | some v => rw [z1, z2] at e'; cases e'
def zip2 (ds : List DV) : M Wlk := match ds with
  | [x, y] => bnd (itrAt x) fun a => bnd (itrAt y) fun b => ret (.zip a b)
  | _ => stk
theorem di_zip {p tpos : Pos} {elts : List Expr} {kk : Nat} (hg : Gl X "zip") (hm : X.mg "zip" = none) (ha : DA cl X [e, e2] ms)
    (hs : starEach [e, e2] X.env = (false, eval e X.env) :: starEach [e2] X.env := by rfl) (hpl : (backTo pos (starEach [e2] X.env)).any (·.1) = false := by rfl) :
    DI cl X (.Tuple elts kk tpos) (.Call (.Name "zip" p) [e, e2] [] pos) (iRg zip2 ms) := (pi_zipG hg hm ha hs hpl).mono fun σ H R q => by
  obtain ⟨W, h, sl, t, h', rel, rs, e, po⟩ := q
  obtain ⟨ds, h1, e1, e2⟩ := bnd_ok e
  refine ⟨W, h, sl, ds, h1, rel, rs, e1, fun W1 H1 vs ext rel1 rv => ?_⟩
  unfold zip2 at e2
  split at e2
  · obtain ⟨a, h2, e3, e4⟩ := bnd_ok e2
    obtain ⟨b, h3, e5, e6⟩ := bnd_ok e4
    obtain ⟨rfl, rfl⟩ := ret_ok e6
    obtain ⟨x, y, rfl, rx, ry⟩ := rv.two
    refine ⟨x, y, rfl, fun v u hv hu => ?_⟩
    obtain ⟨rfl, k1, rfl, s1, d1, a1⟩ := src_of rel1 rx hv e3
    obtain ⟨rfl, k2, rfl, s2, d2, a2⟩ := src_of rel1 ry hu e5
    have t1 := s1
    have t2 := s2
    obtain ⟨G1, g1, _, _, r1⟩ := s1
    obtain ⟨G2, g2, _, _, r2⟩ := s2
    obtain ⟨xs, hx, _⟩ := r1 _ _ _ _ g1 rel1 a1
    obtain ⟨ys, hy, _⟩ := r2 _ _ _ _ g2 rel1 a2
    exact ⟨k1, k2, xs, ys, rfl, rfl, hx, hy, po W1 H1 _ ext rel1 (walk_zip t1 t2)⟩
  · cases e2
/-- pairs laid one after the other -/
theorem lay_ok : ∀ {Ts : List Addr} {ds es : List DV} {xs ys : List V} {W : Wd} {H : Hp}, HRel K cl W h H → Ts.length = (xs.zip ys).length → FreshT H Ts (xs.zip ys) → RVs K cl W H ds xs → RVs K cl W H es ys →
    ∃ W', Ext W H W' (layT H Ts (xs.zip ys)) ∧ HRel K cl W' h (layT H Ts (xs.zip ys)) ∧ RVs K cl W' (layT H Ts (xs.zip ys)) ((ds.zip es).map fun p => .tup [p.1, p.2]) (Ts.map .ref)
  | Ts, _, _, _, _, W, H, rel, l, f, .nil, r2 => by
    cases Ts with
    | nil => exact ⟨W, .refl, rel, .nil⟩
    | cons T r => simp at l
  | Ts, _, _, _, _, W, H, rel, l, f, .cons a b, .nil => by
    cases Ts with
    | nil => exact ⟨W, .refl, rel, .nil⟩
    | cons T r => simp at l
  | Ts, _, _, _, _, W, H, rel, l, f, .cons a b, .cons a2 b2 => by
    cases Ts with
    | nil => simp at l
    | cons T r =>
      obtain ⟨W', i1, i2, i3⟩ := lay_ok (Ts := r) (rel.new f.1) (by simpa using l) f.2 (b.mono (ext_new f.1 rel)) (b2.mono (ext_new f.1 rel))
      exact ⟨W', (ext_new f.1 rel).trans i1, i2, .cons ((rv_tup rel f.1 (.cons a (.cons a2 .nil))).mono i1) i3⟩
def zipL : List DV → List DV → List DV
  | x :: xs, y :: ys => .tup [x, y] :: zipL xs ys
  | _, _ => []
theorem zipL_eq : ∀ ds es : List DV, (ds.zip es).map (fun p => DV.tup [p.1, p.2]) = zipL ds es
  | [], es => by cases es <;> rfl
  | d :: ds, [] => rfl
  | d :: ds, e :: es => congrArg (DV.tup [d, e] :: ·) (zipL_eq ds es)
def allM (t : Wlk) : M (List DV) := fun h => match t.all h with
  | some ds => .ok ds h
  | none => .stuck
theorem allM_ok {t : Wlk} {ds : List DV} (e : allM t h = .ok ds h') : h' = h ∧ t.all h = some ds := by
  unfold allM at e
  cases q : t.all h with
  | none => rw [q] at e; cases e
  | some u => rw [q] at e; cases e; exact ⟨rfl, rfl⟩
def lstZip (ds : List DV) : M DV := match ds with
  | [x, y] => bnd (itrAt x) fun a => bnd (itrAt y) fun b => bnd (allM a) fun xs => bnd (allM b) fun ys => if fits (min xs.length ys.length) then fun h => .ok (.ref h.length) (h ++ [.lst (zipL xs ys)]) else stk
  | _ => stk
theorem de_listZip {p p2 q : Pos} (hc : X.calm = true) (hg : Gl X "list") (hm : X.mg "list" = none) (hg2 : Gl X "zip") (hm2 : X.mg "zip" = none) (ha : DA cl X [e, e2] ms)
    (hs : starEach [e, e2] X.env = (false, eval e X.env) :: starEach [e2] X.env := by rfl) (hpl : (backTo q (starEach [e2] X.env)).any (·.1) = false := by rfl)
    (na : starEach [.Call (.Name "zip" p2) [e, e2] [] q] X.env = (false, eval (.Call (.Name "zip" p2) [e, e2] [] q) X.env) :: starEach [] X.env := by rfl) :
    DE cl X (.Call (.Name "list" p) [.Call (.Name "zip" p2) [e, e2] [] q] [] pos) (eCall lstZip ms) := (pe_listZip hc hg hm hg2 hm2 ha hs hpl na).mono fun σ H Q z => by
  obtain ⟨W, h, sl, v, h', rel, rs, e, po⟩ := z
  obtain ⟨ds, h1, e1, e2⟩ := bnd_ok e
  refine ⟨W, h, sl, ds, h1, rel, rs, e1, fun W1 H1 vs ext rel1 rv => ?_⟩
  unfold lstZip at e2
  split at e2
  · obtain ⟨a, h2, e3, e4⟩ := bnd_ok e2
    obtain ⟨b, h3, e5, e6⟩ := bnd_ok e4
    obtain ⟨d1, h4, e7, e8⟩ := bnd_ok e6
    obtain ⟨d2, h5, e9, e10⟩ := bnd_ok e8
    obtain ⟨rfl, a1⟩ := allM_ok e7
    obtain ⟨rfl, a2⟩ := allM_ok e9
    obtain ⟨zf, e10⟩ := fit_if e10
    cases e10
    obtain ⟨x, y, rfl, rx, ry⟩ := rv.two
    refine ⟨x, y, rfl, fun v u hv hu => ?_⟩
    obtain ⟨rfl, k1, rfl, s1, _⟩ := src_of rel1 rx hv e3
    obtain ⟨rfl, k2, rfl, s2, _⟩ := src_of rel1 ry hu e5
    obtain ⟨G1, g1, _, _, r1⟩ := s1
    obtain ⟨G2, g2, _, _, r2⟩ := s2
    obtain ⟨xs, hx, qx⟩ := r1 _ _ _ _ g1 rel1 a1
    obtain ⟨ys, hy, qy⟩ := r2 _ _ _ _ g2 rel1 a2
    refine ⟨k1, k2, xs, ys, rfl, rfl, hx, hy, by rw [← qx.length, ← qy.length]; exact zf, fun Ts p hl hf hp => ?_⟩
    obtain ⟨W2, ex, rel2, rt⟩ := lay_ok rel1 hl hf qx qy
    rw [zipL_eq] at rt
    exact po_lst (po.go (ext.trans ex)) rel2 rt p hp
  · cases e2
/-! ### list(range(..)) -/
theorem rgV_eq {i : Int} {n : Nat} : RVs K cl W H (rangeV i n) ((List.range n).map fun j => V.int (i + (j : Nat))) := by
  unfold rangeV
  induction n with
  | zero => exact .nil
  | succ n ih =>
    rw [List.range_succ, List.map_append, List.map_append]
    exact ih.append (.cons (.int _) .nil)
def lstRg1 (d : DV) : M DV := match d with
  | .int j => if small j then (if fits j.toNat then fun h => .ok (.ref h.length) (h ++ [.lst (rangeV 0 j.toNat)]) else stk) else stk
  | _ => stk
theorem de_listRg1 {a : Expr} {p p2 q : Pos} (hc : X.calm = true) (hg : Gl X "list") (hm : X.mg "list" = none) (hg2 : Gl X "range") (hm2 : X.mg "range" = none) (ha : DE cl X a ma)
    (na : starEach [a] X.env = (false, eval a X.env) :: starEach [] X.env := by rfl) (nb : starEach [.Call (.Name "range" p2) [a] [] q] X.env = (false, eval (.Call (.Name "range" p2) [a] [] q) X.env) :: starEach [] X.env := by rfl) :
    DE cl X (.Call (.Name "list" p) [.Call (.Name "range" p2) [a] [] q] [] pos) (eUn lstRg1 ma) := (pe_listRg hc hg hm (prg_1 hg2 hm2 ha na) nb).mono fun σ H Q z => by
  obtain ⟨W, h, sl, v, h', rel, rs, e, po⟩ := z
  obtain ⟨d, h1, e1, e2⟩ := bnd_ok e
  refine ⟨W, h, sl, d, h1, rel, rs, e1, fun W1 H1 x ext rel1 rv => ?_⟩
  unfold lstRg1 at e2
  split at e2
  · rename_i j
    obtain ⟨z, e2⟩ := if_ok e2
    obtain ⟨z2, e2⟩ := fit_if e2
    cases e2
    have sm := small_ok z
    rw [sizeLine_eq] at z2
    cases rv with
    | int _ =>
      refine ⟨j, rfl, ⟨by omega, by omega, sm.1, sm.2, by rw [Int.sub_zero]; omega⟩, fun p hp => ?_⟩
      have e : rgV 0 j = (List.range j.toNat).map fun i => V.int (0 + (i : Nat)) := by
        unfold rgV
        rw [Int.sub_zero]
      rw [e]
      exact po_lst (po.go ext) rel1 rgV_eq p hp
  · cases e2
def lstRg2 (ds : List DV) : M DV := match ds with
  | [.int i, .int j] => if small i && small j then (if fits (j - i).toNat then fun h => .ok (.ref h.length) (h ++ [.lst (rangeV i (j - i).toNat)]) else stk) else stk
  | _ => stk
/-! ### == of flat values -/
def eqD (x y : DV) : M DV := optV (eqF x y) .bl
theorem o_eq : O2 cl X (compareOp .Eq) eqD := by
  intro pins s σ H x y v u Q I rx ry q
  obtain ⟨W, h, d1, d2, v', h', rel, r1, r2, e, po⟩ := q
  obtain ⟨b, e1, rfl, rfl⟩ := optV_ok e
  obtain ⟨z1, z2⟩ := eqF_ok r1 r2 e1
  exact op_eq pins s σ H x y v u Q I rx ry ⟨z1, by rw [z2]; exact po.now rel (.bl _)⟩
def neD (x y : DV) : M DV := optV (eqF x y) fun b => .bl !b
theorem o_ne : O2 cl X (compareOp .NotEq) neD := by
  intro pins s σ H x y v u Q I rx ry q
  obtain ⟨W, h, d1, d2, v', h', rel, r1, r2, e, po⟩ := q
  obtain ⟨b, e1, rfl, rfl⟩ := optV_ok e
  obtain ⟨z1, z2⟩ := eqF_ok r1 r2 e1
  exact op_ne pins s σ H x y v u Q I rx ry ⟨z1, by rw [z2]; exact po.now rel (.bl _)⟩
/-! ### in: a sign in a text; a flat value in a list, a tuple of such -/
def memN (c : Nat) : List Nat → Bool
  | [] => false
  | d :: t => Nat.beq c d || memN c t
theorem memN_eq (c : Nat) : ∀ l : List Nat, memN c l = decide (c ∈ l)
  | [] => by simp [memN]
  | d :: t => by
    show (Nat.beq c d || memN c t) = _
    rw [memN_eq c t]
    cases q : Nat.beq c d with
    | true => simp [Nat.eq_of_beq_eq_true q]
    | false =>
      have : c ≠ d := fun z => by rw [z, Nat.beq_refl] at q; cases q
      simp [this]
def flatD : DV → Bool
  | .non => true
  | .bl _ => true
  | .int _ => true
  | .str _ => true
  | _ => false
def eqvD : DV → DV → Bool
  | .non, .non => true
  | .bl a, .bl b => a == b
  | .bl a, .int b => decide ((if a then 1 else 0) = b)
  | .int a, .bl b => decide (a = (if b then 1 else 0))
  | .int a, .int b => decide (a = b)
  | .str a, .str b => eqS a b
  | _, _ => false
theorem eqvD_ok {d1 d2 : DV} {x y : V} (r1 : RV K cl W H d1 x) (r2 : RV K cl W H d2 y) (f1 : flatD d1 = true) (f2 : flatD d2 = true) : eqV x y = eqvD d1 d2 ∧ flatV x = true ∧ flatV y = true := by
  cases r1 <;> first | (cases f1; done) | skip
  all_goals (cases r2 <;> first | (cases f2; done) | skip)
  all_goals (refine ⟨?_, rfl, rfl⟩)
  all_goals first
    | rfl
    | (show (SX.S _ == SX.S _) = eqS _ _
       rw [SX.S_beq, eqS_iff, Bool.eq_iff_iff, beq_iff_eq, decide_eq_true_eq])
    | (show (_ == _) = decide _
       rw [Bool.eq_iff_iff, beq_iff_eq, decide_eq_true_eq])
theorem inV_ok {d : DV} {x : V} (r : RV K cl W H d x) (f : flatD d = true) : ∀ {ds : List DV} {xs : List V}, RVs K cl W H ds xs → ds.all flatD = true → inV x xs = ds.any (fun e => eqvD e d) ∧ xs.all flatV = true
  | _, _, .nil, _ => ⟨rfl, rfl⟩
  | _, _, .cons a b, g => by
    rename_i e ds y xs
    obtain ⟨g1, g2⟩ := Bool.and_eq_true_iff.mp (List.all_cons ▸ g)
    obtain ⟨i1, i2⟩ := inV_ok r f b g2
    obtain ⟨j1, j2, j3⟩ := eqvD_ok a r g1 f
    refine ⟨?_, ?_⟩
    · show (eqV y x || inV x xs) = (eqvD e d || ds.any fun e => eqvD e d)
      rw [i1, j1]
    · rw [List.all_cons, j2, i2]; rfl
def inD (x y : DV) : M DV := match y with
  | .str t => match x with
    | .str [c] => ret (.bl (memN c t))
    | _ => stk
  | d => bnd (itsD d) fun xs => if flatD x && xs.all flatD then ret (.bl (xs.any fun e => eqvD e x)) else stk
theorem o_in : O2 cl X (compareOp .In) inD := by
  intro pins s σ H x y v u Q I rx ry q
  obtain ⟨W, h, d1, d2, v', h', rel, r1, r2, e, po⟩ := q
  unfold inD at e
  split at e
  · split at e
    · cases r1
      cases r2
      cases e
      refine op_in_sign pins s σ H _ _ v u Q I rx ry ⟨_, _, rfl, rfl, ?_⟩
      rw [D.S_tl, ← memN_eq]
      exact po.now rel (.bl _)
    · cases e
  · obtain ⟨ls, h1, e1, e2⟩ := bnd_ok e
    obtain ⟨rfl, a, xs, rfl, sq, rxs⟩ := itsD_ok rel r2 e1
    obtain ⟨z, e2⟩ := if_ok e2
    obtain ⟨z1, z2⟩ := Bool.and_eq_true_iff.mp z
    cases e2
    obtain ⟨i1, i2⟩ := inV_ok r1 z1 rxs z2
    have fx : flatV x = true := by
      cases r1 <;> first | (cases z1; done) | rfl
    exact op_in_seq pins s σ H _ _ v u Q I rx ry ⟨a, xs, rfl, sq, fx, i2, by rw [if_neg (by decide), i1]; exact po.now rel (.bl _)⟩
def ninD (x y : DV) : M DV := notD inD x y
theorem o_nin : O2 cl X (compareOp .NotIn) (notD inD) := by
  intro pins s σ H x y v u Q I rx ry q
  obtain ⟨W, h, d1, d2, v', h', rel, r1, r2, e, po⟩ := q
  obtain ⟨w, h1, e0, e9⟩ := bnd_ok e
  unfold inD at e0
  split at e0
  · split at e0
    · cases r1
      cases r2
      cases e0
      cases e9
      refine op_notIn_sign pins s σ H _ _ v u Q I rx ry ⟨_, _, rfl, rfl, ?_⟩
      rw [D.S_tl, ← memN_eq]
      exact po.now rel (.bl _)
    · cases e0
  · obtain ⟨ls, h1, e1, e2⟩ := bnd_ok e0
    obtain ⟨rfl, a, xs, rfl, sq, rxs⟩ := itsD_ok rel r2 e1
    obtain ⟨z, e2⟩ := if_ok e2
    obtain ⟨z1, z2⟩ := Bool.and_eq_true_iff.mp z
    cases e2
    cases e9
    obtain ⟨i1, i2⟩ := inV_ok r1 z1 rxs z2
    have fx : flatV x = true := by
      cases r1 <;> first | (cases z1; done) | rfl
    exact op_notIn_seq pins s σ H _ _ v u Q I rx ry ⟨a, xs, rfl, sq, fx, i2, by rw [if_pos rfl, i1]; exact po.now rel (.bl _)⟩
end
end D
set_option Elab.async false
set_option linter.all false
set_option maxRecDepth 100000
set_option maxHeartbeats 2000000
/-! D8: dicts, written dicts, texts times numbers, isinstance, globals. -/
namespace D
open PySem PySem.Spec PyProof.Rows L2 SlX ZG
section
variable {K : PySem.W.Frag} {cl : Cl} {W W1 : Wd} {H H1 : Hp} {h h' : Hs} {X : Cx} {pos : Pos} {e e2 : Expr} {ms : Exs} {ma mb mo : Ex}
/-! ### dicts -/
def keyEq : DV → DV → Bool
  | .int i, .int j => decide (i = j)
  | .str s, .str t => eqS s t
  | _, _ => false
def isKey : DV → Bool
  | .int _ => true
  | .str _ => true
  | _ => false
theorem keyEq_ok {d e : DV} {k l : Key} (a : RK d k) (b : RK e l) : decide (k = l) = keyEq d e := by
  cases d <;> first | exact a.elim | skip
  all_goals (cases e <;> first | exact b.elim | skip)
  all_goals (have a := a; have b := b; unfold RK at a b; subst a b)
  · rename_i i j
    show decide (Sum.inl i = (Sum.inl j : Key)) = decide (i = j)
    by_cases z : i = j
    · subst z; simp
    · simp [z]
  · show decide (Sum.inl _ = (Sum.inr _ : Key)) = false
    simp
  · show decide (Sum.inr _ = (Sum.inl _ : Key)) = false
    simp
  · rename_i s t
    show decide (Sum.inr (SX.S s) = (Sum.inr (SX.S t) : Key)) = eqS s t
    rw [eqS_iff]
    by_cases z : s = t
    · subst z; simp
    · have : ¬ (Sum.inr (SX.S s) = (Sum.inr (SX.S t) : Key)) := fun q => by
        injection q with q
        exact z (SX.S_inj q)
      simp [z, this]
theorem rk_of {d : DV} {x : V} (r : RV K cl W H d x) (f : isKey d = true) : ∃ k, RK d k ∧ x = kV k := by
  cases r <;> first | (cases f; done) | skip
  · exact ⟨.inl _, rfl, rfl⟩
  · exact ⟨.inr _, rfl, rfl⟩
def putKD (kvs : List (DV × DV)) (k v : DV) : List (DV × DV) := if kvs.any (fun kv => keyEq kv.1 k) then kvs.map (fun kv => if keyEq kv.1 k then (kv.1, v) else kv) else kvs ++ [(k, v)]
theorem rkv_any {ds : List (DV × DV)} {xs : List (Key × V)} {d : DV} {k : Key} (r : RKV K cl W H ds xs) (a : RK d k) : (xs.any fun kv => decide (kv.1 = k)) = ds.any fun kv => keyEq kv.1 d := by
  induction r with
  | nil => rfl
  | cons b c t ih => rw [List.any_cons, List.any_cons, ih, keyEq_ok b a]
theorem RKV.append {ds es : List (DV × DV)} {xs ys : List (Key × V)} (r : RKV K cl W H ds xs) (t : RKV K cl W H es ys) : RKV K cl W H (ds ++ es) (xs ++ ys) := by
  induction r with
  | nil => exact t
  | cons b c _ ih => exact .cons b c ih
theorem RKV.put {ds : List (DV × DV)} {xs : List (Key × V)} {d e : DV} {k : Key} {x : V} (r : RKV K cl W H ds xs) (a : RK d k) (rx : RV K cl W H e x) : RKV K cl W H (putKD ds d e) (putK xs k x) := by
  unfold putKD putK
  rw [rkv_any r a]
  cases ds.any (fun kv => keyEq kv.1 d) with
  | false => exact r.append (.cons a rx .nil)
  | true =>
    rw [if_pos rfl, if_pos rfl]
    induction r with
    | nil => exact .nil
    | cons b c t ih =>
      rename_i d0 e0 k0 x0 ds0 xs0
      rw [List.map_cons, List.map_cons]
      have q := keyEq_ok b a
      by_cases z : k0 = k
      · have q2 : keyEq d0 d = true := by rw [← q]; exact decide_eq_true z
        rw [if_pos z, if_pos q2]
        exact .cons b rx ih
      · have q2 : ¬ keyEq d0 d = true := by rw [← q]; simp [z]
        rw [if_neg z, if_neg q2]
        exact .cons b c ih
def lookKD (kvs : List (DV × DV)) (k : DV) : Option DV := match kvs with
  | [] => none
  | kv :: t => if keyEq kv.1 k then some kv.2 else lookKD t k
theorem RKV.look {ds : List (DV × DV)} {xs : List (Key × V)} {d : DV} {k : Key} (r : RKV K cl W H ds xs) (a : RK d k) : (lookKD ds d = none ∧ valV xs k = none) ∨ ∃ e x, lookKD ds d = some e ∧ valV xs k = some x ∧ RV K cl W H e x := by
  induction r with
  | nil => exact .inl ⟨rfl, rfl⟩
  | cons b c t ih =>
    rename_i d0 e0 k0 x0 ds0 xs0
    have q := keyEq_ok b a
    show (((if keyEq d0 d then some e0 else lookKD ds0 d) = none ∧ valV ((k0, x0) :: xs0) k = none) ∨ _)
    by_cases z : k0 = k
    · have q2 : keyEq d0 d = true := by rw [← q]; exact decide_eq_true z
      refine .inr ⟨e0, x0, ?_, ?_, c⟩
      · show (if keyEq d0 d then some e0 else lookKD ds0 d) = some e0
        rw [if_pos q2]
      · unfold valV
        rw [List.find?_cons_of_pos (by simp [z])]
        rfl
    · have q2 : ¬ keyEq d0 d = true := by rw [← q]; simp [z]
      have e1 : valV ((k0, x0) :: xs0) k = valV xs0 k := by
        unfold valV
        rw [List.find?_cons_of_neg (by simp [z])]
      have e2 : lookKD ((d0, e0) :: ds0) d = lookKD ds0 d := by
        show (if keyEq d0 d then some e0 else lookKD ds0 d) = _
        rw [if_neg q2]
      rw [e1, if_neg q2]
      rcases ih with ih | ⟨e', x', h1, h2, h3⟩
      · exact .inl ih
      · exact .inr ⟨e', x', by rw [e2]; exact h1, h2, h3⟩
def dicAt (d : DV) : M (List (DV × DV)) := fun h => match d with
  | .ref n => (match h[n]? with
    | some (.dic ks) => .ok ks h
    | _ => .stuck)
  | _ => .stuck
theorem dicAt_ok {d : DV} {x : V} {ks : List (DV × DV)} (rel : HRel K cl W h H) (r : RV K cl W H d x) (e : dicAt d h = .ok ks h') : h' = h ∧ ∃ a xs, x = .ref a ∧ H a = some (.dK xs) ∧ RKV K cl W H ks xs := by
  unfold dicAt at e
  cases r <;> first | (cases e; done) | skip
  rename_i n a dx hn
  have e : (match h[n]? with
    | some (.dic ks) => R.ok ks h
    | _ => R.stuck) = R.ok ks h' := e
  cases q : h[n]? with
  | none => rw [q] at e; cases e
  | some u =>
    rw [q] at e
    cases u <;> first | (cases e; done) | skip
    cases e
    obtain ⟨_, xs, hx, rx⟩ := rel.ok n _ a dx q hn
    exact ⟨rfl, a, xs, rfl, hx, rx⟩
/-- d.get(k, z) -/
def eGet2 (mo mk mz : Ex) : Ex := fun sl => bnd (mo sl) fun d => bnd (dicAt d) fun _ => bnd (mk sl) fun k => bnd (mz sl) fun z => bnd (dicAt d) fun ks => if isKey k then ret ((lookKD ks k).getD z) else stk
variable {o k z : Expr} {mk mz : Ex} {apos : Pos}
theorem de_get2 {j : Nat} (hr : Room j X.A) (ho : DE cl X o mo) (hk : DE cl X k mk) (hz : DE cl X z mz) (m : M2 X o "get" apos k z pos) : DE cl X (.Call (.Attribute o "get" apos) [k, z] [] pos) (eGet2 mo mk mz) :=
  (pe_dget2 (by have := hr.un; omega) ho hk hz m).mono fun σ H Q q => by
  obtain ⟨W, h, sl, v, h', rel, rs, e, po⟩ := q
  obtain ⟨d, h1, e1, e2⟩ := bnd_ok e
  obtain ⟨ks0, h2, e3, e4⟩ := bnd_ok e2
  obtain ⟨kd, h3, e5, e6⟩ := bnd_ok e4
  obtain ⟨zd, h4, e7, e8⟩ := bnd_ok e6
  obtain ⟨ks, h5, e9, e10⟩ := bnd_ok e8
  obtain ⟨zk, e10⟩ := if_ok e10
  obtain ⟨rfl, rfl⟩ := ret_ok e10
  refine ⟨W, h, sl, d, h1, rel, rs, e1, fun W1 H1 x ext1 rel1 rv1 => ?_⟩
  obtain ⟨rfl, a, xs0, rfl, hx0, rx0⟩ := dicAt_ok rel1 rv1 e3
  refine ⟨a, rfl, .inl ⟨xs0, Rd.of hx0⟩, W1, _, sl, kd, h3, rel1, rs.mono ext1, e5, fun W2 H2 y ext2 rel2 rvk => ⟨W2, h3, sl, zd, h4, rel2, (rs.mono ext1).mono ext2, e7, fun W3 H3 w ext3 rel3 rvz => ?_⟩⟩
  obtain ⟨rfl, a', xs, ea, hx, rx⟩ := dicAt_ok rel3 ((rv1.mono ext2).mono ext3) e9
  cases ea
  obtain ⟨key, rk, rfl⟩ := rk_of (rvk.mono ext3) zk
  refine ⟨valV xs key, .inl ⟨xs, key, Rd.of hx, rfl, rfl⟩, ?_⟩
  rcases rx.look rk with ⟨l1, l2⟩ | ⟨e', x', l1, l2, l3⟩
  · rw [l2]
    rw [l1] at po
    exact po W3 H3 w ((ext1.trans ext2).trans ext3) rel3 rvz
  · rw [l2]
    rw [l1] at po
    exact po W3 H3 x' ((ext1.trans ext2).trans ext3) rel3 l3
/-- dict(pairs) -/
def pairsD : List DV → Option (List (DV × DV))
  | [] => some []
  | .tup [k, v] :: t => if isKey k then (pairsD t).map ((k, v) :: ·) else none
  | _ => none
def mergeD (ks : List (DV × DV)) : List (DV × DV) → List (DV × DV)
  | [] => ks
  | p :: t => mergeD (putKD ks p.1 p.2) t
theorem pairsD_ok : ∀ {ds : List DV} {ps : List (DV × DV)} {xs : List V}, pairsD ds = some ps → RVs K cl W H ds xs → ∃ (as : List Addr) (kvs : List (Key × V)), xs = as.map V.ref ∧ Paired (fun p kv => SqT K H p [kV kv.1, kv.2]) as kvs ∧ RKV K cl W H ps kvs
  | [], ps, xs, e, r => by cases e; cases r; exact ⟨[], [], rfl, .nil, .nil⟩
  | d :: t, ps, xs, e, r => by
    cases r with
    | cons r1 r2 =>
      unfold pairsD at e
      split at e
      · rename_i q; cases q
      · rename_i k v t' q
        cases q
        split at e
        · rename_i zk
          obtain ⟨qs, e1, e2⟩ := Option.map_eq_some_iff.mp e
          subst e2
          obtain ⟨as, kvs, rfl, p1, p2⟩ := pairsD_ok e1 r2
          cases r1 with
          | tup f rr =>
            obtain ⟨x, y, rfl, rk, ry⟩ := rr.two
            obtain ⟨key, k1, rfl⟩ := rk_of rk zk
            exact ⟨_ :: as, (key, y) :: kvs, rfl, .cons f.sq p1, .cons k1 ry p2⟩
        · cases e
      · cases e
theorem merge_ok {ps ks : List (DV × DV)} {kvs xs : List (Key × V)} (a : RKV K cl W H ks xs) (r : RKV K cl W H ps kvs) : RKV K cl W H (mergeD ks ps) (mergeK xs kvs) := by
  induction r generalizing ks xs with
  | nil => exact a
  | cons b c t ih => exact ih (a.put b c)
def dictD : List DV → M DV := lsOf fun ls => match pairsD ls with
  | some ps => fun h => .ok (.ref h.length) (h ++ [.dic (mergeD [] ps)])
  | none => stk
theorem po_dic {ks : List (DV × DV)} {xs : List (Key × V)} {Q : VK} (po : Po K cl W H (h ++ [.dic ks]) (.ref h.length) Q) (rel : HRel K cl W h H) (r : RKV K cl W H ks xs) (p : Addr) (hp : H p = none) : Q (.ref p) (upd H p (.dK xs)) := by
  have e := ext_add (o := .dK xs) hp rel
  refine po _ _ _ e (rel.add hp (fun _ _ z => by cases z) ⟨fun q => ?_, xs, upd_same, r.mono e⟩) (.ref (d := p) ?_)
  · obtain ⟨u, hu⟩ := rel.tr p q
    rw [hp] at hu; cases hu
  · show (W.ρ ++ [(p, p)])[h.length]? = some (p, p)
    rw [rel.len]; simp
theorem c_dict (hc : X.calm = true) : CD cl X (.type "dict") dictD := by
  intro pins s σ H xs us Q I rv q
  obtain ⟨W, h, ds, v', h', rel, r, e, po⟩ := q
  obtain ⟨a, ls, ys, rfl, ha, ry, e⟩ := lsOf_ok rel r e
  cases z : pairsD ls with
  | none => rw [z] at e; cases e
  | some ps =>
    rw [z] at e
    cases e
    obtain ⟨as, kvs, rfl, p1, p2⟩ := pairsD_ok z ry
    exact call_dictP hc pins s σ H _ us Q I rv ⟨a, as, kvs, rfl, SqL.of ha, p1, fun p hp => po_dic po rel (merge_ok .nil p2) p hp⟩
/-! ### written dicts: texts to texts -/
def lookT : List (List Nat × List Nat) → List Nat → Option (List Nat)
  | [], _ => none
  | p :: t, s => if eqS p.1 s then some p.2 else lookT t s
structure KTab (K : PySem.W.Frag) (w : World) (d : Addr) (tab : List (List Nat × List Nat)) : Prop where
  kd : ∃ es n, KDict K w d es n
  look : ∀ s, ∃ r, PySem.W.nsIn K d (SX.S s) = some r ∧ ((lookT tab s = none ∧ r = none) ∨ ∃ t tok, lookT tab s = some t ∧ r = some (.str (SX.S t) tok))
def eKdIn (tab : List (List Nat × List Nat)) (m : Ex) : Ex := fun sl => bnd (m sl) fun d => match d with
  | .str s => ret (.bl (lookT tab s).isSome)
  | _ => stk
theorem de_kdin {x : Str} {p : Pos} {d : Addr} {tab : List (List Nat × List Nat)} (T : KTab X.K X.w d tab) (hg : Gl X x) (hm : X.mg x = some (.ref d)) (hk : DE cl X k mk) (hd : (x == ("__debug__" : Str)) = false := by decide) (hb : behindInMarks .In (.Name x p) = false := by rfl) :
    DE cl X (.Compare k [.In] [.Name x p] pos) (eKdIn tab mk) := by
  obtain ⟨es, n, D⟩ := T.kd
  refine (pe_cmpR (op_in_kd D) hk (pe_glob hg hm (show RelV (.ref d) (.ref d) from rfl) hd) hb).mono fun σ H Q q => ?_
  obtain ⟨W, h, sl, v, h', rel, rs, e, po⟩ := q
  obtain ⟨kd, h1, e1, e2⟩ := bnd_ok e
  refine ⟨W, h, sl, kd, h1, rel, rs, e1, fun W1 H1 y ext rel1 rv => ?_⟩
  split at e2
  · cases e2
    cases rv
    rename_i s
    obtain ⟨r, h1, h2⟩ := T.look s
    refine ⟨SX.S s, r, rfl, rfl, h1, ?_⟩
    have : r.isSome = (lookT tab s).isSome := by
      rcases h2 with ⟨a, b⟩ | ⟨t, tok, a, b⟩ <;> rw [a, b] <;> rfl
    rw [this]
    exact po W1 H1 _ ext rel1 (.bl _)
  · cases e2
def eKdGet2 (tab : List (List Nat × List Nat)) (mk mz : Ex) : Ex := fun sl => bnd (mk sl) fun k => bnd (mz sl) fun z => match k with
  | .str s => (match lookT tab s with
    | some t => ret (.str t)
    | none => ret z)
  | _ => stk
theorem de_kdget2 {x : Str} {p : Pos} {d : Addr} {tab : List (List Nat × List Nat)} (T : KTab X.K X.w d tab) (hg : Gl X x) (hm : X.mg x = some (.ref d)) (hk : DE cl X k mk) (hz : DE cl X z mz) (m : M2 X (.Name x p) "get" apos k z pos) (hd : (x == ("__debug__" : Str)) = false := by decide) :
    DE cl X (.Call (.Attribute (.Name x p) "get" apos) [k, z] [] pos) (eKdGet2 tab mk mz) := by
  obtain ⟨es, n, D⟩ := T.kd
  refine ⟨fun pins s σ H Q I q => ?_⟩
  obtain ⟨W, h, sl, v, h', rel, rs, e, po⟩ := q
  obtain ⟨kd, h1, e1, e2⟩ := bnd_ok e
  obtain ⟨zd, h2, e3, e4⟩ := bnd_ok e2
  have ho : PE X (.Name x p) (tC (.ref d)) := pe_glob hg hm (show RelV (.ref d) (.ref d) from rfl) hd
  refine wpAny_Call_method m.base m.few m.line PySem.F.plainAttrs_dict PySem.F.slot_dict_get PySem.F.type_dict_get (thn (ho.run pins s σ H (fun x H1 => x = .ref d ∧ H1 = H) I ⟨rfl, rfl⟩) fun u s1 ⟨x1, H1, I1, rx, ex, eH⟩ => ?_)
  subst ex eH
  obtain rfl : u = Value.ref d := rx
  have ty := kd_type D I1
  obtain ⟨od, hod, hcd⟩ := ty
  refine ⟨⟨od, hod, hcd⟩, ?_, ?_⟩
  · intro b q
    cases q
    obtain ⟨ob, _, _, h1, h2, _⟩ := PySem.W.mapOf_K (prog := X.prog) (w := X.w) I1.kIn D.at_ D.lit
    exact ⟨ob, h1, h2.2.1⟩
  rw [m.trees]
  refine Calls.callWith_builtin rfl (Calls.evalArgs_plain (Calls.spliced_cons (thn (hk.run pins s1 σ H1 (fun y H2 => ∃ W2, Ext W H1 W2 H2 ∧ HRel X.K cl W2 h1 H2 ∧ RV X.K cl W2 H2 kd y) I1 ⟨W, h, sl, kd, h1, rel, rs, e1, fun W2 H2 y ex r2 rv => ⟨W2, ex, r2, rv⟩⟩) fun iv s2 ⟨y, H2, I2, ry, W2, ext2, rel2, rvk⟩ =>
    Calls.spliced_cons (thn (hz.run pins s2 σ H2 (fun w H3 => ∃ W3, Ext W2 H2 W3 H3 ∧ HRel X.K cl W3 h2 H3 ∧ RV X.K cl W3 H3 zd w) I2 ⟨W2, h1, sl, zd, h2, rel2, rs.mono ext2, e3, fun W3 H3 w ex r3 rv => ⟨W3, ex, r3, rv⟩⟩) fun fv s3 ⟨w, H3, I3, rz, W3, ext3, rel3, rvz⟩ => Calls.spliced_nil ?_))))
  split at e4
  · cases rvk
    obtain ⟨tk, rfl⟩ := ry
    have md := PySem.W.mapOf_K (prog := X.prog) (w := X.w) I3.kIn D.at_ D.lit
    obtain ⟨r, l1, l2⟩ := T.look _
    refine call_meetsIn PySem.F.slot_dict_get (kd_type D I3) PySem.F.entry_dict_get (PySem.F.args_dict_get_3 _ _ _) (meets_dict_get_default (PySem.strKind X.prog X.w) d (PySem.strKind_is X.prog X.w _ tk) D.low fv) ⟨_, md, ?_⟩
    rw [PySem.W.find_K D.at_ l1]
    rcases l2 with ⟨a, b⟩ | ⟨t, tok, a, b⟩
    · rw [a] at e4
      cases e4
      subst b
      exact ⟨w, H3, I3.tok _, rz, po W3 H3 w (ext2.trans ext3) rel3 rvz⟩
    · rw [a] at e4
      cases e4
      subst b
      exact ⟨.str (SX.S t), H3, I3.tok _, ⟨tok, rfl⟩, po W3 H3 _ (ext2.trans ext3) rel3 (.str t)⟩
  · cases e4
/-! ### a text so many times -/
def repD (x y : DV) : M DV := match x, y with
  | .str s, .int i => if Nat.ble s.length 16 && Nat.ble i.natAbs 1048576 then ret (.str (repS i.toNat s)) else stk
  | a, b => mulD a b
theorem fold_cat (x : Array Nat) : ∀ (n : Nat) (acc : Array Nat), (List.replicate n x).foldl (· ++ ·) acc = acc ++ ((List.replicate n x.toList).flatten).toArray
  | 0, acc => by simp
  | n + 1, acc => by
    rw [List.replicate_succ, List.foldl_cons, fold_cat x n, List.replicate_succ, List.flatten_cons]
    apply Array.ext'
    simp
theorem mul_S (s : List Nat) (i : Int) : Txt.mul (SX.S s) i = SX.S (repS i.toNat s) := by
  unfold Txt.mul
  split
  · rename_i q
    have : i.toNat = 0 := by omega
    rw [this]; rfl
  · rename_i q
    split
    · rename_i c
      rw [Bool.or_eq_true] at c
      rcases c with c | c
      · have : i = 1 := by simpa using c
        subst this
        show SX.S s = SX.S ([s].flatten)
        simp
      · have : s = [] := by
          have c : (SX.S s).length == 0 := c
          rw [SX.S_len] at c
          simpa using c
        subst this
        have : repS i.toNat [] = [] := by unfold repS; simp
        rw [this]
    · rw [show (SX.S s).cps = s.toArray from rfl, fold_cat]
      unfold repS SX.S
      simp
theorem o_rep : O2 cl X (binaryOp .Mult) repD := by
  intro pins s σ H x y v u Q I rx ry q
  obtain ⟨W, h, d1, d2, v', h', rel, r1, r2, e, po⟩ := q
  unfold repD at e
  split at e
  · obtain ⟨z, e⟩ := if_ok e
    obtain ⟨z1, z2⟩ := Bool.and_eq_true_iff.mp z
    have z1 := Nat.le_of_ble_eq_true z1
    have z2 := Nat.le_of_ble_eq_true z2
    cases e
    cases r1
    cases r2
    obtain ⟨t1, rfl⟩ := rx
    obtain ⟨t2, rfl⟩ := ry
    refine SB.mul (PyProof.Rows.mulOk_of 16 1048576 (by rw [SX.S_len]; exact z1) (by omega) (by omega) (by decide) (by decide)) fun t' k => ⟨.str (SX.S _), H, ?_, ⟨t', by rw [mul_S]⟩, po.now rel (.str _)⟩
    exact I.tok k
  · exact o_mul pins s σ H x y v u Q I rx ry ⟨W, h, _, _, v', h', rel, r1, r2, e, po⟩
end
end D
set_option Elab.async false
set_option linter.all false
set_option maxRecDepth 100000
set_option maxHeartbeats 2000000
/-! D9: classes with slots: making, fields, properties, methods, operators. -/
namespace D
open PySem PySem.Spec PyProof.Rows L2 SlX
section
variable {K : PySem.W.Frag} {cl : Cl} {W W1 : Wd} {H H1 : Hp} {h h' : Hs} {X : Cx} {pos : Pos} {e e2 : Expr} {ms : Exs} {ma mb mo : Ex}
/-! ### callees -/
def FnD (P : Program) (w : World) (K : PySem.W.Frag) (mg : Str → Option Value) (base : Heap) (cl : Cl) (k : Nat) (f n : Nat) (g : List DV → M DV) : Prop := ∃ fd ps, FnOk P w K mg base L2.CX0 k f fd ps (spD K cl n g) ∧ Binds K fd ps []
theorem FnD.r {P : Program} {w : World} {mg : Str → Option Value} {base : Heap} {k f n : Nat} {g : List DV → M DV} (F : FnD P w K mg base cl k f n g) : FnR P w K mg base L2.CX0 k f (spD K cl n g) := by
  obtain ⟨fd, ps, F, b⟩ := F
  refine (F.raw b .nil).imp fun vs H Q E q => ?_
  rw [List.append_nil]
  exact q
/-! ### the D heap: an instance comes, is written, is frozen -/
def Wd.addI (W : Wd) (x dx : Addr) : Wd := ⟨W.ρ ++ [(x, dx)], W.F⟩
theorem getElem?_pre {α : Type} {l r : List α} {n : Nat} {p : α} (e : l[n]? = some p) : (l ++ r)[n]? = some p := by
  rw [List.getElem?_append_left (List.getElem?_eq_some_iff.mp e).1]; exact e
theorem HRel.addI {x dx : Addr} {c : Nat} (rel : HRel K cl W h H) (nx : H x = none) (nd : H dx = none) (ne : dx ≠ x) :
    Ext W H (W.addI x dx) (upd (upd H dx (.own x)) x (.ins (cl.ad c) dx [])) ∧ HRel K cl (W.addI x dx) (h ++ [.ins c []]) (upd (upd H dx (.own x)) x (.ins (cl.ad c) dx [])) := by
  have oth : ∀ b, b ≠ x → b ≠ dx → upd (upd H dx (.own x)) x (.ins (cl.ad c) dx []) b = H b := fun b h1 h2 => by rw [upd_ne h1, upd_ne h2]
  have st : ∀ b u, H b = some u → upd (upd H dx (.own x)) x (.ins (cl.ad c) dx []) b = some u := fun b u q => (oth b (ne_of_none q nx) (ne_of_none q nd)).trans q
  have fx : ¬ W.F x := fun q => by obtain ⟨u, hu⟩ := rel.tr x q; rw [nx] at hu; cases hu
  have fd : ¬ W.F dx := fun q => by obtain ⟨u, hu⟩ := rel.tr dx q; rw [nd] at hu; cases hu
  have ext : Ext W H (W.addI x dx) (upd (upd H dx (.own x)) x (.ins (cl.ad c) dx [])) := ⟨fun n p q => getElem?_pre q, fun _ q => q, fun a q => oth a (fun z => fx (by rw [← z]; exact q)) (fun z => fd (by rw [← z]; exact q)), fun n p q => by
    rcases getElem?_snoc (show (W.ρ ++ [(x, dx)])[n]? = some p from q) with ⟨q, _⟩ | ⟨_, q⟩
    · exact .inl q
    · subst q; exact .inr fx⟩
  have nox : ∀ n dy, W.ρ[n]? ≠ some (x, dy) := fun n dy q => by
    obtain ⟨u, hu⟩ := rel.tr2 _ (List.mem_of_getElem? q)
    rw [nx] at hu; cases hu
  have hdx : upd (upd H dx (.own x)) x (.ins (cl.ad c) dx []) dx = some (.own x) := by rw [upd_ne ne, upd_same]
  refine ⟨ext, ?_, ?_, fun a q => ?_, fun q hq => ?_, fun n d' a dy h1 h2 => ?_, fun n m c1 c2 f1 f2 a d1 b d2 h1 h2 h3 h4 hn => ?_⟩
  · show (h ++ [DO.ins c []]).length = (W.ρ ++ [(x, dx)]).length
    rw [List.length_append, List.length_append, rel.len]; rfl
  · show ((W.ρ ++ [(x, dx)]).map (·.1)).Nodup
    rw [List.map_append, List.nodup_append]
    refine ⟨rel.nd, by simp, ?_⟩
    intro a ha b hb z
    simp at hb
    subst hb
    subst z
    obtain ⟨q, hq, e⟩ := List.mem_map.mp ha
    obtain ⟨u, hu⟩ := rel.tr2 q hq
    rw [e, nx] at hu
    cases hu
  · obtain ⟨u, hu⟩ := rel.tr a q
    exact ⟨u, st _ _ hu⟩
  · have hq : q ∈ W.ρ ++ [(x, dx)] := hq
    rcases List.mem_append.mp hq with hq | hq
    · obtain ⟨u, hu⟩ := rel.tr2 q hq
      exact ⟨u, st _ _ hu⟩
    · rw [List.mem_singleton.mp hq]; exact ⟨_, upd_same⟩
  · have h2 : (W.ρ ++ [(x, dx)])[n]? = some (a, dy) := h2
    rcases getElem?_snoc h1 with ⟨q, hn⟩ | ⟨q, q2⟩
    · rw [List.getElem?_append_left (by rw [← rel.len]; exact hn)] at h2
      exact (rel.ok n d' a dy q h2).grow ext st fun b q => .inl q
    · rcases getElem?_snoc h2 with ⟨_, hn⟩ | ⟨_, q3⟩
      · rw [← rel.len] at hn; omega
      · cases q3
        subst q2
        exact ⟨fx, fd, ne, ⟨_, hdx, .inl ⟨x, rfl⟩⟩, [], .inl ⟨upd_same, rfl⟩, fun i d q => by simp at q⟩
  · have h3 : (W.ρ ++ [(x, dx)])[n]? = some (a, d1) := h3
    have h4 : (W.ρ ++ [(x, dx)])[m]? = some (b, d2) := h4
    have dold : ∀ {j : Nat} {cc : Nat} {ff : List (Option DV)} {aa dd : Addr}, h[j]? = some (.ins cc ff) → W.ρ[j]? = some (aa, dd) → dd ≠ dx := fun q1 q2 z => by
      obtain ⟨_, _, _, ⟨u, hu, _⟩, _⟩ := rel.ok _ _ _ _ q1 q2
      rw [z, nd] at hu; cases hu
    rcases getElem?_snoc h1 with ⟨q, hn1⟩ | ⟨q, q2⟩
    · rw [List.getElem?_append_left (by rw [← rel.len]; exact hn1)] at h3
      rcases getElem?_snoc h2 with ⟨q', hn2⟩ | ⟨q', q2⟩
      · rw [List.getElem?_append_left (by rw [← rel.len]; exact hn2)] at h4
        exact rel.sep n m c1 c2 f1 f2 a d1 b d2 q q' h3 h4 hn
      · have e4 : b = x ∧ d2 = dx := by
          rcases getElem?_snoc h4 with ⟨_, z⟩ | ⟨_, z⟩
          · rw [← rel.len] at z; omega
          · cases z; exact ⟨rfl, rfl⟩
        rw [e4.2]
        exact dold q h3
    · have e3 : a = x ∧ d1 = dx := by
        rcases getElem?_snoc h3 with ⟨_, z⟩ | ⟨_, z⟩
        · rw [← rel.len] at z; omega
        · cases z; exact ⟨rfl, rfl⟩
      rcases getElem?_snoc h2 with ⟨q', hn2⟩ | ⟨q', q2'⟩
      · rw [List.getElem?_append_left (by rw [← rel.len]; exact hn2)] at h4
        rw [e3.2]
        exact (dold q' h4).symm
      · omega
/-- a field is written -/
theorem HRel.slw {n c : Nat} {a dx : Addr} {fs fs' : List (Option DV)} {vs' : List (Option V)} (rel : HRel K cl W h H) (e : h[n]? = some (.ins c fs)) (hn : W.ρ[n]? = some (a, dx)) (r : ROs K cl W H fs' vs') :
    Ext W H W (slH H a (cl.ad c) dx vs') ∧ HRel K cl W (h.set n (.ins c fs')) (slH H a (cl.ad c) dx vs') := by
  obtain ⟨fa, fd, ne, ⟨u, hu, ow⟩, vs, sl, _⟩ := rel.ok n _ a dx e hn
  have oth : ∀ b, b ≠ a → b ≠ dx → slH H a (cl.ad c) dx vs' b = H b := fun b h1 h2 => slH_ne h1 h2
  have ext : Ext W H W (slH H a (cl.ad c) dx vs') := ⟨fun _ _ q => q, fun _ q => q, fun b q => oth b (fun z => fa (by rw [← z]; exact q)) (fun z => fd (by rw [← z]; exact q)), fun _ _ q => .inl q⟩
  have hda : slH H a (cl.ad c) dx vs' dx = some (.xd []) := by unfold slH; rw [upd_ne ne, upd_same]
  have haa : slH H a (cl.ad c) dx vs' a = some (SlO a (cl.ad c) dx vs') := by unfold slH; rw [upd_same]
  have ha0 : (∃ C d f, H a = some (.ins C d f)) ∨ ∃ φ, H a = some (.ext φ) := by
    rcases sl with ⟨q, _⟩ | ⟨q, _⟩
    · exact .inl ⟨_, _, _, q⟩
    · exact .inr ⟨_, q⟩
  have nown : ∀ b w, H b = some w → OwnD w → b ≠ a := fun b w hw o z => by
    rw [z] at hw
    rcases ha0 with ⟨_, _, _, q⟩ | ⟨_, q⟩ <;> (rw [q] at hw; cases hw; rcases o with ⟨_, o⟩ | o <;> cases o)
  have ndx : ∀ b w, H b = some w → ¬ OwnD w → b ≠ dx := fun b w hw o z => by
    rw [z, hu] at hw
    cases hw
    exact o ow
  refine ⟨ext, by rw [List.length_set]; exact rel.len, rel.nd, fun b q => ?_, fun q hq => ?_, fun m d' b dy h1 h2 => ?_, fun m k c1 c2 f1 f2 b d1 b' d2 h1 h2 h3 h4 hmk => ?_⟩
  · obtain ⟨w, hw⟩ := rel.tr b q
    exact ⟨w, (ext.keep b q).trans hw⟩
  · by_cases z : q.1 = a
    · exact ⟨_, by rw [z]; exact haa⟩
    · by_cases z2 : q.1 = dx
      · exact ⟨_, by rw [z2]; exact hda⟩
      · obtain ⟨w, hw⟩ := rel.tr2 q hq
        exact ⟨w, (oth _ z z2).trans hw⟩
  · by_cases hm : m = n
    · subst hm
      rw [hn] at h2
      cases h2
      have : m < h.length := (List.getElem?_eq_some_iff.mp e).1
      rw [List.getElem?_set_self this] at h1
      cases h1
      exact ⟨fa, fd, ne, ⟨_, hda, .inr rfl⟩, vs', .inr ⟨haa, hda⟩, r.mono ext⟩
    · rw [List.getElem?_set_ne (Ne.symm hm)] at h1
      have q := rel.ok m d' b dy h1 h2
      have nb : b ≠ a := fun z => hm (rel.inj (a := a) (by rw [← z]; exact h2) hn)
      have no : ∀ w, H b = some w → (∀ y, w ≠ .own y) → w ≠ .xd [] → slH H a (cl.ad c) dx vs' b = some w := fun w hw k1 k2 => (oth b nb (ndx b w hw fun o => o.elim (fun ⟨y, o⟩ => k1 y o) k2)).trans hw
      cases d' with
      | lst ds =>
        obtain ⟨n1, xs, h1, r⟩ := q
        exact ⟨n1, xs, no _ h1 (fun y z => by cases z) (fun z => by cases z), r.mono ext⟩
      | dic ds =>
        obtain ⟨n1, xs, h1, r⟩ := q
        exact ⟨n1, xs, no _ h1 (fun y z => by cases z) (fun z => by cases z), r.mono ext⟩
      | dfz ds =>
        obtain ⟨n1, od, xs, h1, r⟩ := q
        exact ⟨n1, od, xs, no _ h1 (fun y z => by cases z) (fun z => by cases z), r.mono ext⟩
      | pot k ds =>
        obtain ⟨n1, i, j, l, h1, r⟩ := q
        exact ⟨n1, i, j, l, no _ h1 (fun y z => by cases z) (fun z => by cases z), r⟩
      | dead => exact True.intro
      | ins c0 f0 =>
        obtain ⟨n1, n2, ne', ⟨u', hu', ow'⟩, vs0, sl0, r0⟩ := q
        have d1 : dy ≠ a := nown dy u' hu' ow'
        have d2 : dy ≠ dx := (rel.sep n m c c0 fs f0 a dx b dy e h1 hn h2 (Ne.symm hm)).symm
        refine ⟨n1, n2, ne', ⟨u', (oth dy d1 d2).trans hu', ow'⟩, vs0, ?_, r0.mono ext⟩
        rcases sl0 with ⟨q1, q2⟩ | ⟨q1, q2⟩
        · exact .inl ⟨no _ q1 (fun y z => by cases z) (fun z => by cases z), q2⟩
        · exact .inr ⟨no _ q1 (fun y z => by cases z) (fun z => by cases z), (oth dy d1 d2).trans q2⟩
  · have back : ∀ {j : Nat} {cc : Nat} {ff : List (Option DV)}, (h.set n (.ins c fs'))[j]? = some (.ins cc ff) → ∃ gg cc', h[j]? = some (.ins cc' gg) := fun {j cc ff} z => by
      by_cases hj : j = n
      · subst hj; exact ⟨fs, c, e⟩
      · rw [List.getElem?_set_ne (Ne.symm hj)] at z
        exact ⟨ff, cc, z⟩
    obtain ⟨g1, k1, z1⟩ := back h1
    obtain ⟨g2, k2, z2⟩ := back h2
    exact rel.sep m k k1 k2 g1 g2 b d1 b' d2 z1 z2 h3 h4 hmk
/-- made: from now on it stays -/
def Wd.fz2 (W : Wd) (a dx : Addr) : Wd := ⟨W.ρ, fun b => W.F b ∨ b = a ∨ b = dx⟩
theorem ros_all : ∀ {ds : List DV} {vs : List (Option V)}, ROs K cl W H (ds.map some) vs → ∃ xs rest, vs = xs.map some ++ rest ∧ RVs K cl W H ds xs
  | [], vs, _ => ⟨[], vs, rfl, .nil⟩
  | d :: ds, vs, r => by
    obtain ⟨x, hx, rx⟩ := r 0 d rfl
    cases vs with
    | nil => simp at hx
    | cons v vs =>
      have hx : v = some x := by simpa using hx
      subst hx
      obtain ⟨xs, rest, e, rr⟩ := ros_all (ds := ds) (vs := vs) fun i d q => by
        obtain ⟨y, hy, ry⟩ := r (i + 1) d (by simpa using q)
        exact ⟨y, by simpa using hy, ry⟩
      exact ⟨x :: xs, rest, by rw [e]; rfl, .cons rx rr⟩
theorem HRel.freeze {n c : Nat} {a dx : Addr} {d : DV} {ds : List DV} (rel : HRel K cl W h H) (e : h[n]? = some (.ins c ((d :: ds).map some))) (hn : W.ρ[n]? = some (a, dx)) :
    Ext W H (W.fz2 a dx) H ∧ HRel K cl (W.fz2 a dx) (h.set n .dead) H ∧ RV K cl (W.fz2 a dx) H (.obj c (d :: ds)) (.ref a) := by
  obtain ⟨fa, fd, ne, ⟨u, hu, ow⟩, vs, sl, r⟩ := rel.ok n _ a dx e hn
  have ext : Ext W H (W.fz2 a dx) H := ⟨fun _ _ q => q, fun _ q => .inl q, fun _ _ => rfl, fun _ _ q => .inl q⟩
  obtain ⟨xs, rest, ev, rx⟩ := ros_all r
  have ne0 : vs ≠ [] := fun z => by
    rw [z] at ev
    cases rx
    cases ev
  have hsl : H a = some (SlO a (cl.ad c) dx vs) ∧ H dx = some (.xd []) := by
    rcases sl with ⟨_, q⟩ | q
    · exact absurd q ne0
    · exact q
  have ndx : ∀ b w, H b = some w → (∀ y, w ≠ .own y) → w ≠ .xd [] → b ≠ dx := fun b w hw k1 k2 z => by
    rw [z, hu] at hw
    cases hw
    exact ow.elim (fun ⟨y, o⟩ => k1 y o) k2
  refine ⟨ext, ⟨by rw [List.length_set]; exact rel.len, rel.nd, fun b q => ?_, rel.tr2, fun m d' b dy h1 h2 => ?_, fun m k c1 c2 f1 f2 b d1 b' d2 h1 h2 h3 h4 hmk => ?_⟩, .obj (.inr (.inl rfl)) (.inr (.inr rfl)) ne (by rw [← ev]; exact hsl.1) hsl.2 (rx.mono ext)⟩
  · rcases q with q | q | q
    · exact rel.tr b q
    · exact ⟨_, by rw [q]; exact hsl.1⟩
    · exact ⟨_, by rw [q]; exact hsl.2⟩
  · by_cases hm : m = n
    · subst hm
      have : m < h.length := (List.getElem?_eq_some_iff.mp e).1
      rw [List.getElem?_set_self this] at h1
      cases h1
      exact True.intro
    · rw [List.getElem?_set_ne (Ne.symm hm)] at h1
      have q := rel.ok m d' b dy h1 h2
      have nb : b ≠ a := fun z => hm (rel.inj (a := a) (by rw [← z]; exact h2) hn)
      have nf : ∀ w, H b = some w → (∀ y, w ≠ .own y) → w ≠ .xd [] → ¬ W.F b → ¬ (W.fz2 a dx).F b := fun w hw k1 k2 f z => by
        rcases z with z | z | z
        · exact f z
        · exact nb z
        · exact ndx b w hw k1 k2 z
      cases d' with
      | lst ds =>
        obtain ⟨n1, xs, h1, r⟩ := q
        exact ⟨nf _ h1 (fun y z => by cases z) (fun z => by cases z) n1, xs, h1, r.mono ext⟩
      | dic ds =>
        obtain ⟨n1, xs, h1, r⟩ := q
        exact ⟨nf _ h1 (fun y z => by cases z) (fun z => by cases z) n1, xs, h1, r.mono ext⟩
      | dfz ds =>
        obtain ⟨n1, od, xs, h1, r⟩ := q
        exact ⟨.inl n1, od, xs, h1, r.mono ext⟩
      | pot k ds =>
        obtain ⟨n1, i, j, l, h1, r⟩ := q
        exact ⟨nf _ h1 (fun y z => by cases z) (fun z => by cases z) n1, i, j, l, h1, r⟩
      | dead => exact True.intro
      | ins c0 f0 =>
        obtain ⟨n1, n2, ne', ⟨u', hu', ow'⟩, vs0, sl0, r0⟩ := q
        have d2 : dy ≠ dx := (rel.sep n m c c0 _ f0 a dx b dy e h1 hn h2 (Ne.symm hm)).symm
        have d1 : dy ≠ a := fun z => by
          rw [z, hsl.1] at hu'
          cases hu'
          rcases ow' with ⟨_, o⟩ | o <;> cases o
        have hb : ∃ w, H b = some w ∧ (∀ y, w ≠ .own y) ∧ w ≠ .xd [] := by
          rcases sl0 with ⟨q1, _⟩ | ⟨q1, _⟩
          · exact ⟨_, q1, (fun y z => by cases z), (fun z => by cases z)⟩
          · exact ⟨_, q1, (fun y z => by cases z), (fun z => by cases z)⟩
        obtain ⟨w, hw, k1, k2⟩ := hb
        refine ⟨nf w hw k1 k2 n1, fun z => ?_, ne', ⟨u', hu', ow'⟩, vs0, sl0, r0.mono ext⟩
        rcases z with z | z | z
        · exact n2 z
        · exact d1 z
        · exact d2 z
  · have back : ∀ {j : Nat} {cc : Nat} {ff : List (Option DV)}, (h.set n DO.dead)[j]? = some (.ins cc ff) → h[j]? = some (.ins cc ff) := fun {j cc ff} z => by
      by_cases hj : j = n
      · subst hj
        have : j < h.length := (List.getElem?_eq_some_iff.mp e).1
        rw [List.getElem?_set_self this] at z
        cases z
      · rw [List.getElem?_set_ne (Ne.symm hj)] at z
        exact z
    exact rel.sep m k c1 c2 f1 f2 b d1 b' d2 (back h1) (back h2) h3 h4 hmk
end
end D
set_option Elab.async false
set_option linter.all false
set_option maxRecDepth 100000
set_option maxHeartbeats 2000000
/-! D10: classes with slots, the rules; isinstance; globals. -/
namespace D
open PySem PySem.Spec PyProof.Rows L2 SlX
section
variable {K : PySem.W.Frag} {cl : Cl} {W W1 : Wd} {H H1 : Hp} {h h' : Hs} {X : Cx} {pos : Pos} {o e e2 : Expr} {es : List Expr} {ms : Exs} {ma mb mo : Ex} {f : Str}
theorem _root_.L2.PE.any {ι : Type} {X : Cx} {e : Expr} {t : ι → TE} {p : ι → Prop} (q : ∀ i, p i → PE X e (t i)) : PE X e (fun σ H Q => ∃ i, p i ∧ t i σ H Q) := ⟨fun pins s σ H Q I ⟨i, hp, z⟩ => (q i hp).run pins s σ H Q I z⟩
theorem _root_.L2.PE.or {X : Cx} {e : Expr} {t u : TE} (p : PE X e t) (q : PE X e u) : PE X e (fun σ H Q => t σ H Q ∨ u σ H Q) := ⟨fun pins s σ H Q I z => z.elim (p.run pins s σ H Q I) (q.run pins s σ H Q I)⟩
/-! ### e.f -/
inductive AtK where
  | sl (i : Nat) | pr (g : List DV → M DV)
def insAt (n : Nat) : M (Nat × List (Option DV)) := fun h => match h[n]? with
  | some (.ins c fs) => .ok (c, fs) h
  | _ => .stuck
theorem insAt_ok {n c : Nat} {fs : List (Option DV)} (e : insAt n h = .ok (c, fs) h') : h' = h ∧ h[n]? = some (.ins c fs) := by
  unfold insAt at e
  cases q : h[n]? with
  | none => rw [q] at e; cases e
  | some u =>
    rw [q] at e
    cases u <;> first | (cases e; done) | skip
    cases e
    exact ⟨rfl, rfl⟩
def atK (k : AtK) (c : Nat) (fs : List DV) : M DV := match k with
  | .sl i => optM fs[i]?
  | .pr g => g [.obj c fs]
def atF (k : AtK) (fs : List (Option DV)) : M DV := match k with
  | .sl i => bnd (optM fs[i]?) optM
  | .pr _ => stk
def atD (A : Nat → Option AtK) (d : DV) : M DV := match d with
  | .obj c fs => bnd (optM (A c)) fun k => atK k c fs
  | .ref n => bnd (insAt n) fun q => bnd (optM (A q.1)) fun k => atF k q.2
  | _ => stk
def eAttr (A : Nat → Option AtK) (m : Ex) : Ex := fun sl => bnd (m sl) (atD A)
/-- class c's f -/
def AtOk (X : Cx) (cl : Cl) (c : Nat) (f : Str) : AtK → Prop
  | .sl i => SCls X.K (cl.ad c) ∧ ∃ p, Slot1 X.K (cl.ad c) f p i
  | .pr g => SCls X.K (cl.ad c) ∧ ∃ (p gf : Addr) (j : Nat), PySem.W.findIn X.K (.ref (cl.ad c)) f = some (some (.ref p)) ∧ PySem.W.specialIn X.K (.ref p) "__get__" = some (some (.builtin "property.__get__")) ∧ PySem.W.takesIn X.K (.ref p) = some true ∧
      (∃ rest, PySem.W.recIn X.K p "property" = some (.ref gf :: rest)) ∧ FnR X.prog X.w X.K X.mg X.base L2.CX0 j gf (spD X.K cl 1 g) ∧ Room (j + 1) X.A
theorem slt_obj {c : Nat} {xs : List V} {rest : List (Option V)} {a dx : Addr} (h1 : H a = some (SlO a (cl.ad c) dx (xs.map some ++ rest))) (h2 : H dx = some (.xd [])) : Slt H a (cl.ad c) dx (xs.map some ++ rest) := .inr ⟨h1, h2⟩
theorem map_get {α : Type} {xs : List α} {rest : List (Option α)} {i : Nat} {x : α} (h : xs[i]? = some x) : (xs.map some ++ rest)[i]? = some (some x) := by
  have hi := (List.getElem?_eq_some_iff.mp h).1
  rw [List.getElem?_append_left (by rw [List.length_map]; exact hi), List.getElem?_map, h]
  rfl
theorem de_attr {A : Nat → Option AtK} (hA : ∀ c k, A c = some k → AtOk X cl c f k) (he : DE cl X e ma) (hb : attributeBase e f X.env (eval e X.env) = eval e X.env := by rfl) : DE cl X (.Attribute e f pos) (eAttr A ma) := by
  have p1 : PE X (.Attribute e f pos) _ := pe_sl he hb
  have p2 : PE X (.Attribute e f pos) _ := L2.PE.any (ι := Nat × (List DV → M DV)) (p := fun i => A i.1 = some (.pr i.2)) (t := fun i => tPropSl (cl.ad i.1) (spD X.K cl 1 i.2) L2.E0 (tE X.K cl ma)) fun i q => by
    obtain ⟨sc, p, gf, j, q1, q2, q3, q4, F, hr⟩ := hA _ _ q
    exact pe_propSl he sc q1 q2 q3 q4 F hr (fun _ _ _ _ z => z) hb
  refine (p1.or p2).mono fun σ H Q q => ?_
  obtain ⟨W, h, sl, v, h', rel, rs, e, po⟩ := q
  obtain ⟨d, h1, e1, e2⟩ := bnd_ok e
  unfold atD at e2
  split at e2
  · rename_i c fs
    obtain ⟨k, h2, e3, e4⟩ := bnd_ok e2
    obtain ⟨hk, rfl⟩ := optM_ok e3
    cases k with
    | sl i =>
      obtain ⟨hv, rfl⟩ := optM_ok (show optM fs[i]? _ = _ from e4)
      refine .inl ⟨W, h, sl, _, _, rel, rs, e1, fun W1 H1 x ext rel1 rv => ?_⟩
      obtain ⟨sc, p, sp⟩ := hA _ _ hk
      cases rv with
      | obj f1 f2 ne z1 z2 rr =>
        obtain ⟨y, hy, ry⟩ := rr.get hv
        exact ⟨_, _, _, p, _, i, y, rfl, slt_obj z1 z2, sc, sp, map_get hy, po W1 H1 y ext rel1 ry⟩
    | pr g =>
      refine .inr ⟨(c, g), hk, W, h, sl, _, _, rel, rs, e1, fun W1 H1 x ext rel1 rv => ?_⟩
      have rv' := rv
      cases rv with
      | obj f1 f2 ne z1 z2 rr => exact ⟨_, _, _, rfl, slt_obj z1 z2, rfl, W1, _, [_], v, h', rel1, .cons rv' .nil, e4, po.go ext⟩
  · rename_i n
    obtain ⟨⟨c, fs⟩, h2, e3, e4⟩ := bnd_ok e2
    obtain ⟨rfl, hn⟩ := insAt_ok e3
    obtain ⟨k, h2, e5, e6⟩ := bnd_ok e4
    obtain ⟨hk, rfl⟩ := optM_ok e5
    cases k with
    | sl i =>
      obtain ⟨w, h3, e7, e8⟩ := bnd_ok (show bnd (optM fs[i]?) optM _ = _ from e6)
      obtain ⟨hw, rfl⟩ := optM_ok e7
      obtain ⟨rfl, rfl⟩ := optM_ok e8
      refine .inl ⟨W, h, sl, _, _, rel, rs, e1, fun W1 H1 x ext rel1 rv => ?_⟩
      obtain ⟨sc, p, sp⟩ := hA _ _ hk
      cases rv with
      | ref hr =>
        obtain ⟨_, _, _, _, vs, st, r⟩ := rel1.ok n _ _ _ hn hr
        obtain ⟨y, hy, ry⟩ := r i _ hw
        exact ⟨_, _, _, p, vs, i, y, rfl, st, sc, sp, hy, po W1 H1 y ext rel1 ry⟩
    | pr g => cases e6
  · cases e2
/-! ### o.m(..) -/
def MetOk (X : Cx) (cl : Cl) (c n : Nat) (m : Str) (g : List DV → M DV) : Prop := SCls X.K (cl.ad c) ∧ ∃ (gf : Addr) (j : Nat), Meth X.K (cl.ad c) m gf ∧ FnR X.prog X.w X.K X.mg X.base L2.CX0 j gf (spD X.K cl n g) ∧ Room j X.A
def objAt (d : DV) : M (Nat × List DV) := match d with
  | .obj c fs => ret (c, fs)
  | _ => stk
theorem objAt_ok {d : DV} {q : Nat × List DV} (e : objAt d h = .ok q h') : h' = h ∧ d = .obj q.1 q.2 := by
  cases d <;> first | (cases e; done) | skip
  cases e
  exact ⟨rfl, rfl⟩
def eMeth (A : Nat → Option (List DV → M DV)) (mo : Ex) (ms : Exs) : Ex := fun sl => bnd (mo sl) fun d => bnd (objAt d) fun q => bnd (optM (A q.1)) fun g => bnd (ms sl) fun ds => g (.obj q.1 q.2 :: ds)
theorem de_meth {m : Str} {n : Nat} {apos : Pos} {A : Nat → Option (List DV → M DV)} {pl : Sem Bool} (hA : ∀ c g, A c = some g → MetOk X cl c (n + 1) m g) (ho : DE cl X o mo) (ha : DA cl X (e :: es) ms) (hn : ∀ sl h vs h', ms sl h = .ok vs h' → vs.length = n)
    (hst : starEach (e :: es) X.env = (false, eval e X.env) :: starEach es X.env := by rfl) (hpl : (backTo pos (starEach es X.env)).any (·.1) = false := by rfl)
    (ht : eval (.Call (.Attribute o m apos) (e :: es) [] pos) X.env = (do
      let ov ← eval o X.env
      standAt apos.atName
      let (f, first) ← holding [ov] (getMethod ov m pl)
      callWith pos f first (backTo pos (starEach (e :: es) X.env)) (backToKw pos (keywordEach [] X.env))) := by rfl) :
    DE cl X (.Call (.Attribute o m apos) (e :: es) [] pos) (eMeth A mo ms) := by
  have p : PE X (.Call (.Attribute o m apos) (e :: es) [] pos) _ := L2.PE.any (ι := Nat × (List DV → M DV)) (p := fun i => A i.1 = some i.2) (t := fun i => tMethSl (cl.ad i.1) (spD X.K cl (n + 1) i.2) L2.E0 (tE X.K cl mo) (tA X.K cl ms)) fun i q => by
    obtain ⟨sc, gf, j, k, F, hr⟩ := hA _ _ q
    exact pe_methSl ho sc k F hr L2.pass0 ha hst hpl ht
  refine p.mono fun σ H Q q => ?_
  obtain ⟨W, h, sl, v, h', rel, rs, e, po⟩ := q
  obtain ⟨d, h1, e1, e2⟩ := bnd_ok e
  obtain ⟨⟨c, fs⟩, h3, e5, e6⟩ := bnd_ok e2
  obtain ⟨rfl, rfl⟩ := objAt_ok e5
  obtain ⟨g, h4, e7, e8⟩ := bnd_ok e6
  obtain ⟨hg, rfl⟩ := optM_ok e7
  obtain ⟨ds, h2, e3, e4⟩ := bnd_ok e8
  refine ⟨(c, g), hg, W, h, sl, _, _, rel, rs, e1, fun W1 H1 x ext rel1 rv => ?_⟩
  have rv' := rv
  cases rv with
  | obj f1 f2 ne z1 z2 rr =>
    refine ⟨_, _, _, rfl, slt_obj z1 z2, W1, _, sl, ds, h2, rel1, rs.mono ext, e3, fun W2 H2 xs ext2 rel2 rvs => ⟨?_, W2, h2, _, v, h', rel2, .cons (rv'.mono ext2) rvs, e4, po.go (ext.trans ext2)⟩⟩
    rw [List.length_cons, ← rvs.length, hn _ _ _ _ e3]
theorem de_meth0 {m : Str} {apos : Pos} {A : Nat → Option (List DV → M DV)} {pl : Sem Bool} (hA : ∀ c g, A c = some g → MetOk X cl c 1 m g) (ho : DE cl X o mo)
    (ht : eval (.Call (.Attribute o m apos) [] [] pos) X.env = (do
      let ov ← eval o X.env
      standAt apos.atName
      let (f, first) ← holding [ov] (getMethod ov m pl)
      callWith pos f first (backTo pos (starEach [] X.env)) (backToKw pos (keywordEach [] X.env))) := by rfl) :
    DE cl X (.Call (.Attribute o m apos) [] [] pos) (eMeth A mo aNil) := by
  have p : PE X (.Call (.Attribute o m apos) [] [] pos) _ := L2.PE.any (ι := Nat × (List DV → M DV)) (p := fun i => A i.1 = some i.2) (t := fun i => tMethSl (cl.ad i.1) (spD X.K cl 1 i.2) L2.E0 (tE X.K cl mo) tNil) fun i q => by
    obtain ⟨sc, gf, j, k, F, hr⟩ := hA _ _ q
    exact pe_methSl0 ho sc k F hr L2.pass0 ht
  refine p.mono fun σ H Q q => ?_
  obtain ⟨W, h, sl, v, h', rel, rs, e, po⟩ := q
  obtain ⟨d, h1, e1, e2⟩ := bnd_ok e
  obtain ⟨⟨c, fs⟩, h3, e5, e6⟩ := bnd_ok e2
  obtain ⟨rfl, rfl⟩ := objAt_ok e5
  obtain ⟨g, h4, e7, e8⟩ := bnd_ok e6
  obtain ⟨hg, rfl⟩ := optM_ok e7
  obtain ⟨ds, h2, e3, e4⟩ := bnd_ok e8
  obtain ⟨rfl, rfl⟩ := ret_ok e3
  refine ⟨(c, g), hg, W, h, sl, _, _, rel, rs, e1, fun W1 H1 x ext rel1 rv => ?_⟩
  have rv' := rv
  cases rv with
  | obj f1 f2 ne z1 z2 rr => exact ⟨_, _, _, rfl, slt_obj z1 z2, rfl, W1, _, _, v, h', rel1, .cons rv' .nil, e4, po.go ext⟩
/-! ### C(..) -/
def allSome : List (Option DV) → Option (List DV)
  | [] => some []
  | some d :: t => (allSome t).map (d :: ·)
  | none :: _ => none
theorem allSome_ok : ∀ {fs : List (Option DV)} {ds : List DV}, allSome fs = some ds → fs = ds.map some
  | [], _, e => by cases e; rfl
  | some d :: t, _, e => by
    obtain ⟨es, e1, e2⟩ := Option.map_eq_some_iff.mp (show (allSome t).map _ = some _ from e)
    subst e2
    rw [allSome_ok e1]; rfl
  | none :: _, _, e => by cases e
def makeD (c : Nat) (g : List DV → M DV) (ds : List DV) : M DV := fun h => match g (.ref h.length :: ds) (h ++ [.ins c []]) with
  | .ok .non h2 => (match h2[h.length]? with
    | some (.ins c' fs) => (match allSome fs with
      | some (d :: t) => .ok (.obj c' (d :: t)) (h2.set h.length .dead)
      | _ => .stuck)
    | _ => .stuck)
  | _ => .stuck
theorem makeD_ok {c : Nat} {g : List DV → M DV} {ds : List DV} {v : DV} (e : makeD c g ds h = .ok v h') : ∃ h2 c' fs d t, g (.ref h.length :: ds) (h ++ [.ins c []]) = .ok .non h2 ∧ h2[h.length]? = some (.ins c' fs) ∧ allSome fs = some (d :: t) ∧ v = .obj c' (d :: t) ∧ h' = h2.set h.length .dead := by
  unfold makeD at e
  cases q : g (.ref h.length :: ds) (h ++ [.ins c []]) with
  | stuck => rw [q] at e; cases e
  | ok r h2 =>
    rw [q] at e
    cases r <;> first | (cases e; done) | skip
    have e : (match h2[h.length]? with
      | some (.ins c' fs) => (match allSome fs with
        | some (d :: t) => R.ok (DV.obj c' (d :: t)) (h2.set h.length .dead)
        | _ => .stuck)
      | _ => .stuck) = R.ok v h' := e
    cases q2 : h2[h.length]? with
    | none => rw [q2] at e; cases e
    | some u =>
      rw [q2] at e
      cases u <;> first | (cases e; done) | skip
      rename_i c' fs
      have e : (match allSome fs with
        | some (d :: t) => R.ok (DV.obj c' (d :: t)) (h2.set h.length .dead)
        | _ => .stuck) = R.ok v h' := e
      cases q3 : allSome fs with
      | none => rw [q3] at e; cases e
      | some l =>
        rw [q3] at e
        cases l with
        | nil => cases e
        | cons d t => cases e; exact ⟨h2, c', fs, d, t, rfl, q2, q3, rfl, rfl⟩
end
end D
set_option Elab.async false
set_option linter.all false
set_option maxRecDepth 100000
set_option maxHeartbeats 2000000
/-! D11: making, storing, isinstance, own operators. -/
namespace D
open PySem PySem.Spec PyProof.Rows L2 SlX
section
variable {K : PySem.W.Frag} {cl : Cl} {W W1 : Wd} {H H1 : Hp} {h h' : Hs} {X : Cx} {pos : Pos} {o e e2 ce : Expr} {es : List Expr} {ms : Exs} {ma mb mo mv : Ex} {f x : Str} {p : Pos}
theorem de_make {c j k n : Nat} {g : List DV → M DV} {gf : Addr} (M : Mk X.K (cl.ad c) gf) (F : FnD X.prog X.w X.K X.mg X.base cl k gf (n + 1) g) (hr : Room j X.A) (hk : k + 1 ≤ j) (hg : Gl X x) (hm : X.mg x = some (.ref (cl.ad c))) (ha : DA cl X (e :: es) ms)
    (hn : ∀ sl h vs h', ms sl h = .ok vs h' → vs.length = n)
    (hdb : (x == ("__debug__" : Str)) = false := by decide) (he : starEach (e :: es) X.env = (false, eval e X.env) :: starEach es X.env := by rfl) (hpl : (backTo pos (starEach es X.env)).any (·.1) = false := by rfl) :
    DE cl X (.Call (.Name x p) (e :: es) [] pos) (eCall (makeD c g) ms) := by
  obtain ⟨fd, ps, F, hb⟩ := F
  refine (pe_make M F (hr.mono hk) hg hm hb .nil L2.pass0 ha hdb he hpl).mono fun σ H Q q => ?_
  obtain ⟨W, h, sl, v, h', rel, rs, e, po⟩ := q
  obtain ⟨ds, h1, e1, e2⟩ := bnd_ok e
  obtain ⟨h2, c', fs, d, t, g1, g2, g3, rfl, rfl⟩ := makeD_ok e2
  refine ⟨W, h, sl, ds, h1, rel, rs, e1, fun W1 H1 vs ext rel1 rv a dx na nd ne => ?_⟩
  obtain ⟨ex2, rel2⟩ := rel1.addI (c := c) na nd ne
  show spD X.K cl (n + 1) g (V.ref a :: (vs ++ [])) _ _ _
  rw [List.append_nil]
  have at2 : (W1.addI a dx).ρ[h1.length]? = some (a, dx) := by
    show (W1.ρ ++ [(a, dx)])[h1.length]? = some (a, dx)
    rw [rel1.len]; simp
  refine ⟨by rw [List.length_cons, ← rv.length, hn _ _ _ _ e1], W1.addI a dx, h1 ++ [.ins c []], .ref h1.length :: ds, .non, h2, rel2, .cons (.ref at2) (rv.mono ex2), g1, fun W3 H3 y ext3 rel3 ry => ?_⟩
  cases ry
  have at3 := ext3.pre _ _ at2
  have e5 := allSome_ok g3
  subst e5
  obtain ⟨ex4, rel4, r4⟩ := rel3.freeze g2 at3
  exact ⟨rfl, po _ _ _ (((ext.trans ex2).trans ext3).trans ex4) rel4 r4⟩
/-- o.f = value, in the making -/
def putO (i : Nat) (v : DV) (fs : List (Option DV)) : List (Option DV) := (fs ++ List.replicate (i + 1 - fs.length) none).set i (some v)
theorem ros_put {i : Nat} {v : DV} {y : V} {fs : List (Option DV)} {vs : List (Option V)} (r : ROs K cl W H fs vs) (ry : RV K cl W H v y) : ROs K cl W H (putO i v fs) (SlX.putS i y vs) := fun j d q => by
  unfold putO at q
  by_cases hj : j = i
  · subst hj
    have hl : j < (fs ++ List.replicate (j + 1 - fs.length) none).length := by
      rw [List.length_append, List.length_replicate]; omega
    rw [List.getElem?_set_self hl] at q
    cases q
    exact ⟨y, SlX.putS_get _ _ _, ry⟩
  · rw [List.getElem?_set_ne (Ne.symm hj)] at q
    have q2 : fs[j]? = some (some d) := by
      by_cases hl : j < fs.length
      · rw [List.getElem?_append_left hl] at q; exact q
      · rw [List.getElem?_append_right (by omega)] at q
        rw [List.getElem?_replicate] at q
        split at q <;> cases q
    obtain ⟨z, hz, rz⟩ := r j d q2
    exact ⟨z, (SlX.putS_ne hj).mpr hz, rz⟩
def refOf (d : DV) : M Nat := match d with
  | .ref n => ret n
  | _ => stk
theorem refOf_ok {d : DV} {n : Nat} (e : refOf d h = .ok n h') : h' = h ∧ d = .ref n := by
  cases d <;> first | (cases e; done) | skip
  cases e
  exact ⟨rfl, rfl⟩
def sSlo (A : Nat → Option Nat) (mo mv : Ex) : Sx := fun sl => bnd (mv sl) fun y => bnd (mo sl) fun d => bnd (refOf d) fun n => bnd (insAt n) fun q => bnd (optM (A q.1)) fun i => fun h => .ok (.nx, sl) (h.set n (.ins q.1 (putO i y q.2)))
theorem ds_slo {A : Nat → Option Nat} {value : Expr} {pos' : Pos} (hA : ∀ c i, A c = some i → SCls X.K (cl.ad c) ∧ ∃ p, Slot1 X.K (cl.ad c) f p i) (ho : DE cl X o mo) (hv : DE cl X value mv) (hs : swapsWith value (some (.Attribute o f pos')) pos.line X.env = pure false := by rfl) :
    DS cl X (.Assign [.Attribute o f pos'] value pos) (sSlo A mo mv) := (ps_sl ho hv hs).mono fun D σ H q => by
  obtain ⟨W, h, sl, fl, sl', h', rel, rs, e, po⟩ := q
  obtain ⟨y, h1, e1, e2⟩ := bnd_ok e
  obtain ⟨d, h2, e3, e4⟩ := bnd_ok e2
  obtain ⟨n, h3, e5, e6⟩ := bnd_ok e4
  obtain ⟨rfl, rfl⟩ := refOf_ok e5
  obtain ⟨⟨c, fs⟩, h4, e7, e8⟩ := bnd_ok e6
  obtain ⟨rfl, hn⟩ := insAt_ok e7
  obtain ⟨i, h5, e9, e10⟩ := bnd_ok e8
  obtain ⟨hi, rfl⟩ := optM_ok e9
  cases e10
  refine ⟨W, h, sl, y, h1, rel, rs, e1, fun W1 H1 vy ext1 rel1 ry => ⟨W1, h1, sl, _, _, rel1, rs.mono ext1, e3, fun W2 H2 vx ext2 rel2 rx => ?_⟩⟩
  obtain ⟨sc, p, sp⟩ := hA _ _ hi
  cases rx with
  | ref hr =>
    obtain ⟨_, _, _, _, vs, st, r⟩ := rel2.ok n _ _ _ hn hr
    obtain ⟨ex3, rel3⟩ := rel2.slw hn hr (ros_put (i := i) r (ry.mono ext2))
    exact ⟨_, _, _, p, vs, i, rfl, st, sc, sp, po W2 _ σ ((ext1.trans ext2).trans ex3) rel3 (((rs.mono ext1).mono ext2).mono ex3)⟩
/-! ### isinstance -/
inductive Tag where
  | non | bl | int | str | lst | tup | dic | ob (c : Nat)
def tagV (cl : Cl) : Tag → Value
  | .non => .type "NoneType"
  | .bl => .type "bool"
  | .int => .type "int"
  | .str => .type "str"
  | .lst => .type "list"
  | .tup => .type "tuple"
  | .dic => .type "dict"
  | .ob c => .ref (cl.ad c)
def tagM (d : DV) : M Tag := fun h => match d with
  | .non => .ok .non h
  | .bl _ => .ok .bl h
  | .int _ => .ok .int h
  | .str _ => .ok .str h
  | .tup _ => .ok .tup h
  | .scr _ => .ok .lst h
  | .obj c _ => .ok (.ob c) h
  | .ref n => (match h[n]? with
    | some (.lst _) => .ok .lst h
    | some (.dic _) => .ok .dic h
    | some (.pot _ _) => .ok .lst h
    | _ => .stuck)
theorem fzt_ty {a : Addr} {xs : List V} (q : FzT K W H a xs) : TyX K H (.ref a) (.type "tuple") := by
  rcases q with ⟨_, q | ⟨o, q⟩⟩ | ⟨o, its, n, q, qc, _⟩
  · exact .base (.tup q)
  · exact .fTuple q
  · exact .kTuple q qc
theorem fzl_ty {a : Addr} {xs : List V} (q : FzL K W H a xs) : TyX K H (.ref a) (.type "list") := by
  rcases q with ⟨_, o, q⟩ | ⟨o, its, n, q, qc, _⟩
  · exact .base (.frz q)
  · exact .kList q qc
theorem tagM_ok {d : DV} {v : V} {t : Tag} (rel : HRel K cl W h H) (r : RV K cl W H d v) (e : tagM d h = .ok t h') : h' = h ∧ ((TyX K H v (tagV cl t)) ∨ ∃ c fs, d = .obj c fs ∧ t = .ob c) := by
  cases r <;> first | (cases e; done) | skip
  · cases e; exact ⟨rfl, .inl (.base .non)⟩
  · cases e; exact ⟨rfl, .inl (.base (.bl _))⟩
  · cases e; exact ⟨rfl, .inl (.base (.int _))⟩
  · cases e; exact ⟨rfl, .inl (.base (.str _))⟩
  · rename_i n a dx hn
    have e : (match h[n]? with
      | some (.lst _) => R.ok Tag.lst h
      | some (.dic _) => R.ok Tag.dic h
      | some (.pot _ _) => R.ok Tag.lst h
      | _ => R.stuck) = R.ok t h' := e
    cases q : h[n]? with
    | none => rw [q] at e; cases e
    | some u =>
      rw [q] at e
      cases u <;> first | (cases e; done) | skip
      · cases e
        obtain ⟨_, xs, hx, _⟩ := rel.ok n _ a dx q hn
        exact ⟨rfl, .inl (.base (.lst hx))⟩
      · cases e
        obtain ⟨_, xs, hx, _⟩ := rel.ok n _ a dx q hn
        exact ⟨rfl, .inl (.base (.dK hx))⟩
      · cases e
        obtain ⟨_, _, _, _, hx, _⟩ := rel.ok n _ a dx q hn
        exact ⟨rfl, .inl (.base (.lst hx))⟩
  · cases e; exact ⟨rfl, .inl (fzt_ty (by assumption))⟩
  · cases e; exact ⟨rfl, .inr ⟨_, _, rfl, rfl⟩⟩
  · cases e; exact ⟨rfl, .inl (fzl_ty (by assumption))⟩
def eIsi (T : Tag → Option Bool) (m : Ex) : Ex := fun sl => bnd (m sl) fun d => bnd (tagM d) fun t => optV (T t) .bl
theorem de_isi {T : Tag → Option Bool} {u : Value} {cv : V} (hT : ∀ t b, T t = some b → PySem.W.kitOne X.K (tagV cl t) u = some b) (hO : ∀ c b, T (.ob c) = some b → SCls X.K (cl.ad c) ∧ SIsi X.K (cl.ad c))
    (hc : ClsV cv u) (rc : RelV cv u) (one : ∀ w, RelV cv w → w = u) (hg : Gl X "isinstance") (hm : X.mg "isinstance" = none) (he : DE cl X e ma) (hce : PE X ce (tC cv))
    (h1 : starEach [e, ce] X.env = (false, eval e X.env) :: starEach [ce] X.env := by rfl) (h2 : starEach [ce] X.env = (false, eval ce X.env) :: starEach [] X.env := by rfl) (hpl : (backTo pos (starEach [ce] X.env)).any (·.1) = false := by rfl) :
    DE cl X (.Call (.Name "isinstance" p) [e, ce] [] pos) (eIsi T ma) := by
  have args := pa_cons he (pa_cons hce pa_nil h2) h1
  have p1 : PE X (.Call (.Name "isinstance" p) [e, ce] [] pos) _ := pe_callB call_isi hg hm boot_isinstance args (by decide) (by decide) h1 hpl
  have p2 : PE X (.Call (.Name "isinstance" p) [e, ce] [] pos) _ := pe_callB (SlX.call_isiSl u) hg hm boot_isinstance args (by decide) (by decide) h1 hpl
  refine (p1.or p2).mono fun σ H Q q => ?_
  obtain ⟨W, h, sl, v, h', rel, rs, e, po⟩ := q
  obtain ⟨d, h1, e1, e2⟩ := bnd_ok e
  obtain ⟨t, h2, e3, e4⟩ := bnd_ok e2
  obtain ⟨b, hb, rfl, rfl⟩ := optV_ok e4
  by_cases z : ∃ c fs, d = .obj c fs
  · obtain ⟨c, fs, rfl⟩ := z
    cases e3
    obtain ⟨sc, si⟩ := hO c b hb
    refine .inr ⟨W, h, sl, _, _, rel, rs, e1, fun W1 H1 x ext rel1 rv => ?_⟩
    cases rv with
    | obj f1 f2 ne z1 z2 rr => exact ⟨_, _, _, _, cv, b, rfl, rc, one, slt_obj z1 z2, sc, si, hT _ _ hb, po W1 H1 _ ext rel1 (.bl b)⟩
  · refine .inl ⟨W, h, sl, _, _, rel, rs, e1, fun W1 H1 x ext rel1 rv => ?_⟩
    obtain ⟨rfl, q | ⟨c, fs, q, _⟩⟩ := tagM_ok rel1 rv e3
    · exact ⟨x, cv, _, u, b, rfl, hc, q, hT _ _ hb, po W1 H1 _ ext rel1 (.bl b)⟩
    · exact absurd ⟨c, fs, q⟩ z
/-! ### own operators -/
def ownD (A : Nat → Option (List DV → M DV)) (g : DV → DV → M DV) (x y : DV) : M DV := match x, y with
  | .obj c fs, .obj c' fs' => bnd (optM (A c)) fun k => k [.obj c fs, .obj c' fs']
  | a, b => g a b
def OwnOk (X : Cx) (cl : Cl) (c : Nat) (n : Nat) (m : Str) (k : List DV → M DV) : Prop := ∃ (gf : Addr) (j : Nat), PySem.W.findIn X.K (.ref (cl.ad c)) m = some (some (.ref gf)) ∧ PySem.W.isFn X.K (.ref gf) = true ∧ FnR X.prog X.w X.K X.mg X.base L2.CX0 j gf (spD X.K cl n k) ∧ Room j X.A
theorem o_ownCmp {op : CmpOp} {A : Nat → Option (List DV → M DV)} {g : DV → DV → M DV} (hop : ∀ a b, compareOp op a b = richCompare op a b) (hA : ∀ c k, A c = some k → OwnOk X cl c 2 (cmpInfo op).2.1 k)
    (hf : ∀ c k c', A c = some k → PySem.W.notFirst X.K (cl.ad c) (.ref (cl.ad c')) = true) (hg : O2 cl X (compareOp op) g) : O2 cl X (compareOp op) (ownD A g) := by
  intro pins s σ H x y v u Q I rx ry q
  obtain ⟨W, h, d1, d2, v', h', rel, r1, r2, e, po⟩ := q
  unfold ownD at e
  split at e
  · rename_i c fs c' fs'
    obtain ⟨k, h2, e3, e4⟩ := bnd_ok e
    obtain ⟨hk, rfl⟩ := optM_ok e3
    obtain ⟨gf, j, q1, q2, F, hr⟩ := hA _ _ hk
    have r1' := r1
    have r2' := r2
    cases r1 with
    | obj f1 f2 ne z1 z2 rr =>
      cases r2 with
      | obj f1' f2' ne' z1' z2' rr' =>
        exact SlX.op_own hop q1 q2 F hr L2.pass0 pins s σ H _ _ v u Q I rx ry ⟨_, _, _, _, _, _, _, rfl, rfl, slt_obj z1 z2, slt_obj z1' z2', hf _ _ c' hk, rfl, W, _, _, v', h', rel, .cons r1' (.cons r2' .nil), e4, po⟩
  · exact hg pins s σ H x y v u Q I rx ry ⟨W, h, _, _, v', h', rel, r1, r2, e, po⟩
theorem o_ownBin {op : Operator} {A : Nat → Option (List DV → M DV)} {g : DV → DV → M DV} (hA : ∀ c k, A c = some k → PySem.W.selfFirst X.K (cl.ad c) = true ∧ OwnOk X cl c 2 (PySem.dunder op.info.2) k)
    (hg : O2 cl X (binaryOp op) g) : O2 cl X (binaryOp op) (fun x y => match x, y with
      | .obj c fs, .obj c' fs' => if Nat.beq c c' then bnd (optM (A c)) fun k => k [.obj c fs, .obj c' fs'] else stk
      | a, b => g a b) := by
  intro pins s σ H x y v u Q I rx ry q
  obtain ⟨W, h, d1, d2, v', h', rel, r1, r2, e, po⟩ := q
  dsimp only at e
  split at e
  · rename_i c fs c' fs'
    obtain ⟨hcc, e⟩ := if_ok e
    have hcc := Nat.eq_of_beq_eq_true hcc
    subst hcc
    obtain ⟨k, h2, e3, e4⟩ := bnd_ok e
    obtain ⟨hk, rfl⟩ := optM_ok e3
    obtain ⟨sf, gf, j, q1, q2, F, hr⟩ := hA _ _ hk
    have r1' := r1
    have r2' := r2
    cases r1 with
    | obj f1 f2 ne z1 z2 rr =>
      cases r2 with
      | obj f1' f2' ne' z1' z2' rr' =>
        cases rx
        cases ry
        obtain ⟨sl, od, _, J, _⟩ := slt_inst I (slt_obj z1 z2)
        obtain ⟨sl', od', _, J', _⟩ := slt_inst I (slt_obj z1' z2')
        obtain ⟨m, hF⟩ := I.fr
        refine PySem.W.binop_K (op := op) hF I.ok.mod.kin J J'.type sf q1 q2 (wpAny_mono (wpAny_call (run_fnR (us := [.ref _, .ref _]) (vs := [.ref _, .ref _]) F hr L2.pass0 I (.cons rfl (.cons rfl .nil)) ⟨rfl, W, _, [_, _], v', h', rel, .cons r1' (.cons r2' .nil), e4, po⟩)) (fun w s' z => ?_) fun _ _ x => x)
        obtain ⟨z', H', I', rz, qz⟩ := z
        exact cmpback rz ⟨z', H', I', rz, qz⟩
  · exact hg pins s σ H x y v u Q I rx ry ⟨W, h, _, _, v', h', rel, r1, r2, e, po⟩
theorem o_ownNeg {A : Nat → Option (List DV → M DV)} {g : DV → M DV} (hA : ∀ c k, A c = some k → OwnOk X cl c 1 "__neg__" k) (hg : O1 cl X (unaryOp .USub) g) :
    O1 cl X (unaryOp .USub) (fun x => match x with
      | .obj c fs => bnd (optM (A c)) fun k => k [.obj c fs]
      | a => g a) := by
  intro pins s σ H x v Q I rx q
  obtain ⟨W, h, d1, v', h', rel, r1, e, po⟩ := q
  dsimp only at e
  split at e
  · rename_i c fs
    obtain ⟨k, h2, e3, e4⟩ := bnd_ok e
    obtain ⟨hk, rfl⟩ := optM_ok e3
    obtain ⟨gf, j, q1, q2, F, hr⟩ := hA _ _ hk
    have r1' := r1
    cases r1 with
    | obj f1 f2 ne z1 z2 rr =>
      cases rx
      obtain ⟨sl, od, _, J, _⟩ := slt_inst I (slt_obj z1 z2)
      obtain ⟨m, hF⟩ := I.fr
      exact PySem.W.ksp_neg hF I.ok.mod.kin J q1 q2 (wpAny_call (run_fnR (us := [.ref _]) (vs := [.ref _]) F hr L2.pass0 I (.cons rfl .nil) ⟨rfl, W, _, [_], v', h', rel, .cons r1' .nil, e4, po⟩))
  · exact hg pins s σ H x v Q I rx ⟨W, h, _, v', h', rel, r1, e, po⟩
end
end D
set_option Elab.async false
set_option linter.all false
set_option maxRecDepth 100000
set_option maxHeartbeats 2000000
/-! D12: pots: a callee that is handed one, by itself. -/
namespace D
open PySem PySem.Spec PyProof.Rows L2 SlX
mutual
/-- nothing of the D heap is named -/
def noRef : DV → Bool
  | .ref _ => false
  | .tup xs => noRefs xs
  | .obj _ fs => noRefs fs
  | _ => true
def noRefs : List DV → Bool
  | [] => true
  | d :: t => noRef d && noRefs t
end
section
variable {K : PySem.W.Frag} {clO clI : Cl} {W W1 : Wd} {H H1 : Hp} {h h' : Hs}
mutual
theorem RV.by_itself (had : ∀ c, clI.ad c = clO.ad c) (sub : ∀ a, W.F a → W1.F a) (keep : ∀ a, W.F a → H1 a = H a) : ∀ {d : DV} {x : V}, noRef d = true → RV K clO W H d x → RV K clI W1 H1 d x
  | _, _, _, .non => .non
  | _, _, _, .bl b => .bl b
  | _, _, _, .int i => .int i
  | _, _, _, .str s => .str s
  | _, _, q, .ref _ => by cases q
  | _, _, q, .tup f r => by
    refine .tup ?_ (RVs.by_itself had sub keep (show noRefs _ = true from q) r)
    rcases f with ⟨f1, f2 | ⟨o, f2⟩⟩ | f
    · exact .inl ⟨sub _ f1, .inl ((keep _ f1).trans f2)⟩
    · exact .inl ⟨sub _ f1, .inr ⟨o, (keep _ f1).trans f2⟩⟩
    · exact .inr f
  | _, _, q, .obj f1 f2 n h1 h2 r => by
    rw [← had] at h1
    exact .obj (sub _ f1) (sub _ f2) n ((keep _ f1).trans h1) ((keep _ f2).trans h2) (RVs.by_itself had sub keep (show noRefs _ = true from q) r)
  | _, _, _, .scr f => by
    refine .scr ?_
    rcases f with ⟨f1, o, f2⟩ | f
    · exact .inl ⟨sub _ f1, o, (keep _ f1).trans f2⟩
    · exact .inr f
theorem RVs.by_itself (had : ∀ c, clI.ad c = clO.ad c) (sub : ∀ a, W.F a → W1.F a) (keep : ∀ a, W.F a → H1 a = H a) : ∀ {d : List DV} {x : List V}, noRefs d = true → RVs K clO W H d x → RVs K clI W1 H1 d x
  | _, _, _, .nil => .nil
  | _, _, q, .cons a b => by
    have q2 := Bool.and_eq_true_iff.mp (show (noRef _ && noRefs _) = true from q)
    exact .cons (RV.by_itself had sub keep q2.1 a) (RVs.by_itself had sub keep q2.2 b)
end
theorem rv_flat {d : DV} {x : V} (f : flatD d = true) (r : RV K clI W H d x) : RV K clO W1 H1 d x := by
  cases r <;> first | (cases f; done) | skip
  · exact .non
  · exact .bl _
  · exact .int _
  · exact .str _
/-- a callee that is handed the list at a (the D heap's m), and else only what stands by itself -/
theorem frame_core (had : ∀ c, clI.ad c = clO.ad c) {m : Nat} {a dx : Addr} {o o' oI oE : DO} {g : List DV → M DV} {rest : List DV} {xs : List V} {v : DV} {hs : Hs} {Q : VK}
    (rel : HRel K clO W h H) (hm : W.ρ[m]? = some (a, dx)) (he : h[m]? = some o) (nf : ¬ W.F a) (ha : ∃ ys, H a = some (.lst ys)) (hI : ∀ Ws : Wd, ¬ Ws.F a → DOk K clI Ws H a dx oI) (n1 : ∀ c fs, oI ≠ .ins c fs) (n2 : ∀ c fs, o' ≠ .ins c fs)
    (r : RVs K clO W H rest xs) (nr : noRefs rest = true) (run : g (.ref 0 :: rest) [oI] = .ok v (oE :: hs)) (fv : flatD v = true)
    (post : ∀ (W' : Wd) (H' : Hp), DOk K clI W' H' a dx oE → ∀ W2 : Wd, ¬ W2.F a → DOk K clO W2 H' a dx o') (nE : ∀ (W' : Wd) (H' : Hp), DOk K clI W' H' a dx oE → ∃ ys, H' a = some (.lst ys)) (po : Po K clO W H (h.set m o') v Q) : rDL K clI g (.ref a :: xs) H Q := by
  obtain ⟨ys, hys⟩ := ha
  let Ws : Wd := ⟨[(a, dx)], fun b => b ≠ a ∧ ∃ u, H b = some u⟩
  have sub : ∀ b, W.F b → Ws.F b := fun b q => ⟨fun z => nf (by rw [← z]; exact q), rel.tr b q⟩
  have rs : HRel K clI Ws [oI] H := by
    refine ⟨rfl, by simp [Ws], fun b q => q.2, fun p hp => ?_, fun n d' b dy h1 h2 => ?_, fun n k c c' fs fs' b d1 b' d2 h1 h2 h3 h4 hnk => ?_⟩
    · rw [List.mem_singleton.mp hp]; exact ⟨_, hys⟩
    · have hn := (List.getElem?_eq_some_iff.mp h1).1
      have e0 : n = 0 := by simpa using hn
      subst e0
      cases h1
      cases h2
      exact hI Ws fun q => q.1 rfl
    · have hn := (List.getElem?_eq_some_iff.mp h1).1
      have e0 : n = 0 := by simpa using hn
      subst e0
      cases h1
      exact absurd rfl (n1 c fs)
  refine ⟨Ws, [oI], .ref 0 :: rest, v, oE :: hs, rs, .cons (.ref (d := dx) rfl) (r.by_itself had sub (fun _ _ => rfl) nr), run, fun W' H' x ext rel' rv => ?_⟩
  have at0 := ext.pre 0 (a, dx) rfl
  have okE := rel'.ok 0 oE a dx rfl at0
  obtain ⟨zs, hzs⟩ := nE W' H' okE
  have kept : ∀ b u, b ≠ a → H b = some u → H' b = some u := fun b u nb q => (ext.keep b ⟨nb, u, q⟩).trans q
  let W2 : Wd := ⟨W.ρ, fun b => W.F b ∨ (W'.F b ∧ H b = none)⟩
  have nf2 : ¬ W2.F a := fun q => by
    rcases q with q | ⟨_, q⟩
    · exact nf q
    · rw [hys] at q; cases q
  have ext2 : Ext W H W2 H' := ⟨fun _ _ q => q, fun _ q => .inl q, fun b q => ext.keep b (sub b q), fun _ _ q => .inl q⟩
  refine po W2 H' x ext2 ⟨by rw [List.length_set]; exact rel.len, rel.nd, fun b q => ?_, fun p hp => ?_, fun n d' b dy h1 h2 => ?_, fun n k c c' fs fs' b d1 b' d2 h1 h2 h3 h4 hnk => ?_⟩ (rv_flat fv rv)
  · rcases q with q | ⟨q, _⟩
    · obtain ⟨u, hu⟩ := rel.tr b q
      exact ⟨u, kept b u (sub b q).1 hu⟩
    · exact rel'.tr b q
  · by_cases z : p.1 = a
    · exact ⟨_, by rw [z]; exact hzs⟩
    · obtain ⟨u, hu⟩ := rel.tr2 p hp
      exact ⟨u, kept _ u z hu⟩
  · by_cases hn : n = m
    · subst hn
      have h2 : W.ρ[n]? = some (b, dy) := h2
      rw [hm] at h2
      cases h2
      have : n < h.length := (List.getElem?_eq_some_iff.mp he).1
      rw [List.getElem?_set_self this] at h1
      cases h1
      exact post W' H' okE W2 nf2
    · rw [List.getElem?_set_ne (Ne.symm hn)] at h1
      have q := rel.ok n d' b dy h1 h2
      have nb : b ≠ a := fun z => hn (rel.inj (a := a) (by rw [← z]; exact h2) hm)
      have nfb : ∀ c, (∃ u, H c = some u) → ¬ W.F c → ¬ W2.F c := fun c ⟨u, hu⟩ f z => by
        rcases z with z | ⟨_, z⟩
        · exact f z
        · rw [hu] at z; cases z
      cases d' with
      | lst ds =>
        obtain ⟨k1, xs, k2, k3⟩ := q
        exact ⟨nfb b ⟨_, k2⟩ k1, xs, kept _ _ nb k2, k3.mono ext2⟩
      | dic ds =>
        obtain ⟨k1, xs, k2, k3⟩ := q
        exact ⟨nfb b ⟨_, k2⟩ k1, xs, kept _ _ nb k2, k3.mono ext2⟩
      | dfz ds =>
        obtain ⟨k1, od, xs, k2, k3⟩ := q
        exact ⟨.inl k1, od, xs, kept _ _ nb k2, k3.mono ext2⟩
      | pot k ds =>
        obtain ⟨k1, i, j, l, k2, k3⟩ := q
        exact ⟨nfb b ⟨_, k2⟩ k1, i, j, l, kept _ _ nb k2, k3⟩
      | dead => exact True.intro
      | ins c0 f0 =>
        obtain ⟨k1, k2, k3, ⟨u, hu, ow⟩, vs, sl, k4⟩ := q
        have ndy : dy ≠ a := fun z => by
          rw [z, hys] at hu
          cases hu
          rcases ow with ⟨_, ow⟩ | ow <;> cases ow
        have hb : ∃ w, H b = some w := by
          rcases sl with ⟨q, _⟩ | ⟨q, _⟩
          · exact ⟨_, q⟩
          · exact ⟨_, q⟩
        refine ⟨nfb b hb k1, nfb dy ⟨u, hu⟩ k2, k3, ⟨u, kept _ _ ndy hu, ow⟩, vs, ?_, k4.mono ext2⟩
        rcases sl with ⟨q1, q2⟩ | ⟨q1, q2⟩
        · exact .inl ⟨kept _ _ nb q1, q2⟩
        · exact .inr ⟨kept _ _ nb q1, kept _ _ ndy q2⟩
  · have back : ∀ {j : Nat} {cc : Nat} {ff : List (Option DV)}, (h.set m o')[j]? = some (.ins cc ff) → h[j]? = some (.ins cc ff) := fun {j cc ff} z => by
      by_cases hj : j = m
      · subst hj
        have : j < h.length := (List.getElem?_eq_some_iff.mp he).1
        rw [List.getElem?_set_self this] at z
        cases z
        exact absurd rfl (n2 cc ff)
      · rw [List.getElem?_set_ne (Ne.symm hj)] at z
        exact z
    exact rel.sep n k c c' fs fs' b d1 b' d2 (back h1) (back h2) h3 h4 hnk
/-! ### draws -/
/-- one take: the pot's three numbers, how many, the digit, the numbers behind it -/
def Tk (tk : List DV → M DV) (i j c : Int) (u d : Nat) (i' j' c' : Int) : Prop := ∃ hs, tk [.ref 0, .int u] [.lst [.int i, .int j, .int c]] = .ok (.int d) (.lst [.int i', .int j', .int c'] :: hs)
def PotSt (n : Nat) (j c : Int) : Prop := 0 ≤ j ∧ j < 4611686018427387904 ∧ 0 ≤ c ∧ c ≤ n
/-- these draws come -/
def Drw (tk : List DV → M DV) : Nat → List (Nat × Nat) → Int → Int → Int → Prop
  | n, [], _, j, c => PotSt n j c
  | n, (u, d) :: L, i, j, c => PotSt n j c ∧ ∃ i' j' c', Tk tk i j c u d i' j' c' ∧ Drw tk (n + 1) L i' j' c'
/-- the classes at ad, pots of these takes, c0 takes ahead -/
def clP (ad : Nat → Addr) (tk : List DV → M DV) (c0 : Nat) : Cl := ⟨ad, fun n L i j c => Drw tk (c0 + n) L i j c⟩
theorem Drw.st {tk : List DV → M DV} : ∀ {n : Nat} {L : List (Nat × Nat)} {i j c : Int}, Drw tk n L i j c → PotSt n j c
  | _, [], _, _, _, x => x
  | _, _ :: _, _, _, _, x => x.1
/-- a take, by its pot -/
def takeD (ds : List DV) : M DV := fun h => match ds with
  | [.ref m, .int u] => (match h[m]? with
    | some (.pot n ((u', d) :: L)) => if decide (u = (u' : Int)) then .ok (.int d) (h.set m (.pot (n + 1) L)) else .stuck
    | _ => .stuck)
  | _ => .stuck
variable {P : Program} {w : World} {mg : Str → Option Value} {base : Heap}
theorem take_ok {ad : Nat → Addr} {tk : List DV → M DV} {c0 k : Nat} {f : Addr} (F : FnD P w K mg base (clP ad tk c0) k f 2 tk) : FnD P w K mg base (clP ad tk c0) k f 2 takeD := by
  obtain ⟨fd, ps, F, b⟩ := F
  refine ⟨fd, ps, F.imp (fun vs H Q E q => ⟨q.1, ?_⟩), b⟩
  obtain ⟨_, W, h, ds, v, h', rel, rv, e, po⟩ := q
  unfold takeD at e
  split at e
  · rename_i m u
    obtain ⟨x, y, rfl, rx, ry⟩ := rv.two
    cases q : h[m]? with
    | none => rw [q] at e; cases e
    | some o =>
      rw [q] at e
      cases o <;> first | (cases e; done) | skip
      rename_i n L
      cases L with
      | nil => cases e
      | cons p L =>
        obtain ⟨u', d⟩ := p
        have e : (if decide (u = (u' : Int)) then R.ok (DV.int d) (h.set m (.pot (n + 1) L)) else .stuck) = R.ok v h' := e
        split at e
        · rename_i hu
          have hu := of_decide_eq_true hu
          cases e
          cases rx with
          | ref hm =>
            obtain ⟨nf, i, j, c, hx, hp, i', j', c', ⟨hs, ht⟩, hd⟩ := rel.ok m _ _ _ q hm
            have ry' := ry
            cases ry
            subst hu
            refine frame_core (fun _ => rfl) rel hm q nf ⟨_, hx⟩ (oI := .lst [.int i, .int j, .int c]) (fun Ws n => ⟨n, _, hx, .cons (.int _) (.cons (.int _) (.cons (.int _) .nil))⟩) (fun _ _ z => by cases z) (fun _ _ z => by cases z) (.cons ry' .nil) rfl ht rfl (fun W' H' ok W2 n2 => ?_) (fun W' H' ok => ?_) po
            · obtain ⟨_, zs, hz, rz⟩ := ok
              have := intsOf_ok (bs := [i', j', c']) rfl rz
              subst this
              exact ⟨n2, i', j', c', hz, by rw [Nat.add_assoc] at hd; exact hd⟩
            · obtain ⟨_, zs, hz, rz⟩ := ok
              exact ⟨zs, hz⟩
        · cases e
  · cases e
/-! ### a callee that only draws: by all its draws -/
/-- all draws of a tree: at each node the number of its branches is asked for -/
inductive Tr where
  | leaf
  | nd (ts : List Tr)
/-- what holds of all draws holds of the pot -/
def pots (inc : Nat) (g : List DV → M DV) (rest : List DV) (v : DV) (L : List (Nat × Nat)) : Prop := ∃ k' hs, g (.ref 0 :: rest) [.pot 0 L] = .ok v (.pot k' [] :: hs) ∧ k' ≤ inc
/-- every pot has draws that G says -/
def AnyPot (tk : List DV → M DV) (c0 : Nat) (G : List (Nat × Nat) → Prop) : Prop := ∀ i j c, PotSt c0 j c → ∃ L, Drw tk c0 L i j c ∧ G L
def frameD (inc : Nat) (G : List DV → Option DV) (ds : List DV) : M DV := fun h => match ds with
  | .ref m :: rest => (match h[m]? with
    | some (.pot k []) => (match G rest with
      | some v => if Nat.ble k 1000000 then .ok v (h.set m (.pot (k + inc) [])) else .stuck
      | none => .stuck)
    | _ => .stuck)
  | _ => .stuck
theorem potSt_mono {n m : Nat} {j c : Int} (x : PotSt n j c) (h : n ≤ m) : PotSt m j c := ⟨x.1, x.2.1, x.2.2.1, by have := x.2.2.2; omega⟩
theorem frame_sp {ad : Nat → Addr} {tk : List DV → M DV} {c0 n inc : Nat} {g : List DV → M DV} {G : List DV → Option DV} {vs : List V} {Q : VK} {E : XK} (hc : c0 ≤ 1000000)
    (hG : ∀ rest v, G rest = some v → noRefs rest = true ∧ flatD v = true ∧ ∀ c1, c1 ≤ 2000000 → AnyPot tk c1 (pots inc g rest v)) (q : spD K (clP ad tk c0) n (frameD inc G) vs H Q E) : ∃ c1, c1 ≤ 2000000 ∧ spD K (clP ad tk c1) n g vs H Q E := by
  obtain ⟨hl, W, h, ds, v, h', rel, rv, e, po⟩ := q
  unfold frameD at e
  cases ds with
  | nil => cases e
  | cons d rest =>
    cases d <;> first | (cases e; done) | skip
    rename_i m
    have e : (match h[m]? with
      | some (.pot k []) => (match G rest with
        | some v => if Nat.ble k 1000000 then R.ok v (h.set m (.pot (k + inc) [])) else .stuck
        | none => .stuck)
      | _ => .stuck) = R.ok v h' := e
    cases q : h[m]? with
    | none => rw [q] at e; cases e
    | some o =>
      rw [q] at e
      cases o <;> first | (cases e; done) | skip
      rename_i k L
      cases L with
      | cons p L => cases e
      | nil =>
        have e : (match G rest with
          | some v => if Nat.ble k 1000000 then R.ok v (h.set m (.pot (k + inc) [])) else .stuck
          | none => .stuck) = R.ok v h' := e
        cases qG : G rest with
        | none => rw [qG] at e; cases e
        | some v0 =>
          rw [qG] at e
          have e : (if Nat.ble k 1000000 then R.ok v0 (h.set m (.pot (k + inc) [])) else .stuck) = R.ok v h' := e
          split at e
          · rename_i hk
            have hk := Nat.le_of_ble_eq_true hk
            cases e
            obtain ⟨nr, fv, any⟩ := hG rest _ qG
            refine ⟨c0 + k, by omega, hl, ?_⟩
            cases rv with
            | cons rm rr =>
              cases rm with
              | ref hm =>
                obtain ⟨nf, i, j, c, hx, hp⟩ := rel.ok m _ _ _ q hm
                obtain ⟨L, hL, k', hs, run, hk'⟩ := any (c0 + k) (by omega) i j c hp
                refine frame_core (clO := clP ad tk c0) (clI := clP ad tk (c0 + k)) (oI := .pot 0 L) (o' := .pot (k + inc) []) (fun _ => rfl) rel hm q nf ⟨_, hx⟩ (fun Ws n => ⟨n, i, j, c, hx, hL⟩) (fun _ _ z => by cases z) (fun _ _ z => by cases z) rr nr run fv (fun W' H' ok W2 n2 => ?_) (fun W' H' ok => ?_) po
                · obtain ⟨_, i', j', c', hz, hd⟩ := ok
                  exact ⟨n2, i', j', c', hz, potSt_mono (show PotSt (c0 + k + k') j' c' from hd) (by omega)⟩
                · obtain ⟨_, i', j', c', hz, _⟩ := ok
                  exact ⟨_, hz⟩
          · cases e
theorem frame_ok {ad : Nat → Addr} {tk : List DV → M DV} {c0 k n inc : Nat} {f : Addr} {fd : FuncData} {ps : List Str} {g : List DV → M DV} {G : List DV → Option DV} (hc : c0 ≤ 1000000) (F : ∀ c1, c1 ≤ 2000000 → FnOk P w K mg base L2.CX0 k f fd ps (spD K (clP ad tk c1) n g)) (b : Binds K fd ps [])
    (hG : ∀ rest v, G rest = some v → noRefs rest = true ∧ flatD v = true ∧ ∀ c1, c1 ≤ 2000000 → AnyPot tk c1 (pots inc g rest v)) : FnD P w K mg base (clP ad tk c0) k f n (frameD inc G) := by
  refine ⟨fd, ps, ⟨fun vs H Q E q => ?_, fun A outer s H args us vs Q E hr e0 hb r q => ?_⟩, b⟩
  · obtain ⟨c1, h1, z⟩ := frame_sp hc hG q
    exact (F c1 h1).len vs H Q E z
  · obtain ⟨c1, h1, z⟩ := frame_sp hc hG q
    exact (F c1 h1).run A outer s H args us vs Q E hr e0 hb r z
/-- the first one: the pot has just been made -/
def topD (G : List DV → Option DV) (ds : List DV) : M DV := fun h => match ds with
  | .ref m :: rest => (match h[m]? with
    | some (.lst [.int _, .int j, .int c]) => (match G rest with
      | some v => if decide (0 ≤ j) && (decide (j < 4611686018427387904) && decide (c = 0)) then .ok v (h.set m .dead) else .stuck
      | none => .stuck)
    | _ => .stuck)
  | _ => .stuck
theorem top_sp {ad : Nat → Addr} {tk : List DV → M DV} {c0 n inc : Nat} {g : List DV → M DV} {G : List DV → Option DV} {vs : List V} {Q : VK} {E : XK}
    (hG : ∀ rest v, G rest = some v → noRefs rest = true ∧ flatD v = true ∧ ∀ c1, c1 ≤ 2000000 → AnyPot tk c1 (pots inc g rest v)) (q : spD K (clP ad tk c0) n (topD G) vs H Q E) : spD K (clP ad tk 0) n g vs H Q E := by
  obtain ⟨hl, W, h, ds, v, h', rel, rv, e, po⟩ := q
  unfold topD at e
  split at e
  · rename_i m rest
    split at e
    · rename_i i j c hq
      split at e
      · rename_i v0 qG
        split at e
        · rename_i hk
          obtain ⟨k1, k2⟩ := Bool.and_eq_true_iff.mp hk
          obtain ⟨k4, k3⟩ := Bool.and_eq_true_iff.mp k2
          replace k1 := of_decide_eq_true k1
          replace k4 := of_decide_eq_true k4
          replace k3 := of_decide_eq_true k3
          subst k3
          cases e
          obtain ⟨nr, fv, any⟩ := hG rest _ qG
          refine ⟨hl, ?_⟩
          cases rv with
          | cons rm rr =>
            cases rm with
            | ref hm =>
              obtain ⟨nf, xs, hx, rx⟩ := rel.ok m _ _ _ hq hm
              have := intsOf_ok (bs := [i, j, 0]) rfl rx
              subst this
              obtain ⟨L, hL, k', hs, run, hk'⟩ := any 0 (by omega) i j 0 ⟨k1, k4, by omega, by omega⟩
              refine frame_core (clO := clP ad tk c0) (clI := clP ad tk 0) (oI := .pot 0 L) (o' := .dead) (fun _ => rfl) rel hm hq nf ⟨_, hx⟩ (fun Ws n => ⟨n, i, j, 0, hx, hL⟩) (fun _ _ z => by cases z) (fun _ _ z => by cases z) rr nr run fv (fun W' H' ok W2 n2 => True.intro) (fun W' H' ok => ?_) po
              obtain ⟨_, i', j', c', hz, _⟩ := ok
              exact ⟨_, hz⟩
        · cases e
      · cases e
    · cases e
  · cases e
theorem top_ok {ad : Nat → Addr} {tk : List DV → M DV} {c0 k n inc : Nat} {f : Addr} {g : List DV → M DV} {G : List DV → Option DV} (F : FnD P w K mg base (clP ad tk 0) k f n g)
    (hG : ∀ rest v, G rest = some v → noRefs rest = true ∧ flatD v = true ∧ ∀ c1, c1 ≤ 2000000 → AnyPot tk c1 (pots inc g rest v)) : FnD P w K mg base (clP ad tk c0) k f n (topD G) := by
  obtain ⟨fd, ps, F, b⟩ := F
  exact ⟨fd, ps, F.imp fun vs H Q E q => top_sp hG q, b⟩
/-! trees of draws -/
mutual
def trAll (f : List (Nat × Nat) → Bool) : Tr → List (Nat × Nat) → Bool
  | .leaf, acc => f acc.reverse
  | .nd ts, acc => trAlls f ts ts.length 0 acc
def trAlls (f : List (Nat × Nat) → Bool) : List Tr → Nat → Nat → List (Nat × Nat) → Bool
  | [], _, _, _ => true
  | t :: ts, u, d, acc => trAll f t ((u, d) :: acc) && trAlls f ts u (d + 1) acc
end
/-- takes of at least one, at most so many, come to something -/
def TkAll (tk : List DV → M DV) : Prop := ∀ (n u : Nat) (i j c : Int), n ≤ 4000000 → 1 ≤ u → u ≤ 1000000 → PotSt n j c → ∃ d, d < u ∧ ∃ i' j' c', Tk tk i j c u d i' j' c' ∧ PotSt (n + 1) j' c'
mutual
def trOk : Tr → Bool
  | .leaf => true
  | .nd ts => (Nat.blt 0 ts.length && Nat.ble ts.length 1000000) && trOks ts
def trOks : List Tr → Bool
  | [] => true
  | t :: ts => trOk t && trOks ts
end
def trDeep : Nat → Tr → Bool
  | _, .leaf => true
  | 0, .nd _ => false
  | n + 1, .nd ts => ts.all (trDeep n)
theorem trAlls_get {f : List (Nat × Nat) → Bool} {acc : List (Nat × Nat)} {u : Nat} : ∀ {ts : List Tr} {b d : Nat} {t : Tr}, trAlls f ts u b acc = true → ts[d]? = some t → trAll f t ((u, b + d) :: acc) = true
  | [], _, _, _, _, e => by simp at e
  | t0 :: ts, b, 0, t, h, e => by
    have e : t0 = t := by simpa using e
    subst e
    exact (Bool.and_eq_true_iff.mp (show (trAll f t0 ((u, b) :: acc) && trAlls f ts u (b + 1) acc) = true from h)).1
  | t0 :: ts, b, d + 1, t, h, e => by
    have h2 := (Bool.and_eq_true_iff.mp (show (trAll f t0 ((u, b) :: acc) && trAlls f ts u (b + 1) acc) = true from h)).2
    have := trAlls_get h2 (by simpa using e : ts[d]? = some t)
    rw [show b + (d + 1) = b + 1 + d by omega]
    exact this
theorem trOks_get : ∀ {ts : List Tr} {d : Nat} {t : Tr}, trOks ts = true → ts[d]? = some t → trOk t = true
  | [], _, _, _, e => by simp at e
  | t0 :: ts, 0, t, h, e => by
    have e : t0 = t := by simpa using e
    subst e
    exact (Bool.and_eq_true_iff.mp (show (trOk t0 && trOks ts) = true from h)).1
  | t0 :: ts, d + 1, t, h, e => trOks_get (Bool.and_eq_true_iff.mp (show (trOk t0 && trOks ts) = true from h)).2 (by simpa using e)
theorem tree_any {tk : List DV → M DV} (hT : TkAll tk) {f : List (Nat × Nat) → Bool} : ∀ (b : Nat) (t : Tr), trDeep b t = true → trOk t = true → ∀ (n : Nat) (acc : List (Nat × Nat)) (i j c : Int), n + b ≤ 4000000 → PotSt n j c → trAll f t acc = true → ∃ L, Drw tk n L i j c ∧ f (acc.reverse ++ L) = true
  | b, .leaf, _, _, n, acc, i, j, c, _, st, h => ⟨[], st, by rw [List.append_nil]; exact h⟩
  | 0, .nd ts, hd, _, _, _, _, _, _, _, _, _ => by cases hd
  | b + 1, .nd ts, hd, ho, n, acc, i, j, c, hn, st, h => by
    obtain ⟨o1, o2⟩ := Bool.and_eq_true_iff.mp (show ((Nat.blt 0 ts.length && Nat.ble ts.length 1000000) && trOks ts) = true from ho)
    obtain ⟨o3, o4⟩ := Bool.and_eq_true_iff.mp o1
    obtain ⟨d, hdu, i', j', c', t1, t2⟩ := hT n ts.length i j c (by omega) (Nat.blt_eq.mp o3) (Nat.le_of_ble_eq_true o4) st
    have hg : ts[d]? = some ts[d] := List.getElem?_eq_getElem hdu
    have a1 := trAlls_get (b := 0) (show trAlls f ts ts.length 0 acc = true from h) hg
    rw [Nat.zero_add] at a1
    have dd : trDeep b ts[d] = true := List.all_eq_true.mp (show ts.all (trDeep b) = true from hd) _ (List.getElem_mem hdu)
    obtain ⟨L, l1, l2⟩ := tree_any hT b ts[d] dd (trOks_get o2 hg) (n + 1) _ i' j' c' (by omega) t2 a1
    refine ⟨(ts.length, d) :: L, ⟨st, i', j', c', t1, l1⟩, ?_⟩
    rw [List.reverse_cons, List.append_assoc] at l2
    exact l2
def eqR (inc : Nat) (b : Bool) (r : R DV) : Bool := match r with
  | .ok (.bl b') (.pot k [] :: _) => (b == b') && Nat.ble k inc
  | _ => false
/-- G by a tree for the rest of the arguments: the callee tells b at all draws -/
def byTree (inc : Nat) (g : List DV → M DV) (b : Bool) (tr : List DV → Option Tr) (rest : List DV) : Option DV := match tr rest with
  | some t => if noRefs rest && (trDeep 1000 t && (trOk t && trAll (fun L => eqR inc b (g (.ref 0 :: rest) [.pot 0 L])) t [])) then some (.bl b) else none
  | none => none
theorem byTree_ok {tk : List DV → M DV} (hT : TkAll tk) {inc : Nat} {g : List DV → M DV} {b : Bool} {tr : List DV → Option Tr} : ∀ rest v, byTree inc g b tr rest = some v → noRefs rest = true ∧ flatD v = true ∧ ∀ c1, c1 ≤ 2000000 → AnyPot tk c1 (pots inc g rest v) := fun rest v e => by
  unfold byTree at e
  split at e
  · rename_i t ht
    split at e
    · rename_i c
      cases e
      obtain ⟨c1, c2⟩ := Bool.and_eq_true_iff.mp c
      obtain ⟨c2, c3⟩ := Bool.and_eq_true_iff.mp c2
      obtain ⟨c3, c4⟩ := Bool.and_eq_true_iff.mp c3
      refine ⟨c1, rfl, fun n hn i j c st => ?_⟩
      obtain ⟨L, l1, l2⟩ := tree_any hT 1000 t c2 c3 n [] i j c (by omega) st c4
      refine ⟨L, l1, ?_⟩
      have l2 : eqR inc b (g (.ref 0 :: rest) [.pot 0 L]) = true := l2
      unfold eqR at l2
      split at l2
      · rename_i b' k hs er
        obtain ⟨z1, z2⟩ := Bool.and_eq_true_iff.mp l2
        have z1 := beq_iff_eq.mp z1
        subst z1
        exact ⟨k, hs, er, Nat.le_of_ble_eq_true z2⟩
      · cases l2
    · cases e
  · cases e
end
end D
set_option Elab.async false
set_option linter.all false
set_option maxRecDepth 100000
set_option maxHeartbeats 2000000
/-! D13: xs[i] = v; max, min; a def by its data; globals. -/
namespace D
open PySem PySem.Spec PyProof.Rows L2 SlX
section
variable {K : PySem.W.Frag} {cl : Cl} {W W1 : Wd} {H H1 : Hp} {h h' : Hs} {X : Cx} {pos : Pos} {o i e : Expr} {mo mi me : Ex}
def sSub (mo mi me : Ex) : Sx := fun sl => bnd (me sl) fun v => bnd (mo sl) fun d => bnd (mi sl) fun k => bnd (refOf d) fun n => bnd (lsAt n) fun xs => match k with
  | .int k => bnd (optM (ixN xs.length k)) fun j => fun h => .ok (.nx, sl) (h.set n (.lst (xs.set j v)))
  | _ => stk
theorem ds_sub {pos' : Pos} (he : DE cl X e me) (ho : DE cl X o mo) (hi : DE cl X i mi)
    (ha : ∀ v, assign (.Subscript o i pos') X.env v = (do
      let ov ← holding [v] (eval o X.env)
      let iv ← holding [v, ov] (eval i X.env)
      standAt pos'
      holding [v, ov, iv] (setItem ov iv v)
      release [v, ov, iv] []) := by intro _; rfl)
    (hs : swapsWithSole [.Subscript o i pos'] e pos.line X.env = pure false := by rfl) (hw : swappedStores [.Subscript o i pos'] e X.env = pure none := by rfl)
    (h1 : (assignEach [.Subscript o i pos'] X.env).map (·.2) = [assign (.Subscript o i pos') X.env] := by rfl) : DS cl X (.Assign [.Subscript o i pos'] e pos) (sSub mo mi me) :=
  (ps_asg he (pg_sub ho hi set_list ha) hs hw h1).mono fun D σ H q => by
  obtain ⟨W, h, sl, fl, sl', h', rel, rs, e, po⟩ := q
  obtain ⟨v, h1, e1, e2⟩ := bnd_ok e
  obtain ⟨d, h2, e3, e4⟩ := bnd_ok e2
  obtain ⟨k, h3, e5, e6⟩ := bnd_ok e4
  obtain ⟨n, h4, e7, e8⟩ := bnd_ok e6
  obtain ⟨rfl, rfl⟩ := refOf_ok e7
  obtain ⟨xs, h5, e9, e10⟩ := bnd_ok e8
  obtain ⟨rfl, hn⟩ := lsAt_ok e9
  cases k <;> first | (cases e10; done) | skip
  rename_i k
  obtain ⟨j, h6, e11, e12⟩ := bnd_ok e10
  obtain ⟨hj, rfl⟩ := optM_ok e11
  cases e12
  refine ⟨W, h, sl, v, h1, rel, rs, e1, fun W1 H1 y ext1 rel1 ry => ⟨W1, h1, sl, _, h2, rel1, rs.mono ext1, e3, fun W2 H2 z ext2 rel2 rz => ⟨W2, h2, sl, _, _, rel2, (rs.mono ext1).mono ext2, e5, fun W3 H3 w ext3 rel3 rw => ?_⟩⟩⟩
  cases rw
  cases rz with
  | ref hr =>
    have hr3 := ext3.pre _ _ hr
    obtain ⟨nf, ys, hy, rys⟩ := rel3.lst hn hr3
    obtain ⟨ex4, rel4⟩ := ref_wr rel3 hn hr3 (RVs.set ((ry.mono ext2).mono ext3) j rys)
    have ext := (((ext1.trans ext2).trans ext3).trans ex4)
    exact ⟨_, ys, k, j, rfl, rfl, hy, by rw [← rys.length]; exact hj, po W3 _ σ ext rel4 (rs.mono ext)⟩
def maxD (ds : List DV) : M DV := match ds with
  | [.int i, .int j] => ret (.int (if j > i then j else i))
  | _ => stk
theorem c_max (hc : X.calm = true) : CD cl X (.builtin "max") maxD := by
  intro pins s σ H xs us Q I rv q
  obtain ⟨W, h, ds, v', h', rel, r, e, po⟩ := q
  unfold maxD at e
  split at e
  · have := r.i2
    subst this
    cases e
    exact call_max2 hc pins s σ H _ us Q I rv ⟨_, _, rfl, po.now rel (.int _)⟩
  · cases e
def minD (ds : List DV) : M DV := match ds with
  | [.int i, .int j] => ret (.int (if j < i then j else i))
  | _ => stk
theorem c_min (hc : X.calm = true) : CD cl X (.builtin "min") minD := by
  intro pins s σ H xs us Q I rv q
  obtain ⟨W, h, ds, v', h', rel, r, e, po⟩ := q
  unfold minD at e
  split at e
  · have := r.i2
    subst this
    cases e
    exact call_min2 hc pins s σ H _ us Q I rv ⟨_, _, rfl, po.now rel (.int _)⟩
  · cases e
/-- a def, by its data -/
theorem d_defD {P : Program} {w : World} {mg : Str → Option Value} {base : Heap} {x qual : Str} {params : Arguments} {body : List Stmt} {scope : Scope} {f : Addr} {fd : FuncData} {N ps : List Str} {k n : Nat} {b : Sx} (F : FunD K x qual params body scope [] [] f fd) (S : FnScope N ps scope) (hn : ps.length = n) (hl : n ≤ N.length)
    (hb : ∀ (cdv : Value) (A : Around) (outer : List Env) (s : Shared) (H : Hp) (E : XK), Room k (A.deeper (envOfC qual scope s.heap.objs.size f cdv)) → DSs cl (cxOf L2.CX0 P w K mg base N qual scope f cdv A outer s H E).nox body b) :
    FnOk P w K mg base L2.CX0 (k + 1) f fd ps (spD K cl n (runF N.length b)) := by
  subst hn
  exact F.ok S (fun vs H Q E q => q.1) fun cdv A outer s H vs Q E hr q => ⟨tS K cl b, PSs.nox (hb cdv A outer s H E hr), run_spD hl q⟩
/-- a text, a number of the module -/
theorem de_gstr {x : Str} {z : List Nat} {p : Pos} (hg : Gl X x) (hm : ∃ t, X.mg x = some (.str (SX.S z) t)) (hd : (x == ("__debug__" : Str)) = false := by decide) : DE cl X (.Name x p) (eC (.str z)) := by
  obtain ⟨t, hm⟩ := hm
  exact de_c (pe_glob hg hm (show RelV (.str (SX.S z)) (.str (SX.S z) t) from ⟨t, rfl⟩) hd) fun _ _ => .str z
theorem de_gint {x : Str} {z : Int} {p : Pos} (hg : Gl X x) (hm : ∃ t, X.mg x = some (.int z t)) (hd : (x == ("__debug__" : Str)) = false := by decide) : DE cl X (.Name x p) (eC (.int z)) := by
  obtain ⟨t, hm⟩ := hm
  exact de_c (pe_glob hg hm (show RelV (.int z) (.int z t) from ⟨t, rfl⟩) hd) fun _ _ => .int z
end
end D
set_option Elab.async false
set_option linter.all false
set_option maxRecDepth 100000
set_option maxHeartbeats 2000000
/-! D14: facts of the head: classes with slots, properties, written dicts. -/
namespace D
open PySem PySem.Spec PyProof.Rows L2 SlX He
section
variable {K : PySem.W.Frag}
/-! ### a def at any address -/
def fnA (K : PySem.W.Frag) (a : Addr) : FnW := match K.lookup a with
  | some ⟨_, _, .func fd, _⟩ => some (fd.name, fd.qualname, fd.params, fd.body, fd.scope, fd.globals, fd.closure, fd.builtins)
  | _ => none
def okA (K : PySem.W.Frag) (a : Addr) (d : DefD) : Bool := PySem.W.keepIn K (.ref a) && (match K.lookup a with
  | some ⟨_, _, .func fd, _⟩ => PySem.W.codeIn K fd.code d.qual && (dflB K fd.defaults (d.dvs K) && kwdB K fd.kwdefaults (d.kws K))
  | _ => false)
theorem funA {d : DefD} {a : Addr} (e : fnA K a = d.val) (c : okA K a d = true) : ∃ fd, FunD K d.name d.qual d.params d.body d.scope (d.dvs K) (d.kws K) a fd := by
  obtain ⟨kp, c2⟩ := ba c
  unfold fnA at e
  cases q : K.lookup a with
  | none => rw [q] at c2; cases c2
  | some ob =>
    obtain ⟨o1, o2, o3, o4⟩ := ob
    rw [q] at c2 e
    cases o3 with
    | func fd =>
      obtain ⟨m1, m2, m3, m4, m5, m6, m7, m8, m9, m10, m11, m12, m13, m14, m15⟩ := fd
      have e2 : (some (m1, m2, m3, m4, m5, m6, m7, m15) : FnW) = some (d.name, d.qual, d.params, .stmts d.body, d.scope, mainGlobals, [], builtinsNs) := e
      simp only [Option.some.injEq, Prod.mk.injEq] at e2
      obtain ⟨t1, t2, t3, t4, t5, t6, t7, t8⟩ := e2
      subst t1 t2 t3 t4 t5 t6 t7 t8
      obtain ⟨k1, k2⟩ := ba (show (PySem.W.codeIn K m13 d.qual && (dflB K m8 (d.dvs K) && kwdB K m9 (d.kws K))) = true from c2)
      obtain ⟨k3, k4⟩ := ba k2
      exact ⟨_, ⟨o1, o2, m8, m9, m10, m11, m12, m13, m14, o4, rfl, q, k1, dflB_ok k3, kwdB_ok k4⟩, kp⟩
    | _ => cases c2
/-! ### the Hook: HeadHook3's, one more Bool, defs at any address -/
abbrev AtD : Type := (PySem.W.Frag → Addr) × DefD
abbrev AlY : Type := AlT × (Bool × List FnW)
def obsP (fa : List Fa) (fn : List DefD) (ts : List Tab) (ps : List AtD) (ex : PySem.W.Frag → Bool) (K : PySem.W.Frag) : AlY := (obsT fa fn ts K, (ex K && ps.all fun p => okA K (p.1 K) p.2), ps.map fun p => fnA K (p.1 K))
def obsY (n : Nat) (fa : List Fa) (fn : List DefD) (ts : List Tab) (ps : List AtD) (ex : PySem.W.Frag → Bool) (g : Addr → Option Obj) : AlY := obsP fa fn ts ps ex (frG g (asD g n))
def valY (fn : List DefD) (ts : List Tab) (ps : List AtD) (w : World) : AlY := (valT fn ts w, true, ps.map fun p => p.2.val)
def SaysY (fa : List Fa) (fn : List DefD) (ts : List Tab) (ps : List AtD) (ex : PySem.W.Frag → Bool) (w : World) (K : PySem.W.Frag) : Prop := obsP fa fn ts ps ex K = valY fn ts ps w
def hookY (n : Nat) (fa : List Fa) (fn : List DefD) (ts : List Tab) (ps : List AtD) (ex : PySem.W.Frag → Bool) : PySem.W.Hook where
  α := AlY
  obs := fun s => obsY n fa fn ts ps ex s.heap.get?
  val := fun w => valY fn ts ps w
  says := fun w h => ∃ K : PySem.W.Frag, K.In h ∧ SaysY fa fn ts ps ex w K
  of := fun _ _ e => ⟨_, frG_in, e⟩
  keeps := fun _ _ _ ⟨K, hK, c⟩ k => ⟨K, PySem.W.Frag.In.keeps hK k, c⟩
variable {fa : List Fa} {fn : List DefD} {ts : List Tab} {ps : List AtD} {ex : PySem.W.Frag → Bool} {w : World}
theorem obsY_eq {n : Nat} {g : Addr → Option Obj} {s : Shared} (h : ∀ a, g a = s.heap.get? a) : obsY n fa fn ts ps ex g = (hookY n fa fn ts ps ex).obs s := by
  have e : g = s.heap.get? := funext h
  rw [e] <;> rfl
theorem SaysY.t (c : SaysY fa fn ts ps ex w K) : SaysT fa fn ts w K := congrArg (fun z : AlY => z.1) c
theorem SaysY.more (c : SaysY fa fn ts ps ex w K) : ex K = true := (ba (show (ex K && ps.all fun p => okA K (p.1 K) p.2) = true from congrArg (fun z : AlY => z.2.1) c)).1
theorem SaysY.pdef (c : SaysY fa fn ts ps ex w K) (i : Nat) {p : AtD} (h : ps[i]? = some p := by rfl) : ∃ fd, FunD K p.2.name p.2.qual p.2.params p.2.body p.2.scope (p.2.dvs K) (p.2.kws K) (p.1 K) fd := by
  have c2 := (ba (show (ex K && ps.all fun p => okA K (p.1 K) p.2) = true from congrArg (fun z : AlY => z.2.1) c)).2
  have e : ps.map (fun p => fnA K (p.1 K)) = ps.map fun p => p.2.val := congrArg (fun z : AlY => z.2.2) c
  have e2 : (ps.map fun p => fnA K (p.1 K))[i]? = (ps.map fun p => p.2.val)[i]? := by rw [e]
  rw [List.getElem?_map, List.getElem?_map, h] at e2
  exact funA (Option.some.inj e2) (List.all_eq_true.mp c2 p (List.mem_of_getElem? h))
/-! ### classes with slots -/
def sclB (K : PySem.W.Frag) (C : Addr) : Bool := PySem.W.plainGet K C Str.empty && (PySem.W.isClsIn K C && (PySem.W.plainOver K C && eqO (PySem.W.findIn K (.ref C) "__setattr__") (some (some (.builtin "object.__setattr__")))))
theorem sclB_ok {C : Addr} (h : sclB K C = true) : SCls K C := by
  obtain ⟨c1, c⟩ := ba h
  obtain ⟨c2, c⟩ := ba c
  obtain ⟨c3, c4⟩ := ba c
  exact ⟨c1, c2, c3, eqO_ok c4⟩
def eqOB (a b : Option Bool) : Bool := decide (a = b)
def sloB (K : PySem.W.Frag) (C : Addr) (f : Str) (i : Nat) : Bool := eqO (PySem.W.findIn K (.ref C) f) (some (some (.ref (ma K C f)))) && (eqO (PySem.W.specialIn K (.ref (ma K C f)) "__get__") (some (some (.builtin "member_descriptor.__get__"))) &&
  (decide (PySem.W.takesIn K (.ref (ma K C f)) = some true) && (decide (PySem.W.typeIn K (.ref (ma K C f)) = some (.type "member_descriptor")) && (decide (PySem.W.slotIn K (ma K C f) C = some i) && Nat.blt i 1000))))
theorem sloB_ok {C : Addr} {f : Str} {i : Nat} (h : sloB K C f i = true) : Slot1 K C f (ma K C f) i := by
  obtain ⟨c1, c⟩ := ba h
  obtain ⟨c2, c⟩ := ba c
  obtain ⟨c3, c⟩ := ba c
  obtain ⟨c4, c⟩ := ba c
  obtain ⟨c5, c6⟩ := ba c
  exact ⟨eqO_ok c1, eqO_ok c2, of_decide_eq_true c3, of_decide_eq_true c4, of_decide_eq_true c5, Nat.blt_eq.mp c6⟩
/-- the getter of a property -/
def pgA (C : Str) (f : Str) (K : PySem.W.Frag) : Addr := match PySem.W.recIn K (ma K (ga K C) f) "property" with
  | some (.ref g :: _) => g
  | _ => 0
def proB (K : PySem.W.Frag) (C f : Str) : Bool := eqO (PySem.W.findIn K (.ref (ga K C)) f) (some (some (.ref (ma K (ga K C) f)))) && (eqO (PySem.W.specialIn K (.ref (ma K (ga K C) f)) "__get__") (some (some (.builtin "property.__get__"))) &&
  (decide (PySem.W.takesIn K (.ref (ma K (ga K C) f)) = some true) && (match PySem.W.recIn K (ma K (ga K C) f) "property" with
    | some (.ref _ :: _) => true
    | _ => false)))
theorem proB_ok {C f : Str} (h : proB K C f = true) : PySem.W.findIn K (.ref (ga K C)) f = some (some (.ref (ma K (ga K C) f))) ∧ PySem.W.specialIn K (.ref (ma K (ga K C) f)) "__get__" = some (some (.builtin "property.__get__")) ∧
    PySem.W.takesIn K (.ref (ma K (ga K C) f)) = some true ∧ ∃ rest, PySem.W.recIn K (ma K (ga K C) f) "property" = some (.ref (pgA C f K) :: rest) := by
  obtain ⟨c1, c⟩ := ba h
  obtain ⟨c2, c⟩ := ba c
  obtain ⟨c3, c4⟩ := ba c
  refine ⟨eqO_ok c1, eqO_ok c2, of_decide_eq_true c3, ?_⟩
  unfold pgA
  split at c4
  · rename_i g r e
    rw [e]
    exact ⟨r, rfl⟩
  · cases c4
def isiB (K : PySem.W.Frag) (C : Addr) : Bool := eqO (PySem.W.findIn K (.ref C) "__class__") (some (some (.builtin "object.__class__"))) && (eqO (PySem.W.specialIn K (.builtin "object.__class__") "__get__") (some (some (.builtin "getset_descriptor.__get__"))) &&
  (decide (PySem.W.takesIn K (.builtin "object.__class__") = some true) && decide (PySem.W.mroIn K C (.type "object") = some true)))
theorem isiB_ok {C : Addr} (h : isiB K C = true) : SIsi K C := by
  obtain ⟨c1, c⟩ := ba h
  obtain ⟨c2, c⟩ := ba c
  obtain ⟨c3, c4⟩ := ba c
  exact ⟨eqO_ok c1, eqO_ok c2, of_decide_eq_true c3, of_decide_eq_true c4⟩
/-! ### written dicts -/
theorem ktab_of {d : Addr} {tab : List (List Nat × List Nat)} (kd : ∃ es n, KDict K w d es n) (hk : dicW K d = some (keysIn w.params (tab.map fun p => SX.S p.1))) (hv : valsB K d (tab.map fun p => (SX.S p.1, Dv.str (SX.S p.2))) = true) : KTab K w d tab := by
  refine ⟨kd, fun s => ?_⟩
  obtain ⟨es, n, D⟩ := kd
  have hkeys : es.toList.map He.keyOf = keysIn w.params (tab.map fun p => SX.S p.1) := by
    unfold dicW at hk
    rw [D.at_] at hk
    have hk : (match decide ("dict" = "dict") && ((#[] : Array (Option Value)).isEmpty && !(d == sysModules)) with
      | true => some (es.toList.map He.keyOf)
      | false => none) = some (keysIn w.params (tab.map fun p => SX.S p.1)) := hk
    rw [D.low] at hk
    exact Option.some.inj hk
  have find : ∀ (tab0 : List (List Nat × List Nat)), lookT tab0 s = none ∨ ∃ p ∈ tab0, p.1 = s ∧ lookT tab0 s = some p.2 := fun tab0 => by
    induction tab0 with
    | nil => exact .inl rfl
    | cons p t ih =>
      show (if eqS p.1 s then some p.2 else lookT t s) = none ∨ ∃ q ∈ p :: t, q.1 = s ∧ (if eqS p.1 s then some p.2 else lookT t s) = some q.2
      rw [eqS_iff]
      by_cases z : p.1 = s
      · exact .inr ⟨p, List.mem_cons_self .., z, by simp [z]⟩
      · simp only [z, decide_false, Bool.false_eq_true, if_false]
        rcases ih with ih | ⟨q, h1, h2, h3⟩
        · exact .inl ih
        · exact .inr ⟨q, List.mem_cons_of_mem _ h1, h2, h3⟩
  rcases find tab with h | ⟨p, h1, h2, h3⟩
  · refine ⟨none, ?_, .inl ⟨h, rfl⟩⟩
    have none_ : ∀ (tab0 : List (List Nat × List Nat)) (l : List DictEntry), lookT tab0 s = none → l.map He.keyOf = keysIn w.params (tab0.map fun p => SX.S p.1) → l.find? (·.key.isStr (SX.S s)) = none ∧ l.any (·.refKey) = false := fun tab0 => by
      induction tab0 with
      | nil =>
        intro l _ hl
        cases l with
        | nil => exact ⟨rfl, rfl⟩
        | cons e r => cases hl
      | cons p t ih =>
        intro l hlk hl
        cases l with
        | nil => cases hl
        | cons e r =>
          have hl2 : He.keyOf e :: r.map He.keyOf = some (SX.S p.1, PyData.keyHash w.params (SX.S p.1)) :: keysIn w.params (t.map fun p => SX.S p.1) := hl
          injection hl2 with q1 q2
          have hlk : (if eqS p.1 s then some p.2 else lookT t s) = none := hlk
          have ne : ¬ p.1 = s := fun z => by
            rw [eqS_iff, decide_eq_true z] at hlk
            cases hlk
          have hlk2 : lookT t s = none := by
            rw [eqS_iff, decide_eq_false ne] at hlk
            exact hlk
          obtain ⟨i1, i2⟩ := ih r hlk2 q2
          unfold He.keyOf at q1
          split at q1
          · rename_i x tk ek
            obtain ⟨q5, _⟩ := Prod.mk.inj (Option.some.inj q1)
            have n1 : e.key.isStr (SX.S s) = false := by
              rw [ek, q5]
              show (SX.S p.1 == SX.S s) = false
              rw [SX.S_beq]
              simpa using ne
            refine ⟨?_, ?_⟩
            · rw [List.find?_cons_of_neg (by rw [n1]; decide)]; exact i1
            · rw [List.any_cons, i2]
              show (e.refKey || false) = false
              unfold DictEntry.refKey
              rw [ek]
              rfl
          · cases q1
    obtain ⟨f1, f2⟩ := none_ tab es.toList h hkeys
    unfold PySem.W.nsIn
    rw [D.at_]
    show (match es.toList.find? (·.key.isStr (SX.S s)) with
      | some e => some (some e.val)
      | none => if es.toList.any (·.refKey) then none else some none) = some none
    rw [f1, f2]
    rfl
  · obtain ⟨u, hu, ru⟩ := valsB_ok hv (q := (SX.S p.1, Dv.str (SX.S p.2))) (List.mem_map.mpr ⟨p, h1, rfl⟩)
    obtain ⟨tok, rfl⟩ := (show ∃ t, u = Value.str (SX.S p.2) t from ru)
    exact ⟨some (.str (SX.S p.2) tok), by rw [← h2]; exact hu, .inr ⟨p.2, tok, h3, rfl⟩⟩
theorem SaysT.dicW (c : SaysT fa fn ts w K) (i : Nat) {t : Tab} (h : ts[i]? = some t := by rfl) : He.dicW K (t.1 K) = some (keysIn w.params t.2) := by
  have e : ts.map (fun t => He.dicW K (t.1 K)) = ts.map fun t => some (keysIn w.params t.2) := congrArg (fun z : AlT => z.2) c
  have e2 : (ts.map fun t => He.dicW K (t.1 K))[i]? = (ts.map fun t => some (keysIn w.params t.2))[i]? := by rw [e]
  rw [List.getElem?_map, List.getElem?_map, h] at e2
  exact Option.some.inj e2
end
end D
set_option Elab.async false
set_option linter.all false
set_option maxRecDepth 100000
set_option maxHeartbeats 2000000
/-! D15: short words for printed derivations. -/
namespace D
open PySem PySem.Spec PyProof.Rows L2 SlX
section
variable {cl : Cl} {X : Cx} {pos : Pos} {a b c e : Expr} {ma mb mc m : Ex}
theorem dv (i : Nat) {x : Str} (hN : X.N[i]? = some x := by rfl) (hv : Vis X.env.scope x := by first | exact Or.inl rfl | exact Or.inr (Or.inl rfl) | exact Or.inr (Or.inr rfl)) (hd : (x == ("__debug__" : Str)) = false := by decide)
    (hcd : (x == ("__classdict__" : Str)) = false := by decide) : DE cl X (.Name x pos) (eSlot i) := de_var hN hv hd hcd
theorem dstr (z : List Nat) {x : Str} {j} (h : x = SX.S z := by rfl) : DE cl X (.Constant (.str x) j pos) (eC (.str z)) := by
  subst h
  exact de_str
theorem dst (i : Nat) {x : Str} {pos' : Pos} (nd : X.N.Nodup) (he : DE cl X e m) (hi : X.N[i]? = some x := by rfl) (hx : Loc X.env.scope x := by first | exact Or.inl rfl | exact Or.inr rfl) (hs : swapsWith e (some (.Name x pos')) pos.line X.env = pure false := by rfl)
    (hf : X.fn x = true ∨ X.env.scope.names.lookup x = some .local := by first | exact .inl rfl | exact .inr rfl) : DS cl X (.Assign [.Name x pos'] e pos) (sAs m (gN i)) := ds_set nd hi hx he hs hf
theorem dgn (i : Nat) {x : Str} (nd : X.N.Nodup) (hi : X.N[i]? = some x := by rfl) (hx : Loc X.env.scope x := by first | exact Or.inl rfl | exact Or.inr rfl) (hf : X.fn x = true ∨ X.env.scope.names.lookup x = some .local := by first | exact .inl rfl | exact .inr rfl) :
    DG cl X (.Name x pos) [i] (gN i) := dg_name nd hi hx hf
theorem dcmp {op : CmpOp} {g : DV → DV → M DV} (ho : O2 cl X (compareOp op) g) (ha : DE cl X a ma) (hb : DE cl X b mb) (hm : behindInMarks op b = false := by first | rfl | exact nobehind _ (by decide) (by decide)) : DE cl X (.Compare a [op] [b] pos) (eOp g ma mb) := de_cmp ho ha hb hm
theorem tcmp {op : CmpOp} {g : DV → DV → M DV} (ho : O2 cl X (compareOp op) g) (ha : DE cl X a ma) (hb : DE cl X b mb) (hm : behindInMarks op b = false := by first | rfl | exact nobehind _ (by decide) (by decide)) : DT cl X (.Compare a [op] [b] pos) (bCmp g ma mb) := dt_cmp ho ha hb hm
def eKdGet1 (tab : List (List Nat × List Nat)) (mk : Ex) : Ex := fun sl => bnd (mk sl) fun k => match k with
  | .str s => (match lookT tab s with
    | some t => ret (.str t)
    | none => ret .non)
  | _ => stk
theorem de_kdget1 {k : Expr} {mk : Ex} {apos : Pos} {x : Str} {p : Pos} {d : Addr} {tab : List (List Nat × List Nat)} (T : KTab X.K X.w d tab) (hg : Gl X x) (hm : X.mg x = some (.ref d)) (hk : DE cl X k mk) (m : M1 X (.Name x p) "get" apos k pos) (hd : (x == ("__debug__" : Str)) = false := by decide) :
    DE cl X (.Call (.Attribute (.Name x p) "get" apos) [k] [] pos) (eKdGet1 tab mk) := by
  obtain ⟨es, n, D⟩ := T.kd
  refine ⟨fun pins s σ H Q I q => ?_⟩
  obtain ⟨W, h, sl, v, h', rel, rs, e, po⟩ := q
  obtain ⟨kd, h1, e1, e4⟩ := bnd_ok e
  have ho : PE X (.Name x p) (tC (.ref d)) := pe_glob hg hm (show RelV (.ref d) (.ref d) from rfl) hd
  refine wpAny_Call_method m.base m.few m.line PySem.F.plainAttrs_dict PySem.F.slot_dict_get PySem.F.type_dict_get (thn (ho.run pins s σ H (fun x H1 => x = .ref d ∧ H1 = H) I ⟨rfl, rfl⟩) fun u s1 ⟨x1, H1, I1, rx, ex, eH⟩ => ?_)
  subst ex eH
  obtain rfl : u = Value.ref d := rx
  have ty := kd_type D I1
  obtain ⟨od, hod, hcd⟩ := ty
  refine ⟨⟨od, hod, hcd⟩, ?_, ?_⟩
  · intro b q
    cases q
    obtain ⟨ob, _, _, h1, h2, _⟩ := PySem.W.mapOf_K (prog := X.prog) (w := X.w) I1.kIn D.at_ D.lit
    exact ⟨ob, h1, h2.2.1⟩
  rw [m.trees]
  refine Calls.callWith_builtin rfl (Calls.evalArgs_plain (Calls.spliced_cons (thn (hk.run pins s1 σ H1 (fun y H2 => ∃ W2, Ext W H1 W2 H2 ∧ HRel X.K cl W2 h1 H2 ∧ RV X.K cl W2 H2 kd y) I1 ⟨W, h, sl, kd, h1, rel, rs, e1, fun W2 H2 y ex r2 rv => ⟨W2, ex, r2, rv⟩⟩) fun iv s2 ⟨y, H2, I2, ry, W2, ext2, rel2, rvk⟩ => Calls.spliced_nil ?_)))
  split at e4
  · cases rvk
    obtain ⟨tk, rfl⟩ := ry
    have md := PySem.W.mapOf_K (prog := X.prog) (w := X.w) I2.kIn D.at_ D.lit
    obtain ⟨r, l1, l2⟩ := T.look _
    refine call_meetsIn PySem.F.slot_dict_get (kd_type D I2) PySem.F.entry_dict_get (PySem.F.args_dict_get_2 _ _) (meets_dict_get (PySem.strKind X.prog X.w) d (PySem.strKind_is X.prog X.w _ tk) D.low) ⟨_, md, ?_⟩
    rw [PySem.W.find_K D.at_ l1]
    rcases l2 with ⟨a, b⟩ | ⟨t, tok, a, b⟩
    · rw [a] at e4
      cases e4
      subst b
      exact ⟨.non, H2, I2.tok _, rfl, po W2 H2 .non ext2 rel2 .non⟩
    · rw [a] at e4
      cases e4
      subst b
      exact ⟨.str (SX.S t), H2, I2.tok _, ⟨tok, rfl⟩, po W2 H2 _ ext2 rel2 (.str t)⟩
  · cases e4
def bKdIn (tab : List (List Nat × List Nat)) (m : Ex) : Tx := fun sl => bnd (m sl) fun d => match d with
  | .str s => ret (lookT tab s).isSome
  | _ => stk
theorem dt_kdin {k : Expr} {mk : Ex} {x : Str} {p : Pos} {d : Addr} {tab : List (List Nat × List Nat)} (T : KTab X.K X.w d tab) (hg : Gl X x) (hm : X.mg x = some (.ref d)) (hk : DE cl X k mk) (hd : (x == ("__debug__" : Str)) = false := by decide) (hb : behindInMarks .In (.Name x p) = false := by rfl) :
    DT cl X (.Compare k [.In] [.Name x p] pos) (bKdIn tab mk) := by
  obtain ⟨es, n, D⟩ := T.kd
  refine (pt_cmpR (op_in_kd D) hk (pe_glob hg hm (show RelV (.ref d) (.ref d) from rfl) hd) hb).mono fun σ H Q q => ?_
  obtain ⟨W, h, sl, v, h', rel, rs, e, po⟩ := q
  obtain ⟨kd, h1, e1, e2⟩ := bnd_ok e
  refine ⟨W, h, sl, kd, h1, rel, rs, e1, fun W1 H1 y ext rel1 rv => ?_⟩
  split at e2
  · cases e2
    cases rv
    rename_i s
    obtain ⟨r, h1, h2⟩ := T.look s
    refine ⟨SX.S s, r, rfl, rfl, h1, r.isSome, rfl, ?_⟩
    have : r.isSome = (lookT tab s).isSome := by
      rcases h2 with ⟨a, b⟩ | ⟨t, tok, a, b⟩ <;> rw [a, b] <;> rfl
    rw [this]
    exact po W1 H1 ext rel1
  · cases e2
end
end D
set_option Elab.async false
set_option linter.all false
set_option maxRecDepth 100000
set_option maxHeartbeats 2000000
/-! D16: callees known by a table of their arguments. -/
namespace D
open PySem PySem.Spec PyProof.Rows L2 SlX
def eqI1 (i j : Int) : Bool := match i, j with
  | .ofNat a, .ofNat b => Nat.beq a b
  | .negSucc a, .negSucc b => Nat.beq a b
  | _, _ => false
theorem eqI1_ok {i j : Int} (h : eqI1 i j = true) : i = j := by
  cases i <;> cases j <;> first | (cases h; done) | skip
  · exact congrArg Int.ofNat (Nat.eq_of_beq_eq_true h)
  · exact congrArg Int.negSucc (Nat.eq_of_beq_eq_true h)
def eq1 : DV → DV → Bool
  | .non, .non => true
  | .bl a, .bl b => a == b
  | .int i, .int j => eqI1 i j
  | .str s, .str t => eqS s t
  | _, _ => false
theorem eq1_ok {a b : DV} (h : eq1 a b = true) : a = b := by
  cases a <;> cases b <;> first | (cases h; done) | skip
  · rfl
  · exact congrArg DV.bl (beq_iff_eq.mp h)
  · exact congrArg DV.int (eqI1_ok h)
  · have h : eqS _ _ = true := h
    rw [eqS_iff] at h
    exact congrArg DV.str (of_decide_eq_true h)
def eqLD : List DV → List DV → Bool
  | [], [] => true
  | a :: s, b :: t => eq1 a b && eqLD s t
  | _, _ => false
theorem eqLD_ok : ∀ {a b : List DV}, eqLD a b = true → a = b
  | [], [], _ => rfl
  | [], _ :: _, h => by cases h
  | _ :: _, [], h => by cases h
  | a :: s, b :: t, h => by
    obtain ⟨h1, h2⟩ := Bool.and_eq_true_iff.mp (show (eq1 a b && eqLD s t) = true from h)
    rw [eq1_ok h1, eqLD_ok h2]
def tblG (tab : List (List DV)) (rest : List DV) : Option DV := if tab.any (fun r => eqLD r rest) then some (.bl true) else none
theorem tbl_ok {tk : List DV → M DV} (hT : TkAll tk) {inc : Nat} {g : List DV → M DV} {tr : List DV → Option Tr} {tab : List (List DV)} (h : ∀ r ∈ tab, byTree inc g true tr r = some (.bl true)) :
    ∀ rest v, tblG tab rest = some v → noRefs rest = true ∧ flatD v = true ∧ ∀ c1, c1 ≤ 2000000 → AnyPot tk c1 (pots inc g rest v) := fun rest v e => by
  unfold tblG at e
  split at e
  · rename_i c
    cases e
    obtain ⟨r, hr, hq⟩ := List.any_eq_true.mp c
    have := eqLD_ok hq
    subst this
    exact byTree_ok hT _ _ (h _ hr)
  · cases e
theorem byTree_of {inc : Nat} {g : List DV → M DV} {b : Bool} {tr : List DV → Option Tr} {rest : List DV} {t : Tr} (ht : tr rest = some t) (h1 : noRefs rest = true) (h2 : trDeep 1000 t = true) (h3 : trOk t = true) (h4 : trAll (fun L => eqR inc b (g (.ref 0 :: rest) [.pot 0 L])) t [] = true) :
    byTree inc g b tr rest = some (.bl b) := by
  unfold byTree
  rw [ht]
  show (if noRefs rest && (trDeep 1000 t && (trOk t && trAll (fun L => eqR inc b (g (.ref 0 :: rest) [.pot 0 L])) t [])) then some (DV.bl b) else none) = _
  rw [h1, h2, h3, h4]
  rfl
theorem all_nil {α : Type} {p : α → Prop} : ∀ r ∈ ([] : List α), p r := fun _ h => by cases h
theorem all_cons {α : Type} {p : α → Prop} {a : α} {l : List α} (h : p a) (t : ∀ r ∈ l, p r) : ∀ r ∈ a :: l, p r := fun r hr => by
  rcases List.mem_cons.mp hr with z | z
  · rw [z]; exact h
  · exact t r z
end D
set_option Elab.async false
set_option linter.all false
set_option maxRecDepth 100000
set_option maxHeartbeats 0
/-! printed by gen.py: the law's defs as D functions; their derivations. -/
namespace Lw
open PySem PySem.Spec PyProof.Rows L2 SlX D
theorem only {α : Type} {A : Nat → Option α} {p : Nat → α → Prop} (h0 : ∀ k, A 0 = some k → p 0 k) (h1 : ∀ n, A (n + 1) = none) : ∀ c k, A c = some k → p c k
  | 0, k, h => h0 k h
  | n + 1, k, h => by rw [h1 n] at h; cases h
def top (i : Nat) : Stmt := PySem.Challenge.pw_looseknobs_k09_words_by_hand.main.body.getD i (.Pass ⟨0, 0, 0, 0⟩)
/-- so many draws, of these many each -/
def seqTree : List Nat → Tr
  | [] => .leaf
  | u :: us => .nd (List.replicate u (seqTree us))
/-- n letters among wires: how many wires, then their places -/
def wordTree (n : Nat) : Tr := .nd ((List.range (5 - n)).map fun d => seqTree ((List.range n).map fun i => n + d - i))

def tab_THIRDS : List (List Nat × List Nat) := [([88, 89], [90]), ([89, 90], [88]), ([90, 88], [89])]
def isi_str : Tag → Option Bool := fun t => match t with | .non => some false | .bl => some false | .int => some false | .str => some true | .lst => some false | .tup => some false | .dic => some false | .ob 0 => some false | .ob _ => none
def isi_Word : Tag → Option Bool := fun t => match t with | .non => some false | .bl => some false | .int => some false | .str => some false | .lst => some false | .tup => some false | .dic => some false | .ob 0 => some true | .ob _ => none
def so_own_sign : Nat → Option Nat := fun c => match c with | 0 => some 1 | _ => none
def so_own_letters : Nat → Option Nat := fun c => match c with | 0 => some 0 | _ => none
def at_own_sign : Nat → Option AtK := fun c => match c with | 0 => some (.sl 1) | _ => none
def at_own_letters : Nat → Option AtK := fun c => match c with | 0 => some (.sl 0) | _ => none
abbrev st_letters_in : Stmt := top 16
abbrev st_Worddd_initdd : Stmt := inClass (top 15) 1
abbrev st_word_of : Stmt := top 17
abbrev st_Worddd_negdd : Stmt := inClass (top 15) 8
abbrev st_check_size : Stmt := top 19
abbrev st_made_letter : Stmt := top 21
abbrev st_made_letters : Stmt := top 23
abbrev st_quarter_of : Stmt := top 20
abbrev st_quarters : Stmt := top 22
abbrev st_product : Stmt := top 24
abbrev st_Worddd_muldd : Stmt := inClass (top 15) 9
abbrev st__law_take : Stmt := top 28
abbrev st__law_some : Stmt := top 29
abbrev st__law_lone : Stmt := top 31
abbrev st__law_among : Stmt := top 32
abbrev st_Worddd_eqdd : Stmt := inClass (top 15) 10
abbrev st_Word_text : Stmt := inClass (top 15) 2
abbrev st__law_laid : Stmt := top 33
abbrev st__law_is_made_right : Stmt := top 35
abbrev st_check_word : Stmt := top 18
abbrev st_bent_word : Stmt := top 25
abbrev st_Word_bent : Stmt := inClass (top 15) 6
abbrev st__law_is_bent_right : Stmt := top 34
abbrev st__law_right : Stmt := top 36
abbrev st__law_pot : Stmt := top 27
abbrev st__law_cells : Stmt := top 30
abbrev st_law : Stmt := top 37
def f_letters_in : List DV → M DV := runF 3 (sCons (sIf (bNot (bE (eIsi isi_str (eSlot 0)))) (sCons (sRet (eC .non)) sNil) sNil) (sCons (sAs (eM1 rmpreD (eSlot 0) (eC (.str [45]))) (gN 1)) (sCons (sIf (bOr (bNot (bChain leD leD (eC (.int (1))) (eCall lenD (aCons (eSlot 1) aNil)) (eC (.int (4))))) (bNot (bE (eCall allD (aCons (eLc (iE (eSlot 1)) (gN 2) [2] bYes (eOp inD (eSlot 2) (eC (.str [73, 88, 89, 90])))) aNil))))) (sCons (sRet (eC .non)) sNil) sNil) (sCons (sRet (eSlot 1)) sNil))))
def f_Worddd_initdd : List DV → M DV := runF 3 (sCons (sAs (eCall f_letters_in (aCons (eSlot 1) aNil)) (gN 2)) (sCons (sIf (bCmp isD (eSlot 2) (eC .non)) (sCons sStk sNil) sNil) (sCons (sSlo so_own_letters (eSlot 0) (eSlot 2)) (sCons (sSlo so_own_sign (eSlot 0) (eIf (bE (eM1 startsD (eSlot 1) (eC (.str [45])))) (eUn negD (eC (.int (1)))) (eC (.int (1))))) sNil))))
def f_word_of : List DV → M DV := runF 2 (sCons (sRet (eCall (makeD 0 f_Worddd_initdd) (aCons (eIf (bCmp ltD (eSlot 1) (eC (.int (0)))) (eOp addD (eC (.str [45])) (eSlot 0)) (eSlot 0)) aNil))) sNil)
def f_Worddd_negdd : List DV → M DV := runF 1 (sCons (sRet (eCall f_word_of (aCons (eAttr at_own_letters (eSlot 0)) (aCons (eUn negD (eAttr at_own_sign (eSlot 0))) aNil)))) sNil)
def ow_neg : Nat → Option (List DV → M DV) := fun c => match c with | 0 => some f_Worddd_negdd | _ => none
def negX : DV → M DV := fun x => match x with
  | .obj c fs => bnd (optM (ow_neg c)) fun k => k [.obj c fs]
  | a => negD a
def f_check_size : List DV → M DV := runF 2 (sCons (sIf (bCmp neD (eCall lenD (aCons (eAttr at_own_letters (eSlot 0)) aNil)) (eCall lenD (aCons (eAttr at_own_letters (eSlot 1)) aNil))) (sCons sStk sNil) sNil) sNil)
def f_made_letter : List DV → M DV := runF 2 (sCons (sIf (bCmp eqD (eSlot 0) (eSlot 1)) (sCons (sRet (eC (.str [73]))) sNil) sNil) (sCons (sIf (bCmp inD (eC (.str [73])) (eTup (aCons (eSlot 0) (aCons (eSlot 1) aNil)))) (sCons (sRet (eIf (bCmp eqD (eSlot 0) (eC (.str [73]))) (eSlot 1) (eSlot 0))) sNil) sNil) (sCons (sRet (eKdGet2 tab_THIRDS (eOp addD (eSlot 0) (eSlot 1)) (eKdGet1 tab_THIRDS (eOp addD (eSlot 1) (eSlot 0))))) sNil)))
def f_made_letters : List DV → M DV := runF 4 (sCons (sRet (eM1 joinD (eC (.str [])) (eLc (iRg zip2 (aCons (eSlot 0) (aCons (eSlot 1) aNil))) (gT 2 (gsCons (gN 2) (gsCons (gN 3) gsNil))) [2, 3] bYes (eCall f_made_letter (aCons (eSlot 2) (aCons (eSlot 3) aNil)))))) sNil)
def f_quarter_of : List DV → M DV := runF 2 (sCons (sIf (bKdIn tab_THIRDS (eOp addD (eSlot 0) (eSlot 1))) (sCons (sRet (eC (.int (1)))) sNil) sNil) (sCons (sRet (eIf (bKdIn tab_THIRDS (eOp addD (eSlot 1) (eSlot 0))) (eUn negD (eC (.int (1)))) (eC (.int (0))))) sNil))
def f_quarters : List DV → M DV := runF 4 (sCons (sRet (eCall sumD (aCons (eLc (iRg zip2 (aCons (eSlot 0) (aCons (eSlot 1) aNil))) (gT 2 (gsCons (gN 2) (gsCons (gN 3) gsNil))) [2, 3] bYes (eCall f_quarter_of (aCons (eSlot 2) (aCons (eSlot 3) aNil)))) aNil))) sNil)
def f_product : List DV → M DV := runF 3 (sCons (sAs (eOp repD (eAttr at_own_sign (eSlot 0)) (eAttr at_own_sign (eSlot 1))) (gN 2)) (sCons (sAs (eIf (bCmp eqD (eOp modD (eCall f_quarters (aCons (eAttr at_own_letters (eSlot 0)) (aCons (eAttr at_own_letters (eSlot 1)) aNil))) (eC (.int (4)))) (eC (.int (0)))) (eSlot 2) (eUn negD (eSlot 2))) (gN 2)) (sCons (sRet (eCall f_word_of (aCons (eCall f_made_letters (aCons (eAttr at_own_letters (eSlot 0)) (aCons (eAttr at_own_letters (eSlot 1)) aNil))) (aCons (eSlot 2) aNil)))) sNil)))
def f_Worddd_muldd : List DV → M DV := runF 2 (sCons (sIf (bNot (bE (eIsi isi_Word (eSlot 1)))) (sCons sStk sNil) sNil) (sCons (sEx (eCall f_check_size (aCons (eSlot 0) (aCons (eSlot 1) aNil)))) (sCons (sIf (bCmp neD (eOp modD (eCall f_quarters (aCons (eAttr at_own_letters (eSlot 0)) (aCons (eAttr at_own_letters (eSlot 1)) aNil))) (eC (.int (2)))) (eC (.int (0)))) (sCons sStk sNil) sNil) (sCons (sRet (eCall f_product (aCons (eSlot 0) (aCons (eSlot 1) aNil)))) sNil))))
def ow_mul : Nat → Option (List DV → M DV) := fun c => match c with | 0 => some f_Worddd_muldd | _ => none
def mulX : DV → DV → M DV := fun x y => match x, y with
  | .obj c fs, .obj c' fs' => if Nat.beq c c' then bnd (optM (ow_mul c)) fun k => k [.obj c fs, .obj c' fs'] else stk
  | a, b => repD a b
def f__law_take : List DV → M DV := runF 5 (sCons (sIf (bCmp gtD (eOp itemD (eSlot 0) (eC (.int (0)))) (eC (.int (0)))) (sCons (sAs (eOp modD (eCall intD (aCons (eOp itemD (eSlot 0) (eC (.int (0)))) aNil)) (eSlot 1)) (gN 4)) (sCons (sSub (eSlot 0) (eC (.int (0))) (eOp fdivD (eOp itemD (eSlot 0) (eC (.int (0)))) (eSlot 1))) (sCons (sRet (eSlot 4)) sNil))) sNil) (sCons (sSub (eSlot 0) (eC (.int (2))) (eOp addD (eOp itemD (eSlot 0) (eC (.int (2)))) (eC (.int (1))))) (sCons (sAs (eOp itemD (eLst (aCons (eC (.int (2147483647))) (aCons (eC (.int (2147483629))) (aCons (eC (.int (2147483587))) (aCons (eC (.int (2147483579))) (aCons (eC (.int (2147483563))) aNil)))))) (eOp modD (eCall intD (aCons (eOp itemD (eSlot 0) (eC (.int (2)))) aNil)) (eC (.int (5))))) (gN 2)) (sCons (sAs (eOp modD (eCall intD (aCons (eOp powD (eCall intD (aCons (eOp addD (eOp addD (eOp itemD (eSlot 0) (eC (.int (1)))) (eOp mulX (eOp mulX (eC (.int (101059))) (eOp itemD (eSlot 0) (eC (.int (2))))) (eOp itemD (eSlot 0) (eC (.int (2)))))) (eC (.int (46)))) aNil)) (eC (.int (3)))) aNil)) (eSlot 2)) (gN 3)) (sCons (sRet (eOp modD (eCall intD (aCons (eOp fdivD (eOp mulX (eSlot 3) (eOp addD (eOp modD (eCall intD (aCons (eSlot 3) aNil)) (eC (.int (10097)))) (eOp mulX (eC (.int (100))) (eOp itemD (eSlot 0) (eC (.int (2))))))) (eC (.int (149)))) aNil)) (eSlot 1))) sNil)))))
def f__law_some : List DV → M DV := runF 6 (sCons (sPar 3 4 (aCons (eCall listD (aCons (eSlot 1) aNil)) (aCons (eLst aNil) aNil))) (sCons (sFor (iRg rng1 (aCons (eSlot 2) aNil)) (gN 5) (sCons (sEx (eML appendD (eSlot 4) (aCons (eML popAtD (eSlot 3) (aCons (eCall takeD (aCons (eSlot 0) (aCons (eCall lenD (aCons (eSlot 3) aNil)) aNil))) aNil)) aNil))) sNil)) (sCons (sRet (eSlot 4)) sNil)))
def f__law_lone : List DV → M DV := runF 3 (sCons (sRet (eM1 joinD (eC (.str [])) (eLc (iRg rng1 (aCons (eSlot 0) aNil)) (gN 2) [2] bYes (eGet2 (eSlot 1) (eSlot 2) (eC (.str [73])))))) sNil)
def f__law_among : List DV → M DV := runF 9 (sCons (sAs (eOp addD (eCall lenD (aCons (eSlot 1) aNil)) (eCall takeD (aCons (eSlot 0) (aCons (eOp subD (eC (.int (5))) (eCall lenD (aCons (eSlot 1) aNil))) aNil)))) (gN 3)) (sCons (sAs (eUn sortSetD (eCall f__law_some (aCons (eSlot 0) (aCons (eUn lstRg1 (eSlot 3)) (aCons (eCall lenD (aCons (eSlot 1) aNil)) aNil))))) (gN 4)) (sCons (sAs (eLst aNil) (gN 5)) (sCons (sFor (iRg zip2 (aCons (eTup (aCons (eSlot 1) (aCons (eSlot 2) aNil))) (aCons (eTup (aCons (eC (.str [])) (aCons (eC (.str [])) aNil))) aNil))) (gT 2 (gsCons (gN 6) (gsCons (gN 7) gsNil))) (sCons (sAs (eCall dictD (aCons (eCall lstZip (aCons (eSlot 4) (aCons (eSlot 6) aNil))) aNil)) (gN 8)) (sCons (sEx (eML appendD (eSlot 5) (aCons (eOp addD (eSlot 7) (eCall f__law_lone (aCons (eSlot 3) (aCons (eSlot 8) aNil)))) aNil))) sNil))) (sCons (sRet (eTup (aCons (eSlot 3) (aCons (eSlot 4) (aCons (eSlot 5) aNil))))) sNil)))))
def f_Worddd_eqdd : List DV → M DV := runF 2 (sCons (sRet (eAnd (eIsi isi_Word (eSlot 1)) (eAnd (eOp eqD (eAttr at_own_letters (eSlot 0)) (eAttr at_own_letters (eSlot 1))) (eOp eqD (eAttr at_own_sign (eSlot 0)) (eAttr at_own_sign (eSlot 1)))))) sNil)
def ow_eq : Nat → Option (List DV → M DV) := fun c => match c with | 0 => some f_Worddd_eqdd | _ => none
def eqX : DV → DV → M DV := ownD ow_eq eqD
def f_Word_text : List DV → M DV := runF 1 (sCons (sRet (eIf (bCmp ltD (eAttr at_own_sign (eSlot 0)) (eC (.int (0)))) (eOp addD (eC (.str [45])) (eAttr at_own_letters (eSlot 0))) (eAttr at_own_letters (eSlot 0)))) sNil)
def at_text : Nat → Option AtK := fun c => match c with | 0 => some (.pr f_Word_text) | _ => none
def f__law_laid : List DV → M DV := runF 4 (sCons (sRet (eOp addD (eOp mulX (eC (.str [45])) (eCall intD (aCons (eOp ltD (eSlot 3) (eC (.int (0)))) aNil))) (eCall f__law_lone (aCons (eSlot 0) (aCons (eCall dictD (aCons (eCall lstZip (aCons (eSlot 1) (aCons (eSlot 2) aNil))) aNil)) aNil))))) sNil)
def f__law_is_made_right : List DV → M DV := runF 9 (sCons (sAs (eCall f__law_among (aCons (eSlot 0) (aCons (eSlot 1) (aCons (eSlot 2) aNil)))) (gT 3 (gsCons (gN 5) (gsCons (gN 6) (gsCons (gN 7) gsNil))))) (sCons (sAs (eOp mulX (eCall (makeD 0 f_Worddd_initdd) (aCons (eOp itemD (eSlot 7) (eC (.int (0)))) aNil)) (eCall (makeD 0 f_Worddd_initdd) (aCons (eOp itemD (eSlot 7) (eC (.int (1)))) aNil))) (gN 8)) (sCons (sRet (eAnd (eOp eqX (eAttr at_text (eSlot 8)) (eCall f__law_laid (aCons (eSlot 5) (aCons (eSlot 6) (aCons (eSlot 3) (aCons (eSlot 4) aNil)))))) (eOp eqX (eOp mulX (eUn negX (eCall (makeD 0 f_Worddd_initdd) (aCons (eOp itemD (eSlot 7) (eC (.int (0)))) aNil))) (eCall (makeD 0 f_Worddd_initdd) (aCons (eOp itemD (eSlot 7) (eC (.int (1)))) aNil))) (eUn negX (eSlot 8))))) sNil)))
def tr__law_is_made_right : List DV → Option Tr := fun rest => match rest with | .str s :: _ => some (wordTree s.length) | _ => none
def tb__law_is_made_right : List (List DV) := [[.str [88], .str [88], .str [73], .int (1)],
  [.str [88, 88], .str [90, 90], .str [89, 89], .int (-1)],
  [.str [88, 88], .str [89, 89], .str [90, 90], .int (-1)],
  [.str [88, 90], .str [90, 88], .str [89, 89], .int (1)],
  [.str [88, 89], .str [89, 88], .str [90, 90], .int (1)],
  [.str [88, 88, 88, 88], .str [90, 90, 90, 90], .str [89, 89, 89, 89], .int (1)],
  [.str [88, 88, 88, 88], .str [89, 89, 89, 89], .str [90, 90, 90, 90], .int (1)],
  [.str [88, 88, 88, 90], .str [90, 90, 90, 88], .str [89, 89, 89, 89], .int (-1)],
  [.str [88, 89, 90], .str [88, 89, 90], .str [73, 73, 73], .int (1)],
  [.str [73, 88], .str [90, 73], .str [90, 88], .int (1)],
  [.str [88, 89, 73], .str [89, 88, 90], .str [90, 90, 90], .int (1)],
  [.str [90, 90], .str [89, 89], .str [88, 88], .int (-1)]]
def G__law_is_made_right : List DV → Option DV := tblG tb__law_is_made_right
def fr__law_is_made_right : List DV → M DV := frameD 1000 G__law_is_made_right
def f_check_word : List DV → M DV := runF 1 (sCons (sIf (bNot (bE (eIsi isi_Word (eSlot 0)))) (sCons sStk sNil) sNil) sNil)
def f_bent_word : List DV → M DV := runF 3 (sCons (sAs (eOp repD (eAttr at_own_sign (eSlot 0)) (eAttr at_own_sign (eSlot 1))) (gN 2)) (sCons (sAs (eIf (bCmp eqD (eOp modD (eOp addD (eCall f_quarters (aCons (eAttr at_own_letters (eSlot 0)) (aCons (eAttr at_own_letters (eSlot 1)) aNil))) (eC (.int (1)))) (eC (.int (4)))) (eC (.int (0)))) (eSlot 2) (eUn negD (eSlot 2))) (gN 2)) (sCons (sRet (eCall f_word_of (aCons (eCall f_made_letters (aCons (eAttr at_own_letters (eSlot 0)) (aCons (eAttr at_own_letters (eSlot 1)) aNil))) (aCons (eSlot 2) aNil)))) sNil)))
def f_Word_bent : List DV → M DV := runF 2 (sCons (sEx (eCall f_check_word (aCons (eSlot 1) aNil))) (sCons (sEx (eCall f_check_size (aCons (eSlot 0) (aCons (eSlot 1) aNil)))) (sCons (sIf (bCmp eqD (eOp modD (eCall f_quarters (aCons (eAttr at_own_letters (eSlot 0)) (aCons (eAttr at_own_letters (eSlot 1)) aNil))) (eC (.int (2)))) (eC (.int (0)))) (sCons sStk sNil) sNil) (sCons (sRet (eCall f_bent_word (aCons (eSlot 0) (aCons (eSlot 1) aNil)))) sNil))))
def me_bent : Nat → Option (List DV → M DV) := fun c => match c with | 0 => some f_Word_bent | _ => none
def f__law_is_bent_right : List DV → M DV := runF 10 (sCons (sAs (eCall f__law_among (aCons (eSlot 0) (aCons (eSlot 1) (aCons (eSlot 2) aNil)))) (gT 3 (gsCons (gN 5) (gsCons (gN 6) (gsCons (gN 7) gsNil))))) (sCons (sPar 8 9 (aCons (eCall (makeD 0 f_Worddd_initdd) (aCons (eOp itemD (eSlot 7) (eC (.int (0)))) aNil)) (aCons (eCall (makeD 0 f_Worddd_initdd) (aCons (eOp itemD (eSlot 7) (eC (.int (1)))) aNil)) aNil))) (sCons (sIf (bCmp neD (eAttr at_text (eMeth me_bent (eSlot 8) (aCons (eSlot 9) aNil))) (eCall f__law_laid (aCons (eSlot 5) (aCons (eSlot 6) (aCons (eSlot 3) (aCons (eSlot 4) aNil)))))) (sCons (sRet (eC (.bl false))) sNil) sNil) (sCons (sRet (eOp eqX (eAttr at_text (eMeth me_bent (eSlot 9) (aCons (eSlot 8) aNil))) (eCall f__law_laid (aCons (eSlot 5) (aCons (eSlot 6) (aCons (eSlot 3) (aCons (eUn negX (eSlot 4)) aNil))))))) sNil))))
def tr__law_is_bent_right : List DV → Option Tr := fun rest => match rest with | .str s :: _ => some (wordTree s.length) | _ => none
def tb__law_is_bent_right : List (List DV) := [[.str [88], .str [89], .str [90], .int (-1)],
  [.str [89], .str [90], .str [88], .int (-1)],
  [.str [90], .str [88], .str [89], .int (-1)],
  [.str [89], .str [88], .str [90], .int (1)],
  [.str [88], .str [90], .str [89], .int (1)],
  [.str [88, 88, 88], .str [90, 90, 90], .str [89, 89, 89], .int (-1)],
  [.str [88, 88, 88], .str [89, 89, 89], .str [90, 90, 90], .int (1)],
  [.str [88, 88, 90], .str [90, 90, 88], .str [89, 89, 89], .int (1)],
  [.str [88, 89], .str [89, 89], .str [90, 73], .int (-1)],
  [.str [90, 73, 90, 90], .str [88, 88, 88, 88], .str [89, 88, 89, 89], .int (1)],
  [.str [88, 89, 90], .str [89, 89, 73], .str [90, 73, 90], .int (-1)]]
def G__law_is_bent_right : List DV → Option DV := tblG tb__law_is_bent_right
def fr__law_is_bent_right : List DV → M DV := frameD 1000 G__law_is_bent_right
def f__law_right : List DV → M DV := runF 7 (sCons (sAs (eLst (aCons (eTup (aCons (eC (.str [88])) (aCons (eC (.str [89])) (aCons (eC (.str [90])) (aCons (eUn negX (eC (.int (1)))) aNil))))) (aCons (eTup (aCons (eC (.str [89])) (aCons (eC (.str [90])) (aCons (eC (.str [88])) (aCons (eUn negX (eC (.int (1)))) aNil))))) (aCons (eTup (aCons (eC (.str [90])) (aCons (eC (.str [88])) (aCons (eC (.str [89])) (aCons (eUn negX (eC (.int (1)))) aNil))))) (aCons (eTup (aCons (eC (.str [89])) (aCons (eC (.str [88])) (aCons (eC (.str [90])) (aCons (eC (.int (1))) aNil))))) (aCons (eTup (aCons (eC (.str [88])) (aCons (eC (.str [90])) (aCons (eC (.str [89])) (aCons (eC (.int (1))) aNil))))) aNil)))))) (gN 1)) (sCons (sAs (eOp addD (eSlot 1) (eLst (aCons (eTup (aCons (eC (.str [88, 88, 88])) (aCons (eC (.str [90, 90, 90])) (aCons (eC (.str [89, 89, 89])) (aCons (eUn negX (eC (.int (1)))) aNil))))) (aCons (eTup (aCons (eC (.str [88, 88, 88])) (aCons (eC (.str [89, 89, 89])) (aCons (eC (.str [90, 90, 90])) (aCons (eC (.int (1))) aNil))))) (aCons (eTup (aCons (eC (.str [88, 88, 90])) (aCons (eC (.str [90, 90, 88])) (aCons (eC (.str [89, 89, 89])) (aCons (eC (.int (1))) aNil))))) (aCons (eTup (aCons (eC (.str [88, 89])) (aCons (eC (.str [89, 89])) (aCons (eC (.str [90, 73])) (aCons (eUn negX (eC (.int (1)))) aNil))))) aNil)))))) (gN 1)) (sCons (sAs (eOp addD (eSlot 1) (eLst (aCons (eTup (aCons (eC (.str [90, 73, 90, 90])) (aCons (eC (.str [88, 88, 88, 88])) (aCons (eC (.str [89, 88, 89, 89])) (aCons (eC (.int (1))) aNil))))) (aCons (eTup (aCons (eC (.str [88, 89, 90])) (aCons (eC (.str [89, 89, 73])) (aCons (eC (.str [90, 73, 90])) (aCons (eUn negX (eC (.int (1)))) aNil))))) aNil)))) (gN 1)) (sCons (sIf (bNot (bE (eCall allD (aCons (eLc (iE (eSlot 1)) (gT 4 (gsCons (gN 3) (gsCons (gN 4) (gsCons (gN 5) (gsCons (gN 6) gsNil))))) [3, 4, 5, 6] bYes (eCall fr__law_is_bent_right (aCons (eSlot 0) (aCons (eSlot 3) (aCons (eSlot 4) (aCons (eSlot 5) (aCons (eSlot 6) aNil))))))) aNil)))) (sCons (sRet (eC (.bl false))) sNil) sNil) (sCons (sAs (eLst (aCons (eTup (aCons (eC (.str [88])) (aCons (eC (.str [88])) (aCons (eC (.str [73])) (aCons (eC (.int (1))) aNil))))) (aCons (eTup (aCons (eC (.str [88, 88])) (aCons (eC (.str [90, 90])) (aCons (eC (.str [89, 89])) (aCons (eUn negX (eC (.int (1)))) aNil))))) (aCons (eTup (aCons (eC (.str [88, 88])) (aCons (eC (.str [89, 89])) (aCons (eC (.str [90, 90])) (aCons (eUn negX (eC (.int (1)))) aNil))))) (aCons (eTup (aCons (eC (.str [88, 90])) (aCons (eC (.str [90, 88])) (aCons (eC (.str [89, 89])) (aCons (eC (.int (1))) aNil))))) (aCons (eTup (aCons (eC (.str [88, 89])) (aCons (eC (.str [89, 88])) (aCons (eC (.str [90, 90])) (aCons (eC (.int (1))) aNil))))) aNil)))))) (gN 2)) (sCons (sAs (eOp addD (eSlot 2) (eLst (aCons (eTup (aCons (eC (.str [88, 88, 88, 88])) (aCons (eC (.str [90, 90, 90, 90])) (aCons (eC (.str [89, 89, 89, 89])) (aCons (eC (.int (1))) aNil))))) (aCons (eTup (aCons (eC (.str [88, 88, 88, 88])) (aCons (eC (.str [89, 89, 89, 89])) (aCons (eC (.str [90, 90, 90, 90])) (aCons (eC (.int (1))) aNil))))) (aCons (eTup (aCons (eC (.str [88, 88, 88, 90])) (aCons (eC (.str [90, 90, 90, 88])) (aCons (eC (.str [89, 89, 89, 89])) (aCons (eUn negX (eC (.int (1)))) aNil))))) aNil))))) (gN 2)) (sCons (sAs (eOp addD (eSlot 2) (eLst (aCons (eTup (aCons (eC (.str [88, 89, 90])) (aCons (eC (.str [88, 89, 90])) (aCons (eC (.str [73, 73, 73])) (aCons (eC (.int (1))) aNil))))) (aCons (eTup (aCons (eC (.str [73, 88])) (aCons (eC (.str [90, 73])) (aCons (eC (.str [90, 88])) (aCons (eC (.int (1))) aNil))))) (aCons (eTup (aCons (eC (.str [88, 89, 73])) (aCons (eC (.str [89, 88, 90])) (aCons (eC (.str [90, 90, 90])) (aCons (eC (.int (1))) aNil))))) (aCons (eTup (aCons (eC (.str [90, 90])) (aCons (eC (.str [89, 89])) (aCons (eC (.str [88, 88])) (aCons (eUn negX (eC (.int (1)))) aNil))))) aNil)))))) (gN 2)) (sCons (sRet (eCall allD (aCons (eLc (iE (eSlot 2)) (gT 4 (gsCons (gN 3) (gsCons (gN 4) (gsCons (gN 5) (gsCons (gN 6) gsNil))))) [3, 4, 5, 6] bYes (eCall fr__law_is_made_right (aCons (eSlot 0) (aCons (eSlot 3) (aCons (eSlot 4) (aCons (eSlot 5) (aCons (eSlot 6) aNil))))))) aNil))) sNil))))))))
def tr__law_right : List DV → Option Tr := fun _ => some .leaf
def tb__law_right : List (List DV) := [[]]
def G__law_right : List DV → Option DV := tblG tb__law_right
def tp__law_right : List DV → M DV := topD G__law_right
def f__law_pot : List DV → M DV := runF 5 (sCons (sAs (eIf (bCmp ltD (eSlot 1) (eCall lenD (aCons (eSlot 0) aNil))) (eOp itemD (eSlot 0) (eSlot 1)) (eOp addD (eOp mulX (eC (.int (89))) (eSlot 1)) (eC (.int (52))))) (gN 2)) (sCons (sAs (eOp mulX (eOp modD (eCall intD (aCons (eCall absD (aCons (eSlot 2) aNil)) aNil)) (eOp powD (eOp powD (eC (.int (10))) (eC (.int (60)))) (eC (.int (5))))) (eCall intD (aCons (eOp geD (eCall absD (aCons (eSlot 2) aNil)) (eOp powD (eC (.int (10))) (eC (.int (18))))) aNil))) (gN 3)) (sCons (sAs (eOp modD (eCall intD (aCons (eSlot 2) aNil)) (eC (.int (2305843009213693951)))) (gN 4)) (sCons (sRet (eLst (aCons (eSlot 3) (aCons (eOp modD (eCall intD (aCons (eOp addD (eOp addD (eOp mulX (eSlot 4) (eC (.int (73914)))) (eOp mulX (eOp mulX (eC (.int (7199))) (eSlot 1)) (eSlot 1))) (eC (.int (210)))) aNil)) (eC (.int (2305843009213693921)))) (aCons (eC (.int (0))) aNil))))) sNil))))
def f__law_cells : List DV → M DV := runF 2 (sCons (sRet (eUn lstRg1 (eCall maxD (aCons (eC (.int (1))) (aCons (eCall minD (aCons (eSlot 1) (aCons (eCall lenD (aCons (eSlot 0) aNil)) aNil))) aNil))))) sNil)
def f_law : List DV → M DV := runF 2 (sCons (sRet (eCall allD (aCons (eLc (iE (eCall f__law_cells (aCons (eSlot 0) (aCons (eC (.int (6))) aNil)))) (gN 1) [1] bYes (eCall tp__law_right (aCons (eCall f__law_pot (aCons (eSlot 0) (aCons (eSlot 1) aNil))) aNil))) aNil))) sNil)
/-- what the head tells -/
structure Fs (K : PySem.W.Frag) (w : World) (mg : Str → Option Value) (cl : Cl) : Prop where
  b_len : mg ("len" : Str) = none
  v_MOST_WIRES : ∃ t, mg ("MOST_WIRES" : Str) = some (.int (4) t)
  v_SIGNS : ∃ t, mg ("SIGNS" : Str) = some (.str (SX.S [73, 88, 89, 90]) t)
  b_all : mg ("all" : Str) = none
  v_MINUS : ∃ t, mg ("MINUS" : Str) = some (.str (SX.S [45]) t)
  b_str : mg ("str" : Str) = none
  b_isinstance : mg ("isinstance" : Str) = none
  c0_scl : SCls K (cl.ad 0)
  c0_isi : SIsi K (cl.ad 0)
  ki_str_0 : PySem.W.kitOne K (.ref (cl.ad 0)) (.type "str") = some false
  c0_sl_own_sign : ∃ p, Slot1 K (cl.ad 0) ("own_sign" : Str) p 1
  c0_sl_own_letters : ∃ p, Slot1 K (cl.ad 0) ("own_letters" : Str) p 0
  c0_name : mg ("Word" : Str) = some (.ref (cl.ad 0))
  kd_THIRDS : ∃ d, mg ("THIRDS" : Str) = some (.ref d) ∧ KTab K w d tab_THIRDS
  v_STILL : ∃ t, mg ("STILL" : Str) = some (.str (SX.S [73]) t)
  b_zip : mg ("zip" : Str) = none
  b_sum : mg ("sum" : Str) = none
  v_ROUND : ∃ t, mg ("ROUND" : Str) = some (.int (4) t)
  v_PAIR : ∃ t, mg ("PAIR" : Str) = some (.int (2) t)
  ki_Word_non : PySem.W.kitOne K (tagV cl .non) (.ref (cl.ad 0)) = some false
  ki_Word_bl : PySem.W.kitOne K (tagV cl .bl) (.ref (cl.ad 0)) = some false
  ki_Word_int : PySem.W.kitOne K (tagV cl .int) (.ref (cl.ad 0)) = some false
  ki_Word_str : PySem.W.kitOne K (tagV cl .str) (.ref (cl.ad 0)) = some false
  ki_Word_lst : PySem.W.kitOne K (tagV cl .lst) (.ref (cl.ad 0)) = some false
  ki_Word_tup : PySem.W.kitOne K (tagV cl .tup) (.ref (cl.ad 0)) = some false
  ki_Word_dic : PySem.W.kitOne K (tagV cl .dic) (.ref (cl.ad 0)) = some false
  ki_Word_0 : PySem.W.kitOne K (tagV cl (.ob 0)) (.ref (cl.ad 0)) = some true
  b_int : mg ("int" : Str) = none
  c0_sf : PySem.W.selfFirst K (cl.ad 0) = true
  b_range : mg ("range" : Str) = none
  b_list : mg ("list" : Str) = none
  b_dict : mg ("dict" : Str) = none
  b_sorted : mg ("sorted" : Str) = none
  b_set : mg ("set" : Str) = none
  c0_nf : ∀ c, PySem.W.notFirst K (cl.ad 0) (.ref (cl.ad c)) = true
  b_abs : mg ("abs" : Str) = none
  b_min : mg ("min" : Str) = none
  b_max : mg ("max" : Str) = none
  fn_letters_in : ∃ f fd, mg ("letters_in" : Str) = some (.ref f) ∧ FunD K ("letters_in" : Str) ("letters_in" : Str) (defArgs st_letters_in) (defBody st_letters_in) (defScope st_letters_in) [] [] f fd
  fn_Worddd_initdd : ∃ f fd, Mk K (cl.ad 0) f ∧ FunD K ("__init__" : Str) ("Word.__init__" : Str) (defArgs st_Worddd_initdd) (defBody st_Worddd_initdd) (defScope st_Worddd_initdd) [] []  f fd
  fn_word_of : ∃ f fd, mg ("word_of" : Str) = some (.ref f) ∧ FunD K ("word_of" : Str) ("word_of" : Str) (defArgs st_word_of) (defBody st_word_of) (defScope st_word_of) [] [] f fd
  fn_Worddd_negdd : ∃ f fd, Meth K (cl.ad 0) ("__neg__" : Str) f ∧ FunD K ("__neg__" : Str) ("Word.__neg__" : Str) (defArgs st_Worddd_negdd) (defBody st_Worddd_negdd) (defScope st_Worddd_negdd) [] []  f fd
  fn_check_size : ∃ f fd, mg ("check_size" : Str) = some (.ref f) ∧ FunD K ("check_size" : Str) ("check_size" : Str) (defArgs st_check_size) (defBody st_check_size) (defScope st_check_size) [] [] f fd
  fn_made_letter : ∃ f fd, mg ("made_letter" : Str) = some (.ref f) ∧ FunD K ("made_letter" : Str) ("made_letter" : Str) (defArgs st_made_letter) (defBody st_made_letter) (defScope st_made_letter) [] [] f fd
  fn_made_letters : ∃ f fd, mg ("made_letters" : Str) = some (.ref f) ∧ FunD K ("made_letters" : Str) ("made_letters" : Str) (defArgs st_made_letters) (defBody st_made_letters) (defScope st_made_letters) [] [] f fd
  fn_quarter_of : ∃ f fd, mg ("quarter_of" : Str) = some (.ref f) ∧ FunD K ("quarter_of" : Str) ("quarter_of" : Str) (defArgs st_quarter_of) (defBody st_quarter_of) (defScope st_quarter_of) [] [] f fd
  fn_quarters : ∃ f fd, mg ("quarters" : Str) = some (.ref f) ∧ FunD K ("quarters" : Str) ("quarters" : Str) (defArgs st_quarters) (defBody st_quarters) (defScope st_quarters) [] [] f fd
  fn_product : ∃ f fd, mg ("product" : Str) = some (.ref f) ∧ FunD K ("product" : Str) ("product" : Str) (defArgs st_product) (defBody st_product) (defScope st_product) [] [] f fd
  fn_Worddd_muldd : ∃ f fd, Meth K (cl.ad 0) ("__mul__" : Str) f ∧ FunD K ("__mul__" : Str) ("Word.__mul__" : Str) (defArgs st_Worddd_muldd) (defBody st_Worddd_muldd) (defScope st_Worddd_muldd) [] []  f fd
  fn__law_take : ∃ f fd, mg ("_law_take" : Str) = some (.ref f) ∧ FunD K ("_law_take" : Str) ("_law_take" : Str) (defArgs st__law_take) (defBody st__law_take) (defScope st__law_take) [] [] f fd
  fn__law_some : ∃ f fd, mg ("_law_some" : Str) = some (.ref f) ∧ FunD K ("_law_some" : Str) ("_law_some" : Str) (defArgs st__law_some) (defBody st__law_some) (defScope st__law_some) [] [] f fd
  fn__law_lone : ∃ f fd, mg ("_law_lone" : Str) = some (.ref f) ∧ FunD K ("_law_lone" : Str) ("_law_lone" : Str) (defArgs st__law_lone) (defBody st__law_lone) (defScope st__law_lone) [] [] f fd
  fn__law_among : ∃ f fd, mg ("_law_among" : Str) = some (.ref f) ∧ FunD K ("_law_among" : Str) ("_law_among" : Str) (defArgs st__law_among) (defBody st__law_among) (defScope st__law_among) [] [] f fd
  fn_Worddd_eqdd : ∃ f fd, Meth K (cl.ad 0) ("__eq__" : Str) f ∧ FunD K ("__eq__" : Str) ("Word.__eq__" : Str) (defArgs st_Worddd_eqdd) (defBody st_Worddd_eqdd) (defScope st_Worddd_eqdd) [] []  f fd
  fn_Word_text : ∃ p f fd, (PySem.W.findIn K (.ref (cl.ad 0)) ("text" : Str) = some (some (.ref p)) ∧ PySem.W.specialIn K (.ref p) "__get__" = some (some (.builtin "property.__get__")) ∧ PySem.W.takesIn K (.ref p) = some true ∧ ∃ rest, PySem.W.recIn K p "property" = some (.ref f :: rest)) ∧ FunD K ("text" : Str) ("Word.text" : Str) (defArgs st_Word_text) (defBody st_Word_text) (defScope st_Word_text) [] []  f fd
  fn__law_laid : ∃ f fd, mg ("_law_laid" : Str) = some (.ref f) ∧ FunD K ("_law_laid" : Str) ("_law_laid" : Str) (defArgs st__law_laid) (defBody st__law_laid) (defScope st__law_laid) [] [] f fd
  fn__law_is_made_right : ∃ f fd, mg ("_law_is_made_right" : Str) = some (.ref f) ∧ FunD K ("_law_is_made_right" : Str) ("_law_is_made_right" : Str) (defArgs st__law_is_made_right) (defBody st__law_is_made_right) (defScope st__law_is_made_right) [] [] f fd
  fn_check_word : ∃ f fd, mg ("check_word" : Str) = some (.ref f) ∧ FunD K ("check_word" : Str) ("check_word" : Str) (defArgs st_check_word) (defBody st_check_word) (defScope st_check_word) [] [] f fd
  fn_bent_word : ∃ f fd, mg ("bent_word" : Str) = some (.ref f) ∧ FunD K ("bent_word" : Str) ("bent_word" : Str) (defArgs st_bent_word) (defBody st_bent_word) (defScope st_bent_word) [] [] f fd
  fn_Word_bent : ∃ f fd, Meth K (cl.ad 0) ("bent" : Str) f ∧ FunD K ("bent" : Str) ("Word.bent" : Str) (defArgs st_Word_bent) (defBody st_Word_bent) (defScope st_Word_bent) [] []  f fd
  fn__law_is_bent_right : ∃ f fd, mg ("_law_is_bent_right" : Str) = some (.ref f) ∧ FunD K ("_law_is_bent_right" : Str) ("_law_is_bent_right" : Str) (defArgs st__law_is_bent_right) (defBody st__law_is_bent_right) (defScope st__law_is_bent_right) [] [] f fd
  fn__law_right : ∃ f fd, mg ("_law_right" : Str) = some (.ref f) ∧ FunD K ("_law_right" : Str) ("_law_right" : Str) (defArgs st__law_right) (defBody st__law_right) (defScope st__law_right) [] [] f fd
  fn__law_pot : ∃ f fd, mg ("_law_pot" : Str) = some (.ref f) ∧ FunD K ("_law_pot" : Str) ("_law_pot" : Str) (defArgs st__law_pot) (defBody st__law_pot) (defScope st__law_pot) [] [] f fd
  fn__law_cells : ∃ f fd, mg ("_law_cells" : Str) = some (.ref f) ∧ FunD K ("_law_cells" : Str) ("_law_cells" : Str) (defArgs st__law_cells) (defBody st__law_cells) (defScope st__law_cells) [] [] f fd
  fn_law : ∃ f fd, mg ("law" : Str) = some (.ref f) ∧ FunD K ("law" : Str) ("law" : Str) (defArgs st_law) (defBody st_law) (defScope st_law) [] [] f fd
section
variable {P : Program} {w : World} {K : PySem.W.Frag} {mg : Str → Option Value} {base : Heap} {cl : Cl}
theorem sc_letters_in : FnScope ["text", "letters", "letter"] ["text"] (defScope st_letters_in) := ⟨rfl, rfl, rfl, by decide +kernel, rfl, by decide +kernel, by decide +kernel⟩
theorem ok_letters_in {f : Addr} {fd : FuncData} (E : Fs K w mg cl) (F : FunD K ("letters_in" : Str) ("letters_in" : Str) (defArgs st_letters_in) (defBody st_letters_in) (defScope st_letters_in) [] [] f fd)  : FnOk P w K mg base L2.CX0 1 f fd ["text"] (spD K cl 1 f_letters_in) :=
  d_defD F sc_letters_in rfl (by decide) fun cdv A outer s H E0 hr =>
    (dss_cons (ds_if (dt_not (dt_e (de_isi (T := isi_str) (u := .type "str") (cv := .ty "str") (fun t b h => by cases t <;> first | (cases h; exact kit_ty (by decide +kernel)) | (rename_i c; cases c <;> cases h; exact E.ki_str_0)) (fun c b h => by cases c <;> cases h; exact ⟨E.c0_scl, E.c0_isi⟩) (.ty _) rfl (fun w h => h) (by rfl) E.b_isinstance (dv 0) (pe_bltn (by rfl) E.b_str (by decide +kernel) rfl)))) (dss_cons (ds_ret de_non)
    dss_nil) dss_nil)
    (dss_cons (dst 1 sc_letters_in.nd (de_m1 PySem.F.slot_str_removeprefix PySem.F.type_str_removeprefix m_removeprefix (dv 0) (de_gstr (by rfl) E.v_MINUS)))
    (dss_cons (ds_if (DW.dt (dw_or (dt_not (dt_chain o_le o_le de_int (de_callB c_len (by rfl) E.b_len (by decide +kernel) (da_cons (dv 1) da_nil)) (de_gint (by rfl) E.v_MOST_WIRES))) (dw_or1 (dt_not (dt_e (de_callB (c_all (by rfl)) (by rfl) E.b_all (by decide +kernel) (da_cons (de_lc (own := [(("letter" : Str), 2)]) (by rfl) sc_letters_in.nd (di_e (dv 1)) (blkOk_by (N := ["text", "letters", "letter"]) (sc := defScope st_letters_in) (by decide +kernel)) (fun _ _ _ _ _ => (dgn 2 sc_letters_in.nd)) (by decide) (fun _ _ _ _ _ => dts_nil) (fun _ _ _ _ _ => (dcmp o_in (dv 2) (de_gstr (by rfl) E.v_SIGNS)))) da_nil))))))) (dss_cons (ds_ret de_non)
    dss_nil) dss_nil)
    (dss_cons (ds_ret (dv 1))
    dss_nil))))
theorem bn_letters_in {f : Addr} {fd : FuncData} (F : FunD K ("letters_in" : Str) ("letters_in" : Str) (defArgs st_letters_in) (defBody st_letters_in) (defScope st_letters_in) [] [] f fd) : Binds K fd ["text"] [] := F.bindsN fun _ _ _ _ _ _ us hl => match us, hl with | [_], _ => rfl
theorem sc_Worddd_initdd : FnScope ["self", "text", "letters"] ["self", "text"] (defScope st_Worddd_initdd) := ⟨rfl, rfl, rfl, by decide +kernel, rfl, by decide +kernel, by decide +kernel⟩
theorem ok_Worddd_initdd {f : Addr} {fd : FuncData} (E : Fs K w mg cl) (F : FunD K ("__init__" : Str) ("Word.__init__" : Str) (defArgs st_Worddd_initdd) (defBody st_Worddd_initdd) (defScope st_Worddd_initdd) [] [] f fd) (C_letters_in : Cal P w K mg base cl 1 ("letters_in" : Str) 1 f_letters_in) : FnOk P w K mg base L2.CX0 2 f fd ["self", "text"] (spD K cl 2 f_Worddd_initdd) :=
  d_defD F sc_Worddd_initdd rfl (by decide) fun cdv A outer s H E0 hr =>
    (dss_cons (dst 2 sc_Worddd_initdd.nd (de_call C_letters_in hr (by decide) (by rfl) (da_cons (dv 1) da_nil) rfl (len_cons (fun _ _ _ _ e => len_nil e))))
    (dss_cons (ds_if (tcmp o_is (dv 2) de_non) (dss_cons ds_never
    dss_nil) dss_nil)
    (dss_cons (ds_slo (A := so_own_letters) (only (fun k h => by cases h; exact ⟨E.c0_scl, E.c0_sl_own_letters⟩) (fun _ => rfl)) (dv 0) (dv 2))
    (dss_cons (ds_slo (A := so_own_sign) (only (fun k h => by cases h; exact ⟨E.c0_scl, E.c0_sl_own_sign⟩) (fun _ => rfl)) (dv 0) (de_if (dt_e (de_m1 PySem.F.slot_str_startswith PySem.F.type_str_startswith m_startswith (dv 1) (de_gstr (by rfl) E.v_MINUS))) (de_un o_neg de_int) de_int))
    dss_nil))))
theorem bn_Worddd_initdd {f : Addr} {fd : FuncData} (F : FunD K ("__init__" : Str) ("Word.__init__" : Str) (defArgs st_Worddd_initdd) (defBody st_Worddd_initdd) (defScope st_Worddd_initdd) [] [] f fd) : Binds K fd ["self", "text"] [] := F.bindsN fun _ _ _ _ _ _ us hl => match us, hl with | [_, _], _ => rfl
theorem sc_word_of : FnScope ["letters", "sign"] ["letters", "sign"] (defScope st_word_of) := ⟨rfl, rfl, rfl, by decide +kernel, rfl, by decide +kernel, by decide +kernel⟩
theorem ok_word_of {f : Addr} {fd : FuncData} (E : Fs K w mg cl) (F : FunD K ("word_of" : Str) ("word_of" : Str) (defArgs st_word_of) (defBody st_word_of) (defScope st_word_of) [] [] f fd) (C_Worddd_initdd : ∃ f, Mk K (cl.ad 0) f ∧ FnD P w K mg base cl 2 f 2 f_Worddd_initdd) : FnOk P w K mg base L2.CX0 4 f fd ["letters", "sign"] (spD K cl 2 f_word_of) :=
  d_defD F sc_word_of rfl (by decide) fun cdv A outer s H E0 hr =>
    (dss_cons (ds_ret (de_make (c := 0) C_Worddd_initdd.choose_spec.1 C_Worddd_initdd.choose_spec.2 hr (by decide) (by rfl) E.c0_name (da_cons (de_if (tcmp o_lt (dv 1) de_int) (de_op o_add (de_gstr (by rfl) E.v_MINUS) (dv 0)) (dv 0)) da_nil) (len_cons (fun _ _ _ _ e => len_nil e))))
    dss_nil)
theorem bn_word_of {f : Addr} {fd : FuncData} (F : FunD K ("word_of" : Str) ("word_of" : Str) (defArgs st_word_of) (defBody st_word_of) (defScope st_word_of) [] [] f fd) : Binds K fd ["letters", "sign"] [] := F.bindsN fun _ _ _ _ _ _ us hl => match us, hl with | [_, _], _ => rfl
theorem sc_Worddd_negdd : FnScope ["self"] ["self"] (defScope st_Worddd_negdd) := ⟨rfl, rfl, rfl, by decide +kernel, rfl, by decide +kernel, by decide +kernel⟩
theorem ok_Worddd_negdd {f : Addr} {fd : FuncData} (E : Fs K w mg cl) (F : FunD K ("__neg__" : Str) ("Word.__neg__" : Str) (defArgs st_Worddd_negdd) (defBody st_Worddd_negdd) (defScope st_Worddd_negdd) [] [] f fd) (C_word_of : Cal P w K mg base cl 4 ("word_of" : Str) 2 f_word_of) : FnOk P w K mg base L2.CX0 5 f fd ["self"] (spD K cl 1 f_Worddd_negdd) :=
  d_defD F sc_Worddd_negdd rfl (by decide) fun cdv A outer s H E0 hr =>
    (dss_cons (ds_ret (de_call C_word_of hr (by decide) (by rfl) (da_cons (de_attr (only (fun k h => by cases h; exact ⟨E.c0_scl, E.c0_sl_own_letters⟩) (fun _ => rfl)) (dv 0)) (da_cons (de_un o_neg (de_attr (only (fun k h => by cases h; exact ⟨E.c0_scl, E.c0_sl_own_sign⟩) (fun _ => rfl)) (dv 0))) da_nil)) rfl (len_cons (len_cons (fun _ _ _ _ e => len_nil e)))))
    dss_nil)
theorem bn_Worddd_negdd {f : Addr} {fd : FuncData} (F : FunD K ("__neg__" : Str) ("Word.__neg__" : Str) (defArgs st_Worddd_negdd) (defBody st_Worddd_negdd) (defScope st_Worddd_negdd) [] [] f fd) : Binds K fd ["self"] [] := F.bindsN fun _ _ _ _ _ _ us hl => match us, hl with | [_], _ => rfl
theorem sc_check_size : FnScope ["one", "other"] ["one", "other"] (defScope st_check_size) := ⟨rfl, rfl, rfl, by decide +kernel, rfl, by decide +kernel, by decide +kernel⟩
theorem ok_check_size {f : Addr} {fd : FuncData} (E : Fs K w mg cl) (F : FunD K ("check_size" : Str) ("check_size" : Str) (defArgs st_check_size) (defBody st_check_size) (defScope st_check_size) [] [] f fd)  : FnOk P w K mg base L2.CX0 1 f fd ["one", "other"] (spD K cl 2 f_check_size) :=
  d_defD F sc_check_size rfl (by decide) fun cdv A outer s H E0 hr =>
    (dss_cons (ds_if (tcmp o_ne (de_callB c_len (by rfl) E.b_len (by decide +kernel) (da_cons (de_attr (only (fun k h => by cases h; exact ⟨E.c0_scl, E.c0_sl_own_letters⟩) (fun _ => rfl)) (dv 0)) da_nil)) (de_callB c_len (by rfl) E.b_len (by decide +kernel) (da_cons (de_attr (only (fun k h => by cases h; exact ⟨E.c0_scl, E.c0_sl_own_letters⟩) (fun _ => rfl)) (dv 1)) da_nil))) (dss_cons ds_never
    dss_nil) dss_nil)
    dss_nil)
theorem bn_check_size {f : Addr} {fd : FuncData} (F : FunD K ("check_size" : Str) ("check_size" : Str) (defArgs st_check_size) (defBody st_check_size) (defScope st_check_size) [] [] f fd) : Binds K fd ["one", "other"] [] := F.bindsN fun _ _ _ _ _ _ us hl => match us, hl with | [_, _], _ => rfl
theorem sc_made_letter : FnScope ["here", "there"] ["here", "there"] (defScope st_made_letter) := ⟨rfl, rfl, rfl, by decide +kernel, rfl, by decide +kernel, by decide +kernel⟩
theorem ok_made_letter {f : Addr} {fd : FuncData} (E : Fs K w mg cl) (F : FunD K ("made_letter" : Str) ("made_letter" : Str) (defArgs st_made_letter) (defBody st_made_letter) (defScope st_made_letter) [] [] f fd)  : FnOk P w K mg base L2.CX0 1 f fd ["here", "there"] (spD K cl 2 f_made_letter) :=
  d_defD F sc_made_letter rfl (by decide) fun cdv A outer s H E0 hr =>
    (dss_cons (ds_if (tcmp o_eq (dv 0) (dv 1)) (dss_cons (ds_ret (de_gstr (by rfl) E.v_STILL))
    dss_nil) dss_nil)
    (dss_cons (ds_if (tcmp o_in (de_gstr (by rfl) E.v_STILL) (de_tup (da_cons (dv 0) (da_cons (dv 1) da_nil)))) (dss_cons (ds_ret (de_if (tcmp o_eq (dv 0) (de_gstr (by rfl) E.v_STILL)) (dv 1) (dv 0)))
    dss_nil) dss_nil)
    (dss_cons (ds_ret (de_kdget2 E.kd_THIRDS.choose_spec.2 (by rfl) E.kd_THIRDS.choose_spec.1 (de_op o_add (dv 0) (dv 1)) (de_kdget1 E.kd_THIRDS.choose_spec.2 (by rfl) E.kd_THIRDS.choose_spec.1 (de_op o_add (dv 1) (dv 0)) ⟨by rfl, by rfl, by rfl, by rfl⟩) ⟨by rfl, by rfl, by rfl, by rfl⟩))
    dss_nil)))
theorem bn_made_letter {f : Addr} {fd : FuncData} (F : FunD K ("made_letter" : Str) ("made_letter" : Str) (defArgs st_made_letter) (defBody st_made_letter) (defScope st_made_letter) [] [] f fd) : Binds K fd ["here", "there"] [] := F.bindsN fun _ _ _ _ _ _ us hl => match us, hl with | [_, _], _ => rfl
theorem sc_made_letters : FnScope ["letters", "others", "here", "there"] ["letters", "others"] (defScope st_made_letters) := ⟨rfl, rfl, rfl, by decide +kernel, rfl, by decide +kernel, by decide +kernel⟩
theorem ok_made_letters {f : Addr} {fd : FuncData} (E : Fs K w mg cl) (F : FunD K ("made_letters" : Str) ("made_letters" : Str) (defArgs st_made_letters) (defBody st_made_letters) (defScope st_made_letters) [] [] f fd) (C_made_letter : Cal P w K mg base cl 1 ("made_letter" : Str) 2 f_made_letter) : FnOk P w K mg base L2.CX0 2 f fd ["letters", "others"] (spD K cl 2 f_made_letters) :=
  d_defD F sc_made_letters rfl (by decide) fun cdv A outer s H E0 hr =>
    (dss_cons (ds_ret (de_m1 PySem.F.slot_str_join PySem.F.type_str_join m_join (dstr []) (de_lc (own := [(("here" : Str), 2), (("there" : Str), 3)]) (by rfl) sc_made_letters.nd (di_zip (by rfl) E.b_zip (da_cons (dv 0) (da_cons (dv 1) da_nil))) (blkOk_by (N := ["letters", "others", "here", "there"]) (sc := defScope st_made_letters) (by decide +kernel)) (fun _ _ _ _ _ => (dg_tup (by rfl) (dgs_cons (dgn 2 sc_made_letters.nd) (dgs_cons (dgn 3 sc_made_letters.nd) dgs_nil)))) (by decide) (fun _ _ _ _ _ => dts_nil) (fun _ _ _ _ _ => (de_call C_made_letter hr (by decide) (by rfl) (da_cons (dv 2) (da_cons (dv 3) da_nil)) rfl (len_cons (len_cons (fun _ _ _ _ e => len_nil e))))))))
    dss_nil)
theorem bn_made_letters {f : Addr} {fd : FuncData} (F : FunD K ("made_letters" : Str) ("made_letters" : Str) (defArgs st_made_letters) (defBody st_made_letters) (defScope st_made_letters) [] [] f fd) : Binds K fd ["letters", "others"] [] := F.bindsN fun _ _ _ _ _ _ us hl => match us, hl with | [_, _], _ => rfl
theorem sc_quarter_of : FnScope ["here", "there"] ["here", "there"] (defScope st_quarter_of) := ⟨rfl, rfl, rfl, by decide +kernel, rfl, by decide +kernel, by decide +kernel⟩
theorem ok_quarter_of {f : Addr} {fd : FuncData} (E : Fs K w mg cl) (F : FunD K ("quarter_of" : Str) ("quarter_of" : Str) (defArgs st_quarter_of) (defBody st_quarter_of) (defScope st_quarter_of) [] [] f fd)  : FnOk P w K mg base L2.CX0 1 f fd ["here", "there"] (spD K cl 2 f_quarter_of) :=
  d_defD F sc_quarter_of rfl (by decide) fun cdv A outer s H E0 hr =>
    (dss_cons (ds_if (dt_kdin E.kd_THIRDS.choose_spec.2 (by rfl) E.kd_THIRDS.choose_spec.1 (de_op o_add (dv 0) (dv 1))) (dss_cons (ds_ret de_int)
    dss_nil) dss_nil)
    (dss_cons (ds_ret (de_if (dt_kdin E.kd_THIRDS.choose_spec.2 (by rfl) E.kd_THIRDS.choose_spec.1 (de_op o_add (dv 1) (dv 0))) (de_un o_neg de_int) de_int))
    dss_nil))
theorem bn_quarter_of {f : Addr} {fd : FuncData} (F : FunD K ("quarter_of" : Str) ("quarter_of" : Str) (defArgs st_quarter_of) (defBody st_quarter_of) (defScope st_quarter_of) [] [] f fd) : Binds K fd ["here", "there"] [] := F.bindsN fun _ _ _ _ _ _ us hl => match us, hl with | [_, _], _ => rfl
theorem sc_quarters : FnScope ["letters", "others", "here", "there"] ["letters", "others"] (defScope st_quarters) := ⟨rfl, rfl, rfl, by decide +kernel, rfl, by decide +kernel, by decide +kernel⟩
theorem ok_quarters {f : Addr} {fd : FuncData} (E : Fs K w mg cl) (F : FunD K ("quarters" : Str) ("quarters" : Str) (defArgs st_quarters) (defBody st_quarters) (defScope st_quarters) [] [] f fd) (C_quarter_of : Cal P w K mg base cl 1 ("quarter_of" : Str) 2 f_quarter_of) : FnOk P w K mg base L2.CX0 2 f fd ["letters", "others"] (spD K cl 2 f_quarters) :=
  d_defD F sc_quarters rfl (by decide) fun cdv A outer s H E0 hr =>
    (dss_cons (ds_ret (de_callB (c_sum (by rfl)) (by rfl) E.b_sum (by decide +kernel) (da_cons (de_lc (own := [(("here" : Str), 2), (("there" : Str), 3)]) (by rfl) sc_quarters.nd (di_zip (by rfl) E.b_zip (da_cons (dv 0) (da_cons (dv 1) da_nil))) (blkOk_by (N := ["letters", "others", "here", "there"]) (sc := defScope st_quarters) (by decide +kernel)) (fun _ _ _ _ _ => (dg_tup (by rfl) (dgs_cons (dgn 2 sc_quarters.nd) (dgs_cons (dgn 3 sc_quarters.nd) dgs_nil)))) (by decide) (fun _ _ _ _ _ => dts_nil) (fun _ _ _ _ _ => (de_call C_quarter_of hr (by decide) (by rfl) (da_cons (dv 2) (da_cons (dv 3) da_nil)) rfl (len_cons (len_cons (fun _ _ _ _ e => len_nil e)))))) da_nil)))
    dss_nil)
theorem bn_quarters {f : Addr} {fd : FuncData} (F : FunD K ("quarters" : Str) ("quarters" : Str) (defArgs st_quarters) (defBody st_quarters) (defScope st_quarters) [] [] f fd) : Binds K fd ["letters", "others"] [] := F.bindsN fun _ _ _ _ _ _ us hl => match us, hl with | [_, _], _ => rfl
theorem sc_product : FnScope ["one", "other", "sign"] ["one", "other"] (defScope st_product) := ⟨rfl, rfl, rfl, by decide +kernel, rfl, by decide +kernel, by decide +kernel⟩
theorem ok_product {f : Addr} {fd : FuncData} (E : Fs K w mg cl) (F : FunD K ("product" : Str) ("product" : Str) (defArgs st_product) (defBody st_product) (defScope st_product) [] [] f fd) (C_word_of : Cal P w K mg base cl 4 ("word_of" : Str) 2 f_word_of) (C_made_letters : Cal P w K mg base cl 2 ("made_letters" : Str) 2 f_made_letters) (C_quarters : Cal P w K mg base cl 2 ("quarters" : Str) 2 f_quarters) : FnOk P w K mg base L2.CX0 5 f fd ["one", "other"] (spD K cl 2 f_product) :=
  d_defD F sc_product rfl (by decide) fun cdv A outer s H E0 hr =>
    (dss_cons (dst 2 sc_product.nd (de_op o_rep (de_attr (only (fun k h => by cases h; exact ⟨E.c0_scl, E.c0_sl_own_sign⟩) (fun _ => rfl)) (dv 0)) (de_attr (only (fun k h => by cases h; exact ⟨E.c0_scl, E.c0_sl_own_sign⟩) (fun _ => rfl)) (dv 1))))
    (dss_cons (dst 2 sc_product.nd (de_if (tcmp o_eq (de_op o_mod (de_call C_quarters hr (by decide) (by rfl) (da_cons (de_attr (only (fun k h => by cases h; exact ⟨E.c0_scl, E.c0_sl_own_letters⟩) (fun _ => rfl)) (dv 0)) (da_cons (de_attr (only (fun k h => by cases h; exact ⟨E.c0_scl, E.c0_sl_own_letters⟩) (fun _ => rfl)) (dv 1)) da_nil)) rfl (len_cons (len_cons (fun _ _ _ _ e => len_nil e)))) (de_gint (by rfl) E.v_ROUND)) de_int) (dv 2) (de_un o_neg (dv 2))))
    (dss_cons (ds_ret (de_call C_word_of hr (by decide) (by rfl) (da_cons (de_call C_made_letters hr (by decide) (by rfl) (da_cons (de_attr (only (fun k h => by cases h; exact ⟨E.c0_scl, E.c0_sl_own_letters⟩) (fun _ => rfl)) (dv 0)) (da_cons (de_attr (only (fun k h => by cases h; exact ⟨E.c0_scl, E.c0_sl_own_letters⟩) (fun _ => rfl)) (dv 1)) da_nil)) rfl (len_cons (len_cons (fun _ _ _ _ e => len_nil e)))) (da_cons (dv 2) da_nil)) rfl (len_cons (len_cons (fun _ _ _ _ e => len_nil e)))))
    dss_nil)))
theorem bn_product {f : Addr} {fd : FuncData} (F : FunD K ("product" : Str) ("product" : Str) (defArgs st_product) (defBody st_product) (defScope st_product) [] [] f fd) : Binds K fd ["one", "other"] [] := F.bindsN fun _ _ _ _ _ _ us hl => match us, hl with | [_, _], _ => rfl
theorem sc_Worddd_muldd : FnScope ["self", "other"] ["self", "other"] (defScope st_Worddd_muldd) := ⟨rfl, rfl, rfl, by decide +kernel, rfl, by decide +kernel, by decide +kernel⟩
theorem ok_Worddd_muldd {f : Addr} {fd : FuncData} (E : Fs K w mg cl) (F : FunD K ("__mul__" : Str) ("Word.__mul__" : Str) (defArgs st_Worddd_muldd) (defBody st_Worddd_muldd) (defScope st_Worddd_muldd) [] [] f fd) (C_check_size : Cal P w K mg base cl 1 ("check_size" : Str) 2 f_check_size) (C_quarters : Cal P w K mg base cl 2 ("quarters" : Str) 2 f_quarters) (C_product : Cal P w K mg base cl 5 ("product" : Str) 2 f_product) : FnOk P w K mg base L2.CX0 6 f fd ["self", "other"] (spD K cl 2 f_Worddd_muldd) :=
  d_defD F sc_Worddd_muldd rfl (by decide) fun cdv A outer s H E0 hr =>
    (dss_cons (ds_if (dt_not (dt_e (de_isi (T := isi_Word) (u := .ref (cl.ad 0)) (cv := .ref (cl.ad 0)) (fun t b h => by cases t with | non => cases h; exact E.ki_Word_non | bl => cases h; exact E.ki_Word_bl | int => cases h; exact E.ki_Word_int | str => cases h; exact E.ki_Word_str | lst => cases h; exact E.ki_Word_lst | tup => cases h; exact E.ki_Word_tup | dic => cases h; exact E.ki_Word_dic | ob c => cases c <;> cases h; exact E.ki_Word_0) (fun c b h => by cases c <;> cases h; exact ⟨E.c0_scl, E.c0_isi⟩) (.own _) rfl (fun w h => h) (by rfl) E.b_isinstance (dv 1) (pe_glob (by rfl) E.c0_name rfl)))) (dss_cons ds_never
    dss_nil) dss_nil)
    (dss_cons (ds_expr (de_call C_check_size hr (by decide) (by rfl) (da_cons (dv 0) (da_cons (dv 1) da_nil)) rfl (len_cons (len_cons (fun _ _ _ _ e => len_nil e)))))
    (dss_cons (ds_if (tcmp o_ne (de_op o_mod (de_call C_quarters hr (by decide) (by rfl) (da_cons (de_attr (only (fun k h => by cases h; exact ⟨E.c0_scl, E.c0_sl_own_letters⟩) (fun _ => rfl)) (dv 0)) (da_cons (de_attr (only (fun k h => by cases h; exact ⟨E.c0_scl, E.c0_sl_own_letters⟩) (fun _ => rfl)) (dv 1)) da_nil)) rfl (len_cons (len_cons (fun _ _ _ _ e => len_nil e)))) (de_gint (by rfl) E.v_PAIR)) de_int) (dss_cons ds_never
    dss_nil) dss_nil)
    (dss_cons (ds_ret (de_call C_product hr (by decide) (by rfl) (da_cons (dv 0) (da_cons (dv 1) da_nil)) rfl (len_cons (len_cons (fun _ _ _ _ e => len_nil e)))))
    dss_nil))))
theorem bn_Worddd_muldd {f : Addr} {fd : FuncData} (F : FunD K ("__mul__" : Str) ("Word.__mul__" : Str) (defArgs st_Worddd_muldd) (defBody st_Worddd_muldd) (defScope st_Worddd_muldd) [] [] f fd) : Binds K fd ["self", "other"] [] := F.bindsN fun _ _ _ _ _ _ us hl => match us, hl with | [_, _], _ => rfl
theorem sc__law_take : FnScope ["pot", "upto", "prime", "blend", "digit"] ["pot", "upto"] (defScope st__law_take) := ⟨rfl, rfl, rfl, by decide +kernel, rfl, by decide +kernel, by decide +kernel⟩
theorem ok__law_take {f : Addr} {fd : FuncData} (E : Fs K w mg cl) (F : FunD K ("_law_take" : Str) ("_law_take" : Str) (defArgs st__law_take) (defBody st__law_take) (defScope st__law_take) [] [] f fd) (C_Worddd_muldd : ∃ f, Meth K (cl.ad 0) ("__mul__" : Str) f ∧ FnD P w K mg base cl 6 f 2 f_Worddd_muldd) : FnOk P w K mg base L2.CX0 7 f fd ["pot", "upto"] (spD K cl 2 f__law_take) :=
  d_defD F sc__law_take rfl (by decide) fun cdv A outer s H E0 hr =>
    (dss_cons (ds_if (tcmp o_gt (de_ix x_item (dv 0) de_int (fun _ _ => rfl)) de_int) (dss_cons (dst 4 sc__law_take.nd (de_op o_mod (de_callTy c_int (by rfl) E.b_int (by decide +kernel) (da_cons (de_ix x_item (dv 0) de_int (fun _ _ => rfl)) da_nil)) (dv 1)))
    (dss_cons (ds_sub (de_op o_fdiv (de_ix x_item (dv 0) de_int (fun _ _ => rfl)) (dv 1)) (dv 0) de_int)
    (dss_cons (ds_ret (dv 4))
    dss_nil))) dss_nil)
    (dss_cons (ds_sub (de_op o_add (de_ix x_item (dv 0) de_int (fun _ _ => rfl)) de_int) (dv 0) de_int)
    (dss_cons (dst 2 sc__law_take.nd (de_ix x_item (de_lst (da_cons de_int (da_cons de_int (da_cons de_int (da_cons de_int (da_cons de_int da_nil)))))) (de_op o_mod (de_callTy c_int (by rfl) E.b_int (by decide +kernel) (da_cons (de_ix x_item (dv 0) de_int (fun _ _ => rfl)) da_nil)) de_int) (fun _ _ => rfl)))
    (dss_cons (dst 3 sc__law_take.nd (de_op o_mod (de_callTy c_int (by rfl) E.b_int (by decide +kernel) (da_cons (de_op o_pow (de_callTy c_int (by rfl) E.b_int (by decide +kernel) (da_cons (de_op o_add (de_op o_add (de_ix x_item (dv 0) de_int (fun _ _ => rfl)) (de_op (o_ownBin (A := ow_mul) (only (fun k h => by cases h; exact ⟨E.c0_sf, ⟨C_Worddd_muldd.choose, 6, C_Worddd_muldd.choose_spec.1.at_, C_Worddd_muldd.choose_spec.1.fn, C_Worddd_muldd.choose_spec.2.r, hr.mono (by decide)⟩⟩) (fun _ => rfl)) o_rep) (de_op (o_ownBin (A := ow_mul) (only (fun k h => by cases h; exact ⟨E.c0_sf, ⟨C_Worddd_muldd.choose, 6, C_Worddd_muldd.choose_spec.1.at_, C_Worddd_muldd.choose_spec.1.fn, C_Worddd_muldd.choose_spec.2.r, hr.mono (by decide)⟩⟩) (fun _ => rfl)) o_rep) de_int (de_ix x_item (dv 0) de_int (fun _ _ => rfl))) (de_ix x_item (dv 0) de_int (fun _ _ => rfl)))) de_int) da_nil)) de_int) da_nil)) (dv 2)))
    (dss_cons (ds_ret (de_op o_mod (de_callTy c_int (by rfl) E.b_int (by decide +kernel) (da_cons (de_op o_fdiv (de_op (o_ownBin (A := ow_mul) (only (fun k h => by cases h; exact ⟨E.c0_sf, ⟨C_Worddd_muldd.choose, 6, C_Worddd_muldd.choose_spec.1.at_, C_Worddd_muldd.choose_spec.1.fn, C_Worddd_muldd.choose_spec.2.r, hr.mono (by decide)⟩⟩) (fun _ => rfl)) o_rep) (dv 3) (de_op o_add (de_op o_mod (de_callTy c_int (by rfl) E.b_int (by decide +kernel) (da_cons (dv 3) da_nil)) de_int) (de_op (o_ownBin (A := ow_mul) (only (fun k h => by cases h; exact ⟨E.c0_sf, ⟨C_Worddd_muldd.choose, 6, C_Worddd_muldd.choose_spec.1.at_, C_Worddd_muldd.choose_spec.1.fn, C_Worddd_muldd.choose_spec.2.r, hr.mono (by decide)⟩⟩) (fun _ => rfl)) o_rep) de_int (de_ix x_item (dv 0) de_int (fun _ _ => rfl))))) de_int) da_nil)) (dv 1)))
    dss_nil)))))
theorem bn__law_take {f : Addr} {fd : FuncData} (F : FunD K ("_law_take" : Str) ("_law_take" : Str) (defArgs st__law_take) (defBody st__law_take) (defScope st__law_take) [] [] f fd) : Binds K fd ["pot", "upto"] [] := F.bindsN fun _ _ _ _ _ _ us hl => match us, hl with | [_, _], _ => rfl
theorem sc__law_some : FnScope ["pot", "pool", "many", "rest", "found", "lap"] ["pot", "pool", "many"] (defScope st__law_some) := ⟨rfl, rfl, rfl, by decide +kernel, rfl, by decide +kernel, by decide +kernel⟩
theorem ok__law_some {f : Addr} {fd : FuncData} (E : Fs K w mg cl) (F : FunD K ("_law_some" : Str) ("_law_some" : Str) (defArgs st__law_some) (defBody st__law_some) (defScope st__law_some) [] [] f fd) (C__law_take : Cal P w K mg base cl 7 ("_law_take" : Str) 2 takeD) : FnOk P w K mg base L2.CX0 8 f fd ["pot", "pool", "many"] (spD K cl 3 f__law_some) :=
  d_defD F sc__law_some rfl (by decide) fun cdv A outer s H E0 hr =>
    (dss_cons (ds_par (i := 3) (j := 4) (by rfl) sc__law_some.nd (by rfl) (by rfl) (by decide) (by rfl) (by rfl) (da_cons (de_callTy c_list (by rfl) E.b_list (by decide +kernel) (da_cons (dv 1) da_nil)) (da_cons (de_lst da_nil) da_nil)) (by rfl))
    (dss_cons (ds_for PassesOwn.never (by rfl) (di_range1 (by rfl) E.b_range (da_cons (dv 2) da_nil)) (dgn 5 sc__law_some.nd) (dss_cons (ds_expr (de_mL PySem.F.slot_list_append PySem.F.type_list_append m_append (dv 4) (da_cons (de_mL PySem.F.slot_list_pop PySem.F.type_list_pop m_pop (dv 3) (da_cons (de_call C__law_take hr (by decide) (by rfl) (da_cons (dv 0) (da_cons (de_callB c_len (by rfl) E.b_len (by decide +kernel) (da_cons (dv 3) da_nil)) da_nil)) rfl (len_cons (len_cons (fun _ _ _ _ e => len_nil e)))) da_nil)) da_nil)))
    dss_nil))
    (dss_cons (ds_ret (dv 4))
    dss_nil)))
theorem bn__law_some {f : Addr} {fd : FuncData} (F : FunD K ("_law_some" : Str) ("_law_some" : Str) (defArgs st__law_some) (defBody st__law_some) (defScope st__law_some) [] [] f fd) : Binds K fd ["pot", "pool", "many"] [] := F.bindsN fun _ _ _ _ _ _ us hl => match us, hl with | [_, _, _], _ => rfl
theorem sc__law_lone : FnScope ["wires", "places", "wire"] ["wires", "places"] (defScope st__law_lone) := ⟨rfl, rfl, rfl, by decide +kernel, rfl, by decide +kernel, by decide +kernel⟩
theorem ok__law_lone {f : Addr} {fd : FuncData} (E : Fs K w mg cl) (F : FunD K ("_law_lone" : Str) ("_law_lone" : Str) (defArgs st__law_lone) (defBody st__law_lone) (defScope st__law_lone) [] [] f fd)  : FnOk P w K mg base L2.CX0 1 f fd ["wires", "places"] (spD K cl 2 f__law_lone) :=
  d_defD F sc__law_lone rfl (by decide) fun cdv A outer s H E0 hr =>
    (dss_cons (ds_ret (de_m1 PySem.F.slot_str_join PySem.F.type_str_join m_join (dstr []) (de_lc (own := [(("wire" : Str), 2)]) (by rfl) sc__law_lone.nd (di_range1 (by rfl) E.b_range (da_cons (dv 0) da_nil)) (blkOk_by (N := ["wires", "places", "wire"]) (sc := defScope st__law_lone) (by decide +kernel)) (fun _ _ _ _ _ => (dgn 2 sc__law_lone.nd)) (by decide) (fun _ _ _ _ _ => dts_nil) (fun _ _ _ _ _ => (de_get2 hr (dv 1) (dv 2) (dstr [73]) ⟨by rfl, by rfl, by rfl, by rfl⟩)))))
    dss_nil)
theorem bn__law_lone {f : Addr} {fd : FuncData} (F : FunD K ("_law_lone" : Str) ("_law_lone" : Str) (defArgs st__law_lone) (defBody st__law_lone) (defScope st__law_lone) [] [] f fd) : Binds K fd ["wires", "places"] [] := F.bindsN fun _ _ _ _ _ _ us hl => match us, hl with | [_, _], _ => rfl
theorem sc__law_among : FnScope ["pot", "letters", "signs", "wires", "places", "found", "row", "sign", "table"] ["pot", "letters", "signs"] (defScope st__law_among) := ⟨rfl, rfl, rfl, by decide +kernel, rfl, by decide +kernel, by decide +kernel⟩
theorem ok__law_among {f : Addr} {fd : FuncData} (E : Fs K w mg cl) (F : FunD K ("_law_among" : Str) ("_law_among" : Str) (defArgs st__law_among) (defBody st__law_among) (defScope st__law_among) [] [] f fd) (C__law_take : Cal P w K mg base cl 7 ("_law_take" : Str) 2 takeD) (C__law_some : Cal P w K mg base cl 8 ("_law_some" : Str) 3 f__law_some) (C__law_lone : Cal P w K mg base cl 1 ("_law_lone" : Str) 2 f__law_lone) : FnOk P w K mg base L2.CX0 9 f fd ["pot", "letters", "signs"] (spD K cl 3 f__law_among) :=
  d_defD F sc__law_among rfl (by decide) fun cdv A outer s H E0 hr =>
    (dss_cons (dst 3 sc__law_among.nd (de_op o_add (de_callB c_len (by rfl) E.b_len (by decide +kernel) (da_cons (dv 1) da_nil)) (de_call C__law_take hr (by decide) (by rfl) (da_cons (dv 0) (da_cons (de_op o_sub de_int (de_callB c_len (by rfl) E.b_len (by decide +kernel) (da_cons (dv 1) da_nil))) da_nil)) rfl (len_cons (len_cons (fun _ _ _ _ e => len_nil e))))))
    (dss_cons (dst 4 sc__law_among.nd (de_sortSet (by rfl) (by rfl) E.b_sorted (by rfl) E.b_set (de_call C__law_some hr (by decide) (by rfl) (da_cons (dv 0) (da_cons (de_listRg1 (by rfl) (by rfl) E.b_list (by rfl) E.b_range (dv 3)) (da_cons (de_callB c_len (by rfl) E.b_len (by decide +kernel) (da_cons (dv 1) da_nil)) da_nil))) rfl (len_cons (len_cons (len_cons (fun _ _ _ _ e => len_nil e)))))))
    (dss_cons (dst 5 sc__law_among.nd (de_lst da_nil))
    (dss_cons (ds_for PassesOwn.never (by rfl) (di_zip (by rfl) E.b_zip (da_cons (de_tup (da_cons (dv 1) (da_cons (dv 2) da_nil))) (da_cons (de_tup (da_cons (dstr []) (da_cons (dstr []) da_nil))) da_nil))) (dg_tup (by rfl) (dgs_cons (dgn 6 sc__law_among.nd) (dgs_cons (dgn 7 sc__law_among.nd) dgs_nil))) (dss_cons (dst 8 sc__law_among.nd (de_callTy (c_dict (by rfl)) (by rfl) E.b_dict (by decide +kernel) (da_cons (de_listZip (by rfl) (by rfl) E.b_list (by rfl) E.b_zip (da_cons (dv 4) (da_cons (dv 6) da_nil))) da_nil)))
    (dss_cons (ds_expr (de_mL PySem.F.slot_list_append PySem.F.type_list_append m_append (dv 5) (da_cons (de_op o_add (dv 7) (de_call C__law_lone hr (by decide) (by rfl) (da_cons (dv 3) (da_cons (dv 8) da_nil)) rfl (len_cons (len_cons (fun _ _ _ _ e => len_nil e))))) da_nil)))
    dss_nil)))
    (dss_cons (ds_ret (de_tup (da_cons (dv 3) (da_cons (dv 4) (da_cons (dv 5) da_nil)))))
    dss_nil)))))
theorem bn__law_among {f : Addr} {fd : FuncData} (F : FunD K ("_law_among" : Str) ("_law_among" : Str) (defArgs st__law_among) (defBody st__law_among) (defScope st__law_among) [] [] f fd) : Binds K fd ["pot", "letters", "signs"] [] := F.bindsN fun _ _ _ _ _ _ us hl => match us, hl with | [_, _, _], _ => rfl
theorem sc_Worddd_eqdd : FnScope ["self", "other"] ["self", "other"] (defScope st_Worddd_eqdd) := ⟨rfl, rfl, rfl, by decide +kernel, rfl, by decide +kernel, by decide +kernel⟩
theorem ok_Worddd_eqdd {f : Addr} {fd : FuncData} (E : Fs K w mg cl) (F : FunD K ("__eq__" : Str) ("Word.__eq__" : Str) (defArgs st_Worddd_eqdd) (defBody st_Worddd_eqdd) (defScope st_Worddd_eqdd) [] [] f fd)  : FnOk P w K mg base L2.CX0 1 f fd ["self", "other"] (spD K cl 2 f_Worddd_eqdd) :=
  d_defD F sc_Worddd_eqdd rfl (by decide) fun cdv A outer s H E0 hr =>
    (dss_cons (ds_ret (de_and (de_isi (T := isi_Word) (u := .ref (cl.ad 0)) (cv := .ref (cl.ad 0)) (fun t b h => by cases t with | non => cases h; exact E.ki_Word_non | bl => cases h; exact E.ki_Word_bl | int => cases h; exact E.ki_Word_int | str => cases h; exact E.ki_Word_str | lst => cases h; exact E.ki_Word_lst | tup => cases h; exact E.ki_Word_tup | dic => cases h; exact E.ki_Word_dic | ob c => cases c <;> cases h; exact E.ki_Word_0) (fun c b h => by cases c <;> cases h; exact ⟨E.c0_scl, E.c0_isi⟩) (.own _) rfl (fun w h => h) (by rfl) E.b_isinstance (dv 1) (pe_glob (by rfl) E.c0_name rfl)) (de_and (dcmp o_eq (de_attr (only (fun k h => by cases h; exact ⟨E.c0_scl, E.c0_sl_own_letters⟩) (fun _ => rfl)) (dv 0)) (de_attr (only (fun k h => by cases h; exact ⟨E.c0_scl, E.c0_sl_own_letters⟩) (fun _ => rfl)) (dv 1))) (de_one (dcmp o_eq (de_attr (only (fun k h => by cases h; exact ⟨E.c0_scl, E.c0_sl_own_sign⟩) (fun _ => rfl)) (dv 0)) (de_attr (only (fun k h => by cases h; exact ⟨E.c0_scl, E.c0_sl_own_sign⟩) (fun _ => rfl)) (dv 1)))))))
    dss_nil)
theorem bn_Worddd_eqdd {f : Addr} {fd : FuncData} (F : FunD K ("__eq__" : Str) ("Word.__eq__" : Str) (defArgs st_Worddd_eqdd) (defBody st_Worddd_eqdd) (defScope st_Worddd_eqdd) [] [] f fd) : Binds K fd ["self", "other"] [] := F.bindsN fun _ _ _ _ _ _ us hl => match us, hl with | [_, _], _ => rfl
theorem sc_Word_text : FnScope ["self"] ["self"] (defScope st_Word_text) := ⟨rfl, rfl, rfl, by decide +kernel, rfl, by decide +kernel, by decide +kernel⟩
theorem ok_Word_text {f : Addr} {fd : FuncData} (E : Fs K w mg cl) (F : FunD K ("text" : Str) ("Word.text" : Str) (defArgs st_Word_text) (defBody st_Word_text) (defScope st_Word_text) [] [] f fd)  : FnOk P w K mg base L2.CX0 1 f fd ["self"] (spD K cl 1 f_Word_text) :=
  d_defD F sc_Word_text rfl (by decide) fun cdv A outer s H E0 hr =>
    (dss_cons (ds_ret (de_if (tcmp o_lt (de_attr (only (fun k h => by cases h; exact ⟨E.c0_scl, E.c0_sl_own_sign⟩) (fun _ => rfl)) (dv 0)) de_int) (de_op o_add (de_gstr (by rfl) E.v_MINUS) (de_attr (only (fun k h => by cases h; exact ⟨E.c0_scl, E.c0_sl_own_letters⟩) (fun _ => rfl)) (dv 0))) (de_attr (only (fun k h => by cases h; exact ⟨E.c0_scl, E.c0_sl_own_letters⟩) (fun _ => rfl)) (dv 0))))
    dss_nil)
theorem bn_Word_text {f : Addr} {fd : FuncData} (F : FunD K ("text" : Str) ("Word.text" : Str) (defArgs st_Word_text) (defBody st_Word_text) (defScope st_Word_text) [] [] f fd) : Binds K fd ["self"] [] := F.bindsN fun _ _ _ _ _ _ us hl => match us, hl with | [_], _ => rfl
theorem sc__law_laid : FnScope ["wires", "places", "row", "sign"] ["wires", "places", "row", "sign"] (defScope st__law_laid) := ⟨rfl, rfl, rfl, by decide +kernel, rfl, by decide +kernel, by decide +kernel⟩
theorem ok__law_laid {f : Addr} {fd : FuncData} (E : Fs K w mg cl) (F : FunD K ("_law_laid" : Str) ("_law_laid" : Str) (defArgs st__law_laid) (defBody st__law_laid) (defScope st__law_laid) [] [] f fd) (C_Worddd_muldd : ∃ f, Meth K (cl.ad 0) ("__mul__" : Str) f ∧ FnD P w K mg base cl 6 f 2 f_Worddd_muldd) (C__law_lone : Cal P w K mg base cl 1 ("_law_lone" : Str) 2 f__law_lone) : FnOk P w K mg base L2.CX0 7 f fd ["wires", "places", "row", "sign"] (spD K cl 4 f__law_laid) :=
  d_defD F sc__law_laid rfl (by decide) fun cdv A outer s H E0 hr =>
    (dss_cons (ds_ret (de_op o_add (de_op (o_ownBin (A := ow_mul) (only (fun k h => by cases h; exact ⟨E.c0_sf, ⟨C_Worddd_muldd.choose, 6, C_Worddd_muldd.choose_spec.1.at_, C_Worddd_muldd.choose_spec.1.fn, C_Worddd_muldd.choose_spec.2.r, hr.mono (by decide)⟩⟩) (fun _ => rfl)) o_rep) (dstr [45]) (de_callTy c_int (by rfl) E.b_int (by decide +kernel) (da_cons (dcmp o_lt (dv 3) de_int) da_nil))) (de_call C__law_lone hr (by decide) (by rfl) (da_cons (dv 0) (da_cons (de_callTy (c_dict (by rfl)) (by rfl) E.b_dict (by decide +kernel) (da_cons (de_listZip (by rfl) (by rfl) E.b_list (by rfl) E.b_zip (da_cons (dv 1) (da_cons (dv 2) da_nil))) da_nil)) da_nil)) rfl (len_cons (len_cons (fun _ _ _ _ e => len_nil e))))))
    dss_nil)
theorem bn__law_laid {f : Addr} {fd : FuncData} (F : FunD K ("_law_laid" : Str) ("_law_laid" : Str) (defArgs st__law_laid) (defBody st__law_laid) (defScope st__law_laid) [] [] f fd) : Binds K fd ["wires", "places", "row", "sign"] [] := F.bindsN fun _ _ _ _ _ _ us hl => match us, hl with | [_, _, _, _], _ => rfl
theorem sc__law_is_made_right : FnScope ["pot", "one", "other", "due", "sign", "wires", "places", "texts", "told"] ["pot", "one", "other", "due", "sign"] (defScope st__law_is_made_right) := ⟨rfl, rfl, rfl, by decide +kernel, rfl, by decide +kernel, by decide +kernel⟩
theorem ok__law_is_made_right {f : Addr} {fd : FuncData} (E : Fs K w mg cl) (F : FunD K ("_law_is_made_right" : Str) ("_law_is_made_right" : Str) (defArgs st__law_is_made_right) (defBody st__law_is_made_right) (defScope st__law_is_made_right) [] [] f fd) (C_Worddd_initdd : ∃ f, Mk K (cl.ad 0) f ∧ FnD P w K mg base cl 2 f 2 f_Worddd_initdd) (C_Worddd_negdd : ∃ f, Meth K (cl.ad 0) ("__neg__" : Str) f ∧ FnD P w K mg base cl 5 f 1 f_Worddd_negdd) (C_Worddd_muldd : ∃ f, Meth K (cl.ad 0) ("__mul__" : Str) f ∧ FnD P w K mg base cl 6 f 2 f_Worddd_muldd) (C__law_among : Cal P w K mg base cl 9 ("_law_among" : Str) 3 f__law_among) (C_Worddd_eqdd : ∃ f, Meth K (cl.ad 0) ("__eq__" : Str) f ∧ FnD P w K mg base cl 1 f 2 f_Worddd_eqdd) (C_Word_text : ∃ (p f : Addr), PySem.W.findIn K (.ref (cl.ad 0)) ("text" : Str) = some (some (.ref p)) ∧ PySem.W.specialIn K (.ref p) "__get__" = some (some (.builtin "property.__get__")) ∧ PySem.W.takesIn K (.ref p) = some true ∧ (∃ rest, PySem.W.recIn K p "property" = some (.ref f :: rest)) ∧ FnD P w K mg base cl 1 f 1 f_Word_text) (C__law_laid : Cal P w K mg base cl 7 ("_law_laid" : Str) 4 f__law_laid) : FnOk P w K mg base L2.CX0 10 f fd ["pot", "one", "other", "due", "sign"] (spD K cl 5 f__law_is_made_right) :=
  d_defD F sc__law_is_made_right rfl (by decide) fun cdv A outer s H E0 hr =>
    (dss_cons (ds_asg (de_call C__law_among hr (by decide) (by rfl) (da_cons (dv 0) (da_cons (dv 1) (da_cons (dv 2) da_nil))) rfl (len_cons (len_cons (len_cons (fun _ _ _ _ e => len_nil e))))) (dg_tup (by rfl) (dgs_cons (dgn 5 sc__law_is_made_right.nd) (dgs_cons (dgn 6 sc__law_is_made_right.nd) (dgs_cons (dgn 7 sc__law_is_made_right.nd) dgs_nil)))))
    (dss_cons (dst 8 sc__law_is_made_right.nd (de_op (o_ownBin (A := ow_mul) (only (fun k h => by cases h; exact ⟨E.c0_sf, ⟨C_Worddd_muldd.choose, 6, C_Worddd_muldd.choose_spec.1.at_, C_Worddd_muldd.choose_spec.1.fn, C_Worddd_muldd.choose_spec.2.r, hr.mono (by decide)⟩⟩) (fun _ => rfl)) o_rep) (de_make (c := 0) C_Worddd_initdd.choose_spec.1 C_Worddd_initdd.choose_spec.2 hr (by decide) (by rfl) E.c0_name (da_cons (de_ix x_item (dv 7) de_int (fun _ _ => rfl)) da_nil) (len_cons (fun _ _ _ _ e => len_nil e))) (de_make (c := 0) C_Worddd_initdd.choose_spec.1 C_Worddd_initdd.choose_spec.2 hr (by decide) (by rfl) E.c0_name (da_cons (de_ix x_item (dv 7) de_int (fun _ _ => rfl)) da_nil) (len_cons (fun _ _ _ _ e => len_nil e)))))
    (dss_cons (ds_ret (de_and (dcmp (o_ownCmp (A := ow_eq) (fun _ _ => rfl) (only (fun k h => by cases h; exact ⟨C_Worddd_eqdd.choose, 1, C_Worddd_eqdd.choose_spec.1.at_, C_Worddd_eqdd.choose_spec.1.fn, C_Worddd_eqdd.choose_spec.2.r, hr.mono (by decide)⟩) (fun _ => rfl)) (only (p := fun c _ => ∀ c', PySem.W.notFirst K (cl.ad c) (.ref (cl.ad c')) = true) (fun _ _ c' => E.c0_nf c') (fun _ => rfl) |> fun z c k c' h => z c k h c') o_eq) (de_attr (only (fun k h => by cases h; exact ⟨E.c0_scl, C_Word_text.elim fun p z => ⟨p, z.choose, 1, z.choose_spec.1, z.choose_spec.2.1, z.choose_spec.2.2.1, z.choose_spec.2.2.2.1, z.choose_spec.2.2.2.2.r, hr.mono (by decide)⟩⟩) (fun _ => rfl)) (dv 8)) (de_call C__law_laid hr (by decide) (by rfl) (da_cons (dv 5) (da_cons (dv 6) (da_cons (dv 3) (da_cons (dv 4) da_nil)))) rfl (len_cons (len_cons (len_cons (len_cons (fun _ _ _ _ e => len_nil e))))))) (de_one (dcmp (o_ownCmp (A := ow_eq) (fun _ _ => rfl) (only (fun k h => by cases h; exact ⟨C_Worddd_eqdd.choose, 1, C_Worddd_eqdd.choose_spec.1.at_, C_Worddd_eqdd.choose_spec.1.fn, C_Worddd_eqdd.choose_spec.2.r, hr.mono (by decide)⟩) (fun _ => rfl)) (only (p := fun c _ => ∀ c', PySem.W.notFirst K (cl.ad c) (.ref (cl.ad c')) = true) (fun _ _ c' => E.c0_nf c') (fun _ => rfl) |> fun z c k c' h => z c k h c') o_eq) (de_op (o_ownBin (A := ow_mul) (only (fun k h => by cases h; exact ⟨E.c0_sf, ⟨C_Worddd_muldd.choose, 6, C_Worddd_muldd.choose_spec.1.at_, C_Worddd_muldd.choose_spec.1.fn, C_Worddd_muldd.choose_spec.2.r, hr.mono (by decide)⟩⟩) (fun _ => rfl)) o_rep) (de_un (o_ownNeg (A := ow_neg) (only (fun k h => by cases h; exact ⟨C_Worddd_negdd.choose, 5, C_Worddd_negdd.choose_spec.1.at_, C_Worddd_negdd.choose_spec.1.fn, C_Worddd_negdd.choose_spec.2.r, hr.mono (by decide)⟩) (fun _ => rfl)) o_neg) (de_make (c := 0) C_Worddd_initdd.choose_spec.1 C_Worddd_initdd.choose_spec.2 hr (by decide) (by rfl) E.c0_name (da_cons (de_ix x_item (dv 7) de_int (fun _ _ => rfl)) da_nil) (len_cons (fun _ _ _ _ e => len_nil e)))) (de_make (c := 0) C_Worddd_initdd.choose_spec.1 C_Worddd_initdd.choose_spec.2 hr (by decide) (by rfl) E.c0_name (da_cons (de_ix x_item (dv 7) de_int (fun _ _ => rfl)) da_nil) (len_cons (fun _ _ _ _ e => len_nil e)))) (de_un (o_ownNeg (A := ow_neg) (only (fun k h => by cases h; exact ⟨C_Worddd_negdd.choose, 5, C_Worddd_negdd.choose_spec.1.at_, C_Worddd_negdd.choose_spec.1.fn, C_Worddd_negdd.choose_spec.2.r, hr.mono (by decide)⟩) (fun _ => rfl)) o_neg) (dv 8))))))
    dss_nil)))
theorem bn__law_is_made_right {f : Addr} {fd : FuncData} (F : FunD K ("_law_is_made_right" : Str) ("_law_is_made_right" : Str) (defArgs st__law_is_made_right) (defBody st__law_is_made_right) (defScope st__law_is_made_right) [] [] f fd) : Binds K fd ["pot", "one", "other", "due", "sign"] [] := F.bindsN fun _ _ _ _ _ _ us hl => match us, hl with | [_, _, _, _, _], _ => rfl
theorem sc_check_word : FnScope ["value"] ["value"] (defScope st_check_word) := ⟨rfl, rfl, rfl, by decide +kernel, rfl, by decide +kernel, by decide +kernel⟩
theorem ok_check_word {f : Addr} {fd : FuncData} (E : Fs K w mg cl) (F : FunD K ("check_word" : Str) ("check_word" : Str) (defArgs st_check_word) (defBody st_check_word) (defScope st_check_word) [] [] f fd)  : FnOk P w K mg base L2.CX0 1 f fd ["value"] (spD K cl 1 f_check_word) :=
  d_defD F sc_check_word rfl (by decide) fun cdv A outer s H E0 hr =>
    (dss_cons (ds_if (dt_not (dt_e (de_isi (T := isi_Word) (u := .ref (cl.ad 0)) (cv := .ref (cl.ad 0)) (fun t b h => by cases t with | non => cases h; exact E.ki_Word_non | bl => cases h; exact E.ki_Word_bl | int => cases h; exact E.ki_Word_int | str => cases h; exact E.ki_Word_str | lst => cases h; exact E.ki_Word_lst | tup => cases h; exact E.ki_Word_tup | dic => cases h; exact E.ki_Word_dic | ob c => cases c <;> cases h; exact E.ki_Word_0) (fun c b h => by cases c <;> cases h; exact ⟨E.c0_scl, E.c0_isi⟩) (.own _) rfl (fun w h => h) (by rfl) E.b_isinstance (dv 0) (pe_glob (by rfl) E.c0_name rfl)))) (dss_cons ds_never
    dss_nil) dss_nil)
    dss_nil)
theorem bn_check_word {f : Addr} {fd : FuncData} (F : FunD K ("check_word" : Str) ("check_word" : Str) (defArgs st_check_word) (defBody st_check_word) (defScope st_check_word) [] [] f fd) : Binds K fd ["value"] [] := F.bindsN fun _ _ _ _ _ _ us hl => match us, hl with | [_], _ => rfl
theorem sc_bent_word : FnScope ["one", "other", "sign"] ["one", "other"] (defScope st_bent_word) := ⟨rfl, rfl, rfl, by decide +kernel, rfl, by decide +kernel, by decide +kernel⟩
theorem ok_bent_word {f : Addr} {fd : FuncData} (E : Fs K w mg cl) (F : FunD K ("bent_word" : Str) ("bent_word" : Str) (defArgs st_bent_word) (defBody st_bent_word) (defScope st_bent_word) [] [] f fd) (C_word_of : Cal P w K mg base cl 4 ("word_of" : Str) 2 f_word_of) (C_made_letters : Cal P w K mg base cl 2 ("made_letters" : Str) 2 f_made_letters) (C_quarters : Cal P w K mg base cl 2 ("quarters" : Str) 2 f_quarters) : FnOk P w K mg base L2.CX0 5 f fd ["one", "other"] (spD K cl 2 f_bent_word) :=
  d_defD F sc_bent_word rfl (by decide) fun cdv A outer s H E0 hr =>
    (dss_cons (dst 2 sc_bent_word.nd (de_op o_rep (de_attr (only (fun k h => by cases h; exact ⟨E.c0_scl, E.c0_sl_own_sign⟩) (fun _ => rfl)) (dv 0)) (de_attr (only (fun k h => by cases h; exact ⟨E.c0_scl, E.c0_sl_own_sign⟩) (fun _ => rfl)) (dv 1))))
    (dss_cons (dst 2 sc_bent_word.nd (de_if (tcmp o_eq (de_op o_mod (de_op o_add (de_call C_quarters hr (by decide) (by rfl) (da_cons (de_attr (only (fun k h => by cases h; exact ⟨E.c0_scl, E.c0_sl_own_letters⟩) (fun _ => rfl)) (dv 0)) (da_cons (de_attr (only (fun k h => by cases h; exact ⟨E.c0_scl, E.c0_sl_own_letters⟩) (fun _ => rfl)) (dv 1)) da_nil)) rfl (len_cons (len_cons (fun _ _ _ _ e => len_nil e)))) de_int) (de_gint (by rfl) E.v_ROUND)) de_int) (dv 2) (de_un o_neg (dv 2))))
    (dss_cons (ds_ret (de_call C_word_of hr (by decide) (by rfl) (da_cons (de_call C_made_letters hr (by decide) (by rfl) (da_cons (de_attr (only (fun k h => by cases h; exact ⟨E.c0_scl, E.c0_sl_own_letters⟩) (fun _ => rfl)) (dv 0)) (da_cons (de_attr (only (fun k h => by cases h; exact ⟨E.c0_scl, E.c0_sl_own_letters⟩) (fun _ => rfl)) (dv 1)) da_nil)) rfl (len_cons (len_cons (fun _ _ _ _ e => len_nil e)))) (da_cons (dv 2) da_nil)) rfl (len_cons (len_cons (fun _ _ _ _ e => len_nil e)))))
    dss_nil)))
theorem bn_bent_word {f : Addr} {fd : FuncData} (F : FunD K ("bent_word" : Str) ("bent_word" : Str) (defArgs st_bent_word) (defBody st_bent_word) (defScope st_bent_word) [] [] f fd) : Binds K fd ["one", "other"] [] := F.bindsN fun _ _ _ _ _ _ us hl => match us, hl with | [_, _], _ => rfl
theorem sc_Word_bent : FnScope ["self", "other"] ["self", "other"] (defScope st_Word_bent) := ⟨rfl, rfl, rfl, by decide +kernel, rfl, by decide +kernel, by decide +kernel⟩
theorem ok_Word_bent {f : Addr} {fd : FuncData} (E : Fs K w mg cl) (F : FunD K ("bent" : Str) ("Word.bent" : Str) (defArgs st_Word_bent) (defBody st_Word_bent) (defScope st_Word_bent) [] [] f fd) (C_check_size : Cal P w K mg base cl 1 ("check_size" : Str) 2 f_check_size) (C_quarters : Cal P w K mg base cl 2 ("quarters" : Str) 2 f_quarters) (C_check_word : Cal P w K mg base cl 1 ("check_word" : Str) 1 f_check_word) (C_bent_word : Cal P w K mg base cl 5 ("bent_word" : Str) 2 f_bent_word) : FnOk P w K mg base L2.CX0 6 f fd ["self", "other"] (spD K cl 2 f_Word_bent) :=
  d_defD F sc_Word_bent rfl (by decide) fun cdv A outer s H E0 hr =>
    (dss_cons (ds_expr (de_call C_check_word hr (by decide) (by rfl) (da_cons (dv 1) da_nil) rfl (len_cons (fun _ _ _ _ e => len_nil e))))
    (dss_cons (ds_expr (de_call C_check_size hr (by decide) (by rfl) (da_cons (dv 0) (da_cons (dv 1) da_nil)) rfl (len_cons (len_cons (fun _ _ _ _ e => len_nil e)))))
    (dss_cons (ds_if (tcmp o_eq (de_op o_mod (de_call C_quarters hr (by decide) (by rfl) (da_cons (de_attr (only (fun k h => by cases h; exact ⟨E.c0_scl, E.c0_sl_own_letters⟩) (fun _ => rfl)) (dv 0)) (da_cons (de_attr (only (fun k h => by cases h; exact ⟨E.c0_scl, E.c0_sl_own_letters⟩) (fun _ => rfl)) (dv 1)) da_nil)) rfl (len_cons (len_cons (fun _ _ _ _ e => len_nil e)))) (de_gint (by rfl) E.v_PAIR)) de_int) (dss_cons ds_never
    dss_nil) dss_nil)
    (dss_cons (ds_ret (de_call C_bent_word hr (by decide) (by rfl) (da_cons (dv 0) (da_cons (dv 1) da_nil)) rfl (len_cons (len_cons (fun _ _ _ _ e => len_nil e)))))
    dss_nil))))
theorem bn_Word_bent {f : Addr} {fd : FuncData} (F : FunD K ("bent" : Str) ("Word.bent" : Str) (defArgs st_Word_bent) (defBody st_Word_bent) (defScope st_Word_bent) [] [] f fd) : Binds K fd ["self", "other"] [] := F.bindsN fun _ _ _ _ _ _ us hl => match us, hl with | [_, _], _ => rfl
theorem sc__law_is_bent_right : FnScope ["pot", "one", "other", "due", "sign", "wires", "places", "texts", "here", "there"] ["pot", "one", "other", "due", "sign"] (defScope st__law_is_bent_right) := ⟨rfl, rfl, rfl, by decide +kernel, rfl, by decide +kernel, by decide +kernel⟩
theorem ok__law_is_bent_right {f : Addr} {fd : FuncData} (E : Fs K w mg cl) (F : FunD K ("_law_is_bent_right" : Str) ("_law_is_bent_right" : Str) (defArgs st__law_is_bent_right) (defBody st__law_is_bent_right) (defScope st__law_is_bent_right) [] [] f fd) (C_Worddd_initdd : ∃ f, Mk K (cl.ad 0) f ∧ FnD P w K mg base cl 2 f 2 f_Worddd_initdd) (C_Worddd_negdd : ∃ f, Meth K (cl.ad 0) ("__neg__" : Str) f ∧ FnD P w K mg base cl 5 f 1 f_Worddd_negdd) (C__law_among : Cal P w K mg base cl 9 ("_law_among" : Str) 3 f__law_among) (C_Worddd_eqdd : ∃ f, Meth K (cl.ad 0) ("__eq__" : Str) f ∧ FnD P w K mg base cl 1 f 2 f_Worddd_eqdd) (C_Word_text : ∃ (p f : Addr), PySem.W.findIn K (.ref (cl.ad 0)) ("text" : Str) = some (some (.ref p)) ∧ PySem.W.specialIn K (.ref p) "__get__" = some (some (.builtin "property.__get__")) ∧ PySem.W.takesIn K (.ref p) = some true ∧ (∃ rest, PySem.W.recIn K p "property" = some (.ref f :: rest)) ∧ FnD P w K mg base cl 1 f 1 f_Word_text) (C__law_laid : Cal P w K mg base cl 7 ("_law_laid" : Str) 4 f__law_laid) (C_Word_bent : ∃ f, Meth K (cl.ad 0) ("bent" : Str) f ∧ FnD P w K mg base cl 6 f 2 f_Word_bent) : FnOk P w K mg base L2.CX0 10 f fd ["pot", "one", "other", "due", "sign"] (spD K cl 5 f__law_is_bent_right) :=
  d_defD F sc__law_is_bent_right rfl (by decide) fun cdv A outer s H E0 hr =>
    (dss_cons (ds_asg (de_call C__law_among hr (by decide) (by rfl) (da_cons (dv 0) (da_cons (dv 1) (da_cons (dv 2) da_nil))) rfl (len_cons (len_cons (len_cons (fun _ _ _ _ e => len_nil e))))) (dg_tup (by rfl) (dgs_cons (dgn 5 sc__law_is_bent_right.nd) (dgs_cons (dgn 6 sc__law_is_bent_right.nd) (dgs_cons (dgn 7 sc__law_is_bent_right.nd) dgs_nil)))))
    (dss_cons (ds_par (i := 8) (j := 9) (by rfl) sc__law_is_bent_right.nd (by rfl) (by rfl) (by decide) (by rfl) (by rfl) (da_cons (de_make (c := 0) C_Worddd_initdd.choose_spec.1 C_Worddd_initdd.choose_spec.2 hr (by decide) (by rfl) E.c0_name (da_cons (de_ix x_item (dv 7) de_int (fun _ _ => rfl)) da_nil) (len_cons (fun _ _ _ _ e => len_nil e))) (da_cons (de_make (c := 0) C_Worddd_initdd.choose_spec.1 C_Worddd_initdd.choose_spec.2 hr (by decide) (by rfl) E.c0_name (da_cons (de_ix x_item (dv 7) de_int (fun _ _ => rfl)) da_nil) (len_cons (fun _ _ _ _ e => len_nil e))) da_nil)) (by rfl))
    (dss_cons (ds_if (tcmp o_ne (de_attr (only (fun k h => by cases h; exact ⟨E.c0_scl, C_Word_text.elim fun p z => ⟨p, z.choose, 1, z.choose_spec.1, z.choose_spec.2.1, z.choose_spec.2.2.1, z.choose_spec.2.2.2.1, z.choose_spec.2.2.2.2.r, hr.mono (by decide)⟩⟩) (fun _ => rfl)) (de_meth (A := me_bent) (only (fun k h => by cases h; exact ⟨E.c0_scl, C_Word_bent.choose, 6, C_Word_bent.choose_spec.1, C_Word_bent.choose_spec.2.r, hr.mono (by decide)⟩) (fun _ => rfl)) (dv 8) (da_cons (dv 9) da_nil) (len_cons (fun _ _ _ _ e => len_nil e)))) (de_call C__law_laid hr (by decide) (by rfl) (da_cons (dv 5) (da_cons (dv 6) (da_cons (dv 3) (da_cons (dv 4) da_nil)))) rfl (len_cons (len_cons (len_cons (len_cons (fun _ _ _ _ e => len_nil e))))))) (dss_cons (ds_ret de_bl)
    dss_nil) dss_nil)
    (dss_cons (ds_ret (dcmp (o_ownCmp (A := ow_eq) (fun _ _ => rfl) (only (fun k h => by cases h; exact ⟨C_Worddd_eqdd.choose, 1, C_Worddd_eqdd.choose_spec.1.at_, C_Worddd_eqdd.choose_spec.1.fn, C_Worddd_eqdd.choose_spec.2.r, hr.mono (by decide)⟩) (fun _ => rfl)) (only (p := fun c _ => ∀ c', PySem.W.notFirst K (cl.ad c) (.ref (cl.ad c')) = true) (fun _ _ c' => E.c0_nf c') (fun _ => rfl) |> fun z c k c' h => z c k h c') o_eq) (de_attr (only (fun k h => by cases h; exact ⟨E.c0_scl, C_Word_text.elim fun p z => ⟨p, z.choose, 1, z.choose_spec.1, z.choose_spec.2.1, z.choose_spec.2.2.1, z.choose_spec.2.2.2.1, z.choose_spec.2.2.2.2.r, hr.mono (by decide)⟩⟩) (fun _ => rfl)) (de_meth (A := me_bent) (only (fun k h => by cases h; exact ⟨E.c0_scl, C_Word_bent.choose, 6, C_Word_bent.choose_spec.1, C_Word_bent.choose_spec.2.r, hr.mono (by decide)⟩) (fun _ => rfl)) (dv 9) (da_cons (dv 8) da_nil) (len_cons (fun _ _ _ _ e => len_nil e)))) (de_call C__law_laid hr (by decide) (by rfl) (da_cons (dv 5) (da_cons (dv 6) (da_cons (dv 3) (da_cons (de_un (o_ownNeg (A := ow_neg) (only (fun k h => by cases h; exact ⟨C_Worddd_negdd.choose, 5, C_Worddd_negdd.choose_spec.1.at_, C_Worddd_negdd.choose_spec.1.fn, C_Worddd_negdd.choose_spec.2.r, hr.mono (by decide)⟩) (fun _ => rfl)) o_neg) (dv 4)) da_nil)))) rfl (len_cons (len_cons (len_cons (len_cons (fun _ _ _ _ e => len_nil e))))))))
    dss_nil))))
theorem bn__law_is_bent_right {f : Addr} {fd : FuncData} (F : FunD K ("_law_is_bent_right" : Str) ("_law_is_bent_right" : Str) (defArgs st__law_is_bent_right) (defBody st__law_is_bent_right) (defScope st__law_is_bent_right) [] [] f fd) : Binds K fd ["pot", "one", "other", "due", "sign"] [] := F.bindsN fun _ _ _ _ _ _ us hl => match us, hl with | [_, _, _, _, _], _ => rfl
theorem sc__law_right : FnScope ["pot", "bends", "rows", "one", "other", "due", "sign"] ["pot"] (defScope st__law_right) := ⟨rfl, rfl, rfl, by decide +kernel, rfl, by decide +kernel, by decide +kernel⟩
theorem ok__law_right {f : Addr} {fd : FuncData} (E : Fs K w mg cl) (F : FunD K ("_law_right" : Str) ("_law_right" : Str) (defArgs st__law_right) (defBody st__law_right) (defScope st__law_right) [] [] f fd) (C_Worddd_negdd : ∃ f, Meth K (cl.ad 0) ("__neg__" : Str) f ∧ FnD P w K mg base cl 5 f 1 f_Worddd_negdd) (C__law_is_made_right : Cal P w K mg base cl 10 ("_law_is_made_right" : Str) 5 fr__law_is_made_right) (C__law_is_bent_right : Cal P w K mg base cl 10 ("_law_is_bent_right" : Str) 5 fr__law_is_bent_right) : FnOk P w K mg base L2.CX0 11 f fd ["pot"] (spD K cl 1 f__law_right) :=
  d_defD F sc__law_right rfl (by decide) fun cdv A outer s H E0 hr =>
    (dss_cons (dst 1 sc__law_right.nd (de_lst (da_cons (de_tup (da_cons (dstr [88]) (da_cons (dstr [89]) (da_cons (dstr [90]) (da_cons (de_un (o_ownNeg (A := ow_neg) (only (fun k h => by cases h; exact ⟨C_Worddd_negdd.choose, 5, C_Worddd_negdd.choose_spec.1.at_, C_Worddd_negdd.choose_spec.1.fn, C_Worddd_negdd.choose_spec.2.r, hr.mono (by decide)⟩) (fun _ => rfl)) o_neg) de_int) da_nil))))) (da_cons (de_tup (da_cons (dstr [89]) (da_cons (dstr [90]) (da_cons (dstr [88]) (da_cons (de_un (o_ownNeg (A := ow_neg) (only (fun k h => by cases h; exact ⟨C_Worddd_negdd.choose, 5, C_Worddd_negdd.choose_spec.1.at_, C_Worddd_negdd.choose_spec.1.fn, C_Worddd_negdd.choose_spec.2.r, hr.mono (by decide)⟩) (fun _ => rfl)) o_neg) de_int) da_nil))))) (da_cons (de_tup (da_cons (dstr [90]) (da_cons (dstr [88]) (da_cons (dstr [89]) (da_cons (de_un (o_ownNeg (A := ow_neg) (only (fun k h => by cases h; exact ⟨C_Worddd_negdd.choose, 5, C_Worddd_negdd.choose_spec.1.at_, C_Worddd_negdd.choose_spec.1.fn, C_Worddd_negdd.choose_spec.2.r, hr.mono (by decide)⟩) (fun _ => rfl)) o_neg) de_int) da_nil))))) (da_cons (de_tup (da_cons (dstr [89]) (da_cons (dstr [88]) (da_cons (dstr [90]) (da_cons de_int da_nil))))) (da_cons (de_tup (da_cons (dstr [88]) (da_cons (dstr [90]) (da_cons (dstr [89]) (da_cons de_int da_nil))))) da_nil)))))))
    (dss_cons (dst 1 sc__law_right.nd (de_op o_add (dv 1) (de_lst (da_cons (de_tup (da_cons (dstr [88, 88, 88]) (da_cons (dstr [90, 90, 90]) (da_cons (dstr [89, 89, 89]) (da_cons (de_un (o_ownNeg (A := ow_neg) (only (fun k h => by cases h; exact ⟨C_Worddd_negdd.choose, 5, C_Worddd_negdd.choose_spec.1.at_, C_Worddd_negdd.choose_spec.1.fn, C_Worddd_negdd.choose_spec.2.r, hr.mono (by decide)⟩) (fun _ => rfl)) o_neg) de_int) da_nil))))) (da_cons (de_tup (da_cons (dstr [88, 88, 88]) (da_cons (dstr [89, 89, 89]) (da_cons (dstr [90, 90, 90]) (da_cons de_int da_nil))))) (da_cons (de_tup (da_cons (dstr [88, 88, 90]) (da_cons (dstr [90, 90, 88]) (da_cons (dstr [89, 89, 89]) (da_cons de_int da_nil))))) (da_cons (de_tup (da_cons (dstr [88, 89]) (da_cons (dstr [89, 89]) (da_cons (dstr [90, 73]) (da_cons (de_un (o_ownNeg (A := ow_neg) (only (fun k h => by cases h; exact ⟨C_Worddd_negdd.choose, 5, C_Worddd_negdd.choose_spec.1.at_, C_Worddd_negdd.choose_spec.1.fn, C_Worddd_negdd.choose_spec.2.r, hr.mono (by decide)⟩) (fun _ => rfl)) o_neg) de_int) da_nil))))) da_nil)))))))
    (dss_cons (dst 1 sc__law_right.nd (de_op o_add (dv 1) (de_lst (da_cons (de_tup (da_cons (dstr [90, 73, 90, 90]) (da_cons (dstr [88, 88, 88, 88]) (da_cons (dstr [89, 88, 89, 89]) (da_cons de_int da_nil))))) (da_cons (de_tup (da_cons (dstr [88, 89, 90]) (da_cons (dstr [89, 89, 73]) (da_cons (dstr [90, 73, 90]) (da_cons (de_un (o_ownNeg (A := ow_neg) (only (fun k h => by cases h; exact ⟨C_Worddd_negdd.choose, 5, C_Worddd_negdd.choose_spec.1.at_, C_Worddd_negdd.choose_spec.1.fn, C_Worddd_negdd.choose_spec.2.r, hr.mono (by decide)⟩) (fun _ => rfl)) o_neg) de_int) da_nil))))) da_nil)))))
    (dss_cons (ds_if (dt_not (dt_e (de_callB (c_all (by rfl)) (by rfl) E.b_all (by decide +kernel) (da_cons (de_lc (own := [(("one" : Str), 3), (("other" : Str), 4), (("due" : Str), 5), (("sign" : Str), 6)]) (by rfl) sc__law_right.nd (di_e (dv 1)) (blkOk_by (N := ["pot", "bends", "rows", "one", "other", "due", "sign"]) (sc := defScope st__law_right) (by decide +kernel)) (fun _ _ _ _ _ => (dg_tup (by rfl) (dgs_cons (dgn 3 sc__law_right.nd) (dgs_cons (dgn 4 sc__law_right.nd) (dgs_cons (dgn 5 sc__law_right.nd) (dgs_cons (dgn 6 sc__law_right.nd) dgs_nil)))))) (by decide) (fun _ _ _ _ _ => dts_nil) (fun _ _ _ _ _ => (de_call C__law_is_bent_right hr (by decide) (by rfl) (da_cons (dv 0) (da_cons (dv 3) (da_cons (dv 4) (da_cons (dv 5) (da_cons (dv 6) da_nil))))) rfl (len_cons (len_cons (len_cons (len_cons (len_cons (fun _ _ _ _ e => len_nil e))))))))) da_nil)))) (dss_cons (ds_ret de_bl)
    dss_nil) dss_nil)
    (dss_cons (dst 2 sc__law_right.nd (de_lst (da_cons (de_tup (da_cons (dstr [88]) (da_cons (dstr [88]) (da_cons (dstr [73]) (da_cons de_int da_nil))))) (da_cons (de_tup (da_cons (dstr [88, 88]) (da_cons (dstr [90, 90]) (da_cons (dstr [89, 89]) (da_cons (de_un (o_ownNeg (A := ow_neg) (only (fun k h => by cases h; exact ⟨C_Worddd_negdd.choose, 5, C_Worddd_negdd.choose_spec.1.at_, C_Worddd_negdd.choose_spec.1.fn, C_Worddd_negdd.choose_spec.2.r, hr.mono (by decide)⟩) (fun _ => rfl)) o_neg) de_int) da_nil))))) (da_cons (de_tup (da_cons (dstr [88, 88]) (da_cons (dstr [89, 89]) (da_cons (dstr [90, 90]) (da_cons (de_un (o_ownNeg (A := ow_neg) (only (fun k h => by cases h; exact ⟨C_Worddd_negdd.choose, 5, C_Worddd_negdd.choose_spec.1.at_, C_Worddd_negdd.choose_spec.1.fn, C_Worddd_negdd.choose_spec.2.r, hr.mono (by decide)⟩) (fun _ => rfl)) o_neg) de_int) da_nil))))) (da_cons (de_tup (da_cons (dstr [88, 90]) (da_cons (dstr [90, 88]) (da_cons (dstr [89, 89]) (da_cons de_int da_nil))))) (da_cons (de_tup (da_cons (dstr [88, 89]) (da_cons (dstr [89, 88]) (da_cons (dstr [90, 90]) (da_cons de_int da_nil))))) da_nil)))))))
    (dss_cons (dst 2 sc__law_right.nd (de_op o_add (dv 2) (de_lst (da_cons (de_tup (da_cons (dstr [88, 88, 88, 88]) (da_cons (dstr [90, 90, 90, 90]) (da_cons (dstr [89, 89, 89, 89]) (da_cons de_int da_nil))))) (da_cons (de_tup (da_cons (dstr [88, 88, 88, 88]) (da_cons (dstr [89, 89, 89, 89]) (da_cons (dstr [90, 90, 90, 90]) (da_cons de_int da_nil))))) (da_cons (de_tup (da_cons (dstr [88, 88, 88, 90]) (da_cons (dstr [90, 90, 90, 88]) (da_cons (dstr [89, 89, 89, 89]) (da_cons (de_un (o_ownNeg (A := ow_neg) (only (fun k h => by cases h; exact ⟨C_Worddd_negdd.choose, 5, C_Worddd_negdd.choose_spec.1.at_, C_Worddd_negdd.choose_spec.1.fn, C_Worddd_negdd.choose_spec.2.r, hr.mono (by decide)⟩) (fun _ => rfl)) o_neg) de_int) da_nil))))) da_nil))))))
    (dss_cons (dst 2 sc__law_right.nd (de_op o_add (dv 2) (de_lst (da_cons (de_tup (da_cons (dstr [88, 89, 90]) (da_cons (dstr [88, 89, 90]) (da_cons (dstr [73, 73, 73]) (da_cons de_int da_nil))))) (da_cons (de_tup (da_cons (dstr [73, 88]) (da_cons (dstr [90, 73]) (da_cons (dstr [90, 88]) (da_cons de_int da_nil))))) (da_cons (de_tup (da_cons (dstr [88, 89, 73]) (da_cons (dstr [89, 88, 90]) (da_cons (dstr [90, 90, 90]) (da_cons de_int da_nil))))) (da_cons (de_tup (da_cons (dstr [90, 90]) (da_cons (dstr [89, 89]) (da_cons (dstr [88, 88]) (da_cons (de_un (o_ownNeg (A := ow_neg) (only (fun k h => by cases h; exact ⟨C_Worddd_negdd.choose, 5, C_Worddd_negdd.choose_spec.1.at_, C_Worddd_negdd.choose_spec.1.fn, C_Worddd_negdd.choose_spec.2.r, hr.mono (by decide)⟩) (fun _ => rfl)) o_neg) de_int) da_nil))))) da_nil)))))))
    (dss_cons (ds_ret (de_callB (c_all (by rfl)) (by rfl) E.b_all (by decide +kernel) (da_cons (de_lc (own := [(("one" : Str), 3), (("other" : Str), 4), (("due" : Str), 5), (("sign" : Str), 6)]) (by rfl) sc__law_right.nd (di_e (dv 2)) (blkOk_by (N := ["pot", "bends", "rows", "one", "other", "due", "sign"]) (sc := defScope st__law_right) (by decide +kernel)) (fun _ _ _ _ _ => (dg_tup (by rfl) (dgs_cons (dgn 3 sc__law_right.nd) (dgs_cons (dgn 4 sc__law_right.nd) (dgs_cons (dgn 5 sc__law_right.nd) (dgs_cons (dgn 6 sc__law_right.nd) dgs_nil)))))) (by decide) (fun _ _ _ _ _ => dts_nil) (fun _ _ _ _ _ => (de_call C__law_is_made_right hr (by decide) (by rfl) (da_cons (dv 0) (da_cons (dv 3) (da_cons (dv 4) (da_cons (dv 5) (da_cons (dv 6) da_nil))))) rfl (len_cons (len_cons (len_cons (len_cons (len_cons (fun _ _ _ _ e => len_nil e))))))))) da_nil)))
    dss_nil))))))))
theorem bn__law_right {f : Addr} {fd : FuncData} (F : FunD K ("_law_right" : Str) ("_law_right" : Str) (defArgs st__law_right) (defBody st__law_right) (defScope st__law_right) [] [] f fd) : Binds K fd ["pot"] [] := F.bindsN fun _ _ _ _ _ _ us hl => match us, hl with | [_], _ => rfl
theorem sc__law_pot : FnScope ["script", "place", "cell", "own", "small"] ["script", "place"] (defScope st__law_pot) := ⟨rfl, rfl, rfl, by decide +kernel, rfl, by decide +kernel, by decide +kernel⟩
theorem ok__law_pot {f : Addr} {fd : FuncData} (E : Fs K w mg cl) (F : FunD K ("_law_pot" : Str) ("_law_pot" : Str) (defArgs st__law_pot) (defBody st__law_pot) (defScope st__law_pot) [] [] f fd) (C_Worddd_muldd : ∃ f, Meth K (cl.ad 0) ("__mul__" : Str) f ∧ FnD P w K mg base cl 6 f 2 f_Worddd_muldd) : FnOk P w K mg base L2.CX0 7 f fd ["script", "place"] (spD K cl 2 f__law_pot) :=
  d_defD F sc__law_pot rfl (by decide) fun cdv A outer s H E0 hr =>
    (dss_cons (dst 2 sc__law_pot.nd (de_if (tcmp o_lt (dv 1) (de_callB c_len (by rfl) E.b_len (by decide +kernel) (da_cons (dv 0) da_nil))) (de_ix x_item (dv 0) (dv 1) (fun _ _ => rfl)) (de_op o_add (de_op (o_ownBin (A := ow_mul) (only (fun k h => by cases h; exact ⟨E.c0_sf, ⟨C_Worddd_muldd.choose, 6, C_Worddd_muldd.choose_spec.1.at_, C_Worddd_muldd.choose_spec.1.fn, C_Worddd_muldd.choose_spec.2.r, hr.mono (by decide)⟩⟩) (fun _ => rfl)) o_rep) de_int (dv 1)) de_int)))
    (dss_cons (dst 3 sc__law_pot.nd (de_op (o_ownBin (A := ow_mul) (only (fun k h => by cases h; exact ⟨E.c0_sf, ⟨C_Worddd_muldd.choose, 6, C_Worddd_muldd.choose_spec.1.at_, C_Worddd_muldd.choose_spec.1.fn, C_Worddd_muldd.choose_spec.2.r, hr.mono (by decide)⟩⟩) (fun _ => rfl)) o_rep) (de_op o_mod (de_callTy c_int (by rfl) E.b_int (by decide +kernel) (da_cons (de_callB c_abs (by rfl) E.b_abs (by decide +kernel) (da_cons (dv 2) da_nil)) da_nil)) (de_op o_pow (de_op o_pow de_int de_int) de_int)) (de_callTy c_int (by rfl) E.b_int (by decide +kernel) (da_cons (dcmp o_ge (de_callB c_abs (by rfl) E.b_abs (by decide +kernel) (da_cons (dv 2) da_nil)) (de_op o_pow de_int de_int)) da_nil))))
    (dss_cons (dst 4 sc__law_pot.nd (de_op o_mod (de_callTy c_int (by rfl) E.b_int (by decide +kernel) (da_cons (dv 2) da_nil)) de_int))
    (dss_cons (ds_ret (de_lst (da_cons (dv 3) (da_cons (de_op o_mod (de_callTy c_int (by rfl) E.b_int (by decide +kernel) (da_cons (de_op o_add (de_op o_add (de_op (o_ownBin (A := ow_mul) (only (fun k h => by cases h; exact ⟨E.c0_sf, ⟨C_Worddd_muldd.choose, 6, C_Worddd_muldd.choose_spec.1.at_, C_Worddd_muldd.choose_spec.1.fn, C_Worddd_muldd.choose_spec.2.r, hr.mono (by decide)⟩⟩) (fun _ => rfl)) o_rep) (dv 4) de_int) (de_op (o_ownBin (A := ow_mul) (only (fun k h => by cases h; exact ⟨E.c0_sf, ⟨C_Worddd_muldd.choose, 6, C_Worddd_muldd.choose_spec.1.at_, C_Worddd_muldd.choose_spec.1.fn, C_Worddd_muldd.choose_spec.2.r, hr.mono (by decide)⟩⟩) (fun _ => rfl)) o_rep) (de_op (o_ownBin (A := ow_mul) (only (fun k h => by cases h; exact ⟨E.c0_sf, ⟨C_Worddd_muldd.choose, 6, C_Worddd_muldd.choose_spec.1.at_, C_Worddd_muldd.choose_spec.1.fn, C_Worddd_muldd.choose_spec.2.r, hr.mono (by decide)⟩⟩) (fun _ => rfl)) o_rep) de_int (dv 1)) (dv 1))) de_int) da_nil)) de_int) (da_cons de_int da_nil)))))
    dss_nil))))
theorem bn__law_pot {f : Addr} {fd : FuncData} (F : FunD K ("_law_pot" : Str) ("_law_pot" : Str) (defArgs st__law_pot) (defBody st__law_pot) (defScope st__law_pot) [] [] f fd) : Binds K fd ["script", "place"] [] := F.bindsN fun _ _ _ _ _ _ us hl => match us, hl with | [_, _], _ => rfl
theorem sc__law_cells : FnScope ["script", "most"] ["script", "most"] (defScope st__law_cells) := ⟨rfl, rfl, rfl, by decide +kernel, rfl, by decide +kernel, by decide +kernel⟩
theorem ok__law_cells {f : Addr} {fd : FuncData} (E : Fs K w mg cl) (F : FunD K ("_law_cells" : Str) ("_law_cells" : Str) (defArgs st__law_cells) (defBody st__law_cells) (defScope st__law_cells) [] [] f fd)  : FnOk P w K mg base L2.CX0 1 f fd ["script", "most"] (spD K cl 2 f__law_cells) :=
  d_defD F sc__law_cells rfl (by decide) fun cdv A outer s H E0 hr =>
    (dss_cons (ds_ret (de_listRg1 (by rfl) (by rfl) E.b_list (by rfl) E.b_range (de_callB (c_max (by rfl)) (by rfl) E.b_max (by decide +kernel) (da_cons de_int (da_cons (de_callB (c_min (by rfl)) (by rfl) E.b_min (by decide +kernel) (da_cons (dv 1) (da_cons (de_callB c_len (by rfl) E.b_len (by decide +kernel) (da_cons (dv 0) da_nil)) da_nil))) da_nil)))))
    dss_nil)
theorem bn__law_cells {f : Addr} {fd : FuncData} (F : FunD K ("_law_cells" : Str) ("_law_cells" : Str) (defArgs st__law_cells) (defBody st__law_cells) (defScope st__law_cells) [] [] f fd) : Binds K fd ["script", "most"] [] := F.bindsN fun _ _ _ _ _ _ us hl => match us, hl with | [_, _], _ => rfl
theorem sc_law : FnScope ["script", "place"] ["script"] (defScope st_law) := ⟨rfl, rfl, rfl, by decide +kernel, rfl, by decide +kernel, by decide +kernel⟩
theorem ok_law {f : Addr} {fd : FuncData} (E : Fs K w mg cl) (F : FunD K ("law" : Str) ("law" : Str) (defArgs st_law) (defBody st_law) (defScope st_law) [] [] f fd) (C__law_right : Cal P w K mg base cl 11 ("_law_right" : Str) 1 tp__law_right) (C__law_pot : Cal P w K mg base cl 7 ("_law_pot" : Str) 2 f__law_pot) (C__law_cells : Cal P w K mg base cl 1 ("_law_cells" : Str) 2 f__law_cells) : FnOk P w K mg base L2.CX0 12 f fd ["script"] (spD K cl 1 f_law) :=
  d_defD F sc_law rfl (by decide) fun cdv A outer s H E0 hr =>
    (dss_cons (ds_ret (de_callB (c_all (by rfl)) (by rfl) E.b_all (by decide +kernel) (da_cons (de_lc (own := [(("place" : Str), 1)]) (by rfl) sc_law.nd (di_e (de_call C__law_cells hr (by decide) (by rfl) (da_cons (dv 0) (da_cons de_int da_nil)) rfl (len_cons (len_cons (fun _ _ _ _ e => len_nil e))))) (blkOk_by (N := ["script", "place"]) (sc := defScope st_law) (by decide +kernel)) (fun _ _ _ _ _ => (dgn 1 sc_law.nd)) (by decide) (fun _ _ _ _ _ => dts_nil) (fun _ _ _ _ _ => (de_call C__law_right hr (by decide) (by rfl) (da_cons (de_call C__law_pot hr (by decide) (by rfl) (da_cons (dv 0) (da_cons (dv 1) da_nil)) rfl (len_cons (len_cons (fun _ _ _ _ e => len_nil e)))) da_nil) rfl (len_cons (fun _ _ _ _ e => len_nil e))))) da_nil)))
    dss_nil)
theorem bn_law {f : Addr} {fd : FuncData} (F : FunD K ("law" : Str) ("law" : Str) (defArgs st_law) (defBody st_law) (defScope st_law) [] [] f fd) : Binds K fd ["script"] [] := F.bindsN fun _ _ _ _ _ _ us hl => match us, hl with | [_], _ => rfl
end
end Lw
set_option Elab.async false
set_option linter.all false
set_option maxRecDepth 100000
set_option maxHeartbeats 4000000
/-! T0: the takes. -/
namespace Lw
open PySem PySem.Spec PyProof.Rows L2 SlX D
section
variable {α β : Type} {m : M α} {f : α → M β} {a : α} {h h1 h2 : Hs} {sl sl1 : Sl} {x y : Sx} {t : Tx} {v z u : DV} {ea eb : Ex} {g : DV → DV → M DV} {r : R DV}
theorem bnd_s (e : m h = .ok a h1) : bnd m f h = f a h1 := by unfold bnd; rw [e]
theorem cons_nx (e : x sl h = .ok (Fl.nx, sl1) h1) : sCons x y sl h = y sl1 h1 := by unfold sCons; rw [bnd_s e]
theorem cons_rt (e : x sl h = .ok (Fl.rt v, sl1) h1) : sCons x y sl h = .ok (Fl.rt v, sl1) h1 := by unfold sCons; rw [bnd_s e]; rfl
theorem if_t (e : t sl h = .ok true h1) : sIf t x y sl h = x sl h1 := by unfold sIf; rw [bnd_s e]; rfl
theorem if_f (e : t sl h = .ok false h1) : sIf t x y sl h = y sl h1 := by unfold sIf; rw [bnd_s e]; rfl
theorem run_rt {n : Nat} {b : Sx} {ds : List DV} (e : b (ds.map some ++ List.replicate (n - ds.length) none) h = .ok (Fl.rt v, sl1) h1) : runF n b ds h = .ok v h1 := by unfold runF; rw [bnd_s e]; rfl
theorem op_s (e1 : ea sl h = .ok v h1) (e2 : eb sl h1 = .ok z h2) (e3 : g v z h2 = r) : eOp g ea eb sl h = r := by unfold eOp; rw [bnd_s e1, bnd_s e2]; exact e3
theorem call_s {k : List DV → M DV} (e1 : ea sl h = .ok v h1) (e3 : k [v] h1 = r) : eCall k (aCons ea aNil) sl h = r := by
  unfold eCall
  rw [bnd_s (a := [v]) (h1 := h1) (by unfold aCons; rw [bnd_s e1]; rfl)]
  exact e3
theorem as_s {i : Nat} (e1 : ea sl h = .ok v h1) : sAs ea (gN i) sl h = .ok (Fl.nx, sl.set i (some v)) h1 := by unfold sAs; rw [bnd_s e1]; rfl
theorem ret_s (e1 : ea sl h = .ok v h1) : sRet ea sl h = .ok (Fl.rt v, sl) h1 := by unfold sRet; rw [bnd_s e1]; rfl
end
variable {h : Hs}
theorem divU {u : Nat} (h1 : 1 ≤ u) (h2 : u ≤ 1000000) : divOk (u : Int) = true := by
  unfold divOk
  rw [Bool.and_eq_true, Bool.or_eq_true]
  refine ⟨.inl (Nat.blt_eq.mpr (by omega)), ?_⟩
  have : ((u : Int) != 0) = true := by simp; omega
  exact this
theorem modD_i {i j : Int} (hj : divOk j = true) : modD (.int i) (.int j) h = .ok (.int (i.fmod j)) h := by
  have hz : (j != 0) = true := by
    unfold divOk at hj
    exact (Bool.and_eq_true_iff.mp hj).2
  show (if j != 0 then D.ret (DV.int (i.fmod j)) else stk) h = _
  rw [hz]; rfl
theorem fdivD_i {i j : Int} (hj : divOk j = true) : fdivD (.int i) (.int j) h = .ok (.int (i.fdiv j)) h := by
  show (if divOk j then D.ret (DV.int (i.fdiv j)) else stk) h = _
  rw [hj]; rfl
theorem mulX_i {i j : Int} (hj : mulOk i j = true) : mulX (.int i) (.int j) h = .ok (.int (i * j)) h := by
  show (if mulOk i j then D.ret (DV.int (i * j)) else stk) h = _
  rw [hj]; rfl
theorem powD_i {i j : Int} (hj : powOk i j = true) : powD (.int i) (.int j) h = .ok (.int (i ^ j.toNat)) h := by
  show (if powOk i j then D.ret (DV.int (i ^ j.toNat)) else stk) h = _
  rw [hj]; rfl
theorem mulOk_l {i j : Int} (hi : i.natAbs < 18446744073709551616) : mulOk i j = true := by
  unfold mulOk
  rw [Nat.blt_eq.mpr hi]; rfl
theorem powOk_3 {i : Int} (hi : i.natAbs < 18446744073709551616) : powOk i 3 = true := by
  have : i.natAbs.log2 < 64 := by
    by_cases z : i.natAbs = 0
    · rw [z]; decide
    · exact (Nat.log2_lt z).mpr hi
  unfold powOk
  rw [Bool.and_eq_true]
  exact ⟨by decide, Nat.ble_eq_true_of_le (by show (i.natAbs.log2 + 1) * 3 ≤ 134217728; omega)⟩
theorem fmod_to {i : Int} {u : Nat} (h1 : 1 ≤ u) : ∃ d : Nat, d < u ∧ i.fmod u = d := by
  have p : (0 : Int) < u := by omega
  have a := Int.fmod_nonneg_of_pos i p
  have b := Int.fmod_lt_of_pos i p
  exact ⟨(i.fmod u).toNat, by omega, by omega⟩
theorem take_own {i j c : Int} {u : Nat} (hi : 0 < i) (h1 : 1 ≤ u) (h2 : u ≤ 1000000) : f__law_take [.ref 0, .int u] [.lst [.int i, .int j, .int c]] = .ok (.int (i.fmod u)) [.lst [.int (i.fdiv u), .int j, .int c]] := by
  refine run_rt (sl1 := [some (.ref 0), some (.int u), none, none, some (.int (i.fmod u))]) ?_
  have hu := divU h1 h2
  refine cons_rt ?_
  have ht : (bCmp gtD (eOp itemD (eSlot 0) (eC (.int (0)))) (eC (.int (0)))) [some (.ref 0), some (.int u), none, none, none] [.lst [.int i, .int j, .int c]] = .ok true [.lst [.int i, .int j, .int c]] := by
    show R.ok (decide (0 < i)) [DO.lst [.int i, .int j, .int c]] = _
    rw [decide_eq_true hi]
  refine (if_t ht).trans ?_
  refine (cons_nx (as_s (v := .int (i.fmod u)) (op_s (v := .int i) (z := .int u) rfl rfl (modD_i hu)))).trans ?_
  refine (cons_nx (sl1 := [some (.ref 0), some (.int u), none, none, some (.int (i.fmod u))]) (h1 := [.lst [.int (i.fdiv u), .int j, .int c]]) ?_).trans rfl
  unfold sSub
  rw [bnd_s (op_s (v := .int i) (z := .int u) (h2 := [.lst [.int i, .int j, .int c]]) rfl rfl (fdivD_i hu))]
  rfl
def primes : List DV := [.int 2147483647, .int 2147483629, .int 2147483587, .int 2147483579, .int 2147483563]
theorem prime_at (k : Nat) (hk : k < 5) : ∃ p : Nat, L2.atI primes (k : Int) = some (.int p) ∧ 1 ≤ p ∧ p ≤ 2147483647 := by
  match k, hk with
  | 0, _ => exact ⟨2147483647, rfl, by decide, by decide⟩
  | 1, _ => exact ⟨2147483629, rfl, by decide, by decide⟩
  | 2, _ => exact ⟨2147483587, rfl, by decide, by decide⟩
  | 3, _ => exact ⟨2147483579, rfl, by decide, by decide⟩
  | 4, _ => exact ⟨2147483563, rfl, by decide, by decide⟩
theorem divB {u : Nat} (h1 : 1 ≤ u) (h2 : u < 10000000000) : divOk (u : Int) = true := by
  unfold divOk
  have l : u.log2 < 64 := (Nat.log2_lt (by omega)).mpr (by omega)
  rw [Bool.and_eq_true, Bool.or_eq_true, Bool.and_eq_true]
  refine ⟨.inr ⟨decide_eq_true (by omega), Nat.blt_eq.mpr (by show (u : Int).natAbs.log2 < 9000; rw [Int.natAbs_natCast]; omega)⟩, ?_⟩
  have : ((u : Int) != 0) = true := by simp; omega
  exact this
theorem take_mix {i j c : Int} {n u : Nat} (hi : ¬ 0 < i) (hn : n ≤ 4000000) (st : PotSt n j c) (h1 : 1 ≤ u) (h2 : u ≤ 1000000) : ∃ (w : Int), f__law_take [.ref 0, .int u] [.lst [.int i, .int j, .int c]] = .ok (.int (w.fmod u)) [.lst [.int i, .int j, .int (c + 1)], .lst primes] := by
  obtain ⟨s1, s2, s3, s4⟩ := st
  have hu := divU h1 h2
  obtain ⟨k, k1, k2⟩ := fmod_to (i := c + 1) (u := 5) (by decide)
  obtain ⟨p, p1, p2, p3⟩ := prime_at k k1
  have k2 : (c + 1).fmod 5 = (k : Int) := k2
  have cc : (101059 * (c + 1)) * (c + 1) ≤ 101059 * 4000001 * 4000001 := by
    have a : (c + 1) * (c + 1) ≤ 4000001 * 4000001 := Int.mul_le_mul (by omega) (by omega) (by omega) (by omega)
    rw [Int.mul_assoc, Int.mul_assoc]
    exact Int.mul_le_mul_of_nonneg_left a (by decide)
  have c0 : 0 ≤ (101059 * (c + 1)) * (c + 1) := Int.mul_nonneg (by omega) (by omega)
  have big : (j + (101059 * (c + 1)) * (c + 1) + 46).natAbs < 18446744073709551616 := by omega
  obtain ⟨b, b1, b2⟩ := fmod_to (i := (j + (101059 * (c + 1)) * (c + 1) + 46) ^ 3) (u := p) p2
  refine ⟨((b : Int) * ((b : Int).fmod 10097 + 100 * (c + 1))).fdiv 149, ?_⟩
  have H1 : ∀ sl : Sl, sl[0]? = some (some (.ref 0)) → ∀ hs, (eOp itemD (eSlot 0) (eC (.int (2)))) sl (.lst [.int i, .int j, .int (c + 1)] :: hs) = .ok (.int (c + 1)) (.lst [.int i, .int j, .int (c + 1)] :: hs) := fun sl e hs => by
    refine op_s (v := .ref 0) (z := .int 2) (h1 := .lst [.int i, .int j, .int (c + 1)] :: hs) (h2 := .lst [.int i, .int j, .int (c + 1)] :: hs) ?_ rfl rfl
    unfold eSlot
    rw [e]; rfl
  refine run_rt (sl1 := [some (.ref 0), some (.int u), some (.int p), some (.int b), none]) ?_
  have ht : (bCmp gtD (eOp itemD (eSlot 0) (eC (.int (0)))) (eC (.int (0)))) [some (.ref 0), some (.int u), none, none, none] [.lst [.int i, .int j, .int c]] = .ok false [.lst [.int i, .int j, .int c]] := by
    show R.ok (decide (0 < i)) [DO.lst [.int i, .int j, .int c]] = _
    rw [decide_eq_false hi]
  refine (cons_nx (sl1 := [some (.ref 0), some (.int u), none, none, none]) (h1 := [.lst [.int i, .int j, .int c]]) ((if_f ht).trans rfl)).trans ?_
  refine (cons_nx (sl1 := [some (.ref 0), some (.int u), none, none, none]) (h1 := [.lst [.int i, .int j, .int (c + 1)]]) rfl).trans ?_
  refine (cons_nx (as_s (v := .int p) (h1 := [.lst [.int i, .int j, .int (c + 1)], .lst primes]) (op_s (v := .ref 1) (z := .int k) (h1 := [.lst [.int i, .int j, .int (c + 1)], .lst primes]) (h2 := [.lst [.int i, .int j, .int (c + 1)], .lst primes]) rfl
    (op_s (call_s (H1 _ rfl _) rfl) rfl ((modD_i (j := 5) rfl).trans (by rw [k2]))) ?_))).trans ?_
  · show optM (L2.atI primes (k : Int)) _ = _
    rw [p1]; rfl
  refine (cons_nx (as_s (v := .int b) (h1 := [.lst [.int i, .int j, .int (c + 1)], .lst primes]) (op_s (call_s (op_s (call_s (op_s (op_s (v := .int j) rfl (op_s (op_s rfl (H1 _ rfl _) (mulX_i (mulOk_l (by decide)))) (H1 _ rfl _) (mulX_i ?_)) rfl) rfl rfl) rfl) rfl (powD_i (powOk_3 big))) rfl) rfl ((modD_i (divB p2 (by omega))).trans (by rw [← b2]; rfl))))).trans ?_
  · unfold mulOk
    rw [Bool.or_eq_true, Bool.or_eq_true]
    exact .inl (.inr (Nat.blt_eq.mpr (by omega)))
  refine cons_rt (ret_s (op_s (call_s (op_s (op_s (v := .int b) rfl (op_s (op_s (call_s (v := .int b) rfl rfl) rfl (modD_i (j := 10097) rfl)) (op_s rfl (H1 _ rfl _) (mulX_i (mulOk_l (by decide)))) rfl) (mulX_i (mulOk_l (by rw [Int.natAbs_natCast]; omega)))) rfl (fdivD_i (j := 149) rfl)) rfl) rfl (modD_i hu)))
theorem takes : TkAll f__law_take := fun n u i j c hn h1 h2 st => by
  by_cases hi : 0 < i
  · obtain ⟨d, d1, d2⟩ := fmod_to (i := i) h1
    exact ⟨d, d1, _, _, _, ⟨[], by rw [take_own hi h1 h2, d2]⟩, potSt_mono st (Nat.le_succ n)⟩
  · obtain ⟨w, hw⟩ := take_mix hi hn st h1 h2
    obtain ⟨d, d1, d2⟩ := fmod_to (i := w) h1
    obtain ⟨s1, s2, s3, s4⟩ := st
    exact ⟨d, d1, i, j, c + 1, ⟨[.lst primes], by rw [hw, d2]⟩, s1, s2, by omega, by omega⟩
end Lw
set_option Elab.async false
set_option linter.all false
set_option maxRecDepth 100000
set_option maxHeartbeats 4000000
/-! T1: the law's own run, over its callees. -/
namespace Lw
open PySem PySem.Spec PyProof.Rows L2 SlX D
theorem acons_s {ea : Ex} {ms : Exs} {sl : Sl} {h h1 h2 : Hs} {v : DV} {ds : List DV} (e1 : ea sl h = .ok v h1) (e2 : ms sl h1 = .ok ds h2) : aCons ea ms sl h = .ok (v :: ds) h2 := by
  unfold aCons
  rw [bnd_s e1, bnd_s e2]
  rfl
theorem mulOk_r {i j : Int} (hi : j.natAbs < 18446744073709551616) : mulOk i j = true := by
  unfold mulOk
  rw [Bool.or_eq_true, Bool.or_eq_true]
  exact .inl (.inr (Nat.blt_eq.mpr hi))
theorem b2i_small (q : Bool) : (if q then (1 : Int) else 0).natAbs < 18446744073709551616 := by cases q <;> decide
theorem lst_s {ms : Exs} {sl : Sl} {h h1 : Hs} {ds : List DV} (e : ms sl h = .ok ds h1) (hf : fits ds.length = true) : eLst ms sl h = .ok (.ref h1.length) (h1 ++ [.lst ds]) := by
  unfold eLst
  rw [bnd_s e]
  show (if fits ds.length then _ else stk) h1 = _
  rw [hf]
  rfl
/-- a new pot -/
theorem pot_run (ns : List Int) (p : Nat) (hp : p < 6) (h : Hs) : ∃ a b : Int, 0 ≤ b ∧ b < 4611686018427387904 ∧ f__law_pot [.scr ns, .int p] h = .ok (.ref h.length) (h ++ [.lst [.int a, .int b, .int 0]]) := by
  -- the cell
  have cell : ∃ z : Int, (eIf (bCmp ltD (eSlot 1) (eCall lenD (aCons (eSlot 0) aNil))) (eOp itemD (eSlot 0) (eSlot 1)) (eOp addD (eOp mulX (eC (.int (89))) (eSlot 1)) (eC (.int (52))))) [some (.scr ns), some (.int p), none, none, none] h = .ok (.int z) h := by
    have hT : (bCmp ltD (eSlot 1) (eCall lenD (aCons (eSlot 0) aNil))) [some (.scr ns), some (.int p), none, none, none] h = .ok (decide ((p : Int) < ((ns.map DV.int).length : Nat))) h := rfl
    by_cases q : (p : Int) < ((ns.map DV.int).length : Nat)
    · rw [decide_eq_true q] at hT
      have hl : p < ns.length := by rw [List.length_map] at q; omega
      refine ⟨ns[p], ?_⟩
      unfold eIf
      rw [bnd_s hT]
      show optM (L2.atI (ns.map DV.int) (p : Int)) h = _
      have : L2.atI (ns.map DV.int) (p : Int) = some (.int ns[p]) := by
        unfold L2.atI
        have e : ixN (ns.map DV.int).length (p : Int) = some p := by
          unfold ixN
          rw [if_pos (by omega), if_pos q]
          simp
        rw [e]
        show (ns.map DV.int)[p]? = _
        rw [List.getElem?_map, List.getElem?_eq_getElem hl]
        rfl
      rw [this]; rfl
    · rw [decide_eq_false q] at hT
      refine ⟨89 * (p : Int) + 52, ?_⟩
      unfold eIf
      rw [bnd_s hT]
      exact op_s (op_s (z := .int p) rfl rfl (mulX_i (mulOk_l (by decide)))) rfl rfl
  obtain ⟨z, hz⟩ := cell
  have habs : ∀ sl : Sl, sl[2]? = some (some (.int z)) → (eCall absD (aCons (eSlot 2) aNil)) sl h = .ok (.int (if z < 0 then -z else z)) h := fun sl e => call_s (v := .int z) (by unfold eSlot; rw [e]; rfl) rfl
  obtain ⟨s, s1, s2⟩ := fmod_to (i := z) (u := 2305843009213693951) (by decide)
  obtain ⟨b, b1, b2⟩ := fmod_to (i := (s : Int) * 73914 + 7199 * (p : Int) * p + 210) (u := 2305843009213693921) (by decide)
  have s2 : z.fmod 2305843009213693951 = (s : Int) := s2
  have b2 : ((s : Int) * 73914 + 7199 * (p : Int) * p + 210).fmod 2305843009213693921 = (b : Int) := b2
  let own : Int := ((if z < 0 then -z else z).fmod ((10 ^ 60) ^ 5)) * (if decide ((10 : Int) ^ 18 ≤ (if z < 0 then -z else z)) then 1 else 0)
  refine ⟨own, b, by omega, by omega, ?_⟩
  refine run_rt (sl1 := [some (.scr ns), some (.int p), some (.int z), some (.int own), some (.int s)]) ?_
  refine (cons_nx (as_s hz)).trans ?_
  refine (cons_nx (as_s (v := .int own) (op_s (h1 := h) (op_s (call_s (habs _ rfl) rfl) (op_s (op_s rfl rfl (powD_i (i := 10) (j := 60) (by decide +kernel))) rfl (powD_i (j := 5) (by decide +kernel))) (modD_i (by decide +kernel)))
    (call_s (op_s (habs _ rfl) (op_s rfl rfl (powD_i (i := 10) (j := 18) (by decide +kernel))) rfl) rfl) (mulX_i (mulOk_r ?_))))).trans ?_
  · exact b2i_small _
  refine (cons_nx (as_s (v := .int s) (op_s (call_s (v := .int z) rfl rfl) rfl ((modD_i (j := 2305843009213693951) (by decide +kernel)).trans (by rw [s2]))))).trans ?_
  refine cons_rt (ret_s ?_)
  have mx : (eOp modD (eCall intD (aCons (eOp addD (eOp addD (eOp mulX (eSlot 4) (eC (.int (73914)))) (eOp mulX (eOp mulX (eC (.int (7199))) (eSlot 1)) (eSlot 1))) (eC (.int (210)))) aNil)) (eC (.int (2305843009213693921)))) [some (.scr ns), some (.int p), some (.int z), some (.int own), some (.int s)] h = .ok (.int b) h :=
    op_s (call_s (op_s (op_s (op_s (v := .int s) rfl rfl (mulX_i (mulOk_r (by decide)))) (op_s (op_s rfl rfl (mulX_i (mulOk_l (by decide)))) rfl (mulX_i (mulOk_r (by omega)))) rfl) rfl rfl) rfl) rfl ((modD_i (j := 2305843009213693921) (by decide +kernel)).trans (by rw [b2]))
  exact lst_s (acons_s (v := .int own) (h1 := h) rfl (acons_s mx (acons_s (v := .int 0) (h1 := h) (h2 := h) (ds := []) rfl rfl))) rfl
/-- a comprehension whose every turn tells True -/
theorem lc_true {ds : List DV} {el : Ex} {sl : Sl} (hel : ∀ d ∈ ds, ∀ h : Hs, h[0]? = some (.lst ds) → ∃ h', el (sl.set 1 (some d)) h = .ok (.bl true) h' ∧ h'[0]? = some (.lst ds)) :
    ∀ (n i : Nat) (h : Hs), h[0]? = some (.lst ds) → ds.length - i < n → ∃ h', lcD (.lst 0) (gN 1) bYes el sl n i h = .ok (List.replicate (ds.length - i) (.bl true)) h'
  | 0, i, h, _, hl => by omega
  | n + 1, i, h, h0, hl => by
    have e : lcD (.lst 0) (gN 1) bYes el sl (n + 1) i h = (match (Wlk.lst 0).at i h with
      | some (some d) => bnd (optM ((gN 1) d sl)) (fun sl1 => bnd (bYes sl1) fun k => if k then bnd (el sl1) fun v => bnd (lcD (.lst 0) (gN 1) bYes el sl n (i + 1)) fun vs => D.ret (v :: vs) else lcD (.lst 0) (gN 1) bYes el sl n (i + 1)) h
      | some none => .ok [] h
      | none => .stuck) := rfl
    have ha : (Wlk.lst 0).at i h = some ds[i]? := by
      show (match h[0]? with | some (.lst ds) => some ds[i]? | _ => none) = _
      rw [h0]
    rw [e, ha]
    by_cases hi : i < ds.length
    · rw [List.getElem?_eq_getElem hi]
      obtain ⟨h1, e1, e2⟩ := hel ds[i] (List.getElem_mem hi) h h0
      obtain ⟨h2, e3⟩ := lc_true hel n (i + 1) h1 e2 (by omega)
      refine ⟨h2, ?_⟩
      show bnd (el (sl.set 1 (some ds[i]))) (fun v => bnd (lcD (.lst 0) (gN 1) bYes el sl n (i + 1)) fun vs => D.ret (v :: vs)) h = _
      rw [bnd_s e1, bnd_s e3]
      have : ds.length - i = (ds.length - (i + 1)) + 1 := by omega
      rw [this, List.replicate_succ]
      rfl
    · rw [List.getElem?_eq_none (by omega)]
      have : ds.length - i = 0 := by omega
      rw [this]
      exact ⟨h, rfl⟩
theorem blsOf_rep : ∀ n : Nat, blsOf (List.replicate n (DV.bl true)) = some (List.replicate n true)
  | 0 => rfl
  | n + 1 => by
    rw [List.replicate_succ]
    show (blsOf (List.replicate n (DV.bl true))).map (true :: ·) = _
    rw [blsOf_rep n]
    rfl
theorem kk_b (l : Int) : 1 ≤ (if (if l < 6 then l else 6) > 1 then (if l < 6 then l else 6) else 1) ∧ (if (if l < 6 then l else 6) > 1 then (if l < 6 then l else 6) else 1) ≤ 6 := by
  by_cases q : l < 6
  · rw [if_pos q]
    by_cases r : l > 1
    · rw [if_pos r]; omega
    · rw [if_neg r]; omega
  · rw [if_neg q]
    decide
theorem law_run (hG : G__law_right [] = some (.bl true)) (ns : List Int) (hl : ns.length ≤ 63) : ∃ h', f_law [.scr ns] [] = .ok (.bl true) h' := by
  -- the cells
  have cells : ∃ m : Nat, m ≤ 6 ∧ f__law_cells [.scr ns, .int 6] [] = .ok (.ref 0) [.lst (rangeV 0 m)] := by
    let k : Int := if (if (((ns.map DV.int).length : Nat) : Int) < 6 then (((ns.map DV.int).length : Nat) : Int) else 6) > 1 then (if (((ns.map DV.int).length : Nat) : Int) < 6 then (((ns.map DV.int).length : Nat) : Int) else 6) else 1
    have k1 : 1 ≤ k ∧ k ≤ 6 := kk_b _
    refine ⟨k.toNat, by omega, ?_⟩
    refine run_rt (sl1 := [some (.scr ns), some (.int 6)]) (cons_rt (ret_s ?_))
    show lstRg1 (.int k) [] = _
    have s1 : small k = true := by
      unfold small
      exact Nat.ble_eq_true_of_le (by omega)
    have s2 : fits k.toNat = true := by
      unfold fits
      exact Nat.ble_eq_true_of_le (by omega)
    show (if small k then (if fits k.toNat then fun h => R.ok (DV.ref h.length) (h ++ [.lst (rangeV 0 k.toNat)]) else stk) else stk) [] = _
    rw [s1, s2]
    rfl
  obtain ⟨m, hm, hc⟩ := cells
  have hlen : (rangeV 0 m).length = m := by unfold rangeV; rw [List.length_map, List.length_range]
  obtain ⟨h2, e2⟩ := lc_true (ds := rangeV 0 m) (el := eCall tp__law_right (aCons (eCall f__law_pot (aCons (eSlot 0) (aCons (eSlot 1) aNil))) aNil)) (sl := [some (.scr ns), none]) (fun d hd h h0 => by
    unfold rangeV at hd
    obtain ⟨p, hp, rfl⟩ := List.mem_map.mp hd
    have hp := List.mem_range.mp hp
    rw [Int.zero_add]
    obtain ⟨a, b, b1, b2, e⟩ := pot_run ns p (by omega) h
    have hn : (h ++ [DO.lst [.int a, .int b, .int 0]])[h.length]? = some (.lst [.int a, .int b, .int 0]) := by simp
    refine ⟨(h ++ [DO.lst [.int a, .int b, .int 0]]).set h.length .dead, ?_, ?_⟩
    · refine call_s (v := .ref h.length) (h1 := h ++ [DO.lst [.int a, .int b, .int 0]]) ?_ ?_
      · exact (bnd_s (m := (aCons (eSlot 0) (aCons (eSlot 1) aNil)) [some (.scr ns), some (.int p)]) (f := f__law_pot) (a := [.scr ns, .int p]) (h1 := h) rfl).trans e
      · show (match (h ++ [DO.lst [.int a, .int b, .int 0]])[h.length]? with
          | some (.lst [.int _, .int j, .int c]) => (match G__law_right [] with
            | some v => if decide (0 ≤ j) && (decide (j < 4611686018427387904) && decide (c = 0)) then R.ok v ((h ++ [DO.lst [.int a, .int b, .int 0]]).set h.length .dead) else .stuck
            | none => .stuck)
          | _ => .stuck) = _
        rw [hn]
        show (match G__law_right [] with
            | some v => if decide (0 ≤ b) && (decide (b < 4611686018427387904) && decide ((0 : Int) = 0)) then R.ok v ((h ++ [DO.lst [.int a, .int b, .int 0]]).set h.length .dead) else .stuck
            | none => .stuck) = _
        rw [hG]
        show (if decide (0 ≤ b) && (decide (b < 4611686018427387904) && decide ((0 : Int) = 0)) then R.ok (DV.bl true) ((h ++ [DO.lst [.int a, .int b, .int 0]]).set h.length .dead) else .stuck) = _
        rw [decide_eq_true b1, decide_eq_true b2]
        rfl
    · have hlt : 0 < h.length := by
        have := (List.getElem?_eq_some_iff.mp h0).1
        exact this
      rw [List.getElem?_set_ne (by omega), List.getElem?_append_left hlt]
      exact h0) 16777216 0 [.lst (rangeV 0 m)] rfl (by rw [hlen]; omega)
  refine ⟨h2 ++ [.lst (List.replicate m (.bl true))], ?_⟩
  refine run_rt (sl1 := [some (.scr ns), none]) (cons_rt (ret_s ?_))
  refine call_s (v := .ref h2.length) (h1 := h2 ++ [.lst (List.replicate m (.bl true))]) ?_ ?_
  · have i1 : (iE (eCall f__law_cells (aCons (eSlot 0) (aCons (eC (.int (6))) aNil)))) [some (.scr ns), none] [] = .ok (.lst 0) [.lst (rangeV 0 m)] :=
      (bnd_s (m := (eCall f__law_cells (aCons (eSlot 0) (aCons (eC (.int (6))) aNil))) [some (.scr ns), none]) (f := itrAt) (a := .ref 0) (h1 := [.lst (rangeV 0 m)])
        ((bnd_s (m := (aCons (eSlot 0) (aCons (eC (.int (6))) aNil)) [some (.scr ns), none]) (f := f__law_cells) (a := [.scr ns, .int 6]) (h1 := []) rfl).trans hc)).trans rfl
    unfold eLc
    refine (bnd_s i1).trans ?_
    refine (bnd_s (a := List.replicate m (.bl true)) (h1 := h2) (e2.trans (by rw [hlen, Nat.sub_zero]))).trans ?_
    show (if fits (List.replicate m (DV.bl true)).length then fun h => R.ok (DV.ref h.length) (h ++ [DO.lst (List.replicate m (DV.bl true))]) else stk) h2 = _
    rw [List.length_replicate]
    have : fits m = true := by unfold fits; exact Nat.ble_eq_true_of_le (by omega)
    rw [this]
    rfl
  · show bnd (lsAt h2.length) (fun ls => optV (blsOf ls) fun bs => .bl (bs.all id)) _ = _
    have hn : (h2 ++ [DO.lst (List.replicate m (DV.bl true))])[h2.length]? = some (.lst (List.replicate m (.bl true))) := by simp
    rw [bnd_s (a := List.replicate m (.bl true)) (h1 := h2 ++ [.lst (List.replicate m (.bl true))]) (by unfold lsAt; rw [hn])]
    rw [blsOf_rep]
    show R.ok (DV.bl ((List.replicate m true).all id)) _ = _
    have : (List.replicate m true).all id = true := by
      rw [List.all_eq_true]
      intro x hx
      exact (List.mem_replicate.mp hx).2
    rw [this]
end Lw
set_option Elab.async false
set_option linter.all false
set_option maxRecDepth 100000
set_option maxHeartbeats 0
/-! printed by gen.py: what the head is asked, its run. -/
namespace Lw
open PySem PySem.Spec PyProof.Rows L2 SlX D
def dd_letters_in : He.DefD := ⟨(("letters_in" : Str), none), ("letters_in" : Str), ("letters_in" : Str), defArgs st_letters_in, defBody st_letters_in, defScope st_letters_in, [], []⟩
def dd_Worddd_initdd : He.DefD := ⟨(("Word" : Str), some ("__init__" : Str)), ("__init__" : Str), ("Word.__init__" : Str), defArgs st_Worddd_initdd, defBody st_Worddd_initdd, defScope st_Worddd_initdd, [], []⟩
def dd_word_of : He.DefD := ⟨(("word_of" : Str), none), ("word_of" : Str), ("word_of" : Str), defArgs st_word_of, defBody st_word_of, defScope st_word_of, [], []⟩
def dd_Worddd_negdd : He.DefD := ⟨(("Word" : Str), some ("__neg__" : Str)), ("__neg__" : Str), ("Word.__neg__" : Str), defArgs st_Worddd_negdd, defBody st_Worddd_negdd, defScope st_Worddd_negdd, [], []⟩
def dd_check_size : He.DefD := ⟨(("check_size" : Str), none), ("check_size" : Str), ("check_size" : Str), defArgs st_check_size, defBody st_check_size, defScope st_check_size, [], []⟩
def dd_made_letter : He.DefD := ⟨(("made_letter" : Str), none), ("made_letter" : Str), ("made_letter" : Str), defArgs st_made_letter, defBody st_made_letter, defScope st_made_letter, [], []⟩
def dd_made_letters : He.DefD := ⟨(("made_letters" : Str), none), ("made_letters" : Str), ("made_letters" : Str), defArgs st_made_letters, defBody st_made_letters, defScope st_made_letters, [], []⟩
def dd_quarter_of : He.DefD := ⟨(("quarter_of" : Str), none), ("quarter_of" : Str), ("quarter_of" : Str), defArgs st_quarter_of, defBody st_quarter_of, defScope st_quarter_of, [], []⟩
def dd_quarters : He.DefD := ⟨(("quarters" : Str), none), ("quarters" : Str), ("quarters" : Str), defArgs st_quarters, defBody st_quarters, defScope st_quarters, [], []⟩
def dd_product : He.DefD := ⟨(("product" : Str), none), ("product" : Str), ("product" : Str), defArgs st_product, defBody st_product, defScope st_product, [], []⟩
def dd_Worddd_muldd : He.DefD := ⟨(("Word" : Str), some ("__mul__" : Str)), ("__mul__" : Str), ("Word.__mul__" : Str), defArgs st_Worddd_muldd, defBody st_Worddd_muldd, defScope st_Worddd_muldd, [], []⟩
def dd__law_take : He.DefD := ⟨(("_law_take" : Str), none), ("_law_take" : Str), ("_law_take" : Str), defArgs st__law_take, defBody st__law_take, defScope st__law_take, [], []⟩
def dd__law_some : He.DefD := ⟨(("_law_some" : Str), none), ("_law_some" : Str), ("_law_some" : Str), defArgs st__law_some, defBody st__law_some, defScope st__law_some, [], []⟩
def dd__law_lone : He.DefD := ⟨(("_law_lone" : Str), none), ("_law_lone" : Str), ("_law_lone" : Str), defArgs st__law_lone, defBody st__law_lone, defScope st__law_lone, [], []⟩
def dd__law_among : He.DefD := ⟨(("_law_among" : Str), none), ("_law_among" : Str), ("_law_among" : Str), defArgs st__law_among, defBody st__law_among, defScope st__law_among, [], []⟩
def dd_Worddd_eqdd : He.DefD := ⟨(("Word" : Str), some ("__eq__" : Str)), ("__eq__" : Str), ("Word.__eq__" : Str), defArgs st_Worddd_eqdd, defBody st_Worddd_eqdd, defScope st_Worddd_eqdd, [], []⟩
def dd_Word_text : He.DefD := ⟨(("Word" : Str), some ("text" : Str)), ("text" : Str), ("Word.text" : Str), defArgs st_Word_text, defBody st_Word_text, defScope st_Word_text, [], []⟩
def dd__law_laid : He.DefD := ⟨(("_law_laid" : Str), none), ("_law_laid" : Str), ("_law_laid" : Str), defArgs st__law_laid, defBody st__law_laid, defScope st__law_laid, [], []⟩
def dd__law_is_made_right : He.DefD := ⟨(("_law_is_made_right" : Str), none), ("_law_is_made_right" : Str), ("_law_is_made_right" : Str), defArgs st__law_is_made_right, defBody st__law_is_made_right, defScope st__law_is_made_right, [], []⟩
def dd_check_word : He.DefD := ⟨(("check_word" : Str), none), ("check_word" : Str), ("check_word" : Str), defArgs st_check_word, defBody st_check_word, defScope st_check_word, [], []⟩
def dd_bent_word : He.DefD := ⟨(("bent_word" : Str), none), ("bent_word" : Str), ("bent_word" : Str), defArgs st_bent_word, defBody st_bent_word, defScope st_bent_word, [], []⟩
def dd_Word_bent : He.DefD := ⟨(("Word" : Str), some ("bent" : Str)), ("bent" : Str), ("Word.bent" : Str), defArgs st_Word_bent, defBody st_Word_bent, defScope st_Word_bent, [], []⟩
def dd__law_is_bent_right : He.DefD := ⟨(("_law_is_bent_right" : Str), none), ("_law_is_bent_right" : Str), ("_law_is_bent_right" : Str), defArgs st__law_is_bent_right, defBody st__law_is_bent_right, defScope st__law_is_bent_right, [], []⟩
def dd__law_right : He.DefD := ⟨(("_law_right" : Str), none), ("_law_right" : Str), ("_law_right" : Str), defArgs st__law_right, defBody st__law_right, defScope st__law_right, [], []⟩
def dd__law_pot : He.DefD := ⟨(("_law_pot" : Str), none), ("_law_pot" : Str), ("_law_pot" : Str), defArgs st__law_pot, defBody st__law_pot, defScope st__law_pot, [], []⟩
def dd__law_cells : He.DefD := ⟨(("_law_cells" : Str), none), ("_law_cells" : Str), ("_law_cells" : Str), defArgs st__law_cells, defBody st__law_cells, defScope st__law_cells, [], []⟩
def dd_law : He.DefD := ⟨(("law" : Str), none), ("law" : Str), ("law" : Str), defArgs st_law, defBody st_law, defScope st_law, [], []⟩
def dfn : List He.DefD := [dd_letters_in, dd_Worddd_initdd, dd_word_of, dd_Worddd_negdd, dd_check_size, dd_made_letter, dd_made_letters, dd_quarter_of, dd_quarters, dd_product, dd_Worddd_muldd, dd__law_take, dd__law_some, dd__law_lone, dd__law_among, dd_Worddd_eqdd, dd__law_laid, dd__law_is_made_right, dd_check_word, dd_bent_word, dd_Word_bent, dd__law_is_bent_right, dd__law_right, dd__law_pot, dd__law_cells, dd_law]
def pps : List AtD := [(pgA ("Word" : Str) ("text" : Str), dd_Word_text)]
def ffa : List He.Fa := [.glo ("letters_in" : Str),
  .glo ("word_of" : Str),
  .glo ("check_size" : Str),
  .glo ("made_letter" : Str),
  .glo ("made_letters" : Str),
  .glo ("quarter_of" : Str),
  .glo ("quarters" : Str),
  .glo ("product" : Str),
  .glo ("_law_take" : Str),
  .glo ("_law_some" : Str),
  .glo ("_law_lone" : Str),
  .glo ("_law_among" : Str),
  .glo ("_law_laid" : Str),
  .glo ("_law_is_made_right" : Str),
  .glo ("check_word" : Str),
  .glo ("bent_word" : Str),
  .glo ("_law_is_bent_right" : Str),
  .glo ("_law_right" : Str),
  .glo ("_law_pot" : Str),
  .glo ("_law_cells" : Str),
  .glo ("law" : Str),
  .glo ("Word" : Str),
  .glo ("THIRDS" : Str),
  .free ("len" : Str),
  .int ("MOST_WIRES" : Str) (4),
  .str ("SIGNS" : Str) (SX.S [73, 88, 89, 90]),
  .free ("all" : Str),
  .str ("MINUS" : Str) (SX.S [45]),
  .free ("str" : Str),
  .free ("isinstance" : Str),
  .str ("STILL" : Str) (SX.S [73]),
  .free ("zip" : Str),
  .free ("sum" : Str),
  .int ("ROUND" : Str) (4),
  .int ("PAIR" : Str) (2),
  .free ("int" : Str),
  .free ("range" : Str),
  .free ("list" : Str),
  .free ("dict" : Str),
  .free ("sorted" : Str),
  .free ("set" : Str),
  .free ("abs" : Str),
  .free ("min" : Str),
  .free ("max" : Str),
  .mkr ("Word" : Str),
  .meth ("Word" : Str) ("__neg__" : Str),
  .meth ("Word" : Str) ("__mul__" : Str),
  .meth ("Word" : Str) ("__eq__" : Str),
  .meth ("Word" : Str) ("bent" : Str)]
def tts : List He.Tab := [(fun K => He.ga K ("THIRDS" : Str), tab_THIRDS.map fun p => SX.S p.1)]
def eex (K : PySem.W.Frag) : List Bool := [sclB K (He.ga K ("Word" : Str)),
  isiB K (He.ga K ("Word" : Str)),
  decide (PySem.W.kitOne K (.ref (He.ga K ("Word" : Str))) (.type "str") = some false),
  sloB K (He.ga K ("Word" : Str)) ("own_sign" : Str) 1,
  sloB K (He.ga K ("Word" : Str)) ("own_letters" : Str) 0,
  decide (PySem.W.kitOne K (tagV ⟨fun _ => He.ga K ("Word" : Str), fun _ _ _ _ _ => True⟩ .non) (.ref (He.ga K ("Word" : Str))) = some false),
  decide (PySem.W.kitOne K (tagV ⟨fun _ => He.ga K ("Word" : Str), fun _ _ _ _ _ => True⟩ .bl) (.ref (He.ga K ("Word" : Str))) = some false),
  decide (PySem.W.kitOne K (tagV ⟨fun _ => He.ga K ("Word" : Str), fun _ _ _ _ _ => True⟩ .int) (.ref (He.ga K ("Word" : Str))) = some false),
  decide (PySem.W.kitOne K (tagV ⟨fun _ => He.ga K ("Word" : Str), fun _ _ _ _ _ => True⟩ .str) (.ref (He.ga K ("Word" : Str))) = some false),
  decide (PySem.W.kitOne K (tagV ⟨fun _ => He.ga K ("Word" : Str), fun _ _ _ _ _ => True⟩ .lst) (.ref (He.ga K ("Word" : Str))) = some false),
  decide (PySem.W.kitOne K (tagV ⟨fun _ => He.ga K ("Word" : Str), fun _ _ _ _ _ => True⟩ .tup) (.ref (He.ga K ("Word" : Str))) = some false),
  decide (PySem.W.kitOne K (tagV ⟨fun _ => He.ga K ("Word" : Str), fun _ _ _ _ _ => True⟩ .dic) (.ref (He.ga K ("Word" : Str))) = some false),
  decide (PySem.W.kitOne K (tagV ⟨fun _ => He.ga K ("Word" : Str), fun _ _ _ _ _ => True⟩ (.ob 0)) (.ref (He.ga K ("Word" : Str))) = some true),
  PySem.W.selfFirst K (He.ga K ("Word" : Str)),
  PySem.W.notFirst K (He.ga K ("Word" : Str)) (.ref (He.ga K ("Word" : Str))),
  proB K ("Word" : Str) ("text" : Str),
  He.valsB K (He.ga K ("THIRDS" : Str)) (tab_THIRDS.map fun p => (SX.S p.1, He.Dv.str (SX.S p.2)))]
def nms0 : List PySem.Str := ["_wall", "KnobError", "BadWord", "OtherSize", "Crossing", "Passing", "MINUS", "PAIR", "STILL", "SIGNS", "MOST_WIRES", "THIRDS", "ROUND", "Word", "letters_in", "word_of", "check_word", "check_size", "quarter_of", "made_letter", "quarters", "made_letters", "product", "bent_word", "_law_pot", "_law_take", "_law_some", "_law_cells", "_law_lone", "_law_among"]
def nms1 : List PySem.Str := ["_law_laid", "_law_is_bent_right", "_law_is_made_right", "_law_right"]
def nms : List PySem.Str := nms0 ++ nms1
abbrev R : PySem.W.OpenRow := PySem.W.OpenLaw.row PySem.Challenge.rw_looseknobs_k09_words_by_hand
abbrev qv : Program := PySem.W.view R.prog [37]
abbrev exB (K : PySem.W.Frag) : Bool := (eex K).all id
abbrev hk : PySem.W.Hook := hookY 7 ffa dfn tts pps exB
def ob (s : PySem.W.SharedT) : AlY := obsY 7 ffa dfn tts pps exB (HandSHeadRun.getT s)
theorem ob_eq (s : PySem.W.SharedT) : ob s = hk.obs s.abs := obsY_eq (HandSHeadRun.getT_eq s)
theorem run0 (w : World) : HandSHeadRun.RunEq R qv hk ob 30000 nms (w.withFollow "special-get-raises" false) := by
  intro os
  kernel_rfl
theorem run1 (w : World) : HandSHeadRun.RunEq R qv hk ob 30000 nms (w.withFollow "special-get-raises" true) := by
  intro os
  kernel_rfl
theorem run (w : World) : HandSHeadRun.RunEq R qv hk ob 30000 nms w := PySem.W.byRow2 "special-get-raises" (P := fun w => HandSHeadRun.RunEq R qv hk ob 30000 nms w) run0 run1 w
end Lw
set_option Elab.async false
set_option linter.all false
set_option maxRecDepth 100000
set_option maxHeartbeats 0
/-! the tables of the law's own callees, by the kernel -/
namespace Lw
open PySem PySem.Spec PyProof.Rows L2 SlX D
abbrev F_law_is_bent_right_0 : List (Nat × Nat) → Bool := fun L => eqR 1000 true (f__law_is_bent_right (.ref 0 :: [.str [88], .str [89], .str [90], .int (-1)]) [.pot 0 L])
theorem t_law_is_bent_right_0_0 : trAll F_law_is_bent_right_0 (seqTree [1]) [(4, 0)] = true := by kernel_rfl
theorem t_law_is_bent_right_0_1 : trAll F_law_is_bent_right_0 (seqTree [2]) [(4, 1)] = true := by kernel_rfl
theorem t_law_is_bent_right_0_2 : trAll F_law_is_bent_right_0 (seqTree [3]) [(4, 2)] = true := by kernel_rfl
theorem t_law_is_bent_right_0_3 : trAll F_law_is_bent_right_0 (seqTree [4]) [(4, 3)] = true := by kernel_rfl
theorem r_law_is_bent_right_0 : byTree 1000 f__law_is_bent_right true tr__law_is_bent_right [.str [88], .str [89], .str [90], .int (-1)] = some (.bl true) := byTree_of (t := wordTree 1) rfl rfl (by decide +kernel) (by decide +kernel) (by
  show (trAll F_law_is_bent_right_0 (seqTree [1]) [(4, 0)] && (trAll F_law_is_bent_right_0 (seqTree [2]) [(4, 1)] && (trAll F_law_is_bent_right_0 (seqTree [3]) [(4, 2)] && (trAll F_law_is_bent_right_0 (seqTree [4]) [(4, 3)] && true)))) = true
  rw [t_law_is_bent_right_0_0, t_law_is_bent_right_0_1, t_law_is_bent_right_0_2, t_law_is_bent_right_0_3]; rfl)
abbrev F_law_is_bent_right_1 : List (Nat × Nat) → Bool := fun L => eqR 1000 true (f__law_is_bent_right (.ref 0 :: [.str [89], .str [90], .str [88], .int (-1)]) [.pot 0 L])
theorem t_law_is_bent_right_1_0 : trAll F_law_is_bent_right_1 (seqTree [1]) [(4, 0)] = true := by kernel_rfl
theorem t_law_is_bent_right_1_1 : trAll F_law_is_bent_right_1 (seqTree [2]) [(4, 1)] = true := by kernel_rfl
theorem t_law_is_bent_right_1_2 : trAll F_law_is_bent_right_1 (seqTree [3]) [(4, 2)] = true := by kernel_rfl
theorem t_law_is_bent_right_1_3 : trAll F_law_is_bent_right_1 (seqTree [4]) [(4, 3)] = true := by kernel_rfl
theorem r_law_is_bent_right_1 : byTree 1000 f__law_is_bent_right true tr__law_is_bent_right [.str [89], .str [90], .str [88], .int (-1)] = some (.bl true) := byTree_of (t := wordTree 1) rfl rfl (by decide +kernel) (by decide +kernel) (by
  show (trAll F_law_is_bent_right_1 (seqTree [1]) [(4, 0)] && (trAll F_law_is_bent_right_1 (seqTree [2]) [(4, 1)] && (trAll F_law_is_bent_right_1 (seqTree [3]) [(4, 2)] && (trAll F_law_is_bent_right_1 (seqTree [4]) [(4, 3)] && true)))) = true
  rw [t_law_is_bent_right_1_0, t_law_is_bent_right_1_1, t_law_is_bent_right_1_2, t_law_is_bent_right_1_3]; rfl)
abbrev F_law_is_bent_right_2 : List (Nat × Nat) → Bool := fun L => eqR 1000 true (f__law_is_bent_right (.ref 0 :: [.str [90], .str [88], .str [89], .int (-1)]) [.pot 0 L])
theorem t_law_is_bent_right_2_0 : trAll F_law_is_bent_right_2 (seqTree [1]) [(4, 0)] = true := by kernel_rfl
theorem t_law_is_bent_right_2_1 : trAll F_law_is_bent_right_2 (seqTree [2]) [(4, 1)] = true := by kernel_rfl
theorem t_law_is_bent_right_2_2 : trAll F_law_is_bent_right_2 (seqTree [3]) [(4, 2)] = true := by kernel_rfl
theorem t_law_is_bent_right_2_3 : trAll F_law_is_bent_right_2 (seqTree [4]) [(4, 3)] = true := by kernel_rfl
theorem r_law_is_bent_right_2 : byTree 1000 f__law_is_bent_right true tr__law_is_bent_right [.str [90], .str [88], .str [89], .int (-1)] = some (.bl true) := byTree_of (t := wordTree 1) rfl rfl (by decide +kernel) (by decide +kernel) (by
  show (trAll F_law_is_bent_right_2 (seqTree [1]) [(4, 0)] && (trAll F_law_is_bent_right_2 (seqTree [2]) [(4, 1)] && (trAll F_law_is_bent_right_2 (seqTree [3]) [(4, 2)] && (trAll F_law_is_bent_right_2 (seqTree [4]) [(4, 3)] && true)))) = true
  rw [t_law_is_bent_right_2_0, t_law_is_bent_right_2_1, t_law_is_bent_right_2_2, t_law_is_bent_right_2_3]; rfl)
abbrev F_law_is_bent_right_3 : List (Nat × Nat) → Bool := fun L => eqR 1000 true (f__law_is_bent_right (.ref 0 :: [.str [89], .str [88], .str [90], .int (1)]) [.pot 0 L])
theorem t_law_is_bent_right_3_0 : trAll F_law_is_bent_right_3 (seqTree [1]) [(4, 0)] = true := by kernel_rfl
theorem t_law_is_bent_right_3_1 : trAll F_law_is_bent_right_3 (seqTree [2]) [(4, 1)] = true := by kernel_rfl
theorem t_law_is_bent_right_3_2 : trAll F_law_is_bent_right_3 (seqTree [3]) [(4, 2)] = true := by kernel_rfl
theorem t_law_is_bent_right_3_3 : trAll F_law_is_bent_right_3 (seqTree [4]) [(4, 3)] = true := by kernel_rfl
theorem r_law_is_bent_right_3 : byTree 1000 f__law_is_bent_right true tr__law_is_bent_right [.str [89], .str [88], .str [90], .int (1)] = some (.bl true) := byTree_of (t := wordTree 1) rfl rfl (by decide +kernel) (by decide +kernel) (by
  show (trAll F_law_is_bent_right_3 (seqTree [1]) [(4, 0)] && (trAll F_law_is_bent_right_3 (seqTree [2]) [(4, 1)] && (trAll F_law_is_bent_right_3 (seqTree [3]) [(4, 2)] && (trAll F_law_is_bent_right_3 (seqTree [4]) [(4, 3)] && true)))) = true
  rw [t_law_is_bent_right_3_0, t_law_is_bent_right_3_1, t_law_is_bent_right_3_2, t_law_is_bent_right_3_3]; rfl)
abbrev F_law_is_bent_right_4 : List (Nat × Nat) → Bool := fun L => eqR 1000 true (f__law_is_bent_right (.ref 0 :: [.str [88], .str [90], .str [89], .int (1)]) [.pot 0 L])
theorem t_law_is_bent_right_4_0 : trAll F_law_is_bent_right_4 (seqTree [1]) [(4, 0)] = true := by kernel_rfl
theorem t_law_is_bent_right_4_1 : trAll F_law_is_bent_right_4 (seqTree [2]) [(4, 1)] = true := by kernel_rfl
theorem t_law_is_bent_right_4_2 : trAll F_law_is_bent_right_4 (seqTree [3]) [(4, 2)] = true := by kernel_rfl
theorem t_law_is_bent_right_4_3 : trAll F_law_is_bent_right_4 (seqTree [4]) [(4, 3)] = true := by kernel_rfl
theorem r_law_is_bent_right_4 : byTree 1000 f__law_is_bent_right true tr__law_is_bent_right [.str [88], .str [90], .str [89], .int (1)] = some (.bl true) := byTree_of (t := wordTree 1) rfl rfl (by decide +kernel) (by decide +kernel) (by
  show (trAll F_law_is_bent_right_4 (seqTree [1]) [(4, 0)] && (trAll F_law_is_bent_right_4 (seqTree [2]) [(4, 1)] && (trAll F_law_is_bent_right_4 (seqTree [3]) [(4, 2)] && (trAll F_law_is_bent_right_4 (seqTree [4]) [(4, 3)] && true)))) = true
  rw [t_law_is_bent_right_4_0, t_law_is_bent_right_4_1, t_law_is_bent_right_4_2, t_law_is_bent_right_4_3]; rfl)
abbrev F_law_is_bent_right_5 : List (Nat × Nat) → Bool := fun L => eqR 1000 true (f__law_is_bent_right (.ref 0 :: [.str [88, 88, 88], .str [90, 90, 90], .str [89, 89, 89], .int (-1)]) [.pot 0 L])
theorem t_law_is_bent_right_5_0 : trAll F_law_is_bent_right_5 (seqTree [3, 2, 1]) [(2, 0)] = true := by kernel_rfl
theorem t_law_is_bent_right_5_1 : trAll F_law_is_bent_right_5 (seqTree [4, 3, 2]) [(2, 1)] = true := by kernel_rfl
theorem r_law_is_bent_right_5 : byTree 1000 f__law_is_bent_right true tr__law_is_bent_right [.str [88, 88, 88], .str [90, 90, 90], .str [89, 89, 89], .int (-1)] = some (.bl true) := byTree_of (t := wordTree 3) rfl rfl (by decide +kernel) (by decide +kernel) (by
  show (trAll F_law_is_bent_right_5 (seqTree [3, 2, 1]) [(2, 0)] && (trAll F_law_is_bent_right_5 (seqTree [4, 3, 2]) [(2, 1)] && true)) = true
  rw [t_law_is_bent_right_5_0, t_law_is_bent_right_5_1]; rfl)
abbrev F_law_is_bent_right_6 : List (Nat × Nat) → Bool := fun L => eqR 1000 true (f__law_is_bent_right (.ref 0 :: [.str [88, 88, 88], .str [89, 89, 89], .str [90, 90, 90], .int (1)]) [.pot 0 L])
theorem t_law_is_bent_right_6_0 : trAll F_law_is_bent_right_6 (seqTree [3, 2, 1]) [(2, 0)] = true := by kernel_rfl
theorem t_law_is_bent_right_6_1 : trAll F_law_is_bent_right_6 (seqTree [4, 3, 2]) [(2, 1)] = true := by kernel_rfl
theorem r_law_is_bent_right_6 : byTree 1000 f__law_is_bent_right true tr__law_is_bent_right [.str [88, 88, 88], .str [89, 89, 89], .str [90, 90, 90], .int (1)] = some (.bl true) := byTree_of (t := wordTree 3) rfl rfl (by decide +kernel) (by decide +kernel) (by
  show (trAll F_law_is_bent_right_6 (seqTree [3, 2, 1]) [(2, 0)] && (trAll F_law_is_bent_right_6 (seqTree [4, 3, 2]) [(2, 1)] && true)) = true
  rw [t_law_is_bent_right_6_0, t_law_is_bent_right_6_1]; rfl)
abbrev F_law_is_bent_right_7 : List (Nat × Nat) → Bool := fun L => eqR 1000 true (f__law_is_bent_right (.ref 0 :: [.str [88, 88, 90], .str [90, 90, 88], .str [89, 89, 89], .int (1)]) [.pot 0 L])
theorem t_law_is_bent_right_7_0 : trAll F_law_is_bent_right_7 (seqTree [3, 2, 1]) [(2, 0)] = true := by kernel_rfl
theorem t_law_is_bent_right_7_1 : trAll F_law_is_bent_right_7 (seqTree [4, 3, 2]) [(2, 1)] = true := by kernel_rfl
theorem r_law_is_bent_right_7 : byTree 1000 f__law_is_bent_right true tr__law_is_bent_right [.str [88, 88, 90], .str [90, 90, 88], .str [89, 89, 89], .int (1)] = some (.bl true) := byTree_of (t := wordTree 3) rfl rfl (by decide +kernel) (by decide +kernel) (by
  show (trAll F_law_is_bent_right_7 (seqTree [3, 2, 1]) [(2, 0)] && (trAll F_law_is_bent_right_7 (seqTree [4, 3, 2]) [(2, 1)] && true)) = true
  rw [t_law_is_bent_right_7_0, t_law_is_bent_right_7_1]; rfl)
abbrev F_law_is_bent_right_8 : List (Nat × Nat) → Bool := fun L => eqR 1000 true (f__law_is_bent_right (.ref 0 :: [.str [88, 89], .str [89, 89], .str [90, 73], .int (-1)]) [.pot 0 L])
theorem t_law_is_bent_right_8_0 : trAll F_law_is_bent_right_8 (seqTree [2, 1]) [(3, 0)] = true := by kernel_rfl
theorem t_law_is_bent_right_8_1 : trAll F_law_is_bent_right_8 (seqTree [3, 2]) [(3, 1)] = true := by kernel_rfl
theorem t_law_is_bent_right_8_2 : trAll F_law_is_bent_right_8 (seqTree [4, 3]) [(3, 2)] = true := by kernel_rfl
theorem r_law_is_bent_right_8 : byTree 1000 f__law_is_bent_right true tr__law_is_bent_right [.str [88, 89], .str [89, 89], .str [90, 73], .int (-1)] = some (.bl true) := byTree_of (t := wordTree 2) rfl rfl (by decide +kernel) (by decide +kernel) (by
  show (trAll F_law_is_bent_right_8 (seqTree [2, 1]) [(3, 0)] && (trAll F_law_is_bent_right_8 (seqTree [3, 2]) [(3, 1)] && (trAll F_law_is_bent_right_8 (seqTree [4, 3]) [(3, 2)] && true))) = true
  rw [t_law_is_bent_right_8_0, t_law_is_bent_right_8_1, t_law_is_bent_right_8_2]; rfl)
abbrev F_law_is_bent_right_9 : List (Nat × Nat) → Bool := fun L => eqR 1000 true (f__law_is_bent_right (.ref 0 :: [.str [90, 73, 90, 90], .str [88, 88, 88, 88], .str [89, 88, 89, 89], .int (1)]) [.pot 0 L])
theorem t_law_is_bent_right_9_0 : trAll F_law_is_bent_right_9 (seqTree [4, 3, 2, 1]) [(1, 0)] = true := by kernel_rfl
theorem r_law_is_bent_right_9 : byTree 1000 f__law_is_bent_right true tr__law_is_bent_right [.str [90, 73, 90, 90], .str [88, 88, 88, 88], .str [89, 88, 89, 89], .int (1)] = some (.bl true) := byTree_of (t := wordTree 4) rfl rfl (by decide +kernel) (by decide +kernel) (by
  show (trAll F_law_is_bent_right_9 (seqTree [4, 3, 2, 1]) [(1, 0)] && true) = true
  rw [t_law_is_bent_right_9_0]; rfl)
abbrev F_law_is_bent_right_10 : List (Nat × Nat) → Bool := fun L => eqR 1000 true (f__law_is_bent_right (.ref 0 :: [.str [88, 89, 90], .str [89, 89, 73], .str [90, 73, 90], .int (-1)]) [.pot 0 L])
theorem t_law_is_bent_right_10_0 : trAll F_law_is_bent_right_10 (seqTree [3, 2, 1]) [(2, 0)] = true := by kernel_rfl
theorem t_law_is_bent_right_10_1 : trAll F_law_is_bent_right_10 (seqTree [4, 3, 2]) [(2, 1)] = true := by kernel_rfl
theorem r_law_is_bent_right_10 : byTree 1000 f__law_is_bent_right true tr__law_is_bent_right [.str [88, 89, 90], .str [89, 89, 73], .str [90, 73, 90], .int (-1)] = some (.bl true) := byTree_of (t := wordTree 3) rfl rfl (by decide +kernel) (by decide +kernel) (by
  show (trAll F_law_is_bent_right_10 (seqTree [3, 2, 1]) [(2, 0)] && (trAll F_law_is_bent_right_10 (seqTree [4, 3, 2]) [(2, 1)] && true)) = true
  rw [t_law_is_bent_right_10_0, t_law_is_bent_right_10_1]; rfl)
theorem tab__law_is_bent_right : ∀ r ∈ tb__law_is_bent_right, byTree 1000 f__law_is_bent_right true tr__law_is_bent_right r = some (.bl true) := (all_cons r_law_is_bent_right_0 (all_cons r_law_is_bent_right_1 (all_cons r_law_is_bent_right_2 (all_cons r_law_is_bent_right_3 (all_cons r_law_is_bent_right_4 (all_cons r_law_is_bent_right_5 (all_cons r_law_is_bent_right_6 (all_cons r_law_is_bent_right_7 (all_cons r_law_is_bent_right_8 (all_cons r_law_is_bent_right_9 (all_cons r_law_is_bent_right_10 all_nil)))))))))))
abbrev F_law_is_made_right_0 : List (Nat × Nat) → Bool := fun L => eqR 1000 true (f__law_is_made_right (.ref 0 :: [.str [88], .str [88], .str [73], .int (1)]) [.pot 0 L])
theorem t_law_is_made_right_0_0 : trAll F_law_is_made_right_0 (seqTree [1]) [(4, 0)] = true := by kernel_rfl
theorem t_law_is_made_right_0_1 : trAll F_law_is_made_right_0 (seqTree [2]) [(4, 1)] = true := by kernel_rfl
theorem t_law_is_made_right_0_2 : trAll F_law_is_made_right_0 (seqTree [3]) [(4, 2)] = true := by kernel_rfl
theorem t_law_is_made_right_0_3 : trAll F_law_is_made_right_0 (seqTree [4]) [(4, 3)] = true := by kernel_rfl
theorem r_law_is_made_right_0 : byTree 1000 f__law_is_made_right true tr__law_is_made_right [.str [88], .str [88], .str [73], .int (1)] = some (.bl true) := byTree_of (t := wordTree 1) rfl rfl (by decide +kernel) (by decide +kernel) (by
  show (trAll F_law_is_made_right_0 (seqTree [1]) [(4, 0)] && (trAll F_law_is_made_right_0 (seqTree [2]) [(4, 1)] && (trAll F_law_is_made_right_0 (seqTree [3]) [(4, 2)] && (trAll F_law_is_made_right_0 (seqTree [4]) [(4, 3)] && true)))) = true
  rw [t_law_is_made_right_0_0, t_law_is_made_right_0_1, t_law_is_made_right_0_2, t_law_is_made_right_0_3]; rfl)
abbrev F_law_is_made_right_1 : List (Nat × Nat) → Bool := fun L => eqR 1000 true (f__law_is_made_right (.ref 0 :: [.str [88, 88], .str [90, 90], .str [89, 89], .int (-1)]) [.pot 0 L])
theorem t_law_is_made_right_1_0 : trAll F_law_is_made_right_1 (seqTree [2, 1]) [(3, 0)] = true := by kernel_rfl
theorem t_law_is_made_right_1_1 : trAll F_law_is_made_right_1 (seqTree [3, 2]) [(3, 1)] = true := by kernel_rfl
theorem t_law_is_made_right_1_2 : trAll F_law_is_made_right_1 (seqTree [4, 3]) [(3, 2)] = true := by kernel_rfl
theorem r_law_is_made_right_1 : byTree 1000 f__law_is_made_right true tr__law_is_made_right [.str [88, 88], .str [90, 90], .str [89, 89], .int (-1)] = some (.bl true) := byTree_of (t := wordTree 2) rfl rfl (by decide +kernel) (by decide +kernel) (by
  show (trAll F_law_is_made_right_1 (seqTree [2, 1]) [(3, 0)] && (trAll F_law_is_made_right_1 (seqTree [3, 2]) [(3, 1)] && (trAll F_law_is_made_right_1 (seqTree [4, 3]) [(3, 2)] && true))) = true
  rw [t_law_is_made_right_1_0, t_law_is_made_right_1_1, t_law_is_made_right_1_2]; rfl)
abbrev F_law_is_made_right_2 : List (Nat × Nat) → Bool := fun L => eqR 1000 true (f__law_is_made_right (.ref 0 :: [.str [88, 88], .str [89, 89], .str [90, 90], .int (-1)]) [.pot 0 L])
theorem t_law_is_made_right_2_0 : trAll F_law_is_made_right_2 (seqTree [2, 1]) [(3, 0)] = true := by kernel_rfl
theorem t_law_is_made_right_2_1 : trAll F_law_is_made_right_2 (seqTree [3, 2]) [(3, 1)] = true := by kernel_rfl
theorem t_law_is_made_right_2_2 : trAll F_law_is_made_right_2 (seqTree [4, 3]) [(3, 2)] = true := by kernel_rfl
theorem r_law_is_made_right_2 : byTree 1000 f__law_is_made_right true tr__law_is_made_right [.str [88, 88], .str [89, 89], .str [90, 90], .int (-1)] = some (.bl true) := byTree_of (t := wordTree 2) rfl rfl (by decide +kernel) (by decide +kernel) (by
  show (trAll F_law_is_made_right_2 (seqTree [2, 1]) [(3, 0)] && (trAll F_law_is_made_right_2 (seqTree [3, 2]) [(3, 1)] && (trAll F_law_is_made_right_2 (seqTree [4, 3]) [(3, 2)] && true))) = true
  rw [t_law_is_made_right_2_0, t_law_is_made_right_2_1, t_law_is_made_right_2_2]; rfl)
abbrev F_law_is_made_right_3 : List (Nat × Nat) → Bool := fun L => eqR 1000 true (f__law_is_made_right (.ref 0 :: [.str [88, 90], .str [90, 88], .str [89, 89], .int (1)]) [.pot 0 L])
theorem t_law_is_made_right_3_0 : trAll F_law_is_made_right_3 (seqTree [2, 1]) [(3, 0)] = true := by kernel_rfl
theorem t_law_is_made_right_3_1 : trAll F_law_is_made_right_3 (seqTree [3, 2]) [(3, 1)] = true := by kernel_rfl
theorem t_law_is_made_right_3_2 : trAll F_law_is_made_right_3 (seqTree [4, 3]) [(3, 2)] = true := by kernel_rfl
theorem r_law_is_made_right_3 : byTree 1000 f__law_is_made_right true tr__law_is_made_right [.str [88, 90], .str [90, 88], .str [89, 89], .int (1)] = some (.bl true) := byTree_of (t := wordTree 2) rfl rfl (by decide +kernel) (by decide +kernel) (by
  show (trAll F_law_is_made_right_3 (seqTree [2, 1]) [(3, 0)] && (trAll F_law_is_made_right_3 (seqTree [3, 2]) [(3, 1)] && (trAll F_law_is_made_right_3 (seqTree [4, 3]) [(3, 2)] && true))) = true
  rw [t_law_is_made_right_3_0, t_law_is_made_right_3_1, t_law_is_made_right_3_2]; rfl)
abbrev F_law_is_made_right_4 : List (Nat × Nat) → Bool := fun L => eqR 1000 true (f__law_is_made_right (.ref 0 :: [.str [88, 89], .str [89, 88], .str [90, 90], .int (1)]) [.pot 0 L])
theorem t_law_is_made_right_4_0 : trAll F_law_is_made_right_4 (seqTree [2, 1]) [(3, 0)] = true := by kernel_rfl
theorem t_law_is_made_right_4_1 : trAll F_law_is_made_right_4 (seqTree [3, 2]) [(3, 1)] = true := by kernel_rfl
theorem t_law_is_made_right_4_2 : trAll F_law_is_made_right_4 (seqTree [4, 3]) [(3, 2)] = true := by kernel_rfl
theorem r_law_is_made_right_4 : byTree 1000 f__law_is_made_right true tr__law_is_made_right [.str [88, 89], .str [89, 88], .str [90, 90], .int (1)] = some (.bl true) := byTree_of (t := wordTree 2) rfl rfl (by decide +kernel) (by decide +kernel) (by
  show (trAll F_law_is_made_right_4 (seqTree [2, 1]) [(3, 0)] && (trAll F_law_is_made_right_4 (seqTree [3, 2]) [(3, 1)] && (trAll F_law_is_made_right_4 (seqTree [4, 3]) [(3, 2)] && true))) = true
  rw [t_law_is_made_right_4_0, t_law_is_made_right_4_1, t_law_is_made_right_4_2]; rfl)
abbrev F_law_is_made_right_5 : List (Nat × Nat) → Bool := fun L => eqR 1000 true (f__law_is_made_right (.ref 0 :: [.str [88, 88, 88, 88], .str [90, 90, 90, 90], .str [89, 89, 89, 89], .int (1)]) [.pot 0 L])
theorem t_law_is_made_right_5_0 : trAll F_law_is_made_right_5 (seqTree [4, 3, 2, 1]) [(1, 0)] = true := by kernel_rfl
theorem r_law_is_made_right_5 : byTree 1000 f__law_is_made_right true tr__law_is_made_right [.str [88, 88, 88, 88], .str [90, 90, 90, 90], .str [89, 89, 89, 89], .int (1)] = some (.bl true) := byTree_of (t := wordTree 4) rfl rfl (by decide +kernel) (by decide +kernel) (by
  show (trAll F_law_is_made_right_5 (seqTree [4, 3, 2, 1]) [(1, 0)] && true) = true
  rw [t_law_is_made_right_5_0]; rfl)
abbrev F_law_is_made_right_6 : List (Nat × Nat) → Bool := fun L => eqR 1000 true (f__law_is_made_right (.ref 0 :: [.str [88, 88, 88, 88], .str [89, 89, 89, 89], .str [90, 90, 90, 90], .int (1)]) [.pot 0 L])
theorem t_law_is_made_right_6_0 : trAll F_law_is_made_right_6 (seqTree [4, 3, 2, 1]) [(1, 0)] = true := by kernel_rfl
theorem r_law_is_made_right_6 : byTree 1000 f__law_is_made_right true tr__law_is_made_right [.str [88, 88, 88, 88], .str [89, 89, 89, 89], .str [90, 90, 90, 90], .int (1)] = some (.bl true) := byTree_of (t := wordTree 4) rfl rfl (by decide +kernel) (by decide +kernel) (by
  show (trAll F_law_is_made_right_6 (seqTree [4, 3, 2, 1]) [(1, 0)] && true) = true
  rw [t_law_is_made_right_6_0]; rfl)
abbrev F_law_is_made_right_7 : List (Nat × Nat) → Bool := fun L => eqR 1000 true (f__law_is_made_right (.ref 0 :: [.str [88, 88, 88, 90], .str [90, 90, 90, 88], .str [89, 89, 89, 89], .int (-1)]) [.pot 0 L])
theorem t_law_is_made_right_7_0 : trAll F_law_is_made_right_7 (seqTree [4, 3, 2, 1]) [(1, 0)] = true := by kernel_rfl
theorem r_law_is_made_right_7 : byTree 1000 f__law_is_made_right true tr__law_is_made_right [.str [88, 88, 88, 90], .str [90, 90, 90, 88], .str [89, 89, 89, 89], .int (-1)] = some (.bl true) := byTree_of (t := wordTree 4) rfl rfl (by decide +kernel) (by decide +kernel) (by
  show (trAll F_law_is_made_right_7 (seqTree [4, 3, 2, 1]) [(1, 0)] && true) = true
  rw [t_law_is_made_right_7_0]; rfl)
abbrev F_law_is_made_right_8 : List (Nat × Nat) → Bool := fun L => eqR 1000 true (f__law_is_made_right (.ref 0 :: [.str [88, 89, 90], .str [88, 89, 90], .str [73, 73, 73], .int (1)]) [.pot 0 L])
theorem t_law_is_made_right_8_0 : trAll F_law_is_made_right_8 (seqTree [3, 2, 1]) [(2, 0)] = true := by kernel_rfl
theorem t_law_is_made_right_8_1 : trAll F_law_is_made_right_8 (seqTree [4, 3, 2]) [(2, 1)] = true := by kernel_rfl
theorem r_law_is_made_right_8 : byTree 1000 f__law_is_made_right true tr__law_is_made_right [.str [88, 89, 90], .str [88, 89, 90], .str [73, 73, 73], .int (1)] = some (.bl true) := byTree_of (t := wordTree 3) rfl rfl (by decide +kernel) (by decide +kernel) (by
  show (trAll F_law_is_made_right_8 (seqTree [3, 2, 1]) [(2, 0)] && (trAll F_law_is_made_right_8 (seqTree [4, 3, 2]) [(2, 1)] && true)) = true
  rw [t_law_is_made_right_8_0, t_law_is_made_right_8_1]; rfl)
abbrev F_law_is_made_right_9 : List (Nat × Nat) → Bool := fun L => eqR 1000 true (f__law_is_made_right (.ref 0 :: [.str [73, 88], .str [90, 73], .str [90, 88], .int (1)]) [.pot 0 L])
theorem t_law_is_made_right_9_0 : trAll F_law_is_made_right_9 (seqTree [2, 1]) [(3, 0)] = true := by kernel_rfl
theorem t_law_is_made_right_9_1 : trAll F_law_is_made_right_9 (seqTree [3, 2]) [(3, 1)] = true := by kernel_rfl
theorem t_law_is_made_right_9_2 : trAll F_law_is_made_right_9 (seqTree [4, 3]) [(3, 2)] = true := by kernel_rfl
theorem r_law_is_made_right_9 : byTree 1000 f__law_is_made_right true tr__law_is_made_right [.str [73, 88], .str [90, 73], .str [90, 88], .int (1)] = some (.bl true) := byTree_of (t := wordTree 2) rfl rfl (by decide +kernel) (by decide +kernel) (by
  show (trAll F_law_is_made_right_9 (seqTree [2, 1]) [(3, 0)] && (trAll F_law_is_made_right_9 (seqTree [3, 2]) [(3, 1)] && (trAll F_law_is_made_right_9 (seqTree [4, 3]) [(3, 2)] && true))) = true
  rw [t_law_is_made_right_9_0, t_law_is_made_right_9_1, t_law_is_made_right_9_2]; rfl)
abbrev F_law_is_made_right_10 : List (Nat × Nat) → Bool := fun L => eqR 1000 true (f__law_is_made_right (.ref 0 :: [.str [88, 89, 73], .str [89, 88, 90], .str [90, 90, 90], .int (1)]) [.pot 0 L])
theorem t_law_is_made_right_10_0 : trAll F_law_is_made_right_10 (seqTree [3, 2, 1]) [(2, 0)] = true := by kernel_rfl
theorem t_law_is_made_right_10_1 : trAll F_law_is_made_right_10 (seqTree [4, 3, 2]) [(2, 1)] = true := by kernel_rfl
theorem r_law_is_made_right_10 : byTree 1000 f__law_is_made_right true tr__law_is_made_right [.str [88, 89, 73], .str [89, 88, 90], .str [90, 90, 90], .int (1)] = some (.bl true) := byTree_of (t := wordTree 3) rfl rfl (by decide +kernel) (by decide +kernel) (by
  show (trAll F_law_is_made_right_10 (seqTree [3, 2, 1]) [(2, 0)] && (trAll F_law_is_made_right_10 (seqTree [4, 3, 2]) [(2, 1)] && true)) = true
  rw [t_law_is_made_right_10_0, t_law_is_made_right_10_1]; rfl)
abbrev F_law_is_made_right_11 : List (Nat × Nat) → Bool := fun L => eqR 1000 true (f__law_is_made_right (.ref 0 :: [.str [90, 90], .str [89, 89], .str [88, 88], .int (-1)]) [.pot 0 L])
theorem t_law_is_made_right_11_0 : trAll F_law_is_made_right_11 (seqTree [2, 1]) [(3, 0)] = true := by kernel_rfl
theorem t_law_is_made_right_11_1 : trAll F_law_is_made_right_11 (seqTree [3, 2]) [(3, 1)] = true := by kernel_rfl
theorem t_law_is_made_right_11_2 : trAll F_law_is_made_right_11 (seqTree [4, 3]) [(3, 2)] = true := by kernel_rfl
theorem r_law_is_made_right_11 : byTree 1000 f__law_is_made_right true tr__law_is_made_right [.str [90, 90], .str [89, 89], .str [88, 88], .int (-1)] = some (.bl true) := byTree_of (t := wordTree 2) rfl rfl (by decide +kernel) (by decide +kernel) (by
  show (trAll F_law_is_made_right_11 (seqTree [2, 1]) [(3, 0)] && (trAll F_law_is_made_right_11 (seqTree [3, 2]) [(3, 1)] && (trAll F_law_is_made_right_11 (seqTree [4, 3]) [(3, 2)] && true))) = true
  rw [t_law_is_made_right_11_0, t_law_is_made_right_11_1, t_law_is_made_right_11_2]; rfl)
theorem tab__law_is_made_right : ∀ r ∈ tb__law_is_made_right, byTree 1000 f__law_is_made_right true tr__law_is_made_right r = some (.bl true) := (all_cons r_law_is_made_right_0 (all_cons r_law_is_made_right_1 (all_cons r_law_is_made_right_2 (all_cons r_law_is_made_right_3 (all_cons r_law_is_made_right_4 (all_cons r_law_is_made_right_5 (all_cons r_law_is_made_right_6 (all_cons r_law_is_made_right_7 (all_cons r_law_is_made_right_8 (all_cons r_law_is_made_right_9 (all_cons r_law_is_made_right_10 (all_cons r_law_is_made_right_11 all_nil))))))))))))
theorem tab__law_right : ∀ r ∈ tb__law_right, byTree 100000 f__law_right true tr__law_right r = some (.bl true) := all_cons (by kernel_rfl) all_nil
end Lw
set_option Elab.async false
set_option linter.all false
set_option maxRecDepth 100000
set_option maxHeartbeats 0
/-! printed by gen.py: the facts put together, the defs one on the other. -/
namespace Lw
open PySem PySem.Spec PyProof.Rows L2 SlX D
abbrev clK (K : PySem.W.Frag) (c1 : Nat) : Cl := clP (fun _ => He.ga K ("Word" : Str)) f__law_take c1
section
variable {P : Program} {w : World} {K : PySem.W.Frag} {h : Heap} {mg : Str → Option Value} {base : Heap}
theorem exAt (c : SaysY ffa dfn tts pps exB w K) (i : Nat) {b : Bool} (e : (eex K)[i]? = some b := by rfl) : b = true :=
  List.all_eq_true.mp (show (eex K).all id = true from c.more) b (List.mem_of_getElem? e)
theorem fs (X : K.In h) (G : h.Ns mainGlobals mg) (c : SaysY ffa dfn tts pps exB w K) (c1 : Nat) : Fs K w mg (clK K c1) where
  b_len := He.free_ok X G (c.t.d.fact 23 (f := .free ("len" : Str)) rfl)
  v_MOST_WIRES := He.int_ok X G (c.t.d.fact 24 (f := .int ("MOST_WIRES" : Str) (4)) rfl)
  v_SIGNS := He.str_ok X G (c.t.d.fact 25 (f := .str ("SIGNS" : Str) (SX.S [73, 88, 89, 90])) rfl)
  b_all := He.free_ok X G (c.t.d.fact 26 (f := .free ("all" : Str)) rfl)
  v_MINUS := He.str_ok X G (c.t.d.fact 27 (f := .str ("MINUS" : Str) (SX.S [45])) rfl)
  b_str := He.free_ok X G (c.t.d.fact 28 (f := .free ("str" : Str)) rfl)
  b_isinstance := He.free_ok X G (c.t.d.fact 29 (f := .free ("isinstance" : Str)) rfl)
  c0_scl := sclB_ok (exAt c 0)
  c0_isi := isiB_ok (exAt c 1)
  ki_str_0 := of_decide_eq_true (exAt c 2)
  c0_sl_own_sign := ⟨_, sloB_ok (exAt c 3)⟩
  c0_sl_own_letters := ⟨_, sloB_ok (exAt c 4)⟩
  c0_name := He.glo_ok X G (c.t.d.fact 21 (f := .glo ("Word" : Str)) rfl)
  kd_THIRDS := ⟨He.ga K ("THIRDS" : Str), He.glo_ok X G (c.t.d.fact 22 (f := .glo ("THIRDS" : Str)) rfl), ktab_of (c.t.tab 0) (SaysT.dicW c.t 0) (exAt c 16)⟩
  v_STILL := He.str_ok X G (c.t.d.fact 30 (f := .str ("STILL" : Str) (SX.S [73])) rfl)
  b_zip := He.free_ok X G (c.t.d.fact 31 (f := .free ("zip" : Str)) rfl)
  b_sum := He.free_ok X G (c.t.d.fact 32 (f := .free ("sum" : Str)) rfl)
  v_ROUND := He.int_ok X G (c.t.d.fact 33 (f := .int ("ROUND" : Str) (4)) rfl)
  v_PAIR := He.int_ok X G (c.t.d.fact 34 (f := .int ("PAIR" : Str) (2)) rfl)
  ki_Word_non := of_decide_eq_true (exAt c 5)
  ki_Word_bl := of_decide_eq_true (exAt c 6)
  ki_Word_int := of_decide_eq_true (exAt c 7)
  ki_Word_str := of_decide_eq_true (exAt c 8)
  ki_Word_lst := of_decide_eq_true (exAt c 9)
  ki_Word_tup := of_decide_eq_true (exAt c 10)
  ki_Word_dic := of_decide_eq_true (exAt c 11)
  ki_Word_0 := of_decide_eq_true (exAt c 12)
  b_int := He.free_ok X G (c.t.d.fact 35 (f := .free ("int" : Str)) rfl)
  c0_sf := exAt c 13
  b_range := He.free_ok X G (c.t.d.fact 36 (f := .free ("range" : Str)) rfl)
  b_list := He.free_ok X G (c.t.d.fact 37 (f := .free ("list" : Str)) rfl)
  b_dict := He.free_ok X G (c.t.d.fact 38 (f := .free ("dict" : Str)) rfl)
  b_sorted := He.free_ok X G (c.t.d.fact 39 (f := .free ("sorted" : Str)) rfl)
  b_set := He.free_ok X G (c.t.d.fact 40 (f := .free ("set" : Str)) rfl)
  c0_nf := fun _ => exAt c 14
  b_abs := He.free_ok X G (c.t.d.fact 41 (f := .free ("abs" : Str)) rfl)
  b_min := He.free_ok X G (c.t.d.fact 42 (f := .free ("min" : Str)) rfl)
  b_max := He.free_ok X G (c.t.d.fact 43 (f := .free ("max" : Str)) rfl)
  fn_letters_in := (c.t.d.def_ 0 (d := dd_letters_in) rfl).elim fun fd F => ⟨_, fd, He.glo_ok X G (c.t.d.fact 0 (f := .glo ("letters_in" : Str)) rfl), F⟩
  fn_Worddd_initdd := (c.t.d.def_ 1 (d := dd_Worddd_initdd) rfl).elim fun fd F => ⟨_, fd, He.mkr_ok (c.t.d.fact 44 (f := .mkr ("Word" : Str)) rfl), F⟩
  fn_word_of := (c.t.d.def_ 2 (d := dd_word_of) rfl).elim fun fd F => ⟨_, fd, He.glo_ok X G (c.t.d.fact 1 (f := .glo ("word_of" : Str)) rfl), F⟩
  fn_Worddd_negdd := (c.t.d.def_ 3 (d := dd_Worddd_negdd) rfl).elim fun fd F => ⟨_, fd, He.meth_ok (c.t.d.fact 45 (f := .meth ("Word" : Str) ("__neg__" : Str)) rfl), F⟩
  fn_check_size := (c.t.d.def_ 4 (d := dd_check_size) rfl).elim fun fd F => ⟨_, fd, He.glo_ok X G (c.t.d.fact 2 (f := .glo ("check_size" : Str)) rfl), F⟩
  fn_made_letter := (c.t.d.def_ 5 (d := dd_made_letter) rfl).elim fun fd F => ⟨_, fd, He.glo_ok X G (c.t.d.fact 3 (f := .glo ("made_letter" : Str)) rfl), F⟩
  fn_made_letters := (c.t.d.def_ 6 (d := dd_made_letters) rfl).elim fun fd F => ⟨_, fd, He.glo_ok X G (c.t.d.fact 4 (f := .glo ("made_letters" : Str)) rfl), F⟩
  fn_quarter_of := (c.t.d.def_ 7 (d := dd_quarter_of) rfl).elim fun fd F => ⟨_, fd, He.glo_ok X G (c.t.d.fact 5 (f := .glo ("quarter_of" : Str)) rfl), F⟩
  fn_quarters := (c.t.d.def_ 8 (d := dd_quarters) rfl).elim fun fd F => ⟨_, fd, He.glo_ok X G (c.t.d.fact 6 (f := .glo ("quarters" : Str)) rfl), F⟩
  fn_product := (c.t.d.def_ 9 (d := dd_product) rfl).elim fun fd F => ⟨_, fd, He.glo_ok X G (c.t.d.fact 7 (f := .glo ("product" : Str)) rfl), F⟩
  fn_Worddd_muldd := (c.t.d.def_ 10 (d := dd_Worddd_muldd) rfl).elim fun fd F => ⟨_, fd, He.meth_ok (c.t.d.fact 46 (f := .meth ("Word" : Str) ("__mul__" : Str)) rfl), F⟩
  fn__law_take := (c.t.d.def_ 11 (d := dd__law_take) rfl).elim fun fd F => ⟨_, fd, He.glo_ok X G (c.t.d.fact 8 (f := .glo ("_law_take" : Str)) rfl), F⟩
  fn__law_some := (c.t.d.def_ 12 (d := dd__law_some) rfl).elim fun fd F => ⟨_, fd, He.glo_ok X G (c.t.d.fact 9 (f := .glo ("_law_some" : Str)) rfl), F⟩
  fn__law_lone := (c.t.d.def_ 13 (d := dd__law_lone) rfl).elim fun fd F => ⟨_, fd, He.glo_ok X G (c.t.d.fact 10 (f := .glo ("_law_lone" : Str)) rfl), F⟩
  fn__law_among := (c.t.d.def_ 14 (d := dd__law_among) rfl).elim fun fd F => ⟨_, fd, He.glo_ok X G (c.t.d.fact 11 (f := .glo ("_law_among" : Str)) rfl), F⟩
  fn_Worddd_eqdd := (c.t.d.def_ 15 (d := dd_Worddd_eqdd) rfl).elim fun fd F => ⟨_, fd, He.meth_ok (c.t.d.fact 47 (f := .meth ("Word" : Str) ("__eq__" : Str)) rfl), F⟩
  fn_Word_text := (c.pdef 0 (p := (pgA ("Word" : Str) ("text" : Str), dd_Word_text)) rfl).elim fun fd F => ⟨_, _, fd, proB_ok (exAt c 15), F⟩
  fn__law_laid := (c.t.d.def_ 16 (d := dd__law_laid) rfl).elim fun fd F => ⟨_, fd, He.glo_ok X G (c.t.d.fact 12 (f := .glo ("_law_laid" : Str)) rfl), F⟩
  fn__law_is_made_right := (c.t.d.def_ 17 (d := dd__law_is_made_right) rfl).elim fun fd F => ⟨_, fd, He.glo_ok X G (c.t.d.fact 13 (f := .glo ("_law_is_made_right" : Str)) rfl), F⟩
  fn_check_word := (c.t.d.def_ 18 (d := dd_check_word) rfl).elim fun fd F => ⟨_, fd, He.glo_ok X G (c.t.d.fact 14 (f := .glo ("check_word" : Str)) rfl), F⟩
  fn_bent_word := (c.t.d.def_ 19 (d := dd_bent_word) rfl).elim fun fd F => ⟨_, fd, He.glo_ok X G (c.t.d.fact 15 (f := .glo ("bent_word" : Str)) rfl), F⟩
  fn_Word_bent := (c.t.d.def_ 20 (d := dd_Word_bent) rfl).elim fun fd F => ⟨_, fd, He.meth_ok (c.t.d.fact 48 (f := .meth ("Word" : Str) ("bent" : Str)) rfl), F⟩
  fn__law_is_bent_right := (c.t.d.def_ 21 (d := dd__law_is_bent_right) rfl).elim fun fd F => ⟨_, fd, He.glo_ok X G (c.t.d.fact 16 (f := .glo ("_law_is_bent_right" : Str)) rfl), F⟩
  fn__law_right := (c.t.d.def_ 22 (d := dd__law_right) rfl).elim fun fd F => ⟨_, fd, He.glo_ok X G (c.t.d.fact 17 (f := .glo ("_law_right" : Str)) rfl), F⟩
  fn__law_pot := (c.t.d.def_ 23 (d := dd__law_pot) rfl).elim fun fd F => ⟨_, fd, He.glo_ok X G (c.t.d.fact 18 (f := .glo ("_law_pot" : Str)) rfl), F⟩
  fn__law_cells := (c.t.d.def_ 24 (d := dd__law_cells) rfl).elim fun fd F => ⟨_, fd, He.glo_ok X G (c.t.d.fact 19 (f := .glo ("_law_cells" : Str)) rfl), F⟩
  fn_law := (c.t.d.def_ 25 (d := dd_law) rfl).elim fun fd F => ⟨_, fd, He.glo_ok X G (c.t.d.fact 20 (f := .glo ("law" : Str)) rfl), F⟩
theorem K_letters_in (E : ∀ c1, Fs K w mg (clK K c1)) (c1 : Nat) : Cal P w K mg base (clK K c1) 1 ("letters_in" : Str) 1 f_letters_in := by
  obtain ⟨f, fd, hm, F⟩ := (E c1).fn_letters_in
  exact ⟨f, fd, _, ok_letters_in (E c1) F , hm, F.kp, bn_letters_in F⟩
theorem K_Worddd_initdd (E : ∀ c1, Fs K w mg (clK K c1)) (c1 : Nat) : ∃ f, Mk K ((clK K c1).ad 0) f ∧ FnD P w K mg base (clK K c1) 2 f 2 f_Worddd_initdd := by
  obtain ⟨f, fd, hm, F⟩ := (E c1).fn_Worddd_initdd
  exact ⟨f, hm, fd, _, ok_Worddd_initdd (E c1) F (K_letters_in E c1), bn_Worddd_initdd F⟩
theorem K_word_of (E : ∀ c1, Fs K w mg (clK K c1)) (c1 : Nat) : Cal P w K mg base (clK K c1) 4 ("word_of" : Str) 2 f_word_of := by
  obtain ⟨f, fd, hm, F⟩ := (E c1).fn_word_of
  exact ⟨f, fd, _, ok_word_of (E c1) F (K_Worddd_initdd E c1), hm, F.kp, bn_word_of F⟩
theorem K_Worddd_negdd (E : ∀ c1, Fs K w mg (clK K c1)) (c1 : Nat) : ∃ f, Meth K ((clK K c1).ad 0) ("__neg__" : Str) f ∧ FnD P w K mg base (clK K c1) 5 f 1 f_Worddd_negdd := by
  obtain ⟨f, fd, hm, F⟩ := (E c1).fn_Worddd_negdd
  exact ⟨f, hm, fd, _, ok_Worddd_negdd (E c1) F (K_word_of E c1), bn_Worddd_negdd F⟩
theorem K_check_size (E : ∀ c1, Fs K w mg (clK K c1)) (c1 : Nat) : Cal P w K mg base (clK K c1) 1 ("check_size" : Str) 2 f_check_size := by
  obtain ⟨f, fd, hm, F⟩ := (E c1).fn_check_size
  exact ⟨f, fd, _, ok_check_size (E c1) F , hm, F.kp, bn_check_size F⟩
theorem K_made_letter (E : ∀ c1, Fs K w mg (clK K c1)) (c1 : Nat) : Cal P w K mg base (clK K c1) 1 ("made_letter" : Str) 2 f_made_letter := by
  obtain ⟨f, fd, hm, F⟩ := (E c1).fn_made_letter
  exact ⟨f, fd, _, ok_made_letter (E c1) F , hm, F.kp, bn_made_letter F⟩
theorem K_made_letters (E : ∀ c1, Fs K w mg (clK K c1)) (c1 : Nat) : Cal P w K mg base (clK K c1) 2 ("made_letters" : Str) 2 f_made_letters := by
  obtain ⟨f, fd, hm, F⟩ := (E c1).fn_made_letters
  exact ⟨f, fd, _, ok_made_letters (E c1) F (K_made_letter E c1), hm, F.kp, bn_made_letters F⟩
theorem K_quarter_of (E : ∀ c1, Fs K w mg (clK K c1)) (c1 : Nat) : Cal P w K mg base (clK K c1) 1 ("quarter_of" : Str) 2 f_quarter_of := by
  obtain ⟨f, fd, hm, F⟩ := (E c1).fn_quarter_of
  exact ⟨f, fd, _, ok_quarter_of (E c1) F , hm, F.kp, bn_quarter_of F⟩
theorem K_quarters (E : ∀ c1, Fs K w mg (clK K c1)) (c1 : Nat) : Cal P w K mg base (clK K c1) 2 ("quarters" : Str) 2 f_quarters := by
  obtain ⟨f, fd, hm, F⟩ := (E c1).fn_quarters
  exact ⟨f, fd, _, ok_quarters (E c1) F (K_quarter_of E c1), hm, F.kp, bn_quarters F⟩
theorem K_product (E : ∀ c1, Fs K w mg (clK K c1)) (c1 : Nat) : Cal P w K mg base (clK K c1) 5 ("product" : Str) 2 f_product := by
  obtain ⟨f, fd, hm, F⟩ := (E c1).fn_product
  exact ⟨f, fd, _, ok_product (E c1) F (K_word_of E c1) (K_made_letters E c1) (K_quarters E c1), hm, F.kp, bn_product F⟩
theorem K_Worddd_muldd (E : ∀ c1, Fs K w mg (clK K c1)) (c1 : Nat) : ∃ f, Meth K ((clK K c1).ad 0) ("__mul__" : Str) f ∧ FnD P w K mg base (clK K c1) 6 f 2 f_Worddd_muldd := by
  obtain ⟨f, fd, hm, F⟩ := (E c1).fn_Worddd_muldd
  exact ⟨f, hm, fd, _, ok_Worddd_muldd (E c1) F (K_check_size E c1) (K_quarters E c1) (K_product E c1), bn_Worddd_muldd F⟩
theorem K__law_take (E : ∀ c1, Fs K w mg (clK K c1)) (c1 : Nat) : Cal P w K mg base (clK K c1) 7 ("_law_take" : Str) 2 takeD := by
  obtain ⟨f, fd, hm, F⟩ := (E c1).fn__law_take
  obtain ⟨fd2, ps2, F2, b2⟩ := take_ok ⟨fd, _, ok__law_take (P := P) (base := base) (E c1) F (K_Worddd_muldd E c1), bn__law_take F⟩
  exact ⟨f, fd2, ps2, F2, hm, F.kp, b2⟩
theorem K__law_some (E : ∀ c1, Fs K w mg (clK K c1)) (c1 : Nat) : Cal P w K mg base (clK K c1) 8 ("_law_some" : Str) 3 f__law_some := by
  obtain ⟨f, fd, hm, F⟩ := (E c1).fn__law_some
  exact ⟨f, fd, _, ok__law_some (E c1) F (K__law_take E c1), hm, F.kp, bn__law_some F⟩
theorem K__law_lone (E : ∀ c1, Fs K w mg (clK K c1)) (c1 : Nat) : Cal P w K mg base (clK K c1) 1 ("_law_lone" : Str) 2 f__law_lone := by
  obtain ⟨f, fd, hm, F⟩ := (E c1).fn__law_lone
  exact ⟨f, fd, _, ok__law_lone (E c1) F , hm, F.kp, bn__law_lone F⟩
theorem K__law_among (E : ∀ c1, Fs K w mg (clK K c1)) (c1 : Nat) : Cal P w K mg base (clK K c1) 9 ("_law_among" : Str) 3 f__law_among := by
  obtain ⟨f, fd, hm, F⟩ := (E c1).fn__law_among
  exact ⟨f, fd, _, ok__law_among (E c1) F (K__law_take E c1) (K__law_some E c1) (K__law_lone E c1), hm, F.kp, bn__law_among F⟩
theorem K_Worddd_eqdd (E : ∀ c1, Fs K w mg (clK K c1)) (c1 : Nat) : ∃ f, Meth K ((clK K c1).ad 0) ("__eq__" : Str) f ∧ FnD P w K mg base (clK K c1) 1 f 2 f_Worddd_eqdd := by
  obtain ⟨f, fd, hm, F⟩ := (E c1).fn_Worddd_eqdd
  exact ⟨f, hm, fd, _, ok_Worddd_eqdd (E c1) F , bn_Worddd_eqdd F⟩
theorem K_Word_text (E : ∀ c1, Fs K w mg (clK K c1)) (c1 : Nat) : ∃ (p f : Addr), PySem.W.findIn K (.ref ((clK K c1).ad 0)) ("text" : Str) = some (some (.ref p)) ∧ PySem.W.specialIn K (.ref p) "__get__" = some (some (.builtin "property.__get__")) ∧ PySem.W.takesIn K (.ref p) = some true ∧ (∃ rest, PySem.W.recIn K p "property" = some (.ref f :: rest)) ∧ FnD P w K mg base (clK K c1) 1 f 1 f_Word_text := by
  obtain ⟨p, f, fd, ⟨h1, h2, h3, h4⟩, F⟩ := (E c1).fn_Word_text
  exact ⟨p, f, h1, h2, h3, h4, fd, _, ok_Word_text (E c1) F , bn_Word_text F⟩
theorem K__law_laid (E : ∀ c1, Fs K w mg (clK K c1)) (c1 : Nat) : Cal P w K mg base (clK K c1) 7 ("_law_laid" : Str) 4 f__law_laid := by
  obtain ⟨f, fd, hm, F⟩ := (E c1).fn__law_laid
  exact ⟨f, fd, _, ok__law_laid (E c1) F (K_Worddd_muldd E c1) (K__law_lone E c1), hm, F.kp, bn__law_laid F⟩
theorem K__law_is_made_right (E : ∀ c1, Fs K w mg (clK K c1)) (c1 : Nat) (hc : c1 ≤ 1000000) : Cal P w K mg base (clK K c1) 10 ("_law_is_made_right" : Str) 5 fr__law_is_made_right := by
  obtain ⟨f, fd, hm, F⟩ := (E 0).fn__law_is_made_right
  obtain ⟨fd2, ps2, F2, b2⟩ := frame_ok (inc := 1000) (G := G__law_is_made_right) hc (fun c2 _ => ok__law_is_made_right (P := P) (base := base) (E c2) F (K_Worddd_initdd E c2) (K_Worddd_negdd E c2) (K_Worddd_muldd E c2) (K__law_among E c2) (K_Worddd_eqdd E c2) (K_Word_text E c2) (K__law_laid E c2)) (bn__law_is_made_right F) (tbl_ok takes tab__law_is_made_right)
  exact ⟨f, fd2, ps2, F2, hm, F.kp, b2⟩
theorem K_check_word (E : ∀ c1, Fs K w mg (clK K c1)) (c1 : Nat) : Cal P w K mg base (clK K c1) 1 ("check_word" : Str) 1 f_check_word := by
  obtain ⟨f, fd, hm, F⟩ := (E c1).fn_check_word
  exact ⟨f, fd, _, ok_check_word (E c1) F , hm, F.kp, bn_check_word F⟩
theorem K_bent_word (E : ∀ c1, Fs K w mg (clK K c1)) (c1 : Nat) : Cal P w K mg base (clK K c1) 5 ("bent_word" : Str) 2 f_bent_word := by
  obtain ⟨f, fd, hm, F⟩ := (E c1).fn_bent_word
  exact ⟨f, fd, _, ok_bent_word (E c1) F (K_word_of E c1) (K_made_letters E c1) (K_quarters E c1), hm, F.kp, bn_bent_word F⟩
theorem K_Word_bent (E : ∀ c1, Fs K w mg (clK K c1)) (c1 : Nat) : ∃ f, Meth K ((clK K c1).ad 0) ("bent" : Str) f ∧ FnD P w K mg base (clK K c1) 6 f 2 f_Word_bent := by
  obtain ⟨f, fd, hm, F⟩ := (E c1).fn_Word_bent
  exact ⟨f, hm, fd, _, ok_Word_bent (E c1) F (K_check_size E c1) (K_quarters E c1) (K_check_word E c1) (K_bent_word E c1), bn_Word_bent F⟩
theorem K__law_is_bent_right (E : ∀ c1, Fs K w mg (clK K c1)) (c1 : Nat) (hc : c1 ≤ 1000000) : Cal P w K mg base (clK K c1) 10 ("_law_is_bent_right" : Str) 5 fr__law_is_bent_right := by
  obtain ⟨f, fd, hm, F⟩ := (E 0).fn__law_is_bent_right
  obtain ⟨fd2, ps2, F2, b2⟩ := frame_ok (inc := 1000) (G := G__law_is_bent_right) hc (fun c2 _ => ok__law_is_bent_right (P := P) (base := base) (E c2) F (K_Worddd_initdd E c2) (K_Worddd_negdd E c2) (K__law_among E c2) (K_Worddd_eqdd E c2) (K_Word_text E c2) (K__law_laid E c2) (K_Word_bent E c2)) (bn__law_is_bent_right F) (tbl_ok takes tab__law_is_bent_right)
  exact ⟨f, fd2, ps2, F2, hm, F.kp, b2⟩
theorem K__law_right (E : ∀ c1, Fs K w mg (clK K c1)) (c1 : Nat) : Cal P w K mg base (clK K c1) 11 ("_law_right" : Str) 1 tp__law_right := by
  obtain ⟨f, fd, hm, F⟩ := (E 0).fn__law_right
  obtain ⟨fd2, ps2, F2, b2⟩ := top_ok (c0 := c1) (inc := 100000) (G := G__law_right) ⟨fd, _, ok__law_right (P := P) (base := base) (E 0) F (K_Worddd_negdd E 0) (K__law_is_made_right E 0 (by decide)) (K__law_is_bent_right E 0 (by decide)), bn__law_right F⟩ (tbl_ok takes tab__law_right)
  exact ⟨f, fd2, ps2, F2, hm, F.kp, b2⟩
theorem K__law_pot (E : ∀ c1, Fs K w mg (clK K c1)) (c1 : Nat) : Cal P w K mg base (clK K c1) 7 ("_law_pot" : Str) 2 f__law_pot := by
  obtain ⟨f, fd, hm, F⟩ := (E c1).fn__law_pot
  exact ⟨f, fd, _, ok__law_pot (E c1) F (K_Worddd_muldd E c1), hm, F.kp, bn__law_pot F⟩
theorem K__law_cells (E : ∀ c1, Fs K w mg (clK K c1)) (c1 : Nat) : Cal P w K mg base (clK K c1) 1 ("_law_cells" : Str) 2 f__law_cells := by
  obtain ⟨f, fd, hm, F⟩ := (E c1).fn__law_cells
  exact ⟨f, fd, _, ok__law_cells (E c1) F , hm, F.kp, bn__law_cells F⟩
theorem facts (X : K.In h) (G : h.Ns mainGlobals mg) {f : Addr} (hfa : mg ("law" : Str) = some (.ref f)) (c : SaysY ffa dfn tts pps exB w K) :
    ∃ fd : FuncData, (∀ (s : Shared) (v : Value), BindsTo s fd ⟨[v], []⟩ [("script", v)]) ∧ ∀ base : Heap, K.In base → base.Ns mainGlobals mg → FnOk P w K mg base L2.CX0 12 f fd ["script"] (spD K (clK K 0) 1 f_law) := by
  have E := fs X G c
  obtain ⟨fd, F⟩ := c.t.d.def_ 25 (d := dd_law) rfl
  have e := hfa.symm.trans (He.glo_ok X G (c.t.d.fact 20 (f := .glo ("law" : Str)) rfl))
  cases e
  have b := FunD.bindsA (ps := ["script"]) F fun _ _ _ _ _ _ us hl => match us, hl with | [_], _ => rfl
  exact ⟨fd, fun s v => b s [v] rfl, fun base _ _ => ok_law (E 0) F (K__law_right E 0) (K__law_pot E 0) (K__law_cells E 0)⟩
theorem law_sp {H : Hp} {a : Addr} {ns : List Int} (hl : ns.length ≤ 63) (ho : Only H) (hS : SqL K H a (ns.map V.int)) : spD K (clK K 0) 1 f_law [.ref a] H (fun v _ => v = .bl true) fun _ _ _ => False := by
  obtain ⟨h', e⟩ := law_run (by rfl) ns hl
  let W : Wd := ⟨[], fun b => ∃ u, H b = some u⟩
  have fz : FzL K W H a (ns.map V.int) := by
    rcases hS with hS | hS
    · rcases ho a with z | ⟨ob, xs, z⟩
      · rcases hS with hS | ⟨o2, hS⟩ <;> (rw [z] at hS; cases hS)
      · rcases hS with hS | ⟨o2, hS⟩
        · rw [z] at hS; cases hS
        · exact .inl ⟨⟨_, hS⟩, o2, hS⟩
    · exact .inr hS
  refine ⟨rfl, W, [], [.scr ns], .bl true, h', ⟨rfl, List.Pairwise.nil, fun b q => q, fun p hp => (by cases hp), fun n d b dx h1 => (by simp at h1), fun n m c1 c2 f1 f2 b d1 b2 d2 h1 => (by simp at h1)⟩, .cons (.scr fz) .nil, e, fun W1 H1 x _ _ rv => ?_⟩
  cases rv
  rfl
end
end Lw
open PySem PySem.W PySem.Calls PyProof.Rows
theorem PySem.Challenge.cw_looseknobs_k09_words_by_hand_holds : PySem.Challenge.rw_looseknobs_k09_words_by_hand.Holds := by
  w_on; o_law
  refine HandSHeadRun.head_any (r := OpenLaw.row PySem.Challenge.rw_looseknobs_k09_words_by_hand) (q := Lw.qv) (H := Lw.hk) (ob := Lw.ob) (M := 30000) (loose := Lw.nms) (d := HandSHeadRun.topDef (OpenLaw.row PySem.Challenge.rw_looseknobs_k09_words_by_hand).prog 37) (kwd := []) Lw.ob_eq
    (by kernel_rfl) (fun s => by kernel_rfl) Lw.run (by kernel_rfl) (by kernel_rfl) (by kernel_rfl) (by rfl) (by first | assumption | decide +kernel) (by decide +kernel) ⟨rfl, rfl, rfl, rfl, rfl, by decide +kernel⟩ ?hw ?hc
  case hw => w_witness2
  case hc =>
    refine L2.walk_ofE (l := PySem.Challenge.rw_looseknobs_k09_words_by_hand) (n := 63) (k := 12) (x := "script") (CX := L2.CX0) rfl (by decide) (by kernel_rfl) ⟨rfl, by decide, by decide⟩ ?F (fun _ _ _ _ z => z)
    intro w mg fa h Y G hmg0
    obtain ⟨K, KX, c⟩ := Y
    have hmg : mg ("law" : PySem.Str) = some (.ref fa) := by
      have e : (HandSHeadRun.topDef (OpenLaw.row PySem.Challenge.rw_looseknobs_k09_words_by_hand).prog 37).name = ("law" : PySem.Str) := by kernel_rfl
      rw [← e]
      exact hmg0
    obtain ⟨fd, hb, hF⟩ := Lw.facts (P := (PySem.Challenge.rw_looseknobs_k09_words_by_hand).prog) (w := w) KX G hmg c
    exact ⟨K, fd, D.spD K (Lw.clK K 0) 1 Lw.f_law, KX, hb, fun H a ns hl ho hS => Lw.law_sp hl ho hS, hF⟩
