import PyProof.Rows.All
import Wide.All
import OpenK.AllK
import Wide.FinOn
import HandS.Words
import HandS.Exc
import HandS.Lambda
import HandS.Iter
import HandS.Zip
import HandS.TupAny
import HandS.TupMul
import HandS.Deep
import HandS.IsInst
import HandS.Conv
import PyProof.ReprRoads
import HandS.RaiseMore
import HandS.EndTab
import HandS.Dict
import HandS.Style
import PyProof.StrOps2
import PyProof.Rows.RegFStrParts
import PyProof.FitsInt
import PyProof.StrLaws
import KE.KDictPairs
import KE.GoesEnum
import KE.GoesMore
import KE.GoesZip
import KE.KNest
import KE.KExcSuper
import HandS.ExcInit
import HandS.ExcSuper
import HandS.ExcIs
import HandS.ExcField
import HandS.TryMany
import HandS.ExcValue
import HandS.TryOnly
import HandS.Rev
import KE.KRevSl
import HandS.Strs
import PySem.Challenge.RW_bothkept_k03_whole_formulas_checked
set_option Elab.async false
set_option linter.all false
set_option maxRecDepth 100000
set_option maxHeartbeats 0
/-! Bk: deep data over the abstract heap. -/
namespace Bk
open PySem PySem.Spec PyProof.Rows L2

/-- deep data: what never changes any more; rf: a thing by its address (or a class); exc: an exception that is held; obj: an instance; classes by their names; pln: a tuple of which it is known that it has no dict of its own; clo: a lambda at f, what it sees -/
inductive D where
  | non | bl (b : Bool) | int (i : Int) | str (x : Str) | lst (xs : List D) | tup (xs : List D) | dic (kvs : List (Key × D)) | rf (v : V) | scr (ns : List Int)
  | exc (n : Str) (fs : List (Str × D)) | obj (n : Str) (fs : List (Str × D)) | pln (xs : List D) | clo (f : Addr) (xs : List D) (vs : List V)
/-- what may still change -/
inductive MO where
  | ml (xs : List D) | mk (kvs : List (Key × D)) | mo (n : Str) (fs : List (Str × D))
/-- the tables of code objects, and where the classes stand -/
structure Tb where
  tabs : List (Addr × Str)
  cls : Str → Addr
/-- at a: an exception of the class at C that was caught, its dict at dx -/
def ExcO (C dx a : Addr) : HO := .ext fun h => ∃ (oe : Obj) (vs : Array Value), h.get? a = some oe ∧ oe.cls = .ref C ∧ oe.dict = some dx ∧ oe.data = .fields vs

mutual
/-- v stands for d, by the frozen heap F -/
inductive Rep (K : PySem.W.Frag) (T : Tb) (F : Hp) : D → V → Prop
  | non : Rep K T F .non .non
  | bl (b : Bool) : Rep K T F (.bl b) (.bl b)
  | int (i : Int) : Rep K T F (.int i) (.int i)
  | str (x : Str) : Rep K T F (.str x) (.str x)
  | lst {a : Addr} {xs : List V} {ds : List D} : F a = some (.lst xs) → Reps K T F ds xs → Rep K T F (.lst ds) (.ref a)
  | tup {a : Addr} {xs : List V} {ds : List D} : SqT K F a xs → Reps K T F ds xs → Rep K T F (.tup ds) (.ref a)
  | dic {a : Addr} {ws : List (Key × V)} {kvs : List (Key × D)} : F a = some (.dK ws) → RepK K T F kvs ws → Rep K T F (.dic kvs) (.ref a)
  | rf (v : V) : Rep K T F (.rf v) v
  | scr {a : Addr} {ns : List Int} : SqL K F a (ns.map V.int) → Rep K T F (.scr ns) (.ref a)
  | exc {a dx : Addr} {n : Str} {vs : List (Str × V)} {fs : List (Str × D)} : F a = some (ExcO (T.cls n) dx a) → F dx = some (.xd vs) → RepF K T F fs vs → Rep K T F (.exc n fs) (.ref a)
  | obj {a dx : Addr} {n : Str} {vs : List (Str × V)} {fs : List (Str × D)} : F a = some (.ins (T.cls n) dx vs) → RepF K T F fs vs → Rep K T F (.obj n fs) (.ref a)
  | clo (f : Addr) {xs : List D} {vs : List V} : Reps K T F xs vs → Rep K T F (.clo f xs vs) (.ref f)
  | pln {a : Addr} {o : Obj} {xs : List V} {ds : List D} : F a = some (.frz o (.tup xs)) → o.dict = none → Reps K T F ds xs → Rep K T F (.pln ds) (.ref a)
inductive Reps (K : PySem.W.Frag) (T : Tb) (F : Hp) : List D → List V → Prop
  | nil : Reps K T F [] []
  | cons {d : D} {v : V} {ds : List D} {vs : List V} : Rep K T F d v → Reps K T F ds vs → Reps K T F (d :: ds) (v :: vs)
inductive RepK (K : PySem.W.Frag) (T : Tb) (F : Hp) : List (Key × D) → List (Key × V) → Prop
  | nil : RepK K T F [] []
  | cons {k : Key} {d : D} {v : V} {kds : List (Key × D)} {kvs : List (Key × V)} : Rep K T F d v → RepK K T F kds kvs → RepK K T F ((k, d) :: kds) ((k, v) :: kvs)
inductive RepF (K : PySem.W.Frag) (T : Tb) (F : Hp) : List (Str × D) → List (Str × V) → Prop
  | nil : RepF K T F [] []
  | cons {k : Str} {d : D} {v : V} {kds : List (Str × D)} {kvs : List (Str × V)} : Rep K T F d v → RepF K T F kds kvs → RepF K T F ((k, d) :: kds) ((k, v) :: kvs)
end

section
variable {K : PySem.W.Frag} {T : Tb} {F F' H : Hp}
theorem sqt_mono {a : Addr} {xs : List V} (e : Same F F') (h : SqT K F a xs) : SqT K F' a xs := by
  rcases h with (h | ⟨o, h⟩) | h
  · exact .inl (.inl (e _ _ h))
  · exact .inl (.inr ⟨o, e _ _ h⟩)
  · exact .inr h
mutual
theorem Rep.mono (e : Same F F') : ∀ {d : D} {v : V}, Rep K T F d v → Rep K T F' d v
  | _, _, .non => .non
  | _, _, .bl b => .bl b
  | _, _, .int i => .int i
  | _, _, .str x => .str x
  | _, _, .lst h r => .lst (e _ _ h) (Reps.mono e r)
  | _, _, .tup h r => .tup (sqt_mono e h) (Reps.mono e r)
  | _, _, .dic h r => .dic (e _ _ h) (RepK.mono e r)
  | _, _, .rf v => .rf v
  | _, _, .scr h => .scr (e.seq h)
  | _, _, .exc h h2 r => .exc (e _ _ h) (e _ _ h2) (RepF.mono e r)
  | _, _, .obj h r => .obj (e _ _ h) (RepF.mono e r)
  | _, _, .pln h hd r => .pln (e _ _ h) hd (Reps.mono e r)
  | _, _, .clo f r => .clo f (Reps.mono e r)
theorem Reps.mono (e : Same F F') : ∀ {ds : List D} {vs : List V}, Reps K T F ds vs → Reps K T F' ds vs
  | _, _, .nil => .nil
  | _, _, .cons h r => .cons (Rep.mono e h) (Reps.mono e r)
theorem RepK.mono (e : Same F F') : ∀ {ds : List (Key × D)} {vs : List (Key × V)}, RepK K T F ds vs → RepK K T F' ds vs
  | _, _, .nil => .nil
  | _, _, .cons h r => .cons (Rep.mono e h) (RepK.mono e r)
theorem RepF.mono (e : Same F F') : ∀ {ds : List (Str × D)} {vs : List (Str × V)}, RepF K T F ds vs → RepF K T F' ds vs
  | _, _, .nil => .nil
  | _, _, .cons h r => .cons (Rep.mono e h) (RepF.mono e r)
end
theorem RepF.length : ∀ {ds : List (Str × D)} {vs : List (Str × V)}, RepF K T F ds vs → ds.length = vs.length
  | _, _, .nil => rfl
  | _, _, .cons _ r => congrArg (· + 1) (RepF.length r)
theorem RepF.look {f : Str} : ∀ {ds : List (Str × D)} {vs : List (Str × V)} {d : D}, RepF K T F ds vs → ds.lookup f = some d → ∃ v, vs.lookup f = some v ∧ Rep K T F d v
  | _, _, _, .nil, h => by cases h
  | _, _, d, .cons (k := k) h r, e => by
    rw [List.lookup_cons] at e ⊢
    cases hk : f == k with
    | true => rw [hk] at e; cases e; exact ⟨_, rfl, h⟩
    | false => rw [hk] at e; exact RepF.look r e
theorem RepF.lookN {f : Str} : ∀ {ds : List (Str × D)} {vs : List (Str × V)}, RepF K T F ds vs → ds.lookup f = none → vs.lookup f = none
  | _, _, .nil, h => rfl
  | _, _, .cons (k := k) h r, e => by
    rw [List.lookup_cons] at e ⊢
    cases hk : f == k with
    | true => rw [hk] at e; cases e
    | false => rw [hk] at e; exact RepF.lookN r e
theorem Reps.length : ∀ {ds : List D} {vs : List V}, Reps K T F ds vs → ds.length = vs.length
  | _, _, .nil => rfl
  | _, _, .cons _ r => congrArg (· + 1) (Reps.length r)
theorem RepK.length : ∀ {ds : List (Key × D)} {vs : List (Key × V)}, RepK K T F ds vs → ds.length = vs.length
  | _, _, .nil => rfl
  | _, _, .cons _ r => congrArg (· + 1) (RepK.length r)
theorem Reps.get : ∀ {ds : List D} {vs : List V} {i : Nat} {v : V}, Reps K T F ds vs → vs[i]? = some v → ∃ d, ds[i]? = some d ∧ Rep K T F d v
  | _, _, _, _, .nil, e => by simp at e
  | _, _, 0, _, .cons h _, e => by simp at e; subst e; exact ⟨_, rfl, h⟩
  | _, _, i + 1, v, .cons _ r, e => by
    obtain ⟨d, h1, h2⟩ := Reps.get (i := i) (v := v) r (by simpa using e)
    exact ⟨d, by simpa using h1, h2⟩
theorem Reps.getD : ∀ {ds : List D} {vs : List V} {i : Nat} {d : D}, Reps K T F ds vs → ds[i]? = some d → ∃ v, vs[i]? = some v ∧ Rep K T F d v
  | _, _, _, _, .nil, e => by simp at e
  | _, _, 0, _, .cons h _, e => by simp at e; subst e; exact ⟨_, rfl, h⟩
  | _, _, i + 1, v, .cons _ r, e => by
    obtain ⟨d, h1, h2⟩ := Reps.getD (i := i) (d := v) r (by simpa using e)
    exact ⟨d, by simpa using h1, h2⟩
theorem Reps.append : ∀ {ds es : List D} {vs ws : List V}, Reps K T F ds vs → Reps K T F es ws → Reps K T F (ds ++ es) (vs ++ ws)
  | _, _, _, _, .nil, s => s
  | _, _, _, _, .cons h r, s => .cons h (Reps.append r s)
theorem Reps.take : ∀ {ds : List D} {vs : List V} (n : Nat), Reps K T F ds vs → Reps K T F (ds.take n) (vs.take n)
  | _, _, 0, _ => .nil
  | _, _, _ + 1, .nil => .nil
  | _, _, n + 1, .cons h r => .cons h (Reps.take n r)
theorem Reps.drop : ∀ {ds : List D} {vs : List V} (n : Nat), Reps K T F ds vs → Reps K T F (ds.drop n) (vs.drop n)
  | _, _, 0, r => r
  | _, _, _ + 1, .nil => .nil
  | _, _, n + 1, .cons _ r => Reps.drop n r
theorem Reps.set {d : D} {v : V} (h : Rep K T F d v) : ∀ {ds : List D} {vs : List V} (i : Nat), Reps K T F ds vs → Reps K T F (ds.set i d) (vs.set i v)
  | _, _, _, .nil => .nil
  | _, _, 0, .cons _ r => .cons h r
  | _, _, i + 1, .cons q r => .cons q (Reps.set h i r)
theorem Reps.reverse : ∀ {ds : List D} {vs : List V}, Reps K T F ds vs → Reps K T F ds.reverse vs.reverse
  | _, _, .nil => .nil
  | _, _, .cons h r => by
    rw [List.reverse_cons, List.reverse_cons]
    exact (Reps.reverse r).append (.cons h .nil)
theorem Reps.one {d : D} {vs : List V} (h : Reps K T F [d] vs) : ∃ v, vs = [v] ∧ Rep K T F d v := by
  cases h with | cons a r => cases r; exact ⟨_, rfl, a⟩
theorem reps_ints : ∀ {ns : List Int} {vs : List V}, Reps K T F (ns.map D.int) vs → vs = ns.map V.int
  | [], _, .nil => rfl
  | n :: ns, _, .cons h r => by cases h; rw [List.map_cons, reps_ints r]
theorem reps_of_ints : ∀ {ns : List Int}, Reps K T F (ns.map D.int) (ns.map V.int)
  | [] => .nil
  | n :: ns => .cons (.int n) reps_of_ints
theorem reps_strs : ∀ {ns : List Str} {vs : List V}, Reps K T F (ns.map D.str) vs → vs = ns.map V.str
  | [], _, .nil => rfl
  | n :: ns, _, .cons h r => by cases h; rw [List.map_cons, reps_strs r]
end

/-- the state: what may change, and the draws' dict (its address, how many draws it is good for) -/
structure S where
  mu : Addr → Option MO
  g : Option (Addr × Nat)
def S.put (s : S) (p : Addr) (o : MO) : S := { s with mu := fun b => if b = p then some o else s.mu b }
def S.del (s : S) (p : Addr) : S := { s with mu := fun b => if b = p then none else s.mu b }
/-- s has no more than t -/
structure Sub (s t : S) : Prop where
  mu : ∀ p o, s.mu p = some o → t.mu p = some o
  g : ∀ p n, s.g = some (p, n) → ∃ m, n ≤ m ∧ t.g = some (p, m)
theorem Sub.refl (s : S) : Sub s s := ⟨fun _ _ h => h, fun p n h => ⟨n, Nat.le_refl _, h⟩⟩
theorem Sub.trans {s t u : S} (a : Sub s t) (b : Sub t u) : Sub s u := ⟨fun p o h => b.mu p o (a.mu p o h), fun p n h => by
  obtain ⟨m, hm, e⟩ := a.g p n h
  obtain ⟨k, hk, e'⟩ := b.g p m e
  exact ⟨k, Nat.le_trans hm hk, e'⟩⟩
theorem Sub.put {s t : S} {p : Addr} {o : MO} (h : s.mu p = none) (a : Sub s t) : Sub s (t.put p o) := ⟨fun q u e => by
  show (if q = p then some o else t.mu q) = some u
  rw [if_neg (fun z => by rw [z, h] at e; cases e)]
  exact a.mu q u e, a.g⟩

def MRep (K : PySem.W.Frag) (T : Tb) (F : Hp) : MO → Option HO → Prop
  | .ml ds, o => ∃ vs, o = some (.lst vs) ∧ Reps K T F ds vs
  | .mk kvs, o => ∃ ws, o = some (.dK ws) ∧ RepK K T F kvs ws
  | .mo n fs, o => ∃ dx vs, o = some (.ins (T.cls n) dx vs) ∧ RepF K T F fs vs
theorem MRep.mono {K : PySem.W.Frag} {T : Tb} {F F' : Hp} (e : Same F F') : ∀ {o : MO} {h : Option HO}, MRep K T F o h → MRep K T F' o h
  | .ml _, _, ⟨vs, h, r⟩ => ⟨vs, h, r.mono e⟩
  | .mk _, _, ⟨vs, h, r⟩ => ⟨vs, h, r.mono e⟩
  | .mo _ _, _, ⟨dx, vs, h, r⟩ => ⟨dx, vs, h, r.mono e⟩
/-- the draws' dict stands at p, good for n more draws -/
def GRep (K : PySem.W.Frag) (F : Hp) (mu : Addr → Option MO) (H : Hp) (p : Addr) (n : Nat) : Prop :=
  ∃ (l c : Addr) (t : Int) (cs ls : List Int), F p = none ∧ F l = none ∧ mu p = none ∧ mu l = none ∧ H p = some (.dK [(Sum.inr "cells", .ref c), (Sum.inr "left", .ref l), (Sum.inr "at", .int t)]) ∧
    F c = some (.lst (cs.map V.int)) ∧ H l = some (.lst (ls.map V.int)) ∧ 0 ≤ t ∧ t + n ≤ 2 ^ 60
structure Hold (K : PySem.W.Frag) (T : Tb) (F : Hp) (s : S) (H : Hp) : Prop where
  sub : Same F H
  mu : ∀ p o, s.mu p = some o → F p = none ∧ MRep K T F o (H p)
  gen : ∀ p n, s.g = some (p, n) → GRep K F s.mu H p n
  tab : LamX.Tabs T.tabs H
  tabF : ∀ b ps, F b ≠ some (.tbl ps)

section
variable {K : PySem.W.Frag} {T : Tb} {F F' H H' : Hp} {s t : S}
theorem same_upd {H : Hp} {p : Addr} {o : HO} (h : H p = none) : Same H (upd H p o) := fun b x e => by
  rw [upd_ne (ne_of_none e h)]
  exact e
theorem Hold.fresh (h : Hold K T F s H) {p : Addr} (n : H p = none) : F p = none := h.sub.free n
theorem Hold.freshM (h : Hold K T F s H) {p : Addr} (n : H p = none) : s.mu p = none := by
  cases e : s.mu p with
  | none => rfl
  | some o =>
    obtain ⟨_, r⟩ := h.mu p o e
    cases o with
    | ml ds => obtain ⟨vs, q, _⟩ := r; rw [n] at q; cases q
    | mk ds => obtain ⟨vs, q, _⟩ := r; rw [n] at q; cases q
    | mo c fs => obtain ⟨dx, vs, q, _⟩ := r; rw [n] at q; cases q
theorem GRep.mono {mu mu' : Addr → Option MO} {p : Addr} {n m : Nat} (g : GRep K F mu H p n) (hm : m ≤ n) (hF : ∀ q, F q = none → mu q = none → H q ≠ none → F' q = none) (eF : Same F F') (hmu : ∀ q, mu q = none → H q ≠ none → mu' q = none) (eH : ∀ q o, H q = some o → F q = none → mu q = none → H' q = some o) : GRep K F' mu' H' p m := by
  obtain ⟨l, c, t, cs, ls, h1, h2, h3, h4, h5, h6, h7, h8, h9⟩ := g
  have n1 : H p ≠ none := by rw [h5]; exact fun z => by cases z
  have n2 : H l ≠ none := by rw [h7]; exact fun z => by cases z
  exact ⟨l, c, t, cs, ls, hF p h1 h3 n1, hF l h2 h4 n2, hmu p h3 n1, hmu l h4 n2, eH p _ h5 h1 h3, eF _ _ h6, eH l _ h7 h2 h4, h8, by omega⟩
/-- less is held -/
theorem Hold.weak (h : Hold K T F t H) (e : Sub s t) : Hold K T F s H where
  sub := h.sub
  mu := fun p o q => h.mu p o (e.mu p o q)
  gen := fun p n q => by
    obtain ⟨m, hm, q'⟩ := e.g p n q
    refine (h.gen p m q').mono hm (fun _ z _ _ => z) (Same.refl _) (fun q' z _ => ?_) fun q o z _ _ => z
    cases w : s.mu q' with
    | none => rfl
    | some o => rw [e.mu _ _ w] at z; cases z
  tab := h.tab
  tabF := h.tabF
theorem tabs_upd {T : List (Addr × Str)} {p : Addr} {o : HO} (h : LamX.Tabs T H) (hp : ∀ ps, H p ≠ some (.tbl ps)) (hc : ∀ c q, H p ≠ some (LamX.CodeO c q)) : LamX.Tabs T (upd H p o) := fun x hx => by
  obtain ⟨ps, h1, h2, h3⟩ := h x hx
  have ne : x.1 ≠ p := fun z => hp ps (by rw [← z]; exact h1)
  refine ⟨ps, by rw [upd_ne ne]; exact h1, h2, fun pos cv q => ?_⟩
  obtain ⟨c, e1, e2⟩ := h3 pos cv q
  refine ⟨c, e1, ?_⟩
  have ne2 : c ≠ p := fun z => hc c x.2 (by rw [← z]; exact e2)
  rw [upd_ne ne2]; exact e2
/-- a new object that will not change -/
theorem Hold.frz (h : Hold K T F s H) {p : Addr} {o : HO} (n : H p = none) (nt : ∀ ps, o ≠ .tbl ps := by intro _ z; cases z) : Hold K T (upd F p o) s (upd H p o) where
  sub := fun b x e => by
    by_cases z : b = p
    · subst z; rw [upd_same] at e ⊢; exact e
    · rw [upd_ne z] at e ⊢; exact h.sub b x e
  mu := fun q u e => by
    have ne : q ≠ p := fun z => by rw [z, h.freshM n] at e; cases e
    obtain ⟨a, b⟩ := h.mu q u e
    rw [upd_ne ne, upd_ne ne]
    exact ⟨a, b.mono (same_upd (h.fresh n))⟩
  gen := fun q m e => (h.gen q m e).mono (Nat.le_refl _) (fun b z _ w => by rw [upd_ne (fun y => w (by rw [y]; exact n))]; exact z) (same_upd (h.fresh n)) (fun _ z _ => z) fun b x z _ _ => same_upd n b x z
  tab := h.tab.ext (same_upd n)
  tabF := fun q ps e => by
    by_cases z : q = p
    · subst z; rw [upd_same] at e; exact nt ps (Option.some.inj e)
    · rw [upd_ne z] at e; exact h.tabF q ps e
/-- a new object that may change -/
theorem Hold.new (h : Hold K T F s H) {p : Addr} {o : HO} {m : MO} (n : H p = none) (r : MRep K T F m (some o)) : Hold K T F (s.put p m) (upd H p o) where
  sub := h.sub.trans (same_upd n)
  mu := fun q u e => by
    by_cases z : q = p
    · subst z
      have e' : some m = some u := by
        have e2 : (if q = q then some m else s.mu q) = some u := e
        rwa [if_pos rfl] at e2
      cases e'
      rw [upd_same]
      exact ⟨h.fresh n, r⟩
    · have e2 : (if q = p then some m else s.mu q) = some u := e
      rw [if_neg z] at e2
      rw [upd_ne z]
      exact h.mu q u e2
  gen := fun q k e => (h.gen q k e).mono (Nat.le_refl _) (fun _ z _ _ => z) (Same.refl _) (fun b z w => by
    show (if b = p then some m else s.mu b) = none
    rw [if_neg (fun y => w (by rw [y]; exact n))]; exact z) fun b x z _ _ => same_upd n b x z
  tab := h.tab.ext (same_upd n)
  tabF := h.tabF
/-- an object changed -/
theorem Hold.wr (h : Hold K T F s H) {p : Addr} {o : HO} {m m0 : MO} (n : s.mu p = some m0) (r : MRep K T F m (some o)) : Hold K T F (s.put p m) (upd H p o) := by
  obtain ⟨np, rp⟩ := h.mu p m0 n
  have hk : (∃ xs, H p = some (.lst xs)) ∨ (∃ kvs, H p = some (.dK kvs)) ∨ ∃ C dx fs, H p = some (.ins C dx fs) := by
    cases m0 with
    | ml ds => obtain ⟨vs, q, _⟩ := rp; exact .inl ⟨_, q⟩
    | mk ds => obtain ⟨vs, q, _⟩ := rp; exact .inr (.inl ⟨_, q⟩)
    | mo c fs => obtain ⟨dx, vs, q, _⟩ := rp; exact .inr (.inr ⟨_, _, _, q⟩)
  refine ⟨fun b x e => ?_, fun q u e => ?_, fun q k e => (h.gen q k e).mono (Nat.le_refl _) (fun _ z _ _ => z) (Same.refl _) (fun b z w => ?_) fun b x z z1 z2 => ?_, tabs_upd h.tab (fun ps z => ?_) (fun c q z => ?_), h.tabF⟩
  · rw [upd_ne (fun z => by rw [z, np] at e; cases e)]
    exact h.sub b x e
  · by_cases z : q = p
    · subst z
      have e' : some m = some u := by
        have e2 : (if q = q then some m else s.mu q) = some u := e
        rwa [if_pos rfl] at e2
      cases e'
      rw [upd_same]
      exact ⟨np, r⟩
    · have e2 : (if q = p then some m else s.mu q) = some u := e
      rw [if_neg z] at e2
      rw [upd_ne z]
      exact h.mu q u e2
  · show (if b = p then some m else s.mu b) = none
    rw [if_neg (fun y => by rw [y, n] at z; cases z)]; exact z
  · rw [upd_ne (fun y => by rw [y, n] at z2; cases z2)]; exact z
  · rcases hk with ⟨_, q⟩ | ⟨_, q⟩ | ⟨_, _, _, q⟩ <;> rw [q] at z <;> cases z
  · rcases hk with ⟨_, q'⟩ | ⟨_, q'⟩ | ⟨_, _, _, q'⟩ <;> rw [q'] at z <;> cases z
/-- a list that will not change any more -/
theorem Hold.freeze (h : Hold K T F s H) {p : Addr} {ds : List D} (n : s.mu p = some (.ml ds)) : ∃ vs, Hold K T (upd F p (.lst vs)) (s.del p) H ∧ Rep K T (upd F p (.lst vs)) (.lst ds) (.ref p) := by
  obtain ⟨np, vs, hp, r⟩ := h.mu p _ n
  have sm : Same F (upd F p (.lst vs)) := same_upd np
  refine ⟨vs, ⟨fun b x e => ?_, fun q u e => ?_, fun q k e => (h.gen q k e).mono (Nat.le_refl _) (fun b z y w => ?_) sm (fun b z w => ?_) fun b x z _ _ => z, h.tab, fun q ps e => ?_⟩, .lst upd_same (r.mono sm)⟩
  · by_cases z : b = p
    · subst z; rw [upd_same] at e; rw [hp]; exact e
    · rw [upd_ne z] at e; exact h.sub b x e
  · have e2 : (if q = p then none else s.mu q) = some u := e
    by_cases z : q = p
    · rw [if_pos z] at e2; cases e2
    · rw [if_neg z] at e2
      rw [upd_ne z]
      obtain ⟨a, b⟩ := h.mu q u e2
      exact ⟨a, b.mono sm⟩
  · rw [upd_ne (fun x => by rw [x, n] at y; cases y)]; exact z
  · show (if b = p then none else s.mu b) = none
    split
    · rfl
    · exact z
  · by_cases z : q = p
    · subst z; rw [upd_same] at e; cases e
    · rw [upd_ne z] at e; exact h.tabF q ps e
end
/-! ### what is ours, and what stays because it is not -/
def own (F : Hp) (s : S) (H : Hp) (p : Addr) : Prop := F p ≠ none ∨ s.mu p ≠ none ∨ ∃ q n, s.g = some (q, n) ∧ (p = q ∨ ∃ (kvs : List (Key × V)) (l : Addr), H q = some (.dK kvs) ∧ kvs.lookup (Sum.inr ("left" : Str)) = some (V.ref l) ∧ p = l)
/-- what stays: all but tables and exceptions' dicts -/
def Kp : HO → Prop
  | .tbl _ => False
  | .xd _ => False
  | _ => True
structure Ext (F : Hp) (s : S) (H : Hp) (F' : Hp) (s' : S) (H' : Hp) : Prop where
  same : Same F F'
  rest : ∀ p o, H p = some o → ¬ own F s H p → Kp o → H' p = some o ∧ ¬ own F' s' H' p
section
variable {K : PySem.W.Frag} {T : Tb} {F F' F1 H H' H1 : Hp} {s t s1 s' : S}
theorem Ext.refl : Ext F s H F s H := ⟨Same.refl F, fun _ _ h n _ => ⟨h, n⟩⟩
theorem Ext.trans (a : Ext F s H F1 s1 H1) (b : Ext F1 s1 H1 F' s' H') : Ext F s H F' s' H' := ⟨a.same.trans b.same, fun p o h n z => by
  obtain ⟨h1, n1⟩ := a.rest p o h n z
  exact b.rest p o h1 n1 z⟩
theorem own_sub (e : Sub s t) {p : Addr} (h : own F s H p) : own F t H p := by
  rcases h with h | h | ⟨q, n, h1, h2⟩
  · exact .inl h
  · refine .inr (.inl fun z => ?_)
    cases w : s.mu p with
    | none => exact h w
    | some o => rw [e.mu _ _ w] at z; cases z
  · obtain ⟨m, _, h3⟩ := e.g q n h1
    exact .inr (.inr ⟨q, m, h3, h2⟩)
theorem Ext.weak (a : Ext F s H F1 t H1) (e : Sub s1 t) : Ext F s H F1 s1 H1 := ⟨a.same, fun p o h n z => by
  obtain ⟨h1, n1⟩ := a.rest p o h n z
  exact ⟨h1, fun w => n1 (own_sub e w)⟩⟩
theorem Ext.weakL (a : Ext F s H F1 s1 H1) (e : Sub s t) : Ext F t H F1 s1 H1 := ⟨a.same, fun p o h n z => a.rest p o h (fun w => n (own_sub e w)) z⟩
theorem Ext.frz (h : Hold K T F s H) {p : Addr} {o : HO} (n : H p = none) : Ext F s H (upd F p o) s (upd H p o) := ⟨same_upd (h.fresh n), fun q u e w z => by
  have ne : q ≠ p := fun y => by rw [y, n] at e; cases e
  refine ⟨by rw [upd_ne ne]; exact e, fun y => w ?_⟩
  rcases y with y | y | ⟨a, m, h1, h2⟩
  · rw [upd_ne ne] at y; exact .inl y
  · exact .inr (.inl y)
  · refine .inr (.inr ⟨a, m, h1, ?_⟩)
    rcases h2 with h2 | ⟨kvs, l, h3, h4, h5⟩
    · exact .inl h2
    · by_cases na : a = p
      · obtain ⟨_, _, _, _, _, _, _, _, _, g5, _⟩ := h.gen a m h1
        rw [na, n] at g5; cases g5
      · rw [upd_ne na] at h3
        exact .inr ⟨kvs, l, h3, h4, h5⟩⟩
theorem Ext.new (h : Hold K T F s H) {p : Addr} {o : HO} {m : MO} (n : H p = none) : Ext F s H F (s.put p m) (upd H p o) := ⟨Same.refl F, fun q u e w z => by
  have ne : q ≠ p := fun y => by rw [y, n] at e; cases e
  refine ⟨by rw [upd_ne ne]; exact e, fun y => w ?_⟩
  rcases y with y | y | ⟨a, k, h1, h2⟩
  · exact .inl y
  · have y' : (if q = p then some m else s.mu q) ≠ none := y
    rw [if_neg ne] at y'
    exact .inr (.inl y')
  · refine .inr (.inr ⟨a, k, h1, ?_⟩)
    rcases h2 with h2 | ⟨kvs, l, h3, h4, h5⟩
    · exact .inl h2
    · by_cases na : a = p
      · obtain ⟨_, _, _, _, _, _, _, _, _, g5, _⟩ := h.gen a k h1
        rw [na, n] at g5; cases g5
      · rw [upd_ne na] at h3
        exact .inr ⟨kvs, l, h3, h4, h5⟩⟩
theorem Ext.wr (h : Hold K T F s H) {p : Addr} {o : HO} {m m0 : MO} (n : s.mu p = some m0) : Ext F s H F (s.put p m) (upd H p o) := ⟨Same.refl F, fun q u e w z => by
  have ne : q ≠ p := fun y => w (.inr (.inl (by rw [y, n]; exact fun x => by cases x)))
  refine ⟨by rw [upd_ne ne]; exact e, fun y => w ?_⟩
  rcases y with y | y | ⟨a, k, h1, h2⟩
  · exact .inl y
  · have y' : (if q = p then some m else s.mu q) ≠ none := y
    rw [if_neg ne] at y'
    exact .inr (.inl y')
  · refine .inr (.inr ⟨a, k, h1, ?_⟩)
    rcases h2 with h2 | ⟨kvs, l, h3, h4, h5⟩
    · exact .inl h2
    · by_cases na : a = p
      · obtain ⟨_, _, _, _, _, _, _, g3, _, _, _⟩ := h.gen a k h1
        rw [na, n] at g3; cases g3
      · rw [upd_ne na] at h3
        exact .inr ⟨kvs, l, h3, h4, h5⟩⟩
theorem Ext.freeze {p : Addr} {m0 : MO} {o : HO} (np : F p = none) (n : s.mu p = some m0) : Ext F s H (upd F p o) (s.del p) H := ⟨same_upd np, fun q u e w z => by
  have ne : q ≠ p := fun y => w (.inr (.inl (by rw [y, n]; exact fun x => by cases x)))
  refine ⟨e, fun y => w ?_⟩
  rcases y with y | y | y
  · rw [upd_ne ne] at y; exact .inl y
  · have y' : (if q = p then none else s.mu q) ≠ none := y
    rw [if_neg ne] at y'
    exact .inr (.inl y')
  · exact .inr (.inr y)⟩
end
end Bk

/-! Bk: what an expression, a test, an argument list, a statement does with deep data. -/
namespace Bk
open PySem PySem.Spec PyProof.Rows L2

/-- an exception: its class's name and its fields -/
structure Ex where
  c : Str
  fs : List (Str × D)
def ExRep (K : PySem.W.Frag) (T : Tb) (F : Hp) (x : Ex) (cls : Value) (d : Option Addr) (H : Hp) : Prop := cls = .ref (T.cls x.c) ∧ ∃ dx vs, d = some dx ∧ H dx = some (.xd vs) ∧ RepF K T F x.fs vs

abbrev DEnv := List (Option D)
def nth : DEnv → Nat → Option D
  | [], _ => none
  | x :: _, 0 => x
  | _ :: r, n + 1 => nth r n
def dset : DEnv → Nat → Option D → DEnv
  | [], _, _ => []
  | _ :: r, 0, d => d :: r
  | x :: r, n + 1, d => x :: dset r n d
abbrev Q1 := D → S → Prop
abbrev XQ := Ex → S → Prop
abbrev Exp := DEnv → S → Q1 → XQ → Prop
abbrev Tst := DEnv → S → (Bool → S → Prop) → XQ → Prop
abbrev Arg := DEnv → S → (List D → S → Prop) → XQ → Prop
/-- the slots stand for the names' data -/
inductive ERep (K : PySem.W.Frag) (T : Tb) (F : Hp) : DEnv → L2.St → Prop
  | nil : ERep K T F [] []
  | none {x : Option V} {e : DEnv} {σ : L2.St} : ERep K T F e σ → ERep K T F (.none :: e) (x :: σ)
  | some {d : D} {v : V} {e : DEnv} {σ : L2.St} : Rep K T F d v → ERep K T F e σ → ERep K T F (.some d :: e) (.some v :: σ)
section
variable {K : PySem.W.Frag} {T : Tb} {F F' : Hp} {e : DEnv} {σ : L2.St}
theorem ERep.mono (h : Same F F') : ∀ {e : DEnv} {σ : L2.St}, ERep K T F e σ → ERep K T F' e σ
  | _, _, .nil => .nil
  | _, _, .none r => .none (ERep.mono h r)
  | _, _, .some d r => .some (d.mono h) (ERep.mono h r)
theorem ERep.at : ∀ {e : DEnv} {σ : L2.St} {i : Nat} {d : D}, ERep K T F e σ → nth e i = .some d → ∃ v, σ[i]? = .some (.some v) ∧ Rep K T F d v
  | _, _, _, _, .nil, h => by cases h
  | _, _, 0, _, .none _, h => by cases h
  | _, _, 0, _, .some r _, h => by cases h; exact ⟨_, rfl, r⟩
  | _, _, i + 1, d, .none r, h => by
    obtain ⟨v, e1, e2⟩ := ERep.at (i := i) (d := d) r h
    exact ⟨v, by simpa using e1, e2⟩
  | _, _, i + 1, d, .some _ r, h => by
    obtain ⟨v, e1, e2⟩ := ERep.at (i := i) (d := d) r h
    exact ⟨v, by simpa using e1, e2⟩
theorem ERep.set {d : D} {v : V} (rd : Rep K T F d v) : ∀ {e : DEnv} {σ : L2.St} (i : Nat), ERep K T F e σ → ERep K T F (dset e i (.some d)) (σ.set i (.some v))
  | _, _, _, .nil => .nil
  | _, _, 0, .none r => .some rd r
  | _, _, 0, .some _ r => .some rd r
  | _, _, i + 1, .none r => .none (ERep.set rd i r)
  | _, _, i + 1, .some q r => .some q (ERep.set rd i r)
theorem ERep.del {x : Option V} : ∀ {e : DEnv} {σ : L2.St} (i : Nat), ERep K T F e σ → ERep K T F (dset e i .none) (σ.set i x)
  | _, _, _, .nil => .nil
  | _, _, 0, .none r => .none r
  | _, _, 0, .some _ r => .none r
  | _, _, i + 1, .none r => .none (ERep.del i r)
  | _, _, i + 1, .some q r => .some q (ERep.del i r)
def dwipe (e : DEnv) : List Nat → DEnv
  | [] => e
  | v :: vs => dset (dwipe e vs) v none
theorem ERep.wipe (h : ERep K T F e σ) : ∀ vs : List Nat, ERep K T F (dwipe e vs) (L2.wipe σ vs)
  | [] => h
  | v :: vs => (ERep.wipe h vs).del v

/-- what the wish of D.ex says of the slots' wish W -/
def XOk (K : PySem.W.Frag) (T : Tb) (W : WX) (F : Hp) (s : S) (H : Hp) (E : XQ) (σ : L2.St) : Prop :=
  ∀ x s' cls dx H' F', E x s' → Ext F s H F' s' H' → Hold K T F' s' H' → ExRep K T F' x cls dx H' → W cls dx σ H'
theorem XOk.mono {W : WX} {E : XQ} {s s1 : S} {H H1 : Hp} (h : Ext F s H F' s1 H1) (x : XOk K T W F s H E σ) : XOk K T W F' s1 H1 E σ := fun a s' cls dx H' F2 q e => x a s' cls dx H' F2 q (h.trans e)
theorem xok_none {W : WX} {s : S} {H : Hp} : XOk K T W F s H (fun _ _ => False) σ := fun _ _ _ _ _ _ q => q.elim
/-- behind an expression -/
def Post (K : PySem.W.Frag) (T : Tb) (F : Hp) (s : S) (H : Hp) (R : Q1) (Q : VK) : Prop := ∀ d s' v H' F', R d s' → Ext F s H F' s' H' → Hold K T F' s' H' → Rep K T F' d v → Q v H'
theorem Post.mono {R : Q1} {Q : VK} {s s1 : S} {H H1 : Hp} (h : Ext F s H F' s1 H1) (x : Post K T F s H R Q) : Post K T F' s1 H1 R Q := fun d s' v H' F2 q e => x d s' v H' F2 q (h.trans e)
def liftE (K : PySem.W.Frag) (T : Tb) (W : WX) (f : Exp) : TE := fun σ H Q => ∃ (F : Hp) (e : DEnv) (s : S) (R : Q1) (E : XQ), ERep K T F e σ ∧ Hold K T F s H ∧ XOk K T W F s H E σ ∧ f e s R E ∧ Post K T F s H R Q
def liftT (K : PySem.W.Frag) (T : Tb) (W : WX) (f : Tst) : TT := fun σ H Q => ∃ (F : Hp) (e : DEnv) (s : S) (R : Bool → S → Prop) (E : XQ), ERep K T F e σ ∧ Hold K T F s H ∧ XOk K T W F s H E σ ∧ f e s R E ∧
  ∀ b s' H' F', R b s' → Ext F s H F' s' H' → Hold K T F' s' H' → Q b H'
def liftA (K : PySem.W.Frag) (T : Tb) (W : WX) (f : Arg) : TA := fun σ H Q => ∃ (F : Hp) (e : DEnv) (s : S) (R : List D → S → Prop) (E : XQ), ERep K T F e σ ∧ Hold K T F s H ∧ XOk K T W F s H E σ ∧ f e s R E ∧
  ∀ ds s' vs H' F', R ds s' → Ext F s H F' s' H' → Hold K T F' s' H' → Reps K T F' ds vs → Q vs H'
end

section
variable {X : Cx} {T : Tb} {W : WX}
structure DX (X : Cx) (T : Tb) (W : WX) (e : Expr) (f : Exp) : Prop where
  pe : PE X e (liftE X.K T W f)
structure DT (X : Cx) (T : Tb) (W : WX) (e : Expr) (f : Tst) : Prop where
  pt : PT X e (liftT X.K T W f)
structure DA (X : Cx) (T : Tb) (W : WX) (es : List Expr) (f : Arg) : Prop where
  pa : PA X es (liftA X.K T W f)
theorem pe_imp {e : Expr} {t t' : TE} (h : PE X e t) (k : ∀ σ H Q, t' σ H Q → t σ H Q) : PE X e t' := ⟨fun pins s σ H Q I q => h.run pins s σ H Q I (k σ H Q q)⟩
theorem pt_imp {e : Expr} {t t' : TT} (h : PT X e t) (k : ∀ σ H Q, t' σ H Q → t σ H Q) : PT X e t' := ⟨fun pins s σ H Q I q => h.run pins s σ H Q I (k σ H Q q)⟩
theorem pw_imp {e : Expr} {t t' : TT} (h : PW X e t) (k : ∀ σ H Q, t' σ H Q → t σ H Q) : PW X e t' := ⟨fun wh pins s σ H Q I q => h.run wh pins s σ H Q I (k σ H Q q)⟩
theorem pa_imp {es : List Expr} {t t' : TA} (h : PA X es t) (k : ∀ σ H Q, t' σ H Q → t σ H Q) : PA X es t' := ⟨fun pos pins s σ H Q I q => h.run pos pins s σ H Q I (k σ H Q q)⟩
theorem ps_imp {st : Stmt} {t t' : TS} (h : PS X st t) (k : ∀ D σ H, t' D σ H → t D σ H) : PS X st t' := ⟨fun pins s σ H D I q => h.run pins s σ H D I (k D σ H q)⟩
theorem pss_imp {st : List Stmt} {t t' : TS} (h : PSs X st t) (k : ∀ D σ H, t' D σ H → t D σ H) : PSs X st t' := ⟨fun pins s σ H D I q => h.run pins s σ H D I (k D σ H q)⟩
variable {e a b c : Expr} {f fa fb fc : Exp} {t ta tb : Tst} {pos : Pos}

/-! ### names and constants -/
def dVar (i : Nat) : Exp := fun e s R _ => match nth e i with
  | some d => R d s
  | none => False
def dC (d : D) : Exp := fun _ s R _ => R d s
theorem dx_of_var {i : Nat} (h : PE X e (tVar i)) : DX X T W e (dVar i) := ⟨pe_imp h fun σ H Q ⟨F, e, s, R, E, he, hh, hx, hf, post⟩ => by
  unfold dVar at hf
  split at hf
  · rename_i d hd
    obtain ⟨v, h1, h2⟩ := he.at hd
    exact ⟨v, h1, post d s v H F hf Ext.refl hh h2⟩
  · exact hf.elim⟩
theorem dv (i : Nat) {x : Str} (hN : X.N[i]? = some x := by rfl) (hv : Vis X.env.scope x := by first | exact Or.inl rfl | exact Or.inr (Or.inl rfl) | exact Or.inr (Or.inr rfl)) (hd : (x == ("__debug__" : Str)) = false := by decide)
    (hcd : (x == ("__classdict__" : Str)) = false := by decide) : DX X T W (.Name x pos) (dVar i) := dx_of_var (pe_var hN hv hd hcd)
theorem dx_of_c {v : V} {d : D} (h : PE X e (tC v)) (r : ∀ F, Rep X.K T F d v) : DX X T W e (dC d) := ⟨pe_imp h fun σ H Q ⟨F, e, s, R, E, he, hh, hx, hf, post⟩ =>
  show Q v H from post d s v H F hf Ext.refl hh (r F)⟩
theorem dx_int {i j} : DX X T W (.Constant (.int i) j pos) (dC (.int i)) := dx_of_c pe_int fun _ => .int i
theorem dx_bl {b j} : DX X T W (.Constant (.bool b) j pos) (dC (.bl b)) := dx_of_c pe_bl fun _ => .bl b
theorem dx_non {j} : DX X T W (.Constant .none j pos) (dC .non) := dx_of_c pe_non fun _ => .non
theorem dx_str {x j} : DX X T W (.Constant (.str x) j pos) (dC (.str x)) := dx_of_c pe_str fun _ => .str x
theorem dx_glob {x : Str} {d : D} {v : V} {u : Value} (hg : Gl X x) (hm : X.mg x = some u) (r : RelV v u) (q : ∀ F, Rep X.K T F d v) (hd : (x == ("__debug__" : Str)) = false := by decide) : DX X T W (.Name x pos) (dC d) := dx_of_c (pe_glob hg hm r hd) q

/-! ### operators -/
abbrev G1 := D → S → Q1 → Prop
abbrev G2 := D → D → S → Q1 → Prop
def OpD (X : Cx) (T : Tb) (f : Value → Value → Sem Value) (g : G2) : Prop :=
  ∃ r : R2, OpR X f r ∧ ∀ F s H x y vx vy R Q, Hold X.K T F s H → Rep X.K T F x vx → Rep X.K T F y vy → g x y s R → Post X.K T F s H R Q → r vx vy H Q
def UnD (X : Cx) (T : Tb) (f : Value → Sem Value) (g : G1) : Prop :=
  ∃ r : V → Hp → VK → Prop, UnR X f r ∧ ∀ F s H x vx R Q, Hold X.K T F s H → Rep X.K T F x vx → g x s R → Post X.K T F s H R Q → r vx H Q
def dOp (g : G2) (a b : Exp) : Exp := fun e s R E => a e s (fun x s1 => b e s1 (fun y s2 => g x y s2 R) E) E
def dUn (g : G1) (a : Exp) : Exp := fun e s R E => a e s (fun x s1 => g x s1 R) E
theorem lift2 {g : G2} {r : R2} (hr : ∀ F s H x y vx vy R Q, Hold X.K T F s H → Rep X.K T F x vx → Rep X.K T F y vy → g x y s R → Post X.K T F s H R Q → r vx vy H Q) {σ : L2.St} {H : Hp} {Q : VK} (h : liftE X.K T W (dOp g fa fb) σ H Q) :
    tOp r (liftE X.K T W fa) (liftE X.K T W fb) σ H Q := by
  obtain ⟨F, e, s, R, E, he, hh, hx, hf, post⟩ := h
  exact ⟨F, e, s, _, E, he, hh, hx, hf, fun x s1 vx H1 F1 q1 e1 hh1 rx => ⟨F1, e, s1, _, E, he.mono e1.same, hh1, hx.mono e1, q1, fun y s2 vy H2 F2 q2 e2 hh2 ry =>
    hr F2 s2 H2 x y vx vy R Q hh2 (rx.mono e2.same) ry q2 (post.mono (e1.trans e2))⟩⟩
theorem dx_bin {op : Operator} {g : G2} (ho : OpD X T (binaryOp op) g) (ha : DX X T W a fa) (hb : DX X T W b fb) : DX X T W (.BinOp a op b pos) (dOp g fa fb) := by
  obtain ⟨r, h1, h2⟩ := ho
  exact ⟨pe_imp (pe_op h1 ha.pe hb.pe) fun σ H Q h => lift2 h2 h⟩
theorem dx_cmp {op : CmpOp} {g : G2} (ho : OpD X T (compareOp op) g) (ha : DX X T W a fa) (hb : DX X T W b fb) (hm : behindInMarks op b = false := by first | exact nomark _ | rfl) : DX X T W (.Compare a [op] [b] pos) (dOp g fa fb) := by
  obtain ⟨r, h1, h2⟩ := ho
  exact ⟨pe_imp (pe_cmpR h1 ha.pe hb.pe hm) fun σ H Q h => lift2 h2 h⟩
theorem dx_un {op : UnaryOp} {g : G1} (ho : UnD X T (unaryOp op) g) (ha : DX X T W a fa) : DX X T W (.UnaryOp op a pos) (dUn g fa) := by
  obtain ⟨r, h1, h2⟩ := ho
  refine ⟨pe_imp (pe_un h1 ha.pe) fun σ H Q h => ?_⟩
  obtain ⟨F, e, s, R, E, he, hh, hx, hf, post⟩ := h
  exact ⟨F, e, s, _, E, he, hh, hx, hf, fun x s1 vx H1 F1 q1 e1 hh1 rx => h2 F1 s1 H1 x vx R Q hh1 rx q1 (post.mono e1)⟩

/-! ### tests -/
def dTst (f : Exp) : Tst := fun e s R E => f e s (fun d s' => match d with
  | .bl b => R b s'
  | _ => False) E
theorem dt_val (h : DX X T W e f) (he : ∀ whole, isTrue e X.env whole = (do let v ← whole; standAt e.pos; holding [v] (truthy v)) := by intro _; rfl) : DT X T W e (dTst f) := ⟨pt_imp (pt_val h.pe he) fun σ H Q h => by
  obtain ⟨F, e, s, R, E, he, hh, hx, hf, post⟩ := h
  refine ⟨F, e, s, _, E, he, hh, hx, hf, fun x s1 vx H1 F1 q1 e1 hh1 rx => ?_⟩
  cases rx with
  | bl b => exact ⟨b, rfl, post b s1 H1 F1 q1 e1 hh1⟩
  | _ => exact q1.elim⟩
theorem dt_cmp {op : CmpOp} {g : G2} (ho : OpD X T (compareOp op) g) (ha : DX X T W a fa) (hb : DX X T W b fb) (hm : behindInMarks op b = false := by first | exact nomark _ | rfl) : DT X T W (.Compare a [op] [b] pos) (dTst (dOp g fa fb)) := by
  obtain ⟨r, h1, h2⟩ := ho
  refine ⟨pt_imp (pt_cmpR h1 ha.pe hb.pe hm) fun σ H Q h => ?_⟩
  obtain ⟨F, e, s, R, E, he, hh, hx, hf, post⟩ := h
  refine lift2 (W := W) (fa := fa) (fb := fb) h2 ⟨F, e, s, _, E, he, hh, hx, hf, fun x s1 vx H1 F1 q1 e1 hh1 rx => ?_⟩
  cases rx with
  | bl b => exact ⟨b, rfl, post b s1 H1 F1 q1 e1 hh1⟩
  | _ => exact q1.elim
def dAnd (t u : Tst) : Tst := fun e s R E => t e s (fun b s1 => if b = true then u e s1 R E else R false s1) E
def dOr (t u : Tst) : Tst := fun e s R E => t e s (fun b s1 => if b = true then R true s1 else u e s1 R E) E
def dNot (t : Tst) : Tst := fun e s R E => t e s (fun b s1 => R (!b) s1) E
structure DW (X : Cx) (T : Tb) (W : WX) (e : Expr) (f : Tst) : Prop where
  pw : PW X e (liftT X.K T W f)
theorem DW.dt (h : DW X T W e t) : DT X T W e t := ⟨h.pw.pt⟩
theorem dw_and1 (h : DT X T W a t) : DW X T W (.BoolOp .And [a] pos) t := ⟨pw_and1 h.pt⟩
theorem dw_or1 (h : DT X T W a t) : DW X T W (.BoolOp .Or [a] pos) t := ⟨pw_or1 h.pt⟩
variable {rest : List Expr}
theorem dw_and (ha : DT X T W a ta) (hb : DW X T W (.BoolOp .And (b :: rest) pos) tb) : DW X T W (.BoolOp .And (a :: b :: rest) pos) (dAnd ta tb) := ⟨pw_imp (pw_and ha.pt hb.pw) fun σ H Q h => by
  obtain ⟨F, e, s, R, E, he, hh, hx, hf, post⟩ := h
  refine ⟨F, e, s, _, E, he, hh, hx, hf, fun x s1 H1 F1 q1 e1 hh1 => ?_⟩
  cases x with
  | true => exact ⟨F1, e, s1, R, E, he.mono e1.same, hh1, hx.mono e1, q1, fun b s' H' F' q e2 => post b s' H' F' q (e1.trans e2)⟩
  | false => exact post false s1 H1 F1 q1 e1 hh1⟩
theorem dw_or (ha : DT X T W a ta) (hb : DW X T W (.BoolOp .Or (b :: rest) pos) tb) : DW X T W (.BoolOp .Or (a :: b :: rest) pos) (dOr ta tb) := ⟨pw_imp (pw_or ha.pt hb.pw) fun σ H Q h => by
  obtain ⟨F, e, s, R, E, he, hh, hx, hf, post⟩ := h
  refine ⟨F, e, s, _, E, he, hh, hx, hf, fun x s1 H1 F1 q1 e1 hh1 => ?_⟩
  cases x with
  | false => exact ⟨F1, e, s1, R, E, he.mono e1.same, hh1, hx.mono e1, q1, fun b s' H' F' q e2 => post b s' H' F' q (e1.trans e2)⟩
  | true => exact post true s1 H1 F1 q1 e1 hh1⟩
theorem dt_not (ha : DT X T W a ta) : DT X T W (.UnaryOp .Not a pos) (dNot ta) := ⟨pt_imp (pt_not ha.pt) fun σ H Q h => by
  obtain ⟨F, e, s, R, E, he, hh, hx, hf, post⟩ := h
  exact ⟨F, e, s, _, E, he, hh, hx, hf, fun x s1 H1 F1 q1 e1 hh1 => post (!x) s1 H1 F1 q1 e1 hh1⟩⟩
/-- .. as values: all but the last bools -/
def dAndV (a b : Exp) : Exp := fun e s R E => a e s (fun d s1 => match d with
  | .bl true => b e s1 R E
  | .bl false => R (.bl false) s1
  | _ => False) E
def dOrV (a b : Exp) : Exp := fun e s R E => a e s (fun d s1 => match d with
  | .bl true => R (.bl true) s1
  | .bl false => b e s1 R E
  | _ => False) E
def dNotV (a : Exp) : Exp := fun e s R E => a e s (fun d s1 => match d with
  | .bl k => R (.bl (!k)) s1
  | _ => False) E
theorem dx_one {op} (h : DX X T W a fa) : DX X T W (.BoolOp op [a] pos) fa := ⟨pe_one h.pe⟩
theorem dx_and (ha : DX X T W a fa) (hb : DX X T W (.BoolOp .And (b :: rest) pos) fb) : DX X T W (.BoolOp .And (a :: b :: rest) pos) (dAndV fa fb) := ⟨pe_imp (pe_and ha.pe hb.pe) fun σ H Q h => by
  obtain ⟨F, e, s, R, E, he, hh, hx, hf, post⟩ := h
  refine ⟨F, e, s, _, E, he, hh, hx, hf, fun x s1 vx H1 F1 q1 e1 hh1 rx => ?_⟩
  cases rx with
  | bl k => cases k with
    | true => exact ⟨true, rfl, F1, e, s1, R, E, he.mono e1.same, hh1, hx.mono e1, q1, post.mono e1⟩
    | false => exact ⟨false, rfl, post (.bl false) s1 (.bl false) H1 F1 q1 e1 hh1 (.bl false)⟩
  | _ => exact q1.elim⟩
theorem dx_or (ha : DX X T W a fa) (hb : DX X T W (.BoolOp .Or (b :: rest) pos) fb) : DX X T W (.BoolOp .Or (a :: b :: rest) pos) (dOrV fa fb) := ⟨pe_imp (pe_or ha.pe hb.pe) fun σ H Q h => by
  obtain ⟨F, e, s, R, E, he, hh, hx, hf, post⟩ := h
  refine ⟨F, e, s, _, E, he, hh, hx, hf, fun x s1 vx H1 F1 q1 e1 hh1 rx => ?_⟩
  cases rx with
  | bl k => cases k with
    | true => exact ⟨true, rfl, post (.bl true) s1 (.bl true) H1 F1 q1 e1 hh1 (.bl true)⟩
    | false => exact ⟨false, rfl, F1, e, s1, R, E, he.mono e1.same, hh1, hx.mono e1, q1, post.mono e1⟩
  | _ => exact q1.elim⟩
theorem dx_not (ha : DX X T W a fa) : DX X T W (.UnaryOp .Not a pos) (dNotV fa) := ⟨pe_imp (pe_not ha.pe) fun σ H Q h => by
  obtain ⟨F, e, s, R, E, he, hh, hx, hf, post⟩ := h
  refine ⟨F, e, s, _, E, he, hh, hx, hf, fun x s1 vx H1 F1 q1 e1 hh1 rx => ?_⟩
  cases rx with
  | bl k => exact ⟨k, rfl, post (.bl (!k)) s1 (.bl (!k)) H1 F1 q1 e1 hh1 (.bl (!k))⟩
  | _ => exact q1.elim⟩
def dIf (t : Tst) (a b : Exp) : Exp := fun e s R E => t e s (fun k s1 => if k = true then a e s1 R E else b e s1 R E) E
theorem dx_if (hc : DT X T W c t) (ha : DX X T W a fa) (hb : DX X T W b fb) : DX X T W (.IfExp c a b pos) (dIf t fa fb) := ⟨pe_imp (pe_ifExp hc.pt ha.pe hb.pe) fun σ H Q h => by
  obtain ⟨F, e, s, R, E, he, hh, hx, hf, post⟩ := h
  refine ⟨F, e, s, _, E, he, hh, hx, hf, fun x s1 H1 F1 q1 e1 hh1 => ?_⟩
  cases x with
  | true => exact ⟨F1, e, s1, R, E, he.mono e1.same, hh1, hx.mono e1, q1, post.mono e1⟩
  | false => exact ⟨F1, e, s1, R, E, he.mono e1.same, hh1, hx.mono e1, q1, post.mono e1⟩⟩

/-! ### argument lists, displays -/
def dNil : Arg := fun _ s R _ => R [] s
def dCons (f : Exp) (r : Arg) : Arg := fun e s R E => f e s (fun d s1 => r e s1 (fun ds s2 => R (d :: ds) s2) E) E
theorem da_nil : DA X T W [] dNil := ⟨pa_imp pa_nil fun σ H Q ⟨F, e, s, R, E, he, hh, hx, hf, post⟩ => post [] s [] H F hf Ext.refl hh .nil⟩
theorem da_cons {es : List Expr} {r : Arg} (ha : DX X T W a fa) (hr : DA X T W es r) (hs : starEach (a :: es) X.env = (false, eval a X.env) :: starEach es X.env := by rfl) : DA X T W (a :: es) (dCons fa r) := ⟨pa_imp (pa_cons ha.pe hr.pa hs) fun σ H Q h => by
  obtain ⟨F, e, s, R, E, he, hh, hx, hf, post⟩ := h
  exact ⟨F, e, s, _, E, he, hh, hx, hf, fun x s1 vx H1 F1 q1 e1 hh1 rx => ⟨F1, e, s1, _, E, he.mono e1.same, hh1, hx.mono e1, q1, fun ds s2 vs H2 F2 q2 e2 hh2 rs =>
    post (x :: ds) s2 (vx :: vs) H2 F2 q2 (e1.trans e2) hh2 (.cons (rx.mono e2.same) rs)⟩⟩⟩
def dTup (r : Arg) : Exp := fun e s R E => r e s (fun ds s1 => ds.length ≤ sizeLine ∧ R (.tup ds) s1) E
/-- a list that will not change -/
def dLst (r : Arg) : Exp := fun e s R E => r e s (fun ds s1 => ds.length ≤ sizeLine ∧ R (.lst ds) s1) E
/-- a list that may change -/
def dLstM (r : Arg) : Exp := fun e s R E => r e s (fun ds s1 => ds.length ≤ sizeLine ∧ ∀ p, s1.mu p = none → R (.rf (.ref p)) (s1.put p (.ml ds))) E
theorem Hold.frzT {K : PySem.W.Frag} {T : Tb} {F H : Hp} {s : S} (h : Hold K T F s H) {p : Addr} {ds : List D} {vs : List V} (n : H p = none) (r : Reps K T F ds vs) : Hold K T (upd F p (.tup vs)) s (upd H p (.tup vs)) ∧ Ext F s H (upd F p (.tup vs)) s (upd H p (.tup vs)) ∧ Rep K T (upd F p (.tup vs)) (.tup ds) (.ref p) := by
  have sm : Same F (upd F p (.tup vs)) := same_upd (h.fresh n)
  exact ⟨h.frz n, Ext.frz h n, .tup (.inl (.inl upd_same)) (r.mono sm)⟩
theorem Hold.frzL {K : PySem.W.Frag} {T : Tb} {F H : Hp} {s : S} (h : Hold K T F s H) {p : Addr} {ds : List D} {vs : List V} (n : H p = none) (r : Reps K T F ds vs) : Hold K T (upd F p (.lst vs)) s (upd H p (.lst vs)) ∧ Ext F s H (upd F p (.lst vs)) s (upd H p (.lst vs)) ∧ Rep K T (upd F p (.lst vs)) (.lst ds) (.ref p) := by
  have sm : Same F (upd F p (.lst vs)) := same_upd (h.fresh n)
  exact ⟨h.frz n, Ext.frz h n, .lst upd_same (r.mono sm)⟩
theorem dx_tup {es : List Expr} {r : Arg} {k} (h : DA X T W es r) : DX X T W (.Tuple es k pos) (dTup r) := ⟨pe_imp (pe_tup h.pa) fun σ H Q h => by
  obtain ⟨F, e, s, R, E, he, hh, hx, hf, post⟩ := h
  refine ⟨F, e, s, _, E, he, hh, hx, hf, fun ds s1 vs H1 F1 q1 e1 hh1 rs => ⟨by rw [← rs.length]; exact q1.1, fun p np => ?_⟩⟩
  obtain ⟨h1, h2, h3⟩ := hh1.frzT np rs
  exact post _ s1 _ _ _ q1.2 (e1.trans h2) h1 h3⟩
theorem dx_lst {es : List Expr} {r : Arg} (h : DA X T W es r) : DX X T W (.List es pos) (dLst r) := ⟨pe_imp (pe_lst h.pa) fun σ H Q h => by
  obtain ⟨F, e, s, R, E, he, hh, hx, hf, post⟩ := h
  refine ⟨F, e, s, _, E, he, hh, hx, hf, fun ds s1 vs H1 F1 q1 e1 hh1 rs => ⟨by rw [← rs.length]; exact q1.1, fun p np => ?_⟩⟩
  obtain ⟨h1, h2, h3⟩ := hh1.frzL np rs
  exact post _ s1 _ _ _ q1.2 (e1.trans h2) h1 h3⟩
theorem dx_lstM {es : List Expr} {r : Arg} (h : DA X T W es r) : DX X T W (.List es pos) (dLstM r) := ⟨pe_imp (pe_lst h.pa) fun σ H Q h => by
  obtain ⟨F, e, s, R, E, he, hh, hx, hf, post⟩ := h
  refine ⟨F, e, s, _, E, he, hh, hx, hf, fun ds s1 vs H1 F1 q1 e1 hh1 rs => ⟨by rw [← rs.length]; exact q1.1, fun p np => ?_⟩⟩
  exact post _ _ _ _ F1 (q1.2 p (hh1.freshM np)) (e1.trans (Ext.new hh1 np)) (hh1.new np ⟨vs, rfl, rs⟩) (.rf _)⟩
/-- a list is taken as it is from now on -/
def dFrz (f : Exp) : Exp := fun e s R E => f e s (fun d s1 => match d with
  | .rf (.ref p) => ∃ ds, s1.mu p = some (.ml ds) ∧ R (.lst ds) (s1.del p)
  | d => R d s1) E
theorem dx_frz (h : DX X T W e f) : DX X T W e (dFrz f) := ⟨pe_imp h.pe fun σ H Q hq => by
  obtain ⟨F, e, s, R, E, he, hh, hx, hf, post⟩ := hq
  refine ⟨F, e, s, _, E, he, hh, hx, hf, fun x s1 vx H1 F1 q1 e1 hh1 rx => ?_⟩
  split at q1
  · rename_i p
    obtain ⟨ds, h1, h2⟩ := q1
    obtain ⟨vs, a2, a3⟩ := hh1.freeze h1
    cases rx
    exact post _ _ _ H1 _ h2 (e1.trans (Ext.freeze (hh1.mu _ _ h1).1 h1)) a2 a3
  · exact post _ s1 vx H1 F1 q1 e1 hh1 rx⟩

/-! ### calls of built-in functions by their value -/
abbrev GA := List D → S → Q1 → Prop
def CallD (X : Cx) (T : Tb) (f : Value) (g : GA) : Prop :=
  ∃ r : List V → Hp → VK → Prop, CallR X f r ∧ ∀ F s H ds vs R Q, Hold X.K T F s H → Reps X.K T F ds vs → g ds s R → Post X.K T F s H R Q → r vs H Q
def dBlt (g : GA) (r : Arg) : Exp := fun e s R E => r e s (fun ds s1 => g ds s1 R) E
theorem dx_callB {x : Str} {id : String} {g : GA} {es : List Expr} {r : Arg} {p : Pos} (hr : CallD X T (.builtin id) g) (hg : Gl X x) (hm : X.mg x = none) (hv : bootBuiltins x = some (.builtin id)) (ha : DA X T W (a :: es) r)
    (hn : x ≠ "__name__" := by decide) (hd : (x == ("__debug__" : Str)) = false := by decide) (hs : starEach (a :: es) X.env = (false, eval a X.env) :: starEach es X.env := by rfl) (hpl : (backTo pos (starEach es X.env)).any (·.1) = false := by rfl) :
    DX X T W (.Call (.Name x p) (a :: es) [] pos) (dBlt g r) := by
  obtain ⟨r', h1, h2⟩ := hr
  refine ⟨pe_imp (pe_callB h1 hg hm hv ha.pa hn hd hs hpl) fun σ H Q h => ?_⟩
  obtain ⟨F, e, s, R, E, he, hh, hx, hf, post⟩ := h
  exact ⟨F, e, s, _, E, he, hh, hx, hf, fun ds s1 vs H1 F1 q1 e1 hh1 rs => h2 F1 s1 H1 ds vs R Q hh1 rs q1 (post.mono e1)⟩
theorem dx_callTy {x : Str} {id : String} {g : GA} {es : List Expr} {r : Arg} {p : Pos} (hr : CallD X T (.type id) g) (hg : Gl X x) (hm : X.mg x = none) (hv : bootBuiltins x = some (.type id)) (ha : DA X T W (a :: es) r)
    (hn : x ≠ "__name__" := by decide) (hd : (x == ("__debug__" : Str)) = false := by decide) (hs : starEach (a :: es) X.env = (false, eval a X.env) :: starEach es X.env := by rfl) (hpl : (backTo pos (starEach es X.env)).any (·.1) = false := by rfl) :
    DX X T W (.Call (.Name x p) (a :: es) [] pos) (dBlt g r) := by
  obtain ⟨r', h1, h2⟩ := hr
  refine ⟨pe_imp (pe_callTy h1 hg hm hv ha.pa hn hd hs hpl) fun σ H Q h => ?_⟩
  obtain ⟨F, e, s, R, E, he, hh, hx, hf, post⟩ := h
  exact ⟨F, e, s, _, E, he, hh, hx, hf, fun ds s1 vs H1 F1 q1 e1 hh1 rs => h2 F1 s1 H1 ds vs R Q hh1 rs q1 (post.mono e1)⟩
end
end Bk

/-! Bk: statements, loops, comprehensions over deep data. -/
namespace Bk
open PySem PySem.Spec PyProof.Rows L2

/-- what is wanted behind a statement -/
structure DEnds where
  nx : DEnv → S → Prop
  rt : D → S → Prop
  bk : DEnv → S → Prop := fun _ _ => False
  ct : DEnv → S → Prop := fun _ _ => False
  ex : Ex → DEnv → S → Prop := fun _ _ _ => False
abbrev DTS := DEnds → DEnv → S → Prop
structure PostS (K : PySem.W.Frag) (T : Tb) (W : WX) (F : Hp) (s : S) (H : Hp) (DD : DEnds) (Q : Ends) : Prop where
  nx : ∀ e' s' σ' H' F', DD.nx e' s' → Ext F s H F' s' H' → Hold K T F' s' H' → ERep K T F' e' σ' → Q.nx σ' H'
  rt : ∀ d s' v H' F', DD.rt d s' → Ext F s H F' s' H' → Hold K T F' s' H' → Rep K T F' d v → Q.rt v H'
  bk : ∀ e' s' σ' H' F', DD.bk e' s' → Ext F s H F' s' H' → Hold K T F' s' H' → ERep K T F' e' σ' → Q.bk σ' H'
  ct : ∀ e' s' σ' H' F', DD.ct e' s' → Ext F s H F' s' H' → Hold K T F' s' H' → ERep K T F' e' σ' → Q.ct σ' H'
  ex : ∀ x e' s' cls dx σ' H' F', DD.ex x e' s' → Ext F s H F' s' H' → Hold K T F' s' H' → ERep K T F' e' σ' → ExRep K T F' x cls dx H' → W cls dx σ' H'
def liftS (K : PySem.W.Frag) (T : Tb) (W : WX) (t : DTS) : TS := fun Q σ H => ∃ (F : Hp) (e : DEnv) (s : S) (DD : DEnds), ERep K T F e σ ∧ Hold K T F s H ∧ t DD e s ∧ PostS K T W F s H DD Q
section
variable {K : PySem.W.Frag} {T : Tb} {W : WX} {F F1 H H1 : Hp} {s s1 : S} {DD : DEnds} {Q : Ends} {e : DEnv} {σ : L2.St}
theorem PostS.mono (h : Ext F s H F1 s1 H1) (p : PostS K T W F s H DD Q) : PostS K T W F1 s1 H1 DD Q :=
  ⟨fun e' s' σ' H' F' q a => p.nx e' s' σ' H' F' q (h.trans a), fun d s' v H' F' q a => p.rt d s' v H' F' q (h.trans a), fun e' s' σ' H' F' q a => p.bk e' s' σ' H' F' q (h.trans a), fun e' s' σ' H' F' q a => p.ct e' s' σ' H' F' q (h.trans a),
    fun x e' s' cls dx σ' H' F' q a => p.ex x e' s' cls dx σ' H' F' q (h.trans a)⟩
/-- the wish of exceptions out of an expression -/
theorem PostS.xok (p : PostS K T W F s H DD Q) (he : ERep K T F e σ) : XOk K T W F s H (fun x s' => DD.ex x e s') σ := fun x s' cls dx H' F' q a hh r => p.ex x e s' cls dx σ H' F' q a hh (he.mono a.same) r
end

structure DS (X : Cx) (T : Tb) (W : WX) (st : Stmt) (t : DTS) : Prop where
  ps : PS X st (liftS X.K T W t)
structure DSs (X : Cx) (T : Tb) (W : WX) (st : List Stmt) (t : DTS) : Prop where
  pss : PSs X st (liftS X.K T W t)
/-- a target -/
abbrev DG := D → DEnv → S → (DEnv → S → Prop) → Prop
abbrev DGs := List D → DEnv → S → (DEnv → S → Prop) → Prop
def liftG (K : PySem.W.Frag) (T : Tb) (g : DG) : TG := fun v σ H Q => ∃ (F : Hp) (d : D) (e : DEnv) (s : S) (R : DEnv → S → Prop), Rep K T F d v ∧ ERep K T F e σ ∧ Hold K T F s H ∧ g d e s R ∧
  ∀ e' s' σ' H' F', R e' s' → Ext F s H F' s' H' → Hold K T F' s' H' → ERep K T F' e' σ' → Q σ' H'
def liftGs (K : PySem.W.Frag) (T : Tb) (g : DGs) : TGs := fun vs σ H Q => ∃ (F : Hp) (ds : List D) (e : DEnv) (s : S) (R : DEnv → S → Prop), Reps K T F ds vs ∧ ERep K T F e σ ∧ Hold K T F s H ∧ g ds e s R ∧
  ∀ e' s' σ' H' F', R e' s' → Ext F s H F' s' H' → Hold K T F' s' H' → ERep K T F' e' σ' → Q σ' H'
structure DPG (X : Cx) (T : Tb) (tg : Expr) (g : DG) : Prop where
  pg : PG X tg (liftG X.K T g)
structure DPGs (X : Cx) (T : Tb) (tg : List Expr) (g : DGs) : Prop where
  pgs : PGs X tg (liftGs X.K T g)
theorem pg_imp {X : Cx} {e : Expr} {t t' : TG} (h : PG X e t) (k : ∀ v σ H Q, t' v σ H Q → t v σ H Q) : PG X e t' := ⟨fun pins s σ H v u Q I r q => h.run pins s σ H v u Q I r (k v σ H Q q)⟩
theorem pgs_imp {X : Cx} {e : List Expr} {t t' : TGs} (h : PGs X e t) (k : ∀ v σ H Q, t' v σ H Q → t v σ H Q) : PGs X e t' := ⟨fun pins s σ H v u Q I r q => h.run pins s σ H v u Q I r (k v σ H Q q)⟩

section
variable {X : Cx} {T : Tb} {W : WX} {a b c e0 : Expr} {fa fb : Exp} {tt : Tst} {pos : Pos} {st : Stmt} {sts : List Stmt} {t u : DTS} {g : DG}

/-! ### targets -/
def gdName (i : Nat) : DG := fun d e s R => R (dset e i (some d)) s
theorem dg_name {i : Nat} {x : Str} (hN : X.N.Nodup) (hi : X.N[i]? = some x) (hx : Loc X.env.scope x) (hf : X.fn x = true ∨ X.env.scope.names.lookup x = some .local := by first | exact .inl rfl | exact .inr rfl | assumption) : DPG X T (.Name x pos) (gdName i) :=
  ⟨pg_imp (pg_name hN hi hx hf) fun v σ H Q ⟨F, d, e, s, R, rd, he, hh, hg, k⟩ => k _ s _ H F hg Ext.refl hh (he.set rd i)⟩
def gdNil : DGs := fun ds e s R => ds = [] ∧ R e s
def gdCons (g : DG) (r : DGs) : DGs := fun ds e s R => match ds with
  | d :: ds => g d e s (fun e1 s1 => r ds e1 s1 R)
  | [] => False
theorem dgs_nil : DPGs X T [] gdNil := ⟨pgs_imp pgs_nil fun vs σ H Q ⟨F, ds, e, s, R, rd, he, hh, hg, k⟩ => by
  obtain ⟨rfl, q⟩ := hg
  cases rd
  exact ⟨rfl, k e s σ H F q Ext.refl hh he⟩⟩
theorem dgs_cons {es : List Expr} {r : DGs} (h1 : DPG X T a g) (h2 : DPGs X T es r) (hs : (assignEach (a :: es) X.env).map (·.2) = assign a X.env :: (assignEach es X.env).map (·.2) := by rfl) : DPGs X T (a :: es) (gdCons g r) :=
  ⟨pgs_imp (pgs_cons h1.pg h2.pgs hs) fun vs σ H Q ⟨F, ds, e, s, R, rd, he, hh, hg, k⟩ => by
    cases rd with
    | nil => exact hg.elim
    | cons rd rs =>
      refine ⟨_, _, rfl, F, _, e, s, _, rd, he, hh, hg, fun e1 s1 σ1 H1 F1 q1 x1 hh1 he1 => ⟨F1, _, e1, s1, R, rs.mono x1.same, he1, hh1, q1, fun e2 s2 σ2 H2 F2 q2 x2 => k e2 s2 σ2 H2 F2 q2 (x1.trans x2)⟩⟩⟩
def gdTup (n : Nat) (r : DGs) : DG := fun d e s R => match d with
  | .tup ds => ds.length = n ∧ r ds e s R
  | _ => False
theorem dg_tup {es : List Expr} {k n : Nat} {r : DGs} (hc : X.calm = true) (h : DPGs X T es r) (hn : (assignEach es X.env).length = n := by rfl) (hst : (assignEach es X.env).findIdx? (·.1) = none := by rfl) : DPG X T (.Tuple es k pos) (gdTup n r) :=
  ⟨pg_imp (pg_tup hc h.pgs hn hst) fun v σ H Q ⟨F, d, e, s, R, rd, he, hh, hg, k⟩ => by
    cases rd with
    | tup hs rs => exact ⟨_, _, rfl, sqt_mono hh.sub hs, by rw [← rs.length]; exact hg.1, F, _, e, s, R, rs, he, hh, hg.2, k⟩
    | _ => exact hg.elim⟩

/-! ### small statements -/
def dNext : DTS := fun D e s => D.nx e s
def dSeq (t u : DTS) : DTS := fun D e s => t { D with nx := u D } e s
theorem dss_nil : DSs X T W [] dNext := ⟨pss_imp pss_nil fun Q σ H ⟨F, e, s, D, he, hh, ht, p⟩ => p.nx e s σ H F ht Ext.refl hh he⟩
theorem dss_cons (h1 : DS X T W st t) (h2 : DSs X T W sts u) : DSs X T W (st :: sts) (dSeq t u) := ⟨pss_imp (pss_cons h1.ps h2.pss) fun Q σ H ⟨F, e, s, D, he, hh, ht, p⟩ =>
  ⟨F, e, s, _, he, hh, ht, ⟨fun e' s' σ' H' F' q x hh' he' => ⟨F', e', s', D, he', hh', q, p.mono x⟩, p.rt, p.bk, p.ct, p.ex⟩⟩⟩
theorem dss_one (h1 : DS X T W st t) : DSs X T W [st] t := ⟨pss_one h1.ps⟩
theorem ds_pass : DS X T W (.Pass pos) dNext := ⟨ps_imp ps_pass fun Q σ H ⟨F, e, s, D, he, hh, ht, p⟩ => p.nx e s σ H F ht Ext.refl hh he⟩
def dBreak : DTS := fun D e s => D.bk e s
def dCont : DTS := fun D e s => D.ct e s
theorem ds_break : DS X T W (.Break pos) dBreak := ⟨ps_imp ps_break fun Q σ H ⟨F, e, s, D, he, hh, ht, p⟩ => p.bk e s σ H F ht Ext.refl hh he⟩
theorem ds_continue : DS X T W (.Continue pos) dCont := ⟨ps_imp ps_continue fun Q σ H ⟨F, e, s, D, he, hh, ht, p⟩ => p.ct e s σ H F ht Ext.refl hh he⟩
def dDrop (f : Exp) : DTS := fun D e s => f e s (fun _ s' => D.nx e s') (fun x s' => D.ex x e s')
theorem ds_expr (h : DX X T W a fa) (hs : swapsWith a none pos.line X.env = pure false := by rfl) : DS X T W (.Expr a pos) (dDrop fa) := ⟨ps_imp (ps_expr h.pe hs) fun Q σ H ⟨F, e, s, D, he, hh, ht, p⟩ =>
  ⟨F, e, s, _, _, he, hh, p.xok he, ht, fun d s' v H' F' q x hh' r => p.nx e s' σ H' F' q x hh' (he.mono x.same)⟩⟩
def dRet (f : Exp) : DTS := fun D e s => f e s D.rt (fun x s' => D.ex x e s')
theorem ds_ret (h : DX X T W a fa) : DS X T W (.Return (some a) pos) (dRet fa) := ⟨ps_imp (ps_ret h.pe) fun Q σ H ⟨F, e, s, D, he, hh, ht, p⟩ => ⟨F, e, s, _, _, he, hh, p.xok he, ht, fun d s' v H' F' q x hh' r => p.rt d s' v H' F' q x hh' r⟩⟩
def dRetN : DTS := fun D _ s => D.rt .non s
theorem ds_retN : DS X T W (.Return none pos) dRetN := ⟨ps_imp ps_retN fun Q σ H ⟨F, e, s, D, he, hh, ht, p⟩ => p.rt .non s .non H F ht Ext.refl hh .non⟩
def dIfS (c : Tst) (t u : DTS) : DTS := fun D e s => c e s (fun b s1 => if b = true then t D e s1 else u D e s1) (fun x s' => D.ex x e s')
theorem ds_if {st1 st2 : List Stmt} (hc : DT X T W c tt) (h1 : DSs X T W st1 t) (h2 : DSs X T W st2 u) : DS X T W (.If c st1 st2 pos) (dIfS tt t u) := ⟨ps_imp (ps_if hc.pt h1.pss h2.pss) fun Q σ H ⟨F, e, s, D, he, hh, ht, p⟩ => by
  refine ⟨F, e, s, _, _, he, hh, p.xok he, ht, fun b s' H' F' q x hh' => ?_⟩
  cases b with
  | true => exact ⟨F', e, s', D, he.mono x.same, hh', q, p.mono x⟩
  | false => exact ⟨F', e, s', D, he.mono x.same, hh', q, p.mono x⟩⟩
def dAsg (f : Exp) (g : DG) : DTS := fun D e s => f e s (fun d s1 => g d e s1 D.nx) (fun x s' => D.ex x e s')
theorem asg_lift {Q : Ends} {σ : L2.St} {H : Hp} (h : liftS X.K T W (dAsg fa g) Q σ H) : tAsg (liftE X.K T W fa) (liftG X.K T g) Q σ H := by
  obtain ⟨F, e, s, D, he, hh, ht, p⟩ := h
  exact ⟨F, e, s, _, _, he, hh, p.xok he, ht, fun d s1 v H1 F1 q x1 hh1 r => ⟨F1, d, e, s1, _, r, he.mono x1.same, hh1, q, fun e2 s2 σ2 H2 F2 q2 x2 hh2 he2 => p.nx e2 s2 σ2 H2 F2 q2 (x1.trans x2) hh2 he2⟩⟩
theorem ds_asg {tg : Expr} (h : DX X T W a fa) (hg : DPG X T tg g) (hs : swapsWithSole [tg] a pos.line X.env = pure false := by rfl) (hw : swappedStores [tg] a X.env = pure none := by rfl) (h1 : (assignEach [tg] X.env).map (·.2) = [assign tg X.env] := by rfl) :
    DS X T W (.Assign [tg] a pos) (dAsg fa g) := ⟨ps_imp (ps_asg h.pe hg.pg hs hw h1) fun Q σ H h => asg_lift h⟩
def dSet (i : Nat) (f : Exp) : DTS := fun D e s => f e s (fun d s1 => D.nx (dset e i (some d)) s1) (fun x s' => D.ex x e s')
theorem ds_set {i : Nat} {x : Str} {pos' : Pos} (hN : X.N.Nodup) (hi : X.N[i]? = some x) (hx : Loc X.env.scope x) (h : DX X T W a fa) (hs : swapsWith a (some (.Name x pos')) pos.line X.env = pure false := by rfl) (hf : X.fn x = true ∨ X.env.scope.names.lookup x = some .local := by first | exact .inl rfl | exact .inr rfl | assumption) :
    DS X T W (.Assign [.Name x pos'] a pos) (dSet i fa) := ⟨ps_imp (ps_set hN hi hx h.pe hs hf) fun Q σ H ⟨F, e, s, D, he, hh, ht, p⟩ =>
  ⟨F, e, s, _, _, he, hh, p.xok he, ht, fun d s1 v H1 F1 q x1 hh1 r => p.nx _ s1 _ H1 F1 q x1 hh1 ((he.mono x1.same).set r i)⟩⟩
/-- a, b = x, y -/
def dPar (i j : Nat) (r : Arg) : DTS := fun D e s => r e s (fun ds s1 => match ds with
  | [x, y] => D.nx (dset (dset e i (some x)) j (some y)) s1
  | _ => False) (fun x s' => D.ex x e s')
theorem ds_par {i j : Nat} {x y : Str} {r : Arg} {px py pt : Pos} {kt k2 pt2} (hc : X.calm = true) (hN : X.N.Nodup) (hi : X.N[i]? = some x) (hj : X.N[j]? = some y) (hij : i ≠ j)
    (hx : X.env.scope.names.lookup x = some .local) (hy : X.env.scope.names.lookup y = some .local) (ha : DA X T W [a, b] r)
    (hw : swappedStores [.Tuple [.Name x px, .Name y py] kt pt] (.Tuple [a, b] k2 pt2) X.env = pure (some [x, y]))
    (hs : swapsWithSole [.Tuple [.Name x px, .Name y py] kt pt] (.Tuple [a, b] k2 pt2) pos.line X.env = pure false := by rfl) :
    DS X T W (.Assign [.Tuple [.Name x px, .Name y py] kt pt] (.Tuple [a, b] k2 pt2) pos) (dPar i j r) := ⟨ps_imp (ps_par hc hN hi hj hij hx hy ha.pa hw hs) fun Q σ H ⟨F, e, s, D, he, hh, ht, p⟩ => by
  refine ⟨F, e, s, _, _, he, hh, p.xok he, ht, fun ds s1 vs H1 F1 q x1 hh1 rs => ?_⟩
  split at q
  · cases rs with | cons r1 rs => cases rs with | cons r2 rs =>
      cases rs
      exact ⟨_, _, rfl, p.nx _ s1 _ H1 F1 q x1 hh1 (((he.mono x1.same).set r1 i).set r2 j)⟩
  · exact q.elim⟩

/-! ### loops -/
/-- the iterator J goes through ds -/
def ItD (K : PySem.W.Frag) (T : Tb) (F : Hp) (J : It) (ds : List D) : Prop := ∀ F' s' H', Same F F' → Hold K T F' s' H' →
  (∀ i, ds.length ≤ i → J.stop i H') ∧ ∀ i d, ds[i]? = some d → J.go i H' ∧ ∀ v H2, J.yld i H' v H2 → ∃ F2, Ext F' s' H' F2 s' H2 ∧ Hold K T F2 s' H2 ∧ Rep K T F2 d v
theorem ItD.mono {K : PySem.W.Frag} {T : Tb} {F F1 : Hp} {J : It} {ds : List D} (h : ItD K T F J ds) (a : Same F F1) : ItD K T F1 J ds := fun F' s' H' b => h F' s' H' (a.trans b)
def liftI (K : PySem.W.Frag) (T : Tb) (W : WX) (f : Arg) : TI := fun σ H Q => ∃ (F : Hp) (e : DEnv) (s : S) (R : List D → S → Prop) (E : XQ), ERep K T F e σ ∧ Hold K T F s H ∧ XOk K T W F s H E σ ∧ f e s R E ∧
  ∀ ds s' J H' F', R ds s' → Ext F s H F' s' H' → Hold K T F' s' H' → ItD K T F' J ds → Q J H'
structure DI (X : Cx) (T : Tb) (W : WX) (tg iter : Expr) (f : Arg) : Prop where
  pi : PI X tg iter (liftI X.K T W f)
def dLoop (g : DG) (tb : DTS) (DD : DEnds) : List D → DEnv → S → Prop
  | [], e, s => DD.nx e s
  | d :: ds, e, s => g d e s (fun e1 s1 => tb { DD with nx := dLoop g tb DD ds, ct := dLoop g tb DD ds, bk := DD.nx } e1 s1)
def dFor (f : Arg) (g : DG) (tb : DTS) : DTS := fun DD e s => f e s (fun ds s1 => dLoop g tb DD ds e s1) (fun x s' => DD.ex x e s')
theorem ds_for {tg iter : Expr} {body : List Stmt} {f : Arg} (hp : PassesOwn (model X.prog X.w) X.A X.env X.xe) (hc : X.calm = true) (hi : DI X T W tg iter f) (hg : DPG X T tg g) (hb : DSs X T W body t)
    (hs : ∀ x, foldedSetIterable iter X.env x = pure x := by intro _; rfl) : DS X T W (.For tg iter body [] pos) (dFor f g t) := ⟨ps_imp (ps_for hp hc hi.pi hg.pg hb.pss hs) fun Q σ H ⟨F, e, s, D, he, hh, ht, p⟩ => by
  refine ⟨F, e, s, _, _, he, hh, p.xok he, ht, fun ds s1 J H1 F1 q1 x1 hh1 it => ?_⟩
  refine ⟨fun i m σ' H' => ∃ F' e' s', i ≤ ds.length ∧ m = ds.length - i ∧ ERep X.K T F' e' σ' ∧ Hold X.K T F' s' H' ∧ Ext F1 s1 H1 F' s' H' ∧ dLoop g t D (ds.drop i) e' s', ⟨_, F1, e, s1, Nat.zero_le _, rfl, he.mono x1.same, hh1, Ext.refl, q1⟩, ?_⟩
  rintro i m σ2 H2 ⟨F2, e2, s2, hle, rfl, he2, hh2, x2, q2⟩
  obtain ⟨hstop, hgo⟩ := it F2 s2 H2 x2.same hh2
  by_cases hi : i < ds.length
  · obtain ⟨go, hy⟩ := hgo i ds[i] (List.getElem?_eq_getElem hi)
    rw [List.drop_eq_getElem_cons hi] at q2
    refine .inr ⟨go, fun σ' H' => ∃ F' e' s', ERep X.K T F' e' σ' ∧ Hold X.K T F' s' H' ∧ Ext F1 s1 H1 F' s' H' ∧ dLoop g t D (ds.drop (i + 1)) e' s', fun σ' H' ⟨F', e', s', a1, a2, a3, a4⟩ => ⟨_, by omega, F', e', s', by omega, rfl, a1, a2, a3, a4⟩, fun v H3 y => ?_⟩
    obtain ⟨F3, x3, hh3, r3⟩ := hy v H3 y
    refine ⟨F3, _, e2, s2, _, r3, he2.mono x3.same, hh3, q2, fun e4 s4 σ4 H4 F4 q4 x4 hh4 he4 => ?_⟩
    have xx := (x2.trans x3).trans x4
    refine ⟨F4, e4, s4, _, he4, hh4, q4, ⟨fun e' s' σ' H' F' q x hh' he' => ⟨F', e', s', he', hh', xx.trans x, q⟩, fun d s' v H' F' q x => p.rt d s' v H' F' q (x1.trans (xx.trans x)), fun e' s' σ' H' F' q x => p.nx e' s' σ' H' F' q (x1.trans (xx.trans x)), fun e' s' σ' H' F' q x hh' he' => ⟨F', e', s', he', hh', xx.trans x, q⟩,
      fun x e' s' cls dx σ' H' F' q y => p.ex x e' s' cls dx σ' H' F' q (x1.trans (xx.trans y))⟩⟩
  · have hn : ds.length ≤ i := by omega
    rw [List.drop_eq_nil_of_le hn] at q2
    exact .inl ⟨hstop i hn, p.nx e2 s2 σ2 H2 F2 q2 (x1.trans x2) hh2 he2⟩⟩
def dWhile (c : Tst) (tb : DTS) : DTS := fun DD e s => ∃ I : Nat → DEnv → S → Prop, (∃ m, I m e s) ∧ ∀ m e s, I m e s → c e s (fun b s1 => if b = true then tb { DD with nx := fun e' s' => ∃ m', m' < m ∧ I m' e' s', ct := fun e' s' => ∃ m', m' < m ∧ I m' e' s', bk := DD.nx } e s1 else DD.nx e s1) (fun x s' => DD.ex x e s')
theorem ds_while {body : List Stmt} (hp : PassesOwn (model X.prog X.w) X.A X.env X.xe) (hc : DT X T W c tt) (hb : DSs X T W body t) : DS X T W (.While c body [] pos) (dWhile tt t) := ⟨ps_imp (ps_while hp hc.pt hb.pss) fun Q σ H ⟨F, e, s, D, he, hh, ⟨I, ⟨m0, w0⟩, turn⟩, p⟩ => by
  refine ⟨fun m σ' H' => ∃ F' e' s', ERep X.K T F' e' σ' ∧ Hold X.K T F' s' H' ∧ Ext F s H F' s' H' ∧ I m e' s', ⟨m0, F, e, s, he, hh, Ext.refl, w0⟩, ?_⟩
  rintro m σ1 H1 ⟨F1, e1, s1, he1, hh1, x1, w1⟩
  refine ⟨F1, e1, s1, _, _, he1, hh1, (p.mono x1).xok he1, turn m e1 s1 w1, fun b s2 H2 F2 q2 x2 hh2 => ?_⟩
  have xx := x1.trans x2
  cases b with
  | true =>
    refine ⟨fun σ' H' => ∃ F' e' s', ERep X.K T F' e' σ' ∧ Hold X.K T F' s' H' ∧ Ext F s H F' s' H' ∧ ∃ m', m' < m ∧ I m' e' s', fun σ' H' ⟨F', e', s', a1, a2, a3, m', hm, a4⟩ => ⟨m', hm, F', e', s', a1, a2, a3, a4⟩, ?_⟩
    exact ⟨F2, e1, s2, _, he1.mono x2.same, hh2, q2, ⟨fun e' s' σ' H' F' q x hh' he' => ⟨F', e', s', he', hh', xx.trans x, q⟩, fun d s' v H' F' q x => p.rt d s' v H' F' q (xx.trans x), fun e' s' σ' H' F' q x => p.nx e' s' σ' H' F' q (xx.trans x), fun e' s' σ' H' F' q x hh' he' => ⟨F', e', s', he', hh', xx.trans x, q⟩,
      fun x e' s' cls dx σ' H' F' q y => p.ex x e' s' cls dx σ' H' F' q (xx.trans y)⟩⟩
  | false => exact p.nx e1 s2 σ1 H2 F2 q2 xx hh2 (he1.mono x2.same)⟩
end

/-! ### comprehensions -/
def dComp (g : DG) (t : Tst) (f : Exp) (e0 : DEnv) (R : List D → S → Prop) : List D → List D → S → Prop
  | [], acc, s => R acc s
  | d :: ds, acc, s => g d e0 s (fun e1 s1 => t e1 s1 (fun b s2 => if b = true then f e1 s2 (fun y s3 => dComp g t f e0 R ds (acc ++ [y]) s3) (fun _ _ => False) else dComp g t f e0 R ds acc s2) (fun _ _ => False))
def wF : WX := fun _ _ _ _ => False
section
variable {X : Cx} {T : Tb} {W : WX}
/-- a block's target leaves the other slots as they were -/
def GOwn (vs : List Nat) (g : TG) : Prop := ∀ v σ H Q, g v σ H Q → g v σ H fun σ' H' => Q σ' H' ∧ wipe σ' vs = wipe σ vs
end
end Bk

/-! Bk: what is walked; comprehensions. -/
namespace Bk
open PySem PySem.Spec PyProof.Rows L2

section
variable {K : PySem.W.Frag} {T : Tb} {F : Hp}
theorem sql_frz {H : Hp} {a : Addr} {xs : List V} (h : F a = some (.lst xs)) (e : Same F H) : SqL K H a xs := .inl (.inl (e _ _ h))
theorem sql_uniq {H : Hp} {a : Addr} {xs ys : List V} (h : H a = some (.lst xs)) (q : H a = some (.lst ys)) : ys = xs := by
  rw [h] at q; cases q; rfl
theorem itd_list {a : Addr} {xs : List V} {ds : List D} (h : F a = some (.lst xs)) (r : Reps K T F ds xs) : ItD K T F (Itl K a) ds := fun F' s' H' e hh => by
  have hq : SqL K H' a xs := sql_frz (e _ _ h) hh.sub
  refine ⟨fun i hi => ⟨xs, hq, by rw [← r.length]; exact hi⟩, fun i d hd => ?_⟩
  obtain ⟨v, hv, rv⟩ := r.getD hd
  refine ⟨⟨xs, v, hq, hv⟩, fun v' H2 y => ?_⟩
  obtain ⟨rfl, y⟩ := y
  have e2 := y xs hq
  rw [hv] at e2; cases e2
  exact ⟨F', Ext.refl, hh, rv.mono e⟩
theorem itd_scr {a : Addr} {ns : List Int} (h : SqL K F a (ns.map V.int)) : ItD K T F (Itl K a) (ns.map D.int) := fun F' s' H' e hh => by
  have hq : SqL K H' a (ns.map V.int) := (e.trans hh.sub).seq h
  refine ⟨fun i hi => ⟨_, hq, by rw [List.length_map] at hi ⊢; exact hi⟩, fun i d hd => ?_⟩
  obtain ⟨v, hv, rv⟩ := (reps_of_ints (K := K) (F := F) (ns := ns)).getD hd
  refine ⟨⟨_, v, hq, hv⟩, fun v' H2 y => ?_⟩
  obtain ⟨rfl, y⟩ := y
  have e2 := y _ hq
  rw [hv] at e2; cases e2
  exact ⟨F', Ext.refl, hh, rv.mono e⟩
theorem itd_tup {a : Addr} {xs : List V} {ds : List D} (h : SqT K F a xs) (r : Reps K T F ds xs) : ItD K T F (Itt K a) ds := fun F' s' H' e hh => by
  have hq : SqT K H' a xs := sqt_mono hh.sub (sqt_mono e h)
  refine ⟨fun i hi => ⟨xs, hq, by rw [← r.length]; exact hi⟩, fun i d hd => ?_⟩
  obtain ⟨v, hv, rv⟩ := r.getD hd
  refine ⟨⟨xs, v, hq, hv⟩, fun v' H2 y => ?_⟩
  obtain ⟨rfl, y⟩ := y
  have e2 := y xs hq
  rw [hv] at e2; cases e2
  exact ⟨F', Ext.refl, hh, rv.mono e⟩
/-- a text's signs -/
def signs (x : Str) : List D := x.cps.toList.map fun c => .str ⟨#[c]⟩
theorem signs_len (x : Str) : (signs x).length = x.cps.size := by unfold signs; simp
theorem itd_str {x : Str} : ItD K T F (Its x) (signs x) := fun F' s' H' e hh => by
  refine ⟨fun i hi => by rw [signs_len] at hi; exact hi, fun i d hd => ?_⟩
  have hi : i < x.cps.size := by
    have := (List.getElem?_eq_some_iff.mp hd).1
    rwa [signs_len] at this
  refine ⟨hi, fun v' H2 y => ?_⟩
  obtain ⟨rfl, c, hc, rfl⟩ := y
  refine ⟨F', Ext.refl, hh, ?_⟩
  have e1 : d = .str ⟨#[c]⟩ := by
    unfold signs at hd
    rw [List.getElem?_map] at hd
    have : x.cps.toList[i]? = some c := by simpa using hc
    rw [this] at hd
    exact (Option.some.inj hd).symm
  rw [e1]
  exact .str _
def rangeD (lo : Int) (n : Nat) : List D := (List.range n).map fun (i : Nat) => D.int (lo + (i : Int))
theorem rangeD_len (lo : Int) (n : Nat) : (rangeD lo n).length = n := by unfold rangeD; simp
theorem itd_range {lo : Int} {n : Nat} : ItD K T F (Itr lo n) (rangeD lo n) := fun F' s' H' e hh => by
  refine ⟨fun i hi => by rw [rangeD_len] at hi; exact hi, fun i d hd => ?_⟩
  have hi : i < n := by
    have := (List.getElem?_eq_some_iff.mp hd).1
    rwa [rangeD_len] at this
  refine ⟨hi, fun v' H2 y => ?_⟩
  obtain ⟨rfl, rfl⟩ := y
  refine ⟨F', Ext.refl, hh, ?_⟩
  have e1 : d = .int (lo + i) := by
    unfold rangeD at hd
    rw [List.getElem?_map, List.getElem?_range hi] at hd
    exact (Option.some.inj hd).symm
  rw [e1]
  exact .int _
/-- pairs -/
def zipD (xs ys : List D) : List D := (xs.zip ys).map fun p => .tup [p.1, p.2]
theorem zipD_len (xs ys : List D) : (zipD xs ys).length = min xs.length ys.length := by unfold zipD; simp
theorem zipD_get {xs ys : List D} {i : Nat} {d : D} (h : (zipD xs ys)[i]? = some d) : ∃ x y, xs[i]? = some x ∧ ys[i]? = some y ∧ d = .tup [x, y] := by
  unfold zipD at h
  rw [List.getElem?_map] at h
  cases e : (xs.zip ys)[i]? with
  | none => rw [e] at h; cases h
  | some p =>
    rw [e] at h
    have h' := List.getElem?_zip_eq_some.mp e
    exact ⟨p.1, p.2, h'.1, h'.2, (Option.some.inj h).symm⟩
theorem new_pair {F' H' : Hp} {s' : S} {t : Addr} {x y : D} {vx vy : V} (hh : Hold K T F' s' H') (nt : H' t = none) (rx : Rep K T F' x vx) (ry : Rep K T F' y vy) :
    ∃ F2, Ext F' s' H' F2 s' (upd H' t (.tup [vx, vy])) ∧ Hold K T F2 s' (upd H' t (.tup [vx, vy])) ∧ Rep K T F2 (.tup [x, y]) (.ref t) := by
  obtain ⟨a, b, c⟩ := hh.frzT nt (.cons rx (.cons ry .nil))
  exact ⟨_, b, a, c⟩
theorem itd_zipL {a b : Addr} {xs ys : List V} {ds es : List D} (h : F a = some (.lst xs)) (r : Reps K T F ds xs) (h' : F b = some (.lst ys)) (r' : Reps K T F es ys) : ItD K T F (Itz K a b) (zipD ds es) := fun F' s' H' e hh => by
  have hq : SqL K H' a xs := sql_frz (e _ _ h) hh.sub
  have hq' : SqL K H' b ys := sql_frz (e _ _ h') hh.sub
  refine ⟨fun i hi => ⟨xs, ys, hq, hq', by rw [zipD_len] at hi; rw [← r.length, ← r'.length]; omega⟩, fun i d hd => ?_⟩
  obtain ⟨x, y, hx, hy, rfl⟩ := zipD_get hd
  obtain ⟨vx, hvx, rx⟩ := r.getD hx
  obtain ⟨vy, hvy, ry⟩ := r'.getD hy
  refine ⟨⟨xs, ys, vx, vy, hq, hq', hvx, hvy⟩, fun v' H2 q => ?_⟩
  obtain ⟨t, x1, y1, rfl, nt, rfl, q1, q2⟩ := q
  have e1 := q1 xs hq
  have e2 := q2 ys hq'
  rw [hvx] at e1; rw [hvy] at e2; cases e1; cases e2
  exact new_pair hh nt (rx.mono e) (ry.mono e)
theorem itd_zipT {a b : Addr} {xs ys : List V} {ds es : List D} (h : SqT K F a xs) (r : Reps K T F ds xs) (h' : SqT K F b ys) (r' : Reps K T F es ys) : ItD K T F (RZ.ItzT K a b) (zipD ds es) := fun F' s' H' e hh => by
  have hq : SqT K H' a xs := sqt_mono hh.sub (sqt_mono e h)
  have hq' : SqT K H' b ys := sqt_mono hh.sub (sqt_mono e h')
  refine ⟨fun i hi => ⟨xs, ys, hq, hq', by rw [zipD_len] at hi; rw [← r.length, ← r'.length]; omega⟩, fun i d hd => ?_⟩
  obtain ⟨x, y, hx, hy, rfl⟩ := zipD_get hd
  obtain ⟨vx, hvx, rx⟩ := r.getD hx
  obtain ⟨vy, hvy, ry⟩ := r'.getD hy
  refine ⟨⟨xs, ys, vx, vy, hq, hq', hvx, hvy⟩, fun v' H2 q => ?_⟩
  obtain ⟨t, x1, y1, rfl, nt, rfl, q1, q2⟩ := q
  have e1 := q1 xs hq
  have e2 := q2 ys hq'
  rw [hvx] at e1; rw [hvy] at e2; cases e1; cases e2
  exact new_pair hh nt (rx.mono e) (ry.mono e)
end

section
variable {X : Cx} {T : Tb} {W : WX} {a b tg : Expr} {fa fb : Exp} {pos : Pos}
/-- a list, a tuple, a text is walked -/
def dIter (f : Exp) : Arg := fun e s R E => f e s (fun d s1 => match d with
  | .lst ds => ds.length ≤ sizeLine → R ds s1
  | .tup ds => ds.length ≤ sizeLine → R ds s1
  | .str x => R (signs x) s1
  | .scr ns => ns.length ≤ sizeLine → R (ns.map D.int) s1
  | _ => False) E
theorem di_seq (h : DX X T W a fa) : DI X T W tg a (dIter fa) := by
  refine ⟨⟨fun pins s σ H R I hR => ?_⟩⟩
  obtain ⟨F, e, s0, RR, E, he, hh, hx, hf, k⟩ := hR
  refine thn (h.pe.run pins s σ H (fun v H1 => ∃ d s1 F1, Rep X.K T F1 d v ∧ Ext F s0 H F1 s1 H1 ∧ Hold X.K T F1 s1 H1 ∧ (match d with
    | .lst ds => ds.length ≤ sizeLine → RR ds s1
    | .tup ds => ds.length ≤ sizeLine → RR ds s1
    | .str x => RR (signs x) s1
    | .scr ns => ns.length ≤ sizeLine → RR (ns.map D.int) s1
    | _ => False)) I ⟨F, e, s0, _, E, he, hh, hx, hf, fun d s1 v H1 F1 q x hh1 r => ⟨d, s1, F1, r, x, hh1, q⟩⟩) fun u st1 ⟨v, H1, I1, r1, d, s1, F1, rd, x1, hh1, q⟩ => ?_
  cases rd with
  | lst hl rs =>
    rename_i ad xs ds
    cases r1
    obtain ⟨its, rv, p, hz⟩ := I1.list (sql_frz hl hh1.sub)
    refine wpAny_pyIter_list p.isList ?_
    refine ⟨st1.heap.objs.size, [st1.heap.objs.size], _, _, H1, rfl, I1.kept (t' := st1.toks) fun b o e => Heap.get?_push_of_some _ e, turn_list ad _, ⟨_, Heap.get?_push_size _ rfl, rfl, rfl⟩, fun b hb => ?_, k ds s1 _ H1 F1 (q (by rw [rs.length]; exact hz)) x1 hh1 (itd_list hl rs)⟩
    have e : b = st1.heap.objs.size := by simpa using hb
    subst e
    exact I1.fpOk (Nat.le_refl _) (I1.hok.fresh (Nat.le_refl _))
  | tup hl rs =>
    rename_i ad xs ds
    cases r1
    obtain ⟨its, rv, p, hz⟩ := I1.tuple (sqt_mono hh1.sub hl)
    refine wpAny_pyIter_tuple (show st1.heap.IsTuple ad its.toArray from p) ?_
    refine ⟨st1.heap.objs.size, [st1.heap.objs.size], _, _, H1, rfl, I1.kept (t' := st1.toks) fun b o e => Heap.get?_push_of_some _ e, turn_tuple ad _, ⟨_, Heap.get?_push_size _ rfl, rfl, rfl⟩, fun b hb => ?_, k ds s1 _ H1 F1 (q (by rw [rs.length]; exact hz)) x1 hh1 (itd_tup hl rs)⟩
    have e : b = st1.heap.objs.size := by simpa using hb
    subst e
    exact I1.fpOk (Nat.le_refl _) (I1.hok.fresh (Nat.le_refl _))
  | str x =>
    obtain ⟨t, rfl⟩ := r1
    cases hall : x.cps.all (· < 128)
    · exact wpAny_pyIter_wide hall (pi_one (tk := st1.toks) I1 _ (turn_str _ x t "str_iterator" (.inr rfl)) ⟨_, Heap.get?_push_size _ rfl, rfl, rfl⟩ (k _ s1 _ H1 F1 q x1 hh1 itd_str))
    · exact wpAny_pyIter_ascii hall (pi_one (tk := st1.toks) I1 _ (turn_str _ x t "str_ascii_iterator" (.inl rfl)) ⟨_, Heap.get?_push_size _ rfl, rfl, rfl⟩ (k _ s1 _ H1 F1 q x1 hh1 itd_str))
  | scr hl =>
    rename_i ad ns
    cases r1
    have hq := hh1.sub.seq hl
    obtain ⟨its, rv, p, hz⟩ := I1.list hq
    refine wpAny_pyIter_list p.isList ?_
    refine ⟨st1.heap.objs.size, [st1.heap.objs.size], _, _, H1, rfl, I1.kept (t' := st1.toks) fun b o e => Heap.get?_push_of_some _ e, turn_list ad _, ⟨_, Heap.get?_push_size _ rfl, rfl, rfl⟩, fun b hb => ?_, k _ s1 _ H1 F1 (q (by rwa [List.length_map] at hz)) x1 hh1 (itd_scr hl)⟩
    have e : b = st1.heap.objs.size := by simpa using hb
    subst e
    exact I1.fpOk (Nat.le_refl _) (I1.hok.fresh (Nat.le_refl _))
  | _ => exact q.elim
/-- range(n) -/
def dRng1 (r : Arg) : Arg := fun e s R E => r e s (fun ds s1 => match ds with
  | [.int j] => (-(2 ^ 62) ≤ j ∧ j < 2 ^ 62) ∧ R (rangeD 0 j.toNat) s1
  | _ => False) E
theorem di_range1 {r : Arg} {p : Pos} (hg : Gl X "range") (hm : X.mg "range" = none) (ha : DA X T W [a] r) (hs : starEach [a] X.env = [(false, eval a X.env)] := by rfl) : DI X T W tg (.Call (.Name "range" p) [a] [] pos) (dRng1 r) := by
  refine ⟨⟨fun pins s σ H R I hR => (pi_range1 hg hm ha.pa hs).run pins s σ H R I ?_⟩⟩
  obtain ⟨F, e, s0, RR, E, he, hh, hx, hf, k⟩ := hR
  refine ⟨F, e, s0, _, E, he, hh, hx, hf, fun ds s1 vs H1 F1 q x hh1 rs => ?_⟩
  split at q
  · cases rs with | cons r1 rs =>
      cases rs; cases r1
      exact ⟨_, rfl, q.1.1, q.1.2, k _ s1 _ H1 F1 q.2 x hh1 itd_range⟩
  · exact q.elim
/-- zip(xs, ys): two lists, or two tuples -/
def dZip (r : Arg) : Arg := fun e s R E => r e s (fun ds s1 => match ds with
  | [.lst xs, .lst ys] => R (zipD xs ys) s1
  | [.tup xs, .tup ys] => R (zipD xs ys) s1
  | _ => False) E
theorem di_zip {r : Arg} {p tpos : Pos} {elts : List Expr} {kk : Nat} (hg : Gl X "zip") (hm : X.mg "zip" = none) (ha : DA X T W [a, b] r)
    (hs : starEach [a, b] X.env = (false, eval a X.env) :: starEach [b] X.env := by rfl) (hpl : (backTo pos (starEach [b] X.env)).any (·.1) = false := by rfl) : DI X T W (.Tuple elts kk tpos) (.Call (.Name "zip" p) [a, b] [] pos) (dZip r) := by
  refine ⟨⟨fun pins s σ H R I hR => (RZ.pi_zipA hg hm ha.pa hs hpl).run pins s σ H R I ?_⟩⟩
  obtain ⟨F, e, s0, RR, E, he, hh, hx, hf, k⟩ := hR
  refine ⟨F, e, s0, _, E, he, hh, hx, hf, fun ds s1 vs H1 F1 q x hh1 rs => ?_⟩
  split at q
  · cases rs with | cons r1 rs => cases rs with | cons r2 rs =>
      cases rs
      cases r1 with | lst l1 rr1 => cases r2 with | lst l2 rr2 =>
        exact ⟨_, _, _, _, rfl, .inl ⟨sql_frz l1 hh1.sub, sql_frz l2 hh1.sub, k _ s1 _ H1 F1 q x hh1 (itd_zipL l1 rr1 l2 rr2)⟩⟩
  · cases rs with | cons r1 rs => cases rs with | cons r2 rs =>
      cases rs
      cases r1 with | tup l1 rr1 => cases r2 with | tup l2 rr2 =>
        exact ⟨_, _, _, _, rfl, .inr ⟨sqt_mono hh1.sub l1, sqt_mono hh1.sub l2, k _ s1 _ H1 F1 q x hh1 (itd_zipT l1 rr1 l2 rr2)⟩⟩
  · exact q.elim
end
end Bk

/-! Bk: comprehensions over deep data. -/
namespace Bk
open PySem PySem.Spec PyProof.Rows L2

theorem wipe_at (σ : L2.St) (j : Nat) : ∀ vs : List Nat, (wipe σ vs)[j]? = if j ∈ vs then σ[j]?.map (fun _ => none) else σ[j]?
  | [] => by simp [wipe]
  | v :: vs => by
    unfold wipe
    by_cases h : v = j
    · subst h
      rw [if_pos List.mem_cons_self]
      by_cases hv : v < (wipe σ vs).length
      · rw [List.getElem?_set_self hv]
        have : v < σ.length := by rwa [wipe_length] at hv
        rw [List.getElem?_eq_getElem this]; rfl
      · have hv' : ¬ v < σ.length := by rwa [wipe_length] at hv
        rw [List.getElem?_eq_none (by simpa using hv), List.getElem?_eq_none (by omega)]; rfl
    · rw [List.getElem?_set_ne h, wipe_at σ j vs]
      have : j ∈ v :: vs ↔ j ∈ vs := by
        simp only [List.mem_cons]
        exact ⟨fun q => q.elim (fun z => absurd z.symm h) id, .inr⟩
      by_cases q : j ∈ vs
      · rw [if_pos q, if_pos (this.mpr q)]
      · rw [if_neg q, if_neg (fun z => q (this.mp z))]
theorem wipe_set {σ : L2.St} {vs : List Nat} {i : Nat} {x : Option V} (h : i ∈ vs) : wipe (σ.set i x) vs = wipe σ vs := by
  apply List.ext_getElem?
  intro j
  rw [wipe_at, wipe_at]
  by_cases hj : j = i
  · subst hj
    rw [if_pos h, if_pos h]
    by_cases hl : j < σ.length
    · rw [List.getElem?_set_self hl, List.getElem?_eq_getElem hl]; rfl
    · rw [List.getElem?_eq_none (by simpa using hl), List.getElem?_eq_none (by omega)]
  · rw [List.getElem?_set_ne (Ne.symm hj)]
theorem wipe_wipe (σ : L2.St) (vs : List Nat) : wipe (wipe σ vs) vs = wipe σ vs := by
  apply List.ext_getElem?
  intro j
  rw [wipe_at, wipe_at]
  by_cases h : j ∈ vs
  · rw [if_pos h, if_pos h]
    cases σ[j]? <;> rfl
  · rw [if_neg h, if_neg h]

/-- a target that stores only at vs -/
def liftGo (K : PySem.W.Frag) (T : Tb) (vs : List Nat) (g : DG) : TG := fun v σ H Q => ∃ (F : Hp) (d : D) (e : DEnv) (s : S) (R : DEnv → S → Prop), Rep K T F d v ∧ ERep K T F e σ ∧ Hold K T F s H ∧ g d e s R ∧
  ∀ e' s' σ' H' F', R e' s' → Ext F s H F' s' H' → Hold K T F' s' H' → ERep K T F' e' σ' → wipe σ' vs = wipe σ vs → Q σ' H'
def liftGos (K : PySem.W.Frag) (T : Tb) (vs : List Nat) (g : DGs) : TGs := fun xs σ H Q => ∃ (F : Hp) (ds : List D) (e : DEnv) (s : S) (R : DEnv → S → Prop), Reps K T F ds xs ∧ ERep K T F e σ ∧ Hold K T F s H ∧ g ds e s R ∧
  ∀ e' s' σ' H' F', R e' s' → Ext F s H F' s' H' → Hold K T F' s' H' → ERep K T F' e' σ' → wipe σ' vs = wipe σ vs → Q σ' H'
structure DPGo (X : Cx) (T : Tb) (vs : List Nat) (tg : Expr) (g : DG) : Prop where
  pg : PG X tg (liftGo X.K T vs g)
structure DPGos (X : Cx) (T : Tb) (vs : List Nat) (tg : List Expr) (g : DGs) : Prop where
  pgs : PGs X tg (liftGos X.K T vs g)
section
variable {X : Cx} {T : Tb} {W : WX} {a b c : Expr} {fa fb : Exp} {pos : Pos} {g : DG} {vs : List Nat}
theorem dgo_name {i : Nat} {x : Str} (hv : i ∈ vs) (hN : X.N.Nodup) (hi : X.N[i]? = some x) (hx : Loc X.env.scope x) (hf : X.fn x = true ∨ X.env.scope.names.lookup x = some .local := by first | exact .inl rfl | exact .inr rfl | assumption) : DPGo X T vs (.Name x pos) (gdName i) :=
  ⟨pg_imp (pg_name hN hi hx hf) fun v σ H Q ⟨F, d, e, s, R, rd, he, hh, hg, k⟩ => k _ s _ H F hg Ext.refl hh (he.set rd i) (wipe_set hv)⟩
theorem dgos_nil : DPGos X T vs [] gdNil := ⟨pgs_imp pgs_nil fun vs σ H Q ⟨F, ds, e, s, R, rd, he, hh, hg, k⟩ => by
  obtain ⟨rfl, q⟩ := hg
  cases rd
  exact ⟨rfl, k e s σ H F q Ext.refl hh he rfl⟩⟩
theorem dgos_cons {es : List Expr} {r : DGs} (h1 : DPGo X T vs a g) (h2 : DPGos X T vs es r) (hs : (assignEach (a :: es) X.env).map (·.2) = assign a X.env :: (assignEach es X.env).map (·.2) := by rfl) : DPGos X T vs (a :: es) (gdCons g r) :=
  ⟨pgs_imp (pgs_cons h1.pg h2.pgs hs) fun vs σ H Q ⟨F, ds, e, s, R, rd, he, hh, hg, k⟩ => by
    cases rd with
    | nil => exact hg.elim
    | cons rd rs =>
      refine ⟨_, _, rfl, F, _, e, s, _, rd, he, hh, hg, fun e1 s1 σ1 H1 F1 q1 x1 hh1 he1 w1 => ⟨F1, _, e1, s1, R, rs.mono x1.same, he1, hh1, q1, fun e2 s2 σ2 H2 F2 q2 x2 hh2 he2 w2 => k e2 s2 σ2 H2 F2 q2 (x1.trans x2) hh2 he2 (w2.trans w1)⟩⟩⟩
theorem dgo_tup {es : List Expr} {k n : Nat} {r : DGs} (hc : X.calm = true) (h : DPGos X T vs es r) (hn : (assignEach es X.env).length = n := by rfl) (hst : (assignEach es X.env).findIdx? (·.1) = none := by rfl) : DPGo X T vs (.Tuple es k pos) (gdTup n r) :=
  ⟨pg_imp (pg_tup hc h.pgs hn hst) fun v σ H Q ⟨F, d, e, s, R, rd, he, hh, hg, k⟩ => by
    cases rd with
    | tup hs rs => exact ⟨_, _, rfl, sqt_mono hh.sub hs, by rw [← rs.length]; exact hg.1, F, _, e, s, R, rs, he, hh, hg.2, k⟩
    | _ => exact hg.elim⟩
structure DTs (X : Cx) (T : Tb) (W : WX) (ifs : List Expr) (f : Tst) : Prop where
  pts : PTs X ifs (liftT X.K T W f)
def dYes : Tst := fun _ s R _ => R true s
theorem dts_nil : DTs X T W [] dYes := ⟨⟨fun pins s σ H Q I ⟨F, e, s0, R, E, he, hh, hx, hf, k⟩ => pts_nil.run pins s σ H Q I (k true s0 H F hf Ext.refl hh)⟩⟩
theorem dts_one {t : Tst} (h : DT X T W a t) : DTs X T W [a] t := ⟨pts_one h.pt⟩

/-- one clause -/
def dLc (f0 : Arg) (g : DG) (t : Tst) (f : Exp) (vs : List Nat) : Exp := fun e s R E => f0 e s (fun ds s1 => ds.length ≤ sizeLine ∧ dComp g t f (dwipe e vs) (fun ys s2 => R (.lst ys) s2) ds [] s1) E
theorem Ext.keep {F s H F' s' H'} (x : Ext F s H F' s' H') {p : Addr} {xs : List V} (h : H p = some (.lst xs)) (n : ¬ own F s H p) : H' p = some (.lst xs) ∧ ¬ own F' s' H' p := x.rest p _ h n trivial
section
variable {K : PySem.W.Frag} {T : Tb} {F H F0 H0 : Hp} {s s0 : S} {p : Addr} {xs ys : List V}
theorem own_upd {o : HO} (n : ¬ own F s H p) {q : Addr} (w : own F s (upd H p o) q) : own F s H q := by
  rcases w with w | w | ⟨a, m, h1, h2⟩
  · exact .inl w
  · exact .inr (.inl w)
  · refine .inr (.inr ⟨a, m, h1, h2.imp id ?_⟩)
    rintro ⟨kvs, l, h3, h4, h5⟩
    have na : a ≠ p := fun z => by
      apply n
      rw [← z]
      exact .inr (.inr ⟨a, m, h1, .inl rfl⟩)
    rw [upd_ne na] at h3
    exact ⟨kvs, l, h3, h4, h5⟩
theorem notF (n : ¬ own F s H p) : F p = none := by
  cases e : F p with
  | none => rfl
  | some o => exact absurd (.inl (by rw [e]; exact fun z => by cases z)) n
theorem notM (n : ¬ own F s H p) : s.mu p = none := by
  cases e : s.mu p with
  | none => rfl
  | some o => exact absurd (.inr (.inl (by rw [e]; exact fun z => by cases z))) n
/-- a tracked list that is nobody's grows -/
theorem Hold.grow (hh : Hold K T F s H) (h : H p = some (.lst xs)) (n : ¬ own F s H p) : Hold K T F s (upd H p (.lst ys)) ∧ ¬ own F s (upd H p (.lst ys)) p := by
  refine ⟨⟨fun b x e => ?_, fun q u e => ?_, fun q k e => ?_, tabs_upd hh.tab (fun ps z => by rw [h] at z; cases z) (fun c q z => by rw [h] at z; cases z), hh.tabF⟩, fun w => n (own_upd n w)⟩
  · rw [upd_ne (fun z => by rw [z, notF n] at e; cases e)]; exact hh.sub b x e
  · rw [upd_ne (fun z => by rw [z, notM n] at e; cases e)]; exact hh.mu q u e
  · obtain ⟨l, c, t, cs, ls, g1, g2, g3, g4, g5, g6, g7, g8, g9⟩ := hh.gen q k e
    have nq : q ≠ p := fun z => n (by rw [← z]; exact .inr (.inr ⟨q, k, e, .inl rfl⟩))
    have nl : l ≠ p := fun z => n (by rw [← z]; exact .inr (.inr ⟨q, k, e, .inr ⟨_, l, g5, rfl, rfl⟩⟩))
    exact ⟨l, c, t, cs, ls, g1, g2, g3, g4, by rw [upd_ne nq]; exact g5, g6, by rw [upd_ne nl]; exact g7, g8, g9⟩
theorem Ext.grow (x : Ext F0 s0 H0 F s H) (n0 : H0 p = none) (n : ¬ own F s H p) {o : HO} : Ext F0 s0 H0 F s (upd H p o) := ⟨x.same, fun q u e w z => by
  obtain ⟨h1, n1⟩ := x.rest q u e w z
  have ne : q ≠ p := fun y => by rw [y, n0] at e; cases e
  exact ⟨by rw [upd_ne ne]; exact h1, fun y => n1 (own_upd n y)⟩⟩
theorem Hold.adopt (hh : Hold K T F s H) (h : H p = some (.lst xs)) (n : ¬ own F s H p) : Hold K T (upd F p (.lst xs)) s H := by
  have sm : Same F (upd F p (.lst xs)) := same_upd (notF n)
  refine ⟨fun b x e => ?_, fun q u e => ?_, fun q k e => ?_, hh.tab, fun q ps e => ?_⟩
  · by_cases z : b = p
    · subst z; rw [upd_same] at e; rw [h]; exact e
    · rw [upd_ne z] at e; exact hh.sub b x e
  · obtain ⟨h1, h2⟩ := hh.mu q u e
    rw [upd_ne (fun z => by rw [z, notM n] at e; cases e)]
    exact ⟨h1, h2.mono sm⟩
  · obtain ⟨l, c, t, cs, ls, g1, g2, g3, g4, g5, g6, g7, g8, g9⟩ := hh.gen q k e
    have nq : q ≠ p := fun z => n (by rw [← z]; exact .inr (.inr ⟨q, k, e, .inl rfl⟩))
    have nl : l ≠ p := fun z => n (by rw [← z]; exact .inr (.inr ⟨q, k, e, .inr ⟨_, l, g5, rfl, rfl⟩⟩))
    exact ⟨l, c, t, cs, ls, by rw [upd_ne nq]; exact g1, by rw [upd_ne nl]; exact g2, g3, g4, g5, sm _ _ g6, g7, g8, g9⟩
  · by_cases z : q = p
    · subst z; rw [upd_same] at e; cases e
    · rw [upd_ne z] at e; exact hh.tabF q ps e
theorem Ext.adopt (x : Ext F0 s0 H0 F s H) (f0 : F0 p = none) (n0 : H0 p = none) (n : ¬ own F s H p) {o : HO} : Ext F0 s0 H0 (upd F p o) s H := ⟨x.same.trans (same_upd (notF n)), fun q u e w z => by
  obtain ⟨h1, n1⟩ := x.rest q u e w z
  have ne : q ≠ p := fun y => by rw [y, n0] at e; cases e
  refine ⟨h1, fun y => n1 ?_⟩
  rcases y with y | y
  · rw [upd_ne ne] at y; exact .inl y
  · exact .inr y⟩
/-- the new list of a comprehension, at its start -/
theorem Hold.begin (hh : Hold K T F s H) (n : H p = none) : Hold K T F s (upd H p (.lst [])) ∧ Ext F s H F s (upd H p (.lst [])) ∧ ¬ own F s (upd H p (.lst [])) p := by
  have no : ¬ own F s H p := fun w => by
    rcases w with w | w | ⟨a, m, h1, h2⟩
    · exact w (hh.fresh n)
    · exact w (hh.freshM n)
    · obtain ⟨l, c, t, cs, ls, g1, g2, g3, g4, g5, g6, g7, g8, g9⟩ := hh.gen a m h1
      rcases h2 with h2 | ⟨kvs, l', h3, h4, h5⟩
      · rw [← h2, n] at g5; cases g5
      · rw [g5] at h3; cases h3
        have e : some (V.ref l) = some (V.ref l') := h4
        cases e
        rw [← h5, n] at g7; cases g7
  refine ⟨⟨hh.sub.trans (same_upd n), fun q u e => ?_, fun q k e => ?_, hh.tab.ext (same_upd n), hh.tabF⟩, (Ext.refl).grow n no, fun w => no (own_upd no w)⟩
  · obtain ⟨h1, h2⟩ := hh.mu q u e
    rw [upd_ne (fun z => by rw [z, hh.freshM n] at e; cases e)]
    exact ⟨h1, h2⟩
  · obtain ⟨l, c, t, cs, ls, g1, g2, g3, g4, g5, g6, g7, g8, g9⟩ := hh.gen q k e
    exact ⟨l, c, t, cs, ls, g1, g2, g3, g4, same_upd n _ _ g5, g6, same_upd n _ _ g7, g8, g9⟩
end
abbrev BlkAll (X : Cx) (scope : Scope) (P : Cx → Prop) : Prop := ∀ (s : Shared) (H : Hp) (C : Addr) (cl : List (Str × Addr)) (fp : List Addr), P (X.blk s H scope (compEnvC scope cl C X.env) fp)
theorem lc_lift {f0 : Arg} {t : Tst} {f : Exp} {σ : L2.St} {H : Hp} {Q : VK} (h : liftE X.K T W (dLc f0 g t f vs) σ H Q) : tLc (liftI X.K T W f0) (liftGo X.K T vs g) (liftT X.K T wF t) (liftE X.K T wF f) vs σ H Q := by
  obtain ⟨F, e, s, R, E, he, hh, hx, hf, post⟩ := h
  refine ⟨F, e, s, _, E, he, hh, hx, hf, fun ds s1 J H1 F1 q1 x1 hh1 it Dl nD => ?_⟩
  obtain ⟨hz, q1⟩ := q1
  obtain ⟨hb, xb, ob⟩ := hh1.begin nD
  refine ⟨fun i m H' => ∃ F' s' acc vsx, i ≤ ds.length ∧ m = ds.length - i ∧ acc.length ≤ i ∧ Hold X.K T F' s' H' ∧ Ext F1 s1 H1 F' s' H' ∧ H' Dl = some (.lst vsx) ∧ ¬ own F' s' H' Dl ∧ Reps X.K T F' acc vsx ∧ dComp g t f (dwipe e vs) (fun ys s2 => R (.lst ys) s2) (ds.drop i) acc s',
    ⟨_, F1, s1, [], [], Nat.zero_le _, rfl, Nat.le_refl _, hb, xb, upd_same, ob, .nil, q1⟩, ?_⟩
  rintro i m H2 ⟨F2, s2, acc, vsx, hle, rfl, hacc, hh2, x2, h2, o2, ra, q2⟩
  obtain ⟨hstop, hgo⟩ := it F2 s2 H2 x2.same hh2
  by_cases hi : i < ds.length
  · obtain ⟨go, hy⟩ := hgo i ds[i] (List.getElem?_eq_getElem hi)
    rw [List.drop_eq_getElem_cons hi] at q2
    refine .inr ⟨go, fun H' => ∃ F' s' acc vsx, acc.length ≤ i + 1 ∧ Hold X.K T F' s' H' ∧ Ext F1 s1 H1 F' s' H' ∧ H' Dl = some (.lst vsx) ∧ ¬ own F' s' H' Dl ∧ Reps X.K T F' acc vsx ∧ dComp g t f (dwipe e vs) (fun ys s2 => R (.lst ys) s2) (ds.drop (i + 1)) acc s',
      fun H' ⟨F', s', acc, vsx, a1, a2, a3, a4, a5, a6, a7⟩ => ⟨_, by omega, F', s', acc, vsx, by omega, rfl, a1, a2, a3, a4, a5, a6, a7⟩, fun v H3 y => ?_⟩
    obtain ⟨F3, x3, hh3, r3⟩ := hy v H3 y
    refine ⟨F3, _, dwipe e vs, s2, _, r3, ((he.mono x1.same).mono (x2.same.trans x3.same)).wipe vs, hh3, q2, fun e4 s4 σ4 H4 F4 q4 x4 hh4 he4 w4 => ⟨by rw [w4, wipe_wipe], ?_⟩⟩
    refine ⟨F4, e4, s4, _, _, he4, hh4, xok_none, q4, fun b s5 H5 F5 q5 x5 hh5 => ?_⟩
    have xx := ((x2.trans x3).trans x4).trans x5
    obtain ⟨h5, o5⟩ := ((x3.trans x4).trans x5).keep h2 o2
    have ra5 := ra.mono ((x3.trans x4).trans x5).same
    cases b with
    | false => exact ⟨F5, s5, acc, vsx, by omega, hh5, xx, h5, o5, ra5, q5⟩
    | true =>
      refine ⟨F5, e4, s5, _, _, he4.mono x5.same, hh5, xok_none, q5, fun d s6 w H6 F6 q6 x6 hh6 r6 => ?_⟩
      obtain ⟨h6, o6⟩ := x6.keep h5 o5
      have ra6 := ra5.mono x6.same
      refine ⟨vsx, h6, by rw [← ra6.length]; omega, ?_⟩
      obtain ⟨g1, g2⟩ := hh6.grow (ys := vsx ++ [w]) h6 o6
      exact ⟨F6, s6, acc ++ [d], vsx ++ [w], by rw [List.length_append]; show acc.length + 1 ≤ i + 1; omega, g1, (xx.trans x6).grow nD o6, upd_same, g2, ra6.append (.cons r6 .nil), q6⟩
  · have hn : ds.length ≤ i := by omega
    rw [List.drop_eq_nil_of_le hn] at q2
    refine .inl ⟨hstop i hn, ?_⟩
    have a1 := hh2.adopt h2 o2
    have a2 := x2.adopt (hh1.fresh nD) nD o2 (o := .lst vsx)
    exact post _ s2 _ H2 _ q2 (x1.trans a2) a1 (.lst upd_same (ra.mono (same_upd (notF o2))))
theorem dx_lc {elt tg iter : Expr} {ifs : List Expr} {scope : Scope} {own : List (Str × Nat)} {f0 : Arg} {t : Tst} {f : Exp} (hc : X.calm = true) (hN : X.N.Nodup) (hi : DI X T W tg iter f0) (ok : BlkOk X.N X.env.scope scope own)
    (hg : BlkAll X scope fun Y => DPGo Y T (own.map (·.2)) tg g) (ht : BlkAll X scope fun Y => DTs Y T wF ifs t) (he : BlkAll X scope fun Y => DX Y T wF elt f) (hs : ∀ x, foldedSetIterable iter X.env x = pure x := by intro _; rfl) :
    DX X T W (.ListComp elt [⟨tg, iter, ifs, 0⟩] scope pos) (dLc f0 g t f (own.map (·.2))) :=
  ⟨pe_imp (pe_lc hc hN hi.pi ok (fun s H C cl fp => (hg s H C cl fp).pg) (fun s H C cl fp => (ht s H C cl fp).pts) (fun s H C cl fp => (he s H C cl fp).pe) hs) fun σ H Q h => lc_lift h⟩
theorem ds_setLc {i : Nat} {y : Str} {py spos : Pos} {elt tg iter : Expr} {ifs : List Expr} {scope : Scope} {own : List (Str × Nat)} {f0 : Arg} {t : Tst} {f : Exp} (hc : X.calm = true) (hN : X.N.Nodup) (hy : X.N[i]? = some y) (hyl : X.env.scope.names.lookup y = some .local)
    (hsw : swapsWith (.ListComp elt [⟨tg, iter, ifs, 0⟩] scope pos) (some (.Name y py)) spos.line X.env = pure true) (hi : DI X T W tg iter f0) (ok : BlkOk X.N X.env.scope scope own)
    (hg : BlkAll X scope fun Y => DPGo Y T (own.map (·.2)) tg g) (ht : BlkAll X scope fun Y => DTs Y T wF ifs t) (he : BlkAll X scope fun Y => DX Y T wF elt f) (hs : ∀ x, foldedSetIterable iter X.env x = pure x := by intro _; rfl) :
    DS X T W (.Assign [.Name y py] (.ListComp elt [⟨tg, iter, ifs, 0⟩] scope pos) spos) (dSet i (dLc f0 g t f (own.map (·.2)))) :=
  ⟨ps_imp (ps_setLc hc hN hy hyl hsw hi.pi ok (fun s H C cl fp => (hg s H C cl fp).pg) (fun s H C cl fp => (ht s H C cl fp).pts) (fun s H C cl fp => (he s H C cl fp).pe) hs) fun Q σ H h => by
    obtain ⟨F, e, s, D, he, hh, ht, p⟩ := h
    exact lc_lift (W := W) ⟨F, e, s, _, _, he, hh, p.xok he, ht, fun d s1 v H1 F1 q x1 hh1 r => p.nx _ s1 _ H1 F1 q x1 hh1 ((he.mono x1.same).set r i)⟩⟩
end
end Bk

/-! Bk: defs by what they do with deep data. -/
namespace Bk
open PySem PySem.Spec PyProof.Rows L2

/-- what a def does -/
abbrev Fn := List D → S → Q1 → XQ → Prop
/-- a promise in the hand layer's words: the arguments' data go in, phi tells what comes out -/
def spD (K : PySem.W.Frag) (T : Tb) (n : Nat) (phi : Fn) : Sp := fun vs H Q E => ∃ (F : Hp) (s : S) (ds : List D) (R : Q1) (EE : XQ), ds.length = n ∧ Reps K T F ds vs ∧ Hold K T F s H ∧
  (∀ x s' cls dx H' F', EE x s' → Ext F s H F' s' H' → Hold K T F' s' H' → ExRep K T F' x cls dx H' → E cls dx H') ∧ phi ds s R EE ∧ Post K T F s H R Q
/-- a def keeps its promise where no repr is under way -/
structure GFn (P : Program) (w : World) (K : PySem.W.Frag) (mg : Str → Option Value) (base : Heap) (k : Nat) (f : Addr) (fd : FuncData) (ps : List Str) (sp : Sp) : Prop where
  len : ∀ vs H Q E, sp vs H Q E → vs.length = ps.length
  run : ∀ (A : Around) (outer : List Env) (s : Shared) (H : Hp) (args : Args) (us : List Value) (vs : List V) (Q : VK) (E : XK), Room k A → A.guards = some [] → Env0 P w K mg base A outer s H → BindsTo s fd args (ps.zip us) → Vals vs us → sp vs H Q E →
    codeAny (model P w) A (.call (.ref f) args) (CR (L2.CX P w) outer P w H s Q E) s
theorem GFn.mono {P : Program} {w : World} {K : PySem.W.Frag} {mg : Str → Option Value} {base : Heap} {j k : Nat} {f : Addr} {fd : FuncData} {ps : List Str} {sp : Sp} (F : GFn P w K mg base j f fd ps sp) (h : j ≤ k) : GFn P w K mg base k f fd ps sp :=
  ⟨F.len, fun A outer s H args us vs Q E hr => F.run A outer s H args us vs Q E (hr.mono h)⟩
theorem GFn.imp {P : Program} {w : World} {K : PySem.W.Frag} {mg : Str → Option Value} {base : Heap} {k : Nat} {f : Addr} {fd : FuncData} {ps : List Str} {sp sp' : Sp} (F : GFn P w K mg base k f fd ps sp) (h : ∀ vs H Q E, sp' vs H Q E → sp vs H Q E) : GFn P w K mg base k f fd ps sp' :=
  ⟨fun vs H Q E q => F.len vs H Q E (h _ _ _ _ q), fun A outer s H args us vs Q E hr hg he hb hv hs => F.run A outer s H args us vs Q E hr hg he hb hv (h _ _ _ _ hs)⟩
/-- what phi may be taken for: psi asks more -/
theorem spD_imp {K : PySem.W.Frag} {T : Tb} {n : Nat} {phi psi : Fn} (h : ∀ ds s R E, ds.length = n → psi ds s R E → phi ds s R E) : ∀ vs H Q E, spD K T n psi vs H Q E → spD K T n phi vs H Q E := fun vs H Q E ⟨F, s, ds, R, EE, a, b, c, d, e, f⟩ => ⟨F, s, ds, R, EE, a, b, c, d, h ds s R EE a e, f⟩

section
variable {P : Program} {w : World} {K : PySem.W.Frag} {mg : Str → Option Value} {base : Heap}
/-- what a body's context gives -/
structure Bod (X : Cx) (W : WX) (k : Nat) : Prop where
  room : Room k X.A
  grd : X.A.guards = some []
  tk : Takes X W
  own : PassesOwn (model X.prog X.w) X.A X.env X.xe
def wBody (E : XK) : WX := fun cls d _ H => E cls d H
def dstart (N : List Str) (ds : List D) : DEnv := ds.map some ++ List.replicate (N.length - ds.length) none
theorem erep_none {K : PySem.W.Frag} {T : Tb} {F : Hp} : ∀ n : Nat, ERep K T F (List.replicate n none) (List.replicate n none)
  | 0 => .nil
  | n + 1 => .none (erep_none n)
theorem erep_args {K : PySem.W.Frag} {T : Tb} {F : Hp} {e : DEnv} {σ : L2.St} (h : ERep K T F e σ) : ∀ {ds : List D} {vs : List V}, Reps K T F ds vs → ERep K T F (ds.map some ++ e) (vs.map some ++ σ)
  | _, _, .nil => h
  | _, _, .cons r rs => .some r (erep_args h rs)
theorem start_rep {K : PySem.W.Frag} {T : Tb} {F : Hp} {N : List Str} {ds : List D} {vs : List V} (h : Reps K T F ds vs) : ERep K T F (dstart N ds) (L2.start N vs) := by
  unfold dstart L2.start
  rw [← h.length]
  exact erep_args (erep_none _) h
/-- a def's ends: what it made and lets go is forgotten -/
def fnEnds (R : Q1) (E : XQ) : DEnds where
  nx := fun _ s' => ∃ s2, Sub s2 s' ∧ R .non s2
  rt := fun d s' => ∃ s2, Sub s2 s' ∧ R d s2
  ex := fun x _ s' => ∃ s2, Sub s2 s' ∧ E x s2
variable {T : Tb}
/-- THE RULE for a def -/
theorem gfn_of {x qual : Str} {st : Stmt} {f : Addr} {fd : FuncData} {N ps : List Str} {k : Nat} {phi : Fn} {t : DTS} (F : Fun K x qual st f fd) (S : FnScope N ps (defScope st))
    (hb : ∀ (cdv : Value) (A : Around) (outer : List Env) (s : Shared) (H : Hp) (E : XK), Bod (cxOf (L2.CX P w) P w K mg base N qual (defScope st) f cdv A outer s H E) (wBody E) k →
      DSs (cxOf (L2.CX P w) P w K mg base N qual (defScope st) f cdv A outer s H E) T (wBody E) (defBody st) t)
    (hphi : ∀ ds s R E, ds.length = ps.length → phi ds s R E → t (fnEnds R E) (dstart N ds) s) : GFn P w K mg base (k + 1) f fd ps (spD K T ps.length phi) := by
  obtain ⟨oc, od, kV, doc, pm, an, cdv, ct, osl, rfl, lk, hcd⟩ := F.ex
  refine ⟨fun vs H Q E ⟨_, _, ds, _, _, hl, rs, _⟩ => by rw [← rs.length]; exact hl, fun A outer s H args us vs Q E hr hg e0 hbd hv hs => ?_⟩
  obtain ⟨FF, s0, ds, R, EE, hl, rs, hh, hx, hp, post⟩ := hs
  have hlv : vs.length = ps.length := by rw [← rs.length]; exact hl
  refine LamX.run_ofS lk hcd S hr e0 hbd hv hlv fun hr' => ?_
  have B : Bod (cxOf (L2.CX P w) P w K mg base N qual (defScope st) f cdv A outer s H E) (wBody E) k := ⟨hr', hg, takes_of rfl rfl rfl rfl, passes_of rfl⟩
  refine ⟨_, (hb cdv A outer s H E B).pss, FF, dstart N ds, s0, fnEnds R EE, start_rep rs, hh, hphi ds s0 R EE hl hp, ⟨?_, ?_, ?_, ?_, ?_⟩⟩
  · rintro e' s' σ' H' F' ⟨s2, hs2, q⟩ x1 hh1 _
    exact post .non s2 .non H' F' q (x1.weak hs2) (hh1.weak hs2) .non
  · rintro d s' v H' F' ⟨s2, hs2, q⟩ x1 hh1 r
    exact post d s2 v H' F' q (x1.weak hs2) (hh1.weak hs2) r
  · intro _ _ _ _ _ q; exact q.elim
  · intro _ _ _ _ _ q; exact q.elim
  · rintro x e' s' cls dx σ' H' F' ⟨s2, hs2, q⟩ x1 hh1 _ r
    exact hx x s2 cls dx H' F' q (x1.weak hs2) (hh1.weak hs2) r
end

section
variable {X : Cx} {T : Tb} {W : WX} {k : Nat} {f : Addr} {fd : FuncData} {ps : List Str} {x : Str} {a : Expr} {es : List Expr} {r : Arg} {n : Nat} {phi : Fn} {p pos : Pos}
/-- the callee runs -/
theorem run_g {sp : Sp} {dvs : List V} {dfs : List Value} {pins : List (Addr × Obj)} {σ : L2.St} {H : Hp} {s : Shared} {Q : VK} {us : List Value} {vs : List V} (G : GFn X.prog X.w X.K X.mg X.base k f fd ps sp) (hr : Room k X.A) (hg : X.A.guards = some []) (tk : Takes X W)
    (hb : Binds X.K fd ps dfs) (hd : Vals dvs dfs) (I : Inv X pins σ H s) (rv : Vals vs us) (h : sp (vs ++ dvs) H Q (fun c d H' => W c d σ H')) : wpAny (model X.prog X.w) X.A (call (.ref f) us) (EP X pins σ Q) X.xe s := by
  have r2 : Vals (vs ++ dvs) (us ++ dfs) := rv.append hd
  have hl : (us ++ dfs).length = ps.length := by rw [← r2.length]; exact G.len _ _ _ _ h
  refine wpAny_call (codeAny_mono (G.run X.A X.stack s H ⟨us, []⟩ (us ++ dfs) (vs ++ dvs) Q _ hr hg I.env0 (hb s us I.kIn hl) r2 h) fun res s' hq => ?_)
  cases res with
  | error e => exact tk e s' (XE.of_call I (fun _ _ _ q => q) hq)
  | ok fl =>
    cases fl with
    | ret u => exact I.after hq
    | next => exact False.elim hq
    | brk => exact False.elim hq
    | cont => exact False.elim hq
def dCall (n : Nat) (phi : Fn) (r : Arg) : Exp := fun e s R E => r e s (fun ds s1 => ds.length = n ∧ phi ds s1 R E) E
theorem dx_call (G : GFn X.prog X.w X.K X.mg X.base k f fd ps (spD X.K T n phi)) (hr : Room k X.A) (hgd : X.A.guards = some []) (tk : Takes X W) (hg : Gl X x) (hm : X.mg x = some (.ref f)) (hk : PySem.W.keepIn X.K (.ref f) = true) (hb : Binds X.K fd ps []) (ha : DA X T W (a :: es) r)
    (hdb : (x == ("__debug__" : Str)) = false := by decide) (he : starEach (a :: es) X.env = (false, eval a X.env) :: starEach es X.env := by rfl) (hpl : (backTo pos (starEach es X.env)).any (·.1) = false := by rfl) :
    DX X T W (.Call (.Name x p) (a :: es) [] pos) (dCall n phi r) := ⟨⟨fun pins s σ H Q I hq => by
  obtain ⟨F, e, s0, R, E, he', hh, hx, hf, post⟩ := hq
  refine wpAny_Call_Name_kw (ld_glob I hg hm ?_ hdb)
  refine PySem.W.callWith_K (h₀ := X.base) I.ok.mod.kin hk (thn (ha.pa.run pos pins s σ H (fun vs H1 => spD X.K T n phi vs H1 Q (fun c d H' => W c d σ H')) I ⟨F, e, s0, _, E, he', hh, hx, hf, fun ds s1 vs H1 F1 q x1 hh1 rs =>
    ⟨F1, s1, ds, R, E, q.1, rs, hh1, hx.mono x1, q.2, post.mono x1⟩⟩) fun us s1 ⟨vs, H1, I1, rv, q⟩ => ⟨I1.kIn, ?_⟩) he hpl
  exact run_g (dvs := []) (dfs := []) G hr hgd tk hb .nil I1 rv (by rw [List.append_nil]; exact q)⟩⟩
theorem dx_call0 (G : GFn X.prog X.w X.K X.mg X.base k f fd ps (spD X.K T 0 phi)) (hr : Room k X.A) (hgd : X.A.guards = some []) (tk : Takes X W) (hg : Gl X x) (hm : X.mg x = some (.ref f)) (hk : PySem.W.keepIn X.K (.ref f) = true) (hb : Binds X.K fd ps [])
    (hdb : (x == ("__debug__" : Str)) = false := by decide) : DX X T W (.Call (.Name x p) [] [] pos) (fun _ s R E => phi [] s R E) := ⟨⟨fun pins s σ H Q I hq => by
  obtain ⟨F, e, s0, R, E, he', hh, hx, hf, post⟩ := hq
  refine wpAny_Call_Name_kw (ld_glob I hg hm ?_ hdb)
  exact PySem.W.callWith_K0 I.kIn hk (run_g (us := []) (vs := []) (dvs := []) (dfs := []) G hr hgd tk hb .nil I .nil ⟨F, s0, [], R, E, rfl, .nil, hh, hx, hf, post⟩)⟩⟩
/-- within a comprehension's block nothing is let out -/
theorem tk_blk {s : Shared} {H : Hp} {scope : Scope} {cenv : Env} {fp : List Addr} : Takes (X.blk s H scope cenv fp) wF := LamX.takes0
end
end Bk

/-! Bk: operators and built-in calls over deep data. -/
namespace Bk
open PySem PySem.Spec PyProof.Rows L2

/-! ### plain data -/
mutual
def D.py : D → PyData
  | .non => .none
  | .bl b => .bool b
  | .int i => .int i
  | .str x => .str x
  | .lst xs => .list (D.pys xs)
  | .tup xs => .tuple (D.pys xs)
  | .pln xs => .tuple (D.pys xs)
  | .dic [] => .dict []
  | .dic (_ :: _) => .none
  | .rf _ => .none
  | .scr _ => .none
  | .exc _ _ => .none
  | .obj _ _ => .none
  | .clo _ _ _ => .none
def D.pys : List D → List PyData
  | [] => []
  | x :: xs => x.py :: D.pys xs
end
mutual
/-- no dict, no thing by its address -/
def D.pl : D → Bool
  | .non | .bl _ | .int _ | .str _ => true
  | .lst xs | .tup xs | .pln xs => D.pls xs
  | .dic _ | .rf _ | .scr _ | .exc _ _ | .obj _ _ | .clo _ _ _ => false
def D.pls : List D → Bool
  | [] => true
  | x :: xs => x.pl && D.pls xs
end
theorem D.pys_map : ∀ xs : List D, D.pys xs = xs.map D.py
  | [] => by rw [D.pys]; rfl
  | x :: xs => by rw [D.pys, D.pys_map xs]; rfl
theorem D.pls_all : ∀ xs : List D, D.pls xs = xs.all D.pl
  | [] => by rw [D.pls]; rfl
  | x :: xs => by rw [D.pls, D.pls_all xs]; rfl
section
variable {K : PySem.W.Frag} {T : Tb} {F H : Hp}
mutual
theorem rep_dp (e : Same F H) : ∀ {d : D} {v : V}, Rep K T F d v → d.pl = true → Dp K H v d.py
  | _, _, .non, _ => by rw [D.py]; exact .non
  | _, _, .bl b, _ => by rw [D.py]; exact .bl b
  | _, _, .int i, _ => by rw [D.py]; exact .int i
  | _, _, .str x, _ => by rw [D.py]; exact .str x
  | _, _, .lst h r, p => by rw [D.py]; exact .lst (sql_frz h e) (reps_dp e r (by rwa [D.pl] at p))
  | _, _, .tup h r, p => by rw [D.py]; exact .tup (sqt_mono e h) (reps_dp e r (by rwa [D.pl] at p))
  | _, _, .pln h hd r, p => by rw [D.py]; exact .tup (.inl (.inr ⟨_, e _ _ h⟩)) (reps_dp e r (by rwa [D.pl] at p))
  | _, _, .dic h r, p => by rw [D.pl] at p; cases p
  | _, _, .rf v, p => by rw [D.pl] at p; cases p
  | _, _, .scr h, p => by rw [D.pl] at p; cases p
  | _, _, .exc h h2 r, p => by rw [D.pl] at p; cases p
  | _, _, .obj h r, p => by rw [D.pl] at p; cases p
  | _, _, .clo f r, p => by rw [D.pl] at p; cases p
theorem reps_dp (e : Same F H) : ∀ {ds : List D} {vs : List V}, Reps K T F ds vs → D.pls ds = true → DpAll K H vs (D.pys ds)
  | _, _, .nil, _ => by rw [D.pys]; exact .nil
  | _, _, .cons h r, p => by
    rw [D.pls, Bool.and_eq_true] at p
    rw [D.pys]
    exact .cons (rep_dp e h p.1) (reps_dp e r p.2)
end
end
/-- == may be asked of it -/
def D.eqOk (d : D) : Bool := d.pl && SeqAt.shaped d.py
def D.eqb (x y : D) : Bool := PyData.eqv x.py y.py

section
variable {X : Cx} {T : Tb}
theorem OpD.of {f : Value → Value → Sem Value} {g : G2} {r : R2} (h : OpR X f r) (k : ∀ F s H x y vx vy R Q, Hold X.K T F s H → Rep X.K T F x vx → Rep X.K T F y vy → g x y s R → Post X.K T F s H R Q → r vx vy H Q) : OpD X T f g := ⟨r, h, k⟩
/-! ### arithmetic -/
def oInt (g : Int → Int → D) : G2 := fun x y s R => match x, y with
  | .int i, .int j => R (g i j) s
  | _, _ => False
def oIntC (c : Int → Int → Prop) (g : Int → Int → D) : G2 := fun x y s R => match x, y with
  | .int i, .int j => c i j ∧ R (g i j) s
  | _, _ => False
theorem opd_I0 {f : Value → Value → Sem Value} {g : Int → Int → V} {gd : Int → Int → D} (h : OpR X f (rI0 g)) (r : ∀ K F i j, Rep K T F (gd i j) (g i j)) : OpD X T f (oInt gd) := .of h fun F s H x y vx vy R Q hh rx ry hg post => by
  unfold oInt at hg
  split at hg
  · cases rx; cases ry
    exact ⟨_, _, rfl, rfl, post _ s _ H F hg Ext.refl hh (r _ _ _ _)⟩
  · exact hg.elim
theorem opd_IC {f : Value → Value → Sem Value} {c : Int → Int → Prop} {g : Int → Int → V} {gd : Int → Int → D} (h : OpR X f (rI c g)) (r : ∀ K F i j, Rep K T F (gd i j) (g i j)) : OpD X T f (oIntC c gd) := .of h fun F s H x y vx vy R Q hh rx ry hg post => by
  unfold oIntC at hg
  split at hg
  · cases rx; cases ry
    exact ⟨_, _, rfl, rfl, hg.1, post _ s _ H F hg.2 Ext.refl hh (r _ _ _ _)⟩
  · exact hg.elim
abbrev oSub : G2 := oInt fun i j => .int (i - j)
abbrev oMulI : G2 := oIntC CMul fun i j => .int (i * j)
abbrev oDiv : G2 := oIntC CDiv fun i j => .int (i / j)
abbrev oMod : G2 := oIntC (fun _ j => 0 < j) fun i j => .int (i % j)
abbrev oPow : G2 := oIntC CPow fun i j => .int (i ^ j.toNat)
abbrev oLt : G2 := oInt fun i j => .bl (decide (i < j))
abbrev oLe : G2 := oInt fun i j => .bl (decide (i ≤ j))
abbrev oGt : G2 := oInt fun i j => .bl (decide (j < i))
abbrev oGe : G2 := oInt fun i j => .bl (decide (j ≤ i))
theorem od_sub : OpD X T (binaryOp .Sub) oSub := opd_I0 op_sub fun _ _ _ _ => .int _
theorem od_mulI : OpD X T (binaryOp .Mult) oMulI := opd_IC op_mul fun _ _ _ _ => .int _
theorem od_div : OpD X T (binaryOp .FloorDiv) oDiv := opd_IC op_fdiv fun _ _ _ _ => .int _
theorem od_mod : OpD X T (binaryOp .Mod) oMod := opd_IC op_mod fun _ _ _ _ => .int _
theorem od_pow : OpD X T (binaryOp .Pow) oPow := opd_IC op_pow fun _ _ _ _ => .int _
theorem od_lt : OpD X T (compareOp .Lt) oLt := opd_I0 op_lt fun _ _ _ _ => .bl _
theorem od_le : OpD X T (compareOp .LtE) oLe := opd_I0 op_le fun _ _ _ _ => .bl _
theorem od_gt : OpD X T (compareOp .Gt) oGt := opd_I0 op_gt fun _ _ _ _ => .bl _
theorem od_ge : OpD X T (compareOp .GtE) oGe := opd_I0 op_ge fun _ _ _ _ => .bl _
def oNeg : G1 := fun x s R => match x with
  | .int i => R (.int (-i)) s
  | _ => False
theorem ud_neg : UnD X T (unaryOp .USub) oNeg := ⟨_, un_neg, fun F s H x vx R Q hh rx hg post => by
  unfold oNeg at hg
  split at hg
  · cases rx
    exact ⟨_, rfl, post _ s _ H F hg Ext.refl hh (.int _)⟩
  · exact hg.elim⟩
/-- + : ints, texts, lists, tuples -/
def oAdd : G2 := fun x y s R => match x, y with
  | .int i, .int j => R (.int (i + j)) s
  | .str a, .str b => a.length + b.length ≤ sizeLine ∧ R (.str (a ++ b)) s
  | .lst xs, .lst ys => xs.length + ys.length ≤ sizeLine ∧ R (.lst (xs ++ ys)) s
  | .tup xs, .tup ys => xs.length + ys.length ≤ sizeLine ∧ R (.tup (xs ++ ys)) s
  | _, _ => False
theorem od_add : OpD X T (binaryOp .Add) oAdd := .of (op_add.or (op_add_str.or (op_cat.or op_catA))) fun F s H x y vx vy R Q hh rx ry hg post => by
  unfold oAdd at hg
  split at hg
  · cases rx; cases ry
    exact .inl ⟨_, _, rfl, rfl, post _ s _ H F hg Ext.refl hh (.int _)⟩
  · cases rx; cases ry
    exact .inr (.inl ⟨_, _, rfl, rfl, hg.1, post _ s _ H F hg.2 Ext.refl hh (.str _)⟩)
  · cases rx with | lst l1 r1 => cases ry with | lst l2 r2 =>
      refine .inr (.inr (.inl ⟨_, _, _, _, rfl, rfl, hh.sub _ _ l1, hh.sub _ _ l2, by rw [← r1.length, ← r2.length]; exact hg.1, fun p np => ?_⟩))
      obtain ⟨h1, h2, h3⟩ := hh.frzL np (r1.append r2)
      exact post _ s _ _ _ hg.2 h2 h1 h3
  · cases rx with | tup l1 r1 => cases ry with | tup l2 r2 =>
      refine .inr (.inr (.inr ⟨_, _, _, _, rfl, rfl, sqt_mono hh.sub l1, sqt_mono hh.sub l2, by rw [← r1.length, ← r2.length]; exact hg.1, fun e => ?_, fun _ e => ?_, fun _ _ p np => ?_⟩))
      · subst e
        cases r1
        exact post _ s _ H F hg.2 Ext.refl hh (.tup l2 r2)
      · subst e
        cases r2
        rw [List.append_nil] at hg
        exact post _ s _ H F hg.2 Ext.refl hh (.tup l1 r1)
      · obtain ⟨h1, h2, h3⟩ := hh.frzT np (r1.append r2)
        exact post _ s _ _ _ hg.2 h2 h1 h3
  · exact hg.elim

/-! ### == and in -/
def oEq : G2 := fun x y s R => (x.eqOk = true ∧ y.eqOk = true) ∧ R (.bl (x.eqb y)) s
def oNe : G2 := fun x y s R => (x.eqOk = true ∧ y.eqOk = true) ∧ R (.bl (!x.eqb y)) s
theorem eqOk_pl {d : D} (h : d.eqOk = true) : d.pl = true ∧ SeqAt.shaped d.py = true := Bool.and_eq_true_iff.mp h
theorem od_eq (hu : X.A.units + 64 < cLine) : OpD X T (compareOp .Eq) oEq := .of (op_eqD hu) fun F s H x y vx vy R Q hh rx ry hg post => by
  obtain ⟨⟨h1, h2⟩, q⟩ := hg
  exact ⟨_, _, rep_dp hh.sub rx (eqOk_pl h1).1, rep_dp hh.sub ry (eqOk_pl h2).1, (eqOk_pl h1).2, (eqOk_pl h2).2, post _ s _ H F q Ext.refl hh (.bl _)⟩
theorem od_ne (hu : X.A.units + 64 < cLine) : OpD X T (compareOp .NotEq) oNe := .of (op_neD hu) fun F s H x y vx vy R Q hh rx ry hg post => by
  obtain ⟨⟨h1, h2⟩, q⟩ := hg
  exact ⟨_, _, rep_dp hh.sub rx (eqOk_pl h1).1, rep_dp hh.sub ry (eqOk_pl h2).1, (eqOk_pl h1).2, (eqOk_pl h2).2, post _ s _ H F q Ext.refl hh (.bl _)⟩
/-- x in a tuple, at any depth -/
def rInT (K : PySem.W.Frag) (neg : Bool) : R2 := fun x y H Q => ∃ d ds, Dp K H x d ∧ Dp K H y (.tuple ds) ∧ SeqAt.shaped d = true ∧ SeqAt.shaped (.tuple ds) = true ∧ Q (.bl (if neg then !(ds.any fun z => PyData.eqv z d) else ds.any fun z => PyData.eqv z d)) H
theorem op_inT (hu : X.A.units + 65 < cLine) : OpR X (compareOp .In) (rInT X.K false) := by
  intro pins s σ H x y v u Q I rx ry h
  obtain ⟨d, ds, hd, he, sd, se, q⟩ := h
  obtain ⟨as, r1⟩ := Dp.reads I d x v hd rx
  obtain ⟨bs, r2⟩ := Dp.reads I (.tuple ds) y u he ry
  exact SeqAt.in_tuple_reads r2 r1 (SeqAt.canLay_of_shaped se) (SeqAt.canLay_of_shaped sd) (room_in_shaped sd hu) ⟨.bl _, H, I, rfl, q⟩
theorem op_notInT (hu : X.A.units + 65 < cLine) : OpR X (compareOp .NotIn) (rInT X.K true) := by
  intro pins s σ H x y v u Q I rx ry h
  obtain ⟨d, ds, hd, he, sd, se, q⟩ := h
  obtain ⟨as, r1⟩ := Dp.reads I d x v hd rx
  obtain ⟨bs, r2⟩ := Dp.reads I (.tuple ds) y u he ry
  exact SeqAt.notIn_tuple_reads r2 r1 (SeqAt.canLay_of_shaped se) (SeqAt.canLay_of_shaped sd) (room_in_shaped sd hu) ⟨.bl _, H, I, rfl, q⟩
def isIn (x : D) (ds : List D) : Bool := ds.any fun z => z.eqb x
theorem isIn_py (x : D) (ds : List D) : (D.pys ds).any (fun z => PyData.eqv z x.py) = isIn x ds := by
  rw [D.pys_map, List.any_map]; rfl
def oIn (neg : Bool) : G2 := fun x y s R => match y with
  | .lst ds => (x.eqOk = true ∧ (D.lst ds).eqOk = true) ∧ R (.bl (if neg then !isIn x ds else isIn x ds)) s
  | .tup ds => (x.eqOk = true ∧ (D.tup ds).eqOk = true) ∧ R (.bl (if neg then !isIn x ds else isIn x ds)) s
  | .str t => match x with
    | .str a => R (.bl (if neg then !(!(Builtin.Str.occurrences t a 0 t.length 1).isEmpty) else !(Builtin.Str.occurrences t a 0 t.length 1).isEmpty)) s
    | _ => False
  | _ => False
theorem od_in (hu : X.A.units + 65 < cLine) : OpD X T (compareOp .In) (oIn false) := .of ((op_inD hu).or ((op_inT hu).or op_in_str)) fun F s H x y vx vy R Q hh rx ry hg post => by
  unfold oIn at hg
  split at hg
  · obtain ⟨⟨h1, h2⟩, q⟩ := hg
    have e := eqOk_pl h2
    have dp := rep_dp hh.sub ry e.1
    rw [D.py] at dp e
    refine .inl ⟨_, _, rep_dp hh.sub rx (eqOk_pl h1).1, dp, (eqOk_pl h1).2, e.2, ?_⟩
    rw [isIn_py]
    exact post _ s _ H F q Ext.refl hh (.bl _)
  · obtain ⟨⟨h1, h2⟩, q⟩ := hg
    have e := eqOk_pl h2
    have dp := rep_dp hh.sub ry e.1
    rw [D.py] at dp e
    refine .inr (.inl ⟨_, _, rep_dp hh.sub rx (eqOk_pl h1).1, dp, (eqOk_pl h1).2, e.2, ?_⟩)
    rw [isIn_py]
    exact post _ s _ H F q Ext.refl hh (.bl _)
  · split at hg
    · cases rx; cases ry
      exact .inr (.inr ⟨_, _, rfl, rfl, post _ s _ H F hg Ext.refl hh (.bl _)⟩)
    · exact hg.elim
  · exact hg.elim
theorem od_notIn (hu : X.A.units + 65 < cLine) : OpD X T (compareOp .NotIn) (oIn true) := .of ((op_notInD hu).or ((op_notInT hu).or op_notIn_str)) fun F s H x y vx vy R Q hh rx ry hg post => by
  unfold oIn at hg
  split at hg
  · obtain ⟨⟨h1, h2⟩, q⟩ := hg
    have e := eqOk_pl h2
    have dp := rep_dp hh.sub ry e.1
    rw [D.py] at dp e
    refine .inl ⟨_, _, rep_dp hh.sub rx (eqOk_pl h1).1, dp, (eqOk_pl h1).2, e.2, ?_⟩
    rw [isIn_py]
    exact post _ s _ H F q Ext.refl hh (.bl _)
  · obtain ⟨⟨h1, h2⟩, q⟩ := hg
    have e := eqOk_pl h2
    have dp := rep_dp hh.sub ry e.1
    rw [D.py] at dp e
    refine .inr (.inl ⟨_, _, rep_dp hh.sub rx (eqOk_pl h1).1, dp, (eqOk_pl h1).2, e.2, ?_⟩)
    rw [if_pos rfl, isIn_py]
    exact post _ s _ H F q Ext.refl hh (.bl _)
  · split at hg
    · cases rx; cases ry
      exact .inr (.inr ⟨_, _, rfl, rfl, post _ s _ H F hg Ext.refl hh (.bl _)⟩)
    · exact hg.elim
  · exact hg.elim
/-- is None -/
def oIsN (neg : Bool) : G2 := fun x y s R => match x, y with
  | .non, .non => R (.bl (!neg)) s
  | .bl _, .non | .int _, .non | .str _, .non | .lst _, .non | .tup _, .non | .dic _, .non | .exc _ _, .non => R (.bl neg) s
  | .rf v, .non => R (.bl (if neg then !decide (v = .non) else decide (v = .non))) s
  | _, _ => False
theorem od_isN : OpD X T (compareOp .Is) (oIsN false) := .of op_isN fun F s H x y vx vy R Q hh rx ry hg post => by
  unfold oIsN at hg
  split at hg <;> first
    | exact hg.elim
    | (cases rx; cases ry; exact ⟨rfl, post _ s _ H F hg Ext.refl hh (.bl _)⟩)
theorem od_notN : OpD X T (compareOp .IsNot) (oIsN true) := .of op_notN fun F s H x y vx vy R Q hh rx ry hg post => by
  unfold oIsN at hg
  split at hg <;> first
    | exact hg.elim
    | (cases rx; cases ry; exact ⟨rfl, post _ s _ H F hg Ext.refl hh (.bl _)⟩)
end
end Bk

/-! Bk: subscripts, slices, built-in calls, methods over deep data. -/
namespace Bk
open PySem PySem.Spec PyProof.Rows L2

/-- the items of a list -/
def lstOf : D → S → Option (List D)
  | .lst ds, _ => some ds
  | .scr ns, _ => some (ns.map .int)
  | .rf (.ref p), s => match s.mu p with
    | some (.ml ds) => some ds
    | _ => none
  | _, _ => none
/-- the items of a list or tuple -/
def seqOf (d : D) (s : S) : Option (List D) := match d with
  | .tup ds => some ds
  | d => lstOf d s
section
variable {X : Cx} {T : Tb} {W : WX} {K : PySem.W.Frag} {F H : Hp} {s : S}
theorem Rep.lstq (hh : Hold K T F s H) {d : D} {v : V} {ds : List D} (r : Rep K T F d v) (h : lstOf d s = some ds) : ∃ p xs, v = .ref p ∧ SqL K H p xs ∧ Reps K T F ds xs := by
  cases r with
  | lst l rr =>
    have e : some _ = some ds := h
    cases e
    exact ⟨_, _, rfl, sql_frz l hh.sub, rr⟩
  | scr l =>
    have e : some _ = some ds := h
    cases e
    exact ⟨_, _, rfl, hh.sub.seq l, reps_of_ints⟩
  | rf v =>
    cases v with
    | ref p =>
      have h' : (match s.mu p with | some (MO.ml ds) => some ds | _ => none) = some ds := h
      cases e : s.mu p with
      | none => rw [e] at h'; cases h'
      | some m =>
        rw [e] at h'
        cases m with
        | ml xs =>
          have e2 : some xs = some ds := h'
          cases e2
          obtain ⟨_, vs, hp, rr⟩ := hh.mu _ _ e
          exact ⟨_, _, rfl, SqL.of hp, rr⟩
        | mk _ => cases h'
        | mo _ _ => cases h'
    | _ => exact (nomatch (show (none : Option (List D)) = some ds from h))
  | _ => exact (nomatch (show (none : Option (List D)) = some ds from h))
theorem Rep.seq (hh : Hold K T F s H) {d : D} {v : V} {ds : List D} (r : Rep K T F d v) (h : seqOf d s = some ds) : ∃ p xs, v = .ref p ∧ (SqL K H p xs ∨ SqT K H p xs) ∧ Reps K T F ds xs := by
  have go : lstOf d s = some ds → ∃ p xs, v = .ref p ∧ (SqL K H p xs ∨ SqT K H p xs) ∧ Reps K T F ds xs := fun q => by
    obtain ⟨p, xs, e, hq, rr⟩ := r.lstq hh q
    exact ⟨p, xs, e, .inl hq, rr⟩
  cases r with
  | tup l rr =>
    have e : some _ = some ds := h
    cases e
    exact ⟨_, _, rfl, .inr (sqt_mono hh.sub l), rr⟩
  | _ => exact go h

/-! ### a[b] -/
def IxD (X : Cx) (T : Tb) (g : G2) : Prop := ∃ r : R2, IxR X r ∧ ∀ F s H x y vx vy R Q, Hold X.K T F s H → Rep X.K T F x vx → Rep X.K T F y vy → g x y s R → Post X.K T F s H R Q → r vx vy H Q
theorem dx_ix {a b : Expr} {fa fb : Exp} {g : G2} {pos : Pos} (hr : IxD X T g) (ha : DX X T W a fa) (hb : DX X T W b fb) (hs : PlainIx b) : DX X T W (.Subscript a b pos) (dOp g fa fb) := by
  obtain ⟨r, h1, h2⟩ := hr
  exact ⟨pe_imp (pe_ix h1 ha.pe hb.pe hs) fun σ H Q h => lift2 h2 h⟩
def oIx : G2 := fun x y s R => match y with
  | .int i => match x with
    | .str z => z.length ≤ sizeLine ∧ ∃ c, atI z.cps.toList i = some c ∧ R (.str ⟨#[c]⟩) s
    | x => ∃ ds d, seqOf x s = some ds ∧ atI ds i = some d ∧ R d s
  | _ => False
theorem Reps.atI : ∀ {ds : List D} {vs : List V} {i : Int} {d : D}, Reps K T F ds vs → L2.atI ds i = some d → ∃ v, L2.atI vs i = some v ∧ Rep K T F d v := fun {ds vs i d} r h => by
  unfold L2.atI at h ⊢
  rw [← r.length]
  cases e : ixN ds.length i with
  | none => rw [e] at h; cases h
  | some j =>
    rw [e] at h
    exact r.getD h
theorem ixd_seq : IxD X T oIx := ⟨_, ix_seq, fun F s H x y vx vy R Q hh rx ry hg post => by
  unfold oIx at hg
  split at hg
  · rename_i i
    cases ry
    split at hg
    · cases rx
      obtain ⟨h1, c, h2, q⟩ := hg
      exact .inr (.inr ⟨_, _, c, rfl, rfl, h1, h2, post _ s _ H F q Ext.refl hh (.str _)⟩)
    · obtain ⟨ds, d, h1, h2, q⟩ := hg
      obtain ⟨p, xs, rfl, hq, rr⟩ := rx.seq hh h1
      obtain ⟨v, h3, rv⟩ := rr.atI h2
      have e := post d s v H F q Ext.refl hh rv
      rcases hq with hq | hq
      · exact .inl ⟨_, _, _, _, rfl, rfl, hq, h3, e⟩
      · exact .inr (.inl ⟨_, _, _, _, rfl, rfl, hq, h3, e⟩)
  · exact hg.elim⟩

/-! ### slices -/
abbrev Prt := DEnv → S → (Option Int → S → Prop) → XQ → Prop
structure DPO (X : Cx) (T : Tb) (W : WX) (e : Option Expr) (f : Prt) : Prop where
  po : PO X e (fun σ H Q => ∃ (F : Hp) (e : DEnv) (s : S) (R : Option Int → S → Prop) (E : XQ), ERep X.K T F e σ ∧ Hold X.K T F s H ∧ XOk X.K T W F s H E σ ∧ f e s R E ∧ ∀ o s' H' F', R o s' → Ext F s H F' s' H' → Hold X.K T F' s' H' → Q o H')
def dNoPart : Prt := fun _ s R _ => R none s
def dPart (f : Exp) : Prt := fun e s R E => f e s (fun d s1 => match d with
  | .int i => R (some i) s1
  | _ => False) E
theorem dpo_none : DPO X T W none dNoPart := ⟨⟨fun pins s σ H Q I ⟨F, e, s0, R, E, he, hh, hx, hf, k⟩ => po_none.run pins s σ H Q I (k none s0 H F hf Ext.refl hh)⟩⟩
theorem dpo_some {a : Expr} {fa : Exp} (h : DX X T W a fa) : DPO X T W (some a) (dPart fa) := ⟨⟨fun pins s σ H Q I ⟨F, e, s0, R, E, he, hh, hx, hf, k⟩ => (po_some h.pe).run pins s σ H Q I ⟨F, e, s0, _, E, he, hh, hx, hf, fun d s1 v H1 F1 q x hh1 r => by
  split at q
  · cases r; exact ⟨_, rfl, k _ s1 H1 F1 q x hh1⟩
  · exact q.elim⟩⟩⟩
def cutD (xs : List D) (lo hi : Option Int) : List D := (xs.drop (HT.sIx xs.length 0 lo)).take (HT.sIx xs.length xs.length hi - HT.sIx xs.length 0 lo)
theorem Reps.cut {ds : List D} {vs : List V} (r : Reps K T F ds vs) (lo hi : Option Int) : Reps K T F (cutD ds lo hi) (cutV vs lo hi) := by
  unfold cutD cutV
  rw [r.length]
  exact (r.drop _).take _
def oSl (x : D) (lo hi : Option Int) (s : S) (R : Q1) : Prop := match x with
  | .str z => z.length ≤ sizeLine ∧ R (.str (cutS z lo hi)) s
  | .tup ds => R (.tup (cutD ds lo hi)) s
  | x => ∃ ds, lstOf x s = some ds ∧ R (.lst (cutD ds lo hi)) s
def dSl (f : Exp) (l h : Prt) : Exp := fun e s R E => f e s (fun d s1 => l e s1 (fun lo s2 => h e s2 (fun hi s3 => oSl d lo hi s3 R) E) E) E
theorem cutD_whole {xs : List D} {lo hi : Option Int} (h : HT.sIx xs.length 0 lo = 0 ∧ HT.sIx xs.length xs.length hi = xs.length) : cutD xs lo hi = xs := by
  unfold cutD
  rw [h.1, h.2]
  simp
theorem dx_slice {a : Expr} {fa : Exp} {lo hi : Option Expr} {l h : Prt} {p2 pos : Pos} (ha : DX X T W a fa) (hl : DPO X T W lo l) (hh : DPO X T W hi h) : DX X T W (.Subscript a (.Slice lo hi none p2) pos) (dSl fa l h) := ⟨pe_imp (pe_slice (sl_str.or (sl_list.or sl_tupA)) ha.pe hl.po hh.po) fun σ H Q hq => by
  obtain ⟨F, e, s, R, E, he, hd, hx, hf, post⟩ := hq
  refine ⟨F, e, s, _, E, he, hd, hx, hf, fun d s1 v H1 F1 q1 x1 hd1 r1 => ⟨F1, e, s1, _, E, he.mono x1.same, hd1, hx.mono x1, q1, fun o1 s2 H2 F2 q2 x2 hd2 => ⟨F2, e, s2, _, E, (he.mono x1.same).mono x2.same, hd2, (hx.mono x1).mono x2, q2, fun o2 s3 H3 F3 q3 x3 hd3 => ?_⟩⟩⟩
  have r3 := (r1.mono x2.same).mono x3.same
  have px := ((post.mono x1).mono x2).mono x3
  unfold oSl at q3
  split at q3
  · cases r3
    exact .inl ⟨_, rfl, q3.1, px _ s3 _ H3 F3 q3.2 Ext.refl hd3 (.str _)⟩
  · cases r3 with | tup l1 rr =>
      refine .inr (.inr ⟨_, _, rfl, sqt_mono hd3.sub l1, fun w => ?_, fun _ p np => ?_⟩)
      · rw [← rr.length] at w
        rw [cutD_whole w] at q3
        exact px _ s3 _ H3 F3 q3 Ext.refl hd3 (.tup l1 rr)
      · obtain ⟨h1, h2, h3⟩ := hd3.frzT np (rr.cut o1 o2)
        exact px _ s3 _ _ _ q3 h2 h1 h3
  · rename_i nstr ntup
    obtain ⟨ds, h1, q⟩ := q3
    obtain ⟨p, xs, rfl, hL, rr⟩ := r3.lstq hd3 h1
    refine .inr (.inl ⟨p, xs, rfl, hL, fun t nt => ?_⟩)
    obtain ⟨a1, a2, a3⟩ := hd3.frzL nt (rr.cut o1 o2)
    exact px _ s3 _ _ _ q a2 a1 a3⟩

/-! ### built-in calls by value -/
theorem CallD.of {f : Value} {g : GA} {r : List V → Hp → VK → Prop} (h : CallR X f r) (k : ∀ F s H ds vs R Q, Hold X.K T F s H → Reps X.K T F ds vs → g ds s R → Post X.K T F s H R Q → r vs H Q) : CallD X T f g := ⟨r, h, k⟩
def cLen : GA := fun ds s R => match ds with
  | [.str z] => z.length ≤ sizeLine ∧ R (.int z.length) s
  | [x] => ∃ xs, seqOf x s = some xs ∧ R (.int xs.length) s
  | _ => False
theorem cd_len : CallD X T (.builtin "len") cLen := .of call_len fun F s H ds vs R Q hh rs hg post => by
  unfold cLen at hg
  split at hg
  · obtain ⟨v, rfl, r⟩ := rs.one
    cases r
    exact ⟨_, _, rfl, ⟨hg.1, rfl⟩, post _ s _ H F hg.2 Ext.refl hh (.int _)⟩
  · obtain ⟨v, rfl, r⟩ := rs.one
    obtain ⟨xs, h1, q⟩ := hg
    obtain ⟨p, ys, rfl, hq, rr⟩ := r.seq hh h1
    have e := post _ s _ H F q Ext.refl hh (.int _)
    refine ⟨_, xs.length, rfl, ?_, e⟩
    rcases hq with hq | hq
    · exact .inl ⟨ys, hq, rr.length⟩
    · exact .inr ⟨ys, hq, rr.length⟩
  · exact hg.elim
def cList : GA := fun ds s R => match ds with
  | [x] => ∃ xs, seqOf x s = some xs ∧ R (.lst xs) s
  | _ => False
theorem cd_list : CallD X T (.type "list") cList := .of call_list_of fun F s H ds vs R Q hh rs hg post => by
  unfold cList at hg
  split at hg
  · obtain ⟨v, rfl, r⟩ := rs.one
    obtain ⟨xs, h1, q⟩ := hg
    obtain ⟨p, ys, rfl, hq, rr⟩ := r.seq hh h1
    refine ⟨p, ys, rfl, hq, fun l nl => ?_⟩
    obtain ⟨a1, a2, a3⟩ := hh.frzL nl rr
    exact post _ s _ _ _ q a2 a1 a3
  · exact hg.elim
/-- .. to be changed -/
def cListM : GA := fun ds s R => match ds with
  | [x] => ∃ xs, seqOf x s = some xs ∧ ∀ p, s.mu p = none → R (.rf (.ref p)) (s.put p (.ml xs))
  | _ => False
theorem cd_listM : CallD X T (.type "list") cListM := .of call_list_of fun F s H ds vs R Q hh rs hg post => by
  unfold cListM at hg
  split at hg
  · obtain ⟨v, rfl, r⟩ := rs.one
    obtain ⟨xs, h1, q⟩ := hg
    obtain ⟨p, ys, rfl, hq, rr⟩ := r.seq hh h1
    refine ⟨p, ys, rfl, hq, fun l nl => ?_⟩
    exact post _ _ _ _ F (q l (hh.freshM nl)) (Ext.new hh nl) (hh.new nl ⟨ys, rfl, rr⟩) (.rf _)
  · exact hg.elim
def cTuple : GA := fun ds s R => match ds with
  | [x] => ∃ xs, seqOf x s = some xs ∧ R (.tup xs) s
  | _ => False
theorem cd_tuple : CallD X T (.type "tuple") cTuple := .of call_tuple_of fun F s H ds vs R Q hh rs hg post => by
  unfold cTuple at hg
  split at hg
  · rename_i x
    obtain ⟨v, rfl, r⟩ := rs.one
    obtain ⟨xs, h1, q⟩ := hg
    have go : ∀ {p ys}, v = .ref p → SqL X.K H p ys → Reps X.K T F xs ys → ∃ p ys, [v] = [V.ref p] ∧ ((SqL X.K H p ys ∧ ∀ l, H l = none → Q (.ref l) (upd H l (.tup ys))) ∨ (SqT X.K H p ys ∧ Q (.ref p) H)) := fun {p ys} e hL rr => by
      refine ⟨p, ys, by rw [e], .inl ⟨hL, fun l nl => ?_⟩⟩
      obtain ⟨a1, a2, a3⟩ := hh.frzT nl rr
      exact post _ s _ _ _ q a2 a1 a3
    have go2 : lstOf x s = some xs → ∃ p ys, [v] = [V.ref p] ∧ ((SqL X.K H p ys ∧ ∀ l, H l = none → Q (.ref l) (upd H l (.tup ys))) ∨ (SqT X.K H p ys ∧ Q (.ref p) H)) := fun h2 => by
      obtain ⟨p, ys, e, hL, rr⟩ := r.lstq hh h2
      exact go e hL rr
    cases r with
    | tup l rr =>
      have e : some _ = some xs := h1
      cases e
      exact ⟨_, _, rfl, .inr ⟨sqt_mono hh.sub l, post _ s _ H F q Ext.refl hh (.tup l rr)⟩⟩
    | _ => exact go2 h1
  · exact hg.elim
def cInt : GA := fun ds s R => match ds with
  | [.int i] => R (.int i) s
  | [.bl k] => R (.int (if k then 1 else 0)) s
  | _ => False
theorem cd_int : CallD X T (.type "int") cInt := .of call_int1 fun F s H ds vs R Q hh rs hg post => by
  unfold cInt at hg
  split at hg
  · obtain ⟨v, rfl, r⟩ := rs.one
    cases r
    exact .inl ⟨_, rfl, post _ s _ H F hg Ext.refl hh (.int _)⟩
  · obtain ⟨v, rfl, r⟩ := rs.one
    cases r
    exact .inr ⟨_, rfl, post _ s _ H F hg Ext.refl hh (.int _)⟩
  · exact hg.elim
theorem Reps.two {d e : D} {vs : List V} (h : Reps K T F [d, e] vs) : ∃ v w, vs = [v, w] ∧ Rep K T F d v ∧ Rep K T F e w := by
  cases h with | cons a r => obtain ⟨w, rfl, q⟩ := r.one; exact ⟨_, _, rfl, a, q⟩
def c2I (g : Int → Int → Int) : GA := fun ds s R => match ds with
  | [.int i, .int j] => R (.int (g i j)) s
  | _ => False
theorem cd_max2 (hc : X.calm = true) : CallD X T (.builtin "max") (c2I fun i j => if j > i then j else i) := .of (call_max2 hc) fun F s H ds vs R Q hh rs hg post => by
  unfold c2I at hg
  split at hg
  · obtain ⟨v, w, rfl, r1, r2⟩ := rs.two
    cases r1; cases r2
    exact ⟨_, _, rfl, post _ s _ H F hg Ext.refl hh (.int _)⟩
  · exact hg.elim
theorem cd_min2 (hc : X.calm = true) : CallD X T (.builtin "min") (c2I fun i j => if j < i then j else i) := .of (call_min2 hc) fun F s H ds vs R Q hh rs hg post => by
  unfold c2I at hg
  split at hg
  · obtain ⟨v, w, rfl, r1, r2⟩ := rs.two
    cases r1; cases r2
    exact ⟨_, _, rfl, post _ s _ H F hg Ext.refl hh (.int _)⟩
  · exact hg.elim
/-- a list of bools -/
def bls : List D → Option (List Bool)
  | [] => some []
  | .bl b :: r => (bls r).map (b :: ·)
  | _ => none
theorem bls_reps : ∀ {ds : List D} {vs : List V} {bs : List Bool}, Reps K T F ds vs → bls ds = some bs → vs = bs.map V.bl
  | [], _, _, .nil, h => by cases h; rfl
  | d :: ds, _, bs, .cons r rr, h => by
    cases r with
    | bl b =>
      rw [bls] at h
      cases e : bls ds with
      | none => rw [e] at h; cases h
      | some cs =>
        rw [e] at h
        cases h
        rw [bls_reps rr e]; rfl
    | _ => simp [bls] at h
def cAll (any : Bool) : GA := fun ds s R => match ds with
  | [.lst xs] => ∃ bs, bls xs = some bs ∧ R (.bl (if any then bs.any id else bs.all id)) s
  | _ => False
theorem cd_all (hc : X.calm = true) : CallD X T (.builtin "all") (cAll false) := .of (cr_all hc) fun F s H ds vs R Q hh rs hg post => by
  unfold cAll at hg
  split at hg
  · obtain ⟨v, rfl, r⟩ := rs.one
    obtain ⟨bs, h1, q⟩ := hg
    cases r with | lst l rr =>
      have e := bls_reps rr h1
      subst e
      exact ⟨_, bs, rfl, sql_frz l hh.sub, post _ s _ H F q Ext.refl hh (.bl _)⟩
  · exact hg.elim
theorem cd_any (hc : X.calm = true) : CallD X T (.builtin "any") (cAll true) := .of (cr_any hc) fun F s H ds vs R Q hh rs hg post => by
  unfold cAll at hg
  split at hg
  · obtain ⟨v, rfl, r⟩ := rs.one
    obtain ⟨bs, h1, q⟩ := hg
    cases r with | lst l rr =>
      have e := bls_reps rr h1
      subst e
      exact ⟨_, bs, rfl, sql_frz l hh.sub, post _ s _ H F q Ext.refl hh (.bl _)⟩
  · exact hg.elim
/-- a list of ints -/
def intL : List D → Option (List Int)
  | [] => some []
  | .int b :: r => (intL r).map (b :: ·)
  | _ => none
theorem intL_reps : ∀ {ds : List D} {vs : List V} {bs : List Int}, Reps K T F ds vs → intL ds = some bs → vs = bs.map V.int
  | [], _, _, .nil, h => by cases h; rfl
  | d :: ds, _, bs, .cons r rr, h => by
    cases r with
    | int b =>
      rw [intL] at h
      cases e : intL ds with
      | none => rw [e] at h; cases h
      | some cs =>
        rw [e] at h
        cases h
        rw [intL_reps rr e]; rfl
    | _ => simp [intL] at h
def cSum : GA := fun ds s R => match ds with
  | [.lst xs] => ∃ bs, intL xs = some bs ∧ R (.int bs.sum) s
  | _ => False
theorem cd_sum (hc : X.calm = true) : CallD X T (.builtin "sum") cSum := .of (cr_sum hc) fun F s H ds vs R Q hh rs hg post => by
  unfold cSum at hg
  split at hg
  · obtain ⟨v, rfl, r⟩ := rs.one
    obtain ⟨bs, h1, q⟩ := hg
    cases r with | lst l rr =>
      have e := intL_reps rr h1
      subst e
      exact ⟨_, bs, rfl, sql_frz l hh.sub, post _ s _ H F q Ext.refl hh (.int _)⟩
  · exact hg.elim
/-! ### xs.append(e) -/
def dApp (a f : Exp) : DTS := fun D e s => a e s (fun d s1 => match d with
  | .rf (.ref p) => (∃ ds, s1.mu p = some (.ml ds)) ∧ f e s1 (fun y s2 => ∃ ds, s2.mu p = some (.ml ds) ∧ ds.length < sizeLine ∧ D.nx e (s2.put p (.ml (ds ++ [y])))) (fun x s' => D.ex x e s')
  | _ => False) (fun x s' => D.ex x e s')
theorem ds_app {a b : Expr} {fa fb : Exp} {p1 p2 pos : Pos} (ha : DX X T W a fa) (hb : DX X T W b fb)
    (h : ∀ {to : TE} {t : TA}, PE X a to → PA X [b] t → PE X (.Call (.Attribute a "append" p1) [b] [] p2) (tBM X.K "list" rAppend to t))
    (hs : starEach [b] X.env = (false, eval b X.env) :: starEach [] X.env := by rfl) (hsw : swapsWith (.Call (.Attribute a "append" p1) [b] [] p2) none pos.line X.env = pure false := by rfl) :
    DS X T W (.Expr (.Call (.Attribute a "append" p1) [b] [] p2) pos) (dApp fa fb) := ⟨ps_imp (ps_expr (h ha.pe (pa_cons hb.pe pa_nil hs)) hsw) fun Q σ H ⟨F, e, s, D, he, hh, ht, p⟩ => by
  refine ⟨F, e, s, _, _, he, hh, p.xok he, ht, fun d s1 v H1 F1 q1 x1 hh1 r1 => ?_⟩
  split at q1
  · rename_i pp
    obtain ⟨⟨ds0, h0⟩, q1⟩ := q1
    cases r1
    obtain ⟨_, vs0, hp0, _⟩ := hh1.mu _ _ h0
    refine ⟨.inl ⟨rfl, _, SqL.of hp0⟩, F1, e, s1, _, _, he.mono x1.same, hh1, (p.mono x1).xok (he.mono x1.same), q1, fun y s2 w H2 F2 q2 x2 hh2 r2 => ?_⟩
    obtain ⟨ds, h1, h2, q3⟩ := q2
    obtain ⟨_, vs, hp, rr⟩ := hh2.mu _ _ h1
    refine ⟨pp, vs, w, rfl, rfl, hp, by rw [← rr.length]; exact h2, ?_⟩
    exact p.nx e _ σ _ F2 q3 ((x1.trans x2).trans (Ext.wr hh2 h1)) (hh2.wr h1 ⟨_, rfl, rr.append (.cons r2 .nil)⟩) ((he.mono x1.same).mono x2.same)
  · exact q1.elim⟩
end
end Bk

/-! Bk: repr of deep data. -/
namespace Bk
open PySem PySem.Spec PyProof.Rows L2
/-- what repr writes -/
def shown (d : D) : Str := d.py.shown
/-- repr may be asked of it -/
def D.shOk (d : D) : Prop := d.pl = true ∧ d.py.showable = true ∧ d.py.depth ≤ 64 ∧ d.py.shown.length ≤ sizeLine
mutual
theorem noDict_pl : ∀ d : D, d.pl = true → d.py.hasDict = false
  | .non, _ | .bl _, _ | .int _, _ | .str _, _ => by simp [D.py, PyData.hasDict]
  | .lst xs, h | .tup xs, h | .pln xs, h => by
    rw [D.pl] at h
    rw [D.py, PyData.hasDict]
    exact noDict_pls xs h
  | .dic _, h | .rf _, h | .scr _, h | .exc _ _, h | .obj _ _, h | .clo _ _ _, h => by rw [D.pl] at h; cases h
theorem noDict_pls : ∀ ds : List D, D.pls ds = true → PyData.hasDictAll (D.pys ds) = false
  | [], _ => by rw [D.pys, PyData.hasDictAll]
  | d :: ds, h => by
    rw [D.pls, Bool.and_eq_true] at h
    rw [D.pys, PyData.hasDictAll, noDict_pl d h.1, noDict_pls ds h.2]; rfl
end
def cRepr : GA := fun ds s R => match ds with
  | [x] => x.shOk ∧ ∀ a, shown x = a → R (.str a) s
  | _ => False
section
variable {X : Cx} {T : Tb}
theorem call_reprD (hg : X.A.guards = some []) (hu : X.A.units + 66 < cLine) : CallR X (.builtin "repr") (fun vs H Q => ∃ v d, vs = [v] ∧ Dp X.K H v d ∧ d.hasDict = false ∧ d.showable = true ∧ d.depth ≤ 64 ∧ d.shown.length ≤ sizeLine ∧ Q (.str d.shown) H) := by
  intro pins s σ H vs us Q I r h
  obtain ⟨v, d, rfl, dp, hd, h1, h2, h3, q⟩ := h
  obtain ⟨u, rfl, ru⟩ := vals1 r
  obtain ⟨as, rd⟩ := Dp.reads I d v u dp ru
  have big : ∀ {a : Addr} {s' : Shared}, (∀ b o, s.heap.get? b = some o → s'.heap.get? b = some o) → True := fun _ => trivial
  cases dp with
  | non =>
    cases ru
    exact PySem.P.repr_of_none ⟨.str _, H, I.tok _, ⟨_, rfl⟩, q⟩
  | bl b =>
    cases ru
    exact PySem.P.repr_of_bool ⟨.str _, H, I.tok _, ⟨_, rfl⟩, q⟩
  | int i =>
    obtain ⟨t, rfl⟩ := ru
    exact PySem.P.repr_of_int (by simpa [PyData.showable] using h1) ⟨.str _, H, I.tok _, ⟨_, rfl⟩, q⟩
  | str x =>
    obtain ⟨t, rfl⟩ := ru
    exact PySem.P.repr_of_str ⟨.str _, H, I.tok _, ⟨_, rfl⟩, q⟩ h3
  | lst _ _ =>
    cases ru
    exact repr_of_reads' rd h1 (fun z => by rw [hd] at z; cases z) hg (by omega) (fun _ _ e => e) (fun h' u tk hk => ⟨.str _, H, I.kept hk, ⟨_, rfl⟩, q⟩) h3
  | tup _ _ =>
    cases ru
    exact repr_of_reads' rd h1 (fun z => by rw [hd] at z; cases z) hg (by omega) (fun _ _ e => e) (fun h' u tk hk => ⟨.str _, H, I.kept hk, ⟨_, rfl⟩, q⟩) h3
theorem cd_repr (hg : X.A.guards = some []) (hu : X.A.units + 66 < cLine) : CallD X T (.builtin "repr") cRepr := .of (call_reprD hg hu) fun F s H ds vs R Q hh rs hgg post => by
  unfold cRepr at hgg
  split at hgg
  · obtain ⟨v, rfl, r⟩ := rs.one
    obtain ⟨⟨h1, h2, h3, h4⟩, q⟩ := hgg
    exact ⟨v, _, rfl, rep_dp hh.sub r h1, noDict_pl _ h1, h2, h3, h4, post _ s _ H F (q _ rfl) Ext.refl hh (.str _)⟩
  · exact hgg.elim
end
end Bk

/-! Bk: the end: a law row from the promise of its def. -/
namespace Bk
open PySem PySem.Spec PyProof.Rows L2 LamX

section
variable {P : Program} {w : World} {K : PySem.W.Frag} {mg mb : Str → Option Value} {k : Nat} {fa a : Addr} {tabs : List (Addr × Addr)} {fd : FuncData} {x : Str} {sp : Sp} {st : Shared} {its : List Value} {ns : List Int}
/-- the start of all: nothing is tracked but the code objects' tables, and the script, locked -/
def H0 (tabs : List (Addr × Addr)) (sc : Option (Addr × HO)) : Hp := fun b => if b ∈ tabs.map (·.2) then some (.tbl #[]) else match sc with
  | some (a, o) => if b = a then some o else none
  | none => none
structure Start (K : PySem.W.Frag) (mg mb : Str → Option Value) (tabs : List (Addr × Addr)) (st : Shared) : Prop where
  kin : K.In st.heap
  ns : st.heap.Ns mainGlobals mg
  nb : st.heap.Ns builtinsNs mb
  boot : ∀ y : Str, y ≠ "__name__" → mb y = bootBuiltins y
  lim : st.heap.NoLimit
  sm : ∃ mm, st.heap.Ns sysModules mm
  gens : st.gens = #[]
  tab : ∀ p ∈ tabs, st.heap.get? p.2 = some { cls := .none, data := .fields #[] }
  tabK : ∀ p ∈ tabs, K.lookup p.2 = none
  code : ∀ p ∈ tabs, PySem.W.CodeHd st.heap p.1 p.2
  bm : tabs ≠ [] → ∃ (bm : Addr) (ob : Obj), mg "__builtins__" = some (.ref bm) ∧ bm ≠ builtinsNs ∧ st.heap.get? bm = some ob ∧ ob.cls = .type "module" ∧ ob.dict = some builtinsNs ∧ ob.data = .plain
theorem run_start {H : Hp} (S : Start K mg mb tabs st) (sc : st.heap.get? a = some { cls := .type "list", data := .seq its.toArray })
    (trk : ∀ b, H b ≠ none → b = a ∨ b ∈ tabs.map (·.2)) (tbl : ∀ p ∈ tabs, H p.2 = some (.tbl #[])) (lock : ∀ b, b ∉ tabs.map (·.2) → H b ≠ none → ∃ o ys, H b = some (.frz o (.lst ys))) (free : H a ≠ none → K.lookup a = none)
    (seq : SqL K H a (ns.map V.int)) (ok : HOk P w H st.heap) (hr : Room k callerA)
    (G : ∀ base : Heap, K.In base → base.Ns mainGlobals mg → (∀ p ∈ tabs, TabB base mg p.1 p.2) → (∃ mm, base.Ns sysModules mm) → GFn P w K mg base k fa fd [x] sp) (hbind : ∀ (s : Shared) (u : Value), BindsTo s fd ⟨[u], []⟩ [(x, u)])
    (hsp : sp [.ref a] H (fun v _ => v = .bl true) fun _ _ _ => False) :
    codeAny (model P w) callerA (.call (.ref fa) ⟨[.ref a], []⟩) (fun r s' => r = .ok (.ret (.bool true)) ∧ OldK st.heap s'.heap ∧ s'.os = st.os ∧ AllBare s'.gens) st := by
  have tabAt : ∀ b, b ∈ tabs.map (·.2) → st.heap.get? b = some { cls := .none, data := .fields #[] } := by
    intro b hb
    obtain ⟨p, hp, rfl⟩ := List.mem_map.mp hb
    exact S.tab p hp
  -- what is neither a list nor an empty record is not tracked
  have hidden : ∀ {b : Addr} {o : Obj}, st.heap.get? b = some o → (∀ ys n, o.data ≠ .seq ys n) → o.data ≠ .fields #[] → H b = none := by
    intro b o e h1 h2
    cases q : H b with
    | none => rfl
    | some u =>
      rcases trk b (by rw [q]; simp) with z | z
      · rw [z, sc] at e; cases e; exact absurd rfl (h1 _ _)
      · rw [tabAt b z] at e; cases e; exact absurd rfl h2
  have spaces : ∀ {b : Addr} {m : Str → Option Value}, st.heap.Ns b m → (hidT st.heap H).Ns b m := by
    rintro b m ⟨o, es, ep, e, hd, more⟩
    exact ⟨o, es, ep, hidT_get e (hidden e (fun _ _ z => by rw [hd] at z; cases z) fun z => by rw [hd] at z; cases z), hd, more⟩
  have kin : K.In (hidT st.heap H) := by
    intro b o e
    refine hidT_get (S.kin b o e) ?_
    cases q : H b with
    | none => rfl
    | some u =>
      rcases trk b (by rw [q]; simp) with z | z
      · rw [z] at e q; rw [free (by rw [q]; simp)] at e; cases e
      · obtain ⟨p, hp, ep⟩ := List.mem_map.mp z
        rw [← ep, S.tabK p hp] at e; cases e
  obtain ⟨mc, lim1, lim2⟩ := S.lim
  have mod : L2.Mod K mg (hidT st.heap H) := ⟨kin, spaces S.ns, ⟨mb, spaces S.nb, S.boot⟩, ⟨mc, spaces lim1, lim2⟩⟩
  have tb : ∀ p ∈ tabs, TabB (hidT st.heap H) mg p.1 p.2 := by
    intro p hp
    have here := S.tab p hp
    have noD : ∀ {b : Addr} {o : Obj}, st.heap.get? b = some o → o.data = .plain → (hidT st.heap H).get? b = some o := fun e hd => hidT_get e (hidden e (fun _ _ z => by rw [hd] at z; cases z) fun z => by rw [hd] at z; cases z)
    obtain ⟨bm, ob, b1, b2, b3, b4, b5, b6⟩ := S.bm (fun z => by rw [z] at hp; cases hp)
    obtain ⟨go, ges, gep, g1, g2, _⟩ := id S.ns
    refine ⟨?_, ⟨bm, ob, b1, b2, ?_, ?_, noD b3 b6, b4, b5, b6⟩, ?_⟩
    · obtain ⟨o, us, file, tf, flags, tg, inF, text, tt, e1, r1, r2, r3, r4, r5, r6, r7, r8, hne⟩ := S.code p hp
      refine ⟨o, us, file, tf, flags, tg, inF, text, tt, hidT_get e1 (hidden e1 ?_ ?_), r1, r2, r3, r4, r5, r6, r7, r8, hne⟩
      · intro _ _ z; rw [r2] at z; cases z
      · intro z; rw [r2] at z; cases z; simp at r3
    · intro q; rw [q, g1] at b3; cases b3; rw [g2] at b6; cases b6
    · intro q; rw [q, here] at b3; cases b3; cases b6
    · intro z; rw [z, here] at g1; cases g1; cases g2
  have env : Env0 P w K mg (hidT st.heap H) callerA [] st H := ⟨rfl, mod, fun b o e => of_hidT e, Nat.le_of_eq (hidT_size _ _), trivial, fun b hb => (nomatch (show b ∈ ([] : List Addr) from hb)), ok, .of_eq S.gens⟩
  have run := (G _ kin (spaces S.ns) tb (let ⟨mm, z⟩ := S.sm; ⟨mm, spaces z⟩)).run callerA [] st H ⟨[.ref a], []⟩ [.ref a] [.ref a] _ _ hr rfl env (hbind st (.ref a)) (.cons rfl .nil) hsp
  refine codeAny_mono run ?_
  intro res s' h
  match res, h with
  | .error e, h => obtain ⟨_, _, _, _, _, _, _, _, _, _, _, _, z⟩ := h; exact z.elim
  | .ok .next, h => exact h.elim
  | .ok .brk, h => exact h.elim
  | .ok .cont, h => exact h.elim
  | .ok (.ret u), h =>
    obtain ⟨v, H', os, bare, un, ok', rv, (q : v = .bl true)⟩ := h
    subst q
    have eu : u = Value.bool true := rv
    subst eu
    have stay : ∀ b o, b ∉ tabs.map (·.2) → st.heap.get? b = some o → s'.heap.get? b = some o := by
      intro b o nb e
      cases q : H b with
      | none => exact un.keep b o e q (fun z => (nomatch (show b ∈ ([] : List Addr) from z))) (fun z => (nomatch z))
      | some u =>
        obtain ⟨ob, ys, z⟩ := lock b nb (by rw [q]; simp)
        have e1 := (ok b _ z).1
        have e2 := (ok' b _ (un.frzs b ob _ z)).1
        rw [e] at e1; cases e1; exact e2
    have grew : ∀ b, b ∈ tabs.map (·.2) → ∃ more : Array Value, s'.heap.get? b = some { cls := .none, data := .fields more } := by
      intro b hb
      obtain ⟨p, hp, rfl⟩ := List.mem_map.mp hb
      obtain ⟨more, z⟩ := un.tbls p.2 #[] (tbl p hp)
      exact ⟨_, ok' p.2 _ z⟩
    refine ⟨rfl, ⟨?_, ?_⟩, os, bare⟩
    · intro b o e
      by_cases hb : b ∈ tabs.map (·.2)
      · obtain ⟨more, hm⟩ := grew b hb
        have e0 := tabAt b hb
        rw [e] at e0; cases e0
        obtain ⟨p, hp, ep⟩ := List.mem_map.mp hb
        have isT := ((S.code p hp).tab (S.tab p hp)).isCodeTable
        rw [ep] at isT
        exact .inr (.inl ⟨isT, rfl, #[], more, rfl, by rw [Array.empty_append]; exact hm⟩)
      · exact .inl (stay b o hb e)
    · intro b o e
      by_cases hb : b ∈ tabs.map (·.2)
      · obtain ⟨more, hm⟩ := grew b hb
        exact ⟨_, hm⟩
      · exact ⟨o, stay b o hb e⟩
end
end Bk

/-! Bk: dicts by ints and texts; stores into lists and dicts. -/
namespace Bk
open PySem PySem.Spec PyProof.Rows L2

def dval (kvs : List (Key × D)) (k : Key) : Option D := (kvs.find? fun kv => decide (kv.1 = k)).map (·.2)
def dput (kvs : List (Key × D)) (k : Key) (v : D) : List (Key × D) :=
  if (kvs.any fun kv => decide (kv.1 = k)) = true then kvs.map (fun kv => if kv.1 = k then (kv.1, v) else kv) else kvs ++ [(k, v)]
def keyD : D → Option Key
  | .int i => some (.inl i)
  | .str x => some (.inr x)
  | _ => none
def dicOf : D → S → Option (List (Key × D))
  | .dic kvs, _ => some kvs
  | .rf (.ref p), s => match s.mu p with
    | some (.mk kvs) => some kvs
    | _ => none
  | _, _ => none
section
variable {K : PySem.W.Frag} {T : Tb} {F H : Hp} {s : S}
theorem RepK.val : ∀ {kvs : List (Key × D)} {ws : List (Key × V)} {k : Key}, RepK K T F kvs ws → (∀ d, dval kvs k = some d → ∃ v, valV ws k = some v ∧ Rep K T F d v) ∧ (dval kvs k = none → valV ws k = none)
  | _, _, _, .nil => ⟨fun d h => (nomatch (show (none : Option D) = some d from h)), fun _ => rfl⟩
  | _, _, k, .cons (k := k0) (d := d0) (v := v0) r rr => by
    have ih := RepK.val (k := k) rr
    by_cases e : k0 = k
    · have e1 : ∀ kds, dval ((k0, d0) :: kds) k = some d0 := fun kds => by unfold dval; rw [List.find?_cons_of_pos (by simp [e])]; rfl
      have e2 : ∀ kds, valV ((k0, v0) :: kds) k = some v0 := fun kds => valV_pos e
      rw [e1, e2]
      exact ⟨fun d h => ⟨v0, rfl, by cases h; exact r⟩, fun h => by cases h⟩
    · have e1 : ∀ kds, dval ((k0, d0) :: kds) k = dval kds k := fun kds => by unfold dval; rw [List.find?_cons_of_neg (by simp [e])]
      have e2 : ∀ kds, valV ((k0, v0) :: kds) k = valV kds k := fun kds => valV_neg e
      rw [e1, e2]
      exact ih
theorem RepK.any : ∀ {kvs : List (Key × D)} {ws : List (Key × V)} {k : Key}, RepK K T F kvs ws → (kvs.any fun kv => decide (kv.1 = k)) = (ws.any fun kv => decide (kv.1 = k))
  | _, _, _, .nil => rfl
  | _, _, k, .cons r rr => by rw [List.any_cons, List.any_cons, RepK.any rr]
theorem RepK.app : ∀ {kvs ks : List (Key × D)} {ws vs : List (Key × V)}, RepK K T F kvs ws → RepK K T F ks vs → RepK K T F (kvs ++ ks) (ws ++ vs)
  | _, _, _, _, .nil, q => q
  | _, _, _, _, .cons r rr, q => .cons r (RepK.app rr q)
theorem RepK.map {k : Key} {d : D} {v : V} (h : Rep K T F d v) : ∀ {kvs : List (Key × D)} {ws : List (Key × V)}, RepK K T F kvs ws → RepK K T F (kvs.map fun kv => if kv.1 = k then (kv.1, d) else kv) (ws.map fun kv => if kv.1 = k then (kv.1, v) else kv)
  | _, _, .nil => .nil
  | _, _, .cons (k := k0) r rr => by
    rw [List.map_cons, List.map_cons]
    by_cases e : k0 = k
    · rw [if_pos e, if_pos e]; exact .cons h (RepK.map h rr)
    · rw [if_neg e, if_neg e]; exact .cons r (RepK.map h rr)
theorem RepK.put {k : Key} {d : D} {v : V} {kvs : List (Key × D)} {ws : List (Key × V)} (h : Rep K T F d v) (rr : RepK K T F kvs ws) : RepK K T F (dput kvs k d) (putK ws k v) := by
  unfold dput putK
  rw [rr.any]
  split
  · exact rr.map h
  · exact rr.app (.cons h .nil)
theorem Rep.key {d : D} {v : V} {k : Key} (r : Rep K T F d v) (h : keyD d = some k) : v = kV k := by
  cases r <;> first | (cases h; rfl) | (exact (nomatch (show none = some k from h)))
theorem Rep.dict (hh : Hold K T F s H) {d : D} {v : V} {kvs : List (Key × D)} (r : Rep K T F d v) (h : dicOf d s = some kvs) : ∃ p ws, v = .ref p ∧ H p = some (.dK ws) ∧ RepK K T F kvs ws := by
  cases r with
  | dic l rr =>
    have e : some _ = some kvs := h
    cases e
    exact ⟨_, _, rfl, hh.sub _ _ l, rr⟩
  | rf v =>
    cases v with
    | ref p =>
      have h' : (match s.mu p with | some (MO.mk ds) => some ds | _ => none) = some kvs := h
      cases e : s.mu p with
      | none => rw [e] at h'; cases h'
      | some m =>
        rw [e] at h'
        cases m with
        | ml xs => cases h'
        | mo _ _ => cases h'
        | mk xs =>
          have e2 : some xs = some kvs := h'
          cases e2
          obtain ⟨_, vs, hp, rr⟩ := hh.mu _ _ e
          exact ⟨_, _, rfl, hp, rr⟩
    | _ => exact (nomatch (show (none : Option (List (Key × D))) = some kvs from h))
  | _ => exact (nomatch (show (none : Option (List (Key × D))) = some kvs from h))
/-! ### a new object, nobody's yet; then somebody's -/
theorem Hold.beginO (hh : Hold K T F s H) {p : Addr} {o : HO} (n : H p = none) : Hold K T F s (upd H p o) ∧ Ext F s H F s (upd H p o) ∧ ¬ own F s (upd H p o) p := by
  have no : ¬ own F s H p := fun w => by
    rcases w with w | w | ⟨a, m, h1, h2⟩
    · exact w (hh.fresh n)
    · exact w (hh.freshM n)
    · obtain ⟨l, c, t, cs, ls, g1, g2, g3, g4, g5, g6, g7, g8, g9⟩ := hh.gen a m h1
      rcases h2 with h2 | ⟨kvs, l', h3, h4, h5⟩
      · rw [← h2, n] at g5; cases g5
      · rw [g5] at h3; cases h3
        have e : some (V.ref l) = some (V.ref l') := h4
        cases e
        rw [← h5, n] at g7; cases g7
  refine ⟨⟨hh.sub.trans (same_upd n), fun q u e => ?_, fun q k e => ?_, hh.tab.ext (same_upd n), hh.tabF⟩, (Ext.refl).grow n no, fun w => no (own_upd no w)⟩
  · obtain ⟨h1, h2⟩ := hh.mu q u e
    rw [upd_ne (fun z => by rw [z, hh.freshM n] at e; cases e)]
    exact ⟨h1, h2⟩
  · obtain ⟨l, c, t, cs, ls, g1, g2, g3, g4, g5, g6, g7, g8, g9⟩ := hh.gen q k e
    exact ⟨l, c, t, cs, ls, g1, g2, g3, g4, same_upd n _ _ g5, g6, same_upd n _ _ g7, g8, g9⟩
/-- a dict that is nobody's is filled and becomes one that may change -/
theorem Hold.takeK (hh : Hold K T F s H) {p : Addr} {ws0 ws : List (Key × V)} {kvs : List (Key × D)} (h : H p = some (.dK ws0)) (n : ¬ own F s H p) (r : RepK K T F kvs ws) : Hold K T F (s.put p (.mk kvs)) (upd H p (.dK ws)) := by
  refine ⟨fun b x e => ?_, fun q u e => ?_, fun q k e => ?_, tabs_upd hh.tab (fun ps z => by rw [h] at z; cases z) (fun c q z => by rw [h] at z; cases z), hh.tabF⟩
  · rw [upd_ne (fun z => by rw [z, notF n] at e; cases e)]; exact hh.sub b x e
  · have e2 : (if q = p then some (MO.mk kvs) else s.mu q) = some u := e
    by_cases z : q = p
    · rw [if_pos z] at e2; cases e2
      rw [z, upd_same]
      exact ⟨notF n, ws, rfl, r⟩
    · rw [if_neg z] at e2
      rw [upd_ne z]; exact hh.mu q u e2
  · obtain ⟨l, c, t, cs, ls, g1, g2, g3, g4, g5, g6, g7, g8, g9⟩ := hh.gen q k e
    have nq : q ≠ p := fun z => n (by rw [← z]; exact .inr (.inr ⟨q, k, e, .inl rfl⟩))
    have nl : l ≠ p := fun z => n (by rw [← z]; exact .inr (.inr ⟨q, k, e, .inr ⟨_, l, g5, rfl, rfl⟩⟩))
    refine ⟨l, c, t, cs, ls, g1, g2, ?_, ?_, by rw [upd_ne nq]; exact g5, g6, by rw [upd_ne nl]; exact g7, g8, g9⟩
    · show (if q = p then some (MO.mk kvs) else s.mu q) = none
      rw [if_neg nq]; exact g3
    · show (if l = p then some (MO.mk kvs) else s.mu l) = none
      rw [if_neg nl]; exact g4
theorem Ext.takeK {F0 H0 : Hp} {s0 : S} (x : Ext F0 s0 H0 F s H) {p : Addr} {m : MO} {o : HO} (n0 : H0 p = none) (n : ¬ own F s H p) : Ext F0 s0 H0 F (s.put p m) (upd H p o) := ⟨x.same, fun q u e w z => by
  obtain ⟨h1, n1⟩ := x.rest q u e w z
  have ne : q ≠ p := fun y => by rw [y, n0] at e; cases e
  refine ⟨by rw [upd_ne ne]; exact h1, fun y => n1 ?_⟩
  rcases y with y | y | ⟨a, k, h3, h4⟩
  · exact .inl y
  · have y' : (if q = p then some m else s.mu q) ≠ none := y
    rw [if_neg ne] at y'
    exact .inr (.inl y')
  · refine .inr (.inr ⟨a, k, h3, h4.imp id ?_⟩)
    rintro ⟨kvs, l, g3, g4, g5⟩
    have na : a ≠ p := fun z => n (by rw [← z]; exact .inr (.inr ⟨a, k, h3, .inl rfl⟩))
    rw [upd_ne na] at g3
    exact ⟨kvs, l, g3, g4, g5⟩⟩
end
section
variable {X : Cx} {T : Tb} {W : WX} {a b c : Expr} {fa fb fc : Exp} {pos : Pos}
/-! ### d[k], k in d, d[k] = v, xs[i] = v -/
def dGet (fo fi : Exp) : Exp := fun e s R E => fo e s (fun d s1 => fi e s1 (fun k s2 => ∃ key kvs x, keyD k = some key ∧ dicOf d s2 = some kvs ∧ dval kvs key = some x ∧ R x s2) E) E
theorem dx_get (hu : X.A.units + 1 < cLine) (ho : DX X T W a fa) (hi : DX X T W b fb) (hs : NoSl b) : DX X T W (.Subscript a b pos) (dGet fa fb) := ⟨pe_imp (pe_dget hu ho.pe hi.pe hs) fun σ H Q h => by
  obtain ⟨F, e, s, R, E, he, hh, hx, hf, post⟩ := h
  refine ⟨F, e, s, _, E, he, hh, hx, hf, fun d s1 vd H1 F1 q1 x1 hh1 r1 => ⟨F1, e, s1, _, E, he.mono x1.same, hh1, hx.mono x1, q1, fun k s2 vk H2 F2 q2 x2 hh2 r2 => ?_⟩⟩
  obtain ⟨key, kvs, x, h1, h2, h3, q3⟩ := q2
  obtain ⟨p, ws, rfl, hp, rr⟩ := (r1.mono x2.same).dict hh2 h2
  obtain ⟨v, hv, rv⟩ := (rr.val (k := key)).1 x h3
  have ek := r2.key h1
  subst ek
  exact ⟨p, v, rfl, by rw [← hv]; exact DGet.k hp, post _ s2 v H2 F2 q3 (x1.trans x2) hh2 rv⟩⟩
def dInK (neg : Bool) (fi fo : Exp) : Exp := fun e s R E => fi e s (fun k s1 => fo e s1 (fun d s2 => ∃ key kvs, keyD k = some key ∧ dicOf d s2 = some kvs ∧ R (.bl (if neg then !(dval kvs key).isSome else (dval kvs key).isSome)) s2) E) E
theorem val_some {K : PySem.W.Frag} {T : Tb} {F : Hp} {kvs : List (Key × D)} {ws : List (Key × V)} {k : Key} (rr : RepK K T F kvs ws) : (valV ws k).isSome = (dval kvs k).isSome := by
  have h := rr.val (k := k)
  cases e : dval kvs k with
  | none => rw [h.2 e]; rfl
  | some d =>
    obtain ⟨v, hv, _⟩ := h.1 d e
    rw [hv]; rfl
theorem dx_inK (hu : X.A.units + 1 < cLine) (hi : DX X T W a fa) (ho : DX X T W b fb) (hm : behindInMarks .In b = false := by rfl) : DX X T W (.Compare a [.In] [b] pos) (dInK false fa fb) := ⟨pe_imp (pe_cmp (pc_din hu hi.pe ho.pe) hm) fun σ H Q h => by
  obtain ⟨F, e, s, R, E, he, hh, hx, hf, post⟩ := h
  refine ⟨F, e, s, _, E, he, hh, hx, hf, fun k s1 vk H1 F1 q1 x1 hh1 r1 => ⟨F1, e, s1, _, E, he.mono x1.same, hh1, hx.mono x1, q1, fun d s2 vd H2 F2 q2 x2 hh2 r2 => ?_⟩⟩
  obtain ⟨key, kvs, h1, h2, q3⟩ := q2
  obtain ⟨p, ws, rfl, hp, rr⟩ := r2.dict hh2 h2
  have ek := r1.key h1
  subst ek
  refine ⟨p, valV ws key, rfl, DGet.k hp, ?_⟩
  rw [val_some rr]
  exact post _ s2 _ H2 F2 q3 (x1.trans x2) hh2 (.bl _)⟩
def dPutS (fo fi fv : Exp) : DTS := fun D e s => fv e s (fun y s1 => fo e s1 (fun d s2 => fi e s2 (fun k s3 => match d with
  | .rf (.ref p) => ∃ key kvs, keyD k = some key ∧ s3.mu p = some (.mk kvs) ∧ kvs.length < sizeLine ∧ D.nx e (s3.put p (.mk (dput kvs key y)))
  | _ => False) (fun x s' => D.ex x e s')) (fun x s' => D.ex x e s')) (fun x s' => D.ex x e s')
theorem ds_put {pos' : Pos} (hu : X.A.units + 1 < cLine) (ho : DX X T W a fa) (hi : DX X T W b fb) (hv : DX X T W c fc) (hs : swapsWith c (some (.Subscript a b pos')) pos.line X.env = pure false := by rfl) : DS X T W (.Assign [.Subscript a b pos'] c pos) (dPutS fa fb fc) :=
  ⟨ps_imp (ps_dput hu ho.pe hi.pe hv.pe hs) fun Q σ H ⟨F, e, s, D, he, hh, ht, p⟩ => by
    refine ⟨F, e, s, _, _, he, hh, p.xok he, ht, fun y s1 vy H1 F1 q1 x1 hh1 r1 => ⟨F1, e, s1, _, _, he.mono x1.same, hh1, (p.mono x1).xok (he.mono x1.same), q1, fun d s2 vd H2 F2 q2 x2 hh2 r2 => ?_⟩⟩
    refine ⟨F2, e, s2, _, _, (he.mono x1.same).mono x2.same, hh2, (p.mono (x1.trans x2)).xok ((he.mono x1.same).mono x2.same), q2, fun k s3 vk H3 F3 q3 x3 hh3 r3 => ?_⟩
    split at q3
    · rename_i pp
      obtain ⟨key, kvs, h1, h2, h3, q4⟩ := q3
      cases r2
      obtain ⟨_, ws, hp, rr⟩ := hh3.mu _ _ h2
      have ek := r3.key h1
      subst ek
      refine ⟨pp, _, rfl, DPut.k hp (by rw [← rr.length]; exact h3), ?_⟩
      exact p.nx e _ σ _ F3 q4 (((x1.trans x2).trans x3).trans (Ext.wr hh3 h2)) (hh3.wr h2 ⟨_, rfl, rr.put ((r1.mono x2.same).mono x3.same)⟩) (((he.mono x1.same).mono x2.same).mono x3.same)
    · exact q3.elim⟩
def dSetIx (fo fi fv : Exp) : DTS := fun D e s => fv e s (fun y s1 => fo e s1 (fun d s2 => fi e s2 (fun k s3 => match d, k with
  | .rf (.ref p), .int i => ∃ ds j, s3.mu p = some (.ml ds) ∧ ixN ds.length i = some j ∧ D.nx e (s3.put p (.ml (ds.set j y)))
  | _, _ => False) (fun x s' => D.ex x e s')) (fun x s' => D.ex x e s')) (fun x s' => D.ex x e s')
theorem ds_setIx {pos' : Pos} (ho : DX X T W a fa) (hi : DX X T W b fb) (hv : DX X T W c fc)
    (ha : ∀ v, assign (.Subscript a b pos') X.env v = (do
      let ov ← holding [v] (eval a X.env)
      let iv ← holding [v, ov] (eval b X.env)
      standAt pos'
      holding [v, ov, iv] (setItem ov iv v)
      release [v, ov, iv] []) := by intro _; rfl)
    (hs : swapsWithSole [.Subscript a b pos'] c pos.line X.env = pure false := by rfl) (hw : swappedStores [.Subscript a b pos'] c X.env = pure none := by rfl) (h1 : (assignEach [.Subscript a b pos'] X.env).map (·.2) = [assign (.Subscript a b pos') X.env] := by rfl) :
    DS X T W (.Assign [.Subscript a b pos'] c pos) (dSetIx fa fb fc) :=
  ⟨ps_imp (ps_asg hv.pe (pg_sub ho.pe hi.pe set_list ha) hs hw h1) fun Q σ H ⟨F, e, s, D, he, hh, ht, p⟩ => by
    refine ⟨F, e, s, _, _, he, hh, p.xok he, ht, fun y s1 vy H1 F1 q1 x1 hh1 r1 => ⟨F1, e, s1, _, _, he.mono x1.same, hh1, (p.mono x1).xok (he.mono x1.same), q1, fun d s2 vd H2 F2 q2 x2 hh2 r2 => ?_⟩⟩
    refine ⟨F2, e, s2, _, _, (he.mono x1.same).mono x2.same, hh2, (p.mono (x1.trans x2)).xok ((he.mono x1.same).mono x2.same), q2, fun k s3 vk H3 F3 q3 x3 hh3 r3 => ?_⟩
    split at q3
    · obtain ⟨ds, j, h2, h3, q4⟩ := q3
      cases r2; cases r3
      obtain ⟨_, ws, hp, rr⟩ := hh3.mu _ _ h2
      refine ⟨_, ws, _, j, rfl, rfl, hp, by rw [← rr.length]; exact h3, ?_⟩
      exact p.nx e _ σ _ F3 q4 (((x1.trans x2).trans x3).trans (Ext.wr hh3 h2)) (hh3.wr h2 ⟨_, rfl, rr.set ((r1.mono x2.same).mono x3.same) j⟩) (((he.mono x1.same).mono x2.same).mono x3.same)
    · exact q3.elim⟩

/-! ### {k: v, ..} -/
def dPairs : List (Exp × Exp) → DEnv → S → (List (D × D) → S → Prop) → XQ → Prop
  | [], _, s, R, _ => R [] s
  | (fk, fv) :: r, e, s, R, E => fk e s (fun k s1 => fv e s1 (fun v s2 => dPairs r e s2 (fun ps s3 => R ((k, v) :: ps) s3) E) E) E
inductive DPP (X : Cx) (T : Tb) (W : WX) : List (Option Expr) → List Expr → List (Exp × Exp) → Prop
  | nil : DPP X T W [] [] []
  | cons {k v : Expr} {ks : List (Option Expr)} {vs : List Expr} {fk fv : Exp} {fs : List (Exp × Exp)} : DX X T W k fk → DX X T W v fv → DPP X T W ks vs fs → DPP X T W (some k :: ks) (v :: vs) ((fk, fv) :: fs)
theorem DPP.pps {pos : Pos} : ∀ {ks : List (Option Expr)} {vs : List Expr} {fs : List (Exp × Exp)}, DPP X T W ks vs fs → PPs X pos ks vs (fs.map fun p => (liftE X.K T W p.1, liftE X.K T W p.2))
  | _, _, _, .nil => pps_nil
  | _, _, _, .cons h1 h2 r => pps_cons h1.pe h2.pe (DPP.pps r)
theorem pairs_lift {K : PySem.W.Frag} {σ : L2.St} {e : DEnv} {E : XQ} : ∀ {fs : List (Exp × Exp)} {F H : Hp} {s : S} {R : List (D × D) → S → Prop} {Q : List (V × V) → Hp → Prop}, ERep K T F e σ → Hold K T F s H → XOk K T W F s H E σ → dPairs fs e s R E →
    (∀ ps s' qs H' F', R ps s' → Ext F s H F' s' H' → Hold K T F' s' H' → Paired (fun p q => Rep K T F' p.1 q.1 ∧ Rep K T F' p.2 q.2) ps qs → Q qs H') → tPairs (fs.map fun p => (liftE K T W p.1, liftE K T W p.2)) σ H Q
  | [], F, H, s, R, Q, he, hh, hx, hf, k => k [] s [] H F hf Ext.refl hh .nil
  | (fk, fv) :: r, F, H, s, R, Q, he, hh, hx, hf, k => ⟨F, e, s, _, E, he, hh, hx, hf, fun dk s1 vk H1 F1 q1 x1 hh1 r1 => ⟨F1, e, s1, _, E, he.mono x1.same, hh1, hx.mono x1, q1, fun dv s2 vv H2 F2 q2 x2 hh2 r2 =>
      pairs_lift ((he.mono x1.same).mono x2.same) hh2 ((hx.mono x1).mono x2) q2 fun ps s3 qs H3 F3 q3 x3 hh3 rs =>
        k _ s3 _ H3 F3 q3 ((x1.trans x2).trans x3) hh3 (.cons ⟨(r1.mono x2.same).mono x3.same, r2.mono x3.same⟩ rs)⟩⟩
def dMerge (kvs more : List (Key × D)) : List (Key × D) := more.foldl (fun acc kv => dput acc kv.1 kv.2) kvs
theorem RepK.merge {K : PySem.W.Frag} {T : Tb} {F : Hp} : ∀ {more : List (Key × D)} {ms : List (Key × V)} (kvs : List (Key × D)) (ws : List (Key × V)), RepK K T F more ms → RepK K T F kvs ws → RepK K T F (dMerge kvs more) (mergeK ws ms)
  | _, _, _, _, .nil, r => r
  | _, _, kvs, ws, .cons (k := k) (d := d) (v := v) h t, r => RepK.merge (dput kvs k d) (putK ws k v) t (RepK.put h r)
theorem keys_of {K : PySem.W.Frag} {T : Tb} {F : Hp} : ∀ {ps : List (D × D)} {qs : List (V × V)} {kvs : List (Key × D)}, Paired (fun p q => Rep K T F p.1 q.1 ∧ Rep K T F p.2 q.2) ps qs → ps.mapM (fun p => (keyD p.1).map fun k => (k, p.2)) = some kvs → ∃ ws, RepK K T F kvs ws ∧ qs = ws.map (fun kv => (kV kv.1, kv.2))
  | [], _, _, .nil, h => by
    have e : some [] = some _ := h
    cases e
    exact ⟨[], .nil, rfl⟩
  | p :: ps, _, kvs, .cons (b := q) r t, h => by
    rw [List.mapM_cons] at h
    cases e : keyD p.1 with
    | none => rw [e] at h; cases h
    | some k =>
      rw [e] at h
      cases e2 : ps.mapM (fun p => (keyD p.1).map fun k => (k, p.2)) with
      | none => rw [e2] at h; cases h
      | some more =>
        rw [e2] at h
        have e3 : some ((k, p.2) :: more) = some kvs := h
        cases e3
        obtain ⟨ws, rr, rfl⟩ := keys_of t e2
        refine ⟨(k, q.2) :: ws, .cons r.2 rr, ?_⟩
        rw [List.map_cons]
        have := r.1.key e
        obtain ⟨q1, q2⟩ := q
        simp only at this ⊢
        rw [this]
/-- a dict that may change -/
def dDispM (fs : List (Exp × Exp)) : Exp := fun e s R E => dPairs fs e s (fun ps s1 => ∃ kvs, ps.mapM (fun p => (keyD p.1).map fun k => (k, p.2)) = some kvs ∧ kvs.length ≤ 15 ∧ ∀ p, s1.mu p = none → R (.rf (.ref p)) (s1.put p (.mk (dMerge [] kvs)))) E
theorem dx_dispM {ks : List (Option Expr)} {vs : List Expr} {fs : List (Exp × Exp)} (h : DPP X T W ks vs fs) (hall : ks.all (·.isSome) = true := by rfl) (hl : ks.length = vs.length := by rfl) (h0 : ks ≠ [] := by intro z; cases z) (h15 : ks.length ≤ 15 := by decide) : DX X T W (.Dict ks vs pos) (dDispM fs) :=
  ⟨pe_imp (pe_disp h.pps hall hl h0 h15) fun σ H Q hq p np => by
    obtain ⟨F, e, s, R, E, he, hh, hx, hf, post⟩ := hq
    obtain ⟨a1, a2, a3⟩ := hh.beginO (o := .dK []) np
    refine pairs_lift he a1 (hx.mono a2) hf fun ps s1 qs H1 F1 q1 x1 hh1 rs => ?_
    obtain ⟨kvs, h1, h2, q2⟩ := q1
    obtain ⟨ws, rr, rfl⟩ := keys_of rs h1
    obtain ⟨b1, b2⟩ := x1.rest p _ upd_same a3 trivial
    have xx := a2.trans x1
    refine ⟨b1, ws, rfl, by rw [← rr.length]; exact h2, ?_⟩
    exact post _ _ _ _ F1 (q2 p (notM b2)) (xx.takeK np b2) (hh1.takeK b1 b2 (RepK.merge [] [] rr .nil)) (.rf _)⟩
end
end Bk

/-! Bk: two clauses, chains, products, three names at once, lists that stop changing. -/
namespace Bk
open PySem PySem.Spec PyProof.Rows L2

/-! ### [e for a in .. for b in ..] -/
def dCompG (g : DG) (t : Tst) (f : Exp) (e0 : DEnv) (R : List D → S → Prop) : List D → List D → S → Prop
  | [], acc, s => R acc s
  | d :: ds, acc, s => g d e0 s (fun e1 s1 => t e1 s1 (fun b s2 => if b = true then f e1 s2 (fun y s3 => acc.length < sizeLine ∧ dCompG g t f e0 R ds (acc ++ [y]) s3) (fun _ _ => False) else dCompG g t f e0 R ds acc s2) (fun _ _ => False))
def dComp2 (g : DG) (t : Tst) (fi : Arg) (g1 : DG) (t1 : Tst) (f : Exp) (e0 : DEnv) (vs1 : List Nat) (R : List D → S → Prop) : List D → List D → S → Prop
  | [], acc, s => R acc s
  | d :: ds, acc, s => g d e0 s (fun e1 s1 => t e1 s1 (fun b s2 => if b = true then fi e1 s2 (fun its s3 => dCompG g1 t1 f (dwipe e1 vs1) (dComp2 g t fi g1 t1 f e0 vs1 R ds) its acc s3) (fun _ _ => False) else dComp2 g t fi g1 t1 f e0 vs1 R ds acc s2) (fun _ _ => False))
def dLc2 (f0 : Arg) (g : DG) (t : Tst) (fi : Arg) (g1 : DG) (t1 : Tst) (f : Exp) (vs vs1 : List Nat) : Exp := fun e s R E => f0 e s (fun ds s1 => dComp2 g t fi g1 t1 f (dwipe e vs) vs1 (fun ys s2 => R (.lst ys) s2) ds [] s1) E
section
variable {X : Cx} {T : Tb} {W : WX} {a b c : Expr} {fa fb fc : Exp} {pos : Pos} {g g1 : DG} {vs vs1 : List Nat}
theorem lc2_lift {f0 fi : Arg} {t t1 : Tst} {f : Exp} {σ : L2.St} {H : Hp} {Q : VK} (h : liftE X.K T W (dLc2 f0 g t fi g1 t1 f vs vs1) σ H Q) :
    tLc2 (liftI X.K T W f0) (liftGo X.K T vs g) (liftT X.K T wF t) (liftI X.K T wF fi) (liftGo X.K T vs1 g1) (liftT X.K T wF t1) (liftE X.K T wF f) vs vs1 σ H Q := by
  obtain ⟨F, e, s, R, E, he, hh, hx, hf, post⟩ := h
  refine ⟨F, e, s, _, E, he, hh, hx, hf, fun ds s1 J H1 F1 q1 x1 hh1 it Dl nD => ?_⟩
  obtain ⟨hb, xb, ob⟩ := hh1.begin nD
  refine ⟨fun i m H' => ∃ F' s' acc vsx, i ≤ ds.length ∧ m = ds.length - i ∧ Hold X.K T F' s' H' ∧ Ext F1 s1 H1 F' s' H' ∧ H' Dl = some (.lst vsx) ∧ ¬ own F' s' H' Dl ∧ Reps X.K T F' acc vsx ∧ dComp2 g t fi g1 t1 f (dwipe e vs) vs1 (fun ys s2 => R (.lst ys) s2) (ds.drop i) acc s',
    ⟨_, F1, s1, [], [], Nat.zero_le _, rfl, hb, xb, upd_same, ob, .nil, q1⟩, ?_⟩
  rintro i m H2 ⟨F2, s2, acc, vsx, hle, rfl, hh2, x2, h2, o2, ra, q2⟩
  obtain ⟨hstop, hgo⟩ := it F2 s2 H2 x2.same hh2
  by_cases hi : i < ds.length
  · obtain ⟨go, hy⟩ := hgo i ds[i] (List.getElem?_eq_getElem hi)
    rw [List.drop_eq_getElem_cons hi] at q2
    refine .inr ⟨go, fun H' => ∃ F' s' acc vsx, Hold X.K T F' s' H' ∧ Ext F1 s1 H1 F' s' H' ∧ H' Dl = some (.lst vsx) ∧ ¬ own F' s' H' Dl ∧ Reps X.K T F' acc vsx ∧ dComp2 g t fi g1 t1 f (dwipe e vs) vs1 (fun ys s2 => R (.lst ys) s2) (ds.drop (i + 1)) acc s',
      fun H' ⟨F', s', acc, vsx, a2, a3, a4, a5, a6, a7⟩ => ⟨_, by omega, F', s', acc, vsx, by omega, rfl, a2, a3, a4, a5, a6, a7⟩, fun v H3 y => ?_⟩
    obtain ⟨F3, x3, hh3, r3⟩ := hy v H3 y
    refine ⟨F3, _, dwipe e vs, s2, _, r3, ((he.mono x1.same).mono (x2.same.trans x3.same)).wipe vs, hh3, q2, fun e4 s4 σ4 H4 F4 q4 x4 hh4 he4 w4 => ⟨by rw [w4, wipe_wipe], ?_⟩⟩
    refine ⟨F4, e4, s4, _, _, he4, hh4, xok_none, q4, fun b s5 H5 F5 q5 x5 hh5 => ?_⟩
    have x05 := ((x2.trans x3).trans x4).trans x5
    obtain ⟨h5, o5⟩ := ((x3.trans x4).trans x5).keep h2 o2
    have ra5 := ra.mono ((x3.trans x4).trans x5).same
    cases b with
    | false => exact ⟨F5, s5, acc, vsx, hh5, x05, h5, o5, ra5, q5⟩
    | true =>
      refine ⟨F5, e4, s5, _, _, he4.mono x5.same, hh5, xok_none, q5, fun its s6 J1 H6 F6 q6 x6 hh6 it1 => ?_⟩
      obtain ⟨h6, o6⟩ := x6.keep h5 o5
      have he6 := (he4.mono x5.same).mono x6.same
      refine ⟨fun j m H' => ∃ F' s' acc vsx, j ≤ its.length ∧ m = its.length - j ∧ Hold X.K T F' s' H' ∧ Ext F1 s1 H1 F' s' H' ∧ Same F6 F' ∧ H' Dl = some (.lst vsx) ∧ ¬ own F' s' H' Dl ∧ Reps X.K T F' acc vsx ∧ dCompG g1 t1 f (dwipe e4 vs1) (dComp2 g t fi g1 t1 f (dwipe e vs) vs1 (fun ys s2 => R (.lst ys) s2) (ds.drop (i + 1))) (its.drop j) acc s',
        ⟨_, F6, s6, acc, vsx, Nat.zero_le _, rfl, hh6, x05.trans x6, Same.refl F6, h6, o6, ra5.mono x6.same, q6⟩, ?_⟩
      rintro j m H7 ⟨F7, s7, acc7, vs7, hle7, rfl, hh7, x7, sm7, h7, o7, ra7, q7⟩
      obtain ⟨hstop1, hgo1⟩ := it1 F7 s7 H7 sm7 hh7
      by_cases hj : j < its.length
      · obtain ⟨go1, hy1⟩ := hgo1 j its[j] (List.getElem?_eq_getElem hj)
        rw [List.drop_eq_getElem_cons hj] at q7
        refine .inr ⟨go1, fun H' => ∃ F' s' acc vsx, Hold X.K T F' s' H' ∧ Ext F1 s1 H1 F' s' H' ∧ Same F6 F' ∧ H' Dl = some (.lst vsx) ∧ ¬ own F' s' H' Dl ∧ Reps X.K T F' acc vsx ∧ dCompG g1 t1 f (dwipe e4 vs1) (dComp2 g t fi g1 t1 f (dwipe e vs) vs1 (fun ys s2 => R (.lst ys) s2) (ds.drop (i + 1))) (its.drop (j + 1)) acc s',
          fun H' ⟨F', s', acc, vsx, a2, a3, a4, a5, a6, a7, a8⟩ => ⟨_, by omega, F', s', acc, vsx, by omega, rfl, a2, a3, a4, a5, a6, a7, a8⟩, fun v8 H8 y8 => ?_⟩
        obtain ⟨F8, x8, hh8, r8⟩ := hy1 v8 H8 y8
        refine ⟨F8, _, dwipe e4 vs1, s7, _, r8, (he6.mono (sm7.trans x8.same)).wipe vs1, hh8, q7, fun e9 s9 σ9 H9 F9 q9 x9 hh9 he9 w9 => ⟨by rw [w9, wipe_wipe], ?_⟩⟩
        refine ⟨F9, e9, s9, _, _, he9, hh9, xok_none, q9, fun b1 s10 H10 F10 q10 x10 hh10 => ?_⟩
        have xa := (x8.trans x9).trans x10
        obtain ⟨h10, o10⟩ := xa.keep h7 o7
        have ra10 := ra7.mono xa.same
        have sm10 := sm7.trans xa.same
        cases b1 with
        | false => exact ⟨F10, s10, acc7, vs7, hh10, x7.trans xa, sm10, h10, o10, ra10, q10⟩
        | true =>
          refine ⟨F10, e9, s10, _, _, he9.mono x10.same, hh10, xok_none, q10, fun d s11 w H11 F11 q11 x11 hh11 r11 => ?_⟩
          obtain ⟨h11, o11⟩ := x11.keep h10 o10
          have ra11 := ra10.mono x11.same
          refine ⟨vs7, h11, by rw [← ra11.length]; exact q11.1, ?_⟩
          obtain ⟨g1', g2'⟩ := hh11.grow (ys := vs7 ++ [w]) h11 o11
          exact ⟨F11, s11, acc7 ++ [d], vs7 ++ [w], g1', ((x7.trans xa).trans x11).grow nD o11, sm10.trans x11.same, upd_same, g2', ra11.append (.cons r11 .nil), q11.2⟩
      · have hn : its.length ≤ j := by omega
        rw [List.drop_eq_nil_of_le hn] at q7
        exact .inl ⟨hstop1 j hn, F7, s7, acc7, vs7, hh7, x7, h7, o7, ra7, q7⟩
  · have hn : ds.length ≤ i := by omega
    rw [List.drop_eq_nil_of_le hn] at q2
    refine .inl ⟨hstop i hn, ?_⟩
    have a1 := hh2.adopt h2 o2
    have a2 := x2.adopt (hh1.fresh nD) nD o2 (o := .lst vsx)
    exact post _ s2 _ H2 _ q2 (x1.trans a2) a1 (.lst upd_same (ra.mono (same_upd (notF o2))))
theorem dx_lc2 {elt tg iter tg1 iter1 : Expr} {ifs ifs1 : List Expr} {scope : Scope} {own : List (Str × Nat)} {f0 fi : Arg} {t t1 : Tst} {f : Exp} (hc : X.calm = true) (hN : X.N.Nodup) (hi : DI X T W tg iter f0) (ok : BlkOk X.N X.env.scope scope own) (hv : ∀ i ∈ vs1, i ∈ own.map (·.2))
    (hg : BlkAll X scope fun Y => DPGo Y T (own.map (·.2)) tg g) (ht : BlkAll X scope fun Y => DTs Y T wF ifs t) (hi1 : BlkAll X scope fun Y => DI Y T wF tg1 iter1 fi) (hg1 : BlkAll X scope fun Y => DPGo Y T vs1 tg1 g1) (ht1 : BlkAll X scope fun Y => DTs Y T wF ifs1 t1) (he : BlkAll X scope fun Y => DX Y T wF elt f)
    (hs : ∀ x, foldedSetIterable iter X.env x = pure x := by intro _; rfl) (hs1 : ∀ env x, foldedSetIterable iter1 env x = pure x := by intro _ _; rfl) :
    DX X T W (.ListComp elt [⟨tg, iter, ifs, 0⟩, ⟨tg1, iter1, ifs1, 0⟩] scope pos) (dLc2 f0 g t fi g1 t1 f (own.map (·.2)) vs1) :=
  ⟨pe_imp (pe_lc2 hc hN hi.pi ok hv (fun s H C cl fp => (hg s H C cl fp).pg) (fun s H C cl fp => (ht s H C cl fp).pts) (fun s H C cl fp => (hi1 s H C cl fp).pi) (fun s H C cl fp => (hg1 s H C cl fp).pg) (fun s H C cl fp => (ht1 s H C cl fp).pts) (fun s H C cl fp => (he s H C cl fp).pe) hs hs1) fun σ H Q h => lc2_lift h⟩
theorem ds_setLc2 {i : Nat} {y : Str} {py spos : Pos} {elt tg iter tg1 iter1 : Expr} {ifs ifs1 : List Expr} {scope : Scope} {own : List (Str × Nat)} {f0 fi : Arg} {t t1 : Tst} {f : Exp} (hc : X.calm = true) (hN : X.N.Nodup) (hy : X.N[i]? = some y) (hyl : X.env.scope.names.lookup y = some .local)
    (hsw : swapsWith (.ListComp elt [⟨tg, iter, ifs, 0⟩, ⟨tg1, iter1, ifs1, 0⟩] scope pos) (some (.Name y py)) spos.line X.env = pure true) (hi : DI X T W tg iter f0) (ok : BlkOk X.N X.env.scope scope own) (hv : ∀ i ∈ vs1, i ∈ own.map (·.2))
    (hg : BlkAll X scope fun Y => DPGo Y T (own.map (·.2)) tg g) (ht : BlkAll X scope fun Y => DTs Y T wF ifs t) (hi1 : BlkAll X scope fun Y => DI Y T wF tg1 iter1 fi) (hg1 : BlkAll X scope fun Y => DPGo Y T vs1 tg1 g1) (ht1 : BlkAll X scope fun Y => DTs Y T wF ifs1 t1) (he : BlkAll X scope fun Y => DX Y T wF elt f)
    (hs : ∀ x, foldedSetIterable iter X.env x = pure x := by intro _; rfl) (hs1 : ∀ env x, foldedSetIterable iter1 env x = pure x := by intro _ _; rfl) :
    DS X T W (.Assign [.Name y py] (.ListComp elt [⟨tg, iter, ifs, 0⟩, ⟨tg1, iter1, ifs1, 0⟩] scope pos) spos) (dSet i (dLc2 f0 g t fi g1 t1 f (own.map (·.2)) vs1)) :=
  ⟨ps_imp (ps_setLc2 hc hN hy hyl hsw hi.pi ok hv (fun s H C cl fp => (hg s H C cl fp).pg) (fun s H C cl fp => (ht s H C cl fp).pts) (fun s H C cl fp => (hi1 s H C cl fp).pi) (fun s H C cl fp => (hg1 s H C cl fp).pg) (fun s H C cl fp => (ht1 s H C cl fp).pts) (fun s H C cl fp => (he s H C cl fp).pe) hs hs1) fun Q σ H h => by
    obtain ⟨F, e, s, D, he, hh, ht, p⟩ := h
    exact lc2_lift (W := W) ⟨F, e, s, _, _, he, hh, p.xok he, ht, fun d s1 v H1 F1 q x1 hh1 r => p.nx _ s1 _ H1 F1 q x1 hh1 ((he.mono x1.same).set r i)⟩⟩

/-! ### a op b op c -/
def dChain (r r' : G2) (fa fb fc : Exp) : Exp := fun e s R E => fa e s (fun x s1 => fb e s1 (fun y s2 => r x y s2 (fun z s3 => match z with
  | .bl true => fc e s3 (fun w s4 => r' y w s4 R) E
  | .bl false => R (.bl false) s3
  | _ => False)) E) E
theorem chain_lift {g g' : G2} {r r' : R2} (hr : ∀ F s H x y vx vy R Q, Hold X.K T F s H → Rep X.K T F x vx → Rep X.K T F y vy → g x y s R → Post X.K T F s H R Q → r vx vy H Q) (hr' : ∀ F s H x y vx vy R Q, Hold X.K T F s H → Rep X.K T F x vx → Rep X.K T F y vy → g' x y s R → Post X.K T F s H R Q → r' vx vy H Q)
    {σ : L2.St} {H : Hp} {Q : VK} (h : liftE X.K T W (dChain g g' fa fb fc) σ H Q) : tChain r r' (liftE X.K T W fa) (liftE X.K T W fb) (liftE X.K T W fc) σ H Q := by
  obtain ⟨F, e, s, R, E, he, hh, hx, hf, post⟩ := h
  refine ⟨F, e, s, _, E, he, hh, hx, hf, fun x s1 vx H1 F1 q1 x1 hh1 rx => ⟨F1, e, s1, _, E, he.mono x1.same, hh1, hx.mono x1, q1, fun y s2 vy H2 F2 q2 x2 hh2 ry => ?_⟩⟩
  refine hr F2 s2 H2 x y vx vy _ _ hh2 (rx.mono x2.same) ry q2 fun z s3 vz H3 F3 q3 x3 hh3 rz => ?_
  split at q3
  · cases rz
    exact ⟨true, rfl, F3, e, s3, _, E, ((he.mono x1.same).mono x2.same).mono x3.same, hh3, ((hx.mono x1).mono x2).mono x3, q3, fun w s4 vw H4 F4 q4 x4 hh4 rw' => hr' F4 s4 H4 y w vy vw R Q hh4 ((ry.mono x3.same).mono x4.same) rw' q4 ((((post.mono x1).mono x2).mono x3).mono x4)⟩
  · cases rz
    exact ⟨false, rfl, post _ s3 _ H3 F3 q3 ((x1.trans x2).trans x3) hh3 (.bl false)⟩
  · exact q3.elim
theorem dx_chain {op op' : CmpOp} {g g' : G2} (ho : OpD X T (compareOp op) g) (ho' : OpD X T (compareOp op') g') (ha : DX X T W a fa) (hb : DX X T W b fb) (hc : DX X T W c fc) (hm : lastMarks [op, op'] [b, c] = false := by with_unfolding_all rfl) : DX X T W (.Compare a [op, op'] [b, c] pos) (dChain g g' fa fb fc) := by
  obtain ⟨r, h1, h2⟩ := ho
  obtain ⟨r', h1', h2'⟩ := ho'
  exact ⟨pe_imp (pe_chain h1 h1' ha.pe hb.pe hc.pe hm) fun σ H Q h => chain_lift h2 h2' h⟩
theorem dt_chain {op op' : CmpOp} {g g' : G2} (ho : OpD X T (compareOp op) g) (ho' : OpD X T (compareOp op') g') (ha : DX X T W a fa) (hb : DX X T W b fb) (hc : DX X T W c fc) (hm : lastMarks [op, op'] [b, c] = false := by with_unfolding_all rfl) : DT X T W (.Compare a [op, op'] [b, c] pos) (dTst (dChain g g' fa fb fc)) := by
  obtain ⟨r, h1, h2⟩ := ho
  obtain ⟨r', h1', h2'⟩ := ho'
  refine ⟨pt_imp (pt_chain h1 h1' ha.pe hb.pe hc.pe hm) fun σ H Q h => ?_⟩
  obtain ⟨F, e, s, R, E, he, hh, hx, hf, post⟩ := h
  refine chain_lift (W := W) (fa := fa) (fb := fb) (fc := fc) h2 h2' ⟨F, e, s, _, E, he, hh, hx, hf, fun x s1 vx H1 F1 q1 e1 hh1 rx => ?_⟩
  cases rx with
  | bl b => exact ⟨b, rfl, post b s1 H1 F1 q1 e1 hh1⟩
  | _ => exact q1.elim

/-! ### a, b, c = x, y, z -/
def dPar3 (i j l : Nat) (r : Arg) : DTS := fun D e s => r e s (fun ds s1 => match ds with
  | [x, y, z] => D.nx (dset (dset (dset e i (some x)) j (some y)) l (some z)) s1
  | _ => False) (fun x s' => D.ex x e s')
theorem ds_par3 {i j l : Nat} {x y z : Str} {r : Arg} {px py pz pt : Pos} {kt k2 pt2} (hc : X.calm = true) (hN : X.N.Nodup) (hi : X.N[i]? = some x) (hj : X.N[j]? = some y) (hl : X.N[l]? = some z) (hij : i ≠ j) (hil : i ≠ l) (hjl : j ≠ l)
    (hx : X.env.scope.names.lookup x = some .local) (hy : X.env.scope.names.lookup y = some .local) (hz : X.env.scope.names.lookup z = some .local) (ha : DA X T W [a, b, c] r)
    (hw : swappedStores [.Tuple [.Name x px, .Name y py, .Name z pz] kt pt] (.Tuple [a, b, c] k2 pt2) X.env = pure (some [x, y, z]))
    (hs : swapsWithSole [.Tuple [.Name x px, .Name y py, .Name z pz] kt pt] (.Tuple [a, b, c] k2 pt2) pos.line X.env = pure false := by rfl) :
    DS X T W (.Assign [.Tuple [.Name x px, .Name y py, .Name z pz] kt pt] (.Tuple [a, b, c] k2 pt2) pos) (dPar3 i j l r) := ⟨ps_imp (ps_par3 hc hN hi hj hl hij hil hjl hx hy hz ha.pa hw hs) fun Q σ H ⟨F, e, s, D, he, hh, ht, p⟩ => by
  refine ⟨F, e, s, _, _, he, hh, p.xok he, ht, fun ds s1 vs H1 F1 q x1 hh1 rs => ?_⟩
  split at q
  · cases rs with | cons r1 rs => cases rs with | cons r2 rs => cases rs with | cons r3 rs =>
      cases rs
      exact ⟨_, _, _, rfl, p.nx _ s1 _ H1 F1 q x1 hh1 ((((he.mono x1.same).set r1 i).set r2 j).set r3 l)⟩
  · exact q.elim⟩

/-! ### a list that is not changed any more -/
def dFrzV (i : Nat) (t : DTS) : DTS := fun D e s => ∃ p ds, nth e i = some (.rf (.ref p)) ∧ s.mu p = some (.ml ds) ∧ t D (dset e i (some (.lst ds))) (s.del p)
theorem ERep.reset {K : PySem.W.Frag} {T : Tb} {F : Hp} {d : D} {v : V} (rd : Rep K T F d v) : ∀ {e : DEnv} {σ : L2.St} (i : Nat), ERep K T F e σ → σ[i]? = Option.some (Option.some v) → ERep K T F (dset e i (Option.some d)) σ
  | _, _, _, .nil, _ => .nil
  | _, _, 0, .none r, h => by cases h; exact .some rd r
  | _, _, 0, .some _ r, h => by cases h; exact .some rd r
  | _, _, i + 1, .none r, h => .none (ERep.reset rd i r (by simpa using h))
  | _, _, i + 1, .some q r, h => .some q (ERep.reset rd i r (by simpa using h))
theorem dss_frz {i : Nat} {sts : List Stmt} {t : DTS} (h : DSs X T W sts t) : DSs X T W sts (dFrzV i t) := ⟨pss_imp h.pss fun Q σ H ⟨F, e, s, D, he, hh, ht, p⟩ => by
  obtain ⟨q, ds, h1, h2, h3⟩ := ht
  obtain ⟨vs, a1, a2⟩ := hh.freeze h2
  obtain ⟨v, hv, rv⟩ := he.at h1
  have x := Ext.freeze (F := F) (H := H) (o := .lst vs) (hh.mu _ _ h2).1 h2
  cases rv
  exact ⟨_, _, _, D, (he.mono x.same).reset a2 i hv, a1, h3, p.mono x⟩⟩

/-! ### products -/
def repL (xs : List D) : Nat → List D
  | 0 => []
  | n + 1 => xs ++ repL xs n
theorem repL_flat (xs : List D) : ∀ n, repL xs n = (List.replicate n xs).flatten
  | 0 => rfl
  | n + 1 => by rw [repL, repL_flat xs n, List.replicate_succ, List.flatten_cons]
theorem Reps.rep {K : PySem.W.Frag} {T : Tb} {F : Hp} {xs : List D} {vs : List V} (h : Reps K T F xs vs) : ∀ n, Reps K T F (repL xs n) (List.replicate n vs).flatten
  | 0 => .nil
  | n + 1 => by rw [repL, List.replicate_succ, List.flatten_cons]; exact h.append (Reps.rep h n)
def strMul (x : Str) (n : Nat) : Str := ⟨(List.replicate n x.cps).foldl (· ++ ·) #[]⟩
theorem foldApp (a : Array Nat) : ∀ (n : Nat) (b : Array Nat), ((List.replicate n a).foldl (· ++ ·) b).size = b.size + n * a.size
  | 0, b => by simp
  | n + 1, b => by rw [List.replicate_succ, List.foldl_cons, foldApp a n, Array.size_append, Nat.succ_mul]; omega
theorem strMul_len (x : Str) (n : Nat) : (strMul x n).length = n * x.length := by
  show ((List.replicate n x.cps).foldl (· ++ ·) #[]).size = _
  rw [foldApp]
  show 0 + n * x.cps.size = n * x.cps.size
  omega
theorem op_mulStr : OpR X (binaryOp .Mult) (fun x y H Q => ∃ z k, x = .str z ∧ y = .int k ∧ 1 < k ∧ k ≤ 100 ∧ 0 < z.length ∧ z.length ≤ 100000 ∧ Q (.str (strMul z k.toNat)) H) := by
  intro pins s σ H x y v u Q I rx ry h
  obtain ⟨z, k, rfl, rfl, h1, h2, h3, h4, q⟩ := h
  obtain ⟨t, rfl⟩ := rx
  obtain ⟨t', rfl⟩ := ry
  have n1 : ¬ k < 1 := by omega
  have n2 : (k == 1 || z.length == 0) = false := by simp; omega
  refine PySem.P.mul_str (by simp; omega) (fun _ _ w => ?_) (fun _ _ => ?_) ?_
  · have : (2 ^ 63 - 1 : Int) / k ≥ 100000 := by
      have hk : (0 : Int) < k := by omega
      rw [ge_iff_le, Int.le_ediv_iff_mul_le hk]
      omega
    omega
  · have : z.length * k.toNat ≤ 100000 * 100 := Nat.mul_le_mul h4 (by omega)
    unfold PySem.Builtin.Str.tooLong
    rw [sizeLine_eq]
    simp
    omega
  · rw [if_neg n1, if_neg (by rw [n2]; decide)]
    refine ⟨?_, ⟨.str (strMul z k.toNat), H, I.tok _, ⟨_, rfl⟩, q⟩⟩
    have e : (strMul z k.toNat).length = k.toNat * z.length := strMul_len z k.toNat
    have : k.toNat * z.length ≤ 100 * 100000 := Nat.mul_le_mul (by omega) h4
    show (strMul z k.toNat).length ≤ sizeLine
    rw [sizeLine_eq]
    omega
end
end Bk

/-! Bk: products, == over lists that may change, lists made to be changed, the draws' dict opened and shut. -/
namespace Bk
open PySem PySem.Spec PyProof.Rows L2

section
variable {X : Cx} {T : Tb} {W : WX} {a b c : Expr} {fa fb fc : Exp} {pos : Pos}
/-- * -/
def oMul : G2 := fun x y s R => match x, y with
  | .int i, .int j => CMul i j ∧ R (.int (i * j)) s
  | .str z, .int k => (1 < k ∧ k ≤ 100 ∧ 0 < z.length ∧ z.length ≤ 100000) ∧ R (.str (strMul z k.toNat)) s
  | .tup xs, .int k => (xs ≠ [] ∧ 2 ≤ k ∧ k ≤ 1000 ∧ xs.length ≤ 1000) ∧ R (.tup (repL xs k.toNat)) s
  | .lst xs, .int k => (-(2 ^ 63) ≤ k ∧ k < 2 ^ 63 ∧ xs.length * k.toNat ≤ sizeLine) ∧ R (.lst (repL xs k.toNat)) s
  | _, _ => False
theorem od_mul : OpD X T (binaryOp .Mult) oMul := .of (op_mul.or (op_mulStr.or (op_repT.or op_rep))) fun F s H x y vx vy R Q hh rx ry hg post => by
  unfold oMul at hg
  split at hg
  · cases rx; cases ry
    exact .inl ⟨_, _, rfl, rfl, hg.1, post _ s _ H F hg.2 Ext.refl hh (.int _)⟩
  · cases rx; cases ry
    exact .inr (.inl ⟨_, _, rfl, rfl, hg.1.1, hg.1.2.1, hg.1.2.2.1, hg.1.2.2.2, post _ s _ H F hg.2 Ext.refl hh (.str _)⟩)
  · cases ry
    cases rx with | tup l1 r1 =>
      refine .inr (.inr (.inl ⟨_, _, _, rfl, rfl, sqt_mono hh.sub l1, fun e => hg.1.1 ?_, hg.1.2.1, hg.1.2.2.1, by rw [← r1.length]; exact hg.1.2.2.2, fun p np => ?_⟩))
      · subst e; cases r1; rfl
      · obtain ⟨h1, h2, h3⟩ := hh.frzT np (r1.rep _)
        exact post _ s _ _ _ hg.2 h2 h1 h3
  · cases ry
    cases rx with | lst l1 r1 =>
      refine .inr (.inr (.inr ⟨_, _, _, rfl, rfl, hh.sub _ _ l1, hg.1.1, hg.1.2.1, by rw [← r1.length]; exact hg.1.2.2, fun p np => ?_⟩))
      obtain ⟨h1, h2, h3⟩ := hh.frzL np (r1.rep _)
      exact post _ s _ _ _ hg.2 h2 h1 h3
  · exact hg.elim

/-! ### == of what may change -/
def dref (d : D) (s : S) : D := match lstOf d s with
  | some ds => .lst ds
  | none => d
theorem rep_dpM {K : PySem.W.Frag} {T : Tb} {F H : Hp} {s : S} (hh : Hold K T F s H) {d : D} {v : V} (r : Rep K T F d v) (p : (dref d s).pl = true) : Dp K H v (dref d s).py := by
  unfold dref at p ⊢
  cases e : lstOf d s with
  | none => rw [e] at p; exact rep_dp hh.sub r p
  | some ds =>
    rw [e] at p
    obtain ⟨q, xs, rfl, hq, rr⟩ := r.lstq hh e
    have p' : (D.lst ds).pl = true := p
    rw [D.pl] at p'
    show Dp K H (.ref q) (D.lst ds).py
    rw [D.py]
    exact .lst hq (reps_dp hh.sub rr p')
def oEqM : G2 := fun x y s R => ((dref x s).eqOk = true ∧ (dref y s).eqOk = true) ∧ R (.bl ((dref x s).eqb (dref y s))) s
def oNeM : G2 := fun x y s R => ((dref x s).eqOk = true ∧ (dref y s).eqOk = true) ∧ R (.bl (!(dref x s).eqb (dref y s))) s
theorem od_eqM (hu : X.A.units + 64 < cLine) : OpD X T (compareOp .Eq) oEqM := .of (op_eqD hu) fun F s H x y vx vy R Q hh rx ry hg post => by
  obtain ⟨⟨h1, h2⟩, q⟩ := hg
  exact ⟨_, _, rep_dpM hh rx (eqOk_pl h1).1, rep_dpM hh ry (eqOk_pl h2).1, (eqOk_pl h1).2, (eqOk_pl h2).2, post _ s _ H F q Ext.refl hh (.bl _)⟩
theorem od_neM (hu : X.A.units + 64 < cLine) : OpD X T (compareOp .NotEq) oNeM := .of (op_neD hu) fun F s H x y vx vy R Q hh rx ry hg post => by
  obtain ⟨⟨h1, h2⟩, q⟩ := hg
  exact ⟨_, _, rep_dpM hh rx (eqOk_pl h1).1, rep_dpM hh ry (eqOk_pl h2).1, (eqOk_pl h1).2, (eqOk_pl h2).2, post _ s _ H F q Ext.refl hh (.bl _)⟩

/-! ### a list that is nobody's becomes one that may change -/
theorem Hold.takeL {K : PySem.W.Frag} {T : Tb} {F H : Hp} {s : S} {p : Addr} {xs : List V} {ds : List D} (hh : Hold K T F s H) (h : H p = some (.lst xs)) (n : ¬ own F s H p) (r : Reps K T F ds xs) : Hold K T F (s.put p (.ml ds)) H := by
  refine ⟨hh.sub, fun q u e => ?_, fun q k e => ?_, hh.tab, hh.tabF⟩
  · have e2 : (if q = p then some (MO.ml ds) else s.mu q) = some u := e
    by_cases z : q = p
    · rw [if_pos z] at e2; cases e2
      rw [z]
      exact ⟨notF n, xs, h, r⟩
    · rw [if_neg z] at e2
      exact hh.mu q u e2
  · obtain ⟨l, c, t, cs, ls, g1, g2, g3, g4, g5, g6, g7, g8, g9⟩ := hh.gen q k e
    have nq : q ≠ p := fun z => n (by rw [← z]; exact .inr (.inr ⟨q, k, e, .inl rfl⟩))
    have nl : l ≠ p := fun z => n (by rw [← z]; exact .inr (.inr ⟨q, k, e, .inr ⟨_, l, g5, rfl, rfl⟩⟩))
    refine ⟨l, c, t, cs, ls, g1, g2, ?_, ?_, g5, g6, g7, g8, g9⟩
    · show (if q = p then some (MO.ml ds) else s.mu q) = none
      rw [if_neg nq]; exact g3
    · show (if l = p then some (MO.ml ds) else s.mu l) = none
      rw [if_neg nl]; exact g4
theorem Ext.takeL {F0 H0 F H : Hp} {s0 s : S} (x : Ext F0 s0 H0 F s H) {p : Addr} {m : MO} (n0 : H0 p = none) (n : ¬ own F s H p) : Ext F0 s0 H0 F (s.put p m) H := ⟨x.same, fun q u e w z => by
  have ne : q ≠ p := fun y => by rw [y, n0] at e; cases e
  obtain ⟨h1, n1⟩ := x.rest q u e w z
  refine ⟨h1, fun y => n1 ?_⟩
  rcases y with y | y | y
  · exact .inl y
  · have y' : (if q = p then some m else s.mu q) ≠ none := y
    rw [if_neg ne] at y'
    exact .inr (.inl y')
  · exact .inr (.inr y)⟩
/-- one clause, the list to be changed -/
def dLcM (f0 : Arg) (g : DG) (t : Tst) (f : Exp) (vs : List Nat) : Exp := fun e s R E => f0 e s (fun ds s1 => ds.length ≤ sizeLine ∧ dComp g t f (dwipe e vs) (fun ys s2 => ∀ p, s2.mu p = none → R (.rf (.ref p)) (s2.put p (.ml ys))) ds [] s1) E
theorem lcM_lift {g : DG} {vs : List Nat} {f0 : Arg} {t : Tst} {f : Exp} {σ : L2.St} {H : Hp} {Q : VK} (h : liftE X.K T W (dLcM f0 g t f vs) σ H Q) : tLc (liftI X.K T W f0) (liftGo X.K T vs g) (liftT X.K T wF t) (liftE X.K T wF f) vs σ H Q := by
  obtain ⟨F, e, s, R, E, he, hh, hx, hf, post⟩ := h
  refine ⟨F, e, s, _, E, he, hh, hx, hf, fun ds s1 J H1 F1 q1 x1 hh1 it Dl nD => ?_⟩
  obtain ⟨hz, q1⟩ := q1
  obtain ⟨hb, xb, ob⟩ := hh1.begin nD
  refine ⟨fun i m H' => ∃ F' s' acc vsx, i ≤ ds.length ∧ m = ds.length - i ∧ acc.length ≤ i ∧ Hold X.K T F' s' H' ∧ Ext F1 s1 H1 F' s' H' ∧ H' Dl = some (.lst vsx) ∧ ¬ own F' s' H' Dl ∧ Reps X.K T F' acc vsx ∧ dComp g t f (dwipe e vs) (fun ys s2 => ∀ p, s2.mu p = none → R (.rf (.ref p)) (s2.put p (.ml ys))) (ds.drop i) acc s',
    ⟨_, F1, s1, [], [], Nat.zero_le _, rfl, Nat.le_refl _, hb, xb, upd_same, ob, .nil, q1⟩, ?_⟩
  rintro i m H2 ⟨F2, s2, acc, vsx, hle, rfl, hacc, hh2, x2, h2, o2, ra, q2⟩
  obtain ⟨hstop, hgo⟩ := it F2 s2 H2 x2.same hh2
  by_cases hi : i < ds.length
  · obtain ⟨go, hy⟩ := hgo i ds[i] (List.getElem?_eq_getElem hi)
    rw [List.drop_eq_getElem_cons hi] at q2
    refine .inr ⟨go, fun H' => ∃ F' s' acc vsx, acc.length ≤ i + 1 ∧ Hold X.K T F' s' H' ∧ Ext F1 s1 H1 F' s' H' ∧ H' Dl = some (.lst vsx) ∧ ¬ own F' s' H' Dl ∧ Reps X.K T F' acc vsx ∧ dComp g t f (dwipe e vs) (fun ys s2 => ∀ p, s2.mu p = none → R (.rf (.ref p)) (s2.put p (.ml ys))) (ds.drop (i + 1)) acc s',
      fun H' ⟨F', s', acc, vsx, a1, a2, a3, a4, a5, a6, a7⟩ => ⟨_, by omega, F', s', acc, vsx, by omega, rfl, a1, a2, a3, a4, a5, a6, a7⟩, fun v H3 y => ?_⟩
    obtain ⟨F3, x3, hh3, r3⟩ := hy v H3 y
    refine ⟨F3, _, dwipe e vs, s2, _, r3, ((he.mono x1.same).mono (x2.same.trans x3.same)).wipe vs, hh3, q2, fun e4 s4 σ4 H4 F4 q4 x4 hh4 he4 w4 => ⟨by rw [w4, wipe_wipe], ?_⟩⟩
    refine ⟨F4, e4, s4, _, _, he4, hh4, xok_none, q4, fun b s5 H5 F5 q5 x5 hh5 => ?_⟩
    have xx := ((x2.trans x3).trans x4).trans x5
    obtain ⟨h5, o5⟩ := ((x3.trans x4).trans x5).keep h2 o2
    have ra5 := ra.mono ((x3.trans x4).trans x5).same
    cases b with
    | false => exact ⟨F5, s5, acc, vsx, by omega, hh5, xx, h5, o5, ra5, q5⟩
    | true =>
      refine ⟨F5, e4, s5, _, _, he4.mono x5.same, hh5, xok_none, q5, fun d s6 w H6 F6 q6 x6 hh6 r6 => ?_⟩
      obtain ⟨h6, o6⟩ := x6.keep h5 o5
      have ra6 := ra5.mono x6.same
      refine ⟨vsx, h6, by rw [← ra6.length]; omega, ?_⟩
      obtain ⟨g1, g2⟩ := hh6.grow (ys := vsx ++ [w]) h6 o6
      exact ⟨F6, s6, acc ++ [d], vsx ++ [w], by rw [List.length_append]; show acc.length + 1 ≤ i + 1; omega, g1, (xx.trans x6).grow nD o6, upd_same, g2, ra6.append (.cons r6 .nil), q6⟩
  · have hn : ds.length ≤ i := by omega
    rw [List.drop_eq_nil_of_le hn] at q2
    refine .inl ⟨hstop i hn, ?_⟩
    exact post _ _ _ H2 F2 (q2 Dl (notM o2)) (x1.trans (x2.takeL nD o2)) (hh2.takeL h2 o2 ra) (.rf _)
theorem dx_lcM {g : DG} {elt tg iter : Expr} {ifs : List Expr} {scope : Scope} {own : List (Str × Nat)} {f0 : Arg} {t : Tst} {f : Exp} (hc : X.calm = true) (hN : X.N.Nodup) (hi : DI X T W tg iter f0) (ok : BlkOk X.N X.env.scope scope own)
    (hg : BlkAll X scope fun Y => DPGo Y T (own.map (·.2)) tg g) (ht : BlkAll X scope fun Y => DTs Y T wF ifs t) (he : BlkAll X scope fun Y => DX Y T wF elt f) (hs : ∀ x, foldedSetIterable iter X.env x = pure x := by intro _; rfl) :
    DX X T W (.ListComp elt [⟨tg, iter, ifs, 0⟩] scope pos) (dLcM f0 g t f (own.map (·.2))) :=
  ⟨pe_imp (pe_lc hc hN hi.pi ok (fun s H C cl fp => (hg s H C cl fp).pg) (fun s H C cl fp => (ht s H C cl fp).pts) (fun s H C cl fp => (he s H C cl fp).pe) hs) fun σ H Q h => lcM_lift h⟩
/-- a slice of a list, to be changed -/
def oSlM (x : D) (lo hi : Option Int) (s : S) (R : Q1) : Prop := ∃ ds, lstOf x s = some ds ∧ ∀ p, s.mu p = none → R (.rf (.ref p)) (s.put p (.ml (cutD ds lo hi)))
def dSlM (f : Exp) (l h : Prt) : Exp := fun e s R E => f e s (fun d s1 => l e s1 (fun lo s2 => h e s2 (fun hi s3 => oSlM d lo hi s3 R) E) E) E
theorem dx_sliceM {lo hi : Option Expr} {l h : Prt} {p2 : Pos} (ha : DX X T W a fa) (hl : DPO X T W lo l) (hh : DPO X T W hi h) : DX X T W (.Subscript a (.Slice lo hi none p2) pos) (dSlM fa l h) := ⟨pe_imp (pe_slice sl_list ha.pe hl.po hh.po) fun σ H Q hq => by
  obtain ⟨F, e, s, R, E, he, hd, hx, hf, post⟩ := hq
  refine ⟨F, e, s, _, E, he, hd, hx, hf, fun d s1 v H1 F1 q1 x1 hd1 r1 => ⟨F1, e, s1, _, E, he.mono x1.same, hd1, hx.mono x1, q1, fun o1 s2 H2 F2 q2 x2 hd2 => ⟨F2, e, s2, _, E, (he.mono x1.same).mono x2.same, hd2, (hx.mono x1).mono x2, q2, fun o2 s3 H3 F3 q3 x3 hd3 => ?_⟩⟩⟩
  have r3 := (r1.mono x2.same).mono x3.same
  have px := ((post.mono x1).mono x2).mono x3
  obtain ⟨ds, h1, q⟩ := q3
  obtain ⟨p, xs, rfl, hL, rr⟩ := r3.lstq hd3 h1
  refine ⟨p, xs, rfl, hL, fun t nt => ?_⟩
  exact px _ _ _ _ F3 (q t (hd3.freshM nt)) (Ext.new hd3 nt) (hd3.new nt ⟨_, rfl, rr.cut o1 o2⟩) (.rf _)⟩

/-! ### the draws' dict -/
def genM (cs : List Int) (l : Addr) (t : Int) : MO := .mk [(Sum.inr "cells", .lst (cs.map .int)), (Sum.inr "left", .rf (.ref l)), (Sum.inr "at", .int t)]
/-- its two things may change -/
def S.open (s : S) (p l : Addr) (cs ls : List Int) (t : Int) : S := (S.mk s.mu none |>.put l (.ml (ls.map .int))).put p (genM cs l t)
/-- .. or are nobody's but the draws' -/
def S.shut (s : S) (p l : Addr) (n : Nat) : S := ⟨((s.del p).del l).mu, some (p, n)⟩
section
variable {K : PySem.W.Frag} {T : Tb} {F H : Hp} {s : S} {p l : Addr} {n : Nat} {cs ls : List Int} {t : Int}
theorem Hold.openG (hh : Hold K T F s H) (e : s.g = some (p, n)) : ∃ (l : Addr) (t : Int) (cs ls : List Int), 0 ≤ t ∧ t + n ≤ 2 ^ 60 ∧ s.mu p = none ∧ s.mu l = none ∧ l ≠ p ∧ Hold K T F (s.open p l cs ls t) H ∧ Ext F s H F (s.open p l cs ls t) H := by
  obtain ⟨l, c, t, cs, ls, g1, g2, g3, g4, g5, g6, g7, g8, g9⟩ := hh.gen p n e
  have np : l ≠ p := fun z => by rw [z, g5] at g7; cases g7
  refine ⟨l, t, cs, ls, g8, g9, g3, g4, np, ⟨hh.sub, fun q u w => ?_, fun q k w => (by cases w), hh.tab, hh.tabF⟩, Same.refl F, fun q u w z zz => ⟨w, fun y => z ?_⟩⟩
  · have w' : (if q = p then some (genM cs l t) else if q = l then some (MO.ml (ls.map .int)) else s.mu q) = some u := w
    by_cases z : q = p
    · rw [if_pos z] at w'
      cases w'
      subst z
      exact ⟨g1, _, g5, .cons (.lst g6 reps_of_ints) (.cons (.rf _) (.cons (.int t) .nil))⟩
    · rw [if_neg z] at w'
      by_cases zl : q = l
      · rw [if_pos zl] at w'
        cases w'
        subst zl
        exact ⟨g2, _, g7, reps_of_ints⟩
      · rw [if_neg zl] at w'
        exact hh.mu q u w'
  · rcases y with y | y | ⟨a, m, h1, _⟩
    · exact .inl y
    · have y' : (if q = p then some (genM cs l t) else if q = l then some (MO.ml (ls.map .int)) else s.mu q) ≠ none := y
      by_cases z : q = p
      · exact .inr (.inr ⟨p, n, e, .inl z⟩)
      · rw [if_neg z] at y'
        by_cases zl : q = l
        · exact .inr (.inr ⟨p, n, e, .inr ⟨_, l, g5, rfl, zl⟩⟩)
        · rw [if_neg zl] at y'
          exact .inr (.inl y')
    · cases h1
theorem Hold.shutG (hh : Hold K T F s H) (g0 : s.g = none) (hp : s.mu p = some (genM cs l t)) (hl : s.mu l = some (.ml (ls.map .int))) (h0 : 0 ≤ t) (h1 : t + n ≤ 2 ^ 60) : Hold K T F (s.shut p l n) H ∧ Ext F s H F (s.shut p l n) H := by
  obtain ⟨fp, ws, ep, rp⟩ := hh.mu p _ hp
  obtain ⟨fl, vs, el, rl⟩ := hh.mu l _ hl
  have e1 := reps_ints rl
  subst e1
  cases rp with | cons r1 rp => cases rp with | cons r2 rp => cases rp with | cons r3 rp =>
  cases rp
  cases r2; cases r3
  cases r1 with | lst lc rc =>
  have e2 := reps_ints rc
  subst e2
  have dl : ∀ q, (s.shut p l n).mu q = if q = l then none else if q = p then none else s.mu q := fun q => rfl
  refine ⟨⟨hh.sub, fun q u w => ?_, fun q k w => ?_, hh.tab, hh.tabF⟩, Same.refl F, fun q u w z zz => ⟨w, fun y => z ?_⟩⟩
  · rw [dl] at w
    split at w
    · cases w
    · split at w
      · cases w
      · exact hh.mu q u w
  · cases w
    refine ⟨l, _, t, cs, ls, fp, fl, ?_, ?_, ep, lc, el, h0, h1⟩
    · rw [dl]; split <;> simp
    · rw [dl, if_pos rfl]
  · rcases y with y | y | ⟨a, m, h1, h2⟩
    · exact .inl y
    · rw [dl] at y
      split at y
      · exact absurd rfl y
      · split at y
        · exact absurd rfl y
        · exact .inr (.inl y)
    · cases h1
      refine .inr (.inl ?_)
      rcases h2 with h2 | ⟨kvs, l', h3, h4, h5⟩
      · rw [h2, hp]; exact fun z => by cases z
      · rw [ep] at h3; cases h3
        have e : some (V.ref l) = some (V.ref l') := h4
        cases e
        rw [h5, hl]; exact fun z => by cases z
end
def dOpen (i : Nat) (t : DTS) : DTS := fun D e s => ∃ p n, nth e i = some (.rf (.ref p)) ∧ s.g = some (p, n) ∧ ∀ (l : Addr) (t0 : Int) (cs ls : List Int), 0 ≤ t0 → t0 + n ≤ 2 ^ 60 → s.mu p = none → s.mu l = none → l ≠ p → t D e (s.open p l cs ls t0)
theorem dss_open {i : Nat} {sts : List Stmt} {t : DTS} (h : DSs X T W sts t) : DSs X T W sts (dOpen i t) := ⟨pss_imp h.pss fun Q σ H ⟨F, e, s, D, he, hh, ht, p⟩ => by
  obtain ⟨q, n, h1, h2, h3⟩ := ht
  obtain ⟨l, t0, cs, ls, a1, a2, a3, a4, a5, a6, a7⟩ := hh.openG h2
  exact ⟨F, e, _, D, he, a6, h3 l t0 cs ls a1 a2 a3 a4 a5, p.mono a7⟩⟩
/-- a value, the draws' dict at slot i shut behind it -/
def dShut (i : Nat) (f : Exp) : Exp := fun e s R E => f e s (fun d s1 => ∃ (p l : Addr) (cs ls : List Int) (t : Int) (n : Nat), nth e i = some (.rf (.ref p)) ∧ s1.g = none ∧ s1.mu p = some (genM cs l t) ∧ s1.mu l = some (.ml (ls.map .int)) ∧ 0 ≤ t ∧ t + n ≤ 2 ^ 60 ∧ R d (s1.shut p l n)) E
theorem dx_shut {i : Nat} (h : DX X T W a fa) : DX X T W a (dShut i fa) := ⟨pe_imp h.pe fun σ H Q hq => by
  obtain ⟨F, e, s, R, E, he, hh, hx, hf, post⟩ := hq
  refine ⟨F, e, s, _, E, he, hh, hx, hf, fun x s1 vx H1 F1 q1 e1 hh1 rx => ?_⟩
  obtain ⟨p, l, cs, ls, t, n, h0, h1, h2, h3, h4, h5, q⟩ := q1
  obtain ⟨a1, a2⟩ := hh1.shutG h1 h2 h3 h4 h5
  exact post _ _ _ H1 F1 q (e1.trans a2) a1 rx⟩
/-- the draws' dict itself, just made -/
def dShutV (n : Nat) (f : Exp) : Exp := fun e s R E => f e s (fun d s1 => ∃ (p l : Addr) (cs ls : List Int) (t : Int), d = .rf (.ref p) ∧ s1.g = none ∧ s1.mu p = some (genM cs l t) ∧ s1.mu l = some (.ml (ls.map .int)) ∧ 0 ≤ t ∧ t + n ≤ 2 ^ 60 ∧ R d (s1.shut p l n)) E
theorem dx_shutV {n : Nat} (h : DX X T W a fa) : DX X T W a (dShutV n fa) := ⟨pe_imp h.pe fun σ H Q hq => by
  obtain ⟨F, e, s, R, E, he, hh, hx, hf, post⟩ := hq
  refine ⟨F, e, s, _, E, he, hh, hx, hf, fun x s1 vx H1 F1 q1 e1 hh1 rx => ?_⟩
  obtain ⟨p, l, cs, ls, t, h0, h1, h2, h3, h4, h5, q⟩ := q1
  obtain ⟨a1, a2⟩ := hh1.shutG h1 h2 h3 h4 h5
  exact post _ _ _ H1 F1 q (e1.trans a2) a1 rx⟩
end
end Bk

/-! Bk: data small enough for == and repr; loops and comprehensions by what holds at each turn. -/
namespace Bk
open PySem PySem.Spec PyProof.Rows L2

/-- plain, of at most k levels, w weight -/
structure Okd (k w : Nat) (d : D) : Prop where
  pl : d.pl = true
  lay : d.py.canLay0 = true
  dep : d.py.depth ≤ k
  wt : d.py.weight ≤ w
  short : d.py.intsShort 13 = true
  sh : d.py.showable = true
def nmOk (x : Str) : Prop := PyData.strOk x = true ∧ x.length ≤ 64
theorem Okd.mono {k w k' w' : Nat} {d : D} (h : Okd k w d) (hk : k ≤ k') (hw : w ≤ w') : Okd k' w' d := ⟨h.pl, h.lay, Nat.le_trans h.dep hk, Nat.le_trans h.wt hw, h.short, h.sh⟩
theorem okd_str {x : Str} {k w : Nat} (h : PyData.strOk x = true) (hw : x.length ≤ w) : Okd k w (.str x) where
  pl := rfl
  lay := by rw [D.py, PyData.canLay0]; exact h
  dep := by rw [D.py, PyData.depth]; exact Nat.zero_le _
  wt := by rw [D.py, PyData.weight]; exact hw
  short := by rw [D.py, PyData.intsShort]
  sh := by rw [D.py, PyData.showable]
theorem okd_nm {x : Str} {k : Nat} (h : nmOk x) : Okd k 64 (.str x) := okd_str h.1 h.2
theorem okd_non {k w : Nat} : Okd k w .non where
  pl := rfl
  lay := by rw [D.py, PyData.canLay0]
  dep := by rw [D.py, PyData.depth]; exact Nat.zero_le _
  wt := by rw [D.py, PyData.weight]; exact Nat.zero_le _
  short := by rw [D.py, PyData.intsShort]
  sh := by rw [D.py, PyData.showable]
theorem okd_bl {b : Bool} {k w : Nat} : Okd k w (.bl b) where
  pl := rfl
  lay := by rw [D.py, PyData.canLay0]
  dep := by rw [D.py, PyData.depth]; exact Nat.zero_le _
  wt := by rw [D.py, PyData.weight]; exact Nat.zero_le _
  short := by rw [D.py, PyData.intsShort]
  sh := by rw [D.py, PyData.showable]
theorem log2_lt {n k : Nat} (h : n < 2 ^ k) (hk : 0 < k) : n.log2 < k := by
  by_cases e : n = 0
  · subst e; rw [Nat.log2_zero]; exact hk
  · exact (Nat.log2_lt e).mpr h
theorem okd_int {i : Int} {k w : Nat} (h1 : -(10 ^ 12) < i) (h2 : i < 10 ^ 12) (hw : 64 ≤ w) : Okd k w (.int i) := by
  have hb : i.natAbs < 10 ^ 12 := by omega
  have hl : i.natAbs.log2 < 40 := log2_lt (Nat.lt_trans hb (by decide)) (by decide)
  refine ⟨rfl, by rw [D.py, PyData.canLay0], by rw [D.py, PyData.depth]; exact Nat.zero_le _, ?_, ?_, ?_⟩
  · rw [D.py, PyData.weight]
    split <;> omega
  · rw [D.py, PyData.intsShort]
    refine decide_eq_true ?_
    rw [PyData.shown]
    have := int_text_length_le10 (a := i) (k := 12) (by decide) hb
    have e : (Str.ofString (toString i)).length ≤ (toString i).length := by
      rw [Str.ofString_eq_toList]
      show ((toString i).toList.map Char.toNat).toArray.size ≤ _
      rw [List.size_toArray, List.length_map]
      exact Nat.le_of_eq String.length_toList
    exact Nat.le_trans e this
  · rw [D.py, PyData.showable]
    exact decide_eq_true (by omega)
theorem okds {k w n : Nat} : ∀ {xs : List D}, (∀ x ∈ xs, Okd k w x) → xs.length ≤ n → D.pls xs = true ∧ PyData.canLayAll0 (D.pys xs) = true ∧ PyData.depthAll (D.pys xs) ≤ k ∧ PyData.weightAll (D.pys xs) ≤ n * (w + 1) ∧ PyData.intsShortAll 13 (D.pys xs) = true ∧ PyData.showableAll (D.pys xs) = true
  | [], _, _ => by simp [D.pls, D.pys, PyData.canLayAll0, PyData.depthAll, PyData.weightAll, PyData.intsShortAll, PyData.showableAll]
  | x :: xs, h, hn => by
    cases n with
    | zero => exact absurd hn (Nat.not_succ_le_zero _)
    | succ n =>
      have h1 := h x List.mem_cons_self
      obtain ⟨a1, a2, a3, a4, a5, a6⟩ := okds (n := n) (fun y hy => h y (List.mem_cons_of_mem _ hy)) (Nat.le_of_succ_le_succ hn)
      simp only [D.pls, D.pys, PyData.canLayAll0, PyData.depthAll, PyData.weightAll, PyData.intsShortAll, PyData.showableAll, Bool.and_eq_true]
      have := h1.wt
      have e : (n + 1) * (w + 1) = n * (w + 1) + (w + 1) := Nat.succ_mul ..
      exact ⟨⟨h1.pl, a1⟩, ⟨h1.lay, a2⟩, Nat.max_le.mpr ⟨h1.dep, a3⟩, by omega, ⟨h1.short, a5⟩, ⟨h1.sh, a6⟩⟩
theorem okd_tup {k w n : Nat} {xs : List D} (h : ∀ x ∈ xs, Okd k w x) (hn : xs.length ≤ n) : Okd (k + 1) (n * (w + 1)) (.tup xs) := by
  obtain ⟨a1, a2, a3, a4, a5, a6⟩ := okds h hn
  refine ⟨by rw [D.pl]; exact a1, by rw [D.py, PyData.canLay0]; exact a2, by rw [D.py, PyData.depth]; omega, by rw [D.py, PyData.weight]; exact a4, by rw [D.py, PyData.intsShort]; exact a5, by rw [D.py, PyData.showable]; exact a6⟩
theorem okd_lst {k w n : Nat} {xs : List D} (h : ∀ x ∈ xs, Okd k w x) (hn : xs.length ≤ n) : Okd (k + 1) (n * (w + 1)) (.lst xs) := by
  obtain ⟨a1, a2, a3, a4, a5, a6⟩ := okds h hn
  refine ⟨by rw [D.pl]; exact a1, by rw [D.py, PyData.canLay0]; exact a2, by rw [D.py, PyData.depth]; omega, by rw [D.py, PyData.weight]; exact a4, by rw [D.py, PyData.intsShort]; exact a5, by rw [D.py, PyData.showable]; exact a6⟩
theorem Okd.eqOk {k w : Nat} {d : D} (h : Okd k w d) (hk : k ≤ 64) : d.eqOk = true := by
  unfold D.eqOk SeqAt.shaped
  rw [h.pl, h.lay, decide_eq_true (Nat.le_trans h.dep hk)]; rfl
theorem Okd.shOk {k w : Nat} {d : D} (h : Okd k w d) (hk : k ≤ 64) (hw : w ≤ 2 ^ 20) : d.shOk := by
  refine ⟨h.pl, h.sh, Nat.le_trans h.dep hk, ?_⟩
  have h1 : d.py.layable0 = true := by
    unfold PyData.layable0
    rw [h.lay, decide_eq_true (Nat.le_trans h.dep hk), decide_eq_true (Nat.le_trans h.wt hw)]; rfl
  have h2 := shown_le13 h1 h.short
  rw [sizeLine_eq]
  omega
theorem Okd.eqb_self {k w : Nat} {d : D} (h : Okd k w d) : d.eqb d = true := PySem.SeqAt.eqv_refl _ h.lay

/-- the texts of a list -/
def texts (ns : List Str) : List D := ns.map .str
theorem texts_len (ns : List Str) : (texts ns).length = ns.length := by unfold texts; simp
theorem okd_texts {ns : List Str} {k : Nat} (h : ∀ x ∈ ns, nmOk x) : ∀ x ∈ texts ns, Okd k 64 x := fun d hd => by
  obtain ⟨x, hx, rfl⟩ := List.mem_map.mp hd
  exact okd_nm (h x hx)
theorem eqb_str (x y : Str) : (D.str x).eqb (.str y) = decide (x = y) := by
  unfold D.eqb
  rw [D.py, D.py, PyData.eqv]
  by_cases h : x = y
  · subst h; simp
  · simp [h]
theorem eqb_int (x y : Int) : (D.int x).eqb (.int y) = decide (x = y) := by
  unfold D.eqb
  rw [D.py, D.py, PyData.eqv]
  by_cases h : x = y
  · subst h; simp
  · simp [h]
theorem isIn_texts (x : Str) (ns : List Str) : isIn (.str x) (texts ns) = decide (x ∈ ns) := by
  unfold isIn texts
  rw [List.any_map]
  by_cases h : x ∈ ns
  · rw [decide_eq_true h]
    exact List.any_eq_true.mpr ⟨x, h, by show (D.str x).eqb (.str x) = true; rw [eqb_str]; exact decide_eq_true rfl⟩
  · rw [decide_eq_false h, List.any_eq_false]
    intro y hy z
    have z' : (D.str y).eqb (.str x) = true := z
    rw [eqb_str, decide_eq_true_eq] at z'
    exact h (z' ▸ hy)

/-! ### turns -/
theorem loop_inv {g : DG} {tb : DTS} {DD : DEnds} (I : List D → DEnv → S → Prop) (hend : ∀ e s, I [] e s → DD.nx e s)
    (hstep : ∀ d ds e s (K : DEnv → S → Prop), I (d :: ds) e s → (∀ e' s', I ds e' s' → K e' s') → g d e s (fun e1 s1 => tb { DD with nx := K, ct := K, bk := DD.nx } e1 s1)) : ∀ ds e s, I ds e s → dLoop g tb DD ds e s
  | [], e, s, h => hend e s h
  | d :: ds, e, s, h => hstep d ds e s _ h fun e' s' q => loop_inv I hend hstep ds e' s' q
theorem comp_inv {g : DG} {t : Tst} {f : Exp} {e0 : DEnv} {R : List D → S → Prop} (I : List D → List D → S → Prop) (hend : ∀ acc s, I [] acc s → R acc s)
    (hstep : ∀ d ds acc s (K : List D → S → Prop), I (d :: ds) acc s → (∀ acc' s', I ds acc' s' → K acc' s') → g d e0 s (fun e1 s1 => t e1 s1 (fun b s2 => if b = true then f e1 s2 (fun y s3 => K (acc ++ [y]) s3) (fun _ _ => False) else K acc s2) (fun _ _ => False))) :
    ∀ ds acc s, I ds acc s → dComp g t f e0 R ds acc s
  | [], acc, s, h => hend acc s h
  | d :: ds, acc, s, h => hstep d ds acc s (fun acc' s' => dComp g t f e0 R ds acc' s') h fun acc' s' q => comp_inv I hend hstep ds acc' s' q
/-- .. the state stays, each turn gives one value or none -/
theorem comp_pure {g : DG} {t : Tst} {f : Exp} {e0 : DEnv} {R : List D → S → Prop} {s : S} (F : D → List D) : ∀ (ds acc : List D) (_ : R (acc ++ ds.flatMap F) s)
    (_ : ∀ d ∈ ds, ∀ (acc : List D) (K : List D → S → Prop), K (acc ++ F d) s → g d e0 s (fun e1 s1 => t e1 s1 (fun b s2 => if b = true then f e1 s2 (fun y s3 => K (acc ++ [y]) s3) (fun _ _ => False) else K acc s2) (fun _ _ => False))),
    dComp g t f e0 R ds acc s
  | [], acc, h, _ => by
    rw [List.flatMap_nil, List.append_nil] at h
    exact h
  | d :: ds, acc, h, hs => hs d List.mem_cons_self acc (fun acc' s' => dComp g t f e0 R ds acc' s') (comp_pure F ds (acc ++ F d) (by simpa [List.append_assoc] using h) fun d' h' => hs d' (List.mem_cons_of_mem _ h'))
theorem compG_inv {g : DG} {t : Tst} {f : Exp} {e0 : DEnv} {R : List D → S → Prop} (I : List D → List D → S → Prop) (hend : ∀ acc s, I [] acc s → R acc s)
    (hstep : ∀ d ds acc s (K : List D → S → Prop), I (d :: ds) acc s → (∀ acc' s', I ds acc' s' → K acc' s') → g d e0 s (fun e1 s1 => t e1 s1 (fun b s2 => if b = true then f e1 s2 (fun y s3 => acc.length < sizeLine ∧ K (acc ++ [y]) s3) (fun _ _ => False) else K acc s2) (fun _ _ => False))) :
    ∀ ds acc s, I ds acc s → dCompG g t f e0 R ds acc s
  | [], acc, s, h => hend acc s h
  | d :: ds, acc, s, h => hstep d ds acc s (fun acc' s' => dCompG g t f e0 R ds acc' s') h fun acc' s' q => compG_inv I hend hstep ds acc' s' q
theorem comp2_inv {g g1 : DG} {t t1 : Tst} {fi : Arg} {f : Exp} {e0 : DEnv} {vs1 : List Nat} {R : List D → S → Prop} (I : List D → List D → S → Prop) (hend : ∀ acc s, I [] acc s → R acc s)
    (hstep : ∀ d ds acc s (K : List D → S → Prop), I (d :: ds) acc s → (∀ acc' s', I ds acc' s' → K acc' s') → g d e0 s (fun e1 s1 => t e1 s1 (fun b s2 => if b = true then fi e1 s2 (fun its s3 => dCompG g1 t1 f (dwipe e1 vs1) K its acc s3) (fun _ _ => False) else K acc s2) (fun _ _ => False))) :
    ∀ ds acc s, I ds acc s → dComp2 g t fi g1 t1 f e0 vs1 R ds acc s
  | [], acc, s, h => hend acc s h
  | d :: ds, acc, s, h => hstep d ds acc s (fun acc' s' => dComp2 g t fi g1 t1 f e0 vs1 R ds acc' s') h fun acc' s' q => comp2_inv I hend hstep ds acc' s' q

/-! ### draws -/
/-- a def that draws: at most c draws, then a value with P -/
def pDr (c : Nat) (pre : List D → Prop) (Pd : List D → D → Prop) : Fn := fun ds s R _ => ∃ mu p m as, ds = D.rf (.ref p) :: as ∧ s = ⟨mu, some (p, m)⟩ ∧ c ≤ m ∧ pre as ∧ ∀ d, Pd as d → R d ⟨mu, some (p, m - c)⟩
theorem use_dr {c : Nat} {pre : List D → Prop} {Pd : List D → D → Prop} {mu : Addr → Option MO} {p : Addr} {m : Nat} {as : List D} {R : Q1} {E : XQ} (hc : c ≤ m) (hp : pre as) (h : ∀ d, Pd as d → R d ⟨mu, some (p, m - c)⟩) : pDr c pre Pd (.rf (.ref p) :: as) ⟨mu, some (p, m)⟩ R E :=
  ⟨mu, p, m, as, rfl, rfl, hc, hp, h⟩
theorem Sub.of {mu mu' : Addr → Option MO} {p : Addr} {n m : Nat} (h : ∀ q o, mu q = some o → mu' q = some o) (hn : n ≤ m) : Sub ⟨mu, some (p, n)⟩ ⟨mu', some (p, m)⟩ := ⟨h, fun q k e => by cases e; exact ⟨m, hn, rfl⟩⟩
theorem Sub.less {mu : Addr → Option MO} {p : Addr} {n m : Nat} (hn : n ≤ m) : Sub ⟨mu, some (p, n)⟩ ⟨mu, some (p, m)⟩ := .of (fun _ _ h => h) hn
end Bk

/-! Bk: the draws: the dict made, one draw. -/
namespace Bk
open PySem PySem.Spec PyProof.Rows L2

/-! ### ints in a list, == -/
theorem okd_ints_pl (ns : List Int) : (D.lst (ns.map .int)).eqOk = true := by
  have h : ∀ ns : List Int, D.pls (ns.map .int) = true ∧ PyData.canLayAll0 (D.pys (ns.map .int)) = true ∧ PyData.depthAll (D.pys (ns.map .int)) = 0 := by
    intro ns
    induction ns with
    | nil => simp [D.pls, D.pys, PyData.canLayAll0, PyData.depthAll]
    | cons n ns ih => simp [D.pls, D.pys, PyData.canLayAll0, PyData.depthAll, D.pl, D.py, PyData.canLay0, PyData.depth, ih.1, ih.2.1, ih.2.2]
  obtain ⟨h1, h2, h3⟩ := h ns
  unfold D.eqOk SeqAt.shaped
  rw [D.pl, D.py, PyData.canLay0, PyData.depth, h1, h2, h3]; rfl
theorem eqOk_nil : (D.lst []).eqOk = true := okd_ints_pl []
theorem eqOk_int (i : Int) : (D.int i).eqOk = true := by
  unfold D.eqOk SeqAt.shaped
  rw [D.pl, D.py, PyData.canLay0, PyData.depth]; rfl
theorem eqb_lst_nil (xs : List D) : (D.lst xs).eqb (.lst []) = xs.isEmpty := by
  unfold D.eqb
  rw [D.py, D.py, PyData.eqv]
  cases xs with
  | nil => rw [D.pys, PyData.eqvAll]; rfl
  | cons x xs => rw [D.pys, D.pys, PyData.eqvAll]; rfl
theorem eqb_tup_nil (xs : List D) : (D.tup xs).eqb (.tup []) = xs.isEmpty := by
  unfold D.eqb
  rw [D.py, D.py, PyData.eqv]
  cases xs with
  | nil => rw [D.pys, PyData.eqvAll]; rfl
  | cons x xs => rw [D.pys, D.pys, PyData.eqvAll]; rfl

/-! ### the open dict -/
def genK (cs : List Int) (l : Addr) (t : Int) : List (Key × D) := [(Sum.inr "cells", .lst (cs.map .int)), (Sum.inr "left", .rf (.ref l)), (Sum.inr "at", .int t)]
theorem k_cl : (("cells" : Str) = "left") = False := by decide
theorem k_ca : (("cells" : Str) = "at") = False := by decide
theorem k_la : (("left" : Str) = "at") = False := by decide
theorem k_al : (("at" : Str) = "left") = False := by decide
theorem gen_left (cs : List Int) (l : Addr) (t : Int) : dval (genK cs l t) (Sum.inr "left") = some (.rf (.ref l)) := by
  unfold dval genK
  simp [k_cl]
theorem gen_cells (cs : List Int) (l : Addr) (t : Int) : dval (genK cs l t) (Sum.inr "cells") = some (.lst (cs.map .int)) := by
  unfold dval genK
  simp
theorem gen_at (cs : List Int) (l : Addr) (t : Int) : dval (genK cs l t) (Sum.inr "at") = some (.int t) := by
  unfold dval genK
  simp [k_ca, k_la]
theorem gen_put_left (cs : List Int) (l l' : Addr) (t : Int) : dput (genK cs l t) (Sum.inr "left") (.rf (.ref l')) = genK cs l' t := by
  unfold dput genK
  rw [if_pos (by simp)]
  simp [k_cl, k_al]
theorem gen_put_at (cs : List Int) (l : Addr) (t t' : Int) : dput (genK cs l t) (Sum.inr "at") (.int t') = genK cs l t' := by
  unfold dput genK
  rw [if_pos (by simp)]
  simp [k_ca, k_la]
structure GO (mu0 : Addr → Option MO) (p : Addr) (cs : List Int) (t : Int) (s : S) (l : Addr) (ls : List Int) : Prop where
  g0 : s.g = none
  hp : s.mu p = some (.mk (genK cs l t))
  hl : s.mu l = some (.ml (ls.map .int))
  np : l ≠ p
  sub : ∀ q o, mu0 q = some o → s.mu q = some o
  m0p : mu0 p = none
  m0l : mu0 l = none
section
variable {mu0 : Addr → Option MO} {p l : Addr} {cs ls : List Int} {t : Int} {s : S}
theorem GO.start {n : Nat} (hp : mu0 p = none) (hl : mu0 l = none) (np : l ≠ p) : GO mu0 p cs t (S.open ⟨mu0, some (p, n)⟩ p l cs ls t) l ls := by
  have e : ∀ q, (S.open ⟨mu0, some (p, n)⟩ p l cs ls t).mu q = if q = p then some (genM cs l t) else if q = l then some (MO.ml (ls.map .int)) else mu0 q := fun q => rfl
  refine ⟨rfl, by rw [e, if_pos rfl]; rfl, by rw [e, if_neg np, if_pos rfl], np, fun q o h => ?_, hp, hl⟩
  rw [e, if_neg (fun z => by rw [z, hp] at h; cases h), if_neg (fun z => by rw [z, hl] at h; cases h)]
  exact h
theorem GO.toAt (G : GO mu0 p cs t s l ls) (t' : Int) : GO mu0 p cs t' (s.put p (.mk (genK cs l t'))) l ls := by
  have e : ∀ q, (s.put p (.mk (genK cs l t'))).mu q = if q = p then some (MO.mk (genK cs l t')) else s.mu q := fun q => rfl
  refine ⟨G.g0, by rw [e, if_pos rfl], by rw [e, if_neg G.np]; exact G.hl, G.np, fun q o h => ?_, G.m0p, G.m0l⟩
  rw [e, if_neg (fun z => by rw [z, G.m0p] at h; cases h)]
  exact G.sub q o h
theorem GO.toLs (G : GO mu0 p cs t s l ls) (ls' : List Int) : GO mu0 p cs t (s.put l (.ml (ls'.map .int))) l ls' := by
  have e : ∀ q, (s.put l (.ml (ls'.map .int))).mu q = if q = l then some (MO.ml (ls'.map .int)) else s.mu q := fun q => rfl
  refine ⟨G.g0, by rw [e, if_neg G.np.symm]; exact G.hp, by rw [e, if_pos rfl], G.np, fun q o h => ?_, G.m0p, G.m0l⟩
  rw [e, if_neg (fun z => by rw [z, G.m0l] at h; cases h)]
  exact G.sub q o h
theorem GO.toL (G : GO mu0 p cs t s l ls) {l' : Addr} (n : s.mu l' = none) (ls' : List Int) : GO mu0 p cs t ((s.put l' (.ml (ls'.map .int))).put p (.mk (genK cs l' t))) l' ls' := by
  have e : ∀ q, ((s.put l' (.ml (ls'.map .int))).put p (.mk (genK cs l' t))).mu q = if q = p then some (MO.mk (genK cs l' t)) else if q = l' then some (MO.ml (ls'.map .int)) else s.mu q := fun q => rfl
  have np : l' ≠ p := fun z => by rw [z, G.hp] at n; cases n
  have nl : mu0 l' = none := by
    cases h : mu0 l' with
    | none => rfl
    | some o => rw [G.sub _ _ h] at n; cases n
  refine ⟨G.g0, by rw [e, if_pos rfl], by rw [e, if_neg np, if_pos rfl], np, fun q o h => ?_, G.m0p, nl⟩
  rw [e, if_neg (fun z => by rw [z, G.m0p] at h; cases h), if_neg (fun z => by rw [z, nl] at h; cases h)]
  exact G.sub q o h
theorem GO.shut (G : GO mu0 p cs t s l ls) (n : Nat) : Sub ⟨mu0, some (p, n)⟩ (s.shut p l n) := by
  have e : ∀ q, (s.shut p l n).mu q = if q = l then none else if q = p then none else s.mu q := fun q => rfl
  refine Sub.of (mu' := (s.shut p l n).mu) (fun q o h => ?_) (Nat.le_refl n)
  rw [e, if_neg (fun z => by rw [z, G.m0l] at h; cases h), if_neg (fun z => by rw [z, G.m0p] at h; cases h)]
  exact G.sub q o h
end
theorem lst_map (ls : List Int) : ls.map D.int = [] ↔ ls = [] := by cases ls <;> simp
theorem cut_tail (x : D) (xs : List D) : cutD (x :: xs) (some 1) none = xs := by
  unfold cutD
  rw [show HT.sIx (x :: xs).length 0 (some 1) = min 1 (x :: xs).length from HT.sIx_nat (x :: xs).length 0 1, HT.sIx_none]
  rw [show min 1 (x :: xs).length = 1 by rw [List.length_cons]; omega]
  show List.take ((x :: xs).length - 1) xs = xs
  rw [List.length_cons, Nat.add_sub_cancel]
  exact List.take_length
theorem atI_0 {α : Type} (x : α) (xs : List α) : atI (x :: xs) 0 = some x := by
  unfold atI ixN
  rw [if_pos (by omega), if_pos (by rw [List.length_cons]; omega)]; rfl
theorem ixN_0 {α : Type} (x : α) (xs : List α) : ixN (x :: xs).length 0 = some 0 := by
  unfold ixN
  rw [if_pos (by omega), if_pos (by rw [List.length_cons]; omega)]; rfl
theorem atI_of {α : Type} {xs : List α} {i : Int} (h0 : 0 ≤ i) (h1 : i < xs.length) : ∃ x, atI xs i = some x ∧ x ∈ xs := by
  unfold atI ixN
  rw [if_pos h0, if_pos h1]
  have : i.toNat < xs.length := by omega
  exact ⟨xs[i.toNat], by show xs[i.toNat]? = _; exact List.getElem?_eq_getElem this, List.getElem_mem this⟩

/-! ### _law_begun -/
abbrev N_law_begun : List Str := ["_law_script", "_law_cell"]
def t_law_begun : DTS := (dRet (dShutV 1125899906842624 (dDispM [((dC (.str "cells")), (dBlt cList (dCons (dVar 0) dNil))), ((dC (.str "left")), (dLcM (dIter (dVar 0)) (gdName 1) (dTst (dOp oGe (dVar 1) (dOp oPow (dC (.int 10)) (dC (.int 18))))) (dVar 1) [1])), ((dC (.str "at")), (dC (.int 0)))])))
def p_law_begun : Fn := fun ds s R _ => ∃ ns, ds = [.scr ns] ∧ s = ⟨fun _ => none, none⟩ ∧ ∀ p, R (.rf (.ref p)) ⟨fun _ => none, some (p, 1125899906842624)⟩
theorem comp_filter {c : Int → Bool} {f : Exp} {e0 : DEnv} {t : Tst} {R : List D → S → Prop} {s : S} (ns : List Int) (acc : List D) (h : R (acc ++ (ns.filter c).map .int) s)
    (ht : ∀ n (Rt : Bool → S → Prop) E, t (dset e0 1 (some (.int n))) s Rt E = Rt (c n) s) (hf : ∀ n (Rf : Q1) E, f (dset e0 1 (some (.int n))) s Rf E = Rf (.int n) s) : dComp (gdName 1) t f e0 R (ns.map .int) acc s := by
  induction ns generalizing acc with
  | nil => simpa [dComp] using h
  | cons n ns ih =>
    rw [List.map_cons, dComp]
    show t (dset e0 1 (some (.int n))) s _ _
    rw [ht]
    cases e : c n with
    | true =>
      rw [if_pos rfl, hf]
      exact ih _ (by rw [List.filter_cons_of_pos e, List.map_cons] at h; simpa [List.append_assoc] using h)
    | false =>
      rw [if_neg (by decide)]
      exact ih _ (by rw [List.filter_cons_of_neg (by rw [e]; decide)] at h; exact h)
theorem r_law_begun : ∀ ds s R E, ds.length = 1 → p_law_begun ds s R E → t_law_begun (fnEnds R E) (dstart N_law_begun ds) s := by
  rintro _ _ R E _ ⟨ns, rfl, rfl, h⟩
  refine ⟨ns.map .int, rfl, fun hz => ⟨by rw [List.length_map]; exact hz, ?_⟩⟩
  refine comp_filter (c := fun n => decide (10 ^ 18 ≤ n)) ns [] ?_ (fun n Rt E => ?_) (fun n Rf E => rfl)
  · intro l _
    refine ⟨[(Sum.inr "cells", .lst (ns.map .int)), (Sum.inr "left", .rf (.ref l)), (Sum.inr "at", .int 0)], rfl, Nat.le_of_ble_eq_true rfl, fun p hp => ?_⟩
    have np : l ≠ p := fun z => by
      subst z
      have hp' : (if l = l then some _ else none : Option MO) = none := hp
      rw [if_pos rfl] at hp'; cases hp'
    have em : dMerge [] [(Sum.inr "cells", .lst (ns.map .int)), (Sum.inr "left", .rf (.ref l)), (Sum.inr "at", .int 0)] = genK ns l 0 := by
      unfold dMerge genK dput
      simp [k_cl, k_ca, k_la]
    refine ⟨p, l, ns, ns.filter (fun n => decide (10 ^ 18 ≤ n)), 0, rfl, rfl, ?_, ?_, by decide, by decide, ⟨_, ?_, h p⟩⟩
    · show (if p = p then some (MO.mk (dMerge [] _)) else _) = _
      rw [if_pos rfl, em]; rfl
    · show (if l = p then _ else if l = l then some (MO.ml _) else _) = _
      rw [if_neg np, if_pos rfl]; rfl
    · exact .of (fun q o z => by cases z) (Nat.le_refl _)
  · show (CPow 10 18 ∧ _) = _
    rw [eq_iff_iff]
    exact ⟨fun z => z.2, fun z => ⟨⟨by decide, by decide, by decide⟩, z⟩⟩

/-! ### _law_next -/
abbrev N_law_next : List Str := ["_law_m", "_law_many", "_law_rest", "_law_at", "_law_lot", "_law_cell", "_law_blend"]
def t_law_next : DTS := (dOpen 0 (dSeq (dWhile (dAnd (dTst (dOp oNeM (dGet (dVar 0) (dC (.str "left"))) (dLst dNil))) (dTst (dOp oEq (dOp oIx (dGet (dVar 0) (dC (.str "left"))) (dC (.int 0))) (dC (.int 0))))) (dPutS (dVar 0) (dC (.str "left")) (dSlM (dGet (dVar 0) (dC (.str "left"))) (dPart (dC (.int 1))) dNoPart)))
  (dSeq (dIfS (dTst (dOp oNeM (dGet (dVar 0) (dC (.str "left"))) (dLst dNil))) (dSeq (dSet 2 (dOp oIx (dGet (dVar 0) (dC (.str "left"))) (dC (.int 0))))
  (dSeq (dSetIx (dGet (dVar 0) (dC (.str "left"))) (dC (.int 0)) (dOp oDiv (dVar 2) (dVar 1)))
  (dRet (dShut 0 (dOp oMod (dBlt cInt (dCons (dVar 2) dNil)) (dVar 1)))))) dNext)
  (dSeq (dPar 3 4 (dCons (dOp oAdd (dGet (dVar 0) (dC (.str "at"))) (dC (.int 1))) (dCons (dGet (dVar 0) (dC (.str "cells"))) dNil)))
  (dSeq (dPutS (dVar 0) (dC (.str "at")) (dVar 3))
  (dSeq (dSet 5 (dIf (dTst (dOp oNe (dVar 4) (dLst dNil))) (dBlt cInt (dCons (dOp oIx (dVar 4) (dOp oMod (dBlt cInt (dCons (dOp oAdd (dOp oMul (dVar 3) (dVar 3)) (dOp oDiv (dVar 3) (dC (.int 2)))) dNil)) (dBlt cLen (dCons (dVar 4) dNil)))) dNil)) (dC (.int 5))))
  (dSeq (dSet 6 (dOp oMod (dBlt cInt (dCons (dOp oAdd (dOp oAdd (dOp oMul (dVar 5) (dC (.int 40692))) (dOp oMul (dVar 3) (dC (.int 65539)))) (dOp oMul (dOp oMul (dC (.int 7001)) (dVar 3)) (dVar 3))) dNil)) (dC (.int 2147483399))))
  (dRet (dShut 0 (dOp oMod (dBlt cInt (dCons (dOp oDiv (dOp oMod (dBlt cInt (dCons (dOp oAdd (dOp oMul (dVar 6) (dC (.int 48271))) (dOp oMul (dC (.int 1013)) (dVar 3))) dNil)) (dC (.int 2147483647))) (dC (.int 13))) dNil)) (dVar 1)))))))))))
/-- one draw: any number below k -/
def p_law_next : Fn := fun ds s R _ => ∃ mu p m k, ds = [.rf (.ref p), .int k] ∧ s = ⟨mu, some (p, m)⟩ ∧ 1 ≤ m ∧ 0 < k ∧ k < 1073741824 ∧ ∀ r, 0 ≤ r → r < k → R (.int r) ⟨mu, some (p, m - 1)⟩
theorem use_next {mu : Addr → Option MO} {p : Addr} {m : Nat} {k : Int} {R : Q1} {E : XQ} (hm : 1 ≤ m) (h0 : 0 < k) (h1 : k < 1073741824) (h : ∀ r, 0 ≤ r → r < k → R (.int r) ⟨mu, some (p, m - 1)⟩) : p_law_next [.rf (.ref p), .int k] ⟨mu, some (p, m)⟩ R E :=
  ⟨mu, p, m, k, rfl, rfl, hm, h0, h1, h⟩
theorem lstOf_ml {s : S} {l : Addr} {ds : List D} (h : s.mu l = some (.ml ds)) : lstOf (.rf (.ref l)) s = some ds := by
  show (match s.mu l with | some (MO.ml ds) => some ds | _ => none) = _
  rw [h]
theorem dicOf_mk {s : S} {l : Addr} {ds : List (Key × D)} (h : s.mu l = some (.mk ds)) : dicOf (.rf (.ref l)) s = some ds := by
  show (match s.mu l with | some (MO.mk ds) => some ds | _ => none) = _
  rw [h]
theorem dref_ml {s : S} {l : Addr} {ds : List D} (h : s.mu l = some (.ml ds)) : dref (.rf (.ref l)) s = .lst ds := by
  unfold dref
  rw [lstOf_ml h]
theorem r_law_next : ∀ ds s R E, ds.length = 2 → p_law_next ds s R E → t_law_next (fnEnds R E) (dstart N_law_next ds) s := by
  rintro _ _ R E _ ⟨mu, p, m, k, rfl, rfl, hm, hk0, hk1, h⟩
  refine ⟨p, m, rfl, rfl, fun l t cs ls h0 h1 hp hl hn => ?_⟩
  refine ⟨fun j e s => e = [some (.rf (.ref p)), some (.int k), none, none, none, none, none] ∧ ∃ l ls, GO mu p cs t s l ls ∧ ls.length = j, ⟨_, rfl, l, ls, GO.start hp hl hn, rfl⟩, ?_⟩
  rintro j e s ⟨rfl, l, ls, G, rfl⟩
  -- left != []
  refine ⟨_, _, _, rfl, dicOf_mk G.hp, gen_left cs l t, Nat.zero_le _, ?_⟩
  refine ⟨⟨by rw [dref_ml G.hl]; exact okd_ints_pl ls, okd_ints_pl []⟩, ?_⟩
  rw [dref_ml G.hl]
  rw [show dref (D.lst []) s = .lst [] from rfl, eqb_lst_nil]
  have hw : ∀ {q : Prop}, q → q := fun h => h
  -- behind the loop
  have back : ∀ (s : S) (l : Addr) (ls : List Int), GO mu p cs t s l ls → (ls = [] ∨ ∃ x r, ls = x :: r ∧ x ≠ 0) → 
      (dSeq (dIfS (dTst (dOp oNeM (dGet (dVar 0) (dC (.str "left"))) (dLst dNil))) (dSeq (dSet 2 (dOp oIx (dGet (dVar 0) (dC (.str "left"))) (dC (.int 0))))
  (dSeq (dSetIx (dGet (dVar 0) (dC (.str "left"))) (dC (.int 0)) (dOp oDiv (dVar 2) (dVar 1)))
  (dRet (dShut 0 (dOp oMod (dBlt cInt (dCons (dVar 2) dNil)) (dVar 1)))))) dNext)
  (dSeq (dPar 3 4 (dCons (dOp oAdd (dGet (dVar 0) (dC (.str "at"))) (dC (.int 1))) (dCons (dGet (dVar 0) (dC (.str "cells"))) dNil)))
  (dSeq (dPutS (dVar 0) (dC (.str "at")) (dVar 3))
  (dSeq (dSet 5 (dIf (dTst (dOp oNe (dVar 4) (dLst dNil))) (dBlt cInt (dCons (dOp oIx (dVar 4) (dOp oMod (dBlt cInt (dCons (dOp oAdd (dOp oMul (dVar 3) (dVar 3)) (dOp oDiv (dVar 3) (dC (.int 2)))) dNil)) (dBlt cLen (dCons (dVar 4) dNil)))) dNil)) (dC (.int 5))))
  (dSeq (dSet 6 (dOp oMod (dBlt cInt (dCons (dOp oAdd (dOp oAdd (dOp oMul (dVar 5) (dC (.int 40692))) (dOp oMul (dVar 3) (dC (.int 65539)))) (dOp oMul (dOp oMul (dC (.int 7001)) (dVar 3)) (dVar 3))) dNil)) (dC (.int 2147483399))))
  (dRet (dShut 0 (dOp oMod (dBlt cInt (dCons (dOp oDiv (dOp oMod (dBlt cInt (dCons (dOp oAdd (dOp oMul (dVar 6) (dC (.int 48271))) (dOp oMul (dC (.int 1013)) (dVar 3))) dNil)) (dC (.int 2147483647))) (dC (.int 13))) dNil)) (dVar 1)))))))))
        (fnEnds R E) [some (.rf (.ref p)), some (.int k), none, none, none, none, none] s := by
    intro s l ls G hls
    refine ⟨_, _, _, rfl, dicOf_mk G.hp, gen_left cs l t, Nat.zero_le _, ⟨by rw [dref_ml G.hl]; exact okd_ints_pl ls, okd_ints_pl []⟩, ?_⟩
    rw [dref_ml G.hl]
    rw [show dref (D.lst []) s = .lst [] from rfl, eqb_lst_nil]
    cases ls with
    | cons x r =>
      have hx : x ≠ 0 := by rcases hls with z | ⟨x', r', z, h'⟩
                            · cases z
                            · cases z; exact h'
      -- a number of the script
      refine ⟨_, _, _, rfl, dicOf_mk G.hp, gen_left cs l t, _, _, lstOf_ml G.hl, atI_0 _ _, ?_⟩
      refine ⟨⟨hk0, hk1⟩, _, _, _, rfl, dicOf_mk G.hp, gen_left cs l t, _, 0, G.hl, ixN_0 (D.int x) (r.map D.int), ?_⟩
      have e1 : ((x :: r).map D.int).set 0 (.int (x / k)) = ((x / k) :: r).map D.int := rfl
      rw [e1]
      have G2 := G.toLs ((x / k) :: r)
      refine ⟨hk0, p, l, cs, (x / k) :: r, t, m - 1, rfl, G2.g0, G2.hp, G2.hl, h0, by omega, ⟨_, G2.shut (m - 1), h _ (Int.emod_nonneg _ (by omega)) (Int.emod_lt_of_pos _ hk0)⟩⟩
    | nil =>
      refine ⟨_, _, _, rfl, dicOf_mk G.hp, gen_at cs l t, _, _, _, rfl, dicOf_mk G.hp, gen_cells cs l t, ?_⟩
      refine ⟨_, _, rfl, G.hp, by rw [sizeLine_eq]; show 3 < 16777216; decide, ?_⟩
      rw [gen_put_at]
      have G2 := G.toAt (t + 1)
      have c1 : CMul (t + 1) (t + 1) := .inl ⟨by omega, by omega⟩
      have fin : ∀ c : Int, dSeq (dSet 6 (dOp oMod (dBlt cInt (dCons (dOp oAdd (dOp oAdd (dOp oMul (dVar 5) (dC (.int 40692))) (dOp oMul (dVar 3) (dC (.int 65539)))) (dOp oMul (dOp oMul (dC (.int 7001)) (dVar 3)) (dVar 3))) dNil)) (dC (.int 2147483399))))
          (dRet (dShut 0 (dOp oMod (dBlt cInt (dCons (dOp oDiv (dOp oMod (dBlt cInt (dCons (dOp oAdd (dOp oMul (dVar 6) (dC (.int 48271))) (dOp oMul (dC (.int 1013)) (dVar 3))) dNil)) (dC (.int 2147483647))) (dC (.int 13))) dNil)) (dVar 1))))
          (fnEnds R E) [some (.rf (.ref p)), some (.int k), none, some (.int (t + 1)), some (.lst (cs.map .int)), some (.int c), none] (s.put p (.mk (genK cs l (t + 1)))) := by
        intro c
        refine ⟨.inr ⟨by decide, by decide⟩, .inr ⟨by decide, by decide⟩, .inl ⟨by decide, by decide⟩, .inr ⟨by omega, by omega⟩, (show (0 : Int) < 2147483399 by decide), ?_⟩
        refine ⟨.inr ⟨by decide, by decide⟩, .inl ⟨by decide, by decide⟩, (show (0 : Int) < 2147483647 by decide), ⟨by decide, by decide⟩, hk0, ?_⟩
        exact ⟨p, l, cs, [], t + 1, m - 1, rfl, G2.g0, G2.hp, G2.hl, by omega, by omega, ⟨_, G2.shut (m - 1), h _ (Int.emod_nonneg _ (by omega)) (Int.emod_lt_of_pos _ hk0)⟩⟩
      refine ⟨Nat.zero_le _, ⟨okd_ints_pl cs, okd_ints_pl []⟩, ?_⟩
      rw [eqb_lst_nil]
      cases cs with
      | nil => exact fin 5
      | cons c0 cs =>
        refine ⟨c1, ⟨by decide, by decide⟩, _, rfl, by show (0 : Int) < (((c0 :: cs).map D.int).length : Nat); rw [List.length_map, List.length_cons]; omega, ?_⟩
        obtain ⟨d, hd, hm'⟩ := atI_of (xs := (c0 :: cs).map D.int) (i := ((t + 1) * (t + 1) + (t + 1) / 2) % (((c0 :: cs).map D.int).length : Nat)) (Int.emod_nonneg _ (by rw [List.length_map, List.length_cons]; omega)) (Int.emod_lt_of_pos _ (by rw [List.length_map, List.length_cons]; omega))
        obtain ⟨c, _, rfl⟩ := List.mem_map.mp hm'
        exact ⟨_, _, rfl, hd, fin c⟩
  cases ls with
  | nil => exact back s l [] G (.inl rfl)
  | cons x ls =>
    show (dTst (dOp oEq (dOp oIx (dGet (dVar 0) (dC (.str "left"))) (dC (.int 0))) (dC (.int 0)))) _ _ _ _
    refine ⟨_, _, _, rfl, dicOf_mk G.hp, gen_left cs l t, _, _, lstOf_ml G.hl, atI_0 _ _, ⟨eqOk_int _, eqOk_int _⟩, ?_⟩
    rw [eqb_int]
    by_cases hx : x = 0
    · rw [decide_eq_true hx]
      refine ⟨_, _, _, rfl, dicOf_mk G.hp, gen_left cs l t, _, lstOf_ml G.hl, fun l' hl' => ?_⟩
      refine ⟨_, genK cs l t, rfl, ?_, by rw [sizeLine_eq]; show 3 < 16777216; decide, ?_⟩
      · show (if p = l' then _ else s.mu p) = _
        rw [if_neg (fun z => by rw [← z, G.hp] at hl'; cases hl')]
        exact G.hp
      · rw [gen_put_left, List.map_cons, cut_tail]
        exact ⟨_, Nat.lt_succ_self _, rfl, l', ls, G.toL hl' ls, rfl⟩
    · rw [decide_eq_false hx]
      exact back s l (x :: ls) G (.inr ⟨x, ls, rfl, hx⟩)
end Bk

/-! Bk: the draws of names, cells, programs: what they give. -/
namespace Bk
open PySem PySem.Spec PyProof.Rows L2

/-! ### cells, formulas, programs as data -/
abbrev Term := Int × Str
abbrev Test := List Term × Str × Int
abbrev SetR := Str × List Term × Int
structure Prog where
  name : Str
  level : Str
  looks : List (List Str)
  when : List (List Test)
  sets : List SetR
  marks : List Str
def letters : Str := "abcdefghijklmnopqrstuvwxyz"
/-- signs from a to z -/
def Low (x : Str) : Prop := ∀ c ∈ x.cps.toList, c ∈ letters.cps.toList
def lowS (x : Str) : Prop := 1 ≤ x.length ∧ x.length ≤ 8 ∧ Low x
def cellD (c : Str × Int) : D := .tup [.str c.1, .int c.2]
def cellsD (cs : List (Str × Int)) : D := .tup (cs.map cellD)
def termD (t : Term) : D := .tup [.int t.1, .str t.2]
def termsD (ts : List Term) : D := .tup (ts.map termD)
def testD (t : Test) : D := .tup [termsD t.1, .str t.2.1, .int t.2.2]
def caseD (c : List Test) : D := .tup (c.map testD)
def formD (f : List (List Test)) : D := .tup (f.map caseD)
def partD (p : List Str) : D := .tup (texts p)
def looksD (l : List (List Str)) : D := .tup (l.map partD)
def setD (x : SetR) : D := .tup [.str x.1, termsD x.2.1, .int x.2.2]
def setsD (xs : List SetR) : D := .tup (xs.map setD)
def progD (p : Prog) : D := .tup [.str p.name, .str p.level, looksD p.looks, formD p.when, setsD p.sets, partD p.marks]
def namesOk (ns : List Str) : Prop := (∀ x ∈ ns, nmOk x) ∧ ns.length ≤ 4
structure CellsOk (cs : List (Str × Int)) : Prop where
  nm : ∀ c ∈ cs, nmOk c.1
  pos : 1 ≤ cs.length
  len : cs.length ≤ 4
  most : ∀ c ∈ cs, 1 ≤ c.2 ∧ c.2 ≤ 3
  nd : (cs.map (·.1)).Nodup
  low : ∀ c ∈ cs, lowS c.1
structure TermsOk (ns : List Str) (ts : List Term) : Prop where
  len : ts.length ≤ ns.length
  all : ∀ t ∈ ts, (-9 ≤ t.1 ∧ t.1 ≤ 9) ∧ t.2 ∈ ns
def opsL : List Str := ["=", "!=", "<", "<=", ">", ">="]
structure TestOk (ns : List Str) (t : Test) : Prop where
  terms : TermsOk ns t.1
  op : t.2.1 ∈ opsL
  num : -99 ≤ t.2.2 ∧ t.2.2 ≤ 99
structure FormOk (ns : List Str) (f : List (List Test)) : Prop where
  len : f.length ≤ 4
  cases : ∀ c ∈ f, c.length ≤ 4 ∧ ∀ t ∈ c, TestOk ns t
structure LooksOk (ns : List Str) (l : List (List Str)) : Prop where
  len : l.length ≤ 3
  parts : ∀ p ∈ l, p ≠ [] ∧ p.length ≤ 4 ∧ p.Sublist ns
def knownOf (ns : List Str) (l : List (List Str)) : List Str := ns.filter fun x => decide (x ∈ l.flatten)
def levelsL : List Str := ["each", "each", "one", "one", "last"]
structure ProgOk (ns : List Str) (p : Prog) : Prop where
  name : nmOk p.name
  level : p.level ∈ levelsL
  looks : LooksOk ns p.looks
  when : FormOk (knownOf ns p.looks) p.when
  setsLen : p.sets.length ≤ 4
  setsIn : (p.sets.map (·.1)).Sublist ns
  sets : ∀ x ∈ p.sets, TermsOk (knownOf ns p.looks) x.2.1 ∧ -99 ≤ x.2.2 ∧ x.2.2 ≤ 99
  marksLen : p.marks.length ≤ 4
  marksIn : p.marks.Sublist ns
  marksNot : ∀ x ∈ p.marks, x ∉ p.sets.map (·.1)

/-! ### what the draws give -/
def p_law_names : Fn := pDr 11 (fun as => ∃ n : Nat, as = [.int n] ∧ n ≤ 4) fun as d => ∃ ns, as = [.int (ns.length : Nat)] ∧ d = .lst (texts ns) ∧ namesOk ns ∧ ns.Nodup ∧ ∀ x ∈ ns, lowS x
def p_law_cells : Fn := pDr 16 (fun as => as = []) fun _ d => ∃ cs, d = cellsD cs ∧ CellsOk cs
def p_law_terms : Fn := pDr 8 (fun as => ∃ ns, as = [.lst (texts ns)] ∧ namesOk ns) fun as d => ∃ ns ts, as = [.lst (texts ns)] ∧ d = termsD ts ∧ TermsOk ns ts
def p_law_test : Fn := pDr 10 (fun as => ∃ ns, as = [.lst (texts ns)] ∧ namesOk ns) fun as d => ∃ ns t, as = [.lst (texts ns)] ∧ d = testD t ∧ TestOk ns t
def p_law_formula : Fn := pDr 165 (fun as => ∃ ns, as = [.lst (texts ns)] ∧ namesOk ns) fun as d => ∃ ns f, as = [.lst (texts ns)] ∧ d = formD f ∧ FormOk ns f
def p_law_looks : Fn := pDr 5 (fun as => ∃ ns, as = [.lst (texts ns)] ∧ namesOk ns) fun as d => ∃ ns l, as = [.lst (texts ns)] ∧ d = looksD l ∧ LooksOk ns l
def p_law_program : Fn := pDr 216 (fun as => ∃ cs x, as = [cellsD cs, .str x] ∧ CellsOk cs ∧ nmOk x) fun as d => ∃ cs x p, as = [cellsD cs, .str x] ∧ d = progD p ∧ p.name = x ∧ ProgOk (cs.map (·.1)) p

/-! ### the defs -/
abbrev N_law_names : List Str := ["_law_m", "_law_many", "_law_letters", "_law_stem", "_law_k", "_law_at", "_law_first", "_law_by", "_law_word"]
/-- _law_names: 0 _law_m 1 _law_many 2 _law_letters 3 _law_stem 4 _law_k 5 _law_at 6 _law_first 7 _law_by 8 _law_word -/
def t_law_names : DTS := (dSeq (dAsg (dTup (dCons (dC (.str "abcdefghijklmnopqrstuvwxyz")) (dCons (dC (.str "")) dNil))) (gdTup 2 (gdCons (gdName 2) (gdCons (gdName 3) gdNil))))
  (dSeq (dFor (dRng1 (dCons (dCall 2 p_law_next (dCons (dVar 0) (dCons (dC (.int 8)) dNil))) dNil)) (gdName 4) (dSet 3 (dOp oAdd (dVar 3) (dOp oIx (dVar 2) (dCall 2 p_law_next (dCons (dVar 0) (dCons (dC (.int 26)) dNil)))))))
  (dSeq (dAsg (dTup (dCons (dCall 2 p_law_next (dCons (dVar 0) (dCons (dOp oAdd (dBlt cLen (dCons (dVar 3) dNil)) (dC (.int 1))) dNil))) (dCons (dCall 2 p_law_next (dCons (dVar 0) (dCons (dC (.int 26)) dNil))) (dCons (dOp oIx (dLst (dCons (dC (.int 1)) (dCons (dC (.int 3)) (dCons (dC (.int 5)) (dCons (dC (.int 7)) (dCons (dC (.int 9)) (dCons (dC (.int 11)) dNil))))))) (dCall 2 p_law_next (dCons (dVar 0) (dCons (dC (.int 6)) dNil)))) dNil)))) (gdTup 3 (gdCons (gdName 5) (gdCons (gdName 6) (gdCons (gdName 7) gdNil)))))
  (dSeq (dSet 8 (dSl (dOp oAdd (dVar 3) (dOp oMul (dOp oIx (dVar 2) (dVar 6)) (dC (.int 8)))) dNoPart (dPart (dC (.int 8)))))
  (dSeq (dIfS (dTst (dOp oGt (dVar 7) (dC (.int 5)))) (dRet (dLc (dRng1 (dCons (dVar 1) dNil)) (gdName 4) dYes (dIf (dTst (dOp oGt (dVar 7) (dC (.int 7)))) (dSl (dVar 8) (dPart (dVar 4)) dNoPart) (dSl (dVar 8) dNoPart (dPart (dOp oSub (dOp oAdd (dVar 4) (dC (.int 9))) (dVar 1))))) [4])) dNext)
  (dRet (dLc (dRng1 (dCons (dVar 1) dNil)) (gdName 4) dYes (dOp oAdd (dOp oAdd (dSl (dVar 3) dNoPart (dPart (dVar 5))) (dOp oIx (dVar 2) (dOp oMod (dBlt cInt (dCons (dOp oAdd (dVar 6) (dOp oMul (dVar 7) (dVar 4))) dNil)) (dC (.int 26))))) (dSl (dVar 3) (dPart (dVar 5)) dNoPart)) [4])))))))
abbrev N_law_cells : List Str := ["_law_m", "_law_names_here", "_law_name"]
/-- _law_cells: 0 _law_m 1 _law_names_here 2 _law_name -/
def t_law_cells : DTS := (dSeq (dSet 1 (dCall 2 p_law_names (dCons (dVar 0) (dCons (dOp oAdd (dC (.int 1)) (dCall 2 p_law_next (dCons (dVar 0) (dCons (dC (.int 4)) dNil)))) dNil))))
  (dRet (dBlt cTuple (dCons (dLc (dIter (dVar 1)) (gdName 2) dYes (dTup (dCons (dVar 2) (dCons (dOp oAdd (dC (.int 1)) (dCall 2 p_law_next (dCons (dVar 0) (dCons (dC (.int 3)) dNil)))) dNil))) [2]) dNil))))
abbrev N_law_terms : List Str := ["_law_m", "_law_names_here", "_law_found", "_law_name"]
/-- _law_terms: 0 _law_m 1 _law_names_here 2 _law_found 3 _law_name -/
def t_law_terms : DTS := (dSeq (dSet 2 (dLstM dNil))
  (dSeq (dFor (dIter (dVar 1)) (gdName 3) (dIfS (dTst (dOp oEq (dCall 2 p_law_next (dCons (dVar 0) (dCons (dC (.int 2)) dNil))) (dC (.int 0)))) (dApp (dVar 2) (dTup (dCons (dOp oIx (dLst (dCons (dC (.int 1)) (dCons (dC (.int 1)) (dCons (dC (.int 1)) (dCons (dUn oNeg (dC (.int 1))) (dCons (dUn oNeg (dC (.int 1))) (dCons (dC (.int 2)) (dCons (dUn oNeg (dC (.int 2))) (dCons (dC (.int 9)) (dCons (dUn oNeg (dC (.int 9))) dNil)))))))))) (dCall 2 p_law_next (dCons (dVar 0) (dCons (dC (.int 9)) dNil)))) (dCons (dVar 3) dNil)))) dNext))
  (dRet (dBlt cTuple (dCons (dVar 2) dNil)))))
abbrev N_law_test : List Str := ["_law_m", "_law_names_here", "_law_op"]
/-- _law_test: 0 _law_m 1 _law_names_here 2 _law_op -/
def t_law_test : DTS := (dSeq (dSet 2 (dOp oIx (dLst (dCons (dC (.str "=")) (dCons (dC (.str "!=")) (dCons (dC (.str "<")) (dCons (dC (.str "<=")) (dCons (dC (.str ">")) (dCons (dC (.str ">=")) dNil))))))) (dCall 2 p_law_next (dCons (dVar 0) (dCons (dC (.int 6)) dNil)))))
  (dRet (dTup (dCons (dCall 2 p_law_terms (dCons (dVar 0) (dCons (dVar 1) dNil))) (dCons (dVar 2) (dCons (dOp oIx (dLst (dCons (dC (.int 0)) (dCons (dC (.int 1)) (dCons (dC (.int 1)) (dCons (dC (.int 2)) (dCons (dC (.int 3)) (dCons (dUn oNeg (dC (.int 1))) (dCons (dUn oNeg (dC (.int 2))) (dCons (dC (.int 99)) (dCons (dUn oNeg (dC (.int 99))) dNil)))))))))) (dCall 2 p_law_next (dCons (dVar 0) (dCons (dC (.int 9)) dNil)))) dNil))))))
abbrev N_law_formula : List Str := ["_law_m", "_law_names_here", "_law_found", "_law_k", "_law_j"]
/-- _law_formula: 0 _law_m 1 _law_names_here 2 _law_found 3 _law_k 4 _law_j -/
def t_law_formula : DTS := (dSeq (dSet 2 (dLstM dNil))
  (dSeq (dFor (dRng1 (dCons (dOp oIx (dLst (dCons (dC (.int 1)) (dCons (dC (.int 1)) (dCons (dC (.int 1)) (dCons (dC (.int 2)) (dCons (dC (.int 2)) (dCons (dC (.int 0)) (dCons (dC (.int 3)) (dCons (dC (.int 4)) dNil))))))))) (dCall 2 p_law_next (dCons (dVar 0) (dCons (dC (.int 8)) dNil)))) dNil)) (gdName 3) (dApp (dVar 2) (dBlt cTuple (dCons (dLc (dRng1 (dCons (dOp oIx (dLst (dCons (dC (.int 1)) (dCons (dC (.int 1)) (dCons (dC (.int 1)) (dCons (dC (.int 2)) (dCons (dC (.int 2)) (dCons (dC (.int 0)) (dCons (dC (.int 3)) (dCons (dC (.int 4)) dNil))))))))) (dCall 2 p_law_next (dCons (dVar 0) (dCons (dC (.int 8)) dNil)))) dNil)) (gdName 4) dYes (dCall 2 p_law_test (dCons (dVar 0) (dCons (dVar 1) dNil))) [4]) dNil))))
  (dRet (dBlt cTuple (dCons (dVar 2) dNil)))))
abbrev N_law_looks : List Str := ["_law_m", "_law_names_here", "_law_parts", "_law_many", "_law_lots", "_law_k", "_law_part", "_law_name", "_law_lot"]
/-- _law_looks: 0 _law_m 1 _law_names_here 2 _law_parts 3 _law_many 4 _law_lots 5 _law_k 6 _law_part 7 _law_name 8 _law_lot -/
def t_law_looks : DTS := (dSeq (dAsg (dTup (dCons (dLstM dNil) (dCons (dOp oIx (dLst (dCons (dC (.int 1)) (dCons (dC (.int 1)) (dCons (dC (.int 2)) (dCons (dC (.int 2)) (dCons (dC (.int 3)) (dCons (dC (.int 0)) dNil))))))) (dCall 2 p_law_next (dCons (dVar 0) (dCons (dC (.int 6)) dNil)))) dNil))) (gdTup 2 (gdCons (gdName 2) (gdCons (gdName 3) gdNil))))
  (dSeq (dSet 4 (dLc (dIter (dVar 1)) (gdName 7) dYes (dCall 2 p_law_next (dCons (dVar 0) (dCons (dOp oAdd (dVar 3) (dC (.int 1))) dNil))) [7]))
  (dSeq (dFor (dRng1 (dCons (dVar 3) dNil)) (gdName 5) (dSeq (dSet 6 (dBlt cTuple (dCons (dLc (dZip (dCons (dVar 1) (dCons (dVar 4) dNil))) (gdTup 2 (gdCons (gdName 7) (gdCons (gdName 8) gdNil))) (dTst (dOp oEq (dVar 8) (dVar 5))) (dVar 7) [7, 8]) dNil)))
  (dIfS (dTst (dOp oNe (dVar 6) (dTup dNil))) (dApp (dVar 2) (dVar 6)) dNext)))
  (dRet (dBlt cTuple (dCons (dVar 2) dNil))))))
abbrev N_law_program : List Str := ["_law_m", "_law_cells_here", "_law_name", "_law_names_here", "_law_known", "_law_sets", "_law_looks_here", "_law_part", "_law_one", "_law_marks", "_law_level", "_law_when", "_law_cell", "_law_row"]
/-- _law_program: 0 _law_m 1 _law_cells_here 2 _law_name 3 _law_names_here 4 _law_known 5 _law_sets 6 _law_looks_here 7 _law_part 8 _law_one 9 _law_marks 10 _law_level 11 _law_when 12 _law_cell 13 _law_row -/
def t_law_program : DTS := (dSeq (dAsg (dTup (dCons (dLc (dIter (dVar 1)) (gdName 12) dYes (dOp oIx (dVar 12) (dC (.int 0))) [12]) (dCons (dLst dNil) (dCons (dLstM dNil) dNil)))) (gdTup 3 (gdCons (gdName 3) (gdCons (gdName 4) (gdCons (gdName 5) gdNil)))))
  (dSeq (dSet 6 (dCall 2 p_law_looks (dCons (dVar 0) (dCons (dVar 3) dNil))))
  (dSeq (dFor (dIter (dVar 6)) (gdName 7) (dSet 4 (dOp oAdd (dVar 4) (dBlt cList (dCons (dVar 7) dNil)))))
  (dSeq (dSet 4 (dLc (dIter (dVar 3)) (gdName 8) (dTst (dOp (oIn false) (dVar 8) (dVar 4))) (dVar 8) [8]))
  (dSeq (dFor (dIter (dVar 3)) (gdName 8) (dIfS (dTst (dOp oEq (dCall 2 p_law_next (dCons (dVar 0) (dCons (dC (.int 2)) dNil))) (dC (.int 0)))) (dApp (dVar 5) (dTup (dCons (dVar 8) (dCons (dCall 2 p_law_terms (dCons (dVar 0) (dCons (dVar 4) dNil))) (dCons (dOp oIx (dLst (dCons (dC (.int 0)) (dCons (dC (.int 0)) (dCons (dC (.int 1)) (dCons (dC (.int 1)) (dCons (dUn oNeg (dC (.int 1))) (dCons (dC (.int 2)) (dCons (dC (.int 3)) (dCons (dC (.int 99)) (dCons (dUn oNeg (dC (.int 99))) dNil)))))))))) (dCall 2 p_law_next (dCons (dVar 0) (dCons (dC (.int 9)) dNil)))) dNil))))) dNext))
  (dFrzV 5 (dSeq (dSet 9 (dBlt cTuple (dCons (dLc (dIter (dVar 3)) (gdName 8) (dAnd (dTst (dOp (oIn true) (dVar 8) (dLc (dIter (dVar 5)) (gdName 13) dYes (dOp oIx (dVar 13) (dC (.int 0))) [13]))) (dTst (dOp oEq (dCall 2 p_law_next (dCons (dVar 0) (dCons (dC (.int 5)) dNil))) (dC (.int 0))))) (dVar 8) [8]) dNil)))
  (dSeq (dSet 10 (dOp oIx (dLst (dCons (dC (.str "each")) (dCons (dC (.str "each")) (dCons (dC (.str "one")) (dCons (dC (.str "one")) (dCons (dC (.str "last")) dNil)))))) (dCall 2 p_law_next (dCons (dVar 0) (dCons (dC (.int 5)) dNil)))))
  (dSeq (dSet 11 (dIf (dTst (dOp oEq (dCall 2 p_law_next (dCons (dVar 0) (dCons (dC (.int 3)) dNil))) (dC (.int 0)))) (dTup (dCons (dTup dNil) dNil)) (dCall 2 p_law_formula (dCons (dVar 0) (dCons (dVar 4) dNil)))))
  (dRet (dTup (dCons (dVar 2) (dCons (dVar 10) (dCons (dVar 6) (dCons (dVar 11) (dCons (dBlt cTuple (dCons (dVar 5) dNil)) (dCons (dVar 9) dNil)))))))))))))))))
end Bk

/-! Bk: the draws of names, cells, programs: each def does what is promised. -/
namespace Bk
open PySem PySem.Spec PyProof.Rows L2

/-! ### texts -/
theorem strOk_iff {x : Str} : PyData.strOk x = true ↔ ∀ c ∈ x.cps.toList, c < 0x110000 := by
  unfold PyData.strOk
  rw [Array.all_eq_true_iff_forall_mem]
  constructor
  · intro h c hc
    have := h c (Array.mem_toList_iff.mp hc)
    simpa using this
  · intro h c hc
    have := h c (Array.mem_toList_iff.mpr hc)
    simpa using this
theorem strOk_app {a b : Str} (ha : PyData.strOk a = true) (hb : PyData.strOk b = true) : PyData.strOk (a ++ b) = true := by
  rw [strOk_iff] at *
  intro c hc
  have : c ∈ a.cps.toList ∨ c ∈ b.cps.toList := by
    have e : (a ++ b).cps = a.cps ++ b.cps := rfl
    rw [e, Array.toList_append, List.mem_append] at hc
    exact hc
  exact this.elim (ha c) (hb c)
theorem strOk_cut {a : Str} {lo hi : Option Int} (ha : PyData.strOk a = true) : PyData.strOk (cutS a lo hi) = true := by
  rw [strOk_iff] at *
  intro c hc
  have e : (cutS a lo hi).cps.toList = (a.cps.toList.drop (HT.sIx a.length 0 lo)).take (HT.sIx a.length a.length hi - HT.sIx a.length 0 lo) := by unfold cutS; simp
  rw [e] at hc
  exact ha c (List.mem_of_mem_drop (List.mem_of_mem_take hc))
theorem strOk_one {c : Nat} (h : c < 0x110000) : PyData.strOk ⟨#[c]⟩ = true := by
  rw [strOk_iff]
  intro d hd
  have : d = c := by simpa using hd
  rw [this]; exact h
theorem foldApp_mem {a : Array Nat} {c : Nat} : ∀ (n : Nat) (b : Array Nat), c ∈ ((List.replicate n a).foldl (· ++ ·) b) → c ∈ b ∨ c ∈ a
  | 0, b, h => .inl h
  | n + 1, b, h => by
    rw [List.replicate_succ, List.foldl_cons] at h
    rcases foldApp_mem n _ h with h | h
    · rcases Array.mem_append.mp h with h | h
      · exact .inl h
      · exact .inr h
    · exact .inr h
theorem strOk_mul {a : Str} {n : Nat} (ha : PyData.strOk a = true) : PyData.strOk (strMul a n) = true := by
  rw [strOk_iff] at *
  intro c hc
  have h2 := Array.mem_toList_iff.mp hc
  rcases foldApp_mem n #[] h2 with h | h
  · simp at h
  · exact ha c (Array.mem_toList_iff.mpr h)
theorem len_app (a b : Str) : (a ++ b).length = a.length + b.length := PySem.Str.length_append a b
theorem sz (n : Nat) (h : n ≤ 16777216) : n ≤ sizeLine := by rw [sizeLine_eq]; exact h

/-! ### picking -/
theorem at_ints (ns : List Int) (lo hi : Int) {i : Int} (h0 : 0 ≤ i) (h1 : i < ns.length) (hall : (ns.all fun n => decide (lo ≤ n ∧ n ≤ hi)) = true := by decide) : ∃ r, atI (ns.map D.int) i = some (.int r) ∧ lo ≤ r ∧ r ≤ hi := by
  obtain ⟨d, hd, hm⟩ := atI_of (xs := ns.map D.int) h0 (by rw [List.length_map]; exact h1)
  obtain ⟨n, hn, rfl⟩ := List.mem_map.mp hm
  have := of_decide_eq_true (List.all_eq_true.mp hall n hn)
  exact ⟨_, hd, this.1, this.2⟩
theorem at_texts (ns : List Str) {i : Int} (h0 : 0 ≤ i) (h1 : i < ns.length) : ∃ r, atI (texts ns) i = some (.str r) ∧ r ∈ ns := by
  obtain ⟨d, hd, hm⟩ := atI_of (xs := texts ns) h0 (by rw [texts_len]; exact h1)
  obtain ⟨n, hn, rfl⟩ := List.mem_map.mp hm
  exact ⟨_, hd, hn⟩
theorem at_str (z : Str) {i : Int} (h0 : 0 ≤ i) (h1 : i < z.length) : ∃ c, atI z.cps.toList i = some c ∧ c ∈ z.cps.toList :=
  atI_of (xs := z.cps.toList) h0 (by rw [Array.length_toList]; exact h1)

/-! ### comprehensions of one clause -/
theorem comp_map {f : Exp} {e0 : DEnv} {R : List D → S → Prop} {s : S} {i : Nat} (F : D → D) : ∀ (xs acc : List D) (_ : ∀ d ∈ xs, ∀ K : Q1, K (F d) s → f (dset e0 i (some d)) s K (fun _ _ => False)) (_ : R (acc ++ xs.map F) s), dComp (gdName i) dYes f e0 R xs acc s
  | [], acc, _, h => by rw [List.map_nil, List.append_nil] at h; exact h
  | x :: xs, acc, hs, h => hs x List.mem_cons_self _ (comp_map F xs (acc ++ [F x]) (fun d hd => hs d (List.mem_cons_of_mem _ hd)) (by rw [List.map_cons] at h; rw [List.append_assoc]; exact h))
theorem rangeD_eq (n : Nat) : rangeD 0 n = (List.range n).map fun k : Nat => D.int k := by
  unfold rangeD
  refine List.map_congr_left fun k _ => ?_
  rw [Int.zero_add]
theorem comp_range {f : Exp} {e0 : DEnv} {R : List D → S → Prop} {s : S} {i : Nat} (F : Nat → D) (n : Nat) (hs : ∀ k : Nat, k < n → ∀ K : Q1, K (F k) s → f (dset e0 i (some (.int k))) s K (fun _ _ => False)) (h : R ((List.range n).map F) s) : dComp (gdName i) dYes f e0 R (rangeD 0 n) [] s := by
  rw [rangeD_eq]
  have go : ∀ (xs : List Nat) (acc : List D) (_ : ∀ k ∈ xs, k < n) (_ : R (acc ++ xs.map F) s), dComp (gdName i) dYes f e0 R (xs.map fun k : Nat => D.int k) acc s := by
    intro xs
    induction xs with
    | nil => intro acc _ h; rw [List.map_nil, List.append_nil] at h; exact h
    | cons x xs ih =>
      intro acc hx h
      exact hs x (hx x List.mem_cons_self) _ (ih (acc ++ [F x]) (fun k hk => hx k (List.mem_cons_of_mem _ hk)) (by rw [List.map_cons] at h; rw [List.append_assoc]; exact h))
  exact go _ [] (fun k hk => List.mem_range.mp hk) (by rw [List.nil_append]; exact h)
/-- .. with an if -/
theorem comp_filt {t : Tst} {f : Exp} {g : DG} {e0 : DEnv} {R : List D → S → Prop} {s : S} (c : D → Bool) (F : D → D) : ∀ (xs acc : List D)
    (_ : ∀ d ∈ xs, ∀ (K : List D → S → Prop) acc, K (if c d = true then acc ++ [F d] else acc) s → g d e0 s (fun e1 s1 => t e1 s1 (fun b s2 => if b = true then f e1 s2 (fun y s3 => K (acc ++ [y]) s3) (fun _ _ => False) else K acc s2) (fun _ _ => False))) (_ : R (acc ++ (xs.filter c).map F) s), dComp g t f e0 R xs acc s
  | [], acc, _, h => by rw [List.filter_nil, List.map_nil, List.append_nil] at h; exact h
  | x :: xs, acc, hs, h => by
    refine hs x List.mem_cons_self (fun acc' s' => dComp g t f e0 R xs acc' s') acc (comp_filt c F xs _ (fun d hd => hs d (List.mem_cons_of_mem _ hd)) ?_)
    cases e : c x with
    | true => rw [if_pos rfl, List.append_assoc]; rw [List.filter_cons_of_pos e, List.map_cons] at h; exact h
    | false => rw [if_neg (by decide)]; rw [List.filter_cons_of_neg (by rw [e]; decide)] at h; exact h

/-! ### _law_names -/
theorem letters_len : letters.length = 26 := by decide +kernel
theorem letters_ok : PyData.strOk letters = true := by decide +kernel
theorem letters_at {c : Nat} (h : c ∈ letters.cps.toList) : c < 0x110000 := strOk_iff.mp letters_ok c h
theorem at26 (fi b : Int) (k : Nat) : ∃ c, atI letters.cps.toList ((fi + b * (k : Int)) % 26) = some c ∧ c ∈ letters.cps.toList := at_str letters (Int.emod_nonneg _ (by decide)) (by rw [letters_len]; exact Int.emod_lt_of_pos _ (by decide))
theorem Low.ok {x : Str} (h : Low x) : PyData.strOk x = true := strOk_iff.mpr fun c hc => letters_at (h c hc)
theorem low_app {a b : Str} (ha : Low a) (hb : Low b) : Low (a ++ b) := fun c hc => by
  have e : (a ++ b).cps = a.cps ++ b.cps := rfl
  rw [e, Array.toList_append, List.mem_append] at hc
  exact hc.elim (ha c) (hb c)
theorem low_cut {a : Str} {lo hi : Option Int} (ha : Low a) : Low (cutS a lo hi) := fun c hc => by
  have e : (cutS a lo hi).cps.toList = (a.cps.toList.drop (HT.sIx a.length 0 lo)).take (HT.sIx a.length a.length hi - HT.sIx a.length 0 lo) := by unfold cutS; simp
  rw [e] at hc
  exact ha c (List.mem_of_mem_drop (List.mem_of_mem_take hc))
theorem low_one {c : Nat} (h : c ∈ letters.cps.toList) : Low ⟨#[c]⟩ := fun d hd => by
  have e : d = c := by simpa using hd
  rw [e]; exact h
theorem low_mul {a : Str} {n : Nat} (ha : Low a) : Low (strMul a n) := fun c hc => by
  rcases foldApp_mem n #[] (Array.mem_toList_iff.mp hc) with h | h
  · simp at h
  · exact ha c (Array.mem_toList_iff.mpr h)
theorem letters_nd : letters.cps.toList.Nodup := by decide +kernel
theorem cutS_pre {z : Str} {k : Nat} (h : k ≤ z.length) : (cutS z none (some (k : Int))).length = k := by
  unfold cutS
  show (List.take _ (List.drop _ z.cps.toList)).toArray.size = k
  rw [List.size_toArray, List.length_take, List.length_drop, HT.sIx_nat, HT.sIx_none, Array.length_toList]
  have e : z.cps.size = z.length := rfl
  rw [e]; omega
theorem cutS_suf {z : Str} {k : Nat} (h : k ≤ z.length) : (cutS z (some (k : Int)) none).length = z.length - k := by
  unfold cutS
  show (List.take _ (List.drop _ z.cps.toList)).toArray.size = _
  rw [List.size_toArray, List.length_take, List.length_drop, HT.sIx_nat, HT.sIx_none, Array.length_toList]
  have e : z.cps.size = z.length := rfl
  rw [e]; omega
theorem app_mid {a b : Str} {c d : Nat} (h : a ++ ⟨#[c]⟩ ++ b = a ++ ⟨#[d]⟩ ++ b) : c = d := by
  have h1 : (a ++ ⟨#[c]⟩ ++ b).cps.toList = (a ++ ⟨#[d]⟩ ++ b).cps.toList := by rw [h]
  have e : ∀ c : Nat, (a ++ ⟨#[c]⟩ ++ b : Str).cps.toList = a.cps.toList ++ [c] ++ b.cps.toList := fun c => by
    show (a.cps ++ #[c] ++ b.cps).toList = _
    simp
  rw [e, e, List.append_assoc, List.append_assoc] at h1
  have h2 := List.append_cancel_left h1
  exact (List.cons.inj h2).1
theorem at_inj {xs : List Nat} (h : xs.Nodup) {i j : Int} {c : Nat} (hi0 : 0 ≤ i) (hi : i < xs.length) (hj0 : 0 ≤ j) (hj : j < xs.length) (e1 : atI xs i = some c) (e2 : atI xs j = some c) : i = j := by
  unfold atI ixN at e1 e2
  rw [if_pos hi0, if_pos hi] at e1
  rw [if_pos hj0, if_pos hj] at e2
  have g1 : xs[i.toNat]? = some c := e1
  have g2 : xs[j.toNat]? = some c := e2
  have : i.toNat = j.toNat := (List.getElem?_inj (show i.toNat < xs.length by omega) h).mp (g1.trans g2.symm)
  omega
theorem r_law_names : ∀ ds s R E, ds.length = 2 → p_law_names ds s R E → t_law_names (fnEnds R E) (dstart N_law_names ds) s := by
  rintro _ _ R E _ ⟨mu, p, m, _, rfl, rfl, hm, ⟨n, rfl, hn⟩, h⟩
  have hz : letters.length ≤ sizeLine := by rw [letters_len]; exact sz _ (by omega)
  have out : ∀ (F : Nat → Str) (m' : Nat), m - 11 ≤ m' → (∀ k, k < n → lowS (F k)) → (∀ i j, i < n → j < n → F i = F j → i = j) → (fnEnds R E).rt (.lst ((List.range n).map fun k => D.str (F k))) ⟨mu, some (p, m')⟩ := by
    intro F m' hm' hF hnd
    refine ⟨_, Sub.less hm', h _ ⟨(List.range n).map F, ?_, ?_, ⟨?_, ?_⟩, ?_, ?_⟩⟩
    · rw [List.length_map, List.length_range]
    · unfold texts; rw [List.map_map]; rfl
    · intro x hx
      obtain ⟨k, hk, rfl⟩ := List.mem_map.mp hx
      obtain ⟨h1, h2, h3⟩ := hF k (List.mem_range.mp hk)
      exact ⟨h3.ok, by omega⟩
    · rw [List.length_map, List.length_range]; exact hn
    · rw [List.Nodup, List.pairwise_map]
      exact List.Pairwise.imp_of_mem (fun {a b} ha hb hab e => hab (hnd a b (List.mem_range.mp ha) (List.mem_range.mp hb) e)) List.nodup_range
    · intro x hx
      obtain ⟨k, hk, rfl⟩ := List.mem_map.mp hx
      exact hF k (List.mem_range.mp hk)
  refine ⟨sz _ (show 2 ≤ _ by omega), rfl, rfl, ?_⟩
  refine ⟨rfl, use_next (by omega) (by decide) (by decide) fun r h0 h1 => ⟨⟨by omega, by omega⟩, ?_⟩⟩
  refine loop_inv (fun rest e s => ∃ (x : Option D) (stem : Str) (m' : Nat), e = [some (.rf (.ref p)), some (.int n), some (.str letters), some (.str stem), x, none, none, none, none] ∧ s = ⟨mu, some (p, m')⟩ ∧ Low stem ∧ stem.length + rest.length ≤ 7 ∧ m - 11 + rest.length + 3 ≤ m') ?_ ?_ _ _ _
    ⟨none, "", m - 1, rfl, rfl, fun c hc => (nomatch hc), ?_, ?_⟩
  · rintro _ _ ⟨x, stem, m', rfl, rfl, hst, hl, hm'⟩
    have hl7 : stem.length ≤ 7 := by simpa using hl
    have hm3 : m - 11 + 3 ≤ m' := by simpa using hm'
    have hsl : stem.length ≤ sizeLine := sz _ (by omega)
    refine ⟨hsl, rfl, use_next (by omega) (by omega) (by omega) fun a a0 a1 => ⟨rfl, use_next (by omega) (by decide) (by decide) fun fi f0 f1 => ⟨sz _ (show 6 ≤ _ by omega), rfl, use_next (by omega) (by decide) (by decide) fun j j0 j1 => ?_⟩⟩⟩
    obtain ⟨b, hb, b0, b1⟩ := at_ints [1, 3, 5, 7, 9, 11] 1 11 j0 j1
    refine ⟨_, _, rfl, hb, ?_⟩
    refine ⟨sz _ (show 3 ≤ _ by omega), rfl, rfl, ?_⟩
    obtain ⟨c, hca, hc⟩ := at_str letters f0 (by rw [letters_len]; exact f1)
    refine ⟨hz, c, hca, ?_⟩
    have hc' := letters_at hc
    have l8 : (strMul ⟨#[c]⟩ 8).length = 8 := strMul_len ⟨#[c]⟩ 8
    refine ⟨⟨by decide, by decide, Nat.one_pos, (show 1 ≤ 100000 by decide)⟩, sz _ ?_, sz _ ?_, ?_⟩
    · show stem.length + (strMul ⟨#[c]⟩ 8).length ≤ _; omega
    · show (stem ++ strMul ⟨#[c]⟩ 8).length ≤ _; rw [len_app]; omega
    have okw : Low (cutS (stem ++ strMul ⟨#[c]⟩ 8) none (some 8)) := low_cut (low_app hst (low_mul (low_one hc)))
    have w8 : (cutS (stem ++ strMul ⟨#[c]⟩ 8) none (some 8)).length = 8 := cutS_pre (k := 8) (by rw [len_app]; omega)
    have lw : (cutS (stem ++ strMul ⟨#[c]⟩ 8) none (some 8)).length ≤ 15 := by
      have := cutS_length (stem ++ strMul ⟨#[c]⟩ 8) none (some 8)
      rw [len_app] at this; omega
    by_cases hb : 5 < b
    · show (if decide (5 < b) = true then _ else _)
      rw [decide_eq_true hb, if_pos rfl]
      refine ⟨⟨by omega, by omega⟩, sz _ (by rw [rangeD_len]; omega), ?_⟩
      have e1 : ((n : Int)).toNat = n := Int.toNat_natCast n
      rw [e1]
      refine comp_range (fun k => D.str (if 7 < b then cutS (cutS (stem ++ strMul ⟨#[c]⟩ 8) none (some 8)) (some k) none else cutS (cutS (stem ++ strMul ⟨#[c]⟩ 8) none (some 8)) none (some ((k : Int) + 9 - n)))) n (fun k hk K q => ?_) (out _ _ (by omega) (fun k hk => ?_) fun i j hi hj e => ?_)
      · show (if decide (7 < b) = true then _ else _)
        by_cases hb7 : 7 < b
        · rw [decide_eq_true hb7, if_pos rfl]
          rw [if_pos hb7] at q
          exact ⟨Nat.le_trans lw (sz 15 (by decide)), q⟩
        · rw [decide_eq_false hb7, if_neg (by decide)]
          rw [if_neg hb7] at q
          exact ⟨Nat.le_trans lw (sz 15 (by decide)), q⟩
      · show lowS (if 7 < b then _ else _)
        split
        · exact ⟨by rw [cutS_suf (by omega)]; omega, by rw [cutS_suf (by omega)]; omega, low_cut okw⟩
        · rw [show ((k : Int) + 9 - n) = ((k + 9 - n : Nat) : Int) by omega]
          exact ⟨by rw [cutS_pre (by omega)]; omega, by rw [cutS_pre (by omega)]; omega, low_cut okw⟩
      · have e' := congrArg Str.length e
        revert e'
        show (if 7 < b then _ else _ : Str).length = (if 7 < b then _ else _ : Str).length → _
        split
        · rw [cutS_suf (by omega), cutS_suf (by omega)]; omega
        · rw [show ((i : Int) + 9 - n) = ((i + 9 - n : Nat) : Int) by omega, show ((j : Int) + 9 - n) = ((j + 9 - n : Nat) : Int) by omega, cutS_pre (by omega), cutS_pre (by omega)]; omega
    · show (if decide (5 < b) = true then _ else _)
      rw [decide_eq_false hb, if_neg (by decide)]
      refine ⟨⟨by omega, by omega⟩, sz _ (by rw [rangeD_len]; omega), ?_⟩
      have e1 : ((n : Int)).toNat = n := Int.toNat_natCast n
      rw [e1]
      obtain ⟨cf, hcf⟩ : ∃ cf : Nat → Nat, ∀ k : Nat, atI letters.cps.toList ((fi + b * (k : Int)) % 26) = some (cf k) ∧ cf k ∈ letters.cps.toList :=
        ⟨fun k => Classical.choose (at26 fi b k), fun k => Classical.choose_spec (at26 fi b k)⟩
      have lc1 := cutS_length stem none (some a)
      have lc2 := cutS_length stem (some a) none
      refine comp_range (fun k => D.str (cutS stem none (some a) ++ ⟨#[cf k]⟩ ++ cutS stem (some a) none)) n (fun k hk K q => ?_) (out _ _ (by omega) (fun k hk => ?_) fun i j hi hj e => ?_)
      · obtain ⟨h2, h2m⟩ := hcf k
        refine ⟨hsl, .inr ⟨by omega, by omega⟩, (show (0 : Int) < 26 by decide), hz, cf k, h2, ?_, hsl, ?_, q⟩
        · exact Nat.le_trans (show _ ≤ 7 + 1 from Nat.add_le_add (by omega) (Nat.le_refl 1)) (sz _ (by decide))
        · refine Nat.le_trans ?_ (sz 16 (by decide))
          rw [len_app]
          show (cutS stem none (some a)).length + 1 + (cutS stem (some a) none).length ≤ 16
          omega
      · obtain ⟨h2, h2m⟩ := hcf k
        obtain ⟨a', rfl⟩ := Int.eq_ofNat_of_zero_le a0
        have q1 : (cutS stem none (some (a' : Int))).length = a' := cutS_pre (by omega)
        have q2 : (cutS stem (some (a' : Int)) none).length = stem.length - a' := cutS_suf (by omega)
        have q3 : (cutS stem none (some (a' : Int)) ++ ⟨#[cf k]⟩ ++ cutS stem (some (a' : Int)) none).length = stem.length + 1 := by
          rw [len_app, len_app, q1, q2]
          show a' + 1 + (stem.length - a') = _
          omega
        exact ⟨by omega, by omega, low_app (low_app (low_cut hst) (low_one h2m)) (low_cut hst)⟩
      · have ec := app_mid e
        have l26 : letters.cps.toList.length = 26 := letters_len
        have lt : ∀ z : Int, z % 26 < letters.cps.toList.length := fun z => by rw [l26]; exact Int.emod_lt_of_pos z (by decide)
        have ge : ∀ z : Int, 0 ≤ z % 26 := fun z => Int.emod_nonneg z (by decide)
        have g := at_inj letters_nd (ge _) (lt _) (ge _) (lt _) (hcf i).1 (by rw [ec]; exact (hcf j).1)
        have hb5 : b = 1 ∨ b = 2 ∨ b = 3 ∨ b = 4 ∨ b = 5 := by omega
        rcases hb5 with rfl | rfl | rfl | rfl | rfl <;> omega
  · rintro d ds e s K ⟨x, stem, m', rfl, rfl, hst, hl, hm'⟩ hK
    rw [List.length_cons] at hl hm'
    refine ⟨rfl, use_next (by omega) (by decide) (by decide) fun r h0 h1 => ?_⟩
    obtain ⟨c, hca, hc⟩ := at_str letters h0 (by rw [letters_len]; exact h1)
    refine ⟨hz, c, hca, sz _ (show stem.length + 1 ≤ _ by omega), hK _ _ ⟨some d, stem ++ ⟨#[c]⟩, m' - 1, rfl, rfl, low_app hst (low_one hc), ?_, by omega⟩⟩
    rw [len_app]
    show stem.length + 1 + _ ≤ _
    omega
  · rw [rangeD_len]
    show 0 + r.toNat ≤ 7
    omega
  · rw [rangeD_len]; omega

/-! ### lists that are filled -/
structure MOwn (mu mu' : Addr → Option MO) (q : Addr) (ds : List D) : Prop where
  here : mu' q = some (.ml ds)
  sub : ∀ b o, mu b = some o → mu' b = some o
  fresh : mu q = none
theorem MOwn.start {mu : Addr → Option MO} {q : Addr} (h : mu q = none) (ds : List D) : MOwn mu (fun b => if b = q then some (.ml ds) else mu b) q ds :=
  ⟨if_pos rfl, fun b o e => by rw [if_neg (fun z => by rw [z, h] at e; cases e)]; exact e, h⟩
theorem MOwn.put {mu mu' : Addr → Option MO} {q : Addr} {ds : List D} (M : MOwn mu mu' q ds) (ds' : List D) : MOwn mu (fun b => if b = q then some (.ml ds') else mu' b) q ds' :=
  ⟨if_pos rfl, fun b o e => by rw [if_neg (fun z => by rw [z, M.fresh] at e; cases e)]; exact M.sub b o e, M.fresh⟩
theorem seqOf_ml {s : S} {l : Addr} {ds : List D} (h : s.mu l = some (.ml ds)) : seqOf (.rf (.ref l)) s = some ds := lstOf_ml h
theorem texts_cons {d : D} {ds : List D} {ns : List Str} (h : d :: ds = texts ns) : ∃ x r, ns = x :: r ∧ d = .str x ∧ ds = texts r := by
  cases ns with
  | nil => cases h
  | cons x r => exact ⟨x, r, rfl, (List.cons.inj h).1, (List.cons.inj h).2⟩

/-! ### _law_cells -/
theorem r_law_cells : ∀ ds s R E, ds.length = 1 → p_law_cells ds s R E → t_law_cells (fnEnds R E) (dstart N_law_cells ds) s := by
  rintro _ _ R E _ ⟨mu, p, m, _, rfl, rfl, hm, rfl, h⟩
  refine ⟨rfl, use_next (by omega) (by decide) (by decide) fun r h0 h1 => ⟨rfl, use_dr (by omega) ⟨(1 + r).toNat, by rw [Int.toNat_of_nonneg (by omega)], by omega⟩ fun d hd => ?_⟩⟩
  obtain ⟨ns, hl, rfl, hns, hnd, hlow⟩ := hd
  have hl' : (1 + r) = (ns.length : Nat) := by
    have e := List.cons.inj hl
    exact D.int.inj e.1
  intro hz
  refine ⟨hz, ?_⟩
  refine comp_inv (fun rest acc s => ∃ cs ns' m', acc = cs.map cellD ∧ rest = texts ns' ∧ s = ⟨mu, some (p, m')⟩ ∧ cs.map (·.1) ++ ns' = ns ∧ (∀ c ∈ cs, 1 ≤ c.2 ∧ c.2 ≤ 3) ∧ m - 16 + ns'.length ≤ m') ?_ ?_ _ _ _ ⟨[], ns, m - 1 - 11, rfl, rfl, rfl, rfl, fun c hc => (nomatch hc), by have := hns.2; omega⟩
  · rintro _ _ ⟨cs, ns', m', rfl, hr, rfl, hcs, hmo, hm'⟩
    have hr' : ns' = [] := by cases ns' with
      | nil => rfl
      | cons x r => cases hr
    subst hr'
    rw [List.append_nil] at hcs
    have hlen : cs.length = ns.length := by rw [← hcs, List.length_map]
    refine ⟨_, rfl, ⟨_, Sub.less (n := m - 16) (by simpa using hm'), h _ ⟨cs, rfl, ⟨fun c hc => hns.1 _ ?_, by omega, by rw [hlen]; exact hns.2, hmo, by rw [hcs]; exact hnd, fun c hc => hlow _ ?_⟩⟩⟩⟩ <;>
    (rw [← hcs]; exact List.mem_map.mpr ⟨c, hc, rfl⟩)
  · rintro d ds acc s K ⟨cs, ns', m', rfl, hr, rfl, hcs, hmo, hm'⟩ hK
    obtain ⟨x, r', rfl, rfl, rfl⟩ := texts_cons hr
    rw [List.length_cons] at hm'
    refine ⟨rfl, use_next (by omega) (by decide) (by decide) fun k k0 k1 => ⟨sz _ (show 2 ≤ _ by omega), hK _ _ ⟨cs ++ [(x, 1 + k)], r', m' - 1, ?_, rfl, rfl, ?_, ?_, by omega⟩⟩⟩
    · rw [List.map_append]; rfl
    · rw [List.map_append, List.append_assoc]; exact hcs
    · intro c hc
      rcases List.mem_append.mp hc with hc | hc
      · exact hmo c hc
      · have e : c = (x, 1 + k) := by simpa using hc
        subst e
        exact ⟨by show 1 ≤ 1 + k; omega, by show 1 + k ≤ 3; omega⟩

theorem texts_inj : ∀ {a b : List Str}, texts a = texts b → a = b
  | [], [], _ => rfl
  | [], _ :: _, h => by cases h
  | _ :: _, [], h => by cases h
  | x :: a, y :: b, h => by
    have e := List.cons.inj h
    rw [D.str.inj e.1, texts_inj e.2]
/-! ### _law_terms, _law_test, _law_formula -/
theorem r_law_terms : ∀ ds s R E, ds.length = 2 → p_law_terms ds s R E → t_law_terms (fnEnds R E) (dstart N_law_terms ds) s := by
  rintro _ _ R E _ ⟨mu, p, m, _, rfl, rfl, hm, ⟨ns, rfl, hns⟩, h⟩
  refine ⟨Nat.zero_le _, fun q hq => ?_⟩
  intro hz
  refine loop_inv (fun rest e s => ∃ (x : Option D) (ts : List Term) (ns' : List Str) (mu' : Addr → Option MO) (m' : Nat), e = [some (.rf (.ref p)), some (.lst (texts ns)), some (.rf (.ref q)), x] ∧ s = ⟨mu', some (p, m')⟩ ∧ MOwn mu mu' q (ts.map termD) ∧ rest = texts ns' ∧ (∀ x ∈ ns', x ∈ ns) ∧
      ts.length + ns'.length ≤ ns.length ∧ (∀ t ∈ ts, (-9 ≤ t.1 ∧ t.1 ≤ 9) ∧ t.2 ∈ ns) ∧ m - 8 + 2 * ns'.length ≤ m') ?_ ?_ _ _ _ ⟨none, [], ns, _, m, rfl, rfl, MOwn.start hq _, rfl, fun x h => h, by simp, fun c hc => (nomatch hc), by have := hns.2; omega⟩
  · rintro _ _ ⟨x, ts, ns', mu', m', rfl, rfl, M, hr, hin, hl, hts, hm'⟩
    refine ⟨_, seqOf_ml M.here, ⟨_, Sub.of M.sub (n := m - 8) (by omega), h _ ⟨ns, ts, rfl, rfl, ⟨by omega, hts⟩⟩⟩⟩
  · rintro d ds e s K ⟨x, ts, ns', mu', m', rfl, rfl, M, hr, hin, hl, hts, hm'⟩ hK
    obtain ⟨y, r', rfl, rfl, rfl⟩ := texts_cons hr
    rw [List.length_cons] at hm' hl
    refine ⟨rfl, use_next (by omega) (by decide) (by decide) fun r h0 h1 => ⟨⟨eqOk_int _, eqOk_int _⟩, ?_⟩⟩
    rw [eqb_int]
    by_cases hr0 : r = 0
    · rw [decide_eq_true hr0]
      refine ⟨⟨_, M.here⟩, sz _ (show 9 ≤ _ by omega), rfl, use_next (by omega) (by decide) (by decide) fun j j0 j1 => ?_⟩
      obtain ⟨b, hb, b0, b1⟩ := at_ints [1, 1, 1, -1, -1, 2, -2, 9, -9] (-9) 9 j0 j1
      refine ⟨_, _, rfl, hb, sz _ (show 2 ≤ _ by omega), _, M.here, ?_, hK _ _ ⟨some (.str y), ts ++ [(b, y)], r', _, m' - 1 - 1, rfl, rfl, ?_, rfl, fun x hx => hin x (List.mem_cons_of_mem _ hx), ?_, ?_, by omega⟩⟩
      · rw [List.length_map, sizeLine_eq]; have := hns.2; omega
      · have := M.put ((ts ++ [(b, y)]).map termD)
        rw [List.map_append] at this ⊢
        exact this
      · rw [List.length_append]
        show ts.length + 1 + r'.length ≤ ns.length
        omega
      · intro t ht
        rcases List.mem_append.mp ht with ht | ht
        · exact hts t ht
        · have e : t = (b, y) := by simpa using ht
          subst e
          exact ⟨⟨b0, b1⟩, hin y List.mem_cons_self⟩
    · rw [decide_eq_false hr0]
      exact hK _ _ ⟨some (.str y), ts, r', mu', m' - 1, rfl, rfl, M, rfl, fun x hx => hin x (List.mem_cons_of_mem _ hx), by omega, hts, by omega⟩
theorem r_law_test : ∀ ds s R E, ds.length = 2 → p_law_test ds s R E → t_law_test (fnEnds R E) (dstart N_law_test ds) s := by
  rintro _ _ R E _ ⟨mu, p, m, _, rfl, rfl, hm, ⟨ns, rfl, hns⟩, h⟩
  refine ⟨sz _ (show 6 ≤ _ by omega), rfl, use_next (by omega) (by decide) (by decide) fun r h0 h1 => ?_⟩
  obtain ⟨o, ho, hom⟩ := at_texts opsL h0 (show r < (opsL.length : Nat) from h1)
  refine ⟨_, _, rfl, ho, rfl, use_dr (by omega) ⟨ns, rfl, hns⟩ fun d hd => ?_⟩
  obtain ⟨ns', ts, e, rfl, hts⟩ := hd
  have en := texts_inj (D.lst.inj (List.cons.inj e).1)
  subst en
  refine ⟨sz _ (show 9 ≤ _ by omega), rfl, use_next (by omega) (by decide) (by decide) fun j j0 j1 => ?_⟩
  obtain ⟨b, hb, b0, b1⟩ := at_ints [0, 1, 1, 2, 3, -1, -2, 99, -99] (-99) 99 j0 j1
  exact ⟨_, _, rfl, hb, sz _ (show 3 ≤ _ by omega), ⟨_, Sub.less (n := m - 10) (by omega), h _ ⟨_, (ts, o, b), rfl, rfl, ⟨hts, hom, b0, b1⟩⟩⟩⟩
theorem arg_texts {a b : List Str} (h : [D.lst (texts a)] = [D.lst (texts b)]) : a = b := texts_inj (D.lst.inj (List.cons.inj h).1)
theorem r_law_formula : ∀ ds s R E, ds.length = 2 → p_law_formula ds s R E → t_law_formula (fnEnds R E) (dstart N_law_formula ds) s := by
  rintro _ _ R E _ ⟨mu, p, m, _, rfl, rfl, hm, ⟨ns, rfl, hns⟩, h⟩
  refine ⟨Nat.zero_le _, fun q hq => ?_⟩
  refine ⟨sz _ (show 8 ≤ _ by omega), rfl, use_next (by omega) (by decide) (by decide) fun r h0 h1 => ?_⟩
  obtain ⟨b, hb, b0, b1⟩ := at_ints [1, 1, 1, 2, 2, 0, 3, 4] 0 4 h0 h1
  refine ⟨_, _, rfl, hb, ⟨by omega, by omega⟩, ?_⟩
  refine loop_inv (fun rest e s => ∃ (x : Option D) (f : List (List Test)) (mu' : Addr → Option MO) (m' : Nat), e = [some (.rf (.ref p)), some (.lst (texts ns)), some (.rf (.ref q)), x, none] ∧ s = ⟨mu', some (p, m')⟩ ∧ MOwn mu mu' q (f.map caseD) ∧
      f.length + rest.length ≤ 4 ∧ (∀ c ∈ f, c.length ≤ 4 ∧ ∀ t ∈ c, TestOk ns t) ∧ m - 165 + 41 * rest.length ≤ m') ?_ ?_ _ _ _ ⟨none, [], _, m - 1, rfl, rfl, MOwn.start hq _, ?_, fun c hc => (nomatch hc), ?_⟩
  · rintro _ _ ⟨x, f, mu', m', rfl, rfl, M, hl, hf, hm'⟩
    exact ⟨_, seqOf_ml M.here, ⟨_, Sub.of M.sub (n := m - 165) (by omega), h _ ⟨ns, f, rfl, rfl, ⟨by omega, hf⟩⟩⟩⟩
  · rintro d ds e s K ⟨x, f, mu', m', rfl, rfl, M, hl, hf, hm'⟩ hK
    rw [List.length_cons] at hm' hl
    refine ⟨⟨_, M.here⟩, sz _ (show 8 ≤ _ by omega), rfl, use_next (by omega) (by decide) (by decide) fun r2 r20 r21 => ?_⟩
    obtain ⟨b2, hb2, b20, b21⟩ := at_ints [1, 1, 1, 2, 2, 0, 3, 4] 0 4 r20 r21
    refine ⟨_, _, rfl, hb2, ⟨by omega, by omega⟩, sz _ (by rw [rangeD_len]; omega), ?_⟩
    refine comp_inv (fun rest acc s => ∃ (c : List Test) (m2 : Nat), acc = c.map testD ∧ s = ⟨mu', some (p, m2)⟩ ∧ c.length + rest.length ≤ 4 ∧ (∀ t ∈ c, TestOk ns t) ∧ m' - 41 + 10 * rest.length ≤ m2) ?_ ?_ _ _ _ ⟨[], m' - 1, rfl, rfl, ?_, fun t ht => (nomatch ht), ?_⟩
    · rintro _ _ ⟨c, m2, rfl, rfl, hc, hct, hm2⟩
      refine ⟨_, rfl, _, M.here, ?_, hK _ _ ⟨some d, f ++ [c], _, m2, rfl, rfl, ?_, ?_, ?_, ?_⟩⟩
      · rw [List.length_map, sizeLine_eq]; omega
      · have := M.put ((f ++ [c]).map caseD)
        rw [List.map_append] at this ⊢
        exact this
      · rw [List.length_append]; show f.length + 1 + ds.length ≤ 4; omega
      · intro c' hc'
        rcases List.mem_append.mp hc' with hc' | hc'
        · exact hf c' hc'
        · have e : c' = c := by simpa using hc'
          subst e
          exact ⟨by omega, hct⟩
      · omega
    · rintro d2 ds2 _ _ K2 ⟨c, m2, rfl, rfl, hc, hct, hm2⟩ hK2
      rw [List.length_cons] at hm2 hc
      refine ⟨rfl, use_dr (by omega) ⟨ns, rfl, hns⟩ fun d3 hd3 => ?_⟩
      obtain ⟨ns', t, e, rfl, ht⟩ := hd3
      have en := arg_texts e
      subst en
      refine hK2 _ _ ⟨c ++ [t], m2 - 10, by rw [List.map_append]; rfl, rfl, by rw [List.length_append]; show c.length + 1 + ds2.length ≤ 4; omega, fun t' ht' => ?_, by omega⟩
      rcases List.mem_append.mp ht' with ht' | ht'
      · exact hct t' ht'
      · have e : t' = t := by simpa using ht'
        subst e
        exact ht
    · rw [rangeD_len]; show 0 + b2.toNat ≤ 4; omega
    · rw [rangeD_len]; omega
  · rw [rangeD_len]; show 0 + b.toNat ≤ 4; omega
  · rw [rangeD_len]; omega

/-! ### typed comprehensions -/
theorem comp_ft {α : Type} {t : Tst} {f : Exp} {g : DG} {e0 : DEnv} {R : List D → S → Prop} {s : S} (enc : α → D) (c : α → Bool) (F : α → D) : ∀ (xs : List α) (acc : List D)
    (_ : ∀ d ∈ xs, ∀ (K : List D → S → Prop) acc, K (if c d = true then acc ++ [F d] else acc) s → g (enc d) e0 s (fun e1 s1 => t e1 s1 (fun b s2 => if b = true then f e1 s2 (fun y s3 => K (acc ++ [y]) s3) (fun _ _ => False) else K acc s2) (fun _ _ => False))) (_ : R (acc ++ (xs.filter c).map F) s), dComp g t f e0 R (xs.map enc) acc s
  | [], acc, _, h => by rw [List.filter_nil, List.map_nil, List.append_nil] at h; exact h
  | x :: xs, acc, hs, h => by
    refine hs x List.mem_cons_self (fun acc' s' => dComp g t f e0 R (xs.map enc) acc' s') acc (comp_ft enc c F xs _ (fun d hd => hs d (List.mem_cons_of_mem _ hd)) ?_)
    cases e : c x with
    | true => rw [if_pos rfl, List.append_assoc]; rw [List.filter_cons_of_pos e, List.map_cons] at h; exact h
    | false => rw [if_neg (by decide)]; rw [List.filter_cons_of_neg (by rw [e]; decide)] at h; exact h
theorem comp_mt {α : Type} {f : Exp} {g : DG} {e0 : DEnv} {R : List D → S → Prop} {s : S} (enc : α → D) (F : α → D) : ∀ (xs : List α) (acc : List D)
    (_ : ∀ d ∈ xs, ∀ (K : Q1), K (F d) s → g (enc d) e0 s (fun e1 s1 => f e1 s1 K (fun _ _ => False))) (_ : R (acc ++ xs.map F) s), dComp g dYes f e0 R (xs.map enc) acc s
  | [], acc, _, h => by rw [List.map_nil, List.append_nil] at h; exact h
  | x :: xs, acc, hs, h => hs x List.mem_cons_self (fun y s3 => dComp g dYes f e0 R (xs.map enc) (acc ++ [y]) s3) (comp_mt enc F xs _ (fun d hd => hs d (List.mem_cons_of_mem _ hd)) (by rw [List.map_cons] at h; rw [List.append_assoc]; exact h))
theorem map_str {α : Type} (xs : List α) (f : α → Str) : (xs.map fun a => D.str (f a)) = texts (xs.map f) := by
  unfold texts; rw [List.map_map]; rfl
theorem texts_app (a b : List Str) : texts a ++ texts b = texts (a ++ b) := by unfold texts; rw [List.map_append]
theorem zip_texts (ns : List Str) (ls : List Int) : zipD (texts ns) (ls.map .int) = (ns.zip ls).map fun z => .tup [.str z.1, .int z.2] := by
  unfold zipD texts
  induction ns generalizing ls with
  | nil => rfl
  | cons x ns ih => cases ls with
    | nil => rfl
    | cons l ls =>
      rw [List.map_cons, List.map_cons, List.zip_cons_cons, List.zip_cons_cons, List.map_cons, List.map_cons, ih]
theorem eqOk_texts {ns : List Str} (h : ∀ x ∈ ns, nmOk x) : (D.lst (texts ns)).eqOk = true := (okd_lst (n := ns.length) (k := 0) (okd_texts h) (by rw [texts_len]; exact Nat.le_refl _)).eqOk (by decide)
theorem eqOk_part {ns : List Str} (h : ∀ x ∈ ns, nmOk x) : (D.tup (texts ns)).eqOk = true := (okd_tup (n := ns.length) (k := 0) (okd_texts h) (by rw [texts_len]; exact Nat.le_refl _)).eqOk (by decide)
theorem eqOk_nm {x : Str} (h : nmOk x) : (D.str x).eqOk = true := (okd_nm (k := 0) h).eqOk (by decide)
theorem range_int {n : Nat} {d : D} (h : d ∈ rangeD 0 n) : ∃ k : Nat, d = .int k ∧ k < n := by
  rw [rangeD_eq] at h
  obtain ⟨k, hk, rfl⟩ := List.mem_map.mp h
  exact ⟨k, rfl, List.mem_range.mp hk⟩

/-! ### _law_looks -/
theorem r_law_looks : ∀ ds s R E, ds.length = 2 → p_law_looks ds s R E → t_law_looks (fnEnds R E) (dstart N_law_looks ds) s := by
  rintro _ _ R E _ ⟨mu, p, m, _, rfl, rfl, hm, ⟨ns, rfl, hns⟩, h⟩
  refine ⟨Nat.zero_le _, fun q hq => ?_⟩
  refine ⟨sz _ (show 6 ≤ _ by omega), rfl, use_next (by omega) (by decide) (by decide) fun r h0 h1 => ?_⟩
  obtain ⟨b, hb, b0, b1⟩ := at_ints [1, 1, 2, 2, 3, 0] 0 3 h0 h1
  refine ⟨_, _, rfl, hb, sz _ (show 2 ≤ _ by omega), rfl, rfl, ?_⟩
  intro hz
  refine ⟨hz, ?_⟩
  refine comp_inv (fun rest acc s => ∃ (lots : List Int) (m' : Nat), acc = lots.map .int ∧ s = ⟨fun b => if b = q then some (.ml []) else mu b, some (p, m')⟩ ∧ lots.length + rest.length = ns.length ∧ m - 5 + rest.length ≤ m') ?_ ?_ _ _ _ ⟨[], m - 1, rfl, rfl, by simp [texts_len], by rw [texts_len]; have := hns.2; omega⟩
  · rintro _ _ ⟨lots, m', rfl, rfl, hl, hm'⟩
    rw [List.length_nil, Nat.add_zero] at hl hm'
    refine ⟨⟨by omega, by omega⟩, ?_⟩
    refine loop_inv (fun rest e s => ∃ (x5 x6 : Option D) (l : List (List Str)) (mu' : Addr → Option MO), e = [some (.rf (.ref p)), some (.lst (texts ns)), some (.rf (.ref q)), some (.int b), some (.lst (lots.map .int)), x5, x6, none, none] ∧ s = ⟨mu', some (p, m')⟩ ∧ MOwn mu mu' q (l.map partD) ∧
        l.length + rest.length ≤ 3 ∧ (∀ p ∈ l, p ≠ [] ∧ p.length ≤ 4 ∧ p.Sublist ns) ∧ ∀ d ∈ rest, ∃ k : Int, d = .int k) ?_ ?_ _ _ _ ⟨none, none, [], _, rfl, rfl, MOwn.start hq [], ?_, fun p hp => (nomatch hp), fun d hd => ?_⟩
    · rintro _ _ ⟨x5, x6, l, mu', rfl, rfl, M, hl3, hp, _⟩
      exact ⟨_, seqOf_ml M.here, ⟨_, Sub.of M.sub (n := m - 5) (by omega), h _ ⟨ns, l, rfl, rfl, ⟨by simpa using hl3, hp⟩⟩⟩⟩
    · rintro d ds e s K ⟨x5, x6, l, mu', rfl, rfl, M, hl3, hp, hi⟩ hK
      obtain ⟨k, rfl⟩ := hi d List.mem_cons_self
      rw [List.length_cons] at hl3
      have hpart : (((ns.zip lots).filter fun z => decide (z.2 = k)).map (·.1)).Sublist ns := by
        have e : (ns.zip lots).map (·.1) = ns := by
          rw [List.map_fst_zip]
          omega
        have := (List.filter_sublist (p := fun z : Str × Int => decide (z.2 = k)) (l := ns.zip lots)).map (·.1)
        rw [e] at this
        exact this
      refine ⟨by rw [zipD_len, texts_len, List.length_map]; exact sz _ (by have := hns.2; omega), ?_⟩
      rw [zip_texts]
      refine comp_ft _ (fun z => decide (z.2 = k)) (fun z => .str z.1) _ [] (fun z hz K2 acc q2 => ?_) ?_
      · refine ⟨rfl, rfl, ⟨eqOk_int _, eqOk_int _⟩, ?_⟩
        rw [eqb_int]
        by_cases hzk : z.2 = k
        · rw [decide_eq_true hzk]
          rw [if_pos (decide_eq_true hzk)] at q2
          exact q2
        · rw [decide_eq_false hzk]
          rw [if_neg (by rw [decide_eq_false hzk]; decide)] at q2
          exact q2
      · rw [List.nil_append, map_str]
        have hnm : ∀ x ∈ ((ns.zip lots).filter fun z => decide (z.2 = k)).map (·.1), nmOk x := fun x hx => hns.1 x (hpart.subset hx)
        generalize hpp : ((ns.zip lots).filter fun z => decide (z.2 = k)).map (·.1) = pt at hpart hnm ⊢
        refine ⟨_, rfl, Nat.zero_le _, ⟨eqOk_part hnm, eqOk_part (ns := []) (fun x hx => (nomatch hx))⟩, ?_⟩
        rw [show D.tup [] = D.tup (texts []) from rfl, show (D.tup (texts pt)).eqb (.tup (texts [])) = (texts pt).isEmpty from eqb_tup_nil _]
        cases pt with
        | nil => exact hK _ _ ⟨_, _, l, mu', rfl, rfl, M, by omega, hp, fun d hd => hi d (List.mem_cons_of_mem _ hd)⟩
        | cons y pt =>
          refine ⟨⟨_, M.here⟩, _, M.here, by rw [List.length_map, sizeLine_eq]; omega, hK _ _ ⟨_, _, l ++ [y :: pt], _, rfl, rfl, ?_, ?_, ?_, fun d hd => hi d (List.mem_cons_of_mem _ hd)⟩⟩
          · have := M.put ((l ++ [y :: pt]).map partD)
            rw [List.map_append] at this ⊢
            exact this
          · rw [List.length_append]; show l.length + 1 + ds.length ≤ 3; omega
          · intro p' hp'
            rcases List.mem_append.mp hp' with hp' | hp'
            · exact hp p' hp'
            · have e : p' = y :: pt := by simpa using hp'
              subst e
              exact ⟨List.cons_ne_nil _ _, Nat.le_trans hpart.length_le hns.2, hpart⟩
    · rw [rangeD_len]; show 0 + b.toNat ≤ 3; omega
    · obtain ⟨k, hk, _⟩ := range_int hd
      exact ⟨k, hk⟩
  · rintro d ds acc s K ⟨lots, m', rfl, rfl, hl, hm'⟩ hK
    rw [List.length_cons] at hl hm'
    refine ⟨rfl, use_next (by omega) (by omega) (by omega) fun k k0 k1 => hK _ _ ⟨lots ++ [k], m' - 1, by rw [List.map_append]; rfl, rfl, ?_, by omega⟩⟩
    rw [List.length_append]; show lots.length + 1 + ds.length = ns.length; omega

/-! ### _law_program -/
theorem knownOf_sub {ns : List Str} {l : List (List Str)} : (knownOf ns l).Sublist ns := List.filter_sublist
theorem r_law_program : ∀ ds s R E, ds.length = 3 → p_law_program ds s R E → t_law_program (fnEnds R E) (dstart N_law_program ds) s := by
  rintro _ _ R E _ ⟨mu, p, m, _, rfl, rfl, hm, ⟨cs, nm, rfl, hcs, hnm⟩, h⟩
  have hl : cs.length ≤ 4 := hcs.len
  have hns : namesOk (cs.map (·.1)) := ⟨fun x hx => by obtain ⟨c, hc, rfl⟩ := List.mem_map.mp hx; exact hcs.nm c hc, by rw [List.length_map]; exact hl⟩
  intro hz
  refine ⟨hz, ?_⟩
  refine comp_mt cellD (fun c => .str c.1) cs [] (fun c hc K q => ⟨_, _, rfl, atI_0 _ _, q⟩) ?_
  rw [List.nil_append, map_str]
  generalize hn : cs.map (·.1) = ns at hns
  refine ⟨Nat.zero_le _, Nat.zero_le _, fun q hq => ?_⟩
  refine ⟨sz _ (show 3 ≤ _ by omega), rfl, rfl, ?_⟩
  refine ⟨rfl, use_dr (by omega) ⟨ns, rfl, hns⟩ fun d hd => ?_⟩
  obtain ⟨ns', l, e, rfl, hlk⟩ := hd
  have en := arg_texts e
  subst en
  intro hz2
  refine loop_inv (fun rest e s => ∃ (x7 : Option D) (done todo : List (List Str)), e = [some (.rf (.ref p)), some (cellsD cs), some (.str nm), some (.lst (texts ns)), some (.lst (texts done.flatten)), some (.rf (.ref q)), some (looksD l), x7, none, none, none, none, none, none] ∧
      s = ⟨fun b => if b = q then some (.ml []) else mu b, some (p, m - 5)⟩ ∧ rest = todo.map partD ∧ done ++ todo = l ∧ done.flatten.length ≤ 4 * done.length) ?_ ?_ _ _ _ ⟨none, [], l, rfl, rfl, rfl, rfl, Nat.zero_le _⟩
  · rintro _ _ ⟨x7, done, todo, rfl, rfl, hr, hd, hfl⟩
    have ht : todo = [] := by cases todo with
      | nil => rfl
      | cons x r => cases hr
    subst ht
    rw [List.append_nil] at hd
    subst hd
    have hf12 : done.flatten.length ≤ 12 := by have := hlk.len; omega
    have hfnm : ∀ x ∈ done.flatten, nmOk x := fun x hx => by
      obtain ⟨pt, hpt, hxp⟩ := List.mem_flatten.mp hx
      exact hns.1 x ((hlk.parts pt hpt).2.2.subset hxp)
    intro hz3
    refine ⟨hz3, ?_⟩
    refine comp_ft D.str (fun x => decide (x ∈ done.flatten)) D.str ns [] (fun x hx K acc q2 => ?_) ?_
    · refine ⟨⟨eqOk_nm (hns.1 x hx), eqOk_texts hfnm⟩, ?_⟩
      rw [show (if false = true then !isIn (D.str x) (texts done.flatten) else isIn (D.str x) (texts done.flatten)) = decide (x ∈ done.flatten) from isIn_texts x _]
      by_cases hxd : x ∈ done.flatten
      · rw [decide_eq_true hxd] at q2 ⊢
        rw [if_pos rfl] at q2
        exact q2
      · rw [decide_eq_false hxd] at q2 ⊢
        rw [if_neg (by decide)] at q2
        exact q2
    rw [List.nil_append, show (ns.filter fun x => decide (x ∈ done.flatten)).map D.str = texts (knownOf ns done) from rfl]
    have hkn : namesOk (knownOf ns done) := ⟨fun x hx => hns.1 x (knownOf_sub.subset hx), Nat.le_trans knownOf_sub.length_le hns.2⟩
    generalize hk : knownOf ns done = kn at hkn
    intro hz4
    refine loop_inv (fun rest e s => ∃ (x8 : Option D) (sets : List SetR) (gone todo : List Str) (mu' : Addr → Option MO) (m' : Nat), e = [some (.rf (.ref p)), some (cellsD cs), some (.str nm), some (.lst (texts ns)), some (.lst (texts kn)), some (.rf (.ref q)), some (looksD done), x7, x8, none, none, none, none, none] ∧
        s = ⟨mu', some (p, m')⟩ ∧ MOwn mu mu' q (sets.map setD) ∧ rest = texts todo ∧ gone ++ todo = ns ∧ (sets.map (·.1)).Sublist gone ∧ (∀ x ∈ sets, TermsOk kn x.2.1 ∧ -99 ≤ x.2.2 ∧ x.2.2 ≤ 99) ∧ m - 45 + 10 * todo.length ≤ m') ?_ ?_ _ _ _
      ⟨none, [], [], ns, _, m - 5, rfl, rfl, MOwn.start hq [], rfl, rfl, List.Sublist.refl _, fun x hx => (nomatch hx), by have := hns.2; omega⟩
    · rintro _ _ ⟨x8, sets, gone, todo, mu', m', rfl, rfl, M, hr, hg, hsub, hsets, hm'⟩
      have ht : todo = [] := by cases todo with
        | nil => rfl
        | cons x r => cases hr
      subst ht
      rw [List.append_nil] at hg
      subst hg
      have hslen : sets.length ≤ 4 := by
        have := hsub.length_le
        rw [List.length_map] at this
        exact Nat.le_trans this hns.2
      have hsnm : ∀ x ∈ sets.map (·.1), nmOk x := fun x hx => hns.1 x (hsub.subset hx)
      refine ⟨q, _, rfl, M.here, ?_⟩
      have hsubM : ∀ b o, mu b = some o → (if b = q then none else mu' b) = some o := fun b o hb => by
        rw [if_neg (fun z => by rw [z, M.fresh] at hb; cases hb)]
        exact M.sub b o hb
      intro hz5
      refine ⟨hz5, ?_⟩
      refine comp_inv (fun rest acc s => ∃ (mk gone' todo : List Str) (m2 : Nat), acc = texts mk ∧ rest = texts todo ∧ s = ⟨fun b => if b = q then none else mu' b, some (p, m2)⟩ ∧ gone' ++ todo = gone ∧ mk.Sublist gone' ∧ (∀ x ∈ mk, x ∉ sets.map (·.1)) ∧ m - 49 + todo.length ≤ m2) ?_ ?_ _ _ _
        ⟨[], [], gone, m', rfl, rfl, rfl, rfl, List.Sublist.refl _, fun x hx => (nomatch hx), by have := hns.2; rw [List.length_nil] at hm'; omega⟩
      · rintro _ _ ⟨mk, gone', todo, m2, rfl, hr2, rfl, hg2, hmk, hmn, hm2⟩
        have ht2 : todo = [] := by cases todo with
          | nil => rfl
          | cons x r => cases hr2
        subst ht2
        rw [List.append_nil] at hg2
        subst hg2
        rw [List.length_nil] at hm2
        refine ⟨_, rfl, sz _ (show 5 ≤ _ by omega), rfl, use_next (by omega) (by decide) (by decide) fun r r0 r1 => ?_⟩
        obtain ⟨lv, hlv, hlvm⟩ := at_texts levelsL r0 (show r < (levelsL.length : Nat) from r1)
        refine ⟨_, _, rfl, hlv, rfl, use_next (by omega) (by decide) (by decide) fun w w0 w1 => ⟨⟨eqOk_int _, eqOk_int _⟩, ?_⟩⟩
        have fin : ∀ (f : List (List Test)) (m3 : Nat), m - 216 ≤ m3 → FormOk kn f → (fnEnds R E).rt (.tup [.str nm, .str lv, looksD done, formD f, .tup (sets.map setD), .tup (texts mk)]) ⟨fun b => if b = q then none else mu' b, some (p, m3)⟩ := by
          intro f m3 hm3 hf
          refine ⟨_, Sub.of hsubM (n := m - 216) hm3, h _ ⟨cs, nm, ⟨nm, lv, done, f, sets, mk⟩, rfl, rfl, rfl, ?_⟩⟩
          rw [hn]
          refine ⟨hnm, hlvm, hlk, ?_, hslen, hsub, ?_, Nat.le_trans hmk.length_le hns.2, hmk, hmn⟩
          · show FormOk (knownOf gone' done) f
            rw [hk]; exact hf
          · show ∀ x ∈ sets, TermsOk (knownOf gone' done) x.2.1 ∧ _
            rw [hk]; exact hsets
        rw [eqb_int]
        by_cases hw : w = 0
        · rw [decide_eq_true hw]
          refine ⟨Nat.zero_le _, sz _ (show 1 ≤ _ by omega), _, rfl, sz _ (show 6 ≤ _ by omega), fin [[]] _ (by omega) ⟨by decide, fun c hc => ?_⟩⟩
          have e : c = [] := by simpa using hc
          subst e
          exact ⟨Nat.zero_le _, fun t ht => (nomatch ht)⟩
        · rw [decide_eq_false hw]
          refine ⟨rfl, use_dr (by omega) ⟨kn, rfl, hkn⟩ fun d3 hd3 => ?_⟩
          obtain ⟨kn', f, e3, rfl, hf⟩ := hd3
          have ek := arg_texts e3
          subst ek
          exact ⟨_, rfl, sz _ (show 6 ≤ _ by omega), fin f _ (by omega) hf⟩
      · rintro d ds acc s K ⟨mk, gone', todo, m2, rfl, hr2, rfl, hg2, hmk, hmn, hm2⟩ hK
        obtain ⟨y, r', rfl, rfl, rfl⟩ := texts_cons hr2
        rw [List.length_cons] at hm2
        have hy : nmOk y := hns.1 y (by rw [← hg2]; exact List.mem_append_right _ List.mem_cons_self)
        have hg3 : (gone' ++ [y]) ++ r' = gone := by rw [List.append_assoc]; exact hg2
        intro hz6
        refine ⟨hz6, ?_⟩
        refine comp_mt setD (fun x => .str x.1) sets [] (fun c hc K q => ⟨_, _, rfl, atI_0 _ _, q⟩) ?_
        rw [List.nil_append, map_str]
        refine ⟨⟨eqOk_nm hy, eqOk_texts hsnm⟩, ?_⟩
        rw [show (if true = true then !isIn (D.str y) (texts (sets.map (·.1))) else isIn (D.str y) (texts (sets.map (·.1)))) = !decide (y ∈ sets.map (·.1)) from congrArg (!·) (isIn_texts y _)]
        by_cases hyn : y ∈ sets.map (·.1)
        · rw [decide_eq_true hyn]
          exact hK _ _ ⟨mk, gone' ++ [y], r', m2, rfl, rfl, rfl, hg3, hmk.trans (List.sublist_append_left _ _), hmn, by omega⟩
        · rw [decide_eq_false hyn]
          refine ⟨rfl, use_next (by omega) (by decide) (by decide) fun r r0 r1 => ⟨⟨eqOk_int _, eqOk_int _⟩, ?_⟩⟩
          rw [eqb_int]
          by_cases hr0 : r = 0
          · rw [decide_eq_true hr0]
            refine hK _ _ ⟨mk ++ [y], gone' ++ [y], r', m2 - 1, (texts_app mk [y]).symm ▸ rfl, rfl, rfl, hg3, hmk.append (List.Sublist.refl _), fun x hx => ?_, by omega⟩
            rcases List.mem_append.mp hx with hx | hx
            · exact hmn x hx
            · have e : x = y := by simpa using hx
              rw [e]; exact hyn
          · rw [decide_eq_false hr0]
            exact hK _ _ ⟨mk, gone' ++ [y], r', m2 - 1, rfl, rfl, rfl, hg3, hmk.trans (List.sublist_append_left _ _), hmn, by omega⟩
    · rintro d ds e s K ⟨x8, sets, gone, todo, mu', m', rfl, rfl, M, hr, hg, hsub, hsets, hm'⟩ hK
      obtain ⟨y, r', rfl, rfl, rfl⟩ := texts_cons hr
      rw [List.length_cons] at hm'
      have hg3 : (gone ++ [y]) ++ r' = ns := by rw [List.append_assoc]; exact hg
      have hslen : sets.length ≤ 4 := by
        have h1 := hsub.length_le
        have h2 : gone.length ≤ ns.length := by rw [← hg, List.length_append]; omega
        rw [List.length_map] at h1
        have := hns.2
        omega
      refine ⟨rfl, use_next (by omega) (by decide) (by decide) fun r r0 r1 => ⟨⟨eqOk_int _, eqOk_int _⟩, ?_⟩⟩
      rw [eqb_int]
      by_cases hr0 : r = 0
      · rw [decide_eq_true hr0]
        refine ⟨⟨_, M.here⟩, rfl, use_dr (by omega) ⟨kn, rfl, hkn⟩ fun d3 hd3 => ?_⟩
        obtain ⟨kn', ts, e3, rfl, hts⟩ := hd3
        have ek := arg_texts e3
        subst ek
        refine ⟨sz _ (show 9 ≤ _ by omega), rfl, use_next (by omega) (by decide) (by decide) fun j j0 j1 => ?_⟩
        obtain ⟨b, hb, b0, b1⟩ := at_ints [0, 0, 1, 1, -1, 2, 3, 99, -99] (-99) 99 j0 j1
        refine ⟨_, _, rfl, hb, sz _ (show 3 ≤ _ by omega), _, M.here, by rw [List.length_map, sizeLine_eq]; omega, hK _ _ ⟨_, sets ++ [(y, ts, b)], gone ++ [y], r', _, _, rfl, rfl, ?_, rfl, hg3, ?_, ?_, by omega⟩⟩
        · have := M.put ((sets ++ [(y, ts, b)]).map setD)
          rw [List.map_append] at this ⊢
          exact this
        · rw [List.map_append]
          exact hsub.append (List.Sublist.refl _)
        · intro x hx
          rcases List.mem_append.mp hx with hx | hx
          · exact hsets x hx
          · have e : x = (y, ts, b) := by simpa using hx
            subst e
            exact ⟨hts, b0, b1⟩
      · rw [decide_eq_false hr0]
        exact hK _ _ ⟨_, sets, gone ++ [y], r', mu', _, rfl, rfl, M, rfl, hg3, hsub.trans (List.sublist_append_left _ _), hsets, by omega⟩
  · rintro d ds e s K ⟨x7, done, todo, rfl, rfl, hr, hd, hfl⟩ hK
    cases todo with
    | nil => cases hr
    | cons pt todo =>
      have e1 : d = partD pt := (List.cons.inj hr).1
      have e2 : ds = todo.map partD := (List.cons.inj hr).2
      subst e1 e2
      have hmem : pt ∈ l := by rw [← hd]; exact List.mem_append_right _ List.mem_cons_self
      have hpl := (hlk.parts pt hmem).2.1
      have hdl : done.length ≤ 3 := by
        have : done.length ≤ l.length := by rw [← hd, List.length_append]; omega
        exact Nat.le_trans this hlk.len
      refine ⟨_, rfl, ?_, hK _ _ ⟨some (partD pt), done ++ [pt], todo, ?_, rfl, rfl, by rw [List.append_assoc]; exact hd, ?_⟩⟩
      · rw [texts_len, texts_len]; exact sz _ (by omega)
      · rw [texts_app]
        have : (done ++ [pt]).flatten = done.flatten ++ pt := by simp
        rw [this]; rfl
      · have : (done ++ [pt]).flatten = done.flatten ++ pt := by simp
        rw [this, List.length_append, List.length_append]
        show _ ≤ 4 * (done.length + 1)
        omega
end Bk

/-! Bk: == of texts; cells, programs are small; reading them. -/
namespace Bk
open PySem PySem.Spec PyProof.Rows L2
section
variable {X : Cx} {T : Tb}
def oEqS : G2 := fun x y s R => match x, y with
  | .str a, .str b => R (.bl (decide (a = b))) s
  | _, _ => False
def oNeS : G2 := fun x y s R => match x, y with
  | .str a, .str b => R (.bl (!decide (a = b))) s
  | _, _ => False
theorem od_eqS : OpD X T (compareOp .Eq) oEqS := .of op_eq fun F s H x y vx vy R Q hh rx ry hg post => by
  unfold oEqS at hg
  split at hg
  · rename_i a b
    cases rx; cases ry
    refine ⟨rfl, ?_⟩
    have e : decide (V.str a = V.str b) = decide (a = b) := by simp
    rw [e]
    exact post _ s _ H F hg Ext.refl hh (.bl _)
  · exact hg.elim
theorem od_neS : OpD X T (compareOp .NotEq) oNeS := .of op_ne fun F s H x y vx vy R Q hh rx ry hg post => by
  unfold oNeS at hg
  split at hg
  · rename_i a b
    cases rx; cases ry
    refine ⟨rfl, ?_⟩
    have e : decide (V.str a = V.str b) = decide (a = b) := by simp
    rw [e]
    exact post _ s _ H F hg Ext.refl hh (.bl _)
  · exact hg.elim
end
theorem cellD_inj {a b : Str × Int} (h : cellD a = cellD b) : a = b := by
  obtain ⟨a1, a2⟩ := a
  obtain ⟨b1, b2⟩ := b
  have h1 := List.cons.inj (D.tup.inj h)
  have h2 := List.cons.inj h1.2
  have e1 : a1 = b1 := D.str.inj h1.1
  have e2 : a2 = b2 := D.int.inj h2.1
  rw [e1, e2]
theorem cells_inj : ∀ {a b : List (Str × Int)}, cellsD a = cellsD b → a = b
  | [], [], _ => rfl
  | [], _ :: _, h => by have := D.tup.inj h; cases this
  | _ :: _, [], h => by have := D.tup.inj h; cases this
  | x :: a, y :: b, h => by
    have e := List.cons.inj (D.tup.inj h)
    rw [cellD_inj e.1, cells_inj (congrArg D.tup e.2)]

/-! ### small -/
theorem okd_cell {c : Str × Int} (h : nmOk c.1) (h1 : 1 ≤ c.2 ∧ c.2 ≤ 3) : Okd 1 130 (cellD c) := okd_tup (k := 0) (w := 64) (n := 2) (fun x hx => by
  simp only [List.mem_cons, List.not_mem_nil, or_false] at hx
  rcases hx with rfl | rfl
  · exact okd_nm h
  · exact okd_int (by omega) (by omega) (Nat.le_refl _)) (Nat.le_refl _)
theorem okd_cells {cs : List (Str × Int)} (h : CellsOk cs) : Okd 2 524 (cellsD cs) := okd_tup (k := 1) (w := 130) (n := 4) (fun x hx => by
  obtain ⟨c, hc, rfl⟩ := List.mem_map.mp hx
  exact okd_cell (h.nm c hc) (h.most c hc)) (by rw [List.length_map]; exact h.len)
theorem okd_term {t : Term} (h : nmOk t.2) (h1 : -9 ≤ t.1 ∧ t.1 ≤ 9) : Okd 1 130 (termD t) := okd_tup (k := 0) (w := 64) (n := 2) (fun x hx => by
  simp only [List.mem_cons, List.not_mem_nil, or_false] at hx
  rcases hx with rfl | rfl
  · exact okd_int (by omega) (by omega) (Nat.le_refl _)
  · exact okd_nm h) (Nat.le_refl _)
theorem okd_terms {ns : List Str} {ts : List Term} (hns : namesOk ns) (h : TermsOk ns ts) : Okd 2 524 (termsD ts) := okd_tup (k := 1) (w := 130) (n := 4) (fun x hx => by
  obtain ⟨c, hc, rfl⟩ := List.mem_map.mp hx
  exact okd_term (hns.1 _ (h.all c hc).2) (h.all c hc).1) (by rw [List.length_map]; exact Nat.le_trans h.len hns.2)
theorem opsL_ok : ∀ x ∈ opsL, nmOk x := by
  intro x hx
  unfold opsL at hx
  simp only [List.mem_cons, List.not_mem_nil, or_false] at hx
  rcases hx with rfl | rfl | rfl | rfl | rfl | rfl <;> exact ⟨by decide +kernel, by decide +kernel⟩
theorem levelsL_ok : ∀ x ∈ levelsL, nmOk x := by
  intro x hx
  unfold levelsL at hx
  simp only [List.mem_cons, List.not_mem_nil, or_false] at hx
  rcases hx with rfl | rfl | rfl | rfl | rfl <;> exact ⟨by decide +kernel, by decide +kernel⟩
theorem okd_test {ns : List Str} {t : Test} (hns : namesOk ns) (h : TestOk ns t) : Okd 3 1575 (testD t) := okd_tup (k := 2) (w := 524) (n := 3) (fun x hx => by
  simp only [List.mem_cons, List.not_mem_nil, or_false] at hx
  rcases hx with rfl | rfl | rfl
  · exact okd_terms hns h.terms
  · exact (okd_nm (k := 2) (opsL_ok _ h.op)).mono (Nat.le_refl _) (by omega)
  · have := h.num; exact okd_int (by omega) (by omega) (by omega)) (Nat.le_refl _)
theorem okd_form {ns : List Str} {f : List (List Test)} (hns : namesOk ns) (h : FormOk ns f) : Okd 5 25220 (formD f) := okd_tup (k := 4) (w := 6304) (n := 4) (fun x hx => by
  obtain ⟨c, hc, rfl⟩ := List.mem_map.mp hx
  exact okd_tup (k := 3) (w := 1575) (n := 4) (fun y hy => by
    obtain ⟨t, ht, rfl⟩ := List.mem_map.mp hy
    exact okd_test hns ((h.cases c hc).2 t ht)) (by rw [List.length_map]; exact (h.cases c hc).1)) (by rw [List.length_map]; exact h.len)
theorem okd_part {ns : List Str} (h : ∀ x ∈ ns, nmOk x) (hl : ns.length ≤ 4) : Okd 1 260 (partD ns) := okd_tup (k := 0) (w := 64) (n := 4) (okd_texts h) (by rw [texts_len]; exact hl)
theorem knownOf_ok {ns : List Str} {l : List (List Str)} (h : namesOk ns) : namesOk (knownOf ns l) := ⟨fun x hx => h.1 x (knownOf_sub.subset hx), Nat.le_trans knownOf_sub.length_le h.2⟩
theorem okd_prog {ns : List Str} {p : Prog} (hns : namesOk ns) (h : ProgOk ns p) : Okd 6 151326 (progD p) := okd_tup (k := 5) (w := 25220) (n := 6) (fun x hx => by
  simp only [List.mem_cons, List.not_mem_nil, or_false] at hx
  rcases hx with rfl | rfl | rfl | rfl | rfl | rfl
  · exact (okd_nm (k := 5) h.name).mono (Nat.le_refl _) (by omega)
  · exact (okd_nm (k := 5) (levelsL_ok _ h.level)).mono (Nat.le_refl _) (by omega)
  · exact (okd_tup (k := 1) (w := 260) (n := 3) (fun y hy => by
      obtain ⟨q, hq, rfl⟩ := List.mem_map.mp hy
      exact okd_part (fun z hz => hns.1 z ((h.looks.parts q hq).2.2.subset hz)) (h.looks.parts q hq).2.1) (by rw [List.length_map]; exact h.looks.len)).mono (by omega) (by omega)
  · exact okd_form (knownOf_ok hns) h.when
  · exact (okd_tup (k := 3) (w := 1575) (n := 4) (fun y hy => by
      obtain ⟨q, hq, rfl⟩ := List.mem_map.mp hy
      exact okd_tup (k := 2) (w := 524) (n := 3) (fun z hz => by
        simp only [List.mem_cons, List.not_mem_nil, or_false] at hz
        have hs := h.sets q hq
        rcases hz with rfl | rfl | rfl
        · exact (okd_nm (k := 2) (hns.1 _ (h.setsIn.subset (List.mem_map.mpr ⟨q, hq, rfl⟩)))).mono (Nat.le_refl _) (by omega)
        · exact okd_terms (knownOf_ok hns) hs.1
        · exact okd_int (by omega) (by omega) (by omega)) (Nat.le_refl _)) (by rw [List.length_map]; exact h.setsLen)).mono (by omega) (by omega)
  · exact (okd_part (fun z hz => hns.1 z (h.marksIn.subset hz)) h.marksLen).mono (by omega) (by omega)) (Nat.le_refl _)
theorem cells_names {cs : List (Str × Int)} (h : CellsOk cs) : namesOk (cs.map (·.1)) := ⟨fun x hx => by obtain ⟨c, hc, rfl⟩ := List.mem_map.mp hx; exact h.nm c hc, by rw [List.length_map]; exact h.len⟩
theorem okd_both {cs : List (Str × Int)} {p : Prog} (h : CellsOk cs) (hp : ProgOk (cs.map (·.1)) p) : Okd 7 302654 (.lst [cellsD cs, progD p]) := okd_lst (k := 6) (w := 151326) (n := 2) (fun x hx => by
  simp only [List.mem_cons, List.not_mem_nil, or_false] at hx
  rcases hx with rfl | rfl
  · exact (okd_cells h).mono (by omega) (by omega)
  · exact okd_prog (cells_names h) hp) (Nat.le_refl _)
end Bk

/-! Bk: what the printed derivations name. -/
namespace Bk
open PySem PySem.Spec PyProof.Rows L2
section
variable {X : Cx} {W : WX} {k : Nat}
theorem Bod.u1 (B : Bod X W k) : X.A.units + 1 < cLine := by have := B.room.un; omega
theorem Bod.u64 (B : Bod X W k) : X.A.units + 64 < cLine := by have := B.room.un; omega
theorem Bod.u65 (B : Bod X W k) : X.A.units + 65 < cLine := by have := B.room.un; omega
theorem Bod.u66 (B : Bod X W k) : X.A.units + 66 < cLine := by have := B.room.un; omega
theorem blk_top {scope sc : Scope} {N : List Str} {own : List (Str × Nat)} (h : blkC N sc scope own = true) (hN : X.N = N := by rfl) (hs : X.env.scope = sc := by rfl) : BlkOk X.N X.env.scope scope own := by
  rw [hN, hs]; exact blkOk_by h
def relab (scope sc : Scope) : Scope := { scope with names := scope.names.map fun (n, k) => if (k == .free && sc.kind == .function && sc.names.lookup n == some .cell) then (n, .cell) else (n, k) }
theorem blk_in {s : Shared} {H : Hp} {scope0 scope sc : Scope} {cl : List (Str × Addr)} {C : Addr} {fp : List Addr} {N : List Str} {own : List (Str × Nat)} (h : blkC N (relab scope0 sc) scope own = true) (hN : X.N = N := by rfl) (hs : X.env.scope = sc := by rfl) :
    BlkOk (X.blk s H scope0 (compEnvC scope0 cl C X.env) fp).N (X.blk s H scope0 (compEnvC scope0 cl C X.env) fp).env.scope scope own := by
  subst hs hN
  exact blkOk_by h
section
variable {T : Tb} {pos : Pos} {g g1 : DG} {vs vs1 : List Nat}
theorem dx_lcV {elt tg iter : Expr} {ifs : List Expr} {scope : Scope} {own : List (Str × Nat)} {f0 : Arg} {t : Tst} {f : Exp} (hc : X.calm = true) (hN : X.N.Nodup) (hi : DI X T W tg iter f0) (ok : BlkOk X.N X.env.scope scope own) (hv : own.map (·.2) = vs)
    (hg : BlkAll X scope fun Y => DPGo Y T vs tg g) (ht : BlkAll X scope fun Y => DTs Y T wF ifs t) (he : BlkAll X scope fun Y => DX Y T wF elt f) (hs : ∀ x, foldedSetIterable iter X.env x = pure x := by intro _; rfl) :
    DX X T W (.ListComp elt [⟨tg, iter, ifs, 0⟩] scope pos) (dLc f0 g t f vs) := by subst hv; exact dx_lc hc hN hi ok hg ht he hs
theorem dx_lcMV {elt tg iter : Expr} {ifs : List Expr} {scope : Scope} {own : List (Str × Nat)} {f0 : Arg} {t : Tst} {f : Exp} (hc : X.calm = true) (hN : X.N.Nodup) (hi : DI X T W tg iter f0) (ok : BlkOk X.N X.env.scope scope own) (hv : own.map (·.2) = vs)
    (hg : BlkAll X scope fun Y => DPGo Y T vs tg g) (ht : BlkAll X scope fun Y => DTs Y T wF ifs t) (he : BlkAll X scope fun Y => DX Y T wF elt f) (hs : ∀ x, foldedSetIterable iter X.env x = pure x := by intro _; rfl) :
    DX X T W (.ListComp elt [⟨tg, iter, ifs, 0⟩] scope pos) (dLcM f0 g t f vs) := by subst hv; exact dx_lcM hc hN hi ok hg ht he hs
theorem ds_setLcV {i : Nat} {y : Str} {py spos : Pos} {elt tg iter : Expr} {ifs : List Expr} {scope : Scope} {own : List (Str × Nat)} {f0 : Arg} {t : Tst} {f : Exp} (hc : X.calm = true) (hN : X.N.Nodup) (hi : DI X T W tg iter f0) (ok : BlkOk X.N X.env.scope scope own) (hv : own.map (·.2) = vs)
    (hg : BlkAll X scope fun Y => DPGo Y T vs tg g) (ht : BlkAll X scope fun Y => DTs Y T wF ifs t) (he : BlkAll X scope fun Y => DX Y T wF elt f) (hy : X.N[i]? = some y) (hyl : X.env.scope.names.lookup y = some .local)
    (hsw : swapsWith (.ListComp elt [⟨tg, iter, ifs, 0⟩] scope pos) (some (.Name y py)) spos.line X.env = pure true) (hs : ∀ x, foldedSetIterable iter X.env x = pure x := by intro _; rfl) :
    DS X T W (.Assign [.Name y py] (.ListComp elt [⟨tg, iter, ifs, 0⟩] scope pos) spos) (dSet i (dLc f0 g t f vs)) := by subst hv; exact ds_setLc hc hN hy hyl hsw hi ok hg ht he hs
theorem dx_lc2V {elt tg iter tg1 iter1 : Expr} {ifs ifs1 : List Expr} {scope : Scope} {own : List (Str × Nat)} {f0 fi : Arg} {t t1 : Tst} {f : Exp} (hc : X.calm = true) (hN : X.N.Nodup) (hi : DI X T W tg iter f0) (ok : BlkOk X.N X.env.scope scope own) (hv0 : own.map (·.2) = vs) (hv : ∀ i ∈ vs1, i ∈ vs)
    (hg : BlkAll X scope fun Y => DPGo Y T vs tg g) (ht : BlkAll X scope fun Y => DTs Y T wF ifs t) (hi1 : BlkAll X scope fun Y => DI Y T wF tg1 iter1 fi) (hg1 : BlkAll X scope fun Y => DPGo Y T vs1 tg1 g1) (ht1 : BlkAll X scope fun Y => DTs Y T wF ifs1 t1) (he : BlkAll X scope fun Y => DX Y T wF elt f)
    (hs : ∀ x, foldedSetIterable iter X.env x = pure x := by intro _; rfl) (hs1 : ∀ env x, foldedSetIterable iter1 env x = pure x := by intro _ _; rfl) :
    DX X T W (.ListComp elt [⟨tg, iter, ifs, 0⟩, ⟨tg1, iter1, ifs1, 0⟩] scope pos) (dLc2 f0 g t fi g1 t1 f vs vs1) := by subst hv0; exact dx_lc2 hc hN hi ok hv hg ht hi1 hg1 ht1 he hs hs1
theorem ds_setLc2V {i : Nat} {y : Str} {py spos : Pos} {elt tg iter tg1 iter1 : Expr} {ifs ifs1 : List Expr} {scope : Scope} {own : List (Str × Nat)} {f0 fi : Arg} {t t1 : Tst} {f : Exp} (hc : X.calm = true) (hN : X.N.Nodup) (hi : DI X T W tg iter f0) (ok : BlkOk X.N X.env.scope scope own) (hv0 : own.map (·.2) = vs) (hv : ∀ i ∈ vs1, i ∈ vs)
    (hg : BlkAll X scope fun Y => DPGo Y T vs tg g) (ht : BlkAll X scope fun Y => DTs Y T wF ifs t) (hi1 : BlkAll X scope fun Y => DI Y T wF tg1 iter1 fi) (hg1 : BlkAll X scope fun Y => DPGo Y T vs1 tg1 g1) (ht1 : BlkAll X scope fun Y => DTs Y T wF ifs1 t1) (he : BlkAll X scope fun Y => DX Y T wF elt f)
    (hy : X.N[i]? = some y) (hyl : X.env.scope.names.lookup y = some .local) (hsw : swapsWith (.ListComp elt [⟨tg, iter, ifs, 0⟩, ⟨tg1, iter1, ifs1, 0⟩] scope pos) (some (.Name y py)) spos.line X.env = pure true)
    (hs : ∀ x, foldedSetIterable iter X.env x = pure x := by intro _; rfl) (hs1 : ∀ env x, foldedSetIterable iter1 env x = pure x := by intro _ _; rfl) :
    DS X T W (.Assign [.Name y py] (.ListComp elt [⟨tg, iter, ifs, 0⟩, ⟨tg1, iter1, ifs1, 0⟩] scope pos) spos) (dSet i (dLc2 f0 g t fi g1 t1 f vs vs1)) := by subst hv0; exact ds_setLc2 hc hN hy hyl hsw hi ok hv hg ht hi1 hg1 ht1 he hs hs1
end
end
theorem bt_len : bootBuiltins "len" = some (.builtin "len") := by decide +kernel
theorem bt_repr : bootBuiltins "repr" = some (.builtin "repr") := by decide +kernel
theorem bt_max : bootBuiltins "max" = some (.builtin "max") := by decide +kernel
theorem bt_min : bootBuiltins "min" = some (.builtin "min") := by decide +kernel
theorem bt_sum : bootBuiltins "sum" = some (.builtin "sum") := by decide +kernel
theorem bt_all : bootBuiltins "all" = some (.builtin "all") := by decide +kernel
theorem bt_any : bootBuiltins "any" = some (.builtin "any") := by decide +kernel
theorem bt_sorted : bootBuiltins "sorted" = some (.builtin "sorted") := by decide +kernel
theorem bt_tuple : bootBuiltins "tuple" = some (.type "tuple") := by decide +kernel
theorem bt_list : bootBuiltins "list" = some (.type "list") := by decide +kernel
theorem bt_int : bootBuiltins "int" = some (.type "int") := by decide +kernel
theorem bt_dict : bootBuiltins "dict" = some (.type "dict") := by decide +kernel
theorem bt_set : bootBuiltins "set" = some (.type "set") := by decide +kernel
theorem bt_str : bootBuiltins "str" = some (.type "str") := by decide +kernel
theorem bt_bool : bootBuiltins "bool" = some (.type "bool") := by decide +kernel
theorem bt_isinstance : bootBuiltins "isinstance" = some (.builtin "isinstance") := by decide +kernel
theorem bt_abs : bootBuiltins "abs" = some (.builtin "abs") := by decide +kernel
end Bk

/-! Bk: dict of pairs, d.get(k, x), l.index(x), tuple * n. -/
namespace Bk
open PySem PySem.Spec PyProof.Rows L2
open AutoSeq1 (wpAny_loadPart')
section
variable {X : Cx}
/-! ### dict(t) of a tuple of pairs -/
theorem pairsT {pins : List (Addr × Obj)} {σ : L2.St} {H : Hp} {s : Shared} (I : Inv X pins σ H s) {ps : List Addr} {kvs : List (Key × V)} (h : Paired (fun p kv => SqT X.K H p [kV kv.1, kv.2]) ps kvs) :
    ∃ (prs : List (Key × Value)) (raw : List (Value × Value)), KV kvs prs ∧ prs.length = ps.length ∧ raw.length = ps.length ∧ (∀ (j : Nat) (k v : Value), raw[j]? = some (k, v) → ∃ (b : Addr) (q : Key), ps[j]? = some b ∧ PySem.PairAt s.heap b k v ∧ prs[j]? = some (q, v) ∧ keyIs q k = true) := by
  obtain ⟨prs, rel, hl, hp⟩ := pairs_of I h
  have ex : ∀ j : Fin prs.length, ∃ u : Value, ∃ b : Addr, ps[j.val]? = some b ∧ IsTup s.heap b #[u, prs[j].2] ∧ keyIs prs[j].1 u = true := fun j => by
    obtain ⟨b, u, e1, e2, e3⟩ := hp j.val prs[j] (List.getElem?_eq_getElem j.isLt)
    exact ⟨u, b, e1, e2, e3⟩
  let us : Fin prs.length → Value := fun j => Classical.choose (ex j)
  refine ⟨prs, List.ofFn fun j : Fin prs.length => (us j, prs[j].2), rel, hl, by rw [List.length_ofFn]; exact hl, fun j k v e => ?_⟩
  obtain ⟨hj, e1⟩ := List.getElem?_eq_some_iff.mp e
  rw [List.length_ofFn] at hj
  rw [List.getElem_ofFn] at e1
  obtain ⟨b, h1, h2, h3⟩ := Classical.choose_spec (ex ⟨j, hj⟩)
  cases e1
  exact ⟨b, prs[j].1, h1, .inl h2, List.getElem?_eq_getElem hj, h3⟩
theorem call_dictT (hcalm : X.calm = true) : CallR X (.type "dict") (fun xs H Q => ∃ (a : Addr) (o : Obj) (ps : List Addr) (kvs : List (Key × V)), xs = [.ref a] ∧ H a = some (.frz o (.tup (ps.map V.ref))) ∧ o.dict = none ∧ Paired (fun p kv => SqT X.K H p [kV kv.1, kv.2]) ps kvs ∧
    ∀ p, H p = none → Q (.ref p) (upd H p (.dK (mergeK [] kvs)))) := by
  intro pins s σ H xs us Q I r q
  obtain ⟨a, o, ps, kvs, ex, hq, hd, hp, q⟩ := q
  subst ex
  obtain ⟨u, eu, rx⟩ := vals1 r
  subst eu
  cases rx
  obtain ⟨ho, hz, its, rv, ⟨o', ho', hc, n, hdat⟩⟩ : ObjOk X.prog X.w H s.heap a (.frz o (.tup (ps.map V.ref))) := I.hok a _ hq
  rw [ho] at ho'; cases ho'
  have ei := refs_at rv
  subst ei
  rw [List.length_map] at hz
  obtain ⟨prs, raw, rel, hl, hr, hpr⟩ := pairsT I hp
  refine PySem.call_dict_pairs (knd := mixKind X.prog X.w) (kvs := prs) (PySem.PairArg.tuple a (ps.map Value.ref).toArray (fun j => ps.getD j 0) raw) (I.ok.hd hcalm) ⟨⟨o, n, ho, hc, hd, hdat⟩, by rw [List.size_toArray, List.length_map, hr], fun j k v e => ?_⟩ ⟨by rw [hl, hr], fun i k v e => ?_⟩ (by rw [hr]; exact hz) fun h' tk hd' k => ?_
  · obtain ⟨b, q', e1, e2, _⟩ := hpr j k v e
    have e4 : ps.getD j 0 = b := by rw [List.getD_eq_getElem?_getD, e1]; rfl
    show (List.map Value.ref ps).toArray[j]? = some (Value.ref (ps.getD j 0)) ∧ PySem.PairAt s.heap (ps.getD j 0) k v
    rw [e4]
    exact ⟨by simp [e1], e2⟩
  · obtain ⟨b, q', _, _, e3, e5⟩ := hpr i k v e
    exact ⟨q', e3, e5⟩
  · have hm : (s.heap.objs.size == sysModules) = false := beq_eq_false_iff_ne.mpr (Nat.ne_of_gt I.big)
    have hlen : (mergeK [] kvs).length ≤ sizeLine := by
      refine Nat.le_trans (length_mergeK kvs []) ?_
      rw [List.length_nil, Nat.zero_add, rel.length, hl]
      exact hz
    exact ⟨.ref s.heap.objs.size, upd H s.heap.objs.size (.dK (mergeK [] kvs)), I.laid (t' := tk) (fun b ob e => k b ob (fun z => nomatch z) e) (Nat.le_refl _) (show ObjOk X.prog X.w _ _ _ (.dK (mergeK [] kvs)) from ⟨hlen, hm, merged [] prs, KV.merge rel .nil, hd'⟩), rfl, q _ (I.hok.fresh (Nat.le_refl _))⟩
/-! ### a tuple made of a list, of written items: known to have no dict -/
theorem call_tupleP : CallR X (.type "tuple") (fun xs H Q => ∃ p ys, xs = [.ref p] ∧ SqL X.K H p ys ∧ ∀ l o, o.dict = none → H l = none → Q (.ref l) (upd H l (.frz o (.tup ys)))) := by
  intro pins s σ H xs us Q I r h
  obtain ⟨p, ys, rfl, hq, q⟩ := h
  obtain ⟨u, rfl, rx⟩ := vals1 r
  cases rx
  obtain ⟨its, ri, pl, hz⟩ := I.list hq
  have hlen := ri.length
  refine call_tuple_list pl.isList (fun h1 kp => ?_) (by simp only [List.size_toArray] <;> omega)
  have J : Inv X pins σ H { s with heap := h1 } := I.kept (t' := s.toks) kp
  refine ⟨.ref h1.objs.size, upd H h1.objs.size (.frz { cls := .type "tuple", data := .seq its.toArray } (.tup ys)), J.laid (t' := s.toks) (fun b o e => Heap.get?_push_of_some _ e) (Nat.le_refl _) ?_, rfl, q _ _ rfl (J.hok.fresh (Nat.le_refl _))⟩
  exact ⟨Heap.get?_push_size _ rfl, hz, its, ri, IsTup.new _ _⟩
def tTupP (t : TA) : TE := fun σ H Q => t σ H fun xs H1 => xs.length ≤ sizeLine ∧ ∀ p o, o.dict = none → H1 p = none → Q (.ref p) (upd H1 p (.frz o (.tup xs)))
theorem pe_tupP {es : List Expr} {t : TA} {x1 : Nat} {pos : Pos} (h : PA X es t) : PE X (.Tuple es x1 pos) (tTupP t) := by
  refine ⟨fun pins s σ H Q I hq => ?_⟩
  refine wpAny_Tuple_spliced (thn (h.run pos pins s σ H _ I hq) fun us t0 ⟨xs, H1, J, r, z, q⟩ => ⟨by rw [← r.length]; exact z, ?_⟩)
  have hf : H1 t0.heap.objs.size = none := J.hok.fresh (Nat.le_refl _)
  refine ⟨.ref t0.heap.objs.size, upd H1 t0.heap.objs.size (.frz { cls := .type "tuple", data := .seq us.toArray } (.tup xs)), J.laid (t' := t0.toks) (fun b u e => Heap.get?_push_of_some _ e) (Nat.le_refl _) ?_, rfl, q _ _ rfl hf⟩
  exact ⟨Heap.get?_push_size _ rfl, z, us, r, ⟨_, Heap.get?_push_size _ rfl, rfl, _, rfl⟩⟩

/-! ### tuple * 1 -/
theorem tuple_times1 (l : Addr) (items : Array Value) (n : Nat) (dd : Option Addr) (sl : Array (Option Value)) (u : Tok) :
    Meets (Builtin.«tuple.__mul__» ⟨[.ref l, .int 1 u], []⟩) (fun _ R s => s.heap.get? l = some { cls := .type "tuple", dict := dd, data := .seq items n, slots := sl } ∧ R (.ok (.ret (Value.ref l))) s) :=
  .of_wp fun prog w A R s h => by
    obtain ⟨hp, g, d, tk, os⟩ := s
    obtain ⟨hl, h⟩ := h
    have f1 := AutoSeq1.idx_int
    have c0 : ¬ ((decide ((1 : Int) < -(2 ^ 63)) || decide ((1 : Int) ≥ 2 ^ 63)) = true) := by decide
    have c1 : (items.isEmpty || (1 : Int) == 1) = true := by simp
    wp_walk using wpAny_loadPart' hl
    exact ⟨_, rfl, h⟩
theorem op_once : OpR X (binaryOp .Mult) (fun x y H Q => ∃ l xs, x = .ref l ∧ y = .int 1 ∧ SqT X.K H l xs ∧ Q (.ref l) H) := by
  intro pins s σ H x y v u Q I rx ry h
  obtain ⟨l, xs, rfl, rfl, hT, q⟩ := h
  cases rx
  obtain ⟨t, rfl⟩ := ry
  obtain ⟨its, r, ⟨⟨cls, dd, data, sl⟩, ho, hc, n, hd⟩, hs⟩ := I.tuple hT
  simp only at hc hd
  subst hc hd
  exact wpAny_binaryOp_repeat_ref (T := "tuple") (U := "int") (by decide) ⟨_, ho, rfl⟩ (fun s' => typeIs_int s' 1 t) noFill_tuple_mul F.fills_int_mul F.slot_int_rmul repeat_tuple F.slot_int_index.lookup
    (call_meets F.slot_int_rmul (typeIs_int s 1 t) F.entry_int_rmul (F.args_int_rmul_2 _ _) (int_rmul_tuple 1 t l its.toArray n dd sl)
      ⟨ho, rfl, ⟨_, ho, rfl⟩, call_meets F.slot_tuple_mul ⟨_, ho, rfl⟩ F.entry_tuple_mul (F.args_tuple_mul_2 _ _) (tuple_times1 l its.toArray n dd sl t) ⟨ho, ⟨V.ref l, H, I, rfl, q⟩⟩⟩)
end
section
variable {X : Cx} {T : Tb} {W : WX} {a b c : Expr} {fa fb fc : Exp} {pos : Pos} {K : PySem.W.Frag} {F H : Hp} {s : S}
/-! ### the same over deep data -/
/-- a tuple as any other -/
def D.unp : D → D
  | .pln xs => .tup xs
  | d => d
theorem Rep.unp {d : D} {v : V} (r : Rep K T F d v) : Rep K T F d.unp v := by
  cases r with
  | pln h hd r => exact .tup (.inl (.inr ⟨_, h⟩)) r
  | non => exact .non
  | bl b => exact .bl b
  | int i => exact .int i
  | str x => exact .str x
  | lst h r => exact .lst h r
  | tup h r => exact .tup h r
  | dic h r => exact .dic h r
  | rf v => exact .rf v
  | scr h => exact .scr h
  | exc h h2 r => exact .exc h h2 r
  | obj h r => exact .obj h r
  | clo f r => exact .clo f r
def dUnp (f : Exp) : Exp := fun e s R E => f e s (fun d s1 => R d.unp s1) E
theorem dx_unp (h : DX X T W a fa) : DX X T W a (dUnp fa) := ⟨pe_imp h.pe fun σ H Q hq => by
  obtain ⟨F, e, s, R, E, he, hh, hx, hf, post⟩ := hq
  exact ⟨F, e, s, _, E, he, hh, hx, hf, fun d s1 v H1 F1 q x hh1 r => post _ s1 v H1 F1 q x hh1 r.unp⟩⟩
theorem Hold.frzP (h : Hold K T F s H) {p : Addr} {o : Obj} {ds : List D} {vs : List V} (n : H p = none) (hd : o.dict = none) (r : Reps K T F ds vs) : Hold K T (upd F p (.frz o (.tup vs))) s (upd H p (.frz o (.tup vs))) ∧ Ext F s H (upd F p (.frz o (.tup vs))) s (upd H p (.frz o (.tup vs))) ∧ Rep K T (upd F p (.frz o (.tup vs))) (.pln ds) (.ref p) :=
  ⟨h.frz n, Ext.frz h n, .pln upd_same hd (r.mono (same_upd (h.fresh n)))⟩
def dTupP (r : Arg) : Exp := fun e s R E => r e s (fun ds s1 => ds.length ≤ sizeLine ∧ R (.pln ds) s1) E
theorem dx_tupP {es : List Expr} {r : Arg} {k : Nat} (h : DA X T W es r) : DX X T W (.Tuple es k pos) (dTupP r) := ⟨pe_imp (pe_tupP h.pa) fun σ H Q hq => by
  obtain ⟨F, e, s, R, E, he, hh, hx, hf, post⟩ := hq
  refine ⟨F, e, s, _, E, he, hh, hx, hf, fun ds s1 vs H1 F1 q x hh1 rs => ⟨by rw [← rs.length]; exact q.1, fun p o hd np => ?_⟩⟩
  obtain ⟨h1, h2, h3⟩ := hh1.frzP np hd rs
  exact post _ s1 _ _ _ q.2 (x.trans h2) h1 h3⟩
def cTupleP : GA := fun ds s R => match ds with
  | [d] => ∃ xs, lstOf d s = some xs ∧ R (.pln xs) s
  | _ => False
theorem cd_tupleP : CallD X T (.type "tuple") cTupleP := .of call_tupleP fun F s H ds vs R Q hh rs hg post => by
  unfold cTupleP at hg
  split at hg
  · obtain ⟨v, rfl, r1⟩ := rs.one
    obtain ⟨xs, h1, q⟩ := hg
    obtain ⟨p, ws, rfl, hL, rr⟩ := r1.lstq hh h1
    refine ⟨p, ws, rfl, hL, fun l o hd nl => ?_⟩
    obtain ⟨a1, a2, a3⟩ := hh.frzP nl hd rr
    exact post _ s _ _ _ q a2 a1 a3
  · exact hg.elim
/-- the pair's key and value -/
def pairD : D → Option (Key × D)
  | .tup [k, x] => (keyD k).map fun z => (z, x)
  | _ => none
def pairsD : D → Option (List D)
  | .lst xs => some xs
  | .pln xs => some xs
  | _ => none
theorem pairs_rep : ∀ {xs : List D} {vs : List V} {kvs : List (Key × D)}, Reps K T F xs vs → Same F H → xs.mapM pairD = some kvs → ∃ (ps : List Addr) (ws : List (Key × V)), vs = ps.map V.ref ∧ RepK K T F kvs ws ∧ Paired (fun p kv => SqT K H p [kV kv.1, kv.2]) ps ws
  | [], _, kvs, .nil, _, h => by
    have e : some [] = some kvs := h
    cases e
    exact ⟨[], [], rfl, .nil, .nil⟩
  | x :: xs, _, kvs, .cons r rr, e, h => by
    rw [List.mapM_cons] at h
    cases e1 : pairD x with
    | none => rw [e1] at h; cases h
    | some kv =>
      rw [e1] at h
      cases e2 : xs.mapM pairD with
      | none => rw [e2] at h; cases h
      | some more =>
        rw [e2] at h
        have e3 : some (kv :: more) = some kvs := h
        cases e3
        obtain ⟨ps, ws, rfl, h1, h2⟩ := pairs_rep rr e e2
        unfold pairD at e1
        split at e1
        · rename_i k y
          cases r with | tup l r2 =>
            cases r2 with | cons rk r3 => cases r3 with | cons ry r4 =>
              cases r4
              cases ek : keyD k with
              | none => rw [ek] at e1; cases e1
              | some z =>
                rw [ek] at e1
                cases e1
                have := rk.key ek
                subst this
                exact ⟨_ :: ps, (z, _) :: ws, rfl, .cons ry h1, .cons (sqt_mono e l) h2⟩
        · cases e1
/-- dict(xs) of a list, of a tuple known to have no dict -/
def cDict : GA := fun ds s R => match ds with
  | [d] => ∃ xs kvs, pairsD d = some xs ∧ xs.mapM pairD = some kvs ∧ ∀ p, s.mu p = none → R (.rf (.ref p)) (s.put p (.mk (dMerge [] kvs)))
  | _ => False
theorem cd_dict (hc : X.calm = true) : CallD X T (.type "dict") cDict := .of ((call_dictP hc).or (call_dictT hc)) fun F s H ds vs R Q hh rs hg post => by
  unfold cDict at hg
  split at hg
  · obtain ⟨v, rfl, r1⟩ := rs.one
    obtain ⟨xs, kvs, h1, h2, q⟩ := hg
    have fin : ∀ ws, RepK X.K T F kvs ws → ∀ p, H p = none → Q (.ref p) (upd H p (.dK (mergeK [] ws))) := fun ws rk p np => by
      obtain ⟨a1, a2, a3⟩ := hh.beginO (o := .dK []) np
      have b := a1.takeK (p := p) upd_same a3 (RepK.merge [] [] rk .nil)
      have b2 : Ext F s H F (s.put p (.mk (dMerge [] kvs))) (upd (upd H p (.dK [])) p (.dK (mergeK [] ws))) := a2.takeK np a3
      have e : upd (upd H p (.dK [])) p (.dK (mergeK [] ws)) = upd H p (.dK (mergeK [] ws)) := by
        funext z
        by_cases hz : z = p
        · subst hz; rw [upd_same, upd_same]
        · rw [upd_ne hz, upd_ne hz, upd_ne hz]
      rw [e] at b b2
      exact post _ _ _ _ F (q p (hh.freshM np)) b2 b (.rf _)
    unfold pairsD at h1
    split at h1
    · cases h1
      cases r1 with | lst l rr =>
        obtain ⟨ps, ws, rfl, rk, pp⟩ := pairs_rep rr hh.sub h2
        exact .inl ⟨_, ps, ws, rfl, sql_frz l hh.sub, pp, fin ws rk⟩
    · cases h1
      cases r1 with | pln l hd rr =>
        obtain ⟨ps, ws, rfl, rk, pp⟩ := pairs_rep rr hh.sub h2
        exact .inr ⟨_, _, ps, ws, rfl, hh.sub _ _ l, hd, pp, fin ws rk⟩
    · cases h1
  · exact hg.elim

/-- d.get(k, x) -/
def dGetOr (fo fi fx : Exp) : Exp := fun e s R E => fo e s (fun d s1 => (dicOf d s1).isSome = true ∧ fi e s1 (fun k s2 => fx e s2 (fun x s3 => ∃ key kvs, keyD k = some key ∧ dicOf d s3 = some kvs ∧ R ((dval kvs key).getD x) s3) E) E) E
theorem m2_of {apos : Pos} {m : Str} (hbase : attributeBase a m X.env (eval a X.env) = eval a X.env) (hline : (apos.endLine == pos.line) = true)
    (hfew : ((backTo pos (starEach [b, c] X.env)).all (fun x => !x.1) && (backToKw pos (keywordEach [] X.env)).all (fun x => x.1.isSome) && decide (([b, c] : List Expr).length + ([] : List Keyword).length + (if ([] : List Keyword).isEmpty then 0 else 1) < 30)) = true)
    (ht : backTo pos (starEach [b, c] X.env) = [(false, eval b X.env), (false, eval c X.env)]) : M2 X a m apos b c pos := ⟨hbase, hfew, hline, ht⟩
theorem dx_getOr {apos : Pos} (hu : X.A.units + 1 < cLine) (ha : DX X T W a fa) (hb : DX X T W b fb) (hc : DX X T W c fc) (m : M2 X a "get" apos b c pos) : DX X T W (.Call (.Attribute a "get" apos) [b, c] [] pos) (dGetOr fa fb fc) := ⟨pe_imp (pe_dget2 hu ha.pe hb.pe hc.pe m) fun σ H Q hq => by
  obtain ⟨F, e, s, R, E, he, hh, hx, hf, post⟩ := hq
  refine ⟨F, e, s, _, E, he, hh, hx, hf, fun d s1 v H1 F1 q x1 hh1 r1 => ?_⟩
  obtain ⟨hd, q⟩ := q
  cases e0 : dicOf d s1 with
  | none => rw [e0] at hd; cases hd
  | some kv0 =>
    obtain ⟨p, ws0, rfl, hp0, _⟩ := r1.dict hh1 e0
    refine ⟨p, rfl, .inl ⟨ws0, .inl hp0⟩, F1, e, s1, _, E, he.mono x1.same, hh1, hx.mono x1, q, fun k s2 vk H2 F2 q2 x2 hh2 r2 => ?_⟩
    refine ⟨F2, e, s2, _, E, (he.mono x1.same).mono x2.same, hh2, (hx.mono x1).mono x2, q2, fun y s3 vy H3 F3 q3 x3 hh3 r3 => ?_⟩
    obtain ⟨key, kvs, h1, h2, q4⟩ := q3
    obtain ⟨p', ws, ep, hp, rr⟩ := ((r1.mono x2.same).mono x3.same).dict hh3 h2
    cases ep
    have ek := (r2.mono x3.same).key h1
    subst ek
    refine ⟨_, DGet.k hp, ?_⟩
    have hv := rr.val (k := key)
    have px := ((post.mono x1).mono x2).mono x3
    cases e5 : dval kvs key with
    | none =>
      rw [hv.2 e5]
      rw [e5] at q4
      exact px y s3 vy H3 F3 q4 Ext.refl hh3 r3
    | some z =>
      obtain ⟨w, hw, rw'⟩ := hv.1 z e5
      rw [hw]
      rw [e5] at q4
      exact px z s3 w H3 F3 q4 Ext.refl hh3 rw'⟩
def dLs (f : Exp) : Exp := fun e s R E => f e s (fun d s1 => (∃ xs, d = .lst xs) ∧ R d s1) E
/-- l.index(x): the first one that is equal -/
def dIndex (fo fx : Exp) : Exp := fun e s R E => fo e s (fun d s1 => fx e s1 (fun x s2 => match d with
  | .lst xs => (x.eqOk = true ∧ (D.lst xs).eqOk = true) ∧ ∃ j z, xs[j]? = some z ∧ z.eqb x = true ∧ (∀ m z', m < j → xs[m]? = some z' → z'.eqb x = false) ∧ R (.int (j : Nat)) s2
  | _ => False) E) E
theorem pys_at {xs : List D} {j : Nat} : (D.pys xs)[j]? = (xs[j]?).map D.py := by rw [D.pys_map, List.getElem?_map]
theorem dx_index {apos : Pos} (hu : X.A.units + 65 < cLine) (ha : DX X T W a fa) (hb : DX X T W b fb)
    (hbase : attributeBase a "index" X.env (eval a X.env) = eval a X.env := by rfl)
    (hfew : ((backTo pos (starEach [b] X.env)).all (fun x => !x.1) && (backToKw pos (keywordEach [] X.env)).all (fun x => x.1.isSome)
      && decide (([b] : List Expr).length + ([] : List Keyword).length + (if ([] : List Keyword).isEmpty then 0 else 1) < 30)) = true := by rfl)
    (hline : (apos.endLine == pos.line) = true := by rfl) (hs : starEach [b] X.env = (false, eval b X.env) :: starEach [] X.env := by rfl) (hplain : (backTo pos (starEach [] X.env)).any (·.1) = false := by rfl) :
    DX X T W (.Call (.Attribute a "index" apos) [b] [] pos) (dIndex (dLs fa) fb) := ⟨pe_imp (pe_bm (T := "list") (id := "list.index") PySem.F.plainAttrs_list PySem.F.slot_list_index PySem.F.type_list_index (mt_indexD hu) ha.pe (pa_cons hb.pe pa_nil hs) hbase hfew hline hs hplain) fun σ H Q hq => by
  obtain ⟨F, e, s, R, E, he, hh, hx, hf, post⟩ := hq
  refine ⟨F, e, s, _, E, he, hh, hx, hf, fun d s1 v H1 F1 q x1 hh1 r1 => ?_⟩
  obtain ⟨⟨xs, rfl⟩, q⟩ := q
  cases r1 with | lst l rr =>
    refine ⟨.inl ⟨rfl, _, sql_frz l hh1.sub⟩, F1, e, s1, _, E, he.mono x1.same, hh1, hx.mono x1, q, fun y s2 vy H2 F2 q2 x2 hh2 r2 => ?_⟩
    obtain ⟨⟨h1, h2⟩, j, z, hj, hz, hno, q3⟩ := q2
    have r1' : Rep X.K T F2 (.lst xs) _ := .lst (x2.same _ _ l) (rr.mono x2.same)
    have dp := rep_dp hh2.sub r1' (eqOk_pl h2).1
    have e2 := (eqOk_pl h2).2
    rw [D.py] at dp e2
    refine ⟨_, vy, y.py, D.pys xs, j, z.py, rfl, rfl, dp, rep_dp hh2.sub r2 (eqOk_pl h1).1, e2, (eqOk_pl h1).2, ?_, hz, fun m z' hm hz' => ?_, ?_⟩
    · rw [pys_at, hj]; rfl
    · rw [pys_at] at hz'
      cases e5 : xs[m]? with
      | none => rw [e5] at hz'; cases hz'
      | some w =>
        rw [e5] at hz'
        cases hz'
        exact hno m w hm e5
    · exact post _ s2 _ H2 F2 q3 (x1.trans x2) hh2 (.int _)⟩
/-- a tuple some times -/
def oMulT : G2 := fun x y s R => match x, y with
  | .tup xs, .int k => (xs ≠ [] ∧ 1 ≤ k ∧ k ≤ 1000 ∧ xs.length ≤ 1000) ∧ R (.tup (repL xs k.toNat)) s
  | _, _ => False
theorem od_mulT : OpD X T (binaryOp .Mult) oMulT := .of (op_once.or op_repT) fun F s H x y vx vy R Q hh rx ry hg post => by
  unfold oMulT at hg
  split at hg
  · rename_i xs k
    obtain ⟨⟨h1, h2, h3, h4⟩, q⟩ := hg
    cases ry
    cases rx with | tup l1 r1 =>
      by_cases hk : k = 1
      · subst hk
        refine .inl ⟨_, _, rfl, rfl, sqt_mono hh.sub l1, ?_⟩
        have e : repL xs (1 : Int).toNat = xs := by rw [repL_flat]; simp
        rw [e] at q
        exact post _ s _ H F q Ext.refl hh (.tup l1 r1)
      · refine .inr ⟨_, _, _, rfl, rfl, sqt_mono hh.sub l1, fun z => h1 ?_, by omega, h3, by rw [← r1.length]; exact h4, fun p np => ?_⟩
        · subst z; cases r1; rfl
        · obtain ⟨a1, a2, a3⟩ := hh.frzT np (r1.rep _)
          exact post _ s _ _ _ q a2 a1 a3
  · exact hg.elim
end
end Bk

/-! Bk: drawn cells, known to have no dict of their own. -/
namespace Bk
open PySem PySem.Spec PyProof.Rows L2
def cellsP (cs : List (Str × Int)) : D := .pln (cs.map cellD)
theorem cellsP_unp (cs : List (Str × Int)) : (cellsP cs).unp = cellsD cs := rfl
def p_law_cellsP : Fn := pDr 16 (fun as => as = []) fun _ d => ∃ cs, d = cellsP cs ∧ CellsOk cs
abbrev N_law_cellsP : List Str := N_law_cells
def t_law_cellsP : DTS := (dSeq (dSet 1 (dCall 2 p_law_names (dCons (dVar 0) (dCons (dOp oAdd (dC (.int 1)) (dCall 2 p_law_next (dCons (dVar 0) (dCons (dC (.int 4)) dNil)))) dNil))))
  (dRet (dBlt cTupleP (dCons (dLc (dIter (dVar 1)) (gdName 2) dYes (dTup (dCons (dVar 2) (dCons (dOp oAdd (dC (.int 1)) (dCall 2 p_law_next (dCons (dVar 0) (dCons (dC (.int 3)) dNil)))) dNil))) [2]) dNil))))
theorem r_law_cellsP : ∀ ds s R E, ds.length = 1 → p_law_cellsP ds s R E → t_law_cellsP (fnEnds R E) (dstart N_law_cellsP ds) s := by
  rintro _ _ R E _ ⟨mu, p, m, _, rfl, rfl, hm, rfl, h⟩
  refine ⟨rfl, use_next (by omega) (by decide) (by decide) fun r h0 h1 => ⟨rfl, use_dr (by omega) ⟨(1 + r).toNat, by rw [Int.toNat_of_nonneg (by omega)], by omega⟩ fun d hd => ?_⟩⟩
  obtain ⟨ns, hl, rfl, hns, hnd, hlow⟩ := hd
  have hl' : (1 + r) = (ns.length : Nat) := by
    have e := List.cons.inj hl
    exact D.int.inj e.1
  intro hz
  refine ⟨hz, ?_⟩
  refine comp_inv (fun rest acc s => ∃ cs ns' m', acc = cs.map cellD ∧ rest = texts ns' ∧ s = ⟨mu, some (p, m')⟩ ∧ cs.map (·.1) ++ ns' = ns ∧ (∀ c ∈ cs, 1 ≤ c.2 ∧ c.2 ≤ 3) ∧ m - 16 + ns'.length ≤ m') ?_ ?_ _ _ _ ⟨[], ns, m - 1 - 11, rfl, rfl, rfl, rfl, fun c hc => (nomatch hc), by have := hns.2; omega⟩
  · rintro _ _ ⟨cs, ns', m', rfl, hr, rfl, hcs, hmo, hm'⟩
    have hr' : ns' = [] := by cases ns' with
      | nil => rfl
      | cons x r => cases hr
    subst hr'
    rw [List.append_nil] at hcs
    have hlen : cs.length = ns.length := by rw [← hcs, List.length_map]
    refine ⟨_, rfl, ⟨_, Sub.less (n := m - 16) (by simpa using hm'), h _ ⟨cs, rfl, ⟨fun c hc => hns.1 _ ?_, by omega, by rw [hlen]; exact hns.2, hmo, by rw [hcs]; exact hnd, fun c hc => hlow _ ?_⟩⟩⟩⟩ <;>
    (rw [← hcs]; exact List.mem_map.mpr ⟨c, hc, rfl⟩)
  · rintro d ds acc s K ⟨cs, ns', m', rfl, hr, rfl, hcs, hmo, hm'⟩ hK
    obtain ⟨x, r', rfl, rfl, rfl⟩ := texts_cons hr
    rw [List.length_cons] at hm'
    refine ⟨rfl, use_next (by omega) (by decide) (by decide) fun k k0 k1 => ⟨sz _ (show 2 ≤ _ by omega), hK _ _ ⟨cs ++ [(x, 1 + k)], r', m' - 1, ?_, rfl, rfl, ?_, ?_, by omega⟩⟩⟩
    · rw [List.map_append]; rfl
    · rw [List.map_append, List.append_assoc]; exact hcs
    · intro c hc
      rcases List.mem_append.mp hc with hc | hc
      · exact hmo c hc
      · have e : c = (x, 1 + k) := by simpa using hc
        subst e
        exact ⟨by show 1 ≤ 1 + k; omega, by show 1 + k ≤ 3; omega⟩
/-! the drawn program, its local name otherwise -/
abbrev N_law_programK : List Str := ["_law_m", "_law_cells_here", "_law_name", "_law_names_here", "_law_known_here", "_law_sets", "_law_looks_here", "_law_part", "_law_one", "_law_marks", "_law_level", "_law_when", "_law_cell", "_law_row"]
abbrev p_law_programK : Fn := p_law_program
abbrev t_law_programK : DTS := t_law_program
theorem r_law_programK : ∀ ds s R E, ds.length = 3 → p_law_programK ds s R E → t_law_programK (fnEnds R E) (dstart N_law_programK ds) s := r_law_program
end Bk

/-! Bk: zip of lists and tuples as they come. -/
namespace Bk
open PySem PySem.Spec PyProof.Rows L2

/-- b: a tuple, else a list -/
def SqB (K : PySem.W.Frag) (H : Hp) (b : Bool) (a : Addr) (xs : List V) : Prop := match b with
  | true => SqT K H a xs
  | false => SqL K H a xs
def ItB (h : Heap) (b : Bool) (it a : Addr) (i : Nat) : Prop := match b with
  | true => h.IsTupleIter it a i
  | false => h.IsListIter it a i
def SeqB (h : Heap) (b : Bool) (a : Addr) (items : Array Value) : Prop := match b with
  | true => h.IsTuple a items
  | false => h.IsList a items
def objB (b : Bool) (a : Addr) : Obj := match b with
  | true => { cls := .type "tuple_iterator", data := .fields #[.ref a, .int 0 0] }
  | false => { cls := .type "list_iterator", data := .fields #[.ref a, .int 0 0] }
theorem ItB.obj {h : Heap} {b : Bool} {it a : Addr} {i : Nat} (x : ItB h b it a i) : ∃ o fs, h.get? it = some o ∧ o.data = .fields fs ∧ (o.cls = .type "tuple_iterator" ∨ o.cls = .type "list_iterator") := by
  cases b with
  | true => obtain ⟨o, ho, hc, hd⟩ : h.IsTupleIter it a i := x; exact ⟨o, _, ho, hd, .inl hc⟩
  | false => obtain ⟨o, ho, hc, hd⟩ : h.IsListIter it a i := x; exact ⟨o, _, ho, hd, .inr hc⟩
theorem ItB.at {h h' : Heap} {b : Bool} {it a : Addr} {i : Nat} (x : ItB h b it a i) (k : ∀ o, h.get? it = some o → h'.get? it = some o) : ItB h' b it a i := by
  cases b with
  | true => exact Heap.IsTupleIter.at (show h.IsTupleIter it a i from x) k
  | false => exact Heap.IsListIter.at (show h.IsListIter it a i from x) k
theorem ItB.begun {h : Heap} {b : Bool} {it a : Addr} (x : h.get? it = some (objB b a)) : ItB h b it a 0 := by
  cases b with
  | true => exact (⟨_, x, rfl, rfl⟩ : h.IsTupleIter it a 0)
  | false => exact (⟨_, x, rfl, rfl⟩ : h.IsListIter it a 0)
theorem SeqB.at {h h' : Heap} {b : Bool} {a : Addr} {items : Array Value} (x : SeqB h b a items) (k : ∀ o, h.get? a = some o → h'.get? a = some o) : SeqB h' b a items := by
  cases b with
  | true => exact Heap.IsTuple.at (show h.IsTuple a items from x) k
  | false => exact Heap.IsList.at (show h.IsList a items from x) k
theorem SeqB.obj {h : Heap} {b : Bool} {a : Addr} {items : Array Value} (x : SeqB h b a items) : ∃ o n, h.get? a = some o ∧ o.data = .seq items n ∧ (o.cls = .type "tuple" ∨ o.cls = .type "list") := by
  cases b with
  | true => obtain ⟨o, ho, hc, n, hd⟩ : h.IsTuple a items := x; exact ⟨o, n, ho, hd, .inl hc⟩
  | false => obtain ⟨o, ho, hc, n, hd⟩ : h.IsList a items := x; exact ⟨o, n, ho, hd, .inr hc⟩
theorem SeqB.apart {h : Heap} {b c : Bool} {a it d : Addr} {i : Nat} {items : Array Value} (x : SeqB h b a items) (y : ItB h c it d i) : a ≠ it := fun z => by
  obtain ⟨o, n, h1, h2, _⟩ := x.obj
  obtain ⟨o', fs, h3, h4, _⟩ := y.obj
  rw [z, h3] at h1; cases h1
  rw [h2] at h4; cases h4
theorem beginsB (b : Bool) (a : Addr) (items : Array Value) : Begins (.ref a) (objB b a) fun h => SeqB h b a items := by
  cases b with
  | true => exact begins_tuple a items
  | false => exact begins_list a items
theorem drawsB {P : Program} {w : World} {A : Around} (hh : A.handled = none) (b : Bool) (it a : Addr) (ne : a ≠ it) (items : Array Value) : Draws P w A it [it, a] items.size (fun i v => items[i]? = some v) (fun i h => ItB h b it a i ∧ SeqB h b a items) := by
  cases b with
  | true => exact Draws.tuple hh it a ne items
  | false => exact Draws.list hh it a ne items
theorem drawsOut {P : Program} {w : World} {A : Around} (hh : A.handled = none) (b : Bool) (it a : Addr) (items : Array Value) (i : Nat) (hi : items.size ≤ i) : Draws P w A it [it, a] i (fun _ _ => False) (fun j h => j = i ∧ ItB h b it a i ∧ SeqB h b a items) where
  live := fun _ _ st => let ⟨o, _, ho, _⟩ := st.2.1.obj; ⟨o, ho⟩
  frame := fun _ _ _ st hk => ⟨st.1, st.2.1.at fun o e => hk it (by simp) o e, st.2.2.at fun o e => hk a (by simp) o e⟩
  item := fun j s Q E hj st _ => absurd st.1 (Nat.ne_of_lt hj)
  done := fun s Q E st hE => by
    have e : items[i]? = none := Array.getElem?_eq_none hi
    obtain ⟨_, h1, h2⟩ := st
    cases b with
    | true => exact wpAny_nextOf_tuple_end hh h1 h2 e hE
    | false => exact wpAny_nextOf_list_end hh h1 h2 e hE
theorem drawsAt {P : Program} {w : World} {A : Around} (hh : A.handled = none) (b : Bool) (it a : Addr) (ne : a ≠ it) (items : Array Value) (i : Nat) :
    ∃ n Pr St, Draws P w A it [it, a] n Pr St ∧ i ≤ n ∧ (items.size ≤ i → i = n) ∧ ∀ h, ItB h b it a i → SeqB h b a items → St i h := by
  by_cases hi : items.size ≤ i
  · exact ⟨i, _, _, drawsOut hh b it a items i hi, Nat.le_refl _, fun _ => rfl, fun h h1 h2 => ⟨rfl, h1, h2⟩⟩
  · exact ⟨_, _, _, drawsB hh b it a ne items, by omega, fun z => absurd z hi, fun h h1 h2 => ⟨h1, h2⟩⟩
section
variable {X : Cx} {pins : List (Addr × Obj)} {σ : L2.St} {H : Hp} {s : Shared} {a : Addr} {xs ys : List V} {b : Bool}
theorem sqb_is (I : L2.Inv X pins σ H s) (h : SqB X.K H b a xs) : ∃ its : List Value, Vals xs its ∧ SeqB s.heap b a its.toArray := by
  cases b with
  | true =>
    obtain ⟨its, r, p, _⟩ := I.tuple (show SqT X.K H a xs from h)
    exact ⟨its, r, p⟩
  | false =>
    obtain ⟨its, r, p, _⟩ := I.list (show SqL X.K H a xs from h)
    exact ⟨its, r, p.isList⟩
theorem sqb_inj (I : L2.Inv X pins σ H s) (h : SqB X.K H b a xs) (h' : SqB X.K H b a ys) : xs = ys := by
  cases b with
  | true => exact I.tuple_inj h h'
  | false => exact I.list_inj h h'
end
/-- the two as they stand at each turn, the items in new pairs -/
def ItzB (K : PySem.W.Frag) (b c : Bool) (a d : Addr) : It :=
  ⟨fun i H => ∃ (xs ys : List V) (x y : V), SqB K H b a xs ∧ SqB K H c d ys ∧ xs[i]? = some x ∧ ys[i]? = some y,
    fun i H v H' => ∃ t x y, v = .ref t ∧ H t = none ∧ H' = upd H t (.tup [x, y]) ∧ (∀ xs, SqB K H b a xs → xs[i]? = some x) ∧ ∀ ys, SqB K H c d ys → ys[i]? = some y,
    fun i H => ∃ xs ys : List V, SqB K H b a xs ∧ SqB K H c d ys ∧ (xs.length ≤ i ∨ ys.length ≤ i)⟩
theorem turn_zipB {P : Program} {w : World} {K : PySem.W.Frag} {elts : List Expr} {kk : Nat} {tpos : Pos} {b c : Bool} {a d z TI TO i1 i2 : Addr} (S : ZipSep2 z TI TO i1 i2 [i1, a] [i2, d]) :
    Turn P w K (.Tuple elts kk tpos) (ItzB K b c a d) [z, TI, TO, i1, i2] z (fun i h => IsZip h z TI TO .none ∧ IsTupOf2 h TI (.ref i1) (.ref i2) ∧ (∃ x y, IsTupOf2 h TO x y) ∧ ItB h b i1 a i ∧ ItB h c i2 d i) where
  mem := by simp
  obj := fun i h st q hq => by
    obtain ⟨hz, hTI, ⟨x, y, hTO⟩, h1, h2⟩ := st
    obtain ⟨o1, f1, e1, d1, _⟩ := h1.obj
    obtain ⟨o2, f2, e2, d2, _⟩ := h2.obj
    simp only [List.mem_cons, List.not_mem_nil, or_false] at hq
    rcases hq with rfl | rfl | rfl | rfl | rfl
    · exact ⟨_, hz, fun v e => nomatch e⟩
    · exact ⟨_, hTI, fun v e => nomatch e⟩
    · exact ⟨_, hTO, fun v e => nomatch e⟩
    · exact ⟨o1, e1, fun v e => by rw [d1] at e; cases e⟩
    · exact ⟨o2, e2, fun v e => by rw [d2] at e; cases e⟩
  keep := fun i h h' st k => by
    obtain ⟨hz, hTI, ⟨x, y, hTO⟩, h1, h2⟩ := st
    exact ⟨k z (by simp) _ hz, k TI (by simp) _ hTI, ⟨x, y, k TO (by simp) _ hTO⟩, h1.at fun o e => k i1 (by simp) o e, h2.at fun o e => k i2 (by simp) o e⟩
  item := by
    intro X hP hw hK hc i pins s σ H E I hf st hg
    subst hP hw hK
    obtain ⟨hz, hTI, ⟨x0, y0, hTO⟩, h1, h2⟩ := st
    obtain ⟨xs, ys, x, y, qx, qy, hx, hy⟩ := hg
    obtain ⟨its, rv, p1⟩ := sqb_is I qx
    obtain ⟨jts, rw', p2⟩ := sqb_is I qy
    obtain ⟨u, hu, ru⟩ := rv.get hx
    obtain ⟨v, hv, rv'⟩ := rw'.get hy
    have lz : z < s.heap.objs.size := Heap.lt_size hz
    have hh : X.A.in1.handled = none := I.ok.hd hc
    have l1 : i < its.toArray.size := by simpa using (List.getElem?_eq_some_iff.mp hu).1
    have l2 : i < jts.toArray.size := by simpa using (List.getElem?_eq_some_iff.mp hv).1
    refine wpAny_pyNext_zipD2_item S (drawsB hh b i1 a (p1.apart h1) its.toArray) (drawsB hh c i2 d (p2.apart h2) jts.toArray) hz hTI hTO ⟨h1, p1⟩ ⟨h2, p2⟩ l1 l2 fun g1 g2 hN tk e1 e2 hzN hTON st1 st2 hT hsz hk => ?_
    have eu : g1 = u := by
      have e1' : its.toArray[i]? = some g1 := e1
      rw [List.getElem?_toArray, hu] at e1'
      exact (Option.some.inj e1').symm
    have ev : g2 = v := by
      have e2' : jts.toArray[i]? = some g2 := e2
      rw [List.getElem?_toArray, hv] at e2'
      exact (Option.some.inj e2').symm
    subst eu ev
    refine ⟨_, rfl, wpAny_letOwnedTupleGo_zip (s := { s with heap := hN, toks := tk }) hzN fun hM hzM sb => ?_⟩
    have hT2 : hM.get? s.heap.objs.size = some { cls := .type "tuple", data := .seq #[g1, g2] } := (sb.2 _ (Nat.ne_of_gt lz)).trans hT
    have new : ObjOk X.prog X.w (upd H s.heap.objs.size (.tup [x, y])) hM s.heap.objs.size (.tup [x, y]) :=
      ⟨by show 2 ≤ sizeLine; decide, [g1, g2], .cons ru (.cons rv' .nil), ⟨_, hT2, rfl, _, rfl⟩⟩
    have J : L2.Inv X pins σ (upd H s.heap.objs.size (.tup [x, y])) { s with heap := hM, toks := tk } :=
      I.turnedNew (ch := [z, TI, TO, i1, i2]) (fun q o nq e => (sb.2 q (fun w => nq (by simp [w]))).trans (hk q o (fun w => nq (by simp [w])) (fun w => nq (by simp [w])) (fun w => nq (by simp [w])) (fun w => nq (by simp [w])) e)) hf (Nat.le_refl _) new
    refine ⟨.ref s.heap.objs.size, _, J, rfl, ⟨_, x, y, rfl, I.hok.fresh (Nat.le_refl _), rfl, fun l hl => by rw [sqb_inj I hl qx]; exact hx, fun l hl => by rw [sqb_inj I hl qy]; exact hy⟩, ⟨hzM, ?_, ⟨g1, g2, ?_⟩, ?_, ?_⟩, fun q hq => ?_⟩
    · exact (sb.2 _ S.TIz).trans (hk _ _ S.TIz S.TITO S.TIi1 S.TIi2 hTI)
    · exact (sb.2 _ S.TOz).trans hTON
    · exact st1.1.at fun o e => (sb.2 _ (Ne.symm S.zi1)).trans e
    · exact st2.1.at fun o e => (sb.2 _ (Ne.symm S.zi2)).trans e
    · have hlt : q < s.heap.objs.size := by
        obtain ⟨_, _, e1, _⟩ := h1.obj
        obtain ⟨_, _, e2, _⟩ := h2.obj
        simp only [List.mem_cons, List.not_mem_nil, or_false] at hq
        rcases hq with rfl | rfl | rfl | rfl | rfl
        · exact lz
        · exact Heap.lt_size hTI
        · exact Heap.lt_size hTO
        · exact Heap.lt_size e1
        · exact Heap.lt_size e2
      rw [upd_ne (Nat.ne_of_lt hlt)]
      exact (hf q hq).1
  done := by
    intro X hP hw hK hc i pins s σ H E I hf st hg
    subst hP hw hK
    obtain ⟨hz, hTI, ⟨x0, y0, hTO⟩, h1, h2⟩ := st
    obtain ⟨xs, ys, qx, qy, hend⟩ := hg
    obtain ⟨its, rv, p1⟩ := sqb_is I qx
    obtain ⟨jts, rw', p2⟩ := sqb_is I qy
    have l1 := rv.length
    have l2 := rw'.length
    have hh : X.A.in1.handled = none := I.ok.hd hc
    obtain ⟨n1, P1, S1, D1, le1, en1, st1⟩ := drawsAt (P := X.prog) (w := X.w) hh b i1 a (p1.apart h1) its.toArray i
    obtain ⟨n2, P2, S2, D2, le2, en2, st2⟩ := drawsAt (P := X.prog) (w := X.w) hh c i2 d (p2.apart h2) jts.toArray i
    refine wpAny_pyNext_zipD2_end S D1 D2 hz hTI hTO (st1 _ h1 p1) (st2 _ h2 p2) le1 le2 ?_ fun hN tk hk => ⟨rfl, I.turnedL (ch := [z, TI, TO, i1, i2]) (fun q o nq e =>
      hk q o (fun w => nq (by simp [w])) (fun w => nq (by simp [w])) (fun w => nq (by simp [w])) (fun w => nq (by simp [w])) e) hf⟩
    rcases hend with q | q
    · exact .inl (en1 (by simp; omega))
    · exact .inr (en2 (by simp; omega))
  self := fun A i s Q E st h => wpAny_pyIter_zip st.1 h
def iZipB (K : PySem.W.Frag) (ta : TA) : TI := fun σ H R => ta σ H fun vs H1 => ∃ b c a d xs ys, vs = [.ref a, .ref d] ∧ SqB K H1 b a xs ∧ SqB K H1 c d ys ∧ R (ItzB K b c a d) H1
theorem pi_zipB {X : Cx} {e e2 : Expr} {ta : TA} {p pos tpos : Pos} {elts : List Expr} {kk : Nat} (hg : Gl X "zip") (hm : X.mg "zip" = none) (ha : PA X [e, e2] ta)
    (hs : starEach [e, e2] X.env = (false, eval e X.env) :: starEach [e2] X.env := by rfl) (hpl : (backTo pos (starEach [e2] X.env)).any (·.1) = false := by rfl) :
    PI X (.Tuple elts kk tpos) (.Call (.Name "zip" p) [e, e2] [] pos) (iZipB X.K ta) := by
  refine ⟨fun pins s σ H R I h => Call_ (ld_blt I hg hm PyProof.Rows.boot_zip (PyProof.Rows.callWith_type1 (thn (ha.run pos pins s σ H _ I h) fun us s1 ⟨vs, H1, J, r1, q1⟩ => ?_) hs hpl))⟩
  obtain ⟨b, c, a, d, xs, ys, ex, qx, qy, q⟩ := q1
  subst ex
  cases r1 with
  | cons r rr =>
    cases rr with
    | cons r' rr =>
      cases rr
      cases r
      cases r'
      obtain ⟨its, _, p1⟩ := sqb_is J qx
      obtain ⟨jts, _, p2⟩ := sqb_is J qy
      obtain ⟨_, _, o1, _⟩ := p1.obj
      obtain ⟨_, _, o2, _⟩ := p2.obj
      have la := Heap.lt_size o1
      have ld := Heap.lt_size o2
      refine zip_begins2 (beginsB b a its.toArray) (beginsB c d jts.toArray) p1 p2 fun h' hz hTI hTO g1 g2 hsz hk => wpAny_pyIter_zip hz ?_
      have J2 : L2.Inv X pins σ H1 { s1 with heap := h' } := J.kept (t' := s1.toks) hk
      refine ⟨s1.heap.objs.size + 4, [s1.heap.objs.size + 4, s1.heap.objs.size + 2, s1.heap.objs.size + 3, s1.heap.objs.size, s1.heap.objs.size + 1], _, _, H1, rfl, J2,
        turn_zipB (zip_sep2 (N := s1.heap.objs.size) (fp1 := [a]) (fp2 := [d]) (fun q hq => by rw [List.mem_singleton.mp hq]; exact la) (fun q hq => by rw [List.mem_singleton.mp hq]; exact ld)), ⟨hz, hTI, ⟨_, _, hTO⟩, .begun g1, .begun g2⟩, fun q hq => ?_, q⟩
      have le : s1.heap.objs.size ≤ q := by
        simp only [List.mem_cons, List.not_mem_nil, or_false] at hq
        rcases hq with rfl | rfl | rfl | rfl | rfl
        · exact Nat.le_add_right _ _
        · exact Nat.le_add_right _ _
        · exact Nat.le_add_right _ _
        · exact Nat.le_refl _
        · exact Nat.le_add_right _ _
      exact J.fpOk le (J.hok.fresh le)
section
variable {K : PySem.W.Frag} {T : Tb} {F : Hp}
theorem sqb_mono {F F' : Hp} {b : Bool} {a : Addr} {xs : List V} (e : Same F F') (h : SqB K F b a xs) : SqB K F' b a xs := by
  cases b with
  | true => exact sqt_mono e h
  | false => exact e.seq h
theorem itd_zipB {b c : Bool} {a d : Addr} {xs ys : List V} {ds es : List D} (h : SqB K F b a xs) (r : Reps K T F ds xs) (h' : SqB K F c d ys) (r' : Reps K T F es ys) : ItD K T F (ItzB K b c a d) (zipD ds es) := fun F' s' H' e hh => by
  have q1 := sqb_mono hh.sub (sqb_mono e h)
  have q2 := sqb_mono hh.sub (sqb_mono e h')
  refine ⟨fun i hi => ⟨xs, ys, q1, q2, by rw [zipD_len] at hi; rw [← r.length, ← r'.length]; omega⟩, fun i z hd => ?_⟩
  obtain ⟨x, y, hx, hy, rfl⟩ := zipD_get hd
  obtain ⟨vx, hvx, rx⟩ := r.getD hx
  obtain ⟨vy, hvy, ry⟩ := r'.getD hy
  refine ⟨⟨xs, ys, vx, vy, q1, q2, hvx, hvy⟩, fun v' H2 q => ?_⟩
  obtain ⟨t, x1, y1, rfl, nt, rfl, w1, w2⟩ := q
  have e1 := w1 xs q1
  have e2 := w2 ys q2
  rw [hvx] at e1; rw [hvy] at e2; cases e1; cases e2
  exact new_pair hh nt (rx.mono e) (ry.mono e)
/-- what a list, a tuple has -/
def seqD : D → Option (List D)
  | .lst xs => some xs
  | .tup xs => some xs
  | .pln xs => some xs
  | _ => none
theorem Rep.sqb {d : D} {v : V} {ds : List D} (r : Rep K T F d v) (h : seqD d = some ds) : ∃ b a xs, v = .ref a ∧ SqB K F b a xs ∧ Reps K T F ds xs := by
  cases r with
  | lst l r => cases h; exact ⟨false, _, _, rfl, .inl (.inl l), r⟩
  | tup l r => cases h; exact ⟨true, _, _, rfl, l, r⟩
  | pln l _ r => cases h; exact ⟨true, _, _, rfl, .inl (.inr ⟨_, l⟩), r⟩
  | _ => exact (nomatch (show (none : Option (List D)) = some ds from h))
end
/-- zip(xs, ys), each a list or a tuple -/
def dZipB (r : Arg) : Arg := fun e s R E => r e s (fun ds s1 => match ds with
  | [x, y] => ∃ xs ys, seqD x = some xs ∧ seqD y = some ys ∧ R (zipD xs ys) s1
  | _ => False) E
section
variable {X : Cx} {T : Tb} {W : WX} {a b : Expr} {r : Arg} {p pos tpos : Pos} {elts : List Expr} {kk : Nat}
theorem di_zipB (hg : Gl X "zip") (hm : X.mg "zip" = none) (ha : DA X T W [a, b] r)
    (hs : starEach [a, b] X.env = (false, eval a X.env) :: starEach [b] X.env := by rfl) (hpl : (backTo pos (starEach [b] X.env)).any (·.1) = false := by rfl) : DI X T W (.Tuple elts kk tpos) (.Call (.Name "zip" p) [a, b] [] pos) (dZipB r) := by
  refine ⟨⟨fun pins s σ H R I hR => (pi_zipB hg hm ha.pa hs hpl).run pins s σ H R I ?_⟩⟩
  obtain ⟨F, e, s0, RR, E, he, hh, hx, hf, k⟩ := hR
  refine ⟨F, e, s0, _, E, he, hh, hx, hf, fun ds s1 vs H1 F1 q x hh1 rs => ?_⟩
  split at q
  · obtain ⟨v, w, rfl, r1, r2⟩ := rs.two
    obtain ⟨xs, ys, h1, h2, q⟩ := q
    obtain ⟨b1, a1, ws, rfl, l1, rr1⟩ := r1.sqb h1
    obtain ⟨b2, a2, zs, rfl, l2, rr2⟩ := r2.sqb h2
    exact ⟨b1, b2, a1, a2, ws, zs, rfl, sqb_mono hh1.sub l1, sqb_mono hh1.sub l2, k _ s1 _ H1 F1 q x hh1 (itd_zipB l1 rr1 l2 rr2)⟩
  · exact q.elim
end
end Bk
namespace Bk
open PySem PySem.Spec PyProof.Rows L2
/-- {} -/
def dDict0M : Exp := fun _ s R _ => ∀ p, s.mu p = none → R (.rf (.ref p)) (s.put p (.mk []))
theorem dx_dict0M {X : Cx} {T : Tb} {W : WX} {pos : Pos} : DX X T W (.Dict [] [] pos) dDict0M := ⟨pe_imp pe_dnewK fun σ H Q hq p np => by
  obtain ⟨F, e, s, R, E, he, hh, hx, hf, post⟩ := hq
  obtain ⟨a1, a2, a3⟩ := hh.beginO (o := .dK []) np
  have b := a1.takeK (p := p) upd_same a3 (.nil (K := X.K) (T := T) (F := F))
  have b2 := a2.takeK (m := .mk []) (o := .dK []) np a3
  have e1 : upd (upd H p (.dK [])) p (.dK []) = upd H p (.dK []) := by
    funext z
    by_cases hz : z = p
    · subst hz; rw [upd_same, upd_same]
    · rw [upd_ne hz, upd_ne hz]
  rw [e1] at b b2
  exact post _ _ _ _ F (hf p (hh.freshM np)) b2 b (.rf _)⟩
end Bk

/-! Bk: the goal that k_head leaves, from the promise of the law's def. -/
namespace Bk
open PySem PySem.Spec PyProof.Rows L2
theorem spD_start {cl : Str → Addr} {K : PySem.W.Frag} {phi : Fn} {H : Hp} {a : Addr} {ns : List Int} {cs : List (Addr × Addr)} {TT : List (Addr × Str)} (hH : ∀ p ∈ cs, H p.2 = some (.tbl #[])) (hT : ∀ b ps, H b = some (.tbl ps) → b ∈ cs.map (·.2)) (hTT : ∀ p ∈ TT, p.1 ∈ cs.map (·.2)) (ha : a ∉ cs.map (·.2))
    (hS : SqL K H a (ns.map V.int)) (h : phi [.scr ns] ⟨fun _ => none, none⟩ (fun d _ => d = .bl true) fun _ _ => False) :
    spD K ⟨TT, cl⟩ 1 phi [.ref a] H (fun v _ => v = .bl true) fun _ _ _ => False := by
  let F : Hp := fun b => if b ∈ cs.map (·.2) then none else H b
  have fa : F a = H a := if_neg ha
  have sm : Same F H := fun b x e => by
    by_cases hb : b ∈ cs.map (·.2)
    · have e' : (if b ∈ cs.map (·.2) then none else H b) = some x := e
      rw [if_pos hb] at e'; cases e'
    · have e' : (if b ∈ cs.map (·.2) then none else H b) = some x := e
      rwa [if_neg hb] at e'
  have hF : SqL K F a (ns.map V.int) := by
    rcases hS with (z | ⟨o, z⟩) | z
    · exact .inl (.inl (fa.trans z))
    · exact .inl (.inr ⟨o, fa.trans z⟩)
    · exact .inr z
  refine ⟨F, ⟨fun _ => none, none⟩, [.scr ns], fun d _ => d = .bl true, fun _ _ => False, rfl, .cons (.scr hF) .nil, ⟨sm, fun p o e => (nomatch e), fun p n e => (nomatch e), fun x hx => ?_, fun b ps z => ?_⟩, fun _ _ _ _ _ _ q => q.elim, h, ?_⟩
  · obtain ⟨p, hp, e⟩ := List.mem_map.mp (hTT x hx)
    exact LamX.TabS.nil (by rw [← e]; exact hH p hp)
  · have z' := sm _ _ z
    have hb := hT b ps z'
    have z2 : (if b ∈ cs.map (·.2) then none else H b) = some (.tbl ps) := z
    rw [if_pos hb] at z2; cases z2
  · rintro d s' v H' F' rfl _ _ r
    cases r
    rfl
/-- what the head gives of the tables -/
def TabF (q : Program) (K : PySem.W.Frag) (h : Heap) : Prop := ∀ (x : Str) (c P : Addr), ((recsOf q).find? fun e => e.name == x).isSome = true → PySem.W.tabIn K x = some (c, P) → PySem.W.CodeHd h c P ∧ h.get? P = some { cls := .none, data := .fields #[] }
theorem walk_ofD {l : PySem.W.OpenLaw} {n k : Nat} {q : Program} {loose : List Str} {XP : (Str → Option Value) → Heap → Prop} {YP : World → Heap → Prop} {d : DefRec} {K : Params → PySem.W.Frag} {cl : World → (Str → Option Value) → Str → Addr} {phi : Fn} {x : Str}
    (hn : l.most = some n) (hn2 : n ≤ sizeLine) (hdf : d.params.defaults = []) (hr : Room k callerA) (hY : ∀ (w : World) (h : Heap), YP w h → (K w.params).In h) (himp : importsNone q = true)
    (F : ∀ (w : World) (mg : Str → Option Value) (fa : Addr) (h : Heap), (K w.params).In h → h.Ns mainGlobals mg → mg d.name = some (.ref fa) → TabF q (K w.params) h →
      ∃ (fd : FuncData) (cs : List (Addr × Addr)) (TT : List (Addr × Str)), (∀ p ∈ cs, h.get? p.2 = some { cls := .none, data := .fields #[] } ∧ (K w.params).lookup p.2 = none ∧ PySem.W.CodeHd h p.1 p.2) ∧ (∀ p ∈ TT, p.1 ∈ cs.map (·.2)) ∧ (∀ (s : Shared) (u : Value), BindsTo s fd ⟨[u], []⟩ [(x, u)]) ∧
        ∀ base : Heap, (K w.params).In base → base.Ns mainGlobals mg → (∀ p ∈ cs, LamX.TabB base mg p.1 p.2) → (∃ mm, base.Ns sysModules mm) → GFn l.prog w (K w.params) mg base k fa fd [x] (spD (K w.params) ⟨TT, cl w mg⟩ 1 phi))
    (hphi : ∀ (ns : List Int) (R : Q1) (E : XQ), ns.length ≤ n → (∀ s', R (.bl true) s') → phi [.scr ns] ⟨fun _ => none, none⟩ R E) :
    PySem.W.WalkO q loose XP YP l.row.toRowW d [] (fun f vs => PySem.call f vs) := by
  refine Att.attach_call hn hdf fun w s₀ s₁ mg mb fa o pm cd doc a vs ns G Y ho hd hcd hmg hobj hints hlen hg => ?_
  have KX := hY w _ Y
  have tabF : TabF q (K w.params) s₁.heap := fun x c P hx ht => by
    cases e : (recsOf q).find? fun e => e.name == x with
    | none => rw [e] at hx; cases hx
    | some d' => exact PySem.W.tab_of G.T KX e ht
  obtain ⟨fd, cs, TT, hcs, hTT, hb, hF⟩ := F w mg fa _ KX G.T.g hmg tabF
  have S : Start (K w.params) mg mb cs s₁ := ⟨KX, G.T.g, G.T.b, G.T.builtins, G.T.nolimit, (let ⟨mm, z, _⟩ := (G.T.seer himp).mods; ⟨mm, z⟩), hg, fun p hp => (hcs p hp).1, fun p hp => (hcs p hp).2.1, fun p hp => (hcs p hp).2.2, fun _ => G.T.bmain⟩
  have rv := vals_ints hints
  have lenV := hints.length
  have hl : ns.length ≤ sizeLine := Nat.le_trans hlen hn2
  have aT : a ∉ cs.map (·.2) := fun z => by
    obtain ⟨p, hp, e⟩ := List.mem_map.mp z
    have q := (hcs p hp).1
    rw [e, hobj] at q
    cases q
  have memT : ∀ p ∈ cs, p.2 ∈ cs.map (·.2) := fun p hp => List.mem_map.mpr ⟨p, hp, rfl⟩
  have isT : ∀ b ∈ cs.map (·.2), s₁.heap.get? b = some { cls := .none, data := .fields #[] } := fun b hb => by
    obtain ⟨p, hp, e⟩ := List.mem_map.mp hb
    rw [← e]; exact (hcs p hp).1
  have hsp : ∀ H : Hp, (∀ p ∈ cs, H p.2 = some (.tbl #[])) → (∀ b ps, H b = some (.tbl ps) → b ∈ cs.map (·.2)) → SqL (K w.params) H a (ns.map V.int) → spD (K w.params) ⟨TT, cl w mg⟩ 1 phi [.ref a] H (fun v _ => v = .bl true) fun _ _ _ => False := fun H h1 h2 hS => spD_start h1 h2 hTT aT hS (hphi ns _ _ hlen fun _ => rfl)
  cases hk : (K w.params).lookup a with
  | some o =>
    have e := KX a o hk
    rw [hobj] at e
    cases e
    have e1 : ∀ b, H0 cs none b = if b ∈ cs.map (·.2) then some (.tbl #[]) else none := fun _ => rfl
    have hS : SqL (K w.params) (H0 cs none) a (ns.map V.int) := .inr ⟨_, vs.toArray, _, hk, rfl, rfl, rfl, by rw [List.size_toArray, lenV]; exact hl, by simpa using rv⟩
    refine run_start (its := vs) (H := H0 cs none) S hobj (fun b z => ?_) (fun p hp => by rw [e1, if_pos (memT p hp)]) (fun b nb z => ?_) (fun z => ?_) hS (fun b u z => ?_) hr (fun base h1 h2 h3 h4 => hF base h1 h2 h3 h4) hb (hsp _ (fun p hp => by rw [e1, if_pos (memT p hp)]) (fun b ps z => ?_) hS)
    · by_cases hb : b ∈ cs.map (·.2)
      · exact .inr hb
      · exact absurd (by rw [e1, if_neg hb]) z
    · exact absurd (by rw [e1, if_neg nb]) z
    · exact absurd (by rw [e1, if_neg aT]) z
    · by_cases hb : b ∈ cs.map (·.2)
      · rw [e1, if_pos hb] at z
        cases z
        exact isT b hb
      · rw [e1, if_neg hb] at z; cases z
    · by_cases hb : b ∈ cs.map (·.2)
      · exact hb
      · rw [e1, if_neg hb] at z; cases z
  | none =>
    have e1 : ∀ b, H0 cs (some (a, .frz { cls := .type "list", data := .seq vs.toArray } (.lst (ns.map V.int)))) b = if b ∈ cs.map (·.2) then some (.tbl #[]) else if b = a then some (.frz { cls := .type "list", data := .seq vs.toArray } (.lst (ns.map V.int))) else none := fun _ => rfl
    have hS : SqL (K w.params) (H0 cs (some (a, .frz { cls := .type "list", data := .seq vs.toArray } (.lst (ns.map V.int))))) a (ns.map V.int) := .inl (.inr ⟨{ cls := .type "list", data := .seq vs.toArray }, by rw [e1, if_neg aT, if_pos rfl]⟩)
    refine run_start (its := vs) (H := H0 cs (some (a, .frz { cls := .type "list", data := .seq vs.toArray } (.lst (ns.map V.int))))) S hobj (fun b z => ?_) (fun p hp => by rw [e1, if_pos (memT p hp)]) (fun b nb z => ?_) (fun _ => hk) hS (fun b u z => ?_) hr (fun base h1 h2 h3 h4 => hF base h1 h2 h3 h4) hb (hsp _ (fun p hp => by rw [e1, if_pos (memT p hp)]) (fun b ps z => ?_) hS)
    · by_cases hb : b ∈ cs.map (·.2)
      · exact .inr hb
      · by_cases hb2 : b = a
        · exact .inl hb2
        · exact absurd (by rw [e1, if_neg hb, if_neg hb2]) z
    · by_cases hb2 : b = a
      · exact ⟨_, _, by rw [e1, if_neg nb, if_pos hb2]⟩
      · exact absurd (by rw [e1, if_neg nb, if_neg hb2]) z
    · by_cases hb : b ∈ cs.map (·.2)
      · rw [e1, if_pos hb] at z
        cases z
        exact isT b hb
      · rw [e1, if_neg hb] at z
        by_cases hb2 : b = a
        · rw [if_pos hb2] at z
          cases z
          subst hb2
          exact ⟨hobj, by rw [List.length_map]; exact hl, vs, _, rv, hobj⟩
        · rw [if_neg hb2] at z; cases z
    · by_cases hb : b ∈ cs.map (·.2)
      · exact hb
      · rw [e1, if_neg hb] at z
        by_cases hb2 : b = a
        · rw [if_pos hb2] at z; cases z
        · rw [if_neg hb2] at z; cases z
end Bk

/-! Bk: an own exception whose __init__ says super().__init__(text) and stores one field: made. -/
namespace Bk
open PySem PySem.Spec PyProof.Rows L2

/-- the three built-in bases -/
structure BaseX (B newId initId : String) (bmB : List Value) : Prop where
  fb : ExcBaseFacts B newId initId bmB
  kf : PySem.W.KxsFacts B initId
  sf : StoreFacts B bmB "object.__setattr__" "object"
theorem base_value : BaseX "ValueError" "ValueError.__new__" "ValueError.__init__" [.type "ValueError", .type "Exception", .type "BaseException", .type "object"] := ⟨PySem.F.excBase_ValueError, PySem.W.kxs_ValueError, PySem.F.store_ValueError⟩
theorem base_lookup : BaseX "LookupError" "LookupError.__new__" "LookupError.__init__" [.type "LookupError", .type "Exception", .type "BaseException", .type "object"] := ⟨PySem.F.excBase_LookupError, PySem.W.kxs_LookupError, PySem.F.store_LookupError⟩
theorem base_over : BaseX "OverflowError" "OverflowError.__new__" "OverflowError.__init__" [.type "OverflowError", .type "ArithmeticError", .type "Exception", .type "BaseException", .type "object"] := ⟨PySem.F.excBase_OverflowError, PySem.W.kxs_OverflowError, PySem.F.store_OverflowError⟩
/-- the def of such an __init__ -/
structure InitS (params : Arguments) (bd : List Stmt) (scope : Scope) (f y : Str) : Prop where
  body : ∃ (p0 p1 p2 p3 p4 p5 p6 p7 p8 p9 : Pos) (txt : Str) (j : Nat), bd = [.Expr (.Call (.Attribute (.Call (.Name "super" p0) [] [] p1) "__init__" p2) [.Constant (.str txt) j p3] [] p4) p5, .Assign [.Attribute (.Name "self" p6) f p7] (.Name y p8) p9] ∧
    ∀ (q : Str) (L a cc : Addr) (cd : Value), ∃ pl : Sem Bool, eval (.Call (.Attribute (.Call (.Name "super" p0) [] [] p1) "__init__" p2) [.Constant (.str txt) j p3] [] p4) (PySem.W.ksEnv q scope L a cd cc) = (do
      let ov ← attributeBase (.Call (.Name "super" p0) [] [] p1) "__init__" (PySem.W.ksEnv q scope L a cd cc) (eval (.Call (.Name "super" p0) [] [] p1) (PySem.W.ksEnv q scope L a cd cc))
      standAt p2.atName
      let (f, first) ← holding [ov] (getMethod ov "__init__" pl)
      callWith p4 f first (backTo p4 (starEach [.Constant (.str txt) j p3] (PySem.W.ksEnv q scope L a cd cc))) []) ∧
      interactive (PySem.W.ksEnv q scope L a cd cc) = false ∧ swapsWith (.Call (.Attribute (.Call (.Name "super" p0) [] [] p1) "__init__" p2) [.Constant (.str txt) j p3] [] p4) none p5.line (PySem.W.ksEnv q scope L a cd cc) = pure false ∧
      swapsWith (.Name y p8) (some (.Attribute (.Name "self" p6) f p7)) p9.line (PySem.W.ksEnv q scope L a cd cc) = pure false
  first : ∃ ar, (params.posonlyargs ++ params.args).head? = some ar ∧ ar.arg = "self"
  bind : ∀ (q : Str) (kV doc pm cdv ct : Value) (an : Option Addr) (cc : Addr) (a b : Value), bindArgs (PySem.W.ksFn "__init__" q params bd scope .none kV doc pm an cdv ct cc) ⟨[a, b], []⟩ = pure [(("self" : Str), a), (y, b)]
  hks : scope.names.lookup ("super" : Str) = some .globalImplicit
  hkc : scope.names.lookup ("__class__" : Str) = some .free
  hka : scope.names.lookup ("self" : Str) = some .local
  hky : scope.names.lookup y = some .local
  hkd : (y == ("__debug__" : Str)) = false
  hne : (y == ("self" : Str)) = false
  cell : ∀ x ∈ scope.names, x.2 ≠ .cell
  co : scope.isCoroutine = false
  gen : scope.isGenerator = false
  kind : scope.kind = .function
/-- what the written part says of the class at C -/
structure ExcT (P : Program) (K : PySem.W.Frag) (C : Addr) (f : Str) : Prop where
  base : ∃ B newId initId bmB, BaseX B newId initId bmB ∧ PySem.W.excInitIn K C bmB newId = true ∧ PySem.W.excOver K C bmB = true ∧ PySem.W.subIn K (.ref C) (.type B) = some true ∧ PySem.W.ks_superIn K C C "__init__" = some (some (.builtin initId))
  sa : PySem.W.findIn K (.ref C) "__setattr__" = some (some (.builtin "object.__setattr__"))
  tk : PySem.W.takerIn K C f = some none
  hd : PySem.W.hasDictIn K C = true
  mro : PySem.W.mroIn K C (.ref C) = some true
  sup : PySem.W.nsIn K mainGlobals "super" = some none
  tp : PySem.W.nsIn K cStatics "thirdparty.any" = some none
  top : (P.main.scope.names.lookup ("super" : Str)).isSome = false
  fn : ∃ (fI cda cc : Addr) (qual y : Str) (params : Arguments) (body : List Stmt) (scope : Scope) (kV doc pm ct oc : Value) (an od : Option Addr) (osl : Array (Option Value)) (ccl cl : Value) (cdd cld : Option Addr) (ccs csl : Array (Option Value)) (vs : Array Value) (file : Str) (tf : Tok),
    PySem.W.findIn K (.ref C) "__init__" = some (some (.ref fI)) ∧ PySem.W.isFn K (.ref fI) = true ∧ K.lookup fI = some ⟨oc, od, .func (PySem.W.ksFn "__init__" qual params body scope .none kV doc pm an (.ref cda) ct cc), osl⟩ ∧
    PySem.W.codeIn K (.ref cda) qual = true ∧ K.lookup cda = some ⟨ccl, cdd, .fields vs, ccs⟩ ∧ vs[2]? = some (.str file tf) ∧ ((P.main.file : Str) == file) = true ∧ K.lookup cc = some ⟨cl, cld, .cell (some (.ref C)), csl⟩ ∧ InitS params body scope f y

section
open PySem.W PySem.Calls
variable {P : Program} {w : World} {A : Around} {E : Value → Shared → Prop} {s : Shared} {K : Frag} {mg mb : Str → Option Value} {C : Addr} {f : Str} {v : Value} {Q : Value → Shared → Prop}
theorem exc_made (T : ExcT P K C f) (X : K.In s.heap) (G : s.heap.Ns mainGlobals mg) (Bn : s.heap.Ns builtinsNs mb) (boot : ∀ y : Str, y ≠ "__name__" → mb y = bootBuiltins y) (lim : s.heap.NoLimit) (room : (A.under (.builtin "type.__call__" ⟨[.ref C, v], []⟩)).depth < recursionLimit)
    (h : ∀ h' e dx t tk, (∀ b o, s.heap.get? b = some o → h'.get? b = some o) → s.heap.objs.size ≤ e → s.heap.objs.size ≤ dx → dx ≠ e → h'.get? e = some (excObj C t (some dx) .none) → h'.Ns1 dx (fun y => if y = f then some v else none) → Q (.ref e) { s with heap := h', toks := tk }) :
    wpAny (model P w) A (call (.ref C) [v]) Q E s := by
  obtain ⟨B, newId, initId, bmB, BX, hI, hO, hB, hS⟩ := T.base
  obtain ⟨fI, cda, cc, qual, y, params, body, scope, kV, doc, pm, ct, oc, an, od, osl, ccl, cl, cdd, cld, ccs, csl, vs, file, tf, hfi, hfn, hlk, hcd, hcda, hvs, hfile, hcell, IS⟩ := T.fn
  obtain ⟨nm, N', qn, bs, bm, hdct, sn, sub, ab, col, dd, k0, k1, k2, k3, k5, hC, hT⟩ := excInit_of X hI
  obtain ⟨hh, g, d, tk, os⟩ := s
  have hoI := X _ _ hlk
  have hi' : Looks (model P w) hh (typeLookup (.ref C) "__init__") (some (.ref fI)) := looks_findIn X hfi
  have hcI : oc = .type "function" := by
    have e : (K.lookup fI).map (·.cls) = some (.type "function") := beq_iff_eq.mp hfn
    rw [hlk] at e
    exact Option.some.inj e
  subst hcI
  refine wpAny_call (PX.call_own BX.fb hT hC hi' (fun self => exc_bind hoI rfl self) (by rw [sizeLine_eq]; exact (by decide : 1 ≤ 16777216)) ?_)
  -- the object and its args are laid
  have lt : ∀ {b o}, hh.get? b = some o → b < hh.objs.size := fun e => Heap.lt_size e
  generalize hG2 : (hh.push (kdv_tup [v])).push (PX.excO C hh.objs.size) = h2
  have k2' : ∀ b o, hh.get? b = some o → h2.get? b = some o := fun b o e => by rw [← hG2]; exact Heap.get?_push_of_some _ (Heap.get?_push_of_some _ e)
  have sz2 : h2.objs.size = hh.objs.size + 2 := by rw [← hG2, Heap.size_push, Heap.size_push]
  have e2 : h2.get? (hh.objs.size + 1) = some (excObj C hh.objs.size none .none) := by
    rw [← hG2]
    have z : ((hh.push (kdv_tup [v])).push (PX.excO C hh.objs.size)).get? (hh.push (kdv_tup [v])).objs.size = some (PX.excO C hh.objs.size) := Heap.get?_push_size _ rfl
    rw [Heap.size_push] at z
    exact z
  have t2 : h2.get? hh.objs.size = some (excTup [v]) := by
    rw [← hG2]
    exact Heap.get?_push_of_some _ (Heap.get?_push_size _ rfl)
  have ne12 : hh.objs.size + 1 ≠ hh.objs.size := Nat.succ_ne_self _
  refine ks_codeAny_call_defAt (s := ⟨h2, g, d, tk, os⟩) (fd := ksFn "__init__" qual params body scope .none kV doc pm an (.ref cda) ct cc) (body := body) (binds := [(("self" : Str), .ref (hh.objs.size + 1)), (y, v)]) room (k2' _ _ hoI) rfl (lim.keeps k2') (codeRec_of (X.keeps k2') hcd) rfl
    (BindsTo.of_eq (IS.bind _ _ _ _ _ _ _ _ _ _)) IS.cell (fun z hz => ?_) (fun h₁ hns k₁ => ?_) IS.co IS.gen IS.kind
  · simp only [List.mem_cons, List.not_mem_nil, or_false] at hz
    rcases hz with rfl | rfl
    · exact IS.hka
    · exact IS.hky
  obtain ⟨p0, p1, p2, p3, p4, p5, p6, p7, p8, p9, txt, j, rfl, hev⟩ := IS.body
  obtain ⟨ar, har, hself⟩ := IS.first
  let l2 : List Addr := [hh.objs.size + 1, hh.objs.size]
  have F : Fr (hideAll h2 l2) h2.objs.size h₁ (fun z => [(("self" : Str), .ref (hh.objs.size + 1)), (y, v)].reverse.lookup z) := ⟨hns, fun b o e => k₁ b o (of_hideAll _ e), Nat.le_of_eq (hideAll_size _ _)⟩
  have N : News (hideAll h2 l2) h2.objs.size h₁ [(hh.objs.size + 1, excObj C hh.objs.size none .none), (hh.objs.size, excTup [v])] := by
    intro p hp
    simp only [List.mem_cons, List.not_mem_nil, or_false] at hp
    rcases hp with rfl | rfl
    · exact ⟨k₁ _ _ e2, by rw [sz2]; show hh.objs.size + 1 ≠ hh.objs.size + 2; omega, hideAll_none _ (by simp [l2])⟩
    · exact ⟨k₁ _ _ t2, by rw [sz2]; show hh.objs.size ≠ hh.objs.size + 2; omega, hideAll_none _ (by simp [l2])⟩
  have old : ∀ b o, hh.get? b = some o → (hideAll h2 l2).get? b = some o := fun b o e => hideAll_get _ (k2' _ _ e) (fun z => by
    have q : b < hh.objs.size := lt e
    rcases List.mem_cons.mp z with z | z
    · rw [z] at q; exact absurd q (Nat.not_lt.mpr (Nat.le_succ _))
    · rw [List.mem_singleton.mp z] at q; exact absurd q (Nat.lt_irrefl _))
  have X₀ : K.In (hideAll h2 l2) := X.keeps old
  have G₀ : (hideAll h2 l2).Ns mainGlobals mg := G.keeps old
  have B₀ : (hideAll h2 l2).Ns builtinsNs mb := Bn.keeps old
  have hsuper : mg "super" = none := mg_none_of X G T.sup
  have lself : [(("self" : Str), Value.ref (hh.objs.size + 1)), (y, v)].reverse.lookup ("self" : Str) = some (Value.ref (hh.objs.size + 1)) := by
    show (List.lookup ("self" : Str) [(y, v), (("self" : Str), Value.ref (hh.objs.size + 1))]) = _
    have e : (("self" : Str) == y) = false := by
      have := IS.hne
      simp only [beq_eq_false_iff_ne, ne_eq] at this ⊢
      exact fun z => this z.symm
    simp [List.lookup, e]
  have ly : [(("self" : Str), Value.ref (hh.objs.size + 1)), (y, v)].reverse.lookup y = some v := by
    show (List.lookup y [(y, v), (("self" : Str), Value.ref (hh.objs.size + 1))]) = _
    simp [List.lookup]
  obtain ⟨cdD, hcls, _⟩ := any_some T.hd
  have Xh : K.In h₁ := X₀.keeps F.keep
  have hhC : h₁.get? C = some (excClassObj nm qn C N' bs bm hdct sn sub ab col dd k0 k1 k2 k3 k5 newId) := F.keep _ _ (old _ _ hC)
  have nC : ∀ {cd : ClassData}, excObj C hh.objs.size none .none ≠ ({ cls := .type "type", dict := none, data := .cls cd } : Obj) := fun z => by cases z
  obtain ⟨pl, he, hint, hs1, hs2⟩ := hev qual h2.objs.size fI cc (.ref cda)
  refine ks_wpAt_execs_cons (ks_wpAt_Expr_any (ks_wpAt_MethodCall (pl := pl) ?_ he) hint hs1)
  refine ks_wpAt_super_base (env := ksEnv qual scope h2.objs.size fI (.ref cda) cc) IS.hks IS.hkc (by decide) rfl (Xh _ _ hlk) rfl har rfl (Xh _ _ hcda) rfl hvs hfile T.top ?_
  refine ks_loadName_global IS.kind IS.hks (loadGlobal_builtin (env := ksEnv qual scope h2.objs.size fI (.ref cda) cc) (G₀.keeps F.keep) hsuper (B₀.keeps F.keep) ((boot _ (by decide +kernel)).trans (show bootBuiltins "super" = some (.type "super") by decide +kernel)) ⟨rfl, ?_⟩)
  refine wpAny_loadName_free IS.kind IS.hkc rfl ⟨_, Xh _ _ hcell, rfl⟩ ?_
  rw [hself]
  refine wpAny_loadName_local IS.kind IS.hka F.ns lself ?_
  refine ks_wpAny_isType_cls hhC rfl ⟨rfl, ?_⟩
  refine ks_wpAny_call_super hhC rfl (k₁ _ _ e2) rfl (fun c e => by cases e) (looks_mroIn Xh T.mro) (fun h3 e3 k3' => ?_)
  obtain ⟨F3, N3, l3⟩ := ks_newsPush (s := ⟨h₁, g, d, tk + 2, os⟩) F N rfl e3 k3'
  refine kxs_method BX.kf F3 X₀ N3 List.mem_cons_self (InstAt.of_exc0 N3 (List.mem_cons_of_mem _ List.mem_cons_self)) T.tp hS hB (by decide) (fun qa h4 F4 N4 l4 => ?_)
  refine kxs_callWith1 (i := initId) (x := hh.objs.size + 1) N4 List.mem_cons_self ?_
  refine Calls.spliced_cons (wpAny_Constant_str (pos := p3) (k := j) (Calls.spliced_nil ⟨kxs_at N4 List.mem_cons_self, ?_⟩))
  have me : ((hh.objs.size + 1, excObj C hh.objs.size none .none) : Addr × Obj) ∈ [(hh.objs.size + 1, excObj C hh.objs.size none .none), (hh.objs.size, excTup [v])] := List.mem_cons_self
  have n1 : qa ≠ hh.objs.size + 1 := fun z => by
    have q := l4 _ (List.mem_cons_of_mem _ me)
    rw [z] at q; exact absurd q (Nat.lt_irrefl _)
  have n2 : h₁.objs.size ≠ hh.objs.size + 1 := fun z => by
    have q := l3 _ me
    rw [z] at q; exact absurd q (Nat.lt_irrefl _)
  have n3 : hh.objs.size ≠ hh.objs.size + 1 := fun z => ne12 z.symm
  refine kxs_call (s := ⟨h4, g, d, _, os⟩) F4 X₀ N4 BX.fb hI List.mem_cons_self (.tail n1 (.tail n2 (.head fun p hp => by rw [List.mem_singleton.mp hp]; exact n3))) (by rw [sizeLine_eq]; exact (by decide : 1 ≤ 16777216)) (fun t5 h5 F5 N5 l5 => ?_)
  have hrest : ∀ p ∈ [(hh.objs.size, excTup [v])], p.1 ≠ hh.objs.size + 1 := fun p hp => by rw [List.mem_singleton.mp hp]; exact n3
  have n4 : t5 ≠ hh.objs.size + 1 := fun z => by
    have q := l5 _ (List.mem_cons_of_mem _ (List.mem_cons_of_mem _ me))
    rw [z] at q; exact absurd q (Nat.lt_irrefl _)
  refine ks_wpAt_execs_cons (wpAt_of_wpAny (plainObj_wpAny_Assign_Attribute ?_ hs2))
  refine ESX.ldL (m := fun z => [(("self" : Str), Value.ref (hh.objs.size + 1)), (y, v)].reverse.lookup z) (v := v) F5.ns ly ?_ IS.kind IS.hky IS.hkd
  refine ESX.ldL (m := fun z => [(("self" : Str), Value.ref (hh.objs.size + 1)), (y, v)].reverse.lookup z) (v := .ref (hh.objs.size + 1)) F5.ns lself ?_ IS.kind IS.hka
  refine set_exc0 (s := ⟨h5, g, d, _, os⟩) BX.sf F5 X₀ N5 (by simp) T.sa hO T.tk T.hd rfl (.tail n4 (.tail n1 (.tail n2 (.head hrest)))) (show 1 ≤ 1000 by decide) (fun dx h6 F6 N6 l6 => ?_)
  refine wpAt_of_wpAny (wpAny_execs_nil ?_)
  refine ⟨rfl, h h6 (hh.objs.size + 1) dx t5 _ (fun b o e => F6.keep _ _ (old _ _ e)) (Nat.le_succ _) ?_ ?_ (N6 _ (.tail _ (.tail _ (.tail _ (.tail _ (.head _)))))).1 ?_⟩
  · have q := l6 (t5, _) List.mem_cons_self
    have q2 := l5 _ (List.mem_cons_of_mem _ (List.mem_cons_of_mem _ me))
    exact Nat.le_trans (Nat.le_succ _) (Nat.le_of_lt (Nat.lt_trans q2 q))
  · intro z
    have q := l6 (t5, _) List.mem_cons_self
    have q2 := l5 _ (List.mem_cons_of_mem _ (List.mem_cons_of_mem _ me))
    rw [z] at q
    exact absurd (Nat.lt_trans q2 q) (Nat.lt_irrefl _)
  · refine ⟨_, _, _, (N6 _ List.mem_cons_self).1, rfl, ?_, ?_, ?_⟩
    · intro e he
      obtain ⟨tt, he'⟩ : ∃ tt : Tok, e ∈ [(⟨PyData.keyHash w.params f, .str f tt, v⟩ : DictEntry)] := ⟨_, by simpa only [putL] using (Array.mem_toList_iff.mpr he)⟩
      rw [List.mem_singleton.mp he']
      exact ⟨_, _, rfl⟩
    · exact List.pairwise_singleton _ _
    · intro z
      simp only [nsFind, findBy, putL]
      by_cases hz : z = f
      · subst hz
        simp [Value.isStr]
      · have hz' : ¬ f = z := fun q => hz q.symm
        simp [Value.isStr, hz, hz']
end
end Bk

/-! Bk: own exceptions raised, caught and held, told apart, read. -/
namespace Bk
open PySem PySem.Spec PyProof.Rows L2

/-- whose instances are whose -/
def supers (n : Str) : List Str :=
  if n = "Missing" then ["Missing", "LookupError"] else if n = "TooMany" then ["TooMany", "OverflowError"] else [n, "KeptError", "ValueError"]
def subC (n m : Str) : Bool := decide (m ∈ supers n)

/-- what the written part says of the class n with the field f -/
structure ECls (P : Program) (K : PySem.W.Frag) (mg : Str → Option Value) (T : Tb) (n f : Str) : Prop where
  et : ExcT P K (T.cls n) f
  mg : mg n = some (.ref (T.cls n))
  keep : PySem.W.keepIn K (.ref (T.cls n)) = true
  sb : PySem.W.subIn K (.ref (T.cls n)) (.type "BaseException") = some true
  ty : PySem.W.typeIn K (.ref (T.cls n)) = some (.type "type")
/-- what is asked of a class whose instances are held -/
structure EHold (K : PySem.W.Frag) (T : Tb) (n : Str) : Prop where
  ec : ExcC K (T.cls n)
  xf : XfC K (T.cls n)

section
variable {X : Cx} {T : Tb} {W : WX} {k : Nat} {a : Expr} {fa : Exp} {p pos pos' : Pos} {x n f : Str}
def tMk (C : Addr) (f : Str) (ta : TA) : L2.St → Hp → XK → Prop := fun σ H Q => ta σ H fun vs H1 => ∃ x, vs = [x] ∧ ∀ dx, H1 dx = none → Q (.ref C) (some dx) (upd H1 dx (.xd [(f, x)]))
theorem pmk_sup {C : Addr} {ta : TA} (T : ExcT X.prog X.K C f) (gC : X.mg x = some (.ref C)) (kC : PySem.W.keepIn X.K (.ref C) = true) (r : Raises X (.ref C)) (hg : Gl X x) (hr : Room k X.A) (ha : PA X [a] ta)
    (hdb : (x == ("__debug__" : Str)) = false := by decide) (he : starEach [a] X.env = (false, eval a X.env) :: starEach [] X.env := by rfl) (hpl : (backTo pos (starEach [] X.env)).any (·.1) = false := by rfl) : PMk X (.Call (.Name x p) [a] [] pos) (tMk C f ta) := by
  intro pins s σ H Q I h
  refine wpAny_Call_Name_kw (ld_glob I hg gC ?_ hdb)
  refine PySem.W.callWith_K (h₀ := X.base) I.ok.mod.kin kC (thn (ha.run pos pins s σ H _ I h) fun us s1 ⟨vs, H1, I1, r1, q⟩ => ⟨I1.kIn, ?_⟩) he hpl
  obtain ⟨y, rfl, q⟩ := q
  obtain ⟨u, rfl, ru⟩ := vals1 r1
  obtain ⟨mb, nb, boot⟩ := I1.mod.blt
  refine exc_made T I1.kIn (I1.mod.glob.keeps I1.bk) (nb.keeps I1.bk) boot I1.nolimit (by rw [make_depth]; have := hr.dp; omega) fun h' e dx t tk kp he hdx ne ho hn => ?_
  obtain ⟨G, g1, g2⟩ := restrict h' fun b => decide (b ≠ e)
  have gk : ∀ b, b ≠ e → G.get? b = h'.get? b := fun b hb => g1 b (decide_eq_true hb)
  have ge : G.get? e = none := g2 e (by simp)
  have nlt : ∀ {b o}, s1.heap.get? b = some o → b ≠ e := fun {b o} z y => absurd (Heap.lt_size z) (by rw [y]; exact Nat.not_lt.mpr he)
  have k2 : ∀ b o, s1.heap.get? b = some o → G.get? b = some o := fun b o z => by rw [gk b (nlt z)]; exact kp b o z
  have n0 : s1.heap.get? dx = none := by
    cases z : s1.heap.get? dx with
    | none => rfl
    | some o => exact absurd (Heap.lt_size z) (Nat.not_lt.mpr hdx)
  have hd0 : H1 dx = none := I1.hok.fresh hdx
  have hnG : G.Ns1 dx (fun y => if y = f then some u else none) := hn.at fun o z => by rw [gk dx ne]; exact z
  have J := I1.laidN (h' := G) (t' := tk) (o := .xd [(f, y)]) k2 n0 hd0 ⟨_, hnG, fun g => by
    by_cases hgf : g = f
    · subst hgf
      simp only [List.lookup, beq_self_eq_true, if_true]
      exact ru
    · have e2 : (g == f) = false := by simpa using hgf
      simp only [List.lookup, e2, if_neg hgf]
      exact trivial⟩
  refine ⟨e, _, _, _, _, .ref (C), some dx, rfl, J, fun b o z => ?_, ge, ho, ⟨rfl, rfl⟩, rfl, rfl, ?_, rfl, I1.bare, r, q dx hd0⟩
  · by_cases hb : b = e
    · rw [hb] at z; rw [show ({ s1 with heap := G, toks := tk } : Shared).heap.get? e = G.get? e from rfl, ge] at z; cases z
    · rw [← gk b hb]; exact z
  · rw [upd_ne (fun z => ne z.symm)]; exact I1.hok.fresh he

/-! ### raise C(x) -/
def dRaise (n f : Str) (g : Exp) : DTS := fun D e s => g e s (fun d s1 => D.ex ⟨n, [(f, d)]⟩ e s1) (fun x s' => D.ex x e s')
theorem ds_raise (C : ECls X.prog X.K X.mg T n f) (hr : Room k X.A) (hc : X.calm = true) (tk : Takes X W) (hg : Gl X n) (ha : DX X T W a fa)
    (hdb : (n == ("__debug__" : Str)) = false := by decide) (he : starEach [a] X.env = (false, eval a X.env) :: starEach [] X.env := by rfl) (hpl : (backTo pos (starEach [] X.env)).any (·.1) = false := by rfl) :
    DS X T W (.Raise (some (.Call (.Name n p) [a] [] pos)) none pos') (dRaise n f fa) :=
  ⟨ps_imp (ps_raise hc tk (pmk_sup (pos := pos) C.et C.mg C.keep (raises_own C.sb C.ty) hg hr (pa_cons ha.pe pa_nil he) hdb he hpl)) fun Q σ H ⟨F, e, s, D, he', hh, ht, pp⟩ => by
    refine ⟨F, e, s, _, _, he', hh, pp.xok he', ht, fun d s1 v H1 F1 q x1 hh1 rv => ⟨v, rfl, fun dx ndx => ?_⟩⟩
    obtain ⟨b1, b2, _⟩ := hh1.beginO (o := .xd [(f, v)]) ndx
    exact pp.ex _ e s1 _ _ σ _ F1 q (x1.trans b2) b1 (he'.mono x1.same) ⟨rfl, dx, _, rfl, upd_same, .cons rv .nil⟩⟩
end
end Bk

/-! Bk: try, the exception held. -/
namespace Bk
open PySem PySem.Spec PyProof.Rows L2

section
variable {X : Cx} {pins : List (Addr × Obj)} {σ : L2.St} {H : Hp} {s : Shared}
theorem flying_keeps {B h h' : Heap} {l : List Env} {a : Addr} {Z : Obj → Prop} (f : HandSPX.FlyingZ B l a Z h) (k : ∀ b o, h.get? b = some o → h'.get? b = some o) : HandSPX.FlyingZ B l a Z h' := by
  obtain ⟨f1, f2, f3, oe, vs, tb, ot, ts, g1, g2, g3, g4, g5, g6, g7, g8, g9⟩ := f
  exact ⟨fun b o e => k b o (f1 b o e), f2, f3.of_keeps (fun b o e _ => ⟨o, k b o e, rfl⟩), oe, vs, tb, ot, ts, k _ _ g1, g2, g3, g4, g5, g6, k _ _ g7, g8, g9⟩
/-- an object that came up since the entry and is ours is tracked -/
theorem Inv.track {a : Addr} {o : HO} {oe : Obj} {vs : Array Value} (I : L2.Inv X pins σ H s) (hx : X.ex = []) (n0 : X.s_0.heap.get? a = none) (na : H a = none) (nL : a ≠ X.env.locals) (np : ∀ p ∈ X.pn ++ pins, p.1 ≠ a) (ha : s.heap.get? a = some oe) (hd : oe.data = .fields vs)
    (new : ObjOk X.prog X.w (upd H a o) s.heap a o) : L2.Inv X pins σ (upd H a o) s := by
  have ne0 : ∀ {b : Addr} {u : Obj}, X.s_0.heap.get? b = some u → b ≠ a := fun {b u} e z => by rw [z, n0] at e; cases e
  refine ⟨I.ok, I.os, I.bare, ⟨I.base.keep, I.base.slot, fun b u e n q => ?_, I.base.there, fun b xs e => ?_, fun b u w e => ?_, fun b ps e => ?_⟩, I.loc, I.cell, ?_, fun x c e => ?_, fun p hp => ?_, ?_, I.len⟩
  · rw [upd_ne (ne0 e)]; exact I.base.free b u e n q
  · have q := I.base.tups b xs e
    rw [upd_ne (ne_of_none q na)]; exact q
  · have q := I.base.frzs b u w e
    rw [upd_ne (ne_of_none q na)]; exact q
  · obtain ⟨more, q⟩ := I.base.tbls b ps e
    exact ⟨more, by rw [upd_ne (ne_of_none q na)]; exact q⟩
  · rw [upd_ne (fun z => nL z.symm)]; exact I.free
  · have ne : c ≠ a := fun z => by
      obtain ⟨w, oc, h1, h2⟩ := I.cell x c e
      rw [z, ha] at h1; cases h1
      rw [hd] at h2; cases h2
    rw [upd_ne ne]; exact I.freeC x c e
  · obtain ⟨h1, h2, h3, h4, h5⟩ := I.pin p hp
    exact ⟨h1, by rw [upd_ne (np p hp)]; exact h2, h3, h4, h5⟩
  · exact HOk.laidN I.hok (fun _ _ z => z) na new
theorem excO_ok {P : Program} {w : World} {h : Heap} {a C dx : Addr} {oe : Obj} {vs : Array Value} (e : h.get? a = some oe) (z : Zc (.ref C) (some dx) oe) (d : oe.data = .fields vs) : ObjOk P w H h a (ExcO C dx a) :=
  ⟨⟨oe, vs, e, z.1, z.2, d⟩, ⟨oe, e⟩, fun _ _ ⟨o, v, q, r⟩ k => ⟨o, v, k o q, r⟩⟩

/-- what an except clause names -/
def ETest (X : Cx) (test : Expr) (cs : List Value) : Prop := ∀ (a : Addr) (pn pins : List (Addr × Obj)) (σ : L2.St) (H : Hp) (s : Shared) (cls : Value) (b : Bool), L2.Inv (X.suite a pn) pins σ H s → PySem.W.Looks (model X.prog X.w) s.heap (typeOf (.ref a)) cls → PySem.W.exmAny X.K cls cs = some b →
  ∀ (Q : Bool → Shared → Prop) (E1 E2 : Value → Shared → Prop), (∀ h', (∀ q o, s.heap.get? q = some o → h'.get? q = some o) → Q b { s with heap := h' }) →
    wpAny (model X.prog X.w) (X.A.mark (some (.ref a))) (eval test X.env) (fun c s₁ => wpAny (model X.prog X.w) (X.A.mark (some (.ref a))) (excMatches (.ref a) c) Q E2 s₁) E1 s
theorem etest_ld {x : Str} {c : Value} {np : Pos} {a : Addr} {pn : List (Addr × Obj)} (hc : Names X x c) (I : L2.Inv (X.suite a pn) pins σ H s) {Q : Value → Shared → Prop} {E : Value → Shared → Prop} (q : Q c s) : wpAny (model X.prog X.w) (X.A.mark (some (.ref a))) (eval (.Name x np) X.env) Q E s := by
  obtain ⟨hg, hd, hm | ⟨hm, hv, hn⟩⟩ := hc
  · exact ld_glob (X := X.suite a pn) I hg hm q hd
  · exact ld_blt (X := X.suite a pn) I hg hm hv q hn hd
theorem etest_name {x : Str} {c : Value} {np : Pos} (hc : Names X x c) : ETest X (.Name x np) [c] := fun a pn pins σ H s cls b I LT he Q E1 E2 q => by
  obtain ⟨b1, d1, h1, h2, rfl⟩ := PySem.W.exmAny_cons he
  have h2' : some false = some d1 := h2
  cases h2'
  refine etest_ld hc I ((PySem.W.exm_one I.kIn LT h1).here ?_)
  have := q s.heap fun _ _ z => z
  rwa [Bool.or_false] at this
theorem etest_tup3 {x1 x2 x3 : Str} {c1 c2 c3 : Value} {p1 p2 p3 tp : Pos} {kk : Nat} (n1 : Names X x1 c1) (n2 : Names X x2 c2) (n3 : Names X x3 c3) : ETest X (.Tuple [.Name x1 p1, .Name x2 p2, .Name x3 p3] kk tp) [c1, c2, c3] := fun a pn pins σ H s cls b I LT he Q E1 E2 q => by
  refine wpAny_Tuple (wpAny_items_cons (etest_ld n1 I (wpAny_items_cons (etest_ld n2 I (wpAny_items_cons (etest_ld n3 I (wpAny_items_nil ⟨by size_fits, ?_⟩)))))))
  have kp : ∀ z o, s.heap.get? z = some o → (s.heap.push { cls := .type "tuple", data := .seq [c1, c2, c3].toArray }).get? z = some o := fun _ _ e => Heap.get?_push_of_some _ e
  have KI : X.K.In s.heap := I.kIn
  exact (PySem.W.exm_tup3 (KI.keeps kp) (LT.keeps kp) (Heap.get?_push_size s.heap rfl) he).here (q _ kp)
end

/-- the wish of a clause whose exception is held behind it -/
def wHold (K : PySem.W.Frag) (cs : List Value) (i ln : Nat) (ts : Addr → Value → Option Addr → TS) (Wout : WX) (D : Ends) : WX := fun cls d σ H =>
  ∃ b, PySem.W.exmAny K cls cs = some b ∧ (b = true → ∃ C dx, cls = .ref C ∧ d = some dx ∧ ∀ a, H a = none → σ.length = ln →
    ts a cls d { nx := fun σ' H' => H' a = none → D.nx (σ'.set i none) (upd H' a (ExcO C dx a)), rt := fun _ _ => False, bk := fun _ _ => False, ct := fun _ _ => False } (σ.set i (some (.ref a))) H) ∧ (b = false → Wout cls d σ H)
section
variable {X : Cx} {n : Str} {cs : List Value} {i : Nat} {body suite : List Stmt} {b₀ : Stmt} {test : Expr} {pos pos' : Pos} {tb : WX → TS} {ts : Addr → Value → Option Addr → TS} {Wout : WX}
theorem ps_try_hold (hs : X.stack = X.env :: X.outer) (hf : X.env.frame = some X.env.locals) (hex : X.ex = []) (hN : X.N.Nodup) (hi : X.N[i]? = some n) (hln : X.env.kindOf n = some .local) (hT : ETest X test cs) (tk : Takes X Wout)
    (hb : ∀ (W : WX) (pn : List (Addr × Obj)) (xe : Value → Shared → Prop), Takes (X.tr pn xe) W → PassesOwn (model X.prog X.w) X.A X.env xe → PSs (X.tr pn xe) body (tb W))
    (hsu : ∀ (a : Addr) (oe : Obj) (cls : Value) (d : Option Addr) (pn : List (Addr × Obj)), Zc cls d oe → (∃ vs, oe.data = .fields vs) → PSs (X.suite a ((a, oe) :: pn)) (b₀ :: suite) (ts a cls d)) :
    PS X (.Try body [.ExceptHandler (some test) (some n) (b₀ :: suite) pos'] [] [] pos) (fun D σ H => tb (wHold X.K cs i X.N.length ts Wout D) D σ H) := by
  refine ⟨fun pins s σ H D I0 hgoal => ?_⟩
  have okX := I0.ok
  have frX : X.A.frames = some (X.env :: X.outer) := by rw [okX.frames, hs]
  refine wpAny_Try_except ?_
  refine wpAny_mono ((hb (wHold X.K cs i X.N.length ts Wout D) (X.pn ++ pins) (fun e s₁ => wpAny (model X.prog X.w) X.A (noteFrame e X.env) (fun _ s₂ => wpAny (model X.prog X.w) X.A (setFlight e none) (fun _ s₃ =>
    wpAny (model X.prog X.w) X.A (handleBy e X.env [.ExceptHandler (some test) (some n) (b₀ :: suite) pos']) (SP X pins D) X.xe s₃) X.xe s₂) X.xe s₁) (fun u s' xx => ?_) PassesOwn.looking).run [] s σ H D (I0.toTry _) hgoal) (fun fl s1 hsp => ?_) (fun _ _ he => he)
  · obtain ⟨a, B, sI, pins', σ', H', cls, d, rfl, Ji, nb, up, sky, na, os, ag, b, hb1, hyes, hno⟩ := xx
    have Ja : L2.Inv X pins σ' H' sI := Ji.ofTry okX
    have skyX : Sky B (X.env :: X.outer) a (Zc cls d) X.env.locals s'.heap := by rw [← hs]; exact sky
    show wpAny (model X.prog X.w) X.A (noteFrame (.ref a) X.env) _ _ _
    refine Sky.land Zc.steady frX hf skyX fun ha flA upA => ?_
    have JA : L2.Inv X pins σ' H' { s' with heap := ha } := Ja.landed nb flA.1 (up.trans upA) os ag
    obtain ⟨oA, vA, gA, zA, dA⟩ := flA.there
    have nFr : a ∉ frs (X.env :: X.outer) := fun hm => by
      obtain ⟨_, o', e', hnf⟩ := flA.2.2.1.mem hm
      rw [gA] at e'; cases e'
      exact hnf _ dA
    have nLo : a ≠ X.env.locals := fun z => nFr (List.mem_filterMap.mpr ⟨X.env, List.mem_cons_self, by rw [hf, z]⟩)
    have nFs : a ∉ X.fs := fun hm => by
      obtain ⟨e, he, q⟩ := List.mem_filterMap.mp hm
      exact nFr (List.mem_filterMap.mpr ⟨e, List.mem_cons_of_mem _ he, q⟩)
    have nBa : B.get? a = none := flA.2.1
    have nSi : sI.heap.get? a = none := by
      cases z : sI.heap.get? a with
      | none => rfl
      | some o =>
        have y := nb a o z (by rw [hs]; exact nFr)
        rw [nBa] at y; cases y
    have nS0 : X.s_0.heap.get? a = none := by
      cases z : X.s_0.heap.get? a with
      | none => rfl
      | some o =>
        obtain ⟨o', y⟩ := Ja.base.there a o z (by rw [hex]; exact fun w => nomatch w)
        rw [nSi] at y; cases y
    have nPin : ∀ p ∈ X.pn ++ pins, p.1 ≠ a := fun p hp z => by
      have y := (Ja.pin p hp).1
      rw [z, nSi] at y; cases y
    have SA := JA.suite gA dA na nLo nFs
    refine wpAny_handleBy_cons (codeAny_handlers_test ?_) (by intro q; cases q)
    have LT : PySem.W.Looks (model X.prog X.w) ha (typeOf (.ref a)) cls := fun A Q E s k q => wpAny_typeOf_ref (k _ _ gA) (by rw [zA.1]; exact q)
    refine hT a _ _ _ _ _ cls b SA LT hb1 _ _ _ fun hT' kT => ?_
    have flT := flying_keeps flA kT
    have JT : L2.Inv X pins σ' H' { s' with heap := hT' } := JA.kept kT
    cases b with
    | true =>
      obtain ⟨C, dx, rfl, rfl, hyes⟩ := hyes rfl
      refine codeAny_handlers_suite_as ?_
      refine HandSPX.lands_againZ flT fun hB flB upB => ?_
      have JB : L2.Inv X pins σ' H' { s' with heap := hB } := by
        have up2 : sI.heap.UpToSlots hT' := (up.trans upA).trans (fun b o e _ => ⟨o.slots, kT b o e⟩)
        exact Ja.landed nb flB.1 (up2.trans upB) os ag
      obtain ⟨oB, vB, gB, zB, dB⟩ := flB.there
      have SB := JB.suite gB dB na nLo nFs
      refine store_ok (X := X.suite a ((a, oB) :: (X.pn ++ pins))) (v := .ref a) SB hN hi (.inl hln) rfl (fun sC SC => ?_) (.inr hln)
      refine wpAny_mono ((hsu a oB _ _ (X.pn ++ pins) zB ⟨_, dB⟩).run [] sC _ H' _ SC (hyes a na Ja.len)) (fun fl sD hsp => ?_) (fun _ _ z => False.elim z)
      cases fl with
      | next =>
        obtain ⟨σD, HD, SD, qD⟩ := hsp
        obtain ⟨pg, pn0, _, _, _⟩ := SD.pin (a, oB) (List.mem_append_left _ List.mem_cons_self)
        have JD : L2.Inv X pins σD HD sD := SD.unsuite okX
        have JE := Inv.track (o := ExcO C dx a) JD hex nS0 pn0 nLo nPin pg dB (excO_ok pg zB dB)
        exact gone_ok JE hN hi hln fun sF JF => ⟨_, _, JF, qD pn0⟩
      | brk =>
        obtain ⟨_, _, _, q⟩ := hsp
        exact q.elim
      | cont =>
        obtain ⟨_, _, _, q⟩ := hsp
        exact q.elim
      | ret u =>
        obtain ⟨_, _, _, _, _, q⟩ := hsp
        exact q.elim
    | false =>
      show wpAny _ X.A (handleBy (.ref a) X.env []) _ _ _
      refine wpAny_handleBy_nil ?_
      obtain ⟨k1, k2, k3, oe, vs, tb', oT, ts', he, hz, hd, h1, hr⟩ := id flT
      unfold PySem.passOn
      refine wpAny_bind (wpAny_field he hd h1 ?_)
      rw [if_neg (show ¬ ((Value.ref tb' == Value.none) = true) from by simp)]
      have fin : wpAny (model X.prog X.w) X.A (setFlight (.ref a) X.env.frame) (fun _ s4 => wpAny (model X.prog X.w) X.A (throw (.ref a) : Sem Flow) (SP X pins D) X.xe s4) X.xe { s' with heap := hT' } := by
        rw [hf]
        refine HandSPX.setFlight_upZ flT fun hB hhB upB => wpAny_throw (tk _ _ ?_)
        have up2 : sI.heap.UpToSlots hT' := (up.trans upA).trans (fun b o e _ => ⟨o.slots, kT b o e⟩)
        exact ⟨a, B, sI, pins, σ', H', cls, d, rfl, Ja, nb, up2.trans upB, .inr (.inr (by rw [hs]; exact hhB)), na, os, ag, hno rfl⟩
      first
        | exact wpAny_bind (wpAny_pure (wpAny_bind fin))
        | exact wpAny_bind fin
  · cases fl with
    | next =>
      obtain ⟨σ1, H1, J1, q⟩ := hsp
      exact wpAny_execs_nil ⟨σ1, H1, J1.ofTry okX, q⟩
    | brk =>
      obtain ⟨σ1, H1, J1, q⟩ := hsp
      exact ⟨σ1, H1, J1.ofTry okX, q⟩
    | cont =>
      obtain ⟨σ1, H1, J1, q⟩ := hsp
      exact ⟨σ1, H1, J1.ofTry okX, q⟩
    | ret u =>
      obtain ⟨v, σ1, H1, J1, r, q⟩ := hsp
      exact ⟨v, σ1, H1, J1.ofTry okX, r, q⟩
end
end Bk

/-! Bk: enumerate over a tuple. -/
namespace Bk
open PySem PySem.Spec PyProof.Rows L2

theorem meets_enum1 {v : Value} {o : Obj} {Hh : Heap → Prop} (B : Begins v o Hh) :
    Meets (Builtin.«enumerate.__new__» ⟨[.type "enumerate", v], []⟩) (fun _ R s => Hh s.heap ∧
      R (.ok (.ret (.ref (s.heap.push o).objs.size))) { s with heap := (s.heap.push o).push { cls := .type "enumerate", data := .fields #[.none, .bool false, .ref s.heap.objs.size, rawInt 0, .none, .none] } }) :=
  .of_wp fun P w A R s h => by
    obtain ⟨hp, g, d, tk, os⟩ := s
    obtain ⟨hb, h⟩ := h
    have subE := sub_enumerate
    have it1 : ∀ {A' : Around} {E : Value → Shared → Prop} {Q : Value → Shared → Prop}, Q (.ref hp.objs.size) ⟨hp.push o, g, d, tk, os⟩ → wpAny (model P w) A' (pyIter v) Q E ⟨hp, g, d, tk, os⟩ :=
      fun q => B.iter P w _ _ ⟨hp, g, d, tk, os⟩ _ hb q
    wp_walk using it1
    refine wpAny_stack_any fun st => wpAny_pure ?_
    split
    · rename_i c _ _ _ _ _
      cases (c == Value.type "enumerate") <;> (wp_walk using it1; exact ⟨_, rfl, h⟩)
    · wp_walk using it1
      exact ⟨_, rfl, h⟩
section
variable {prog : Program} {w : World} {A : Around} {E : Value → Shared → Prop} {s : Shared}
theorem enum1_begins {v : Value} {o : Obj} {Hh : Heap → Prop} {Q : Value → Shared → Prop} (B : Begins v o Hh) (h1 : Hh s.heap)
    (h : ∀ h', IsEnum h' (s.heap.objs.size + 1) s.heap.objs.size 0 .none → h'.get? s.heap.objs.size = some o → (∀ b u, s.heap.get? b = some u → h'.get? b = some u) → Q (.ref (s.heap.objs.size + 1)) { s with heap := h' }) :
    wpAny (model prog w) A (call (.type "enumerate") [v]) Q E s := by
  refine callType_new F.called_enumerate (by decide) (F.typeCall_enumerate_1 _) (F.newCall_enumerate_1 _) (fun obj => F.args_object_init_2 obj _) F.entry_enumerate_new (meets_enum1 B) ⟨h1, ?_⟩
  have hz : (s.heap.push o).objs.size = s.heap.objs.size + 1 := Heap.size_push ..
  show _ ∧ _
  rw [hz]
  have z := Heap.get?_push_size (s.heap.push o) (o := { cls := .type "enumerate", data := .fields #[.none, .bool false, .ref s.heap.objs.size, rawInt 0, .none, .none] }) rfl
  rw [hz] at z
  exact ⟨⟨_, z, rfl⟩, h _ z (Heap.get?_push_of_some _ (Heap.get?_push_size _ B.free)) fun b u x => Heap.get?_push_of_some _ (Heap.get?_push_of_some _ x)⟩
end
/-- the tuple at a, each item in a new pair -/
def IteT (K : PySem.W.Frag) (a : Addr) : It :=
  ⟨fun i H => ∃ (xs : List V) (x : V), SqT K H a xs ∧ xs[i]? = some x, fun i H v H' => ∃ t x, v = .ref t ∧ H t = none ∧ H' = upd H t (.tup [.int (i : Nat), x]) ∧ ∀ xs, SqT K H a xs → xs[i]? = some x, fun i H => ∃ xs : List V, SqT K H a xs ∧ xs.length ≤ i⟩
theorem turn_enumT {P : Program} {w : World} {K : PySem.W.Frag} {elts : List Expr} {kk : Nat} {tpos : Pos} (a e it : Addr) :
    Turn P w K (.Tuple elts kk tpos) (IteT K a) [e, it] e (fun i h => (∃ old, IsEnum h e it ((i : Nat) : Int) old) ∧ h.IsTupleIter it a i ∧ e ≠ it) where
  mem := by simp
  obj := fun i h st b hb => by
    obtain ⟨⟨old, he⟩, ⟨o, ho, hc, hd⟩, _⟩ := st
    rcases List.mem_cons.mp hb with z | z
    · rw [z]; exact ⟨_, he, fun v q => nomatch q⟩
    · rw [List.mem_singleton.mp z]; exact ⟨o, ho, fun v q => by rw [hd] at q; cases q⟩
  keep := fun i h h' st k => ⟨st.1.imp fun old he => k e List.mem_cons_self _ he, st.2.1.at fun o q => k it (.tail _ (.head _)) o q, st.2.2⟩
  item := by
    intro X hP hw hK hc i pins s σ H E I hf st hg
    subst hP hw hK
    obtain ⟨⟨old, he⟩, hit, hne⟩ := st
    obtain ⟨xs, x, hq, hx⟩ := hg
    obtain ⟨its, rv, p, hz⟩ := I.tuple hq
    obtain ⟨u, hu, ru⟩ := rv.get hx
    have pT : s.heap.IsTuple a its.toArray := p
    have lE : e < s.heap.objs.size := Heap.lt_size he
    have lI : it < s.heap.objs.size := by obtain ⟨_, q, _⟩ := hit; exact Heap.lt_size q
    have naI : a ≠ it := fun z => by
      obtain ⟨o1, q1, c1, _⟩ := pT
      obtain ⟨o2, q2, c2, _⟩ := hit
      rw [z, q2] at q1; cases q1
      rw [c2] at c1; simp at c1
    have naE : a ≠ e := fun z => by
      obtain ⟨o1, q1, c1, _⟩ := pT
      rw [z, he] at q1; cases q1
      simp at c1
    have nEf : e ∉ [it, a] := fun z => by
      rcases List.mem_cons.mp z with z | z
      · exact hne z
      · exact naE (List.mem_singleton.mp z).symm
    have lt : i < its.toArray.size := by
      have q := (List.getElem?_eq_some_iff.mp hu).1
      simpa using q
    refine wpAny_pyNext_enum_itemD (Draws.tuple (show X.A.in1.handled = none from I.ok.hd hc) it a naI its.toArray) he ⟨hit, pT⟩ lt hne nEf fun x' h' tk hP' ho hs' hT hsz hk => ?_
    have ex : x' = u := by
      have hP2 : its.toArray[i]? = some x' := hP'
      rw [List.getElem?_toArray, hu] at hP2
      exact (Option.some.inj hP2).symm
    subst ex
    refine ⟨_, rfl, wpAny_letOwnedTupleGo_enum (s := { s with heap := h', toks := tk + 1 }) ho fun h2 he2 sb => ?_⟩
    have hT2 : h2.get? s.heap.objs.size = some { cls := .type "tuple", data := .seq #[.int i tk, x'] } := (sb.2 _ (Nat.ne_of_gt lE)).trans hT
    have new : ObjOk X.prog X.w (upd H s.heap.objs.size (.tup [.int (i : Nat), x])) h2 s.heap.objs.size (.tup [.int (i : Nat), x]) :=
      ⟨by show 2 ≤ sizeLine; decide, [.int i tk, x'], .cons ⟨_, rfl⟩ (.cons ru .nil), ⟨_, hT2, rfl, _, rfl⟩⟩
    have J : L2.Inv X pins σ (upd H s.heap.objs.size (.tup [.int (i : Nat), x])) { s with heap := h2, toks := tk + 1 } :=
      I.turnedNew (ch := [e, it]) (fun b ob hb q => (sb.2 b (fun z => hb (by simp [z]))).trans (hk b ob (fun z => hb (by simp [z])) (fun z => hb (by simp [z])) q)) hf (Nat.le_refl _) new
    refine ⟨.ref s.heap.objs.size, _, J, rfl, ⟨_, x, rfl, I.hok.fresh (Nat.le_refl _), rfl, fun ys hy => by rw [I.tuple_inj hy hq]; exact hx⟩, ⟨⟨x', ?_⟩, hs'.1.at fun o q => (sb.2 it (Ne.symm hne)).trans q, hne⟩, fun b hb => ?_⟩
    · have e1 : ((i + 1 : Nat) : Int) = (i : Int) + 1 := by omega
      rw [e1]; exact he2
    · have hb' : b < s.heap.objs.size := by
        rcases List.mem_cons.mp hb with z | z
        · rw [z]; exact lE
        · rw [List.mem_singleton.mp z]; exact lI
      rw [upd_ne (Nat.ne_of_lt hb')]
      exact (hf b hb).1
  done := by
    intro X hP hw hK hc i pins s σ H E I hf st hg
    subst hP hw hK
    obtain ⟨⟨old, he⟩, hit, hne⟩ := st
    obtain ⟨xs, hq, hx⟩ := hg
    obtain ⟨its, rv, p, hz⟩ := I.tuple hq
    obtain ⟨f0, f1, f2, f3, f4, f5⟩ := hf it (by simp)
    have hl := rv.length
    have pT : s.heap.IsTuple a its.toArray := p
    have naI : a ≠ it := fun z => by
      obtain ⟨o1, q1, c1, _⟩ := pT
      obtain ⟨o2, q2, c2, _⟩ := hit
      rw [z, q2] at q1; cases q1
      rw [c2] at c1; simp at c1
    have D : Draws X.prog X.w X.A.in1 it [it, a] i (fun _ _ => False) (fun j h => j = i ∧ h.IsTupleIter it a i ∧ h.IsTuple a its.toArray) := {
      live := fun _ _ st => let ⟨o, ho, _⟩ := st.2.1; ⟨o, ho⟩
      frame := fun _ _ _ st hk => ⟨st.1, st.2.1.at fun o e => hk it (by simp) o e, st.2.2.at fun o e => hk a (by simp) o e⟩
      item := fun j s Q E hj st _ => absurd st.1 (Nat.ne_of_lt hj)
      done := fun s Q E st hE => wpAny_nextOf_tuple_end (show X.A.in1.handled = none from I.ok.hd hc) st.2.1 st.2.2 (by simp; omega) hE }
    exact wpAny_pyNext_enum_endD D he ⟨rfl, hit, pT⟩ fun h' eb => ⟨rfl, I.turned (t' := s.toks) (fun b o hb q => eb b o hb q) f0 f1 f3 f4 f5⟩
  self := fun A i s Q E st h => let ⟨⟨_, he⟩, _⟩ := st; wpAny_pyIter_enum he h
def iEnumT (K : PySem.W.Frag) (ta : TA) : TI := fun σ H R => ta σ H fun vs H1 => ∃ a xs, vs = [.ref a] ∧ SqT K H1 a xs ∧ R (IteT K a) H1
theorem pi_enumT {X : Cx} {e : Expr} {ta : TA} {p pos tpos : Pos} {elts : List Expr} {kk : Nat} (hg : Gl X "enumerate") (hm : X.mg "enumerate" = none) (ha : PA X [e] ta) (hs : starEach [e] X.env = [(false, eval e X.env)] := by rfl) :
    PI X (.Tuple elts kk tpos) (.Call (.Name "enumerate" p) [e] [] pos) (iEnumT X.K ta) := by
  refine ⟨fun pins s σ H R I h => Call_ (ld_blt I hg hm boot_enumerate (PyProof.Rows.callWith_type1 (thn (ha.run pos pins s σ H _ I h) fun us s1 ⟨vs, H1, I1, r1, q1⟩ => ?_) hs rfl))⟩
  obtain ⟨a, xs, rfl, hq, q⟩ := q1
  obtain ⟨u, rfl, ru⟩ := vals1 r1
  obtain rfl : u = Value.ref a := ru
  obtain ⟨its, rv, p', hz⟩ := I1.tuple hq
  refine enum1_begins (begins_tuple a its.toArray) p' fun h' he hit hk => wpAny_pyIter_enum he ?_
  have J : L2.Inv X pins σ H1 { s1 with heap := h' } := I1.kept (t' := s1.toks) hk
  refine ⟨s1.heap.objs.size + 1, [s1.heap.objs.size + 1, s1.heap.objs.size], _, _, H1, rfl, J, turn_enumT a (s1.heap.objs.size + 1) s1.heap.objs.size, ⟨⟨.none, he⟩, ⟨_, hit, rfl, rfl⟩, Nat.succ_ne_self _⟩, fun b hb => ?_, q⟩
  have hle : s1.heap.objs.size ≤ b := by
    rcases List.mem_cons.mp hb with z | z
    · rw [z]; exact Nat.le_add_right _ _
    · rw [List.mem_singleton.mp z]; exact Nat.le_refl _
  exact I1.fpOk hle (I1.hok.fresh hle)
/-- enumerate(xs), a list or a tuple -/
def enumD (ds : List D) : List D := ds.mapIdx fun i d => .tup [.int (i : Nat), d]
theorem enumD_len (ds : List D) : (enumD ds).length = ds.length := by unfold enumD; simp
theorem enumD_get {ds : List D} {i : Nat} {d : D} (h : (enumD ds)[i]? = some d) : ∃ x, ds[i]? = some x ∧ d = .tup [.int (i : Nat), x] := by
  unfold enumD at h
  rw [List.getElem?_mapIdx] at h
  cases e : ds[i]? with
  | none => rw [e] at h; cases h
  | some x => rw [e] at h; exact ⟨x, rfl, (Option.some.inj h).symm⟩
section
variable {K : PySem.W.Frag} {T : Tb} {F : Hp}
theorem itd_enumT {a : Addr} {xs : List V} {ds : List D} (h : SqT K F a xs) (r : Reps K T F ds xs) : ItD K T F (IteT K a) (enumD ds) := fun F' s' H' e hh => by
  have hq : SqT K H' a xs := sqt_mono hh.sub (sqt_mono e h)
  refine ⟨fun i hi => ⟨xs, hq, by rw [enumD_len] at hi; rw [← r.length]; exact hi⟩, fun i d hd => ?_⟩
  obtain ⟨x, hx, rfl⟩ := enumD_get hd
  obtain ⟨v, hv, rv⟩ := r.getD hx
  refine ⟨⟨xs, v, hq, hv⟩, fun v' H2 y => ?_⟩
  obtain ⟨t, x', rfl, nt, rfl, y⟩ := y
  have e2 := y xs hq
  rw [hv] at e2; cases e2
  exact new_pair hh nt (.int _) (rv.mono e)
theorem itd_enumL {a : Addr} {xs : List V} {ds : List D} (h : F a = some (.lst xs)) (r : Reps K T F ds xs) : ItD K T F (Ite K a) (enumD ds) := fun F' s' H' e hh => by
  have hq : SqL K H' a xs := sql_frz (e _ _ h) hh.sub
  refine ⟨fun i hi => ⟨xs, hq, by rw [enumD_len] at hi; rw [← r.length]; exact hi⟩, fun i d hd => ?_⟩
  obtain ⟨x, hx, rfl⟩ := enumD_get hd
  obtain ⟨v, hv, rv⟩ := r.getD hx
  refine ⟨⟨xs, v, hq, hv⟩, fun v' H2 y => ?_⟩
  obtain ⟨t, x', rfl, nt, rfl, y⟩ := y
  have e2 := y xs hq
  rw [hv] at e2; cases e2
  exact new_pair hh nt (.int _) (rv.mono e)
end
def dEnumT (r : Arg) : Arg := fun e s R E => r e s (fun ds s1 => match ds with
  | [.tup xs] => R (enumD xs) s1
  | _ => False) E
def dEnumL (r : Arg) : Arg := fun e s R E => r e s (fun ds s1 => match ds with
  | [.lst xs] => R (enumD xs) s1
  | _ => False) E
section
variable {X : Cx} {T : Tb} {W : WX} {a : Expr} {p pos tpos : Pos} {elts : List Expr} {kk : Nat} {r : Arg}
theorem di_enumT (hg : Gl X "enumerate") (hm : X.mg "enumerate" = none) (ha : DA X T W [a] r) (hs : starEach [a] X.env = [(false, eval a X.env)] := by rfl) : DI X T W (.Tuple elts kk tpos) (.Call (.Name "enumerate" p) [a] [] pos) (dEnumT r) := by
  refine ⟨⟨fun pins s σ H R I hR => (pi_enumT hg hm ha.pa hs).run pins s σ H R I ?_⟩⟩
  obtain ⟨F, e, s0, RR, E, he, hh, hx, hf, k⟩ := hR
  refine ⟨F, e, s0, _, E, he, hh, hx, hf, fun ds s1 vs H1 F1 q x hh1 rs => ?_⟩
  split at q
  · obtain ⟨v, rfl, r1⟩ := rs.one
    cases r1 with | tup l rr => exact ⟨_, _, rfl, sqt_mono hh1.sub l, k _ s1 _ H1 F1 q x hh1 (itd_enumT l rr)⟩
  · exact q.elim
theorem di_enumL (hg : Gl X "enumerate") (hm : X.mg "enumerate" = none) (ha : DA X T W [a] r) (hs : starEach [a] X.env = [(false, eval a X.env)] := by rfl) : DI X T W (.Tuple elts kk tpos) (.Call (.Name "enumerate" p) [a] [] pos) (dEnumL r) := by
  refine ⟨⟨fun pins s σ H R I hR => (pi_enum hg hm ha.pa hs).run pins s σ H R I ?_⟩⟩
  obtain ⟨F, e, s0, RR, E, he, hh, hx, hf, k⟩ := hR
  refine ⟨F, e, s0, _, E, he, hh, hx, hf, fun ds s1 vs H1 F1 q x hh1 rs => ?_⟩
  split at q
  · obtain ⟨v, rfl, r1⟩ := rs.one
    cases r1 with | lst l rr => exact ⟨_, _, rfl, sql_frz l hh1.sub, k _ s1 _ H1 F1 q x hh1 (itd_enumL l rr)⟩
  · exact q.elim
end
end Bk

/-! Bk: isinstance of an exception that is held; its field; try over deep data. -/
namespace PySem.W
open PySem PySem.Spec PySem.Calls PyProof.Rows
section
variable {prog : Program} {w : World} {A : Around} {E : Value → Shared → Prop} {s : Shared} {K : Frag} {x D : Addr} {ox : Obj} {dd : Obj}
theorem bk_classE (C : L2.ExcC K D) (X : K.In s.heap) (I : InstAt s.heap x ox D (some dd)) {Q : Option Value → Shared → Prop} (hq : Q (some (.ref D)) { s with toks := s.toks + 1 }) : wpAny (model prog w) A (getAttr? (.ref x) "__class__") Q E s := by
  have ff : findObj K D (some dd) "__class__" = some (.bind (.builtin "getset_descriptor.__get__") (.builtin "object.__class__")) := findObj_data (by obtain ⟨cd, e, _⟩ := any_some C.hd; rw [e]; rfl) C.ha C.hn C.ht
  obtain ⟨hp, g, d, t, os⟩ := s
  have lT := I.type (M := model prog w)
  have lA := looks_findIn (M := model prog w) X C.hg
  have lG := looks_findIn (M := model prog w) X C.hk
  have lF := looks_find (M := model prog w) X I ff
  have lS : Looks (model prog w) hp (isInstance (.ref x) (.type "BaseException")) true := lT.andThen (looks_subIn X C.hs)
  have z2 : (Value.builtin "BaseException.__getattribute__" == Value.builtin "object.__getattribute__") = false := by decide +kernel
  have z1 : (onTheHeap (Value.ref D) && Value.builtin "BaseException.__getattribute__" == Value.builtin "object.__getattribute__") = false := by rw [z2]; rfl
  unfold getAttr? getAttrBy? getAttrBy
  refine wpAny_bind (wpAny_mkText (wpAny_bind (wpAny_attempt (wpAny_holding (wpAny_bind (lT.at (wpAny_bind (lA.at ?_))))))))
  change wpAny _ _ (if (onTheHeap (Value.ref D) && Value.builtin "BaseException.__getattribute__" == Value.builtin "object.__getattribute__") = true then _ else _) _ _ _
  rw [z1]
  rw [if_neg Bool.false_ne_true]
  unfold getAttrByItsOwn hookBefore
  refine wpAny_bind ?_
  rw [if_pos (show onTheHeap (Value.ref D) = true by rfl)]
  refine lG.at (wpAny_bind (wpAny_attempt (wpAny_holding ?_)))
  unfold callGetattribute
  rw [show (false && onTheHeap (Value.builtin "BaseException.__getattribute__")) = false by rfl]
  rw [if_neg Bool.false_ne_true]
  unfold boundAndCalled
  rw [PySem.F.excAttr_ValueError.ga.bind (.ref x)]
  refine wpAny_bind (wpAny_pure ?_)
  change wpAny _ _ (call (.builtin "BaseException.__getattribute__") [.ref x, .str "__class__" t]) _ _ _
  refine wpAny_call (codeAny_call_builtin PySem.F.excAttr_ValueError.ga.plain PySem.F.entry_bexc_ga (@check_slot (model prog w) _ _ ⟨hp, g, d, t + 1, os⟩ "BaseException.__getattribute__" "BaseException" "__getattribute__" (.ref x) [.str "__class__" t] [] _ (by decide +kernel) (by decide +kernel) lS (PySem.F.args_bexc_ga (.ref x) (.str "__class__" t)) ?_))
  unfold Builtin.«object.__getattribute__»
  refine wpAny_bind (wpAny_of_eq (a := ((Value.ref x : Value), [Value.str "__class__" t])) (by first | rfl | (simp only [slotArgs]; rfl)) (wpAny_bind (wpAny_pure (wpAny_bind (lT.at (wpAny_bind (lF.at ?_)))))))
  change wpAny _ _ (holding [Value.builtin "object.__class__"] (call (.builtin "getset_descriptor.__get__") [.builtin "object.__class__", .ref x, .ref D]) >>= ret) _ _ _
  refine wpAny_bind (wpAny_holding (wpAny_call (class_get (s := ⟨hp, g, d, t + 1, os⟩) (ox := ox) (od := some dd) X I C.hm (wpAny_pure ?_))))
  change wpAny _ _ (handedOut (.ref D)) _ _ _
  rw [handedOut_of (v := .ref D) rfl]
  first
    | exact wpAny_pure (wpAny_pure hq)
    | exact wpAny_pure hq
    | exact wpAny_pure (wpAny_bind (wpAny_pure (wpAny_pure hq)))
theorem bk_kitx (C : L2.ExcC K D) : KitX K (.ref x) (.ref D) (fun h => InstAt h x ox D (some dd)) where
  ty := fun _ _ _ I => I.type
  it := fun _ _ X _ => by
    obtain ⟨cd, e, _⟩ := any_some C.hd
    unfold clsIn at e
    split at e
    · rename_i c2 d2 cd2 sl2 ho
      exact fun A2 Q2 E2 s2 k q => by
        unfold isType loadHead
        exact wpAny_bind (wpAny_loadPart (k _ _ (X _ _ ho)) (wpAny_pure q))
    · cases e
  ne := fun h tp dv its n sl X htp => by
    obtain ⟨cd, e, _⟩ := any_some C.hd
    cases hz : (Value.ref D == .ref tp) with
    | false => rfl
    | true =>
      have e2 : D = tp := Value.ref.inj (beq_iff_eq.mp hz)
      rw [← e2] at htp
      unfold clsIn at e
      split at e
      · rename_i c2 d2 cd2 sl2 ho
        have z := (X _ _ ho).symm.trans htp
        cases z
      · cases e
  ca := fun X I k => bk_classE C X I k
end
end PySem.W
namespace Bk
open PySem PySem.Spec PyProof.Rows L2
section
variable {X : Cx} {pins : List (Addr × Obj)} {σ : L2.St} {H : Hp} {s : Shared}
theorem inst_of {a C dx : Addr} {vs : List (Str × V)} (I : L2.Inv X pins σ H s) (ha : H a = some (ExcO C dx a)) (hd : H dx = some (.xd vs)) : ∃ (oe od : Obj) (mA : Str → Option Value), PySem.W.InstAt s.heap a oe C (some od) ∧ (∀ name, PySem.W.lookIn name od = some (mA name)) ∧ ∀ f, RelO (vs.lookup f) (mA f) := by
  obtain ⟨⟨oe, xs, e1, e2, e3, e4⟩, _, _⟩ := (show ObjOk X.prog X.w H s.heap a (.ext fun h => ∃ (oe : Obj) (vs : Array Value), h.get? a = some oe ∧ oe.cls = .ref C ∧ oe.dict = some dx ∧ oe.data = .fields vs) from I.hok a _ ha)
  obtain ⟨mA, hns, hr⟩ := (show ObjOk X.prog X.w H s.heap dx (.xd vs) from I.hok dx _ hd)
  obtain ⟨od, ho, hl⟩ := lookIn_ns hns
  exact ⟨oe, od, mA, ⟨e1, e2, by unfold PySem.W.notCls; rw [e4] <;> rfl, by rw [e3]; exact ho⟩, hl, hr⟩
/-- isinstance(e, c), e an exception that is held -/
def rIsH (K : PySem.W.Frag) : List V → Hp → VK → Prop := fun xs H Q => ∃ (a C dx : Addr) (vs : List (Str × V)) (c : V) (cv : Value) (b : Bool), xs = [.ref a, c] ∧ H a = some (ExcO C dx a) ∧ H dx = some (.xd vs) ∧ (∀ u, RelV c u → u = cv) ∧ ExcC K C ∧ PySem.W.kitOne K (.ref C) cv = some b ∧ Q (.bl b) H
theorem call_isH : CallR X (.builtin "isinstance") (rIsH X.K) := by
  intro pins s σ H xs us Q I r h
  obtain ⟨a, C, dx, vs, c, cv, b, rfl, ha, hd, hcv, hC, e, q⟩ := h
  obtain ⟨u1, u2, rfl, r1, r2⟩ := vals2 r
  obtain rfl : u1 = Value.ref a := r1
  have ec := hcv _ r2
  subst ec
  obtain ⟨oe, od, mA, J, _⟩ := inst_of I ha hd
  exact PySem.W.kia_one (PySem.W.bk_kitx hC) I.kIn J e (fun z => nomatch z) fun tk => ⟨.bl b, H, I.kept (t' := tk) fun _ _ z => z, rfl, q⟩
/-- e.f, e an exception that is held -/
def tXh (K : PySem.W.Frag) (f : Str) (te : TE) : TE := fun σ H Q => te σ H fun x H1 => ∃ (a C dx : Addr) (vs : List (Str × V)) (v : V), x = .ref a ∧ H1 a = some (ExcO C dx a) ∧ H1 dx = some (.xd vs) ∧ XfC K C ∧ PySem.W.findIn K (.ref C) f = some none ∧ vs.lookup f = some v ∧ Q v H1
theorem pe_xh {e : Expr} {te : TE} {pos : Pos} {n : Str} (he : PE X e te) (hb : attributeBase e n X.env (eval e X.env) = eval e X.env := by rfl) : PE X (.Attribute e n pos) (tXh X.K n te) := by
  refine ⟨fun pins s σ H Q I h => attr_of hb (thn (he.run pins s σ H _ I h) fun u s1 hh => ?_)⟩
  obtain ⟨x, H1, I1, rx, a, C, dx, vs, v, rfl, ha, hd, hX, hno, l, q⟩ := hh
  obtain rfl : u = Value.ref a := rx
  obtain ⟨oe, od, mA, J, hl, hr⟩ := inst_of I1 ha hd
  obtain ⟨w, hw, rw'⟩ := RelO.some_of (v := v) (o := mA n) (by rw [← l]; exact hr n)
  exact HandSPX.exc_get I1.kIn J hX.ga hX.gg hX.exC (PySem.W.findObj_own hX.hdC hno rfl (by rw [hl, hw])) (handed_of rw') ⟨v, H1, I1.tok _, rw', q⟩
end
end Bk

/-! Bk: isinstance, fields of errors, try over deep data. -/
namespace Bk
open PySem PySem.Spec PyProof.Rows L2

/-! ### isinstance of built-in classes -/
def tyName (d : D) (s : S) : Option String := match d with
  | .non => some "NoneType"
  | .bl _ => some "bool"
  | .int _ => some "int"
  | .str _ => some "str"
  | .lst _ => some "list"
  | .scr _ => some "list"
  | .tup _ => some "tuple"
  | .dic _ => some "dict"
  | .rf (.ref p) => match s.mu p with
    | some (.ml _) => some "list"
    | some (.mk _) => some "dict"
    | _ => none
  | _ => none
theorem Rep.ty {K : PySem.W.Frag} {T : Tb} {F H : Hp} {s : S} (hh : Hold K T F s H) {d : D} {v : V} {t : String} (r : Rep K T F d v) (h : tyName d s = some t) : TyX K H v (.type t) := by
  cases r with
  | non => cases h; exact .base .non
  | bl b => cases h; exact .base (.bl b)
  | int i => cases h; exact .base (.int i)
  | str x => cases h; exact .base (.str x)
  | lst l rr => cases h; exact .base (.lst (hh.sub _ _ l))
  | scr l =>
    cases h
    rcases hh.sub.seq l with (e | ⟨o, e⟩) | ⟨o, its, n, e, c, _⟩
    · exact .base (.lst e)
    · exact .base (.frz e)
    · exact .kList e c
  | tup l rr =>
    cases h
    rcases sqt_mono hh.sub l with (e | ⟨o, e⟩) | ⟨o, its, n, e, c, _⟩
    · exact .base (.tup e)
    · exact .fTuple e
    · exact .kTuple e c
  | dic l rr => cases h; exact .base (.dK (hh.sub _ _ l))
  | rf v =>
    cases v with
    | ref p =>
      have h' : (match s.mu p with | some (MO.ml _) => some "list" | some (MO.mk _) => some "dict" | _ => none) = some t := h
      cases e : s.mu p with
      | none => rw [e] at h'; cases h'
      | some m =>
        rw [e] at h'
        obtain ⟨_, q⟩ := hh.mu p m e
        cases m with
        | ml xs => cases h'; obtain ⟨vs, e1, _⟩ := q; exact .base (.lst e1)
        | mk xs => cases h'; obtain ⟨vs, e1, _⟩ := q; exact .base (.dK e1)
        | mo _ _ => cases h'
    | _ => cases h
  | exc _ _ _ => cases h
  | obj _ _ => cases h
  | pln _ _ _ => cases h
  | clo _ _ => cases h
def tyNames : List String := ["NoneType", "bool", "int", "str", "list", "tuple", "dict"]
def isTy (t n : String) : Bool := t == n || (t == "bool" && n == "int")
theorem kitB_tab : (tyNames.all fun t => tyNames.all fun n => kitB t n == some (isTy t n)) = true := by decide +kernel
theorem kitB_is {t n : String} (ht : t ∈ tyNames) (hn : n ∈ tyNames) : kitB t n = some (isTy t n) := by
  have h := List.all_eq_true.mp (List.all_eq_true.mp kitB_tab t ht) n hn
  exact beq_iff_eq.mp h
theorem tyName_mem {d : D} {s : S} {t : String} (h : tyName d s = some t) : t ∈ tyNames := by
  cases d <;> first
    | (cases h; simp [tyNames]; done)
    | (rename_i v; cases v <;> first
        | (cases h; done)
        | (rename_i p
           have h' : (match s.mu p with | some (MO.ml _) => some "list" | some (MO.mk _) => some "dict" | _ => none) = some t := h
           split at h' <;> cases h' <;> simp [tyNames]))
    | cases h
/-- isinstance(x, T) -/
def cIsi : GA := fun ds s R => match ds with
  | [x, .rf (.ty n)] => n ∈ tyNames ∧ ∃ t, tyName x s = some t ∧ R (.bl (isTy t n)) s
  | _ => False
section
variable {X : Cx} {T : Tb} {W : WX} {a b : Expr} {fa fb : Exp} {pos p p2 : Pos}
theorem cd_isi : CallD X T (.builtin "isinstance") cIsi := .of call_isi fun F s H ds vs R Q hh rs hg post => by
  unfold cIsi at hg
  split at hg
  · obtain ⟨v, w, rfl, r1, r2⟩ := rs.two
    cases r2
    obtain ⟨hn, t, ht, q⟩ := hg
    exact ⟨v, _, _, _, _, rfl, .ty _, r1.ty hh ht, kit_ty (kitB_is (tyName_mem ht) hn), post _ s _ H F q Ext.refl hh (.bl _)⟩
  · exact hg.elim
theorem dx_bty {x : Str} {id : String} (hg : Gl X x) (hm : X.mg x = none) (hv : bootBuiltins x = some (.type id)) (hn : x ≠ "__name__" := by decide) (hd : (x == ("__debug__" : Str)) = false := by decide) : DX X T W (.Name x p) (dC (.rf (.ty id))) := dx_of_c (v := .ty id) (pe_bltn hg hm hv (show L2.RelV (.ty id) (.type id) from rfl) hn hd) fun _ => .rf _

/-! ### isinstance of errors, their fields -/
/-- what the written part says of the classes kn, asked for the classes ms and the fields fs -/
structure EAll (K : PySem.W.Frag) (T : Tb) (kn ms fs : List Str) : Prop where
  hold : ∀ c ∈ kn, EHold K T c
  kit : ∀ c ∈ kn, ∀ m ∈ ms, PySem.W.kitOne K (.ref (T.cls c)) (.ref (T.cls m)) = some (subC c m)
  exm : ∀ c ∈ kn, ∀ m ∈ ms, PySem.W.exmOne K (.ref (T.cls c)) (.ref (T.cls m)) = some (subC c m)
  nof : ∀ c ∈ kn, ∀ f ∈ fs, PySem.W.findIn K (.ref (T.cls c)) f = some none
def dIsE (kn : List Str) (m : Str) (f : Exp) : Exp := fun e s R E => f e s (fun d s1 => match d with
  | .exc c _ => c ∈ kn ∧ R (.bl (subC c m)) s1
  | _ => False) E
theorem dx_isE {kn ms fs : List Str} {m : Str} (A : EAll X.K T kn ms fs) (hmem : m ∈ ms) (hi : Gl X "isinstance") (hmi : X.mg "isinstance" = none) (hbi : bootBuiltins "isinstance" = some (.builtin "isinstance")) (hg : Gl X m) (hm : X.mg m = some (.ref (T.cls m))) (ha : DX X T W a fa)
    (hd : (m == ("__debug__" : Str)) = false := by decide) (hs1 : starEach [.Name m p2] X.env = (false, eval (.Name m p2) X.env) :: starEach [] X.env := by rfl) (hs : starEach (a :: [.Name m p2]) X.env = (false, eval a X.env) :: starEach [.Name m p2] X.env := by rfl) (hpl : (backTo pos (starEach [.Name m p2] X.env)).any (·.1) = false := by rfl) :
    DX X T W (.Call (.Name "isinstance" p) [a, .Name m p2] [] pos) (dIsE kn m fa) := by
  have hn : DX X T W (.Name m p2) (dC (.rf (.ref (T.cls m)))) := dx_of_c (v := .ref (T.cls m)) (pe_glob hg hm (show L2.RelV (.ref (T.cls m)) (.ref (T.cls m)) from rfl) hd) fun _ => .rf _
  refine ⟨pe_imp (pe_callB call_isH hi hmi hbi (da_cons ha (da_cons hn da_nil hs1) hs).pa (by decide) (by decide) hs hpl) fun σ H Q h => ?_⟩
  obtain ⟨F, e, s, R, E, he, hh, hx, hf, post⟩ := h
  refine ⟨F, e, s, (fun ds s1 => match ds with
    | [.exc c fs, .rf v] => v = .ref (T.cls m) ∧ c ∈ kn ∧ R (.bl (subC c m)) s1
    | _ => False), E, he, hh, hx, ?_, fun ds s1 vs H1 F1 q1 x1 hh1 rs => ?_⟩
  · refine cast (congrArg (fun g => fa e s g E) ?_) hf
    funext d s1
    cases d <;> first | rfl | (exact propext ⟨fun z => z.elim, fun z => z.elim⟩) | (exact propext ⟨fun z => ⟨rfl, z⟩, fun z => z.2⟩)
  · dsimp only at q1 ⊢
    split at q1
    · obtain ⟨rfl, hc, q⟩ := q1
      obtain ⟨v, w, rfl, r1, r2⟩ := rs.two
      cases r2
      cases r1 with | exc l1 l2 rr =>
        exact ⟨_, _, _, _, _, _, _, rfl, hh1.sub _ _ l1, hh1.sub _ _ l2, fun u z => z, (A.hold _ hc).ec, A.kit _ hc m hmem, post _ s1 _ H1 F1 q x1 hh1 (.bl _)⟩
    · exact q1.elim
def dFldE (kn : List Str) (f : Str) (g : Exp) : Exp := fun e s R E => g e s (fun d s1 => match d with
  | .exc c fs => c ∈ kn ∧ ∃ x, fs.lookup f = some x ∧ R x s1
  | _ => False) E
theorem dx_fldE {kn ms fs : List Str} {f : Str} (A : EAll X.K T kn ms fs) (hf : f ∈ fs) (ha : DX X T W a fa) (hb : attributeBase a f X.env (eval a X.env) = eval a X.env := by rfl) : DX X T W (.Attribute a f pos) (dFldE kn f fa) :=
  ⟨pe_imp (pe_xh ha.pe hb) fun σ H Q h => by
    obtain ⟨F, e, s, R, E, he, hh, hx, hg, post⟩ := h
    refine ⟨F, e, s, _, E, he, hh, hx, hg, fun d s1 v H1 F1 q x1 hh1 r => ?_⟩
    split at q
    · obtain ⟨hc, x, hl, q⟩ := q
      cases r with | exc l1 l2 rr =>
        obtain ⟨w, hw, rw'⟩ := rr.look hl
        exact ⟨_, _, _, _, w, rfl, hh1.sub _ _ l1, hh1.sub _ _ l2, (A.hold _ hc).xf, A.nof _ hc f hf, hw, post _ s1 _ H1 F1 q x1 hh1 rw'⟩
    · exact q.elim⟩
end
end Bk

/-! Bk: try over deep data. -/
namespace Bk
open PySem PySem.Spec PyProof.Rows L2

section
variable {K : PySem.W.Frag} {T : Tb} {F H : Hp} {s : S} {p : Addr} {vs : List (Str × V)}
/-- an exception's dict is taken as it is from now on -/
theorem Hold.adoptX (hh : Hold K T F s H) (h : H p = some (.xd vs)) : ∃ F', Same F F' ∧ F' p = some (.xd vs) ∧ (∀ q, q ≠ p → F' q = F q) ∧ Hold K T F' s H := by
  have nM : ∀ {q : Addr} {u : MO}, s.mu q = some u → q ≠ p := fun {q u} e z => by
    obtain ⟨_, r⟩ := hh.mu q u e
    rw [z, h] at r
    cases u with
    | ml ds => obtain ⟨_, y, _⟩ := r; cases y
    | mk ds => obtain ⟨_, y, _⟩ := r; cases y
    | mo c fs => obtain ⟨_, _, y, _⟩ := r; cases y
  have sm : Same F (upd F p (.xd vs)) := fun b x e => by
    by_cases z : b = p
    · rw [z, upd_same]
      have y := hh.sub b x e
      rw [z, h] at y; exact y
    · rw [upd_ne z]; exact e
  refine ⟨upd F p (.xd vs), sm, upd_same, fun q hq => upd_ne hq, ⟨fun b x e => ?_, fun q u e => ?_, fun q k e => ?_, hh.tab, fun q ps e => ?_⟩⟩
  · by_cases z : b = p
    · subst z; rw [upd_same] at e; rw [h]; exact e
    · rw [upd_ne z] at e; exact hh.sub b x e
  · obtain ⟨a, b⟩ := hh.mu q u e
    rw [upd_ne (nM e)]
    exact ⟨a, b.mono sm⟩
  · obtain ⟨l, c, t, cs, ls, g1, g2, g3, g4, g5, g6, g7, g8, g9⟩ := hh.gen q k e
    have nq : q ≠ p := fun z => by rw [z, h] at g5; cases g5
    have nl : l ≠ p := fun z => by rw [z, h] at g7; cases g7
    exact ⟨l, c, t, cs, ls, by rw [upd_ne nq]; exact g1, by rw [upd_ne nl]; exact g2, g3, g4, g5, sm _ _ g6, g7, g8, g9⟩
  · by_cases z : q = p
    · subst z; rw [upd_same] at e; cases e
    · rw [upd_ne z] at e; exact hh.tabF q ps e
theorem Ext.adoptX {F0 H0 F' : Hp} {s0 : S} (x : Ext F0 s0 H0 F s H) (h : H p = some (.xd vs)) (sm : Same F F') (ot : ∀ q, q ≠ p → F' q = F q) : Ext F0 s0 H0 F' s H := ⟨x.same.trans sm, fun q u e w z => by
  obtain ⟨h1, n1⟩ := x.rest q u e w z
  refine ⟨h1, fun y => n1 ?_⟩
  rcases y with y | y
  · have nq : q ≠ p := fun q2 => by
      rw [q2, h] at h1
      cases h1
      exact z
    rw [ot q nq] at y
    exact .inl y
  · exact .inr y⟩
end

section
variable {X : Cx} {T : Tb} {W : WX} {k : Nat} {body suite : List Stmt} {b₀ : Stmt} {t u : DTS} {cn n yn : Str} {kn ms fs : List Str} {np pos pos' p1 p2 p3 p4 p5 tp : Pos}
/-- try: body / except C: suite -/
def dTry (kn : List Str) (c : Str) (t u : DTS) : DTS := fun D e s => t { D with ex := fun x e' s' => x.c ∈ kn ∧ if subC x.c c = true then u D e' s' else D.ex x e' s' } e s
theorem ds_try (A : EAll X.K T kn ms fs) (hmem : cn ∈ ms) (B : Bod X W k) (hs : X.stack = X.env :: X.outer) (hf : X.env.frame = some X.env.locals) (hg : Gl X cn) (hm : X.mg cn = some (.ref (T.cls cn)))
    (hb : ∀ (W' : WX) (pn : List (Addr × Obj)) (xe : Value → Shared → Prop), Bod (X.tr pn xe) W' k → DSs (X.tr pn xe) T W' body t)
    (hsu : ∀ (a : Addr) (pn : List (Addr × Obj)), DSs (X.suite a pn) T W (b₀ :: suite) u) (hd : (cn == ("__debug__" : Str)) = false := by decide) :
    DS X T W (.Try body [.ExceptHandler (some (.Name cn np)) none (b₀ :: suite) pos'] [] [] pos) (dTry kn cn t u) :=
  ⟨ps_imp (ps_try_only (tb := fun W' => liftS X.K T W' t) (ts := fun _ _ _ => liftS X.K T W u) hs hf ⟨hg, hd, .inl hm⟩ B.tk (fun W' pn xe tk own => (hb W' pn xe ⟨B.room, B.grd, tk, own⟩).pss) (fun a oe cls d pn _ _ => (hsu a _).pss)) fun Q σ H ⟨F, e, s, D, he, hh, ht, p⟩ => by
    refine ⟨F, e, s, _, he, hh, ht, ⟨p.nx, p.rt, p.bk, p.ct, ?_⟩⟩
    rintro x e' s' cls dx σ' H' F' ⟨hk, q⟩ a hh' he' r
    obtain ⟨rfl, r⟩ := r
    refine ⟨_, A.exm _ hk _ hmem, fun hy ad _ => ?_, fun hn => ?_⟩
    · rw [if_pos hy] at q
      exact ⟨F', e', s', D, he', hh', q, p.mono a⟩
    · rw [if_neg (by rw [hn]; decide)] at q
      exact p.ex x e' s' _ dx σ' H' F' q a hh' he' ⟨rfl, r⟩⟩
/-- try: body / except (A, B, C) as n: y = n -/
def dTryHold (kn cs : List Str) (i y : Nat) (t : DTS) : DTS := fun D e s => t { D with ex := fun x e' s' => x.c ∈ kn ∧ if cs.any (subC x.c) = true then D.nx (dset (dset (dset e' i (some (.exc x.c x.fs))) y (some (.exc x.c x.fs))) i none) s' else D.ex x e' s' } e s
theorem ds_tryHold {i y : Nat} {c1 c2 c3 : Str} {kk : Nat} (A : EAll X.K T kn ms fs) (m1 : c1 ∈ ms) (m2 : c2 ∈ ms) (m3 : c3 ∈ ms) (B : Bod X W k) (hs : X.stack = X.env :: X.outer) (hf : X.env.frame = some X.env.locals) (hex : X.ex = []) (hN : X.N.Nodup) (hi : X.N[i]? = some n) (hln : X.env.kindOf n = some .local)
    (hy : X.N[y]? = some yn) (hyl : Loc X.env.scope yn) (hyf : X.fn yn = true ∨ X.env.scope.names.lookup yn = some .local) (hnd : (n == ("__debug__" : Str)) = false) (hnc : (n == ("__classdict__" : Str)) = false)
    (n1 : Names X c1 (.ref (T.cls c1))) (n2 : Names X c2 (.ref (T.cls c2))) (n3 : Names X c3 (.ref (T.cls c3)))
    (hb : ∀ (W' : WX) (pn : List (Addr × Obj)) (xe : Value → Shared → Prop), Bod (X.tr pn xe) W' k → DSs (X.tr pn xe) T W' body t) (hsw : ∀ a pn, swapsWith (.Name n p5) (some (.Name yn p4)) pos'.line (X.suite a pn).env = pure false) :
    DS X T W (.Try body [.ExceptHandler (some (.Tuple [.Name c1 p1, .Name c2 p2, .Name c3 p3] kk tp)) (some n) [.Assign [.Name yn p4] (.Name n p5) pos'] np] [] [] pos) (dTryHold kn [c1, c2, c3] i y t) :=
  ⟨ps_imp (ps_try_hold (i := i) (tb := fun W' => liftS X.K T W' t) (ts := fun _ _ _ => tAsg (tVar i) (gName y)) hs hf hex hN hi hln (etest_tup3 n1 n2 n3) B.tk (fun W' pn xe tk own => (hb W' pn xe ⟨B.room, B.grd, tk, own⟩).pss)
    (fun a oe cls d pn _ _ => pss_one (ps_set (X := X.suite a ((a, oe) :: pn)) hN hy hyl (pe_var hi (.inl hln) hnd hnc) (hsw _ _) hyf))) fun Q σ H ⟨F, e, s, D, he, hh, ht, p⟩ => by
    refine ⟨F, e, s, _, he, hh, ht, ⟨p.nx, p.rt, p.bk, p.ct, ?_⟩⟩
    rintro x e' s' cls dx σ' H' F' ⟨hk, q⟩ a hh' he' ⟨rfl, ddx, vs, rfl, hxd, rf⟩
    have ea : PySem.W.exmAny X.K (.ref (T.cls x.c)) [.ref (T.cls c1), .ref (T.cls c2), .ref (T.cls c3)] = some ([c1, c2, c3].any (subC x.c)) := by
      unfold PySem.W.exmAny PySem.W.exmAny PySem.W.exmAny PySem.W.exmAny
      rw [A.exm _ hk _ m1, A.exm _ hk _ m2, A.exm _ hk _ m3]
      rfl
    refine ⟨_, ea, fun hy' => ⟨_, ddx, rfl, rfl, fun ad nad hlen => ?_⟩, fun hn => ?_⟩
    · rw [if_pos hy'] at q
      have il : i < σ'.length := by rw [hlen]; exact (List.getElem?_eq_some_iff.mp hi).1
      refine ⟨.ref ad, by rw [List.getElem?_set_self il], fun hn0 => ?_⟩
      obtain ⟨F2, sm, hF2, ot, h2⟩ := hh'.adoptX hxd
      have a2 := a.adoptX hxd sm ot
      have nF : F2 ad = none := h2.fresh nad
      have h3 := h2.frz (o := ExcO (T.cls x.c) ddx ad) nad (fun ps z => by unfold ExcO at z; cases z)
      have a3 := a2.trans (Ext.frz (o := ExcO (T.cls x.c) ddx ad) h2 nad)
      have sm3 : Same F2 (upd F2 ad (ExcO (T.cls x.c) ddx ad)) := same_upd nF
      have rx : Rep X.K T (upd F2 ad (ExcO (T.cls x.c) ddx ad)) (.exc x.c x.fs) (.ref ad) := .exc upd_same (sm3 _ _ hF2) (rf.mono (sm.trans sm3))
      exact p.nx _ s' _ _ _ q a3 h3 ((((he'.mono (sm.trans sm3)).set rx i).set rx y).del i)
    · rw [if_neg (by rw [hn]; decide)] at q
      exact p.ex x e' s' _ _ σ' H' F' q a hh' he' ⟨rfl, ddx, vs, rfl, hxd, rf⟩⟩
end
end Bk

/-! Bk: x(lambda: e) over deep data. -/
namespace Bk
open PySem PySem.Spec PyProof.Rows L2 LamX

section
variable {K : PySem.W.Frag} {T : Tb} {F H H1 : Hp} {s : S}
theorem Hold.extN (hh : Hold K T F s H) (e : ExtN H H1) (t : LamX.Tabs T.tabs H1) : Hold K T F s H1 ∧ Ext F s H F s H1 := by
  have km : ∀ {o : MO} {h : Option HO}, MRep K T F o h → ∃ u, h = some u ∧ ∀ ps, u ≠ .tbl ps := fun {o h} r => by
    cases o with
    | ml ds => obtain ⟨vs, y, _⟩ := r; exact ⟨_, y, fun _ z => by cases z⟩
    | mk ds => obtain ⟨vs, y, _⟩ := r; exact ⟨_, y, fun _ z => by cases z⟩
    | mo c fs => obtain ⟨dx, vs, y, _⟩ := r; exact ⟨_, y, fun _ z => by cases z⟩
  refine ⟨⟨fun b o x => e b o (hh.sub b o x) (fun ps z => hh.tabF b ps (by rw [x, z])), fun q u x => ?_, fun q k x => ?_, t, hh.tabF⟩, Same.refl F, fun q u w z kp => ⟨e q u w (fun ps y => by rw [y] at kp; exact kp), fun y => z ?_⟩⟩
  · obtain ⟨a, r⟩ := hh.mu q u x
    obtain ⟨o, ho, nt⟩ := km r
    refine ⟨a, ?_⟩
    rw [e q o ho nt, ← ho]; exact r
  · obtain ⟨l, c, t, cs, ls, g1, g2, g3, g4, g5, g6, g7, g8, g9⟩ := hh.gen q k x
    exact ⟨l, c, t, cs, ls, g1, g2, g3, g4, e _ _ g5 (fun _ z => by cases z), g6, e _ _ g7 (fun _ z => by cases z), g8, g9⟩
  · rcases y with y | y | ⟨a, m, h1, h2⟩
    · exact .inl y
    · exact .inr (.inl y)
    · refine .inr (.inr ⟨a, m, h1, h2.imp id ?_⟩)
      rintro ⟨kvs, l, h3, h4, h5⟩
      obtain ⟨l', c, t, cs, ls, g1, g2, g3, g4, g5, g6, g7, g8, g9⟩ := hh.gen a m h1
      have z := e _ _ g5 (fun _ z => by cases z)
      rw [h3] at z; cases z
      exact ⟨_, l, g5, h4, h5⟩
end

theorem among_more {pos : Pos} {c : Value} {l m : List Value} (h : codeAmong pos l = some c) : codeAmong pos (l ++ m) = some c := by
  fun_induction codeAmong pos l with
  | case1 line t col u c' rest hc =>
    rw [List.cons_append, List.cons_append, List.cons_append, codeAmong, if_pos hc]; exact h
  | case2 line t col u c' rest hc ih =>
    rw [List.cons_append, List.cons_append, List.cons_append, codeAmong, if_neg hc]; exact ih h
  | case3 => cases h
section
variable {X : Cx} {pins : List (Addr × Obj)} {σ : L2.St} {H : Hp} {s : Shared}
/-- the lambda is made: its code object stands in the table -/
theorem lam_make3 {TT : List (Addr × Str)} {c P : Addr} {params : Arguments} {body : Expr} {scope : Scope} {pos : Pos} {E : Value → Shared → Prop} {Q : Value → Shared → Prop} (I : L2.Inv X pins σ H s) (TB : TabB X.base X.mg c P) (hcode : X.env.code = .ref c)
    (hm : (P, X.env.qual ++ "<lambda>") ∈ TT) (hu : ∀ p ∈ TT, p.1 = P → p.2 = X.env.qual ++ "<lambda>") (hT : LamX.Tabs TT H) (hdef : defaultsOf params X.env = ([], [])) (hfree : ∀ y ∈ scope.names, y.2 = .free → ∃ c, X.env.cells.lookup y.1 = some c)
    (h : ∀ (f c' : Addr) (pm ctv : Value) (H1 : Hp) (s' : Shared), L2.Inv X pins σ H1 s' → ExtN H H1 → LamX.Tabs TT H1 → s'.heap.get? f = some (PySem.W.kla_obj "<lambda>" (X.env.qual ++ "<lambda>") params body scope (cloFrom X.env.cells scope.names []) pm c' ctv) →
      H1 f = none → f ∉ frs X.stack → (∃ ps1, H1 P = some (.tbl ps1) ∧ codeAmong pos ps1.toList = some (.ref c')) → Q (.ref f) s') :
    wpAny (model X.prog X.w) X.A (eval (.Lambda params body scope pos) X.env) Q E s := by
  obtain ⟨ps, tP, tOk, tAll⟩ := hT _ hm
  refine PySem.W.kla_eval hdef ?_
  have bmP : s.heap.BuiltinsAt X.mg P := TB.bm.keeps I.bk
  have atP : s.heap.get? P = some { cls := .none, data := .fields ps } := I.hok P _ tP
  have offStack : ∀ f, s.heap.objs.size ≤ f → f ∉ frs X.stack := fun f hf z => by
    rcases List.mem_cons.mp (I.stkSub _ z) with e | e
    · exact absurd I.lt (by rw [← e]; exact Nat.not_lt.mpr hf)
    · exact I.nofs hf e
  have cdP : PySem.W.CodeHd s.heap c P := TB.code.keeps I.bk
  have nsG : s.heap.Ns mainGlobals X.mg := I.mod.glob.keeps I.bk
  cases hc : codeAmong pos ps.toList with
  | some cv =>
    obtain ⟨c', rfl, hco⟩ := tAll pos cv hc
    refine PySem.W.kla_makeFunctionHit (mg := X.mg) (c := c) (P := P) (ps := ps) (closure_ok hfree) I.ok.glob nsG hcode cdP atP tOk hc bmP fun ctv h' tk hx hsz => ?_
    have J : L2.Inv X pins σ H { s with heap := h'.push (PySem.W.kla_obj "<lambda>" (X.env.qual ++ "<lambda>") params body scope (cloFrom X.env.cells scope.names []) ((X.mg "__name__").getD .none) c' ctv), toks := tk } := I.kept fun b o e => Heap.get?_push_of_some _ (hx b o e)
    exact h h'.objs.size c' _ ctv H _ J (ExtN.refl H) hT (Heap.get?_push_size _ rfl) (I.hok.fresh hsz) (offStack _ hsz) ⟨ps, tP, hc⟩
  | none =>
    refine PySem.W.kla_makeFunction (mg := X.mg) (c := c) (P := P) (ps := ps) (closure_ok hfree) I.ok.glob nsG hcode cdP atP tOk hc TB.gP bmP fun c' ctv h' tk hx hge hlt hrec htb => ?_
    obtain ⟨c2, oc, vs, t, e2, hoc, hd, hv⟩ := hrec
    cases e2
    have szL : s.heap.objs.size ≤ h'.objs.size := Nat.le_trans hge (Nat.le_of_lt hlt)
    have noC : H c' = none := I.hok.fresh hge
    have J := inv_table (t' := tk) (more := #[rawInt pos.line, rawInt pos.col, .ref c']) (h' := h'.push (PySem.W.kla_obj "<lambda>" (X.env.qual ++ "<lambda>") params body scope (cloFrom X.env.cells scope.names []) ((X.mg "__name__").getD .none) c' ctv)) I tP
      (fun b o hb e => Heap.get?_push_of_some _ (hx b o hb e)) (Heap.get?_push_of_some _ htb) hge ⟨oc, vs, t, Heap.get?_push_of_some _ hoc, hd, hv⟩
    have nPc : P ≠ c' := ne_of_none tP noC
    have atP2 : upd (upd H P (.tbl (ps ++ #[rawInt pos.line, rawInt pos.col, .ref c']))) c' (CodeO c' (X.env.qual ++ "<lambda>")) P = some (.tbl (ps ++ #[rawInt pos.line, rawInt pos.col, .ref c'])) := by rw [upd_ne nPc, upd_same]
    have eX : ExtN H (upd (upd H P (.tbl (ps ++ #[rawInt pos.line, rawInt pos.col, .ref c']))) c' (CodeO c' (X.env.qual ++ "<lambda>"))) := fun b o e n => by
      rw [upd_ne (ne_of_none e noC), upd_ne (fun z => n ps (Option.some.inj (e.symm.trans (by rw [z]; exact tP))))]
      exact e
    have eL : (ps ++ #[rawInt pos.line, rawInt pos.col, .ref c']).toList = ps.toList ++ [rawInt pos.line, rawInt pos.col, .ref c'] := by simp
    refine h h'.objs.size c' _ ctv _ _ J eX (fun p hp => ?_) (Heap.get?_push_size _ rfl) ?_ (offStack _ szL) ⟨_, atP2, by rw [eL]; exact codeAmong_snoc _ tOk hc⟩
    · by_cases hb : p.1 = P
      · rw [hu p hp hb, hb]
        refine ⟨_, atP2, by rw [eL]; exact PySem.TriplesOk_snoc _ _ _ _ tOk, fun p' cv hcv => ?_⟩
        rw [eL] at hcv
        rcases among_app _ tOk hcv with z | z
        · obtain ⟨c0, e1, e2⟩ := tAll p' cv z
          exact ⟨c0, e1, eX _ _ e2 codeO_ne⟩
        · exact ⟨c', z, upd_same⟩
      · obtain ⟨ps', a1, a2, a3⟩ := hT p hp
        refine ⟨ps', by rw [upd_ne (ne_of_none a1 noC), upd_ne hb]; exact a1, a2, fun p' cv hcv => ?_⟩
        obtain ⟨c0, e1, e2⟩ := a3 p' cv hcv
        exact ⟨c0, e1, eX _ _ e2 codeO_ne⟩
    · rw [upd_ne (Nat.ne_of_gt hlt), upd_ne (Nat.ne_of_gt (Nat.lt_of_lt_of_le (Heap.lt_size atP) szL))]
      exact I.hok.fresh szL
end
/-- what a call of a thing without arguments does -/
abbrev Act := S → Q1 → XQ → Prop
/-- the thing at slot 0, called -/
def dAct (f : Addr) (xs : List D) (vs : List V) (c : Act) : Exp := fun e s R E => nth e 0 = some (.clo f xs vs) ∧ c s R E
/-- what the slots hold, as one list -/
theorem clo_of {K : PySem.W.Frag} {T : Tb} {F : Hp} : ∀ {e : DEnv} {σ : L2.St}, ERep K T F e σ → ∃ (xs : List D) (vs : List V), Reps K T F xs vs ∧ ∀ F', Reps K T F' xs vs → ERep K T F' e σ
  | _, _, .nil => ⟨[], [], .nil, fun _ _ => .nil⟩
  | _, _, .none r => by
    obtain ⟨xs, vs, h1, h2⟩ := clo_of r
    exact ⟨xs, vs, h1, fun F' h => .none (h2 F' h)⟩
  | _, _, .some (d := d) (v := v) q r => by
    obtain ⟨xs, vs, h1, h2⟩ := clo_of r
    exact ⟨d :: xs, v :: vs, .cons q h1, fun F' h => by cases h with | cons a b => exact .some a (h2 F' b)⟩
section
variable {X : Cx} {pins : List (Addr × Obj)} {σ : L2.St} {H : Hp} {s : Shared} {T : Tb}
/-- the lambda called in the def that got it -/
theorem dx_act {Eg : XK} {Ng : List Str} {qg : Str} {sg : Scope} {g f c' : Addr} {cdg pm ctv : Value} {params : Arguments} {body : Expr} {scope : Scope} {k : Nat} {a : Str} {pn : List (Addr × Obj)} {xe : Value → Shared → Prop} {W : WX} {p1 p2 : Pos} {xs : List D} {vs : List V} {e0 : DEnv} {fb : Exp}
    (I : L2.Inv X pins σ H s) (L : LamS X.env.scope scope) (hf : s.heap.get? f = some (PySem.W.kla_obj "<lambda>" (X.env.qual ++ "<lambda>") params body scope (cloFrom X.env.cells scope.names []) pm c' ctv)) (hfn : H f = none) (hfr : f ∉ frs X.stack)
    (hbind : bindArgs (PySem.W.kla_fn "<lambda>" (X.env.qual ++ "<lambda>") params body scope (cloFrom X.env.cells scope.names []) pm (.ref c') ctv) ⟨[], []⟩ = pure [])
    (tk : Takes ((cxOf (L2.CX X.prog X.w) X.prog X.w X.K X.mg X.base Ng qg sg g cdg X.A X.stack s H Eg).tr pn xe) W) (hr : Room (k + 1) (X.A.deeper (envOfC qg sg s.heap.objs.size g cdg))) (hgd : X.A.guards = some [])
    (hbody : ∀ (A : Around) (outer : List Env) (s : Shared) (H : Hp) (E : XK), Bod (lamCx X A outer s H E scope f c') (wBody E) k → DX (lamCx X A outer s H E scope f c') T (wBody E) body fb)
    (hclo : ∀ F', Reps X.K T F' xs vs → ERep X.K T F' e0 σ) (hN : Ng[0]? = some a) (hv : Vis sg a) {P : Addr} {lpos : Pos} {ps1 : Array Value} (hmT : (P, X.env.qual ++ "<lambda>") ∈ T.tabs) (hP : H P = some (.tbl ps1)) (hca : codeAmong lpos ps1.toList = some (.ref c'))
    (hd : (a == ("__debug__" : Str)) = false) (hcd : (a == ("__classdict__" : Str)) = false) :
    DX ((cxOf (L2.CX X.prog X.w) X.prog X.w X.K X.mg X.base Ng qg sg g cdg X.A X.stack s H Eg).tr pn xe) T W (.Call (.Name a p1) [] [] p2) (dAct f xs vs (fun s R E => fb e0 s R E)) := by
  refine ⟨⟨fun pinsZ sZ σZ HZ Q IZ hq => ?_⟩⟩
  obtain ⟨F1, eZ, s1, R, E, heZ, hhZ, hxZ, ⟨hs0, hact⟩, post⟩ := hq
  obtain ⟨vf, hs, rvf⟩ := heZ.at hs0
  have he0 : ERep X.K T F1 e0 σ ∧ vf = .ref f := by
    cases rvf with | clo _ r => exact ⟨hclo F1 r, rfl⟩
  obtain ⟨he0, rfl⟩ := he0
  have hc : HZ c' = some (CodeO c' (X.env.qual ++ "<lambda>")) := by
    obtain ⟨ps, h1, h2, h3⟩ := hhZ.tab _ hmT
    obtain ⟨more, h4⟩ := IZ.base.tbls P ps1 hP
    rw [h1] at h4
    cases h4
    obtain ⟨c2, e1, e2⟩ := h3 lpos (.ref c') (by rw [Array.toList_append]; exact among_more hca)
    cases e1
    exact e2
  refine wpAny_Call_Name_kw (thn ((pe_var (X := (cxOf (L2.CX X.prog X.w) X.prog X.w X.K X.mg X.base Ng qg sg g cdg X.A X.stack s H Eg).tr pn xe) (pos := p1) (i := 0) hN hv hd hcd).run pinsZ sZ σZ HZ (fun v H2 => v = .ref f ∧ H2 = HZ) IZ ⟨.ref f, hs, rfl, rfl⟩) fun u s2 ⟨v, H2, I2, r2, q2⟩ => ?_)
  obtain ⟨rfl, rfl⟩ := q2
  obtain rfl : u = Value.ref f := r2
  have fAt : s2.heap.get? f = some (PySem.W.kla_obj "<lambda>" (X.env.qual ++ "<lambda>") params body scope (cloFrom X.env.cells scope.names []) pm c' ctv) := I2.base.keep f _ hf hfn hfr (fun z => nomatch (show f ∈ ([] : List Addr) from z))
  refine PySem.W.callWith_F0 ⟨_, _, _, _, fAt⟩ ?_
  have unZ : Un (frs X.stack) [] H H2 s.heap s2.heap := I2.base
  obtain ⟨⟨oc, vs', t, hoc, hdc, hvc⟩, _, _⟩ := I2.hok c' _ hc
  have ran : codeAny (model X.prog X.w) (X.A.deeper (envOfC qg sg s.heap.objs.size g cdg)) (.call (.ref f) ⟨[], []⟩) (CR (L2.CX X.prog X.w) (envOfC qg sg s.heap.objs.size g cdg :: X.stack) X.prog X.w H2 s2 Q (fun cls d H' => W cls d σZ H')) s2 := by
    refine PySem.W.kla_callFunE hr.depth fAt rfl L.co L.gen rfl ⟨c', oc, vs', t, rfl, hoc, hdc, hvc⟩ ?_
    rw [hbind]
    refine wpAny_pure (wpAny_newFunctionEnv (fun y hy => (L.own y hy).2) (fun y hy => absurd hy (by simp)) (fun h₁ hns hsb => ⟨I2.nolimit.fresh _ hsb, ?_⟩) L.kind)
    show codeAny _ _ (.expr body (lamEnv X scope s2.heap.objs.size f c')) _ _
    have kp : ∀ b o, s2.heap.get? b = some o → h₁.get? b = some o := fun b o e => hsb.extBut b o (Nat.ne_of_lt (Heap.lt_size e)) (Heap.get?_push_of_some _ e)
    have JL : L2.Inv (lamCx X (X.A.deeper (envOfC qg sg s.heap.objs.size g cdg)) (envOfC qg sg s.heap.objs.size g cdg :: X.stack) s2 H2 (fun cls d H' => W cls d σZ H') scope f c') [] σ H2 { s2 with heap := h₁, toks := s2.toks + ([] : List (Str × Value)).length } :=
      lam_start2 I L I2.env0 hr.hd unZ hns kp
    refine PySem.W.kla_codeExpr (wpAny_mono ((hbody _ _ s2 H2 (fun cls d H' => W cls d σZ H') ⟨hr.deeper _, hgd, takes_of rfl rfl rfl rfl, passes_of rfl⟩).pe.run [] _ _ H2 Q JL ⟨F1, e0, s1, R, E, he0, hhZ, fun x s' cls dx H' F' q x1 hh1 r => hxZ x s' cls dx H' F' q x1 hh1 r, hact, post⟩) (fun v s' hq => ?_) fun e s' hq => hq)
    obtain ⟨w', H', J', rv, q⟩ := hq
    exact ⟨w', H', J'.os, J'.bare, J'.base, J'.hok, rv, q⟩
  refine wpAny_call (codeAny_mono ran fun r s' hq => ?_)
  cases r with
  | error e => exact tk e s' (XE.of_call I2 (fun _ _ _ q => q) hq)
  | ok fl =>
    cases fl with
    | ret u => exact I2.after hq
    | next => exact False.elim hq
    | brk => exact False.elim hq
    | cont => exact False.elim hq
end

/-- the ends of a def that is called with a lambda -/
def dLam (N : List Str) (tB : Act → Addr → List D → List V → DTS) (fb : Exp) : Exp := fun e s R E => ∀ (f : Addr) (xs : List D) (vs : List V), tB (fun s R E => fb e s R E) f xs vs (fnEnds R E) (dstart N [.clo f xs vs]) s
section
variable {X : Cx} {T : Tb} {W : WX}
/-- x(lambda: body) -/
theorem dx_lam {x a : Str} {g c P : Addr} {fd : FuncData} {st : Stmt} {k : Nat} {Ng : List Str} {params : Arguments} {body : Expr} {scope : Scope} {p lpos pos : Pos} {fb : Exp} {tB : Act → Addr → List D → List V → DTS}
    (Fg : Fun X.K x x st g fd) (Sg : FnScope Ng [a] (defScope st)) (hg : Gl X x) (hm : X.mg x = some (.ref g)) (hb : L2.Binds X.K fd [a] []) (hNg : Ng[0]? = some a) (hva : Vis (defScope st) a) (tk : Takes X W)
    (hB : ∀ (cdv : Value) (A : Around) (outer : List Env) (s : Shared) (H : Hp) (E : XK) (f : Addr) (xs : List D) (vs : List V) (act : Act), Bod (cxOf (L2.CX X.prog X.w) X.prog X.w X.K X.mg X.base Ng x (defScope st) g cdv A outer s H E) (wBody E) (k + 1) →
      (∀ (W' : WX) (pn : List (Addr × Obj)) (xe : Value → Shared → Prop) (p1 p2 : Pos), Takes ((cxOf (L2.CX X.prog X.w) X.prog X.w X.K X.mg X.base Ng x (defScope st) g cdv A outer s H E).tr pn xe) W' →
        DX ((cxOf (L2.CX X.prog X.w) X.prog X.w X.K X.mg X.base Ng x (defScope st) g cdv A outer s H E).tr pn xe) T W' (.Call (.Name a p1) [] [] p2) (dAct f xs vs act)) →
      DSs (cxOf (L2.CX X.prog X.w) X.prog X.w X.K X.mg X.base Ng x (defScope st) g cdv A outer s H E) T (wBody E) (defBody st) (tB act f xs vs))
    (TB : TabB X.base X.mg c P) (hcode : X.env.code = .ref c) (hmT : (P, X.env.qual ++ "<lambda>") ∈ T.tabs) (hu : ∀ p ∈ T.tabs, p.1 = P → p.2 = X.env.qual ++ "<lambda>") (hr : Room (k + 2) X.A) (hgd : X.A.guards = some []) (L : LamS X.env.scope scope) (hdef : defaultsOf params X.env = ([], []))
    (hbind : ∀ (q : Str) (cl : List (Str × Addr)) (pm cv ctv : Value), bindArgs (PySem.W.kla_fn "<lambda>" q params body scope cl pm cv ctv) ⟨[], []⟩ = pure [])
    (hbody : ∀ (A : Around) (outer : List Env) (s : Shared) (H : Hp) (E : XK) (f c' : Addr), Bod (lamCx X A outer s H E scope f c') (wBody E) k → DX (lamCx X A outer s H E scope f c') T (wBody E) body fb)
    (hdb : (x == ("__debug__" : Str)) = false := by decide) (hd : (a == ("__debug__" : Str)) = false := by decide) (hcd : (a == ("__classdict__" : Str)) = false := by decide) :
    DX X T W (.Call (.Name x p) [.Lambda params body scope lpos] [] pos) (dLam Ng tB fb) := by
  obtain ⟨oc, od, kV, doc, pm, an, cdv, ct, osl, rfl, lk, hcg⟩ := Fg.ex
  refine ⟨⟨fun pins s σ H Q I hq => ?_⟩⟩
  obtain ⟨F, e, s0, R, E, he', hh, hx, hf, post⟩ := hq
  refine wpAny_Call_Name_kw (ld_glob I hg hm ?_ hdb)
  refine PySem.W.callWith_K (h₀ := X.base) I.ok.mod.kin Fg.kp ?_ (by rfl) (by rfl)
  show wpAny _ _ (spliced ((false, eval (.Lambda params body scope lpos) X.env) :: backTo pos (starEach [] X.env))) _ _ s
  refine Calls.spliced_cons (lam_make3 I TB hcode hmT hu hh.tab hdef (L.has I.ok) fun f c' pm' ctv H1 s' I1 eN T1 hfo hfn hfr hco => ?_)
  refine Calls.spliced_nil ⟨I1.kIn, ?_⟩
  obtain ⟨ps1, hP, hca⟩ := hco
  obtain ⟨hh1, x1⟩ := hh.extN eN T1
  obtain ⟨xs, vs, rxs, hclo⟩ := clo_of he'
  have rc : codeAny (model X.prog X.w) X.A (.call (.ref g) ⟨[.ref f], []⟩) (CR (L2.CX X.prog X.w) X.stack X.prog X.w H1 s' Q (fun c d H' => W c d σ H')) s' := by
    refine run_ofS (N := Ng) (ps := [a]) (us := [.ref f]) (vs := [.ref f]) lk hcg Sg hr I1.env0 (hb s' [.ref f] I1.kIn rfl) (.cons rfl .nil) rfl fun hr' => ?_
    have B : Bod (cxOf (L2.CX X.prog X.w) X.prog X.w X.K X.mg X.base Ng x (defScope st) g cdv X.A X.stack s' H1 (fun c d H' => W c d σ H')) (wBody (fun c d H' => W c d σ H')) (k + 1) := ⟨hr', hgd, takes_of rfl rfl rfl rfl, passes_of rfl⟩
    refine ⟨_, (hB cdv X.A X.stack s' H1 (fun c d H' => W c d σ H') f xs vs (fun s R E => fb e s R E) B fun W' pn xe p1 p2 tk' => dx_act I1 L hfo hfn hfr (hbind _ _ _ _ _) tk' hr' hgd (fun A outer s H E hr2 => hbody A outer s H E f c' hr2) hclo hNg hva hmT hP hca hd hcd).pss,
      F, dstart Ng [.clo f xs vs], s0, fnEnds R E, start_rep (.cons (.clo f rxs) .nil), hh1, hf f xs vs, ⟨?_, ?_, ?_, ?_, ?_⟩⟩
    · rintro e' s' σ' H' F' ⟨s2, hs2, q⟩ x2 hh2 _
      exact post .non s2 .non H' F' q ((x1.trans x2).weak hs2) (hh2.weak hs2) .non
    · rintro d s' v H' F' ⟨s2, hs2, q⟩ x2 hh2 r
      exact post d s2 v H' F' q ((x1.trans x2).weak hs2) (hh2.weak hs2) r
    · intro _ _ _ _ _ q; exact q.elim
    · intro _ _ _ _ _ q; exact q.elim
    · rintro x e' s' cls dx σ' H' F' ⟨s2, hs2, q⟩ x2 hh2 _ r
      exact hx x s2 cls dx H' F' q ((x1.trans x2).weak hs2) (hh2.weak hs2) r
  refine wpAny_call (codeAny_mono rc fun r s2 hq => ?_)
  cases r with
  | error e => exact tk e s2 (XE.of_call I1 (fun _ _ _ q => q) hq)
  | ok fl =>
    cases fl with
    | ret u => exact I1.after hq
    | next => exact False.elim hq
    | brk => exact False.elim hq
    | cont => exact False.elim hq
end
end Bk

/-! Bk: repr of data with empty dicts; t == (); t[::-1]; {} that stays; text * n. -/
namespace Bk
open PySem PySem.Spec PyProof.Rows L2

/-! ### {} that stays as it is -/
def dDict0 : Exp := fun _ s R _ => R (.dic []) s
theorem dx_dict0 {X : Cx} {T : Tb} {W : WX} {pos : Pos} : DX X T W (.Dict [] [] pos) dDict0 := ⟨pe_imp pe_dnewK fun σ H Q hq p np => by
  obtain ⟨F, e, s, R, E, he, hh, hx, hf, post⟩ := hq
  exact post _ s _ _ _ hf (Ext.frz hh np) (hh.frz (o := .dK []) np (fun ps z => by cases z)) (.dic upd_same .nil)⟩

/-! ### repr -/
mutual
/-- no thing by its address, no dict but the empty one -/
def D.plA : D → Bool
  | .non | .bl _ | .int _ | .str _ => true
  | .lst xs | .tup xs | .pln xs => D.plsA xs
  | .dic [] => true
  | .dic (_ :: _) | .rf _ | .scr _ | .exc _ _ | .obj _ _ | .clo _ _ _ => false
def D.plsA : List D → Bool
  | [] => true
  | x :: xs => x.plA && D.plsA xs
end
theorem D.plsA_all : ∀ xs : List D, D.plsA xs = xs.all D.plA
  | [] => by rw [D.plsA]; rfl
  | x :: xs => by rw [D.plsA, D.plsA_all xs]; rfl
section
variable {X : Cx} {pins : List (Addr × Obj)} {σ : L2.St} {H F : Hp} {s : Shared} {T : Tb}
theorem off_sys (I : L2.Inv X pins σ H s) (hs : ∃ mm, X.base.Ns sysModules mm) {a : Addr} {o : Obj} {vs : Array Value} {n : Nat} (e : s.heap.get? a = some o) (d : o.data = .seq vs n) : sysModules ≠ a := fun z => by
  obtain ⟨mm, ob, es, ep, hb, hd, _⟩ := hs
  have := I.bk _ _ hb
  rw [z, e] at this
  cases this
  rw [d] at hd
  cases hd
mutual
theorem rep_readsA (I : L2.Inv X pins σ H s) (hs : ∃ mm, X.base.Ns sysModules mm) (e : Same F H) : ∀ {d : D} {v : V} {u : Value}, Rep X.K T F d v → d.plA = true → RelV v u → ∃ as, Reads s.heap u d.py as ∧ sysModules ∉ as
  | _, _, _, .non, _, r => by cases r; rw [D.py]; exact ⟨_, Reads.none, fun h => nomatch h⟩
  | _, _, _, .bl b, _, r => by cases r; rw [D.py]; exact ⟨_, Reads.bool b, fun h => nomatch h⟩
  | _, _, _, .int i, _, r => by obtain ⟨t, rfl⟩ := r; rw [D.py]; exact ⟨_, Reads.int i t, fun h => nomatch h⟩
  | _, _, _, .str x, _, r => by obtain ⟨t, rfl⟩ := r; rw [D.py]; exact ⟨_, Reads.str x t, fun h => nomatch h⟩
  | _, _, _, .lst h rr, p, r => by
    cases r
    obtain ⟨its, rv, ⟨o, n, ho, hc, _, hd⟩, _⟩ := I.list (sql_frz h e)
    obtain ⟨as, q, hn⟩ := reps_readsA I hs e rr (by rwa [D.plA] at p) rv
    rw [D.py]
    exact ⟨_, Reads.list ho hc hd q, fun z => by
      rcases List.mem_cons.mp z with z | z
      · exact off_sys I hs ho hd z
      · exact hn z⟩
  | _, _, _, .tup h rr, p, r => by
    cases r
    obtain ⟨its, rv, ⟨o, ho, hc, n, hd⟩, _⟩ := I.tuple (sqt_mono e h)
    obtain ⟨as, q, hn⟩ := reps_readsA I hs e rr (by rwa [D.plA] at p) rv
    rw [D.py]
    exact ⟨_, Reads.tuple ho hc hd q, hn⟩
  | _, _, _, .pln h hdn rr, p, r => by
    cases r
    obtain ⟨its, rv, ⟨o, ho, hc, n, hd⟩, _⟩ := I.tuple (X := X) (H := H) (s := s) (.inl (.inr ⟨_, e _ _ h⟩))
    obtain ⟨as, q, hn⟩ := reps_readsA I hs e rr (by rwa [D.plA] at p) rv
    rw [D.py]
    exact ⟨_, Reads.tuple ho hc hd q, hn⟩
  | _, _, _, .dic (kvs := kvs) h rr, p, r => by
    cases kvs with
    | cons a b => rw [D.plA] at p; cases p
    | nil =>
      cases rr
      cases r
      obtain ⟨_, hns, vs, kv, ⟨o, es, ep, ho, hex, hdat, _, hes, _⟩⟩ := I.hok _ _ (e _ _ h)
      cases kv
      rw [D.py]
      have e0 : es.toList = [] := by
        generalize es.toList = l at hes
        cases hes; rfl
      refine ⟨_, Reads.dict ho hex.1 hdat (by rw [e0]; exact .nil) (by rw [e0]; exact .nil), fun z => ?_⟩
      simp only [List.append_nil, List.mem_cons, List.not_mem_nil, or_false] at z
      rw [← z] at hns
      simp at hns
  | _, _, _, .rf v, p, _ => by rw [D.plA] at p; cases p
  | _, _, _, .scr h, p, _ => by rw [D.plA] at p; cases p
  | _, _, _, .exc h h2 r, p, _ => by rw [D.plA] at p; cases p
  | _, _, _, .obj h r, p, _ => by rw [D.plA] at p; cases p
  | _, _, _, .clo f r, p, _ => by rw [D.plA] at p; cases p
theorem reps_readsA (I : L2.Inv X pins σ H s) (hs : ∃ mm, X.base.Ns sysModules mm) (e : Same F H) : ∀ {ds : List D} {vs : List V} {us : List Value}, Reps X.K T F ds vs → D.plsA ds = true → Vals vs us → ∃ as, ReadsAll s.heap us (D.pys ds) as ∧ sysModules ∉ as
  | _, _, _, .nil, _, r => by cases r; rw [D.pys]; exact ⟨_, .nil, fun h => nomatch h⟩
  | _, _, _, .cons h rr, p, r => by
    rw [D.plsA, Bool.and_eq_true] at p
    cases r with
    | cons r1 r2 =>
      obtain ⟨as, q1, n1⟩ := rep_readsA I hs e h p.1 r1
      obtain ⟨bs, q2, n2⟩ := reps_readsA I hs e rr p.2 r2
      rw [D.pys]
      exact ⟨_, .cons q1 q2, fun z => (List.mem_append.mp z).elim n1 n2⟩
end
end
def D.shOkA (d : D) : Prop := d.plA = true ∧ d.py.showable = true ∧ d.py.depth ≤ 64 ∧ d.py.shown.length ≤ sizeLine
def cReprA : GA := fun ds s R => match ds with
  | [x] => x.shOkA ∧ ∀ a, shown x = a → R (.str a) s
  | _ => False
section
variable {X : Cx} {T : Tb}
/-- repr, by values and the frozen heap -/
theorem cd_reprA (hs : ∃ mm, X.base.Ns sysModules mm) (hg : X.A.guards = some []) (hu : X.A.units + 66 < cLine) : CallD X T (.builtin "repr") cReprA := by
  refine ⟨fun vs H Q => ∃ (F : Hp) (d : D) (v : V), vs = [v] ∧ Same F H ∧ Rep X.K T F d v ∧ d.shOkA ∧ Q (.str (shown d)) H, fun pins s σ H vs us Q I r h => ?_, fun F s H ds vs R Q hh rs hg' post => ?_⟩
  · obtain ⟨F, d, v, rfl, e, rp, ⟨h0, h1, h2, h3⟩, q⟩ := h
    obtain ⟨u, rfl, ru⟩ := vals1 r
    obtain ⟨as, rd, hn⟩ := rep_readsA I hs e rp h0 ru
    have viaRef : ∀ a, u = .ref a → wpAny (model X.prog X.w) X.A (call (.builtin "repr") [u]) (EP X pins σ Q) X.xe s := fun a ea => by
      subst ea
      exact repr_of_reads' rd h1 (fun _ => hn) hg (by omega) (fun _ _ e => e) (fun h' u tk hk => ⟨.str _, H, I.kept hk, ⟨_, rfl⟩, q⟩) h3
    cases rp with
    | non =>
      cases ru
      exact PySem.P.repr_of_none ⟨.str _, H, I.tok _, ⟨_, rfl⟩, q⟩
    | bl b =>
      cases ru
      exact PySem.P.repr_of_bool ⟨.str _, H, I.tok _, ⟨_, rfl⟩, q⟩
    | int i =>
      obtain ⟨t, rfl⟩ := ru
      exact PySem.P.repr_of_int (by rw [D.py] at h1; simpa [PyData.showable] using h1) ⟨.str _, H, I.tok _, ⟨_, rfl⟩, q⟩
    | str x =>
      obtain ⟨t, rfl⟩ := ru
      refine PySem.P.repr_of_str ⟨.str _, H, I.tok _, ⟨_, rfl⟩, q⟩ ?_
      rw [D.py] at h3
      exact h3
    | lst _ _ => exact viaRef _ ru
    | tup _ _ => exact viaRef _ ru
    | pln _ _ _ => exact viaRef _ ru
    | dic _ _ => exact viaRef _ ru
    | rf v => rw [D.plA] at h0; cases h0
    | scr _ => rw [D.plA] at h0; cases h0
    | exc _ _ _ => rw [D.plA] at h0; cases h0
    | obj _ _ => rw [D.plA] at h0; cases h0
    | clo _ _ => rw [D.plA] at h0; cases h0
  · unfold cReprA at hg'
    split at hg'
    · obtain ⟨v, rfl, r⟩ := rs.one
      exact ⟨F, _, v, rfl, hh.sub, r, hg'.1, post _ s _ H F (hg'.2 _ rfl) Ext.refl hh (.str _)⟩
    · exact hg'.elim

/-! ### t == (), t != () of a tuple of anything -/
theorem op_eqE (hu : X.A.units + 64 < cLine) : OpR X (compareOp .Eq) (fun x y H Q => ∃ a b xs, x = .ref a ∧ y = .ref b ∧ SqT X.K H a xs ∧ SqT X.K H b [] ∧ Q (.bl xs.isEmpty) H) := by
  intro pins s σ H x y v u Q I rx ry h
  obtain ⟨a, b, xs, rfl, rfl, h1, h2, q⟩ := h
  cases rx; cases ry
  obtain ⟨its, rv, p1, _⟩ := I.tuple h1
  obtain ⟨jts, rw', p2, _⟩ := I.tuple h2
  cases rw'
  have key := SeqAt.RcAt.tuples (A := X.A) (s := s) (l := a) (b := b) (e := fun _ => true) (show s.heap.IsTuple a its.toArray from p1) (show s.heap.IsTuple b ([] : List Value).toArray from p2) (by omega) (fun j _ h => by simp at h)
  have e : ((List.range (min its.toArray.size ([] : List Value).toArray.size)).all (fun _ => true) && its.toArray.size == ([] : List Value).toArray.size) = xs.isEmpty := by
    have hl := rv.length
    cases xs with
    | nil => cases rv; rfl
    | cons z zs => cases rv with | cons _ _ => simp
  rw [e] at key
  exact key X.prog X.w _ _ ⟨.bl _, H, I, rfl, q⟩
def oEqE : G2 := fun x y s R => match x, y with
  | .tup xs, .tup [] => R (.bl xs.isEmpty) s
  | _, _ => False
theorem od_eqE (hu : X.A.units + 64 < cLine) : OpD X T (compareOp .Eq) oEqE := .of (op_eqE hu) fun F s H x y vx vy R Q hh rx ry hg post => by
  unfold oEqE at hg
  split at hg
  · cases rx with | tup l1 r1 => cases ry with | tup l2 r2 =>
      cases r2
      rename_i xs _ vs _
      refine ⟨_, _, vs, rfl, rfl, sqt_mono hh.sub l1, sqt_mono hh.sub l2, ?_⟩
      have e : vs.isEmpty = xs.isEmpty := by cases r1 <;> rfl
      rw [e]
      exact post _ s _ H F hg Ext.refl hh (.bl _)
  · exact hg.elim

/-! ### a text some times, the empty one too -/
theorem op_mulStr0 : OpR X (binaryOp .Mult) (fun x y H Q => ∃ z k, x = .str z ∧ y = .int k ∧ 1 < k ∧ k ≤ 100 ∧ z.length = 0 ∧ Q (.str z) H) := by
  intro pins s σ H x y v u Q I rx ry h
  obtain ⟨z, k, rfl, rfl, h1, h2, h3, q⟩ := h
  obtain ⟨t, rfl⟩ := rx
  obtain ⟨t', rfl⟩ := ry
  have n1 : ¬ k < 1 := by omega
  have n2 : (k == 1 || z.length == 0) = true := by simp; omega
  refine PySem.P.mul_str (by simp; omega) (fun _ w => absurd n2 (by rw [w]; decide)) (fun _ w => absurd n2 (by rw [w]; decide)) ?_
  rw [if_neg n1, if_pos n2]
  exact ⟨.str z, H, I, ⟨_, rfl⟩, q⟩
def oMulS : G2 := fun x y s R => match x, y with
  | .str z, .int k => (1 < k ∧ k ≤ 100 ∧ z.length ≤ 100000) ∧ R (.str (strMul z k.toNat)) s
  | _, _ => False
theorem strMul_nil {z : Str} (h : z.length = 0) (n : Nat) : strMul z n = z := by
  have e : z.cps = #[] := Array.eq_empty_of_size_eq_zero h
  obtain ⟨c⟩ := z
  have e' : c = #[] := e
  subst e'
  unfold strMul
  have : ∀ n, (List.replicate n (#[] : Array Nat)).foldl (· ++ ·) #[] = #[] := fun n => by
    induction n with
    | zero => rfl
    | succ n ih => rw [List.replicate_succ, List.foldl_cons]; simpa using ih
  rw [this]
theorem od_mulS : OpD X T (binaryOp .Mult) oMulS := .of (op_mulStr0.or op_mulStr) fun F s H x y vx vy R Q hh rx ry hg post => by
  unfold oMulS at hg
  split at hg
  · rename_i z k
    obtain ⟨⟨h1, h2, h3⟩, q⟩ := hg
    cases rx; cases ry
    by_cases hz : z.length = 0
    · rw [strMul_nil hz] at q
      exact .inl ⟨_, _, rfl, rfl, h1, h2, hz, post _ s _ H F q Ext.refl hh (.str _)⟩
    · exact .inr ⟨_, _, rfl, rfl, h1, h2, by omega, h3, post _ s _ H F q Ext.refl hh (.str _)⟩
  · exact hg.elim
end
end Bk

/-! Bk: t[::-1]. -/
namespace Bk
open PySem PySem.Spec PyProof.Rows L2
section
variable {prog : Program} {w : World} {A : Around} {E : Value → Shared → Prop} {s : Shared}
theorem places_back (n : Nat) : Builtin.Slice.slicePlaces ((n : Int) - 1) (-1) (-1) = n := by
  unfold Builtin.Slice.slicePlaces
  rw [if_neg (by decide)]
  by_cases h : (n : Int) - 1 > -1
  · rw [if_pos h, show (-(-1 : Int)) = 1 by decide, Int.ediv_one]
    omega
  · rw [if_neg h]
    omega
theorem pick_back (xs : Array Value) : ((List.range xs.size).filterMap fun (k : Nat) => xs[(((xs.size : Nat) : Int) - 1 + (k : Int) * (-1)).toNat]?).toArray = xs.toList.reverse.toArray := by
  have e : (fun (k : Nat) => xs[(((xs.size : Nat) : Int) - 1 + (k : Int) * (-1)).toNat]?) = (xs[·]?) ∘ fun k => xs.size - 1 - k := by
    funext k
    have : (((xs.size : Nat) : Int) - 1 + (k : Int) * (-1)).toNat = xs.size - 1 - k := by omega
    show xs[_]? = xs[_]?
    rw [this]
  rw [e, ← List.filterMap_map, PySem.W.krv_range, List.filterMap_reverse, PySem.W.krv_all]
theorem getItem_back {t sl : Addr} {items : Array Value} {u : Tok} {Q : Value → Shared → Prop} (ht : IsTup s.heap t items) (hs : s.heap.IsSliceOf sl .none .none (.int (-1) u))
    (h : Q (.ref s.heap.objs.size) { s with heap := s.heap.push { cls := .type "tuple", data := .seq items.toList.reverse.toArray } }) (hsz : items.size ≤ sizeLine) : wpAny (model prog w) A (getItem (.ref t) (.ref sl)) Q E s := by
  have hok : sizeOk (.seq items.toList.reverse.toArray) := by
    show items.toList.reverse.toArray.size ≤ sizeLine
    simpa using hsz
  obtain ⟨os, hos, hcs, hds⟩ := id hs
  have hTs : s.TypeIs (.ref sl) "slice" := ⟨os, hos, hcs⟩
  unfold getItem
  try with_reducible refine wpAny_holding ?_
  first | refine wpAny_bind (wpAny_pure ?_) | skip
  refine wpAny_bind (wpAny_sequenceKey ht.typeIs (by decide) ?_)
  refine wpAny_bind (wpAny_callSpecial?_slot (name := Str.ofString "__getitem__") ht.typeIs slot_tuple_getitem (wpAny_call_entry slot_tuple_getitem ht.typeIs PyProof.Rows.entry_tuple_getitem ?_ (PyProof.Rows.args_tuple_getitem _ _)))
  show wpAny _ _ (Builtin.Tuple.tupleItemsOf (.ref t) >>= _) _ _ s
  refine wpAny_bind (PyProof.Rows.tupleItemsOf_ ht (wpAny_bind (wpAny_typeOf hTs ?_)))
  rw [if_pos (by decide)]
  refine wpAny_bind ?_
  unfold Builtin.Slice.sliceApplied Builtin.Slice.sliceFields
  refine wpAny_bind (wpAny_bind (wpAny_field hos hds (x := .none) rfl (wpAny_bind (wpAny_field hos hds (x := .none) rfl (wpAny_bind (wpAny_field hos hds (x := .int (-1) u) rfl (wpAny_pure ?_)))))))
  refine wpAny_bind (PyProof.Rows.slicePart_int ?_)
  show wpAny _ _ (if ((-1 : Int) == 0) = true then _ else _) _ _ s
  rw [if_neg (by decide)]
  refine wpAny_bind (PyProof.Rows.slicePart_none (wpAny_bind (PyProof.Rows.slicePart_none (wpAny_bind (wpAny_pure ?_)))))
  show wpAny _ _ (pure (((items.size : Nat) : Int) - 1, (-1 : Int), Builtin.Slice.slicePlaces (((items.size : Nat) : Int) - 1) (-1) (-1))) _ _ s
  rw [places_back]
  refine wpAny_pure ?_
  show wpAny _ _ (if (((items.size : Nat) : Int) - 1 == 0 && (-1 : Int) == 1 && items.size == items.size) = true then _ else _) _ _ s
  rw [if_neg (by simp), pick_back]
  first
    | exact wpAny_bind (m := Builtin.Tuple.tupleExact _) (wpAny_newObj_type (wpAny_pure ⟨_, rfl, wpAny_pure h⟩) hok)
    | exact wpAny_bind (m := Builtin.Tuple.tupleExact _) (wpAny_newObj_type (wpAny_bind (wpAny_pure (wpAny_pure ⟨_, rfl, wpAny_pure h⟩))) hok)
    | exact wpAny_bind (wpAny_bind (m := Builtin.Tuple.tupleExact _) (wpAny_newObj_type (wpAny_pure (wpAny_pure ⟨_, rfl, wpAny_pure h⟩)) hok))
    | exact wpAny_bind (wpAny_bind (m := Builtin.Tuple.tupleExact _) (wpAny_newObj_type (wpAny_pure ⟨_, rfl, wpAny_pure h⟩) hok))
end
section
variable {X : Cx} {T : Tb} {W : WX} {a : Expr} {fa : Exp} {te : TE} {pos p1 p2 p3 : Pos} {j : Nat}
def tBack (K : PySem.W.Frag) (te : TE) : TE := fun σ H Q => te σ H fun x H1 => ∃ t xs, x = .ref t ∧ SqT K H1 t xs ∧ ∀ p, H1 p = none → Q (.ref p) (upd H1 p (.tup xs.reverse))
theorem pe_back (he : PE X a te) :
    PE X (.Subscript a (.Slice none none (some (.UnaryOp .USub (.Constant (.int 1) j p1) p2)) p3) pos) (tBack X.K te) := by
  refine ⟨fun pins s σ H Q I h => ?_⟩
  refine Subscript_ (thn (he.run pins s σ H _ I h) fun v s1 ⟨x, H1, I1, r1, q1⟩ => ?_)
  obtain ⟨t, xs, rfl, hT, q⟩ := q1
  cases r1
  refine wpAny_Slice ?_
  rw [evalPart_none]
  refine wpAny_pure (wpAny_pure ?_)
  rw [evalPart_some]
  have pu := pe_un (X := X) (pos := p2) un_neg (pe_int (X := X) (i := 1) (j := j) (pos := p1))
  refine thn (pu.run pins s1 σ H1 (fun v H2 => v = .int (-1) ∧ H2 = H1) I1 ?_) fun u s2 ⟨x, H2, I2, r2, e1, e2⟩ => ?_
  · exact ⟨1, rfl, rfl, rfl⟩
  subst e1 e2
  obtain ⟨tk, rfl⟩ := r2
  obtain ⟨its, rv, ht, hz⟩ := I2.tuple hT
  have I4 : L2.Inv X pins σ H2 { s2 with heap := s2.heap.push { cls := .type "slice", data := .fields #[.none, .none, .int (-1) tk] } } := I2.kept (t' := s2.toks) fun b ob q => Heap.get?_push_of_some _ q
  have ht2 : IsTup (s2.heap.push { cls := .type "slice", data := .fields #[.none, .none, .int (-1) tk] }) t its.toArray := ht.keeps fun b o e => Heap.get?_push_of_some _ e
  have sz : its.toArray.size ≤ sizeLine := by rw [List.size_toArray, ← rv.length]; exact hz
  have g : wpAny (model X.prog X.w) X.A (getItem (.ref t) (.ref s2.heap.objs.size)) (EP X pins σ Q) X.xe { s2 with heap := s2.heap.push { cls := .type "slice", data := .fields #[.none, .none, .int (-1) tk] } } := by
    refine getItem_back (u := tk) ht2 (Heap.IsSliceOf.new ..) ?_ sz
    have I5 := I4.laid (t' := s2.toks) (a := (s2.heap.push { cls := .type "slice", data := .fields #[.none, .none, .int (-1) tk] }).objs.size) (o := .tup xs.reverse) (h' := (s2.heap.push { cls := .type "slice", data := .fields #[.none, .none, .int (-1) tk] }).push { cls := .type "tuple", data := .seq its.toArray.toList.reverse.toArray }) (fun b u e => Heap.get?_push_of_some _ e) (Nat.le_refl _) ⟨by rw [List.length_reverse]; exact hz, its.reverse, rv.reverse, ?_⟩
    · exact ⟨.ref _, _, I5, rfl, q _ (I4.hok.fresh (Nat.le_refl _))⟩
    · have e : its.toArray.toList.reverse.toArray = its.reverse.toArray := by simp
      rw [e]
      exact IsTup.new _ _
  show wpAny (model X.prog X.w) X.A (subscriptTail a (.Slice none none (some (.UnaryOp .USub (.Constant (.int 1) j p1) p2)) p3) (.ref t) (.ref s2.heap.objs.size)) (EP X pins σ Q) X.xe { s2 with heap := s2.heap.push { cls := .type "slice", data := .fields #[.none, .none, .int (-1) tk] } }
  exact tail_any (ops := [.ref t, .ref s2.heap.objs.size]) (let ⟨o, ho, hc, _⟩ := ht2; ⟨o, ho, hc⟩) slot_tuple_getitem.lookup g (by with_unfolding_all rfl)
/-- t[::-1] -/
def dBack (f : Exp) : Exp := fun e s R E => f e s (fun d s1 => match d with
  | .tup xs => R (.tup xs.reverse) s1
  | _ => False) E
theorem dx_back (h : DX X T W a fa) : DX X T W (.Subscript a (.Slice none none (some (.UnaryOp .USub (.Constant (.int 1) j p1) p2)) p3) pos) (dBack fa) := ⟨pe_imp (pe_back h.pe) fun σ H Q hq => by
  obtain ⟨F, e, s, R, E, he, hh, hx, hf, post⟩ := hq
  refine ⟨F, e, s, _, E, he, hh, hx, hf, fun d s1 v H1 F1 q x hh1 r => ?_⟩
  split at q
  · cases r with | tup l rr =>
      refine ⟨_, _, rfl, sqt_mono hh1.sub l, fun p np => ?_⟩
      obtain ⟨h1, h2, h3⟩ := hh1.frzT np rr.reverse
      exact post _ s1 _ _ _ q (x.trans h2) h1 h3
  · exact q.elim⟩
end
end Bk

/-! Bk: defs whose code object is known; defs that call themselves; constants of the module. -/
namespace Bk
open PySem PySem.Spec PyProof.Rows L2
/-- the name of a def's lambdas -/
abbrev lamQ (x : Str) : Str := (x ++ ".<locals>.") ++ "<lambda>"
/-- a def whose code object stands at c -/
structure FunC (K : PySem.W.Frag) (x qual : Str) (st : Stmt) (f : Addr) (fd : FuncData) (c : Addr) : Prop where
  ex : ∃ (oc : Value) (od : Option Addr) (kV doc pm : Value) (an : Option Addr) (ct : Value) (osl : Array (Option Value)),
    fd = PySem.W.fnOf x qual (defArgs st) (defBody st) (defScope st) .none kV doc pm an (.ref c) ct ∧ K.lookup f = some ⟨oc, od, .func fd, osl⟩ ∧ PySem.W.codeIn K (.ref c) qual = true
  kp : PySem.W.keepIn K (.ref f) = true
section
variable {P : Program} {w : World} {K : PySem.W.Frag} {mg : Str → Option Value} {base : Heap} {T : Tb}
theorem FunC.fn {x qual : Str} {st : Stmt} {f c : Addr} {fd : FuncData} (F : FunC K x qual st f fd c) : Fun K x qual st f fd := by
  obtain ⟨oc, od, kV, doc, pm, an, ct, osl, h1, h2, h3⟩ := F.ex
  exact ⟨⟨oc, od, kV, doc, pm, an, _, ct, osl, h1, h2, h3⟩, F.kp⟩
/-- THE RULE for a def that makes lambdas -/
theorem gfn_ofC {x qual : Str} {st : Stmt} {f c : Addr} {fd : FuncData} {N ps : List Str} {k : Nat} {phi : Fn} {t : DTS} (F : FunC K x qual st f fd c) (S : FnScope N ps (defScope st))
    (hb : ∀ (A : Around) (outer : List Env) (s : Shared) (H : Hp) (E : XK), Bod (cxOf (L2.CX P w) P w K mg base N qual (defScope st) f (.ref c) A outer s H E) (wBody E) k →
      DSs (cxOf (L2.CX P w) P w K mg base N qual (defScope st) f (.ref c) A outer s H E) T (wBody E) (defBody st) t)
    (hphi : ∀ ds s R E, ds.length = ps.length → phi ds s R E → t (fnEnds R E) (dstart N ds) s) : GFn P w K mg base (k + 1) f fd ps (spD K T ps.length phi) := by
  obtain ⟨oc, od, kV, doc, pm, an, ct, osl, rfl, lk, hcd⟩ := F.ex
  refine ⟨fun vs H Q E ⟨_, _, ds, _, _, hl, rs, _⟩ => by rw [← rs.length]; exact hl, fun A outer s H args us vs Q E hr hg e0 hbd hv hs => ?_⟩
  obtain ⟨FF, s0, ds, R, EE, hl, rs, hh, hx, hp, post⟩ := hs
  have hlv : vs.length = ps.length := by rw [← rs.length]; exact hl
  refine LamX.run_ofS lk hcd S hr e0 hbd hv hlv fun hr' => ?_
  have B : Bod (cxOf (L2.CX P w) P w K mg base N qual (defScope st) f (.ref c) A outer s H E) (wBody E) k := ⟨hr', hg, takes_of rfl rfl rfl rfl, passes_of rfl⟩
  refine ⟨_, (hb A outer s H E B).pss, FF, dstart N ds, s0, fnEnds R EE, start_rep rs, hh, hphi ds s0 R EE hl hp, ⟨?_, ?_, ?_, ?_, ?_⟩⟩
  · rintro e' s' σ' H' F' ⟨s2, hs2, q⟩ x1 hh1 _
    exact post .non s2 .non H' F' q (x1.weak hs2) (hh1.weak hs2) .non
  · rintro d s' v H' F' ⟨s2, hs2, q⟩ x1 hh1 r
    exact post d s2 v H' F' q (x1.weak hs2) (hh1.weak hs2) r
  · intro _ _ _ _ _ q; exact q.elim
  · intro _ _ _ _ _ q; exact q.elim
  · rintro x e' s' cls dx σ' H' F' ⟨s2, hs2, q⟩ x1 hh1 _ r
    exact hx x s2 cls dx H' F' q (x1.weak hs2) (hh1.weak hs2) r
/-- a promise that is never asked -/
def pNo : Fn := fun _ _ _ _ => False
theorem gfn_no {k n : Nat} {f : Addr} {fd : FuncData} {ps : List Str} : GFn P w K mg base k f fd ps (spD K T n pNo) :=
  ⟨fun vs H Q E ⟨_, _, _, _, _, _, _, _, _, q, _⟩ => q.elim, fun A outer s H args us vs Q E _ _ _ _ _ hs => by
    obtain ⟨_, _, _, _, _, _, _, _, _, q, _⟩ := hs
    exact q.elim⟩
/-- .. one step less -/
def prevF (p : Nat → Fn) : Nat → Fn
  | 0 => pNo
  | n + 1 => p n
/-- a def that calls itself, n times at most -/
theorem gfn_rec {k n : Nat} {f : Addr} {fd : FuncData} {ps : List Str} {p : Nat → Fn} (h : ∀ (i : Nat) (q : Fn), (∀ j, GFn P w K mg base (k + i + j) f fd ps (spD K T ps.length q)) → prevF p i = q → GFn P w K mg base (k + i + 1) f fd ps (spD K T ps.length (p i))) : GFn P w K mg base (k + n + 1) f fd ps (spD K T ps.length (p n)) := by
  induction n with
  | zero => exact h 0 pNo (fun j => gfn_no) rfl
  | succ n ih => exact h (n + 1) (p n) (fun j => ih.mono (by omega)) rfl
end
section
variable {X : Cx} {T : Tb} {W : WX} {pos : Pos} {x : Str}
theorem dx_gstr {z : Str} (hg : Gl X x) (hm : ∃ t, X.mg x = some (.str z t)) (hd : (x == ("__debug__" : Str)) = false := by decide) : DX X T W (.Name x pos) (dC (.str z)) := by
  obtain ⟨t, e⟩ := hm
  exact dx_glob (v := .str z) hg e ⟨t, rfl⟩ (fun _ => .str z) hd
theorem dx_gint {i : Int} (hg : Gl X x) (hm : ∃ t, X.mg x = some (.int i t)) (hd : (x == ("__debug__" : Str)) = false := by decide) : DX X T W (.Name x pos) (dC (.int i)) := by
  obtain ⟨t, e⟩ := hm
  exact dx_glob (v := .int i) hg e ⟨t, rfl⟩ (fun _ => .int i) hd
theorem lamS_at {sc scope : Scope} (h : LamX.lamSB sc scope = true) (e : X.env.scope = sc := by rfl) : LamX.LamS X.env.scope scope := by
  rw [e]; exact LamX.lamS_by h
theorem names_own {c : Str} {C : Addr} (hg : Gl X c) (hm : X.mg c = some (.ref C)) (hd : (c == ("__debug__" : Str)) = false := by decide) : Names X c (.ref C) := ⟨hg, hd, .inl hm⟩
end
end Bk

/-! Bk: what the written part says of classes, by Bools. -/
namespace Bk
open PySem PySem.Spec PyProof.Rows L2
/-- the class of that name -/
def clsK (K : PySem.W.Frag) (n : Str) : Addr := match PySem.W.nsIn K mainGlobals n with
  | some (some (.ref a)) => a
  | _ => 0
def nmB (K : PySem.W.Frag) (n : Str) : Bool := match PySem.W.nsIn K mainGlobals n with
  | some (some (.ref _)) => true
  | _ => false
theorem clsK_of {K : PySem.W.Frag} {n : Str} {C : Addr} (h : PySem.W.nsIn K mainGlobals n = some (some (.ref C))) : clsK K n = C := by unfold clsK; rw [h]
theorem mg_cls {K : PySem.W.Frag} {h : Heap} {mg : Str → Option Value} {n : Str} (X : K.In h) (G : h.Ns mainGlobals mg) (b : nmB K n = true) : mg n = some (.ref (clsK K n)) := by
  unfold nmB at b
  split at b
  · rename_i a e
    rw [clsK_of e]
    exact PySem.W.mg_of X G e
  · cases b
def excB (K : PySem.W.Frag) (C : Addr) : Bool := decide (PySem.W.findIn K (.ref C) "__getattribute__" = some (some (.builtin "BaseException.__getattribute__"))) && decide (PySem.W.findIn K (.ref C) "__getattr__" = some none) && decide (PySem.W.subIn K (.ref C) (.type "BaseException") = some true) && PySem.W.hasDictIn K C &&
  decide (PySem.W.findIn K (.ref C) "__class__" = some (some (.builtin "object.__class__"))) && decide (PySem.W.specialIn K (.builtin "object.__class__") "__get__" = some (some (.builtin "getset_descriptor.__get__"))) && decide (PySem.W.takesIn K (.builtin "object.__class__") = some true) && decide (PySem.W.mroIn K C (.type "object") = some true)
theorem excB_ok {K : PySem.W.Frag} {C : Addr} (h : excB K C = true) : ExcC K C := by
  simp only [excB, Bool.and_eq_true, decide_eq_true_eq] at h
  obtain ⟨⟨⟨⟨⟨⟨⟨h1, h2⟩, h3⟩, h4⟩, h5⟩, h6⟩, h7⟩, h8⟩ := h
  exact ⟨h1, h2, h3, h4, h5, h6, h7, h8⟩
def eaB (K : PySem.W.Frag) (kn ms fs : List Str) : Bool := kn.all fun c => excB K (clsK K c) && xfB K (clsK K c) && (ms.all fun m => decide (PySem.W.kitOne K (.ref (clsK K c)) (.ref (clsK K m)) = some (subC c m)) && decide (PySem.W.exmOne K (.ref (clsK K c)) (.ref (clsK K m)) = some (subC c m))) &&
  fs.all fun f => decide (PySem.W.findIn K (.ref (clsK K c)) f = some none)
theorem eall_of {K : PySem.W.Frag} {TT : List (Addr × Str)} {kn ms fs : List Str} (h : eaB K kn ms fs = true) : EAll K ⟨TT, clsK K⟩ kn ms fs := by
  have go : ∀ c ∈ kn, excB K (clsK K c) = true ∧ xfB K (clsK K c) = true ∧ (∀ m ∈ ms, PySem.W.kitOne K (.ref (clsK K c)) (.ref (clsK K m)) = some (subC c m) ∧ PySem.W.exmOne K (.ref (clsK K c)) (.ref (clsK K m)) = some (subC c m)) ∧ ∀ f ∈ fs, PySem.W.findIn K (.ref (clsK K c)) f = some none := fun c hc => by
    have q := List.all_eq_true.mp h c hc
    simp only [Bool.and_eq_true, List.all_eq_true, decide_eq_true_eq] at q
    exact ⟨q.1.1.1, q.1.1.2, fun m hm => q.1.2 m hm, fun f hf => q.2 f hf⟩
  exact ⟨fun c hc => ⟨excB_ok (go c hc).1, xfB_ok (go c hc).2.1⟩, fun c hc m hm => ((go c hc).2.2.1 m hm).1, fun c hc m hm => ((go c hc).2.2.1 m hm).2, fun c hc f hf => (go c hc).2.2.2 f hf⟩
/-- an own exception's class, but for its def -/
def exB (K : PySem.W.Frag) (C : Addr) (f : Str) (B newId initId : String) (bmB : List Value) : Bool := PySem.W.excInitIn K C bmB newId && PySem.W.excOver K C bmB && decide (PySem.W.subIn K (.ref C) (.type B) = some true) && decide (PySem.W.ks_superIn K C C "__init__" = some (some (.builtin initId))) &&
  decide (PySem.W.findIn K (.ref C) "__setattr__" = some (some (.builtin "object.__setattr__"))) && decide (PySem.W.takerIn K C f = some none) && PySem.W.hasDictIn K C && decide (PySem.W.mroIn K C (.ref C) = some true) && decide (PySem.W.nsIn K mainGlobals "super" = some none) && decide (PySem.W.nsIn K cStatics "thirdparty.any" = some none) &&
  PySem.W.keepIn K (.ref C) && decide (PySem.W.subIn K (.ref C) (.type "BaseException") = some true) && decide (PySem.W.typeIn K (.ref C) = some (.type "type"))
/-- the __init__ that stands in a class's body -/
def initS : Stmt → Stmt
  | .ClassDef _ _ _ (st :: _) .. => st
  | st => st
theorem ecls_of {P : Program} {K : PySem.W.Frag} {mg : Str → Option Value} {h : Heap} {TT : List (Addr × Str)} {n f y : Str} {B newId initId : String} {bmB : List Value} {st : Stmt} {C fI cda cc : Addr} {qual : Str} {kV doc pm ct oc : Value} {an od : Option Addr} {osl : Array (Option Value)} {ccl cl : Value} {cdd cld : Option Addr} {ccs csl : Array (Option Value)} {vs : Array Value} {file : Str} {tf : Tok}
    (X : K.In h) (G : h.Ns mainGlobals mg) (BX : BaseX B newId initId bmB) (IS : InitS (defArgs st) (defBody st) (defScope st) f y) (top : (P.main.scope.names.lookup ("super" : Str)).isSome = false)
    (hC : PySem.W.nsIn K mainGlobals n = some (some (.ref C))) (hB : exB K C f B newId initId bmB = true) (hfi : PySem.W.findIn K (.ref C) "__init__" = some (some (.ref fI))) (hfn : PySem.W.isFn K (.ref fI) = true)
    (hl : K.lookup fI = some ⟨oc, od, .func (PySem.W.ksFn "__init__" qual (defArgs st) (defBody st) (defScope st) .none kV doc pm an (.ref cda) ct cc), osl⟩) (hcd : PySem.W.codeIn K (.ref cda) qual = true) (hcl : K.lookup cda = some ⟨ccl, cdd, .fields vs, ccs⟩)
    (hv : vs[2]? = some (.str file tf)) (hf : ((P.main.file : Str) == file) = true) (hcc : K.lookup cc = some ⟨cl, cld, .cell (some (.ref C)), csl⟩) : ECls P K mg ⟨TT, clsK K⟩ n f := by
  simp only [exB, Bool.and_eq_true, decide_eq_true_eq] at hB
  obtain ⟨⟨⟨⟨⟨⟨⟨⟨⟨⟨⟨⟨a1, a2⟩, a3⟩, a4⟩, a5⟩, a6⟩, a7⟩, a8⟩, a9⟩, a10⟩, a11⟩, a12⟩, a13⟩ := hB
  have e := clsK_of hC
  have ex : ExcT P K C f := ⟨⟨B, newId, initId, bmB, BX, a1, a2, a3, a4⟩, a5, a6, a7, a8, a9, a10, top, ⟨fI, cda, cc, qual, y, _, _, _, kV, doc, pm, ct, oc, an, od, osl, ccl, cl, cdd, cld, ccs, csl, vs, file, tf, hfi, hfn, hl, hcd, hcl, hv, hf, hcc, IS⟩⟩
  refine ⟨?_, ?_, ?_, ?_, ?_⟩
  · show ExcT P K (clsK K n) f
    rw [e]; exact ex
  · show mg n = some (.ref (clsK K n))
    rw [e]; exact PySem.W.mg_of X G hC
  · show PySem.W.keepIn K (.ref (clsK K n)) = true
    rw [e]; exact a11
  · show PySem.W.subIn K (.ref (clsK K n)) _ = _
    rw [e]; exact a12
  · show PySem.W.typeIn K (.ref (clsK K n)) = _
    rw [e]; exact a13
/-- a def whose code object has that table -/
theorem funC_mk {K : PySem.W.Frag} {h : Heap} {mg : Str → Option Value} {st : Stmt} {x qual : Str} {f c P : Addr} {oc : Value} {od : Option Addr} {kV doc pm : Value} {an : Option Addr} {cdv ct : Value} {osl : Array (Option Value)} (X : K.In h) (G : h.Ns mainGlobals mg) (hm : mg x = some (.ref f)) (ht : PySem.W.tabIn K x = some (c, P))
    (hl : K.lookup f = some ⟨oc, od, .func (PySem.W.fnOf x qual (defArgs st) (defBody st) (defScope st) .none kV doc pm an cdv ct), osl⟩) (hcd : PySem.W.codeIn K cdv qual = true) (hk : PySem.W.keepIn K (.ref f) = true) : FunC K x qual st f (PySem.W.fnOf x qual (defArgs st) (defBody st) (defScope st) .none kV doc pm an cdv ct) c := by
  have e : cdv = .ref c := PySem.W.law_code X G ht hm (X _ _ hl) rfl
  subst e
  exact ⟨⟨oc, od, kV, doc, pm, an, ct, osl, rfl, hl, hcd⟩, hk⟩
theorem tab_mk {K : PySem.W.Frag} {st : Stmt} {x qual : Str} {f c P : Addr} {oc oc2 : Value} {od od2 : Option Addr} {kV doc pm : Value} {an : Option Addr} {cdv ct : Value} {osl osl2 : Array (Option Value)} {vs : Array Value} (ha : PySem.W.nsIn K mainGlobals x = some (some (.ref f)))
    (hl : K.lookup f = some ⟨oc, od, .func (PySem.W.fnOf x qual (defArgs st) (defBody st) (defScope st) .none kV doc pm an cdv ct), osl⟩) (h0 : cdv = .ref c) (h1 : K.lookup c = some ⟨oc2, od2, .fields vs, osl2⟩) (h2 : vs[11]? = some (.ref P)) : PySem.W.tabIn K x = some (c, P) := by
  subst h0
  have e : (PySem.W.fnOf x qual (defArgs st) (defBody st) (defScope st) .none kV doc pm an (.ref c) ct).code = .ref c := rfl
  unfold PySem.W.tabIn
  simp only [ha, hl, e, h1, h2]
end Bk

/-! Bk: things of any kind, small. -/
namespace Bk
open PySem PySem.Spec PyProof.Rows L2
mutual
/-- lists, tuples, ints up to b, texts, {} -/
def D.good (b : Int) : D → Bool
  | .non | .bl _ => true
  | .int i => decide (-b ≤ i) && decide (i ≤ b)
  | .str x => PyData.strOk x
  | .lst xs | .tup xs => D.goods b xs
  | .dic [] => true
  | .dic (_ :: _) | .rf _ | .scr _ | .exc _ _ | .obj _ _ | .clo _ _ _ | .pln _ => false
def D.goods (b : Int) : List D → Bool
  | [] => true
  | x :: xs => x.good b && D.goods b xs
end
theorem goods_all (b : Int) : ∀ xs : List D, D.goods b xs = true ↔ ∀ x ∈ xs, x.good b = true
  | [] => by simp [D.goods]
  | x :: xs => by rw [D.goods, Bool.and_eq_true, goods_all b xs]; simp
mutual
theorem good_mono {b c : Int} (h : b ≤ c) : ∀ d : D, d.good b = true → d.good c = true
  | .non, _ | .bl _, _ => by rw [D.good]
  | .int i, z => by
    rw [D.good, Bool.and_eq_true, decide_eq_true_eq, decide_eq_true_eq] at z ⊢
    omega
  | .str x, z => by rw [D.good] at z ⊢; exact z
  | .lst xs, z | .tup xs, z => by rw [D.good] at z ⊢; exact goods_mono h xs z
  | .dic [], _ => by rw [D.good]
  | .dic (_ :: _), z | .rf _, z | .scr _, z | .exc _ _, z | .obj _ _, z | .clo _ _ _, z | .pln _, z => by rw [D.good] at z; cases z
theorem goods_mono {b c : Int} (h : b ≤ c) : ∀ xs : List D, D.goods b xs = true → D.goods c xs = true
  | [], _ => by rw [D.goods]
  | x :: xs, z => by
    rw [D.goods, Bool.and_eq_true] at z ⊢
    exact ⟨good_mono h x z.1, goods_mono h xs z.2⟩
end
mutual
theorem good_plA {b : Int} : ∀ d : D, d.good b = true → d.plA = true
  | .non, _ | .bl _, _ | .int _, _ | .str _, _ => by rw [D.plA]
  | .lst xs, z | .tup xs, z => by rw [D.good] at z; rw [D.plA]; exact goods_plA xs z
  | .dic [], _ => by rw [D.plA]
  | .dic (_ :: _), z | .rf _, z | .scr _, z | .exc _ _, z | .obj _ _, z | .clo _ _ _, z | .pln _, z => by rw [D.good] at z; cases z
theorem goods_plA {b : Int} : ∀ xs : List D, D.goods b xs = true → D.plsA xs = true
  | [], _ => by rw [D.plsA]
  | x :: xs, z => by
    rw [D.goods, Bool.and_eq_true] at z
    rw [D.plsA, Bool.and_eq_true]
    exact ⟨good_plA x z.1, goods_plA xs z.2⟩
end
theorem int_short {i : Int} (h : -(10 ^ 38) < i ∧ i < 10 ^ 38) : (PyData.shown (.int i)).length ≤ 40 := by
  rw [PyData.shown]
  have hb : i.natAbs < 10 ^ 38 := by omega
  have := int_text_length_le10 (a := i) (k := 38) (by decide) hb
  have e : (Str.ofString (toString i)).length ≤ (toString i).length := by
    rw [Str.ofString_eq_toList]
    show ((toString i).toList.map Char.toNat).toArray.size ≤ _
    rw [List.size_toArray, List.length_map]
    exact Nat.le_of_eq String.length_toList
  exact Nat.le_trans e (by omega)
mutual
theorem good_show {b : Int} (hb : b < 10 ^ 38) : ∀ d : D, d.good b = true → d.py.showable = true ∧ d.py.leavesShort 40 = true
  | .non, _ => by rw [D.py]; simp [PyData.showable, PyData.leavesShort]
  | .bl _, _ => by rw [D.py]; simp [PyData.showable, PyData.leavesShort]
  | .int i, z => by
    rw [D.good, Bool.and_eq_true, decide_eq_true_eq, decide_eq_true_eq] at z
    have hl : i.natAbs.log2 < 127 := log2_lt (Nat.lt_trans (show i.natAbs < 10 ^ 38 by omega) (by decide)) (by decide)
    rw [D.py, PyData.showable, PyData.leavesShort]
    exact ⟨decide_eq_true (by omega), decide_eq_true (int_short (by omega))⟩
  | .str x, z => by
    rw [D.good] at z
    rw [D.py, PyData.showable, PyData.leavesShort]
    refine ⟨rfl, List.all_eq_true.mpr fun c hc => decide_eq_true ?_⟩
    have := strOk_iff.mp z c hc
    exact Nat.lt_trans this (by decide)
  | .lst xs, z | .tup xs, z => by
    rw [D.good] at z
    rw [D.py, PyData.showable, PyData.leavesShort]
    exact goods_show hb xs z
  | .dic [], _ => by rw [D.py]; simp [PyData.showable, PyData.showableKv, PyData.leavesShort, PyData.leavesShortKv]
  | .dic (_ :: _), z | .rf _, z | .scr _, z | .exc _ _, z | .obj _ _, z | .clo _ _ _, z | .pln _, z => by rw [D.good] at z; cases z
theorem goods_show {b : Int} (hb : b < 10 ^ 38) : ∀ xs : List D, D.goods b xs = true → PyData.showableAll (D.pys xs) = true ∧ PyData.leavesShortAll 40 (D.pys xs) = true
  | [], _ => by rw [D.pys, PyData.showableAll, PyData.leavesShortAll]; exact ⟨rfl, rfl⟩
  | x :: xs, z => by
    rw [D.goods, Bool.and_eq_true] at z
    obtain ⟨h1, h2⟩ := good_show hb x z.1
    obtain ⟨h3, h4⟩ := goods_show hb xs z.2
    rw [D.pys, PyData.showableAll, PyData.leavesShortAll, h1, h2, h3, h4]
    exact ⟨rfl, rfl⟩
end
/-- a small thing -/
structure Th (b : Int) (n w : Nat) (d : D) : Prop where
  g : d.good b = true
  dep : d.py.depth ≤ n
  wt : d.py.weight ≤ w
structure Ths (b : Int) (n w : Nat) (xs : List D) : Prop where
  g : D.goods b xs = true
  dep : PyData.depthAll (D.pys xs) ≤ n
  wt : PyData.weightAll (D.pys xs) ≤ w
section
variable {b c : Int} {n m w u : Nat} {d : D} {xs ys : List D}
theorem Th.mono (h : Th b n w d) (h1 : b ≤ c) (h2 : n ≤ m) (h3 : w ≤ u) : Th c m u d := ⟨good_mono h1 d h.g, Nat.le_trans h.dep h2, Nat.le_trans h.wt h3⟩
theorem Ths.mono (h : Ths b n w xs) (h1 : b ≤ c) (h2 : n ≤ m) (h3 : w ≤ u) : Ths c m u xs := ⟨goods_mono h1 xs h.g, Nat.le_trans h.dep h2, Nat.le_trans h.wt h3⟩
theorem Th.shOkA (h : Th b n w d) (hb : b < 10 ^ 38) (hn : n ≤ 64) (hw : w ≤ 300000) : d.shOkA := by
  obtain ⟨h1, h2⟩ := good_show hb d h.g
  refine ⟨good_plA d h.g, h1, Nat.le_trans h.dep hn, ?_⟩
  have := PyData.shown_le 40 (by decide) _ h2
  have hw' := h.wt
  have : (40 + 2) * d.py.weight ≤ 42 * 300000 := Nat.mul_le_mul (by decide) (Nat.le_trans hw' hw)
  rw [sizeLine_eq]
  omega
theorem th_tup : Th b (n + 1) w (.tup xs) ↔ Ths b n w xs := by
  constructor
  · rintro ⟨h1, h2, h3⟩
    rw [D.good] at h1
    rw [D.py, PyData.depth] at h2
    rw [D.py, PyData.weight] at h3
    exact ⟨h1, by omega, h3⟩
  · rintro ⟨h1, h2, h3⟩
    refine ⟨by rw [D.good]; exact h1, ?_, ?_⟩
    · rw [D.py, PyData.depth]; omega
    · rw [D.py, PyData.weight]; exact h3
theorem th_lst : Th b (n + 1) w (.lst xs) ↔ Ths b n w xs := by
  constructor
  · rintro ⟨h1, h2, h3⟩
    rw [D.good] at h1
    rw [D.py, PyData.depth] at h2
    rw [D.py, PyData.weight] at h3
    exact ⟨h1, by omega, h3⟩
  · rintro ⟨h1, h2, h3⟩
    refine ⟨by rw [D.good]; exact h1, ?_, ?_⟩
    · rw [D.py, PyData.depth]; omega
    · rw [D.py, PyData.weight]; exact h3
theorem ths_nil : Ths b n 0 [] := ⟨by rw [D.goods], by rw [D.pys, PyData.depthAll]; exact Nat.zero_le _, by rw [D.pys, PyData.weightAll]; exact Nat.le_refl _⟩
theorem ths_cons (h1 : Th b n w d) (h2 : Ths b n u xs) : Ths b n (w + 1 + u) (d :: xs) := by
  refine ⟨by rw [D.goods, h1.g, h2.g]; rfl, ?_, ?_⟩
  · rw [D.pys, PyData.depthAll]; exact Nat.max_le.mpr ⟨h1.dep, h2.dep⟩
  · rw [D.pys, PyData.weightAll]; have := h1.wt; have := h2.wt; omega
theorem ths_cons_iff : Ths b n w (d :: xs) ↔ ∃ w1 w2, w1 + 1 + w2 ≤ w ∧ Th b n w1 d ∧ Ths b n w2 xs := by
  constructor
  · rintro ⟨h1, h2, h3⟩
    rw [D.goods, Bool.and_eq_true] at h1
    rw [D.pys, PyData.depthAll] at h2
    rw [D.pys, PyData.weightAll] at h3
    exact ⟨_, _, h3, ⟨h1.1, (Nat.max_le.mp h2).1, Nat.le_refl _⟩, ⟨h1.2, (Nat.max_le.mp h2).2, Nat.le_refl _⟩⟩
  · rintro ⟨w1, w2, h, h1, h2⟩
    exact (ths_cons h1 h2).mono (Int.le_refl _) (Nat.le_refl _) h
theorem ths_app : ∀ {xs : List D} {w : Nat}, Ths b n w xs → Ths b n u ys → Ths b n (w + u) (xs ++ ys)
  | [], w, h, h2 => h2.mono (Int.le_refl _) (Nat.le_refl _) (by omega)
  | d :: xs, w, h, h2 => by
    obtain ⟨w1, w2, e, g1, g2⟩ := ths_cons_iff.mp h
    exact (ths_cons g1 (ths_app g2 h2)).mono (Int.le_refl _) (Nat.le_refl _) (by omega)
theorem ths_split : ∀ {xs ys : List D} {w : Nat}, Ths b n w (xs ++ ys) → ∃ w1 w2, w1 + w2 ≤ w ∧ Ths b n w1 xs ∧ Ths b n w2 ys
  | [], ys, w, h => ⟨0, w, by omega, ths_nil, h⟩
  | d :: xs, ys, w, h => by
    obtain ⟨w1, w2, e, g1, g2⟩ := ths_cons_iff.mp h
    obtain ⟨v1, v2, e2, g3, g4⟩ := ths_split g2
    exact ⟨w1 + 1 + v1, v2, by omega, ths_cons g1 g3, g4⟩
theorem ths_rev : ∀ {xs : List D} {w : Nat}, Ths b n w xs → Ths b n w xs.reverse
  | [], w, h => h
  | d :: xs, w, h => by
    obtain ⟨w1, w2, e, g1, g2⟩ := ths_cons_iff.mp h
    rw [List.reverse_cons]
    exact (ths_app (ths_rev g2) (ths_cons g1 ths_nil)).mono (Int.le_refl _) (Nat.le_refl _) (by omega)
theorem th_mem : ∀ {xs : List D} {w : Nat}, Ths b n w xs → d ∈ xs → Th b n w d
  | [], w, h, hd => by cases hd
  | x :: xs, w, h, hd => by
    obtain ⟨w1, w2, e, g1, g2⟩ := ths_cons_iff.mp h
    rcases List.mem_cons.mp hd with rfl | hd
    · exact g1.mono (Int.le_refl _) (Nat.le_refl _) (by omega)
    · exact (th_mem g2 hd).mono (Int.le_refl _) (Nat.le_refl _) (by omega)
theorem ths_len : ∀ {xs : List D} {w : Nat}, Ths b n w xs → xs.length ≤ w
  | [], w, h => Nat.zero_le _
  | x :: xs, w, h => by
    obtain ⟨w1, w2, e, g1, g2⟩ := ths_cons_iff.mp h
    have := ths_len g2
    rw [List.length_cons]; omega
theorem th_int {i : Int} (h1 : -b ≤ i) (h2 : i ≤ b) (hb : b ≤ 10 ^ 32) : Th b n 120 (.int i) := by
  refine ⟨?_, ?_, ?_⟩
  · rw [D.good, decide_eq_true h1, decide_eq_true h2]; rfl
  · rw [D.py, PyData.depth]; exact Nat.zero_le _
  · rw [D.py, PyData.weight]
    split
    · omega
    · have : i.natAbs.log2 < 107 := log2_lt (Nat.lt_of_le_of_lt (show i.natAbs ≤ 10 ^ 32 by omega) (by decide)) (by decide)
      omega
theorem th_str {x : Str} (h : PyData.strOk x = true) : Th b n x.length (.str x) := ⟨by rw [D.good]; exact h, by rw [D.py, PyData.depth]; exact Nat.zero_le _, by rw [D.py, PyData.weight]; exact Nat.le_refl _⟩
theorem th_str_iff {x : Str} : Th b n w (.str x) → PyData.strOk x = true ∧ x.length ≤ w := fun ⟨h1, _, h3⟩ => ⟨by rw [D.good] at h1; exact h1, by rw [D.py, PyData.weight] at h3; exact h3⟩
theorem th_int_iff {i : Int} : Th b n w (.int i) → -b ≤ i ∧ i ≤ b := fun ⟨h1, _, _⟩ => by rw [D.good, Bool.and_eq_true, decide_eq_true_eq, decide_eq_true_eq] at h1; exact h1
end
end Bk

/-! Bk: steps of readings, by what a part answers. -/
namespace Bk
open PySem PySem.Spec PyProof.Rows L2
section
variable {e : DEnv} {s : S} {R : Q1} {E : XQ} {i j : Nat} {d : D} {a b : Exp} {c t u : Tst} {D' : DEnds} {v w : DTS}
theorem var_get (h : nth e i = some d) (k : R d s) : dVar i e s R E := by
  unfold dVar
  rw [h]; exact k
theorem orV_of (x : Bool) (ha : ∀ K : Q1, K (.bl x) s → a e s K E) (ht : x = true → R (.bl true) s) (hb : x = false → b e s R E) : dOrV a b e s R E :=
  ha _ (by cases x with
    | true => exact ht rfl
    | false => exact hb rfl)
theorem andV_of (x : Bool) (ha : ∀ K : Q1, K (.bl x) s → a e s K E) (ht : x = true → b e s R E) (hb : x = false → R (.bl false) s) : dAndV a b e s R E :=
  ha _ (by cases x with
    | true => exact ht rfl
    | false => exact hb rfl)
theorem notV_of (x : Bool) (ha : ∀ K : Q1, K (.bl x) s → a e s K E) (h : R (.bl (!x)) s) : dNotV a e s R E := ha _ h
theorem ifE_of (x : Bool) (hc : ∀ K : Bool → S → Prop, K x s → c e s K E) (ht : x = true → a e s R E) (hb : x = false → b e s R E) : dIf c a b e s R E :=
  hc _ (by cases x with
    | true => exact ht rfl
    | false => exact hb rfl)
theorem ifS_of (x : Bool) (hc : ∀ K : Bool → S → Prop, K x s → c e s K (fun x s' => D'.ex x e s')) (ht : x = true → v D' e s) (hu : x = false → w D' e s) : dIfS c v w D' e s :=
  hc _ (by cases x with
    | true => exact ht rfl
    | false => exact hu rfl)
theorem seq_if (x : Bool) (hc : ∀ K : Bool → S → Prop, K x s → c e s K (fun x s' => D'.ex x e s')) (ht : x = true → v { D' with nx := w D' } e s) (hu : x = false → w D' e s) : dSeq (dIfS c v dNext) w D' e s :=
  hc _ (by cases x with
    | true => exact ht rfl
    | false => exact hu rfl)
theorem tst_of {K : Bool → S → Prop} (x : Bool) (ha : ∀ K : Q1, K (.bl x) s → a e s K E) (h : K x s) : dTst a e s K E := ha _ h
theorem tNot_of {K : Bool → S → Prop} (x : Bool) (ha : ∀ K : Bool → S → Prop, K x s → c e s K E) (h : K (!x) s) : dNot c e s K E := ha _ h
theorem tOr_of {K : Bool → S → Prop} (x : Bool) (ha : ∀ K : Bool → S → Prop, K x s → t e s K E) (ht : x = true → K true s) (hb : x = false → u e s K E) : dOr t u e s K E :=
  ha _ (by cases x with
    | true => rw [if_pos rfl]; exact ht rfl
    | false => rw [if_neg (by decide)]; exact hb rfl)
theorem tAnd_of {K : Bool → S → Prop} (x : Bool) (ha : ∀ K : Bool → S → Prop, K x s → t e s K E) (ht : x = true → u e s K E) (hb : x = false → K false s) : dAnd t u e s K E :=
  ha _ (by cases x with
    | true => rw [if_pos rfl]; exact ht rfl
    | false => rw [if_neg (by decide)]; exact hb rfl)
/-- the type of a thing -/
def kind : D → String
  | .non => "NoneType"
  | .bl _ => "bool"
  | .int _ => "int"
  | .str _ => "str"
  | .lst _ => "list"
  | .tup _ => "tuple"
  | .dic _ => "dict"
  | _ => ""
theorem kind_of {q : Int} : ∀ {d : D}, d.good q = true → tyName d s = some (kind d)
  | .non, _ | .bl _, _ | .int _, _ | .str _, _ | .lst _, _ | .tup _, _ | .dic [], _ => rfl
  | .dic (_ :: _), z | .rf _, z | .scr _, z | .exc _ _, z | .obj _ _, z | .clo _ _ _, z | .pln _, z => by rw [D.good] at z; cases z
theorem exp_isi {n : String} {q : Int} (h : nth e i = some d) (hg : d.good q = true) (hn : n ∈ tyNames) (k : R (.bl (isTy (kind d) n)) s) : dBlt cIsi (dCons (dVar i) (dCons (dC (.rf (.ty n))) dNil)) e s R E := by
  unfold dBlt dCons
  refine var_get h ?_
  exact ⟨hn, _, kind_of hg, k⟩
end
theorem chain_int {e : DEnv} {s : S} {R : Q1} {E : XQ} {fa fb fc : Exp} {a b c : Int} (ha : ∀ K : Q1, K (.int a) s → fa e s K E) (hb : ∀ K : Q1, K (.int b) s → fb e s K E) (hc : ∀ K : Q1, K (.int c) s → fc e s K E) (h : R (.bl (decide (a ≤ b) && decide (b ≤ c))) s) : dChain oLe oLe fa fb fc e s R E := by
  refine ha _ (hb _ ?_)
  show (match D.bl (decide (a ≤ b)) with
    | .bl true => fc e s (fun w s4 => oLe (.int b) w s4 R) E
    | .bl false => R (.bl false) s
    | _ => False)
  cases hab : decide (a ≤ b) with
  | true =>
    rw [hab] at h
    exact hc _ h
  | false =>
    rw [hab] at h
    exact h
theorem exp_eqT {i : Nat} {a b : Int} {e : DEnv} {s : S} {E : XQ} {K : Bool → S → Prop} (h : nth e i = some (.int a)) (q : K (decide (a = b)) s) : dTst (dOp oEq (dVar i) (dC (.int b))) e s K E := by
  unfold dTst dOp
  refine var_get h ⟨⟨eqOk_int _, eqOk_int _⟩, ?_⟩
  rw [eqb_int]
  exact q
theorem put_same {s : S} {q : Addr} {o : MO} : (s.put q o).mu q = some o := if_pos rfl
theorem put_ne {s : S} {p q : Addr} {o : MO} (h : q ≠ p) : (s.put p o).mu q = s.mu q := if_neg h
theorem put_put {s : S} {p : Addr} {a b : MO} : (s.put p a).put p b = s.put p b := by
  unfold S.put
  congr 1
  funext q
  show (if q = p then some b else (if q = p then some a else s.mu q)) = if q = p then some b else s.mu q
  by_cases h : q = p <;> simp [h]
theorem sub_free {s t : S} (h : Sub s t) {q : Addr} (n : t.mu q = none) : s.mu q = none := by
  cases e : s.mu q with
  | none => rfl
  | some o => rw [h.mu q o e] at n; cases n
theorem neS_self {a : Str} {s : S} {R : Q1} (h : R (.bl false) s) : oNeS (.str a) (.str a) s R := by
  show R (.bl (!decide (a = a))) s
  rw [decide_eq_true rfl]; exact h
theorem atI_nat {α : Type} {xs : List α} {j : Nat} (h : j < xs.length) : atI xs (j : Int) = xs[j]? := by
  unfold atI ixN
  rw [if_pos (by omega), if_pos (by omega)]; rfl
theorem cut_to (xs : List D) (k : Nat) (h : k ≤ xs.length) : cutD xs none (some (k : Int)) = xs.take k := by
  unfold cutD
  rw [HT.sIx_none, HT.sIx_nat, List.drop_zero, Nat.sub_zero, Nat.min_eq_left h]
theorem cut_from (xs : List D) (k : Nat) (h : k ≤ xs.length) : cutD xs (some (k : Int)) none = xs.drop k := by
  unfold cutD
  rw [HT.sIx_none, HT.sIx_nat, Nat.min_eq_left h]
  exact List.take_of_length_le (by rw [List.length_drop]; exact Nat.le_refl _)
theorem cut_one (xs : List D) (k : Nat) (h : k < xs.length) : cutD xs (some (k : Int)) (some ((k : Int) + 1)) = [xs[k]] := by
  unfold cutD
  rw [show ((k : Int) + 1) = ((k + 1 : Nat) : Int) by omega, HT.sIx_nat, HT.sIx_nat, Nat.min_eq_left (by omega), Nat.min_eq_left (by omega), show k + 1 - k = 1 by omega, List.drop_eq_getElem_cons h]
  rfl
end Bk

/-! Fj: the module's own tuples, as data. -/
namespace Bk
open PySem PySem.Spec PyProof.Rows L2
mutual
/-- the value is that data, as the written part has it -/
def gB (K : PySem.W.Frag) : D → Value → Bool
  | .non, .none => true
  | .bl b, .bool c => b == c
  | .int i, .int j _ => i == j
  | .str x, .str y _ => x == y
  | .tup ds, .ref a => match K.lookup a with
    | some o => (match o.cls, o.data with
      | .type n, .seq its _ => (n == "tuple") && (decide (its.size ≤ 10000) && gsB K ds its.toList)
      | _, _ => false)
    | none => false
  | _, _ => false
def gsB (K : PySem.W.Frag) : List D → List Value → Bool
  | [], [] => true
  | d :: ds, v :: vs => gB K d v && gsB K ds vs
  | _, _ => false
end
mutual
theorem gB_rep {K : PySem.W.Frag} {T : Tb} : ∀ {d : D} {u : Value}, gB K d u = true → ∃ v, RelV v u ∧ ∀ F, Rep K T F d v
  | .non, u, h => by
    unfold gB at h
    split at h <;> first | cases h | skip
    all_goals first | exact ⟨.non, rfl, fun _ => .non⟩ | (rename_i e; cases e)
  | .bl b, u, h => by
    cases u <;> unfold gB at h <;> first | (cases h; done) | skip
    rename_i c
    have e := eq_of_beq h
    subst e
    exact ⟨.bl b, rfl, fun _ => .bl b⟩
  | .int i, u, h => by
    cases u <;> unfold gB at h <;> first | (cases h; done) | skip
    rename_i j t
    have e := eq_of_beq h
    subst e
    exact ⟨.int i, ⟨t, rfl⟩, fun _ => .int i⟩
  | .str x, u, h => by
    cases u <;> unfold gB at h <;> first | (cases h; done) | skip
    rename_i j t
    have e := eq_of_beq h
    subst e
    exact ⟨.str x, ⟨t, rfl⟩, fun _ => .str x⟩
  | .tup ds, u, h => by
    cases u <;> unfold gB at h <;> first | (cases h; done) | skip
    rename_i a
    split at h
    · rename_i o ho
      split at h
      · rename_i n its m hc hd
        rw [Bool.and_eq_true, Bool.and_eq_true, decide_eq_true_eq] at h
        obtain ⟨h1, h2, h3⟩ := h
        have e := eq_of_beq h1
        subst e
        obtain ⟨vs, hv, hr⟩ := gsB_rep h3
        exact ⟨.ref a, rfl, fun F => .tup (.inr ⟨o, its, m, ho, hc, hd, sz _ (by omega), hv⟩) (hr F)⟩
      · cases h
    · cases h
  | .lst _, u, h => by unfold gB at h; cases h
  | .dic _, u, h => by unfold gB at h; cases h
  | .rf _, u, h => by unfold gB at h; cases h
  | .scr _, u, h => by unfold gB at h; cases h
  | .exc _ _, u, h => by unfold gB at h; cases h
  | .obj _ _, u, h => by unfold gB at h; cases h
  | .clo _ _ _, u, h => by unfold gB at h; cases h
  | .pln _, u, h => by unfold gB at h; cases h
theorem gsB_rep {K : PySem.W.Frag} {T : Tb} : ∀ {ds : List D} {us : List Value}, gsB K ds us = true → ∃ vs, Vals vs us ∧ ∀ F, Reps K T F ds vs
  | [], [], _ => ⟨[], .nil, fun _ => .nil⟩
  | [], _ :: _, h => by unfold gsB at h; cases h
  | _ :: _, [], h => by unfold gsB at h; cases h
  | d :: ds, u :: us, h => by
    unfold gsB at h
    rw [Bool.and_eq_true] at h
    obtain ⟨v, h1, h2⟩ := gB_rep h.1
    obtain ⟨vs, h3, h4⟩ := gsB_rep h.2
    exact ⟨v :: vs, .cons h1 h3, fun F => .cons (h2 F) (h4 F)⟩
end
section
variable {X : Cx} {T : Tb} {W : WX} {pos : Pos} {x : Str}
theorem dx_gdat {d : D} (hg : Gl X x) (hm : ∃ u, X.mg x = some u ∧ gB X.K d u = true) (hd : (x == ("__debug__" : Str)) = false := by decide) : DX X T W (.Name x pos) (dC d) := by
  obtain ⟨u, e, h⟩ := hm
  obtain ⟨v, r, q⟩ := gB_rep h
  exact dx_glob hg e r q hd
end
end Bk

/-! Fk: l == [] and l != [] of a list of anything. -/
namespace Bk
open PySem PySem.Spec PyProof.Rows L2
section
variable {X : Cx} {T : Tb}
theorem op_neE (hu : X.A.units + 64 < cLine) : OpR X (compareOp .NotEq) (fun x y H Q => ∃ a b xs, x = .ref a ∧ y = .ref b ∧ SqL X.K H a xs ∧ SqL X.K H b [] ∧ Q (.bl (!xs.isEmpty)) H) := by
  intro pins s σ H x y v u Q I rx ry h
  obtain ⟨a, b, xs, rfl, rfl, h1, h2, q⟩ := h
  cases rx; cases ry
  obtain ⟨its, rv, p1, _⟩ := I.list h1
  obtain ⟨jts, rw', p2, _⟩ := I.list h2
  cases rw'
  cases xs with
  | nil =>
    cases rv
    have key := SeqAt.RcNeAt.lists (A := X.A) (s := s) (l := a) (b := b) (e := fun _ => true) p1.isList p2.isList rfl (by omega) (fun j h => by simp at h)
    exact key X.prog X.w _ _ ⟨.bl _, H, I, rfl, q⟩
  | cons z zs =>
    have key := SeqAt.RcNeAt.lists_lengths (A := X.A) (s := s) (l := a) (b := b) p1.isList p2.isList (by cases rv with | cons _ _ => simp) (by omega)
    exact key X.prog X.w _ _ ⟨.bl _, H, I, rfl, q⟩
theorem op_eqEL (hu : X.A.units + 64 < cLine) : OpR X (compareOp .Eq) (fun x y H Q => ∃ a b xs, x = .ref a ∧ y = .ref b ∧ SqL X.K H a xs ∧ SqL X.K H b [] ∧ Q (.bl xs.isEmpty) H) := by
  intro pins s σ H x y v u Q I rx ry h
  obtain ⟨a, b, xs, rfl, rfl, h1, h2, q⟩ := h
  cases rx; cases ry
  obtain ⟨its, rv, p1, _⟩ := I.list h1
  obtain ⟨jts, rw', p2, _⟩ := I.list h2
  cases rw'
  cases xs with
  | nil =>
    cases rv
    have key := SeqAt.RcAt.lists (A := X.A) (s := s) (l := a) (b := b) (e := fun _ => true) p1.isList p2.isList rfl (by omega) (fun j h => by simp at h)
    exact key X.prog X.w _ _ ⟨.bl _, H, I, rfl, q⟩
  | cons z zs =>
    have key := SeqAt.RcAt.lists_lengths (A := X.A) (s := s) (l := a) (b := b) p1.isList p2.isList (by cases rv with | cons _ _ => simp) (by omega)
    exact key X.prog X.w _ _ ⟨.bl _, H, I, rfl, q⟩
def oNeL : G2 := fun x y s R => match x, y with
  | .lst xs, .lst [] => R (.bl (!xs.isEmpty)) s
  | _, _ => False
def oEqL : G2 := fun x y s R => match x, y with
  | .lst xs, .lst [] => R (.bl xs.isEmpty) s
  | _, _ => False
theorem od_neL (hu : X.A.units + 64 < cLine) : OpD X T (compareOp .NotEq) oNeL := .of (op_neE hu) fun F s H x y vx vy R Q hh rx ry hg post => by
  unfold oNeL at hg
  split at hg
  · cases rx with | lst l1 r1 => cases ry with | lst l2 r2 =>
      cases r2
      rename_i xs _ vs _
      refine ⟨_, _, vs, rfl, rfl, SqL.of (hh.sub _ _ l1), SqL.of (hh.sub _ _ l2), ?_⟩
      have e : vs.isEmpty = xs.isEmpty := by cases r1 <;> rfl
      rw [e]
      exact post _ s _ H F hg Ext.refl hh (.bl _)
  · exact hg.elim
theorem od_eqL (hu : X.A.units + 64 < cLine) : OpD X T (compareOp .Eq) oEqL := .of (op_eqEL hu) fun F s H x y vx vy R Q hh rx ry hg post => by
  unfold oEqL at hg
  split at hg
  · cases rx with | lst l1 r1 => cases ry with | lst l2 r2 =>
      cases r2
      rename_i xs _ vs _
      refine ⟨_, _, vs, rfl, rfl, SqL.of (hh.sub _ _ l1), SqL.of (hh.sub _ _ l2), ?_⟩
      have e : vs.isEmpty = xs.isEmpty := by cases r1 <;> rfl
      rw [e]
      exact post _ s _ H F hg Ext.refl hh (.bl _)
  · exact hg.elim
end
end Bk

/-! Bk: what defs compute, as functions on deep data; what the terms say follows from it. -/
namespace Bk
open PySem PySem.Spec PyProof.Rows L2

/-- an answer: a value, an exception, or not told -/
inductive Rs (α : Type) where
  | ok (a : α)
  | ex (x : Ex)
  | no
section
variable {α β : Type}
def Rs.bind : Rs α → (α → Rs β) → Rs β
  | .ok a, f => f a
  | .ex x, _ => .ex x
  | .no, _ => .no
def Rs.run : Rs α → (α → Prop) → (Ex → Prop) → Prop
  | .ok a, R, _ => R a
  | .ex x, _, E => E x
  | .no, _, _ => False
/-- an exception is not told -/
def Rs.calm : Rs α → Rs α
  | .ok a => .ok a
  | .ex _ => .no
  | .no => .no
def Rs.opt : Option α → Rs α
  | some a => .ok a
  | none => .no
def asB : D → Rs Bool
  | .bl b => .ok b
  | _ => .no
section
variable {a : α} {x : Ex} {f : α → Rs β} {R : α → Prop} {E : Ex → Prop} {b : Bool}
@[simp] theorem bind_ok : (Rs.ok a).bind f = f a := rfl
@[simp] theorem bind_ex : (Rs.ex x : Rs α).bind f = .ex x := rfl
@[simp] theorem bind_no : (Rs.no : Rs α).bind f = .no := rfl
@[simp] theorem run_ok : (Rs.ok a).run R E = R a := rfl
@[simp] theorem run_ex : (Rs.ex x : Rs α).run R E = E x := rfl
@[simp] theorem run_no : (Rs.no : Rs α).run R E = False := rfl
@[simp] theorem calm_ok : (Rs.ok a).calm = .ok a := rfl
@[simp] theorem calm_ex : (Rs.ex x : Rs α).calm = .no := rfl
@[simp] theorem calm_no : (Rs.no : Rs α).calm = .no := rfl
@[simp] theorem opt_some : Rs.opt (some a) = .ok a := rfl
@[simp] theorem opt_none : Rs.opt (none : Option α) = .no := rfl
@[simp] theorem asB_bl : asB (.bl b) = .ok b := rfl
end
section
variable {p : Prop} [Decidable p]
@[simp] theorem bind_ite {a b : Rs α} {f : α → Rs β} : (if p then a else b).bind f = if p then a.bind f else b.bind f := by split <;> rfl
@[simp] theorem calm_ite {a b : Rs α} : (if p then a else b).calm = if p then a.calm else b.calm := by split <;> rfl
@[simp] theorem asB_ite {a b : D} : asB (if p then a else b) = if p then asB a else asB b := by split <;> rfl
@[simp] theorem opt_ite {a b : Option α} : Rs.opt (if p then a else b) = if p then Rs.opt a else Rs.opt b := by split <;> rfl
end
theorem run_bind {r : Rs α} {f : α → Rs β} {R : β → Prop} {E : Ex → Prop} : (r.bind f).run R E ↔ r.run (fun a => (f a).run R E) E := by
  cases r <;> exact Iff.rfl
theorem run_mono {r : Rs α} {R R' : α → Prop} {E E' : Ex → Prop} (h : r.run R E) (k : ∀ a, R a → R' a) (k2 : ∀ x, E x → E' x) : r.run R' E' := by
  cases r with
  | ok a => exact k a h
  | ex x => exact k2 x h
  | no => exact h
theorem run_opt {o : Option α} {R : α → Prop} {E : Ex → Prop} (h : (Rs.opt o).run R E) : ∃ a, o = some a ∧ R a := by
  cases o with
  | none => exact h.elim
  | some a => exact ⟨a, rfl, h⟩
theorem run_calm {r : Rs α} {R : α → Prop} {E : Ex → Prop} (h : r.calm.run R E) : ∃ a, r = .ok a ∧ R a := by
  cases r with
  | ok a => exact ⟨a, rfl, h⟩
  | ex x => exact h.elim
  | no => exact h.elim
end
abbrev FX := DEnv → Rs D
abbrev FT := DEnv → Rs Bool
abbrev FA := DEnv → Rs (List D)
abbrev FG := D → DEnv → Option DEnv
/-- how a statement ends -/
inductive Out where
  | nx (e : DEnv) | rt (d : D) | bk (e : DEnv) | ct (e : DEnv) | ex (x : Ex) (e : DEnv) | no
abbrev FS := DEnv → Out

def moOf : D → Option MO
  | .lst xs => some (.ml xs)
  | .dic kvs => some (.mk kvs)
  | _ => none
/-- what the functions hold at the slots M stands in the state; elsewhere it stands in the slots; s0 is kept -/
structure Rl (M : List Nat) (s0 : S) (fe we : DEnv) (ws : S) : Prop where
  len : fe.length = we.length
  sub : Sub s0 ws
  im : ∀ i d, i ∉ M → nth fe i = some d → nth we i = some d
  mu : ∀ i d, i ∈ M → nth fe i = some d → ∃ p o, nth we i = some (.rf (.ref p)) ∧ s0.mu p = none ∧ moOf d = some o ∧ ws.mu p = some o
  inj : ∀ i j p, i ∈ M → j ∈ M → i ≠ j → nth fe i ≠ none → nth fe j ≠ none → nth we i = some (.rf (.ref p)) → nth we j ≠ some (.rf (.ref p))
def Out.run (M : List Nat) (s0 : S) (DD : DEnds) : Out → Prop
  | .nx fe => ∀ we ws, Rl M s0 fe we ws → DD.nx we ws
  | .rt d => ∀ ws, Sub s0 ws → DD.rt d ws
  | .bk fe => ∀ we ws, Rl M s0 fe we ws → DD.bk we ws
  | .ct fe => ∀ we ws, Rl M s0 fe we ws → DD.ct we ws
  | .ex x fe => ∀ we ws, Rl M s0 fe we ws → DD.ex x we ws
  | .no => False
/-- w computes f -/
def AX (M : List Nat) (f : FX) (w : Exp) : Prop := ∀ s0 fe we ws, Rl M s0 fe we ws → ∀ R E, (f fe).run (fun d => R d ws) (fun x => E x ws) → w we ws R E
def AT (M : List Nat) (f : FT) (w : Tst) : Prop := ∀ s0 fe we ws, Rl M s0 fe we ws → ∀ R E, (f fe).run (fun b => R b ws) (fun x => E x ws) → w we ws R E
def AA (M : List Nat) (n : Nat) (f : FA) (w : Arg) : Prop := ∀ s0 fe we ws, Rl M s0 fe we ws → ∀ R E, (f fe).run (fun ds => ds.length = n → R ds ws) (fun x => E x ws) → w we ws R E
def AI (M : List Nat) (f : FA) (w : Arg) : Prop := ∀ s0 fe we ws, Rl M s0 fe we ws → ∀ R E, (f fe).run (fun ds => R ds ws) (fun x => E x ws) → w we ws R E
def AG (M : List Nat) (g : FG) (w : DG) : Prop := ∀ s0 fe we ws, Rl M s0 fe we ws → ∀ d fe1, g d fe = some fe1 → ∀ K : DEnv → S → Prop, (∀ we1, Rl M s0 fe1 we1 ws → K we1 ws) → w d we ws K
def AS (M : List Nat) (f : FS) (w : DTS) : Prop := ∀ s0 fe we ws, Rl M s0 fe we ws → ∀ DD, (f fe).run M s0 DD → w DD we ws
/-- d', in the state, is d -/
def VRel (ws : S) (d' d : D) : Prop := d' = d ∨ ∃ p o, d' = .rf (.ref p) ∧ moOf d = some o ∧ ws.mu p = some o
def AV (M : List Nat) (f : FX) (w : Exp) : Prop := ∀ s0 fe we ws, Rl M s0 fe we ws → ∀ R E, (f fe).run (fun d => ∀ d', VRel ws d' d → R d' ws) (fun x => E x ws) → w we ws R E
/-- a new thing that may change -/
def AM (M : List Nat) (f : FX) (w : Exp) : Prop := ∀ s0 fe we ws, Rl M s0 fe we ws → ∀ R E, (f fe).run (fun d => ∀ p o, moOf d = some o → ws.mu p = none → R (.rf (.ref p)) (ws.put p o)) (fun x => E x ws) → w we ws R E
section
variable {M : List Nat} {s0 ws : S} {fe we : DEnv}
theorem nth_dset : ∀ (e : DEnv) (i j : Nat) (x : Option D), nth (dset e i x) j = if i = j ∧ i < e.length then x else nth e j
  | [], i, j, x => by simp [dset, nth]
  | y :: r, 0, 0, x => by simp [dset, nth]
  | y :: r, 0, j + 1, x => by simp [dset, nth]
  | y :: r, i + 1, 0, x => by simp [dset, nth]
  | y :: r, i + 1, j + 1, x => by
    rw [dset, nth, nth, nth_dset r i j x]
    simp
theorem dset_len : ∀ (e : DEnv) (i : Nat) (x : Option D), (dset e i x).length = e.length
  | [], _, _ => rfl
  | _ :: _, 0, _ => rfl
  | _ :: r, i + 1, x => congrArg (· + 1) (dset_len r i x)
theorem nth_lt : ∀ {e : DEnv} {i : Nat} {d : D}, nth e i = some d → i < e.length
  | [], _, _, h => by cases h
  | _ :: _, 0, _, _ => Nat.zero_lt_succ _
  | _ :: r, i + 1, _, h => Nat.succ_lt_succ (nth_lt (e := r) h)
theorem dwipe_len (e : DEnv) : ∀ vs : List Nat, (dwipe e vs).length = e.length
  | [] => rfl
  | v :: vs => by rw [dwipe, dset_len, dwipe_len e vs]
theorem Rl.nonM {i : Nat} {d : D} (h : Rl M s0 fe we ws) (hi : i ∉ M) : Rl M s0 (dset fe i (some d)) (dset we i (some d)) ws := by
  have hne : ∀ j, j ∈ M → i ≠ j := fun j hj e => hi (e ▸ hj)
  refine ⟨by rw [dset_len, dset_len, h.len], h.sub, fun j x hj e => ?_, fun j x hj e => ?_, fun j k p hj hk hjk e1 e2 e3 => ?_⟩
  · rw [nth_dset] at e ⊢
    rw [← h.len]
    split at e
    · rename_i z; rw [if_pos z]; exact e
    · rename_i z; rw [if_neg z]; exact h.im j x hj e
  · rw [nth_dset, if_neg (fun z => hne j hj z.1)] at e ⊢
    exact h.mu j x hj e
  · rw [nth_dset, if_neg (fun z => hne j hj z.1)] at e1 e3
    rw [nth_dset, if_neg (fun z => hne k hk z.1)] at e2 ⊢
    exact h.inj j k p hj hk hjk e1 e2 e3
theorem Rl.forget (h : Rl M s0 fe we ws) (i : Nat) : Rl M s0 (dset fe i none) we ws := by
  have g : ∀ {j : Nat} {x : D}, nth (dset fe i none) j = some x → nth fe j = some x := fun {j x} e => by
    rw [nth_dset] at e
    split at e
    · cases e
    · exact e
  have g2 : ∀ {j : Nat}, nth (dset fe i none) j ≠ none → nth fe j ≠ none := fun {j} e z => by
    cases q : nth (dset fe i none) j with
    | none => exact e q
    | some x => rw [g q] at z; cases z
  exact ⟨by rw [dset_len, h.len], h.sub, fun j x hj e => h.im j x hj (g e), fun j x hj e => h.mu j x hj (g e), fun j k p hj hk hjk e1 e2 e3 => h.inj j k p hj hk hjk (g2 e1) (g2 e2) e3⟩
theorem Rl.forgets (h : Rl M s0 fe we ws) : ∀ vs : List Nat, Rl M s0 (dwipe fe vs) we ws
  | [] => h
  | v :: vs => (Rl.forgets h vs).forget v
theorem Rl.both (h : Rl M s0 fe we ws) (i : Nat) : Rl M s0 (dset fe i none) (dset we i none) ws := by
  have g : ∀ {j : Nat} {x : D}, nth (dset fe i none) j = some x → nth fe j = some x ∧ ¬ (i = j ∧ i < we.length) := fun {j x} e => by
    rw [nth_dset] at e
    split at e
    · cases e
    · rename_i z; rw [h.len] at z; exact ⟨e, z⟩
  have g2 : ∀ {j : Nat}, nth (dset fe i none) j ≠ none → nth fe j ≠ none ∧ ¬ (i = j ∧ i < we.length) := fun {j} e => by
    cases q : nth (dset fe i none) j with
    | none => exact (e q).elim
    | some x => exact ⟨by rw [(g q).1]; exact (fun z => by cases z), (g q).2⟩
  refine ⟨by rw [dset_len, dset_len, h.len], h.sub, fun j x hj e => ?_, fun j x hj e => ?_, fun j k p hj hk hjk e1 e2 e3 => ?_⟩
  · rw [nth_dset, if_neg (g e).2]; exact h.im j x hj (g e).1
  · rw [nth_dset, if_neg (g e).2]; exact h.mu j x hj (g e).1
  · rw [nth_dset, if_neg (g2 e1).2] at e3
    rw [nth_dset, if_neg (g2 e2).2]
    exact h.inj j k p hj hk hjk (g2 e1).1 (g2 e2).1 e3
theorem Rl.wipes (h : Rl M s0 fe we ws) : ∀ vs : List Nat, Rl M s0 (dwipe fe vs) (dwipe we vs) ws
  | [] => h
  | v :: vs => (Rl.wipes h vs).both v
theorem Rl.fresh (h : Rl M s0 fe we ws) {p : Addr} {o : MO} (hp : ws.mu p = none) : Rl M s0 fe we (ws.put p o) :=
  ⟨h.len, Sub.put (sub_free h.sub hp) h.sub, h.im, fun i d hi e => by
    obtain ⟨q, u, h1, h2, h3, h4⟩ := h.mu i d hi e
    exact ⟨q, u, h1, h2, h3, by rw [put_ne (fun z => by rw [z, hp] at h4; cases h4)]; exact h4⟩, h.inj⟩
/-- a new thing is put into a slot of M -/
theorem Rl.setM (h : Rl M s0 fe we ws) {i : Nat} {d : D} {p : Addr} {o : MO} (hi : i ∈ M) (hp : ws.mu p = none) (ho : moOf d = some o) : Rl M s0 (dset fe i (some d)) (dset we i (some (.rf (.ref p)))) (ws.put p o) := by
  have h' := h.fresh (o := o) hp
  refine ⟨by rw [dset_len, dset_len, h.len], h'.sub, fun j x hj e => ?_, fun j x hj e => ?_, fun j k q hj hk hjk e1 e2 e3 => ?_⟩
  · have ne : i ≠ j := fun z => hj (z ▸ hi)
    rw [nth_dset, if_neg (fun z => ne z.1)] at e ⊢
    exact h.im j x hj e
  · rw [nth_dset] at e ⊢
    rw [← h.len]
    split at e
    · rename_i z
      rw [if_pos z]
      cases e
      exact ⟨p, o, rfl, sub_free h.sub hp, ho, put_same⟩
    · rename_i z
      rw [if_neg z]
      exact h'.mu j x hj e
  · rw [nth_dset, ← h.len] at e3
    rw [nth_dset] at e1 e2
    rw [nth_dset, ← h.len]
    have old : ∀ {a : Nat}, a ∈ M → nth fe a ≠ none → nth we a ≠ some (.rf (.ref p)) := fun {a} ha hn z => by
      cases q : nth fe a with
      | none => exact hn q
      | some x =>
        obtain ⟨p', o', g1, _, _, g4⟩ := h.mu a x ha q
        rw [g1] at z
        cases z
        rw [hp] at g4; cases g4
    by_cases z1 : i = j ∧ i < fe.length
    · rw [if_pos z1] at e3
      cases e3
      have z2 : ¬ (i = k ∧ i < fe.length) := fun z => hjk (z1.1.symm.trans z.1)
      rw [if_neg z2] at e2 ⊢
      exact old hk e2
    · rw [if_neg z1] at e1 e3
      by_cases z2 : i = k ∧ i < fe.length
      · rw [if_pos z2]
        intro z
        cases z
        exact old hj e1 e3
      · rw [if_neg z2] at e2 ⊢
        exact h.inj j k q hj hk hjk e1 e2 e3
/-- the thing at a slot of M changes -/
theorem Rl.chg (h : Rl M s0 fe we ws) {i : Nat} {d d0 : D} {p : Addr} {o : MO} (hi : i ∈ M) (h0 : nth fe i = some d0) (hw : nth we i = some (.rf (.ref p))) (ho : moOf d = some o) : Rl M s0 (dset fe i (some d)) we (ws.put p o) := by
  have il := nth_lt h0
  obtain ⟨p', o', g1, g2, g3, g4⟩ := h.mu i d0 hi h0
  rw [hw] at g1
  cases g1
  refine ⟨by rw [dset_len, h.len], Sub.put g2 h.sub, fun j x hj e => ?_, fun j x hj e => ?_, fun j k q hj hk hjk e1 e2 e3 => ?_⟩
  · have ne : i ≠ j := fun z => hj (z ▸ hi)
    rw [nth_dset, if_neg (fun z => ne z.1)] at e
    exact h.im j x hj e
  · rw [nth_dset] at e
    by_cases z : i = j
    · rw [if_pos ⟨z, il⟩] at e
      cases e
      exact ⟨p, o, z ▸ hw, g2, ho, put_same⟩
    · rw [if_neg (fun y => z y.1)] at e
      obtain ⟨q, u, f1, f2, f3, f4⟩ := h.mu j x hj e
      refine ⟨q, u, f1, f2, f3, ?_⟩
      rw [put_ne (fun y => ?_)]
      · exact f4
      · rw [y] at f1
        exact h.inj i j p hi hj z (by rw [h0]; exact fun y => by cases y) (by rw [e]; exact fun y => by cases y) hw f1
  · have g : ∀ {a : Nat}, nth (dset fe i (some d)) a ≠ none → nth fe a ≠ none := fun {a} e z => by
      rw [nth_dset] at e
      split at e
      · rename_i y; rw [← y.1, h0] at z; cases z
      · exact e z
    exact h.inj j k q hj hk hjk (g e1) (g e2) e3
/-- a list at a slot of M will not change any more -/
theorem Rl.frz (h : Rl M s0 fe we ws) {i : Nat} {xs : List D} (hi : i ∈ M) (h0 : nth fe i = some (.lst xs)) : ∃ p, nth we i = some (.rf (.ref p)) ∧ ws.mu p = some (.ml xs) ∧ Sub s0 (ws.del p) ∧ Rl (M.filter (· != i)) s0 fe (dset we i (some (.lst xs))) (ws.del p) := by
  obtain ⟨p, o, g1, g2, g3, g4⟩ := h.mu i _ hi h0
  cases g3
  have dn : ∀ q, q ≠ p → (ws.del p).mu q = ws.mu q := fun q hq => if_neg hq
  have sb : Sub s0 (ws.del p) := ⟨fun q u e => by rw [dn q (fun z => by rw [z, g2] at e; cases e)]; exact h.sub.mu q u e, h.sub.g⟩
  have mem : ∀ {j : Nat}, j ∈ M.filter (· != i) ↔ j ∈ M ∧ i ≠ j := fun {j} => by
    rw [List.mem_filter]
    simp only [bne_iff_ne, ne_eq]
    exact ⟨fun ⟨a, b⟩ => ⟨a, fun z => b z.symm⟩, fun ⟨a, b⟩ => ⟨a, fun z => b z.symm⟩⟩
  have il := nth_lt h0
  refine ⟨p, g1, g4, sb, ⟨by rw [dset_len, h.len], sb, fun j x hj e => ?_, fun j x hj e => ?_, fun j k q hj hk hjk e1 e2 e3 => ?_⟩⟩
  · rw [nth_dset, ← h.len]
    by_cases z : i = j
    · rw [if_pos ⟨z, il⟩, ← e, ← z, h0]
    · rw [if_neg (fun y => z y.1)]
      exact h.im j x (fun y => hj (mem.mpr ⟨y, z⟩)) e
  · obtain ⟨jm, ne⟩ := mem.mp hj
    obtain ⟨q, u, f1, f2, f3, f4⟩ := h.mu j x jm e
    refine ⟨q, u, by rw [nth_dset, if_neg (fun y => ne y.1)]; exact f1, f2, f3, ?_⟩
    rw [dn q (fun y => ?_)]
    · exact f4
    · rw [y] at f1
      exact h.inj i j p hi jm ne (by rw [h0]; exact fun y => by cases y) (by rw [e]; exact fun y => by cases y) g1 f1
  · obtain ⟨jm, nj⟩ := mem.mp hj
    obtain ⟨km, nk⟩ := mem.mp hk
    rw [nth_dset, if_neg (fun y => nj y.1)] at e3
    rw [nth_dset, if_neg (fun y => nk y.1)]
    exact h.inj j k q jm km hjk e1 e2 e3
/-- a slot of M is forgotten by both -/
theorem Rl.back (h : Rl (M.filter (· != i)) s0 fe we ws) : Rl M s0 (dset fe i none) we ws := by
  have h' := h.forget i
  have mem : ∀ {j : Nat}, j ∈ M → i ≠ j → j ∈ M.filter (· != i) := fun {j} a b => by
    rw [List.mem_filter]
    simp only [bne_iff_ne, ne_eq]
    exact ⟨a, fun z => b z.symm⟩
  have ni : ∀ {x : D}, nth (dset fe i none) i = some x → False := fun {x} e => by
    have il : i < fe.length := by
      have := nth_lt e
      rwa [dset_len] at this
    rw [nth_dset, if_pos ⟨rfl, il⟩] at e; cases e
  have ne : ∀ {j : Nat} {x : D}, nth (dset fe i none) j = some x → i ≠ j := fun {j x} e z => by subst z; exact ni e
  have ne2 : ∀ {j : Nat}, nth (dset fe i none) j ≠ none → i ≠ j := fun {j} e => by
    cases q : nth (dset fe i none) j with
    | none => exact (e q).elim
    | some x => exact ne q
  exact ⟨h'.len, h'.sub, fun j x hj e => h'.im j x (fun z => hj (List.mem_filter.mp z).1) e, fun j x hj e => h'.mu j x (mem hj (ne e)) e, fun j k p hj hk hjk e1 e2 e3 => h'.inj j k p (mem hj (ne2 e1)) (mem hk (ne2 e2)) hjk e1 e2 e3⟩
end
theorem vrel_self {ws : S} {d : D} : VRel ws d d := .inl rfl
def seqF : D → Option (List D)
  | .tup xs => some xs
  | .lst xs => some xs
  | .scr ns => some (ns.map .int)
  | _ => none
def lstF : D → Option (List D)
  | .lst xs => some xs
  | .scr ns => some (ns.map .int)
  | _ => none
theorem vrel_lst {ws : S} {d' d : D} {xs : List D} (h : VRel ws d' d) (hs : lstF d = some xs) : lstOf d' ws = some xs := by
  rcases h with rfl | ⟨p, o, rfl, ho, hp⟩
  · cases d' <;> first | exact hs | cases hs
  · cases d <;> first | cases ho | skip
    · cases hs
      show (match ws.mu p with | some (.ml ds) => some ds | _ => none) = _
      rw [hp]
    · cases hs
theorem vrel_seq {ws : S} {d' d : D} {xs : List D} (h : VRel ws d' d) (hs : seqF d = some xs) : seqOf d' ws = some xs := by
  cases d with
  | tup ys =>
    rcases h with rfl | ⟨p, o, rfl, ho, hp⟩
    · exact hs
    · cases ho
  | lst ys =>
    have q := vrel_lst (xs := xs) h (by exact hs)
    rcases h with rfl | ⟨p, o, rfl, ho, hp⟩ <;> exact q
  | scr ys =>
    have q := vrel_lst (xs := xs) h (by exact hs)
    rcases h with rfl | ⟨p, o, rfl, ho, hp⟩ <;> exact q
  | _ => cases hs
theorem vrel_dic {ws : S} {d' : D} {kvs : List (Key × D)} (h : VRel ws d' (.dic kvs)) : dicOf d' ws = some kvs := by
  rcases h with rfl | ⟨p, o, rfl, ho, hp⟩
  · rfl
  · cases ho
    show (match ws.mu p with | some (.mk kvs) => some kvs | _ => none) = _
    rw [hp]
end Bk

/-! Bk: functions for expressions. -/
namespace Bk
open PySem PySem.Spec PyProof.Rows L2
abbrev F1 := D → Option D
abbrev F2 := D → D → Option D
def O2 (g : F2) (w : G2) : Prop := ∀ x y d s R, g x y = some d → R d s → w x y s R
def OV (g : F2) (w : G2) : Prop := ∀ x' y' x y d s R, VRel s x' x → VRel s y' y → g x y = some d → R d s → w x' y' s R
def O1 (g : F1) (w : G1) : Prop := ∀ x d s R, g x = some d → R d s → w x s R
def B1 (g : F1) (w : GA) : Prop := ∀ x' x d s R, VRel s x' x → g x = some d → R d s → w [x'] s R
def B2 (g : F2) (w : GA) : Prop := ∀ x y d s R, g x y = some d → R d s → w [x, y] s R
section
variable {M : List Nat} {a b c : FX} {wa wb wc : Exp} {t u : FT} {wt wu : Tst} {r : FA} {wr : Arg} {n : Nat}
theorem vrel_id {s : S} {d' d : D} (h : VRel s d' d) (ho : moOf d = none) : d' = d := by
  rcases h with h | ⟨p, o, _, h, _⟩
  · exact h
  · rw [ho] at h; cases h
/-! ### names, constants -/
@[simp] def fVar (i : Nat) (e : DEnv) : Rs D := Rs.opt (nth e i)
@[simp] def fC (d : D) (_ : DEnv) : Rs D := .ok d
theorem ax_var (i : Nat) (hi : i ∉ M := by decide) : AX M (fVar i) (dVar i) := fun s0 fe we ws h R E q => by
  obtain ⟨d, hd, q⟩ := run_opt q
  unfold dVar
  rw [h.im i d hi hd]; exact q
theorem av_var (i : Nat) : AV M (fVar i) (dVar i) := fun s0 fe we ws h R E q => by
  obtain ⟨d, hd, q⟩ := run_opt q
  unfold dVar
  by_cases hi : i ∈ M
  · obtain ⟨p, o, h1, h2, h3, h4⟩ := h.mu i d hi hd
    rw [h1]
    exact q _ (.inr ⟨p, o, rfl, h3, h4⟩)
  · rw [h.im i d hi hd]
    exact q _ (.inl rfl)
theorem ax_c (d : D) : AX M (fC d) (dC d) := fun s0 fe we ws h R E q => q
theorem av_of (h : AX M a wa) : AV M a wa := fun s0 fe we ws hr R E q => h s0 fe we ws hr R E (run_mono q (fun d k => k d (.inl rfl)) fun _ k => k)
/-! ### operators -/
@[simp] def fOp (g : F2) (a b : FX) (e : DEnv) : Rs D := (a e).bind fun x => (b e).bind fun y => Rs.opt (g x y)
@[simp] def fUn (g : F1) (a : FX) (e : DEnv) : Rs D := (a e).bind fun x => Rs.opt (g x)
theorem ax_op {g : F2} {w : G2} (ho : O2 g w) (ha : AX M a wa) (hb : AX M b wb) : AX M (fOp g a b) (dOp w wa wb) := fun s0 fe we ws h R E q => by
  refine ha s0 fe we ws h _ E (run_mono (run_bind.mp q) (fun x q => ?_) fun _ k => k)
  refine hb s0 fe we ws h _ E (run_mono (run_bind.mp q) (fun y q => ?_) fun _ k => k)
  obtain ⟨d, e, q⟩ := run_opt q
  exact ho x y d ws R e q
theorem ax_opV {g : F2} {w : G2} (ho : OV g w) (ha : AV M a wa) (hb : AV M b wb) : AX M (fOp g a b) (dOp w wa wb) := fun s0 fe we ws h R E q => by
  refine ha s0 fe we ws h _ E (run_mono (run_bind.mp q) (fun x q x' hx => ?_) fun _ k => k)
  refine hb s0 fe we ws h _ E (run_mono (run_bind.mp q) (fun y q y' hy => ?_) fun _ k => k)
  obtain ⟨d, e, q⟩ := run_opt q
  exact ho x' y' x y d ws R hx hy e q
theorem ax_un {g : F1} {w : G1} (ho : O1 g w) (ha : AX M a wa) : AX M (fUn g a) (dUn w wa) := fun s0 fe we ws h R E q => by
  refine ha s0 fe we ws h _ E (run_mono (run_bind.mp q) (fun x q => ?_) fun _ k => k)
  obtain ⟨d, e, q⟩ := run_opt q
  exact ho x d ws R e q
def gInt (f : Int → Int → D) : F2
  | .int i, .int j => some (f i j)
  | _, _ => none
theorem o_int (f : Int → Int → D) : O2 (gInt f) (oInt f) := fun x y d s R e q => by
  cases x <;> cases y <;> first | (cases e; exact q) | cases e
instance (i j : Int) : Decidable (CMul i j) := by unfold CMul; infer_instance
instance (i j : Int) : Decidable (CDiv i j) := by unfold CDiv; infer_instance
instance (i j : Int) : Decidable (CPow i j) := by unfold CPow; infer_instance
def gIntC (c : Int → Int → Prop) [∀ i j, Decidable (c i j)] (f : Int → Int → D) : F2
  | .int i, .int j => if c i j then some (f i j) else none
  | _, _ => none
theorem o_intC (c : Int → Int → Prop) [∀ i j, Decidable (c i j)] (f : Int → Int → D) : O2 (gIntC c f) (oIntC c f) := fun x y d s R e q => by
  cases x <;> cases y <;> first | cases e | skip
  rename_i i j
  rw [gIntC] at e
  split at e
  · rename_i h; cases e; exact ⟨h, q⟩
  · cases e
abbrev gSub : F2 := gInt fun i j => .int (i - j)
abbrev gLt : F2 := gInt fun i j => .bl (decide (i < j))
abbrev gLe : F2 := gInt fun i j => .bl (decide (i ≤ j))
abbrev gGt : F2 := gInt fun i j => .bl (decide (j < i))
abbrev gGe : F2 := gInt fun i j => .bl (decide (j ≤ i))
abbrev gDiv : F2 := gIntC CDiv fun i j => .int (i / j)
abbrev gMod : F2 := gIntC (fun _ j => 0 < j) fun i j => .int (i % j)
abbrev gPow : F2 := gIntC CPow fun i j => .int (i ^ j.toNat)
def gNeg : F1
  | .int i => some (.int (-i))
  | _ => none
theorem o_neg : O1 gNeg oNeg := fun x d s R e q => by cases x <;> first | (cases e; exact q) | cases e
def gAdd : F2
  | .int i, .int j => some (.int (i + j))
  | .str a, .str b => if a.length + b.length ≤ sizeLine then some (.str (a ++ b)) else none
  | .lst xs, .lst ys => if xs.length + ys.length ≤ sizeLine then some (.lst (xs ++ ys)) else none
  | .tup xs, .tup ys => if xs.length + ys.length ≤ sizeLine then some (.tup (xs ++ ys)) else none
  | _, _ => none
theorem o_add : O2 gAdd oAdd := fun x y d s R e q => by
  unfold gAdd at e
  unfold oAdd
  split at e
  · cases e; exact q
  · split at e
    · rename_i h; cases e; exact ⟨h, q⟩
    · cases e
  · split at e
    · rename_i h; cases e; exact ⟨h, q⟩
    · cases e
  · split at e
    · rename_i h; cases e; exact ⟨h, q⟩
    · cases e
  · cases e
def gMul : F2
  | .int i, .int j => if CMul i j then some (.int (i * j)) else none
  | .str z, .int k => if 1 < k ∧ k ≤ 100 ∧ 0 < z.length ∧ z.length ≤ 100000 then some (.str (strMul z k.toNat)) else none
  | .tup xs, .int k => if xs.length ≠ 0 ∧ 2 ≤ k ∧ k ≤ 1000 ∧ xs.length ≤ 1000 then some (.tup (repL xs k.toNat)) else none
  | .lst xs, .int k => if -(2 ^ 63) ≤ k ∧ k < 2 ^ 63 ∧ xs.length * k.toNat ≤ sizeLine then some (.lst (repL xs k.toNat)) else none
  | _, _ => none
theorem len_ne {xs : List D} (h : xs.length ≠ 0) : xs ≠ [] := fun z => h (by rw [z]; rfl)
theorem o_mul : O2 gMul oMul := fun x y d s R e q => by
  unfold gMul at e
  unfold oMul
  split at e
  · split at e
    · rename_i h; cases e; exact ⟨h, q⟩
    · cases e
  · split at e
    · rename_i h; cases e; exact ⟨h, q⟩
    · cases e
  · split at e
    · rename_i h; cases e; exact ⟨⟨len_ne h.1, h.2⟩, q⟩
    · cases e
  · split at e
    · rename_i h; cases e; exact ⟨h, q⟩
    · cases e
  · cases e
def gMulT : F2
  | .tup xs, .int k => if xs.length ≠ 0 ∧ 1 ≤ k ∧ k ≤ 1000 ∧ xs.length ≤ 1000 then some (.tup (repL xs k.toNat)) else none
  | _, _ => none
theorem o_mulT : O2 gMulT oMulT := fun x y d s R e q => by
  unfold gMulT at e
  unfold oMulT
  split at e
  · split at e
    · rename_i h; cases e; exact ⟨⟨len_ne h.1, h.2⟩, q⟩
    · cases e
  · cases e
def gEq : F2 := fun x y => if x.eqOk = true ∧ y.eqOk = true then some (.bl (x.eqb y)) else none
theorem o_eq : O2 gEq oEq := fun x y d s R e q => by
  unfold gEq at e
  split at e
  · rename_i h; cases e; exact ⟨h, q⟩
  · cases e
def gNe : F2 := fun x y => if x.eqOk = true ∧ y.eqOk = true then some (.bl (!x.eqb y)) else none
theorem o_ne : O2 gNe oNe := fun x y d s R e q => by
  unfold gNe at e
  split at e
  · rename_i h; cases e; exact ⟨h, q⟩
  · cases e
theorem vrel_dref {s : S} {x' x : D} (h : VRel s x' x) (hx : x.eqOk = true) : dref x' s = x := by
  have hd : ∀ z, lstOf x' s = some z → x = .lst z := fun z hz => by
    rcases h with rfl | ⟨p, o, rfl, ho, hp⟩
    · cases x' <;> first | (cases hz; rfl) | (cases hz; cases hx) | cases hz | skip
      rename_i v
      cases hx
    · have hz' : (match s.mu p with | some (.ml ds) => some ds | _ => none) = some z := hz
      rw [hp] at hz'
      cases x <;> first | (cases ho; cases hz'; rfl) | (cases ho; cases hz') | cases ho
  unfold dref
  cases e : lstOf x' s with
  | some z => exact (hd z e).symm
  | none =>
    rcases h with rfl | ⟨p, o, rfl, ho, hp⟩
    · rfl
    · have e' : (match s.mu p with | some (.ml ds) => some ds | _ => none) = none := e
      rw [hp] at e'
      cases x with
      | lst z => cases ho; cases e'
      | dic z =>
        have : (D.dic z).eqOk = false := by simp [D.eqOk, D.pl]
        rw [this] at hx
        cases hx
      | _ => cases ho
theorem o_eqM : OV gEq oEqM := fun x' y' x y d s R hx hy e q => by
  unfold gEq at e
  split at e
  · rename_i h
    cases e
    unfold oEqM
    rw [vrel_dref hx h.1, vrel_dref hy h.2]
    exact ⟨h, q⟩
  · cases e
theorem o_neM : OV gNe oNeM := fun x' y' x y d s R hx hy e q => by
  unfold gNe at e
  split at e
  · rename_i h
    cases e
    unfold oNeM
    rw [vrel_dref hx h.1, vrel_dref hy h.2]
    exact ⟨h, q⟩
  · cases e
def gEqE : F2
  | .tup xs, .tup [] => some (.bl xs.isEmpty)
  | _, _ => none
theorem o_eqE : O2 gEqE oEqE := fun x y d s R e q => by
  unfold gEqE at e
  unfold oEqE
  split at e
  · cases e; exact q
  · cases e
def gEqL : F2
  | .lst xs, .lst [] => some (.bl xs.isEmpty)
  | _, _ => none
theorem o_eqL : O2 gEqL oEqL := fun x y d s R e q => by
  unfold gEqL at e
  unfold oEqL
  split at e
  · cases e; exact q
  · cases e
def gNeL : F2
  | .lst xs, .lst [] => some (.bl (!xs.isEmpty))
  | _, _ => none
theorem o_neL : O2 gNeL oNeL := fun x y d s R e q => by
  unfold gNeL at e
  unfold oNeL
  split at e
  · cases e; exact q
  · cases e
def gEqS : F2
  | .str a, .str b => some (.bl (decide (a = b)))
  | _, _ => none
theorem o_eqS : O2 gEqS oEqS := fun x y d s R e q => by
  unfold gEqS at e
  unfold oEqS
  split at e
  · cases e; exact q
  · cases e
def gNeS : F2
  | .str a, .str b => some (.bl (!decide (a = b)))
  | _, _ => none
theorem o_neS : O2 gNeS oNeS := fun x y d s R e q => by
  unfold gNeS at e
  unfold oNeS
  split at e
  · cases e; exact q
  · cases e
def gMulS : F2
  | .str z, .int k => if 1 < k ∧ k ≤ 100 ∧ z.length ≤ 100000 then some (.str (strMul z k.toNat)) else none
  | _, _ => none
theorem o_mulS : O2 gMulS oMulS := fun x y d s R e q => by
  unfold gMulS at e
  unfold oMulS
  split at e
  · split at e
    · rename_i h; cases e; exact ⟨h, q⟩
    · cases e
  · cases e
def gIn (neg : Bool) : F2 := fun x y => match y with
  | .lst ds => if x.eqOk = true ∧ (D.lst ds).eqOk = true then some (.bl (if neg then !isIn x ds else isIn x ds)) else none
  | .tup ds => if x.eqOk = true ∧ (D.tup ds).eqOk = true then some (.bl (if neg then !isIn x ds else isIn x ds)) else none
  | .str t => match x with
    | .str a => some (.bl (if neg then !(!(Builtin.Str.occurrences t a 0 t.length 1).isEmpty) else !(Builtin.Str.occurrences t a 0 t.length 1).isEmpty))
    | _ => none
  | _ => none
theorem o_in (neg : Bool) : O2 (gIn neg) (oIn neg) := fun x y d s R e q => by
  unfold gIn at e
  unfold oIn
  split at e
  · split at e
    · rename_i h; cases e; exact ⟨h, q⟩
    · cases e
  · split at e
    · rename_i h; cases e; exact ⟨h, q⟩
    · cases e
  · split at e
    · cases e; exact q
    · cases e
  · cases e
def gIsN (neg : Bool) : F2
  | .non, .non => some (.bl (!neg))
  | .bl _, .non | .int _, .non | .str _, .non | .lst _, .non | .tup _, .non | .dic _, .non | .exc _ _, .non => some (.bl neg)
  | _, _ => none
theorem o_isN (neg : Bool) : O2 (gIsN neg) (oIsN neg) := fun x y d s R e q => by
  unfold gIsN at e
  unfold oIsN
  split at e <;> first | (cases e; exact q) | cases e
def gIx : F2 := fun x y => match y with
  | .int i => match x with
    | .str z => if z.length ≤ sizeLine then (atI z.cps.toList i).map fun c => .str ⟨#[c]⟩ else none
    | x => (seqF x).bind fun ds => atI ds i
  | _ => none
theorem o_ix : OV gIx oIx := fun x' y' x y d s R hx hy e q => by
  unfold gIx at e
  cases y with
  | int i =>
    have hy' := vrel_id hy rfl
    subst hy'
    cases x with
    | str z =>
      have hx' := vrel_id hx rfl
      subst hx'
      dsimp only at e
      split at e
      · rename_i h
        obtain ⟨c, hc, rfl⟩ := Option.map_eq_some_iff.mp e
        exact ⟨h, c, hc, q⟩
      · cases e
    | _ =>
      obtain ⟨ds, h1, h2⟩ := Option.bind_eq_some_iff.mp e
      have h3 := vrel_seq hx h1
      cases x' <;> first | exact ⟨ds, d, h3, h2, q⟩ | cases h3
  | _ => cases e
/-! ### slices -/
abbrev FP := DEnv → Rs (Option Int)
@[simp] def fNoPart (_ : DEnv) : Rs (Option Int) := .ok none
def asI : D → Rs (Option Int)
  | .int i => .ok (some i)
  | _ => .no
@[simp] def fPart (f : FX) (e : DEnv) : Rs (Option Int) := (f e).bind asI
def AP (M : List Nat) (f : FP) (w : Prt) : Prop := ∀ s0 fe we ws, Rl M s0 fe we ws → ∀ R E, (f fe).run (fun b => R b ws) (fun x => E x ws) → w we ws R E
theorem ap_none : AP M fNoPart dNoPart := fun s0 fe we ws h R E q => q
theorem ap_some (ha : AX M a wa) : AP M (fPart a) (dPart wa) := fun s0 fe we ws h R E q => by
  refine ha s0 fe we ws h _ E (run_mono (run_bind.mp q) (fun x q => ?_) fun _ k => k)
  cases x <;> first | exact q | exact q.elim
def gSl (x : D) (lo hi : Option Int) : Option D := match x with
  | .str z => if z.length ≤ sizeLine then some (.str (cutS z lo hi)) else none
  | .tup ds => some (.tup (cutD ds lo hi))
  | x => (lstF x).map fun ds => .lst (cutD ds lo hi)
@[simp] def fSl (a : FX) (l h : FP) (e : DEnv) : Rs D := (a e).bind fun d => (l e).bind fun lo => (h e).bind fun hi => Rs.opt (gSl d lo hi)
theorem ax_sl {l h : FP} {wl wh : Prt} (ha : AV M a wa) (hl : AP M l wl) (hh : AP M h wh) : AX M (fSl a l h) (dSl wa wl wh) := fun s0 fe we ws hr R E q => by
  refine ha s0 fe we ws hr _ E (run_mono (run_bind.mp q) (fun x q x' hx => ?_) fun _ k => k)
  refine hl s0 fe we ws hr _ E (run_mono (run_bind.mp q) (fun lo q => ?_) fun _ k => k)
  refine hh s0 fe we ws hr _ E (run_mono (run_bind.mp q) (fun hi q => ?_) fun _ k => k)
  obtain ⟨d, e, q⟩ := run_opt q
  cases x with
  | str z =>
    have hx' := vrel_id hx rfl
    subst hx'
    rw [gSl] at e
    split at e
    · rename_i h; cases e; exact ⟨h, q⟩
    · cases e
  | tup z =>
    have hx' := vrel_id hx rfl
    subst hx'
    cases e; exact q
  | _ =>
    unfold gSl at e
    dsimp only at e
    obtain ⟨ds, h1, h2⟩ := Option.map_eq_some_iff.mp e
    subst h2
    have h3 := vrel_lst hx h1
    cases x' <;> first | exact ⟨ds, h3, q⟩ | cases h3
def revT : D → Rs D
  | .tup xs => .ok (.tup xs.reverse)
  | _ => .no
@[simp] def fBack (a : FX) (e : DEnv) : Rs D := (a e).bind revT
theorem ax_back (ha : AX M a wa) : AX M (fBack a) (dBack wa) := fun s0 fe we ws h R E q => by
  refine ha s0 fe we ws h _ E (run_mono (run_bind.mp q) (fun x q => ?_) fun _ k => k)
  cases x <;> first | exact q | exact q.elim
/-! ### and, or, not, tests -/
@[simp] def fAndV (a b : FX) (e : DEnv) : Rs D := ((a e).bind asB).bind fun k => if k = true then b e else .ok (.bl false)
@[simp] def fOrV (a b : FX) (e : DEnv) : Rs D := ((a e).bind asB).bind fun k => if k = true then .ok (.bl true) else b e
@[simp] def fNotV (a : FX) (e : DEnv) : Rs D := ((a e).bind asB).bind fun k => .ok (.bl (!k))
theorem asB_run {d : D} {R : Bool → Prop} {E : Ex → Prop} (h : (asB d).run R E) : ∃ k, d = .bl k ∧ R k := by
  cases d <;> first | exact ⟨_, rfl, h⟩ | exact h.elim
theorem bind_asB {r : Rs D} {f : Bool → Rs D} {R : D → Prop} {E : Ex → Prop} (h : ((r.bind asB).bind f).run R E) : r.run (fun d => ∃ k, d = .bl k ∧ (f k).run R E) E := by
  cases r with
  | ok d => exact asB_run (run_bind.mp h)
  | ex x => exact h
  | no => exact h
theorem bind_asB' {r : Rs D} {f : Bool → Rs Bool} {R : Bool → Prop} {E : Ex → Prop} (h : ((r.bind asB).bind f).run R E) : r.run (fun d => ∃ k, d = .bl k ∧ (f k).run R E) E := by
  cases r with
  | ok d => exact asB_run (run_bind.mp h)
  | ex x => exact h
  | no => exact h
theorem ax_and (ha : AX M a wa) (hb : AX M b wb) : AX M (fAndV a b) (dAndV wa wb) := fun s0 fe we ws h R E q => by
  refine ha s0 fe we ws h _ E (run_mono (bind_asB q) (fun x q => ?_) fun _ k => k)
  obtain ⟨k, rfl, q⟩ := q
  cases k
  · exact q
  · exact hb s0 fe we ws h R E q
theorem ax_or (ha : AX M a wa) (hb : AX M b wb) : AX M (fOrV a b) (dOrV wa wb) := fun s0 fe we ws h R E q => by
  refine ha s0 fe we ws h _ E (run_mono (bind_asB q) (fun x q => ?_) fun _ k => k)
  obtain ⟨k, rfl, q⟩ := q
  cases k
  · exact hb s0 fe we ws h R E q
  · exact q
theorem ax_not (ha : AX M a wa) : AX M (fNotV a) (dNotV wa) := fun s0 fe we ws h R E q => by
  refine ha s0 fe we ws h _ E (run_mono (bind_asB q) (fun x q => ?_) fun _ k => k)
  obtain ⟨k, rfl, q⟩ := q
  exact q
@[simp] def fTst (a : FX) (e : DEnv) : Rs Bool := (a e).bind asB
@[simp] def fAnd (t u : FT) (e : DEnv) : Rs Bool := (t e).bind fun b => if b = true then u e else .ok false
@[simp] def fOr (t u : FT) (e : DEnv) : Rs Bool := (t e).bind fun b => if b = true then .ok true else u e
@[simp] def fNot (t : FT) (e : DEnv) : Rs Bool := (t e).bind fun b => .ok (!b)
@[simp] def fYes (_ : DEnv) : Rs Bool := .ok true
theorem at_tst (ha : AX M a wa) : AT M (fTst a) (dTst wa) := fun s0 fe we ws h R E q => by
  refine ha s0 fe we ws h _ E (run_mono (run_bind.mp q) (fun x q => ?_) fun _ k => k)
  obtain ⟨k, rfl, q⟩ := asB_run q
  exact q
theorem at_and (ht : AT M t wt) (hu : AT M u wu) : AT M (fAnd t u) (dAnd wt wu) := fun s0 fe we ws h R E q => by
  refine ht s0 fe we ws h _ E (run_mono (run_bind.mp q) (fun x q => ?_) fun _ k => k)
  cases x
  · exact q
  · exact hu s0 fe we ws h R E q
theorem at_or (ht : AT M t wt) (hu : AT M u wu) : AT M (fOr t u) (dOr wt wu) := fun s0 fe we ws h R E q => by
  refine ht s0 fe we ws h _ E (run_mono (run_bind.mp q) (fun x q => ?_) fun _ k => k)
  cases x
  · exact hu s0 fe we ws h R E q
  · exact q
theorem at_not (ht : AT M t wt) : AT M (fNot t) (dNot wt) := fun s0 fe we ws h R E q => by
  exact ht s0 fe we ws h _ E (run_mono (run_bind.mp q) (fun x q => q) fun _ k => k)
theorem at_yes : AT M fYes dYes := fun s0 fe we ws h R E q => q
@[simp] def fIf (t : FT) (a b : FX) (e : DEnv) : Rs D := (t e).bind fun k => if k = true then a e else b e
theorem ax_if (ht : AT M t wt) (ha : AX M a wa) (hb : AX M b wb) : AX M (fIf t a b) (dIf wt wa wb) := fun s0 fe we ws h R E q => by
  refine ht s0 fe we ws h _ E (run_mono (run_bind.mp q) (fun x q => ?_) fun _ k => k)
  cases x
  · exact hb s0 fe we ws h R E q
  · exact ha s0 fe we ws h R E q
@[simp] def fChain (g g' : F2) (a b c : FX) (e : DEnv) : Rs D := (a e).bind fun x => (b e).bind fun y => ((Rs.opt (g x y)).bind asB).bind fun k => if k = true then (c e).bind fun w => Rs.opt (g' y w) else .ok (.bl false)
theorem ax_chain {g g' : F2} {w w' : G2} (ho : O2 g w) (ho' : O2 g' w') (ha : AX M a wa) (hb : AX M b wb) (hc : AX M c wc) : AX M (fChain g g' a b c) (dChain w w' wa wb wc) := fun s0 fe we ws h R E q => by
  refine ha s0 fe we ws h _ E (run_mono (run_bind.mp q) (fun x q => ?_) fun _ k => k)
  refine hb s0 fe we ws h _ E (run_mono (run_bind.mp q) (fun y q => ?_) fun _ k => k)
  obtain ⟨d, e, k, hk, q⟩ := run_opt (bind_asB q)
  refine ho x y d ws _ e ?_
  subst hk
  cases k
  · exact q
  · refine hc s0 fe we ws h _ E (run_mono (run_bind.mp q) (fun z q => ?_) fun _ k => k)
    obtain ⟨d2, e2, q⟩ := run_opt q
    exact ho' y z d2 ws R e2 q
/-! ### arguments, displays, calls -/
@[simp] def fNil (_ : DEnv) : Rs (List D) := .ok []
@[simp] def fCons (a : FX) (r : FA) (e : DEnv) : Rs (List D) := (a e).bind fun d => (r e).bind fun ds => .ok (d :: ds)
theorem aa_nil : AA M 0 fNil dNil := fun s0 fe we ws h R E q => q rfl
theorem aa_cons (ha : AX M a wa) (hr : AA M n r wr) : AA M (n + 1) (fCons a r) (dCons wa wr) := fun s0 fe we ws h R E q => by
  refine ha s0 fe we ws h _ E (run_mono (run_bind.mp q) (fun x q => ?_) fun _ k => k)
  exact hr s0 fe we ws h _ E (run_mono (run_bind.mp q) (fun ds q hl => q (by rw [List.length_cons, hl])) fun _ k => k)
@[simp] def fTup (r : FA) (e : DEnv) : Rs D := (r e).bind fun ds => .ok (.tup ds)
@[simp] def fLst (r : FA) (e : DEnv) : Rs D := (r e).bind fun ds => .ok (.lst ds)
theorem ax_tup (hr : AA M n r wr) (hn : n ≤ 10000 := by decide) : AX M (fTup r) (dTup wr) := fun s0 fe we ws h R E q =>
  hr s0 fe we ws h _ E (run_mono (run_bind.mp q) (fun ds q hl => ⟨sz _ (by omega), q⟩) fun _ k => k)
theorem ax_lst (hr : AA M n r wr) (hn : n ≤ 10000 := by decide) : AX M (fLst r) (dLst wr) := fun s0 fe we ws h R E q =>
  hr s0 fe we ws h _ E (run_mono (run_bind.mp q) (fun ds q hl => ⟨sz _ (by omega), q⟩) fun _ k => k)
abbrev FF := List D → Rs D
/-- a promise: it computes f -/
def pF (f : FF) : Fn := fun ds s R E => (f ds).run (fun d => R d s) (fun x => E x s)
@[simp] def fCall (f : FF) (r : FA) (e : DEnv) : Rs D := (r e).bind f
theorem ax_call {f : FF} (hr : AA M n r wr) : AX M (fCall f r) (dCall n (pF f) wr) := fun s0 fe we ws h R E q =>
  hr s0 fe we ws h _ E (run_mono (run_bind.mp q) (fun ds q hl => ⟨hl, q⟩) fun _ k => k)
/-! ### built-ins -/
@[simp] def fB1 (g : F1) (a : FX) (e : DEnv) : Rs D := (a e).bind fun d => Rs.opt (g d)
theorem ax_b1 {g : F1} {w : GA} (hg : B1 g w) (ha : AV M a wa) : AX M (fB1 g a) (dBlt w (dCons wa dNil)) := fun s0 fe we ws h R E q => by
  refine ha s0 fe we ws h _ E (run_mono (run_bind.mp q) (fun x q x' hx => ?_) fun _ k => k)
  obtain ⟨d, e, q⟩ := run_opt q
  exact hg x' x d ws R hx e q
@[simp] def fB2 (g : F2) (a b : FX) (e : DEnv) : Rs D := (a e).bind fun x => (b e).bind fun y => Rs.opt (g x y)
theorem ax_b2 {g : F2} {w : GA} (hg : B2 g w) (ha : AX M a wa) (hb : AX M b wb) : AX M (fB2 g a b) (dBlt w (dCons wa (dCons wb dNil))) := fun s0 fe we ws h R E q => by
  refine ha s0 fe we ws h _ E (run_mono (run_bind.mp q) (fun x q => ?_) fun _ k => k)
  refine hb s0 fe we ws h _ E (run_mono (run_bind.mp q) (fun y q => ?_) fun _ k => k)
  obtain ⟨d, e, q⟩ := run_opt q
  exact hg x y d ws R e q
def gLen : F1
  | .str z => if z.length ≤ sizeLine then some (.int z.length) else none
  | d => (seqF d).map fun xs => .int xs.length
theorem b_len : B1 gLen cLen := fun x' x d s R hx e q => by
  cases x with
  | str z =>
    have hx' := vrel_id hx rfl
    subst hx'
    rw [gLen] at e
    split at e
    · rename_i h; cases e; exact ⟨h, q⟩
    · cases e
  | _ =>
    unfold gLen at e
    dsimp only at e
    obtain ⟨ds, h1, h2⟩ := Option.map_eq_some_iff.mp e
    subst h2
    have h3 := vrel_seq hx h1
    cases x' <;> first | exact ⟨ds, h3, q⟩ | cases h3
def gList : F1 := fun d => (seqF d).map .lst
theorem b_list : B1 gList cList := fun x' x d s R hx e q => by
  obtain ⟨ds, h1, h2⟩ := Option.map_eq_some_iff.mp e
  subst h2
  exact ⟨ds, vrel_seq hx h1, q⟩
def gTuple : F1 := fun d => (seqF d).map .tup
theorem b_tuple : B1 gTuple cTuple := fun x' x d s R hx e q => by
  obtain ⟨ds, h1, h2⟩ := Option.map_eq_some_iff.mp e
  subst h2
  exact ⟨ds, vrel_seq hx h1, q⟩
def gInt1 : F1
  | .int i => some (.int i)
  | .bl k => some (.int (if k then 1 else 0))
  | _ => none
theorem b_int : B1 gInt1 cInt := fun x' x d s R hx e q => by
  cases x <;> first | cases e | skip
  all_goals
    have hx' := vrel_id hx rfl
    subst hx'
    exact q
def gAll (any : Bool) : F1
  | .lst xs => (bls xs).map fun bs => .bl (if any then bs.any id else bs.all id)
  | _ => none
theorem b_all {any : Bool} (h : ∀ {xs : List D} {s : S} {x' : D}, VRel s x' (.lst xs) → x' = .lst xs) : B1 (gAll any) (cAll any) := fun x' x d s R hx e q => by
  cases x <;> first | cases e | skip
  rename_i xs
  obtain ⟨bs, h1, h2⟩ := Option.map_eq_some_iff.mp e
  subst h2
  rw [h hx]
  exact ⟨bs, h1, q⟩
/-- .. of something that does not change -/
theorem ax_b1x {g : F1} {w : GA} (hg : ∀ x d s R, g x = some d → R d s → w [x] s R) (ha : AX M a wa) : AX M (fB1 g a) (dBlt w (dCons wa dNil)) := fun s0 fe we ws h R E q => by
  refine ha s0 fe we ws h _ E (run_mono (run_bind.mp q) (fun x q => ?_) fun _ k => k)
  obtain ⟨d, e, q⟩ := run_opt q
  exact hg x d ws R e q
theorem x_all (any : Bool) : ∀ x d s R, gAll any x = some d → R d s → cAll any [x] s R := fun x d s R e q => by
  cases x <;> first | cases e | skip
  rename_i xs
  obtain ⟨bs, h1, h2⟩ := Option.map_eq_some_iff.mp e
  subst h2
  exact ⟨bs, h1, q⟩
def gSum : F1
  | .lst xs => (intL xs).map fun bs => .int bs.sum
  | _ => none
theorem x_sum : ∀ x d s R, gSum x = some d → R d s → cSum [x] s R := fun x d s R e q => by
  cases x <;> first | cases e | skip
  rename_i xs
  obtain ⟨bs, h1, h2⟩ := Option.map_eq_some_iff.mp e
  subst h2
  exact ⟨bs, h1, q⟩
def g2I (f : Int → Int → Int) : F2
  | .int i, .int j => some (.int (f i j))
  | _, _ => none
theorem b_2I (f : Int → Int → Int) : B2 (g2I f) (c2I f) := fun x y d s R e q => by
  cases x <;> cases y <;> first | (cases e; exact q) | cases e
instance (d : D) : Decidable d.shOkA := by unfold D.shOkA; infer_instance
def gRepr : F1 := fun d => if d.shOkA then some (.str (shown d)) else none
theorem x_repr : ∀ x d s R, gRepr x = some d → R d s → cReprA [x] s R := fun x d s R e q => by
  unfold gRepr at e
  split at e
  · rename_i h
    cases e
    exact ⟨h, fun a ha => by subst ha; exact q⟩
  · cases e
theorem gRepr_of {d : D} (h : d.shOkA) : gRepr d = some (.str (shown d)) := if_pos h
/-- the name of its type, for isinstance -/
def tyF : D → Option String
  | .non => some "NoneType"
  | .bl _ => some "bool"
  | .int _ => some "int"
  | .str _ => some "str"
  | .lst _ => some "list"
  | .scr _ => some "list"
  | .tup _ => some "tuple"
  | .dic _ => some "dict"
  | _ => none
def gIsi (n : String) : F1 := fun d => if n ∈ tyNames then (tyF d).map fun t => .bl (isTy t n) else none
theorem x_isi (n : String) : ∀ x d s R, gIsi n x = some d → R d s → cIsi [x, .rf (.ty n)] s R := fun x d s R e q => by
  unfold gIsi at e
  split at e
  · rename_i h
    obtain ⟨t, h1, h2⟩ := Option.map_eq_some_iff.mp e
    subst h2
    refine ⟨h, t, ?_, q⟩
    cases x <;> first | exact h1 | cases h1
  · cases e
theorem ax_isi (n : String) (ha : AX M a wa) : AX M (fB1 (gIsi n) a) (dBlt cIsi (dCons wa (dCons (dC (.rf (.ty n))) dNil))) := fun s0 fe we ws h R E q => by
  refine ha s0 fe we ws h _ E (run_mono (run_bind.mp q) (fun x q => ?_) fun _ k => k)
  obtain ⟨d, e, q⟩ := run_opt q
  exact x_isi n x d ws R e q
/-! ### what is walked -/
def itF : D → Rs (List D)
  | .lst ds => .ok ds
  | .tup ds => .ok ds
  | .str x => if (signs x).length ≤ sizeLine then .ok (signs x) else .no
  | .scr ns => .ok (ns.map .int)
  | _ => .no
@[simp] def fIter (a : FX) (e : DEnv) : Rs (List D) := (a e).bind itF
/-- walked, where no more than a line is walked -/
def AW (M : List Nat) (f : FA) (w : Arg) : Prop := ∀ s0 fe we ws, Rl M s0 fe we ws → ∀ R E, (f fe).run (fun ds => ds.length ≤ sizeLine → R ds ws) (fun x => E x ws) → w we ws R E
theorem aw_iter (ha : AX M a wa) : AW M (fIter a) (dIter wa) := fun s0 fe we ws h R E q => by
  refine ha s0 fe we ws h _ E (run_mono (run_bind.mp q) (fun x q => ?_) fun _ k => k)
  cases x <;> first | exact q.elim | exact q | skip
  · simp only [itF] at q
    split at q
    · rename_i hz; exact q hz
    · exact q.elim
  · rename_i ns
    exact fun hz => q (by rw [List.length_map]; exact hz)
def rngF : List D → Rs (List D)
  | [.int j] => if -(2 ^ 62) ≤ j ∧ j < 2 ^ 62 ∧ j.toNat ≤ sizeLine then .ok (rangeD 0 j.toNat) else .no
  | _ => .no
@[simp] def fRng1 (r : FA) (e : DEnv) : Rs (List D) := (r e).bind rngF
theorem aw_rng1 (hr : AA M n r wr) : AW M (fRng1 r) (dRng1 wr) := fun s0 fe we ws h R E q => by
  refine hr s0 fe we ws h _ E (run_mono (run_bind.mp q) (fun ds q hl => ?_) fun _ k => k)
  unfold rngF at q
  split at q
  · split at q
    · rename_i hz
      exact ⟨⟨hz.1, hz.2.1⟩, q (by unfold rangeD; rw [List.length_map, List.length_range]; exact hz.2.2)⟩
    · exact q.elim
  · exact q.elim
def seqG : D → Option (List D)
  | .lst xs => some xs
  | .tup xs => some xs
  | .pln xs => some xs
  | _ => none
def zipF : Option (List D) → Option (List D) → Rs (List D)
  | some xs, some ys => if xs.length ≤ sizeLine then .ok (zipD xs ys) else .no
  | _, _ => .no
@[simp] def fZip (a b : FX) (e : DEnv) : Rs (List D) := (a e).bind fun x => (b e).bind fun y => zipF (seqD x) (seqD y)
theorem zipD_le {xs ys : List D} {k : Nat} (h : xs.length ≤ k) : (zipD xs ys).length ≤ k := by
  unfold zipD
  rw [List.length_map, List.length_zip]
  omega
theorem aw_zipB (ha : AX M a wa) (hb : AX M b wb) : AW M (fZip a b) (dZipB (dCons wa (dCons wb dNil))) := fun s0 fe we ws h R E q => by
  refine ha s0 fe we ws h _ E (run_mono (run_bind.mp q) (fun x q => ?_) fun _ k => k)
  refine hb s0 fe we ws h _ E (run_mono (run_bind.mp q) (fun y q => ?_) fun _ k => k)
  unfold zipF at q
  split at q
  · rename_i xs ys h1 h2
    split at q
    · rename_i hz; exact ⟨xs, ys, h1, h2, q (zipD_le hz)⟩
    · exact q.elim
  · exact q.elim
def enumT : D → Rs (List D)
  | .tup xs => if xs.length ≤ sizeLine then .ok (enumD xs) else .no
  | _ => .no
@[simp] def fEnumT (a : FX) (e : DEnv) : Rs (List D) := (a e).bind enumT
theorem enumD_lenF (xs : List D) : (enumD xs).length = xs.length := by unfold enumD; rw [List.length_mapIdx]
theorem aw_enumT (ha : AX M a wa) : AW M (fEnumT a) (dEnumT (dCons wa dNil)) := fun s0 fe we ws h R E q => by
  refine ha s0 fe we ws h _ E (run_mono (run_bind.mp q) (fun x q => ?_) fun _ k => k)
  cases x <;> first | exact q.elim | skip
  simp only [enumT] at q
  split at q
  · rename_i hz; exact q (by rw [enumD_lenF]; exact hz)
  · exact q.elim
def enumL : D → Rs (List D)
  | .lst xs => if xs.length ≤ sizeLine then .ok (enumD xs) else .no
  | _ => .no
@[simp] def fEnumL (a : FX) (e : DEnv) : Rs (List D) := (a e).bind enumL
theorem aw_enumL (ha : AX M a wa) : AW M (fEnumL a) (dEnumL (dCons wa dNil)) := fun s0 fe we ws h R E q => by
  refine ha s0 fe we ws h _ E (run_mono (run_bind.mp q) (fun x q => ?_) fun _ k => k)
  cases x <;> first | exact q.elim | skip
  simp only [enumL] at q
  split at q
  · rename_i hz; exact q (by rw [enumD_lenF]; exact hz)
  · exact q.elim
/-! ### targets -/
@[simp] def fgName (i : Nat) (d : D) (e : DEnv) : Option DEnv := some (dset e i (some d))
def fgNil (ds : List D) (e : DEnv) : Option DEnv := match ds with
  | [] => some e
  | _ => none
def fgCons (g : FG) (r : List D → DEnv → Option DEnv) (ds : List D) (e : DEnv) : Option DEnv := match ds with
  | d :: ds => (g d e).bind fun e1 => r ds e1
  | [] => none
def fgTup (n : Nat) (r : List D → DEnv → Option DEnv) (d : D) (e : DEnv) : Option DEnv := match d with
  | .tup ds => if ds.length = n then r ds e else none
  | _ => none
def AGs (M : List Nat) (g : List D → DEnv → Option DEnv) (w : DGs) : Prop := ∀ s0 fe we ws, Rl M s0 fe we ws → ∀ ds fe1, g ds fe = some fe1 → ∀ K : DEnv → S → Prop, (∀ we1, Rl M s0 fe1 we1 ws → K we1 ws) → w ds we ws K
theorem ag_name (i : Nat) (hi : i ∉ M := by decide) : AG M (fgName i) (gdName i) := fun s0 fe we ws h d fe1 e K k => by
  cases e
  exact k _ (h.nonM hi)
theorem ags_nil : AGs M fgNil gdNil := fun s0 fe we ws h ds fe1 e K k => by
  cases ds with
  | nil => cases e; exact ⟨rfl, k _ h⟩
  | cons _ _ => cases e
theorem ags_cons {g : FG} {w : DG} {r : List D → DEnv → Option DEnv} {wr : DGs} (hg : AG M g w) (hr : AGs M r wr) : AGs M (fgCons g r) (gdCons w wr) := fun s0 fe we ws h ds fe1 e K k => by
  cases ds with
  | nil => cases e
  | cons d ds =>
    obtain ⟨e1, h1, h2⟩ := Option.bind_eq_some_iff.mp e
    exact hg s0 fe we ws h d e1 h1 _ fun we1 r1 => hr s0 e1 we1 ws r1 ds fe1 h2 K k
theorem ag_tup {n : Nat} {r : List D → DEnv → Option DEnv} {wr : DGs} (hr : AGs M r wr) : AG M (fgTup n r) (gdTup n wr) := fun s0 fe we ws h d fe1 e K k => by
  unfold fgTup at e
  unfold gdTup
  split at e
  · split at e
    · rename_i hl; exact ⟨hl, hr s0 fe we ws h _ fe1 e K k⟩
    · cases e
  · cases e
/-! ### comprehensions -/
/-- what one turn gives -/
def fElem (g : FG) (t : FT) (a : FX) (e0 : DEnv) (d : D) : Rs (Option D) := match g d e0 with
  | none => .no
  | some e1 => match t e1 with
    | .ok true => match a e1 with
      | .ok y => .ok (some y)
      | _ => .no
    | .ok false => .ok none
    | _ => .no
def fGo (el : D → Rs (Option D)) : List D → Rs (List D)
  | [] => .ok []
  | d :: ds => (el d).bind fun o => (fGo el ds).bind fun ys => .ok (o.toList ++ ys)
@[simp] def fLc (i : FA) (g : FG) (t : FT) (a : FX) (vs : List Nat) (e : DEnv) : Rs D := (i e).bind fun ds => (fGo (fElem g t a (dwipe e vs)) ds).bind fun ys => .ok (.lst ys)
theorem comp_go {g : FG} {wg : DG} {s0 : S} {fe we : DEnv} {ws : S} (h : Rl M s0 fe we ws) (hg : AG M g wg) (ht : AT M t wt) (ha : AX M a wa) : ∀ (ds acc ys : List D) (R : List D → S → Prop), fGo (fElem g t a fe) ds = .ok ys → R (acc ++ ys) ws → dComp wg wt wa we R ds acc ws
  | [], acc, ys, R, e, q => by
    cases e
    rw [List.append_nil] at q; exact q
  | d :: ds, acc, ys, R, e, q => by
    rw [fGo] at e
    cases h1 : fElem g t a fe d with
    | no => rw [h1] at e; cases e
    | ex x => rw [h1] at e; cases e
    | ok o =>
      rw [h1] at e
      replace e : (fGo (fElem g t a fe) ds).bind (fun ys => .ok (o.toList ++ ys)) = .ok ys := e
      cases h2 : fGo (fElem g t a fe) ds with
      | no => rw [h2] at e; cases e
      | ex x => rw [h2] at e; cases e
      | ok zs =>
        rw [h2] at e
        cases e
        unfold fElem at h1
        unfold dComp
        split at h1
        · cases h1
        · rename_i e1 hg1
          refine hg s0 fe we ws h d e1 hg1 _ fun we1 r1 => ?_
          split at h1
          · rename_i ht1
            refine ht s0 e1 we1 ws r1 _ _ ?_
            rw [ht1]
            simp only [run_ok, if_true]
            split at h1
            · rename_i y hy
              cases h1
              refine ha s0 e1 we1 ws r1 _ _ ?_
              rw [hy]
              exact comp_go h hg ht ha ds (acc ++ [y]) zs R h2 (by rw [List.append_assoc]; exact q)
            · cases h1
          · rename_i ht1
            cases h1
            refine ht s0 e1 we1 ws r1 _ _ ?_
            rw [ht1]
            simp only [run_ok]
            rw [if_neg (by decide)]
            exact comp_go h hg ht ha ds acc zs R h2 q
          · cases h1
theorem ax_lc {i : FA} {wi : Arg} {g : FG} {wg : DG} {vs : List Nat} (hi : AW M i wi) (hg : AG M g wg) (ht : AT M t wt) (ha : AX M a wa) : AX M (fLc i g t a vs) (dLc wi wg wt wa vs) := fun s0 fe we ws h R E q => by
  refine hi s0 fe we ws h _ E (run_mono (run_bind.mp q) (fun ds q hz => ?_) fun _ k => k)
  refine ⟨hz, ?_⟩
  cases e : fGo (fElem g t a (dwipe fe vs)) ds with
  | no => rw [e] at q; exact q.elim
  | ex x =>
    exfalso
    clear q
    induction ds with
    | nil => cases e
    | cons d ds ih =>
      rw [fGo] at e
      cases h1 : fElem g t a (dwipe fe vs) d with
      | no => rw [h1] at e; cases e
      | ex x =>
        unfold fElem at h1
        split at h1
        · cases h1
        · split at h1
          · split at h1 <;> cases h1
          · cases h1
          · cases h1
      | ok o =>
        rw [h1] at e
        replace e : (fGo (fElem g t a (dwipe fe vs)) ds).bind (fun ys => .ok (o.toList ++ ys)) = .ex x := e
        cases h2 : fGo (fElem g t a (dwipe fe vs)) ds with
        | no => rw [h2] at e; cases e
        | ok zs => rw [h2] at e; cases e
        | ex x2 =>
          rw [h2] at e
          cases e
          exact ih (by rw [List.length_cons] at hz; omega) h2
  | ok ys =>
    rw [e] at q
    exact comp_go (h.wipes vs) hg ht ha ds [] ys _ e q
end
/-! ### how they are read -/
section
variable {x y : D} {i j k : Int} {a b z : Str} {xs ys ds : List D} {ns : List Int} {u v neg any : Bool} {e : DEnv} {lo hi : Option Int}
@[simp] theorem gInt_eq (f : Int → Int → D) : gInt f (.int i) (.int j) = some (f i j) := rfl
@[simp] theorem gIntC_eq (c : Int → Int → Prop) [∀ i j, Decidable (c i j)] (f : Int → Int → D) : gIntC c f (.int i) (.int j) = if c i j then some (f i j) else none := rfl
@[simp] theorem gNeg_eq : gNeg (.int i) = some (.int (-i)) := rfl
@[simp] theorem gAdd_int : gAdd (.int i) (.int j) = some (.int (i + j)) := rfl
@[simp] theorem gAdd_str : gAdd (.str a) (.str b) = if a.length + b.length ≤ sizeLine then some (.str (a ++ b)) else none := rfl
@[simp] theorem gAdd_lst : gAdd (.lst xs) (.lst ys) = if xs.length + ys.length ≤ sizeLine then some (.lst (xs ++ ys)) else none := rfl
@[simp] theorem gAdd_tup : gAdd (.tup xs) (.tup ys) = if xs.length + ys.length ≤ sizeLine then some (.tup (xs ++ ys)) else none := rfl
@[simp] theorem gMul_int : gMul (.int i) (.int j) = if CMul i j then some (.int (i * j)) else none := rfl
@[simp] theorem gMulT_eq : gMulT (.tup xs) (.int k) = if xs.length ≠ 0 ∧ 1 ≤ k ∧ k ≤ 1000 ∧ xs.length ≤ 1000 then some (.tup (repL xs k.toNat)) else none := rfl
@[simp] theorem gEqE_eq : gEqE (.tup xs) (.tup []) = some (.bl xs.isEmpty) := rfl
@[simp] theorem gEqL_eq : gEqL (.lst xs) (.lst []) = some (.bl xs.isEmpty) := rfl
@[simp] theorem gNeL_eq : gNeL (.lst xs) (.lst []) = some (.bl (!xs.isEmpty)) := rfl
@[simp] theorem gEqS_eq : gEqS (.str a) (.str b) = some (.bl (decide (a = b))) := rfl
@[simp] theorem gNeS_eq : gNeS (.str a) (.str b) = some (.bl (!decide (a = b))) := rfl
@[simp] theorem gMulS_eq : gMulS (.str z) (.int k) = if 1 < k ∧ k ≤ 100 ∧ z.length ≤ 100000 then some (.str (strMul z k.toNat)) else none := rfl
@[simp] theorem gIsN_non : gIsN neg .non .non = some (.bl (!neg)) := rfl
@[simp] theorem gIsN_bl : gIsN neg (.bl u) .non = some (.bl neg) := rfl
@[simp] theorem gIsN_int : gIsN neg (.int i) .non = some (.bl neg) := rfl
@[simp] theorem gIsN_str : gIsN neg (.str a) .non = some (.bl neg) := rfl
@[simp] theorem gIsN_lst : gIsN neg (.lst xs) .non = some (.bl neg) := rfl
@[simp] theorem gIsN_tup : gIsN neg (.tup xs) .non = some (.bl neg) := rfl
@[simp] theorem gIsN_dic (kvs : List (Key × D)) : gIsN neg (.dic kvs) .non = some (.bl neg) := rfl
@[simp] theorem gIsN_exc (n : Str) (fs : List (Str × D)) : gIsN neg (.exc n fs) .non = some (.bl neg) := rfl
@[simp] theorem gIx_str : gIx (.str z) (.int i) = if z.length ≤ sizeLine then (atI z.cps.toList i).map fun c => .str ⟨#[c]⟩ else none := rfl
@[simp] theorem gIx_lst : gIx (.lst xs) (.int i) = atI xs i := rfl
@[simp] theorem gIx_tup : gIx (.tup xs) (.int i) = atI xs i := rfl
@[simp] theorem gIx_scr : gIx (.scr ns) (.int i) = atI (ns.map .int) i := rfl
@[simp] theorem gSl_str : gSl (.str z) lo hi = if z.length ≤ sizeLine then some (.str (cutS z lo hi)) else none := rfl
@[simp] theorem gSl_tup : gSl (.tup ds) lo hi = some (.tup (cutD ds lo hi)) := rfl
@[simp] theorem gSl_lst : gSl (.lst ds) lo hi = some (.lst (cutD ds lo hi)) := rfl
@[simp] theorem asI_int : asI (.int i) = .ok (some i) := rfl
@[simp] theorem revT_tup : revT (.tup xs) = .ok (.tup xs.reverse) := rfl
@[simp] theorem gLen_str : gLen (.str z) = if z.length ≤ sizeLine then some (.int z.length) else none := rfl
@[simp] theorem gLen_lst : gLen (.lst xs) = some (.int xs.length) := rfl
@[simp] theorem gLen_tup : gLen (.tup xs) = some (.int xs.length) := rfl
@[simp] theorem gLen_scr : gLen (.scr ns) = some (.int (ns.map D.int).length) := rfl
@[simp] theorem gList_lst : gList (.lst xs) = some (.lst xs) := rfl
@[simp] theorem gList_tup : gList (.tup xs) = some (.lst xs) := rfl
@[simp] theorem gTuple_lst : gTuple (.lst xs) = some (.tup xs) := rfl
@[simp] theorem gTuple_tup : gTuple (.tup xs) = some (.tup xs) := rfl
@[simp] theorem gInt1_int : gInt1 (.int i) = some (.int i) := rfl
@[simp] theorem gInt1_bl : gInt1 (.bl u) = some (.int (if u then 1 else 0)) := rfl
@[simp] theorem gAll_lst : gAll any (.lst xs) = (bls xs).map fun bs => .bl (if any then bs.any id else bs.all id) := rfl
@[simp] theorem gSum_lst : gSum (.lst xs) = (intL xs).map fun bs => .int bs.sum := rfl
@[simp] theorem g2I_eq (f : Int → Int → Int) : g2I f (.int i) (.int j) = some (.int (f i j)) := rfl
@[simp] theorem itF_lst : itF (.lst xs) = .ok xs := rfl
@[simp] theorem itF_tup : itF (.tup xs) = .ok xs := rfl
@[simp] theorem itF_scr : itF (.scr ns) = .ok (ns.map .int) := rfl
@[simp] theorem itF_str : itF (.str z) = if (signs z).length ≤ sizeLine then .ok (signs z) else .no := rfl
@[simp] theorem rngF_eq : rngF [.int j] = if -(2 ^ 62) ≤ j ∧ j < 2 ^ 62 ∧ j.toNat ≤ sizeLine then .ok (rangeD 0 j.toNat) else .no := rfl
@[simp] theorem zipF_eq : zipF (some xs) (some ys) = if xs.length ≤ sizeLine then .ok (zipD xs ys) else .no := rfl
@[simp] theorem seqD_lst : seqD (.lst xs) = some xs := rfl
@[simp] theorem seqD_tup : seqD (.tup xs) = some xs := rfl
@[simp] theorem enumT_eq : enumT (.tup xs) = if xs.length ≤ sizeLine then .ok (enumD xs) else .no := rfl
@[simp] theorem enumL_eq : enumL (.lst xs) = if xs.length ≤ sizeLine then .ok (enumD xs) else .no := rfl
@[simp] theorem fgNil_eq : fgNil [] e = some e := rfl
@[simp] theorem fgCons_eq (g : FG) (r : List D → DEnv → Option DEnv) : fgCons g r (x :: ds) e = (g x e).bind fun e1 => r ds e1 := rfl
@[simp] theorem fgTup_eq (n : Nat) (r : List D → DEnv → Option DEnv) : fgTup n r (.tup ds) e = if ds.length = n then r ds e else none := rfl
@[simp] theorem gIsi_non (n : String) (h : n ∈ tyNames) : gIsi n .non = some (.bl (isTy "NoneType" n)) := by unfold gIsi; rw [if_pos h]; rfl
@[simp] theorem gIsi_bl (n : String) (h : n ∈ tyNames) : gIsi n (.bl u) = some (.bl (isTy "bool" n)) := by unfold gIsi; rw [if_pos h]; rfl
@[simp] theorem gIsi_int (n : String) (h : n ∈ tyNames) : gIsi n (.int i) = some (.bl (isTy "int" n)) := by unfold gIsi; rw [if_pos h]; rfl
@[simp] theorem gIsi_str (n : String) (h : n ∈ tyNames) : gIsi n (.str z) = some (.bl (isTy "str" n)) := by unfold gIsi; rw [if_pos h]; rfl
@[simp] theorem gIsi_lst (n : String) (h : n ∈ tyNames) : gIsi n (.lst xs) = some (.bl (isTy "list" n)) := by unfold gIsi; rw [if_pos h]; rfl
@[simp] theorem gIsi_tup (n : String) (h : n ∈ tyNames) : gIsi n (.tup xs) = some (.bl (isTy "tuple" n)) := by unfold gIsi; rw [if_pos h]; rfl
@[simp] theorem gIsi_dic (n : String) (kvs : List (Key × D)) (h : n ∈ tyNames) : gIsi n (.dic kvs) = some (.bl (isTy "dict" n)) := by unfold gIsi; rw [if_pos h]; rfl
end
theorem fGo_ok {el : D → Rs (Option D)} (F : D → Option D) : ∀ {ds : List D}, (∀ d ∈ ds, el d = .ok (F d)) → fGo el ds = .ok (ds.filterMap F)
  | [], _ => rfl
  | d :: ds, h => by
    rw [fGo, h d List.mem_cons_self, bind_ok, fGo_ok F fun x hx => h x (List.mem_cons_of_mem _ hx), bind_ok]
    cases e : F d with
    | none => rw [List.filterMap_cons_none e]; rfl
    | some y => rw [List.filterMap_cons_some e]; rfl
theorem fGo_map {α : Type} {el : D → Rs (Option D)} (enc F : α → D) {xs : List α} (h : ∀ a ∈ xs, el (enc a) = .ok (some (F a))) : fGo el (xs.map enc) = .ok (xs.map F) := by
  induction xs with
  | nil => rfl
  | cons x xs ih => rw [List.map_cons, fGo, h x List.mem_cons_self, bind_ok, ih fun a ha => h a (List.mem_cons_of_mem _ ha)]; rfl
theorem fGo_filter {α : Type} {el : D → Rs (Option D)} (enc F : α → D) (c : α → Bool) {xs : List α} (h : ∀ a ∈ xs, el (enc a) = .ok (if c a = true then some (F a) else none)) : fGo el (xs.map enc) = .ok ((xs.filter c).map F) := by
  induction xs with
  | nil => rfl
  | cons x xs ih =>
    rw [List.map_cons, fGo, h x List.mem_cons_self, bind_ok, ih fun a ha => h a (List.mem_cons_of_mem _ ha)]
    cases e : c x with
    | true => rw [List.filter_cons_of_pos e]; rfl
    | false => rw [List.filter_cons_of_neg (by rw [e]; decide)]; rfl
theorem fGo_all {el : D → Rs (Option D)} (F : D → D) {xs : List D} (h : ∀ a ∈ xs, el a = .ok (some (F a))) : fGo el xs = .ok (xs.map F) := by
  have := fGo_map (el := el) (fun d : D => d) F (xs := xs) h
  rwa [List.map_id'] at this
theorem fGo_allF {el : D → Rs (Option D)} (F : D → D) (c : D → Bool) {xs : List D} (h : ∀ a ∈ xs, el a = .ok (if c a = true then some (F a) else none)) : fGo el xs = .ok ((xs.filter c).map F) := by
  have := fGo_filter (el := el) (fun d : D => d) F c (xs := xs) h
  rwa [List.map_id'] at this
end Bk

/-! Bk: functions for statements and defs. -/
namespace Bk
open PySem PySem.Spec PyProof.Rows L2
def Rs.out {α : Type} : Rs α → DEnv → (α → Out) → Out
  | .ok a, _, f => f a
  | .ex x, e, _ => .ex x e
  | .no, _, _ => .no
/-- .. and then -/
def Out.andThen : Out → FS → Out
  | .nx e, g => g e
  | .rt d, _ => .rt d
  | .bk e, _ => .bk e
  | .ct e, _ => .ct e
  | .ex x e, _ => .ex x e
  | .no, _ => .no
/-- a turn ends; k: the next ones -/
def Out.turn (W : List Nat) : Out → FS → Out
  | .nx e, k => k (dwipe e W)
  | .ct e, k => k (dwipe e W)
  | .bk e, _ => .nx (dwipe e W)
  | .rt d, _ => .rt d
  | .ex x e, _ => .ex x e
  | .no, _ => .no
def optE : Option DEnv → FS → Out
  | some e, k => k e
  | none, _ => .no
def optD : Option D → (D → Out) → Out
  | some e, k => k e
  | none, _ => .no
def Out.fn : Out → Rs D
  | .nx _ => .ok .non
  | .rt d => .ok d
  | .ex x _ => .ex x
  | .bk _ => .no
  | .ct _ => .no
  | .no => .no
section
variable {α : Type} {a : α} {x : Ex} {e : DEnv} {f : α → Out} {g : FS} {W : List Nat} {d : D} {xs : List D} {kvs : List (Key × D)} {key : Key} {h : DEnv → DEnv} {kn : List Str} {m : Str}
@[simp] theorem out_ok : (Rs.ok a).out e f = f a := rfl
@[simp] theorem out_ex : (Rs.ex x : Rs α).out e f = .ex x e := rfl
@[simp] theorem out_no : (Rs.no : Rs α).out e f = .no := rfl
@[simp] theorem then_nx : (Out.nx e).andThen g = g e := rfl
@[simp] theorem then_rt : (Out.rt d).andThen g = .rt d := rfl
@[simp] theorem then_bk : (Out.bk e).andThen g = .bk e := rfl
@[simp] theorem then_ct : (Out.ct e).andThen g = .ct e := rfl
@[simp] theorem then_ex : (Out.ex x e).andThen g = .ex x e := rfl
@[simp] theorem then_no : Out.no.andThen g = .no := rfl
@[simp] theorem turn_nx : (Out.nx e).turn W g = g (dwipe e W) := rfl
@[simp] theorem turn_ct : (Out.ct e).turn W g = g (dwipe e W) := rfl
@[simp] theorem turn_bk : (Out.bk e).turn W g = .nx (dwipe e W) := rfl
@[simp] theorem turn_rt : (Out.rt d).turn W g = .rt d := rfl
@[simp] theorem turn_ex : (Out.ex x e).turn W g = .ex x e := rfl
@[simp] theorem turn_no : Out.no.turn W g = .no := rfl
@[simp] theorem optE_some : optE (some e) g = g e := rfl
@[simp] theorem optE_none : optE none g = .no := rfl
@[simp] theorem fn_nx : (Out.nx e).fn = .ok .non := rfl
@[simp] theorem fn_rt : (Out.rt d).fn = .ok d := rfl
@[simp] theorem fn_ex : (Out.ex x e).fn = .ex x := rfl
@[simp] theorem fn_no : Out.no.fn = .no := rfl
end
section
variable {p : Prop} [Decidable p]
@[simp] theorem out_ite {α : Type} {a b : Rs α} {e : DEnv} {f : α → Out} : (if p then a else b).out e f = if p then a.out e f else b.out e f := by split <;> rfl
@[simp] theorem then_ite {a b : Out} {f : FS} : (if p then a else b).andThen f = if p then a.andThen f else b.andThen f := by split <;> rfl
@[simp] theorem turn_ite {W : List Nat} {a b : Out} {f : FS} : (if p then a else b).turn W f = if p then a.turn W f else b.turn W f := by split <;> rfl
@[simp] theorem fn_ite {a b : Out} : (if p then a else b).fn = if p then a.fn else b.fn := by split <;> rfl
end
def Out.mapE (f : DEnv → DEnv) : Out → Out
  | .nx e => .nx (f e)
  | .rt d => .rt d
  | .bk e => .bk (f e)
  | .ct e => .ct (f e)
  | .ex x e => .ex x (f e)
  | .no => .no
section
variable {M : List Nat} {a b c : FX} {wa wb wc : Exp} {t u : FT} {wt wu : Tst} {r : FA} {wr : Arg} {n : Nat} {f g : FS} {w v : DTS} {s0 ws : S} {fe we : DEnv}
theorem Rl.refl (h : Rl M s0 fe we ws) : Rl M s0 fe we ws := h
theorem run_out {α : Type} {r : Rs α} {e : DEnv} {k : α → Out} {DD : DEnds} (h : (r.out e k).run M s0 DD) (hr : Rl M s0 e we ws) : r.run (fun a => (k a).run M s0 DD) (fun x => DD.ex x we ws) := by
  cases r with
  | ok a => exact h
  | ex x => exact h we ws hr
  | no => exact h
theorem Out.run_mono {o : Out} {DD DD' : DEnds} (h : o.run M s0 DD) (h1 : ∀ e s, DD.nx e s → DD'.nx e s) (h2 : ∀ d s, DD.rt d s → DD'.rt d s) (h3 : ∀ e s, DD.bk e s → DD'.bk e s) (h4 : ∀ e s, DD.ct e s → DD'.ct e s) (h5 : ∀ x e s, DD.ex x e s → DD'.ex x e s) : o.run M s0 DD' := by
  cases o with
  | nx e => exact fun we ws q => h1 _ _ (h we ws q)
  | rt d => exact fun ws q => h2 _ _ (h ws q)
  | bk e => exact fun we ws q => h3 _ _ (h we ws q)
  | ct e => exact fun we ws q => h4 _ _ (h we ws q)
  | ex x e => exact fun we ws q => h5 _ _ _ (h we ws q)
  | no => exact h
/-! ### small statements -/
@[simp] def fNext (e : DEnv) : Out := .nx e
@[simp] def fBreak (e : DEnv) : Out := .bk e
@[simp] def fCont (e : DEnv) : Out := .ct e
@[simp] def fSeq (f g : FS) (e : DEnv) : Out := (f e).andThen g
@[simp] def fDrop (a : FX) (e : DEnv) : Out := (a e).out e fun _ => .nx e
@[simp] def fRet (a : FX) (e : DEnv) : Out := (a e).out e .rt
@[simp] def fRetN (_ : DEnv) : Out := .rt .non
@[simp] def fIfS (t : FT) (f g : FS) (e : DEnv) : Out := (t e).out e fun b => if b = true then f e else g e
@[simp] def fSet (i : Nat) (a : FX) (e : DEnv) : Out := (a e).out e fun d => .nx (dset e i (some d))
@[simp] def fAsg (a : FX) (g : FG) (e : DEnv) : Out := (a e).out e fun d => optE (g d e) .nx
@[simp] def fRaise (n x : Str) (a : FX) (e : DEnv) : Out := (a e).out e fun d => .ex ⟨n, [(x, d)]⟩ e
theorem as_next : AS M fNext dNext := fun s0 fe we ws h DD q => q we ws h
theorem as_break : AS M fBreak dBreak := fun s0 fe we ws h DD q => q we ws h
theorem as_cont : AS M fCont dCont := fun s0 fe we ws h DD q => q we ws h
theorem as_seq (hf : AS M f w) (hg : AS M g v) : AS M (fSeq f g) (dSeq w v) := fun s0 fe we ws h DD q => by
  refine hf s0 fe we ws h _ ?_
  unfold fSeq at q
  cases e : f fe with
  | nx e' => rw [e] at q; exact fun we' ws' h' => hg s0 e' we' ws' h' DD q
  | rt d => rw [e] at q; exact q
  | bk e' => rw [e] at q; exact q
  | ct e' => rw [e] at q; exact q
  | ex x e' => rw [e] at q; exact q
  | no => rw [e] at q; exact q
theorem as_drop (ha : AX M a wa) : AS M (fDrop a) (dDrop wa) := fun s0 fe we ws h DD q => ha s0 fe we ws h _ _ (run_mono (run_out q h) (fun d q => q we ws h) fun _ k => k)
theorem as_ret (ha : AX M a wa) : AS M (fRet a) (dRet wa) := fun s0 fe we ws h DD q => ha s0 fe we ws h _ _ (run_mono (run_out q h) (fun d q => q ws h.sub) fun _ k => k)
theorem as_retN : AS M fRetN dRetN := fun s0 fe we ws h DD q => q ws h.sub
theorem as_if (ht : AT M t wt) (hf : AS M f w) (hg : AS M g v) : AS M (fIfS t f g) (dIfS wt w v) := fun s0 fe we ws h DD q => by
  refine ht s0 fe we ws h _ _ (run_mono (run_out q h) (fun b q => ?_) fun _ k => k)
  cases b
  · exact hg s0 fe we ws h DD q
  · exact hf s0 fe we ws h DD q
theorem as_set (i : Nat) (ha : AX M a wa) (hi : i ∉ M := by decide) : AS M (fSet i a) (dSet i wa) := fun s0 fe we ws h DD q =>
  ha s0 fe we ws h _ _ (run_mono (run_out q h) (fun d q => q _ ws (h.nonM hi)) fun _ k => k)
theorem as_setM (i : Nat) (ha : AM M a wa) (hi : i ∈ M := by decide) : AS M (fSet i a) (dSet i wa) := fun s0 fe we ws h DD q =>
  ha s0 fe we ws h _ _ (run_mono (run_out q h) (fun d q p o ho hp => q _ _ (h.setM hi hp ho)) fun _ k => k)
theorem as_asg {g : FG} {wg : DG} (ha : AX M a wa) (hg : AG M g wg) : AS M (fAsg a g) (dAsg wa wg) := fun s0 fe we ws h DD q => by
  refine ha s0 fe we ws h _ _ (run_mono (run_out q h) (fun d q => ?_) fun _ k => k)
  cases he : g d fe with
  | none => rw [he] at q; exact q.elim
  | some e1 =>
    rw [he] at q
    exact hg s0 fe we ws h d e1 he _ fun we1 r1 => q we1 ws r1
theorem as_raise {m x : Str} (ha : AX M a wa) : AS M (fRaise m x a) (dRaise m x wa) := fun s0 fe we ws h DD q =>
  ha s0 fe we ws h _ _ (run_mono (run_out q h) (fun d q => q we ws h) fun _ k => k)
/-- return of a list that was made here -/
def gMade : F1
  | .lst xs => some (.lst xs)
  | _ => none
theorem as_retM (i : Nat) (hi : i ∈ M := by decide) : AS M (fRet (fB1 gMade (fVar i))) (dRet (dFrz (dVar i))) := fun s0 fe we ws h DD q => by
  obtain ⟨d, hd, q2⟩ := run_opt (run_bind.mp (run_out q h))
  obtain ⟨y, hy, q3⟩ := run_opt q2
  cases d with
  | lst xs =>
    cases hy
    obtain ⟨p, g1, g2, g3, g4⟩ := h.frz hi hd
    show dFrz (dVar i) we ws DD.rt _
    unfold dFrz dVar
    rw [g1]
    exact ⟨xs, g2, q3 _ g3⟩
  | _ => cases hy
/-! ### new lists and dicts that change -/
theorem am_lst (hr : AA M n r wr) (hn : n ≤ 10000 := by decide) : AM M (fLst r) (dLstM wr) := fun s0 fe we ws h R E q =>
  hr s0 fe we ws h _ E (run_mono (run_bind.mp q) (fun ds q hl => ⟨sz _ (by omega), fun p hp => q p _ rfl hp⟩) fun _ k => k)
@[simp] def fDict0 (_ : DEnv) : Rs D := .ok (.dic [])
theorem am_dict0 : AM M fDict0 dDict0M := fun s0 fe we ws h R E q p hp => q p _ rfl hp
theorem ax_dict0 : AX M fDict0 dDict0 := fun s0 fe we ws h R E q => q
theorem am_list (ha : AV M a wa) : AM M (fB1 gList a) (dBlt cListM (dCons wa dNil)) := fun s0 fe we ws h R E q => by
  refine ha s0 fe we ws h _ E (run_mono (run_bind.mp q) (fun x q x' hx => ?_) fun _ k => k)
  obtain ⟨d, e, q⟩ := run_opt q
  obtain ⟨ds, h1, h2⟩ := Option.map_eq_some_iff.mp e
  subst h2
  exact ⟨ds, vrel_seq hx h1, fun p hp => q p _ rfl hp⟩
/-- pairs of written keys -/
def fPairs : List (FX × FX) → DEnv → Rs (List (D × D))
  | [], _ => .ok []
  | (k, v) :: r, e => (k e).bind fun x => (v e).bind fun y => (fPairs r e).bind fun ps => .ok ((x, y) :: ps)
inductive APs (M : List Nat) : List (FX × FX) → List (Exp × Exp) → Prop
  | nil : APs M [] []
  | cons {a b : FX} {wa wb : Exp} {r : List (FX × FX)} {wr : List (Exp × Exp)} : AX M a wa → AX M b wb → APs M r wr → APs M ((a, b) :: r) ((wa, wb) :: wr)
theorem aps_run : ∀ {fs : List (FX × FX)} {wfs : List (Exp × Exp)}, APs M fs wfs → ∀ s0 fe we ws, Rl M s0 fe we ws → ∀ R E, (fPairs fs fe).run (fun ps => R ps ws) (fun x => E x ws) → dPairs wfs we ws R E
  | _, _, .nil, s0, fe, we, ws, h, R, E, q => q
  | _, _, .cons ha hb hr, s0, fe, we, ws, h, R, E, q => by
    refine ha s0 fe we ws h _ E (run_mono (run_bind.mp q) (fun x q => ?_) fun _ k => k)
    refine hb s0 fe we ws h _ E (run_mono (run_bind.mp q) (fun y q => ?_) fun _ k => k)
    exact aps_run hr s0 fe we ws h _ E (run_mono (run_bind.mp q) (fun ps q => q) fun _ k => k)
@[simp] def fDisp (fs : List (FX × FX)) (e : DEnv) : Rs D := (fPairs fs e).bind fun ps => match ps.mapM (fun p => (keyD p.1).map fun k => (k, p.2)) with
  | some kvs => if kvs.length ≤ 15 then .ok (.dic (dMerge [] kvs)) else .no
  | none => .no
theorem am_disp {fs : List (FX × FX)} {wfs : List (Exp × Exp)} (hp : APs M fs wfs) : AM M (fDisp fs) (dDispM wfs) := fun s0 fe we ws h R E q => by
  refine aps_run hp s0 fe we ws h _ E (run_mono (run_bind.mp q) (fun ps q => ?_) fun _ k => k)
  split at q
  · rename_i kvs hk
    split at q
    · rename_i hl
      exact ⟨kvs, hk, hl, fun p hp => q p _ rfl hp⟩
    · exact q.elim
  · exact q.elim
theorem am_lc {i : FA} {wi : Arg} {g : FG} {wg : DG} {vs : List Nat} (hi : AW M i wi) (hg : AG M g wg) (ht : AT M t wt) (ha : AX M a wa) : AM M (fLc i g t a vs) (dLcM wi wg wt wa vs) := fun s0 fe we ws h R E q => by
  have hh : AX M (fLc i g t a vs) (dLc wi wg wt wa vs) := ax_lc hi hg ht ha
  have q2 := hh s0 fe we ws h (fun d s => s = ws → ∃ ys, d = .lst ys ∧ ∀ p, ws.mu p = none → R (.rf (.ref p)) (ws.put p (.ml ys))) E (run_mono (r := fLc i g t a vs fe) ?_ (fun d (k : ∃ ys, d = .lst ys ∧ ∀ p, ws.mu p = none → R (.rf (.ref p)) (ws.put p (.ml ys))) => fun _ => k) fun _ k => k)
  · refine hi s0 fe we ws h _ E (run_mono (run_bind.mp q) (fun ds q hz => ?_) fun _ k => k)
    refine ⟨hz, ?_⟩
    cases e : fGo (fElem g t a (dwipe fe vs)) ds with
    | no => rw [e] at q; exact q.elim
    | ex x =>
      exfalso
      clear q q2
      induction ds with
      | nil => cases e
      | cons d ds ih =>
        rw [fGo] at e
        cases h1 : fElem g t a (dwipe fe vs) d with
        | no => rw [h1] at e; cases e
        | ex x =>
          unfold fElem at h1
          split at h1
          · cases h1
          · split at h1
            · split at h1 <;> cases h1
            · cases h1
            · cases h1
        | ok o =>
          rw [h1] at e
          replace e : (fGo (fElem g t a (dwipe fe vs)) ds).bind (fun ys => .ok (o.toList ++ ys)) = .ex x := e
          cases h2 : fGo (fElem g t a (dwipe fe vs)) ds with
          | no => rw [h2] at e; cases e
          | ok zs => rw [h2] at e; cases e
          | ex x2 =>
            rw [h2] at e
            cases e
            exact ih (by rw [List.length_cons] at hz; omega) h2
    | ok ys =>
      rw [e] at q
      exact comp_go (h.wipes vs) hg ht ha ds [] ys _ e fun p hp => q p _ rfl hp
  · cases e : fLc i g t a vs fe with
    | no => rw [e] at q; exact q
    | ex x => rw [e] at q; exact q
    | ok d =>
      rw [e] at q
      have : ∃ ys, d = .lst ys := by
        unfold fLc at e
        cases h1 : i fe with
        | no => rw [h1] at e; cases e
        | ex x => rw [h1] at e; cases e
        | ok ds =>
          rw [h1] at e
          simp only [Rs.bind] at e
          cases h2 : fGo (fElem g t a (dwipe fe vs)) ds with
          | no => rw [h2] at e; cases e
          | ex x => rw [h2] at e; cases e
          | ok ys => rw [h2] at e; cases e; exact ⟨ys, rfl⟩
      obtain ⟨ys, rfl⟩ := this
      exact ⟨ys, rfl, fun p hp => q p _ rfl hp⟩
/-! ### lists and dicts are changed -/
/-- the list at a slot -/
def atL : Option D → (List D → Out) → Out
  | some (.lst xs), k => k xs
  | _, _ => .no
/-- the dict at a slot -/
def atK : Option D → (List (Key × D) → Out) → Out
  | some (.dic kvs), k => k kvs
  | _, _ => .no
def optK : Option Key → (Key → Out) → Out
  | some k, f => f k
  | none, _ => .no
@[simp] def fApp (i : Nat) (a : FX) (e : DEnv) : Out := atL (nth e i) fun xs => (a e).out e fun y => if xs.length < sizeLine then .nx (dset e i (some (.lst (xs ++ [y])))) else .no
theorem as_app (i : Nat) (ha : AX M a wa) (hi : i ∈ M := by decide) : AS M (fApp i a) (dApp (dVar i) wa) := fun s0 fe we ws h DD q => by
  unfold fApp atL at q
  split at q
  · rename_i k xs hx
    obtain ⟨p, o, h1, h2, h3, h4⟩ := h.mu i _ hi hx
    cases h3
    unfold dApp dVar
    rw [h1]
    refine ⟨⟨xs, h4⟩, ha s0 fe we ws h _ _ (run_mono (run_out q h) (fun y q => ?_) fun _ k => k)⟩
    split at q
    · rename_i hl
      exact ⟨xs, h4, hl, q _ _ (h.chg hi hx h1 rfl)⟩
    · exact q.elim
  · exact q.elim
@[simp] def fPut (i : Nat) (k v : FX) (e : DEnv) : Out := (v e).out e fun y => atK (nth e i) fun kvs => (k e).out e fun x => optK (keyD x) fun key => if kvs.length < sizeLine then .nx (dset e i (some (.dic (dput kvs key y)))) else .no
theorem as_put (i : Nat) (hk : AX M a wa) (hv : AX M b wb) (hi : i ∈ M := by decide) : AS M (fPut i a b) (dPutS (dVar i) wa wb) := fun s0 fe we ws h DD q => by
  refine hv s0 fe we ws h _ _ (run_mono (run_out q h) (fun y q => ?_) fun _ k => k)
  cases hx : nth fe i with
  | none => rw [hx] at q; exact q.elim
  | some d =>
    rw [hx] at q
    cases d with
    | dic kvs =>
      obtain ⟨p, o, h1, h2, h3, h4⟩ := h.mu i _ hi hx
      cases h3
      unfold dVar
      rw [h1]
      refine hk s0 fe we ws h _ _ (run_mono (run_out q h) (fun x q => ?_) fun _ k => k)
      cases hkey : keyD x with
      | none => rw [hkey] at q; exact q.elim
      | some key =>
        rw [hkey] at q
        simp only [optK] at q
        split at q
        · rename_i hl
          exact ⟨key, kvs, rfl, h4, hl, q _ _ (h.chg hi hx h1 rfl)⟩
        · exact q.elim
    | _ => exact q.elim
/-! ### dicts are read -/
def getF : D → Option Key → Rs D
  | .dic kvs, some key => Rs.opt (dval kvs key)
  | _, _ => .no
@[simp] def fGet (a k : FX) (e : DEnv) : Rs D := (a e).bind fun d => (k e).bind fun x => getF d (keyD x)
theorem ax_get (ha : AV M a wa) (hb : AX M b wb) : AX M (fGet a b) (dGet wa wb) := fun s0 fe we ws h R E q => by
  refine ha s0 fe we ws h _ E (run_mono (run_bind.mp q) (fun x q x' hx => ?_) fun _ k => k)
  refine hb s0 fe we ws h _ E (run_mono (run_bind.mp q) (fun y q => ?_) fun _ k => k)
  cases x with
  | dic kvs =>
    cases hk : keyD y with
    | none => rw [hk] at q; exact q.elim
    | some key =>
      rw [hk] at q
      obtain ⟨d, e, q⟩ := run_opt q
      exact ⟨key, kvs, d, rfl, vrel_dic hx, e, q⟩
  | _ => exact q.elim
def inKF (neg : Bool) : D → Option Key → Rs D
  | .dic kvs, some key => .ok (.bl (if neg then !(dval kvs key).isSome else (dval kvs key).isSome))
  | _, _ => .no
@[simp] def fInK (neg : Bool) (k a : FX) (e : DEnv) : Rs D := (k e).bind fun x => (a e).bind fun d => inKF neg d (keyD x)
theorem ax_inK {neg : Bool} (hb : AX M b wb) (ha : AV M a wa) : AX M (fInK neg b a) (dInK neg wb wa) := fun s0 fe we ws h R E q => by
  refine hb s0 fe we ws h _ E (run_mono (run_bind.mp q) (fun y q => ?_) fun _ k => k)
  refine ha s0 fe we ws h _ E (run_mono (run_bind.mp q) (fun x q x' hx => ?_) fun _ k => k)
  cases x with
  | dic kvs =>
    cases hk : keyD y with
    | none => rw [hk] at q; exact q.elim
    | some key =>
      rw [hk] at q
      exact ⟨key, kvs, rfl, vrel_dic hx, q⟩
  | _ => exact q.elim
def asK : D → (List (Key × D) → Rs D) → Rs D
  | .dic kvs, k => k kvs
  | _, _ => .no
@[simp] def fGetOr (a k c : FX) (e : DEnv) : Rs D := (a e).bind fun d => asK d fun kvs => (k e).bind fun x => (c e).bind fun y => (Rs.opt (keyD x)).bind fun key => .ok ((dval kvs key).getD y)
theorem ax_getOr (ha : AV M a wa) (hb : AX M b wb) (hc : AX M c wc) : AX M (fGetOr a b c) (dGetOr wa wb wc) := fun s0 fe we ws h R E q => by
  refine ha s0 fe we ws h _ E (run_mono (run_bind.mp q) (fun x q x' hx => ?_) fun _ k => k)
  cases x with
  | dic kvs =>
    have hd := vrel_dic hx
    refine ⟨by rw [hd]; rfl, hb s0 fe we ws h _ E (run_mono (run_bind.mp q) (fun y q => ?_) fun _ k => k)⟩
    refine hc s0 fe we ws h _ E (run_mono (run_bind.mp q) (fun z q => ?_) fun _ k => k)
    obtain ⟨key, hk, q⟩ := run_opt (run_bind.mp q)
    exact ⟨key, kvs, hk, hd, q⟩
  | _ => exact q.elim
def idxF (xs : List D) (x : D) : Option Nat := xs.findIdx? fun z => z.eqb x
def indexF : D → D → Rs D
  | .lst xs, x => if x.eqOk = true ∧ (D.lst xs).eqOk = true then (Rs.opt (idxF xs x)).bind fun j => .ok (.int (j : Nat)) else .no
  | _, _ => .no
def asL : D → Rs D
  | .lst xs => .ok (.lst xs)
  | _ => .no
@[simp] def fIndex (a b : FX) (e : DEnv) : Rs D := ((a e).bind asL).bind fun d => (b e).bind fun x => indexF d x
theorem ax_index (ha : AX M a wa) (hb : AX M b wb) : AX M (fIndex a b) (dIndex (dLs wa) wb) := fun s0 fe we ws h R E q => by
  refine ha s0 fe we ws h _ E (run_mono (run_bind.mp (run_bind.mp q)) (fun x q => ?_) fun _ k => k)
  cases x with
  | lst xs =>
    refine ⟨⟨xs, rfl⟩, hb s0 fe we ws h _ E (run_mono (run_bind.mp q) (fun y q => ?_) fun _ k => k)⟩
    unfold indexF at q
    simp only at q
    split at q
    · rename_i ho
      obtain ⟨j, e, q⟩ := run_opt (run_bind.mp q)
      obtain ⟨h1, h2, h3⟩ := List.findIdx?_eq_some_iff_getElem.mp e
      refine ⟨ho, j, xs[j], List.getElem?_eq_getElem h1, h2, fun m z' hm hz => ?_, q⟩
      obtain ⟨hm2, e2⟩ := List.getElem?_eq_some_iff.mp hz
      have := h3 m hm
      rw [e2] at this
      simpa using this
    · exact q.elim
  | _ => exact q.elim
/-! ### a list will not change any more -/
@[simp] def fFrz (i : Nat) (f : FS) (e : DEnv) : Out := atL (nth e i) fun _ => (f e).mapE fun e => dset e i none
theorem as_frz (i : Nat) (hf : AS (M.filter (· != i)) f w) (hi : i ∈ M := by decide) : AS M (fFrz i f) (dFrzV i w) := fun s0 fe we ws h DD q => by
  unfold fFrz atL at q
  split at q
  · rename_i k xs hx
    obtain ⟨p, h1, h2, h3, h4⟩ := h.frz hi hx
    refine ⟨p, xs, h1, h2, hf s0 fe _ _ h4 DD ?_⟩
    cases e : f fe with
    | nx e' => rw [e] at q; exact fun we' ws' r => q we' ws' r.back
    | rt d => rw [e] at q; exact q
    | bk e' => rw [e] at q; exact fun we' ws' r => q we' ws' r.back
    | ct e' => rw [e] at q; exact fun we' ws' r => q we' ws' r.back
    | ex x e' => rw [e] at q; exact fun we' ws' r => q we' ws' r.back
    | no => rw [e] at q; exact q
  · exact q.elim
/-! ### loops -/
def fLoop (g : FG) (f : FS) (W : List Nat) : List D → DEnv → Out
  | [], e => .nx e
  | d :: ds, e => optE (g d e) fun e1 => (f e1).turn W (fLoop g f W ds)
theorem loop_run {g : FG} {wg : DG} {W : List Nat} (hg : AG M g wg) (hf : AS M f w) : ∀ (ds : List D) (s0 : S) (fe we : DEnv) (ws : S), Rl M s0 fe we ws → ∀ DD : DEnds, (fLoop g f W ds fe).run M s0 DD → dLoop wg w DD ds we ws
  | [], s0, fe, we, ws, h, DD, q => q we ws h
  | d :: ds, s0, fe, we, ws, h, DD, q => by
    unfold fLoop at q
    unfold dLoop
    cases he : g d fe with
    | none => rw [he] at q; exact q.elim
    | some e1 =>
      rw [he] at q
      refine hg s0 fe we ws h d e1 he _ fun we1 r1 => ?_
      refine hf s0 e1 we1 ws r1 _ ?_
      simp only [optE] at q
      cases h2 : f e1 with
      | nx e2 =>
        rw [h2] at q
        exact fun we2 ws2 r2 => loop_run hg hf ds s0 _ we2 ws2 (r2.forgets W) DD q
      | ct e2 =>
        rw [h2] at q
        exact fun we2 ws2 r2 => loop_run hg hf ds s0 _ we2 ws2 (r2.forgets W) DD q
      | bk e2 =>
        rw [h2] at q
        exact fun we2 ws2 r2 => q we2 ws2 (r2.forgets W)
      | rt d2 => rw [h2] at q; exact q
      | ex x e2 => rw [h2] at q; exact q
      | no => rw [h2] at q; exact q
@[simp] def fFor (i : FA) (g : FG) (f : FS) (W : List Nat) (e : DEnv) : Out := (i e).out e fun ds => fLoop g f W ds e
theorem as_for {i : FA} {wi : Arg} {g : FG} {wg : DG} {W : List Nat} (hi : AW M i wi) (hg : AG M g wg) (hf : AS M f w) : AS M (fFor i g f W) (dFor wi wg w) := fun s0 fe we ws h DD q =>
  hi s0 fe we ws h _ _ (run_mono (run_out q h) (fun ds q _ => loop_run hg hf ds s0 fe we ws h DD q) fun _ k => k)
def fWhile (t : FT) (f : FS) (W : List Nat) : Nat → DEnv → Out
  | 0, _ => .no
  | m + 1, e => (t e).out e fun b => if b = true then (f e).turn W (fWhile t f W m) else .nx e
theorem as_while {W : List Nat} (m : Nat) (ht : AT M t wt) (hf : AS M f w) : AS M (fWhile t f W m) (dWhile wt w) := fun s0 fe we ws h DD q => by
  refine ⟨fun k e s => ∃ fe', Rl M s0 fe' e s ∧ (fWhile t f W k fe').run M s0 DD, ⟨m, fe, h, q⟩, ?_⟩
  rintro k e s ⟨fe', r, q⟩
  cases k with
  | zero => exact q.elim
  | succ k =>
    unfold fWhile at q
    refine ht s0 fe' e s r _ _ (run_mono (run_out q r) (fun b q => ?_) fun _ k => k)
    cases b
    · exact q e s r
    · simp only [if_true] at q ⊢
      refine hf s0 fe' e s r _ ?_
      cases h2 : f fe' with
      | nx e2 =>
        rw [h2] at q
        exact fun we2 ws2 r2 => ⟨k, Nat.lt_succ_self k, _, r2.forgets W, q⟩
      | ct e2 =>
        rw [h2] at q
        exact fun we2 ws2 r2 => ⟨k, Nat.lt_succ_self k, _, r2.forgets W, q⟩
      | bk e2 =>
        rw [h2] at q
        exact fun we2 ws2 r2 => q we2 ws2 (r2.forgets W)
      | rt d2 => rw [h2] at q; exact q
      | ex x e2 => rw [h2] at q; exact q
      | no => rw [h2] at q; exact q
/-! ### try -/
def Out.tryE (kn : List Str) (m : Str) : Out → FS → Out
  | .ex x e', g => if x.c ∈ kn then (if subC x.c m = true then g e' else .ex x e') else .no
  | .nx e, _ => .nx e
  | .rt d, _ => .rt d
  | .bk e, _ => .bk e
  | .ct e, _ => .ct e
  | .no, _ => .no
@[simp] theorem try_nx {kn : List Str} {m : Str} {e : DEnv} {g : FS} : (Out.nx e).tryE kn m g = .nx e := rfl
@[simp] theorem try_rt {kn : List Str} {m : Str} {d : D} {g : FS} : (Out.rt d).tryE kn m g = .rt d := rfl
@[simp] theorem try_bk {kn : List Str} {m : Str} {e : DEnv} {g : FS} : (Out.bk e).tryE kn m g = .bk e := rfl
@[simp] theorem try_ct {kn : List Str} {m : Str} {e : DEnv} {g : FS} : (Out.ct e).tryE kn m g = .ct e := rfl
@[simp] theorem try_ex {kn : List Str} {m : Str} {x : Ex} {e : DEnv} {g : FS} : (Out.ex x e).tryE kn m g = if x.c ∈ kn then (if subC x.c m = true then g e else .ex x e) else .no := rfl
@[simp] theorem try_ite {p : Prop} [Decidable p] {kn : List Str} {m : Str} {a b : Out} {g : FS} : (if p then a else b).tryE kn m g = if p then a.tryE kn m g else b.tryE kn m g := by split <;> rfl
@[simp] def fTry (kn : List Str) (m : Str) (f g : FS) (e : DEnv) : Out := (f e).tryE kn m g
theorem as_try {kn : List Str} {m : Str} (hf : AS M f w) (hg : AS M g v) : AS M (fTry kn m f g) (dTry kn m w v) := fun s0 fe we ws h DD q => by
  refine hf s0 fe we ws h _ ?_
  unfold fTry at q
  cases e : f fe with
  | ex x e' =>
    rw [e] at q
    simp only [Out.tryE] at q
    intro we' ws' r
    split at q
    · rename_i hk
      refine ⟨hk, ?_⟩
      split at q
      · rename_i hs
        rw [if_pos hs]
        exact hg s0 e' we' ws' r DD q
      · rename_i hs
        rw [if_neg hs]
        exact q we' ws' r
    · exact q.elim
  | rt d => rw [e] at q; exact q
  | bk e' => rw [e] at q; exact q
  | ct e' => rw [e] at q; exact q
  | nx e' => rw [e] at q; exact q
  | no => rw [e] at q; exact q
end
/-! ### several targets -/
/-- put into the slots, from the first on -/
def dsets (e : DEnv) : List Nat → List D → DEnv
  | i :: is, d :: ds => dsets (dset e i (some d)) is ds
  | _, _ => e
def fAll : List FX → DEnv → Rs (List D)
  | [], _ => .ok []
  | a :: r, e => (a e).bind fun d => (fAll r e).bind fun ds => .ok (d :: ds)
@[simp] def fPars (is : List Nat) (fs : List FX) (e : DEnv) : Out := (fAll fs e).out e fun ds => .nx (dsets e is ds)
section
variable {M : List Nat} {s0 ws : S} {fe we : DEnv}
/-- values that wait for their slots -/
inductive Pd (M : List Nat) (s0 : S) (fe we : DEnv) (ws : S) : List Nat → List D → List D → Prop
  | nil : Pd M s0 fe we ws [] [] []
  | val {i : Nat} {is : List Nat} {d : D} {ds ds' : List D} : i ∉ M → Pd M s0 fe we ws is ds ds' → Pd M s0 fe we ws (i :: is) (d :: ds) (d :: ds')
  | chg {i : Nat} {is : List Nat} {d : D} {ds ds' : List D} {p : Addr} {o : MO} : i ∈ M → s0.mu p = none → moOf d = some o → ws.mu p = some o → (∀ j, j ∈ M → nth fe j ≠ none → nth we j ≠ some (.rf (.ref p))) →
      (∀ j d', (j, d') ∈ is.zip ds' → j ∈ M → d' ≠ .rf (.ref p)) → Pd M s0 fe we ws is ds ds' → Pd M s0 fe we ws (i :: is) (d :: ds) (.rf (.ref p) :: ds')
theorem Rl.setP (h : Rl M s0 fe we ws) {i : Nat} {d : D} {p : Addr} {o : MO} (hi : i ∈ M) (h0 : s0.mu p = none) (ho : moOf d = some o) (hp : ws.mu p = some o) (hn : ∀ j, j ∈ M → nth fe j ≠ none → nth we j ≠ some (.rf (.ref p))) : Rl M s0 (dset fe i (some d)) (dset we i (some (.rf (.ref p)))) ws := by
  refine ⟨by rw [dset_len, dset_len, h.len], h.sub, fun j x hj e => ?_, fun j x hj e => ?_, fun j k q hj hk hjk e1 e2 e3 => ?_⟩
  · have ne : i ≠ j := fun z => hj (z ▸ hi)
    rw [nth_dset, if_neg (fun z => ne z.1)] at e ⊢
    exact h.im j x hj e
  · rw [nth_dset] at e ⊢
    rw [← h.len]
    split at e
    · rename_i z
      rw [if_pos z]
      cases e
      exact ⟨p, o, rfl, h0, ho, hp⟩
    · rename_i z
      rw [if_neg z]
      exact h.mu j x hj e
  · rw [nth_dset, ← h.len] at e3
    rw [nth_dset] at e1 e2
    rw [nth_dset, ← h.len]
    by_cases z1 : i = j ∧ i < fe.length
    · rw [if_pos z1] at e3
      cases e3
      have z2 : ¬ (i = k ∧ i < fe.length) := fun z => hjk (z1.1.symm.trans z.1)
      rw [if_neg z2] at e2 ⊢
      exact hn k hk e2
    · rw [if_neg z1] at e1 e3
      by_cases z2 : i = k ∧ i < fe.length
      · rw [if_pos z2]
        intro z
        cases z
        exact hn j hj e1 e3
      · rw [if_neg z2] at e2 ⊢
        exact h.inj j k q hj hk hjk e1 e2 e3
theorem pd_set : ∀ {is : List Nat} {ds ds' : List D} {fe we : DEnv}, Pd M s0 fe we ws is ds ds' → Rl M s0 fe we ws → Rl M s0 (dsets fe is ds) (dsets we is ds') ws
  | _, _, _, fe, we, .nil, h => h
  | _, _, _, fe, we, .val (i := i) (d := d) hi r, h => by
    have tr : ∀ {is : List Nat} {ds ds' : List D}, Pd M s0 fe we ws is ds ds' → Pd M s0 (dset fe i (some d)) (dset we i (some d)) ws is ds ds' := by
      intro is ds ds' r
      induction r with
      | nil => exact .nil
      | val a _ ih => exact .val a ih
      | chg a b c e f g _ ih =>
        refine .chg a b c e (fun j hj e1 => ?_) g ih
        have ne : i ≠ j := fun z => hi (z ▸ hj)
        rw [nth_dset, if_neg (fun z => ne z.1)] at e1 ⊢
        exact f j hj e1
    have z := pd_set (tr r) (h.nonM hi)
    exact z
  | _, _, _, fe, we, .chg (i := i) (d := d) (p := p) hi h0 ho hp hn hd r, h => by
    have tr : ∀ {is : List Nat} {ds ds' : List D}, (∀ j d', (j, d') ∈ is.zip ds' → j ∈ M → d' ≠ .rf (.ref p)) → Pd M s0 fe we ws is ds ds' → Pd M s0 (dset fe i (some d)) (dset we i (some (.rf (.ref p)))) ws is ds ds' := by
      intro is ds ds' hz r
      induction r with
      | nil => exact .nil
      | val a _ ih => exact .val a (ih fun j d' hm => hz j d' (List.mem_cons_of_mem _ hm))
      | chg a b c e f g _ ih =>
        refine .chg a b c e (fun j hj e1 => ?_) g (ih fun j d' hm => hz j d' (List.mem_cons_of_mem _ hm))
        have hne := hz _ _ List.mem_cons_self a
        rw [nth_dset] at e1 ⊢
        rw [← h.len]
        split
        · intro z; cases z; exact hne rfl
        · rename_i z
          rw [if_neg z] at e1
          exact f j hj e1
    have z := pd_set (tr hd r) (h.setP hi h0 ho hp hn)
    exact z
theorem Pd.fresh {p : Addr} {o : MO} (hp : ws.mu p = none) : ∀ {is : List Nat} {ds ds' : List D}, Pd M s0 fe we ws is ds ds' → Pd M s0 fe we (ws.put p o) is ds ds' ∧ ∀ j d', (j, d') ∈ is.zip ds' → j ∈ M → d' ≠ .rf (.ref p) := by
  intro is ds ds' r
  induction r with
  | nil => exact ⟨.nil, fun j d' hm => (nomatch hm)⟩
  | val a _ ih => 
    refine ⟨.val a ih.1, fun j d' hm hj => ?_⟩
    rcases List.mem_cons.mp hm with e | hm
    · cases e; exact (a hj).elim
    · exact ih.2 j d' hm hj
  | chg a b c e f g _ ih =>
    refine ⟨.chg a b c (by rw [put_ne (fun z => by rw [z, hp] at e; cases e)]; exact e) f g ih.1, fun j d' hm hj => ?_⟩
    rcases List.mem_cons.mp hm with e2 | hm
    · cases e2
      intro z; cases z
      rw [hp] at e; cases e
    · exact ih.2 j d' hm hj
/-- the components, evaluated from the left; those for slots of M are new -/
inductive ACs (M : List Nat) : List Nat → List FX → Arg → Prop
  | nil : ACs M [] [] dNil
  | val {i : Nat} {is : List Nat} {a : FX} {wa : Exp} {fs : List FX} {r : Arg} : i ∉ M → AX M a wa → ACs M is fs r → ACs M (i :: is) (a :: fs) (dCons wa r)
  | chg {i : Nat} {is : List Nat} {a : FX} {wa : Exp} {fs : List FX} {r : Arg} : i ∈ M → AM M a wa → ACs M is fs r → ACs M (i :: is) (a :: fs) (dCons wa r)
theorem acs_run : ∀ {is : List Nat} {fs : List FX} {r : Arg}, ACs M is fs r → ∀ (ws : S), Rl M s0 fe we ws → ∀ (R : List D → S → Prop) (E : XQ),
    (fAll fs fe).run (fun ds => ∀ ds' ws', Rl M s0 fe we ws' → Pd M s0 fe we ws' is ds ds' → ds'.length = is.length → (∀ p o, ws.mu p = some o → ws'.mu p = some o) → (∀ p, ws.mu p ≠ none → ∀ j d', (j, d') ∈ is.zip ds' → j ∈ M → d' ≠ .rf (.ref p)) → R ds' ws') (fun x => ∀ ws', Rl M s0 fe we ws' → E x ws') → r we ws R E
  | _, _, _, .nil, ws, h, R, E, q => q [] ws h .nil rfl (fun _ _ z => z) fun _ _ _ _ hm => (nomatch hm)
  | _, _, _, .val hi ha hr, ws, h, R, E, q => by
    refine ha s0 fe we ws h _ E (run_mono (run_bind.mp q) (fun x q => ?_) fun _ k => k ws h)
    refine acs_run hr ws h _ E (run_mono (run_bind.mp q) (fun ds q ds' ws' h' pd hl mm nn => ?_) fun _ k => k)
    refine q _ ws' h' (.val hi pd) (by rw [List.length_cons, List.length_cons, hl]) mm fun p hp j d' hm hj => ?_
    rcases List.mem_cons.mp hm with e | hm
    · cases e; exact (hi hj).elim
    · exact nn p hp j d' hm hj
  | _, _, _, .chg (a := a) hi ha hr, ws, h, R, E, q => by
    refine ha s0 fe we ws h _ E (run_mono (run_bind.mp q) (fun x q p o ho hp => ?_) fun _ k => k ws h)
    have h1 := h.fresh (o := o) hp
    refine acs_run hr _ h1 _ E (run_mono (run_bind.mp q) (fun ds q ds' ws' h' pd hl mm nn => ?_) fun _ k => k)
    have hpp := mm p o put_same
    refine q _ ws' h' (.chg hi (sub_free h.sub hp) ho hpp (fun j hj hn z => ?_) (nn p (by rw [put_same]; exact fun z => by cases z)) pd) (by rw [List.length_cons, List.length_cons, hl]) (fun p2 o2 z => mm p2 o2 (by rw [put_ne (fun y => by rw [y, hp] at z; cases z)]; exact z)) fun p2 hp2 j d' hm hj => ?_
    · cases e : nth fe j with
      | none => exact hn e
      | some y =>
        obtain ⟨p', o', g1, _, _, g4⟩ := h.mu j y hj e
        rw [g1] at z
        cases z
        rw [hp] at g4; cases g4
    · rcases List.mem_cons.mp hm with e | hm
      · cases e
        intro z
        cases z
        exact hp2 hp
      · refine nn p2 ?_ j d' hm hj
        by_cases z : p2 = p
        · rw [z, put_same]; exact fun y => by cases y
        · rw [put_ne z]; exact hp2
theorem as_par {i j : Nat} {fs : List FX} {r : Arg} (h : ACs M [i, j] fs r) : AS M (fPars [i, j] fs) (dPar i j r) := fun s0 fe we ws hr DD q => by
  refine acs_run h ws hr _ _ (run_mono (r := fAll fs fe) (R := fun ds => (Out.nx (dsets fe [i, j] ds)).run M s0 DD) (E := fun x => ∀ we' ws', Rl M s0 fe we' ws' → DD.ex x we' ws') ?_ (fun ds q ds' ws' h' pd hl _ _ => ?_) fun x k ws' h' => k we ws' h')
  · unfold fPars at q
    cases e : fAll fs fe with
    | ok ds => rw [e] at q; exact q
    | ex x => rw [e] at q; exact q
    | no => rw [e] at q; exact q
  · match ds', hl with
    | [x, y], _ => exact q _ ws' (pd_set pd h')
theorem as_par3 {i j l : Nat} {fs : List FX} {r : Arg} (h : ACs M [i, j, l] fs r) : AS M (fPars [i, j, l] fs) (dPar3 i j l r) := fun s0 fe we ws hr DD q => by
  refine acs_run h ws hr _ _ (run_mono (r := fAll fs fe) (R := fun ds => (Out.nx (dsets fe [i, j, l] ds)).run M s0 DD) (E := fun x => ∀ we' ws', Rl M s0 fe we' ws' → DD.ex x we' ws') ?_ (fun ds q ds' ws' h' pd hl _ _ => ?_) fun x k ws' h' => k we ws' h')
  · unfold fPars at q
    cases e : fAll fs fe with
    | ok ds => rw [e] at q; exact q
    | ex x => rw [e] at q; exact q
    | no => rw [e] at q; exact q
  · match ds', hl with
    | [x, y, z], _ => exact q _ ws' (pd_set pd h')
def gnames : List Nat → DGs
  | [] => gdNil
  | i :: is => gdCons (gdName i) (gnames is)
theorem gnames_run : ∀ (is : List Nat) (ds : List D) (e : DEnv) (s : S) (R : DEnv → S → Prop), ds.length = is.length → R (dsets e is ds) s → gnames is ds e s R
  | [], [], _, _, _, _, q => ⟨rfl, q⟩
  | [], _ :: _, _, _, _, h, _ => by cases h
  | _ :: _, [], _, _, _, h, _ => by cases h
  | i :: is, d :: ds, e, s, R, h, q => gnames_run is ds (dset e i (some d)) s R (Nat.succ.inj h) q
theorem as_asgs {is : List Nat} {fs : List FX} {r : Arg} (h : ACs M is fs r) {n : Nat} {wg : DGs} (hn : n = is.length := by rfl) (hg : wg = gnames is := by rfl) (hs : is.length ≤ 100 := by decide) : AS M (fPars is fs) (dAsg (dTup r) (gdTup n wg)) := fun s0 fe we ws hr DD q => by
  subst hn hg
  refine acs_run h ws hr _ _ (run_mono (r := fAll fs fe) (R := fun ds => (Out.nx (dsets fe is ds)).run M s0 DD) (E := fun x => ∀ we' ws', Rl M s0 fe we' ws' → DD.ex x we' ws') ?_ (fun ds q ds' ws' h' pd hl _ _ => ?_) fun x k ws' h' => k we ws' h')
  · unfold fPars at q
    cases e : fAll fs fe with
    | ok ds => rw [e] at q; exact q
    | ex x => rw [e] at q; exact q
    | no => rw [e] at q; exact q
  · exact ⟨sz _ (by omega), hl, gnames_run is ds' we ws' _ hl (q _ ws' (pd_set pd h'))⟩
end
/-! ### defs -/
theorem start_nth {N : List Str} : ∀ {ds : List D} {i : Nat}, ds.length ≤ i → nth (dstart N ds) i = none := by
  have rp : ∀ k i : Nat, nth (List.replicate k (none : Option D)) i = none := by
    intro k
    induction k with
    | zero => intro i; rfl
    | succ k ih =>
      intro i
      cases i with
      | zero => rfl
      | succ i => exact ih i
  have go : ∀ (ds : List D) (k i : Nat), ds.length ≤ i → nth (ds.map some ++ List.replicate k (none : Option D)) i = none := by
    intro ds
    induction ds with
    | nil => intro k i _; exact rp k i
    | cons d ds ih =>
      intro k i h
      cases i with
      | zero => cases h
      | succ i => exact ih k i (Nat.le_of_succ_le_succ h)
  exact fun {ds i} h => go ds _ i h
/-- THE RULE: what is computed is what is promised -/
theorem r_fn {M : List Nat} {f : FS} {w : DTS} {N : List Str} {n : Nat} (h : AS M f w) (hM : ∀ i ∈ M, n ≤ i := by decide) : ∀ ds s R E, ds.length = n → pF (fun ds => (f (dstart N ds)).fn) ds s R E → w (fnEnds R E) (dstart N ds) s := fun ds s R E hl q => by
  refine h s (dstart N ds) (dstart N ds) s ⟨rfl, Sub.refl s, fun _ _ _ z => z, fun i d hi e => ?_, fun i j p hi _ _ e => ?_⟩ _ ?_
  · rw [start_nth (by rw [hl]; exact hM i hi)] at e; cases e
  · exact (e (start_nth (by rw [hl]; exact hM i hi))).elim
  · replace q : ((f (dstart N ds)).fn).run (fun d => R d s) (fun x => E x s) := q
    cases e : f (dstart N ds) with
    | nx e' => rw [e] at q; exact fun we ws r => ⟨s, r.sub, q⟩
    | rt d => rw [e] at q; exact fun ws r => ⟨s, r, q⟩
    | bk e' => rw [e] at q; exact q.elim
    | ct e' => rw [e] at q; exact q.elim
    | ex x e' => rw [e] at q; exact fun we ws r => ⟨s, r.sub, q⟩
    | no => rw [e] at q; exact q
/-- at a use: what it computes is known -/
theorem use_fn {f : FF} {ds : List D} {d : D} {s : S} {R : Q1} {E : XQ} (h : f ds = .ok d) (k : R d s) : pF f ds s R E := by
  unfold pF; rw [h]; exact k
theorem use_fx {f : FF} {ds : List D} {x : Ex} {s : S} {R : Q1} {E : XQ} (h : f ds = .ex x) (k : E x s) : pF f ds s R E := by
  unfold pF; rw [h]; exact k
section
variable {e : DEnv} {d : D} {xs ds : List D} {kvs : List (Key × D)} {key : Key} {k : List D → Out} {kk : List (Key × D) → Out} {f : Key → Out} {i : Nat} {is : List Nat} {a b : FX} {r : List FX} {rr : List (FX × FX)} {neg : Bool} {h : DEnv → DEnv} {x : Ex}
@[simp] theorem atL_some : atL (some (.lst xs)) k = k xs := rfl
@[simp] theorem atK_some : atK (some (.dic kvs)) kk = kk kvs := rfl
@[simp] theorem optK_some : optK (some key) f = f key := rfl
@[simp] theorem getF_some : getF (.dic kvs) (some key) = Rs.opt (dval kvs key) := rfl
@[simp] theorem inKF_some : inKF neg (.dic kvs) (some key) = .ok (.bl (if neg then !(dval kvs key).isSome else (dval kvs key).isSome)) := rfl
@[simp] theorem asK_dic {k : List (Key × D) → Rs D} : asK (.dic kvs) k = k kvs := rfl
@[simp] theorem asL_lst : asL (.lst xs) = .ok (.lst xs) := rfl
@[simp] theorem gMade_lst : gMade (.lst xs) = some (.lst xs) := rfl
@[simp] theorem keyD_int (i : Int) : keyD (.int i) = some (.inl i) := rfl
@[simp] theorem keyD_str (x : Str) : keyD (.str x) = some (.inr x) := rfl
@[simp] theorem dsets_nil : dsets e [] ds = e := by cases ds <;> rfl
@[simp] theorem dsets_cons : dsets e (i :: is) (d :: ds) = dsets (dset e i (some d)) is ds := rfl
@[simp] theorem fAll_nil : fAll [] e = .ok [] := rfl
@[simp] theorem fAll_cons : fAll (a :: r) e = (a e).bind fun d => (fAll r e).bind fun ds => .ok (d :: ds) := rfl
@[simp] theorem fPairs_nil : fPairs [] e = .ok [] := rfl
@[simp] theorem fPairs_cons : fPairs ((a, b) :: rr) e = (a e).bind fun x => (b e).bind fun y => (fPairs rr e).bind fun ps => .ok ((x, y) :: ps) := rfl
@[simp] theorem mapE_nx : (Out.nx e).mapE h = .nx (h e) := rfl
@[simp] theorem mapE_rt : (Out.rt d).mapE h = .rt d := rfl
@[simp] theorem mapE_ex : (Out.ex x e).mapE h = .ex x (h e) := rfl
@[simp] theorem mapE_no : Out.no.mapE h = .no := rfl
@[simp] theorem mapE_ite {p : Prop} [Decidable p] {a b : Out} : (if p then a else b).mapE h = if p then a.mapE h else b.mapE h := by split <;> rfl
@[simp] theorem nth_zero {x : Option D} : nth (x :: e) 0 = x := rfl
@[simp] theorem nth_succ {x : Option D} {n : Nat} : nth (x :: e) (n + 1) = nth e n := rfl
@[simp] theorem dset_zero {x y : Option D} : dset (x :: e) 0 y = y :: e := rfl
@[simp] theorem dset_succ {x y : Option D} {n : Nat} : dset (x :: e) (n + 1) y = x :: dset e n y := rfl
@[simp] theorem dwipe_nil : dwipe e [] = e := rfl
@[simp] theorem dwipe_cons {vs : List Nat} : dwipe e (i :: vs) = dset (dwipe e vs) i none := rfl
end
@[simp] theorem dstart_eq (N : List Str) (ds : List D) : dstart N ds = ds.map some ++ List.replicate (N.length - ds.length) none := rfl
end Bk

/-! Bk: comprehensions of two and three clauses, len(set(..)). -/
namespace Bk
open PySem PySem.Spec PyProof.Rows L2
def dComp3 (g : DG) (t : Tst) (fi : Arg) (g1 : DG) (t1 : Tst) (fi2 : Arg) (g2 : DG) (t2 : Tst) (f : Exp) (e0 : DEnv) (vs1 vs2 : List Nat) (R : List D → S → Prop) : List D → List D → S → Prop
  | [], acc, s => R acc s
  | d :: ds, acc, s => g d e0 s (fun e1 s1 => t e1 s1 (fun b s2 => if b = true then fi e1 s2 (fun its s3 => dComp2 g1 t1 fi2 g2 t2 f (dwipe e1 vs1) vs2 (dComp3 g t fi g1 t1 fi2 g2 t2 f e0 vs1 vs2 R ds) its acc s3) (fun _ _ => False) else dComp3 g t fi g1 t1 fi2 g2 t2 f e0 vs1 vs2 R ds acc s2) (fun _ _ => False))
def dLc3 (f0 : Arg) (g : DG) (t : Tst) (fi : Arg) (g1 : DG) (t1 : Tst) (fi2 : Arg) (g2 : DG) (t2 : Tst) (f : Exp) (vs vs1 vs2 : List Nat) : Exp := fun e s R E => f0 e s (fun ds s1 => dComp3 g t fi g1 t1 fi2 g2 t2 f (dwipe e vs) vs1 vs2 (fun ys s2 => R (.lst ys) s2) ds [] s1) E
/-- what one turn of an outer clause gives -/
def fRow (g : FG) (t : FT) (i : FA) (inner : DEnv → D → Rs (List D)) (vs1 : List Nat) (cat : (D → Rs (List D)) → List D → Rs (List D)) (e0 : DEnv) (d : D) : Rs (List D) := match g d e0 with
  | none => .no
  | some e1 => match t e1 with
    | .ok true => match i e1 with
      | .ok its => (cat (inner (dwipe e1 vs1)) its).calm
      | _ => .no
    | .ok false => .ok []
    | _ => .no
def fCat (row : D → Rs (List D)) : List D → Rs (List D)
  | [] => .ok []
  | d :: ds => (row d).bind fun o => (fCat row ds).bind fun ys => .ok (o ++ ys)
/-- one turn of the innermost clause -/
def fEl1 (g : FG) (t : FT) (a : FX) (e0 : DEnv) (d : D) : Rs (List D) := (fElem g t a e0 d).bind fun o => .ok o.toList
@[simp] def fLc2 (i : FA) (g : FG) (t : FT) (i1 : FA) (g1 : FG) (t1 : FT) (a : FX) (vs vs1 : List Nat) (e : DEnv) : Rs D := (i e).bind fun ds => (fCat (fRow g t i1 (fEl1 g1 t1 a) vs1 fCat (dwipe e vs)) ds).calm.bind fun ys => if ys.length ≤ sizeLine then .ok (.lst ys) else .no
@[simp] def fLc3 (i : FA) (g : FG) (t : FT) (i1 : FA) (g1 : FG) (t1 : FT) (i2 : FA) (g2 : FG) (t2 : FT) (a : FX) (vs vs1 vs2 : List Nat) (e : DEnv) : Rs D := (i e).bind fun ds => (fCat (fRow g t i1 (fRow g1 t1 i2 (fEl1 g2 t2 a) vs2 fCat) vs1 fCat (dwipe e vs)) ds).calm.bind fun ys => if ys.length ≤ sizeLine then .ok (.lst ys) else .no
section
variable {M : List Nat} {a b c : FX} {wa wb wc : Exp} {t t1 t2 : FT} {wt wt1 wt2 : Tst} {s0 ws : S} {fe we : DEnv} {g g1 g2 : FG} {wg wg1 wg2 : DG} {i i1 i2 : FA} {wi wi1 wi2 : Arg} {vs vs1 vs2 : List Nat}
theorem cat_cons {row : D → Rs (List D)} {d : D} {ds ys : List D} (h : fCat row (d :: ds) = .ok ys) : ∃ o zs, row d = .ok o ∧ fCat row ds = .ok zs ∧ ys = o ++ zs := by
  rw [fCat] at h
  cases h1 : row d with
  | no => rw [h1] at h; cases h
  | ex x => rw [h1] at h; cases h
  | ok o =>
    rw [h1] at h
    cases h2 : fCat row ds with
    | no => rw [h2] at h; cases h
    | ex x => rw [h2] at h; cases h
    | ok zs => rw [h2] at h; cases h; exact ⟨o, zs, rfl, rfl, rfl⟩
theorem elem_ok {d : D} {o : Option D} (h : fElem g t a fe d = .ok o) : ∃ e1 b, g d fe = some e1 ∧ t e1 = .ok b ∧ ((b = true ∧ ∃ y, a e1 = .ok y ∧ o = some y) ∨ (b = false ∧ o = none)) := by
  unfold fElem at h
  split at h
  · cases h
  · rename_i e1 h1
    split at h
    · rename_i h2
      split at h
      · rename_i y h3
        cases h
        exact ⟨e1, true, h1, h2, .inl ⟨rfl, y, h3, rfl⟩⟩
      · cases h
    · rename_i h2
      cases h
      exact ⟨e1, false, h1, h2, .inr ⟨rfl, rfl⟩⟩
    · cases h
theorem row_ok {inner : DEnv → D → Rs (List D)} {cat : (D → Rs (List D)) → List D → Rs (List D)} {d : D} {o : List D} (h : fRow g t i inner vs1 cat fe d = .ok o) : ∃ e1 b, g d fe = some e1 ∧ t e1 = .ok b ∧ ((b = true ∧ ∃ its, i e1 = .ok its ∧ cat (inner (dwipe e1 vs1)) its = .ok o) ∨ (b = false ∧ o = [])) := by
  unfold fRow at h
  split at h
  · cases h
  · rename_i e1 h1
    split at h
    · rename_i h2
      split at h
      · rename_i its h3
        cases h4 : cat (inner (dwipe e1 vs1)) its with
        | no => rw [h4] at h; cases h
        | ex x => rw [h4] at h; cases h
        | ok z => rw [h4] at h; cases h; exact ⟨e1, true, h1, h2, .inl ⟨rfl, its, h3, h4⟩⟩
      · cases h
    · rename_i h2
      cases h
      exact ⟨e1, false, h1, h2, .inr ⟨rfl, rfl⟩⟩
    · cases h
theorem compG_go (h : Rl M s0 fe we ws) (hg : AG M g wg) (ht : AT M t wt) (ha : AX M a wa) : ∀ (ds acc ys : List D) (R : List D → S → Prop), fCat (fEl1 g t a fe) ds = .ok ys → acc.length + ys.length ≤ sizeLine → R (acc ++ ys) ws → dCompG wg wt wa we R ds acc ws
  | [], acc, ys, R, e, hl, q => by
    cases e
    rw [List.append_nil] at q; exact q
  | d :: ds, acc, ys, R, e, hl, q => by
    obtain ⟨o, zs, h1, h2, rfl⟩ := cat_cons e
    rw [List.length_append] at hl
    unfold fEl1 at h1
    cases h3 : fElem g t a fe d with
    | no => rw [h3] at h1; cases h1
    | ex x => rw [h3] at h1; cases h1
    | ok o1 =>
      rw [h3] at h1
      cases h1
      obtain ⟨e1, b, k1, k2, k3⟩ := elem_ok h3
      refine hg s0 fe we ws h d e1 k1 _ fun we1 r1 => ht s0 e1 we1 ws r1 _ _ ?_
      rw [k2]
      rcases k3 with ⟨rfl, y, k4, rfl⟩ | ⟨rfl, rfl⟩
      · simp only [run_ok, if_true]
        refine ha s0 e1 we1 ws r1 _ _ ?_
        rw [k4]
        have hl2 : (Option.some y).toList.length = 1 := rfl
        refine ⟨by omega, compG_go h hg ht ha ds (acc ++ [y]) zs R h2 (by rw [List.length_append]; simp only [List.length_cons, List.length_nil]; omega) (by rw [List.append_assoc]; exact q)⟩
      · simp only [run_ok]
        rw [if_neg (by decide)]
        have hl2 : (Option.none : Option D).toList.length = 0 := rfl
        exact compG_go h hg ht ha ds acc zs R h2 (by omega) q
theorem comp2_go (h : Rl M s0 fe we ws) (hg : AG M g wg) (ht : AT M t wt) (hi : AW M i wi) (hg1 : AG M g1 wg1) (ht1 : AT M t1 wt1) (ha : AX M a wa) : ∀ (ds acc ys : List D) (R : List D → S → Prop), fCat (fRow g t i (fEl1 g1 t1 a) vs1 fCat fe) ds = .ok ys → acc.length + ys.length ≤ sizeLine → R (acc ++ ys) ws → dComp2 wg wt wi wg1 wt1 wa we vs1 R ds acc ws
  | [], acc, ys, R, e, hl, q => by
    cases e
    rw [List.append_nil] at q; exact q
  | d :: ds, acc, ys, R, e, hl, q => by
    obtain ⟨o, zs, h1, h2, rfl⟩ := cat_cons e
    rw [List.length_append] at hl
    obtain ⟨e1, b, k1, k2, k3⟩ := row_ok h1
    refine hg s0 fe we ws h d e1 k1 _ fun we1 r1 => ht s0 e1 we1 ws r1 _ _ ?_
    rw [k2]
    rcases k3 with ⟨rfl, its, k4, k5⟩ | ⟨rfl, rfl⟩
    · simp only [run_ok, if_true]
      refine hi s0 e1 we1 ws r1 _ _ ?_
      rw [k4]
      exact fun _ => compG_go (r1.wipes vs1) hg1 ht1 ha its acc o _ k5 (by omega) (comp2_go h hg ht hi hg1 ht1 ha ds (acc ++ o) zs R h2 (by rw [List.length_append]; omega) (by rw [List.append_assoc]; exact q))
    · simp only [run_ok]
      rw [if_neg (by decide)]
      exact comp2_go h hg ht hi hg1 ht1 ha ds acc zs R h2 (by omega) q
theorem comp3_go (h : Rl M s0 fe we ws) (hg : AG M g wg) (ht : AT M t wt) (hi : AW M i wi) (hg1 : AG M g1 wg1) (ht1 : AT M t1 wt1) (hi1 : AW M i1 wi1) (hg2 : AG M g2 wg2) (ht2 : AT M t2 wt2) (ha : AX M a wa) : ∀ (ds acc ys : List D) (R : List D → S → Prop), fCat (fRow g t i (fRow g1 t1 i1 (fEl1 g2 t2 a) vs2 fCat) vs1 fCat fe) ds = .ok ys → acc.length + ys.length ≤ sizeLine → R (acc ++ ys) ws → dComp3 wg wt wi wg1 wt1 wi1 wg2 wt2 wa we vs1 vs2 R ds acc ws
  | [], acc, ys, R, e, hl, q => by
    cases e
    rw [List.append_nil] at q; exact q
  | d :: ds, acc, ys, R, e, hl, q => by
    obtain ⟨o, zs, h1, h2, rfl⟩ := cat_cons e
    rw [List.length_append] at hl
    obtain ⟨e1, b, k1, k2, k3⟩ := row_ok h1
    refine hg s0 fe we ws h d e1 k1 _ fun we1 r1 => ht s0 e1 we1 ws r1 _ _ ?_
    rw [k2]
    rcases k3 with ⟨rfl, its, k4, k5⟩ | ⟨rfl, rfl⟩
    · simp only [run_ok, if_true]
      refine hi s0 e1 we1 ws r1 _ _ ?_
      rw [k4]
      exact fun _ => comp2_go (r1.wipes vs1) hg1 ht1 hi1 hg2 ht2 ha its acc o _ k5 (by omega) (comp3_go h hg ht hi hg1 ht1 hi1 hg2 ht2 ha ds (acc ++ o) zs R h2 (by rw [List.length_append]; omega) (by rw [List.append_assoc]; exact q))
    · simp only [run_ok]
      rw [if_neg (by decide)]
      exact comp3_go h hg ht hi hg1 ht1 hi1 hg2 ht2 ha ds acc zs R h2 (by omega) q
theorem ax_lc2 (hi : AW M i wi) (hg : AG M g wg) (ht : AT M t wt) (hi1 : AW M i1 wi1) (hg1 : AG M g1 wg1) (ht1 : AT M t1 wt1) (ha : AX M a wa) : AX M (fLc2 i g t i1 g1 t1 a vs vs1) (dLc2 wi wg wt wi1 wg1 wt1 wa vs vs1) := fun s0 fe we ws h R E q => by
  refine hi s0 fe we ws h _ E (run_mono (run_bind.mp q) (fun ds q _ => ?_) fun _ k => k)
  obtain ⟨ys, e, q⟩ := run_calm (run_bind.mp q)
  split at q
  · rename_i hl
    exact comp2_go (h.wipes vs) hg ht hi1 hg1 ht1 ha ds [] ys _ e (by rw [List.length_nil]; omega) q
  · exact q.elim
theorem ax_lc3 (hi : AW M i wi) (hg : AG M g wg) (ht : AT M t wt) (hi1 : AW M i1 wi1) (hg1 : AG M g1 wg1) (ht1 : AT M t1 wt1) (hi2 : AW M i2 wi2) (hg2 : AG M g2 wg2) (ht2 : AT M t2 wt2) (ha : AX M a wa) : AX M (fLc3 i g t i1 g1 t1 i2 g2 t2 a vs vs1 vs2) (dLc3 wi wg wt wi1 wg1 wt1 wi2 wg2 wt2 wa vs vs1 vs2) := fun s0 fe we ws h R E q => by
  refine hi s0 fe we ws h _ E (run_mono (run_bind.mp q) (fun ds q _ => ?_) fun _ k => k)
  obtain ⟨ys, e, q⟩ := run_calm (run_bind.mp q)
  split at q
  · rename_i hl
    exact comp3_go (h.wipes vs) hg ht hi1 hg1 ht1 hi2 hg2 ht2 ha ds [] ys _ e (by rw [List.length_nil]; omega) q
  · exact q.elim
end
theorem fCat_map {α : Type} {row : D → Rs (List D)} (enc : α → D) (F : α → List D) {xs : List α} (h : ∀ x ∈ xs, row (enc x) = .ok (F x)) : fCat row (xs.map enc) = .ok (xs.flatMap F) := by
  induction xs with
  | nil => rfl
  | cons x xs ih => rw [List.map_cons, fCat, h x List.mem_cons_self, bind_ok, ih fun a ha => h a (List.mem_cons_of_mem _ ha)]; rfl
theorem fCat_all {row : D → Rs (List D)} (F : D → List D) {xs : List D} (h : ∀ x ∈ xs, row x = .ok (F x)) : fCat row xs = .ok (xs.flatMap F) := by
  have := fCat_map (row := row) (fun d : D => d) F (xs := xs) h
  rwa [List.map_id'] at this
/-! ### len(set(texts)) -/
def strsF : List D → Option (List Str)
  | [] => some []
  | .str x :: xs => (strsF xs).map (x :: ·)
  | _ :: _ => none
theorem strsF_texts : ∀ ns : List Str, strsF (texts ns) = some ns
  | [] => rfl
  | n :: ns => by
    show (strsF (texts ns)).map (n :: ·) = _
    rw [strsF_texts ns]; rfl
theorem strsF_some : ∀ {xs : List D} {ns : List Str}, strsF xs = some ns → xs = texts ns
  | [], ns, h => by cases h; rfl
  | x :: xs, ns, h => by
    cases x with
    | str z =>
      obtain ⟨ms, h1, h2⟩ := Option.map_eq_some_iff.mp (show (strsF xs).map (z :: ·) = some ns from h)
      subst h2
      rw [strsF_some h1]; rfl
    | _ => cases h
/-- each once, in the order in which they come first -/
def ddS (ns : List Str) : List Str := ns.foldl (fun acc x => if x ∈ acc then acc else acc ++ [x]) []
def dLenSet (f : Exp) : Exp := fun e s R E => f e s (fun d s1 => match d with
  | .lst xs => ∃ ns, strsF xs = some ns ∧ ns.length ≤ 1000 ∧ R (.int (ddS ns).length) s1
  | _ => False) E
def gLenSet : F1
  | .lst xs => (strsF xs).bind fun ns => if ns.length ≤ 1000 then some (.int (ddS ns).length) else none
  | _ => none
theorem ax_lenSet {M : List Nat} {a : FX} {wa : Exp} (ha : AX M a wa) : AX M (fB1 gLenSet a) (dLenSet wa) := fun s0 fe we ws h R E q => by
  refine ha s0 fe we ws h _ E (run_mono (run_bind.mp q) (fun x q => ?_) fun _ k => k)
  obtain ⟨d, e, q⟩ := run_opt q
  cases x <;> first | cases e | skip
  obtain ⟨ns, h1, h2⟩ := Option.bind_eq_some_iff.mp (show (strsF _).bind (fun ns => if ns.length ≤ 1000 then some (D.int (ddS ns).length) else none) = some d from e)
  split at h2
  · rename_i hl
    cases h2
    exact ⟨ns, h1, hl, q⟩
  · cases h2
theorem gLenSet_texts (ns : List Str) (h : ns.length ≤ 1000) : gLenSet (.lst (texts ns)) = some (.int (ddS ns).length) := by
  show (strsF (texts ns)).bind _ = _
  rw [strsF_texts]
  show (if ns.length ≤ 1000 then _ else _) = _
  rw [if_pos h]
theorem EAll.sub {K : PySem.W.Frag} {T : Tb} {kn kn' ms fs : List Str} (A : EAll K T kn ms fs) (h : ∀ x ∈ kn', x ∈ kn) : EAll K T kn' ms fs :=
  ⟨fun c hc => A.hold c (h c hc), fun c hc => A.kit c (h c hc), fun c hc => A.exm c (h c hc), fun c hc => A.nof c (h c hc)⟩
end Bk

/-! Pa: what the defs do with deep data. -/
namespace Bk.Pa
open PySem PySem.Spec PyProof.Rows L2
abbrev N_is_among : List Str := ["thing", "least", "most"]
/-- is_among: 0 thing 1 least 2 most -/
def t_is_among : DTS := (dRet (dAndV (dBlt cIsi (dCons (dVar 0) (dCons (dC (.rf (.ty "int"))) dNil))) (dAndV (dNotV (dBlt cIsi (dCons (dVar 0) (dCons (dC (.rf (.ty "bool"))) dNil)))) (dChain oLe oLe (dVar 1) (dVar 0) (dVar 2)))))
def fb_is_among : FS := (fRet (fAndV (fB1 (gIsi "int") (fVar 0)) (fAndV (fNotV (fB1 (gIsi "bool") (fVar 0))) (fChain gLe gLe (fVar 1) (fVar 0) (fVar 2)))))
def f_is_among : FF := fun ds => (fb_is_among (dstart N_is_among ds)).fn
abbrev p_is_among : Fn := pF f_is_among
theorem r_is_among : ∀ ds s R E, ds.length = 3 → p_is_among ds s R E → t_is_among (fnEnds R E) (dstart N_is_among ds) s := r_fn (f := fb_is_among) (M := []) (as_ret (ax_and (ax_isi "int" (ax_var 0)) (ax_and (ax_not (ax_isi "bool" (ax_var 0))) (ax_chain (o_int _) (o_int _) (ax_var 1) (ax_var 0) (ax_var 2)))))
abbrev N_is_name : List Str := ["thing", "letter"]
/-- is_name: 0 thing 1 letter -/
def t_is_name : DTS := (dRet (dAndV (dBlt cIsi (dCons (dVar 0) (dCons (dC (.rf (.ty "str"))) dNil))) (dAndV (dChain oLe oLe (dC (.int 1)) (dBlt cLen (dCons (dVar 0) dNil)) (dC (.int 8))) (dBlt (cAll false) (dCons (dLc (dIter (dVar 0)) (gdName 1) dYes (dOp (oIn false) (dVar 1) (dC (.str "abcdefghijklmnopqrstuvwxyz"))) [1]) dNil)))))
def fb_is_name : FS := (fRet (fAndV (fB1 (gIsi "str") (fVar 0)) (fAndV (fChain gLe gLe (fC (.int 1)) (fB1 gLen (fVar 0)) (fC (.int 8))) (fB1 (gAll false) (fLc (fIter (fVar 0)) (fgName 1) fYes (fOp (gIn false) (fVar 1) (fC (.str "abcdefghijklmnopqrstuvwxyz"))) [1])))))
def f_is_name : FF := fun ds => (fb_is_name (dstart N_is_name ds)).fn
abbrev p_is_name : Fn := pF f_is_name
theorem r_is_name : ∀ ds s R E, ds.length = 1 → p_is_name ds s R E → t_is_name (fnEnds R E) (dstart N_is_name ds) s := r_fn (f := fb_is_name) (M := []) (as_ret (ax_and (ax_isi "str" (ax_var 0)) (ax_and (ax_chain (o_int _) (o_int _) (ax_c _) (ax_b1 b_len (av_of (ax_var 0))) (ax_c _)) (ax_b1x (x_all _) (ax_lc (aw_iter (ax_var 0)) (ag_name 1) at_yes (ax_op (o_in _) (ax_var 1) (ax_c _)))))))
abbrev N_is_row : List Str := ["thing", "most"]
/-- is_row: 0 thing 1 most -/
def t_is_row : DTS := (dRet (dAndV (dBlt cIsi (dCons (dVar 0) (dCons (dC (.rf (.ty "tuple"))) dNil))) (dOp oLe (dBlt cLen (dCons (dVar 0) dNil)) (dVar 1))))
def fb_is_row : FS := (fRet (fAndV (fB1 (gIsi "tuple") (fVar 0)) (fOp gLe (fB1 gLen (fVar 0)) (fVar 1))))
def f_is_row : FF := fun ds => (fb_is_row (dstart N_is_row ds)).fn
abbrev p_is_row : Fn := pF f_is_row
theorem r_is_row : ∀ ds s R E, ds.length = 2 → p_is_row ds s R E → t_is_row (fnEnds R E) (dstart N_is_row ds) s := r_fn (f := fb_is_row) (M := []) (as_ret (ax_and (ax_isi "tuple" (ax_var 0)) (ax_op (o_int _) (ax_b1 b_len (av_of (ax_var 0))) (ax_var 1))))
abbrev N_names_of : List Str := ["cells", "cell"]
/-- names_of: 0 cells 1 cell -/
def t_names_of : DTS := (dRet (dLc (dIter (dVar 0)) (gdName 1) dYes (dOp oIx (dVar 1) (dC (.int 0))) [1]))
def fb_names_of : FS := (fRet (fLc (fIter (fVar 0)) (fgName 1) fYes (fOp gIx (fVar 1) (fC (.int 0))) [1]))
def f_names_of : FF := fun ds => (fb_names_of (dstart N_names_of ds)).fn
abbrev p_names_of : Fn := pF f_names_of
theorem r_names_of : ∀ ds s R E, ds.length = 1 → p_names_of ds s R E → t_names_of (fnEnds R E) (dstart N_names_of ds) s := r_fn (f := fb_names_of) (M := []) (as_ret (ax_lc (aw_iter (ax_var 0)) (ag_name 1) at_yes (ax_opV o_ix (av_of (ax_var 1)) (av_of (ax_c _)))))
abbrev N_are_in_order : List Str := ["cells", "thing", "name"]
/-- are_in_order: 0 cells 1 thing 2 name -/
def t_are_in_order : DTS := (dSeq (dIfS (dOr (dNot (dTst (dCall 2 p_is_row (dCons (dVar 1) (dCons (dC (.int 4)) dNil))))) (dNot (dTst (dBlt (cAll false) (dCons (dLc (dIter (dVar 1)) (gdName 2) dYes (dCall 1 p_is_name (dCons (dVar 2) dNil)) [2]) dNil))))) (dRet (dC (.bl false))) dNext)
  (dRet (dOp oEq (dLc (dIter (dCall 1 p_names_of (dCons (dVar 0) dNil))) (gdName 2) (dTst (dOp (oIn false) (dVar 2) (dVar 1))) (dVar 2) [2]) (dBlt cList (dCons (dVar 1) dNil)))))
def fb_are_in_order : FS := (fSeq (fIfS (fOr (fNot (fTst (fCall f_is_row (fCons (fVar 1) (fCons (fC (.int 4)) fNil))))) (fNot (fTst (fB1 (gAll false) (fLc (fIter (fVar 1)) (fgName 2) fYes (fCall f_is_name (fCons (fVar 2) fNil)) [2]))))) (fRet (fC (.bl false))) fNext)
  (fRet (fOp gEq (fLc (fIter (fCall f_names_of (fCons (fVar 0) fNil))) (fgName 2) (fTst (fOp (gIn false) (fVar 2) (fVar 1))) (fVar 2) [2]) (fB1 gList (fVar 1)))))
def f_are_in_order : FF := fun ds => (fb_are_in_order (dstart N_are_in_order ds)).fn
abbrev p_are_in_order : Fn := pF f_are_in_order
theorem r_are_in_order : ∀ ds s R E, ds.length = 2 → p_are_in_order ds s R E → t_are_in_order (fnEnds R E) (dstart N_are_in_order ds) s := r_fn (f := fb_are_in_order) (M := []) (as_seq (as_if (at_or (at_not (at_tst (ax_call (aa_cons (ax_var 1) (aa_cons (ax_c _) aa_nil))))) (at_not (at_tst (ax_b1x (x_all _) (ax_lc (aw_iter (ax_var 1)) (ag_name 2) at_yes (ax_call (aa_cons (ax_var 2) aa_nil))))))) (as_ret (ax_c _)) as_next)
  (as_ret (ax_op o_eq (ax_lc (aw_iter (ax_call (aa_cons (ax_var 0) aa_nil))) (ag_name 2) (at_tst (ax_op (o_in _) (ax_var 2) (ax_var 1))) (ax_var 2)) (ax_b1 b_list (av_of (ax_var 1))))))
abbrev N_are_terms : List Str := ["cells", "thing", "term"]
/-- are_terms: 0 cells 1 thing 2 term -/
def t_are_terms : DTS := (dSeq (dIfS (dNot (dTst (dCall 2 p_is_row (dCons (dVar 1) (dCons (dC (.int 4)) dNil))))) (dRet (dC (.bl false))) dNext)
  (dSeq (dFor (dIter (dVar 1)) (gdName 2) (dSeq (dIfS (dOr (dNot (dTst (dCall 2 p_is_row (dCons (dVar 2) (dCons (dC (.int 2)) dNil))))) (dTst (dOp oNe (dBlt cLen (dCons (dVar 2) dNil)) (dC (.int 2))))) (dRet (dC (.bl false))) dNext)
  (dIfS (dOr (dNot (dTst (dCall 3 p_is_among (dCons (dOp oIx (dVar 2) (dC (.int 0))) (dCons (dOp oSub (dC (.int 0)) (dC (.int 9))) (dCons (dC (.int 9)) dNil)))))) (dTst (dOp oEq (dOp oIx (dVar 2) (dC (.int 0))) (dC (.int 0))))) (dRet (dC (.bl false))) dNext)))
  (dRet (dCall 2 p_are_in_order (dCons (dVar 0) (dCons (dBlt cTuple (dCons (dLc (dIter (dVar 1)) (gdName 2) dYes (dOp oIx (dVar 2) (dC (.int 1))) [2]) dNil)) dNil))))))
def fb_are_terms : FS := (fSeq (fIfS (fNot (fTst (fCall f_is_row (fCons (fVar 1) (fCons (fC (.int 4)) fNil))))) (fRet (fC (.bl false))) fNext)
  (fSeq (fFor (fIter (fVar 1)) (fgName 2) (fSeq (fIfS (fOr (fNot (fTst (fCall f_is_row (fCons (fVar 2) (fCons (fC (.int 2)) fNil))))) (fTst (fOp gNe (fB1 gLen (fVar 2)) (fC (.int 2))))) (fRet (fC (.bl false))) fNext)
  (fIfS (fOr (fNot (fTst (fCall f_is_among (fCons (fOp gIx (fVar 2) (fC (.int 0))) (fCons (fOp gSub (fC (.int 0)) (fC (.int 9))) (fCons (fC (.int 9)) fNil)))))) (fTst (fOp gEq (fOp gIx (fVar 2) (fC (.int 0))) (fC (.int 0))))) (fRet (fC (.bl false))) fNext)) [2])
  (fRet (fCall f_are_in_order (fCons (fVar 0) (fCons (fB1 gTuple (fLc (fIter (fVar 1)) (fgName 2) fYes (fOp gIx (fVar 2) (fC (.int 1))) [2])) fNil))))))
def f_are_terms : FF := fun ds => (fb_are_terms (dstart N_are_terms ds)).fn
abbrev p_are_terms : Fn := pF f_are_terms
theorem r_are_terms : ∀ ds s R E, ds.length = 2 → p_are_terms ds s R E → t_are_terms (fnEnds R E) (dstart N_are_terms ds) s := r_fn (f := fb_are_terms) (M := []) (as_seq (as_if (at_not (at_tst (ax_call (aa_cons (ax_var 1) (aa_cons (ax_c _) aa_nil))))) (as_ret (ax_c _)) as_next)
  (as_seq (as_for (W := [2]) (aw_iter (ax_var 1)) (ag_name 2) (as_seq (as_if (at_or (at_not (at_tst (ax_call (aa_cons (ax_var 2) (aa_cons (ax_c _) aa_nil))))) (at_tst (ax_op o_ne (ax_b1 b_len (av_of (ax_var 2))) (ax_c _)))) (as_ret (ax_c _)) as_next)
  (as_if (at_or (at_not (at_tst (ax_call (aa_cons (ax_opV o_ix (av_of (ax_var 2)) (av_of (ax_c _))) (aa_cons (ax_op (o_int _) (ax_c _) (ax_c _)) (aa_cons (ax_c _) aa_nil)))))) (at_tst (ax_op o_eq (ax_opV o_ix (av_of (ax_var 2)) (av_of (ax_c _))) (ax_c _)))) (as_ret (ax_c _)) as_next)))
  (as_ret (ax_call (aa_cons (ax_var 0) (aa_cons (ax_b1 b_tuple (av_of (ax_lc (aw_iter (ax_var 1)) (ag_name 2) at_yes (ax_opV o_ix (av_of (ax_var 2)) (av_of (ax_c _)))))) aa_nil))))))
abbrev N_is_test : List Str := ["cells", "thing"]
/-- is_test: 0 cells 1 thing -/
def t_is_test : DTS := (dSeq (dIfS (dOr (dNot (dTst (dCall 2 p_is_row (dCons (dVar 1) (dCons (dC (.int 3)) dNil))))) (dOr (dTst (dOp oNe (dBlt cLen (dCons (dVar 1) dNil)) (dC (.int 3)))) (dNot (dTst (dCall 2 p_are_terms (dCons (dVar 0) (dCons (dOp oIx (dVar 1) (dC (.int 0))) dNil))))))) (dRet (dC (.bl false))) dNext)
  (dRet (dAndV (dBlt cIsi (dCons (dOp oIx (dVar 1) (dC (.int 1))) (dCons (dC (.rf (.ty "str"))) dNil))) (dAndV (dOp (oIn false) (dOp oIx (dVar 1) (dC (.int 1))) (dC (.tup [(.str "="), (.str "!="), (.str "<"), (.str "<="), (.str ">"), (.str ">=")]))) (dCall 3 p_is_among (dCons (dOp oIx (dVar 1) (dC (.int 2))) (dCons (dOp oSub (dC (.int 0)) (dC (.int 99))) (dCons (dC (.int 99)) dNil))))))))
def fb_is_test : FS := (fSeq (fIfS (fOr (fNot (fTst (fCall f_is_row (fCons (fVar 1) (fCons (fC (.int 3)) fNil))))) (fOr (fTst (fOp gNe (fB1 gLen (fVar 1)) (fC (.int 3)))) (fNot (fTst (fCall f_are_terms (fCons (fVar 0) (fCons (fOp gIx (fVar 1) (fC (.int 0))) fNil))))))) (fRet (fC (.bl false))) fNext)
  (fRet (fAndV (fB1 (gIsi "str") (fOp gIx (fVar 1) (fC (.int 1)))) (fAndV (fOp (gIn false) (fOp gIx (fVar 1) (fC (.int 1))) (fC (.tup [(.str "="), (.str "!="), (.str "<"), (.str "<="), (.str ">"), (.str ">=")]))) (fCall f_is_among (fCons (fOp gIx (fVar 1) (fC (.int 2))) (fCons (fOp gSub (fC (.int 0)) (fC (.int 99))) (fCons (fC (.int 99)) fNil))))))))
def f_is_test : FF := fun ds => (fb_is_test (dstart N_is_test ds)).fn
abbrev p_is_test : Fn := pF f_is_test
theorem r_is_test : ∀ ds s R E, ds.length = 2 → p_is_test ds s R E → t_is_test (fnEnds R E) (dstart N_is_test ds) s := r_fn (f := fb_is_test) (M := []) (as_seq (as_if (at_or (at_not (at_tst (ax_call (aa_cons (ax_var 1) (aa_cons (ax_c _) aa_nil))))) (at_or (at_tst (ax_op o_ne (ax_b1 b_len (av_of (ax_var 1))) (ax_c _))) (at_not (at_tst (ax_call (aa_cons (ax_var 0) (aa_cons (ax_opV o_ix (av_of (ax_var 1)) (av_of (ax_c _))) aa_nil))))))) (as_ret (ax_c _)) as_next)
  (as_ret (ax_and (ax_isi "str" (ax_opV o_ix (av_of (ax_var 1)) (av_of (ax_c _)))) (ax_and (ax_op (o_in _) (ax_opV o_ix (av_of (ax_var 1)) (av_of (ax_c _))) (ax_c _)) (ax_call (aa_cons (ax_opV o_ix (av_of (ax_var 1)) (av_of (ax_c _))) (aa_cons (ax_op (o_int _) (ax_c _) (ax_c _)) (aa_cons (ax_c _) aa_nil))))))))
abbrev N_need_formula : List Str := ["cells", "thing", "i", "case", "j", "test"]
/-- need_formula: 0 cells 1 thing 2 i 3 case 4 j 5 test -/
def t_need_formula : DTS := (dSeq (dIfS (dNot (dTst (dCall 2 p_is_row (dCons (dVar 1) (dCons (dC (.int 4)) dNil))))) (dRaise "BadFormula" "place" (dTup dNil)) dNext)
  (dSeq (dFor (dEnumT (dCons (dVar 1) dNil)) (gdTup 2 (gdCons (gdName 2) (gdCons (gdName 3) gdNil))) (dIfS (dNot (dTst (dCall 2 p_is_row (dCons (dVar 3) (dCons (dC (.int 4)) dNil))))) (dRaise "BadFormula" "place" (dTup (dCons (dVar 2) dNil))) dNext))
  (dSeq (dFor (dEnumT (dCons (dVar 1) dNil)) (gdTup 2 (gdCons (gdName 2) (gdCons (gdName 3) gdNil))) (dFor (dEnumT (dCons (dVar 3) dNil)) (gdTup 2 (gdCons (gdName 4) (gdCons (gdName 5) gdNil))) (dIfS (dNot (dTst (dCall 2 p_is_test (dCons (dVar 0) (dCons (dVar 5) dNil))))) (dRaise "BadFormula" "place" (dTup (dCons (dVar 2) (dCons (dVar 4) dNil)))) dNext)))
  (dRet (dVar 1)))))
def fb_need_formula : FS := (fSeq (fIfS (fNot (fTst (fCall f_is_row (fCons (fVar 1) (fCons (fC (.int 4)) fNil))))) (fRaise "BadFormula" "place" (fTup fNil)) fNext)
  (fSeq (fFor (fEnumT (fVar 1)) (fgTup 2 (fgCons (fgName 2) (fgCons (fgName 3) fgNil))) (fIfS (fNot (fTst (fCall f_is_row (fCons (fVar 3) (fCons (fC (.int 4)) fNil))))) (fRaise "BadFormula" "place" (fTup (fCons (fVar 2) fNil))) fNext) [3, 2])
  (fSeq (fFor (fEnumT (fVar 1)) (fgTup 2 (fgCons (fgName 2) (fgCons (fgName 3) fgNil))) (fFor (fEnumT (fVar 3)) (fgTup 2 (fgCons (fgName 4) (fgCons (fgName 5) fgNil))) (fIfS (fNot (fTst (fCall f_is_test (fCons (fVar 0) (fCons (fVar 5) fNil))))) (fRaise "BadFormula" "place" (fTup (fCons (fVar 2) (fCons (fVar 4) fNil)))) fNext) [4, 5]) [3, 2, 4, 5])
  (fRet (fVar 1)))))
def f_need_formula : FF := fun ds => (fb_need_formula (dstart N_need_formula ds)).fn
abbrev p_need_formula : Fn := pF f_need_formula
theorem r_need_formula : ∀ ds s R E, ds.length = 2 → p_need_formula ds s R E → t_need_formula (fnEnds R E) (dstart N_need_formula ds) s := r_fn (f := fb_need_formula) (M := []) (as_seq (as_if (at_not (at_tst (ax_call (aa_cons (ax_var 1) (aa_cons (ax_c _) aa_nil))))) (as_raise (ax_tup aa_nil)) as_next)
  (as_seq (as_for (W := [3, 2]) (aw_enumT (ax_var 1)) (ag_tup (ags_cons (ag_name 2) (ags_cons (ag_name 3) ags_nil))) (as_if (at_not (at_tst (ax_call (aa_cons (ax_var 3) (aa_cons (ax_c _) aa_nil))))) (as_raise (ax_tup (aa_cons (ax_var 2) aa_nil))) as_next))
  (as_seq (as_for (W := [3, 2, 4, 5]) (aw_enumT (ax_var 1)) (ag_tup (ags_cons (ag_name 2) (ags_cons (ag_name 3) ags_nil))) (as_for (W := [4, 5]) (aw_enumT (ax_var 3)) (ag_tup (ags_cons (ag_name 4) (ags_cons (ag_name 5) ags_nil))) (as_if (at_not (at_tst (ax_call (aa_cons (ax_var 0) (aa_cons (ax_var 5) aa_nil))))) (as_raise (ax_tup (aa_cons (ax_var 2) (aa_cons (ax_var 4) aa_nil)))) as_next)))
  (as_ret (ax_var 1)))))
abbrev N_are_parts : List Str := ["cells", "thing", "most", "part", "found", "name"]
/-- are_parts: 0 cells 1 thing 2 most 3 part 4 found 5 name -/
def t_are_parts : DTS := (dSeq (dIfS (dNot (dTst (dCall 2 p_is_row (dCons (dVar 1) (dCons (dVar 2) dNil))))) (dRet (dC (.bl false))) dNext)
  (dSeq (dFor (dIter (dVar 1)) (gdName 3) (dIfS (dOr (dTst (dOp oEqE (dVar 3) (dTup dNil))) (dNot (dTst (dCall 2 p_are_in_order (dCons (dVar 0) (dCons (dVar 3) dNil)))))) (dRet (dC (.bl false))) dNext))
  (dSeq (dSet 4 (dLc2 (dIter (dVar 1)) (gdName 3) dYes (dIter (dVar 3)) (gdName 5) dYes (dVar 5) [3, 5] [5]))
  (dRet (dOp oEq (dLenSet (dVar 4)) (dBlt cLen (dCons (dVar 4) dNil)))))))
def fb_are_parts : FS := (fSeq (fIfS (fNot (fTst (fCall f_is_row (fCons (fVar 1) (fCons (fVar 2) fNil))))) (fRet (fC (.bl false))) fNext)
  (fSeq (fFor (fIter (fVar 1)) (fgName 3) (fIfS (fOr (fTst (fOp gEqE (fVar 3) (fTup fNil))) (fNot (fTst (fCall f_are_in_order (fCons (fVar 0) (fCons (fVar 3) fNil)))))) (fRet (fC (.bl false))) fNext) [3])
  (fSeq (fSet 4 (fLc2 (fIter (fVar 1)) (fgName 3) fYes (fIter (fVar 3)) (fgName 5) fYes (fVar 5) [3, 5] [5]))
  (fRet (fOp gEq (fB1 gLenSet (fVar 4)) (fB1 gLen (fVar 4)))))))
def f_are_parts : FF := fun ds => (fb_are_parts (dstart N_are_parts ds)).fn
abbrev p_are_parts : Fn := pF f_are_parts
theorem r_are_parts : ∀ ds s R E, ds.length = 3 → p_are_parts ds s R E → t_are_parts (fnEnds R E) (dstart N_are_parts ds) s := r_fn (f := fb_are_parts) (M := []) (as_seq (as_if (at_not (at_tst (ax_call (aa_cons (ax_var 1) (aa_cons (ax_var 2) aa_nil))))) (as_ret (ax_c _)) as_next)
  (as_seq (as_for (W := [3]) (aw_iter (ax_var 1)) (ag_name 3) (as_if (at_or (at_tst (ax_op o_eqE (ax_var 3) (ax_tup aa_nil))) (at_not (at_tst (ax_call (aa_cons (ax_var 0) (aa_cons (ax_var 3) aa_nil)))))) (as_ret (ax_c _)) as_next))
  (as_seq (as_set 4 (ax_lc2 (aw_iter (ax_var 1)) (ag_name 3) at_yes (aw_iter (ax_var 3)) (ag_name 5) at_yes (ax_var 5)))
  (as_ret (ax_op o_eq (ax_lenSet (ax_var 4)) (ax_b1 b_len (av_of (ax_var 4))))))))
abbrev N_names_in : List Str := ["formula", "case", "test", "term"]
/-- names_in: 0 formula 1 case 2 test 3 term -/
def t_names_in : DTS := (dRet (dLc3 (dIter (dVar 0)) (gdName 1) dYes (dIter (dVar 1)) (gdName 2) dYes (dIter (dOp oIx (dVar 2) (dC (.int 0)))) (gdName 3) dYes (dOp oIx (dVar 3) (dC (.int 1))) [1, 2, 3] [2] [3]))
def fb_names_in : FS := (fRet (fLc3 (fIter (fVar 0)) (fgName 1) fYes (fIter (fVar 1)) (fgName 2) fYes (fIter (fOp gIx (fVar 2) (fC (.int 0)))) (fgName 3) fYes (fOp gIx (fVar 3) (fC (.int 1))) [1, 2, 3] [2] [3]))
def f_names_in : FF := fun ds => (fb_names_in (dstart N_names_in ds)).fn
abbrev p_names_in : Fn := pF f_names_in
theorem r_names_in : ∀ ds s R E, ds.length = 1 → p_names_in ds s R E → t_names_in (fnEnds R E) (dstart N_names_in ds) s := r_fn (f := fb_names_in) (M := []) (as_ret (ax_lc3 (aw_iter (ax_var 0)) (ag_name 1) at_yes (aw_iter (ax_var 1)) (ag_name 2) at_yes (aw_iter (ax_opV o_ix (av_of (ax_var 2)) (av_of (ax_c _)))) (ag_name 3) at_yes (ax_opV o_ix (av_of (ax_var 3)) (av_of (ax_c _)))))
abbrev N_is_formula_of : List Str := ["cells", "thing", "known", "name"]
/-- is_formula_of: 0 cells 1 thing 2 known 3 name -/
def t_is_formula_of : DTS := (dSeq (dTry ["BadFormula"] "BadFormula" (dDrop (dCall 2 p_need_formula (dCons (dVar 0) (dCons (dVar 1) dNil)))) (dRet (dC (.bl false))))
  (dRet (dBlt (cAll false) (dCons (dLc (dIter (dCall 1 p_names_in (dCons (dVar 1) dNil))) (gdName 3) dYes (dOp (oIn false) (dVar 3) (dVar 2)) [3]) dNil))))
def fb_is_formula_of : FS := (fSeq (fTry ["BadFormula"] "BadFormula" (fDrop (fCall f_need_formula (fCons (fVar 0) (fCons (fVar 1) fNil)))) (fRet (fC (.bl false))))
  (fRet (fB1 (gAll false) (fLc (fIter (fCall f_names_in (fCons (fVar 1) fNil))) (fgName 3) fYes (fOp (gIn false) (fVar 3) (fVar 2)) [3]))))
def f_is_formula_of : FF := fun ds => (fb_is_formula_of (dstart N_is_formula_of ds)).fn
abbrev p_is_formula_of : Fn := pF f_is_formula_of
theorem r_is_formula_of : ∀ ds s R E, ds.length = 3 → p_is_formula_of ds s R E → t_is_formula_of (fnEnds R E) (dstart N_is_formula_of ds) s := r_fn (f := fb_is_formula_of) (M := []) (as_seq (as_try (as_drop (ax_call (aa_cons (ax_var 0) (aa_cons (ax_var 1) aa_nil)))) (as_ret (ax_c _)))
  (as_ret (ax_b1x (x_all _) (ax_lc (aw_iter (ax_call (aa_cons (ax_var 1) aa_nil))) (ag_name 3) at_yes (ax_op (o_in _) (ax_var 3) (ax_var 2))))))
abbrev N_is_set : List Str := ["cells", "thing", "known", "term"]
/-- is_set: 0 cells 1 thing 2 known 3 term -/
def t_is_set : DTS := (dSeq (dIfS (dOr (dNot (dTst (dCall 2 p_is_row (dCons (dVar 1) (dCons (dC (.int 3)) dNil))))) (dOr (dTst (dOp oNe (dBlt cLen (dCons (dVar 1) dNil)) (dC (.int 3)))) (dOr (dNot (dTst (dCall 1 p_is_name (dCons (dOp oIx (dVar 1) (dC (.int 0))) dNil)))) (dTst (dOp (oIn true) (dOp oIx (dVar 1) (dC (.int 0))) (dCall 1 p_names_of (dCons (dVar 0) dNil))))))) (dRet (dC (.bl false))) dNext)
  (dSeq (dIfS (dOr (dNot (dTst (dCall 2 p_are_terms (dCons (dVar 0) (dCons (dOp oIx (dVar 1) (dC (.int 1))) dNil))))) (dNot (dTst (dCall 3 p_is_among (dCons (dOp oIx (dVar 1) (dC (.int 2))) (dCons (dOp oSub (dC (.int 0)) (dC (.int 99))) (dCons (dC (.int 99)) dNil))))))) (dRet (dC (.bl false))) dNext)
  (dRet (dBlt (cAll false) (dCons (dLc (dIter (dOp oIx (dVar 1) (dC (.int 1)))) (gdName 3) dYes (dOp (oIn false) (dOp oIx (dVar 3) (dC (.int 1))) (dVar 2)) [3]) dNil)))))
def fb_is_set : FS := (fSeq (fIfS (fOr (fNot (fTst (fCall f_is_row (fCons (fVar 1) (fCons (fC (.int 3)) fNil))))) (fOr (fTst (fOp gNe (fB1 gLen (fVar 1)) (fC (.int 3)))) (fOr (fNot (fTst (fCall f_is_name (fCons (fOp gIx (fVar 1) (fC (.int 0))) fNil)))) (fTst (fOp (gIn true) (fOp gIx (fVar 1) (fC (.int 0))) (fCall f_names_of (fCons (fVar 0) fNil))))))) (fRet (fC (.bl false))) fNext)
  (fSeq (fIfS (fOr (fNot (fTst (fCall f_are_terms (fCons (fVar 0) (fCons (fOp gIx (fVar 1) (fC (.int 1))) fNil))))) (fNot (fTst (fCall f_is_among (fCons (fOp gIx (fVar 1) (fC (.int 2))) (fCons (fOp gSub (fC (.int 0)) (fC (.int 99))) (fCons (fC (.int 99)) fNil))))))) (fRet (fC (.bl false))) fNext)
  (fRet (fB1 (gAll false) (fLc (fIter (fOp gIx (fVar 1) (fC (.int 1)))) (fgName 3) fYes (fOp (gIn false) (fOp gIx (fVar 3) (fC (.int 1))) (fVar 2)) [3])))))
def f_is_set : FF := fun ds => (fb_is_set (dstart N_is_set ds)).fn
abbrev p_is_set : Fn := pF f_is_set
theorem r_is_set : ∀ ds s R E, ds.length = 3 → p_is_set ds s R E → t_is_set (fnEnds R E) (dstart N_is_set ds) s := r_fn (f := fb_is_set) (M := []) (as_seq (as_if (at_or (at_not (at_tst (ax_call (aa_cons (ax_var 1) (aa_cons (ax_c _) aa_nil))))) (at_or (at_tst (ax_op o_ne (ax_b1 b_len (av_of (ax_var 1))) (ax_c _))) (at_or (at_not (at_tst (ax_call (aa_cons (ax_opV o_ix (av_of (ax_var 1)) (av_of (ax_c _))) aa_nil)))) (at_tst (ax_op (o_in _) (ax_opV o_ix (av_of (ax_var 1)) (av_of (ax_c _))) (ax_call (aa_cons (ax_var 0) aa_nil))))))) (as_ret (ax_c _)) as_next)
  (as_seq (as_if (at_or (at_not (at_tst (ax_call (aa_cons (ax_var 0) (aa_cons (ax_opV o_ix (av_of (ax_var 1)) (av_of (ax_c _))) aa_nil))))) (at_not (at_tst (ax_call (aa_cons (ax_opV o_ix (av_of (ax_var 1)) (av_of (ax_c _))) (aa_cons (ax_op (o_int _) (ax_c _) (ax_c _)) (aa_cons (ax_c _) aa_nil))))))) (as_ret (ax_c _)) as_next)
  (as_ret (ax_b1x (x_all _) (ax_lc (aw_iter (ax_opV o_ix (av_of (ax_var 1)) (av_of (ax_c _)))) (ag_name 3) at_yes (ax_op (o_in _) (ax_opV o_ix (av_of (ax_var 3)) (av_of (ax_c _))) (ax_var 2)))))))
abbrev N_are_sets : List Str := ["cells", "thing", "known", "one"]
/-- are_sets: 0 cells 1 thing 2 known 3 one -/
def t_are_sets : DTS := (dSeq (dIfS (dOr (dNot (dTst (dCall 2 p_is_row (dCons (dVar 1) (dCons (dC (.int 4)) dNil))))) (dNot (dTst (dBlt (cAll false) (dCons (dLc (dIter (dVar 1)) (gdName 3) dYes (dCall 3 p_is_set (dCons (dVar 0) (dCons (dVar 3) (dCons (dVar 2) dNil)))) [3]) dNil))))) (dRet (dC (.bl false))) dNext)
  (dRet (dCall 2 p_are_in_order (dCons (dVar 0) (dCons (dBlt cTuple (dCons (dLc (dIter (dVar 1)) (gdName 3) dYes (dOp oIx (dVar 3) (dC (.int 0))) [3]) dNil)) dNil)))))
def fb_are_sets : FS := (fSeq (fIfS (fOr (fNot (fTst (fCall f_is_row (fCons (fVar 1) (fCons (fC (.int 4)) fNil))))) (fNot (fTst (fB1 (gAll false) (fLc (fIter (fVar 1)) (fgName 3) fYes (fCall f_is_set (fCons (fVar 0) (fCons (fVar 3) (fCons (fVar 2) fNil)))) [3]))))) (fRet (fC (.bl false))) fNext)
  (fRet (fCall f_are_in_order (fCons (fVar 0) (fCons (fB1 gTuple (fLc (fIter (fVar 1)) (fgName 3) fYes (fOp gIx (fVar 3) (fC (.int 0))) [3])) fNil)))))
def f_are_sets : FF := fun ds => (fb_are_sets (dstart N_are_sets ds)).fn
abbrev p_are_sets : Fn := pF f_are_sets
theorem r_are_sets : ∀ ds s R E, ds.length = 3 → p_are_sets ds s R E → t_are_sets (fnEnds R E) (dstart N_are_sets ds) s := r_fn (f := fb_are_sets) (M := []) (as_seq (as_if (at_or (at_not (at_tst (ax_call (aa_cons (ax_var 1) (aa_cons (ax_c _) aa_nil))))) (at_not (at_tst (ax_b1x (x_all _) (ax_lc (aw_iter (ax_var 1)) (ag_name 3) at_yes (ax_call (aa_cons (ax_var 0) (aa_cons (ax_var 3) (aa_cons (ax_var 2) aa_nil))))))))) (as_ret (ax_c _)) as_next)
  (as_ret (ax_call (aa_cons (ax_var 0) (aa_cons (ax_b1 b_tuple (av_of (ax_lc (aw_iter (ax_var 1)) (ag_name 3) at_yes (ax_opV o_ix (av_of (ax_var 3)) (av_of (ax_c _)))))) aa_nil)))))
abbrev N_fault_of : List Str := ["cells", "thing", "name", "level", "looks", "when", "sets", "marks", "known", "part", "one"]
/-- fault_of: 0 cells 1 thing 2 name 3 level 4 looks 5 when 6 sets 7 marks 8 known 9 part 10 one -/
def t_fault_of : DTS := (dSeq (dIfS (dOr (dNot (dTst (dCall 2 p_is_row (dCons (dVar 1) (dCons (dC (.int 6)) dNil))))) (dTst (dOp oNe (dBlt cLen (dCons (dVar 1) dNil)) (dC (.int 6))))) (dRet (dC (.str "form"))) dNext)
  (dSeq (dAsg (dVar 1) (gdTup 6 (gdCons (gdName 2) (gdCons (gdName 3) (gdCons (gdName 4) (gdCons (gdName 5) (gdCons (gdName 6) (gdCons (gdName 7) gdNil))))))))
  (dSeq (dIfS (dNot (dTst (dCall 1 p_is_name (dCons (dVar 2) dNil)))) (dRet (dC (.str "name"))) dNext)
  (dSeq (dIfS (dOr (dNot (dTst (dBlt cIsi (dCons (dVar 3) (dCons (dC (.rf (.ty "str"))) dNil))))) (dTst (dOp (oIn true) (dVar 3) (dC (.tup [(.str "each"), (.str "one"), (.str "last")]))))) (dRet (dC (.str "level"))) dNext)
  (dSeq (dIfS (dNot (dTst (dCall 3 p_are_parts (dCons (dVar 0) (dCons (dVar 4) (dCons (dC (.int 3)) dNil)))))) (dRet (dC (.str "looks"))) dNext)
  (dSeq (dSet 8 (dLc2 (dIter (dVar 4)) (gdName 9) dYes (dIter (dVar 9)) (gdName 2) dYes (dVar 2) [9, 2] [2]))
  (dSeq (dIfS (dNot (dTst (dCall 3 p_is_formula_of (dCons (dVar 0) (dCons (dVar 5) (dCons (dVar 8) dNil)))))) (dRet (dC (.str "when"))) dNext)
  (dSeq (dIfS (dNot (dTst (dCall 3 p_are_sets (dCons (dVar 0) (dCons (dVar 6) (dCons (dVar 8) dNil)))))) (dRet (dC (.str "sets"))) dNext)
  (dSeq (dIfS (dOr (dNot (dTst (dCall 2 p_are_in_order (dCons (dVar 0) (dCons (dVar 7) dNil))))) (dTst (dBlt (cAll true) (dCons (dLc (dIter (dVar 6)) (gdName 10) dYes (dOp (oIn false) (dOp oIx (dVar 10) (dC (.int 0))) (dVar 7)) [10]) dNil)))) (dRet (dC (.str "marks"))) dNext)
  (dRet (dC .non)))))))))))
def fb_fault_of : FS := (fSeq (fIfS (fOr (fNot (fTst (fCall f_is_row (fCons (fVar 1) (fCons (fC (.int 6)) fNil))))) (fTst (fOp gNe (fB1 gLen (fVar 1)) (fC (.int 6))))) (fRet (fC (.str "form"))) fNext)
  (fSeq (fAsg (fVar 1) (fgTup 6 (fgCons (fgName 2) (fgCons (fgName 3) (fgCons (fgName 4) (fgCons (fgName 5) (fgCons (fgName 6) (fgCons (fgName 7) fgNil))))))))
  (fSeq (fIfS (fNot (fTst (fCall f_is_name (fCons (fVar 2) fNil)))) (fRet (fC (.str "name"))) fNext)
  (fSeq (fIfS (fOr (fNot (fTst (fB1 (gIsi "str") (fVar 3)))) (fTst (fOp (gIn true) (fVar 3) (fC (.tup [(.str "each"), (.str "one"), (.str "last")]))))) (fRet (fC (.str "level"))) fNext)
  (fSeq (fIfS (fNot (fTst (fCall f_are_parts (fCons (fVar 0) (fCons (fVar 4) (fCons (fC (.int 3)) fNil)))))) (fRet (fC (.str "looks"))) fNext)
  (fSeq (fSet 8 (fLc2 (fIter (fVar 4)) (fgName 9) fYes (fIter (fVar 9)) (fgName 2) fYes (fVar 2) [9, 2] [2]))
  (fSeq (fIfS (fNot (fTst (fCall f_is_formula_of (fCons (fVar 0) (fCons (fVar 5) (fCons (fVar 8) fNil)))))) (fRet (fC (.str "when"))) fNext)
  (fSeq (fIfS (fNot (fTst (fCall f_are_sets (fCons (fVar 0) (fCons (fVar 6) (fCons (fVar 8) fNil)))))) (fRet (fC (.str "sets"))) fNext)
  (fSeq (fIfS (fOr (fNot (fTst (fCall f_are_in_order (fCons (fVar 0) (fCons (fVar 7) fNil))))) (fTst (fB1 (gAll true) (fLc (fIter (fVar 6)) (fgName 10) fYes (fOp (gIn false) (fOp gIx (fVar 10) (fC (.int 0))) (fVar 7)) [10])))) (fRet (fC (.str "marks"))) fNext)
  (fRet (fC .non)))))))))))
def f_fault_of : FF := fun ds => (fb_fault_of (dstart N_fault_of ds)).fn
abbrev p_fault_of : Fn := pF f_fault_of
theorem r_fault_of : ∀ ds s R E, ds.length = 2 → p_fault_of ds s R E → t_fault_of (fnEnds R E) (dstart N_fault_of ds) s := r_fn (f := fb_fault_of) (M := []) (as_seq (as_if (at_or (at_not (at_tst (ax_call (aa_cons (ax_var 1) (aa_cons (ax_c _) aa_nil))))) (at_tst (ax_op o_ne (ax_b1 b_len (av_of (ax_var 1))) (ax_c _)))) (as_ret (ax_c _)) as_next)
  (as_seq (as_asg (ax_var 1) (ag_tup (ags_cons (ag_name 2) (ags_cons (ag_name 3) (ags_cons (ag_name 4) (ags_cons (ag_name 5) (ags_cons (ag_name 6) (ags_cons (ag_name 7) ags_nil))))))))
  (as_seq (as_if (at_not (at_tst (ax_call (aa_cons (ax_var 2) aa_nil)))) (as_ret (ax_c _)) as_next)
  (as_seq (as_if (at_or (at_not (at_tst (ax_isi "str" (ax_var 3)))) (at_tst (ax_op (o_in _) (ax_var 3) (ax_c _)))) (as_ret (ax_c _)) as_next)
  (as_seq (as_if (at_not (at_tst (ax_call (aa_cons (ax_var 0) (aa_cons (ax_var 4) (aa_cons (ax_c _) aa_nil)))))) (as_ret (ax_c _)) as_next)
  (as_seq (as_set 8 (ax_lc2 (aw_iter (ax_var 4)) (ag_name 9) at_yes (aw_iter (ax_var 9)) (ag_name 2) at_yes (ax_var 2)))
  (as_seq (as_if (at_not (at_tst (ax_call (aa_cons (ax_var 0) (aa_cons (ax_var 5) (aa_cons (ax_var 8) aa_nil)))))) (as_ret (ax_c _)) as_next)
  (as_seq (as_if (at_not (at_tst (ax_call (aa_cons (ax_var 0) (aa_cons (ax_var 6) (aa_cons (ax_var 8) aa_nil)))))) (as_ret (ax_c _)) as_next)
  (as_seq (as_if (at_or (at_not (at_tst (ax_call (aa_cons (ax_var 0) (aa_cons (ax_var 7) aa_nil))))) (at_tst (ax_b1x (x_all _) (ax_lc (aw_iter (ax_var 6)) (ag_name 10) at_yes (ax_op (o_in _) (ax_opV o_ix (av_of (ax_var 10)) (av_of (ax_c _))) (ax_var 7)))))) (as_ret (ax_c _)) as_next)
  (as_ret (ax_c _)))))))))))
abbrev N_need_program : List Str := ["cells", "thing", "fault"]
/-- need_program: 0 cells 1 thing 2 fault -/
def t_need_program : DTS := (dSeq (dSet 2 (dCall 2 p_fault_of (dCons (dVar 0) (dCons (dVar 1) dNil))))
  (dSeq (dIfS (dTst (dOp (oIsN true) (dVar 2) (dC .non))) (dRaise "BadProgram" "place" (dVar 2)) dNext)
  (dRet (dVar 1))))
def fb_need_program : FS := (fSeq (fSet 2 (fCall f_fault_of (fCons (fVar 0) (fCons (fVar 1) fNil))))
  (fSeq (fIfS (fTst (fOp (gIsN true) (fVar 2) (fC .non))) (fRaise "BadProgram" "place" (fVar 2)) fNext)
  (fRet (fVar 1))))
def f_need_program : FF := fun ds => (fb_need_program (dstart N_need_program ds)).fn
abbrev p_need_program : Fn := pF f_need_program
theorem r_need_program : ∀ ds s R E, ds.length = 2 → p_need_program ds s R E → t_need_program (fnEnds R E) (dstart N_need_program ds) s := r_fn (f := fb_need_program) (M := []) (as_seq (as_set 2 (ax_call (aa_cons (ax_var 0) (aa_cons (ax_var 1) aa_nil))))
  (as_seq (as_if (at_tst (ax_op (o_isN _) (ax_var 2) (ax_c _))) (as_raise (ax_var 2)) as_next)
  (as_ret (ax_var 1))))
abbrev N_law_is_whole : List Str := ["_law_thing", "_law_least", "_law_most"]
/-- _law_is_whole: 0 _law_thing 1 _law_least 2 _law_most -/
def t_law_is_whole : DTS := (dRet (dAndV (dBlt cIsi (dCons (dVar 0) (dCons (dC (.rf (.ty "int"))) dNil))) (dAndV (dNotV (dBlt cIsi (dCons (dVar 0) (dCons (dC (.rf (.ty "bool"))) dNil)))) (dChain oLe oLe (dVar 1) (dVar 0) (dVar 2)))))
def fb_law_is_whole : FS := (fRet (fAndV (fB1 (gIsi "int") (fVar 0)) (fAndV (fNotV (fB1 (gIsi "bool") (fVar 0))) (fChain gLe gLe (fVar 1) (fVar 0) (fVar 2)))))
def f_law_is_whole : FF := fun ds => (fb_law_is_whole (dstart N_law_is_whole ds)).fn
abbrev p_law_is_whole : Fn := pF f_law_is_whole
theorem r_law_is_whole : ∀ ds s R E, ds.length = 3 → p_law_is_whole ds s R E → t_law_is_whole (fnEnds R E) (dstart N_law_is_whole ds) s := r_fn (f := fb_law_is_whole) (M := []) (as_ret (ax_and (ax_isi "int" (ax_var 0)) (ax_and (ax_not (ax_isi "bool" (ax_var 0))) (ax_chain (o_int _) (o_int _) (ax_var 1) (ax_var 0) (ax_var 2)))))
abbrev N_law_is_name : List Str := ["_law_thing", "_law_sign"]
/-- _law_is_name: 0 _law_thing 1 _law_sign -/
def t_law_is_name : DTS := (dSeq (dIfS (dOr (dNot (dTst (dBlt cIsi (dCons (dVar 0) (dCons (dC (.rf (.ty "str"))) dNil))))) (dNot (dTst (dChain oLe oLe (dC (.int 1)) (dBlt cLen (dCons (dVar 0) dNil)) (dC (.int 8)))))) (dRet (dC (.bl false))) dNext)
  (dRet (dOp oEq (dLc (dIter (dVar 0)) (gdName 1) (dTst (dOp (oIn true) (dVar 1) (dC (.str "abcdefghijklmnopqrstuvwxyz")))) (dVar 1) [1]) (dLst dNil))))
def fb_law_is_name : FS := (fSeq (fIfS (fOr (fNot (fTst (fB1 (gIsi "str") (fVar 0)))) (fNot (fTst (fChain gLe gLe (fC (.int 1)) (fB1 gLen (fVar 0)) (fC (.int 8)))))) (fRet (fC (.bl false))) fNext)
  (fRet (fOp gEq (fLc (fIter (fVar 0)) (fgName 1) (fTst (fOp (gIn true) (fVar 1) (fC (.str "abcdefghijklmnopqrstuvwxyz")))) (fVar 1) [1]) (fLst fNil))))
def f_law_is_name : FF := fun ds => (fb_law_is_name (dstart N_law_is_name ds)).fn
abbrev p_law_is_name : Fn := pF f_law_is_name
theorem r_law_is_name : ∀ ds s R E, ds.length = 1 → p_law_is_name ds s R E → t_law_is_name (fnEnds R E) (dstart N_law_is_name ds) s := r_fn (f := fb_law_is_name) (M := []) (as_seq (as_if (at_or (at_not (at_tst (ax_isi "str" (ax_var 0)))) (at_not (at_tst (ax_chain (o_int _) (o_int _) (ax_c _) (ax_b1 b_len (av_of (ax_var 0))) (ax_c _))))) (as_ret (ax_c _)) as_next)
  (as_ret (ax_op o_eq (ax_lc (aw_iter (ax_var 0)) (ag_name 1) (at_tst (ax_op (o_in _) (ax_var 1) (ax_c _))) (ax_var 1)) (ax_lst aa_nil))))
abbrev N_law_in_order : List Str := ["_law_names_here", "_law_thing", "_law_one", "_law_name"]
/-- _law_in_order: 0 _law_names_here 1 _law_thing 2 _law_one 3 _law_name -/
def t_law_in_order : DTS := (dSeq (dIfS (dOr (dNot (dTst (dBlt cIsi (dCons (dVar 1) (dCons (dC (.rf (.ty "tuple"))) dNil))))) (dTst (dOp oNeL (dLc (dIter (dVar 1)) (gdName 2) (dNot (dTst (dBlt cIsi (dCons (dVar 2) (dCons (dC (.rf (.ty "str"))) dNil))))) (dVar 2) [2]) (dLst dNil)))) (dRet (dC (.bl false))) dNext)
  (dRet (dOp oEq (dLc (dIter (dVar 0)) (gdName 3) (dTst (dOp (oIn false) (dVar 3) (dVar 1))) (dVar 3) [3]) (dBlt cList (dCons (dVar 1) dNil)))))
def fb_law_in_order : FS := (fSeq (fIfS (fOr (fNot (fTst (fB1 (gIsi "tuple") (fVar 1)))) (fTst (fOp gNeL (fLc (fIter (fVar 1)) (fgName 2) (fNot (fTst (fB1 (gIsi "str") (fVar 2)))) (fVar 2) [2]) (fLst fNil)))) (fRet (fC (.bl false))) fNext)
  (fRet (fOp gEq (fLc (fIter (fVar 0)) (fgName 3) (fTst (fOp (gIn false) (fVar 3) (fVar 1))) (fVar 3) [3]) (fB1 gList (fVar 1)))))
def f_law_in_order : FF := fun ds => (fb_law_in_order (dstart N_law_in_order ds)).fn
abbrev p_law_in_order : Fn := pF f_law_in_order
theorem r_law_in_order : ∀ ds s R E, ds.length = 2 → p_law_in_order ds s R E → t_law_in_order (fnEnds R E) (dstart N_law_in_order ds) s := r_fn (f := fb_law_in_order) (M := []) (as_seq (as_if (at_or (at_not (at_tst (ax_isi "tuple" (ax_var 1)))) (at_tst (ax_op o_neL (ax_lc (aw_iter (ax_var 1)) (ag_name 2) (at_not (at_tst (ax_isi "str" (ax_var 2)))) (ax_var 2)) (ax_lst aa_nil)))) (as_ret (ax_c _)) as_next)
  (as_ret (ax_op o_eq (ax_lc (aw_iter (ax_var 0)) (ag_name 3) (at_tst (ax_op (o_in _) (ax_var 3) (ax_var 1))) (ax_var 3)) (ax_b1 b_list (av_of (ax_var 1))))))
abbrev N_law_are_terms : List Str := ["_law_names_here", "_law_thing", "_law_term"]
/-- _law_are_terms: 0 _law_names_here 1 _law_thing 2 _law_term -/
def t_law_are_terms : DTS := (dSeq (dIfS (dOr (dNot (dTst (dBlt cIsi (dCons (dVar 1) (dCons (dC (.rf (.ty "tuple"))) dNil))))) (dTst (dOp oGt (dBlt cLen (dCons (dVar 1) dNil)) (dC (.int 4))))) (dRet (dC (.bl false))) dNext)
  (dSeq (dFor (dIter (dVar 1)) (gdName 2) (dIfS (dOr (dNot (dTst (dBlt cIsi (dCons (dVar 2) (dCons (dC (.rf (.ty "tuple"))) dNil))))) (dOr (dTst (dOp oNe (dBlt cLen (dCons (dVar 2) dNil)) (dC (.int 2)))) (dOr (dNot (dTst (dCall 3 p_law_is_whole (dCons (dOp oIx (dVar 2) (dC (.int 0))) (dCons (dUn oNeg (dC (.int 9))) (dCons (dC (.int 9)) dNil)))))) (dTst (dOp oEq (dOp oIx (dVar 2) (dC (.int 0))) (dC (.int 0))))))) (dRet (dC (.bl false))) dNext))
  (dRet (dCall 2 p_law_in_order (dCons (dVar 0) (dCons (dBlt cTuple (dCons (dLc (dIter (dVar 1)) (gdName 2) dYes (dOp oIx (dVar 2) (dC (.int 1))) [2]) dNil)) dNil))))))
def fb_law_are_terms : FS := (fSeq (fIfS (fOr (fNot (fTst (fB1 (gIsi "tuple") (fVar 1)))) (fTst (fOp gGt (fB1 gLen (fVar 1)) (fC (.int 4))))) (fRet (fC (.bl false))) fNext)
  (fSeq (fFor (fIter (fVar 1)) (fgName 2) (fIfS (fOr (fNot (fTst (fB1 (gIsi "tuple") (fVar 2)))) (fOr (fTst (fOp gNe (fB1 gLen (fVar 2)) (fC (.int 2)))) (fOr (fNot (fTst (fCall f_law_is_whole (fCons (fOp gIx (fVar 2) (fC (.int 0))) (fCons (fUn gNeg (fC (.int 9))) (fCons (fC (.int 9)) fNil)))))) (fTst (fOp gEq (fOp gIx (fVar 2) (fC (.int 0))) (fC (.int 0))))))) (fRet (fC (.bl false))) fNext) [2])
  (fRet (fCall f_law_in_order (fCons (fVar 0) (fCons (fB1 gTuple (fLc (fIter (fVar 1)) (fgName 2) fYes (fOp gIx (fVar 2) (fC (.int 1))) [2])) fNil))))))
def f_law_are_terms : FF := fun ds => (fb_law_are_terms (dstart N_law_are_terms ds)).fn
abbrev p_law_are_terms : Fn := pF f_law_are_terms
theorem r_law_are_terms : ∀ ds s R E, ds.length = 2 → p_law_are_terms ds s R E → t_law_are_terms (fnEnds R E) (dstart N_law_are_terms ds) s := r_fn (f := fb_law_are_terms) (M := []) (as_seq (as_if (at_or (at_not (at_tst (ax_isi "tuple" (ax_var 1)))) (at_tst (ax_op (o_int _) (ax_b1 b_len (av_of (ax_var 1))) (ax_c _)))) (as_ret (ax_c _)) as_next)
  (as_seq (as_for (W := [2]) (aw_iter (ax_var 1)) (ag_name 2) (as_if (at_or (at_not (at_tst (ax_isi "tuple" (ax_var 2)))) (at_or (at_tst (ax_op o_ne (ax_b1 b_len (av_of (ax_var 2))) (ax_c _))) (at_or (at_not (at_tst (ax_call (aa_cons (ax_opV o_ix (av_of (ax_var 2)) (av_of (ax_c _))) (aa_cons (ax_un o_neg (ax_c _)) (aa_cons (ax_c _) aa_nil)))))) (at_tst (ax_op o_eq (ax_opV o_ix (av_of (ax_var 2)) (av_of (ax_c _))) (ax_c _)))))) (as_ret (ax_c _)) as_next))
  (as_ret (ax_call (aa_cons (ax_var 0) (aa_cons (ax_b1 b_tuple (av_of (ax_lc (aw_iter (ax_var 1)) (ag_name 2) at_yes (ax_opV o_ix (av_of (ax_var 2)) (av_of (ax_c _)))))) aa_nil))))))
abbrev N_law_is_test : List Str := ["_law_names_here", "_law_thing"]
/-- _law_is_test: 0 _law_names_here 1 _law_thing -/
def t_law_is_test : DTS := (dSeq (dIfS (dOr (dNot (dTst (dBlt cIsi (dCons (dVar 1) (dCons (dC (.rf (.ty "tuple"))) dNil))))) (dOr (dTst (dOp oNe (dBlt cLen (dCons (dVar 1) dNil)) (dC (.int 3)))) (dNot (dTst (dCall 2 p_law_are_terms (dCons (dVar 0) (dCons (dOp oIx (dVar 1) (dC (.int 0))) dNil))))))) (dRet (dC (.bl false))) dNext)
  (dSeq (dIfS (dOr (dNot (dTst (dBlt cIsi (dCons (dOp oIx (dVar 1) (dC (.int 1))) (dCons (dC (.rf (.ty "str"))) dNil))))) (dTst (dOp (oIn true) (dOp oIx (dVar 1) (dC (.int 1))) (dLst (dCons (dC (.str "=")) (dCons (dC (.str "!=")) (dCons (dC (.str "<")) (dCons (dC (.str "<=")) (dCons (dC (.str ">")) (dCons (dC (.str ">=")) dNil)))))))))) (dRet (dC (.bl false))) dNext)
  (dRet (dCall 3 p_law_is_whole (dCons (dOp oIx (dVar 1) (dC (.int 2))) (dCons (dUn oNeg (dC (.int 99))) (dCons (dC (.int 99)) dNil)))))))
def fb_law_is_test : FS := (fSeq (fIfS (fOr (fNot (fTst (fB1 (gIsi "tuple") (fVar 1)))) (fOr (fTst (fOp gNe (fB1 gLen (fVar 1)) (fC (.int 3)))) (fNot (fTst (fCall f_law_are_terms (fCons (fVar 0) (fCons (fOp gIx (fVar 1) (fC (.int 0))) fNil))))))) (fRet (fC (.bl false))) fNext)
  (fSeq (fIfS (fOr (fNot (fTst (fB1 (gIsi "str") (fOp gIx (fVar 1) (fC (.int 1)))))) (fTst (fOp (gIn true) (fOp gIx (fVar 1) (fC (.int 1))) (fLst (fCons (fC (.str "=")) (fCons (fC (.str "!=")) (fCons (fC (.str "<")) (fCons (fC (.str "<=")) (fCons (fC (.str ">")) (fCons (fC (.str ">=")) fNil)))))))))) (fRet (fC (.bl false))) fNext)
  (fRet (fCall f_law_is_whole (fCons (fOp gIx (fVar 1) (fC (.int 2))) (fCons (fUn gNeg (fC (.int 99))) (fCons (fC (.int 99)) fNil)))))))
def f_law_is_test : FF := fun ds => (fb_law_is_test (dstart N_law_is_test ds)).fn
abbrev p_law_is_test : Fn := pF f_law_is_test
theorem r_law_is_test : ∀ ds s R E, ds.length = 2 → p_law_is_test ds s R E → t_law_is_test (fnEnds R E) (dstart N_law_is_test ds) s := r_fn (f := fb_law_is_test) (M := []) (as_seq (as_if (at_or (at_not (at_tst (ax_isi "tuple" (ax_var 1)))) (at_or (at_tst (ax_op o_ne (ax_b1 b_len (av_of (ax_var 1))) (ax_c _))) (at_not (at_tst (ax_call (aa_cons (ax_var 0) (aa_cons (ax_opV o_ix (av_of (ax_var 1)) (av_of (ax_c _))) aa_nil))))))) (as_ret (ax_c _)) as_next)
  (as_seq (as_if (at_or (at_not (at_tst (ax_isi "str" (ax_opV o_ix (av_of (ax_var 1)) (av_of (ax_c _)))))) (at_tst (ax_op (o_in _) (ax_opV o_ix (av_of (ax_var 1)) (av_of (ax_c _))) (ax_lst (aa_cons (ax_c _) (aa_cons (ax_c _) (aa_cons (ax_c _) (aa_cons (ax_c _) (aa_cons (ax_c _) (aa_cons (ax_c _) aa_nil)))))))))) (as_ret (ax_c _)) as_next)
  (as_ret (ax_call (aa_cons (ax_opV o_ix (av_of (ax_var 1)) (av_of (ax_c _))) (aa_cons (ax_un o_neg (ax_c _)) (aa_cons (ax_c _) aa_nil)))))))
abbrev N_law_formula_fault : List Str := ["_law_names_here", "_law_thing", "_law_at", "_law_case", "_law_place", "_law_test_here"]
/-- _law_formula_fault: 0 _law_names_here 1 _law_thing 2 _law_at 3 _law_case 4 _law_place 5 _law_test_here -/
def t_law_formula_fault : DTS := (dSeq (dIfS (dOr (dNot (dTst (dBlt cIsi (dCons (dVar 1) (dCons (dC (.rf (.ty "tuple"))) dNil))))) (dTst (dOp oGt (dBlt cLen (dCons (dVar 1) dNil)) (dC (.int 4))))) (dRet (dTup dNil)) dNext)
  (dSeq (dFor (dEnumT (dCons (dVar 1) dNil)) (gdTup 2 (gdCons (gdName 2) (gdCons (gdName 3) gdNil))) (dIfS (dOr (dNot (dTst (dBlt cIsi (dCons (dVar 3) (dCons (dC (.rf (.ty "tuple"))) dNil))))) (dTst (dOp oGt (dBlt cLen (dCons (dVar 3) dNil)) (dC (.int 4))))) (dRet (dTup (dCons (dVar 2) dNil))) dNext))
  (dSeq (dFor (dEnumT (dCons (dVar 1) dNil)) (gdTup 2 (gdCons (gdName 2) (gdCons (gdName 3) gdNil))) (dFor (dEnumT (dCons (dVar 3) dNil)) (gdTup 2 (gdCons (gdName 4) (gdCons (gdName 5) gdNil))) (dIfS (dNot (dTst (dCall 2 p_law_is_test (dCons (dVar 0) (dCons (dVar 5) dNil))))) (dRet (dTup (dCons (dVar 2) (dCons (dVar 4) dNil)))) dNext)))
  (dRet (dC .non)))))
def fb_law_formula_fault : FS := (fSeq (fIfS (fOr (fNot (fTst (fB1 (gIsi "tuple") (fVar 1)))) (fTst (fOp gGt (fB1 gLen (fVar 1)) (fC (.int 4))))) (fRet (fTup fNil)) fNext)
  (fSeq (fFor (fEnumT (fVar 1)) (fgTup 2 (fgCons (fgName 2) (fgCons (fgName 3) fgNil))) (fIfS (fOr (fNot (fTst (fB1 (gIsi "tuple") (fVar 3)))) (fTst (fOp gGt (fB1 gLen (fVar 3)) (fC (.int 4))))) (fRet (fTup (fCons (fVar 2) fNil))) fNext) [2, 3])
  (fSeq (fFor (fEnumT (fVar 1)) (fgTup 2 (fgCons (fgName 2) (fgCons (fgName 3) fgNil))) (fFor (fEnumT (fVar 3)) (fgTup 2 (fgCons (fgName 4) (fgCons (fgName 5) fgNil))) (fIfS (fNot (fTst (fCall f_law_is_test (fCons (fVar 0) (fCons (fVar 5) fNil))))) (fRet (fTup (fCons (fVar 2) (fCons (fVar 4) fNil)))) fNext) [4, 5]) [2, 3, 4, 5])
  (fRet (fC .non)))))
def f_law_formula_fault : FF := fun ds => (fb_law_formula_fault (dstart N_law_formula_fault ds)).fn
abbrev p_law_formula_fault : Fn := pF f_law_formula_fault
theorem r_law_formula_fault : ∀ ds s R E, ds.length = 2 → p_law_formula_fault ds s R E → t_law_formula_fault (fnEnds R E) (dstart N_law_formula_fault ds) s := r_fn (f := fb_law_formula_fault) (M := []) (as_seq (as_if (at_or (at_not (at_tst (ax_isi "tuple" (ax_var 1)))) (at_tst (ax_op (o_int _) (ax_b1 b_len (av_of (ax_var 1))) (ax_c _)))) (as_ret (ax_tup aa_nil)) as_next)
  (as_seq (as_for (W := [2, 3]) (aw_enumT (ax_var 1)) (ag_tup (ags_cons (ag_name 2) (ags_cons (ag_name 3) ags_nil))) (as_if (at_or (at_not (at_tst (ax_isi "tuple" (ax_var 3)))) (at_tst (ax_op (o_int _) (ax_b1 b_len (av_of (ax_var 3))) (ax_c _)))) (as_ret (ax_tup (aa_cons (ax_var 2) aa_nil))) as_next))
  (as_seq (as_for (W := [2, 3, 4, 5]) (aw_enumT (ax_var 1)) (ag_tup (ags_cons (ag_name 2) (ags_cons (ag_name 3) ags_nil))) (as_for (W := [4, 5]) (aw_enumT (ax_var 3)) (ag_tup (ags_cons (ag_name 4) (ags_cons (ag_name 5) ags_nil))) (as_if (at_not (at_tst (ax_call (aa_cons (ax_var 0) (aa_cons (ax_var 5) aa_nil))))) (as_ret (ax_tup (aa_cons (ax_var 2) (aa_cons (ax_var 4) aa_nil)))) as_next)))
  (as_ret (ax_c _)))))
abbrev N_law_are_looks : List Str := ["_law_names_here", "_law_thing", "_law_found", "_law_part"]
/-- _law_are_looks: 0 _law_names_here 1 _law_thing 2 _law_found 3 _law_part -/
def t_law_are_looks : DTS := (dSeq (dIfS (dOr (dNot (dTst (dBlt cIsi (dCons (dVar 1) (dCons (dC (.rf (.ty "tuple"))) dNil))))) (dTst (dOp oGt (dBlt cLen (dCons (dVar 1) dNil)) (dC (.int 3))))) (dRet (dC (.bl false))) dNext)
  (dSeq (dSet 2 (dLst dNil))
  (dSeq (dFor (dIter (dVar 1)) (gdName 3) (dSeq (dIfS (dOr (dNot (dTst (dCall 2 p_law_in_order (dCons (dVar 0) (dCons (dVar 3) dNil))))) (dTst (dOp oEqE (dVar 3) (dTup dNil)))) (dRet (dC (.bl false))) dNext)
  (dSet 2 (dOp oAdd (dVar 2) (dBlt cList (dCons (dVar 3) dNil))))))
  (dRet (dOp oEq (dLenSet (dVar 2)) (dBlt cLen (dCons (dVar 2) dNil)))))))
def fb_law_are_looks : FS := (fSeq (fIfS (fOr (fNot (fTst (fB1 (gIsi "tuple") (fVar 1)))) (fTst (fOp gGt (fB1 gLen (fVar 1)) (fC (.int 3))))) (fRet (fC (.bl false))) fNext)
  (fSeq (fSet 2 (fLst fNil))
  (fSeq (fFor (fIter (fVar 1)) (fgName 3) (fSeq (fIfS (fOr (fNot (fTst (fCall f_law_in_order (fCons (fVar 0) (fCons (fVar 3) fNil))))) (fTst (fOp gEqE (fVar 3) (fTup fNil)))) (fRet (fC (.bl false))) fNext)
  (fSet 2 (fOp gAdd (fVar 2) (fB1 gList (fVar 3))))) [3])
  (fRet (fOp gEq (fB1 gLenSet (fVar 2)) (fB1 gLen (fVar 2)))))))
def f_law_are_looks : FF := fun ds => (fb_law_are_looks (dstart N_law_are_looks ds)).fn
abbrev p_law_are_looks : Fn := pF f_law_are_looks
theorem r_law_are_looks : ∀ ds s R E, ds.length = 2 → p_law_are_looks ds s R E → t_law_are_looks (fnEnds R E) (dstart N_law_are_looks ds) s := r_fn (f := fb_law_are_looks) (M := []) (as_seq (as_if (at_or (at_not (at_tst (ax_isi "tuple" (ax_var 1)))) (at_tst (ax_op (o_int _) (ax_b1 b_len (av_of (ax_var 1))) (ax_c _)))) (as_ret (ax_c _)) as_next)
  (as_seq (as_set 2 (ax_lst aa_nil))
  (as_seq (as_for (W := [3]) (aw_iter (ax_var 1)) (ag_name 3) (as_seq (as_if (at_or (at_not (at_tst (ax_call (aa_cons (ax_var 0) (aa_cons (ax_var 3) aa_nil))))) (at_tst (ax_op o_eqE (ax_var 3) (ax_tup aa_nil)))) (as_ret (ax_c _)) as_next)
  (as_set 2 (ax_op o_add (ax_var 2) (ax_b1 b_list (av_of (ax_var 3)))))))
  (as_ret (ax_op o_eq (ax_lenSet (ax_var 2)) (ax_b1 b_len (av_of (ax_var 2))))))))
abbrev N_law_named : List Str := ["_law_formula_here", "_law_found", "_law_case", "_law_test_here", "_law_term"]
/-- _law_named: 0 _law_formula_here 1 _law_found 2 _law_case 3 _law_test_here 4 _law_term -/
def t_law_named : DTS := (dSeq (dSet 1 (dLst dNil))
  (dSeq (dFor (dIter (dVar 0)) (gdName 2) (dFor (dIter (dVar 2)) (gdName 3) (dSet 1 (dOp oAdd (dVar 1) (dLc (dIter (dOp oIx (dVar 3) (dC (.int 0)))) (gdName 4) dYes (dOp oIx (dVar 4) (dC (.int 1))) [4])))))
  (dRet (dVar 1))))
def fb_law_named : FS := (fSeq (fSet 1 (fLst fNil))
  (fSeq (fFor (fIter (fVar 0)) (fgName 2) (fFor (fIter (fVar 2)) (fgName 3) (fSet 1 (fOp gAdd (fVar 1) (fLc (fIter (fOp gIx (fVar 3) (fC (.int 0)))) (fgName 4) fYes (fOp gIx (fVar 4) (fC (.int 1))) [4]))) [3]) [2, 3])
  (fRet (fVar 1))))
def f_law_named : FF := fun ds => (fb_law_named (dstart N_law_named ds)).fn
abbrev p_law_named : Fn := pF f_law_named
theorem r_law_named : ∀ ds s R E, ds.length = 1 → p_law_named ds s R E → t_law_named (fnEnds R E) (dstart N_law_named ds) s := r_fn (f := fb_law_named) (M := []) (as_seq (as_set 1 (ax_lst aa_nil))
  (as_seq (as_for (W := [2, 3]) (aw_iter (ax_var 0)) (ag_name 2) (as_for (W := [3]) (aw_iter (ax_var 2)) (ag_name 3) (as_set 1 (ax_op o_add (ax_var 1) (ax_lc (aw_iter (ax_opV o_ix (av_of (ax_var 3)) (av_of (ax_c _)))) (ag_name 4) at_yes (ax_opV o_ix (av_of (ax_var 4)) (av_of (ax_c _))))))))
  (as_ret (ax_var 1))))
abbrev N_law_are_sets : List Str := ["_law_names_here", "_law_known", "_law_thing", "_law_row", "_law_term"]
/-- _law_are_sets: 0 _law_names_here 1 _law_known 2 _law_thing 3 _law_row 4 _law_term -/
def t_law_are_sets : DTS := (dSeq (dIfS (dOr (dNot (dTst (dBlt cIsi (dCons (dVar 2) (dCons (dC (.rf (.ty "tuple"))) dNil))))) (dTst (dOp oGt (dBlt cLen (dCons (dVar 2) dNil)) (dC (.int 4))))) (dRet (dC (.bl false))) dNext)
  (dSeq (dFor (dIter (dVar 2)) (gdName 3) (dSeq (dIfS (dOr (dNot (dTst (dBlt cIsi (dCons (dVar 3) (dCons (dC (.rf (.ty "tuple"))) dNil))))) (dOr (dTst (dOp oNe (dBlt cLen (dCons (dVar 3) dNil)) (dC (.int 3)))) (dNot (dTst (dCall 2 p_law_are_terms (dCons (dVar 0) (dCons (dOp oIx (dVar 3) (dC (.int 1))) dNil))))))) (dRet (dC (.bl false))) dNext)
  (dIfS (dOr (dNot (dTst (dCall 3 p_law_is_whole (dCons (dOp oIx (dVar 3) (dC (.int 2))) (dCons (dUn oNeg (dC (.int 99))) (dCons (dC (.int 99)) dNil)))))) (dTst (dOp oNeL (dLc (dIter (dOp oIx (dVar 3) (dC (.int 1)))) (gdName 4) (dTst (dOp (oIn true) (dOp oIx (dVar 4) (dC (.int 1))) (dVar 1))) (dVar 4) [4]) (dLst dNil)))) (dRet (dC (.bl false))) dNext)))
  (dRet (dCall 2 p_law_in_order (dCons (dVar 0) (dCons (dBlt cTuple (dCons (dLc (dIter (dVar 2)) (gdName 3) dYes (dOp oIx (dVar 3) (dC (.int 0))) [3]) dNil)) dNil))))))
def fb_law_are_sets : FS := (fSeq (fIfS (fOr (fNot (fTst (fB1 (gIsi "tuple") (fVar 2)))) (fTst (fOp gGt (fB1 gLen (fVar 2)) (fC (.int 4))))) (fRet (fC (.bl false))) fNext)
  (fSeq (fFor (fIter (fVar 2)) (fgName 3) (fSeq (fIfS (fOr (fNot (fTst (fB1 (gIsi "tuple") (fVar 3)))) (fOr (fTst (fOp gNe (fB1 gLen (fVar 3)) (fC (.int 3)))) (fNot (fTst (fCall f_law_are_terms (fCons (fVar 0) (fCons (fOp gIx (fVar 3) (fC (.int 1))) fNil))))))) (fRet (fC (.bl false))) fNext)
  (fIfS (fOr (fNot (fTst (fCall f_law_is_whole (fCons (fOp gIx (fVar 3) (fC (.int 2))) (fCons (fUn gNeg (fC (.int 99))) (fCons (fC (.int 99)) fNil)))))) (fTst (fOp gNeL (fLc (fIter (fOp gIx (fVar 3) (fC (.int 1)))) (fgName 4) (fTst (fOp (gIn true) (fOp gIx (fVar 4) (fC (.int 1))) (fVar 1))) (fVar 4) [4]) (fLst fNil)))) (fRet (fC (.bl false))) fNext)) [3])
  (fRet (fCall f_law_in_order (fCons (fVar 0) (fCons (fB1 gTuple (fLc (fIter (fVar 2)) (fgName 3) fYes (fOp gIx (fVar 3) (fC (.int 0))) [3])) fNil))))))
def f_law_are_sets : FF := fun ds => (fb_law_are_sets (dstart N_law_are_sets ds)).fn
abbrev p_law_are_sets : Fn := pF f_law_are_sets
theorem r_law_are_sets : ∀ ds s R E, ds.length = 3 → p_law_are_sets ds s R E → t_law_are_sets (fnEnds R E) (dstart N_law_are_sets ds) s := r_fn (f := fb_law_are_sets) (M := []) (as_seq (as_if (at_or (at_not (at_tst (ax_isi "tuple" (ax_var 2)))) (at_tst (ax_op (o_int _) (ax_b1 b_len (av_of (ax_var 2))) (ax_c _)))) (as_ret (ax_c _)) as_next)
  (as_seq (as_for (W := [3]) (aw_iter (ax_var 2)) (ag_name 3) (as_seq (as_if (at_or (at_not (at_tst (ax_isi "tuple" (ax_var 3)))) (at_or (at_tst (ax_op o_ne (ax_b1 b_len (av_of (ax_var 3))) (ax_c _))) (at_not (at_tst (ax_call (aa_cons (ax_var 0) (aa_cons (ax_opV o_ix (av_of (ax_var 3)) (av_of (ax_c _))) aa_nil))))))) (as_ret (ax_c _)) as_next)
  (as_if (at_or (at_not (at_tst (ax_call (aa_cons (ax_opV o_ix (av_of (ax_var 3)) (av_of (ax_c _))) (aa_cons (ax_un o_neg (ax_c _)) (aa_cons (ax_c _) aa_nil)))))) (at_tst (ax_op o_neL (ax_lc (aw_iter (ax_opV o_ix (av_of (ax_var 3)) (av_of (ax_c _)))) (ag_name 4) (at_tst (ax_op (o_in _) (ax_opV o_ix (av_of (ax_var 4)) (av_of (ax_c _))) (ax_var 1))) (ax_var 4)) (ax_lst aa_nil)))) (as_ret (ax_c _)) as_next)))
  (as_ret (ax_call (aa_cons (ax_var 0) (aa_cons (ax_b1 b_tuple (av_of (ax_lc (aw_iter (ax_var 2)) (ag_name 3) at_yes (ax_opV o_ix (av_of (ax_var 3)) (av_of (ax_c _)))))) aa_nil))))))
abbrev N_law_program_fault : List Str := ["_law_names_here", "_law_thing", "_law_name", "_law_level", "_law_looks_here", "_law_when", "_law_sets", "_law_marks", "_law_known", "_law_part", "_law_one", "_law_row"]
/-- _law_program_fault: 0 _law_names_here 1 _law_thing 2 _law_name 3 _law_level 4 _law_looks_here 5 _law_when 6 _law_sets 7 _law_marks 8 _law_known 9 _law_part 10 _law_one 11 _law_row -/
def t_law_program_fault : DTS := (dSeq (dIfS (dOr (dNot (dTst (dBlt cIsi (dCons (dVar 1) (dCons (dC (.rf (.ty "tuple"))) dNil))))) (dTst (dOp oNe (dBlt cLen (dCons (dVar 1) dNil)) (dC (.int 6))))) (dRet (dC (.str "form"))) dNext)
  (dSeq (dAsg (dVar 1) (gdTup 6 (gdCons (gdName 2) (gdCons (gdName 3) (gdCons (gdName 4) (gdCons (gdName 5) (gdCons (gdName 6) (gdCons (gdName 7) gdNil))))))))
  (dSeq (dIfS (dNot (dTst (dCall 1 p_law_is_name (dCons (dVar 2) dNil)))) (dRet (dC (.str "name"))) dNext)
  (dSeq (dIfS (dOr (dNot (dTst (dBlt cIsi (dCons (dVar 3) (dCons (dC (.rf (.ty "str"))) dNil))))) (dTst (dOp (oIn true) (dVar 3) (dLst (dCons (dC (.str "each")) (dCons (dC (.str "one")) (dCons (dC (.str "last")) dNil))))))) (dRet (dC (.str "level"))) dNext)
  (dSeq (dIfS (dNot (dTst (dCall 2 p_law_are_looks (dCons (dVar 0) (dCons (dVar 4) dNil))))) (dRet (dC (.str "looks"))) dNext)
  (dSeq (dSet 8 (dLst dNil))
  (dSeq (dFor (dIter (dVar 4)) (gdName 9) (dSet 8 (dOp oAdd (dVar 8) (dBlt cList (dCons (dVar 9) dNil)))))
  (dSeq (dIfS (dOr (dTst (dOp (oIsN true) (dCall 2 p_law_formula_fault (dCons (dVar 0) (dCons (dVar 5) dNil))) (dC .non))) (dTst (dOp oNeL (dLc (dIter (dCall 1 p_law_named (dCons (dVar 5) dNil))) (gdName 10) (dTst (dOp (oIn true) (dVar 10) (dVar 8))) (dVar 10) [10]) (dLst dNil)))) (dRet (dC (.str "when"))) dNext)
  (dSeq (dIfS (dNot (dTst (dCall 3 p_law_are_sets (dCons (dVar 0) (dCons (dVar 8) (dCons (dVar 6) dNil)))))) (dRet (dC (.str "sets"))) dNext)
  (dSeq (dIfS (dOr (dNot (dTst (dCall 2 p_law_in_order (dCons (dVar 0) (dCons (dVar 7) dNil))))) (dTst (dOp oNeL (dLc (dIter (dVar 6)) (gdName 11) (dTst (dOp (oIn false) (dOp oIx (dVar 11) (dC (.int 0))) (dVar 7))) (dVar 11) [11]) (dLst dNil)))) (dRet (dC (.str "marks"))) dNext)
  (dRet (dC .non))))))))))))
def fb_law_program_fault : FS := (fSeq (fIfS (fOr (fNot (fTst (fB1 (gIsi "tuple") (fVar 1)))) (fTst (fOp gNe (fB1 gLen (fVar 1)) (fC (.int 6))))) (fRet (fC (.str "form"))) fNext)
  (fSeq (fAsg (fVar 1) (fgTup 6 (fgCons (fgName 2) (fgCons (fgName 3) (fgCons (fgName 4) (fgCons (fgName 5) (fgCons (fgName 6) (fgCons (fgName 7) fgNil))))))))
  (fSeq (fIfS (fNot (fTst (fCall f_law_is_name (fCons (fVar 2) fNil)))) (fRet (fC (.str "name"))) fNext)
  (fSeq (fIfS (fOr (fNot (fTst (fB1 (gIsi "str") (fVar 3)))) (fTst (fOp (gIn true) (fVar 3) (fLst (fCons (fC (.str "each")) (fCons (fC (.str "one")) (fCons (fC (.str "last")) fNil))))))) (fRet (fC (.str "level"))) fNext)
  (fSeq (fIfS (fNot (fTst (fCall f_law_are_looks (fCons (fVar 0) (fCons (fVar 4) fNil))))) (fRet (fC (.str "looks"))) fNext)
  (fSeq (fSet 8 (fLst fNil))
  (fSeq (fFor (fIter (fVar 4)) (fgName 9) (fSet 8 (fOp gAdd (fVar 8) (fB1 gList (fVar 9)))) [9])
  (fSeq (fIfS (fOr (fTst (fOp (gIsN true) (fCall f_law_formula_fault (fCons (fVar 0) (fCons (fVar 5) fNil))) (fC .non))) (fTst (fOp gNeL (fLc (fIter (fCall f_law_named (fCons (fVar 5) fNil))) (fgName 10) (fTst (fOp (gIn true) (fVar 10) (fVar 8))) (fVar 10) [10]) (fLst fNil)))) (fRet (fC (.str "when"))) fNext)
  (fSeq (fIfS (fNot (fTst (fCall f_law_are_sets (fCons (fVar 0) (fCons (fVar 8) (fCons (fVar 6) fNil)))))) (fRet (fC (.str "sets"))) fNext)
  (fSeq (fIfS (fOr (fNot (fTst (fCall f_law_in_order (fCons (fVar 0) (fCons (fVar 7) fNil))))) (fTst (fOp gNeL (fLc (fIter (fVar 6)) (fgName 11) (fTst (fOp (gIn false) (fOp gIx (fVar 11) (fC (.int 0))) (fVar 7))) (fVar 11) [11]) (fLst fNil)))) (fRet (fC (.str "marks"))) fNext)
  (fRet (fC .non))))))))))))
def f_law_program_fault : FF := fun ds => (fb_law_program_fault (dstart N_law_program_fault ds)).fn
abbrev p_law_program_fault : Fn := pF f_law_program_fault
theorem r_law_program_fault : ∀ ds s R E, ds.length = 2 → p_law_program_fault ds s R E → t_law_program_fault (fnEnds R E) (dstart N_law_program_fault ds) s := r_fn (f := fb_law_program_fault) (M := []) (as_seq (as_if (at_or (at_not (at_tst (ax_isi "tuple" (ax_var 1)))) (at_tst (ax_op o_ne (ax_b1 b_len (av_of (ax_var 1))) (ax_c _)))) (as_ret (ax_c _)) as_next)
  (as_seq (as_asg (ax_var 1) (ag_tup (ags_cons (ag_name 2) (ags_cons (ag_name 3) (ags_cons (ag_name 4) (ags_cons (ag_name 5) (ags_cons (ag_name 6) (ags_cons (ag_name 7) ags_nil))))))))
  (as_seq (as_if (at_not (at_tst (ax_call (aa_cons (ax_var 2) aa_nil)))) (as_ret (ax_c _)) as_next)
  (as_seq (as_if (at_or (at_not (at_tst (ax_isi "str" (ax_var 3)))) (at_tst (ax_op (o_in _) (ax_var 3) (ax_lst (aa_cons (ax_c _) (aa_cons (ax_c _) (aa_cons (ax_c _) aa_nil))))))) (as_ret (ax_c _)) as_next)
  (as_seq (as_if (at_not (at_tst (ax_call (aa_cons (ax_var 0) (aa_cons (ax_var 4) aa_nil))))) (as_ret (ax_c _)) as_next)
  (as_seq (as_set 8 (ax_lst aa_nil))
  (as_seq (as_for (W := [9]) (aw_iter (ax_var 4)) (ag_name 9) (as_set 8 (ax_op o_add (ax_var 8) (ax_b1 b_list (av_of (ax_var 9))))))
  (as_seq (as_if (at_or (at_tst (ax_op (o_isN _) (ax_call (aa_cons (ax_var 0) (aa_cons (ax_var 5) aa_nil))) (ax_c _))) (at_tst (ax_op o_neL (ax_lc (aw_iter (ax_call (aa_cons (ax_var 5) aa_nil))) (ag_name 10) (at_tst (ax_op (o_in _) (ax_var 10) (ax_var 8))) (ax_var 10)) (ax_lst aa_nil)))) (as_ret (ax_c _)) as_next)
  (as_seq (as_if (at_not (at_tst (ax_call (aa_cons (ax_var 0) (aa_cons (ax_var 8) (aa_cons (ax_var 6) aa_nil)))))) (as_ret (ax_c _)) as_next)
  (as_seq (as_if (at_or (at_not (at_tst (ax_call (aa_cons (ax_var 0) (aa_cons (ax_var 7) aa_nil))))) (at_tst (ax_op o_neL (ax_lc (aw_iter (ax_var 6)) (ag_name 11) (at_tst (ax_op (o_in _) (ax_opV o_ix (av_of (ax_var 11)) (av_of (ax_c _))) (ax_var 7))) (ax_var 11)) (ax_lst aa_nil)))) (as_ret (ax_c _)) as_next)
  (as_ret (ax_c _))))))))))))
end Bk.Pa

/-! Bk: cells, formulas as things of any kind: what is asked of them. -/
namespace Bk
open PySem PySem.Spec PyProof.Rows L2
def inL (c : Nat) : Bool := !(Builtin.Str.occurrences letters ⟨#[c]⟩ 0 letters.length 1).isEmpty
def nameB : D → Bool
  | .str x => decide (1 ≤ x.length) && decide (x.length ≤ 8) && x.cps.toList.all inL
  | _ => false
def amongB (d : D) (lo hi : Int) : Bool := match d with
  | .int i => decide (lo ≤ i) && decide (i ≤ hi)
  | _ => false
def rowB (d : D) (k : Int) : Bool := match d with
  | .tup xs => decide ((xs.length : Int) ≤ k)
  | _ => false
/-- a cell's name -/
def cellOf : D → Option Str
  | .tup [.str x, v] => if (nameB (.str x) && amongB v 1 3) = true then some x else none
  | _ => none
def scanC : List D → List Str → Nat → Option D
  | [], _, _ => none
  | c :: cs, prev, i => match cellOf c with
    | some x => if x ∈ prev then some (.int i) else scanC cs (prev ++ [x]) (i + 1)
    | none => some (.int i)
def badAt : D → Option D
  | .tup xs => if xs.length = 0 ∨ 4 < xs.length then some .non else scanC xs [] 0
  | _ => some .non
def dueC (d : D) : D := match badAt d with
  | none => .lst [d]
  | some e => .tup [.str "cells", e]
/-- bent, it is a thing still -/
def BentOk (t d : D) : Prop := ∀ b n w, Th b n w t → 10 ^ 30 ≤ b → b ≤ 10 ^ 31 → w ≤ 40000 → Th (b + 100) (n + 2) (2 * w + 200) d
/-- a thing of the tests -/
def ThS (d : D) : Prop := ∃ b n w, Th b n w d ∧ b ≤ 10 ^ 32 ∧ n ≤ 40 ∧ w ≤ 100000
/-- names, in the order of the cells -/
def inOrdB (ns : List Str) (xs : List D) : Bool := match strsF xs with
  | some zs => decide (ns.filter (fun n => decide (n ∈ zs)) = zs)
  | none => false
def inOrdT (ns : List Str) : D → Bool
  | .tup xs => inOrdB ns xs
  | _ => false
def termB : D → Bool
  | .tup [.int i, _] => (decide (-9 ≤ i) && decide (i ≤ 9)) && !decide (i = 0)
  | _ => false
def sndD : D → D
  | .tup [_, b] => b
  | _ => .non
def termsB (ns : List Str) : D → Bool
  | .tup xs => decide (xs.length ≤ 4) && (xs.all termB && inOrdB ns (xs.map sndD))
  | _ => false
def opB : D → Bool
  | .str o => decide (o ∈ (["=", "!=", "<", "<=", ">", ">="] : List Str))
  | _ => false
def testB (ns : List Str) : D → Bool
  | .tup [t, o, n] => termsB ns t && (opB o && amongB n (-99) 99)
  | _ => false
def itemsD : D → List D
  | .tup xs => xs
  | _ => []
def badCase (ns : List Str) (c : D) : Bool := (itemsD c).any fun t => !testB ns t
/-- the first place at which it is no formula -/
def faultF (ns : List Str) : D → Option D
  | .tup xs => if 4 < xs.length then some (.tup []) else match xs.findIdx? (fun c => !rowB c 4) with
    | some i => some (.tup [.int (i : Nat)])
    | none => match xs.findIdx? (badCase ns) with
      | some i => some (.tup [.int (i : Nat), .int (((itemsD (xs[i]?.getD .non)).findIdx fun t => !testB ns t : Nat))])
      | none => none
  | _ => some (.tup [])
theorem mem_ty {n : String} (h : n = "int" ∨ n = "bool" ∨ n = "str" ∨ n = "tuple") : n ∈ tyNames := by
  rcases h with rfl | rfl | rfl | rfl <;> simp [tyNames]
theorem bls_bools : ∀ is : List Bool, bls (is.map D.bl) = some is
  | [] => rfl
  | i :: is => by rw [List.map_cons, bls, bls_bools is]; rfl
theorem tup_items {b : Int} {n w : Nat} {xs : List D} (h : Th b n w (.tup xs)) : ∃ m, n = m + 1 ∧ Ths b m w xs := by
  cases n with
  | zero =>
    have := h.dep
    rw [D.py, PyData.depth] at this
    omega
  | succ m => exact ⟨m, rfl, th_tup.mp h⟩
theorem ths_item {d x : D} {xs : List D} (h : ThS d) (e : d = .tup xs) (hx : x ∈ xs) : ThS x := by
  obtain ⟨b, n, w, hd, h1, h2, h3⟩ := h
  subst e
  obtain ⟨m, rfl, hs⟩ := tup_items hd
  exact ⟨b, m, w, th_mem hs hx, h1, by omega, h3⟩
theorem ths_len' {xs : List D} (h : ThS (.tup xs)) : xs.length ≤ 100000 := by
  obtain ⟨b, n, w, hd, h1, h2, h3⟩ := h
  obtain ⟨m, rfl, hs⟩ := tup_items hd
  exact Nat.le_trans (ths_len hs) h3
theorem row_tup {d : D} {k : Int} (h : rowB d k = true) : ∃ xs, d = .tup xs ∧ (xs.length : Int) ≤ k := by
  cases d with
  | tup xs => exact ⟨xs, rfl, of_decide_eq_true h⟩
  | _ => cases h
def tupB : D → Bool
  | .tup _ => true
  | _ => false
theorem tupB_is {d : D} (h : tupB d = true) : ∃ xs, d = .tup xs := by
  cases d with
  | tup xs => exact ⟨xs, rfl⟩
  | _ => cases h
theorem th_c {b : Int} {n : Nat} {x : Str} (h : PyData.strOk x = true) (hl : x.length ≤ 16) : Th b n 16 (.str x) := (th_str h).mono (Int.le_refl _) (Nat.zero_le _) hl
theorem ths_all {b : Int} {n w : Nat} : ∀ {xs : List D}, (∀ x ∈ xs, Th b n w x) → Ths b n ((w + 1) * xs.length) xs
  | [], _ => ths_nil
  | x :: xs, h => by
    have := ths_cons (h x List.mem_cons_self) (ths_all fun y hy => h y (List.mem_cons_of_mem _ hy))
    refine this.mono (Int.le_refl _) (Nat.le_refl _) ?_
    rw [List.length_cons, Nat.mul_succ]; omega
theorem th_cell {x : Str} {v : Int} (h : nmOk x) (h1 : 1 ≤ v) (h2 : v ≤ 3) : Th (10 ^ 30) 1 200 (.tup [.str x, .int v]) :=
  (th_tup.mpr (ths_cons ((th_str h.1).mono (Int.le_refl _) (Nat.le_refl _) h.2) (ths_cons (th_int (b := 10 ^ 30) (n := 0) (by omega) (by omega) (by decide)) ths_nil))).mono (Int.le_refl _) (Nat.le_refl _) (by omega)
theorem th_cells {cs : List (Str × Int)} (h : CellsOk cs) : ∀ x ∈ cs.map cellD, Th (10 ^ 30) 1 200 x := fun x hx => by
  obtain ⟨c, hc, rfl⟩ := List.mem_map.mp hx
  exact th_cell (h.nm c hc) (h.most c hc).1 (h.most c hc).2
theorem cutD_mem {xs : List D} {lo hi : Option Int} : ∀ x ∈ cutD xs lo hi, x ∈ xs := fun x hx => by
  unfold cutD at hx
  exact List.mem_of_mem_drop (List.mem_of_mem_take hx)
theorem cutD_len (xs : List D) (lo hi : Option Int) : (cutD xs lo hi).length ≤ xs.length := by
  unfold cutD
  rw [List.length_take, List.length_drop]; omega
theorem th_non {b : Int} {n : Nat} : Th b n 0 .non := ⟨by rw [D.good], by rw [D.py, PyData.depth]; exact Nat.zero_le _, by rw [D.py, PyData.weight]; exact Nat.zero_le _⟩
theorem thS_sh {d : D} (h : ThS d) : d.shOkA := by
  obtain ⟨b, n, w, ht, h1, h2, h3⟩ := h
  exact ht.shOkA (by omega) (by omega) (by omega)
theorem thS_lst {d : D} (h : ThS d) : (D.lst [d]).shOkA := by
  obtain ⟨b, n, w, ht, h1, h2, h3⟩ := h
  exact (th_lst.mpr (ths_cons ht ths_nil)).shOkA (by omega) (by omega) (by omega)
def p_law_odd : Fn := pDr 1 (fun as => as = []) fun _ d => Th (10 ^ 30) 2 160 d
def p_law_bent (n : Nat) : Fn := pDr (6 * n + 6) (fun as => ∃ t b w, as = [t] ∧ n ≤ 40 ∧ Th b n w t ∧ 10 ^ 30 ≤ b ∧ b ≤ 10 ^ 31 ∧ w ≤ 40000) fun as d => ∃ t, as = [t] ∧ BentOk t d
end Bk

/-! Bk: loops that only look. -/
namespace Bk
open PySem PySem.Spec PyProof.Rows L2
section
variable {g : FG} {f : FS} {W : List Nat} {e : DEnv}
@[simp] theorem loop_nil : fLoop g f W [] e = .nx e := rfl
theorem loop_cons {d : D} {ds : List D} : fLoop g f W (d :: ds) e = optE (g d e) fun e1 => (f e1).turn W (fLoop g f W ds) := rfl
/-- each turn goes on with the same slots or ends -/
theorem loop_find {α : Type} (enc : α → D) (p : α → Bool) (o : α → Out) {xs : List α} (h : ∀ a ∈ xs, ∀ k : FS, (optE (g (enc a) e) fun e1 => (f e1).turn W k) = if p a = true then k e else o a) : fLoop g f W (xs.map enc) e = match xs.find? (fun a => !p a) with
  | none => .nx e
  | some a => o a := by
  induction xs with
  | nil => rfl
  | cons x xs ih =>
    rw [List.map_cons, loop_cons, h x List.mem_cons_self, ih fun a ha => h a (List.mem_cons_of_mem _ ha)]
    cases hp : p x with
    | true => rw [if_pos rfl, List.find?_cons_of_neg (by rw [hp]; decide)]
    | false => rw [if_neg (by decide), List.find?_cons_of_pos (by rw [hp]; rfl)]
theorem loop_all {α : Type} (enc : α → D) (p : α → Bool) (o : Out) {xs : List α} (h : ∀ a ∈ xs, ∀ k : FS, (optE (g (enc a) e) fun e1 => (f e1).turn W k) = if p a = true then k e else o) : fLoop g f W (xs.map enc) e = if xs.all p = true then .nx e else o := by
  rw [loop_find enc p (fun _ => o) h]
  cases hf : xs.find? (fun a => !p a) with
  | none =>
    have := List.find?_eq_none.mp hf
    rw [if_pos (List.all_eq_true.mpr fun a ha => by simpa using this a ha)]
  | some a =>
    have h1 := List.find?_some hf
    have h2 := List.mem_of_find?_eq_some hf
    rw [if_neg]
    intro z
    rw [List.all_eq_true.mp z a h2] at h1
    cases h1
theorem loop_allD (p : D → Bool) (o : Out) {xs : List D} (h : ∀ a ∈ xs, ∀ k : FS, (optE (g a e) fun e1 => (f e1).turn W k) = if p a = true then k e else o) : fLoop g f W xs e = if xs.all p = true then .nx e else o := by
  have := loop_all (g := g) (f := f) (W := W) (e := e) (fun d : D => d) p o (xs := xs) h
  rwa [List.map_id'] at this
theorem loop_enum (p : D → Bool) (o : Nat → D → Out) {xs : List D} (h : ∀ i a, xs[i]? = some a → ∀ k : FS, (optE (g (.tup [.int (i : Nat), a]) e) fun e1 => (f e1).turn W k) = if p a = true then k e else o i a) : fLoop g f W (enumD xs) e = match xs.findIdx? (fun a => !p a) with
  | none => .nx e
  | some i => o i (xs[i]?.getD .non) := by
  have go : ∀ (n : Nat) (ys : List D), (∀ i a, ys[i]? = some a → ∀ k : FS, (optE (g (.tup [.int ((i + n : Nat) : Int), a]) e) fun e1 => (f e1).turn W k) = if p a = true then k e else o (i + n) a) → fLoop g f W (ys.mapIdx fun i d => .tup [.int ((i + n : Nat) : Int), d]) e = match ys.findIdx? (fun a => !p a) with
      | none => .nx e
      | some i => o (i + n) (ys[i]?.getD .non) := by
    intro n ys
    induction ys generalizing n with
    | nil => intro _; rfl
    | cons y ys ih =>
      intro h
      have h0 := h 0 y rfl
      rw [Nat.zero_add] at h0
      rw [List.mapIdx_cons, loop_cons, Nat.zero_add, h0]
      have ih' := ih (n + 1) fun i a hi k => by
        have := h (i + 1) a (by simpa using hi) k
        rwa [show i + 1 + n = i + (n + 1) by omega] at this
      have e1 : (fun (i : Nat) (d : D) => D.tup [.int ((i + 1 + n : Nat) : Int), d]) = fun (i : Nat) (d : D) => D.tup [.int ((i + (n + 1) : Nat) : Int), d] := by
        funext i d
        rw [show i + 1 + n = i + (n + 1) by omega]
      rw [e1, ih']
      rw [List.findIdx?_cons]
      cases hp : p y with
      | true =>
        simp only [if_true, Bool.not_true, Bool.false_eq_true, if_false]
        cases ys.findIdx? (fun a => !p a) with
        | none => rfl
        | some i => simp only [Option.map_some]; rw [show i + (n + 1) = i + 1 + n by omega]; simp
      | false => simp
  have := go 0 xs (fun i a hi k => by simpa using h i a hi k)
  simpa [enumD] using this
/-- each turn brings the slots on: from E acc to E (next) -/
theorem loop_fold {α β : Type} (enc : α → D) (E : β → DEnv) (step : β → α → β) (P : β → Prop) {xs : List α} (h : ∀ b, P b → ∀ a ∈ xs, P (step b a) ∧ ∀ k : FS, (optE (g (enc a) (E b)) fun e1 => (f e1).turn W k) = k (E (step b a))) : ∀ {b : β}, P b → fLoop g f W (xs.map enc) (E b) = .nx (E (xs.foldl step b)) ∧ P (xs.foldl step b) := by
  induction xs with
  | nil => intro b hb; exact ⟨rfl, hb⟩
  | cons x xs ih =>
    intro b hb
    obtain ⟨h1, h2⟩ := h b hb x List.mem_cons_self
    obtain ⟨i1, i2⟩ := ih (fun b hb a ha => h b hb a (List.mem_cons_of_mem _ ha)) h1
    refine ⟨?_, i2⟩
    rw [List.map_cons, loop_cons, h2, i1]; rfl
/-- a list is gathered -/
theorem loop_gather {α γ : Type} (enc : α → D) (E : List γ → DEnv) (F : α → List γ) {xs : List α} (n : Nat) (h : ∀ acc : List γ, acc.length ≤ n * xs.length → ∀ a ∈ xs, ∀ k : FS, (optE (g (enc a) (E acc)) fun e1 => (f e1).turn W k) = k (E (acc ++ F a))) (hn : ∀ a ∈ xs, (F a).length ≤ n) : fLoop g f W (xs.map enc) (E []) = .nx (E (xs.flatMap F)) := by
  have go : ∀ (ys : List α) (acc : List γ), (∀ a ∈ ys, a ∈ xs) → acc.length + n * ys.length ≤ n * xs.length → fLoop g f W (ys.map enc) (E acc) = .nx (E (acc ++ ys.flatMap F)) := by
    intro ys
    induction ys with
    | nil => intro acc _ _; simp
    | cons y ys ih =>
      intro acc hm hl
      rw [List.length_cons, Nat.mul_succ] at hl
      have hy := hm y List.mem_cons_self
      have hF := hn y hy
      rw [List.map_cons, loop_cons, h acc (by omega) y hy, ih (acc ++ F y) (fun a ha => hm a (List.mem_cons_of_mem _ ha)) (by rw [List.length_append]; omega)]
      simp
  simpa using go xs [] (fun _ h => h) (by simp)
end
end Bk

/-! Bk: what the checks of cells, formulas and programs compute. -/
namespace Bk
open PySem PySem.Spec PyProof.Rows L2
@[elab_as_elim] theorem thS_cases {P : D → Prop} {d : D} (h : ThS d) (non : P .non) (bl : ∀ b, P (.bl b)) (int : ∀ i, P (.int i)) (str : ∀ x, PyData.strOk x = true → x.length ≤ 100000 → P (.str x)) (lst : ∀ xs, xs.length ≤ 100000 → (∀ x ∈ xs, ThS x) → P (.lst xs)) (tup : ∀ xs, xs.length ≤ 100000 → (∀ x ∈ xs, ThS x) → P (.tup xs)) (dic : P (.dic [])) : P d := by
  cases d with
  | non => exact non
  | bl b => exact bl b
  | int i => exact int i
  | str x =>
    obtain ⟨b, n, w, ht, _, _, hw⟩ := h
    exact str x (th_str_iff ht).1 (Nat.le_trans (th_str_iff ht).2 hw)
  | tup xs => exact tup xs (ths_len' h) fun x hx => ths_item h rfl hx
  | lst xs =>
    obtain ⟨b, n, w, ht, h1, h2, h3⟩ := h
    obtain ⟨n, rfl⟩ : ∃ m, n = m + 1 := by
      have := ht.dep
      rw [D.py, PyData.depth] at this
      exact ⟨n - 1, by omega⟩
    have hs := th_lst.mp ht
    exact lst xs (Nat.le_trans (ths_len hs) h3) fun x hx => ⟨b, n, w, th_mem hs hx, h1, by omega, h3⟩
  | dic kvs =>
    cases kvs with
    | nil => exact dic
    | cons k kvs =>
      obtain ⟨b, n, w, ht, _⟩ := h
      have := ht.g
      rw [D.good] at this
      cases this
  | _ =>
    obtain ⟨b, n, w, ht, _⟩ := h
    have := ht.g
    rw [D.good] at this
    cases this
@[simp] theorem isTy_NoneType_bool : isTy "NoneType" "bool" = false := by decide
@[simp] theorem isTy_NoneType_int : isTy "NoneType" "int" = false := by decide
@[simp] theorem isTy_NoneType_str : isTy "NoneType" "str" = false := by decide
@[simp] theorem isTy_NoneType_list : isTy "NoneType" "list" = false := by decide
@[simp] theorem isTy_NoneType_tuple : isTy "NoneType" "tuple" = false := by decide
@[simp] theorem isTy_NoneType_dict : isTy "NoneType" "dict" = false := by decide
@[simp] theorem isTy_bool_bool : isTy "bool" "bool" = true := by decide
@[simp] theorem isTy_bool_int : isTy "bool" "int" = true := by decide
@[simp] theorem isTy_bool_str : isTy "bool" "str" = false := by decide
@[simp] theorem isTy_bool_list : isTy "bool" "list" = false := by decide
@[simp] theorem isTy_bool_tuple : isTy "bool" "tuple" = false := by decide
@[simp] theorem isTy_bool_dict : isTy "bool" "dict" = false := by decide
@[simp] theorem isTy_int_bool : isTy "int" "bool" = false := by decide
@[simp] theorem isTy_int_int : isTy "int" "int" = true := by decide
@[simp] theorem isTy_int_str : isTy "int" "str" = false := by decide
@[simp] theorem isTy_int_list : isTy "int" "list" = false := by decide
@[simp] theorem isTy_int_tuple : isTy "int" "tuple" = false := by decide
@[simp] theorem isTy_int_dict : isTy "int" "dict" = false := by decide
@[simp] theorem isTy_str_bool : isTy "str" "bool" = false := by decide
@[simp] theorem isTy_str_int : isTy "str" "int" = false := by decide
@[simp] theorem isTy_str_str : isTy "str" "str" = true := by decide
@[simp] theorem isTy_str_list : isTy "str" "list" = false := by decide
@[simp] theorem isTy_str_tuple : isTy "str" "tuple" = false := by decide
@[simp] theorem isTy_str_dict : isTy "str" "dict" = false := by decide
@[simp] theorem isTy_list_bool : isTy "list" "bool" = false := by decide
@[simp] theorem isTy_list_int : isTy "list" "int" = false := by decide
@[simp] theorem isTy_list_str : isTy "list" "str" = false := by decide
@[simp] theorem isTy_list_list : isTy "list" "list" = true := by decide
@[simp] theorem isTy_list_tuple : isTy "list" "tuple" = false := by decide
@[simp] theorem isTy_list_dict : isTy "list" "dict" = false := by decide
@[simp] theorem isTy_tuple_bool : isTy "tuple" "bool" = false := by decide
@[simp] theorem isTy_tuple_int : isTy "tuple" "int" = false := by decide
@[simp] theorem isTy_tuple_str : isTy "tuple" "str" = false := by decide
@[simp] theorem isTy_tuple_list : isTy "tuple" "list" = false := by decide
@[simp] theorem isTy_tuple_tuple : isTy "tuple" "tuple" = true := by decide
@[simp] theorem isTy_tuple_dict : isTy "tuple" "dict" = false := by decide
@[simp] theorem isTy_dict_bool : isTy "dict" "bool" = false := by decide
@[simp] theorem isTy_dict_int : isTy "dict" "int" = false := by decide
@[simp] theorem isTy_dict_str : isTy "dict" "str" = false := by decide
@[simp] theorem isTy_dict_list : isTy "dict" "list" = false := by decide
@[simp] theorem isTy_dict_tuple : isTy "dict" "tuple" = false := by decide
@[simp] theorem isTy_dict_dict : isTy "dict" "dict" = true := by decide
@[simp] theorem mem_ty_bool : ("bool" : String) ∈ tyNames := by decide
@[simp] theorem mem_ty_int : ("int" : String) ∈ tyNames := by decide
@[simp] theorem mem_ty_str : ("str" : String) ∈ tyNames := by decide
@[simp] theorem mem_ty_list : ("list" : String) ∈ tyNames := by decide
@[simp] theorem mem_ty_tuple : ("tuple" : String) ∈ tyNames := by decide
@[simp] theorem mem_ty_dict : ("dict" : String) ∈ tyNames := by decide
@[simp] theorem bls_map {α : Type} (p : α → Bool) (xs : List α) : bls (xs.map fun a => D.bl (p a)) = some (xs.map p) := by
  have := bls_bools (xs.map p)
  rwa [List.map_map] at this
@[simp] theorem signs_lenS (x : Str) : (signs x).length = x.length := signs_len x
@[simp] theorem atI_c0 {α : Type} (a : α) (r : List α) : atI (a :: r) 0 = some a := by rw [show (0 : Int) = ((0 : Nat) : Int) from rfl, atI_nat (by simp)]; rfl
@[simp] theorem atI_c1 {α : Type} (a b : α) (r : List α) : atI (a :: b :: r) 1 = some b := by rw [show (1 : Int) = ((1 : Nat) : Int) from rfl, atI_nat (by simp)]; rfl
@[simp] theorem atI_c2 {α : Type} (a b c : α) (r : List α) : atI (a :: b :: c :: r) 2 = some c := by rw [show (2 : Int) = ((2 : Nat) : Int) from rfl, atI_nat (by simp)]; rfl
@[simp] theorem atI_c3 {α : Type} (a b c d : α) (r : List α) : atI (a :: b :: c :: d :: r) 3 = some d := by rw [show (3 : Int) = ((3 : Nat) : Int) from rfl, atI_nat (by simp)]; rfl
@[simp] theorem atI_c4 {α : Type} (a b c d e : α) (r : List α) : atI (a :: b :: c :: d :: e :: r) 4 = some e := by rw [show (4 : Int) = ((4 : Nat) : Int) from rfl, atI_nat (by simp)]; rfl
@[simp] theorem atI_c5 {α : Type} (a b c d e f : α) (r : List α) : atI (a :: b :: c :: d :: e :: f :: r) 5 = some f := by rw [show (5 : Int) = ((5 : Nat) : Int) from rfl, atI_nat (by simp)]; rfl
@[simp] theorem gNe_int (i j : Int) : gNe (.int i) (.int j) = some (.bl (!decide (i = j))) := by
  unfold gNe
  rw [if_pos ⟨eqOk_int _, eqOk_int _⟩, eqb_int]
@[simp] theorem gEq_int (i j : Int) : gEq (.int i) (.int j) = some (.bl (decide (i = j))) := by
  unfold gEq
  rw [if_pos ⟨eqOk_int _, eqOk_int _⟩, eqb_int]
theorem map_strs {α : Type} (f : α → Str) (xs : List α) : (xs.map fun a => D.str (f a)) = texts (xs.map f) := by
  unfold texts; rw [List.map_map]; rfl
theorem eqb_texts : ∀ a b : List Str, (D.lst (texts a)).eqb (.lst (texts b)) = decide (a = b) := by
  have go : ∀ a b : List Str, PyData.eqvAll (D.pys (texts a)) (D.pys (texts b)) = decide (a = b) := by
    intro a
    induction a with
    | nil =>
      intro b
      cases b with
      | nil => show PyData.eqvAll (D.pys []) (D.pys []) = _; rw [D.pys, PyData.eqvAll]; rfl
      | cons y b => show PyData.eqvAll (D.pys []) (D.pys (.str y :: texts b)) = _; rw [D.pys, D.pys, PyData.eqvAll]; rfl
    | cons x a ih =>
      intro b
      cases b with
      | nil => show PyData.eqvAll (D.pys (.str x :: texts a)) (D.pys []) = _; rw [D.pys, D.pys, PyData.eqvAll]; rfl
      | cons y b =>
        show PyData.eqvAll (D.pys (.str x :: texts a)) (D.pys (.str y :: texts b)) = _
        rw [D.pys, D.pys, PyData.eqvAll, ih]
        have e : PyData.eqv (D.str x).py (D.str y).py = decide (x = y) := eqb_str x y
        rw [e]
        by_cases h1 : x = y <;> by_cases h2 : a = b <;> simp [h1, h2]
  intro a b
  unfold D.eqb
  rw [D.py, D.py, PyData.eqv]
  exact go a b
theorem okd_strs {zs : List Str} {w : Nat} (h : ∀ x ∈ zs, PyData.strOk x = true ∧ x.length ≤ w) : ∀ x ∈ texts zs, Okd 0 w x := fun d hd => by
  obtain ⟨x, hx, rfl⟩ := List.mem_map.mp hd
  exact okd_str (h x hx).1 (h x hx).2
theorem eqOk_strs {zs : List Str} {w : Nat} (h : ∀ x ∈ zs, PyData.strOk x = true ∧ x.length ≤ w) : (D.lst (texts zs)).eqOk = true := (okd_lst (n := zs.length) (k := 0) (okd_strs h) (by rw [texts_len]; exact Nat.le_refl _)).eqOk (by decide)
theorem eqOk_strsT {zs : List Str} {w : Nat} (h : ∀ x ∈ zs, PyData.strOk x = true ∧ x.length ≤ w) : (D.tup (texts zs)).eqOk = true := (okd_tup (n := zs.length) (k := 0) (okd_strs h) (by rw [texts_len]; exact Nat.le_refl _)).eqOk (by decide)
theorem strsF_all : ∀ {xs : List D}, (∀ x ∈ xs, ∃ z, x = D.str z) → ∃ zs, xs = texts zs
  | [], _ => ⟨[], rfl⟩
  | x :: xs, h => by
    obtain ⟨z, rfl⟩ := h x List.mem_cons_self
    obtain ⟨zs, rfl⟩ := strsF_all fun y hy => h y (List.mem_cons_of_mem _ hy)
    exact ⟨z :: zs, rfl⟩
theorem inOrd_sub {ns : List Str} {xs : List D} (h : inOrdB ns xs = true) : ∃ zs, xs = texts zs ∧ ns.filter (fun n => decide (n ∈ zs)) = zs := by
  unfold inOrdB at h
  split at h
  · rename_i zs hz
    exact ⟨zs, strsF_some hz, of_decide_eq_true h⟩
  · cases h
theorem inOrd_texts (ns zs : List Str) : inOrdB ns (texts zs) = decide (ns.filter (fun n => decide (n ∈ zs)) = zs) := by
  unfold inOrdB
  rw [strsF_texts]
theorem inL_low : ∀ c ∈ letters.cps.toList, inL c = true := by decide +kernel
theorem nameB_low {x : Str} (h : lowS x) : nameB (.str x) = true := by
  show (decide (1 ≤ x.length) && decide (x.length ≤ 8) && x.cps.toList.all inL) = true
  rw [decide_eq_true h.1, decide_eq_true h.2.1, Bool.true_and, Bool.true_and, List.all_eq_true]
  exact fun c hc => inL_low c (h.2.2 c hc)
theorem th_str_ok {x : Str} (h : ThS (.str x)) : PyData.strOk x = true ∧ x.length ≤ 100000 := by
  obtain ⟨b, n, w, ht, _, _, hw⟩ := h
  exact ⟨(th_str_iff ht).1, Nat.le_trans (th_str_iff ht).2 hw⟩
theorem str_line {x : Str} (h : x.length ≤ 100000) : x.length ≤ sizeLine := sz _ (by omega)
theorem gIn_sign (c : Nat) : gIn false (.str ⟨#[c]⟩) (.str "abcdefghijklmnopqrstuvwxyz") = some (.bl (inL c)) := rfl
end Bk
namespace Bk.Pa
open PySem PySem.Spec PyProof.Rows L2
theorem is_among_eq {d : D} (h : ThS d) (lo hi : Int) : f_is_among [d, .int lo, .int hi] = .ok (.bl (amongB d lo hi)) := by
  refine thS_cases h ?_ ?_ ?_ ?_ ?_ ?_ ?_ <;> intros <;> simp [f_is_among, fb_is_among, amongB]
  split <;> simp_all
  omega
theorem is_row_eq {d : D} (h : ThS d) (k : Int) : f_is_row [d, .int k] = .ok (.bl (rowB d k)) := by
  refine thS_cases h ?_ ?_ ?_ ?_ ?_ ?_ ?_ <;> intros <;> simp [f_is_row, fb_is_row, rowB]
theorem is_name_eq {d : D} (h : ThS d) : f_is_name [d] = .ok (.bl (nameB d)) := by
  refine thS_cases h ?_ ?_ ?_ ?_ ?_ ?_ ?_ <;> intros <;> simp [f_is_name, fb_is_name, nameB]
  rename_i x _ hx
  rw [if_pos (str_line hx), signs, fGo_map (F := fun c => .bl (inL c)) (h := fun c _ => by simp [fElem, gIn_sign])]
  simp [str_line hx]
  have e1 : ((1 : Int) ≤ (x.length : Nat)) = (1 ≤ x.length) := propext (by omega)
  have e2 : (((x.length : Nat) : Int) ≤ 8) = (x.length ≤ 8) := propext (by omega)
  simp only [e1, e2]
  by_cases h1 : 1 ≤ x.length <;> by_cases h2 : x.length ≤ 8 <;> simp [h1, h2]
theorem names_of_eq (cs : List (Str × Int)) : f_names_of [cellsD cs] = .ok (.lst (texts (cs.map (·.1)))) := by
  simp [f_names_of, fb_names_of, cellsD]
  rw [fGo_map (F := fun c => .str c.1) (h := fun c _ => by simp [fElem, cellD])]
  simp [map_strs]
theorem row_false {d : D} {k : Int} (h : rowB d k = false) {xs : List D} (e : d = .tup xs) : k < xs.length := by
  subst e
  have := of_decide_eq_false (show decide ((xs.length : Int) ≤ k) = false from h)
  omega
theorem in_row {ns : List Str} {d : D} (hn : ns.length ≤ 4) (h : rowB d 4 = false) : inOrdT ns d = false := by
  cases d with
  | tup xs =>
    cases hb : inOrdT ns (.tup xs) with
    | false => rfl
    | true =>
      obtain ⟨zs, rfl, hz⟩ := inOrd_sub hb
      have h4 := List.length_filter_le (fun n => decide (n ∈ zs)) ns
      have := row_false h rfl
      rw [hz] at h4
      rw [texts_len] at this
      omega
  | _ => rfl
theorem gIn_texts {x : Str} {zs : List Str} (hx : nmOk x) (hz : ∀ y ∈ zs, PyData.strOk y = true ∧ y.length ≤ 100000) : gIn false (.str x) (.tup (texts zs)) = some (.bl (decide (x ∈ zs))) := by
  show (if _ then _ else _) = _
  rw [if_pos ⟨eqOk_nm hx, eqOk_strsT hz⟩]
  simp [isIn_texts]
theorem fGo_texts {el : D → Rs (Option D)} (c : Str → Bool) {ns : List Str} (h : ∀ x ∈ ns, el (.str x) = .ok (if c x = true then some (.str x) else none)) : fGo el (texts ns) = .ok (texts (ns.filter c)) := fGo_filter D.str D.str c h
theorem fGo_textsM {el : D → Rs (Option D)} (F : Str → D) {ns : List Str} (h : ∀ x ∈ ns, el (.str x) = .ok (some (F x))) : fGo el (texts ns) = .ok (ns.map F) := fGo_map D.str F h
theorem all_id {α : Type} (p : α → Bool) (xs : List α) : (xs.map p).all id = xs.all p := by rw [List.all_map]; rfl
theorem any_id {α : Type} (p : α → Bool) (xs : List α) : (xs.map p).any id = xs.any p := by rw [List.any_map]; rfl
theorem cells_low {cs : List (Str × Int)} (hc : CellsOk cs) : ∀ x ∈ cs.map (·.1), lowS x := fun x hx => by
  obtain ⟨c, hc', rfl⟩ := List.mem_map.mp hx
  exact hc.low c hc'
theorem cells_nm {cs : List (Str × Int)} (hc : CellsOk cs) : ∀ x ∈ cs.map (·.1), nmOk x := fun x hx => by
  obtain ⟨c, hc', rfl⟩ := List.mem_map.mp hx
  exact hc.nm c hc'
theorem gEq_texts {a b : List Str} (ha : ∀ x ∈ a, nmOk x) (hb : ∀ y ∈ b, PyData.strOk y = true ∧ y.length ≤ 100000) : gEq (.lst (texts a)) (.lst (texts b)) = some (.bl (decide (a = b))) := by
  unfold gEq
  rw [if_pos ⟨eqOk_texts ha, eqOk_strs hb⟩, eqb_texts]
theorem are_in_order_eq {cs : List (Str × Int)} {d : D} (hc : CellsOk cs) (h : ThS d) : f_are_in_order [cellsD cs, d] = .ok (.bl (inOrdT (cs.map (·.1)) d)) := by
  simp [f_are_in_order, fb_are_in_order, is_row_eq h, names_of_eq]
  cases hr : rowB d 4 with
  | false => simp [in_row (ns := cs.map (·.1)) (by rw [List.length_map]; exact hc.len) hr]
  | true =>
    obtain ⟨xs, rfl, hl⟩ := row_tup hr
    have hit : ∀ x ∈ xs, ThS x := fun x hx => ths_item h rfl hx
    simp
    rw [fGo_all (F := fun x => .bl (nameB x)) (h := fun x hx => by simp [fElem, is_name_eq (hit x hx)])]
    cases ha : xs.all nameB with
    | false =>
      simp [-List.all_eq_true, all_id, ha]
      cases hb : inOrdT (cs.map (·.1)) (.tup xs) with
      | false => rfl
      | true =>
        obtain ⟨zs, rfl, hf⟩ := inOrd_sub hb
        rw [List.all_eq_false] at ha
        obtain ⟨y, hy, hn⟩ := ha
        obtain ⟨z, hzm, rfl⟩ := List.mem_map.mp hy
        rw [← hf] at hzm
        exact absurd (nameB_low (cells_low hc z (List.mem_filter.mp hzm).1)) hn
    | true =>
      obtain ⟨zs, rfl⟩ := strsF_all (xs := xs) fun y hy => by
        have := List.all_eq_true.mp ha y hy
        cases y with
        | str z => exact ⟨z, rfl⟩
        | _ => cases this
      have hzs : ∀ x ∈ zs, PyData.strOk x = true ∧ x.length ≤ 100000 := fun x hx => th_str_ok (hit _ (List.mem_map.mpr ⟨x, hx, rfl⟩))
      simp [-List.all_eq_true, all_id, ha, names_of_eq]
      rw [fGo_texts (fun x => decide (x ∈ zs)) (fun x hx => by simp [fElem, gIn_texts (cells_nm hc x hx) hzs]; by_cases hz : x ∈ zs <;> simp [hz])]
      simp [gEq_texts (fun x hx => cells_nm hc x (List.mem_filter.mp hx).1) hzs, inOrdT, inOrd_texts]
theorem two_of {xs : List D} (h : xs.length = 2) : ∃ a b, xs = [a, b] := by
  match xs, h with
  | [a, b], _ => exact ⟨a, b, rfl⟩
theorem three_of {xs : List D} (h : xs.length = 3) : ∃ a b c, xs = [a, b, c] := by
  match xs, h with
  | [a, b, c], _ => exact ⟨a, b, c, rfl⟩
theorem six_of {xs : List D} (h : xs.length = 6) : ∃ a b c d e f, xs = [a, b, c, d, e, f] := by
  match xs, h with
  | [a, b, c, d, e, f], _ => exact ⟨a, b, c, d, e, f, rfl⟩
theorem termB_pair {d : D} (h : termB d = true) : ∃ i b, d = .tup [.int i, b] := by
  unfold termB at h
  split at h
  · exact ⟨_, _, rfl⟩
  · cases h
theorem termB_len {xs : List D} (h : xs.length ≠ 2) : termB (.tup xs) = false := by
  unfold termB
  split
  · rename_i e; cases e; exact absurd rfl h
  · rfl
theorem thS_tup {xs : List D} {b n w : Nat} (h : Ths (10 ^ 32) n w xs) (hn : n ≤ 39) (hw : w ≤ 100000) : ThS (.tup xs) := ⟨_, n + 1, w, th_tup.mpr h, Int.le_refl _, by omega, hw⟩
theorem thS_snds {xs : List D} (h : ThS (.tup xs)) : ThS (.tup (xs.map sndD)) := by
  obtain ⟨b, n, w, ht, h1, h2, h3⟩ := h
  obtain ⟨m, rfl, hs⟩ := tup_items ht
  refine ⟨b, m + 1, w, th_tup.mpr ?_, h1, h2, h3⟩
  have one : ∀ (x : D) (u : Nat), Th b m u x → Th b m u (sndD x) := fun x u hx => by
    unfold sndD
    split
    · rename_i a c
      obtain ⟨k, rfl, hs2⟩ := tup_items hx
      obtain ⟨w1, w2, e, g1, g2⟩ := ths_cons_iff.mp hs2
      obtain ⟨w3, w4, e2, g3, g4⟩ := ths_cons_iff.mp g2
      exact g3.mono (Int.le_refl _) (by omega) (by omega)
    · exact th_non.mono (Int.le_refl _) (Nat.zero_le _) (Nat.zero_le _)
  clear ht h3
  induction xs generalizing w with
  | nil => exact hs.mono (Int.le_refl _) (Nat.le_refl _) (Nat.le_refl _)
  | cons x xs ih =>
    obtain ⟨w1, w2, e, g1, g2⟩ := ths_cons_iff.mp hs
    exact (ths_cons (one x w1 g1) (ih w2 g2)).mono (Int.le_refl _) (Nat.le_refl _) (by omega)
theorem are_terms_eq {cs : List (Str × Int)} {d : D} (hc : CellsOk cs) (h : ThS d) : f_are_terms [cellsD cs, d] = .ok (.bl (termsB (cs.map (·.1)) d)) := by
  simp [f_are_terms, fb_are_terms, is_row_eq h]
  cases hr : rowB d 4 with
  | false =>
    simp
    cases d with
    | tup xs =>
      have := row_false hr rfl
      simp [termsB]
      omega
    | _ => rfl
  | true =>
    obtain ⟨xs, rfl, hl⟩ := row_tup hr
    have hit : ∀ x ∈ xs, ThS x := fun x hx => ths_item h rfl hx
    simp
    rw [loop_allD termB (.rt (.bl false)) (fun a ha k => by
      have hT := hit a ha
      simp [is_row_eq hT]
      cases h2 : rowB a 2 with
      | false =>
        have : termB a = false := by
          cases a with
          | tup ys => exact termB_len (by have := row_false h2 rfl; omega)
          | _ => rfl
        simp [this]
      | true =>
        obtain ⟨ys, rfl, hy⟩ := row_tup h2
        by_cases hy2 : ys.length = 2
        · obtain ⟨u, v, rfl⟩ := two_of hy2
          have hu := ths_item hT rfl (x := u) (by simp)
          simp [is_among_eq hu]
          cases u with
          | int i =>
            simp [amongB, termB, gEq_int]
            by_cases q1 : -9 ≤ i <;> by_cases q2 : i ≤ 9 <;> by_cases q3 : i = 0 <;> simp [q1, q2, q3]
            intro; omega
          | _ => simp [amongB, termB]
        · have : termB (.tup ys) = false := termB_len hy2
          simp [this, show ¬ ((ys.length : Int) = 2) by omega, gEq_int])]
    have h4 : xs.length ≤ 4 := by omega
    cases ha : xs.all termB with
    | false => simp [termsB, ha, -List.all_eq_true]
    | true =>
      simp [termsB, ha, h4, -List.all_eq_true]
      rw [fGo_all (F := sndD) (h := fun x hx => by
        obtain ⟨i, b, rfl⟩ := termB_pair (List.all_eq_true.mp ha x hx)
        simp [fElem, sndD])]
      simp [are_in_order_eq hc (thS_snds h), inOrdT]
end Bk.Pa

/-! Bk: what the checks of formulas compute. -/
namespace Bk
open PySem PySem.Spec PyProof.Rows L2
theorem eqOk_s {z : Str} (h : ThS (.str z)) : (D.str z).eqOk = true := (okd_str (k := 0) (th_str_ok h).1 (th_str_ok h).2).eqOk (by decide)
theorem fault_row {ns : List Str} {d : D} (h : rowB d 4 = false) : faultF ns d = some (.tup []) := by
  cases d with
  | tup xs =>
    replace h : decide ((xs.length : Int) ≤ 4) = false := h
    have := of_decide_eq_false h
    show (if 4 < xs.length then _ else _) = _
    rw [if_pos (by omega)]
  | _ => rfl
theorem fault_case {ns : List Str} {xs : List D} {k : Nat} (hl : xs.length ≤ 4) (h : xs.findIdx? (fun c => !rowB c 4) = some k) : faultF ns (.tup xs) = some (.tup [.int (k : Nat)]) := by
  show (if 4 < xs.length then _ else _) = _
  rw [if_neg (by omega), h]
theorem fault_none {ns : List Str} {xs : List D} (hl : xs.length ≤ 4) (h : xs.findIdx? (fun c => !rowB c 4) = none) (h2 : xs.findIdx? (badCase ns) = none) : faultF ns (.tup xs) = none := by
  show (if 4 < xs.length then _ else _) = _
  rw [if_neg (by omega), h]
  dsimp only
  rw [h2]
theorem fault_test {ns : List Str} {xs : List D} {c : D} {i j : Nat} (hl : xs.length ≤ 4) (h : xs.findIdx? (fun c => !rowB c 4) = none) (h2 : xs.findIdx? (badCase ns) = some i) (hc : xs[i]? = some c) (hj : (itemsD c).findIdx? (fun t => !testB ns t) = some j) : faultF ns (.tup xs) = some (.tup [.int (i : Nat), .int (j : Nat)]) := by
  show (if 4 < xs.length then _ else _) = _
  rw [if_neg (by omega), h]
  dsimp only
  rw [h2]
  dsimp only
  rw [hc, Option.getD_some, (List.findIdx?_eq_some_iff_findIdx_eq.mp hj).2]
theorem bad_of {ns : List Str} {c : D} {j : Nat} (hj : (itemsD c).findIdx? (fun t => !testB ns t) = some j) : badCase ns c = true := by
  obtain ⟨h, h1, _⟩ := List.findIdx?_eq_some_iff_getElem.mp hj
  exact List.any_eq_true.mpr ⟨_, List.getElem_mem h, h1⟩
theorem not_bad {ns : List Str} {c : D} (hj : (itemsD c).findIdx? (fun t => !testB ns t) = none) : badCase ns c = false := by
  refine List.any_eq_false.mpr fun x hx => ?_
  rw [List.findIdx?_eq_none_iff.mp hj x hx]; decide
theorem gIn_strs {neg : Bool} {x : Str} {zs : List Str} (hx : PyData.strOk x = true ∧ x.length ≤ 100000) (hz : ∀ y ∈ zs, PyData.strOk y = true ∧ y.length ≤ 100000) : gIn neg (.str x) (.tup (texts zs)) = some (.bl (if neg then !decide (x ∈ zs) else decide (x ∈ zs))) := by
  show (if _ then _ else _) = _
  rw [if_pos ⟨(okd_str (k := 0) hx.1 hx.2).eqOk (by decide), eqOk_strsT hz⟩]
  simp [isIn_texts]
theorem gIn_strsL {neg : Bool} {x : Str} {zs : List Str} (hx : PyData.strOk x = true ∧ x.length ≤ 100000) (hz : ∀ y ∈ zs, PyData.strOk y = true ∧ y.length ≤ 100000) : gIn neg (.str x) (.lst (texts zs)) = some (.bl (if neg then !decide (x ∈ zs) else decide (x ∈ zs))) := by
  show (if _ then _ else _) = _
  rw [if_pos ⟨(okd_str (k := 0) hx.1 hx.2).eqOk (by decide), eqOk_strs hz⟩]
  simp [isIn_texts]
def opsZ : List Str := ["=", "!=", "<", "<=", ">", ">="]
theorem opsZ_ok : ∀ y ∈ opsZ, PyData.strOk y = true ∧ y.length ≤ 100000 := by decide +kernel
theorem opsZ_D : [D.str "=", D.str "!=", D.str "<", D.str "<=", D.str ">", D.str ">="] = texts opsZ := rfl
theorem opB_str (o : Str) : opB (.str o) = decide (o ∈ opsZ) := rfl
theorem testB_len {ns : List Str} {xs : List D} (h : xs.length ≠ 3) : testB ns (.tup xs) = false := by
  unfold testB
  split
  · rename_i e; cases e; exact absurd rfl h
  · rfl
theorem testB_three {ns : List Str} (t o n : D) : testB ns (.tup [t, o, n]) = (termsB ns t && (opB o && amongB n (-99) 99)) := rfl
/-- how a walk for the first bad item ends -/
def endAt (r : Option Nat) (e : DEnv) (o : Nat → Out) : Out := match r with
  | none => .nx e
  | some i => o i
theorem fault_eq {ns : List Str} {xs : List D} (hl : xs.length ≤ 4) : faultF ns (.tup xs) = match xs.findIdx? (fun c => !rowB c 4) with
  | some i => some (.tup [.int (i : Nat)])
  | none => match xs.findIdx? (badCase ns) with
    | some i => some (.tup [.int (i : Nat), .int (((itemsD (xs[i]?.getD .non)).findIdx fun t => !testB ns t : Nat))])
    | none => none := by
  simp only [faultF]
  rw [if_neg (by omega)]
  all_goals (cases xs.findIdx? (fun c => !rowB c 4) with
    | some i => rfl
    | none => cases xs.findIdx? (badCase ns) <;> rfl)
theorem findIdx_of {xs : List D} {p : D → Bool} {j : Nat} (h : xs.findIdx? p = some j) : xs.findIdx p = j := by
  rw [List.findIdx_eq_getD_findIdx?, h]; rfl
end Bk
namespace Bk.Pa
open PySem PySem.Spec PyProof.Rows L2
theorem is_test_eq {cs : List (Str × Int)} {d : D} (hc : CellsOk cs) (h : ThS d) : f_is_test [cellsD cs, d] = .ok (.bl (testB (cs.map (·.1)) d)) := by
  simp [f_is_test, fb_is_test, is_row_eq h]
  cases hr : rowB d 3 with
  | false =>
    have : testB (cs.map (·.1)) d = false := by
      cases d with
      | tup ys => exact testB_len (by have := row_false hr rfl; omega)
      | _ => rfl
    simp [this]
  | true =>
    obtain ⟨xs, rfl, hl⟩ := row_tup hr
    by_cases h3 : xs.length = 3
    · obtain ⟨t, o, n, rfl⟩ := three_of h3
      have ht := ths_item h rfl (x := t) (by simp)
      have ho := ths_item h rfl (x := o) (by simp)
      have hn := ths_item h rfl (x := n) (by simp)
      rw [testB_three]
      simp [are_terms_eq hc ht, is_among_eq hn]
      cases h1 : termsB (cs.map (·.1)) t with
      | false => simp
      | true =>
        simp
        cases o with
        | str z =>
          simp [opsZ_D, gIn_strs (th_str_ok ho) opsZ_ok, opB_str, is_among_eq hn]
          by_cases q : z ∈ opsZ <;> simp [q]
        | non => simp [opB]
        | bl _ => simp [opB]
        | int _ => simp [opB]
        | tup _ => simp [opB]
        | lst _ => simp [opB]
        | dic _ => simp [opB]
        | _ =>
          obtain ⟨b, n, w, ht, _⟩ := ho
          have := ht.g
          rw [D.good] at this
          cases this
    · have : testB (cs.map (·.1)) (.tup xs) = false := testB_len h3
      simp [this, show ¬ ((xs.length : Int) = 3) by omega]
theorem need_formula_eq {cs : List (Str × Int)} {d : D} (hc : CellsOk cs) (h : ThS d) : f_need_formula [cellsD cs, d] = match faultF (cs.map (·.1)) d with
  | none => .ok d
  | some e => .ex ⟨"BadFormula", [("place", e)]⟩ := by
  simp [f_need_formula, fb_need_formula, is_row_eq h]
  cases hr : rowB d 4 with
  | false => simp [fault_row hr]
  | true =>
    obtain ⟨xs, rfl, hl⟩ := row_tup hr
    have h4 : xs.length ≤ 4 := by omega
    have hz : xs.length ≤ sizeLine := sz _ (by omega)
    have hit : ∀ x ∈ xs, ThS x := fun x hx => ths_item h rfl hx
    simp [hz]
    rw [loop_enum (fun c => rowB c 4) (fun i a => .ex ⟨"BadFormula", [("place", .tup [.int (i : Nat)])]⟩ [some (cellsD cs), some (.tup xs), some (.int (i : Nat)), some a, none, none]) (fun i a ha k => by
      simp [is_row_eq (hit a (List.mem_of_getElem? ha))]
      cases rowB a 4 <;> simp)]
    rw [fault_eq h4]
    cases h1 : xs.findIdx? (fun c => !rowB c 4) with
    | some i => simp
    | none =>
      have hrow : ∀ c ∈ xs, rowB c 4 = true := fun c hc => by simpa using List.findIdx?_eq_none_iff.mp h1 c hc
      simp [hz]
      rw [loop_enum (fun c => !badCase (cs.map (·.1)) c) (fun i a => .ex ⟨"BadFormula", [("place", .tup [.int (i : Nat), .int ((itemsD a).findIdx fun t => !testB (cs.map (·.1)) t : Nat)])]⟩ [some (cellsD cs), some (.tup xs), some (.int (i : Nat)), some a, some (.int ((itemsD a).findIdx fun t => !testB (cs.map (·.1)) t : Nat)), some (((itemsD a)[(itemsD a).findIdx fun t => !testB (cs.map (·.1)) t]?).getD .non)]) (fun i a ha k => by
        have hax := List.mem_of_getElem? ha
        obtain ⟨ys, rfl, hy⟩ := row_tup (hrow a hax)
        have hT := hit _ hax
        simp [show ys.length ≤ sizeLine from sz _ (by omega)]
        rw [loop_enum (fun t => testB (cs.map (·.1)) t) (fun j t => .ex ⟨"BadFormula", [("place", .tup [.int (i : Nat), .int (j : Nat)])]⟩ [some (cellsD cs), some (.tup xs), some (.int (i : Nat)), some (.tup ys), some (.int (j : Nat)), some t]) (fun j t ht k => by
          simp [is_test_eq hc (ths_item hT rfl (List.mem_of_getElem? ht))]
          cases testB (cs.map (·.1)) t <;> simp)]
        cases h2 : ys.findIdx? (fun t => !testB (cs.map (·.1)) t) with
        | none => simp [not_bad (c := .tup ys) h2]
        | some j =>
          simp [bad_of (c := .tup ys) h2, itemsD, findIdx_of h2])]
      simp
      cases h2 : xs.findIdx? (badCase (cs.map (·.1))) with
      | none => simp
      | some i => simp
end Bk.Pa

/-! Bk: what a law's own checks of formulas compute. -/
namespace Bk
open PySem PySem.Spec PyProof.Rows L2
def strB : D → Bool
  | .str _ => true
  | _ => false
end Bk
namespace Bk.Pa
open PySem PySem.Spec PyProof.Rows L2
theorem law_is_whole_eq {d : D} (h : ThS d) (lo hi : Int) : f_law_is_whole [d, .int lo, .int hi] = .ok (.bl (amongB d lo hi)) := is_among_eq h lo hi
theorem gIn_signT (c : Nat) : gIn true (.str ⟨#[c]⟩) (.str "abcdefghijklmnopqrstuvwxyz") = some (.bl (!inL c)) := by
  show some (D.bl (!(!(Builtin.Str.occurrences letters ⟨#[c]⟩ 0 letters.length 1).isEmpty))) = _
  rfl
theorem law_is_name_eq {d : D} (h : ThS d) : f_law_is_name [d] = .ok (.bl (nameB d)) := by
  refine thS_cases h ?_ ?_ ?_ ?_ ?_ ?_ ?_ <;> intros <;> simp [f_law_is_name, fb_law_is_name, nameB]
  rename_i x hs hx
  have e1 : ((1 : Int) ≤ (x.length : Nat)) = (1 ≤ x.length) := propext (by omega)
  have e2 : (((x.length : Nat) : Int) ≤ 8) = (x.length ≤ 8) := propext (by omega)
  simp only [e1, e2, str_line hx, if_true]
  by_cases h1 : 1 ≤ x.length
  · by_cases h2 : x.length ≤ 8
    · have h2' : ((x.length : Nat) : Int) ≤ 8 := by omega
      have h2'' : ¬ (8 : Int) < ((x.length : Nat) : Int) := by omega
      simp only [h1, h2, h2', if_true]
      simp
      have hc : ∀ c ∈ x.cps.toList, PyData.strOk (⟨#[c]⟩ : Str) = true := fun c hm => strOk_iff.mpr fun c' hc' => by
        have : c' = c := by simpa using hc'
        subst this
        exact strOk_iff.mp hs c' (by simpa using hm)
      rw [signs, fGo_filter (F := fun c => D.str ⟨#[c]⟩) (c := fun c => !inL c) (h := fun c _ => by
        simp [fElem, gIn_signT]
        cases inL c <;> simp)]
      simp [h2'']
      rw [show ((x.cps.toList.filter fun c => !inL c).map fun c => D.str ⟨#[c]⟩) = texts ((x.cps.toList.filter fun c => !inL c).map fun c => ⟨#[c]⟩) from map_strs _ _]
      rw [show D.lst [] = D.lst (texts []) from rfl, gEq_texts (fun z hz => by
        obtain ⟨c, hm, rfl⟩ := List.mem_map.mp hz
        exact ⟨hc c (List.mem_filter.mp hm).1, by show 1 ≤ 64; omega⟩) (fun z hz => by simp at hz)]
      simp
      rw [Bool.eq_iff_iff]
      simp only [decide_eq_true_eq, Array.all_eq_true_iff_forall_mem]
    · have h2' : ¬ ((x.length : Nat) : Int) ≤ 8 := by omega
      have h2'' : (8 : Int) < ((x.length : Nat) : Int) := by omega
      simp [h1, h2, h2', h2'']
  · simp [h1]
theorem isStr_turn {x : D} (h : ThS x) : gIsi "str" x = some (.bl (strB x)) := by
  refine thS_cases h ?_ ?_ ?_ ?_ ?_ ?_ ?_ <;> intros <;> simp [strB]
theorem isTup_turn {x : D} (h : ThS x) : gIsi "tuple" x = some (.bl (tupB x)) := by
  refine thS_cases h ?_ ?_ ?_ ?_ ?_ ?_ ?_ <;> intros <;> simp [tupB]
theorem law_in_order_eq {ns : List Str} {d : D} (hn : ∀ x ∈ ns, nmOk x) (h : ThS d) : f_law_in_order [.lst (texts ns), d] = .ok (.bl (inOrdT ns d)) := by
  simp [f_law_in_order, fb_law_in_order, isTup_turn h]
  cases ht : tupB d with
  | false =>
    have : inOrdT ns d = false := by cases d <;> first | rfl | cases ht
    simp [this]
  | true =>
    obtain ⟨xs, rfl⟩ := tupB_is ht
    have hit : ∀ x ∈ xs, ThS x := fun x hx => ths_item h rfl hx
    simp
    rw [fGo_allF (F := fun x => x) (c := fun x => !strB x) (h := fun x hx => by simp [fElem, isStr_turn (hit x hx)]; cases strB x <;> simp)]
    cases ha : xs.all strB with
    | false =>
      obtain ⟨y, hy, hs⟩ := List.all_eq_false.mp ha
      have e : (xs.filter fun x => !strB x).isEmpty = false := by
        rw [List.isEmpty_eq_false_iff_exists_mem]
        exact ⟨y, List.mem_filter.mpr ⟨hy, by simpa using hs⟩⟩
      have : inOrdT ns (.tup xs) = false := by
        cases hb : inOrdT ns (.tup xs) with
        | false => rfl
        | true =>
          obtain ⟨zs, rfl, _⟩ := inOrd_sub hb
          obtain ⟨z, _, rfl⟩ := List.mem_map.mp hy
          exact absurd rfl hs
      simp only [List.map_id', bind_ok, gNeL_eq, opt_some, e, asB_bl, Bool.not_false, out_ok, if_true, then_rt, fn_rt, this, fRet, fC]
    | true =>
      have e : (xs.filter fun x => !strB x) = [] := List.filter_eq_nil_iff.mpr fun x hx => by simpa using List.all_eq_true.mp ha x hx
      obtain ⟨zs, rfl⟩ := strsF_all (xs := xs) fun y hy => by
        have := List.all_eq_true.mp ha y hy
        cases y with
        | str z => exact ⟨z, rfl⟩
        | _ => cases this
      have hzs : ∀ x ∈ zs, PyData.strOk x = true ∧ x.length ≤ 100000 := fun x hx => th_str_ok (hit _ (List.mem_map.mpr ⟨x, hx, rfl⟩))
      simp [e]
      rw [fGo_texts (fun x => decide (x ∈ zs)) (fun x hx => by simp [fElem, gIn_texts (hn x hx) hzs]; by_cases hz : x ∈ zs <;> simp [hz])]
      simp [gEq_texts (fun x hx => hn x (List.mem_filter.mp hx).1) hzs, inOrdT, inOrd_texts]
theorem law_are_terms_eq {ns : List Str} {d : D} (hn : ∀ x ∈ ns, nmOk x) (h : ThS d) : f_law_are_terms [.lst (texts ns), d] = .ok (.bl (termsB ns d)) := by
  simp [f_law_are_terms, fb_law_are_terms, isTup_turn h]
  cases ht : tupB d with
  | false =>
    have : termsB ns d = false := by cases d <;> first | rfl | cases ht
    simp [this]
  | true =>
    obtain ⟨xs, rfl⟩ := tupB_is ht
    have hit : ∀ x ∈ xs, ThS x := fun x hx => ths_item h rfl hx
    simp
    by_cases h4 : xs.length ≤ 4
    · have h4' : ¬ (4 : Int) < xs.length := by omega
      simp [h4']
      rw [loop_allD termB (.rt (.bl false)) (fun a ha k => by
        have hT := hit a ha
        simp [isTup_turn hT]
        cases h2 : tupB a with
        | false =>
          have : termB a = false := by cases a <;> first | rfl | cases h2
          simp [this]
        | true =>
          obtain ⟨ys, rfl⟩ := tupB_is h2
          by_cases hy2 : ys.length = 2
          · obtain ⟨u, v, rfl⟩ := two_of hy2
            have hu := ths_item hT rfl (x := u) (by simp)
            simp [law_is_whole_eq hu]
            cases u with
            | int i =>
              simp [amongB, termB]
              by_cases q1 : -9 ≤ i <;> by_cases q2 : i ≤ 9 <;> by_cases q3 : i = 0 <;> simp [q1, q2, q3]
              intro; omega
            | _ => simp [amongB, termB]
          · have : termB (.tup ys) = false := termB_len hy2
            simp [this, show ¬ ((ys.length : Int) = 2) by omega])]
      cases ha : xs.all termB with
      | false => simp [termsB, ha, -List.all_eq_true]
      | true =>
        simp [termsB, ha, h4, -List.all_eq_true]
        rw [fGo_all (F := sndD) (h := fun x hx => by
          obtain ⟨i, b, rfl⟩ := termB_pair (List.all_eq_true.mp ha x hx)
          simp [fElem, sndD])]
        simp [law_in_order_eq hn (thS_snds h), inOrdT]
    · have h4' : (4 : Int) < xs.length := by omega
      simp [h4', termsB, h4]
theorem law_is_test_eq {ns : List Str} {d : D} (hn : ∀ x ∈ ns, nmOk x) (h : ThS d) : f_law_is_test [.lst (texts ns), d] = .ok (.bl (testB ns d)) := by
  simp [f_law_is_test, fb_law_is_test, isTup_turn h]
  cases ht : tupB d with
  | false =>
    have : testB ns d = false := by cases d <;> first | rfl | cases ht
    simp [this]
  | true =>
    obtain ⟨xs, rfl⟩ := tupB_is ht
    by_cases h3 : xs.length = 3
    · obtain ⟨t, o, n, rfl⟩ := three_of h3
      have ht := ths_item h rfl (x := t) (by simp)
      have ho := ths_item h rfl (x := o) (by simp)
      have hnn := ths_item h rfl (x := n) (by simp)
      rw [testB_three]
      simp [law_are_terms_eq hn ht]
      cases h1 : termsB ns t with
      | false => simp
      | true =>
        simp [isStr_turn ho]
        cases o with
        | str z =>
          simp [strB, opsZ_D, gIn_strsL (th_str_ok ho) opsZ_ok, opB_str, law_is_whole_eq hnn]
          by_cases q : z ∈ opsZ <;> simp [q, law_is_whole_eq hnn]
        | _ => simp [opB, strB]
    · have : testB ns (.tup xs) = false := testB_len h3
      simp [this, show ¬ ((xs.length : Int) = 3) by omega]
theorem rowB_tup (xs : List D) : rowB (.tup xs) 4 = decide (xs.length ≤ 4) := by
  show decide ((xs.length : Int) ≤ 4) = _
  exact decide_eq_decide.mpr (by omega)
theorem row4_law {a : D} (h : ThS a) {e : DEnv} {i : Nat} (hi : nth e i = some a) : fOr (fNot (fTst (fB1 (gIsi "tuple") (fVar i)))) (fTst (fOp gGt (fB1 gLen (fVar i)) (fC (.int 4)))) e = .ok (!rowB a 4) := by
  simp [hi, isTup_turn h]
  cases ht : tupB a with
  | false =>
    have : rowB a 4 = false := by cases a <;> first | rfl | cases ht
    simp [this]
  | true =>
    obtain ⟨xs, rfl⟩ := tupB_is ht
    rw [rowB_tup]
    by_cases h4 : xs.length ≤ 4
    · simp [h4, show ¬ (4 : Int) < xs.length by omega]
    · simp [h4, show (4 : Int) < xs.length by omega]
theorem law_formula_fault_eq {ns : List Str} {d : D} (hn : ∀ x ∈ ns, nmOk x) (h : ThS d) : f_law_formula_fault [.lst (texts ns), d] = .ok ((faultF ns d).getD .non) := by
  simp only [f_law_formula_fault, fb_law_formula_fault, fSeq, fIfS]
  rw [row4_law h (by simp)]
  cases hr : rowB d 4 with
  | false => simp [fault_row hr]
  | true =>
    obtain ⟨xs, rfl, hl⟩ := row_tup hr
    have h4 : xs.length ≤ 4 := by omega
    have hz : xs.length ≤ sizeLine := sz _ (by omega)
    have hit : ∀ x ∈ xs, ThS x := fun x hx => ths_item h rfl hx
    simp [hz, -fOr, -fNot]
    rw [loop_enum (fun c => rowB c 4) (fun i a => .rt (.tup [.int (i : Nat)])) (fun i a ha k => by
      have hT := hit a (List.mem_of_getElem? ha)
      simp only [fgTup_eq, fgCons_eq, fgName, fgNil_eq, Option.bind, List.length_cons, List.length_nil, if_true, optE_some, fIfS]
      rw [row4_law hT (by simp)]
      cases rowB a 4 <;> simp)]
    rw [fault_eq h4]
    cases h1 : xs.findIdx? (fun c => !rowB c 4) with
    | some i => simp
    | none =>
      have hrow : ∀ c ∈ xs, rowB c 4 = true := fun c hc => by simpa using List.findIdx?_eq_none_iff.mp h1 c hc
      simp [hz]
      rw [loop_enum (fun c => !badCase ns c) (fun i a => .rt (.tup [.int (i : Nat), .int ((itemsD a).findIdx fun t => !testB ns t : Nat)])) (fun i a ha k => by
        have hax := List.mem_of_getElem? ha
        obtain ⟨ys, rfl, hy⟩ := row_tup (hrow a hax)
        have hT := hit _ hax
        simp [show ys.length ≤ sizeLine from sz _ (by omega)]
        rw [loop_enum (fun t => testB ns t) (fun j t => .rt (.tup [.int (i : Nat), .int (j : Nat)])) (fun j t ht k => by
          simp [law_is_test_eq hn (ths_item hT rfl (List.mem_of_getElem? ht))]
          cases testB ns t <;> simp)]
        cases h2 : ys.findIdx? (fun t => !testB ns t) with
        | none => simp [not_bad (c := .tup ys) h2]
        | some j => simp [bad_of (c := .tup ys) h2, itemsD, findIdx_of h2])]
      simp
      cases h2 : xs.findIdx? (badCase ns) with
      | none => simp
      | some i => simp
end Bk.Pa

/-! Bk: what is told of a call; fields of exceptions; terms at work. -/
namespace Bk
open PySem PySem.Spec PyProof.Rows L2
section
variable {M : List Nat} {a : FX} {wa : Exp} {s0 ws : S} {fe we : DEnv}
/-! ### exceptions as values -/
def isEF (kn : List Str) (m : Str) : F1
  | .exc c _ => if c ∈ kn then some (.bl (subC c m)) else none
  | _ => none
def fldEF (kn : List Str) (x : Str) : F1
  | .exc c fs => if c ∈ kn then fs.lookup x else none
  | _ => none
theorem ax_isE {kn : List Str} {m : Str} (ha : AX M a wa) : AX M (fB1 (isEF kn m) a) (dIsE kn m wa) := fun s0 fe we ws h R E q => by
  refine ha s0 fe we ws h _ E (run_mono (run_bind.mp q) (fun x q => ?_) fun _ k => k)
  obtain ⟨d, e, q⟩ := run_opt q
  cases x with
  | exc c fs =>
    rw [isEF] at e
    split at e
    · rename_i hk; cases e; exact ⟨hk, q⟩
    · cases e
  | _ => cases e
theorem ax_fldE {kn : List Str} {m : Str} (ha : AX M a wa) : AX M (fB1 (fldEF kn m) a) (dFldE kn m wa) := fun s0 fe we ws h R E q => by
  refine ha s0 fe we ws h _ E (run_mono (run_bind.mp q) (fun x q => ?_) fun _ k => k)
  obtain ⟨d, e, q2⟩ := run_opt q
  clear q
  cases x with
  | exc c fs =>
    rw [fldEF] at e
    split at e
    · rename_i hk; exact ⟨hk, d, e, q2⟩
    · cases e
  | _ => cases e
/-! ### what is told of a call -/
def toldF (kn cs : List Str) (kinds : FF) : Rs D → Rs D
  | .ok d => .ok (.lst [d])
  | .ex x => if x.c ∈ kn then (if cs.any (subC x.c) = true then kinds [.exc x.c x.fs] else .ex x) else .no
  | .no => .no
theorem toldF_ok {kn cs : List Str} {kinds : FF} (d : D) : toldF kn cs kinds (.ok d) = .ok (.lst [d]) := rfl
theorem toldF_ex {kn cs : List Str} {kinds : FF} {x : Ex} (hk : x.c ∈ kn) (hc : cs.any (subC x.c) = true) : toldF kn cs kinds (.ex x) = kinds [.exc x.c x.fs] := by
  show (if x.c ∈ kn then (if cs.any (subC x.c) = true then kinds [.exc x.c x.fs] else .ex x) else .no) = _
  rw [if_pos hk, if_pos hc]
/-- what is known of a def that calls what it is handed -/
def Tells (N : List Str) (t : Act → Addr → List D → List V → DTS) (told : Rs D → Rs D) : Prop := ∀ (act : Act) (r : Rs D) (s : S) (f : Addr) (xs : List D) (vs : List V) (R : Q1) (E : XQ), (∀ R E, r.run (fun d => R d s) (fun x => E x s) → act s R E) → (told r).run (fun d => R d s) (fun x => E x s) → t act f xs vs (fnEnds R E) (dstart N [.clo f xs vs]) s
@[simp] def fLam (told : Rs D → Rs D) (a : FX) (e : DEnv) : Rs D := told (a e)
theorem ax_lam {N : List Str} {t : Act → Addr → List D → List V → DTS} {told : Rs D → Rs D} (h : Tells N t told) (ha : AX M a wa) : AX M (fLam told a) (dLam N t wa) := fun s0 fe we ws hr R E q f xs vs =>
  h _ (a fe) ws f xs vs R E (fun R E q => ha s0 fe we ws hr R E q) q
theorem tells_mk {kn cs : List Str} {kinds : FF} {N : List Str} (hN : N.length = 4 := by rfl) : Tells N (fun act f xs vs => (dSeq (dAsg (dTup (dCons (dC .non) (dCons (dC .non) dNil))) (gdTup 2 (gdCons (gdName 1) (gdCons (gdName 2) gdNil))))
  (dSeq (dTryHold kn cs 3 1 (dSet 2 (dAct f xs vs act)))
  (dRet (dIf (dTst (dOp (oIsN false) (dVar 1) (dC .non))) (dLst (dCons (dVar 2) dNil)) (dCall 1 (pF kinds) (dCons (dVar 1) dNil))))))) (toldF kn cs kinds) := by
  intro act r s f xs vs R E ha hq
  have e0 : dstart N [.clo f xs vs] = [some (.clo f xs vs), none, none, none] := by rw [dstart_eq, hN]; rfl
  rw [e0]
  refine ⟨sz _ (show 2 ≤ _ by omega), rfl, rfl, rfl, ?_⟩
  cases r with
  | ok d => exact ha _ _ ⟨sz _ (show 1 ≤ _ by omega), ⟨s, Sub.refl s, hq⟩⟩
  | no => exact hq.elim
  | ex x =>
    refine ha _ _ ?_
    rw [toldF] at hq
    split at hq
    · rename_i hk
      refine ⟨hk, ?_⟩
      split at hq
      · rename_i hc
        rw [if_pos hc]
        refine ⟨rfl, ?_⟩
        exact run_mono hq (fun d q => ⟨s, Sub.refl s, q⟩) fun x q => ⟨s, Sub.refl s, q⟩
      · rename_i hc
        rw [if_neg hc]
        exact ⟨s, Sub.refl s, hq⟩
    · exact hq.elim
/-! ### terms at work -/
theorem Rl.self (e : DEnv) (s : S) : Rl [] s e e s := ⟨rfl, Sub.refl s, fun _ _ _ h => h, fun _ _ h => (nomatch h), fun _ _ _ h => (nomatch h)⟩
theorem Rl.selfM (M : List Nat) (e : DEnv) (s : S) : Rl M s (dwipe e M) e s := by
  have no : ∀ (M : List Nat) (i : Nat) (d : D), i ∈ M → nth (dwipe e M) i = some d → False := by
    intro M
    induction M with
    | nil => intro i d h; cases h
    | cons j M ih =>
      intro i d h q
      rw [dwipe, nth_dset] at q
      split at q
      · cases q
      · rename_i z
        rcases List.mem_cons.mp h with rfl | h
        · have := nth_lt q
          rw [dwipe_len] at this
          exact z ⟨rfl, by rw [dwipe_len]; exact this⟩
        · exact ih i d h q
  have yes : ∀ (M : List Nat) (i : Nat) (d : D), nth (dwipe e M) i = some d → nth e i = some d := by
    intro M
    induction M with
    | nil => intro i d h; exact h
    | cons j M ih =>
      intro i d q
      rw [dwipe, nth_dset] at q
      split at q
      · cases q
      · exact ih i d q
  exact ⟨dwipe_len e M, Sub.refl s, fun i d _ q => yes M i d q, fun i d hi q => (no M i d hi q).elim, fun i j p hi _ _ q => by
    cases z : nth (dwipe e M) i with
    | none => exact (q z).elim
    | some d => exact (no M i d hi z).elim⟩
section
variable {M : List Nat} {f : FX} {ft : FT} {g : FS} {w : Exp} {wt : Tst} {u v : DTS} {e e' : DEnv} {s : S} {DD : DEnds} {d : D} {i : Nat} {R : Q1} {E : XQ} {b : Bool} {RB : Bool → S → Prop}
theorem use_ax (h : AX M f w) (hf : f (dwipe e M) = .ok d) (q : R d s) : w e s R E := h s _ e s (Rl.selfM M e s) R E (by rw [hf]; exact q)
theorem use_at (h : AT M ft wt) (hf : ft (dwipe e M) = .ok b) (q : RB b s) : wt e s RB E := h s _ e s (Rl.selfM M e s) RB E (by rw [hf]; exact q)
theorem use_as (h : AS M g u) (hf : g (dwipe e M) = .nx e') (q : ∀ we ws, Rl M s e' we ws → DD.nx we ws) : u DD e s := h s _ e s (Rl.selfM M e s) DD (by rw [hf]; exact q)
theorem use_loop {W : List Nat} (V : List Nat) (h : AS M g u) {ds : List D} (hi : i ∉ M) (hf : fLoop (fgName i) g W ds (dwipe (dwipe e M) V) = .nx e') (q : ∀ we ws, Rl M s e' we ws → DD.nx we ws) : dLoop (gdName i) u DD ds e s :=
  loop_run (ag_name i hi) h ds s _ e s ((Rl.selfM M e s).forgets V) DD (by rw [hf]; exact q)
theorem seq_set (h : AX M f w) (hf : f (dwipe e M) = .ok d) (q : v DD (dset e i (some d)) s) : dSeq (dSet i w) v DD e s := use_ax h hf q
theorem seq_as (h : AS M g u) (hf : g (dwipe e M) = .nx e') (q : ∀ we ws, Rl M s e' we ws → v DD we ws) : dSeq u v DD e s := show u { DD with nx := v DD } e s from use_as h hf q
end
end
/-! ### the end of a law -/
/-- the slots of a law's loop: the script, the draws -/
structure LawE (ns : List Int) (p : Addr) (L : Nat) (e : DEnv) : Prop where
  len : e.length = L
  scr : nth e 0 = some (.scr ns)
  gen : nth e 1 = some (.rf (.ref p))
/-- m draws are left -/
def Left (p : Addr) (m : Nat) (s : S) : Prop := ∃ k, m ≤ k ∧ s.g = some (p, k)
theorem Left.of_sub {p : Addr} {m : Nat} {s t : S} (h : Sub s t) (l : Left p m s) : Left p m t := by
  obtain ⟨k, hk, e⟩ := l
  obtain ⟨k2, h2, e2⟩ := h.g p k e
  exact ⟨k2, Nat.le_trans hk h2, e2⟩
theorem Left.mono {p : Addr} {m n : Nat} {s : S} (l : Left p m s) (h : n ≤ m) : Left p n s := by
  obtain ⟨k, hk, e⟩ := l
  exact ⟨k, Nat.le_trans h hk, e⟩
/-- a draw, whatever else the state holds -/
theorem use_drL {c m : Nat} {pre : List D → Prop} {Pd : List D → D → Prop} {p : Addr} {as : List D} {s : S} {R : Q1} {E : XQ} (hl : Left p (c + m) s) (hp : pre as) (h : ∀ d s', Pd as d → s'.mu = s.mu → Left p m s' → R d s') : pDr c pre Pd (.rf (.ref p) :: as) s R E := by
  obtain ⟨k, hk, hg⟩ := hl
  obtain ⟨mu, g⟩ := s
  cases hg
  exact ⟨mu, p, k, as, rfl, rfl, by omega, hp, fun d hd => h d _ hd rfl ⟨k - c, by omega, rfl⟩⟩
theorem law_loop {ns : List Int} {p : Addr} {L c : Nat} {tb : DTS} {DD : DEnds} (hb : ∀ (m : Nat) (d : D) (e : DEnv) (s : S) (K : DEnv → S → Prop), LawE ns p L e → Left p (c + m) s → (∀ e' s', LawE ns p L e' → Left p m s' → K e' s') → tb { DD with nx := K, ct := K, bk := DD.nx } (dset e 2 (some d)) s)
    (hend : ∀ e s, LawE ns p L e → DD.nx e s) (ds : List D) (e : DEnv) (s : S) (he : LawE ns p L e) (hl : Left p (c * ds.length) s) : dLoop (gdName 2) tb DD ds e s := by
  refine loop_inv (fun rest e s => LawE ns p L e ∧ Left p (c * rest.length) s) (fun e s h => hend e s h.1) ?_ ds e s ⟨he, hl⟩
  rintro d ds e s K ⟨h1, h2⟩ hK
  refine hb (c * ds.length) d e s K h1 (h2.mono (by rw [List.length_cons, Nat.mul_succ]; omega)) fun e' s' a b => hK e' s' ⟨a, b⟩
theorem law_run {N : List Str} {a b : Int} {tb te : DTS} {L c : Nat} {ns : List Int} {DD : DEnds} (hn : ns.length ≤ 63) (hL : N.length = L) (h2 : 3 ≤ L) (ha : 0 ≤ a ∧ a ≤ 100) (hb : 0 ≤ b ∧ b ≤ 100) (hc : c * 200 ≤ 1125899906842624)
    (hbody : ∀ (p : Addr) (m : Nat) (d : D) (e : DEnv) (s : S) (K : DEnv → S → Prop), LawE ns p L e → Left p (c + m) s → (∀ e' s', LawE ns p L e' → Left p m s' → K e' s') → tb { DD with nx := K, ct := K, bk := te DD } (dset e 2 (some d)) s)
    (hend : ∀ p e s, LawE ns p L e → te DD e s) :
    dSeq (dSet 1 (dCall 1 p_law_begun (dCons (dVar 0) dNil))) (dSeq (dFor (dRng1 (dCons (dOp oAdd (dC (.int a)) (dBlt (c2I fun i j => if j < i then j else i) (dCons (dBlt cLen (dCons (dVar 0) dNil)) (dCons (dC (.int b)) dNil)))) dNil)) (gdName 2) tb) te) DD (dstart N [.scr ns]) ⟨fun _ => none, none⟩ := by
  obtain ⟨rest, hrest⟩ : ∃ k, N.length - 1 = k + 2 := ⟨N.length - 3, by omega⟩
  have e0 : dstart N [.scr ns] = some (.scr ns) :: none :: none :: List.replicate rest none := by
    rw [dstart_eq]
    show [some (D.scr ns)] ++ List.replicate (N.length - 1) none = _
    rw [hrest]; rfl
  rw [e0]
  refine ⟨rfl, ns, rfl, rfl, fun p => ?_⟩
  refine ⟨ns.map .int, rfl, ?_⟩
  have hmin : ∃ k : Int, 0 ≤ k ∧ k ≤ b ∧ (if b < ((ns.map D.int).length : Nat) then b else (((ns.map D.int).length : Nat) : Int)) = k := by
    rw [List.length_map]
    split
    · exact ⟨b, by omega, by omega, rfl⟩
    · exact ⟨_, by omega, by omega, rfl⟩
  obtain ⟨k, k0, k1, hk⟩ := hmin
  refine ⟨⟨(show -(2 ^ 62) ≤ a + (if b < ((ns.map D.int).length : Nat) then b else (((ns.map D.int).length : Nat) : Int)) by rw [hk]; omega), (show a + (if b < ((ns.map D.int).length : Nat) then b else (((ns.map D.int).length : Nat) : Int)) < 2 ^ 62 by rw [hk]; omega)⟩, ?_⟩
  refine law_loop (ns := ns) (p := p) (L := L) (c := c) (fun m d e s K h1 h2 h3 => hbody p m d e s K h1 h2 h3) (fun e s h => hend p e s h) _ _ _ ⟨?_, rfl, rfl⟩ ⟨_, ?_, rfl⟩
  · show (some (D.scr ns) :: some (D.rf (.ref p)) :: none :: List.replicate rest none).length = L
    simp only [List.length_cons, List.length_replicate]
    omega
  · rw [rangeD_len]
    show c * (a + (if b < ((ns.map D.int).length : Nat) then b else (((ns.map D.int).length : Nat) : Int))).toNat ≤ 1125899906842624
    rw [hk]
    refine Nat.le_trans (Nat.mul_le_mul_left c (show (a + k).toNat ≤ 200 by omega)) hc
end Bk

/-! Qa: what the defs do with deep data. -/
namespace Bk.Qa
open PySem PySem.Spec PyProof.Rows L2
abbrev N_law_odd : List Str := ["_law_m", "_law_some"]
/-- _law_odd: 0 _law_m 1 _law_some -/
def t_law_odd : DTS := (dSeq (dSet 1 (dLst (dCons (dC .non) (dCons (dC (.int 0)) (dCons (dC (.int 1)) (dCons (dC (.int 2)) (dCons (dC (.int 4)) (dCons (dUn oNeg (dC (.int 1))) (dCons (dC (.int 100)) (dCons (dC (.bl true)) (dCons (dC (.bl false)) (dCons (dC (.str "")) (dCons (dC (.str "a")) (dCons (dC (.str "abcdefghi")) (dCons (dC (.str "A")) (dCons (dC (.str "=")) (dCons (dC (.str "one")) (dCons (dTup dNil) (dCons (dTup (dCons (dTup dNil) dNil)) (dCons (dTup (dCons (dC (.str "a")) (dCons (dC (.int 1)) dNil))) dNil))))))))))))))))))))
  (dRet (dOp oIx (dOp oAdd (dVar 1) (dLst (dCons (dLst dNil) (dCons dDict0 (dCons (dOp oPow (dC (.int 10)) (dC (.int 30))) (dCons (dTup (dCons (dTup (dCons (dC (.str "a")) dNil)) dNil)) (dCons (dTup (dCons (dTup (dCons (dC (.int 1)) (dCons (dC (.str "a")) dNil))) dNil)) (dCons (dC (.str "last")) (dCons (dC (.str "a1")) (dCons (dC (.str "a-b")) dNil)))))))))) (dCall 2 p_law_next (dCons (dVar 0) (dCons (dC (.int 26)) dNil))))))
abbrev N_law_bent : List Str := ["_law_m", "_law_thing", "_law_at", "_law_way"]
/-- _law_bent: 0 _law_m 1 _law_thing 2 _law_at 3 _law_way -/
def t_law_bent_b1 (q : Fn) : DTS := (dSeq (dPar 2 3 (dCons (dCall 2 p_law_next (dCons (dVar 0) (dCons (dBlt cLen (dCons (dVar 1) dNil)) dNil))) (dCons (dCall 2 p_law_next (dCons (dVar 0) (dCons (dC (.int 11)) dNil))) dNil)))
  (dSeq (dIfS (dTst (dOp oEq (dVar 3) (dC (.int 0)))) (dRet (dOp oAdd (dSl (dVar 1) dNoPart (dPart (dVar 2))) (dSl (dVar 1) (dPart (dOp oAdd (dVar 2) (dC (.int 1)))) dNoPart))) dNext)
  (dSeq (dIfS (dTst (dOp oEq (dVar 3) (dC (.int 1)))) (dRet (dOp oAdd (dVar 1) (dSl (dVar 1) (dPart (dVar 2)) (dPart (dOp oAdd (dVar 2) (dC (.int 1))))))) dNext)
  (dSeq (dIfS (dTst (dOp oEq (dVar 3) (dC (.int 2)))) (dRet (dBlt cList (dCons (dVar 1) dNil))) dNext)
  (dSeq (dIfS (dTst (dOp oEq (dVar 3) (dC (.int 3)))) (dRet (dOp oAdd (dOp oAdd (dSl (dVar 1) dNoPart (dPart (dVar 2))) (dTup (dCons (dCall 1 p_law_odd (dCons (dVar 0) dNil)) dNil))) (dSl (dVar 1) (dPart (dVar 2)) dNoPart))) dNext)
  (dSeq (dIfS (dTst (dOp oEq (dVar 3) (dC (.int 4)))) (dRet (dBack (dVar 1))) dNext)
  (dRet (dOp oAdd (dOp oAdd (dSl (dVar 1) dNoPart (dPart (dVar 2))) (dTup (dCons (dCall 2 q (dCons (dVar 0) (dCons (dOp oIx (dVar 1) (dVar 2)) dNil))) dNil))) (dSl (dVar 1) (dPart (dOp oAdd (dVar 2) (dC (.int 1)))) dNoPart)))))))))
def t_law_bent_b2 (q : Fn) : DTS := (dSeq (dIfS (dOr (dNot (dTst (dBlt cIsi (dCons (dVar 1) (dCons (dC (.rf (.ty "tuple"))) dNil))))) (dOr (dTst (dOp oEqE (dVar 1) (dTup dNil))) (dTst (dOp oEq (dCall 2 p_law_next (dCons (dVar 0) (dCons (dC (.int 6)) dNil))) (dC (.int 0)))))) (dRet (dCall 1 p_law_odd (dCons (dVar 0) dNil))) dNext)
  (t_law_bent_b1 q))
def t_law_bent_b3 (q : Fn) : DTS := (dSeq (dIfS (dAnd (dTst (dBlt cIsi (dCons (dVar 1) (dCons (dC (.rf (.ty "int"))) dNil)))) (dAnd (dNot (dTst (dBlt cIsi (dCons (dVar 1) (dCons (dC (.rf (.ty "bool"))) dNil))))) (dTst (dOp oEq (dCall 2 p_law_next (dCons (dVar 0) (dCons (dC (.int 2)) dNil))) (dC (.int 0)))))) (dRet (dOp oAdd (dVar 1) (dOp oIx (dLst (dCons (dC (.int 1)) (dCons (dUn oNeg (dC (.int 1))) (dCons (dC (.int 3)) (dCons (dUn oNeg (dC (.int 3))) (dCons (dC (.int 100)) (dCons (dUn oNeg (dC (.int 100))) dNil))))))) (dCall 2 p_law_next (dCons (dVar 0) (dCons (dC (.int 6)) dNil)))))) dNext)
  (t_law_bent_b2 q))
def t_law_bent (q : Fn) : DTS := (dSeq (dIfS (dAnd (dTst (dBlt cIsi (dCons (dVar 1) (dCons (dC (.rf (.ty "str"))) dNil)))) (dTst (dOp oEq (dCall 2 p_law_next (dCons (dVar 0) (dCons (dC (.int 2)) dNil))) (dC (.int 0))))) (dRet (dOp oIx (dLst (dCons (dOp oAdd (dVar 1) (dC (.str "b"))) (dCons (dSl (dVar 1) (dPart (dC (.int 1))) dNoPart) (dCons (dOp oAdd (dVar 1) (dC (.str "A"))) (dCons (dOp oAdd (dVar 1) (dC (.str " "))) (dCons (dOp oMulS (dVar 1) (dC (.int 2))) (dCons (dOp oAdd (dVar 1) (dC (.str "1"))) dNil))))))) (dCall 2 p_law_next (dCons (dVar 0) (dCons (dC (.int 6)) dNil))))) dNext)
  (t_law_bent_b3 q))
end Bk.Qa

/-! Bk: odd things, bent things. -/
namespace Bk.Qa
open PySem PySem.Spec PyProof.Rows L2
theorem ty_tup (d : D) : isTy (kind d) "tuple" = tupB d := by
  cases d with
  | tup _ => show isTy "tuple" "tuple" = true; decide
  | non => show isTy "NoneType" "tuple" = false; decide
  | bl _ => show isTy "bool" "tuple" = false; decide
  | int _ => show isTy "int" "tuple" = false; decide
  | str _ => show isTy "str" "tuple" = false; decide
  | lst _ => show isTy "list" "tuple" = false; decide
  | dic _ => show isTy "dict" "tuple" = false; decide
  | _ => show isTy "" "tuple" = false; decide
theorem exp_tup {e : DEnv} {s : S} {E : XQ} {K : Bool → S → Prop} {i : Nat} {d : D} (h : nth e i = some d) (hd : ThS d) (q : K (tupB d) s) : dTst (dBlt cIsi (dCons (dVar i) (dCons (dC (.rf (.ty "tuple"))) dNil))) e s K E := by
  obtain ⟨b, n, w, ht, _⟩ := hd
  refine tst_of _ (fun K q => exp_isi h ht.g (mem_ty (.inr (.inr (.inr rfl)))) q) ?_
  rw [ty_tup]; exact q
def oddL : List D := [.non, .int 0, .int 1, .int 2, .int 4, .int (-1), .int 100, .bl true, .bl false, .str "", .str "a", .str "abcdefghi", .str "A", .str "=", .str "one", .tup [], .tup [.tup []], .tup [.str "a", .int 1]] ++
  [.lst [], .dic [], .int (10 ^ 30), .tup [.tup [.str "a"]], .tup [.tup [.int 1, .str "a"]], .str "last", .str "a1", .str "a-b"]
theorem odd_th : ∀ x ∈ oddL, Th (10 ^ 30) 2 160 x := by
  have si : ∀ {n : Nat} (i : Int), -(10 ^ 30) ≤ i → i ≤ 10 ^ 30 → Th (10 ^ 30) n 120 (.int i) := fun i h1 h2 => th_int h1 h2 (by decide)
  have ss : ∀ {n : Nat} (x : Str), PyData.strOk x = true → x.length ≤ 16 → Th (10 ^ 30) n 16 (.str x) := fun x h1 h2 => th_c h1 h2
  have na : Th (10 ^ 30) 0 16 (.str "a") := ss _ (by decide +kernel) (by decide +kernel)
  have n0 : ∀ n, Th (10 ^ 30) n 0 .non := fun n => ⟨by rw [D.good], by rw [D.py, PyData.depth]; exact Nat.zero_le _, by rw [D.py, PyData.weight]; exact Nat.zero_le _⟩
  have nb : ∀ n b, Th (10 ^ 30) n 0 (.bl b) := fun n b => ⟨by rw [D.good], by rw [D.py, PyData.depth]; exact Nat.zero_le _, by rw [D.py, PyData.weight]; exact Nat.zero_le _⟩
  have le := Int.le_refl ((10 : Int) ^ 30)
  have t1 : ∀ {n w : Nat} {d : D}, Th (10 ^ 30) n w d → Th (10 ^ 30) (n + 1) (w + 1) (.tup [d]) := fun h => (th_tup.mpr ((ths_cons h ths_nil).mono (Int.le_refl _) (Nat.le_refl _) (by omega)))
  intro x hx
  simp only [oddL, List.cons_append, List.nil_append, List.mem_cons, List.not_mem_nil, or_false] at hx
  rcases hx with rfl | rfl | rfl | rfl | rfl | rfl | rfl | rfl | rfl | rfl | rfl | rfl | rfl | rfl | rfl | rfl | rfl | rfl | rfl | rfl | rfl | rfl | rfl | rfl | rfl | rfl
  · exact (n0 2).mono le (by omega) (by omega)
  · exact (si (n := 2) 0 (by decide) (by decide)).mono le (by omega) (by omega)
  · exact (si (n := 2) 1 (by decide) (by decide)).mono le (by omega) (by omega)
  · exact (si (n := 2) 2 (by decide) (by decide)).mono le (by omega) (by omega)
  · exact (si (n := 2) 4 (by decide) (by decide)).mono le (by omega) (by omega)
  · exact (si (n := 2) (-1) (by decide) (by decide)).mono le (by omega) (by omega)
  · exact (si (n := 2) 100 (by decide) (by decide)).mono le (by omega) (by omega)
  · exact (nb 2 true).mono le (by omega) (by omega)
  · exact (nb 2 false).mono le (by omega) (by omega)
  · exact (ss (n := 2) _ (by decide +kernel) (by decide +kernel)).mono le (by omega) (by omega)
  · exact (ss (n := 2) _ (by decide +kernel) (by decide +kernel)).mono le (by omega) (by omega)
  · exact (ss (n := 2) _ (by decide +kernel) (by decide +kernel)).mono le (by omega) (by omega)
  · exact (ss (n := 2) _ (by decide +kernel) (by decide +kernel)).mono le (by omega) (by omega)
  · exact (ss (n := 2) _ (by decide +kernel) (by decide +kernel)).mono le (by omega) (by omega)
  · exact (ss (n := 2) _ (by decide +kernel) (by decide +kernel)).mono le (by omega) (by omega)
  · exact (th_tup.mpr (ths_nil (b := 10 ^ 30) (n := 0))).mono le (by omega) (by omega)
  · exact (t1 (th_tup.mpr (ths_nil (b := 10 ^ 30) (n := 0)))).mono le (by omega) (by omega)
  · exact (th_tup.mpr (ths_cons na (ths_cons (si 1 (by decide) (by decide)) ths_nil))).mono le (by omega) (by omega)
  · exact (th_lst.mpr (ths_nil (b := 10 ^ 30) (n := 0))).mono le (by omega) (by omega)
  · exact ⟨by rw [D.good], by rw [D.py, PyData.depth, PyData.depthKv]; omega, by rw [D.py, PyData.weight, PyData.weightKv]; omega⟩
  · exact (si (n := 2) (10 ^ 30) (by decide) (by decide)).mono le (by omega) (by omega)
  · exact (t1 (t1 na)).mono le (by omega) (by omega)
  · exact (t1 (th_tup.mpr (ths_cons (si (n := 0) 1 (by decide) (by decide)) (ths_cons na ths_nil)))).mono le (by omega) (by omega)
  · exact (ss (n := 2) _ (by decide +kernel) (by decide +kernel)).mono le (by omega) (by omega)
  · exact (ss (n := 2) _ (by decide +kernel) (by decide +kernel)).mono le (by omega) (by omega)
  · exact (ss (n := 2) _ (by decide +kernel) (by decide +kernel)).mono le (by omega) (by omega)
theorem r_law_odd : ∀ ds s R E, ds.length = 1 → p_law_odd ds s R E → t_law_odd (fnEnds R E) (dstart N_law_odd ds) s := by
  rintro _ _ R E _ ⟨mu, p, m, _, rfl, rfl, hm, rfl, h⟩
  refine ⟨Nat.zero_le _, Nat.zero_le _, sz _ (show 1 ≤ _ by omega), sz _ (show 2 ≤ _ by omega), sz _ (show 18 ≤ _ by omega), ?_⟩
  refine ⟨Nat.zero_le _, ⟨by decide, by decide, by decide⟩, sz _ (show 1 ≤ _ by omega), sz _ (show 1 ≤ _ by omega), sz _ (show 2 ≤ _ by omega), sz _ (show 1 ≤ _ by omega), sz _ (show 8 ≤ _ by omega), sz _ (show 18 + 8 ≤ _ by omega), ?_⟩
  refine ⟨rfl, use_next (by omega) (by decide) (by decide) fun r h0 h1 => ?_⟩
  obtain ⟨d, hd, hmem⟩ := atI_of (xs := oddL) h0 (show r < ((26 : Nat) : Int) by omega)
  exact ⟨oddL, d, rfl, hd, ⟨_, Sub.refl _, h d (odd_th d hmem)⟩⟩
/-! ### bent things -/
theorem bent_odd {t d : D} (h : Th (10 ^ 30) 2 160 d) : BentOk t d := fun b n w _ h1 h2 h3 => h.mono (by omega) (by omega) (by omega)
theorem bent_tup {pre post ys : List D} {x : D} (h : ∀ b m w1 w3 w4, Ths b m w1 pre → Th b m w3 x → Ths b m w4 post → 10 ^ 30 ≤ b → b ≤ 10 ^ 31 → w1 + w3 + w4 ≤ 40000 → Ths (b + 100) (m + 2) (2 * (w1 + (w3 + 1 + w4)) + 200) ys) : BentOk (.tup (pre ++ x :: post)) (.tup ys) := by
  intro b n w ht h1 h2 h3
  obtain ⟨m, rfl, hs⟩ := tup_items ht
  obtain ⟨w1, w2, e1, g1, g2⟩ := ths_split hs
  obtain ⟨w3, w4, e2, g3, g4⟩ := ths_cons_iff.mp g2
  exact (th_tup.mpr (h b m w1 w3 w4 g1 g3 g4 h1 h2 (by omega))).mono (Int.le_refl _) (by omega) (by omega)
theorem bent_str {x y : Str} (h : PyData.strOk x = true → x.length ≤ 40000 → PyData.strOk y = true ∧ y.length ≤ 2 * x.length + 200) : BentOk (.str x) (.str y) := by
  intro b n w ht h1 h2 h3
  obtain ⟨g1, g2⟩ := th_str_iff ht
  obtain ⟨g3, g4⟩ := h g1 (by omega)
  exact (th_str g3).mono (Int.le_refl _) (Nat.le_refl _) (by omega)
theorem bent_int {i k : Int} (h1 : -100 ≤ k) (h2 : k ≤ 100) : BentOk (.int i) (.int (i + k)) := by
  intro b n w ht g1 g2 g3
  obtain ⟨g4, g5⟩ := th_int_iff ht
  exact (th_int (by omega) (by omega) (by omega)).mono (Int.le_refl _) (Nat.le_refl _) (by omega)
theorem ok_bent1 {n m : Nat} {b : Int} {w : Nat} {xs : List D} {q : Fn} {p : Addr} {mu : Addr → Option MO} (DD : DEnds) (hn : n ≤ 40) (hq : prevF p_law_bent n = q) (hx : xs ≠ []) (ht : Th b n w (.tup xs)) (hb1 : 10 ^ 30 ≤ b) (hb2 : b ≤ 10 ^ 31) (hw : w ≤ 40000) (hm : 6 * n + 2 ≤ m)
    (fin : ∀ d m', m - (6 * n + 2) ≤ m' → BentOk (.tup xs) d → DD.rt d ⟨mu, some (p, m')⟩) : t_law_bent_b1 q DD [some (.rf (.ref p)), some (.tup xs), none, none] ⟨mu, some (p, m)⟩ := by
  obtain ⟨n', rfl, hs0⟩ := tup_items ht
  have hl : xs.length ≤ 40000 := Nat.le_trans (ths_len hs0) hw
  have hpos : 0 < xs.length := List.length_pos_iff.mpr hx
  refine ⟨xs, rfl, rfl, use_next (by omega) (by omega) (by omega) fun a a0 a1 => ⟨rfl, use_next (by omega) (by decide) (by decide) fun way w0 w1 => ?_⟩⟩
  obtain ⟨k, rfl⟩ := Int.eq_ofNat_of_zero_le a0
  have hk : k < xs.length := by omega
  have hsp : xs = xs.take k ++ xs[k] :: xs.drop (k + 1) := by rw [← List.drop_eq_getElem_cons hk, List.take_append_drop]
  have c1 : cutD xs none (some (k : Int)) = xs.take k := cut_to _ _ (by omega)
  have c2 : cutD xs (some ((k : Int) + 1)) none = xs.drop (k + 1) := by rw [show ((k : Int) + 1) = ((k + 1 : Nat) : Int) by omega, cut_from _ _ (by omega)]
  have c3 : cutD xs (some (k : Int)) none = xs[k] :: xs.drop (k + 1) := by rw [cut_from _ _ (by omega), List.drop_eq_getElem_cons hk]
  have c4 : cutD xs (some (k : Int)) (some ((k : Int) + 1)) = [xs[k]] := cut_one _ _ hk
  have z : ∀ j, j ≤ 200000 → j ≤ sizeLine := fun j hj => sz _ (by omega)
  have lt : (xs.take k).length ≤ xs.length := by rw [List.length_take]; omega
  have ld : (xs.drop (k + 1)).length ≤ xs.length := by rw [List.length_drop]; omega
  have fin' : ∀ d m', m - (6 * (n' + 1) + 2) ≤ m' → BentOk (.tup (xs.take k ++ xs[k] :: xs.drop (k + 1))) d → DD.rt d ⟨mu, some (p, m')⟩ := fun d m' h1 h2 => fin d m' h1 (by rw [← hsp] at h2; exact h2)
  have le1 : ∀ {b : Int}, b ≤ b + 100 := fun {b} => by omega
  try dsimp only
  refine seq_if (decide (way = 0)) (fun K q => exp_eqT rfl q) (fun _ => ?_) fun n0 => ?_
  · refine ⟨z _ ?_, ?_⟩
    · rw [c1, c2]; omega
    · rw [c1, c2]
      refine fin' _ _ (by omega) (bent_tup fun b m w1 w3 w4 g1 g3 g4 h1 h2 h3 => (ths_app g1 g4).mono le1 (by omega) (by omega))
  try dsimp only
  refine seq_if (decide (way = 1)) (fun K q => exp_eqT rfl q) (fun _ => ?_) fun n1 => ?_
  · refine ⟨z _ ?_, ?_⟩
    · rw [c4]; show xs.length + 1 ≤ _; omega
    · rw [c4]
      have e : D.tup (xs ++ [xs[k]]) = D.tup (xs.take k ++ xs[k] :: (xs.drop (k + 1) ++ [xs[k]])) := by
        have := congrArg (fun l => D.tup (l ++ [xs[k]])) hsp
        rw [List.append_assoc, List.cons_append] at this
        exact this
      rw [e]
      refine fin' _ _ (by omega) (bent_tup fun b m w1 w3 w4 g1 g3 g4 h1 h2 h3 => (ths_app g1 (ths_cons g3 (ths_app g4 (ths_cons g3 ths_nil)))).mono le1 (by omega) (by omega))
  refine seq_if (decide (way = 2)) (fun K q => exp_eqT rfl q) (fun _ => ?_) fun n2 => ?_
  · refine ⟨xs, rfl, fin _ _ (by omega) ?_⟩
    intro b n w ht h1 h2 h3
    obtain ⟨m, rfl, hs⟩ := tup_items ht
    exact (th_lst.mpr hs).mono le1 (by omega) (by omega)
  refine seq_if (decide (way = 3)) (fun K q => exp_eqT rfl q) (fun _ => ?_) fun n3 => ?_
  · refine ⟨rfl, use_dr (by omega) rfl fun od hod => ⟨sz _ (show 1 ≤ _ by omega), z _ ?_, z _ ?_, ?_⟩⟩
    · rw [c1]; show (xs.take k).length + 1 ≤ _; omega
    · rw [c1, c3]; simp only [List.length_append, List.length_cons, List.length_nil]; omega
    · rw [c1, c3, List.append_assoc]
      refine fin' _ _ (by omega) (bent_tup fun b m w1 w3 w4 g1 g3 g4 h1 h2 h3 => ?_)
      exact (ths_app (g1.mono le1 (by omega) (Nat.le_refl _)) (ths_cons (hod.mono (by omega) (by omega) (Nat.le_refl _)) ((ths_cons g3 g4).mono le1 (by omega) (Nat.le_refl _)))).mono (Int.le_refl _) (Nat.le_refl _) (by omega)
  refine seq_if (decide (way = 4)) (fun K q => exp_eqT rfl q) (fun _ => ?_) fun n4 => ?_
  · refine fin' _ _ (by omega) ?_
    rw [← hsp]
    intro b n w ht h1 h2 h3
    obtain ⟨m, rfl, hs⟩ := tup_items ht
    exact (th_tup.mpr ((ths_rev hs).mono le1 (Nat.le_refl _) (Nat.le_refl _))).mono (Int.le_refl _) (by omega) (by omega)
  · have hxk : xs[k] ∈ xs := List.getElem_mem hk
    rw [← hq]
    refine ⟨_, _, rfl, (atI_nat hk).trans (List.getElem?_eq_getElem hk), rfl, ?_⟩
    show p_law_bent n' _ _ _ _
    refine use_dr (c := 6 * n' + 6) (by omega) ⟨xs[k], b, w, rfl, by omega, th_mem hs0 hxk, hb1, hb2, hw⟩ fun od hod => ⟨sz _ (show 1 ≤ _ by omega), z _ ?_, z _ ?_, ?_⟩
    · rw [c1]; show (xs.take k).length + 1 ≤ _; omega
    · rw [c1, c2]; simp only [List.length_append, List.length_cons, List.length_nil]; omega
    · rw [c1, c2, List.append_assoc]
      obtain ⟨t0, ht0, hod⟩ := hod
      cases ht0
      refine fin' _ _ (by omega) (bent_tup fun b m w1 w3 w4 g1 g3 g4 h1 h2 h3 => ?_)
      exact (ths_app (g1.mono le1 (by omega) (Nat.le_refl _)) (ths_cons (hod _ _ _ g3 h1 h2 (by omega)) (g4.mono le1 (by omega) (Nat.le_refl _)))).mono (Int.le_refl _) (Nat.le_refl _) (by omega)
theorem ok_bent2 {n m : Nat} {b : Int} {w : Nat} {d : D} {q : Fn} {p : Addr} {mu : Addr → Option MO} (DD : DEnds) (hn : n ≤ 40) (hq : prevF p_law_bent n = q) (ht : Th b n w d) (hb1 : 10 ^ 30 ≤ b) (hb2 : b ≤ 10 ^ 31) (hw : w ≤ 40000) (hm : 6 * n + 4 ≤ m)
    (fin : ∀ d' m', m - (6 * n + 4) ≤ m' → BentOk d d' → DD.rt d' ⟨mu, some (p, m')⟩) : t_law_bent_b2 q DD [some (.rf (.ref p)), some d, none, none] ⟨mu, some (p, m)⟩ := by
  have odd : ∀ m2, m - 2 ≤ m2 → 1 ≤ m2 → (dRet (dCall 1 p_law_odd (dCons (dVar 0) dNil))) DD [some (.rf (.ref p)), some d, none, none] ⟨mu, some (p, m2)⟩ := fun m2 h1 h2 => ⟨rfl, use_dr h2 rfl fun od hod => fin _ _ (by omega) (bent_odd hod)⟩
  have hS : ThS d := ⟨b, n, w, ht, by omega, hn, by omega⟩
  · cases hd : tupB d with
    | false =>
      refine seq_if true (fun K q => tOr_of true (fun K q => tNot_of (tupB d) (fun K q => exp_tup rfl hS q) (by rw [hd]; exact q)) (fun _ => q) (fun z => by cases z)) (fun _ => ?_) (fun z => by cases z)
      exact odd _ (by omega) (by omega)
    | true =>
      obtain ⟨xs, rfl⟩ := tupB_is hd
      refine tOr_of false (fun K q => tNot_of (tupB (.tup xs)) (fun K q => exp_tup rfl hS q) q) (fun z => by cases z) (fun _ => ?_)
      cases hx : xs.isEmpty with
      | true =>
        refine tOr_of true (fun K q => tst_of xs.isEmpty (fun K q => ⟨Nat.zero_le _, q⟩) (by rw [hx]; exact q)) (fun _ => ?_) (fun z => by cases z)
        exact odd _ (by omega) (by omega)
      | false =>
        refine tOr_of false (fun K q => tst_of xs.isEmpty (fun K q => ⟨Nat.zero_le _, q⟩) (by rw [hx]; exact q)) (fun z => by cases z) (fun _ => ?_)
        refine ⟨rfl, use_next (by omega) (by decide) (by decide) fun r h0 h1 => ⟨⟨eqOk_int _, eqOk_int _⟩, ?_⟩⟩
        rw [eqb_int]
        cases hr : decide (r = 0) with
        | true => exact odd _ (by omega) (by omega)
        | false =>
          refine ok_bent1 DD hn hq (fun z => by subst z; cases hx) ht hb1 hb2 hw (by omega) fun d' m' h1 h2 => fin d' m' (by omega) h2
theorem ok_bent3 {n m : Nat} {b : Int} {w : Nat} {d : D} {q : Fn} {p : Addr} {mu : Addr → Option MO} (DD : DEnds) (hn : n ≤ 40) (hq : prevF p_law_bent n = q) (ht : Th b n w d) (hb1 : 10 ^ 30 ≤ b) (hb2 : b ≤ 10 ^ 31) (hw : w ≤ 40000) (hm : 6 * n + 5 ≤ m)
    (fin : ∀ d' m', m - (6 * n + 5) ≤ m' → BentOk d d' → DD.rt d' ⟨mu, some (p, m')⟩) : t_law_bent_b3 q DD [some (.rf (.ref p)), some d, none, none] ⟨mu, some (p, m)⟩ := by
  have nxt : ∀ m2, m - 1 ≤ m2 → t_law_bent_b2 q DD [some (.rf (.ref p)), some d, none, none] ⟨mu, some (p, m2)⟩ := fun m2 h1 => ok_bent2 DD hn hq ht hb1 hb2 hw (by omega) fun d' m' h2 h3 => fin d' m' (by omega) h3
  refine tAnd_of (isTy (kind d) "int") (fun K q => tst_of _ (fun K q => exp_isi rfl ht.g (mem_ty (.inl rfl)) q) q) (fun h1 => ?_) (fun h1 => nxt _ (by omega))
  refine tAnd_of (!(isTy (kind d) "bool")) (fun K q => tNot_of _ (fun K q => tst_of _ (fun K q => exp_isi rfl ht.g (mem_ty (.inr (.inl rfl))) q) q) q) (fun h2 => ?_) (fun h2 => nxt _ (by omega))
  cases d with
  | int i =>
    refine ⟨rfl, use_next (by omega) (by decide) (by decide) fun r h0 h1 => ⟨⟨eqOk_int _, eqOk_int _⟩, ?_⟩⟩
    rw [eqb_int]
    cases hr : decide (r = 0) with
    | false => exact nxt _ (by omega)
    | true =>
      refine ⟨sz _ (show 6 ≤ _ by omega), rfl, use_next (by omega) (by decide) (by decide) fun j j0 j1 => ?_⟩
      obtain ⟨x, hx, hmem⟩ := atI_of (xs := [D.int 1, .int (-1), .int 3, .int (-3), .int 100, .int (-100)]) j0 j1
      refine ⟨_, x, rfl, hx, ?_⟩
      simp only [List.mem_cons, List.not_mem_nil, or_false] at hmem
      rcases hmem with rfl | rfl | rfl | rfl | rfl | rfl <;> exact fin _ _ (by omega) (bent_int (by decide) (by decide))
  | bl x => exact absurd h2 (by show ¬ (!(isTy "bool" "bool")) = true; decide)
  | non => exact absurd h1 (by show ¬ isTy "NoneType" "int" = true; decide)
  | str x => exact absurd h1 (by show ¬ isTy "str" "int" = true; decide)
  | lst x => exact absurd h1 (by show ¬ isTy "list" "int" = true; decide)
  | tup x => exact absurd h1 (by show ¬ isTy "tuple" "int" = true; decide)
  | dic x => exact absurd h1 (by show ¬ isTy "dict" "int" = true; decide)
  | _ => exact absurd h1 (by show ¬ isTy "" "int" = true; decide)
theorem r_law_bent : ∀ n ds s R E, ds.length = 2 → p_law_bent n ds s R E → t_law_bent (prevF p_law_bent n) (fnEnds R E) (dstart N_law_bent ds) s := by
  rintro n _ _ R E _ ⟨mu, p, m, _, rfl, rfl, hm, ⟨d, b, w, rfl, hn, ht, hb1, hb2, hw⟩, h⟩
  have fin : ∀ d' m', m - (6 * n + 6) ≤ m' → BentOk d d' → (fnEnds R E).rt d' ⟨mu, some (p, m')⟩ := fun d' m' h1 h2 => ⟨_, Sub.of (fun _ _ e => e) h1, h d' ⟨d, rfl, h2⟩⟩
  have nxt : ∀ m2, m - 1 ≤ m2 → t_law_bent_b3 (prevF p_law_bent n) (fnEnds R E) [some (.rf (.ref p)), some d, none, none] ⟨mu, some (p, m2)⟩ := fun m2 h1 => ok_bent3 _ hn rfl ht hb1 hb2 hw (by omega) fun d' m' h2 h3 => fin d' m' (by omega) h3
  refine tAnd_of (isTy (kind d) "str") (fun K q => tst_of _ (fun K q => exp_isi rfl ht.g (mem_ty (.inr (.inr (.inl rfl)))) q) q) (fun h1 => ?_) (fun h1 => nxt _ (by omega))
  cases d with
  | str x =>
    obtain ⟨hs, hl⟩ := th_str_iff ht
    have z1 : x.length + 1 ≤ sizeLine := sz _ (by omega)
    refine ⟨rfl, use_next (by omega) (by decide) (by decide) fun r h0 h1 => ⟨⟨eqOk_int _, eqOk_int _⟩, ?_⟩⟩
    rw [eqb_int]
    cases hr : decide (r = 0) with
    | false => exact nxt _ (by omega)
    | true =>
      refine ⟨z1, by omega, z1, z1, ⟨by decide, by decide, by omega⟩, z1, sz _ (show 6 ≤ _ by omega), rfl, use_next (by omega) (by decide) (by decide) fun j j0 j1 => ?_⟩
      obtain ⟨y, hy, hmem⟩ := atI_of (xs := [D.str (x ++ "b"), .str (cutS x (some 1) none), .str (x ++ "A"), .str (x ++ " "), .str (strMul x 2), .str (x ++ "1")]) j0 j1
      refine ⟨_, y, rfl, hy, ?_⟩
      have ap : ∀ c : Str, PyData.strOk c = true → c.length = 1 → BentOk (.str x) (.str (x ++ c)) := fun c h1 h2 => bent_str fun g1 g2 => ⟨strOk_app g1 h1, by rw [len_app]; omega⟩
      simp only [List.mem_cons, List.not_mem_nil, or_false] at hmem
      rcases hmem with rfl | rfl | rfl | rfl | rfl | rfl
      · exact fin _ _ (by omega) (ap _ (by decide +kernel) (by decide +kernel))
      · exact fin _ _ (by omega) (bent_str fun g1 g2 => ⟨strOk_cut g1, Nat.le_trans (cutS_length _ _ _) (by omega)⟩)
      · exact fin _ _ (by omega) (ap _ (by decide +kernel) (by decide +kernel))
      · exact fin _ _ (by omega) (ap _ (by decide +kernel) (by decide +kernel))
      · exact fin _ _ (by omega) (bent_str fun g1 g2 => ⟨strOk_mul g1, by rw [strMul_len]; omega⟩)
      · exact fin _ _ (by omega) (ap _ (by decide +kernel) (by decide +kernel))
  | int i => exact absurd h1 (by show ¬ isTy "int" "str" = true; decide)
  | bl i => exact absurd h1 (by show ¬ isTy "bool" "str" = true; decide)
  | non => exact absurd h1 (by show ¬ isTy "NoneType" "str" = true; decide)
  | tup i => exact absurd h1 (by show ¬ isTy "tuple" "str" = true; decide)
  | lst i => exact absurd h1 (by show ¬ isTy "list" "str" = true; decide)
  | dic i => exact absurd h1 (by show ¬ isTy "dict" "str" = true; decide)
  | _ => exact absurd h1 (by show ¬ isTy "" "str" = true; decide)
/-! ### the law -/
end Bk.Qa

/-! K03: what the defs promise. -/
namespace Bk.K03
open PySem PySem.Spec PyProof.Rows L2
abbrev kn : List Str := ["BadFormula"]
abbrev ms : List Str := ["BadCells", "BadFormula", "BadProgram", "Twice", "BadStanding", "BadWeaving", "BadNode", "BadPaper", "BadText", "BadNumber", "Missing", "TooMany", "KeptError"]
abbrev fs : List Str := ["place", "name", "value", "line", "most"]
def p_law_edge : Fn := pDr 24 (fun as => ∃ ns, as = [.lst (texts ns)] ∧ namesOk ns ∧ 1 ≤ ns.length) fun _ d => Th (10 ^ 30) 5 90000 d
def p_law : Fn := fun ds s R _ => ∃ ns, ds = [.scr ns] ∧ ns.length ≤ 63 ∧ s = ⟨fun _ => none, none⟩ ∧ ∀ s', R (.bl true) s'
end Bk.K03

/-! K03: what the defs do with deep data. -/
namespace Bk.K03
open PySem PySem.Spec PyProof.Rows L2
open Bk.Pa
open Bk.Qa
abbrev N_law_kinds : List Str := ["_law_e", "_law_found"]
/-- _law_kinds: 0 _law_e 1 _law_found -/
def t_law_kinds : DTS := (dSeq (dSet 1 (dLstM dNil))
  (dSeq (dIfS (dTst (dIsE kn "BadCells" (dVar 0))) (dApp (dVar 1) (dTup (dCons (dC (.str "cells")) (dCons (dFldE kn "place" (dVar 0)) dNil)))) dNext)
  (dSeq (dIfS (dTst (dIsE kn "BadFormula" (dVar 0))) (dApp (dVar 1) (dTup (dCons (dC (.str "formula")) (dCons (dFldE kn "place" (dVar 0)) dNil)))) dNext)
  (dSeq (dIfS (dTst (dIsE kn "BadProgram" (dVar 0))) (dApp (dVar 1) (dTup (dCons (dC (.str "program")) (dCons (dFldE kn "place" (dVar 0)) dNil)))) dNext)
  (dSeq (dIfS (dTst (dIsE kn "Twice" (dVar 0))) (dApp (dVar 1) (dTup (dCons (dC (.str "twice")) (dCons (dFldE kn "name" (dVar 0)) dNil)))) dNext)
  (dSeq (dIfS (dTst (dIsE kn "BadStanding" (dVar 0))) (dApp (dVar 1) (dTup (dCons (dC (.str "standing")) (dCons (dBlt cReprA (dCons (dFldE kn "value" (dVar 0)) dNil)) dNil)))) dNext)
  (dSeq (dIfS (dTst (dIsE kn "BadWeaving" (dVar 0))) (dApp (dVar 1) (dTup (dCons (dC (.str "weaving")) (dCons (dFldE kn "place" (dVar 0)) dNil)))) dNext)
  (dSeq (dIfS (dTst (dIsE kn "BadNode" (dVar 0))) (dApp (dVar 1) (dTup (dCons (dC (.str "node")) (dCons (dFldE kn "place" (dVar 0)) dNil)))) dNext)
  (dSeq (dIfS (dTst (dIsE kn "BadPaper" (dVar 0))) (dApp (dVar 1) (dTup (dCons (dC (.str "paper")) (dCons (dFldE kn "place" (dVar 0)) dNil)))) dNext)
  (dSeq (dIfS (dTst (dIsE kn "BadText" (dVar 0))) (dApp (dVar 1) (dTup (dCons (dC (.str "text")) (dCons (dFldE kn "line" (dVar 0)) dNil)))) dNext)
  (dSeq (dIfS (dTst (dIsE kn "BadNumber" (dVar 0))) (dApp (dVar 1) (dTup (dCons (dC (.str "number")) (dCons (dBlt cReprA (dCons (dFldE kn "value" (dVar 0)) dNil)) dNil)))) dNext)
  (dSeq (dIfS (dTst (dIsE kn "Missing" (dVar 0))) (dApp (dVar 1) (dTup (dCons (dC (.str "missing")) (dCons (dBlt cReprA (dCons (dFldE kn "name" (dVar 0)) dNil)) dNil)))) dNext)
  (dSeq (dIfS (dTst (dIsE kn "TooMany" (dVar 0))) (dApp (dVar 1) (dTup (dCons (dC (.str "many")) (dCons (dFldE kn "most" (dVar 0)) dNil)))) dNext)
  (dRet (dIf (dTst (dOp oEq (dBlt cLen (dCons (dVar 1) dNil)) (dC (.int 1)))) (dOp oIx (dVar 1) (dC (.int 0))) (dTup (dCons (dC (.str "odd")) (dCons (dBlt cLen (dCons (dVar 1) dNil)) dNil))))))))))))))))))
def fb_law_kinds : FS := (fSeq (fSet 1 (fLst fNil))
  (fSeq (fIfS (fTst (fB1 (isEF kn "BadCells") (fVar 0))) (fApp 1 (fTup (fCons (fC (.str "cells")) (fCons (fB1 (fldEF kn "place") (fVar 0)) fNil)))) fNext)
  (fSeq (fIfS (fTst (fB1 (isEF kn "BadFormula") (fVar 0))) (fApp 1 (fTup (fCons (fC (.str "formula")) (fCons (fB1 (fldEF kn "place") (fVar 0)) fNil)))) fNext)
  (fSeq (fIfS (fTst (fB1 (isEF kn "BadProgram") (fVar 0))) (fApp 1 (fTup (fCons (fC (.str "program")) (fCons (fB1 (fldEF kn "place") (fVar 0)) fNil)))) fNext)
  (fSeq (fIfS (fTst (fB1 (isEF kn "Twice") (fVar 0))) (fApp 1 (fTup (fCons (fC (.str "twice")) (fCons (fB1 (fldEF kn "name") (fVar 0)) fNil)))) fNext)
  (fSeq (fIfS (fTst (fB1 (isEF kn "BadStanding") (fVar 0))) (fApp 1 (fTup (fCons (fC (.str "standing")) (fCons (fB1 gRepr (fB1 (fldEF kn "value") (fVar 0))) fNil)))) fNext)
  (fSeq (fIfS (fTst (fB1 (isEF kn "BadWeaving") (fVar 0))) (fApp 1 (fTup (fCons (fC (.str "weaving")) (fCons (fB1 (fldEF kn "place") (fVar 0)) fNil)))) fNext)
  (fSeq (fIfS (fTst (fB1 (isEF kn "BadNode") (fVar 0))) (fApp 1 (fTup (fCons (fC (.str "node")) (fCons (fB1 (fldEF kn "place") (fVar 0)) fNil)))) fNext)
  (fSeq (fIfS (fTst (fB1 (isEF kn "BadPaper") (fVar 0))) (fApp 1 (fTup (fCons (fC (.str "paper")) (fCons (fB1 (fldEF kn "place") (fVar 0)) fNil)))) fNext)
  (fSeq (fIfS (fTst (fB1 (isEF kn "BadText") (fVar 0))) (fApp 1 (fTup (fCons (fC (.str "text")) (fCons (fB1 (fldEF kn "line") (fVar 0)) fNil)))) fNext)
  (fSeq (fIfS (fTst (fB1 (isEF kn "BadNumber") (fVar 0))) (fApp 1 (fTup (fCons (fC (.str "number")) (fCons (fB1 gRepr (fB1 (fldEF kn "value") (fVar 0))) fNil)))) fNext)
  (fSeq (fIfS (fTst (fB1 (isEF kn "Missing") (fVar 0))) (fApp 1 (fTup (fCons (fC (.str "missing")) (fCons (fB1 gRepr (fB1 (fldEF kn "name") (fVar 0))) fNil)))) fNext)
  (fSeq (fIfS (fTst (fB1 (isEF kn "TooMany") (fVar 0))) (fApp 1 (fTup (fCons (fC (.str "many")) (fCons (fB1 (fldEF kn "most") (fVar 0)) fNil)))) fNext)
  (fRet (fIf (fTst (fOp gEq (fB1 gLen (fVar 1)) (fC (.int 1)))) (fOp gIx (fVar 1) (fC (.int 0))) (fTup (fCons (fC (.str "odd")) (fCons (fB1 gLen (fVar 1)) fNil))))))))))))))))))
def f_law_kinds : FF := fun ds => (fb_law_kinds (dstart N_law_kinds ds)).fn
abbrev p_law_kinds : Fn := pF f_law_kinds
theorem r_law_kinds : ∀ ds s R E, ds.length = 1 → p_law_kinds ds s R E → t_law_kinds (fnEnds R E) (dstart N_law_kinds ds) s := r_fn (f := fb_law_kinds) (M := [1]) (as_seq (as_setM 1 (am_lst aa_nil))
  (as_seq (as_if (at_tst (ax_isE (ax_var 0))) (as_app 1 (ax_tup (aa_cons (ax_c _) (aa_cons (ax_fldE (ax_var 0)) aa_nil)))) as_next)
  (as_seq (as_if (at_tst (ax_isE (ax_var 0))) (as_app 1 (ax_tup (aa_cons (ax_c _) (aa_cons (ax_fldE (ax_var 0)) aa_nil)))) as_next)
  (as_seq (as_if (at_tst (ax_isE (ax_var 0))) (as_app 1 (ax_tup (aa_cons (ax_c _) (aa_cons (ax_fldE (ax_var 0)) aa_nil)))) as_next)
  (as_seq (as_if (at_tst (ax_isE (ax_var 0))) (as_app 1 (ax_tup (aa_cons (ax_c _) (aa_cons (ax_fldE (ax_var 0)) aa_nil)))) as_next)
  (as_seq (as_if (at_tst (ax_isE (ax_var 0))) (as_app 1 (ax_tup (aa_cons (ax_c _) (aa_cons (ax_b1x x_repr (ax_fldE (ax_var 0))) aa_nil)))) as_next)
  (as_seq (as_if (at_tst (ax_isE (ax_var 0))) (as_app 1 (ax_tup (aa_cons (ax_c _) (aa_cons (ax_fldE (ax_var 0)) aa_nil)))) as_next)
  (as_seq (as_if (at_tst (ax_isE (ax_var 0))) (as_app 1 (ax_tup (aa_cons (ax_c _) (aa_cons (ax_fldE (ax_var 0)) aa_nil)))) as_next)
  (as_seq (as_if (at_tst (ax_isE (ax_var 0))) (as_app 1 (ax_tup (aa_cons (ax_c _) (aa_cons (ax_fldE (ax_var 0)) aa_nil)))) as_next)
  (as_seq (as_if (at_tst (ax_isE (ax_var 0))) (as_app 1 (ax_tup (aa_cons (ax_c _) (aa_cons (ax_fldE (ax_var 0)) aa_nil)))) as_next)
  (as_seq (as_if (at_tst (ax_isE (ax_var 0))) (as_app 1 (ax_tup (aa_cons (ax_c _) (aa_cons (ax_b1x x_repr (ax_fldE (ax_var 0))) aa_nil)))) as_next)
  (as_seq (as_if (at_tst (ax_isE (ax_var 0))) (as_app 1 (ax_tup (aa_cons (ax_c _) (aa_cons (ax_b1x x_repr (ax_fldE (ax_var 0))) aa_nil)))) as_next)
  (as_seq (as_if (at_tst (ax_isE (ax_var 0))) (as_app 1 (ax_tup (aa_cons (ax_c _) (aa_cons (ax_fldE (ax_var 0)) aa_nil)))) as_next)
  (as_ret (ax_if (at_tst (ax_op o_eq (ax_b1 b_len (av_var 1)) (ax_c _))) (ax_opV o_ix (av_var 1) (av_of (ax_c _))) (ax_tup (aa_cons (ax_c _) (aa_cons (ax_b1 b_len (av_var 1)) aa_nil))))))))))))))))))
abbrev N_law_told : List Str := ["_law_call", "_law_caught", "_law_found", "_law_e"]
/-- _law_told: 0 _law_call 1 _law_caught 2 _law_found 3 _law_e -/
def t_law_told : Act → Addr → List D → List V → DTS := fun act f xs vs => (dSeq (dAsg (dTup (dCons (dC .non) (dCons (dC .non) dNil))) (gdTup 2 (gdCons (gdName 1) (gdCons (gdName 2) gdNil))))
  (dSeq (dTryHold kn ["KeptError", "Missing", "TooMany"] 3 1 (dSet 2 (dAct f xs vs act)))
  (dRet (dIf (dTst (dOp (oIsN false) (dVar 1) (dC .non))) (dLst (dCons (dVar 2) dNil)) (dCall 1 p_law_kinds (dCons (dVar 1) dNil))))))
def told_law_told : Rs D → Rs D := toldF kn ["KeptError", "Missing", "TooMany"] f_law_kinds
theorem a_law_told : Tells N_law_told t_law_told told_law_told := tells_mk
abbrev N_law_edge : List Str := ["_law_m", "_law_names_here", "_law_terms_here", "_law_number", "_law_test_here", "_law_name"]
/-- _law_edge: 0 _law_m 1 _law_names_here 2 _law_terms_here 3 _law_number 4 _law_test_here 5 _law_name -/
def t_law_edge : DTS := (dSeq (dSet 2 (dBlt cTuple (dCons (dLc (dIter (dVar 1)) (gdName 5) dYes (dTup (dCons (dOp oIx (dLst (dCons (dC (.int 9)) (dCons (dUn oNeg (dC (.int 9))) (dCons (dC (.int 10)) (dCons (dUn oNeg (dC (.int 10))) (dCons (dC (.int 0)) (dCons (dC (.int 1)) dNil))))))) (dCall 2 p_law_next (dCons (dVar 0) (dCons (dC (.int 6)) dNil)))) (dCons (dVar 5) dNil))) [5]) dNil)))
  (dSeq (dSet 3 (dOp oIx (dLst (dCons (dC (.int 99)) (dCons (dUn oNeg (dC (.int 99))) (dCons (dC (.int 100)) (dCons (dUn oNeg (dC (.int 100))) (dCons (dC (.int 0)) (dCons (dC (.bl true)) dNil))))))) (dCall 2 p_law_next (dCons (dVar 0) (dCons (dC (.int 6)) dNil)))))
  (dSeq (dSet 4 (dTup (dCons (dVar 2) (dCons (dOp oIx (dLst (dCons (dC (.str "=")) (dCons (dC (.str "==")) (dCons (dC (.str "<")) (dCons (dC (.str "=<")) (dCons (dC (.str "!=")) (dCons (dC (.str ">=")) dNil))))))) (dCall 2 p_law_next (dCons (dVar 0) (dCons (dC (.int 6)) dNil)))) (dCons (dVar 3) dNil)))))
  (dSeq (dIfS (dTst (dOp oEq (dCall 2 p_law_next (dCons (dVar 0) (dCons (dC (.int 3)) dNil))) (dC (.int 0)))) (dSet 4 (dTup (dCons (dBack (dVar 2)) (dCons (dC (.str "<")) (dCons (dVar 3) dNil))))) dNext)
  (dSeq (dIfS (dTst (dOp oEq (dCall 2 p_law_next (dCons (dVar 0) (dCons (dC (.int 4)) dNil))) (dC (.int 0)))) (dSet 4 (dTup (dCons (dOp oAdd (dVar 2) (dTup (dCons (dTup (dCons (dC (.int 1)) (dCons (dC (.str "zzzzzzzz")) dNil))) dNil))) (dCons (dC (.str "<")) (dCons (dC (.int 0)) dNil))))) dNext)
  (dRet (dOp oMulT (dTup (dCons (dOp oMulT (dTup (dCons (dVar 4) dNil)) (dOp oAdd (dC (.int 1)) (dCall 2 p_law_next (dCons (dVar 0) (dCons (dC (.int 5)) dNil))))) dNil)) (dOp oAdd (dC (.int 1)) (dCall 2 p_law_next (dCons (dVar 0) (dCons (dC (.int 5)) dNil)))))))))))
abbrev N_law : List Str := ["_law_script", "_law_m", "_law_turn", "_law_cells_here", "_law_names_here", "_law_formula_here", "_law_some", "_law_thing", "_law_kept", "_law_fault", "_law_due", "_law_cell"]
/-- law: 0 _law_script 1 _law_m 2 _law_turn 3 _law_cells_here 4 _law_names_here 5 _law_formula_here 6 _law_some 7 _law_thing 8 _law_kept 9 _law_fault 10 _law_due 11 _law_cell -/
def t_law_b1 : DTS := (dSeq (dPar 8 9 (dCons (dBlt cReprA (dCons (dLst (dCons (dVar 3) (dCons (dVar 7) dNil))) dNil)) (dCons (dCall 2 p_law_formula_fault (dCons (dVar 4) (dCons (dVar 7) dNil))) dNil)))
  (dSeq (dSet 10 (dIf (dTst (dOp (oIsN false) (dVar 9) (dC .non))) (dLst (dCons (dVar 7) dNil)) (dTup (dCons (dC (.str "formula")) (dCons (dVar 9) dNil)))))
  (dIfS (dOr (dTst (dOp oNeS (dBlt cReprA (dCons (dLam N_law_told t_law_told (dCall 2 p_need_formula (dCons (dVar 3) (dCons (dVar 7) dNil)))) dNil)) (dBlt cReprA (dCons (dVar 10) dNil)))) (dTst (dOp oNeS (dBlt cReprA (dCons (dLst (dCons (dVar 3) (dCons (dVar 7) dNil))) dNil)) (dVar 8)))) (dRet (dC (.bl false))) dNext)))
def fb_law_b1 : FS := (fSeq (fPars [8, 9] [(fB1 gRepr (fLst (fCons (fVar 3) (fCons (fVar 7) fNil)))), (fCall f_law_formula_fault (fCons (fVar 4) (fCons (fVar 7) fNil)))])
  (fSeq (fSet 10 (fIf (fTst (fOp (gIsN false) (fVar 9) (fC .non))) (fLst (fCons (fVar 7) fNil)) (fTup (fCons (fC (.str "formula")) (fCons (fVar 9) fNil)))))
  (fIfS (fOr (fTst (fOp gNeS (fB1 gRepr (fLam told_law_told (fCall f_need_formula (fCons (fVar 3) (fCons (fVar 7) fNil))))) (fB1 gRepr (fVar 10)))) (fTst (fOp gNeS (fB1 gRepr (fLst (fCons (fVar 3) (fCons (fVar 7) fNil)))) (fVar 8)))) (fRet (fC (.bl false))) fNext)))
theorem a_law_b1 : AS [] fb_law_b1 t_law_b1 := (as_seq (as_par (.val (by decide) (ax_b1x x_repr (ax_lst (aa_cons (ax_var 3) (aa_cons (ax_var 7) aa_nil)))) (.val (by decide) (ax_call (aa_cons (ax_var 4) (aa_cons (ax_var 7) aa_nil))) .nil)))
  (as_seq (as_set 10 (ax_if (at_tst (ax_op (o_isN _) (ax_var 9) (ax_c _))) (ax_lst (aa_cons (ax_var 7) aa_nil)) (ax_tup (aa_cons (ax_c _) (aa_cons (ax_var 9) aa_nil)))))
  (as_if (at_or (at_tst (ax_op o_neS (ax_b1x x_repr (ax_lam a_law_told (ax_call (aa_cons (ax_var 3) (aa_cons (ax_var 7) aa_nil))))) (ax_b1x x_repr (ax_var 10)))) (at_tst (ax_op o_neS (ax_b1x x_repr (ax_lst (aa_cons (ax_var 3) (aa_cons (ax_var 7) aa_nil)))) (ax_var 8)))) (as_ret (ax_c _)) as_next)))
def t_law_b2 : DTS := (dSeq (dSet 3 (dCall 1 p_law_cells (dCons (dVar 1) dNil)))
  (dSeq (dSet 4 (dLc (dIter (dVar 3)) (gdName 11) dYes (dOp oIx (dVar 11) (dC (.int 0))) [11]))
  (dSeq (dSet 5 (dCall 2 p_law_formula (dCons (dVar 1) (dCons (dVar 4) dNil))))
  (dSeq (dSet 6 (dLstM (dCons (dVar 5) (dCons (dCall 2 (p_law_bent 7) (dCons (dVar 1) (dCons (dVar 5) dNil))) (dCons (dCall 2 (p_law_bent 7) (dCons (dVar 1) (dCons (dVar 5) dNil))) (dCons (dCall 2 p_law_edge (dCons (dVar 1) (dCons (dVar 4) dNil))) (dCons (dCall 1 p_law_odd (dCons (dVar 1) dNil)) dNil)))))))
  (dSeq (dApp (dVar 6) (dCall 2 (p_law_bent 7) (dCons (dVar 1) (dCons (dOp oIx (dVar 6) (dC (.int 1))) dNil))))
  (dSeq (dApp (dVar 6) (dOp oAdd (dVar 5) (dTup (dCons (dCall 2 (p_law_bent 7) (dCons (dVar 1) (dCons (dCall 2 p_law_formula (dCons (dVar 1) (dCons (dVar 4) dNil))) dNil))) dNil))))
  (dFrzV 6 (dFor (dIter (dVar 6)) (gdName 7) t_law_b1))))))))
def t_law : DTS := (dSeq (dSet 1 (dCall 1 p_law_begun (dCons (dVar 0) dNil)))
  (dSeq (dFor (dRng1 (dCons (dOp oAdd (dC (.int 3)) (dBlt (c2I fun i j => if j < i then j else i) (dCons (dBlt cLen (dCons (dVar 0) dNil)) (dCons (dC (.int 9)) dNil)))) dNil)) (gdName 2) t_law_b2)
  (dRet (dC (.bl true)))))
def fs_law_1 : FS := (fSet 4 (fLc (fIter (fVar 3)) (fgName 11) fYes (fOp gIx (fVar 11) (fC (.int 0))) [11]))
theorem as_law_1 : AS [6] fs_law_1 (dSet 4 (dLc (dIter (dVar 3)) (gdName 11) dYes (dOp oIx (dVar 11) (dC (.int 0))) [11])) := (as_set 4 (ax_lc (aw_iter (ax_var 3)) (ag_name 11) at_yes (ax_opV o_ix (av_of (ax_var 11)) (av_of (ax_c _)))))
def fx_law_1 : FX := (fLc (fIter (fVar 3)) (fgName 11) fYes (fOp gIx (fVar 11) (fC (.int 0))) [11])
theorem ax_law_1 : AX [6] fx_law_1 (dLc (dIter (dVar 3)) (gdName 11) dYes (dOp oIx (dVar 11) (dC (.int 0))) [11]) := (ax_lc (aw_iter (ax_var 3)) (ag_name 11) at_yes (ax_opV o_ix (av_of (ax_var 11)) (av_of (ax_c _))))
def fs_law_2 : FS := (fFor (fIter (fVar 6)) (fgName 7) (fSeq (fPars [8, 9] [(fB1 gRepr (fLst (fCons (fVar 3) (fCons (fVar 7) fNil)))), (fCall f_law_formula_fault (fCons (fVar 4) (fCons (fVar 7) fNil)))])
  (fSeq (fSet 10 (fIf (fTst (fOp (gIsN false) (fVar 9) (fC .non))) (fLst (fCons (fVar 7) fNil)) (fTup (fCons (fC (.str "formula")) (fCons (fVar 9) fNil)))))
  (fIfS (fOr (fTst (fOp gNeS (fB1 gRepr (fLam told_law_told (fCall f_need_formula (fCons (fVar 3) (fCons (fVar 7) fNil))))) (fB1 gRepr (fVar 10)))) (fTst (fOp gNeS (fB1 gRepr (fLst (fCons (fVar 3) (fCons (fVar 7) fNil)))) (fVar 8)))) (fRet (fC (.bl false))) fNext))) [10, 9, 8, 7])
theorem as_law_2 : AS [] fs_law_2 (dFor (dIter (dVar 6)) (gdName 7) t_law_b1) := (as_for (W := [10, 9, 8, 7]) (aw_iter (ax_var 6)) (ag_name 7) (as_seq (as_par (.val (by decide) (ax_b1x x_repr (ax_lst (aa_cons (ax_var 3) (aa_cons (ax_var 7) aa_nil)))) (.val (by decide) (ax_call (aa_cons (ax_var 4) (aa_cons (ax_var 7) aa_nil))) .nil)))
  (as_seq (as_set 10 (ax_if (at_tst (ax_op (o_isN _) (ax_var 9) (ax_c _))) (ax_lst (aa_cons (ax_var 7) aa_nil)) (ax_tup (aa_cons (ax_c _) (aa_cons (ax_var 9) aa_nil)))))
  (as_if (at_or (at_tst (ax_op o_neS (ax_b1x x_repr (ax_lam a_law_told (ax_call (aa_cons (ax_var 3) (aa_cons (ax_var 7) aa_nil))))) (ax_b1x x_repr (ax_var 10)))) (at_tst (ax_op o_neS (ax_b1x x_repr (ax_lst (aa_cons (ax_var 3) (aa_cons (ax_var 7) aa_nil)))) (ax_var 8)))) (as_ret (ax_c _)) as_next))))
def fs_law_3 : FS := (fRet (fC (.bl true)))
theorem as_law_3 : AS [6] fs_law_3 (dRet (dC (.bl true))) := (as_ret (ax_c _))
end Bk.K03

/-! K03: the law. -/
namespace Bk.K03
open PySem PySem.Spec PyProof.Rows L2
open Bk.Pa Bk.Qa
/-! ### what is told -/
theorem th_place {d e : D} {ns : List Str} (h : faultF ns d = some e) (hd : ThS d) : Th (10 ^ 30) 1 250 e := by
  have nat : ∀ k : Nat, k ≤ 200000 → Th (10 ^ 30) 0 120 (.int (k : Nat)) := fun k hk => th_int (by omega) (by omega) (by decide)
  have nil : Th (10 ^ 30) 1 250 (.tup []) := (th_tup.mpr ths_nil).mono (Int.le_refl _) (Nat.le_refl _) (by omega)
  have one : ∀ k : Nat, k ≤ 200000 → Th (10 ^ 30) 1 250 (.tup [.int (k : Nat)]) := fun k hk => (th_tup.mpr (ths_cons (nat k hk) ths_nil)).mono (Int.le_refl _) (Nat.le_refl _) (by omega)
  have two : ∀ k j : Nat, k ≤ 200000 → j ≤ 200000 → Th (10 ^ 30) 1 250 (.tup [.int (k : Nat), .int (j : Nat)]) := fun k j hk hj => (th_tup.mpr (ths_cons (nat k hk) (ths_cons (nat j hj) ths_nil))).mono (Int.le_refl _) (Nat.le_refl _) (by omega)
  cases d with
  | tup xs =>
    have hl := ths_len' hd
    simp only [faultF] at h
    split at h
    · cases h; exact nil
    · split at h
      · rename_i i hi
        cases h
        obtain ⟨h1, _⟩ := List.findIdx?_eq_some_iff_getElem.mp hi
        exact one _ (by omega)
      · split at h
        · rename_i i hi
          cases h
          obtain ⟨h1, _⟩ := List.findIdx?_eq_some_iff_getElem.mp hi
          refine two _ _ (by omega) ?_
          rw [List.getElem?_eq_getElem h1, Option.getD_some]
          refine Nat.le_trans List.findIdx_le_length ?_
          have hit : ThS xs[i] := ths_item hd rfl (List.getElem_mem h1)
          cases hx : xs[i] with
          | tup ys => rw [hx] at hit; have := ths_len' hit; show ys.length ≤ _; omega
          | _ => exact Nat.zero_le _
        · cases h
  | _ => cases h; exact nil
/-! ### edges -/
theorem pick_int {xs : List D} {i : Int} (lo hi : Int) (h0 : 0 ≤ i) (h1 : i < xs.length) (h : ∀ x ∈ xs, Th (10 ^ 30) 0 120 x) : ∃ d, atI xs i = some d ∧ Th (10 ^ 30) 0 120 d := by
  obtain ⟨d, hd, hm⟩ := atI_of h0 h1
  exact ⟨d, hd, h d hm⟩
theorem th_sm (i : Int) (h1 : -1000 ≤ i := by decide) (h2 : i ≤ 1000 := by decide) : Th (10 ^ 30) 0 120 (.int i) := th_int (by omega) (by omega) (by decide)
theorem th_ss (x : Str) (h1 : PyData.strOk x = true := by decide +kernel) (h2 : x.length ≤ 16 := by decide +kernel) : Th (10 ^ 30) 0 120 (.str x) := (th_c (n := 0) h1 h2).mono (Int.le_refl _) (Nat.le_refl _) (by omega)
def edgeN : List D := [.int 9, .int (-9), .int 10, .int (-10), .int 0, .int 1]
def edgeV : List D := [.int 99, .int (-99), .int 100, .int (-100), .int 0, .bl true]
def edgeO : List D := [.str "=", .str "==", .str "<", .str "=<", .str "!=", .str ">="]
theorem edgeN_th : ∀ x ∈ edgeN, Th (10 ^ 30) 0 120 x := by
  intro x hx
  simp only [edgeN, List.mem_cons, List.not_mem_nil, or_false] at hx
  rcases hx with rfl | rfl | rfl | rfl | rfl | rfl <;> exact th_sm _
theorem edgeV_th : ∀ x ∈ edgeV, Th (10 ^ 30) 0 120 x := by
  intro x hx
  simp only [edgeV, List.mem_cons, List.not_mem_nil, or_false] at hx
  rcases hx with rfl | rfl | rfl | rfl | rfl | rfl
  iterate 5 exact th_sm _
  exact ⟨by rw [D.good], by rw [D.py, PyData.depth]; exact Nat.zero_le _, by rw [D.py, PyData.weight]; exact Nat.zero_le _⟩
theorem edgeO_th : ∀ x ∈ edgeO, Th (10 ^ 30) 0 120 x := by
  intro x hx
  simp only [edgeO, List.mem_cons, List.not_mem_nil, or_false] at hx
  rcases hx with rfl | rfl | rfl | rfl | rfl | rfl <;> exact th_ss _
theorem ths_rep {b : Int} {n w : Nat} {t : D} (h : Th b n w t) : ∀ k : Nat, k ≤ 5 → Ths b n ((w + 1) * 5) (repL [t] k) := by
  have go : ∀ k : Nat, Ths b n ((w + 1) * k) (repL [t] k) := by
    intro k
    induction k with
    | zero => exact ths_nil
    | succ k ih =>
      refine (ths_cons h ih).mono (Int.le_refl _) (Nat.le_refl _) ?_
      rw [Nat.mul_succ]; omega
  exact fun k hk => (go k).mono (Int.le_refl _) (Nat.le_refl _) (Nat.mul_le_mul_left _ hk)
theorem r_law_edge : ∀ ds s R E, ds.length = 2 → p_law_edge ds s R E → t_law_edge (fnEnds R E) (dstart N_law_edge ds) s := by
  rintro _ _ R E _ ⟨mu, p, m, _, rfl, rfl, hm, ⟨ns, rfl, hns, hpos⟩, h⟩
  intro hz
  refine ⟨hz, ?_⟩
  refine comp_inv (fun rest acc s => ∃ (todo : List Str) (m' : Nat), rest = texts todo ∧ s = ⟨mu, some (p, m')⟩ ∧ (∀ x ∈ todo, nmOk x) ∧ acc.length + todo.length = ns.length ∧ (∀ x ∈ acc, Th (10 ^ 30) 1 200 x) ∧ m - 4 + todo.length ≤ m') ?_ ?_ _ _ _ ⟨ns, m, rfl, rfl, hns.1, by simp, fun x hx => (nomatch hx), by have := hns.2; omega⟩
  · rintro acc _ ⟨todo, m', hr, rfl, _, hlen, hacc, hm'⟩
    have ht : todo = [] := by cases todo with
      | nil => rfl
      | cons x r => cases hr
    subst ht
    have hlen : acc.length = ns.length := by simpa using hlen
    have h4 := hns.2
    have tacc : Th (10 ^ 30) 2 1000 (.tup acc) := (th_tup.mpr (ths_all hacc)).mono (Int.le_refl _) (Nat.le_refl _) (by rw [hlen]; omega)
    have last : ∀ (t v : D) (y : Option D) (m2 : Nat), Th (10 ^ 30) 3 1800 t → m - 20 ≤ m2 → (dRet (dOp oMulT (dTup (dCons (dOp oMulT (dTup (dCons (dVar 4) dNil)) (dOp oAdd (dC (.int 1)) (dCall 2 p_law_next (dCons (dVar 0) (dCons (dC (.int 5)) dNil))))) dNil)) (dOp oAdd (dC (.int 1)) (dCall 2 p_law_next (dCons (dVar 0) (dCons (dC (.int 5)) dNil)))))) (fnEnds R E) [some (.rf (.ref p)), some (.lst (texts ns)), some (.tup acc), some v, some t, y] ⟨mu, some (p, m2)⟩ := by
      intro t v y m2 ht hm2
      refine ⟨sz _ (show 1 ≤ _ by omega), rfl, use_next (by omega) (by decide) (by decide) fun r r0 r1 => ⟨⟨by simp, by omega, by omega, by simp⟩, sz _ (show 1 ≤ _ by omega), rfl, use_next (by omega) (by decide) (by decide) fun r2 r20 r21 => ⟨⟨by simp, by omega, by omega, by simp⟩, ?_⟩⟩⟩
      refine ⟨_, Sub.less (by omega), h _ ?_⟩
      have a1 := th_tup.mpr (ths_rep ht (1 + r).toNat (by omega))
      have a2 := th_tup.mpr (ths_rep a1 (1 + r2).toNat (by omega))
      exact a2.mono (Int.le_refl _) (by omega) (by omega)
    refine ⟨acc, rfl, sz _ (show 6 ≤ _ by omega), rfl, use_next (by omega) (by decide) (by decide) fun j j0 j1 => ?_⟩
    obtain ⟨v, hv, hvm⟩ := atI_of (xs := edgeV) j0 j1
    refine ⟨_, v, rfl, hv, sz _ (show 6 ≤ _ by omega), rfl, use_next (by omega) (by decide) (by decide) fun i i0 i1 => ?_⟩
    obtain ⟨o, ho, hom⟩ := atI_of (xs := edgeO) i0 i1
    refine ⟨_, o, rfl, ho, sz _ (show 3 ≤ _ by omega), ?_⟩
    have tv := edgeV_th v hvm
    have mk : ∀ (a b c : D), Th (10 ^ 30) 2 1300 a → Th (10 ^ 30) 0 120 b → Th (10 ^ 30) 0 120 c → Th (10 ^ 30) 3 1800 (.tup [a, b, c]) := fun a b c h1 h2 h3 => (th_tup.mpr (ths_cons h1 (ths_cons (h2.mono (Int.le_refl _) (by omega) (Nat.le_refl _)) (ths_cons (h3.mono (Int.le_refl _) (by omega) (Nat.le_refl _)) ths_nil)))).mono (Int.le_refl _) (Nat.le_refl _) (by omega)
    have t0 := mk _ _ _ (tacc.mono (Int.le_refl _) (Nat.le_refl _) (by omega)) (edgeO_th o hom) tv
    have second : ∀ (t : D) (m2 : Nat), Th (10 ^ 30) 3 1800 t → m - 16 ≤ m2 → (dSeq (dIfS (dTst (dOp oEq (dCall 2 p_law_next (dCons (dVar 0) (dCons (dC (.int 4)) dNil))) (dC (.int 0)))) (dSet 4 (dTup (dCons (dOp oAdd (dVar 2) (dTup (dCons (dTup (dCons (dC (.int 1)) (dCons (dC (.str "zzzzzzzz")) dNil))) dNil))) (dCons (dC (.str "<")) (dCons (dC (.int 0)) dNil))))) dNext)
        (dRet (dOp oMulT (dTup (dCons (dOp oMulT (dTup (dCons (dVar 4) dNil)) (dOp oAdd (dC (.int 1)) (dCall 2 p_law_next (dCons (dVar 0) (dCons (dC (.int 5)) dNil))))) dNil)) (dOp oAdd (dC (.int 1)) (dCall 2 p_law_next (dCons (dVar 0) (dCons (dC (.int 5)) dNil))))))) (fnEnds R E) [some (.rf (.ref p)), some (.lst (texts ns)), some (.tup acc), some v, some t, none] ⟨mu, some (p, m2)⟩ := by
      intro t m2 ht hm2
      refine ⟨rfl, use_next (by omega) (by decide) (by decide) fun r r0 r1 => ⟨⟨eqOk_int _, eqOk_int _⟩, ?_⟩⟩
      rw [eqb_int]
      cases hr : decide (r = 0) with
      | false => exact last t v none _ ht (by omega)
      | true =>
        refine ⟨sz _ (show 2 ≤ _ by omega), sz _ (show 1 ≤ _ by omega), sz _ (by rw [hlen]; show ns.length + 1 ≤ _; omega), sz _ (show 3 ≤ _ by omega), ?_⟩
        refine last _ v none _ (mk _ _ _ ?_ (th_ss "<") (th_sm 0)) (by omega)
        obtain ⟨q, e, hs⟩ := tup_items tacc
        cases e
        exact (th_tup.mpr (ths_app hs (ths_cons (th_tup.mpr (ths_cons (th_sm 1) (ths_cons (th_ss "zzzzzzzz") ths_nil))) ths_nil))).mono (Int.le_refl _) (Nat.le_refl _) (by omega)
    refine ⟨rfl, use_next (by omega) (by decide) (by decide) fun r r0 r1 => ⟨⟨eqOk_int _, eqOk_int _⟩, ?_⟩⟩
    rw [eqb_int]
    cases hr : decide (r = 0) with
    | false => exact second _ _ t0 (by omega)
    | true =>
      refine ⟨sz _ (show 3 ≤ _ by omega), ?_⟩
      refine second _ _ (mk _ _ _ ?_ (th_ss "<") tv) (by omega)
      obtain ⟨q, e, hs⟩ := tup_items tacc
      cases e
      exact (th_tup.mpr (ths_rev hs)).mono (Int.le_refl _) (Nat.le_refl _) (by omega)
  · rintro d rest acc _ K ⟨todo, m', hr, rfl, hn, hlen, hacc, hm'⟩ hK
    obtain ⟨x, r', rfl, rfl, rfl⟩ := texts_cons hr
    rw [List.length_cons] at hlen hm'
    refine ⟨sz _ (show 6 ≤ _ by omega), rfl, use_next (by omega) (by decide) (by decide) fun j j0 j1 => ?_⟩
    obtain ⟨v, hv, hvm⟩ := atI_of (xs := edgeN) j0 j1
    refine ⟨_, v, rfl, hv, sz _ (show 2 ≤ _ by omega), hK _ _ ⟨r', m' - 1, rfl, rfl, fun y hy => hn y (List.mem_cons_of_mem _ hy), by rw [List.length_append]; simp; omega, fun y hy => ?_, by omega⟩⟩
    rcases List.mem_append.mp hy with hy | hy
    · exact hacc y hy
    · rw [List.mem_singleton.mp hy]
      have hx := hn x List.mem_cons_self
      exact (th_tup.mpr (ths_cons (edgeN_th v hvm) (ths_cons ((th_str hx.1).mono (Int.le_refl _) (Nat.le_refl _) hx.2) ths_nil))).mono (Int.le_refl _) (Nat.le_refl _) (by omega)
theorem th_form {ns : List Str} {f : List (List Test)} (hns : namesOk ns) (h : FormOk ns f) : Th (10 ^ 30) 5 17700 (formD f) := by
  have le := Int.le_refl ((10 : Int) ^ 30)
  have ops : ∀ o ∈ opsL, Th (10 ^ 30) 0 120 (.str o) := fun o ho => by
    have : PyData.strOk o = true ∧ o.length ≤ 16 := by
      revert o
      decide +kernel
    exact (th_c (n := 0) this.1 this.2).mono le (Nat.le_refl _) (by omega)
  have tm : ∀ ts, TermsOk ns ts → Th (10 ^ 30) 2 804 (termsD ts) := fun ts ht => by
    have a : ∀ x ∈ ts.map termD, Th (10 ^ 30) 1 200 x := fun x hx => by
      obtain ⟨t, htm, rfl⟩ := List.mem_map.mp hx
      obtain ⟨h1, h2⟩ := ht.all t htm
      have hn := hns.1 _ h2
      exact (th_tup.mpr (ths_cons (th_int (b := 10 ^ 30) (n := 0) (by omega) (by omega) (by decide)) (ths_cons ((th_str hn.1).mono le (Nat.le_refl _) hn.2) ths_nil))).mono le (Nat.le_refl _) (by omega)
    refine (th_tup.mpr (ths_all a)).mono le (Nat.le_refl _) ?_
    have := ht.len
    have := hns.2
    rw [List.length_map]; omega
  have tt : ∀ t, TestOk ns t → Th (10 ^ 30) 3 1100 (testD t) := fun t ht =>
    (th_tup.mpr (ths_cons (tm _ ht.terms) (ths_cons ((ops _ ht.op).mono le (by omega) (Nat.le_refl _)) (ths_cons (th_int (b := 10 ^ 30) (n := 2) (by have := ht.num; omega) (by have := ht.num; omega) (by decide)) ths_nil)))).mono le (Nat.le_refl _) (by omega)
  have tc : ∀ c ∈ f.map caseD, Th (10 ^ 30) 4 4404 c := fun c hc => by
    obtain ⟨z, hz, rfl⟩ := List.mem_map.mp hc
    obtain ⟨h1, h2⟩ := h.cases z hz
    have a : ∀ x ∈ z.map testD, Th (10 ^ 30) 3 1100 x := fun x hx => by
      obtain ⟨t, htm, rfl⟩ := List.mem_map.mp hx
      exact tt t (h2 t htm)
    refine (th_tup.mpr (ths_all a)).mono le (Nat.le_refl _) ?_
    rw [List.length_map]; omega
  refine (th_tup.mpr (ths_all tc)).mono le (Nat.le_refl _) ?_
  have := h.len
  rw [List.length_map]; omega
theorem sh2 {cs : List (Str × Int)} {d : D} (hcs : CellsOk cs) (hd : ThS d) : (D.lst [cellsD cs, d]).shOkA := by
  obtain ⟨b, n, w, ht, h1, h2, h3⟩ := hd
  have tc : Th (10 ^ 30) 2 900 (cellsD cs) := (th_tup.mpr (ths_all (th_cells hcs))).mono (Int.le_refl _) (Nat.le_refl _) (by rw [List.length_map]; have := hcs.len; omega)
  exact (th_lst.mpr (ths_cons (tc.mono (c := 10 ^ 32) (m := n + 2) (by decide) (by omega) (Nat.le_refl _)) (ths_cons (ht.mono (c := 10 ^ 32) (m := n + 2) h1 (by omega) (Nat.le_refl _)) ths_nil))).shOkA (by decide) (by omega) (by omega)
def dueF (ns : List Str) (d : D) : D := match faultF ns d with
  | none => .lst [d]
  | some e => .tup [.str "formula", e]
theorem th_toldF {e : D} (h : Th (10 ^ 30) 1 250 e) : (D.tup [.str "formula", e]).shOkA :=
  (th_tup.mpr (ths_cons (th_c (n := 1) (by decide +kernel) (by decide +kernel)) (ths_cons h ths_nil))).shOkA (by decide) (by decide) (by decide)
theorem due_sh {ns : List Str} {d : D} (h : ThS d) : (dueF ns d).shOkA := by
  unfold dueF
  split
  · exact thS_lst h
  · rename_i e he
    exact th_toldF (th_place he h)
theorem kinds_eq (e : D) : f_law_kinds [.exc "BadFormula" [("place", e)]] = .ok (.tup [.str "formula", e]) := by kernel_rfl
theorem place_tup {ns : List Str} {d z : D} (h : faultF ns d = some z) : ∃ ys, z = .tup ys := by
  cases d with
  | tup xs =>
    simp only [faultF] at h
    split at h
    · cases h; exact ⟨_, rfl⟩
    · split at h
      · cases h; exact ⟨_, rfl⟩
      · split at h
        · cases h; exact ⟨_, rfl⟩
        · cases h
  | _ => cases h; exact ⟨_, rfl⟩
theorem told_ok (d : D) : told_law_told (.ok d) = .ok (.lst [d]) := rfl
theorem told_ex (e : D) : told_law_told (.ex ⟨"BadFormula", [("place", e)]⟩) = .ok (.tup [.str "formula", e]) :=
  (toldF_ex (x := ⟨"BadFormula", [("place", e)]⟩) List.mem_cons_self (show (["KeptError", "Missing", "TooMany"] : List Str).any (subC "BadFormula") = true by decide +kernel)).trans (kinds_eq e)
theorem told_due {cs : List (Str × Int)} {d : D} (hcs : CellsOk cs) (hd : ThS d) : told_law_told (f_need_formula [cellsD cs, d]) = .ok (dueF (cs.map (·.1)) d) := by
  rw [need_formula_eq hcs hd]
  unfold dueF
  cases faultF (cs.map (·.1)) d with
  | none => exact told_ok d
  | some e => exact told_ex e
theorem turn_ok {cs : List (Str × Int)} {d : D} (hcs : CellsOk cs) (hd : ThS d) (x0 x1 x2 x5 x6 x11 : Option D) (k : FS) : (optE (fgName 7 d [x0, x1, x2, some (cellsD cs), some (.lst (texts (cs.map (·.1)))), x5, x6, none, none, none, none, x11]) fun e1 => (fb_law_b1 e1).turn [7, 8, 9, 10] k) = k [x0, x1, x2, some (cellsD cs), some (.lst (texts (cs.map (·.1)))), x5, x6, none, none, none, none, x11] := by
  have h1 := law_formula_fault_eq (cells_nm hcs) hd
  have h2 := told_due hcs hd
  have h3 := due_sh (ns := cs.map (·.1)) hd
  cases hf : faultF (cs.map (·.1)) d with
  | none =>
    have e : dueF (cs.map (·.1)) d = .lst [d] := by unfold dueF; rw [hf]
    rw [hf] at h1
    rw [e] at h2 h3
    simp [fb_law_b1, gRepr_of (sh2 hcs hd), h1, h2, gRepr_of h3]
  | some z =>
    have e : dueF (cs.map (·.1)) d = .tup [.str "formula", z] := by unfold dueF; rw [hf]
    obtain ⟨ys, rfl⟩ := place_tup hf
    rw [hf] at h1
    rw [e] at h2 h3
    simp [fb_law_b1, gRepr_of (sh2 hcs hd), h1, h2, gRepr_of h3]
theorem loop_ok {cs : List (Str × Int)} {things : List D} (hcs : CellsOk cs) (ht : ∀ d ∈ things, ThS d) (x0 x1 x2 x5 x6 x11 : Option D) : fLoop (fgName 7) fb_law_b1 [7, 8, 9, 10] things [x0, x1, x2, some (cellsD cs), some (.lst (texts (cs.map (·.1)))), x5, x6, none, none, none, none, x11] = .nx [x0, x1, x2, some (cellsD cs), some (.lst (texts (cs.map (·.1)))), x5, x6, none, none, none, none, x11] := by
  rw [loop_allD (fun _ => true) (.no) (fun d hd k => by simpa using turn_ok hcs (ht d hd) x0 x1 x2 x5 x6 x11 k)]
  simp
theorem law_body {ns : List Int} {p : Addr} {m : Nat} {d : D} {e : DEnv} {s : S} {K : DEnv → S → Prop} {BK : DEnv → S → Prop} {RT : D → S → Prop} {EX : Ex → DEnv → S → Prop} (he : LawE ns p 12 e) (hl : Left p (563 + m) s) (hK : ∀ e' s', LawE ns p 12 e' → Left p m s' → K e' s') : t_law_b2 ⟨K, RT, BK, K, EX⟩ (dset e 2 (some d)) s := by
  obtain ⟨h1, h2, h3⟩ := he
  match e, h1 with
  | [x0, x1, x2, x3, x4, x5, x6, x7, x8, x9, x10, x11], _ =>
  cases h2
  cases h3
  refine ⟨rfl, use_drL (m := 547 + m) (hl.mono (by omega)) rfl fun d1 s1 hd1 hm1 hl1 => ?_⟩
  obtain ⟨cs, rfl, hcs⟩ := hd1
  have hns := cells_names hcs
  dsimp only [dset_zero, dset_succ]
  refine seq_set (d := .lst (texts (cs.map (·.1)))) ax_law_1 ?_ ?_
  · simp [fx_law_1, cellsD]
    rw [fGo_map (F := fun c => .str c.1) (h := fun c _ => by simp [fElem, cellD])]
    simp [map_strs]
  simp
  refine ⟨rfl, use_drL (m := 382 + m) (hl1.mono (by omega)) ⟨cs.map (·.1), rfl, hns⟩ fun d2 s2 hd2 hm2 hl2 => ?_⟩
  obtain ⟨_, f, e1, rfl, hf⟩ := hd2
  cases texts_inj (D.lst.inj (List.cons.inj e1).1)
  have tf := th_form hns hf
  have pre : ∀ {t : D} {b : Int} {w : Nat}, Th b 7 w t → 10 ^ 30 ≤ b → b ≤ 10 ^ 31 → w ≤ 40000 → ∃ t' b' w', [t] = [t'] ∧ 7 ≤ 40 ∧ Th b' 7 w' t' ∧ 10 ^ 30 ≤ b' ∧ b' ≤ 10 ^ 31 ∧ w' ≤ 40000 := fun {t b w} h a c d => ⟨t, b, w, rfl, by decide, h, a, c, d⟩
  have tf7 : Th (10 ^ 30) 7 17700 (formD f) := tf.mono (Int.le_refl _) (by decide) (Nat.le_refl _)
  refine ⟨rfl, use_drL (m := 334 + m) (hl2.mono (by omega)) (pre tf7 (Int.le_refl _) (by decide) (by decide)) fun d3 s3 hd3 hm3 hl3 => ?_⟩
  obtain ⟨_, e3, b3⟩ := hd3
  cases (List.cons.inj e3).1
  refine ⟨rfl, use_drL (m := 286 + m) (hl3.mono (by omega)) (pre tf7 (Int.le_refl _) (by decide) (by decide)) fun d4 s4 hd4 hm4 hl4 => ?_⟩
  obtain ⟨_, e4, b4⟩ := hd4
  cases (List.cons.inj e4).1
  refine ⟨rfl, use_drL (m := 262 + m) (hl4.mono (by omega)) ⟨_, rfl, hns, by rw [List.length_map]; exact hcs.pos⟩ fun d5 s5 hd5 hm5 hl5 => ?_⟩
  refine ⟨rfl, use_drL (m := 261 + m) (hl5.mono (by omega)) rfl fun d6 s6 hd6 hm6 hl6 => ?_⟩
  refine ⟨sz _ (show 5 ≤ _ by omega), fun q hq => ?_⟩
  have t3 := b3 _ _ _ tf (Int.le_refl _) (by decide) (by decide)
  have t4 := b4 _ _ _ tf (Int.le_refl _) (by decide) (by decide)
  have hl6' : Left p (261 + m) (s6.put q (.ml [formD f, d3, d4, d5, d6])) := hl6
  refine ⟨⟨_, put_same⟩, ?_⟩
  refine ⟨_, _, seqOf_ml put_same, atI_c1 _ _ _, rfl, use_drL (m := 213 + m) (hl6'.mono (by omega)) (pre (t3.mono (Int.le_refl _) (by decide) (Nat.le_refl _)) (by decide) (by decide) (by decide)) fun d7 s7 hd7 hm7 hl7 => ?_⟩
  obtain ⟨_, e7, b7⟩ := hd7
  cases (List.cons.inj e7).1
  have t7 := b7 _ _ _ t3 (by decide) (by decide) (by decide)
  refine ⟨_, by rw [hm7]; exact put_same, Nat.lt_of_lt_of_le (show 5 < 100 by omega) (sz _ (by omega)), ?_⟩
  refine ⟨⟨_, put_same⟩, ?_⟩
  have hl7' : Left p (213 + m) (s7.put q (.ml ([formD f, d3, d4, d5, d6] ++ [d7]))) := hl7
  refine ⟨rfl, use_drL (m := 48 + m) (hl7'.mono (by omega)) ⟨cs.map (·.1), rfl, hns⟩ fun d8 s8 hd8 hm8 hl8 => ?_⟩
  obtain ⟨_, f2, e8, rfl, hf2⟩ := hd8
  cases texts_inj (D.lst.inj (List.cons.inj e8).1)
  have tg := th_form hns hf2
  refine ⟨rfl, use_drL (m := m) (hl8.mono (by omega)) (pre (tg.mono (Int.le_refl _) (by decide) (Nat.le_refl _)) (Int.le_refl _) (by decide) (by decide)) fun d9 s9 hd9 hm9 hl9 => ?_⟩
  obtain ⟨_, e9, b9⟩ := hd9
  cases (List.cons.inj e9).1
  have t9 := b9 _ _ _ tg (Int.le_refl _) (by decide) (by decide)
  have hfl := hf.len
  refine ⟨sz _ (show 1 ≤ _ by omega), ⟨?_, ?_⟩⟩
  · rw [List.length_map]
    exact sz _ (show f.length + 1 ≤ _ by omega)
  refine ⟨_, by rw [hm9, hm8]; exact put_same, Nat.lt_of_lt_of_le (show 6 < 100 by omega) (sz _ (by omega)), ?_⟩
  refine ⟨q, _, rfl, put_same, fun hz => ?_⟩
  have tsum : Th (10 ^ 30 + 100) 8 80000 (.tup (f.map caseD ++ [d9])) := by
    obtain ⟨k, hk, hs⟩ := tup_items tf
    cases hk
    exact (th_tup.mpr (ths_app (hs.mono (c := 10 ^ 30 + 100) (m := 7) (by decide) (by decide) (Nat.le_refl _)) (ths_cons t9 ths_nil))).mono (m := 8) (Int.le_refl _) (by decide) (by decide)
  have all : ∀ d ∈ [formD f, d3, d4, d5, d6, d7, .tup (f.map caseD ++ [d9])], ThS d := by
    intro d hd
    simp only [List.mem_cons, List.not_mem_nil, or_false] at hd
    rcases hd with rfl | rfl | rfl | rfl | rfl | rfl | rfl
    · exact ⟨_, _, _, tf, by decide, by decide, by decide⟩
    · exact ⟨_, _, _, t3, by decide, by decide, by decide⟩
    · exact ⟨_, _, _, t4, by decide, by decide, by decide⟩
    · exact ⟨_, _, _, hd5, by decide, by decide, by decide⟩
    · exact ⟨_, _, _, hd6, by decide, by decide, by decide⟩
    · exact ⟨_, _, _, t7, by decide, by decide, by decide⟩
    · exact ⟨_, _, _, tsum, by decide, by decide, by decide⟩
  exact use_loop [7, 8, 9, 10] a_law_b1 (W := [7, 8, 9, 10]) (by decide) (loop_ok hcs all (some (.scr ns)) (some (.rf (.ref p))) (some d) (some (formD f)) (some (.lst [formD f, d3, d4, d5, d6, d7, .tup (f.map caseD ++ [d9])])) x11) fun we ws r => hK _ _ ⟨r.len.symm, r.im 0 _ (by decide) rfl, r.im 1 _ (by decide) rfl⟩ (Left.of_sub r.sub hl9)
theorem r_law : ∀ ds s R E, ds.length = 1 → p_law ds s R E → t_law (fnEnds R E) (dstart N_law ds) s := by
  rintro _ _ R E _ ⟨ns, rfl, hn, rfl, h⟩
  refine law_run (L := 12) (c := 563) hn rfl (by decide) (by decide) (by decide) (by decide) (fun p m d e s K h1 h2 h3 => ?_) (fun p e s he => ⟨_, Sub.refl _, h _⟩)
  exact law_body h1 h2 h3
end Bk.K03

/-! K03: the defs of the text. -/
namespace Bk.K03
open PySem PySem.Spec PyProof.Rows L2
open Bk.Pa
open Bk.Qa
def topS (i : Nat) : Stmt := PySem.Challenge.pw_bothkept_k03_whole_formulas_checked.main.body.getD i (.Pass ⟨0, 0, 0, 0⟩)
abbrev s_is_among : Stmt := topS 22
theorem sc_is_among : FnScope N_is_among ["thing", "least", "most"] (defScope s_is_among) := ⟨rfl, rfl, rfl, by decide +kernel, rfl, by decide +kernel, by decide +kernel⟩
abbrev s_is_name : Stmt := topS 23
theorem sc_is_name : FnScope N_is_name ["thing"] (defScope s_is_name) := ⟨rfl, rfl, rfl, by decide +kernel, rfl, by decide +kernel, by decide +kernel⟩
abbrev s_is_row : Stmt := topS 24
theorem sc_is_row : FnScope N_is_row ["thing", "most"] (defScope s_is_row) := ⟨rfl, rfl, rfl, by decide +kernel, rfl, by decide +kernel, by decide +kernel⟩
abbrev s_names_of : Stmt := topS 25
theorem sc_names_of : FnScope N_names_of ["cells"] (defScope s_names_of) := ⟨rfl, rfl, rfl, by decide +kernel, rfl, by decide +kernel, by decide +kernel⟩
abbrev s_are_in_order : Stmt := topS 26
theorem sc_are_in_order : FnScope N_are_in_order ["cells", "thing"] (defScope s_are_in_order) := ⟨rfl, rfl, rfl, by decide +kernel, rfl, by decide +kernel, by decide +kernel⟩
abbrev s_are_terms : Stmt := topS 27
theorem sc_are_terms : FnScope N_are_terms ["cells", "thing"] (defScope s_are_terms) := ⟨rfl, rfl, rfl, by decide +kernel, rfl, by decide +kernel, by decide +kernel⟩
abbrev s_is_test : Stmt := topS 28
theorem sc_is_test : FnScope N_is_test ["cells", "thing"] (defScope s_is_test) := ⟨rfl, rfl, rfl, by decide +kernel, rfl, by decide +kernel, by decide +kernel⟩
abbrev s_need_formula : Stmt := topS 29
theorem sc_need_formula : FnScope N_need_formula ["cells", "thing"] (defScope s_need_formula) := ⟨rfl, rfl, rfl, by decide +kernel, rfl, by decide +kernel, by decide +kernel⟩
abbrev s_law_begun : Stmt := topS 31
theorem sc_law_begun : FnScope N_law_begun ["_law_script"] (defScope s_law_begun) := ⟨rfl, rfl, rfl, by decide +kernel, rfl, by decide +kernel, by decide +kernel⟩
abbrev s_law_next : Stmt := topS 32
theorem sc_law_next : FnScope N_law_next ["_law_m", "_law_many"] (defScope s_law_next) := ⟨rfl, rfl, rfl, by decide +kernel, rfl, by decide +kernel, by decide +kernel⟩
abbrev s_law_names : Stmt := topS 33
theorem sc_law_names : FnScope N_law_names ["_law_m", "_law_many"] (defScope s_law_names) := ⟨rfl, rfl, rfl, by decide +kernel, rfl, by decide +kernel, by decide +kernel⟩
abbrev s_law_cells : Stmt := topS 34
theorem sc_law_cells : FnScope N_law_cells ["_law_m"] (defScope s_law_cells) := ⟨rfl, rfl, rfl, by decide +kernel, rfl, by decide +kernel, by decide +kernel⟩
abbrev s_law_terms : Stmt := topS 35
theorem sc_law_terms : FnScope N_law_terms ["_law_m", "_law_names_here"] (defScope s_law_terms) := ⟨rfl, rfl, rfl, by decide +kernel, rfl, by decide +kernel, by decide +kernel⟩
abbrev s_law_test : Stmt := topS 36
theorem sc_law_test : FnScope N_law_test ["_law_m", "_law_names_here"] (defScope s_law_test) := ⟨rfl, rfl, rfl, by decide +kernel, rfl, by decide +kernel, by decide +kernel⟩
abbrev s_law_formula : Stmt := topS 37
theorem sc_law_formula : FnScope N_law_formula ["_law_m", "_law_names_here"] (defScope s_law_formula) := ⟨rfl, rfl, rfl, by decide +kernel, rfl, by decide +kernel, by decide +kernel⟩
abbrev s_law_odd : Stmt := topS 38
theorem sc_law_odd : FnScope N_law_odd ["_law_m"] (defScope s_law_odd) := ⟨rfl, rfl, rfl, by decide +kernel, rfl, by decide +kernel, by decide +kernel⟩
abbrev s_law_bent : Stmt := topS 39
theorem sc_law_bent : FnScope N_law_bent ["_law_m", "_law_thing"] (defScope s_law_bent) := ⟨rfl, rfl, rfl, by decide +kernel, rfl, by decide +kernel, by decide +kernel⟩
abbrev s_law_is_whole : Stmt := topS 40
theorem sc_law_is_whole : FnScope N_law_is_whole ["_law_thing", "_law_least", "_law_most"] (defScope s_law_is_whole) := ⟨rfl, rfl, rfl, by decide +kernel, rfl, by decide +kernel, by decide +kernel⟩
abbrev s_law_in_order : Stmt := topS 42
theorem sc_law_in_order : FnScope N_law_in_order ["_law_names_here", "_law_thing"] (defScope s_law_in_order) := ⟨rfl, rfl, rfl, by decide +kernel, rfl, by decide +kernel, by decide +kernel⟩
abbrev s_law_are_terms : Stmt := topS 43
theorem sc_law_are_terms : FnScope N_law_are_terms ["_law_names_here", "_law_thing"] (defScope s_law_are_terms) := ⟨rfl, rfl, rfl, by decide +kernel, rfl, by decide +kernel, by decide +kernel⟩
abbrev s_law_is_test : Stmt := topS 44
theorem sc_law_is_test : FnScope N_law_is_test ["_law_names_here", "_law_thing"] (defScope s_law_is_test) := ⟨rfl, rfl, rfl, by decide +kernel, rfl, by decide +kernel, by decide +kernel⟩
abbrev s_law_formula_fault : Stmt := topS 45
theorem sc_law_formula_fault : FnScope N_law_formula_fault ["_law_names_here", "_law_thing"] (defScope s_law_formula_fault) := ⟨rfl, rfl, rfl, by decide +kernel, rfl, by decide +kernel, by decide +kernel⟩
abbrev s_law_kinds : Stmt := topS 46
theorem sc_law_kinds : FnScope N_law_kinds ["_law_e"] (defScope s_law_kinds) := ⟨rfl, rfl, rfl, by decide +kernel, rfl, by decide +kernel, by decide +kernel⟩
abbrev s_law_told : Stmt := topS 47
theorem sc_law_told : FnScope N_law_told ["_law_call"] (defScope s_law_told) := ⟨rfl, rfl, rfl, by decide +kernel, rfl, by decide +kernel, by decide +kernel⟩
abbrev s_law_edge : Stmt := topS 48
theorem sc_law_edge : FnScope N_law_edge ["_law_m", "_law_names_here"] (defScope s_law_edge) := ⟨rfl, rfl, rfl, by decide +kernel, rfl, by decide +kernel, by decide +kernel⟩
abbrev s_law : Stmt := topS 49
theorem sc_law : FnScope N_law ["_law_script"] (defScope s_law) := ⟨rfl, rfl, rfl, by decide +kernel, rfl, by decide +kernel, by decide +kernel⟩
abbrev i_BadFormula : Stmt := initS (topS 3)
theorem is_BadFormula : InitS (defArgs i_BadFormula) (defBody i_BadFormula) (defScope i_BadFormula) "place" "place" := ⟨⟨_, _, _, _, _, _, _, _, _, _, _, _, rfl, fun _ _ _ _ _ => ⟨_, rfl, rfl, rfl, rfl⟩⟩, ⟨_, rfl, rfl⟩, fun _ _ _ _ _ _ _ _ _ _ => rfl, rfl, rfl, rfl, rfl, by decide, by decide, by decide +kernel, rfl, rfl, rfl⟩
structure Txt (P : Program) (K : PySem.W.Frag) (mg : Str → Option Value) (base : Heap) (T : Tb) where
  f_is_among : Addr
  d_is_among : FuncData
  F_is_among : Fun K "is_among" "is_among" s_is_among f_is_among d_is_among
  m_is_among : mg "is_among" = some (.ref f_is_among)
  b_is_among : Binds K d_is_among ["thing", "least", "most"] []
  f_is_name : Addr
  d_is_name : FuncData
  F_is_name : Fun K "is_name" "is_name" s_is_name f_is_name d_is_name
  m_is_name : mg "is_name" = some (.ref f_is_name)
  b_is_name : Binds K d_is_name ["thing"] []
  f_is_row : Addr
  d_is_row : FuncData
  F_is_row : Fun K "is_row" "is_row" s_is_row f_is_row d_is_row
  m_is_row : mg "is_row" = some (.ref f_is_row)
  b_is_row : Binds K d_is_row ["thing", "most"] []
  f_names_of : Addr
  d_names_of : FuncData
  F_names_of : Fun K "names_of" "names_of" s_names_of f_names_of d_names_of
  m_names_of : mg "names_of" = some (.ref f_names_of)
  b_names_of : Binds K d_names_of ["cells"] []
  f_are_in_order : Addr
  d_are_in_order : FuncData
  F_are_in_order : Fun K "are_in_order" "are_in_order" s_are_in_order f_are_in_order d_are_in_order
  m_are_in_order : mg "are_in_order" = some (.ref f_are_in_order)
  b_are_in_order : Binds K d_are_in_order ["cells", "thing"] []
  f_are_terms : Addr
  d_are_terms : FuncData
  F_are_terms : Fun K "are_terms" "are_terms" s_are_terms f_are_terms d_are_terms
  m_are_terms : mg "are_terms" = some (.ref f_are_terms)
  b_are_terms : Binds K d_are_terms ["cells", "thing"] []
  f_is_test : Addr
  d_is_test : FuncData
  F_is_test : Fun K "is_test" "is_test" s_is_test f_is_test d_is_test
  m_is_test : mg "is_test" = some (.ref f_is_test)
  b_is_test : Binds K d_is_test ["cells", "thing"] []
  f_need_formula : Addr
  d_need_formula : FuncData
  F_need_formula : Fun K "need_formula" "need_formula" s_need_formula f_need_formula d_need_formula
  m_need_formula : mg "need_formula" = some (.ref f_need_formula)
  b_need_formula : Binds K d_need_formula ["cells", "thing"] []
  f_law_begun : Addr
  d_law_begun : FuncData
  F_law_begun : Fun K "_law_begun" "_law_begun" s_law_begun f_law_begun d_law_begun
  m_law_begun : mg "_law_begun" = some (.ref f_law_begun)
  b_law_begun : Binds K d_law_begun ["_law_script"] []
  f_law_next : Addr
  d_law_next : FuncData
  F_law_next : Fun K "_law_next" "_law_next" s_law_next f_law_next d_law_next
  m_law_next : mg "_law_next" = some (.ref f_law_next)
  b_law_next : Binds K d_law_next ["_law_m", "_law_many"] []
  f_law_names : Addr
  d_law_names : FuncData
  F_law_names : Fun K "_law_names" "_law_names" s_law_names f_law_names d_law_names
  m_law_names : mg "_law_names" = some (.ref f_law_names)
  b_law_names : Binds K d_law_names ["_law_m", "_law_many"] []
  f_law_cells : Addr
  d_law_cells : FuncData
  F_law_cells : Fun K "_law_cells" "_law_cells" s_law_cells f_law_cells d_law_cells
  m_law_cells : mg "_law_cells" = some (.ref f_law_cells)
  b_law_cells : Binds K d_law_cells ["_law_m"] []
  f_law_terms : Addr
  d_law_terms : FuncData
  F_law_terms : Fun K "_law_terms" "_law_terms" s_law_terms f_law_terms d_law_terms
  m_law_terms : mg "_law_terms" = some (.ref f_law_terms)
  b_law_terms : Binds K d_law_terms ["_law_m", "_law_names_here"] []
  f_law_test : Addr
  d_law_test : FuncData
  F_law_test : Fun K "_law_test" "_law_test" s_law_test f_law_test d_law_test
  m_law_test : mg "_law_test" = some (.ref f_law_test)
  b_law_test : Binds K d_law_test ["_law_m", "_law_names_here"] []
  f_law_formula : Addr
  d_law_formula : FuncData
  F_law_formula : Fun K "_law_formula" "_law_formula" s_law_formula f_law_formula d_law_formula
  m_law_formula : mg "_law_formula" = some (.ref f_law_formula)
  b_law_formula : Binds K d_law_formula ["_law_m", "_law_names_here"] []
  f_law_odd : Addr
  d_law_odd : FuncData
  F_law_odd : Fun K "_law_odd" "_law_odd" s_law_odd f_law_odd d_law_odd
  m_law_odd : mg "_law_odd" = some (.ref f_law_odd)
  b_law_odd : Binds K d_law_odd ["_law_m"] []
  f_law_bent : Addr
  d_law_bent : FuncData
  F_law_bent : Fun K "_law_bent" "_law_bent" s_law_bent f_law_bent d_law_bent
  m_law_bent : mg "_law_bent" = some (.ref f_law_bent)
  b_law_bent : Binds K d_law_bent ["_law_m", "_law_thing"] []
  f_law_is_whole : Addr
  d_law_is_whole : FuncData
  F_law_is_whole : Fun K "_law_is_whole" "_law_is_whole" s_law_is_whole f_law_is_whole d_law_is_whole
  m_law_is_whole : mg "_law_is_whole" = some (.ref f_law_is_whole)
  b_law_is_whole : Binds K d_law_is_whole ["_law_thing", "_law_least", "_law_most"] []
  f_law_in_order : Addr
  d_law_in_order : FuncData
  F_law_in_order : Fun K "_law_in_order" "_law_in_order" s_law_in_order f_law_in_order d_law_in_order
  m_law_in_order : mg "_law_in_order" = some (.ref f_law_in_order)
  b_law_in_order : Binds K d_law_in_order ["_law_names_here", "_law_thing"] []
  f_law_are_terms : Addr
  d_law_are_terms : FuncData
  F_law_are_terms : Fun K "_law_are_terms" "_law_are_terms" s_law_are_terms f_law_are_terms d_law_are_terms
  m_law_are_terms : mg "_law_are_terms" = some (.ref f_law_are_terms)
  b_law_are_terms : Binds K d_law_are_terms ["_law_names_here", "_law_thing"] []
  f_law_is_test : Addr
  d_law_is_test : FuncData
  F_law_is_test : Fun K "_law_is_test" "_law_is_test" s_law_is_test f_law_is_test d_law_is_test
  m_law_is_test : mg "_law_is_test" = some (.ref f_law_is_test)
  b_law_is_test : Binds K d_law_is_test ["_law_names_here", "_law_thing"] []
  f_law_formula_fault : Addr
  d_law_formula_fault : FuncData
  F_law_formula_fault : Fun K "_law_formula_fault" "_law_formula_fault" s_law_formula_fault f_law_formula_fault d_law_formula_fault
  m_law_formula_fault : mg "_law_formula_fault" = some (.ref f_law_formula_fault)
  b_law_formula_fault : Binds K d_law_formula_fault ["_law_names_here", "_law_thing"] []
  f_law_kinds : Addr
  d_law_kinds : FuncData
  F_law_kinds : Fun K "_law_kinds" "_law_kinds" s_law_kinds f_law_kinds d_law_kinds
  m_law_kinds : mg "_law_kinds" = some (.ref f_law_kinds)
  b_law_kinds : Binds K d_law_kinds ["_law_e"] []
  f_law_told : Addr
  d_law_told : FuncData
  F_law_told : Fun K "_law_told" "_law_told" s_law_told f_law_told d_law_told
  m_law_told : mg "_law_told" = some (.ref f_law_told)
  b_law_told : Binds K d_law_told ["_law_call"] []
  f_law_edge : Addr
  d_law_edge : FuncData
  F_law_edge : Fun K "_law_edge" "_law_edge" s_law_edge f_law_edge d_law_edge
  m_law_edge : mg "_law_edge" = some (.ref f_law_edge)
  b_law_edge : Binds K d_law_edge ["_law_m", "_law_names_here"] []
  f_law : Addr
  d_law : FuncData
  c_law : Addr
  P_law : Addr
  F_law : FunC K "law" "law" s_law f_law d_law c_law
  m_law : mg "law" = some (.ref f_law)
  b_law : Binds K d_law ["_law_script"] []
  tb_law : LamX.TabB base mg c_law P_law
  tm_law : (P_law, lamQ "law") ∈ T.tabs
  tu_law : ∀ p ∈ T.tabs, p.1 = P_law → p.2 = lamQ "law"
  n_all : mg "all" = none
  n_bool : mg "bool" = none
  n_enumerate : mg "enumerate" = none
  n_int : mg "int" = none
  n_isinstance : mg "isinstance" = none
  n_len : mg "len" = none
  n_list : mg "list" = none
  n_min : mg "min" = none
  n_range : mg "range" = none
  n_repr : mg "repr" = none
  n_str : mg "str" = none
  n_tuple : mg "tuple" = none
  sm : ∃ mm, base.Ns sysModules mm
  ea : EAll K T kn ms fs
  na_BadCells : mg "BadCells" = some (.ref (T.cls "BadCells"))
  na_BadFormula : mg "BadFormula" = some (.ref (T.cls "BadFormula"))
  na_BadNode : mg "BadNode" = some (.ref (T.cls "BadNode"))
  na_BadNumber : mg "BadNumber" = some (.ref (T.cls "BadNumber"))
  na_BadPaper : mg "BadPaper" = some (.ref (T.cls "BadPaper"))
  na_BadProgram : mg "BadProgram" = some (.ref (T.cls "BadProgram"))
  na_BadStanding : mg "BadStanding" = some (.ref (T.cls "BadStanding"))
  na_BadText : mg "BadText" = some (.ref (T.cls "BadText"))
  na_BadWeaving : mg "BadWeaving" = some (.ref (T.cls "BadWeaving"))
  na_KeptError : mg "KeptError" = some (.ref (T.cls "KeptError"))
  na_Missing : mg "Missing" = some (.ref (T.cls "Missing"))
  na_TooMany : mg "TooMany" = some (.ref (T.cls "TooMany"))
  na_Twice : mg "Twice" = some (.ref (T.cls "Twice"))
  ec_BadFormula : ECls P K mg T "BadFormula" "place"
  k_LETTERS : ∃ t, mg "LETTERS" = some (.str "abcdefghijklmnopqrstuvwxyz" t)
  k_MOST_CASES : ∃ t, mg "MOST_CASES" = some (.int 4 t)
  k_MOST_CELLS : ∃ t, mg "MOST_CELLS" = some (.int 4 t)
  k_MOST_FACTOR : ∃ t, mg "MOST_FACTOR" = some (.int 9 t)
  k_MOST_NUMBER : ∃ t, mg "MOST_NUMBER" = some (.int 99 t)
  k_MOST_TESTS : ∃ t, mg "MOST_TESTS" = some (.int 4 t)
  k_OPS : ∃ u, mg "OPS" = some u ∧ gB K (.tup [(.str "="), (.str "!="), (.str "<"), (.str "<="), (.str ">"), (.str ">=")]) u = true
section
variable {P : Program} {w : World} {K : PySem.W.Frag} {mg : Str → Option Value} {base : Heap} {T : Tb}
theorem g_is_among (t : Txt P K mg base T) : GFn P w K mg base 1 t.f_is_among t.d_is_among ["thing", "least", "most"] (spD K T 3 p_is_among) := gfn_of (t := t_is_among) t.F_is_among sc_is_among (fun cdv A outer s H E B => 
  (dss_one (ds_ret (dx_and (dx_callB cd_isi (by rfl) t.n_isinstance bt_isinstance (da_cons (dv 0) (da_cons (dx_bty (by rfl) t.n_int bt_int) da_nil))) (dx_and (dx_not (dx_callB cd_isi (by rfl) t.n_isinstance bt_isinstance (da_cons (dv 0) (da_cons (dx_bty (by rfl) t.n_bool bt_bool) da_nil)))) (dx_one (dx_chain od_le od_le (dv 1) (dv 0) (dv 2)))))))) r_is_among
theorem g_is_name (t : Txt P K mg base T) : GFn P w K mg base 1 t.f_is_name t.d_is_name ["thing"] (spD K T 1 p_is_name) := gfn_of (t := t_is_name) t.F_is_name sc_is_name (fun cdv A outer s H E B => 
  (dss_one (ds_ret (dx_and (dx_callB cd_isi (by rfl) t.n_isinstance bt_isinstance (da_cons (dv 0) (da_cons (dx_bty (by rfl) t.n_str bt_str) da_nil))) (dx_and (dx_chain od_le od_le dx_int (dx_callB cd_len (by rfl) t.n_len bt_len (da_cons (dv 0) da_nil)) dx_int) (dx_one (dx_callB (cd_all rfl) (by rfl) t.n_all bt_all (da_cons (dx_lcV rfl sc_is_name.nd (di_seq (dv 0)) (blk_top (N := N_is_name) (sc := defScope s_is_name) (own := [("letter", 1)]) (by decide +kernel)) rfl (fun _ _ _ _ _ => (dgo_name (i := 1) (by decide) sc_is_name.nd rfl (.inl rfl))) (fun _ _ _ _ _ => dts_nil) (fun _ _ _ _ _ => (dx_cmp (od_in B.u65) (dv 1) (dx_gstr (by rfl) t.k_LETTERS)))) da_nil)))))))) r_is_name
theorem g_is_row (t : Txt P K mg base T) : GFn P w K mg base 1 t.f_is_row t.d_is_row ["thing", "most"] (spD K T 2 p_is_row) := gfn_of (t := t_is_row) t.F_is_row sc_is_row (fun cdv A outer s H E B => 
  (dss_one (ds_ret (dx_and (dx_callB cd_isi (by rfl) t.n_isinstance bt_isinstance (da_cons (dv 0) (da_cons (dx_bty (by rfl) t.n_tuple bt_tuple) da_nil))) (dx_one (dx_cmp od_le (dx_callB cd_len (by rfl) t.n_len bt_len (da_cons (dv 0) da_nil)) (dv 1))))))) r_is_row
theorem g_names_of (t : Txt P K mg base T) : GFn P w K mg base 1 t.f_names_of t.d_names_of ["cells"] (spD K T 1 p_names_of) := gfn_of (t := t_names_of) t.F_names_of sc_names_of (fun cdv A outer s H E B => 
  (dss_one (ds_ret (dx_lcV rfl sc_names_of.nd (di_seq (dv 0)) (blk_top (N := N_names_of) (sc := defScope s_names_of) (own := [("cell", 1)]) (by decide +kernel)) rfl (fun _ _ _ _ _ => (dgo_name (i := 1) (by decide) sc_names_of.nd rfl (.inl rfl))) (fun _ _ _ _ _ => dts_nil) (fun _ _ _ _ _ => (dx_ix ixd_seq (dv 1) dx_int (fun _ _ => rfl))))))) r_names_of
theorem g_law_begun (t : Txt P K mg base T) : GFn P w K mg base 1 t.f_law_begun t.d_law_begun ["_law_script"] (spD K T 1 p_law_begun) := gfn_of (t := t_law_begun) t.F_law_begun sc_law_begun (fun cdv A outer s H E B => 
  (dss_one (ds_ret (dx_shutV (n := 1125899906842624) (dx_dispM (.cons dx_str (dx_callTy cd_list (by rfl) t.n_list bt_list (da_cons (dv 0) da_nil)) (.cons dx_str (dx_lcMV rfl sc_law_begun.nd (di_seq (dv 0)) (blk_top (N := N_law_begun) (sc := defScope s_law_begun) (own := [("_law_cell", 1)]) (by decide +kernel)) rfl (fun _ _ _ _ _ => (dgo_name (i := 1) (by decide) sc_law_begun.nd rfl (.inl rfl))) (fun _ _ _ _ _ => (dts_one (dt_cmp od_ge (dv 1) (dx_bin od_pow dx_int dx_int)))) (fun _ _ _ _ _ => (dv 1))) (.cons dx_str dx_int .nil)))))))) r_law_begun
theorem g_law_next (t : Txt P K mg base T) : GFn P w K mg base 1 t.f_law_next t.d_law_next ["_law_m", "_law_many"] (spD K T 2 p_law_next) := gfn_of (t := t_law_next) t.F_law_next sc_law_next (fun cdv A outer s H E B => 
  (dss_open (i := 0) (dss_cons (ds_while B.own (DW.dt (dw_and (dt_cmp (od_neM B.u64) (dx_get B.u1 (dv 0) dx_str (fun _ _ => rfl)) (dx_lst da_nil)) (dw_and1 (dt_cmp (od_eq B.u64) (dx_ix ixd_seq (dx_get B.u1 (dv 0) dx_str (fun _ _ => rfl)) dx_int (fun _ _ => rfl)) dx_int)))) (dss_one (ds_put B.u1 (dv 0) dx_str (dx_sliceM (dx_get B.u1 (dv 0) dx_str (fun _ _ => rfl)) (dpo_some dx_int) dpo_none))))
  (dss_cons (ds_if (dt_cmp (od_neM B.u64) (dx_get B.u1 (dv 0) dx_str (fun _ _ => rfl)) (dx_lst da_nil)) (dss_cons (ds_set (i := 2) sc_law_next.nd rfl (.inl rfl) (dx_ix ixd_seq (dx_get B.u1 (dv 0) dx_str (fun _ _ => rfl)) dx_int (fun _ _ => rfl)))
  (dss_cons (ds_setIx (dx_get B.u1 (dv 0) dx_str (fun _ _ => rfl)) dx_int (dx_bin od_div (dv 2) (dv 1)))
  (dss_one (ds_ret (dx_shut (i := 0) (dx_bin od_mod (dx_callTy cd_int (by rfl) t.n_int bt_int (da_cons (dv 2) da_nil)) (dv 1))))))) dss_nil)
  (dss_cons (ds_par (i := 3) (j := 4) rfl sc_law_next.nd rfl rfl (by decide) rfl rfl (da_cons (dx_bin od_add (dx_get B.u1 (dv 0) dx_str (fun _ _ => rfl)) dx_int) (da_cons (dx_get B.u1 (dv 0) dx_str (fun _ _ => rfl)) da_nil)) (by rfl))
  (dss_cons (ds_put B.u1 (dv 0) dx_str (dv 3))
  (dss_cons (ds_set (i := 5) sc_law_next.nd rfl (.inl rfl) (dx_if (dt_cmp (od_ne B.u64) (dv 4) (dx_lst da_nil)) (dx_callTy cd_int (by rfl) t.n_int bt_int (da_cons (dx_ix ixd_seq (dv 4) (dx_bin od_mod (dx_callTy cd_int (by rfl) t.n_int bt_int (da_cons (dx_bin od_add (dx_bin od_mul (dv 3) (dv 3)) (dx_bin od_div (dv 3) dx_int)) da_nil)) (dx_callB cd_len (by rfl) t.n_len bt_len (da_cons (dv 4) da_nil))) (fun _ _ => rfl)) da_nil)) dx_int))
  (dss_cons (ds_set (i := 6) sc_law_next.nd rfl (.inl rfl) (dx_bin od_mod (dx_callTy cd_int (by rfl) t.n_int bt_int (da_cons (dx_bin od_add (dx_bin od_add (dx_bin od_mul (dv 5) dx_int) (dx_bin od_mul (dv 3) dx_int)) (dx_bin od_mul (dx_bin od_mul dx_int (dv 3)) (dv 3))) da_nil)) dx_int))
  (dss_one (ds_ret (dx_shut (i := 0) (dx_bin od_mod (dx_callTy cd_int (by rfl) t.n_int bt_int (da_cons (dx_bin od_div (dx_bin od_mod (dx_callTy cd_int (by rfl) t.n_int bt_int (da_cons (dx_bin od_add (dx_bin od_mul (dv 6) dx_int) (dx_bin od_mul dx_int (dv 3))) da_nil)) dx_int) dx_int) da_nil)) (dv 1))))))))))))) r_law_next
theorem g_law_is_whole (t : Txt P K mg base T) : GFn P w K mg base 1 t.f_law_is_whole t.d_law_is_whole ["_law_thing", "_law_least", "_law_most"] (spD K T 3 p_law_is_whole) := gfn_of (t := t_law_is_whole) t.F_law_is_whole sc_law_is_whole (fun cdv A outer s H E B => 
  (dss_one (ds_ret (dx_and (dx_callB cd_isi (by rfl) t.n_isinstance bt_isinstance (da_cons (dv 0) (da_cons (dx_bty (by rfl) t.n_int bt_int) da_nil))) (dx_and (dx_not (dx_callB cd_isi (by rfl) t.n_isinstance bt_isinstance (da_cons (dv 0) (da_cons (dx_bty (by rfl) t.n_bool bt_bool) da_nil)))) (dx_one (dx_chain od_le od_le (dv 1) (dv 0) (dv 2)))))))) r_law_is_whole
theorem g_law_in_order (t : Txt P K mg base T) : GFn P w K mg base 1 t.f_law_in_order t.d_law_in_order ["_law_names_here", "_law_thing"] (spD K T 2 p_law_in_order) := gfn_of (t := t_law_in_order) t.F_law_in_order sc_law_in_order (fun cdv A outer s H E B => 
  (dss_cons (ds_if (DW.dt (dw_or (dt_not (dt_val (dx_callB cd_isi (by rfl) t.n_isinstance bt_isinstance (da_cons (dv 1) (da_cons (dx_bty (by rfl) t.n_tuple bt_tuple) da_nil))))) (dw_or1 (dt_cmp (od_neL B.u64) (dx_lcV rfl sc_law_in_order.nd (di_seq (dv 1)) (blk_top (N := N_law_in_order) (sc := defScope s_law_in_order) (own := [("_law_one", 2)]) (by decide +kernel)) rfl (fun _ _ _ _ _ => (dgo_name (i := 2) (by decide) sc_law_in_order.nd rfl (.inl rfl))) (fun _ _ _ _ _ => (dts_one (dt_not (dt_val (dx_callB cd_isi (by rfl) t.n_isinstance bt_isinstance (da_cons (dv 2) (da_cons (dx_bty (by rfl) t.n_str bt_str) da_nil))))))) (fun _ _ _ _ _ => (dv 2))) (dx_lst da_nil))))) (dss_one (ds_ret dx_bl)) dss_nil)
  (dss_one (ds_ret (dx_cmp (od_eq B.u64) (dx_lcV rfl sc_law_in_order.nd (di_seq (dv 0)) (blk_top (N := N_law_in_order) (sc := defScope s_law_in_order) (own := [("_law_name", 3)]) (by decide +kernel)) rfl (fun _ _ _ _ _ => (dgo_name (i := 3) (by decide) sc_law_in_order.nd rfl (.inl rfl))) (fun _ _ _ _ _ => (dts_one (dt_cmp (od_in B.u65) (dv 3) (dv 1)))) (fun _ _ _ _ _ => (dv 3))) (dx_callTy cd_list (by rfl) t.n_list bt_list (da_cons (dv 1) da_nil))))))) r_law_in_order
theorem g_law_kinds (t : Txt P K mg base T) : GFn P w K mg base 1 t.f_law_kinds t.d_law_kinds ["_law_e"] (spD K T 1 p_law_kinds) := gfn_of (t := t_law_kinds) t.F_law_kinds sc_law_kinds (fun cdv A outer s H E B => 
  (dss_cons (ds_set (i := 1) sc_law_kinds.nd rfl (.inl rfl) (dx_lstM da_nil))
  (dss_cons (ds_if (dt_val (dx_isE t.ea (by decide) (by rfl) t.n_isinstance bt_isinstance (by rfl) t.na_BadCells (dv 0))) (dss_one (ds_app (dv 1) (dx_tup (da_cons dx_str (da_cons (dx_fldE t.ea (by decide) (dv 0)) da_nil))) (fun ho ha => pe_bm PySem.F.plainAttrs_list PySem.F.slot_list_append PySem.F.type_list_append mt_append ho ha))) dss_nil)
  (dss_cons (ds_if (dt_val (dx_isE t.ea (by decide) (by rfl) t.n_isinstance bt_isinstance (by rfl) t.na_BadFormula (dv 0))) (dss_one (ds_app (dv 1) (dx_tup (da_cons dx_str (da_cons (dx_fldE t.ea (by decide) (dv 0)) da_nil))) (fun ho ha => pe_bm PySem.F.plainAttrs_list PySem.F.slot_list_append PySem.F.type_list_append mt_append ho ha))) dss_nil)
  (dss_cons (ds_if (dt_val (dx_isE t.ea (by decide) (by rfl) t.n_isinstance bt_isinstance (by rfl) t.na_BadProgram (dv 0))) (dss_one (ds_app (dv 1) (dx_tup (da_cons dx_str (da_cons (dx_fldE t.ea (by decide) (dv 0)) da_nil))) (fun ho ha => pe_bm PySem.F.plainAttrs_list PySem.F.slot_list_append PySem.F.type_list_append mt_append ho ha))) dss_nil)
  (dss_cons (ds_if (dt_val (dx_isE t.ea (by decide) (by rfl) t.n_isinstance bt_isinstance (by rfl) t.na_Twice (dv 0))) (dss_one (ds_app (dv 1) (dx_tup (da_cons dx_str (da_cons (dx_fldE t.ea (by decide) (dv 0)) da_nil))) (fun ho ha => pe_bm PySem.F.plainAttrs_list PySem.F.slot_list_append PySem.F.type_list_append mt_append ho ha))) dss_nil)
  (dss_cons (ds_if (dt_val (dx_isE t.ea (by decide) (by rfl) t.n_isinstance bt_isinstance (by rfl) t.na_BadStanding (dv 0))) (dss_one (ds_app (dv 1) (dx_tup (da_cons dx_str (da_cons (dx_callB (cd_reprA t.sm B.grd B.u66) (by rfl) t.n_repr bt_repr (da_cons (dx_fldE t.ea (by decide) (dv 0)) da_nil)) da_nil))) (fun ho ha => pe_bm PySem.F.plainAttrs_list PySem.F.slot_list_append PySem.F.type_list_append mt_append ho ha))) dss_nil)
  (dss_cons (ds_if (dt_val (dx_isE t.ea (by decide) (by rfl) t.n_isinstance bt_isinstance (by rfl) t.na_BadWeaving (dv 0))) (dss_one (ds_app (dv 1) (dx_tup (da_cons dx_str (da_cons (dx_fldE t.ea (by decide) (dv 0)) da_nil))) (fun ho ha => pe_bm PySem.F.plainAttrs_list PySem.F.slot_list_append PySem.F.type_list_append mt_append ho ha))) dss_nil)
  (dss_cons (ds_if (dt_val (dx_isE t.ea (by decide) (by rfl) t.n_isinstance bt_isinstance (by rfl) t.na_BadNode (dv 0))) (dss_one (ds_app (dv 1) (dx_tup (da_cons dx_str (da_cons (dx_fldE t.ea (by decide) (dv 0)) da_nil))) (fun ho ha => pe_bm PySem.F.plainAttrs_list PySem.F.slot_list_append PySem.F.type_list_append mt_append ho ha))) dss_nil)
  (dss_cons (ds_if (dt_val (dx_isE t.ea (by decide) (by rfl) t.n_isinstance bt_isinstance (by rfl) t.na_BadPaper (dv 0))) (dss_one (ds_app (dv 1) (dx_tup (da_cons dx_str (da_cons (dx_fldE t.ea (by decide) (dv 0)) da_nil))) (fun ho ha => pe_bm PySem.F.plainAttrs_list PySem.F.slot_list_append PySem.F.type_list_append mt_append ho ha))) dss_nil)
  (dss_cons (ds_if (dt_val (dx_isE t.ea (by decide) (by rfl) t.n_isinstance bt_isinstance (by rfl) t.na_BadText (dv 0))) (dss_one (ds_app (dv 1) (dx_tup (da_cons dx_str (da_cons (dx_fldE t.ea (by decide) (dv 0)) da_nil))) (fun ho ha => pe_bm PySem.F.plainAttrs_list PySem.F.slot_list_append PySem.F.type_list_append mt_append ho ha))) dss_nil)
  (dss_cons (ds_if (dt_val (dx_isE t.ea (by decide) (by rfl) t.n_isinstance bt_isinstance (by rfl) t.na_BadNumber (dv 0))) (dss_one (ds_app (dv 1) (dx_tup (da_cons dx_str (da_cons (dx_callB (cd_reprA t.sm B.grd B.u66) (by rfl) t.n_repr bt_repr (da_cons (dx_fldE t.ea (by decide) (dv 0)) da_nil)) da_nil))) (fun ho ha => pe_bm PySem.F.plainAttrs_list PySem.F.slot_list_append PySem.F.type_list_append mt_append ho ha))) dss_nil)
  (dss_cons (ds_if (dt_val (dx_isE t.ea (by decide) (by rfl) t.n_isinstance bt_isinstance (by rfl) t.na_Missing (dv 0))) (dss_one (ds_app (dv 1) (dx_tup (da_cons dx_str (da_cons (dx_callB (cd_reprA t.sm B.grd B.u66) (by rfl) t.n_repr bt_repr (da_cons (dx_fldE t.ea (by decide) (dv 0)) da_nil)) da_nil))) (fun ho ha => pe_bm PySem.F.plainAttrs_list PySem.F.slot_list_append PySem.F.type_list_append mt_append ho ha))) dss_nil)
  (dss_cons (ds_if (dt_val (dx_isE t.ea (by decide) (by rfl) t.n_isinstance bt_isinstance (by rfl) t.na_TooMany (dv 0))) (dss_one (ds_app (dv 1) (dx_tup (da_cons dx_str (da_cons (dx_fldE t.ea (by decide) (dv 0)) da_nil))) (fun ho ha => pe_bm PySem.F.plainAttrs_list PySem.F.slot_list_append PySem.F.type_list_append mt_append ho ha))) dss_nil)
  (dss_one (ds_ret (dx_if (dt_cmp (od_eq B.u64) (dx_callB cd_len (by rfl) t.n_len bt_len (da_cons (dv 1) da_nil)) dx_int) (dx_ix ixd_seq (dv 1) dx_int (fun _ _ => rfl)) (dx_tup (da_cons dx_str (da_cons (dx_callB cd_len (by rfl) t.n_len bt_len (da_cons (dv 1) da_nil)) da_nil)))))))))))))))))))) r_law_kinds
theorem g_are_in_order (t : Txt P K mg base T) : GFn P w K mg base 2 t.f_are_in_order t.d_are_in_order ["cells", "thing"] (spD K T 2 p_are_in_order) := gfn_of (t := t_are_in_order) t.F_are_in_order sc_are_in_order (fun cdv A outer s H E B => 
  (dss_cons (ds_if (DW.dt (dw_or (dt_not (dt_val (dx_call ((g_is_row t).mono (by decide)) B.room B.grd B.tk (by rfl) t.m_is_row t.F_is_row.kp t.b_is_row (da_cons (dv 1) (da_cons (dx_gint (by rfl) t.k_MOST_CELLS) da_nil))))) (dw_or1 (dt_not (dt_val (dx_callB (cd_all rfl) (by rfl) t.n_all bt_all (da_cons (dx_lcV rfl sc_are_in_order.nd (di_seq (dv 1)) (blk_top (N := N_are_in_order) (sc := defScope s_are_in_order) (own := [("name", 2)]) (by decide +kernel)) rfl (fun _ _ _ _ _ => (dgo_name (i := 2) (by decide) sc_are_in_order.nd rfl (.inl rfl))) (fun _ _ _ _ _ => dts_nil) (fun _ _ _ _ _ => (dx_call ((g_is_name t).mono (by decide)) B.room B.grd tk_blk (by rfl) t.m_is_name t.F_is_name.kp t.b_is_name (da_cons (dv 2) da_nil)))) da_nil))))))) (dss_one (ds_ret dx_bl)) dss_nil)
  (dss_one (ds_ret (dx_cmp (od_eq B.u64) (dx_lcV rfl sc_are_in_order.nd (di_seq (dx_call ((g_names_of t).mono (by decide)) B.room B.grd B.tk (by rfl) t.m_names_of t.F_names_of.kp t.b_names_of (da_cons (dv 0) da_nil))) (blk_top (N := N_are_in_order) (sc := defScope s_are_in_order) (own := [("name", 2)]) (by decide +kernel)) rfl (fun _ _ _ _ _ => (dgo_name (i := 2) (by decide) sc_are_in_order.nd rfl (.inl rfl))) (fun _ _ _ _ _ => (dts_one (dt_cmp (od_in B.u65) (dv 2) (dv 1)))) (fun _ _ _ _ _ => (dv 2))) (dx_callTy cd_list (by rfl) t.n_list bt_list (da_cons (dv 1) da_nil))))))) r_are_in_order
theorem g_law_names (t : Txt P K mg base T) : GFn P w K mg base 2 t.f_law_names t.d_law_names ["_law_m", "_law_many"] (spD K T 2 p_law_names) := gfn_of (t := t_law_names) t.F_law_names sc_law_names (fun cdv A outer s H E B => 
  (dss_cons (ds_asg (dx_tup (da_cons dx_str (da_cons dx_str da_nil))) (dg_tup rfl (dgs_cons (dg_name (i := 2) sc_law_names.nd rfl (.inr rfl)) (dgs_cons (dg_name (i := 3) sc_law_names.nd rfl (.inr rfl)) dgs_nil))))
  (dss_cons (ds_for B.own rfl (di_range1 (by rfl) t.n_range (da_cons (dx_call ((g_law_next t).mono (by decide)) B.room B.grd B.tk (by rfl) t.m_law_next t.F_law_next.kp t.b_law_next (da_cons (dv 0) (da_cons dx_int da_nil))) da_nil)) (dg_name (i := 4) sc_law_names.nd rfl (.inl rfl)) (dss_one (ds_set (i := 3) sc_law_names.nd rfl (.inr rfl) (dx_bin od_add (dv 3) (dx_ix ixd_seq (dv 2) (dx_call ((g_law_next t).mono (by decide)) B.room B.grd B.tk (by rfl) t.m_law_next t.F_law_next.kp t.b_law_next (da_cons (dv 0) (da_cons dx_int da_nil))) (fun _ _ => rfl))))))
  (dss_cons (ds_asg (dx_tup (da_cons (dx_call ((g_law_next t).mono (by decide)) B.room B.grd B.tk (by rfl) t.m_law_next t.F_law_next.kp t.b_law_next (da_cons (dv 0) (da_cons (dx_bin od_add (dx_callB cd_len (by rfl) t.n_len bt_len (da_cons (dv 3) da_nil)) dx_int) da_nil))) (da_cons (dx_call ((g_law_next t).mono (by decide)) B.room B.grd B.tk (by rfl) t.m_law_next t.F_law_next.kp t.b_law_next (da_cons (dv 0) (da_cons dx_int da_nil))) (da_cons (dx_ix ixd_seq (dx_lst (da_cons dx_int (da_cons dx_int (da_cons dx_int (da_cons dx_int (da_cons dx_int (da_cons dx_int da_nil))))))) (dx_call ((g_law_next t).mono (by decide)) B.room B.grd B.tk (by rfl) t.m_law_next t.F_law_next.kp t.b_law_next (da_cons (dv 0) (da_cons dx_int da_nil))) (fun _ _ => rfl)) da_nil)))) (dg_tup rfl (dgs_cons (dg_name (i := 5) sc_law_names.nd rfl (.inr rfl)) (dgs_cons (dg_name (i := 6) sc_law_names.nd rfl (.inr rfl)) (dgs_cons (dg_name (i := 7) sc_law_names.nd rfl (.inr rfl)) dgs_nil)))))
  (dss_cons (ds_set (i := 8) sc_law_names.nd rfl (.inr rfl) (dx_slice (dx_bin od_add (dv 3) (dx_bin od_mul (dx_ix ixd_seq (dv 2) (dv 6) (fun _ _ => rfl)) dx_int)) dpo_none (dpo_some dx_int)))
  (dss_cons (ds_if (dt_cmp od_gt (dv 7) dx_int) (dss_one (ds_ret (dx_lcV rfl sc_law_names.nd (di_range1 (by rfl) t.n_range (da_cons (dv 1) da_nil)) (blk_top (N := N_law_names) (sc := defScope s_law_names) (own := [("_law_k", 4)]) (by decide +kernel)) rfl (fun _ _ _ _ _ => (dgo_name (i := 4) (by decide) sc_law_names.nd rfl (.inl rfl))) (fun _ _ _ _ _ => dts_nil) (fun _ _ _ _ _ => (dx_if (dt_cmp od_gt (dv 7) dx_int) (dx_slice (dv 8) (dpo_some (dv 4)) dpo_none) (dx_slice (dv 8) dpo_none (dpo_some (dx_bin od_sub (dx_bin od_add (dv 4) dx_int) (dv 1))))))))) dss_nil)
  (dss_one (ds_ret (dx_lcV rfl sc_law_names.nd (di_range1 (by rfl) t.n_range (da_cons (dv 1) da_nil)) (blk_top (N := N_law_names) (sc := defScope s_law_names) (own := [("_law_k", 4)]) (by decide +kernel)) rfl (fun _ _ _ _ _ => (dgo_name (i := 4) (by decide) sc_law_names.nd rfl (.inl rfl))) (fun _ _ _ _ _ => dts_nil) (fun _ _ _ _ _ => (dx_bin od_add (dx_bin od_add (dx_slice (dv 3) dpo_none (dpo_some (dv 5))) (dx_ix ixd_seq (dv 2) (dx_bin od_mod (dx_callTy cd_int (by rfl) t.n_int bt_int (da_cons (dx_bin od_add (dv 6) (dx_bin od_mul (dv 7) (dv 4))) da_nil)) dx_int) (fun _ _ => rfl))) (dx_slice (dv 3) (dpo_some (dv 5)) dpo_none)))))))))))) r_law_names
theorem g_law_terms (t : Txt P K mg base T) : GFn P w K mg base 2 t.f_law_terms t.d_law_terms ["_law_m", "_law_names_here"] (spD K T 2 p_law_terms) := gfn_of (t := t_law_terms) t.F_law_terms sc_law_terms (fun cdv A outer s H E B => 
  (dss_cons (ds_set (i := 2) sc_law_terms.nd rfl (.inl rfl) (dx_lstM da_nil))
  (dss_cons (ds_for B.own rfl (di_seq (dv 1)) (dg_name (i := 3) sc_law_terms.nd rfl (.inl rfl)) (dss_one (ds_if (dt_cmp (od_eq B.u64) (dx_call ((g_law_next t).mono (by decide)) B.room B.grd B.tk (by rfl) t.m_law_next t.F_law_next.kp t.b_law_next (da_cons (dv 0) (da_cons dx_int da_nil))) dx_int) (dss_one (ds_app (dv 2) (dx_tup (da_cons (dx_ix ixd_seq (dx_lst (da_cons dx_int (da_cons dx_int (da_cons dx_int (da_cons (dx_un ud_neg dx_int) (da_cons (dx_un ud_neg dx_int) (da_cons dx_int (da_cons (dx_un ud_neg dx_int) (da_cons dx_int (da_cons (dx_un ud_neg dx_int) da_nil)))))))))) (dx_call ((g_law_next t).mono (by decide)) B.room B.grd B.tk (by rfl) t.m_law_next t.F_law_next.kp t.b_law_next (da_cons (dv 0) (da_cons dx_int da_nil))) (fun _ _ => rfl)) (da_cons (dv 3) da_nil))) (fun ho ha => pe_bm PySem.F.plainAttrs_list PySem.F.slot_list_append PySem.F.type_list_append mt_append ho ha))) dss_nil)))
  (dss_one (ds_ret (dx_callTy cd_tuple (by rfl) t.n_tuple bt_tuple (da_cons (dv 2) da_nil))))))) r_law_terms
theorem g_law_odd (t : Txt P K mg base T) : GFn P w K mg base 2 t.f_law_odd t.d_law_odd ["_law_m"] (spD K T 1 p_law_odd) := gfn_of (t := t_law_odd) t.F_law_odd sc_law_odd (fun cdv A outer s H E B => 
  (dss_cons (ds_set (i := 1) sc_law_odd.nd rfl (.inl rfl) (dx_lst (da_cons dx_non (da_cons dx_int (da_cons dx_int (da_cons dx_int (da_cons dx_int (da_cons (dx_un ud_neg dx_int) (da_cons dx_int (da_cons dx_bl (da_cons dx_bl (da_cons dx_str (da_cons dx_str (da_cons dx_str (da_cons dx_str (da_cons dx_str (da_cons dx_str (da_cons (dx_tup da_nil) (da_cons (dx_tup (da_cons (dx_tup da_nil) da_nil)) (da_cons (dx_tup (da_cons dx_str (da_cons dx_int da_nil))) da_nil))))))))))))))))))))
  (dss_one (ds_ret (dx_ix ixd_seq (dx_bin od_add (dv 1) (dx_lst (da_cons (dx_lst da_nil) (da_cons dx_dict0 (da_cons (dx_bin od_pow dx_int dx_int) (da_cons (dx_tup (da_cons (dx_tup (da_cons dx_str da_nil)) da_nil)) (da_cons (dx_tup (da_cons (dx_tup (da_cons dx_int (da_cons dx_str da_nil))) da_nil)) (da_cons dx_str (da_cons dx_str (da_cons dx_str da_nil)))))))))) (dx_call ((g_law_next t).mono (by decide)) B.room B.grd B.tk (by rfl) t.m_law_next t.F_law_next.kp t.b_law_next (da_cons (dv 0) (da_cons dx_int da_nil))) (fun _ _ => rfl)))))) r_law_odd
theorem g_law_are_terms (t : Txt P K mg base T) : GFn P w K mg base 2 t.f_law_are_terms t.d_law_are_terms ["_law_names_here", "_law_thing"] (spD K T 2 p_law_are_terms) := gfn_of (t := t_law_are_terms) t.F_law_are_terms sc_law_are_terms (fun cdv A outer s H E B => 
  (dss_cons (ds_if (DW.dt (dw_or (dt_not (dt_val (dx_callB cd_isi (by rfl) t.n_isinstance bt_isinstance (da_cons (dv 1) (da_cons (dx_bty (by rfl) t.n_tuple bt_tuple) da_nil))))) (dw_or1 (dt_cmp od_gt (dx_callB cd_len (by rfl) t.n_len bt_len (da_cons (dv 1) da_nil)) dx_int)))) (dss_one (ds_ret dx_bl)) dss_nil)
  (dss_cons (ds_for B.own rfl (di_seq (dv 1)) (dg_name (i := 2) sc_law_are_terms.nd rfl (.inl rfl)) (dss_one (ds_if (DW.dt (dw_or (dt_not (dt_val (dx_callB cd_isi (by rfl) t.n_isinstance bt_isinstance (da_cons (dv 2) (da_cons (dx_bty (by rfl) t.n_tuple bt_tuple) da_nil))))) (dw_or (dt_cmp (od_ne B.u64) (dx_callB cd_len (by rfl) t.n_len bt_len (da_cons (dv 2) da_nil)) dx_int) (dw_or (dt_not (dt_val (dx_call ((g_law_is_whole t).mono (by decide)) B.room B.grd B.tk (by rfl) t.m_law_is_whole t.F_law_is_whole.kp t.b_law_is_whole (da_cons (dx_ix ixd_seq (dv 2) dx_int (fun _ _ => rfl)) (da_cons (dx_un ud_neg dx_int) (da_cons dx_int da_nil)))))) (dw_or1 (dt_cmp (od_eq B.u64) (dx_ix ixd_seq (dv 2) dx_int (fun _ _ => rfl)) dx_int)))))) (dss_one (ds_ret dx_bl)) dss_nil)))
  (dss_one (ds_ret (dx_call ((g_law_in_order t).mono (by decide)) B.room B.grd B.tk (by rfl) t.m_law_in_order t.F_law_in_order.kp t.b_law_in_order (da_cons (dv 0) (da_cons (dx_callTy cd_tuple (by rfl) t.n_tuple bt_tuple (da_cons (dx_lcV rfl sc_law_are_terms.nd (di_seq (dv 1)) (blk_top (N := N_law_are_terms) (sc := defScope s_law_are_terms) (own := [("_law_term", 2)]) (by decide +kernel)) rfl (fun _ _ _ _ _ => (dgo_name (i := 2) (by decide) sc_law_are_terms.nd rfl (.inl rfl))) (fun _ _ _ _ _ => dts_nil) (fun _ _ _ _ _ => (dx_ix ixd_seq (dv 2) dx_int (fun _ _ => rfl)))) da_nil)) da_nil)))))))) r_law_are_terms
theorem g_law_edge (t : Txt P K mg base T) : GFn P w K mg base 2 t.f_law_edge t.d_law_edge ["_law_m", "_law_names_here"] (spD K T 2 p_law_edge) := gfn_of (t := t_law_edge) t.F_law_edge sc_law_edge (fun cdv A outer s H E B => 
  (dss_cons (ds_set (i := 2) sc_law_edge.nd rfl (.inl rfl) (dx_callTy cd_tuple (by rfl) t.n_tuple bt_tuple (da_cons (dx_lcV rfl sc_law_edge.nd (di_seq (dv 1)) (blk_top (N := N_law_edge) (sc := defScope s_law_edge) (own := [("_law_name", 5)]) (by decide +kernel)) rfl (fun _ _ _ _ _ => (dgo_name (i := 5) (by decide) sc_law_edge.nd rfl (.inl rfl))) (fun _ _ _ _ _ => dts_nil) (fun _ _ _ _ _ => (dx_tup (da_cons (dx_ix ixd_seq (dx_lst (da_cons dx_int (da_cons (dx_un ud_neg dx_int) (da_cons dx_int (da_cons (dx_un ud_neg dx_int) (da_cons dx_int (da_cons dx_int da_nil))))))) (dx_call ((g_law_next t).mono (by decide)) B.room B.grd tk_blk (by rfl) t.m_law_next t.F_law_next.kp t.b_law_next (da_cons (dv 0) (da_cons dx_int da_nil))) (fun _ _ => rfl)) (da_cons (dv 5) da_nil))))) da_nil)))
  (dss_cons (ds_set (i := 3) sc_law_edge.nd rfl (.inl rfl) (dx_ix ixd_seq (dx_lst (da_cons dx_int (da_cons (dx_un ud_neg dx_int) (da_cons dx_int (da_cons (dx_un ud_neg dx_int) (da_cons dx_int (da_cons dx_bl da_nil))))))) (dx_call ((g_law_next t).mono (by decide)) B.room B.grd B.tk (by rfl) t.m_law_next t.F_law_next.kp t.b_law_next (da_cons (dv 0) (da_cons dx_int da_nil))) (fun _ _ => rfl)))
  (dss_cons (ds_set (i := 4) sc_law_edge.nd rfl (.inl rfl) (dx_tup (da_cons (dv 2) (da_cons (dx_ix ixd_seq (dx_lst (da_cons dx_str (da_cons dx_str (da_cons dx_str (da_cons dx_str (da_cons dx_str (da_cons dx_str da_nil))))))) (dx_call ((g_law_next t).mono (by decide)) B.room B.grd B.tk (by rfl) t.m_law_next t.F_law_next.kp t.b_law_next (da_cons (dv 0) (da_cons dx_int da_nil))) (fun _ _ => rfl)) (da_cons (dv 3) da_nil)))))
  (dss_cons (ds_if (dt_cmp (od_eq B.u64) (dx_call ((g_law_next t).mono (by decide)) B.room B.grd B.tk (by rfl) t.m_law_next t.F_law_next.kp t.b_law_next (da_cons (dv 0) (da_cons dx_int da_nil))) dx_int) (dss_one (ds_set (i := 4) sc_law_edge.nd rfl (.inl rfl) (dx_tup (da_cons (dx_back (dv 2)) (da_cons dx_str (da_cons (dv 3) da_nil)))))) dss_nil)
  (dss_cons (ds_if (dt_cmp (od_eq B.u64) (dx_call ((g_law_next t).mono (by decide)) B.room B.grd B.tk (by rfl) t.m_law_next t.F_law_next.kp t.b_law_next (da_cons (dv 0) (da_cons dx_int da_nil))) dx_int) (dss_one (ds_set (i := 4) sc_law_edge.nd rfl (.inl rfl) (dx_tup (da_cons (dx_bin od_add (dv 2) (dx_tup (da_cons (dx_tup (da_cons dx_int (da_cons dx_str da_nil))) da_nil))) (da_cons dx_str (da_cons dx_int da_nil)))))) dss_nil)
  (dss_one (ds_ret (dx_bin od_mulT (dx_tup (da_cons (dx_bin od_mulT (dx_tup (da_cons (dv 4) da_nil)) (dx_bin od_add dx_int (dx_call ((g_law_next t).mono (by decide)) B.room B.grd B.tk (by rfl) t.m_law_next t.F_law_next.kp t.b_law_next (da_cons (dv 0) (da_cons dx_int da_nil))))) da_nil)) (dx_bin od_add dx_int (dx_call ((g_law_next t).mono (by decide)) B.room B.grd B.tk (by rfl) t.m_law_next t.F_law_next.kp t.b_law_next (da_cons (dv 0) (da_cons dx_int da_nil))))))))))))) r_law_edge
theorem g_are_terms (t : Txt P K mg base T) : GFn P w K mg base 3 t.f_are_terms t.d_are_terms ["cells", "thing"] (spD K T 2 p_are_terms) := gfn_of (t := t_are_terms) t.F_are_terms sc_are_terms (fun cdv A outer s H E B => 
  (dss_cons (ds_if (dt_not (dt_val (dx_call ((g_is_row t).mono (by decide)) B.room B.grd B.tk (by rfl) t.m_is_row t.F_is_row.kp t.b_is_row (da_cons (dv 1) (da_cons (dx_gint (by rfl) t.k_MOST_CELLS) da_nil))))) (dss_one (ds_ret dx_bl)) dss_nil)
  (dss_cons (ds_for B.own rfl (di_seq (dv 1)) (dg_name (i := 2) sc_are_terms.nd rfl (.inl rfl)) (dss_cons (ds_if (DW.dt (dw_or (dt_not (dt_val (dx_call ((g_is_row t).mono (by decide)) B.room B.grd B.tk (by rfl) t.m_is_row t.F_is_row.kp t.b_is_row (da_cons (dv 2) (da_cons dx_int da_nil))))) (dw_or1 (dt_cmp (od_ne B.u64) (dx_callB cd_len (by rfl) t.n_len bt_len (da_cons (dv 2) da_nil)) dx_int)))) (dss_one (ds_ret dx_bl)) dss_nil)
  (dss_one (ds_if (DW.dt (dw_or (dt_not (dt_val (dx_call ((g_is_among t).mono (by decide)) B.room B.grd B.tk (by rfl) t.m_is_among t.F_is_among.kp t.b_is_among (da_cons (dx_ix ixd_seq (dv 2) dx_int (fun _ _ => rfl)) (da_cons (dx_bin od_sub dx_int (dx_gint (by rfl) t.k_MOST_FACTOR)) (da_cons (dx_gint (by rfl) t.k_MOST_FACTOR) da_nil)))))) (dw_or1 (dt_cmp (od_eq B.u64) (dx_ix ixd_seq (dv 2) dx_int (fun _ _ => rfl)) dx_int)))) (dss_one (ds_ret dx_bl)) dss_nil))))
  (dss_one (ds_ret (dx_call ((g_are_in_order t).mono (by decide)) B.room B.grd B.tk (by rfl) t.m_are_in_order t.F_are_in_order.kp t.b_are_in_order (da_cons (dv 0) (da_cons (dx_callTy cd_tuple (by rfl) t.n_tuple bt_tuple (da_cons (dx_lcV rfl sc_are_terms.nd (di_seq (dv 1)) (blk_top (N := N_are_terms) (sc := defScope s_are_terms) (own := [("term", 2)]) (by decide +kernel)) rfl (fun _ _ _ _ _ => (dgo_name (i := 2) (by decide) sc_are_terms.nd rfl (.inl rfl))) (fun _ _ _ _ _ => dts_nil) (fun _ _ _ _ _ => (dx_ix ixd_seq (dv 2) dx_int (fun _ _ => rfl)))) da_nil)) da_nil)))))))) r_are_terms
theorem g_law_cells (t : Txt P K mg base T) : GFn P w K mg base 3 t.f_law_cells t.d_law_cells ["_law_m"] (spD K T 1 p_law_cells) := gfn_of (t := t_law_cells) t.F_law_cells sc_law_cells (fun cdv A outer s H E B => 
  (dss_cons (ds_set (i := 1) sc_law_cells.nd rfl (.inl rfl) (dx_call ((g_law_names t).mono (by decide)) B.room B.grd B.tk (by rfl) t.m_law_names t.F_law_names.kp t.b_law_names (da_cons (dv 0) (da_cons (dx_bin od_add dx_int (dx_call ((g_law_next t).mono (by decide)) B.room B.grd B.tk (by rfl) t.m_law_next t.F_law_next.kp t.b_law_next (da_cons (dv 0) (da_cons dx_int da_nil)))) da_nil))))
  (dss_one (ds_ret (dx_callTy cd_tuple (by rfl) t.n_tuple bt_tuple (da_cons (dx_lcV rfl sc_law_cells.nd (di_seq (dv 1)) (blk_top (N := N_law_cells) (sc := defScope s_law_cells) (own := [("_law_name", 2)]) (by decide +kernel)) rfl (fun _ _ _ _ _ => (dgo_name (i := 2) (by decide) sc_law_cells.nd rfl (.inl rfl))) (fun _ _ _ _ _ => dts_nil) (fun _ _ _ _ _ => (dx_tup (da_cons (dv 2) (da_cons (dx_bin od_add dx_int (dx_call ((g_law_next t).mono (by decide)) B.room B.grd tk_blk (by rfl) t.m_law_next t.F_law_next.kp t.b_law_next (da_cons (dv 0) (da_cons dx_int da_nil)))) da_nil))))) da_nil)))))) r_law_cells
theorem g_law_test (t : Txt P K mg base T) : GFn P w K mg base 3 t.f_law_test t.d_law_test ["_law_m", "_law_names_here"] (spD K T 2 p_law_test) := gfn_of (t := t_law_test) t.F_law_test sc_law_test (fun cdv A outer s H E B => 
  (dss_cons (ds_set (i := 2) sc_law_test.nd rfl (.inl rfl) (dx_ix ixd_seq (dx_lst (da_cons dx_str (da_cons dx_str (da_cons dx_str (da_cons dx_str (da_cons dx_str (da_cons dx_str da_nil))))))) (dx_call ((g_law_next t).mono (by decide)) B.room B.grd B.tk (by rfl) t.m_law_next t.F_law_next.kp t.b_law_next (da_cons (dv 0) (da_cons dx_int da_nil))) (fun _ _ => rfl)))
  (dss_one (ds_ret (dx_tup (da_cons (dx_call ((g_law_terms t).mono (by decide)) B.room B.grd B.tk (by rfl) t.m_law_terms t.F_law_terms.kp t.b_law_terms (da_cons (dv 0) (da_cons (dv 1) da_nil))) (da_cons (dv 2) (da_cons (dx_ix ixd_seq (dx_lst (da_cons dx_int (da_cons dx_int (da_cons dx_int (da_cons dx_int (da_cons dx_int (da_cons (dx_un ud_neg dx_int) (da_cons (dx_un ud_neg dx_int) (da_cons dx_int (da_cons (dx_un ud_neg dx_int) da_nil)))))))))) (dx_call ((g_law_next t).mono (by decide)) B.room B.grd B.tk (by rfl) t.m_law_next t.F_law_next.kp t.b_law_next (da_cons (dv 0) (da_cons dx_int da_nil))) (fun _ _ => rfl)) da_nil)))))))) r_law_test
theorem g_law_is_test (t : Txt P K mg base T) : GFn P w K mg base 3 t.f_law_is_test t.d_law_is_test ["_law_names_here", "_law_thing"] (spD K T 2 p_law_is_test) := gfn_of (t := t_law_is_test) t.F_law_is_test sc_law_is_test (fun cdv A outer s H E B => 
  (dss_cons (ds_if (DW.dt (dw_or (dt_not (dt_val (dx_callB cd_isi (by rfl) t.n_isinstance bt_isinstance (da_cons (dv 1) (da_cons (dx_bty (by rfl) t.n_tuple bt_tuple) da_nil))))) (dw_or (dt_cmp (od_ne B.u64) (dx_callB cd_len (by rfl) t.n_len bt_len (da_cons (dv 1) da_nil)) dx_int) (dw_or1 (dt_not (dt_val (dx_call ((g_law_are_terms t).mono (by decide)) B.room B.grd B.tk (by rfl) t.m_law_are_terms t.F_law_are_terms.kp t.b_law_are_terms (da_cons (dv 0) (da_cons (dx_ix ixd_seq (dv 1) dx_int (fun _ _ => rfl)) da_nil))))))))) (dss_one (ds_ret dx_bl)) dss_nil)
  (dss_cons (ds_if (DW.dt (dw_or (dt_not (dt_val (dx_callB cd_isi (by rfl) t.n_isinstance bt_isinstance (da_cons (dx_ix ixd_seq (dv 1) dx_int (fun _ _ => rfl)) (da_cons (dx_bty (by rfl) t.n_str bt_str) da_nil))))) (dw_or1 (dt_cmp (od_notIn B.u65) (dx_ix ixd_seq (dv 1) dx_int (fun _ _ => rfl)) (dx_lst (da_cons dx_str (da_cons dx_str (da_cons dx_str (da_cons dx_str (da_cons dx_str (da_cons dx_str da_nil))))))))))) (dss_one (ds_ret dx_bl)) dss_nil)
  (dss_one (ds_ret (dx_call ((g_law_is_whole t).mono (by decide)) B.room B.grd B.tk (by rfl) t.m_law_is_whole t.F_law_is_whole.kp t.b_law_is_whole (da_cons (dx_ix ixd_seq (dv 1) dx_int (fun _ _ => rfl)) (da_cons (dx_un ud_neg dx_int) (da_cons dx_int da_nil))))))))) r_law_is_test
theorem g_is_test (t : Txt P K mg base T) : GFn P w K mg base 4 t.f_is_test t.d_is_test ["cells", "thing"] (spD K T 2 p_is_test) := gfn_of (t := t_is_test) t.F_is_test sc_is_test (fun cdv A outer s H E B => 
  (dss_cons (ds_if (DW.dt (dw_or (dt_not (dt_val (dx_call ((g_is_row t).mono (by decide)) B.room B.grd B.tk (by rfl) t.m_is_row t.F_is_row.kp t.b_is_row (da_cons (dv 1) (da_cons dx_int da_nil))))) (dw_or (dt_cmp (od_ne B.u64) (dx_callB cd_len (by rfl) t.n_len bt_len (da_cons (dv 1) da_nil)) dx_int) (dw_or1 (dt_not (dt_val (dx_call ((g_are_terms t).mono (by decide)) B.room B.grd B.tk (by rfl) t.m_are_terms t.F_are_terms.kp t.b_are_terms (da_cons (dv 0) (da_cons (dx_ix ixd_seq (dv 1) dx_int (fun _ _ => rfl)) da_nil))))))))) (dss_one (ds_ret dx_bl)) dss_nil)
  (dss_one (ds_ret (dx_and (dx_callB cd_isi (by rfl) t.n_isinstance bt_isinstance (da_cons (dx_ix ixd_seq (dv 1) dx_int (fun _ _ => rfl)) (da_cons (dx_bty (by rfl) t.n_str bt_str) da_nil))) (dx_and (dx_cmp (od_in B.u65) (dx_ix ixd_seq (dv 1) dx_int (fun _ _ => rfl)) (dx_gdat (by rfl) t.k_OPS)) (dx_one (dx_call ((g_is_among t).mono (by decide)) B.room B.grd B.tk (by rfl) t.m_is_among t.F_is_among.kp t.b_is_among (da_cons (dx_ix ixd_seq (dv 1) dx_int (fun _ _ => rfl)) (da_cons (dx_bin od_sub dx_int (dx_gint (by rfl) t.k_MOST_NUMBER)) (da_cons (dx_gint (by rfl) t.k_MOST_NUMBER) da_nil))))))))))) r_is_test
theorem g_law_formula (t : Txt P K mg base T) : GFn P w K mg base 4 t.f_law_formula t.d_law_formula ["_law_m", "_law_names_here"] (spD K T 2 p_law_formula) := gfn_of (t := t_law_formula) t.F_law_formula sc_law_formula (fun cdv A outer s H E B => 
  (dss_cons (ds_set (i := 2) sc_law_formula.nd rfl (.inl rfl) (dx_lstM da_nil))
  (dss_cons (ds_for B.own rfl (di_range1 (by rfl) t.n_range (da_cons (dx_ix ixd_seq (dx_lst (da_cons dx_int (da_cons dx_int (da_cons dx_int (da_cons dx_int (da_cons dx_int (da_cons dx_int (da_cons dx_int (da_cons dx_int da_nil))))))))) (dx_call ((g_law_next t).mono (by decide)) B.room B.grd B.tk (by rfl) t.m_law_next t.F_law_next.kp t.b_law_next (da_cons (dv 0) (da_cons dx_int da_nil))) (fun _ _ => rfl)) da_nil)) (dg_name (i := 3) sc_law_formula.nd rfl (.inl rfl)) (dss_one (ds_app (dv 2) (dx_callTy cd_tuple (by rfl) t.n_tuple bt_tuple (da_cons (dx_lcV rfl sc_law_formula.nd (di_range1 (by rfl) t.n_range (da_cons (dx_ix ixd_seq (dx_lst (da_cons dx_int (da_cons dx_int (da_cons dx_int (da_cons dx_int (da_cons dx_int (da_cons dx_int (da_cons dx_int (da_cons dx_int da_nil))))))))) (dx_call ((g_law_next t).mono (by decide)) B.room B.grd B.tk (by rfl) t.m_law_next t.F_law_next.kp t.b_law_next (da_cons (dv 0) (da_cons dx_int da_nil))) (fun _ _ => rfl)) da_nil)) (blk_top (N := N_law_formula) (sc := defScope s_law_formula) (own := [("_law_j", 4)]) (by decide +kernel)) rfl (fun _ _ _ _ _ => (dgo_name (i := 4) (by decide) sc_law_formula.nd rfl (.inl rfl))) (fun _ _ _ _ _ => dts_nil) (fun _ _ _ _ _ => (dx_call ((g_law_test t).mono (by decide)) B.room B.grd tk_blk (by rfl) t.m_law_test t.F_law_test.kp t.b_law_test (da_cons (dv 0) (da_cons (dv 1) da_nil))))) da_nil)) (fun ho ha => pe_bm PySem.F.plainAttrs_list PySem.F.slot_list_append PySem.F.type_list_append mt_append ho ha))))
  (dss_one (ds_ret (dx_callTy cd_tuple (by rfl) t.n_tuple bt_tuple (da_cons (dv 2) da_nil))))))) r_law_formula
theorem g_law_formula_fault (t : Txt P K mg base T) : GFn P w K mg base 4 t.f_law_formula_fault t.d_law_formula_fault ["_law_names_here", "_law_thing"] (spD K T 2 p_law_formula_fault) := gfn_of (t := t_law_formula_fault) t.F_law_formula_fault sc_law_formula_fault (fun cdv A outer s H E B => 
  (dss_cons (ds_if (DW.dt (dw_or (dt_not (dt_val (dx_callB cd_isi (by rfl) t.n_isinstance bt_isinstance (da_cons (dv 1) (da_cons (dx_bty (by rfl) t.n_tuple bt_tuple) da_nil))))) (dw_or1 (dt_cmp od_gt (dx_callB cd_len (by rfl) t.n_len bt_len (da_cons (dv 1) da_nil)) dx_int)))) (dss_one (ds_ret (dx_tup da_nil))) dss_nil)
  (dss_cons (ds_for B.own rfl (di_enumT (by rfl) t.n_enumerate (da_cons (dv 1) da_nil)) (dg_tup rfl (dgs_cons (dg_name (i := 2) sc_law_formula_fault.nd rfl (.inl rfl)) (dgs_cons (dg_name (i := 3) sc_law_formula_fault.nd rfl (.inl rfl)) dgs_nil))) (dss_one (ds_if (DW.dt (dw_or (dt_not (dt_val (dx_callB cd_isi (by rfl) t.n_isinstance bt_isinstance (da_cons (dv 3) (da_cons (dx_bty (by rfl) t.n_tuple bt_tuple) da_nil))))) (dw_or1 (dt_cmp od_gt (dx_callB cd_len (by rfl) t.n_len bt_len (da_cons (dv 3) da_nil)) dx_int)))) (dss_one (ds_ret (dx_tup (da_cons (dv 2) da_nil)))) dss_nil)))
  (dss_cons (ds_for B.own rfl (di_enumT (by rfl) t.n_enumerate (da_cons (dv 1) da_nil)) (dg_tup rfl (dgs_cons (dg_name (i := 2) sc_law_formula_fault.nd rfl (.inl rfl)) (dgs_cons (dg_name (i := 3) sc_law_formula_fault.nd rfl (.inl rfl)) dgs_nil))) (dss_one (ds_for B.own rfl (di_enumT (by rfl) t.n_enumerate (da_cons (dv 3) da_nil)) (dg_tup rfl (dgs_cons (dg_name (i := 4) sc_law_formula_fault.nd rfl (.inl rfl)) (dgs_cons (dg_name (i := 5) sc_law_formula_fault.nd rfl (.inl rfl)) dgs_nil))) (dss_one (ds_if (dt_not (dt_val (dx_call ((g_law_is_test t).mono (by decide)) B.room B.grd B.tk (by rfl) t.m_law_is_test t.F_law_is_test.kp t.b_law_is_test (da_cons (dv 0) (da_cons (dv 5) da_nil))))) (dss_one (ds_ret (dx_tup (da_cons (dv 2) (da_cons (dv 4) da_nil))))) dss_nil)))))
  (dss_one (ds_ret dx_non)))))) r_law_formula_fault
theorem g_need_formula (t : Txt P K mg base T) : GFn P w K mg base 5 t.f_need_formula t.d_need_formula ["cells", "thing"] (spD K T 2 p_need_formula) := gfn_of (t := t_need_formula) t.F_need_formula sc_need_formula (fun cdv A outer s H E B => 
  (dss_cons (ds_if (dt_not (dt_val (dx_call ((g_is_row t).mono (by decide)) B.room B.grd B.tk (by rfl) t.m_is_row t.F_is_row.kp t.b_is_row (da_cons (dv 1) (da_cons (dx_gint (by rfl) t.k_MOST_CASES) da_nil))))) (dss_one (ds_raise t.ec_BadFormula B.room rfl B.tk (by rfl) (dx_tup da_nil))) dss_nil)
  (dss_cons (ds_for B.own rfl (di_enumT (by rfl) t.n_enumerate (da_cons (dv 1) da_nil)) (dg_tup rfl (dgs_cons (dg_name (i := 2) sc_need_formula.nd rfl (.inl rfl)) (dgs_cons (dg_name (i := 3) sc_need_formula.nd rfl (.inl rfl)) dgs_nil))) (dss_one (ds_if (dt_not (dt_val (dx_call ((g_is_row t).mono (by decide)) B.room B.grd B.tk (by rfl) t.m_is_row t.F_is_row.kp t.b_is_row (da_cons (dv 3) (da_cons (dx_gint (by rfl) t.k_MOST_TESTS) da_nil))))) (dss_one (ds_raise t.ec_BadFormula B.room rfl B.tk (by rfl) (dx_tup (da_cons (dv 2) da_nil)))) dss_nil)))
  (dss_cons (ds_for B.own rfl (di_enumT (by rfl) t.n_enumerate (da_cons (dv 1) da_nil)) (dg_tup rfl (dgs_cons (dg_name (i := 2) sc_need_formula.nd rfl (.inl rfl)) (dgs_cons (dg_name (i := 3) sc_need_formula.nd rfl (.inl rfl)) dgs_nil))) (dss_one (ds_for B.own rfl (di_enumT (by rfl) t.n_enumerate (da_cons (dv 3) da_nil)) (dg_tup rfl (dgs_cons (dg_name (i := 4) sc_need_formula.nd rfl (.inl rfl)) (dgs_cons (dg_name (i := 5) sc_need_formula.nd rfl (.inl rfl)) dgs_nil))) (dss_one (ds_if (dt_not (dt_val (dx_call ((g_is_test t).mono (by decide)) B.room B.grd B.tk (by rfl) t.m_is_test t.F_is_test.kp t.b_is_test (da_cons (dv 0) (da_cons (dv 5) da_nil))))) (dss_one (ds_raise t.ec_BadFormula B.room rfl B.tk (by rfl) (dx_tup (da_cons (dv 2) (da_cons (dv 4) da_nil))))) dss_nil)))))
  (dss_one (ds_ret (dv 1))))))) r_need_formula
theorem g_law_bent (t : Txt P K mg base T) (n : Nat) : GFn P w K mg base (2 + n + 1) t.f_law_bent t.d_law_bent ["_law_m", "_law_thing"] (spD K T 2 (p_law_bent n)) := gfn_rec (k := 2) fun i q G e => gfn_of (k := 2 + i) (t := t_law_bent q) t.F_law_bent sc_law_bent (fun cdv A outer s H E B => 
  (dss_cons (ds_if (DW.dt (dw_and (dt_val (dx_callB cd_isi (by rfl) t.n_isinstance bt_isinstance (da_cons (dv 1) (da_cons (dx_bty (by rfl) t.n_str bt_str) da_nil)))) (dw_and1 (dt_cmp (od_eq B.u64) (dx_call ((g_law_next t).mono (by omega)) B.room B.grd B.tk (by rfl) t.m_law_next t.F_law_next.kp t.b_law_next (da_cons (dv 0) (da_cons dx_int da_nil))) dx_int)))) (dss_one (ds_ret (dx_ix ixd_seq (dx_lst (da_cons (dx_bin od_add (dv 1) dx_str) (da_cons (dx_slice (dv 1) (dpo_some dx_int) dpo_none) (da_cons (dx_bin od_add (dv 1) dx_str) (da_cons (dx_bin od_add (dv 1) dx_str) (da_cons (dx_bin od_mulS (dv 1) dx_int) (da_cons (dx_bin od_add (dv 1) dx_str) da_nil))))))) (dx_call ((g_law_next t).mono (by omega)) B.room B.grd B.tk (by rfl) t.m_law_next t.F_law_next.kp t.b_law_next (da_cons (dv 0) (da_cons dx_int da_nil))) (fun _ _ => rfl)))) dss_nil)
  (dss_cons (ds_if (DW.dt (dw_and (dt_val (dx_callB cd_isi (by rfl) t.n_isinstance bt_isinstance (da_cons (dv 1) (da_cons (dx_bty (by rfl) t.n_int bt_int) da_nil)))) (dw_and (dt_not (dt_val (dx_callB cd_isi (by rfl) t.n_isinstance bt_isinstance (da_cons (dv 1) (da_cons (dx_bty (by rfl) t.n_bool bt_bool) da_nil))))) (dw_and1 (dt_cmp (od_eq B.u64) (dx_call ((g_law_next t).mono (by omega)) B.room B.grd B.tk (by rfl) t.m_law_next t.F_law_next.kp t.b_law_next (da_cons (dv 0) (da_cons dx_int da_nil))) dx_int))))) (dss_one (ds_ret (dx_bin od_add (dv 1) (dx_ix ixd_seq (dx_lst (da_cons dx_int (da_cons (dx_un ud_neg dx_int) (da_cons dx_int (da_cons (dx_un ud_neg dx_int) (da_cons dx_int (da_cons (dx_un ud_neg dx_int) da_nil))))))) (dx_call ((g_law_next t).mono (by omega)) B.room B.grd B.tk (by rfl) t.m_law_next t.F_law_next.kp t.b_law_next (da_cons (dv 0) (da_cons dx_int da_nil))) (fun _ _ => rfl))))) dss_nil)
  (dss_cons (ds_if (DW.dt (dw_or (dt_not (dt_val (dx_callB cd_isi (by rfl) t.n_isinstance bt_isinstance (da_cons (dv 1) (da_cons (dx_bty (by rfl) t.n_tuple bt_tuple) da_nil))))) (dw_or (dt_cmp (od_eqE B.u64) (dv 1) (dx_tup da_nil)) (dw_or1 (dt_cmp (od_eq B.u64) (dx_call ((g_law_next t).mono (by omega)) B.room B.grd B.tk (by rfl) t.m_law_next t.F_law_next.kp t.b_law_next (da_cons (dv 0) (da_cons dx_int da_nil))) dx_int))))) (dss_one (ds_ret (dx_call ((g_law_odd t).mono (by omega)) B.room B.grd B.tk (by rfl) t.m_law_odd t.F_law_odd.kp t.b_law_odd (da_cons (dv 0) da_nil)))) dss_nil)
  (dss_cons (ds_par (i := 2) (j := 3) rfl sc_law_bent.nd rfl rfl (by decide) rfl rfl (da_cons (dx_call ((g_law_next t).mono (by omega)) B.room B.grd B.tk (by rfl) t.m_law_next t.F_law_next.kp t.b_law_next (da_cons (dv 0) (da_cons (dx_callB cd_len (by rfl) t.n_len bt_len (da_cons (dv 1) da_nil)) da_nil))) (da_cons (dx_call ((g_law_next t).mono (by omega)) B.room B.grd B.tk (by rfl) t.m_law_next t.F_law_next.kp t.b_law_next (da_cons (dv 0) (da_cons dx_int da_nil))) da_nil)) (by rfl))
  (dss_cons (ds_if (dt_cmp (od_eq B.u64) (dv 3) dx_int) (dss_one (ds_ret (dx_bin od_add (dx_slice (dv 1) dpo_none (dpo_some (dv 2))) (dx_slice (dv 1) (dpo_some (dx_bin od_add (dv 2) dx_int)) dpo_none)))) dss_nil)
  (dss_cons (ds_if (dt_cmp (od_eq B.u64) (dv 3) dx_int) (dss_one (ds_ret (dx_bin od_add (dv 1) (dx_slice (dv 1) (dpo_some (dv 2)) (dpo_some (dx_bin od_add (dv 2) dx_int)))))) dss_nil)
  (dss_cons (ds_if (dt_cmp (od_eq B.u64) (dv 3) dx_int) (dss_one (ds_ret (dx_callTy cd_list (by rfl) t.n_list bt_list (da_cons (dv 1) da_nil)))) dss_nil)
  (dss_cons (ds_if (dt_cmp (od_eq B.u64) (dv 3) dx_int) (dss_one (ds_ret (dx_bin od_add (dx_bin od_add (dx_slice (dv 1) dpo_none (dpo_some (dv 2))) (dx_tup (da_cons (dx_call ((g_law_odd t).mono (by omega)) B.room B.grd B.tk (by rfl) t.m_law_odd t.F_law_odd.kp t.b_law_odd (da_cons (dv 0) da_nil)) da_nil))) (dx_slice (dv 1) (dpo_some (dv 2)) dpo_none)))) dss_nil)
  (dss_cons (ds_if (dt_cmp (od_eq B.u64) (dv 3) dx_int) (dss_one (ds_ret (dx_back (dv 1)))) dss_nil)
  (dss_one (ds_ret (dx_bin od_add (dx_bin od_add (dx_slice (dv 1) dpo_none (dpo_some (dv 2))) (dx_tup (da_cons (dx_call (G 0) B.room B.grd B.tk (by rfl) t.m_law_bent t.F_law_bent.kp t.b_law_bent (da_cons (dv 0) (da_cons (dx_ix ixd_seq (dv 1) (dv 2) (fun _ _ => rfl)) da_nil))) da_nil))) (dx_slice (dv 1) (dpo_some (dx_bin od_add (dv 2) dx_int)) dpo_none)))))))))))))) (by subst e; exact r_law_bent i)
theorem bd_law_told (t : Txt P K mg base T) {k : Nat} (hk : 1 ≤ k) {cdv : Value} {A : Around} {outer : List Env} {s : Shared} {H : Hp} {E : XK} {f : Addr} {xs : List D} {vs : List V} {act : Act} (B : Bod (cxOf (L2.CX P w) P w K mg base N_law_told "_law_told" (defScope s_law_told) t.f_law_told cdv A outer s H E) (wBody E) k)
    (ac : ∀ (W' : WX) (pn : List (Addr × Obj)) (xe : Value → Shared → Prop) (p1 p2 : Pos), Takes ((cxOf (L2.CX P w) P w K mg base N_law_told "_law_told" (defScope s_law_told) t.f_law_told cdv A outer s H E).tr pn xe) W' → DX ((cxOf (L2.CX P w) P w K mg base N_law_told "_law_told" (defScope s_law_told) t.f_law_told cdv A outer s H E).tr pn xe) T W' (.Call (.Name "_law_call" p1) [] [] p2) (dAct f xs vs act)) :
    DSs (cxOf (L2.CX P w) P w K mg base N_law_told "_law_told" (defScope s_law_told) t.f_law_told cdv A outer s H E) T (wBody E) (defBody s_law_told) (t_law_told act f xs vs) :=
  (dss_cons (ds_asg (dx_tup (da_cons dx_non (da_cons dx_non da_nil))) (dg_tup rfl (dgs_cons (dg_name (i := 1) sc_law_told.nd rfl (.inl rfl)) (dgs_cons (dg_name (i := 2) sc_law_told.nd rfl (.inl rfl)) dgs_nil))))
  (dss_cons (ds_tryHold t.ea (by decide) (by decide) (by decide) B rfl rfl rfl sc_law_told.nd (i := 3) rfl rfl (y := 1) rfl (.inl rfl) (.inr rfl) (by decide) (by decide) (names_own (by rfl) t.na_KeptError) (names_own (by rfl) t.na_Missing) (names_own (by rfl) t.na_TooMany) (fun W' pn xe B => (dss_one (ds_set (i := 2) sc_law_told.nd rfl (.inl rfl) (ac W' pn xe _ _ B.tk)))) (fun _ _ => rfl))
  (dss_one (ds_ret (dx_if (dt_cmp od_isN (dv 1) dx_non) (dx_lst (da_cons (dv 2) da_nil)) (dx_call ((g_law_kinds t).mono (by omega)) B.room B.grd B.tk (by rfl) t.m_law_kinds t.F_law_kinds.kp t.b_law_kinds (da_cons (dv 1) da_nil)))))))
theorem g_law (t : Txt P K mg base T) : GFn P w K mg base 11 t.f_law t.d_law ["_law_script"] (spD K T 1 p_law) := gfn_ofC (t := t_law) t.F_law sc_law (fun A outer s H E B => 
  (dss_cons (ds_set (i := 1) sc_law.nd rfl (.inl rfl) (dx_call ((g_law_begun t).mono (by decide)) B.room B.grd B.tk (by rfl) t.m_law_begun t.F_law_begun.kp t.b_law_begun (da_cons (dv 0) da_nil)))
  (dss_cons (ds_for B.own rfl (di_range1 (by rfl) t.n_range (da_cons (dx_bin od_add dx_int (dx_callB (cd_min2 rfl) (by rfl) t.n_min bt_min (da_cons (dx_callB cd_len (by rfl) t.n_len bt_len (da_cons (dv 0) da_nil)) (da_cons dx_int da_nil)))) da_nil)) (dg_name (i := 2) sc_law.nd rfl (.inl rfl)) (dss_cons (ds_set (i := 3) sc_law.nd rfl (.inr rfl) (dx_call ((g_law_cells t).mono (by decide)) B.room B.grd B.tk (by rfl) t.m_law_cells t.F_law_cells.kp t.b_law_cells (da_cons (dv 1) da_nil)))
  (dss_cons (ds_setLcV rfl sc_law.nd (di_seq (dv 3)) (blk_top (N := N_law) (sc := defScope s_law) (own := [("_law_cell", 11)]) (by decide +kernel)) rfl (fun _ _ _ _ _ => (dgo_name (i := 11) (by decide) sc_law.nd rfl (.inl rfl))) (fun _ _ _ _ _ => dts_nil) (fun _ _ _ _ _ => (dx_ix ixd_seq (dv 11) dx_int (fun _ _ => rfl))) (i := 4) rfl rfl (sw_true rfl rfl rfl (by decide +kernel)))
  (dss_cons (ds_set (i := 5) sc_law.nd rfl (.inl rfl) (dx_call ((g_law_formula t).mono (by decide)) B.room B.grd B.tk (by rfl) t.m_law_formula t.F_law_formula.kp t.b_law_formula (da_cons (dv 1) (da_cons (dv 4) da_nil))))
  (dss_cons (ds_set (i := 6) sc_law.nd rfl (.inl rfl) (dx_lstM (da_cons (dv 5) (da_cons (dx_call ((g_law_bent t 7).mono (by decide)) B.room B.grd B.tk (by rfl) t.m_law_bent t.F_law_bent.kp t.b_law_bent (da_cons (dv 1) (da_cons (dv 5) da_nil))) (da_cons (dx_call ((g_law_bent t 7).mono (by decide)) B.room B.grd B.tk (by rfl) t.m_law_bent t.F_law_bent.kp t.b_law_bent (da_cons (dv 1) (da_cons (dv 5) da_nil))) (da_cons (dx_call ((g_law_edge t).mono (by decide)) B.room B.grd B.tk (by rfl) t.m_law_edge t.F_law_edge.kp t.b_law_edge (da_cons (dv 1) (da_cons (dv 4) da_nil))) (da_cons (dx_call ((g_law_odd t).mono (by decide)) B.room B.grd B.tk (by rfl) t.m_law_odd t.F_law_odd.kp t.b_law_odd (da_cons (dv 1) da_nil)) da_nil)))))))
  (dss_cons (ds_app (dv 6) (dx_call ((g_law_bent t 7).mono (by decide)) B.room B.grd B.tk (by rfl) t.m_law_bent t.F_law_bent.kp t.b_law_bent (da_cons (dv 1) (da_cons (dx_ix ixd_seq (dv 6) dx_int (fun _ _ => rfl)) da_nil))) (fun ho ha => pe_bm PySem.F.plainAttrs_list PySem.F.slot_list_append PySem.F.type_list_append mt_append ho ha))
  (dss_cons (ds_app (dv 6) (dx_bin od_add (dv 5) (dx_tup (da_cons (dx_call ((g_law_bent t 7).mono (by decide)) B.room B.grd B.tk (by rfl) t.m_law_bent t.F_law_bent.kp t.b_law_bent (da_cons (dv 1) (da_cons (dx_call ((g_law_formula t).mono (by decide)) B.room B.grd B.tk (by rfl) t.m_law_formula t.F_law_formula.kp t.b_law_formula (da_cons (dv 1) (da_cons (dv 4) da_nil))) da_nil))) da_nil))) (fun ho ha => pe_bm PySem.F.plainAttrs_list PySem.F.slot_list_append PySem.F.type_list_append mt_append ho ha))
  (dss_frz (i := 6) (dss_one (ds_for B.own rfl (di_seq (dv 6)) (dg_name (i := 7) sc_law.nd rfl (.inr rfl)) (dss_cons (ds_par (i := 8) (j := 9) rfl sc_law.nd rfl rfl (by decide) rfl rfl (da_cons (dx_callB (cd_reprA t.sm B.grd B.u66) (by rfl) t.n_repr bt_repr (da_cons (dx_lst (da_cons (dv 3) (da_cons (dv 7) da_nil))) da_nil)) (da_cons (dx_call ((g_law_formula_fault t).mono (by decide)) B.room B.grd B.tk (by rfl) t.m_law_formula_fault t.F_law_formula_fault.kp t.b_law_formula_fault (da_cons (dv 4) (da_cons (dv 7) da_nil))) da_nil)) (by rfl))
  (dss_cons (ds_set (i := 10) sc_law.nd rfl (.inl rfl) (dx_if (dt_cmp od_isN (dv 9) dx_non) (dx_lst (da_cons (dv 7) da_nil)) (dx_tup (da_cons dx_str (da_cons (dv 9) da_nil)))))
  (dss_one (ds_if (DW.dt (dw_or (dt_cmp od_neS (dx_callB (cd_reprA t.sm B.grd B.u66) (by rfl) t.n_repr bt_repr (da_cons (dx_lam (k := 8) (Ng := N_law_told) t.F_law_told sc_law_told (by rfl) t.m_law_told t.b_law_told rfl (.inl rfl) B.tk (fun cdv A outer s H E f xs vs act B ac => bd_law_told t (by decide) B ac) t.tb_law rfl t.tm_law t.tu_law B.room B.grd (lamS_at (sc := defScope s_law) (by decide +kernel)) rfl (fun _ _ _ _ _ => rfl) (fun A outer s H E f c' B => (dx_call ((g_need_formula t).mono (by decide)) B.room B.grd B.tk (by rfl) t.m_need_formula t.F_need_formula.kp t.b_need_formula (da_cons (dv 3) (da_cons (dv 7) da_nil))))) da_nil)) (dx_callB (cd_reprA t.sm B.grd B.u66) (by rfl) t.n_repr bt_repr (da_cons (dv 10) da_nil))) (dw_or1 (dt_cmp od_neS (dx_callB (cd_reprA t.sm B.grd B.u66) (by rfl) t.n_repr bt_repr (da_cons (dx_lst (da_cons (dv 3) (da_cons (dv 7) da_nil))) da_nil)) (dv 8))))) (dss_one (ds_ret dx_bl)) dss_nil))))))))))))))
  (dss_one (ds_ret dx_bl))))) r_law
end
theorem all_mk {l : PySem.W.OpenLaw} {pq : Program} {w : World} {K : PySem.W.Frag} {h : Heap} {mg : Str → Option Value} {fa : Addr} (X : K.In h) (G : h.Ns mainGlobals mg) (hfa : mg "law" = some (.ref fa)) (TF : TabF pq K h)
    {aa_is_among : Addr} {oo_is_among nn_is_among : Option Addr} {ll_is_among : Array (Option Value)} {cc_is_among vv_is_among ww_is_among pp_is_among tt_is_among uu_is_among : Value}
    {aa_is_name : Addr} {oo_is_name nn_is_name : Option Addr} {ll_is_name : Array (Option Value)} {cc_is_name vv_is_name ww_is_name pp_is_name tt_is_name uu_is_name : Value}
    {aa_is_row : Addr} {oo_is_row nn_is_row : Option Addr} {ll_is_row : Array (Option Value)} {cc_is_row vv_is_row ww_is_row pp_is_row tt_is_row uu_is_row : Value}
    {aa_names_of : Addr} {oo_names_of nn_names_of : Option Addr} {ll_names_of : Array (Option Value)} {cc_names_of vv_names_of ww_names_of pp_names_of tt_names_of uu_names_of : Value}
    {aa_are_in_order : Addr} {oo_are_in_order nn_are_in_order : Option Addr} {ll_are_in_order : Array (Option Value)} {cc_are_in_order vv_are_in_order ww_are_in_order pp_are_in_order tt_are_in_order uu_are_in_order : Value}
    {aa_are_terms : Addr} {oo_are_terms nn_are_terms : Option Addr} {ll_are_terms : Array (Option Value)} {cc_are_terms vv_are_terms ww_are_terms pp_are_terms tt_are_terms uu_are_terms : Value}
    {aa_is_test : Addr} {oo_is_test nn_is_test : Option Addr} {ll_is_test : Array (Option Value)} {cc_is_test vv_is_test ww_is_test pp_is_test tt_is_test uu_is_test : Value}
    {aa_need_formula : Addr} {oo_need_formula nn_need_formula : Option Addr} {ll_need_formula : Array (Option Value)} {cc_need_formula vv_need_formula ww_need_formula pp_need_formula tt_need_formula uu_need_formula : Value}
    {aa_law_begun : Addr} {oo_law_begun nn_law_begun : Option Addr} {ll_law_begun : Array (Option Value)} {cc_law_begun vv_law_begun ww_law_begun pp_law_begun tt_law_begun uu_law_begun : Value}
    {aa_law_next : Addr} {oo_law_next nn_law_next : Option Addr} {ll_law_next : Array (Option Value)} {cc_law_next vv_law_next ww_law_next pp_law_next tt_law_next uu_law_next : Value}
    {aa_law_names : Addr} {oo_law_names nn_law_names : Option Addr} {ll_law_names : Array (Option Value)} {cc_law_names vv_law_names ww_law_names pp_law_names tt_law_names uu_law_names : Value}
    {aa_law_cells : Addr} {oo_law_cells nn_law_cells : Option Addr} {ll_law_cells : Array (Option Value)} {cc_law_cells vv_law_cells ww_law_cells pp_law_cells tt_law_cells uu_law_cells : Value}
    {aa_law_terms : Addr} {oo_law_terms nn_law_terms : Option Addr} {ll_law_terms : Array (Option Value)} {cc_law_terms vv_law_terms ww_law_terms pp_law_terms tt_law_terms uu_law_terms : Value}
    {aa_law_test : Addr} {oo_law_test nn_law_test : Option Addr} {ll_law_test : Array (Option Value)} {cc_law_test vv_law_test ww_law_test pp_law_test tt_law_test uu_law_test : Value}
    {aa_law_formula : Addr} {oo_law_formula nn_law_formula : Option Addr} {ll_law_formula : Array (Option Value)} {cc_law_formula vv_law_formula ww_law_formula pp_law_formula tt_law_formula uu_law_formula : Value}
    {aa_law_odd : Addr} {oo_law_odd nn_law_odd : Option Addr} {ll_law_odd : Array (Option Value)} {cc_law_odd vv_law_odd ww_law_odd pp_law_odd tt_law_odd uu_law_odd : Value}
    {aa_law_bent : Addr} {oo_law_bent nn_law_bent : Option Addr} {ll_law_bent : Array (Option Value)} {cc_law_bent vv_law_bent ww_law_bent pp_law_bent tt_law_bent uu_law_bent : Value}
    {aa_law_is_whole : Addr} {oo_law_is_whole nn_law_is_whole : Option Addr} {ll_law_is_whole : Array (Option Value)} {cc_law_is_whole vv_law_is_whole ww_law_is_whole pp_law_is_whole tt_law_is_whole uu_law_is_whole : Value}
    {aa_law_in_order : Addr} {oo_law_in_order nn_law_in_order : Option Addr} {ll_law_in_order : Array (Option Value)} {cc_law_in_order vv_law_in_order ww_law_in_order pp_law_in_order tt_law_in_order uu_law_in_order : Value}
    {aa_law_are_terms : Addr} {oo_law_are_terms nn_law_are_terms : Option Addr} {ll_law_are_terms : Array (Option Value)} {cc_law_are_terms vv_law_are_terms ww_law_are_terms pp_law_are_terms tt_law_are_terms uu_law_are_terms : Value}
    {aa_law_is_test : Addr} {oo_law_is_test nn_law_is_test : Option Addr} {ll_law_is_test : Array (Option Value)} {cc_law_is_test vv_law_is_test ww_law_is_test pp_law_is_test tt_law_is_test uu_law_is_test : Value}
    {aa_law_formula_fault : Addr} {oo_law_formula_fault nn_law_formula_fault : Option Addr} {ll_law_formula_fault : Array (Option Value)} {cc_law_formula_fault vv_law_formula_fault ww_law_formula_fault pp_law_formula_fault tt_law_formula_fault uu_law_formula_fault : Value}
    {aa_law_kinds : Addr} {oo_law_kinds nn_law_kinds : Option Addr} {ll_law_kinds : Array (Option Value)} {cc_law_kinds vv_law_kinds ww_law_kinds pp_law_kinds tt_law_kinds uu_law_kinds : Value}
    {aa_law_told : Addr} {oo_law_told nn_law_told : Option Addr} {ll_law_told : Array (Option Value)} {cc_law_told vv_law_told ww_law_told pp_law_told tt_law_told uu_law_told : Value}
    {aa_law_edge : Addr} {oo_law_edge nn_law_edge : Option Addr} {ll_law_edge : Array (Option Value)} {cc_law_edge vv_law_edge ww_law_edge pp_law_edge tt_law_edge uu_law_edge : Value}
    {aa_law : Addr} {oo_law nn_law : Option Addr} {ll_law : Array (Option Value)} {cc_law vv_law ww_law pp_law tt_law uu_law : Value}
    {c_law P_law : Addr} {o9_law : Value} {d9_law : Option Addr} {v9_law : Array Value} {l9_law : Array (Option Value)}
    {BadFormula_C BadFormula_I BadFormula_cda BadFormula_cc : Addr} {BadFormula_q BadFormula_file : Str} {BadFormula_kV BadFormula_doc BadFormula_pm BadFormula_ct BadFormula_oc BadFormula_ccl BadFormula_cl : Value} {BadFormula_an BadFormula_od BadFormula_cdd BadFormula_cld : Option Addr} {BadFormula_osl BadFormula_ccs BadFormula_csl : Array (Option Value)} {BadFormula_vs : Array Value} {BadFormula_tf : Tok}
    {tk_LETTERS : Tok}
    {tk_MOST_CASES : Tok}
    {tk_MOST_CELLS : Tok}
    {tk_MOST_FACTOR : Tok}
    {tk_MOST_NUMBER : Tok}
    {tk_MOST_TESTS : Tok}
    {ad_OPS : Addr}
    (ha_is_among : PySem.W.nsIn K mainGlobals "is_among" = some (some (.ref aa_is_among)))
    (hl_is_among : K.lookup aa_is_among = some ⟨cc_is_among, oo_is_among, .func (PySem.W.fnOf "is_among" "is_among" (defArgs s_is_among) (defBody s_is_among) (defScope s_is_among) .none vv_is_among ww_is_among pp_is_among nn_is_among tt_is_among uu_is_among), ll_is_among⟩)
    (hc_is_among : PySem.W.codeIn K tt_is_among "is_among" = true)
    (hk_is_among : PySem.W.keepIn K (.ref aa_is_among) = true)
    (ha_is_name : PySem.W.nsIn K mainGlobals "is_name" = some (some (.ref aa_is_name)))
    (hl_is_name : K.lookup aa_is_name = some ⟨cc_is_name, oo_is_name, .func (PySem.W.fnOf "is_name" "is_name" (defArgs s_is_name) (defBody s_is_name) (defScope s_is_name) .none vv_is_name ww_is_name pp_is_name nn_is_name tt_is_name uu_is_name), ll_is_name⟩)
    (hc_is_name : PySem.W.codeIn K tt_is_name "is_name" = true)
    (hk_is_name : PySem.W.keepIn K (.ref aa_is_name) = true)
    (ha_is_row : PySem.W.nsIn K mainGlobals "is_row" = some (some (.ref aa_is_row)))
    (hl_is_row : K.lookup aa_is_row = some ⟨cc_is_row, oo_is_row, .func (PySem.W.fnOf "is_row" "is_row" (defArgs s_is_row) (defBody s_is_row) (defScope s_is_row) .none vv_is_row ww_is_row pp_is_row nn_is_row tt_is_row uu_is_row), ll_is_row⟩)
    (hc_is_row : PySem.W.codeIn K tt_is_row "is_row" = true)
    (hk_is_row : PySem.W.keepIn K (.ref aa_is_row) = true)
    (ha_names_of : PySem.W.nsIn K mainGlobals "names_of" = some (some (.ref aa_names_of)))
    (hl_names_of : K.lookup aa_names_of = some ⟨cc_names_of, oo_names_of, .func (PySem.W.fnOf "names_of" "names_of" (defArgs s_names_of) (defBody s_names_of) (defScope s_names_of) .none vv_names_of ww_names_of pp_names_of nn_names_of tt_names_of uu_names_of), ll_names_of⟩)
    (hc_names_of : PySem.W.codeIn K tt_names_of "names_of" = true)
    (hk_names_of : PySem.W.keepIn K (.ref aa_names_of) = true)
    (ha_are_in_order : PySem.W.nsIn K mainGlobals "are_in_order" = some (some (.ref aa_are_in_order)))
    (hl_are_in_order : K.lookup aa_are_in_order = some ⟨cc_are_in_order, oo_are_in_order, .func (PySem.W.fnOf "are_in_order" "are_in_order" (defArgs s_are_in_order) (defBody s_are_in_order) (defScope s_are_in_order) .none vv_are_in_order ww_are_in_order pp_are_in_order nn_are_in_order tt_are_in_order uu_are_in_order), ll_are_in_order⟩)
    (hc_are_in_order : PySem.W.codeIn K tt_are_in_order "are_in_order" = true)
    (hk_are_in_order : PySem.W.keepIn K (.ref aa_are_in_order) = true)
    (ha_are_terms : PySem.W.nsIn K mainGlobals "are_terms" = some (some (.ref aa_are_terms)))
    (hl_are_terms : K.lookup aa_are_terms = some ⟨cc_are_terms, oo_are_terms, .func (PySem.W.fnOf "are_terms" "are_terms" (defArgs s_are_terms) (defBody s_are_terms) (defScope s_are_terms) .none vv_are_terms ww_are_terms pp_are_terms nn_are_terms tt_are_terms uu_are_terms), ll_are_terms⟩)
    (hc_are_terms : PySem.W.codeIn K tt_are_terms "are_terms" = true)
    (hk_are_terms : PySem.W.keepIn K (.ref aa_are_terms) = true)
    (ha_is_test : PySem.W.nsIn K mainGlobals "is_test" = some (some (.ref aa_is_test)))
    (hl_is_test : K.lookup aa_is_test = some ⟨cc_is_test, oo_is_test, .func (PySem.W.fnOf "is_test" "is_test" (defArgs s_is_test) (defBody s_is_test) (defScope s_is_test) .none vv_is_test ww_is_test pp_is_test nn_is_test tt_is_test uu_is_test), ll_is_test⟩)
    (hc_is_test : PySem.W.codeIn K tt_is_test "is_test" = true)
    (hk_is_test : PySem.W.keepIn K (.ref aa_is_test) = true)
    (ha_need_formula : PySem.W.nsIn K mainGlobals "need_formula" = some (some (.ref aa_need_formula)))
    (hl_need_formula : K.lookup aa_need_formula = some ⟨cc_need_formula, oo_need_formula, .func (PySem.W.fnOf "need_formula" "need_formula" (defArgs s_need_formula) (defBody s_need_formula) (defScope s_need_formula) .none vv_need_formula ww_need_formula pp_need_formula nn_need_formula tt_need_formula uu_need_formula), ll_need_formula⟩)
    (hc_need_formula : PySem.W.codeIn K tt_need_formula "need_formula" = true)
    (hk_need_formula : PySem.W.keepIn K (.ref aa_need_formula) = true)
    (ha_law_begun : PySem.W.nsIn K mainGlobals "_law_begun" = some (some (.ref aa_law_begun)))
    (hl_law_begun : K.lookup aa_law_begun = some ⟨cc_law_begun, oo_law_begun, .func (PySem.W.fnOf "_law_begun" "_law_begun" (defArgs s_law_begun) (defBody s_law_begun) (defScope s_law_begun) .none vv_law_begun ww_law_begun pp_law_begun nn_law_begun tt_law_begun uu_law_begun), ll_law_begun⟩)
    (hc_law_begun : PySem.W.codeIn K tt_law_begun "_law_begun" = true)
    (hk_law_begun : PySem.W.keepIn K (.ref aa_law_begun) = true)
    (ha_law_next : PySem.W.nsIn K mainGlobals "_law_next" = some (some (.ref aa_law_next)))
    (hl_law_next : K.lookup aa_law_next = some ⟨cc_law_next, oo_law_next, .func (PySem.W.fnOf "_law_next" "_law_next" (defArgs s_law_next) (defBody s_law_next) (defScope s_law_next) .none vv_law_next ww_law_next pp_law_next nn_law_next tt_law_next uu_law_next), ll_law_next⟩)
    (hc_law_next : PySem.W.codeIn K tt_law_next "_law_next" = true)
    (hk_law_next : PySem.W.keepIn K (.ref aa_law_next) = true)
    (ha_law_names : PySem.W.nsIn K mainGlobals "_law_names" = some (some (.ref aa_law_names)))
    (hl_law_names : K.lookup aa_law_names = some ⟨cc_law_names, oo_law_names, .func (PySem.W.fnOf "_law_names" "_law_names" (defArgs s_law_names) (defBody s_law_names) (defScope s_law_names) .none vv_law_names ww_law_names pp_law_names nn_law_names tt_law_names uu_law_names), ll_law_names⟩)
    (hc_law_names : PySem.W.codeIn K tt_law_names "_law_names" = true)
    (hk_law_names : PySem.W.keepIn K (.ref aa_law_names) = true)
    (ha_law_cells : PySem.W.nsIn K mainGlobals "_law_cells" = some (some (.ref aa_law_cells)))
    (hl_law_cells : K.lookup aa_law_cells = some ⟨cc_law_cells, oo_law_cells, .func (PySem.W.fnOf "_law_cells" "_law_cells" (defArgs s_law_cells) (defBody s_law_cells) (defScope s_law_cells) .none vv_law_cells ww_law_cells pp_law_cells nn_law_cells tt_law_cells uu_law_cells), ll_law_cells⟩)
    (hc_law_cells : PySem.W.codeIn K tt_law_cells "_law_cells" = true)
    (hk_law_cells : PySem.W.keepIn K (.ref aa_law_cells) = true)
    (ha_law_terms : PySem.W.nsIn K mainGlobals "_law_terms" = some (some (.ref aa_law_terms)))
    (hl_law_terms : K.lookup aa_law_terms = some ⟨cc_law_terms, oo_law_terms, .func (PySem.W.fnOf "_law_terms" "_law_terms" (defArgs s_law_terms) (defBody s_law_terms) (defScope s_law_terms) .none vv_law_terms ww_law_terms pp_law_terms nn_law_terms tt_law_terms uu_law_terms), ll_law_terms⟩)
    (hc_law_terms : PySem.W.codeIn K tt_law_terms "_law_terms" = true)
    (hk_law_terms : PySem.W.keepIn K (.ref aa_law_terms) = true)
    (ha_law_test : PySem.W.nsIn K mainGlobals "_law_test" = some (some (.ref aa_law_test)))
    (hl_law_test : K.lookup aa_law_test = some ⟨cc_law_test, oo_law_test, .func (PySem.W.fnOf "_law_test" "_law_test" (defArgs s_law_test) (defBody s_law_test) (defScope s_law_test) .none vv_law_test ww_law_test pp_law_test nn_law_test tt_law_test uu_law_test), ll_law_test⟩)
    (hc_law_test : PySem.W.codeIn K tt_law_test "_law_test" = true)
    (hk_law_test : PySem.W.keepIn K (.ref aa_law_test) = true)
    (ha_law_formula : PySem.W.nsIn K mainGlobals "_law_formula" = some (some (.ref aa_law_formula)))
    (hl_law_formula : K.lookup aa_law_formula = some ⟨cc_law_formula, oo_law_formula, .func (PySem.W.fnOf "_law_formula" "_law_formula" (defArgs s_law_formula) (defBody s_law_formula) (defScope s_law_formula) .none vv_law_formula ww_law_formula pp_law_formula nn_law_formula tt_law_formula uu_law_formula), ll_law_formula⟩)
    (hc_law_formula : PySem.W.codeIn K tt_law_formula "_law_formula" = true)
    (hk_law_formula : PySem.W.keepIn K (.ref aa_law_formula) = true)
    (ha_law_odd : PySem.W.nsIn K mainGlobals "_law_odd" = some (some (.ref aa_law_odd)))
    (hl_law_odd : K.lookup aa_law_odd = some ⟨cc_law_odd, oo_law_odd, .func (PySem.W.fnOf "_law_odd" "_law_odd" (defArgs s_law_odd) (defBody s_law_odd) (defScope s_law_odd) .none vv_law_odd ww_law_odd pp_law_odd nn_law_odd tt_law_odd uu_law_odd), ll_law_odd⟩)
    (hc_law_odd : PySem.W.codeIn K tt_law_odd "_law_odd" = true)
    (hk_law_odd : PySem.W.keepIn K (.ref aa_law_odd) = true)
    (ha_law_bent : PySem.W.nsIn K mainGlobals "_law_bent" = some (some (.ref aa_law_bent)))
    (hl_law_bent : K.lookup aa_law_bent = some ⟨cc_law_bent, oo_law_bent, .func (PySem.W.fnOf "_law_bent" "_law_bent" (defArgs s_law_bent) (defBody s_law_bent) (defScope s_law_bent) .none vv_law_bent ww_law_bent pp_law_bent nn_law_bent tt_law_bent uu_law_bent), ll_law_bent⟩)
    (hc_law_bent : PySem.W.codeIn K tt_law_bent "_law_bent" = true)
    (hk_law_bent : PySem.W.keepIn K (.ref aa_law_bent) = true)
    (ha_law_is_whole : PySem.W.nsIn K mainGlobals "_law_is_whole" = some (some (.ref aa_law_is_whole)))
    (hl_law_is_whole : K.lookup aa_law_is_whole = some ⟨cc_law_is_whole, oo_law_is_whole, .func (PySem.W.fnOf "_law_is_whole" "_law_is_whole" (defArgs s_law_is_whole) (defBody s_law_is_whole) (defScope s_law_is_whole) .none vv_law_is_whole ww_law_is_whole pp_law_is_whole nn_law_is_whole tt_law_is_whole uu_law_is_whole), ll_law_is_whole⟩)
    (hc_law_is_whole : PySem.W.codeIn K tt_law_is_whole "_law_is_whole" = true)
    (hk_law_is_whole : PySem.W.keepIn K (.ref aa_law_is_whole) = true)
    (ha_law_in_order : PySem.W.nsIn K mainGlobals "_law_in_order" = some (some (.ref aa_law_in_order)))
    (hl_law_in_order : K.lookup aa_law_in_order = some ⟨cc_law_in_order, oo_law_in_order, .func (PySem.W.fnOf "_law_in_order" "_law_in_order" (defArgs s_law_in_order) (defBody s_law_in_order) (defScope s_law_in_order) .none vv_law_in_order ww_law_in_order pp_law_in_order nn_law_in_order tt_law_in_order uu_law_in_order), ll_law_in_order⟩)
    (hc_law_in_order : PySem.W.codeIn K tt_law_in_order "_law_in_order" = true)
    (hk_law_in_order : PySem.W.keepIn K (.ref aa_law_in_order) = true)
    (ha_law_are_terms : PySem.W.nsIn K mainGlobals "_law_are_terms" = some (some (.ref aa_law_are_terms)))
    (hl_law_are_terms : K.lookup aa_law_are_terms = some ⟨cc_law_are_terms, oo_law_are_terms, .func (PySem.W.fnOf "_law_are_terms" "_law_are_terms" (defArgs s_law_are_terms) (defBody s_law_are_terms) (defScope s_law_are_terms) .none vv_law_are_terms ww_law_are_terms pp_law_are_terms nn_law_are_terms tt_law_are_terms uu_law_are_terms), ll_law_are_terms⟩)
    (hc_law_are_terms : PySem.W.codeIn K tt_law_are_terms "_law_are_terms" = true)
    (hk_law_are_terms : PySem.W.keepIn K (.ref aa_law_are_terms) = true)
    (ha_law_is_test : PySem.W.nsIn K mainGlobals "_law_is_test" = some (some (.ref aa_law_is_test)))
    (hl_law_is_test : K.lookup aa_law_is_test = some ⟨cc_law_is_test, oo_law_is_test, .func (PySem.W.fnOf "_law_is_test" "_law_is_test" (defArgs s_law_is_test) (defBody s_law_is_test) (defScope s_law_is_test) .none vv_law_is_test ww_law_is_test pp_law_is_test nn_law_is_test tt_law_is_test uu_law_is_test), ll_law_is_test⟩)
    (hc_law_is_test : PySem.W.codeIn K tt_law_is_test "_law_is_test" = true)
    (hk_law_is_test : PySem.W.keepIn K (.ref aa_law_is_test) = true)
    (ha_law_formula_fault : PySem.W.nsIn K mainGlobals "_law_formula_fault" = some (some (.ref aa_law_formula_fault)))
    (hl_law_formula_fault : K.lookup aa_law_formula_fault = some ⟨cc_law_formula_fault, oo_law_formula_fault, .func (PySem.W.fnOf "_law_formula_fault" "_law_formula_fault" (defArgs s_law_formula_fault) (defBody s_law_formula_fault) (defScope s_law_formula_fault) .none vv_law_formula_fault ww_law_formula_fault pp_law_formula_fault nn_law_formula_fault tt_law_formula_fault uu_law_formula_fault), ll_law_formula_fault⟩)
    (hc_law_formula_fault : PySem.W.codeIn K tt_law_formula_fault "_law_formula_fault" = true)
    (hk_law_formula_fault : PySem.W.keepIn K (.ref aa_law_formula_fault) = true)
    (ha_law_kinds : PySem.W.nsIn K mainGlobals "_law_kinds" = some (some (.ref aa_law_kinds)))
    (hl_law_kinds : K.lookup aa_law_kinds = some ⟨cc_law_kinds, oo_law_kinds, .func (PySem.W.fnOf "_law_kinds" "_law_kinds" (defArgs s_law_kinds) (defBody s_law_kinds) (defScope s_law_kinds) .none vv_law_kinds ww_law_kinds pp_law_kinds nn_law_kinds tt_law_kinds uu_law_kinds), ll_law_kinds⟩)
    (hc_law_kinds : PySem.W.codeIn K tt_law_kinds "_law_kinds" = true)
    (hk_law_kinds : PySem.W.keepIn K (.ref aa_law_kinds) = true)
    (ha_law_told : PySem.W.nsIn K mainGlobals "_law_told" = some (some (.ref aa_law_told)))
    (hl_law_told : K.lookup aa_law_told = some ⟨cc_law_told, oo_law_told, .func (PySem.W.fnOf "_law_told" "_law_told" (defArgs s_law_told) (defBody s_law_told) (defScope s_law_told) .none vv_law_told ww_law_told pp_law_told nn_law_told tt_law_told uu_law_told), ll_law_told⟩)
    (hc_law_told : PySem.W.codeIn K tt_law_told "_law_told" = true)
    (hk_law_told : PySem.W.keepIn K (.ref aa_law_told) = true)
    (ha_law_edge : PySem.W.nsIn K mainGlobals "_law_edge" = some (some (.ref aa_law_edge)))
    (hl_law_edge : K.lookup aa_law_edge = some ⟨cc_law_edge, oo_law_edge, .func (PySem.W.fnOf "_law_edge" "_law_edge" (defArgs s_law_edge) (defBody s_law_edge) (defScope s_law_edge) .none vv_law_edge ww_law_edge pp_law_edge nn_law_edge tt_law_edge uu_law_edge), ll_law_edge⟩)
    (hc_law_edge : PySem.W.codeIn K tt_law_edge "_law_edge" = true)
    (hk_law_edge : PySem.W.keepIn K (.ref aa_law_edge) = true)
    (ha_law : PySem.W.nsIn K mainGlobals "law" = some (some (.ref aa_law)))
    (hl_law : K.lookup aa_law = some ⟨cc_law, oo_law, .func (PySem.W.fnOf "law" "law" (defArgs s_law) (defBody s_law) (defScope s_law) .none vv_law ww_law pp_law nn_law tt_law uu_law), ll_law⟩)
    (hc_law : PySem.W.codeIn K tt_law "law" = true)
    (hk_law : PySem.W.keepIn K (.ref aa_law) = true)
    (t0_law : tt_law = .ref c_law)
    (t1_law : K.lookup c_law = some ⟨o9_law, d9_law, .fields v9_law, l9_law⟩)
    (t2_law : v9_law[11]? = some (.ref P_law))
    (hp_law : K.lookup P_law = none)
    (hr_law : ((recsOf pq).find? fun e => e.name == ("law" : Str)).isSome = true)
    (hn_all : PySem.W.nsIn K mainGlobals "all" = some none)
    (hn_bool : PySem.W.nsIn K mainGlobals "bool" = some none)
    (hn_enumerate : PySem.W.nsIn K mainGlobals "enumerate" = some none)
    (hn_int : PySem.W.nsIn K mainGlobals "int" = some none)
    (hn_isinstance : PySem.W.nsIn K mainGlobals "isinstance" = some none)
    (hn_len : PySem.W.nsIn K mainGlobals "len" = some none)
    (hn_list : PySem.W.nsIn K mainGlobals "list" = some none)
    (hn_min : PySem.W.nsIn K mainGlobals "min" = some none)
    (hn_range : PySem.W.nsIn K mainGlobals "range" = some none)
    (hn_repr : PySem.W.nsIn K mainGlobals "repr" = some none)
    (hn_str : PySem.W.nsIn K mainGlobals "str" = some none)
    (hn_tuple : PySem.W.nsIn K mainGlobals "tuple" = some none)
    (hea : eaB K kn ms fs = true)
    (hm_BadCells : nmB K "BadCells" = true)
    (hm_BadFormula : nmB K "BadFormula" = true)
    (hm_BadNode : nmB K "BadNode" = true)
    (hm_BadNumber : nmB K "BadNumber" = true)
    (hm_BadPaper : nmB K "BadPaper" = true)
    (hm_BadProgram : nmB K "BadProgram" = true)
    (hm_BadStanding : nmB K "BadStanding" = true)
    (hm_BadText : nmB K "BadText" = true)
    (hm_BadWeaving : nmB K "BadWeaving" = true)
    (hm_KeptError : nmB K "KeptError" = true)
    (hm_Missing : nmB K "Missing" = true)
    (hm_TooMany : nmB K "TooMany" = true)
    (hm_Twice : nmB K "Twice" = true)
    (e1_BadFormula : PySem.W.nsIn K mainGlobals "BadFormula" = some (some (.ref BadFormula_C)))
    (e2_BadFormula : exB K BadFormula_C "place" "ValueError" "ValueError.__new__" "ValueError.__init__" [.type "ValueError", .type "Exception", .type "BaseException", .type "object"] = true)
    (e3_BadFormula : PySem.W.findIn K (.ref BadFormula_C) "__init__" = some (some (.ref BadFormula_I)))
    (e4_BadFormula : PySem.W.isFn K (.ref BadFormula_I) = true)
    (e5_BadFormula : K.lookup BadFormula_I = some ⟨BadFormula_oc, BadFormula_od, .func (PySem.W.ksFn "__init__" BadFormula_q (defArgs i_BadFormula) (defBody i_BadFormula) (defScope i_BadFormula) .none BadFormula_kV BadFormula_doc BadFormula_pm BadFormula_an (.ref BadFormula_cda) BadFormula_ct BadFormula_cc), BadFormula_osl⟩)
    (e6_BadFormula : PySem.W.codeIn K (.ref BadFormula_cda) BadFormula_q = true)
    (e7_BadFormula : K.lookup BadFormula_cda = some ⟨BadFormula_ccl, BadFormula_cdd, .fields BadFormula_vs, BadFormula_ccs⟩)
    (e8_BadFormula : BadFormula_vs[2]? = some (.str BadFormula_file BadFormula_tf))
    (e9_BadFormula : ((l.prog.main.file : Str) == BadFormula_file) = true)
    (e10_BadFormula : K.lookup BadFormula_cc = some ⟨BadFormula_cl, BadFormula_cld, .cell (some (.ref BadFormula_C)), BadFormula_csl⟩)
    (htop : (l.prog.main.scope.names.lookup ("super" : Str)).isSome = false)
    (hx_LETTERS : PySem.W.nsIn K mainGlobals "LETTERS" = some (some (.str "abcdefghijklmnopqrstuvwxyz" tk_LETTERS)))
    (hx_MOST_CASES : PySem.W.nsIn K mainGlobals "MOST_CASES" = some (some (.int 4 tk_MOST_CASES)))
    (hx_MOST_CELLS : PySem.W.nsIn K mainGlobals "MOST_CELLS" = some (some (.int 4 tk_MOST_CELLS)))
    (hx_MOST_FACTOR : PySem.W.nsIn K mainGlobals "MOST_FACTOR" = some (some (.int 9 tk_MOST_FACTOR)))
    (hx_MOST_NUMBER : PySem.W.nsIn K mainGlobals "MOST_NUMBER" = some (some (.int 99 tk_MOST_NUMBER)))
    (hx_MOST_TESTS : PySem.W.nsIn K mainGlobals "MOST_TESTS" = some (some (.int 4 tk_MOST_TESTS)))
    (hx_OPS : PySem.W.nsIn K mainGlobals "OPS" = some (some (.ref ad_OPS)))
    (hy_OPS : gB K (.tup [(.str "="), (.str "!="), (.str "<"), (.str "<="), (.str ">"), (.str ">=")]) (.ref ad_OPS) = true) :
    ∃ (fd : FuncData) (cs : List (Addr × Addr)) (TT : List (Addr × Str)), (∀ p ∈ cs, h.get? p.2 = some { cls := .none, data := .fields #[] } ∧ K.lookup p.2 = none ∧ PySem.W.CodeHd h p.1 p.2) ∧ (∀ p ∈ TT, p.1 ∈ cs.map (·.2)) ∧ (∀ (s : Shared) (v : Value), BindsTo s fd ⟨[v], []⟩ [("_law_script", v)]) ∧
      ∀ base : Heap, K.In base → base.Ns mainGlobals mg → (∀ p ∈ cs, LamX.TabB base mg p.1 p.2) → (∃ mm, base.Ns sysModules mm) → GFn l.prog w K mg base 11 fa fd ["_law_script"] (spD K ⟨TT, clsK K⟩ 1 p_law) := by
  have e := hfa.symm.trans (PySem.W.mg_of X G ha_law)
  cases e
  have F_is_among := fun_mk (st := s_is_among) hl_is_among hc_is_among hk_is_among
  have b_is_among := F_is_among.binds (ps := ["thing", "least", "most"]) fun _ _ _ _ _ _ us hl => match us, hl with | [_, _, _], _ => rfl
  have F_is_name := fun_mk (st := s_is_name) hl_is_name hc_is_name hk_is_name
  have b_is_name := F_is_name.binds (ps := ["thing"]) fun _ _ _ _ _ _ us hl => match us, hl with | [_], _ => rfl
  have F_is_row := fun_mk (st := s_is_row) hl_is_row hc_is_row hk_is_row
  have b_is_row := F_is_row.binds (ps := ["thing", "most"]) fun _ _ _ _ _ _ us hl => match us, hl with | [_, _], _ => rfl
  have F_names_of := fun_mk (st := s_names_of) hl_names_of hc_names_of hk_names_of
  have b_names_of := F_names_of.binds (ps := ["cells"]) fun _ _ _ _ _ _ us hl => match us, hl with | [_], _ => rfl
  have F_are_in_order := fun_mk (st := s_are_in_order) hl_are_in_order hc_are_in_order hk_are_in_order
  have b_are_in_order := F_are_in_order.binds (ps := ["cells", "thing"]) fun _ _ _ _ _ _ us hl => match us, hl with | [_, _], _ => rfl
  have F_are_terms := fun_mk (st := s_are_terms) hl_are_terms hc_are_terms hk_are_terms
  have b_are_terms := F_are_terms.binds (ps := ["cells", "thing"]) fun _ _ _ _ _ _ us hl => match us, hl with | [_, _], _ => rfl
  have F_is_test := fun_mk (st := s_is_test) hl_is_test hc_is_test hk_is_test
  have b_is_test := F_is_test.binds (ps := ["cells", "thing"]) fun _ _ _ _ _ _ us hl => match us, hl with | [_, _], _ => rfl
  have F_need_formula := fun_mk (st := s_need_formula) hl_need_formula hc_need_formula hk_need_formula
  have b_need_formula := F_need_formula.binds (ps := ["cells", "thing"]) fun _ _ _ _ _ _ us hl => match us, hl with | [_, _], _ => rfl
  have F_law_begun := fun_mk (st := s_law_begun) hl_law_begun hc_law_begun hk_law_begun
  have b_law_begun := F_law_begun.binds (ps := ["_law_script"]) fun _ _ _ _ _ _ us hl => match us, hl with | [_], _ => rfl
  have F_law_next := fun_mk (st := s_law_next) hl_law_next hc_law_next hk_law_next
  have b_law_next := F_law_next.binds (ps := ["_law_m", "_law_many"]) fun _ _ _ _ _ _ us hl => match us, hl with | [_, _], _ => rfl
  have F_law_names := fun_mk (st := s_law_names) hl_law_names hc_law_names hk_law_names
  have b_law_names := F_law_names.binds (ps := ["_law_m", "_law_many"]) fun _ _ _ _ _ _ us hl => match us, hl with | [_, _], _ => rfl
  have F_law_cells := fun_mk (st := s_law_cells) hl_law_cells hc_law_cells hk_law_cells
  have b_law_cells := F_law_cells.binds (ps := ["_law_m"]) fun _ _ _ _ _ _ us hl => match us, hl with | [_], _ => rfl
  have F_law_terms := fun_mk (st := s_law_terms) hl_law_terms hc_law_terms hk_law_terms
  have b_law_terms := F_law_terms.binds (ps := ["_law_m", "_law_names_here"]) fun _ _ _ _ _ _ us hl => match us, hl with | [_, _], _ => rfl
  have F_law_test := fun_mk (st := s_law_test) hl_law_test hc_law_test hk_law_test
  have b_law_test := F_law_test.binds (ps := ["_law_m", "_law_names_here"]) fun _ _ _ _ _ _ us hl => match us, hl with | [_, _], _ => rfl
  have F_law_formula := fun_mk (st := s_law_formula) hl_law_formula hc_law_formula hk_law_formula
  have b_law_formula := F_law_formula.binds (ps := ["_law_m", "_law_names_here"]) fun _ _ _ _ _ _ us hl => match us, hl with | [_, _], _ => rfl
  have F_law_odd := fun_mk (st := s_law_odd) hl_law_odd hc_law_odd hk_law_odd
  have b_law_odd := F_law_odd.binds (ps := ["_law_m"]) fun _ _ _ _ _ _ us hl => match us, hl with | [_], _ => rfl
  have F_law_bent := fun_mk (st := s_law_bent) hl_law_bent hc_law_bent hk_law_bent
  have b_law_bent := F_law_bent.binds (ps := ["_law_m", "_law_thing"]) fun _ _ _ _ _ _ us hl => match us, hl with | [_, _], _ => rfl
  have F_law_is_whole := fun_mk (st := s_law_is_whole) hl_law_is_whole hc_law_is_whole hk_law_is_whole
  have b_law_is_whole := F_law_is_whole.binds (ps := ["_law_thing", "_law_least", "_law_most"]) fun _ _ _ _ _ _ us hl => match us, hl with | [_, _, _], _ => rfl
  have F_law_in_order := fun_mk (st := s_law_in_order) hl_law_in_order hc_law_in_order hk_law_in_order
  have b_law_in_order := F_law_in_order.binds (ps := ["_law_names_here", "_law_thing"]) fun _ _ _ _ _ _ us hl => match us, hl with | [_, _], _ => rfl
  have F_law_are_terms := fun_mk (st := s_law_are_terms) hl_law_are_terms hc_law_are_terms hk_law_are_terms
  have b_law_are_terms := F_law_are_terms.binds (ps := ["_law_names_here", "_law_thing"]) fun _ _ _ _ _ _ us hl => match us, hl with | [_, _], _ => rfl
  have F_law_is_test := fun_mk (st := s_law_is_test) hl_law_is_test hc_law_is_test hk_law_is_test
  have b_law_is_test := F_law_is_test.binds (ps := ["_law_names_here", "_law_thing"]) fun _ _ _ _ _ _ us hl => match us, hl with | [_, _], _ => rfl
  have F_law_formula_fault := fun_mk (st := s_law_formula_fault) hl_law_formula_fault hc_law_formula_fault hk_law_formula_fault
  have b_law_formula_fault := F_law_formula_fault.binds (ps := ["_law_names_here", "_law_thing"]) fun _ _ _ _ _ _ us hl => match us, hl with | [_, _], _ => rfl
  have F_law_kinds := fun_mk (st := s_law_kinds) hl_law_kinds hc_law_kinds hk_law_kinds
  have b_law_kinds := F_law_kinds.binds (ps := ["_law_e"]) fun _ _ _ _ _ _ us hl => match us, hl with | [_], _ => rfl
  have F_law_told := fun_mk (st := s_law_told) hl_law_told hc_law_told hk_law_told
  have b_law_told := F_law_told.binds (ps := ["_law_call"]) fun _ _ _ _ _ _ us hl => match us, hl with | [_], _ => rfl
  have F_law_edge := fun_mk (st := s_law_edge) hl_law_edge hc_law_edge hk_law_edge
  have b_law_edge := F_law_edge.binds (ps := ["_law_m", "_law_names_here"]) fun _ _ _ _ _ _ us hl => match us, hl with | [_, _], _ => rfl
  have ht_law := tab_mk (st := s_law) ha_law hl_law t0_law t1_law t2_law
  have F_law := funC_mk (st := s_law) X G (PySem.W.mg_of X G ha_law) ht_law hl_law hc_law hk_law
  have b_law := F_law.fn.binds (ps := ["_law_script"]) fun _ _ _ _ _ _ us hl => match us, hl with | [_], _ => rfl
  have tu_law : ∀ p ∈ [(P_law, lamQ "law")], p.1 = P_law → p.2 = lamQ "law" := fun p hp _ => by rw [List.mem_singleton.mp hp]
  exact ⟨_, [(c_law, P_law)], [(P_law, lamQ "law")], fun p hp => by rw [List.mem_singleton.mp hp]; exact ⟨(TF _ _ _ hr_law ht_law).2, hp_law, (TF _ _ _ hr_law ht_law).1⟩, fun p hp => by rw [List.mem_singleton.mp hp]; simp, fun s v => .of_eq rfl, fun base _ _ ht hsm => g_law ⟨_, _, F_is_among, (PySem.W.mg_of X G ha_is_among), b_is_among, _, _, F_is_name, (PySem.W.mg_of X G ha_is_name), b_is_name, _, _, F_is_row, (PySem.W.mg_of X G ha_is_row), b_is_row, _, _, F_names_of, (PySem.W.mg_of X G ha_names_of), b_names_of, _, _, F_are_in_order, (PySem.W.mg_of X G ha_are_in_order), b_are_in_order, _, _, F_are_terms, (PySem.W.mg_of X G ha_are_terms), b_are_terms, _, _, F_is_test, (PySem.W.mg_of X G ha_is_test), b_is_test, _, _, F_need_formula, (PySem.W.mg_of X G ha_need_formula), b_need_formula, _, _, F_law_begun, (PySem.W.mg_of X G ha_law_begun), b_law_begun, _, _, F_law_next, (PySem.W.mg_of X G ha_law_next), b_law_next, _, _, F_law_names, (PySem.W.mg_of X G ha_law_names), b_law_names, _, _, F_law_cells, (PySem.W.mg_of X G ha_law_cells), b_law_cells, _, _, F_law_terms, (PySem.W.mg_of X G ha_law_terms), b_law_terms, _, _, F_law_test, (PySem.W.mg_of X G ha_law_test), b_law_test, _, _, F_law_formula, (PySem.W.mg_of X G ha_law_formula), b_law_formula, _, _, F_law_odd, (PySem.W.mg_of X G ha_law_odd), b_law_odd, _, _, F_law_bent, (PySem.W.mg_of X G ha_law_bent), b_law_bent, _, _, F_law_is_whole, (PySem.W.mg_of X G ha_law_is_whole), b_law_is_whole, _, _, F_law_in_order, (PySem.W.mg_of X G ha_law_in_order), b_law_in_order, _, _, F_law_are_terms, (PySem.W.mg_of X G ha_law_are_terms), b_law_are_terms, _, _, F_law_is_test, (PySem.W.mg_of X G ha_law_is_test), b_law_is_test, _, _, F_law_formula_fault, (PySem.W.mg_of X G ha_law_formula_fault), b_law_formula_fault, _, _, F_law_kinds, (PySem.W.mg_of X G ha_law_kinds), b_law_kinds, _, _, F_law_told, (PySem.W.mg_of X G ha_law_told), b_law_told, _, _, F_law_edge, (PySem.W.mg_of X G ha_law_edge), b_law_edge, _, _, _, _, F_law, (PySem.W.mg_of X G ha_law), b_law, (ht (c_law, P_law) (by simp)), (by simp), (tu_law), (PySem.W.mg_none_of X G hn_all), (PySem.W.mg_none_of X G hn_bool), (PySem.W.mg_none_of X G hn_enumerate), (PySem.W.mg_none_of X G hn_int), (PySem.W.mg_none_of X G hn_isinstance), (PySem.W.mg_none_of X G hn_len), (PySem.W.mg_none_of X G hn_list), (PySem.W.mg_none_of X G hn_min), (PySem.W.mg_none_of X G hn_range), (PySem.W.mg_none_of X G hn_repr), (PySem.W.mg_none_of X G hn_str), (PySem.W.mg_none_of X G hn_tuple), hsm, (eall_of hea), (mg_cls X G hm_BadCells), (mg_cls X G hm_BadFormula), (mg_cls X G hm_BadNode), (mg_cls X G hm_BadNumber), (mg_cls X G hm_BadPaper), (mg_cls X G hm_BadProgram), (mg_cls X G hm_BadStanding), (mg_cls X G hm_BadText), (mg_cls X G hm_BadWeaving), (mg_cls X G hm_KeptError), (mg_cls X G hm_Missing), (mg_cls X G hm_TooMany), (mg_cls X G hm_Twice), (ecls_of X G base_value is_BadFormula htop e1_BadFormula e2_BadFormula e3_BadFormula e4_BadFormula e5_BadFormula e6_BadFormula e7_BadFormula e8_BadFormula e9_BadFormula e10_BadFormula), ⟨_, PySem.W.mg_of X G hx_LETTERS⟩, ⟨_, PySem.W.mg_of X G hx_MOST_CASES⟩, ⟨_, PySem.W.mg_of X G hx_MOST_CELLS⟩, ⟨_, PySem.W.mg_of X G hx_MOST_FACTOR⟩, ⟨_, PySem.W.mg_of X G hx_MOST_NUMBER⟩, ⟨_, PySem.W.mg_of X G hx_MOST_TESTS⟩, ⟨_, PySem.W.mg_of X G hx_OPS, hy_OPS⟩⟩⟩
end Bk.K03

open PySem PySem.W PyProof.Rows
set_option maxHeartbeats 0 in
theorem PySem.Challenge.cw_bothkept_k03_whole_formulas_checked_holds : PySem.Challenge.rw_bothkept_k03_whole_formulas_checked.Holds := by
  w_on; o_law; k_head; (case hw => w_witness2)
  k_fill
  refine Bk.walk_ofD (cl := ?cl) (l := PySem.Challenge.rw_bothkept_k03_whole_formulas_checked) (n := 63) (k := 11) (x := "_law_script") (phi := Bk.K03.p_law) rfl (by decide) rfl ⟨rfl, by decide, by decide⟩ (fun w h Y => by first | exact PySem.W.km_in_of Y | exact PySem.W.kIn_of Y) (by kernel_rfl) ?F (fun ns R E hl h => ⟨ns, rfl, hl, rfl, h⟩)
  case F =>
    intro w mg fa h KX G hmg TF
    refine' Bk.K03.all_mk (l := PySem.Challenge.rw_bothkept_k03_whole_formulas_checked) KX G hmg TF ?ha_is_among ?hl_is_among ?hc_is_among ?hk_is_among ?ha_is_name ?hl_is_name ?hc_is_name ?hk_is_name ?ha_is_row ?hl_is_row ?hc_is_row ?hk_is_row ?ha_names_of ?hl_names_of ?hc_names_of ?hk_names_of ?ha_are_in_order ?hl_are_in_order ?hc_are_in_order ?hk_are_in_order ?ha_are_terms ?hl_are_terms ?hc_are_terms ?hk_are_terms ?ha_is_test ?hl_is_test ?hc_is_test ?hk_is_test ?ha_need_formula ?hl_need_formula ?hc_need_formula ?hk_need_formula ?ha_law_begun ?hl_law_begun ?hc_law_begun ?hk_law_begun ?ha_law_next ?hl_law_next ?hc_law_next ?hk_law_next ?ha_law_names ?hl_law_names ?hc_law_names ?hk_law_names ?ha_law_cells ?hl_law_cells ?hc_law_cells ?hk_law_cells ?ha_law_terms ?hl_law_terms ?hc_law_terms ?hk_law_terms ?ha_law_test ?hl_law_test ?hc_law_test ?hk_law_test ?ha_law_formula ?hl_law_formula ?hc_law_formula ?hk_law_formula ?ha_law_odd ?hl_law_odd ?hc_law_odd ?hk_law_odd ?ha_law_bent ?hl_law_bent ?hc_law_bent ?hk_law_bent ?ha_law_is_whole ?hl_law_is_whole ?hc_law_is_whole ?hk_law_is_whole ?ha_law_in_order ?hl_law_in_order ?hc_law_in_order ?hk_law_in_order ?ha_law_are_terms ?hl_law_are_terms ?hc_law_are_terms ?hk_law_are_terms ?ha_law_is_test ?hl_law_is_test ?hc_law_is_test ?hk_law_is_test ?ha_law_formula_fault ?hl_law_formula_fault ?hc_law_formula_fault ?hk_law_formula_fault ?ha_law_kinds ?hl_law_kinds ?hc_law_kinds ?hk_law_kinds ?ha_law_told ?hl_law_told ?hc_law_told ?hk_law_told ?ha_law_edge ?hl_law_edge ?hc_law_edge ?hk_law_edge ?ha_law ?hl_law ?hc_law ?hk_law ?t0_law ?t1_law ?t2_law ?hp_law ?hr_law ?hn_all ?hn_bool ?hn_enumerate ?hn_int ?hn_isinstance ?hn_len ?hn_list ?hn_min ?hn_range ?hn_repr ?hn_str ?hn_tuple ?hea ?hm_BadCells ?hm_BadFormula ?hm_BadNode ?hm_BadNumber ?hm_BadPaper ?hm_BadProgram ?hm_BadStanding ?hm_BadText ?hm_BadWeaving ?hm_KeptError ?hm_Missing ?hm_TooMany ?hm_Twice ?e1_BadFormula ?e2_BadFormula ?e3_BadFormula ?e4_BadFormula ?e5_BadFormula ?e6_BadFormula ?e7_BadFormula ?e8_BadFormula ?e9_BadFormula ?e10_BadFormula ?htop ?hx_LETTERS ?hx_MOST_CASES ?hx_MOST_CELLS ?hx_MOST_FACTOR ?hx_MOST_NUMBER ?hx_MOST_TESTS ?hx_OPS ?hy_OPS
    (case ha_is_among => k_is)
    (case hl_is_among => k_is)
    (case hc_is_among => k_is)
    (case hk_is_among => k_is)
    (case ha_is_name => k_is)
    (case hl_is_name => k_is)
    (case hc_is_name => k_is)
    (case hk_is_name => k_is)
    (case ha_is_row => k_is)
    (case hl_is_row => k_is)
    (case hc_is_row => k_is)
    (case hk_is_row => k_is)
    (case ha_names_of => k_is)
    (case hl_names_of => k_is)
    (case hc_names_of => k_is)
    (case hk_names_of => k_is)
    (case ha_are_in_order => k_is)
    (case hl_are_in_order => k_is)
    (case hc_are_in_order => k_is)
    (case hk_are_in_order => k_is)
    (case ha_are_terms => k_is)
    (case hl_are_terms => k_is)
    (case hc_are_terms => k_is)
    (case hk_are_terms => k_is)
    (case ha_is_test => k_is)
    (case hl_is_test => k_is)
    (case hc_is_test => k_is)
    (case hk_is_test => k_is)
    (case ha_need_formula => k_is)
    (case hl_need_formula => k_is)
    (case hc_need_formula => k_is)
    (case hk_need_formula => k_is)
    (case ha_law_begun => k_is)
    (case hl_law_begun => k_is)
    (case hc_law_begun => k_is)
    (case hk_law_begun => k_is)
    (case ha_law_next => k_is)
    (case hl_law_next => k_is)
    (case hc_law_next => k_is)
    (case hk_law_next => k_is)
    (case ha_law_names => k_is)
    (case hl_law_names => k_is)
    (case hc_law_names => k_is)
    (case hk_law_names => k_is)
    (case ha_law_cells => k_is)
    (case hl_law_cells => k_is)
    (case hc_law_cells => k_is)
    (case hk_law_cells => k_is)
    (case ha_law_terms => k_is)
    (case hl_law_terms => k_is)
    (case hc_law_terms => k_is)
    (case hk_law_terms => k_is)
    (case ha_law_test => k_is)
    (case hl_law_test => k_is)
    (case hc_law_test => k_is)
    (case hk_law_test => k_is)
    (case ha_law_formula => k_is)
    (case hl_law_formula => k_is)
    (case hc_law_formula => k_is)
    (case hk_law_formula => k_is)
    (case ha_law_odd => k_is)
    (case hl_law_odd => k_is)
    (case hc_law_odd => k_is)
    (case hk_law_odd => k_is)
    (case ha_law_bent => k_is)
    (case hl_law_bent => k_is)
    (case hc_law_bent => k_is)
    (case hk_law_bent => k_is)
    (case ha_law_is_whole => k_is)
    (case hl_law_is_whole => k_is)
    (case hc_law_is_whole => k_is)
    (case hk_law_is_whole => k_is)
    (case ha_law_in_order => k_is)
    (case hl_law_in_order => k_is)
    (case hc_law_in_order => k_is)
    (case hk_law_in_order => k_is)
    (case ha_law_are_terms => k_is)
    (case hl_law_are_terms => k_is)
    (case hc_law_are_terms => k_is)
    (case hk_law_are_terms => k_is)
    (case ha_law_is_test => k_is)
    (case hl_law_is_test => k_is)
    (case hc_law_is_test => k_is)
    (case hk_law_is_test => k_is)
    (case ha_law_formula_fault => k_is)
    (case hl_law_formula_fault => k_is)
    (case hc_law_formula_fault => k_is)
    (case hk_law_formula_fault => k_is)
    (case ha_law_kinds => k_is)
    (case hl_law_kinds => k_is)
    (case hc_law_kinds => k_is)
    (case hk_law_kinds => k_is)
    (case ha_law_told => k_is)
    (case hl_law_told => k_is)
    (case hc_law_told => k_is)
    (case hk_law_told => k_is)
    (case ha_law_edge => k_is)
    (case hl_law_edge => k_is)
    (case hc_law_edge => k_is)
    (case hk_law_edge => k_is)
    (case ha_law => k_is)
    (case hl_law => k_is)
    (case hc_law => k_is)
    (case hk_law => k_is)
    (case t0_law => rfl)
    (case t1_law => k_is)
    (case t2_law => rfl)
    (case hp_law => kernel_rfl)
    (case hr_law => kernel_rfl)
    (case hn_all => k_is)
    (case hn_bool => k_is)
    (case hn_enumerate => k_is)
    (case hn_int => k_is)
    (case hn_isinstance => k_is)
    (case hn_len => k_is)
    (case hn_list => k_is)
    (case hn_min => k_is)
    (case hn_range => k_is)
    (case hn_repr => k_is)
    (case hn_str => k_is)
    (case hn_tuple => k_is)
    (case hea => kernel_rfl)
    (case hm_BadCells => kernel_rfl)
    (case hm_BadFormula => kernel_rfl)
    (case hm_BadNode => kernel_rfl)
    (case hm_BadNumber => kernel_rfl)
    (case hm_BadPaper => kernel_rfl)
    (case hm_BadProgram => kernel_rfl)
    (case hm_BadStanding => kernel_rfl)
    (case hm_BadText => kernel_rfl)
    (case hm_BadWeaving => kernel_rfl)
    (case hm_KeptError => kernel_rfl)
    (case hm_Missing => kernel_rfl)
    (case hm_TooMany => kernel_rfl)
    (case hm_Twice => kernel_rfl)
    (case e1_BadFormula => k_is)
    (case e2_BadFormula => kernel_rfl)
    (case e3_BadFormula => k_is)
    (case e4_BadFormula => k_is)
    (case e5_BadFormula => k_is)
    (case e6_BadFormula => k_is)
    (case e7_BadFormula => k_is)
    (case e8_BadFormula => rfl)
    (case e9_BadFormula => rfl)
    (case e10_BadFormula => k_is)
    (case htop => rfl)
    (case hx_LETTERS => k_is)
    (case hx_MOST_CASES => k_is)
    (case hx_MOST_CELLS => k_is)
    (case hx_MOST_FACTOR => k_is)
    (case hx_MOST_NUMBER => k_is)
    (case hx_MOST_TESTS => k_is)
    (case hx_OPS => k_is)
    (case hy_OPS => kernel_rfl)
