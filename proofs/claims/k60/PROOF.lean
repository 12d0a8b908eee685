import PyProof.Rows.All
import Wide.All
import OpenK.AllK
import Wide.FinOn
import HandS.Words
import HandS.Exc
import HandS.Lambda
import KE.KDictKeyed
import HandS.Iter
import HandS.Zip
import HandS.TupAny
import HandS.TupMul
import HandS.Deep
import HandS.IsInst
import HandS.Conv
import PyProof.ReprRoads
import HandS.RaiseMore
import HandS.EndTab
import HandS.Dict
import HandS.Style
import PyProof.StrOps2
import PyProof.Rows.RegFStrParts
import PyProof.FitsInt
import PyProof.StrLaws
import KE.KNest
import KE.KDictPairs
import KE.GoesEnum
import KE.GoesMore
import KE.GoesZip
import KE.KExcSuper
import HandS.ExcInit
import HandS.ExcSuper
import HandS.ExcIs
import HandS.ExcField
import HandS.TryMany
import HandS.ExcValue
import HandS.TryOnly
import HandS.Rev
import KE.KRevSl
import KE.KSuper
import KE.KStateDown
import HandS.Head0
import HandS.Head1
import HandS.Head2
import HandS.HeadHook1
import KE.KIsAll
import HandS.Strs
import KE.KExcPX
import HandS.NoneIn
import HandS.Star
import HandS.MakeKwOnly
import HandS.ClsMeth
import HandS.Property
import HandS.DictComp
import HandS.SortInts
import OpenK.KMeth
import PyProof.ListStr
import KE.KEqDict
import PyProof.EqKinds
import PyProof.MinMaxWalk
import PyProof.WalkInts
import HandS.SortKw
import HandS.Codes
import KE.KIntText
import PyProof.ReprText
import PyProof.StrLawsRepr
import KE.SortData
import KE.DataCmp
import PySem.Challenge.RW_bothkept_k60_errors
set_option Elab.async false
set_option linter.all false
set_option maxRecDepth 100000
set_option maxHeartbeats 0
namespace Bk
open PySem PySem.Spec PyProof.Rows L2
/-- deep data: what never changes any more; rf: a thing by its address (or a class); exc: an exception that is held; obj: an instance; classes by their names; pln: a tuple of which it is known that it has no dict of its own; clo: a lambda at f, what it sees -/
inductive D where
  | non | bl (b : Bool) | int (i : Int) | str (x : Str) | lst (xs : List D) | tup (xs : List D) | dic (kvs : List (Key × D)) | rf (v : V) | scr (ns : List Int)
  | exc (n : Str) (fs : List (Str × D)) | obj (n : Str) (fs : List (Str × D)) | pln (xs : List D) | clo (f : Addr) (xs : List D) (vs : List V) | cls (n : Str) | kdc (kvs : List (D × D))
/-- what may still change -/
inductive MO where
  | ml (xs : List D) | mk (kvs : List (Key × D)) | mo (n : Str) (fs : List (Str × D)) | md (kvs : List (D × D))
/-- the tables of code objects, and where the classes stand -/
structure Tb where
  tabs : List (Addr × Str)
  cls : Str → Addr
  hs : NestedKey → Int
/-- at a: an exception of the class at C that was caught, its dict at dx -/
def ExcO (C dx a : Addr) : HO := .ext fun h => ∃ (oe : Obj) (vs : Array Value), h.get? a = some oe ∧ oe.cls = .ref C ∧ oe.dict = some dx ∧ oe.data = .fields vs
/-- one entry of a dict whose keys are tuples -/
def EntP (hs : NestedKey → Int) (x : NestedKey × Addr × V) (e : DictEntry) : Prop := e.hash = hs x.1 ∧ e.key = .ref x.2.1 ∧ RelV x.2.2 e.val
/-- at a: a dict whose keys are tuples; its keys, where they stand, the values -/
def KdO (hs : NestedKey → Int) (a : Addr) (ep : Nat) (xs : List (NestedKey × Addr × V)) : HO := .ext fun h => ∃ o es, h.get? a = some o ∧ o.ExactDict ∧ o.data = .dict es ep ∧ Paired (EntP hs) xs es.toList ∧ (xs.map (·.1)).Nodup ∧ (a == sysModules) = false ∧ xs.length ≤ sizeLine
theorem kd_ne_code {hs : NestedKey → Int} {a c : Addr} {ep : Nat} {xs : List (NestedKey × Addr × V)} {q : Str} : KdO hs a ep xs ≠ LamX.CodeO c q := fun z => by
  unfold KdO LamX.CodeO at z
  injection z with z
  have e := congrFun z ({ objs := Array.replicate (c + 1) { cls := .none, data := .fields #[.none, .str q 0] } } : Heap)
  have g : ∀ b o, ({ objs := Array.replicate (c + 1) { cls := .none, data := .fields #[.none, .str q 0] } } : Heap).get? b = some o → o.data = .fields #[.none, .str q 0] := fun b o h => by
    unfold Heap.get? at h
    dsimp only at h
    rw [Array.getElem?_replicate] at h
    by_cases hb : b < c + 1
    · rw [if_pos hb] at h
      cases h; rfl
    · rw [if_neg hb] at h
      cases h
  have gc : ∃ o, ({ objs := Array.replicate (c + 1) { cls := .none, data := .fields #[.none, .str q 0] } } : Heap).get? c = some o := by
    unfold Heap.get?
    dsimp only
    rw [Array.getElem?_replicate, if_pos (Nat.lt_succ_self c)]
    exact ⟨_, rfl⟩
  obtain ⟨o, ho⟩ := gc
  have r := (iff_of_eq e).mpr ⟨o, _, 0, ho, g c o ho, rfl⟩
  obtain ⟨o', es, h1, _, h3, _⟩ := r
  rw [g _ _ h1] at h3
  cases h3
mutual
/-- the key that data are -/
def keyN : D → Option NestedKey
  | .non => some .none
  | .bl b => some (.num (if b = true then 1 else 0))
  | .int i => some (.num i)
  | .str x => some (.text x)
  | .tup xs => (keysN xs).map .tup
  | .pln xs => (keysN xs).map .tup
  | .lst _ | .dic _ | .rf _ | .scr _ | .exc _ _ | .obj _ _ | .clo _ _ _ | .cls _ | .kdc _ => none
def keysN : List D → Option (List NestedKey)
  | [] => some []
  | x :: xs => match keyN x, keysN xs with
    | some k, some ks => some (k :: ks)
    | _, _ => none
end
/-- .. that a dict may have -/
def keyT (d : D) : Option NestedKey := match d with
  | .tup _ | .pln _ => match keyN d with
    | some k => if k.depth ≤ 8 then some k else none
    | none => none
  | _ => none
mutual
/-- v stands for d, by the frozen heap F -/
inductive Rep (K : PySem.W.Frag) (T : Tb) (F : Hp) : D → V → Prop
  | non : Rep K T F .non .non
  | bl (b : Bool) : Rep K T F (.bl b) (.bl b)
  | int (i : Int) : Rep K T F (.int i) (.int i)
  | str (x : Str) : Rep K T F (.str x) (.str x)
  | lst {a : Addr} {xs : List V} {ds : List D} : F a = some (.lst xs) → Reps K T F ds xs → Rep K T F (.lst ds) (.ref a)
  | tup {a : Addr} {xs : List V} {ds : List D} : SqT K F a xs → Reps K T F ds xs → Rep K T F (.tup ds) (.ref a)
  | dic {a : Addr} {ws : List (Key × V)} {kvs : List (Key × D)} : F a = some (.dK ws) → RepK K T F kvs ws → Rep K T F (.dic kvs) (.ref a)
  | rf (v : V) : Rep K T F (.rf v) v
  | scr {a : Addr} {ns : List Int} : SqL K F a (ns.map V.int) → Rep K T F (.scr ns) (.ref a)
  | exc {a dx : Addr} {n : Str} {vs : List (Str × V)} {fs : List (Str × D)} : F a = some (ExcO (T.cls n) dx a) → F dx = some (.xd vs) → RepF K T F fs vs → Rep K T F (.exc n fs) (.ref a)
  | obj {a dx : Addr} {n : Str} {vs : List (Str × V)} {fs : List (Str × D)} : F a = some (.ins (T.cls n) dx vs) → RepF K T F fs vs → Rep K T F (.obj n fs) (.ref a)
  | clo (f : Addr) {xs : List D} {vs : List V} : Reps K T F xs vs → Rep K T F (.clo f xs vs) (.ref f)
  | cls (n : Str) : Rep K T F (.cls n) (.ref (T.cls n))
  | pln {a : Addr} {o : Obj} {xs : List V} {ds : List D} : F a = some (.frz o (.tup xs)) → o.dict = none → Reps K T F ds xs → Rep K T F (.pln ds) (.ref a)
  | kdc {a : Addr} {ep : Nat} {xs : List (NestedKey × Addr × V)} {kvs : List (D × D)} : F a = some (KdO T.hs a ep xs) → RepD K T F kvs xs → Rep K T F (.kdc kvs) (.ref a)
inductive RepD (K : PySem.W.Frag) (T : Tb) (F : Hp) : List (D × D) → List (NestedKey × Addr × V) → Prop
  | nil : RepD K T F [] []
  | cons {kd d : D} {k : NestedKey} {b : Addr} {v : V} {kds : List (D × D)} {xs : List (NestedKey × Addr × V)} : keyT kd = some k → Rep K T F kd (.ref b) → Rep K T F d v → RepD K T F kds xs → RepD K T F ((kd, d) :: kds) ((k, b, v) :: xs)
inductive Reps (K : PySem.W.Frag) (T : Tb) (F : Hp) : List D → List V → Prop
  | nil : Reps K T F [] []
  | cons {d : D} {v : V} {ds : List D} {vs : List V} : Rep K T F d v → Reps K T F ds vs → Reps K T F (d :: ds) (v :: vs)
inductive RepK (K : PySem.W.Frag) (T : Tb) (F : Hp) : List (Key × D) → List (Key × V) → Prop
  | nil : RepK K T F [] []
  | cons {k : Key} {d : D} {v : V} {kds : List (Key × D)} {kvs : List (Key × V)} : Rep K T F d v → RepK K T F kds kvs → RepK K T F ((k, d) :: kds) ((k, v) :: kvs)
inductive RepF (K : PySem.W.Frag) (T : Tb) (F : Hp) : List (Str × D) → List (Str × V) → Prop
  | nil : RepF K T F [] []
  | cons {k : Str} {d : D} {v : V} {kds : List (Str × D)} {kvs : List (Str × V)} : Rep K T F d v → RepF K T F kds kvs → RepF K T F ((k, d) :: kds) ((k, v) :: kvs)
end
section
variable {K : PySem.W.Frag} {T : Tb} {F F' H : Hp}
theorem sqt_mono {a : Addr} {xs : List V} (e : Same F F') (h : SqT K F a xs) : SqT K F' a xs := by
  rcases h with (h | ⟨o, h⟩) | h
  · exact .inl (.inl (e _ _ h))
  · exact .inl (.inr ⟨o, e _ _ h⟩)
  · exact .inr h
mutual
theorem Rep.mono (e : Same F F') : ∀ {d : D} {v : V}, Rep K T F d v → Rep K T F' d v
  | _, _, .non => .non
  | _, _, .bl b => .bl b
  | _, _, .int i => .int i
  | _, _, .str x => .str x
  | _, _, .lst h r => .lst (e _ _ h) (Reps.mono e r)
  | _, _, .tup h r => .tup (sqt_mono e h) (Reps.mono e r)
  | _, _, .dic h r => .dic (e _ _ h) (RepK.mono e r)
  | _, _, .rf v => .rf v
  | _, _, .scr h => .scr (e.seq h)
  | _, _, .exc h h2 r => .exc (e _ _ h) (e _ _ h2) (RepF.mono e r)
  | _, _, .obj h r => .obj (e _ _ h) (RepF.mono e r)
  | _, _, .pln h hd r => .pln (e _ _ h) hd (Reps.mono e r)
  | _, _, .clo f r => .clo f (Reps.mono e r)
  | _, _, .cls n => .cls n
  | _, _, .kdc h r => .kdc (e _ _ h) (RepD.mono e r)
theorem RepD.mono (e : Same F F') : ∀ {ds : List (D × D)} {vs : List (NestedKey × Addr × V)}, RepD K T F ds vs → RepD K T F' ds vs
  | _, _, .nil => .nil
  | _, _, .cons hk hb h r => .cons hk (Rep.mono e hb) (Rep.mono e h) (RepD.mono e r)
theorem Reps.mono (e : Same F F') : ∀ {ds : List D} {vs : List V}, Reps K T F ds vs → Reps K T F' ds vs
  | _, _, .nil => .nil
  | _, _, .cons h r => .cons (Rep.mono e h) (Reps.mono e r)
theorem RepK.mono (e : Same F F') : ∀ {ds : List (Key × D)} {vs : List (Key × V)}, RepK K T F ds vs → RepK K T F' ds vs
  | _, _, .nil => .nil
  | _, _, .cons h r => .cons (Rep.mono e h) (RepK.mono e r)
theorem RepF.mono (e : Same F F') : ∀ {ds : List (Str × D)} {vs : List (Str × V)}, RepF K T F ds vs → RepF K T F' ds vs
  | _, _, .nil => .nil
  | _, _, .cons h r => .cons (Rep.mono e h) (RepF.mono e r)
end
theorem RepF.length : ∀ {ds : List (Str × D)} {vs : List (Str × V)}, RepF K T F ds vs → ds.length = vs.length
  | _, _, .nil => rfl
  | _, _, .cons _ r => congrArg (· + 1) (RepF.length r)
theorem RepF.look {f : Str} : ∀ {ds : List (Str × D)} {vs : List (Str × V)} {d : D}, RepF K T F ds vs → ds.lookup f = some d → ∃ v, vs.lookup f = some v ∧ Rep K T F d v
  | _, _, _, .nil, h => by cases h
  | _, _, d, .cons (k := k) h r, e => by
    rw [List.lookup_cons] at e ⊢
    cases hk : f == k with
    | true => rw [hk] at e; cases e; exact ⟨_, rfl, h⟩
    | false => rw [hk] at e; exact RepF.look r e
theorem Reps.length : ∀ {ds : List D} {vs : List V}, Reps K T F ds vs → ds.length = vs.length
  | _, _, .nil => rfl
  | _, _, .cons _ r => congrArg (· + 1) (Reps.length r)
theorem RepK.length : ∀ {ds : List (Key × D)} {vs : List (Key × V)}, RepK K T F ds vs → ds.length = vs.length
  | _, _, .nil => rfl
  | _, _, .cons _ r => congrArg (· + 1) (RepK.length r)
theorem Reps.getD : ∀ {ds : List D} {vs : List V} {i : Nat} {d : D}, Reps K T F ds vs → ds[i]? = some d → ∃ v, vs[i]? = some v ∧ Rep K T F d v
  | _, _, _, _, .nil, e => by simp at e
  | _, _, 0, _, .cons h _, e => by simp at e; subst e; exact ⟨_, rfl, h⟩
  | _, _, i + 1, v, .cons _ r, e => by
    obtain ⟨d, h1, h2⟩ := Reps.getD (i := i) (d := v) r (by simpa using e)
    exact ⟨d, by simpa using h1, h2⟩
theorem Reps.append : ∀ {ds es : List D} {vs ws : List V}, Reps K T F ds vs → Reps K T F es ws → Reps K T F (ds ++ es) (vs ++ ws)
  | _, _, _, _, .nil, s => s
  | _, _, _, _, .cons h r, s => .cons h (Reps.append r s)
theorem Reps.take : ∀ {ds : List D} {vs : List V} (n : Nat), Reps K T F ds vs → Reps K T F (ds.take n) (vs.take n)
  | _, _, 0, _ => .nil
  | _, _, _ + 1, .nil => .nil
  | _, _, n + 1, .cons h r => .cons h (Reps.take n r)
theorem Reps.drop : ∀ {ds : List D} {vs : List V} (n : Nat), Reps K T F ds vs → Reps K T F (ds.drop n) (vs.drop n)
  | _, _, 0, r => r
  | _, _, _ + 1, .nil => .nil
  | _, _, n + 1, .cons _ r => Reps.drop n r
theorem Reps.set {d : D} {v : V} (h : Rep K T F d v) : ∀ {ds : List D} {vs : List V} (i : Nat), Reps K T F ds vs → Reps K T F (ds.set i d) (vs.set i v)
  | _, _, _, .nil => .nil
  | _, _, 0, .cons _ r => .cons h r
  | _, _, i + 1, .cons q r => .cons q (Reps.set h i r)
theorem Reps.reverse : ∀ {ds : List D} {vs : List V}, Reps K T F ds vs → Reps K T F ds.reverse vs.reverse
  | _, _, .nil => .nil
  | _, _, .cons h r => by
    rw [List.reverse_cons, List.reverse_cons]
    exact (Reps.reverse r).append (.cons h .nil)
theorem Reps.one {d : D} {vs : List V} (h : Reps K T F [d] vs) : ∃ v, vs = [v] ∧ Rep K T F d v := by
  cases h with | cons a r => cases r; exact ⟨_, rfl, a⟩
theorem reps_ints : ∀ {ns : List Int} {vs : List V}, Reps K T F (ns.map D.int) vs → vs = ns.map V.int
  | [], _, .nil => rfl
  | n :: ns, _, .cons h r => by cases h; rw [List.map_cons, reps_ints r]
theorem reps_of_ints : ∀ {ns : List Int}, Reps K T F (ns.map D.int) (ns.map V.int)
  | [] => .nil
  | n :: ns => .cons (.int n) reps_of_ints
end
/-- the state: what may change, and the draws' dict (its address, how many draws it is good for) -/
structure S where
  mu : Addr → Option MO
  g : Option (Addr × Nat)
def S.put (s : S) (p : Addr) (o : MO) : S := { s with mu := fun b => if b = p then some o else s.mu b }
def S.del (s : S) (p : Addr) : S := { s with mu := fun b => if b = p then none else s.mu b }
/-- s has no more than t -/
structure Sub (s t : S) : Prop where
  mu : ∀ p o, s.mu p = some o → t.mu p = some o
  g : ∀ p n, s.g = some (p, n) → ∃ m, n ≤ m ∧ t.g = some (p, m)
theorem Sub.refl (s : S) : Sub s s := ⟨fun _ _ h => h, fun p n h => ⟨n, Nat.le_refl _, h⟩⟩
theorem Sub.trans {s t u : S} (a : Sub s t) (b : Sub t u) : Sub s u := ⟨fun p o h => b.mu p o (a.mu p o h), fun p n h => by
  obtain ⟨m, hm, e⟩ := a.g p n h
  obtain ⟨k, hk, e'⟩ := b.g p m e
  exact ⟨k, Nat.le_trans hm hk, e'⟩⟩
theorem Sub.put {s t : S} {p : Addr} {o : MO} (h : s.mu p = none) (a : Sub s t) : Sub s (t.put p o) := ⟨fun q u e => by
  show (if q = p then some o else t.mu q) = some u
  rw [if_neg (fun z => by rw [z, h] at e; cases e)]
  exact a.mu q u e, a.g⟩
def MRep (K : PySem.W.Frag) (T : Tb) (F : Hp) (p : Addr) : MO → Option HO → Prop
  | .ml ds, o => ∃ vs, o = some (.lst vs) ∧ Reps K T F ds vs
  | .mk kvs, o => ∃ ws, o = some (.dK ws) ∧ RepK K T F kvs ws
  | .mo n fs, o => ∃ dx vs, o = some (.ins (T.cls n) dx vs) ∧ RepF K T F fs vs
  | .md kvs, o => ∃ ep xs, o = some (KdO T.hs p ep xs) ∧ RepD K T F kvs xs
theorem MRep.mono {K : PySem.W.Frag} {T : Tb} {F F' : Hp} {p : Addr} (e : Same F F') : ∀ {o : MO} {h : Option HO}, MRep K T F p o h → MRep K T F' p o h
  | .ml _, _, ⟨vs, h, r⟩ => ⟨vs, h, r.mono e⟩
  | .mk _, _, ⟨vs, h, r⟩ => ⟨vs, h, r.mono e⟩
  | .mo _ _, _, ⟨dx, vs, h, r⟩ => ⟨dx, vs, h, r.mono e⟩
  | .md _, _, ⟨ep, xs, h, r⟩ => ⟨ep, xs, h, r.mono e⟩
/-- the draws' dict stands at p, good for n more draws -/
def GRep (K : PySem.W.Frag) (F : Hp) (mu : Addr → Option MO) (H : Hp) (p : Addr) (n : Nat) : Prop :=
  ∃ (l c : Addr) (t : Int) (cs ls : List Int), F p = none ∧ F l = none ∧ mu p = none ∧ mu l = none ∧ H p = some (.dK [(Sum.inr "cells", .ref c), (Sum.inr "left", .ref l), (Sum.inr "at", .int t)]) ∧
    F c = some (.lst (cs.map V.int)) ∧ H l = some (.lst (ls.map V.int)) ∧ 0 ≤ t ∧ t + n ≤ 2 ^ 60
structure Hold (K : PySem.W.Frag) (T : Tb) (F : Hp) (s : S) (H : Hp) : Prop where
  sub : Same F H
  mu : ∀ p o, s.mu p = some o → F p = none ∧ MRep K T F p o (H p)
  gen : ∀ p n, s.g = some (p, n) → GRep K F s.mu H p n
  tab : LamX.Tabs T.tabs H
  tabF : ∀ b ps, F b ≠ some (.tbl ps)
section
variable {K : PySem.W.Frag} {T : Tb} {F F' H H' : Hp} {s t : S}
theorem same_upd {H : Hp} {p : Addr} {o : HO} (h : H p = none) : Same H (upd H p o) := fun b x e => by
  rw [upd_ne (ne_of_none e h)]
  exact e
theorem Hold.fresh (h : Hold K T F s H) {p : Addr} (n : H p = none) : F p = none := h.sub.free n
theorem Hold.freshM (h : Hold K T F s H) {p : Addr} (n : H p = none) : s.mu p = none := by
  cases e : s.mu p with
  | none => rfl
  | some o =>
    obtain ⟨_, r⟩ := h.mu p o e
    cases o with
    | ml ds => obtain ⟨vs, q, _⟩ := r; rw [n] at q; cases q
    | mk ds => obtain ⟨vs, q, _⟩ := r; rw [n] at q; cases q
    | mo c fs => obtain ⟨dx, vs, q, _⟩ := r; rw [n] at q; cases q
    | md ds => obtain ⟨_, vs, q, _⟩ := r; rw [n] at q; cases q
theorem GRep.mono {mu mu' : Addr → Option MO} {p : Addr} {n m : Nat} (g : GRep K F mu H p n) (hm : m ≤ n) (hF : ∀ q, F q = none → mu q = none → H q ≠ none → F' q = none) (eF : Same F F') (hmu : ∀ q, mu q = none → H q ≠ none → mu' q = none) (eH : ∀ q o, H q = some o → F q = none → mu q = none → H' q = some o) : GRep K F' mu' H' p m := by
  obtain ⟨l, c, t, cs, ls, h1, h2, h3, h4, h5, h6, h7, h8, h9⟩ := g
  have n1 : H p ≠ none := by rw [h5]; exact fun z => by cases z
  have n2 : H l ≠ none := by rw [h7]; exact fun z => by cases z
  exact ⟨l, c, t, cs, ls, hF p h1 h3 n1, hF l h2 h4 n2, hmu p h3 n1, hmu l h4 n2, eH p _ h5 h1 h3, eF _ _ h6, eH l _ h7 h2 h4, h8, by omega⟩
/-- less is held -/
theorem Hold.weak (h : Hold K T F t H) (e : Sub s t) : Hold K T F s H where
  sub := h.sub
  mu := fun p o q => h.mu p o (e.mu p o q)
  gen := fun p n q => by
    obtain ⟨m, hm, q'⟩ := e.g p n q
    refine (h.gen p m q').mono hm (fun _ z _ _ => z) (Same.refl _) (fun q' z _ => ?_) fun q o z _ _ => z
    cases w : s.mu q' with
    | none => rfl
    | some o => rw [e.mu _ _ w] at z; cases z
  tab := h.tab
  tabF := h.tabF
theorem tabs_upd {T : List (Addr × Str)} {p : Addr} {o : HO} (h : LamX.Tabs T H) (hp : ∀ ps, H p ≠ some (.tbl ps)) (hc : ∀ c q, H p ≠ some (LamX.CodeO c q)) : LamX.Tabs T (upd H p o) := fun x hx => by
  obtain ⟨ps, h1, h2, h3⟩ := h x hx
  have ne : x.1 ≠ p := fun z => hp ps (by rw [← z]; exact h1)
  refine ⟨ps, by rw [upd_ne ne]; exact h1, h2, fun pos cv q => ?_⟩
  obtain ⟨c, e1, e2⟩ := h3 pos cv q
  refine ⟨c, e1, ?_⟩
  have ne2 : c ≠ p := fun z => hc c x.2 (by rw [← z]; exact e2)
  rw [upd_ne ne2]; exact e2
/-- a new object that will not change -/
theorem Hold.frz (h : Hold K T F s H) {p : Addr} {o : HO} (n : H p = none) (nt : ∀ ps, o ≠ .tbl ps := by intro _ z; cases z) : Hold K T (upd F p o) s (upd H p o) where
  sub := fun b x e => by
    by_cases z : b = p
    · subst z; rw [upd_same] at e ⊢; exact e
    · rw [upd_ne z] at e ⊢; exact h.sub b x e
  mu := fun q u e => by
    have ne : q ≠ p := fun z => by rw [z, h.freshM n] at e; cases e
    obtain ⟨a, b⟩ := h.mu q u e
    rw [upd_ne ne, upd_ne ne]
    exact ⟨a, b.mono (same_upd (h.fresh n))⟩
  gen := fun q m e => (h.gen q m e).mono (Nat.le_refl _) (fun b z _ w => by rw [upd_ne (fun y => w (by rw [y]; exact n))]; exact z) (same_upd (h.fresh n)) (fun _ z _ => z) fun b x z _ _ => same_upd n b x z
  tab := h.tab.ext (same_upd n)
  tabF := fun q ps e => by
    by_cases z : q = p
    · subst z; rw [upd_same] at e; exact nt ps (Option.some.inj e)
    · rw [upd_ne z] at e; exact h.tabF q ps e
/-- a new object that may change -/
theorem Hold.new (h : Hold K T F s H) {p : Addr} {o : HO} {m : MO} (n : H p = none) (r : MRep K T F p m (some o)) : Hold K T F (s.put p m) (upd H p o) where
  sub := h.sub.trans (same_upd n)
  mu := fun q u e => by
    by_cases z : q = p
    · subst z
      have e' : some m = some u := by
        have e2 : (if q = q then some m else s.mu q) = some u := e
        rwa [if_pos rfl] at e2
      cases e'
      rw [upd_same]
      exact ⟨h.fresh n, r⟩
    · have e2 : (if q = p then some m else s.mu q) = some u := e
      rw [if_neg z] at e2
      rw [upd_ne z]
      exact h.mu q u e2
  gen := fun q k e => (h.gen q k e).mono (Nat.le_refl _) (fun _ z _ _ => z) (Same.refl _) (fun b z w => by
    show (if b = p then some m else s.mu b) = none
    rw [if_neg (fun y => w (by rw [y]; exact n))]; exact z) fun b x z _ _ => same_upd n b x z
  tab := h.tab.ext (same_upd n)
  tabF := h.tabF
/-- an object changed -/
theorem Hold.wr (h : Hold K T F s H) {p : Addr} {o : HO} {m m0 : MO} (n : s.mu p = some m0) (r : MRep K T F p m (some o)) : Hold K T F (s.put p m) (upd H p o) := by
  obtain ⟨np, rp⟩ := h.mu p m0 n
  have hk : (∃ xs, H p = some (.lst xs)) ∨ (∃ kvs, H p = some (.dK kvs)) ∨ (∃ C dx fs, H p = some (.ins C dx fs)) ∨ ∃ ep xs, H p = some (KdO T.hs p ep xs) := by
    cases m0 with
    | ml ds => obtain ⟨vs, q, _⟩ := rp; exact .inl ⟨_, q⟩
    | mk ds => obtain ⟨vs, q, _⟩ := rp; exact .inr (.inl ⟨_, q⟩)
    | mo c fs => obtain ⟨dx, vs, q, _⟩ := rp; exact .inr (.inr (.inl ⟨_, _, _, q⟩))
    | md ds => obtain ⟨_, vs, q, _⟩ := rp; exact .inr (.inr (.inr ⟨_, _, q⟩))
  refine ⟨fun b x e => ?_, fun q u e => ?_, fun q k e => (h.gen q k e).mono (Nat.le_refl _) (fun _ z _ _ => z) (Same.refl _) (fun b z w => ?_) fun b x z z1 z2 => ?_, tabs_upd h.tab (fun ps z => ?_) (fun c q z => ?_), h.tabF⟩
  · rw [upd_ne (fun z => by rw [z, np] at e; cases e)]
    exact h.sub b x e
  · by_cases z : q = p
    · subst z
      have e' : some m = some u := by
        have e2 : (if q = q then some m else s.mu q) = some u := e
        rwa [if_pos rfl] at e2
      cases e'
      rw [upd_same]
      exact ⟨np, r⟩
    · have e2 : (if q = p then some m else s.mu q) = some u := e
      rw [if_neg z] at e2
      rw [upd_ne z]
      exact h.mu q u e2
  · show (if b = p then some m else s.mu b) = none
    rw [if_neg (fun y => by rw [y, n] at z; cases z)]; exact z
  · rw [upd_ne (fun y => by rw [y, n] at z2; cases z2)]; exact z
  · rcases hk with ⟨_, q⟩ | ⟨_, q⟩ | ⟨_, _, _, q⟩ | ⟨_, _, q⟩ <;> rw [q] at z <;> cases z
  · rcases hk with ⟨_, q'⟩ | ⟨_, q'⟩ | ⟨_, _, _, q'⟩ | ⟨_, _, q'⟩
    · rw [q'] at z; cases z
    · rw [q'] at z; cases z
    · rw [q'] at z; cases z
    · rw [q'] at z; exact kd_ne_code (Option.some.inj z)
/-- a list that will not change any more -/
theorem Hold.freeze (h : Hold K T F s H) {p : Addr} {ds : List D} (n : s.mu p = some (.ml ds)) : ∃ vs, Hold K T (upd F p (.lst vs)) (s.del p) H ∧ Rep K T (upd F p (.lst vs)) (.lst ds) (.ref p) := by
  obtain ⟨np, vs, hp, r⟩ := h.mu p _ n
  have sm : Same F (upd F p (.lst vs)) := same_upd np
  refine ⟨vs, ⟨fun b x e => ?_, fun q u e => ?_, fun q k e => (h.gen q k e).mono (Nat.le_refl _) (fun b z y w => ?_) sm (fun b z w => ?_) fun b x z _ _ => z, h.tab, fun q ps e => ?_⟩, .lst upd_same (r.mono sm)⟩
  · by_cases z : b = p
    · subst z; rw [upd_same] at e; rw [hp]; exact e
    · rw [upd_ne z] at e; exact h.sub b x e
  · have e2 : (if q = p then none else s.mu q) = some u := e
    by_cases z : q = p
    · rw [if_pos z] at e2; cases e2
    · rw [if_neg z] at e2
      rw [upd_ne z]
      obtain ⟨a, b⟩ := h.mu q u e2
      exact ⟨a, b.mono sm⟩
  · rw [upd_ne (fun x => by rw [x, n] at y; cases y)]; exact z
  · show (if b = p then none else s.mu b) = none
    split
    · rfl
    · exact z
  · by_cases z : q = p
    · subst z; rw [upd_same] at e; cases e
    · rw [upd_ne z] at e; exact h.tabF q ps e
end
def own (F : Hp) (s : S) (H : Hp) (p : Addr) : Prop := F p ≠ none ∨ s.mu p ≠ none ∨ ∃ q n, s.g = some (q, n) ∧ (p = q ∨ ∃ (kvs : List (Key × V)) (l : Addr), H q = some (.dK kvs) ∧ kvs.lookup (Sum.inr ("left" : Str)) = some (V.ref l) ∧ p = l)
/-- what stays: all but tables and exceptions' dicts -/
def Kp : HO → Prop
  | .tbl _ => False
  | .xd _ => False
  | _ => True
structure Ext (F : Hp) (s : S) (H : Hp) (F' : Hp) (s' : S) (H' : Hp) : Prop where
  same : Same F F'
  rest : ∀ p o, H p = some o → ¬ own F s H p → Kp o → H' p = some o ∧ ¬ own F' s' H' p
section
variable {K : PySem.W.Frag} {T : Tb} {F F' F1 H H' H1 : Hp} {s t s1 s' : S}
theorem Ext.refl : Ext F s H F s H := ⟨Same.refl F, fun _ _ h n _ => ⟨h, n⟩⟩
theorem Ext.trans (a : Ext F s H F1 s1 H1) (b : Ext F1 s1 H1 F' s' H') : Ext F s H F' s' H' := ⟨a.same.trans b.same, fun p o h n z => by
  obtain ⟨h1, n1⟩ := a.rest p o h n z
  exact b.rest p o h1 n1 z⟩
theorem own_sub (e : Sub s t) {p : Addr} (h : own F s H p) : own F t H p := by
  rcases h with h | h | ⟨q, n, h1, h2⟩
  · exact .inl h
  · refine .inr (.inl fun z => ?_)
    cases w : s.mu p with
    | none => exact h w
    | some o => rw [e.mu _ _ w] at z; cases z
  · obtain ⟨m, _, h3⟩ := e.g q n h1
    exact .inr (.inr ⟨q, m, h3, h2⟩)
theorem Ext.weak (a : Ext F s H F1 t H1) (e : Sub s1 t) : Ext F s H F1 s1 H1 := ⟨a.same, fun p o h n z => by
  obtain ⟨h1, n1⟩ := a.rest p o h n z
  exact ⟨h1, fun w => n1 (own_sub e w)⟩⟩
theorem Ext.frz (h : Hold K T F s H) {p : Addr} {o : HO} (n : H p = none) : Ext F s H (upd F p o) s (upd H p o) := ⟨same_upd (h.fresh n), fun q u e w z => by
  have ne : q ≠ p := fun y => by rw [y, n] at e; cases e
  refine ⟨by rw [upd_ne ne]; exact e, fun y => w ?_⟩
  rcases y with y | y | ⟨a, m, h1, h2⟩
  · rw [upd_ne ne] at y; exact .inl y
  · exact .inr (.inl y)
  · refine .inr (.inr ⟨a, m, h1, ?_⟩)
    rcases h2 with h2 | ⟨kvs, l, h3, h4, h5⟩
    · exact .inl h2
    · by_cases na : a = p
      · obtain ⟨_, _, _, _, _, _, _, _, _, g5, _⟩ := h.gen a m h1
        rw [na, n] at g5; cases g5
      · rw [upd_ne na] at h3
        exact .inr ⟨kvs, l, h3, h4, h5⟩⟩
theorem Ext.new (h : Hold K T F s H) {p : Addr} {o : HO} {m : MO} (n : H p = none) : Ext F s H F (s.put p m) (upd H p o) := ⟨Same.refl F, fun q u e w z => by
  have ne : q ≠ p := fun y => by rw [y, n] at e; cases e
  refine ⟨by rw [upd_ne ne]; exact e, fun y => w ?_⟩
  rcases y with y | y | ⟨a, k, h1, h2⟩
  · exact .inl y
  · have y' : (if q = p then some m else s.mu q) ≠ none := y
    rw [if_neg ne] at y'
    exact .inr (.inl y')
  · refine .inr (.inr ⟨a, k, h1, ?_⟩)
    rcases h2 with h2 | ⟨kvs, l, h3, h4, h5⟩
    · exact .inl h2
    · by_cases na : a = p
      · obtain ⟨_, _, _, _, _, _, _, _, _, g5, _⟩ := h.gen a k h1
        rw [na, n] at g5; cases g5
      · rw [upd_ne na] at h3
        exact .inr ⟨kvs, l, h3, h4, h5⟩⟩
theorem Ext.wr (h : Hold K T F s H) {p : Addr} {o : HO} {m m0 : MO} (n : s.mu p = some m0) : Ext F s H F (s.put p m) (upd H p o) := ⟨Same.refl F, fun q u e w z => by
  have ne : q ≠ p := fun y => w (.inr (.inl (by rw [y, n]; exact fun x => by cases x)))
  refine ⟨by rw [upd_ne ne]; exact e, fun y => w ?_⟩
  rcases y with y | y | ⟨a, k, h1, h2⟩
  · exact .inl y
  · have y' : (if q = p then some m else s.mu q) ≠ none := y
    rw [if_neg ne] at y'
    exact .inr (.inl y')
  · refine .inr (.inr ⟨a, k, h1, ?_⟩)
    rcases h2 with h2 | ⟨kvs, l, h3, h4, h5⟩
    · exact .inl h2
    · by_cases na : a = p
      · obtain ⟨_, _, _, _, _, _, _, g3, _, _, _⟩ := h.gen a k h1
        rw [na, n] at g3; cases g3
      · rw [upd_ne na] at h3
        exact .inr ⟨kvs, l, h3, h4, h5⟩⟩
theorem Ext.freeze {p : Addr} {m0 : MO} {o : HO} (np : F p = none) (n : s.mu p = some m0) : Ext F s H (upd F p o) (s.del p) H := ⟨same_upd np, fun q u e w z => by
  have ne : q ≠ p := fun y => w (.inr (.inl (by rw [y, n]; exact fun x => by cases x)))
  refine ⟨e, fun y => w ?_⟩
  rcases y with y | y | y
  · rw [upd_ne ne] at y; exact .inl y
  · have y' : (if q = p then none else s.mu q) ≠ none := y
    rw [if_neg ne] at y'
    exact .inr (.inl y')
  · exact .inr (.inr y)⟩
end
end Bk
namespace Bk
open PySem PySem.Spec PyProof.Rows L2
/-- an exception: its class's name and its fields -/
structure Ex where
  c : Str
  fs : List (Str × D)
def ExRep (K : PySem.W.Frag) (T : Tb) (F : Hp) (x : Ex) (cls : Value) (d : Option Addr) (H : Hp) : Prop := cls = .ref (T.cls x.c) ∧ ∃ dx vs, d = some dx ∧ H dx = some (.xd vs) ∧ RepF K T F x.fs vs
abbrev DEnv := List (Option D)
def nth : DEnv → Nat → Option D
  | [], _ => none
  | x :: _, 0 => x
  | _ :: r, n + 1 => nth r n
def dset : DEnv → Nat → Option D → DEnv
  | [], _, _ => []
  | _ :: r, 0, d => d :: r
  | x :: r, n + 1, d => x :: dset r n d
abbrev Q1 := D → S → Prop
abbrev XQ := Ex → S → Prop
abbrev Exp := DEnv → S → Q1 → XQ → Prop
abbrev Tst := DEnv → S → (Bool → S → Prop) → XQ → Prop
abbrev Arg := DEnv → S → (List D → S → Prop) → XQ → Prop
/-- the slots stand for the names' data -/
inductive ERep (K : PySem.W.Frag) (T : Tb) (F : Hp) : DEnv → L2.St → Prop
  | nil : ERep K T F [] []
  | none {x : Option V} {e : DEnv} {σ : L2.St} : ERep K T F e σ → ERep K T F (.none :: e) (x :: σ)
  | some {d : D} {v : V} {e : DEnv} {σ : L2.St} : Rep K T F d v → ERep K T F e σ → ERep K T F (.some d :: e) (.some v :: σ)
section
variable {K : PySem.W.Frag} {T : Tb} {F F' : Hp} {e : DEnv} {σ : L2.St}
theorem ERep.mono (h : Same F F') : ∀ {e : DEnv} {σ : L2.St}, ERep K T F e σ → ERep K T F' e σ
  | _, _, .nil => .nil
  | _, _, .none r => .none (ERep.mono h r)
  | _, _, .some d r => .some (d.mono h) (ERep.mono h r)
theorem ERep.at : ∀ {e : DEnv} {σ : L2.St} {i : Nat} {d : D}, ERep K T F e σ → nth e i = .some d → ∃ v, σ[i]? = .some (.some v) ∧ Rep K T F d v
  | _, _, _, _, .nil, h => by cases h
  | _, _, 0, _, .none _, h => by cases h
  | _, _, 0, _, .some r _, h => by cases h; exact ⟨_, rfl, r⟩
  | _, _, i + 1, d, .none r, h => by
    obtain ⟨v, e1, e2⟩ := ERep.at (i := i) (d := d) r h
    exact ⟨v, by simpa using e1, e2⟩
  | _, _, i + 1, d, .some _ r, h => by
    obtain ⟨v, e1, e2⟩ := ERep.at (i := i) (d := d) r h
    exact ⟨v, by simpa using e1, e2⟩
theorem ERep.set {d : D} {v : V} (rd : Rep K T F d v) : ∀ {e : DEnv} {σ : L2.St} (i : Nat), ERep K T F e σ → ERep K T F (dset e i (.some d)) (σ.set i (.some v))
  | _, _, _, .nil => .nil
  | _, _, 0, .none r => .some rd r
  | _, _, 0, .some _ r => .some rd r
  | _, _, i + 1, .none r => .none (ERep.set rd i r)
  | _, _, i + 1, .some q r => .some q (ERep.set rd i r)
theorem ERep.del {x : Option V} : ∀ {e : DEnv} {σ : L2.St} (i : Nat), ERep K T F e σ → ERep K T F (dset e i .none) (σ.set i x)
  | _, _, _, .nil => .nil
  | _, _, 0, .none r => .none r
  | _, _, 0, .some _ r => .none r
  | _, _, i + 1, .none r => .none (ERep.del i r)
  | _, _, i + 1, .some q r => .some q (ERep.del i r)
def dwipe (e : DEnv) : List Nat → DEnv
  | [] => e
  | v :: vs => dset (dwipe e vs) v none
theorem ERep.wipe (h : ERep K T F e σ) : ∀ vs : List Nat, ERep K T F (dwipe e vs) (L2.wipe σ vs)
  | [] => h
  | v :: vs => (ERep.wipe h vs).del v
/-- what the wish of D.ex says of the slots' wish W -/
def XOk (K : PySem.W.Frag) (T : Tb) (W : WX) (F : Hp) (s : S) (H : Hp) (E : XQ) (σ : L2.St) : Prop :=
  ∀ x s' cls dx H' F', E x s' → Ext F s H F' s' H' → Hold K T F' s' H' → ExRep K T F' x cls dx H' → W cls dx σ H'
theorem XOk.mono {W : WX} {E : XQ} {s s1 : S} {H H1 : Hp} (h : Ext F s H F' s1 H1) (x : XOk K T W F s H E σ) : XOk K T W F' s1 H1 E σ := fun a s' cls dx H' F2 q e => x a s' cls dx H' F2 q (h.trans e)
theorem xok_none {W : WX} {s : S} {H : Hp} : XOk K T W F s H (fun _ _ => False) σ := fun _ _ _ _ _ _ q => q.elim
/-- behind an expression -/
def Post (K : PySem.W.Frag) (T : Tb) (F : Hp) (s : S) (H : Hp) (R : Q1) (Q : VK) : Prop := ∀ d s' v H' F', R d s' → Ext F s H F' s' H' → Hold K T F' s' H' → Rep K T F' d v → Q v H'
theorem Post.mono {R : Q1} {Q : VK} {s s1 : S} {H H1 : Hp} (h : Ext F s H F' s1 H1) (x : Post K T F s H R Q) : Post K T F' s1 H1 R Q := fun d s' v H' F2 q e => x d s' v H' F2 q (h.trans e)
def liftE (K : PySem.W.Frag) (T : Tb) (W : WX) (f : Exp) : TE := fun σ H Q => ∃ (F : Hp) (e : DEnv) (s : S) (R : Q1) (E : XQ), ERep K T F e σ ∧ Hold K T F s H ∧ XOk K T W F s H E σ ∧ f e s R E ∧ Post K T F s H R Q
def liftT (K : PySem.W.Frag) (T : Tb) (W : WX) (f : Tst) : TT := fun σ H Q => ∃ (F : Hp) (e : DEnv) (s : S) (R : Bool → S → Prop) (E : XQ), ERep K T F e σ ∧ Hold K T F s H ∧ XOk K T W F s H E σ ∧ f e s R E ∧
  ∀ b s' H' F', R b s' → Ext F s H F' s' H' → Hold K T F' s' H' → Q b H'
def liftA (K : PySem.W.Frag) (T : Tb) (W : WX) (f : Arg) : TA := fun σ H Q => ∃ (F : Hp) (e : DEnv) (s : S) (R : List D → S → Prop) (E : XQ), ERep K T F e σ ∧ Hold K T F s H ∧ XOk K T W F s H E σ ∧ f e s R E ∧
  ∀ ds s' vs H' F', R ds s' → Ext F s H F' s' H' → Hold K T F' s' H' → Reps K T F' ds vs → Q vs H'
end
section
variable {X : Cx} {T : Tb} {W : WX}
structure DX (X : Cx) (T : Tb) (W : WX) (e : Expr) (f : Exp) : Prop where
  pe : PE X e (liftE X.K T W f)
structure DT (X : Cx) (T : Tb) (W : WX) (e : Expr) (f : Tst) : Prop where
  pt : PT X e (liftT X.K T W f)
structure DA (X : Cx) (T : Tb) (W : WX) (es : List Expr) (f : Arg) : Prop where
  pa : PA X es (liftA X.K T W f)
theorem pe_imp {e : Expr} {t t' : TE} (h : PE X e t) (k : ∀ σ H Q, t' σ H Q → t σ H Q) : PE X e t' := ⟨fun pins s σ H Q I q => h.run pins s σ H Q I (k σ H Q q)⟩
theorem pt_imp {e : Expr} {t t' : TT} (h : PT X e t) (k : ∀ σ H Q, t' σ H Q → t σ H Q) : PT X e t' := ⟨fun pins s σ H Q I q => h.run pins s σ H Q I (k σ H Q q)⟩
theorem pw_imp {e : Expr} {t t' : TT} (h : PW X e t) (k : ∀ σ H Q, t' σ H Q → t σ H Q) : PW X e t' := ⟨fun wh pins s σ H Q I q => h.run wh pins s σ H Q I (k σ H Q q)⟩
theorem pa_imp {es : List Expr} {t t' : TA} (h : PA X es t) (k : ∀ σ H Q, t' σ H Q → t σ H Q) : PA X es t' := ⟨fun pos pins s σ H Q I q => h.run pos pins s σ H Q I (k σ H Q q)⟩
theorem ps_imp {st : Stmt} {t t' : TS} (h : PS X st t) (k : ∀ D σ H, t' D σ H → t D σ H) : PS X st t' := ⟨fun pins s σ H D I q => h.run pins s σ H D I (k D σ H q)⟩
theorem pss_imp {st : List Stmt} {t t' : TS} (h : PSs X st t) (k : ∀ D σ H, t' D σ H → t D σ H) : PSs X st t' := ⟨fun pins s σ H D I q => h.run pins s σ H D I (k D σ H q)⟩
variable {e a b c : Expr} {f fa fb fc : Exp} {t ta tb : Tst} {pos : Pos}
def dVar (i : Nat) : Exp := fun e s R _ => match nth e i with
  | some d => R d s
  | none => False
def dC (d : D) : Exp := fun _ s R _ => R d s
theorem dx_of_var {i : Nat} (h : PE X e (tVar i)) : DX X T W e (dVar i) := ⟨pe_imp h fun σ H Q ⟨F, e, s, R, E, he, hh, hx, hf, post⟩ => by
  unfold dVar at hf
  split at hf
  · rename_i d hd
    obtain ⟨v, h1, h2⟩ := he.at hd
    exact ⟨v, h1, post d s v H F hf Ext.refl hh h2⟩
  · exact hf.elim⟩
theorem dv (i : Nat) {x : Str} (hN : X.N[i]? = some x := by rfl) (hv : Vis X.env.scope x := by first | exact Or.inl rfl | exact Or.inr (Or.inl rfl) | exact Or.inr (Or.inr rfl)) (hd : (x == ("__debug__" : Str)) = false := by decide)
    (hcd : (x == ("__classdict__" : Str)) = false := by decide) : DX X T W (.Name x pos) (dVar i) := dx_of_var (pe_var hN hv hd hcd)
theorem dx_of_c {v : V} {d : D} (h : PE X e (tC v)) (r : ∀ F, Rep X.K T F d v) : DX X T W e (dC d) := ⟨pe_imp h fun σ H Q ⟨F, e, s, R, E, he, hh, hx, hf, post⟩ =>
  show Q v H from post d s v H F hf Ext.refl hh (r F)⟩
theorem dx_int {i j} : DX X T W (.Constant (.int i) j pos) (dC (.int i)) := dx_of_c pe_int fun _ => .int i
theorem dx_bl {b j} : DX X T W (.Constant (.bool b) j pos) (dC (.bl b)) := dx_of_c pe_bl fun _ => .bl b
theorem dx_non {j} : DX X T W (.Constant .none j pos) (dC .non) := dx_of_c pe_non fun _ => .non
theorem dx_str {x j} : DX X T W (.Constant (.str x) j pos) (dC (.str x)) := dx_of_c pe_str fun _ => .str x
abbrev G1 := D → S → Q1 → Prop
abbrev G2 := D → D → S → Q1 → Prop
def OpD (X : Cx) (T : Tb) (f : Value → Value → Sem Value) (g : G2) : Prop :=
  ∃ r : R2, OpR X f r ∧ ∀ F s H x y vx vy R Q, Hold X.K T F s H → Rep X.K T F x vx → Rep X.K T F y vy → g x y s R → Post X.K T F s H R Q → r vx vy H Q
def UnD (X : Cx) (T : Tb) (f : Value → Sem Value) (g : G1) : Prop :=
  ∃ r : V → Hp → VK → Prop, UnR X f r ∧ ∀ F s H x vx R Q, Hold X.K T F s H → Rep X.K T F x vx → g x s R → Post X.K T F s H R Q → r vx H Q
def dOp (g : G2) (a b : Exp) : Exp := fun e s R E => a e s (fun x s1 => b e s1 (fun y s2 => g x y s2 R) E) E
def dUn (g : G1) (a : Exp) : Exp := fun e s R E => a e s (fun x s1 => g x s1 R) E
theorem lift2 {g : G2} {r : R2} (hr : ∀ F s H x y vx vy R Q, Hold X.K T F s H → Rep X.K T F x vx → Rep X.K T F y vy → g x y s R → Post X.K T F s H R Q → r vx vy H Q) {σ : L2.St} {H : Hp} {Q : VK} (h : liftE X.K T W (dOp g fa fb) σ H Q) :
    tOp r (liftE X.K T W fa) (liftE X.K T W fb) σ H Q := by
  obtain ⟨F, e, s, R, E, he, hh, hx, hf, post⟩ := h
  exact ⟨F, e, s, _, E, he, hh, hx, hf, fun x s1 vx H1 F1 q1 e1 hh1 rx => ⟨F1, e, s1, _, E, he.mono e1.same, hh1, hx.mono e1, q1, fun y s2 vy H2 F2 q2 e2 hh2 ry =>
    hr F2 s2 H2 x y vx vy R Q hh2 (rx.mono e2.same) ry q2 (post.mono (e1.trans e2))⟩⟩
theorem dx_bin {op : Operator} {g : G2} (ho : OpD X T (binaryOp op) g) (ha : DX X T W a fa) (hb : DX X T W b fb) : DX X T W (.BinOp a op b pos) (dOp g fa fb) := by
  obtain ⟨r, h1, h2⟩ := ho
  exact ⟨pe_imp (pe_op h1 ha.pe hb.pe) fun σ H Q h => lift2 h2 h⟩
theorem dx_cmp {op : CmpOp} {g : G2} (ho : OpD X T (compareOp op) g) (ha : DX X T W a fa) (hb : DX X T W b fb) (hm : behindInMarks op b = false := by first | exact nomark _ | rfl) : DX X T W (.Compare a [op] [b] pos) (dOp g fa fb) := by
  obtain ⟨r, h1, h2⟩ := ho
  exact ⟨pe_imp (pe_cmpR h1 ha.pe hb.pe hm) fun σ H Q h => lift2 h2 h⟩
theorem dx_un {op : UnaryOp} {g : G1} (ho : UnD X T (unaryOp op) g) (ha : DX X T W a fa) : DX X T W (.UnaryOp op a pos) (dUn g fa) := by
  obtain ⟨r, h1, h2⟩ := ho
  refine ⟨pe_imp (pe_un h1 ha.pe) fun σ H Q h => ?_⟩
  obtain ⟨F, e, s, R, E, he, hh, hx, hf, post⟩ := h
  exact ⟨F, e, s, _, E, he, hh, hx, hf, fun x s1 vx H1 F1 q1 e1 hh1 rx => h2 F1 s1 H1 x vx R Q hh1 rx q1 (post.mono e1)⟩
def dTst (f : Exp) : Tst := fun e s R E => f e s (fun d s' => match d with
  | .bl b => R b s'
  | _ => False) E
theorem dt_cmp {op : CmpOp} {g : G2} (ho : OpD X T (compareOp op) g) (ha : DX X T W a fa) (hb : DX X T W b fb) (hm : behindInMarks op b = false := by first | exact nomark _ | rfl) : DT X T W (.Compare a [op] [b] pos) (dTst (dOp g fa fb)) := by
  obtain ⟨r, h1, h2⟩ := ho
  refine ⟨pt_imp (pt_cmpR h1 ha.pe hb.pe hm) fun σ H Q h => ?_⟩
  obtain ⟨F, e, s, R, E, he, hh, hx, hf, post⟩ := h
  refine lift2 (W := W) (fa := fa) (fb := fb) h2 ⟨F, e, s, _, E, he, hh, hx, hf, fun x s1 vx H1 F1 q1 e1 hh1 rx => ?_⟩
  cases rx with
  | bl b => exact ⟨b, rfl, post b s1 H1 F1 q1 e1 hh1⟩
  | _ => exact q1.elim
def dAnd (t u : Tst) : Tst := fun e s R E => t e s (fun b s1 => if b = true then u e s1 R E else R false s1) E
structure DW (X : Cx) (T : Tb) (W : WX) (e : Expr) (f : Tst) : Prop where
  pw : PW X e (liftT X.K T W f)
theorem DW.dt (h : DW X T W e t) : DT X T W e t := ⟨h.pw.pt⟩
theorem dw_and1 (h : DT X T W a t) : DW X T W (.BoolOp .And [a] pos) t := ⟨pw_and1 h.pt⟩
variable {rest : List Expr}
theorem dw_and (ha : DT X T W a ta) (hb : DW X T W (.BoolOp .And (b :: rest) pos) tb) : DW X T W (.BoolOp .And (a :: b :: rest) pos) (dAnd ta tb) := ⟨pw_imp (pw_and ha.pt hb.pw) fun σ H Q h => by
  obtain ⟨F, e, s, R, E, he, hh, hx, hf, post⟩ := h
  refine ⟨F, e, s, _, E, he, hh, hx, hf, fun x s1 H1 F1 q1 e1 hh1 => ?_⟩
  cases x with
  | true => exact ⟨F1, e, s1, R, E, he.mono e1.same, hh1, hx.mono e1, q1, fun b s' H' F' q e2 => post b s' H' F' q (e1.trans e2)⟩
  | false => exact post false s1 H1 F1 q1 e1 hh1⟩
def dIf (t : Tst) (a b : Exp) : Exp := fun e s R E => t e s (fun k s1 => if k = true then a e s1 R E else b e s1 R E) E
theorem dx_if (hc : DT X T W c t) (ha : DX X T W a fa) (hb : DX X T W b fb) : DX X T W (.IfExp c a b pos) (dIf t fa fb) := ⟨pe_imp (pe_ifExp hc.pt ha.pe hb.pe) fun σ H Q h => by
  obtain ⟨F, e, s, R, E, he, hh, hx, hf, post⟩ := h
  refine ⟨F, e, s, _, E, he, hh, hx, hf, fun x s1 H1 F1 q1 e1 hh1 => ?_⟩
  cases x with
  | true => exact ⟨F1, e, s1, R, E, he.mono e1.same, hh1, hx.mono e1, q1, post.mono e1⟩
  | false => exact ⟨F1, e, s1, R, E, he.mono e1.same, hh1, hx.mono e1, q1, post.mono e1⟩⟩
def dNil : Arg := fun _ s R _ => R [] s
def dCons (f : Exp) (r : Arg) : Arg := fun e s R E => f e s (fun d s1 => r e s1 (fun ds s2 => R (d :: ds) s2) E) E
theorem da_nil : DA X T W [] dNil := ⟨pa_imp pa_nil fun σ H Q ⟨F, e, s, R, E, he, hh, hx, hf, post⟩ => post [] s [] H F hf Ext.refl hh .nil⟩
theorem da_cons {es : List Expr} {r : Arg} (ha : DX X T W a fa) (hr : DA X T W es r) (hs : starEach (a :: es) X.env = (false, eval a X.env) :: starEach es X.env := by rfl) : DA X T W (a :: es) (dCons fa r) := ⟨pa_imp (pa_cons ha.pe hr.pa hs) fun σ H Q h => by
  obtain ⟨F, e, s, R, E, he, hh, hx, hf, post⟩ := h
  exact ⟨F, e, s, _, E, he, hh, hx, hf, fun x s1 vx H1 F1 q1 e1 hh1 rx => ⟨F1, e, s1, _, E, he.mono e1.same, hh1, hx.mono e1, q1, fun ds s2 vs H2 F2 q2 e2 hh2 rs =>
    post (x :: ds) s2 (vx :: vs) H2 F2 q2 (e1.trans e2) hh2 (.cons (rx.mono e2.same) rs)⟩⟩⟩
def dTup (r : Arg) : Exp := fun e s R E => r e s (fun ds s1 => ds.length ≤ sizeLine ∧ R (.tup ds) s1) E
/-- a list that will not change -/
def dLst (r : Arg) : Exp := fun e s R E => r e s (fun ds s1 => ds.length ≤ sizeLine ∧ R (.lst ds) s1) E
/-- a list that may change -/
def dLstM (r : Arg) : Exp := fun e s R E => r e s (fun ds s1 => ds.length ≤ sizeLine ∧ ∀ p, s1.mu p = none → R (.rf (.ref p)) (s1.put p (.ml ds))) E
theorem Hold.frzT {K : PySem.W.Frag} {T : Tb} {F H : Hp} {s : S} (h : Hold K T F s H) {p : Addr} {ds : List D} {vs : List V} (n : H p = none) (r : Reps K T F ds vs) : Hold K T (upd F p (.tup vs)) s (upd H p (.tup vs)) ∧ Ext F s H (upd F p (.tup vs)) s (upd H p (.tup vs)) ∧ Rep K T (upd F p (.tup vs)) (.tup ds) (.ref p) := by
  have sm : Same F (upd F p (.tup vs)) := same_upd (h.fresh n)
  exact ⟨h.frz n, Ext.frz h n, .tup (.inl (.inl upd_same)) (r.mono sm)⟩
theorem Hold.frzL {K : PySem.W.Frag} {T : Tb} {F H : Hp} {s : S} (h : Hold K T F s H) {p : Addr} {ds : List D} {vs : List V} (n : H p = none) (r : Reps K T F ds vs) : Hold K T (upd F p (.lst vs)) s (upd H p (.lst vs)) ∧ Ext F s H (upd F p (.lst vs)) s (upd H p (.lst vs)) ∧ Rep K T (upd F p (.lst vs)) (.lst ds) (.ref p) := by
  have sm : Same F (upd F p (.lst vs)) := same_upd (h.fresh n)
  exact ⟨h.frz n, Ext.frz h n, .lst upd_same (r.mono sm)⟩
theorem dx_tup {es : List Expr} {r : Arg} {k} (h : DA X T W es r) : DX X T W (.Tuple es k pos) (dTup r) := ⟨pe_imp (pe_tup h.pa) fun σ H Q h => by
  obtain ⟨F, e, s, R, E, he, hh, hx, hf, post⟩ := h
  refine ⟨F, e, s, _, E, he, hh, hx, hf, fun ds s1 vs H1 F1 q1 e1 hh1 rs => ⟨by rw [← rs.length]; exact q1.1, fun p np => ?_⟩⟩
  obtain ⟨h1, h2, h3⟩ := hh1.frzT np rs
  exact post _ s1 _ _ _ q1.2 (e1.trans h2) h1 h3⟩
theorem dx_lst {es : List Expr} {r : Arg} (h : DA X T W es r) : DX X T W (.List es pos) (dLst r) := ⟨pe_imp (pe_lst h.pa) fun σ H Q h => by
  obtain ⟨F, e, s, R, E, he, hh, hx, hf, post⟩ := h
  refine ⟨F, e, s, _, E, he, hh, hx, hf, fun ds s1 vs H1 F1 q1 e1 hh1 rs => ⟨by rw [← rs.length]; exact q1.1, fun p np => ?_⟩⟩
  obtain ⟨h1, h2, h3⟩ := hh1.frzL np rs
  exact post _ s1 _ _ _ q1.2 (e1.trans h2) h1 h3⟩
theorem dx_lstM {es : List Expr} {r : Arg} (h : DA X T W es r) : DX X T W (.List es pos) (dLstM r) := ⟨pe_imp (pe_lst h.pa) fun σ H Q h => by
  obtain ⟨F, e, s, R, E, he, hh, hx, hf, post⟩ := h
  refine ⟨F, e, s, _, E, he, hh, hx, hf, fun ds s1 vs H1 F1 q1 e1 hh1 rs => ⟨by rw [← rs.length]; exact q1.1, fun p np => ?_⟩⟩
  exact post _ _ _ _ F1 (q1.2 p (hh1.freshM np)) (e1.trans (Ext.new hh1 np)) (hh1.new np ⟨vs, rfl, rs⟩) (.rf _)⟩
abbrev GA := List D → S → Q1 → Prop
def CallD (X : Cx) (T : Tb) (f : Value) (g : GA) : Prop :=
  ∃ r : List V → Hp → VK → Prop, CallR X f r ∧ ∀ F s H ds vs R Q, Hold X.K T F s H → Reps X.K T F ds vs → g ds s R → Post X.K T F s H R Q → r vs H Q
def dBlt (g : GA) (r : Arg) : Exp := fun e s R E => r e s (fun ds s1 => g ds s1 R) E
theorem dx_callB {x : Str} {id : String} {g : GA} {es : List Expr} {r : Arg} {p : Pos} (hr : CallD X T (.builtin id) g) (hg : Gl X x) (hm : X.mg x = none) (hv : bootBuiltins x = some (.builtin id)) (ha : DA X T W (a :: es) r)
    (hn : x ≠ "__name__" := by decide) (hd : (x == ("__debug__" : Str)) = false := by decide) (hs : starEach (a :: es) X.env = (false, eval a X.env) :: starEach es X.env := by rfl) (hpl : (backTo pos (starEach es X.env)).any (·.1) = false := by rfl) :
    DX X T W (.Call (.Name x p) (a :: es) [] pos) (dBlt g r) := by
  obtain ⟨r', h1, h2⟩ := hr
  refine ⟨pe_imp (pe_callB h1 hg hm hv ha.pa hn hd hs hpl) fun σ H Q h => ?_⟩
  obtain ⟨F, e, s, R, E, he, hh, hx, hf, post⟩ := h
  exact ⟨F, e, s, _, E, he, hh, hx, hf, fun ds s1 vs H1 F1 q1 e1 hh1 rs => h2 F1 s1 H1 ds vs R Q hh1 rs q1 (post.mono e1)⟩
theorem dx_callTy {x : Str} {id : String} {g : GA} {es : List Expr} {r : Arg} {p : Pos} (hr : CallD X T (.type id) g) (hg : Gl X x) (hm : X.mg x = none) (hv : bootBuiltins x = some (.type id)) (ha : DA X T W (a :: es) r)
    (hn : x ≠ "__name__" := by decide) (hd : (x == ("__debug__" : Str)) = false := by decide) (hs : starEach (a :: es) X.env = (false, eval a X.env) :: starEach es X.env := by rfl) (hpl : (backTo pos (starEach es X.env)).any (·.1) = false := by rfl) :
    DX X T W (.Call (.Name x p) (a :: es) [] pos) (dBlt g r) := by
  obtain ⟨r', h1, h2⟩ := hr
  refine ⟨pe_imp (pe_callTy h1 hg hm hv ha.pa hn hd hs hpl) fun σ H Q h => ?_⟩
  obtain ⟨F, e, s, R, E, he, hh, hx, hf, post⟩ := h
  exact ⟨F, e, s, _, E, he, hh, hx, hf, fun ds s1 vs H1 F1 q1 e1 hh1 rs => h2 F1 s1 H1 ds vs R Q hh1 rs q1 (post.mono e1)⟩
end
end Bk
namespace Bk
open PySem PySem.Spec PyProof.Rows L2
/-- what is wanted behind a statement -/
structure DEnds where
  nx : DEnv → S → Prop
  rt : D → S → Prop
  bk : DEnv → S → Prop := fun _ _ => False
  ct : DEnv → S → Prop := fun _ _ => False
  ex : Ex → DEnv → S → Prop := fun _ _ _ => False
abbrev DTS := DEnds → DEnv → S → Prop
structure PostS (K : PySem.W.Frag) (T : Tb) (W : WX) (F : Hp) (s : S) (H : Hp) (DD : DEnds) (Q : Ends) : Prop where
  nx : ∀ e' s' σ' H' F', DD.nx e' s' → Ext F s H F' s' H' → Hold K T F' s' H' → ERep K T F' e' σ' → Q.nx σ' H'
  rt : ∀ d s' v H' F', DD.rt d s' → Ext F s H F' s' H' → Hold K T F' s' H' → Rep K T F' d v → Q.rt v H'
  bk : ∀ e' s' σ' H' F', DD.bk e' s' → Ext F s H F' s' H' → Hold K T F' s' H' → ERep K T F' e' σ' → Q.bk σ' H'
  ct : ∀ e' s' σ' H' F', DD.ct e' s' → Ext F s H F' s' H' → Hold K T F' s' H' → ERep K T F' e' σ' → Q.ct σ' H'
  ex : ∀ x e' s' cls dx σ' H' F', DD.ex x e' s' → Ext F s H F' s' H' → Hold K T F' s' H' → ERep K T F' e' σ' → ExRep K T F' x cls dx H' → W cls dx σ' H'
def liftS (K : PySem.W.Frag) (T : Tb) (W : WX) (t : DTS) : TS := fun Q σ H => ∃ (F : Hp) (e : DEnv) (s : S) (DD : DEnds), ERep K T F e σ ∧ Hold K T F s H ∧ t DD e s ∧ PostS K T W F s H DD Q
section
variable {K : PySem.W.Frag} {T : Tb} {W : WX} {F F1 H H1 : Hp} {s s1 : S} {DD : DEnds} {Q : Ends} {e : DEnv} {σ : L2.St}
theorem PostS.mono (h : Ext F s H F1 s1 H1) (p : PostS K T W F s H DD Q) : PostS K T W F1 s1 H1 DD Q :=
  ⟨fun e' s' σ' H' F' q a => p.nx e' s' σ' H' F' q (h.trans a), fun d s' v H' F' q a => p.rt d s' v H' F' q (h.trans a), fun e' s' σ' H' F' q a => p.bk e' s' σ' H' F' q (h.trans a), fun e' s' σ' H' F' q a => p.ct e' s' σ' H' F' q (h.trans a),
    fun x e' s' cls dx σ' H' F' q a => p.ex x e' s' cls dx σ' H' F' q (h.trans a)⟩
/-- the wish of exceptions out of an expression -/
theorem PostS.xok (p : PostS K T W F s H DD Q) (he : ERep K T F e σ) : XOk K T W F s H (fun x s' => DD.ex x e s') σ := fun x s' cls dx H' F' q a hh r => p.ex x e s' cls dx σ H' F' q a hh (he.mono a.same) r
end
structure DS (X : Cx) (T : Tb) (W : WX) (st : Stmt) (t : DTS) : Prop where
  ps : PS X st (liftS X.K T W t)
structure DSs (X : Cx) (T : Tb) (W : WX) (st : List Stmt) (t : DTS) : Prop where
  pss : PSs X st (liftS X.K T W t)
/-- a target -/
abbrev DG := D → DEnv → S → (DEnv → S → Prop) → Prop
abbrev DGs := List D → DEnv → S → (DEnv → S → Prop) → Prop
def liftG (K : PySem.W.Frag) (T : Tb) (g : DG) : TG := fun v σ H Q => ∃ (F : Hp) (d : D) (e : DEnv) (s : S) (R : DEnv → S → Prop), Rep K T F d v ∧ ERep K T F e σ ∧ Hold K T F s H ∧ g d e s R ∧
  ∀ e' s' σ' H' F', R e' s' → Ext F s H F' s' H' → Hold K T F' s' H' → ERep K T F' e' σ' → Q σ' H'
def liftGs (K : PySem.W.Frag) (T : Tb) (g : DGs) : TGs := fun vs σ H Q => ∃ (F : Hp) (ds : List D) (e : DEnv) (s : S) (R : DEnv → S → Prop), Reps K T F ds vs ∧ ERep K T F e σ ∧ Hold K T F s H ∧ g ds e s R ∧
  ∀ e' s' σ' H' F', R e' s' → Ext F s H F' s' H' → Hold K T F' s' H' → ERep K T F' e' σ' → Q σ' H'
structure DPG (X : Cx) (T : Tb) (tg : Expr) (g : DG) : Prop where
  pg : PG X tg (liftG X.K T g)
structure DPGs (X : Cx) (T : Tb) (tg : List Expr) (g : DGs) : Prop where
  pgs : PGs X tg (liftGs X.K T g)
theorem pg_imp {X : Cx} {e : Expr} {t t' : TG} (h : PG X e t) (k : ∀ v σ H Q, t' v σ H Q → t v σ H Q) : PG X e t' := ⟨fun pins s σ H v u Q I r q => h.run pins s σ H v u Q I r (k v σ H Q q)⟩
theorem pgs_imp {X : Cx} {e : List Expr} {t t' : TGs} (h : PGs X e t) (k : ∀ v σ H Q, t' v σ H Q → t v σ H Q) : PGs X e t' := ⟨fun pins s σ H v u Q I r q => h.run pins s σ H v u Q I r (k v σ H Q q)⟩
section
variable {X : Cx} {T : Tb} {W : WX} {a b c e0 : Expr} {fa fb : Exp} {tt : Tst} {pos : Pos} {st : Stmt} {sts : List Stmt} {t u : DTS} {g : DG}
def gdName (i : Nat) : DG := fun d e s R => R (dset e i (some d)) s
theorem dg_name {i : Nat} {x : Str} (hN : X.N.Nodup) (hi : X.N[i]? = some x) (hx : Loc X.env.scope x) (hf : X.fn x = true ∨ X.env.scope.names.lookup x = some .local := by first | exact .inl rfl | exact .inr rfl | assumption) : DPG X T (.Name x pos) (gdName i) :=
  ⟨pg_imp (pg_name hN hi hx hf) fun v σ H Q ⟨F, d, e, s, R, rd, he, hh, hg, k⟩ => k _ s _ H F hg Ext.refl hh (he.set rd i)⟩
def gdNil : DGs := fun ds e s R => ds = [] ∧ R e s
def gdCons (g : DG) (r : DGs) : DGs := fun ds e s R => match ds with
  | d :: ds => g d e s (fun e1 s1 => r ds e1 s1 R)
  | [] => False
theorem dgs_nil : DPGs X T [] gdNil := ⟨pgs_imp pgs_nil fun vs σ H Q ⟨F, ds, e, s, R, rd, he, hh, hg, k⟩ => by
  obtain ⟨rfl, q⟩ := hg
  cases rd
  exact ⟨rfl, k e s σ H F q Ext.refl hh he⟩⟩
theorem dgs_cons {es : List Expr} {r : DGs} (h1 : DPG X T a g) (h2 : DPGs X T es r) (hs : (assignEach (a :: es) X.env).map (·.2) = assign a X.env :: (assignEach es X.env).map (·.2) := by rfl) : DPGs X T (a :: es) (gdCons g r) :=
  ⟨pgs_imp (pgs_cons h1.pg h2.pgs hs) fun vs σ H Q ⟨F, ds, e, s, R, rd, he, hh, hg, k⟩ => by
    cases rd with
    | nil => exact hg.elim
    | cons rd rs =>
      refine ⟨_, _, rfl, F, _, e, s, _, rd, he, hh, hg, fun e1 s1 σ1 H1 F1 q1 x1 hh1 he1 => ⟨F1, _, e1, s1, R, rs.mono x1.same, he1, hh1, q1, fun e2 s2 σ2 H2 F2 q2 x2 => k e2 s2 σ2 H2 F2 q2 (x1.trans x2)⟩⟩⟩
def gdTup (n : Nat) (r : DGs) : DG := fun d e s R => match d with
  | .tup ds => ds.length = n ∧ r ds e s R
  | _ => False
theorem dg_tup {es : List Expr} {k n : Nat} {r : DGs} (hc : X.calm = true) (h : DPGs X T es r) (hn : (assignEach es X.env).length = n := by rfl) (hst : (assignEach es X.env).findIdx? (·.1) = none := by rfl) : DPG X T (.Tuple es k pos) (gdTup n r) :=
  ⟨pg_imp (pg_tup hc h.pgs hn hst) fun v σ H Q ⟨F, d, e, s, R, rd, he, hh, hg, k⟩ => by
    cases rd with
    | tup hs rs => exact ⟨_, _, rfl, sqt_mono hh.sub hs, by rw [← rs.length]; exact hg.1, F, _, e, s, R, rs, he, hh, hg.2, k⟩
    | _ => exact hg.elim⟩
def dNext : DTS := fun D e s => D.nx e s
def dSeq (t u : DTS) : DTS := fun D e s => t { D with nx := u D } e s
theorem dss_nil : DSs X T W [] dNext := ⟨pss_imp pss_nil fun Q σ H ⟨F, e, s, D, he, hh, ht, p⟩ => p.nx e s σ H F ht Ext.refl hh he⟩
theorem dss_cons (h1 : DS X T W st t) (h2 : DSs X T W sts u) : DSs X T W (st :: sts) (dSeq t u) := ⟨pss_imp (pss_cons h1.ps h2.pss) fun Q σ H ⟨F, e, s, D, he, hh, ht, p⟩ =>
  ⟨F, e, s, _, he, hh, ht, ⟨fun e' s' σ' H' F' q x hh' he' => ⟨F', e', s', D, he', hh', q, p.mono x⟩, p.rt, p.bk, p.ct, p.ex⟩⟩⟩
theorem dss_one (h1 : DS X T W st t) : DSs X T W [st] t := ⟨pss_one h1.ps⟩
def dRet (f : Exp) : DTS := fun D e s => f e s D.rt (fun x s' => D.ex x e s')
theorem ds_ret (h : DX X T W a fa) : DS X T W (.Return (some a) pos) (dRet fa) := ⟨ps_imp (ps_ret h.pe) fun Q σ H ⟨F, e, s, D, he, hh, ht, p⟩ => ⟨F, e, s, _, _, he, hh, p.xok he, ht, fun d s' v H' F' q x hh' r => p.rt d s' v H' F' q x hh' r⟩⟩
def dIfS (c : Tst) (t u : DTS) : DTS := fun D e s => c e s (fun b s1 => if b = true then t D e s1 else u D e s1) (fun x s' => D.ex x e s')
theorem ds_if {st1 st2 : List Stmt} (hc : DT X T W c tt) (h1 : DSs X T W st1 t) (h2 : DSs X T W st2 u) : DS X T W (.If c st1 st2 pos) (dIfS tt t u) := ⟨ps_imp (ps_if hc.pt h1.pss h2.pss) fun Q σ H ⟨F, e, s, D, he, hh, ht, p⟩ => by
  refine ⟨F, e, s, _, _, he, hh, p.xok he, ht, fun b s' H' F' q x hh' => ?_⟩
  cases b with
  | true => exact ⟨F', e, s', D, he.mono x.same, hh', q, p.mono x⟩
  | false => exact ⟨F', e, s', D, he.mono x.same, hh', q, p.mono x⟩⟩
def dSet (i : Nat) (f : Exp) : DTS := fun D e s => f e s (fun d s1 => D.nx (dset e i (some d)) s1) (fun x s' => D.ex x e s')
theorem ds_set {i : Nat} {x : Str} {pos' : Pos} (hN : X.N.Nodup) (hi : X.N[i]? = some x) (hx : Loc X.env.scope x) (h : DX X T W a fa) (hs : swapsWith a (some (.Name x pos')) pos.line X.env = pure false := by rfl) (hf : X.fn x = true ∨ X.env.scope.names.lookup x = some .local := by first | exact .inl rfl | exact .inr rfl | assumption) :
    DS X T W (.Assign [.Name x pos'] a pos) (dSet i fa) := ⟨ps_imp (ps_set hN hi hx h.pe hs hf) fun Q σ H ⟨F, e, s, D, he, hh, ht, p⟩ =>
  ⟨F, e, s, _, _, he, hh, p.xok he, ht, fun d s1 v H1 F1 q x1 hh1 r => p.nx _ s1 _ H1 F1 q x1 hh1 ((he.mono x1.same).set r i)⟩⟩
/-- a, b = x, y -/
def dPar (i j : Nat) (r : Arg) : DTS := fun D e s => r e s (fun ds s1 => match ds with
  | [x, y] => D.nx (dset (dset e i (some x)) j (some y)) s1
  | _ => False) (fun x s' => D.ex x e s')
theorem ds_par {i j : Nat} {x y : Str} {r : Arg} {px py pt : Pos} {kt k2 pt2} (hc : X.calm = true) (hN : X.N.Nodup) (hi : X.N[i]? = some x) (hj : X.N[j]? = some y) (hij : i ≠ j)
    (hx : X.env.scope.names.lookup x = some .local) (hy : X.env.scope.names.lookup y = some .local) (ha : DA X T W [a, b] r)
    (hw : swappedStores [.Tuple [.Name x px, .Name y py] kt pt] (.Tuple [a, b] k2 pt2) X.env = pure (some [x, y]))
    (hs : swapsWithSole [.Tuple [.Name x px, .Name y py] kt pt] (.Tuple [a, b] k2 pt2) pos.line X.env = pure false := by rfl) :
    DS X T W (.Assign [.Tuple [.Name x px, .Name y py] kt pt] (.Tuple [a, b] k2 pt2) pos) (dPar i j r) := ⟨ps_imp (ps_par hc hN hi hj hij hx hy ha.pa hw hs) fun Q σ H ⟨F, e, s, D, he, hh, ht, p⟩ => by
  refine ⟨F, e, s, _, _, he, hh, p.xok he, ht, fun ds s1 vs H1 F1 q x1 hh1 rs => ?_⟩
  split at q
  · cases rs with | cons r1 rs => cases rs with | cons r2 rs =>
      cases rs
      exact ⟨_, _, rfl, p.nx _ s1 _ H1 F1 q x1 hh1 (((he.mono x1.same).set r1 i).set r2 j)⟩
  · exact q.elim⟩
/-- the iterator J goes through ds -/
def ItD (K : PySem.W.Frag) (T : Tb) (F : Hp) (J : It) (ds : List D) : Prop := ∀ F' s' H', Same F F' → Hold K T F' s' H' →
  (∀ i, ds.length ≤ i → J.stop i H') ∧ ∀ i d, ds[i]? = some d → J.go i H' ∧ ∀ v H2, J.yld i H' v H2 → ∃ F2, Ext F' s' H' F2 s' H2 ∧ Hold K T F2 s' H2 ∧ Rep K T F2 d v
theorem ItD.mono {K : PySem.W.Frag} {T : Tb} {F F1 : Hp} {J : It} {ds : List D} (h : ItD K T F J ds) (a : Same F F1) : ItD K T F1 J ds := fun F' s' H' b => h F' s' H' (a.trans b)
def liftI (K : PySem.W.Frag) (T : Tb) (W : WX) (f : Arg) : TI := fun σ H Q => ∃ (F : Hp) (e : DEnv) (s : S) (R : List D → S → Prop) (E : XQ), ERep K T F e σ ∧ Hold K T F s H ∧ XOk K T W F s H E σ ∧ f e s R E ∧
  ∀ ds s' J H' F', R ds s' → Ext F s H F' s' H' → Hold K T F' s' H' → ItD K T F' J ds → Q J H'
structure DI (X : Cx) (T : Tb) (W : WX) (tg iter : Expr) (f : Arg) : Prop where
  pi : PI X tg iter (liftI X.K T W f)
def dLoop (g : DG) (tb : DTS) (DD : DEnds) : List D → DEnv → S → Prop
  | [], e, s => DD.nx e s
  | d :: ds, e, s => g d e s (fun e1 s1 => tb { DD with nx := dLoop g tb DD ds, ct := dLoop g tb DD ds, bk := DD.nx } e1 s1)
def dFor (f : Arg) (g : DG) (tb : DTS) : DTS := fun DD e s => f e s (fun ds s1 => dLoop g tb DD ds e s1) (fun x s' => DD.ex x e s')
theorem ds_for {tg iter : Expr} {body : List Stmt} {f : Arg} (hp : PassesOwn (model X.prog X.w) X.A X.env X.xe) (hc : X.calm = true) (hi : DI X T W tg iter f) (hg : DPG X T tg g) (hb : DSs X T W body t)
    (hs : ∀ x, foldedSetIterable iter X.env x = pure x := by intro _; rfl) : DS X T W (.For tg iter body [] pos) (dFor f g t) := ⟨ps_imp (ps_for hp hc hi.pi hg.pg hb.pss hs) fun Q σ H ⟨F, e, s, D, he, hh, ht, p⟩ => by
  refine ⟨F, e, s, _, _, he, hh, p.xok he, ht, fun ds s1 J H1 F1 q1 x1 hh1 it => ?_⟩
  refine ⟨fun i m σ' H' => ∃ F' e' s', i ≤ ds.length ∧ m = ds.length - i ∧ ERep X.K T F' e' σ' ∧ Hold X.K T F' s' H' ∧ Ext F1 s1 H1 F' s' H' ∧ dLoop g t D (ds.drop i) e' s', ⟨_, F1, e, s1, Nat.zero_le _, rfl, he.mono x1.same, hh1, Ext.refl, q1⟩, ?_⟩
  rintro i m σ2 H2 ⟨F2, e2, s2, hle, rfl, he2, hh2, x2, q2⟩
  obtain ⟨hstop, hgo⟩ := it F2 s2 H2 x2.same hh2
  by_cases hi : i < ds.length
  · obtain ⟨go, hy⟩ := hgo i ds[i] (List.getElem?_eq_getElem hi)
    rw [List.drop_eq_getElem_cons hi] at q2
    refine .inr ⟨go, fun σ' H' => ∃ F' e' s', ERep X.K T F' e' σ' ∧ Hold X.K T F' s' H' ∧ Ext F1 s1 H1 F' s' H' ∧ dLoop g t D (ds.drop (i + 1)) e' s', fun σ' H' ⟨F', e', s', a1, a2, a3, a4⟩ => ⟨_, by omega, F', e', s', by omega, rfl, a1, a2, a3, a4⟩, fun v H3 y => ?_⟩
    obtain ⟨F3, x3, hh3, r3⟩ := hy v H3 y
    refine ⟨F3, _, e2, s2, _, r3, he2.mono x3.same, hh3, q2, fun e4 s4 σ4 H4 F4 q4 x4 hh4 he4 => ?_⟩
    have xx := (x2.trans x3).trans x4
    refine ⟨F4, e4, s4, _, he4, hh4, q4, ⟨fun e' s' σ' H' F' q x hh' he' => ⟨F', e', s', he', hh', xx.trans x, q⟩, fun d s' v H' F' q x => p.rt d s' v H' F' q (x1.trans (xx.trans x)), fun e' s' σ' H' F' q x => p.nx e' s' σ' H' F' q (x1.trans (xx.trans x)), fun e' s' σ' H' F' q x hh' he' => ⟨F', e', s', he', hh', xx.trans x, q⟩,
      fun x e' s' cls dx σ' H' F' q y => p.ex x e' s' cls dx σ' H' F' q (x1.trans (xx.trans y))⟩⟩
  · have hn : ds.length ≤ i := by omega
    rw [List.drop_eq_nil_of_le hn] at q2
    exact .inl ⟨hstop i hn, p.nx e2 s2 σ2 H2 F2 q2 (x1.trans x2) hh2 he2⟩⟩
def dWhile (c : Tst) (tb : DTS) : DTS := fun DD e s => ∃ I : Nat → DEnv → S → Prop, (∃ m, I m e s) ∧ ∀ m e s, I m e s → c e s (fun b s1 => if b = true then tb { DD with nx := fun e' s' => ∃ m', m' < m ∧ I m' e' s', ct := fun e' s' => ∃ m', m' < m ∧ I m' e' s', bk := DD.nx } e s1 else DD.nx e s1) (fun x s' => DD.ex x e s')
theorem ds_while {body : List Stmt} (hp : PassesOwn (model X.prog X.w) X.A X.env X.xe) (hc : DT X T W c tt) (hb : DSs X T W body t) : DS X T W (.While c body [] pos) (dWhile tt t) := ⟨ps_imp (ps_while hp hc.pt hb.pss) fun Q σ H ⟨F, e, s, D, he, hh, ⟨I, ⟨m0, w0⟩, turn⟩, p⟩ => by
  refine ⟨fun m σ' H' => ∃ F' e' s', ERep X.K T F' e' σ' ∧ Hold X.K T F' s' H' ∧ Ext F s H F' s' H' ∧ I m e' s', ⟨m0, F, e, s, he, hh, Ext.refl, w0⟩, ?_⟩
  rintro m σ1 H1 ⟨F1, e1, s1, he1, hh1, x1, w1⟩
  refine ⟨F1, e1, s1, _, _, he1, hh1, (p.mono x1).xok he1, turn m e1 s1 w1, fun b s2 H2 F2 q2 x2 hh2 => ?_⟩
  have xx := x1.trans x2
  cases b with
  | true =>
    refine ⟨fun σ' H' => ∃ F' e' s', ERep X.K T F' e' σ' ∧ Hold X.K T F' s' H' ∧ Ext F s H F' s' H' ∧ ∃ m', m' < m ∧ I m' e' s', fun σ' H' ⟨F', e', s', a1, a2, a3, m', hm, a4⟩ => ⟨m', hm, F', e', s', a1, a2, a3, a4⟩, ?_⟩
    exact ⟨F2, e1, s2, _, he1.mono x2.same, hh2, q2, ⟨fun e' s' σ' H' F' q x hh' he' => ⟨F', e', s', he', hh', xx.trans x, q⟩, fun d s' v H' F' q x => p.rt d s' v H' F' q (xx.trans x), fun e' s' σ' H' F' q x => p.nx e' s' σ' H' F' q (xx.trans x), fun e' s' σ' H' F' q x hh' he' => ⟨F', e', s', he', hh', xx.trans x, q⟩,
      fun x e' s' cls dx σ' H' F' q y => p.ex x e' s' cls dx σ' H' F' q (xx.trans y)⟩⟩
  | false => exact p.nx e1 s2 σ1 H2 F2 q2 xx hh2 (he1.mono x2.same)⟩
end
def dComp (g : DG) (t : Tst) (f : Exp) (e0 : DEnv) (R : List D → S → Prop) : List D → List D → S → Prop
  | [], acc, s => R acc s
  | d :: ds, acc, s => g d e0 s (fun e1 s1 => t e1 s1 (fun b s2 => if b = true then f e1 s2 (fun y s3 => dComp g t f e0 R ds (acc ++ [y]) s3) (fun _ _ => False) else dComp g t f e0 R ds acc s2) (fun _ _ => False))
def wF : WX := fun _ _ _ _ => False
end Bk
namespace Bk
open PySem PySem.Spec PyProof.Rows L2
section
variable {K : PySem.W.Frag} {T : Tb} {F : Hp}
theorem sql_frz {H : Hp} {a : Addr} {xs : List V} (h : F a = some (.lst xs)) (e : Same F H) : SqL K H a xs := .inl (.inl (e _ _ h))
theorem itd_list {a : Addr} {xs : List V} {ds : List D} (h : F a = some (.lst xs)) (r : Reps K T F ds xs) : ItD K T F (Itl K a) ds := fun F' s' H' e hh => by
  have hq : SqL K H' a xs := sql_frz (e _ _ h) hh.sub
  refine ⟨fun i hi => ⟨xs, hq, by rw [← r.length]; exact hi⟩, fun i d hd => ?_⟩
  obtain ⟨v, hv, rv⟩ := r.getD hd
  refine ⟨⟨xs, v, hq, hv⟩, fun v' H2 y => ?_⟩
  obtain ⟨rfl, y⟩ := y
  have e2 := y xs hq
  rw [hv] at e2; cases e2
  exact ⟨F', Ext.refl, hh, rv.mono e⟩
theorem itd_scr {a : Addr} {ns : List Int} (h : SqL K F a (ns.map V.int)) : ItD K T F (Itl K a) (ns.map D.int) := fun F' s' H' e hh => by
  have hq : SqL K H' a (ns.map V.int) := (e.trans hh.sub).seq h
  refine ⟨fun i hi => ⟨_, hq, by rw [List.length_map] at hi ⊢; exact hi⟩, fun i d hd => ?_⟩
  obtain ⟨v, hv, rv⟩ := (reps_of_ints (K := K) (F := F) (ns := ns)).getD hd
  refine ⟨⟨_, v, hq, hv⟩, fun v' H2 y => ?_⟩
  obtain ⟨rfl, y⟩ := y
  have e2 := y _ hq
  rw [hv] at e2; cases e2
  exact ⟨F', Ext.refl, hh, rv.mono e⟩
theorem itd_tup {a : Addr} {xs : List V} {ds : List D} (h : SqT K F a xs) (r : Reps K T F ds xs) : ItD K T F (Itt K a) ds := fun F' s' H' e hh => by
  have hq : SqT K H' a xs := sqt_mono hh.sub (sqt_mono e h)
  refine ⟨fun i hi => ⟨xs, hq, by rw [← r.length]; exact hi⟩, fun i d hd => ?_⟩
  obtain ⟨v, hv, rv⟩ := r.getD hd
  refine ⟨⟨xs, v, hq, hv⟩, fun v' H2 y => ?_⟩
  obtain ⟨rfl, y⟩ := y
  have e2 := y xs hq
  rw [hv] at e2; cases e2
  exact ⟨F', Ext.refl, hh, rv.mono e⟩
/-- a text's signs -/
def signs (x : Str) : List D := x.cps.toList.map fun c => .str ⟨#[c]⟩
theorem signs_len (x : Str) : (signs x).length = x.cps.size := by unfold signs; simp
theorem itd_str {x : Str} : ItD K T F (Its x) (signs x) := fun F' s' H' e hh => by
  refine ⟨fun i hi => by rw [signs_len] at hi; exact hi, fun i d hd => ?_⟩
  have hi : i < x.cps.size := by
    have := (List.getElem?_eq_some_iff.mp hd).1
    rwa [signs_len] at this
  refine ⟨hi, fun v' H2 y => ?_⟩
  obtain ⟨rfl, c, hc, rfl⟩ := y
  refine ⟨F', Ext.refl, hh, ?_⟩
  have e1 : d = .str ⟨#[c]⟩ := by
    unfold signs at hd
    rw [List.getElem?_map] at hd
    have : x.cps.toList[i]? = some c := by simpa using hc
    rw [this] at hd
    exact (Option.some.inj hd).symm
  rw [e1]
  exact .str _
def rangeD (lo : Int) (n : Nat) : List D := (List.range n).map fun (i : Nat) => D.int (lo + (i : Int))
theorem rangeD_len (lo : Int) (n : Nat) : (rangeD lo n).length = n := by unfold rangeD; simp
theorem itd_range {lo : Int} {n : Nat} : ItD K T F (Itr lo n) (rangeD lo n) := fun F' s' H' e hh => by
  refine ⟨fun i hi => by rw [rangeD_len] at hi; exact hi, fun i d hd => ?_⟩
  have hi : i < n := by
    have := (List.getElem?_eq_some_iff.mp hd).1
    rwa [rangeD_len] at this
  refine ⟨hi, fun v' H2 y => ?_⟩
  obtain ⟨rfl, rfl⟩ := y
  refine ⟨F', Ext.refl, hh, ?_⟩
  have e1 : d = .int (lo + i) := by
    unfold rangeD at hd
    rw [List.getElem?_map, List.getElem?_range hi] at hd
    exact (Option.some.inj hd).symm
  rw [e1]
  exact .int _
/-- pairs -/
def zipD (xs ys : List D) : List D := (xs.zip ys).map fun p => .tup [p.1, p.2]
theorem new_pair {F' H' : Hp} {s' : S} {t : Addr} {x y : D} {vx vy : V} (hh : Hold K T F' s' H') (nt : H' t = none) (rx : Rep K T F' x vx) (ry : Rep K T F' y vy) :
    ∃ F2, Ext F' s' H' F2 s' (upd H' t (.tup [vx, vy])) ∧ Hold K T F2 s' (upd H' t (.tup [vx, vy])) ∧ Rep K T F2 (.tup [x, y]) (.ref t) := by
  obtain ⟨a, b, c⟩ := hh.frzT nt (.cons rx (.cons ry .nil))
  exact ⟨_, b, a, c⟩
end
section
variable {X : Cx} {T : Tb} {W : WX} {a b tg : Expr} {fa fb : Exp} {pos : Pos}
/-- a list, a tuple, a text is walked -/
def dIter (f : Exp) : Arg := fun e s R E => f e s (fun d s1 => match d with
  | .lst ds => ds.length ≤ sizeLine → R ds s1
  | .tup ds => ds.length ≤ sizeLine → R ds s1
  | .str x => R (signs x) s1
  | .scr ns => ns.length ≤ sizeLine → R (ns.map D.int) s1
  | _ => False) E
theorem di_seq (h : DX X T W a fa) : DI X T W tg a (dIter fa) := by
  refine ⟨⟨fun pins s σ H R I hR => ?_⟩⟩
  obtain ⟨F, e, s0, RR, E, he, hh, hx, hf, k⟩ := hR
  refine thn (h.pe.run pins s σ H (fun v H1 => ∃ d s1 F1, Rep X.K T F1 d v ∧ Ext F s0 H F1 s1 H1 ∧ Hold X.K T F1 s1 H1 ∧ (match d with
    | .lst ds => ds.length ≤ sizeLine → RR ds s1
    | .tup ds => ds.length ≤ sizeLine → RR ds s1
    | .str x => RR (signs x) s1
    | .scr ns => ns.length ≤ sizeLine → RR (ns.map D.int) s1
    | _ => False)) I ⟨F, e, s0, _, E, he, hh, hx, hf, fun d s1 v H1 F1 q x hh1 r => ⟨d, s1, F1, r, x, hh1, q⟩⟩) fun u st1 ⟨v, H1, I1, r1, d, s1, F1, rd, x1, hh1, q⟩ => ?_
  cases rd with
  | lst hl rs =>
    rename_i ad xs ds
    cases r1
    obtain ⟨its, rv, p, hz⟩ := I1.list (sql_frz hl hh1.sub)
    refine wpAny_pyIter_list p.isList ?_
    refine ⟨st1.heap.objs.size, [st1.heap.objs.size], _, _, H1, rfl, I1.kept (t' := st1.toks) fun b o e => Heap.get?_push_of_some _ e, turn_list ad _, ⟨_, Heap.get?_push_size _ rfl, rfl, rfl⟩, fun b hb => ?_, k ds s1 _ H1 F1 (q (by rw [rs.length]; exact hz)) x1 hh1 (itd_list hl rs)⟩
    have e : b = st1.heap.objs.size := by simpa using hb
    subst e
    exact I1.fpOk (Nat.le_refl _) (I1.hok.fresh (Nat.le_refl _))
  | tup hl rs =>
    rename_i ad xs ds
    cases r1
    obtain ⟨its, rv, p, hz⟩ := I1.tuple (sqt_mono hh1.sub hl)
    refine wpAny_pyIter_tuple (show st1.heap.IsTuple ad its.toArray from p) ?_
    refine ⟨st1.heap.objs.size, [st1.heap.objs.size], _, _, H1, rfl, I1.kept (t' := st1.toks) fun b o e => Heap.get?_push_of_some _ e, turn_tuple ad _, ⟨_, Heap.get?_push_size _ rfl, rfl, rfl⟩, fun b hb => ?_, k ds s1 _ H1 F1 (q (by rw [rs.length]; exact hz)) x1 hh1 (itd_tup hl rs)⟩
    have e : b = st1.heap.objs.size := by simpa using hb
    subst e
    exact I1.fpOk (Nat.le_refl _) (I1.hok.fresh (Nat.le_refl _))
  | str x =>
    obtain ⟨t, rfl⟩ := r1
    cases hall : x.cps.all (· < 128)
    · exact wpAny_pyIter_wide hall (pi_one (tk := st1.toks) I1 _ (turn_str _ x t "str_iterator" (.inr rfl)) ⟨_, Heap.get?_push_size _ rfl, rfl, rfl⟩ (k _ s1 _ H1 F1 q x1 hh1 itd_str))
    · exact wpAny_pyIter_ascii hall (pi_one (tk := st1.toks) I1 _ (turn_str _ x t "str_ascii_iterator" (.inl rfl)) ⟨_, Heap.get?_push_size _ rfl, rfl, rfl⟩ (k _ s1 _ H1 F1 q x1 hh1 itd_str))
  | scr hl =>
    rename_i ad ns
    cases r1
    have hq := hh1.sub.seq hl
    obtain ⟨its, rv, p, hz⟩ := I1.list hq
    refine wpAny_pyIter_list p.isList ?_
    refine ⟨st1.heap.objs.size, [st1.heap.objs.size], _, _, H1, rfl, I1.kept (t' := st1.toks) fun b o e => Heap.get?_push_of_some _ e, turn_list ad _, ⟨_, Heap.get?_push_size _ rfl, rfl, rfl⟩, fun b hb => ?_, k _ s1 _ H1 F1 (q (by rwa [List.length_map] at hz)) x1 hh1 (itd_scr hl)⟩
    have e : b = st1.heap.objs.size := by simpa using hb
    subst e
    exact I1.fpOk (Nat.le_refl _) (I1.hok.fresh (Nat.le_refl _))
  | _ => exact q.elim
/-- range(n) -/
def dRng1 (r : Arg) : Arg := fun e s R E => r e s (fun ds s1 => match ds with
  | [.int j] => (-(2 ^ 62) ≤ j ∧ j < 2 ^ 62) ∧ R (rangeD 0 j.toNat) s1
  | _ => False) E
theorem di_range1 {r : Arg} {p : Pos} (hg : Gl X "range") (hm : X.mg "range" = none) (ha : DA X T W [a] r) (hs : starEach [a] X.env = [(false, eval a X.env)] := by rfl) : DI X T W tg (.Call (.Name "range" p) [a] [] pos) (dRng1 r) := by
  refine ⟨⟨fun pins s σ H R I hR => (pi_range1 hg hm ha.pa hs).run pins s σ H R I ?_⟩⟩
  obtain ⟨F, e, s0, RR, E, he, hh, hx, hf, k⟩ := hR
  refine ⟨F, e, s0, _, E, he, hh, hx, hf, fun ds s1 vs H1 F1 q x hh1 rs => ?_⟩
  split at q
  · cases rs with | cons r1 rs =>
      cases rs; cases r1
      exact ⟨_, rfl, q.1.1, q.1.2, k _ s1 _ H1 F1 q.2 x hh1 itd_range⟩
  · exact q.elim
end
end Bk
namespace Bk
open PySem PySem.Spec PyProof.Rows L2
theorem wipe_at (σ : L2.St) (j : Nat) : ∀ vs : List Nat, (wipe σ vs)[j]? = if j ∈ vs then σ[j]?.map (fun _ => none) else σ[j]?
  | [] => by simp [wipe]
  | v :: vs => by
    unfold wipe
    by_cases h : v = j
    · subst h
      rw [if_pos List.mem_cons_self]
      by_cases hv : v < (wipe σ vs).length
      · rw [List.getElem?_set_self hv]
        have : v < σ.length := by rwa [wipe_length] at hv
        rw [List.getElem?_eq_getElem this]; rfl
      · have hv' : ¬ v < σ.length := by rwa [wipe_length] at hv
        rw [List.getElem?_eq_none (by simpa using hv), List.getElem?_eq_none (by omega)]; rfl
    · rw [List.getElem?_set_ne h, wipe_at σ j vs]
      have : j ∈ v :: vs ↔ j ∈ vs := by
        simp only [List.mem_cons]
        exact ⟨fun q => q.elim (fun z => absurd z.symm h) id, .inr⟩
      by_cases q : j ∈ vs
      · rw [if_pos q, if_pos (this.mpr q)]
      · rw [if_neg q, if_neg (fun z => q (this.mp z))]
theorem wipe_set {σ : L2.St} {vs : List Nat} {i : Nat} {x : Option V} (h : i ∈ vs) : wipe (σ.set i x) vs = wipe σ vs := by
  apply List.ext_getElem?
  intro j
  rw [wipe_at, wipe_at]
  by_cases hj : j = i
  · subst hj
    rw [if_pos h, if_pos h]
    by_cases hl : j < σ.length
    · rw [List.getElem?_set_self hl, List.getElem?_eq_getElem hl]; rfl
    · rw [List.getElem?_eq_none (by simpa using hl), List.getElem?_eq_none (by omega)]
  · rw [List.getElem?_set_ne (Ne.symm hj)]
theorem wipe_wipe (σ : L2.St) (vs : List Nat) : wipe (wipe σ vs) vs = wipe σ vs := by
  apply List.ext_getElem?
  intro j
  rw [wipe_at, wipe_at]
  by_cases h : j ∈ vs
  · rw [if_pos h, if_pos h]
    cases σ[j]? <;> rfl
  · rw [if_neg h, if_neg h]
/-- a target that stores only at vs -/
def liftGo (K : PySem.W.Frag) (T : Tb) (vs : List Nat) (g : DG) : TG := fun v σ H Q => ∃ (F : Hp) (d : D) (e : DEnv) (s : S) (R : DEnv → S → Prop), Rep K T F d v ∧ ERep K T F e σ ∧ Hold K T F s H ∧ g d e s R ∧
  ∀ e' s' σ' H' F', R e' s' → Ext F s H F' s' H' → Hold K T F' s' H' → ERep K T F' e' σ' → wipe σ' vs = wipe σ vs → Q σ' H'
structure DPGo (X : Cx) (T : Tb) (vs : List Nat) (tg : Expr) (g : DG) : Prop where
  pg : PG X tg (liftGo X.K T vs g)
section
variable {X : Cx} {T : Tb} {W : WX} {a b c : Expr} {fa fb : Exp} {pos : Pos} {g : DG} {vs : List Nat}
theorem dgo_name {i : Nat} {x : Str} (hv : i ∈ vs) (hN : X.N.Nodup) (hi : X.N[i]? = some x) (hx : Loc X.env.scope x) (hf : X.fn x = true ∨ X.env.scope.names.lookup x = some .local := by first | exact .inl rfl | exact .inr rfl | assumption) : DPGo X T vs (.Name x pos) (gdName i) :=
  ⟨pg_imp (pg_name hN hi hx hf) fun v σ H Q ⟨F, d, e, s, R, rd, he, hh, hg, k⟩ => k _ s _ H F hg Ext.refl hh (he.set rd i) (wipe_set hv)⟩
structure DTs (X : Cx) (T : Tb) (W : WX) (ifs : List Expr) (f : Tst) : Prop where
  pts : PTs X ifs (liftT X.K T W f)
def dYes : Tst := fun _ s R _ => R true s
theorem dts_nil : DTs X T W [] dYes := ⟨⟨fun pins s σ H Q I ⟨F, e, s0, R, E, he, hh, hx, hf, k⟩ => pts_nil.run pins s σ H Q I (k true s0 H F hf Ext.refl hh)⟩⟩
theorem dts_one {t : Tst} (h : DT X T W a t) : DTs X T W [a] t := ⟨pts_one h.pt⟩
/-- one clause -/
def dLc (f0 : Arg) (g : DG) (t : Tst) (f : Exp) (vs : List Nat) : Exp := fun e s R E => f0 e s (fun ds s1 => ds.length ≤ sizeLine ∧ dComp g t f (dwipe e vs) (fun ys s2 => R (.lst ys) s2) ds [] s1) E
theorem Ext.keep {F s H F' s' H'} (x : Ext F s H F' s' H') {p : Addr} {xs : List V} (h : H p = some (.lst xs)) (n : ¬ own F s H p) : H' p = some (.lst xs) ∧ ¬ own F' s' H' p := x.rest p _ h n trivial
section
variable {K : PySem.W.Frag} {T : Tb} {F H F0 H0 : Hp} {s s0 : S} {p : Addr} {xs ys : List V}
theorem own_upd {o : HO} (n : ¬ own F s H p) {q : Addr} (w : own F s (upd H p o) q) : own F s H q := by
  rcases w with w | w | ⟨a, m, h1, h2⟩
  · exact .inl w
  · exact .inr (.inl w)
  · refine .inr (.inr ⟨a, m, h1, h2.imp id ?_⟩)
    rintro ⟨kvs, l, h3, h4, h5⟩
    have na : a ≠ p := fun z => by
      apply n
      rw [← z]
      exact .inr (.inr ⟨a, m, h1, .inl rfl⟩)
    rw [upd_ne na] at h3
    exact ⟨kvs, l, h3, h4, h5⟩
theorem notF (n : ¬ own F s H p) : F p = none := by
  cases e : F p with
  | none => rfl
  | some o => exact absurd (.inl (by rw [e]; exact fun z => by cases z)) n
theorem notM (n : ¬ own F s H p) : s.mu p = none := by
  cases e : s.mu p with
  | none => rfl
  | some o => exact absurd (.inr (.inl (by rw [e]; exact fun z => by cases z))) n
/-- a tracked list that is nobody's grows -/
theorem Hold.grow (hh : Hold K T F s H) (h : H p = some (.lst xs)) (n : ¬ own F s H p) : Hold K T F s (upd H p (.lst ys)) ∧ ¬ own F s (upd H p (.lst ys)) p := by
  refine ⟨⟨fun b x e => ?_, fun q u e => ?_, fun q k e => ?_, tabs_upd hh.tab (fun ps z => by rw [h] at z; cases z) (fun c q z => by rw [h] at z; cases z), hh.tabF⟩, fun w => n (own_upd n w)⟩
  · rw [upd_ne (fun z => by rw [z, notF n] at e; cases e)]; exact hh.sub b x e
  · rw [upd_ne (fun z => by rw [z, notM n] at e; cases e)]; exact hh.mu q u e
  · obtain ⟨l, c, t, cs, ls, g1, g2, g3, g4, g5, g6, g7, g8, g9⟩ := hh.gen q k e
    have nq : q ≠ p := fun z => n (by rw [← z]; exact .inr (.inr ⟨q, k, e, .inl rfl⟩))
    have nl : l ≠ p := fun z => n (by rw [← z]; exact .inr (.inr ⟨q, k, e, .inr ⟨_, l, g5, rfl, rfl⟩⟩))
    exact ⟨l, c, t, cs, ls, g1, g2, g3, g4, by rw [upd_ne nq]; exact g5, g6, by rw [upd_ne nl]; exact g7, g8, g9⟩
theorem Ext.grow (x : Ext F0 s0 H0 F s H) (n0 : H0 p = none) (n : ¬ own F s H p) {o : HO} : Ext F0 s0 H0 F s (upd H p o) := ⟨x.same, fun q u e w z => by
  obtain ⟨h1, n1⟩ := x.rest q u e w z
  have ne : q ≠ p := fun y => by rw [y, n0] at e; cases e
  exact ⟨by rw [upd_ne ne]; exact h1, fun y => n1 (own_upd n y)⟩⟩
theorem Hold.adopt (hh : Hold K T F s H) (h : H p = some (.lst xs)) (n : ¬ own F s H p) : Hold K T (upd F p (.lst xs)) s H := by
  have sm : Same F (upd F p (.lst xs)) := same_upd (notF n)
  refine ⟨fun b x e => ?_, fun q u e => ?_, fun q k e => ?_, hh.tab, fun q ps e => ?_⟩
  · by_cases z : b = p
    · subst z; rw [upd_same] at e; rw [h]; exact e
    · rw [upd_ne z] at e; exact hh.sub b x e
  · obtain ⟨h1, h2⟩ := hh.mu q u e
    rw [upd_ne (fun z => by rw [z, notM n] at e; cases e)]
    exact ⟨h1, h2.mono sm⟩
  · obtain ⟨l, c, t, cs, ls, g1, g2, g3, g4, g5, g6, g7, g8, g9⟩ := hh.gen q k e
    have nq : q ≠ p := fun z => n (by rw [← z]; exact .inr (.inr ⟨q, k, e, .inl rfl⟩))
    have nl : l ≠ p := fun z => n (by rw [← z]; exact .inr (.inr ⟨q, k, e, .inr ⟨_, l, g5, rfl, rfl⟩⟩))
    exact ⟨l, c, t, cs, ls, by rw [upd_ne nq]; exact g1, by rw [upd_ne nl]; exact g2, g3, g4, g5, sm _ _ g6, g7, g8, g9⟩
  · by_cases z : q = p
    · subst z; rw [upd_same] at e; cases e
    · rw [upd_ne z] at e; exact hh.tabF q ps e
theorem Ext.adopt (x : Ext F0 s0 H0 F s H) (f0 : F0 p = none) (n0 : H0 p = none) (n : ¬ own F s H p) {o : HO} : Ext F0 s0 H0 (upd F p o) s H := ⟨x.same.trans (same_upd (notF n)), fun q u e w z => by
  obtain ⟨h1, n1⟩ := x.rest q u e w z
  have ne : q ≠ p := fun y => by rw [y, n0] at e; cases e
  refine ⟨h1, fun y => n1 ?_⟩
  rcases y with y | y
  · rw [upd_ne ne] at y; exact .inl y
  · exact .inr y⟩
/-- the new list of a comprehension, at its start -/
theorem Hold.begin (hh : Hold K T F s H) (n : H p = none) : Hold K T F s (upd H p (.lst [])) ∧ Ext F s H F s (upd H p (.lst [])) ∧ ¬ own F s (upd H p (.lst [])) p := by
  have no : ¬ own F s H p := fun w => by
    rcases w with w | w | ⟨a, m, h1, h2⟩
    · exact w (hh.fresh n)
    · exact w (hh.freshM n)
    · obtain ⟨l, c, t, cs, ls, g1, g2, g3, g4, g5, g6, g7, g8, g9⟩ := hh.gen a m h1
      rcases h2 with h2 | ⟨kvs, l', h3, h4, h5⟩
      · rw [← h2, n] at g5; cases g5
      · rw [g5] at h3; cases h3
        have e : some (V.ref l) = some (V.ref l') := h4
        cases e
        rw [← h5, n] at g7; cases g7
  refine ⟨⟨hh.sub.trans (same_upd n), fun q u e => ?_, fun q k e => ?_, hh.tab.ext (same_upd n), hh.tabF⟩, (Ext.refl).grow n no, fun w => no (own_upd no w)⟩
  · obtain ⟨h1, h2⟩ := hh.mu q u e
    rw [upd_ne (fun z => by rw [z, hh.freshM n] at e; cases e)]
    exact ⟨h1, h2⟩
  · obtain ⟨l, c, t, cs, ls, g1, g2, g3, g4, g5, g6, g7, g8, g9⟩ := hh.gen q k e
    exact ⟨l, c, t, cs, ls, g1, g2, g3, g4, same_upd n _ _ g5, g6, same_upd n _ _ g7, g8, g9⟩
end
abbrev BlkAll (X : Cx) (scope : Scope) (P : Cx → Prop) : Prop := ∀ (s : Shared) (H : Hp) (C : Addr) (cl : List (Str × Addr)) (fp : List Addr), P (X.blk s H scope (compEnvC scope cl C X.env) fp)
theorem lc_lift {f0 : Arg} {t : Tst} {f : Exp} {σ : L2.St} {H : Hp} {Q : VK} (h : liftE X.K T W (dLc f0 g t f vs) σ H Q) : tLc (liftI X.K T W f0) (liftGo X.K T vs g) (liftT X.K T wF t) (liftE X.K T wF f) vs σ H Q := by
  obtain ⟨F, e, s, R, E, he, hh, hx, hf, post⟩ := h
  refine ⟨F, e, s, _, E, he, hh, hx, hf, fun ds s1 J H1 F1 q1 x1 hh1 it Dl nD => ?_⟩
  obtain ⟨hz, q1⟩ := q1
  obtain ⟨hb, xb, ob⟩ := hh1.begin nD
  refine ⟨fun i m H' => ∃ F' s' acc vsx, i ≤ ds.length ∧ m = ds.length - i ∧ acc.length ≤ i ∧ Hold X.K T F' s' H' ∧ Ext F1 s1 H1 F' s' H' ∧ H' Dl = some (.lst vsx) ∧ ¬ own F' s' H' Dl ∧ Reps X.K T F' acc vsx ∧ dComp g t f (dwipe e vs) (fun ys s2 => R (.lst ys) s2) (ds.drop i) acc s',
    ⟨_, F1, s1, [], [], Nat.zero_le _, rfl, Nat.le_refl _, hb, xb, upd_same, ob, .nil, q1⟩, ?_⟩
  rintro i m H2 ⟨F2, s2, acc, vsx, hle, rfl, hacc, hh2, x2, h2, o2, ra, q2⟩
  obtain ⟨hstop, hgo⟩ := it F2 s2 H2 x2.same hh2
  by_cases hi : i < ds.length
  · obtain ⟨go, hy⟩ := hgo i ds[i] (List.getElem?_eq_getElem hi)
    rw [List.drop_eq_getElem_cons hi] at q2
    refine .inr ⟨go, fun H' => ∃ F' s' acc vsx, acc.length ≤ i + 1 ∧ Hold X.K T F' s' H' ∧ Ext F1 s1 H1 F' s' H' ∧ H' Dl = some (.lst vsx) ∧ ¬ own F' s' H' Dl ∧ Reps X.K T F' acc vsx ∧ dComp g t f (dwipe e vs) (fun ys s2 => R (.lst ys) s2) (ds.drop (i + 1)) acc s',
      fun H' ⟨F', s', acc, vsx, a1, a2, a3, a4, a5, a6, a7⟩ => ⟨_, by omega, F', s', acc, vsx, by omega, rfl, a1, a2, a3, a4, a5, a6, a7⟩, fun v H3 y => ?_⟩
    obtain ⟨F3, x3, hh3, r3⟩ := hy v H3 y
    refine ⟨F3, _, dwipe e vs, s2, _, r3, ((he.mono x1.same).mono (x2.same.trans x3.same)).wipe vs, hh3, q2, fun e4 s4 σ4 H4 F4 q4 x4 hh4 he4 w4 => ⟨by rw [w4, wipe_wipe], ?_⟩⟩
    refine ⟨F4, e4, s4, _, _, he4, hh4, xok_none, q4, fun b s5 H5 F5 q5 x5 hh5 => ?_⟩
    have xx := ((x2.trans x3).trans x4).trans x5
    obtain ⟨h5, o5⟩ := ((x3.trans x4).trans x5).keep h2 o2
    have ra5 := ra.mono ((x3.trans x4).trans x5).same
    cases b with
    | false => exact ⟨F5, s5, acc, vsx, by omega, hh5, xx, h5, o5, ra5, q5⟩
    | true =>
      refine ⟨F5, e4, s5, _, _, he4.mono x5.same, hh5, xok_none, q5, fun d s6 w H6 F6 q6 x6 hh6 r6 => ?_⟩
      obtain ⟨h6, o6⟩ := x6.keep h5 o5
      have ra6 := ra5.mono x6.same
      refine ⟨vsx, h6, by rw [← ra6.length]; omega, ?_⟩
      obtain ⟨g1, g2⟩ := hh6.grow (ys := vsx ++ [w]) h6 o6
      exact ⟨F6, s6, acc ++ [d], vsx ++ [w], by rw [List.length_append]; show acc.length + 1 ≤ i + 1; omega, g1, (xx.trans x6).grow nD o6, upd_same, g2, ra6.append (.cons r6 .nil), q6⟩
  · have hn : ds.length ≤ i := by omega
    rw [List.drop_eq_nil_of_le hn] at q2
    refine .inl ⟨hstop i hn, ?_⟩
    have a1 := hh2.adopt h2 o2
    have a2 := x2.adopt (hh1.fresh nD) nD o2 (o := .lst vsx)
    exact post _ s2 _ H2 _ q2 (x1.trans a2) a1 (.lst upd_same (ra.mono (same_upd (notF o2))))
theorem dx_lc {elt tg iter : Expr} {ifs : List Expr} {scope : Scope} {own : List (Str × Nat)} {f0 : Arg} {t : Tst} {f : Exp} (hc : X.calm = true) (hN : X.N.Nodup) (hi : DI X T W tg iter f0) (ok : BlkOk X.N X.env.scope scope own)
    (hg : BlkAll X scope fun Y => DPGo Y T (own.map (·.2)) tg g) (ht : BlkAll X scope fun Y => DTs Y T wF ifs t) (he : BlkAll X scope fun Y => DX Y T wF elt f) (hs : ∀ x, foldedSetIterable iter X.env x = pure x := by intro _; rfl) :
    DX X T W (.ListComp elt [⟨tg, iter, ifs, 0⟩] scope pos) (dLc f0 g t f (own.map (·.2))) :=
  ⟨pe_imp (pe_lc hc hN hi.pi ok (fun s H C cl fp => (hg s H C cl fp).pg) (fun s H C cl fp => (ht s H C cl fp).pts) (fun s H C cl fp => (he s H C cl fp).pe) hs) fun σ H Q h => lc_lift h⟩
theorem ds_setLc {i : Nat} {y : Str} {py spos : Pos} {elt tg iter : Expr} {ifs : List Expr} {scope : Scope} {own : List (Str × Nat)} {f0 : Arg} {t : Tst} {f : Exp} (hc : X.calm = true) (hN : X.N.Nodup) (hy : X.N[i]? = some y) (hyl : X.env.scope.names.lookup y = some .local)
    (hsw : swapsWith (.ListComp elt [⟨tg, iter, ifs, 0⟩] scope pos) (some (.Name y py)) spos.line X.env = pure true) (hi : DI X T W tg iter f0) (ok : BlkOk X.N X.env.scope scope own)
    (hg : BlkAll X scope fun Y => DPGo Y T (own.map (·.2)) tg g) (ht : BlkAll X scope fun Y => DTs Y T wF ifs t) (he : BlkAll X scope fun Y => DX Y T wF elt f) (hs : ∀ x, foldedSetIterable iter X.env x = pure x := by intro _; rfl) :
    DS X T W (.Assign [.Name y py] (.ListComp elt [⟨tg, iter, ifs, 0⟩] scope pos) spos) (dSet i (dLc f0 g t f (own.map (·.2)))) :=
  ⟨ps_imp (ps_setLc hc hN hy hyl hsw hi.pi ok (fun s H C cl fp => (hg s H C cl fp).pg) (fun s H C cl fp => (ht s H C cl fp).pts) (fun s H C cl fp => (he s H C cl fp).pe) hs) fun Q σ H h => by
    obtain ⟨F, e, s, D, he, hh, ht, p⟩ := h
    exact lc_lift (W := W) ⟨F, e, s, _, _, he, hh, p.xok he, ht, fun d s1 v H1 F1 q x1 hh1 r => p.nx _ s1 _ H1 F1 q x1 hh1 ((he.mono x1.same).set r i)⟩⟩
end
end Bk
namespace Bk
open PySem PySem.Spec PyProof.Rows L2
/-- what a def does -/
abbrev Fn := List D → S → Q1 → XQ → Prop
/-- a promise in the hand layer's words: the arguments' data go in, phi tells what comes out -/
def spD (K : PySem.W.Frag) (T : Tb) (n : Nat) (phi : Fn) : Sp := fun vs H Q E => ∃ (F : Hp) (s : S) (ds : List D) (R : Q1) (EE : XQ), ds.length = n ∧ Reps K T F ds vs ∧ Hold K T F s H ∧
  (∀ x s' cls dx H' F', EE x s' → Ext F s H F' s' H' → Hold K T F' s' H' → ExRep K T F' x cls dx H' → E cls dx H') ∧ phi ds s R EE ∧ Post K T F s H R Q
/-- a def keeps its promise where no repr is under way -/
structure GFn (P : Program) (w : World) (K : PySem.W.Frag) (mg : Str → Option Value) (base : Heap) (k : Nat) (f : Addr) (fd : FuncData) (ps : List Str) (sp : Sp) : Prop where
  len : ∀ vs H Q E, sp vs H Q E → vs.length = ps.length
  run : ∀ (A : Around) (outer : List Env) (s : Shared) (H : Hp) (args : Args) (us : List Value) (vs : List V) (Q : VK) (E : XK), Room k A → A.guards = some [] → Env0 P w K mg base A outer s H → BindsTo s fd args (ps.zip us) → Vals vs us → sp vs H Q E →
    codeAny (model P w) A (.call (.ref f) args) (CR (L2.CX P w) outer P w H s Q E) s
theorem GFn.mono {P : Program} {w : World} {K : PySem.W.Frag} {mg : Str → Option Value} {base : Heap} {j k : Nat} {f : Addr} {fd : FuncData} {ps : List Str} {sp : Sp} (F : GFn P w K mg base j f fd ps sp) (h : j ≤ k) : GFn P w K mg base k f fd ps sp :=
  ⟨F.len, fun A outer s H args us vs Q E hr => F.run A outer s H args us vs Q E (hr.mono h)⟩
theorem GFn.imp {P : Program} {w : World} {K : PySem.W.Frag} {mg : Str → Option Value} {base : Heap} {k : Nat} {f : Addr} {fd : FuncData} {ps : List Str} {sp sp' : Sp} (F : GFn P w K mg base k f fd ps sp) (h : ∀ vs H Q E, sp' vs H Q E → sp vs H Q E) : GFn P w K mg base k f fd ps sp' :=
  ⟨fun vs H Q E q => F.len vs H Q E (h _ _ _ _ q), fun A outer s H args us vs Q E hr hg he hb hv hs => F.run A outer s H args us vs Q E hr hg he hb hv (h _ _ _ _ hs)⟩
section
variable {P : Program} {w : World} {K : PySem.W.Frag} {mg : Str → Option Value} {base : Heap}
/-- what a body's context gives -/
structure Bod (X : Cx) (W : WX) (k : Nat) : Prop where
  room : Room k X.A
  grd : X.A.guards = some []
  tk : Takes X W
  own : PassesOwn (model X.prog X.w) X.A X.env X.xe
def wBody (E : XK) : WX := fun cls d _ H => E cls d H
def dstart (N : List Str) (ds : List D) : DEnv := ds.map some ++ List.replicate (N.length - ds.length) none
theorem erep_none {K : PySem.W.Frag} {T : Tb} {F : Hp} : ∀ n : Nat, ERep K T F (List.replicate n none) (List.replicate n none)
  | 0 => .nil
  | n + 1 => .none (erep_none n)
theorem erep_args {K : PySem.W.Frag} {T : Tb} {F : Hp} {e : DEnv} {σ : L2.St} (h : ERep K T F e σ) : ∀ {ds : List D} {vs : List V}, Reps K T F ds vs → ERep K T F (ds.map some ++ e) (vs.map some ++ σ)
  | _, _, .nil => h
  | _, _, .cons r rs => .some r (erep_args h rs)
theorem start_rep {K : PySem.W.Frag} {T : Tb} {F : Hp} {N : List Str} {ds : List D} {vs : List V} (h : Reps K T F ds vs) : ERep K T F (dstart N ds) (L2.start N vs) := by
  unfold dstart L2.start
  rw [← h.length]
  exact erep_args (erep_none _) h
/-- a def's ends: what it made and lets go is forgotten -/
def fnEnds (R : Q1) (E : XQ) : DEnds where
  nx := fun _ s' => ∃ s2, Sub s2 s' ∧ R .non s2
  rt := fun d s' => ∃ s2, Sub s2 s' ∧ R d s2
  ex := fun x _ s' => ∃ s2, Sub s2 s' ∧ E x s2
variable {T : Tb}
/-- THE RULE for a def -/
theorem gfn_of {x qual : Str} {st : Stmt} {f : Addr} {fd : FuncData} {N ps : List Str} {k : Nat} {phi : Fn} {t : DTS} (F : Fun K x qual st f fd) (S : FnScope N ps (defScope st))
    (hb : ∀ (cdv : Value) (A : Around) (outer : List Env) (s : Shared) (H : Hp) (E : XK), Bod (cxOf (L2.CX P w) P w K mg base N qual (defScope st) f cdv A outer s H E) (wBody E) k →
      DSs (cxOf (L2.CX P w) P w K mg base N qual (defScope st) f cdv A outer s H E) T (wBody E) (defBody st) t)
    (hphi : ∀ ds s R E, ds.length = ps.length → phi ds s R E → t (fnEnds R E) (dstart N ds) s) : GFn P w K mg base (k + 1) f fd ps (spD K T ps.length phi) := by
  obtain ⟨oc, od, kV, doc, pm, an, cdv, ct, osl, rfl, lk, hcd⟩ := F.ex
  refine ⟨fun vs H Q E ⟨_, _, ds, _, _, hl, rs, _⟩ => by rw [← rs.length]; exact hl, fun A outer s H args us vs Q E hr hg e0 hbd hv hs => ?_⟩
  obtain ⟨FF, s0, ds, R, EE, hl, rs, hh, hx, hp, post⟩ := hs
  have hlv : vs.length = ps.length := by rw [← rs.length]; exact hl
  refine LamX.run_ofS lk hcd S hr e0 hbd hv hlv fun hr' => ?_
  have B : Bod (cxOf (L2.CX P w) P w K mg base N qual (defScope st) f cdv A outer s H E) (wBody E) k := ⟨hr', hg, takes_of rfl rfl rfl rfl, passes_of rfl⟩
  refine ⟨_, (hb cdv A outer s H E B).pss, FF, dstart N ds, s0, fnEnds R EE, start_rep rs, hh, hphi ds s0 R EE hl hp, ⟨?_, ?_, ?_, ?_, ?_⟩⟩
  · rintro e' s' σ' H' F' ⟨s2, hs2, q⟩ x1 hh1 _
    exact post .non s2 .non H' F' q (x1.weak hs2) (hh1.weak hs2) .non
  · rintro d s' v H' F' ⟨s2, hs2, q⟩ x1 hh1 r
    exact post d s2 v H' F' q (x1.weak hs2) (hh1.weak hs2) r
  · intro _ _ _ _ _ q; exact q.elim
  · intro _ _ _ _ _ q; exact q.elim
  · rintro x e' s' cls dx σ' H' F' ⟨s2, hs2, q⟩ x1 hh1 _ r
    exact hx x s2 cls dx H' F' q (x1.weak hs2) (hh1.weak hs2) r
end
section
variable {X : Cx} {T : Tb} {W : WX} {k : Nat} {f : Addr} {fd : FuncData} {ps : List Str} {x : Str} {a : Expr} {es : List Expr} {r : Arg} {n : Nat} {phi : Fn} {p pos : Pos}
/-- the callee runs -/
theorem run_g {sp : Sp} {dvs : List V} {dfs : List Value} {pins : List (Addr × Obj)} {σ : L2.St} {H : Hp} {s : Shared} {Q : VK} {us : List Value} {vs : List V} (G : GFn X.prog X.w X.K X.mg X.base k f fd ps sp) (hr : Room k X.A) (hg : X.A.guards = some []) (tk : Takes X W)
    (hb : Binds X.K fd ps dfs) (hd : Vals dvs dfs) (I : Inv X pins σ H s) (rv : Vals vs us) (h : sp (vs ++ dvs) H Q (fun c d H' => W c d σ H')) : wpAny (model X.prog X.w) X.A (call (.ref f) us) (EP X pins σ Q) X.xe s := by
  have r2 : Vals (vs ++ dvs) (us ++ dfs) := rv.append hd
  have hl : (us ++ dfs).length = ps.length := by rw [← r2.length]; exact G.len _ _ _ _ h
  refine wpAny_call (codeAny_mono (G.run X.A X.stack s H ⟨us, []⟩ (us ++ dfs) (vs ++ dvs) Q _ hr hg I.env0 (hb s us I.kIn hl) r2 h) fun res s' hq => ?_)
  cases res with
  | error e => exact tk e s' (XE.of_call I (fun _ _ _ q => q) hq)
  | ok fl =>
    cases fl with
    | ret u => exact I.after hq
    | next => exact False.elim hq
    | brk => exact False.elim hq
    | cont => exact False.elim hq
def dCall (n : Nat) (phi : Fn) (r : Arg) : Exp := fun e s R E => r e s (fun ds s1 => ds.length = n ∧ phi ds s1 R E) E
theorem dx_call (G : GFn X.prog X.w X.K X.mg X.base k f fd ps (spD X.K T n phi)) (hr : Room k X.A) (hgd : X.A.guards = some []) (tk : Takes X W) (hg : Gl X x) (hm : X.mg x = some (.ref f)) (hk : PySem.W.keepIn X.K (.ref f) = true) (hb : Binds X.K fd ps []) (ha : DA X T W (a :: es) r)
    (hdb : (x == ("__debug__" : Str)) = false := by decide) (he : starEach (a :: es) X.env = (false, eval a X.env) :: starEach es X.env := by rfl) (hpl : (backTo pos (starEach es X.env)).any (·.1) = false := by rfl) :
    DX X T W (.Call (.Name x p) (a :: es) [] pos) (dCall n phi r) := ⟨⟨fun pins s σ H Q I hq => by
  obtain ⟨F, e, s0, R, E, he', hh, hx, hf, post⟩ := hq
  refine wpAny_Call_Name_kw (ld_glob I hg hm ?_ hdb)
  refine PySem.W.callWith_K (h₀ := X.base) I.ok.mod.kin hk (thn (ha.pa.run pos pins s σ H (fun vs H1 => spD X.K T n phi vs H1 Q (fun c d H' => W c d σ H')) I ⟨F, e, s0, _, E, he', hh, hx, hf, fun ds s1 vs H1 F1 q x1 hh1 rs =>
    ⟨F1, s1, ds, R, E, q.1, rs, hh1, hx.mono x1, q.2, post.mono x1⟩⟩) fun us s1 ⟨vs, H1, I1, rv, q⟩ => ⟨I1.kIn, ?_⟩) he hpl
  exact run_g (dvs := []) (dfs := []) G hr hgd tk hb .nil I1 rv (by rw [List.append_nil]; exact q)⟩⟩
end
end Bk
namespace Bk
open PySem PySem.Spec PyProof.Rows L2
mutual
def D.py : D → PyData
  | .non => .none
  | .bl b => .bool b
  | .int i => .int i
  | .str x => .str x
  | .lst xs => .list (D.pys xs)
  | .tup xs => .tuple (D.pys xs)
  | .pln xs => .tuple (D.pys xs)
  | .dic [] => .dict []
  | .dic (_ :: _) => .none
  | .rf _ => .none
  | .scr _ => .none
  | .exc _ _ => .none
  | .obj _ _ => .none
  | .clo _ _ _ => .none
  | .cls _ => .none
  | .kdc _ => .none
def D.pys : List D → List PyData
  | [] => []
  | x :: xs => x.py :: D.pys xs
end
mutual
/-- no dict, no thing by its address -/
def D.pl : D → Bool
  | .non | .bl _ | .int _ | .str _ => true
  | .lst xs | .tup xs | .pln xs => D.pls xs
  | .dic _ | .rf _ | .scr _ | .exc _ _ | .obj _ _ | .clo _ _ _ | .cls _ | .kdc _ => false
def D.pls : List D → Bool
  | [] => true
  | x :: xs => x.pl && D.pls xs
end
section
variable {K : PySem.W.Frag} {T : Tb} {F H : Hp}
mutual
theorem rep_dp (e : Same F H) : ∀ {d : D} {v : V}, Rep K T F d v → d.pl = true → Dp K H v d.py
  | _, _, .non, _ => by rw [D.py]; exact .non
  | _, _, .bl b, _ => by rw [D.py]; exact .bl b
  | _, _, .int i, _ => by rw [D.py]; exact .int i
  | _, _, .str x, _ => by rw [D.py]; exact .str x
  | _, _, .lst h r, p => by rw [D.py]; exact .lst (sql_frz h e) (reps_dp e r (by rwa [D.pl] at p))
  | _, _, .tup h r, p => by rw [D.py]; exact .tup (sqt_mono e h) (reps_dp e r (by rwa [D.pl] at p))
  | _, _, .pln h hd r, p => by rw [D.py]; exact .tup (.inl (.inr ⟨_, e _ _ h⟩)) (reps_dp e r (by rwa [D.pl] at p))
  | _, _, .dic h r, p => by rw [D.pl] at p; cases p
  | _, _, .rf v, p => by rw [D.pl] at p; cases p
  | _, _, .scr h, p => by rw [D.pl] at p; cases p
  | _, _, .exc h h2 r, p => by rw [D.pl] at p; cases p
  | _, _, .obj h r, p => by rw [D.pl] at p; cases p
  | _, _, .clo f r, p => by rw [D.pl] at p; cases p
  | _, _, .cls _, p => by rw [D.pl] at p; cases p
  | _, _, .kdc h r, p => by rw [D.pl] at p; cases p
theorem reps_dp (e : Same F H) : ∀ {ds : List D} {vs : List V}, Reps K T F ds vs → D.pls ds = true → DpAll K H vs (D.pys ds)
  | _, _, .nil, _ => by rw [D.pys]; exact .nil
  | _, _, .cons h r, p => by
    rw [D.pls, Bool.and_eq_true] at p
    rw [D.pys]
    exact .cons (rep_dp e h p.1) (reps_dp e r p.2)
end
end
/-- == may be asked of it -/
def D.eqOk (d : D) : Bool := d.pl && SeqAt.shaped d.py
def D.eqb (x y : D) : Bool := PyData.eqv x.py y.py
section
variable {X : Cx} {T : Tb}
theorem OpD.of {f : Value → Value → Sem Value} {g : G2} {r : R2} (h : OpR X f r) (k : ∀ F s H x y vx vy R Q, Hold X.K T F s H → Rep X.K T F x vx → Rep X.K T F y vy → g x y s R → Post X.K T F s H R Q → r vx vy H Q) : OpD X T f g := ⟨r, h, k⟩
def oInt (g : Int → Int → D) : G2 := fun x y s R => match x, y with
  | .int i, .int j => R (g i j) s
  | _, _ => False
def oIntC (c : Int → Int → Prop) (g : Int → Int → D) : G2 := fun x y s R => match x, y with
  | .int i, .int j => c i j ∧ R (g i j) s
  | _, _ => False
theorem opd_I0 {f : Value → Value → Sem Value} {g : Int → Int → V} {gd : Int → Int → D} (h : OpR X f (rI0 g)) (r : ∀ K F i j, Rep K T F (gd i j) (g i j)) : OpD X T f (oInt gd) := .of h fun F s H x y vx vy R Q hh rx ry hg post => by
  unfold oInt at hg
  split at hg
  · cases rx; cases ry
    exact ⟨_, _, rfl, rfl, post _ s _ H F hg Ext.refl hh (r _ _ _ _)⟩
  · exact hg.elim
theorem opd_IC {f : Value → Value → Sem Value} {c : Int → Int → Prop} {g : Int → Int → V} {gd : Int → Int → D} (h : OpR X f (rI c g)) (r : ∀ K F i j, Rep K T F (gd i j) (g i j)) : OpD X T f (oIntC c gd) := .of h fun F s H x y vx vy R Q hh rx ry hg post => by
  unfold oIntC at hg
  split at hg
  · cases rx; cases ry
    exact ⟨_, _, rfl, rfl, hg.1, post _ s _ H F hg.2 Ext.refl hh (r _ _ _ _)⟩
  · exact hg.elim
abbrev oDiv : G2 := oIntC CDiv fun i j => .int (i / j)
abbrev oMod : G2 := oIntC (fun _ j => 0 < j) fun i j => .int (i % j)
abbrev oPow : G2 := oIntC CPow fun i j => .int (i ^ j.toNat)
abbrev oLt : G2 := oInt fun i j => .bl (decide (i < j))
abbrev oGe : G2 := oInt fun i j => .bl (decide (j ≤ i))
theorem od_div : OpD X T (binaryOp .FloorDiv) oDiv := opd_IC op_fdiv fun _ _ _ _ => .int _
theorem od_mod : OpD X T (binaryOp .Mod) oMod := opd_IC op_mod fun _ _ _ _ => .int _
theorem od_pow : OpD X T (binaryOp .Pow) oPow := opd_IC op_pow fun _ _ _ _ => .int _
theorem od_lt : OpD X T (compareOp .Lt) oLt := opd_I0 op_lt fun _ _ _ _ => .bl _
theorem od_ge : OpD X T (compareOp .GtE) oGe := opd_I0 op_ge fun _ _ _ _ => .bl _
def oNeg : G1 := fun x s R => match x with
  | .int i => R (.int (-i)) s
  | _ => False
theorem ud_neg : UnD X T (unaryOp .USub) oNeg := ⟨_, un_neg, fun F s H x vx R Q hh rx hg post => by
  unfold oNeg at hg
  split at hg
  · cases rx
    exact ⟨_, rfl, post _ s _ H F hg Ext.refl hh (.int _)⟩
  · exact hg.elim⟩
/-- + : ints, texts, lists, tuples -/
def oAdd : G2 := fun x y s R => match x, y with
  | .int i, .int j => R (.int (i + j)) s
  | .str a, .str b => a.length + b.length ≤ sizeLine ∧ R (.str (a ++ b)) s
  | .lst xs, .lst ys => xs.length + ys.length ≤ sizeLine ∧ R (.lst (xs ++ ys)) s
  | .tup xs, .tup ys => xs.length + ys.length ≤ sizeLine ∧ R (.tup (xs ++ ys)) s
  | _, _ => False
theorem od_add : OpD X T (binaryOp .Add) oAdd := .of (op_add.or (op_add_str.or (op_cat.or op_catA))) fun F s H x y vx vy R Q hh rx ry hg post => by
  unfold oAdd at hg
  split at hg
  · cases rx; cases ry
    exact .inl ⟨_, _, rfl, rfl, post _ s _ H F hg Ext.refl hh (.int _)⟩
  · cases rx; cases ry
    exact .inr (.inl ⟨_, _, rfl, rfl, hg.1, post _ s _ H F hg.2 Ext.refl hh (.str _)⟩)
  · cases rx with | lst l1 r1 => cases ry with | lst l2 r2 =>
      refine .inr (.inr (.inl ⟨_, _, _, _, rfl, rfl, hh.sub _ _ l1, hh.sub _ _ l2, by rw [← r1.length, ← r2.length]; exact hg.1, fun p np => ?_⟩))
      obtain ⟨h1, h2, h3⟩ := hh.frzL np (r1.append r2)
      exact post _ s _ _ _ hg.2 h2 h1 h3
  · cases rx with | tup l1 r1 => cases ry with | tup l2 r2 =>
      refine .inr (.inr (.inr ⟨_, _, _, _, rfl, rfl, sqt_mono hh.sub l1, sqt_mono hh.sub l2, by rw [← r1.length, ← r2.length]; exact hg.1, fun e => ?_, fun _ e => ?_, fun _ _ p np => ?_⟩))
      · subst e
        cases r1
        exact post _ s _ H F hg.2 Ext.refl hh (.tup l2 r2)
      · subst e
        cases r2
        rw [List.append_nil] at hg
        exact post _ s _ H F hg.2 Ext.refl hh (.tup l1 r1)
      · obtain ⟨h1, h2, h3⟩ := hh.frzT np (r1.append r2)
        exact post _ s _ _ _ hg.2 h2 h1 h3
  · exact hg.elim
def oEq : G2 := fun x y s R => (x.eqOk = true ∧ y.eqOk = true) ∧ R (.bl (x.eqb y)) s
def oNe : G2 := fun x y s R => (x.eqOk = true ∧ y.eqOk = true) ∧ R (.bl (!x.eqb y)) s
theorem eqOk_pl {d : D} (h : d.eqOk = true) : d.pl = true ∧ SeqAt.shaped d.py = true := Bool.and_eq_true_iff.mp h
theorem od_eq (hu : X.A.units + 64 < cLine) : OpD X T (compareOp .Eq) oEq := .of (op_eqD hu) fun F s H x y vx vy R Q hh rx ry hg post => by
  obtain ⟨⟨h1, h2⟩, q⟩ := hg
  exact ⟨_, _, rep_dp hh.sub rx (eqOk_pl h1).1, rep_dp hh.sub ry (eqOk_pl h2).1, (eqOk_pl h1).2, (eqOk_pl h2).2, post _ s _ H F q Ext.refl hh (.bl _)⟩
theorem od_ne (hu : X.A.units + 64 < cLine) : OpD X T (compareOp .NotEq) oNe := .of (op_neD hu) fun F s H x y vx vy R Q hh rx ry hg post => by
  obtain ⟨⟨h1, h2⟩, q⟩ := hg
  exact ⟨_, _, rep_dp hh.sub rx (eqOk_pl h1).1, rep_dp hh.sub ry (eqOk_pl h2).1, (eqOk_pl h1).2, (eqOk_pl h2).2, post _ s _ H F q Ext.refl hh (.bl _)⟩
def isIn (x : D) (ds : List D) : Bool := ds.any fun z => z.eqb x
end
end Bk
namespace Bk
open PySem PySem.Spec PyProof.Rows L2
/-- the items of a list -/
def lstOf : D → S → Option (List D)
  | .lst ds, _ => some ds
  | .scr ns, _ => some (ns.map .int)
  | .rf (.ref p), s => match s.mu p with
    | some (.ml ds) => some ds
    | _ => none
  | _, _ => none
/-- the items of a list or tuple -/
def seqOf (d : D) (s : S) : Option (List D) := match d with
  | .tup ds => some ds
  | d => lstOf d s
section
variable {X : Cx} {T : Tb} {W : WX} {K : PySem.W.Frag} {F H : Hp} {s : S}
theorem Rep.lstq (hh : Hold K T F s H) {d : D} {v : V} {ds : List D} (r : Rep K T F d v) (h : lstOf d s = some ds) : ∃ p xs, v = .ref p ∧ SqL K H p xs ∧ Reps K T F ds xs := by
  cases r with
  | lst l rr =>
    have e : some _ = some ds := h
    cases e
    exact ⟨_, _, rfl, sql_frz l hh.sub, rr⟩
  | scr l =>
    have e : some _ = some ds := h
    cases e
    exact ⟨_, _, rfl, hh.sub.seq l, reps_of_ints⟩
  | rf v =>
    cases v with
    | ref p =>
      have h' : (match s.mu p with | some (MO.ml ds) => some ds | _ => none) = some ds := h
      cases e : s.mu p with
      | none => rw [e] at h'; cases h'
      | some m =>
        rw [e] at h'
        cases m with
        | ml xs =>
          have e2 : some xs = some ds := h'
          cases e2
          obtain ⟨_, vs, hp, rr⟩ := hh.mu _ _ e
          exact ⟨_, _, rfl, SqL.of hp, rr⟩
        | mk _ => cases h'
        | mo _ _ => cases h'
        | md _ => cases h'
    | _ => exact (nomatch (show (none : Option (List D)) = some ds from h))
  | _ => exact (nomatch (show (none : Option (List D)) = some ds from h))
theorem Rep.seq (hh : Hold K T F s H) {d : D} {v : V} {ds : List D} (r : Rep K T F d v) (h : seqOf d s = some ds) : ∃ p xs, v = .ref p ∧ (SqL K H p xs ∨ SqT K H p xs) ∧ Reps K T F ds xs := by
  have go : lstOf d s = some ds → ∃ p xs, v = .ref p ∧ (SqL K H p xs ∨ SqT K H p xs) ∧ Reps K T F ds xs := fun q => by
    obtain ⟨p, xs, e, hq, rr⟩ := r.lstq hh q
    exact ⟨p, xs, e, .inl hq, rr⟩
  cases r with
  | tup l rr =>
    have e : some _ = some ds := h
    cases e
    exact ⟨_, _, rfl, .inr (sqt_mono hh.sub l), rr⟩
  | _ => exact go h
def IxD (X : Cx) (T : Tb) (g : G2) : Prop := ∃ r : R2, IxR X r ∧ ∀ F s H x y vx vy R Q, Hold X.K T F s H → Rep X.K T F x vx → Rep X.K T F y vy → g x y s R → Post X.K T F s H R Q → r vx vy H Q
theorem dx_ix {a b : Expr} {fa fb : Exp} {g : G2} {pos : Pos} (hr : IxD X T g) (ha : DX X T W a fa) (hb : DX X T W b fb) (hs : PlainIx b) : DX X T W (.Subscript a b pos) (dOp g fa fb) := by
  obtain ⟨r, h1, h2⟩ := hr
  exact ⟨pe_imp (pe_ix h1 ha.pe hb.pe hs) fun σ H Q h => lift2 h2 h⟩
def oIx : G2 := fun x y s R => match y with
  | .int i => match x with
    | .str z => z.length ≤ sizeLine ∧ ∃ c, atI z.cps.toList i = some c ∧ R (.str ⟨#[c]⟩) s
    | x => ∃ ds d, seqOf x s = some ds ∧ atI ds i = some d ∧ R d s
  | _ => False
theorem Reps.atI : ∀ {ds : List D} {vs : List V} {i : Int} {d : D}, Reps K T F ds vs → L2.atI ds i = some d → ∃ v, L2.atI vs i = some v ∧ Rep K T F d v := fun {ds vs i d} r h => by
  unfold L2.atI at h ⊢
  rw [← r.length]
  cases e : ixN ds.length i with
  | none => rw [e] at h; cases h
  | some j =>
    rw [e] at h
    exact r.getD h
theorem ixd_seq : IxD X T oIx := ⟨_, ix_seq, fun F s H x y vx vy R Q hh rx ry hg post => by
  unfold oIx at hg
  split at hg
  · rename_i i
    cases ry
    split at hg
    · cases rx
      obtain ⟨h1, c, h2, q⟩ := hg
      exact .inr (.inr ⟨_, _, c, rfl, rfl, h1, h2, post _ s _ H F q Ext.refl hh (.str _)⟩)
    · obtain ⟨ds, d, h1, h2, q⟩ := hg
      obtain ⟨p, xs, rfl, hq, rr⟩ := rx.seq hh h1
      obtain ⟨v, h3, rv⟩ := rr.atI h2
      have e := post d s v H F q Ext.refl hh rv
      rcases hq with hq | hq
      · exact .inl ⟨_, _, _, _, rfl, rfl, hq, h3, e⟩
      · exact .inr (.inl ⟨_, _, _, _, rfl, rfl, hq, h3, e⟩)
  · exact hg.elim⟩
abbrev Prt := DEnv → S → (Option Int → S → Prop) → XQ → Prop
structure DPO (X : Cx) (T : Tb) (W : WX) (e : Option Expr) (f : Prt) : Prop where
  po : PO X e (fun σ H Q => ∃ (F : Hp) (e : DEnv) (s : S) (R : Option Int → S → Prop) (E : XQ), ERep X.K T F e σ ∧ Hold X.K T F s H ∧ XOk X.K T W F s H E σ ∧ f e s R E ∧ ∀ o s' H' F', R o s' → Ext F s H F' s' H' → Hold X.K T F' s' H' → Q o H')
def dNoPart : Prt := fun _ s R _ => R none s
def dPart (f : Exp) : Prt := fun e s R E => f e s (fun d s1 => match d with
  | .int i => R (some i) s1
  | _ => False) E
theorem dpo_none : DPO X T W none dNoPart := ⟨⟨fun pins s σ H Q I ⟨F, e, s0, R, E, he, hh, hx, hf, k⟩ => po_none.run pins s σ H Q I (k none s0 H F hf Ext.refl hh)⟩⟩
theorem dpo_some {a : Expr} {fa : Exp} (h : DX X T W a fa) : DPO X T W (some a) (dPart fa) := ⟨⟨fun pins s σ H Q I ⟨F, e, s0, R, E, he, hh, hx, hf, k⟩ => (po_some h.pe).run pins s σ H Q I ⟨F, e, s0, _, E, he, hh, hx, hf, fun d s1 v H1 F1 q x hh1 r => by
  split at q
  · cases r; exact ⟨_, rfl, k _ s1 H1 F1 q x hh1⟩
  · exact q.elim⟩⟩⟩
def cutD (xs : List D) (lo hi : Option Int) : List D := (xs.drop (HT.sIx xs.length 0 lo)).take (HT.sIx xs.length xs.length hi - HT.sIx xs.length 0 lo)
theorem Reps.cut {ds : List D} {vs : List V} (r : Reps K T F ds vs) (lo hi : Option Int) : Reps K T F (cutD ds lo hi) (cutV vs lo hi) := by
  unfold cutD cutV
  rw [r.length]
  exact (r.drop _).take _
theorem CallD.of {f : Value} {g : GA} {r : List V → Hp → VK → Prop} (h : CallR X f r) (k : ∀ F s H ds vs R Q, Hold X.K T F s H → Reps X.K T F ds vs → g ds s R → Post X.K T F s H R Q → r vs H Q) : CallD X T f g := ⟨r, h, k⟩
def cLen : GA := fun ds s R => match ds with
  | [.str z] => z.length ≤ sizeLine ∧ R (.int z.length) s
  | [x] => ∃ xs, seqOf x s = some xs ∧ R (.int xs.length) s
  | _ => False
theorem cd_len : CallD X T (.builtin "len") cLen := .of call_len fun F s H ds vs R Q hh rs hg post => by
  unfold cLen at hg
  split at hg
  · obtain ⟨v, rfl, r⟩ := rs.one
    cases r
    exact ⟨_, _, rfl, ⟨hg.1, rfl⟩, post _ s _ H F hg.2 Ext.refl hh (.int _)⟩
  · obtain ⟨v, rfl, r⟩ := rs.one
    obtain ⟨xs, h1, q⟩ := hg
    obtain ⟨p, ys, rfl, hq, rr⟩ := r.seq hh h1
    have e := post _ s _ H F q Ext.refl hh (.int _)
    refine ⟨_, xs.length, rfl, ?_, e⟩
    rcases hq with hq | hq
    · exact .inl ⟨ys, hq, rr.length⟩
    · exact .inr ⟨ys, hq, rr.length⟩
  · exact hg.elim
def cList : GA := fun ds s R => match ds with
  | [x] => ∃ xs, seqOf x s = some xs ∧ R (.lst xs) s
  | _ => False
theorem cd_list : CallD X T (.type "list") cList := .of call_list_of fun F s H ds vs R Q hh rs hg post => by
  unfold cList at hg
  split at hg
  · obtain ⟨v, rfl, r⟩ := rs.one
    obtain ⟨xs, h1, q⟩ := hg
    obtain ⟨p, ys, rfl, hq, rr⟩ := r.seq hh h1
    refine ⟨p, ys, rfl, hq, fun l nl => ?_⟩
    obtain ⟨a1, a2, a3⟩ := hh.frzL nl rr
    exact post _ s _ _ _ q a2 a1 a3
  · exact hg.elim
def cInt : GA := fun ds s R => match ds with
  | [.int i] => R (.int i) s
  | [.bl k] => R (.int (if k then 1 else 0)) s
  | _ => False
theorem cd_int : CallD X T (.type "int") cInt := .of call_int1 fun F s H ds vs R Q hh rs hg post => by
  unfold cInt at hg
  split at hg
  · obtain ⟨v, rfl, r⟩ := rs.one
    cases r
    exact .inl ⟨_, rfl, post _ s _ H F hg Ext.refl hh (.int _)⟩
  · obtain ⟨v, rfl, r⟩ := rs.one
    cases r
    exact .inr ⟨_, rfl, post _ s _ H F hg Ext.refl hh (.int _)⟩
  · exact hg.elim
theorem Reps.two {d e : D} {vs : List V} (h : Reps K T F [d, e] vs) : ∃ v w, vs = [v, w] ∧ Rep K T F d v ∧ Rep K T F e w := by
  cases h with | cons a r => obtain ⟨w, rfl, q⟩ := r.one; exact ⟨_, _, rfl, a, q⟩
def c2I (g : Int → Int → Int) : GA := fun ds s R => match ds with
  | [.int i, .int j] => R (.int (g i j)) s
  | _ => False
theorem cd_min2 (hc : X.calm = true) : CallD X T (.builtin "min") (c2I fun i j => if j < i then j else i) := .of (call_min2 hc) fun F s H ds vs R Q hh rs hg post => by
  unfold c2I at hg
  split at hg
  · obtain ⟨v, w, rfl, r1, r2⟩ := rs.two
    cases r1; cases r2
    exact ⟨_, _, rfl, post _ s _ H F hg Ext.refl hh (.int _)⟩
  · exact hg.elim
/-- a list of bools -/
def bls : List D → Option (List Bool)
  | [] => some []
  | .bl b :: r => (bls r).map (b :: ·)
  | _ => none
/-- a list of ints -/
def intL : List D → Option (List Int)
  | [] => some []
  | .int b :: r => (intL r).map (b :: ·)
  | _ => none
def dApp (a f : Exp) : DTS := fun D e s => a e s (fun d s1 => match d with
  | .rf (.ref p) => (∃ ds, s1.mu p = some (.ml ds)) ∧ f e s1 (fun y s2 => ∃ ds, s2.mu p = some (.ml ds) ∧ ds.length < sizeLine ∧ D.nx e (s2.put p (.ml (ds ++ [y])))) (fun x s' => D.ex x e s')
  | _ => False) (fun x s' => D.ex x e s')
theorem ds_app {a b : Expr} {fa fb : Exp} {p1 p2 pos : Pos} (ha : DX X T W a fa) (hb : DX X T W b fb)
    (h : ∀ {to : TE} {t : TA}, PE X a to → PA X [b] t → PE X (.Call (.Attribute a "append" p1) [b] [] p2) (tBM X.K "list" rAppend to t))
    (hs : starEach [b] X.env = (false, eval b X.env) :: starEach [] X.env := by rfl) (hsw : swapsWith (.Call (.Attribute a "append" p1) [b] [] p2) none pos.line X.env = pure false := by rfl) :
    DS X T W (.Expr (.Call (.Attribute a "append" p1) [b] [] p2) pos) (dApp fa fb) := ⟨ps_imp (ps_expr (h ha.pe (pa_cons hb.pe pa_nil hs)) hsw) fun Q σ H ⟨F, e, s, D, he, hh, ht, p⟩ => by
  refine ⟨F, e, s, _, _, he, hh, p.xok he, ht, fun d s1 v H1 F1 q1 x1 hh1 r1 => ?_⟩
  split at q1
  · rename_i pp
    obtain ⟨⟨ds0, h0⟩, q1⟩ := q1
    cases r1
    obtain ⟨_, vs0, hp0, _⟩ := hh1.mu _ _ h0
    refine ⟨.inl ⟨rfl, _, SqL.of hp0⟩, F1, e, s1, _, _, he.mono x1.same, hh1, (p.mono x1).xok (he.mono x1.same), q1, fun y s2 w H2 F2 q2 x2 hh2 r2 => ?_⟩
    obtain ⟨ds, h1, h2, q3⟩ := q2
    obtain ⟨_, vs, hp, rr⟩ := hh2.mu _ _ h1
    refine ⟨pp, vs, w, rfl, rfl, hp, by rw [← rr.length]; exact h2, ?_⟩
    exact p.nx e _ σ _ F2 q3 ((x1.trans x2).trans (Ext.wr hh2 h1)) (hh2.wr h1 ⟨_, rfl, rr.append (.cons r2 .nil)⟩) ((he.mono x1.same).mono x2.same)
  · exact q1.elim⟩
end
end Bk
namespace Bk
open PySem PySem.Spec PyProof.Rows L2
/-- what repr writes -/
def shown (d : D) : Str := d.py.shown
end Bk
namespace Bk
open PySem PySem.Spec PyProof.Rows L2 LamX
section
variable {P : Program} {w : World} {K : PySem.W.Frag} {mg mb : Str → Option Value} {k : Nat} {fa a : Addr} {tabs : List (Addr × Addr)} {fd : FuncData} {x : Str} {sp : Sp} {st : Shared} {its : List Value} {ns : List Int}
/-- the start of all: nothing is tracked but the code objects' tables, and the script, locked -/
def H0 (tabs : List (Addr × Addr)) (sc : Option (Addr × HO)) : Hp := fun b => if b ∈ tabs.map (·.2) then some (.tbl #[]) else match sc with
  | some (a, o) => if b = a then some o else none
  | none => none
structure Start (K : PySem.W.Frag) (mg mb : Str → Option Value) (tabs : List (Addr × Addr)) (st : Shared) : Prop where
  kin : K.In st.heap
  ns : st.heap.Ns mainGlobals mg
  nb : st.heap.Ns builtinsNs mb
  boot : ∀ y : Str, y ≠ "__name__" → mb y = bootBuiltins y
  lim : st.heap.NoLimit
  sm : ∃ mm, st.heap.Ns sysModules mm
  gens : st.gens = #[]
  tab : ∀ p ∈ tabs, st.heap.get? p.2 = some { cls := .none, data := .fields #[] }
  tabK : ∀ p ∈ tabs, K.lookup p.2 = none
  code : ∀ p ∈ tabs, PySem.W.CodeHd st.heap p.1 p.2
  bm : tabs ≠ [] → ∃ (bm : Addr) (ob : Obj), mg "__builtins__" = some (.ref bm) ∧ bm ≠ builtinsNs ∧ st.heap.get? bm = some ob ∧ ob.cls = .type "module" ∧ ob.dict = some builtinsNs ∧ ob.data = .plain
theorem run_start {H : Hp} (S : Start K mg mb tabs st) (sc : st.heap.get? a = some { cls := .type "list", data := .seq its.toArray })
    (trk : ∀ b, H b ≠ none → b = a ∨ b ∈ tabs.map (·.2)) (tbl : ∀ p ∈ tabs, H p.2 = some (.tbl #[])) (lock : ∀ b, b ∉ tabs.map (·.2) → H b ≠ none → ∃ o ys, H b = some (.frz o (.lst ys))) (free : H a ≠ none → K.lookup a = none)
    (seq : SqL K H a (ns.map V.int)) (ok : HOk P w H st.heap) (hr : Room k callerA)
    (G : ∀ base : Heap, K.In base → base.Ns mainGlobals mg → (∀ p ∈ tabs, TabB base mg p.1 p.2) → (∃ mm, base.Ns sysModules mm) → GFn P w K mg base k fa fd [x] sp) (hbind : ∀ (s : Shared) (u : Value), BindsTo s fd ⟨[u], []⟩ [(x, u)])
    (hsp : sp [.ref a] H (fun v _ => v = .bl true) fun _ _ _ => False) :
    codeAny (model P w) callerA (.call (.ref fa) ⟨[.ref a], []⟩) (fun r s' => r = .ok (.ret (.bool true)) ∧ OldK st.heap s'.heap ∧ s'.os = st.os ∧ AllBare s'.gens) st := by
  have tabAt : ∀ b, b ∈ tabs.map (·.2) → st.heap.get? b = some { cls := .none, data := .fields #[] } := by
    intro b hb
    obtain ⟨p, hp, rfl⟩ := List.mem_map.mp hb
    exact S.tab p hp
  -- what is neither a list nor an empty record is not tracked
  have hidden : ∀ {b : Addr} {o : Obj}, st.heap.get? b = some o → (∀ ys n, o.data ≠ .seq ys n) → o.data ≠ .fields #[] → H b = none := by
    intro b o e h1 h2
    cases q : H b with
    | none => rfl
    | some u =>
      rcases trk b (by rw [q]; simp) with z | z
      · rw [z, sc] at e; cases e; exact absurd rfl (h1 _ _)
      · rw [tabAt b z] at e; cases e; exact absurd rfl h2
  have spaces : ∀ {b : Addr} {m : Str → Option Value}, st.heap.Ns b m → (hidT st.heap H).Ns b m := by
    rintro b m ⟨o, es, ep, e, hd, more⟩
    exact ⟨o, es, ep, hidT_get e (hidden e (fun _ _ z => by rw [hd] at z; cases z) fun z => by rw [hd] at z; cases z), hd, more⟩
  have kin : K.In (hidT st.heap H) := by
    intro b o e
    refine hidT_get (S.kin b o e) ?_
    cases q : H b with
    | none => rfl
    | some u =>
      rcases trk b (by rw [q]; simp) with z | z
      · rw [z] at e q; rw [free (by rw [q]; simp)] at e; cases e
      · obtain ⟨p, hp, ep⟩ := List.mem_map.mp z
        rw [← ep, S.tabK p hp] at e; cases e
  obtain ⟨mc, lim1, lim2⟩ := S.lim
  have mod : L2.Mod K mg (hidT st.heap H) := ⟨kin, spaces S.ns, ⟨mb, spaces S.nb, S.boot⟩, ⟨mc, spaces lim1, lim2⟩⟩
  have tb : ∀ p ∈ tabs, TabB (hidT st.heap H) mg p.1 p.2 := by
    intro p hp
    have here := S.tab p hp
    have noD : ∀ {b : Addr} {o : Obj}, st.heap.get? b = some o → o.data = .plain → (hidT st.heap H).get? b = some o := fun e hd => hidT_get e (hidden e (fun _ _ z => by rw [hd] at z; cases z) fun z => by rw [hd] at z; cases z)
    obtain ⟨bm, ob, b1, b2, b3, b4, b5, b6⟩ := S.bm (fun z => by rw [z] at hp; cases hp)
    obtain ⟨go, ges, gep, g1, g2, _⟩ := id S.ns
    refine ⟨?_, ⟨bm, ob, b1, b2, ?_, ?_, noD b3 b6, b4, b5, b6⟩, ?_⟩
    · obtain ⟨o, us, file, tf, flags, tg, inF, text, tt, e1, r1, r2, r3, r4, r5, r6, r7, r8, hne⟩ := S.code p hp
      refine ⟨o, us, file, tf, flags, tg, inF, text, tt, hidT_get e1 (hidden e1 ?_ ?_), r1, r2, r3, r4, r5, r6, r7, r8, hne⟩
      · intro _ _ z; rw [r2] at z; cases z
      · intro z; rw [r2] at z; cases z; simp at r3
    · intro q; rw [q, g1] at b3; cases b3; rw [g2] at b6; cases b6
    · intro q; rw [q, here] at b3; cases b3; cases b6
    · intro z; rw [z, here] at g1; cases g1; cases g2
  have env : Env0 P w K mg (hidT st.heap H) callerA [] st H := ⟨rfl, mod, fun b o e => of_hidT e, Nat.le_of_eq (hidT_size _ _), trivial, fun b hb => (nomatch (show b ∈ ([] : List Addr) from hb)), ok, .of_eq S.gens⟩
  have run := (G _ kin (spaces S.ns) tb (let ⟨mm, z⟩ := S.sm; ⟨mm, spaces z⟩)).run callerA [] st H ⟨[.ref a], []⟩ [.ref a] [.ref a] _ _ hr rfl env (hbind st (.ref a)) (.cons rfl .nil) hsp
  refine codeAny_mono run ?_
  intro res s' h
  match res, h with
  | .error e, h => obtain ⟨_, _, _, _, _, _, _, _, _, _, _, _, z⟩ := h; exact z.elim
  | .ok .next, h => exact h.elim
  | .ok .brk, h => exact h.elim
  | .ok .cont, h => exact h.elim
  | .ok (.ret u), h =>
    obtain ⟨v, H', os, bare, un, ok', rv, (q : v = .bl true)⟩ := h
    subst q
    have eu : u = Value.bool true := rv
    subst eu
    have stay : ∀ b o, b ∉ tabs.map (·.2) → st.heap.get? b = some o → s'.heap.get? b = some o := by
      intro b o nb e
      cases q : H b with
      | none => exact un.keep b o e q (fun z => (nomatch (show b ∈ ([] : List Addr) from z))) (fun z => (nomatch z))
      | some u =>
        obtain ⟨ob, ys, z⟩ := lock b nb (by rw [q]; simp)
        have e1 := (ok b _ z).1
        have e2 := (ok' b _ (un.frzs b ob _ z)).1
        rw [e] at e1; cases e1; exact e2
    have grew : ∀ b, b ∈ tabs.map (·.2) → ∃ more : Array Value, s'.heap.get? b = some { cls := .none, data := .fields more } := by
      intro b hb
      obtain ⟨p, hp, rfl⟩ := List.mem_map.mp hb
      obtain ⟨more, z⟩ := un.tbls p.2 #[] (tbl p hp)
      exact ⟨_, ok' p.2 _ z⟩
    refine ⟨rfl, ⟨?_, ?_⟩, os, bare⟩
    · intro b o e
      by_cases hb : b ∈ tabs.map (·.2)
      · obtain ⟨more, hm⟩ := grew b hb
        have e0 := tabAt b hb
        rw [e] at e0; cases e0
        obtain ⟨p, hp, ep⟩ := List.mem_map.mp hb
        have isT := ((S.code p hp).tab (S.tab p hp)).isCodeTable
        rw [ep] at isT
        exact .inr (.inl ⟨isT, rfl, #[], more, rfl, by rw [Array.empty_append]; exact hm⟩)
      · exact .inl (stay b o hb e)
    · intro b o e
      by_cases hb : b ∈ tabs.map (·.2)
      · obtain ⟨more, hm⟩ := grew b hb
        exact ⟨_, hm⟩
      · exact ⟨o, stay b o hb e⟩
end
end Bk
namespace Bk
open PySem PySem.Spec PyProof.Rows L2
def dval (kvs : List (Key × D)) (k : Key) : Option D := (kvs.find? fun kv => decide (kv.1 = k)).map (·.2)
def dput (kvs : List (Key × D)) (k : Key) (v : D) : List (Key × D) :=
  if (kvs.any fun kv => decide (kv.1 = k)) = true then kvs.map (fun kv => if kv.1 = k then (kv.1, v) else kv) else kvs ++ [(k, v)]
def keyD : D → Option Key
  | .int i => some (.inl i)
  | .str x => some (.inr x)
  | _ => none
def dicOf : D → S → Option (List (Key × D))
  | .dic kvs, _ => some kvs
  | .rf (.ref p), s => match s.mu p with
    | some (.mk kvs) => some kvs
    | _ => none
  | _, _ => none
section
variable {K : PySem.W.Frag} {T : Tb} {F H : Hp} {s : S}
theorem RepK.val : ∀ {kvs : List (Key × D)} {ws : List (Key × V)} {k : Key}, RepK K T F kvs ws → (∀ d, dval kvs k = some d → ∃ v, valV ws k = some v ∧ Rep K T F d v) ∧ (dval kvs k = none → valV ws k = none)
  | _, _, _, .nil => ⟨fun d h => (nomatch (show (none : Option D) = some d from h)), fun _ => rfl⟩
  | _, _, k, .cons (k := k0) (d := d0) (v := v0) r rr => by
    have ih := RepK.val (k := k) rr
    by_cases e : k0 = k
    · have e1 : ∀ kds, dval ((k0, d0) :: kds) k = some d0 := fun kds => by unfold dval; rw [List.find?_cons_of_pos (by simp [e])]; rfl
      have e2 : ∀ kds, valV ((k0, v0) :: kds) k = some v0 := fun kds => valV_pos e
      rw [e1, e2]
      exact ⟨fun d h => ⟨v0, rfl, by cases h; exact r⟩, fun h => by cases h⟩
    · have e1 : ∀ kds, dval ((k0, d0) :: kds) k = dval kds k := fun kds => by unfold dval; rw [List.find?_cons_of_neg (by simp [e])]
      have e2 : ∀ kds, valV ((k0, v0) :: kds) k = valV kds k := fun kds => valV_neg e
      rw [e1, e2]
      exact ih
theorem RepK.any : ∀ {kvs : List (Key × D)} {ws : List (Key × V)} {k : Key}, RepK K T F kvs ws → (kvs.any fun kv => decide (kv.1 = k)) = (ws.any fun kv => decide (kv.1 = k))
  | _, _, _, .nil => rfl
  | _, _, k, .cons r rr => by rw [List.any_cons, List.any_cons, RepK.any rr]
theorem RepK.app : ∀ {kvs ks : List (Key × D)} {ws vs : List (Key × V)}, RepK K T F kvs ws → RepK K T F ks vs → RepK K T F (kvs ++ ks) (ws ++ vs)
  | _, _, _, _, .nil, q => q
  | _, _, _, _, .cons r rr, q => .cons r (RepK.app rr q)
theorem RepK.map {k : Key} {d : D} {v : V} (h : Rep K T F d v) : ∀ {kvs : List (Key × D)} {ws : List (Key × V)}, RepK K T F kvs ws → RepK K T F (kvs.map fun kv => if kv.1 = k then (kv.1, d) else kv) (ws.map fun kv => if kv.1 = k then (kv.1, v) else kv)
  | _, _, .nil => .nil
  | _, _, .cons (k := k0) r rr => by
    rw [List.map_cons, List.map_cons]
    by_cases e : k0 = k
    · rw [if_pos e, if_pos e]; exact .cons h (RepK.map h rr)
    · rw [if_neg e, if_neg e]; exact .cons r (RepK.map h rr)
theorem RepK.put {k : Key} {d : D} {v : V} {kvs : List (Key × D)} {ws : List (Key × V)} (h : Rep K T F d v) (rr : RepK K T F kvs ws) : RepK K T F (dput kvs k d) (putK ws k v) := by
  unfold dput putK
  rw [rr.any]
  split
  · exact rr.map h
  · exact rr.app (.cons h .nil)
theorem Rep.key {d : D} {v : V} {k : Key} (r : Rep K T F d v) (h : keyD d = some k) : v = kV k := by
  cases r <;> first | (cases h; rfl) | (exact (nomatch (show none = some k from h)))
theorem Rep.dict (hh : Hold K T F s H) {d : D} {v : V} {kvs : List (Key × D)} (r : Rep K T F d v) (h : dicOf d s = some kvs) : ∃ p ws, v = .ref p ∧ H p = some (.dK ws) ∧ RepK K T F kvs ws := by
  cases r with
  | dic l rr =>
    have e : some _ = some kvs := h
    cases e
    exact ⟨_, _, rfl, hh.sub _ _ l, rr⟩
  | rf v =>
    cases v with
    | ref p =>
      have h' : (match s.mu p with | some (MO.mk ds) => some ds | _ => none) = some kvs := h
      cases e : s.mu p with
      | none => rw [e] at h'; cases h'
      | some m =>
        rw [e] at h'
        cases m with
        | ml xs => cases h'
        | mo _ _ => cases h'
        | md _ => cases h'
        | mk xs =>
          have e2 : some xs = some kvs := h'
          cases e2
          obtain ⟨_, vs, hp, rr⟩ := hh.mu _ _ e
          exact ⟨_, _, rfl, hp, rr⟩
    | _ => exact (nomatch (show (none : Option (List (Key × D))) = some kvs from h))
  | _ => exact (nomatch (show (none : Option (List (Key × D))) = some kvs from h))
theorem Hold.beginO (hh : Hold K T F s H) {p : Addr} {o : HO} (n : H p = none) : Hold K T F s (upd H p o) ∧ Ext F s H F s (upd H p o) ∧ ¬ own F s (upd H p o) p := by
  have no : ¬ own F s H p := fun w => by
    rcases w with w | w | ⟨a, m, h1, h2⟩
    · exact w (hh.fresh n)
    · exact w (hh.freshM n)
    · obtain ⟨l, c, t, cs, ls, g1, g2, g3, g4, g5, g6, g7, g8, g9⟩ := hh.gen a m h1
      rcases h2 with h2 | ⟨kvs, l', h3, h4, h5⟩
      · rw [← h2, n] at g5; cases g5
      · rw [g5] at h3; cases h3
        have e : some (V.ref l) = some (V.ref l') := h4
        cases e
        rw [← h5, n] at g7; cases g7
  refine ⟨⟨hh.sub.trans (same_upd n), fun q u e => ?_, fun q k e => ?_, hh.tab.ext (same_upd n), hh.tabF⟩, (Ext.refl).grow n no, fun w => no (own_upd no w)⟩
  · obtain ⟨h1, h2⟩ := hh.mu q u e
    rw [upd_ne (fun z => by rw [z, hh.freshM n] at e; cases e)]
    exact ⟨h1, h2⟩
  · obtain ⟨l, c, t, cs, ls, g1, g2, g3, g4, g5, g6, g7, g8, g9⟩ := hh.gen q k e
    exact ⟨l, c, t, cs, ls, g1, g2, g3, g4, same_upd n _ _ g5, g6, same_upd n _ _ g7, g8, g9⟩
/-- a dict that is nobody's is filled and becomes one that may change -/
theorem Hold.takeK (hh : Hold K T F s H) {p : Addr} {ws0 ws : List (Key × V)} {kvs : List (Key × D)} (h : H p = some (.dK ws0)) (n : ¬ own F s H p) (r : RepK K T F kvs ws) : Hold K T F (s.put p (.mk kvs)) (upd H p (.dK ws)) := by
  refine ⟨fun b x e => ?_, fun q u e => ?_, fun q k e => ?_, tabs_upd hh.tab (fun ps z => by rw [h] at z; cases z) (fun c q z => by rw [h] at z; cases z), hh.tabF⟩
  · rw [upd_ne (fun z => by rw [z, notF n] at e; cases e)]; exact hh.sub b x e
  · have e2 : (if q = p then some (MO.mk kvs) else s.mu q) = some u := e
    by_cases z : q = p
    · rw [if_pos z] at e2; cases e2
      rw [z, upd_same]
      exact ⟨notF n, ws, rfl, r⟩
    · rw [if_neg z] at e2
      rw [upd_ne z]; exact hh.mu q u e2
  · obtain ⟨l, c, t, cs, ls, g1, g2, g3, g4, g5, g6, g7, g8, g9⟩ := hh.gen q k e
    have nq : q ≠ p := fun z => n (by rw [← z]; exact .inr (.inr ⟨q, k, e, .inl rfl⟩))
    have nl : l ≠ p := fun z => n (by rw [← z]; exact .inr (.inr ⟨q, k, e, .inr ⟨_, l, g5, rfl, rfl⟩⟩))
    refine ⟨l, c, t, cs, ls, g1, g2, ?_, ?_, by rw [upd_ne nq]; exact g5, g6, by rw [upd_ne nl]; exact g7, g8, g9⟩
    · show (if q = p then some (MO.mk kvs) else s.mu q) = none
      rw [if_neg nq]; exact g3
    · show (if l = p then some (MO.mk kvs) else s.mu l) = none
      rw [if_neg nl]; exact g4
theorem Ext.takeK {F0 H0 : Hp} {s0 : S} (x : Ext F0 s0 H0 F s H) {p : Addr} {m : MO} {o : HO} (n0 : H0 p = none) (n : ¬ own F s H p) : Ext F0 s0 H0 F (s.put p m) (upd H p o) := ⟨x.same, fun q u e w z => by
  obtain ⟨h1, n1⟩ := x.rest q u e w z
  have ne : q ≠ p := fun y => by rw [y, n0] at e; cases e
  refine ⟨by rw [upd_ne ne]; exact h1, fun y => n1 ?_⟩
  rcases y with y | y | ⟨a, k, h3, h4⟩
  · exact .inl y
  · have y' : (if q = p then some m else s.mu q) ≠ none := y
    rw [if_neg ne] at y'
    exact .inr (.inl y')
  · refine .inr (.inr ⟨a, k, h3, h4.imp id ?_⟩)
    rintro ⟨kvs, l, g3, g4, g5⟩
    have na : a ≠ p := fun z => n (by rw [← z]; exact .inr (.inr ⟨a, k, h3, .inl rfl⟩))
    rw [upd_ne na] at g3
    exact ⟨kvs, l, g3, g4, g5⟩⟩
end
section
variable {X : Cx} {T : Tb} {W : WX} {a b c : Expr} {fa fb fc : Exp} {pos : Pos}
def dGet (fo fi : Exp) : Exp := fun e s R E => fo e s (fun d s1 => fi e s1 (fun k s2 => ∃ key kvs x, keyD k = some key ∧ dicOf d s2 = some kvs ∧ dval kvs key = some x ∧ R x s2) E) E
theorem dx_get (hu : X.A.units + 1 < cLine) (ho : DX X T W a fa) (hi : DX X T W b fb) (hs : NoSl b) : DX X T W (.Subscript a b pos) (dGet fa fb) := ⟨pe_imp (pe_dget hu ho.pe hi.pe hs) fun σ H Q h => by
  obtain ⟨F, e, s, R, E, he, hh, hx, hf, post⟩ := h
  refine ⟨F, e, s, _, E, he, hh, hx, hf, fun d s1 vd H1 F1 q1 x1 hh1 r1 => ⟨F1, e, s1, _, E, he.mono x1.same, hh1, hx.mono x1, q1, fun k s2 vk H2 F2 q2 x2 hh2 r2 => ?_⟩⟩
  obtain ⟨key, kvs, x, h1, h2, h3, q3⟩ := q2
  obtain ⟨p, ws, rfl, hp, rr⟩ := (r1.mono x2.same).dict hh2 h2
  obtain ⟨v, hv, rv⟩ := (rr.val (k := key)).1 x h3
  have ek := r2.key h1
  subst ek
  exact ⟨p, v, rfl, by rw [← hv]; exact DGet.k hp, post _ s2 v H2 F2 q3 (x1.trans x2) hh2 rv⟩⟩
def dPutS (fo fi fv : Exp) : DTS := fun D e s => fv e s (fun y s1 => fo e s1 (fun d s2 => fi e s2 (fun k s3 => match d with
  | .rf (.ref p) => ∃ key kvs, keyD k = some key ∧ s3.mu p = some (.mk kvs) ∧ kvs.length < sizeLine ∧ D.nx e (s3.put p (.mk (dput kvs key y)))
  | _ => False) (fun x s' => D.ex x e s')) (fun x s' => D.ex x e s')) (fun x s' => D.ex x e s')
theorem ds_put {pos' : Pos} (hu : X.A.units + 1 < cLine) (ho : DX X T W a fa) (hi : DX X T W b fb) (hv : DX X T W c fc) (hs : swapsWith c (some (.Subscript a b pos')) pos.line X.env = pure false := by rfl) : DS X T W (.Assign [.Subscript a b pos'] c pos) (dPutS fa fb fc) :=
  ⟨ps_imp (ps_dput hu ho.pe hi.pe hv.pe hs) fun Q σ H ⟨F, e, s, D, he, hh, ht, p⟩ => by
    refine ⟨F, e, s, _, _, he, hh, p.xok he, ht, fun y s1 vy H1 F1 q1 x1 hh1 r1 => ⟨F1, e, s1, _, _, he.mono x1.same, hh1, (p.mono x1).xok (he.mono x1.same), q1, fun d s2 vd H2 F2 q2 x2 hh2 r2 => ?_⟩⟩
    refine ⟨F2, e, s2, _, _, (he.mono x1.same).mono x2.same, hh2, (p.mono (x1.trans x2)).xok ((he.mono x1.same).mono x2.same), q2, fun k s3 vk H3 F3 q3 x3 hh3 r3 => ?_⟩
    split at q3
    · rename_i pp
      obtain ⟨key, kvs, h1, h2, h3, q4⟩ := q3
      cases r2
      obtain ⟨_, ws, hp, rr⟩ := hh3.mu _ _ h2
      have ek := r3.key h1
      subst ek
      refine ⟨pp, _, rfl, DPut.k hp (by rw [← rr.length]; exact h3), ?_⟩
      exact p.nx e _ σ _ F3 q4 (((x1.trans x2).trans x3).trans (Ext.wr hh3 h2)) (hh3.wr h2 ⟨_, rfl, rr.put ((r1.mono x2.same).mono x3.same)⟩) (((he.mono x1.same).mono x2.same).mono x3.same)
    · exact q3.elim⟩
def dSetIx (fo fi fv : Exp) : DTS := fun D e s => fv e s (fun y s1 => fo e s1 (fun d s2 => fi e s2 (fun k s3 => match d, k with
  | .rf (.ref p), .int i => ∃ ds j, s3.mu p = some (.ml ds) ∧ ixN ds.length i = some j ∧ D.nx e (s3.put p (.ml (ds.set j y)))
  | _, _ => False) (fun x s' => D.ex x e s')) (fun x s' => D.ex x e s')) (fun x s' => D.ex x e s')
theorem ds_setIx {pos' : Pos} (ho : DX X T W a fa) (hi : DX X T W b fb) (hv : DX X T W c fc)
    (ha : ∀ v, assign (.Subscript a b pos') X.env v = (do
      let ov ← holding [v] (eval a X.env)
      let iv ← holding [v, ov] (eval b X.env)
      standAt pos'
      holding [v, ov, iv] (setItem ov iv v)
      release [v, ov, iv] []) := by intro _; rfl)
    (hs : swapsWithSole [.Subscript a b pos'] c pos.line X.env = pure false := by rfl) (hw : swappedStores [.Subscript a b pos'] c X.env = pure none := by rfl) (h1 : (assignEach [.Subscript a b pos'] X.env).map (·.2) = [assign (.Subscript a b pos') X.env] := by rfl) :
    DS X T W (.Assign [.Subscript a b pos'] c pos) (dSetIx fa fb fc) :=
  ⟨ps_imp (ps_asg hv.pe (pg_sub ho.pe hi.pe set_list ha) hs hw h1) fun Q σ H ⟨F, e, s, D, he, hh, ht, p⟩ => by
    refine ⟨F, e, s, _, _, he, hh, p.xok he, ht, fun y s1 vy H1 F1 q1 x1 hh1 r1 => ⟨F1, e, s1, _, _, he.mono x1.same, hh1, (p.mono x1).xok (he.mono x1.same), q1, fun d s2 vd H2 F2 q2 x2 hh2 r2 => ?_⟩⟩
    refine ⟨F2, e, s2, _, _, (he.mono x1.same).mono x2.same, hh2, (p.mono (x1.trans x2)).xok ((he.mono x1.same).mono x2.same), q2, fun k s3 vk H3 F3 q3 x3 hh3 r3 => ?_⟩
    split at q3
    · obtain ⟨ds, j, h2, h3, q4⟩ := q3
      cases r2; cases r3
      obtain ⟨_, ws, hp, rr⟩ := hh3.mu _ _ h2
      refine ⟨_, ws, _, j, rfl, rfl, hp, by rw [← rr.length]; exact h3, ?_⟩
      exact p.nx e _ σ _ F3 q4 (((x1.trans x2).trans x3).trans (Ext.wr hh3 h2)) (hh3.wr h2 ⟨_, rfl, rr.set ((r1.mono x2.same).mono x3.same) j⟩) (((he.mono x1.same).mono x2.same).mono x3.same)
    · exact q3.elim⟩
def dPairs : List (Exp × Exp) → DEnv → S → (List (D × D) → S → Prop) → XQ → Prop
  | [], _, s, R, _ => R [] s
  | (fk, fv) :: r, e, s, R, E => fk e s (fun k s1 => fv e s1 (fun v s2 => dPairs r e s2 (fun ps s3 => R ((k, v) :: ps) s3) E) E) E
inductive DPP (X : Cx) (T : Tb) (W : WX) : List (Option Expr) → List Expr → List (Exp × Exp) → Prop
  | nil : DPP X T W [] [] []
  | cons {k v : Expr} {ks : List (Option Expr)} {vs : List Expr} {fk fv : Exp} {fs : List (Exp × Exp)} : DX X T W k fk → DX X T W v fv → DPP X T W ks vs fs → DPP X T W (some k :: ks) (v :: vs) ((fk, fv) :: fs)
theorem DPP.pps {pos : Pos} : ∀ {ks : List (Option Expr)} {vs : List Expr} {fs : List (Exp × Exp)}, DPP X T W ks vs fs → PPs X pos ks vs (fs.map fun p => (liftE X.K T W p.1, liftE X.K T W p.2))
  | _, _, _, .nil => pps_nil
  | _, _, _, .cons h1 h2 r => pps_cons h1.pe h2.pe (DPP.pps r)
theorem pairs_lift {K : PySem.W.Frag} {σ : L2.St} {e : DEnv} {E : XQ} : ∀ {fs : List (Exp × Exp)} {F H : Hp} {s : S} {R : List (D × D) → S → Prop} {Q : List (V × V) → Hp → Prop}, ERep K T F e σ → Hold K T F s H → XOk K T W F s H E σ → dPairs fs e s R E →
    (∀ ps s' qs H' F', R ps s' → Ext F s H F' s' H' → Hold K T F' s' H' → Paired (fun p q => Rep K T F' p.1 q.1 ∧ Rep K T F' p.2 q.2) ps qs → Q qs H') → tPairs (fs.map fun p => (liftE K T W p.1, liftE K T W p.2)) σ H Q
  | [], F, H, s, R, Q, he, hh, hx, hf, k => k [] s [] H F hf Ext.refl hh .nil
  | (fk, fv) :: r, F, H, s, R, Q, he, hh, hx, hf, k => ⟨F, e, s, _, E, he, hh, hx, hf, fun dk s1 vk H1 F1 q1 x1 hh1 r1 => ⟨F1, e, s1, _, E, he.mono x1.same, hh1, hx.mono x1, q1, fun dv s2 vv H2 F2 q2 x2 hh2 r2 =>
      pairs_lift ((he.mono x1.same).mono x2.same) hh2 ((hx.mono x1).mono x2) q2 fun ps s3 qs H3 F3 q3 x3 hh3 rs =>
        k _ s3 _ H3 F3 q3 ((x1.trans x2).trans x3) hh3 (.cons ⟨(r1.mono x2.same).mono x3.same, r2.mono x3.same⟩ rs)⟩⟩
def dMerge (kvs more : List (Key × D)) : List (Key × D) := more.foldl (fun acc kv => dput acc kv.1 kv.2) kvs
theorem RepK.merge {K : PySem.W.Frag} {T : Tb} {F : Hp} : ∀ {more : List (Key × D)} {ms : List (Key × V)} (kvs : List (Key × D)) (ws : List (Key × V)), RepK K T F more ms → RepK K T F kvs ws → RepK K T F (dMerge kvs more) (mergeK ws ms)
  | _, _, _, _, .nil, r => r
  | _, _, kvs, ws, .cons (k := k) (d := d) (v := v) h t, r => RepK.merge (dput kvs k d) (putK ws k v) t (RepK.put h r)
theorem keys_of {K : PySem.W.Frag} {T : Tb} {F : Hp} : ∀ {ps : List (D × D)} {qs : List (V × V)} {kvs : List (Key × D)}, Paired (fun p q => Rep K T F p.1 q.1 ∧ Rep K T F p.2 q.2) ps qs → ps.mapM (fun p => (keyD p.1).map fun k => (k, p.2)) = some kvs → ∃ ws, RepK K T F kvs ws ∧ qs = ws.map (fun kv => (kV kv.1, kv.2))
  | [], _, _, .nil, h => by
    have e : some [] = some _ := h
    cases e
    exact ⟨[], .nil, rfl⟩
  | p :: ps, _, kvs, .cons (b := q) r t, h => by
    rw [List.mapM_cons] at h
    cases e : keyD p.1 with
    | none => rw [e] at h; cases h
    | some k =>
      rw [e] at h
      cases e2 : ps.mapM (fun p => (keyD p.1).map fun k => (k, p.2)) with
      | none => rw [e2] at h; cases h
      | some more =>
        rw [e2] at h
        have e3 : some ((k, p.2) :: more) = some kvs := h
        cases e3
        obtain ⟨ws, rr, rfl⟩ := keys_of t e2
        refine ⟨(k, q.2) :: ws, .cons r.2 rr, ?_⟩
        rw [List.map_cons]
        have := r.1.key e
        obtain ⟨q1, q2⟩ := q
        simp only at this ⊢
        rw [this]
/-- a dict that may change -/
def dDispM (fs : List (Exp × Exp)) : Exp := fun e s R E => dPairs fs e s (fun ps s1 => ∃ kvs, ps.mapM (fun p => (keyD p.1).map fun k => (k, p.2)) = some kvs ∧ kvs.length ≤ 15 ∧ ∀ p, s1.mu p = none → R (.rf (.ref p)) (s1.put p (.mk (dMerge [] kvs)))) E
theorem dx_dispM {ks : List (Option Expr)} {vs : List Expr} {fs : List (Exp × Exp)} (h : DPP X T W ks vs fs) (hall : ks.all (·.isSome) = true := by rfl) (hl : ks.length = vs.length := by rfl) (h0 : ks ≠ [] := by intro z; cases z) (h15 : ks.length ≤ 15 := by decide) : DX X T W (.Dict ks vs pos) (dDispM fs) :=
  ⟨pe_imp (pe_disp h.pps hall hl h0 h15) fun σ H Q hq p np => by
    obtain ⟨F, e, s, R, E, he, hh, hx, hf, post⟩ := hq
    obtain ⟨a1, a2, a3⟩ := hh.beginO (o := .dK []) np
    refine pairs_lift he a1 (hx.mono a2) hf fun ps s1 qs H1 F1 q1 x1 hh1 rs => ?_
    obtain ⟨kvs, h1, h2, q2⟩ := q1
    obtain ⟨ws, rr, rfl⟩ := keys_of rs h1
    obtain ⟨b1, b2⟩ := x1.rest p _ upd_same a3 trivial
    have xx := a2.trans x1
    refine ⟨b1, ws, rfl, by rw [← rr.length]; exact h2, ?_⟩
    exact post _ _ _ _ F1 (q2 p (notM b2)) (xx.takeK np b2) (hh1.takeK b1 b2 (RepK.merge [] [] rr .nil)) (.rf _)⟩
end
end Bk
namespace Bk
open PySem PySem.Spec PyProof.Rows L2
section
variable {X : Cx} {T : Tb} {W : WX} {a b c : Expr} {fa fb fc : Exp} {pos : Pos} {g g1 : DG} {vs vs1 : List Nat}
def dFrzV (i : Nat) (t : DTS) : DTS := fun D e s => ∃ p ds, nth e i = some (.rf (.ref p)) ∧ s.mu p = some (.ml ds) ∧ t D (dset e i (some (.lst ds))) (s.del p)
theorem ERep.reset {K : PySem.W.Frag} {T : Tb} {F : Hp} {d : D} {v : V} (rd : Rep K T F d v) : ∀ {e : DEnv} {σ : L2.St} (i : Nat), ERep K T F e σ → σ[i]? = Option.some (Option.some v) → ERep K T F (dset e i (Option.some d)) σ
  | _, _, _, .nil, _ => .nil
  | _, _, 0, .none r, h => by cases h; exact .some rd r
  | _, _, 0, .some _ r, h => by cases h; exact .some rd r
  | _, _, i + 1, .none r, h => .none (ERep.reset rd i r (by simpa using h))
  | _, _, i + 1, .some q r, h => .some q (ERep.reset rd i r (by simpa using h))
theorem dss_frz {i : Nat} {sts : List Stmt} {t : DTS} (h : DSs X T W sts t) : DSs X T W sts (dFrzV i t) := ⟨pss_imp h.pss fun Q σ H ⟨F, e, s, D, he, hh, ht, p⟩ => by
  obtain ⟨q, ds, h1, h2, h3⟩ := ht
  obtain ⟨vs, a1, a2⟩ := hh.freeze h2
  obtain ⟨v, hv, rv⟩ := he.at h1
  have x := Ext.freeze (F := F) (H := H) (o := .lst vs) (hh.mu _ _ h2).1 h2
  cases rv
  exact ⟨_, _, _, D, (he.mono x.same).reset a2 i hv, a1, h3, p.mono x⟩⟩
def repL (xs : List D) : Nat → List D
  | 0 => []
  | n + 1 => xs ++ repL xs n
theorem Reps.rep {K : PySem.W.Frag} {T : Tb} {F : Hp} {xs : List D} {vs : List V} (h : Reps K T F xs vs) : ∀ n, Reps K T F (repL xs n) (List.replicate n vs).flatten
  | 0 => .nil
  | n + 1 => by rw [repL, List.replicate_succ, List.flatten_cons]; exact h.append (Reps.rep h n)
def strMul (x : Str) (n : Nat) : Str := ⟨(List.replicate n x.cps).foldl (· ++ ·) #[]⟩
theorem foldApp (a : Array Nat) : ∀ (n : Nat) (b : Array Nat), ((List.replicate n a).foldl (· ++ ·) b).size = b.size + n * a.size
  | 0, b => by simp
  | n + 1, b => by rw [List.replicate_succ, List.foldl_cons, foldApp a n, Array.size_append, Nat.succ_mul]; omega
theorem strMul_len (x : Str) (n : Nat) : (strMul x n).length = n * x.length := by
  show ((List.replicate n x.cps).foldl (· ++ ·) #[]).size = _
  rw [foldApp]
  show 0 + n * x.cps.size = n * x.cps.size
  omega
theorem op_mulStr : OpR X (binaryOp .Mult) (fun x y H Q => ∃ z k, x = .str z ∧ y = .int k ∧ 1 < k ∧ k ≤ 100 ∧ 0 < z.length ∧ z.length ≤ 100000 ∧ Q (.str (strMul z k.toNat)) H) := by
  intro pins s σ H x y v u Q I rx ry h
  obtain ⟨z, k, rfl, rfl, h1, h2, h3, h4, q⟩ := h
  obtain ⟨t, rfl⟩ := rx
  obtain ⟨t', rfl⟩ := ry
  have n1 : ¬ k < 1 := by omega
  have n2 : (k == 1 || z.length == 0) = false := by simp; omega
  refine PySem.P.mul_str (by simp; omega) (fun _ _ w => ?_) (fun _ _ => ?_) ?_
  · have : (2 ^ 63 - 1 : Int) / k ≥ 100000 := by
      have hk : (0 : Int) < k := by omega
      rw [ge_iff_le, Int.le_ediv_iff_mul_le hk]
      omega
    omega
  · have : z.length * k.toNat ≤ 100000 * 100 := Nat.mul_le_mul h4 (by omega)
    unfold PySem.Builtin.Str.tooLong
    rw [sizeLine_eq]
    simp
    omega
  · rw [if_neg n1, if_neg (by rw [n2]; decide)]
    refine ⟨?_, ⟨.str (strMul z k.toNat), H, I.tok _, ⟨_, rfl⟩, q⟩⟩
    have e : (strMul z k.toNat).length = k.toNat * z.length := strMul_len z k.toNat
    have : k.toNat * z.length ≤ 100 * 100000 := Nat.mul_le_mul (by omega) h4
    show (strMul z k.toNat).length ≤ sizeLine
    rw [sizeLine_eq]
    omega
end
end Bk
namespace Bk
open PySem PySem.Spec PyProof.Rows L2
section
variable {X : Cx} {T : Tb} {W : WX} {a b c : Expr} {fa fb fc : Exp} {pos : Pos}
/-- * -/
def oMul : G2 := fun x y s R => match x, y with
  | .int i, .int j => CMul i j ∧ R (.int (i * j)) s
  | .str z, .int k => (1 < k ∧ k ≤ 100 ∧ 0 < z.length ∧ z.length ≤ 100000) ∧ R (.str (strMul z k.toNat)) s
  | .tup xs, .int k => (xs ≠ [] ∧ 2 ≤ k ∧ k ≤ 1000 ∧ xs.length ≤ 1000) ∧ R (.tup (repL xs k.toNat)) s
  | .lst xs, .int k => (-(2 ^ 63) ≤ k ∧ k < 2 ^ 63 ∧ xs.length * k.toNat ≤ sizeLine) ∧ R (.lst (repL xs k.toNat)) s
  | _, _ => False
theorem od_mul : OpD X T (binaryOp .Mult) oMul := .of (op_mul.or (op_mulStr.or (op_repT.or op_rep))) fun F s H x y vx vy R Q hh rx ry hg post => by
  unfold oMul at hg
  split at hg
  · cases rx; cases ry
    exact .inl ⟨_, _, rfl, rfl, hg.1, post _ s _ H F hg.2 Ext.refl hh (.int _)⟩
  · cases rx; cases ry
    exact .inr (.inl ⟨_, _, rfl, rfl, hg.1.1, hg.1.2.1, hg.1.2.2.1, hg.1.2.2.2, post _ s _ H F hg.2 Ext.refl hh (.str _)⟩)
  · cases ry
    cases rx with | tup l1 r1 =>
      refine .inr (.inr (.inl ⟨_, _, _, rfl, rfl, sqt_mono hh.sub l1, fun e => hg.1.1 ?_, hg.1.2.1, hg.1.2.2.1, by rw [← r1.length]; exact hg.1.2.2.2, fun p np => ?_⟩))
      · subst e; cases r1; rfl
      · obtain ⟨h1, h2, h3⟩ := hh.frzT np (r1.rep _)
        exact post _ s _ _ _ hg.2 h2 h1 h3
  · cases ry
    cases rx with | lst l1 r1 =>
      refine .inr (.inr (.inr ⟨_, _, _, rfl, rfl, hh.sub _ _ l1, hg.1.1, hg.1.2.1, by rw [← r1.length]; exact hg.1.2.2, fun p np => ?_⟩))
      obtain ⟨h1, h2, h3⟩ := hh.frzL np (r1.rep _)
      exact post _ s _ _ _ hg.2 h2 h1 h3
  · exact hg.elim
def dref (d : D) (s : S) : D := match lstOf d s with
  | some ds => .lst ds
  | none => d
theorem rep_dpM {K : PySem.W.Frag} {T : Tb} {F H : Hp} {s : S} (hh : Hold K T F s H) {d : D} {v : V} (r : Rep K T F d v) (p : (dref d s).pl = true) : Dp K H v (dref d s).py := by
  unfold dref at p ⊢
  cases e : lstOf d s with
  | none => rw [e] at p; exact rep_dp hh.sub r p
  | some ds =>
    rw [e] at p
    obtain ⟨q, xs, rfl, hq, rr⟩ := r.lstq hh e
    have p' : (D.lst ds).pl = true := p
    rw [D.pl] at p'
    show Dp K H (.ref q) (D.lst ds).py
    rw [D.py]
    exact .lst hq (reps_dp hh.sub rr p')
def oNeM : G2 := fun x y s R => ((dref x s).eqOk = true ∧ (dref y s).eqOk = true) ∧ R (.bl (!(dref x s).eqb (dref y s))) s
theorem od_neM (hu : X.A.units + 64 < cLine) : OpD X T (compareOp .NotEq) oNeM := .of (op_neD hu) fun F s H x y vx vy R Q hh rx ry hg post => by
  obtain ⟨⟨h1, h2⟩, q⟩ := hg
  exact ⟨_, _, rep_dpM hh rx (eqOk_pl h1).1, rep_dpM hh ry (eqOk_pl h2).1, (eqOk_pl h1).2, (eqOk_pl h2).2, post _ s _ H F q Ext.refl hh (.bl _)⟩
theorem Hold.takeL {K : PySem.W.Frag} {T : Tb} {F H : Hp} {s : S} {p : Addr} {xs : List V} {ds : List D} (hh : Hold K T F s H) (h : H p = some (.lst xs)) (n : ¬ own F s H p) (r : Reps K T F ds xs) : Hold K T F (s.put p (.ml ds)) H := by
  refine ⟨hh.sub, fun q u e => ?_, fun q k e => ?_, hh.tab, hh.tabF⟩
  · have e2 : (if q = p then some (MO.ml ds) else s.mu q) = some u := e
    by_cases z : q = p
    · rw [if_pos z] at e2; cases e2
      rw [z]
      exact ⟨notF n, xs, h, r⟩
    · rw [if_neg z] at e2
      exact hh.mu q u e2
  · obtain ⟨l, c, t, cs, ls, g1, g2, g3, g4, g5, g6, g7, g8, g9⟩ := hh.gen q k e
    have nq : q ≠ p := fun z => n (by rw [← z]; exact .inr (.inr ⟨q, k, e, .inl rfl⟩))
    have nl : l ≠ p := fun z => n (by rw [← z]; exact .inr (.inr ⟨q, k, e, .inr ⟨_, l, g5, rfl, rfl⟩⟩))
    refine ⟨l, c, t, cs, ls, g1, g2, ?_, ?_, g5, g6, g7, g8, g9⟩
    · show (if q = p then some (MO.ml ds) else s.mu q) = none
      rw [if_neg nq]; exact g3
    · show (if l = p then some (MO.ml ds) else s.mu l) = none
      rw [if_neg nl]; exact g4
theorem Ext.takeL {F0 H0 F H : Hp} {s0 s : S} (x : Ext F0 s0 H0 F s H) {p : Addr} {m : MO} (n0 : H0 p = none) (n : ¬ own F s H p) : Ext F0 s0 H0 F (s.put p m) H := ⟨x.same, fun q u e w z => by
  have ne : q ≠ p := fun y => by rw [y, n0] at e; cases e
  obtain ⟨h1, n1⟩ := x.rest q u e w z
  refine ⟨h1, fun y => n1 ?_⟩
  rcases y with y | y | y
  · exact .inl y
  · have y' : (if q = p then some m else s.mu q) ≠ none := y
    rw [if_neg ne] at y'
    exact .inr (.inl y')
  · exact .inr (.inr y)⟩
/-- one clause, the list to be changed -/
def dLcM (f0 : Arg) (g : DG) (t : Tst) (f : Exp) (vs : List Nat) : Exp := fun e s R E => f0 e s (fun ds s1 => ds.length ≤ sizeLine ∧ dComp g t f (dwipe e vs) (fun ys s2 => ∀ p, s2.mu p = none → R (.rf (.ref p)) (s2.put p (.ml ys))) ds [] s1) E
theorem lcM_lift {g : DG} {vs : List Nat} {f0 : Arg} {t : Tst} {f : Exp} {σ : L2.St} {H : Hp} {Q : VK} (h : liftE X.K T W (dLcM f0 g t f vs) σ H Q) : tLc (liftI X.K T W f0) (liftGo X.K T vs g) (liftT X.K T wF t) (liftE X.K T wF f) vs σ H Q := by
  obtain ⟨F, e, s, R, E, he, hh, hx, hf, post⟩ := h
  refine ⟨F, e, s, _, E, he, hh, hx, hf, fun ds s1 J H1 F1 q1 x1 hh1 it Dl nD => ?_⟩
  obtain ⟨hz, q1⟩ := q1
  obtain ⟨hb, xb, ob⟩ := hh1.begin nD
  refine ⟨fun i m H' => ∃ F' s' acc vsx, i ≤ ds.length ∧ m = ds.length - i ∧ acc.length ≤ i ∧ Hold X.K T F' s' H' ∧ Ext F1 s1 H1 F' s' H' ∧ H' Dl = some (.lst vsx) ∧ ¬ own F' s' H' Dl ∧ Reps X.K T F' acc vsx ∧ dComp g t f (dwipe e vs) (fun ys s2 => ∀ p, s2.mu p = none → R (.rf (.ref p)) (s2.put p (.ml ys))) (ds.drop i) acc s',
    ⟨_, F1, s1, [], [], Nat.zero_le _, rfl, Nat.le_refl _, hb, xb, upd_same, ob, .nil, q1⟩, ?_⟩
  rintro i m H2 ⟨F2, s2, acc, vsx, hle, rfl, hacc, hh2, x2, h2, o2, ra, q2⟩
  obtain ⟨hstop, hgo⟩ := it F2 s2 H2 x2.same hh2
  by_cases hi : i < ds.length
  · obtain ⟨go, hy⟩ := hgo i ds[i] (List.getElem?_eq_getElem hi)
    rw [List.drop_eq_getElem_cons hi] at q2
    refine .inr ⟨go, fun H' => ∃ F' s' acc vsx, acc.length ≤ i + 1 ∧ Hold X.K T F' s' H' ∧ Ext F1 s1 H1 F' s' H' ∧ H' Dl = some (.lst vsx) ∧ ¬ own F' s' H' Dl ∧ Reps X.K T F' acc vsx ∧ dComp g t f (dwipe e vs) (fun ys s2 => ∀ p, s2.mu p = none → R (.rf (.ref p)) (s2.put p (.ml ys))) (ds.drop (i + 1)) acc s',
      fun H' ⟨F', s', acc, vsx, a1, a2, a3, a4, a5, a6, a7⟩ => ⟨_, by omega, F', s', acc, vsx, by omega, rfl, a1, a2, a3, a4, a5, a6, a7⟩, fun v H3 y => ?_⟩
    obtain ⟨F3, x3, hh3, r3⟩ := hy v H3 y
    refine ⟨F3, _, dwipe e vs, s2, _, r3, ((he.mono x1.same).mono (x2.same.trans x3.same)).wipe vs, hh3, q2, fun e4 s4 σ4 H4 F4 q4 x4 hh4 he4 w4 => ⟨by rw [w4, wipe_wipe], ?_⟩⟩
    refine ⟨F4, e4, s4, _, _, he4, hh4, xok_none, q4, fun b s5 H5 F5 q5 x5 hh5 => ?_⟩
    have xx := ((x2.trans x3).trans x4).trans x5
    obtain ⟨h5, o5⟩ := ((x3.trans x4).trans x5).keep h2 o2
    have ra5 := ra.mono ((x3.trans x4).trans x5).same
    cases b with
    | false => exact ⟨F5, s5, acc, vsx, by omega, hh5, xx, h5, o5, ra5, q5⟩
    | true =>
      refine ⟨F5, e4, s5, _, _, he4.mono x5.same, hh5, xok_none, q5, fun d s6 w H6 F6 q6 x6 hh6 r6 => ?_⟩
      obtain ⟨h6, o6⟩ := x6.keep h5 o5
      have ra6 := ra5.mono x6.same
      refine ⟨vsx, h6, by rw [← ra6.length]; omega, ?_⟩
      obtain ⟨g1, g2⟩ := hh6.grow (ys := vsx ++ [w]) h6 o6
      exact ⟨F6, s6, acc ++ [d], vsx ++ [w], by rw [List.length_append]; show acc.length + 1 ≤ i + 1; omega, g1, (xx.trans x6).grow nD o6, upd_same, g2, ra6.append (.cons r6 .nil), q6⟩
  · have hn : ds.length ≤ i := by omega
    rw [List.drop_eq_nil_of_le hn] at q2
    refine .inl ⟨hstop i hn, ?_⟩
    exact post _ _ _ H2 F2 (q2 Dl (notM o2)) (x1.trans (x2.takeL nD o2)) (hh2.takeL h2 o2 ra) (.rf _)
theorem dx_lcM {g : DG} {elt tg iter : Expr} {ifs : List Expr} {scope : Scope} {own : List (Str × Nat)} {f0 : Arg} {t : Tst} {f : Exp} (hc : X.calm = true) (hN : X.N.Nodup) (hi : DI X T W tg iter f0) (ok : BlkOk X.N X.env.scope scope own)
    (hg : BlkAll X scope fun Y => DPGo Y T (own.map (·.2)) tg g) (ht : BlkAll X scope fun Y => DTs Y T wF ifs t) (he : BlkAll X scope fun Y => DX Y T wF elt f) (hs : ∀ x, foldedSetIterable iter X.env x = pure x := by intro _; rfl) :
    DX X T W (.ListComp elt [⟨tg, iter, ifs, 0⟩] scope pos) (dLcM f0 g t f (own.map (·.2))) :=
  ⟨pe_imp (pe_lc hc hN hi.pi ok (fun s H C cl fp => (hg s H C cl fp).pg) (fun s H C cl fp => (ht s H C cl fp).pts) (fun s H C cl fp => (he s H C cl fp).pe) hs) fun σ H Q h => lcM_lift h⟩
/-- a slice of a list, to be changed -/
def oSlM (x : D) (lo hi : Option Int) (s : S) (R : Q1) : Prop := ∃ ds, lstOf x s = some ds ∧ ∀ p, s.mu p = none → R (.rf (.ref p)) (s.put p (.ml (cutD ds lo hi)))
def dSlM (f : Exp) (l h : Prt) : Exp := fun e s R E => f e s (fun d s1 => l e s1 (fun lo s2 => h e s2 (fun hi s3 => oSlM d lo hi s3 R) E) E) E
theorem dx_sliceM {lo hi : Option Expr} {l h : Prt} {p2 : Pos} (ha : DX X T W a fa) (hl : DPO X T W lo l) (hh : DPO X T W hi h) : DX X T W (.Subscript a (.Slice lo hi none p2) pos) (dSlM fa l h) := ⟨pe_imp (pe_slice sl_list ha.pe hl.po hh.po) fun σ H Q hq => by
  obtain ⟨F, e, s, R, E, he, hd, hx, hf, post⟩ := hq
  refine ⟨F, e, s, _, E, he, hd, hx, hf, fun d s1 v H1 F1 q1 x1 hd1 r1 => ⟨F1, e, s1, _, E, he.mono x1.same, hd1, hx.mono x1, q1, fun o1 s2 H2 F2 q2 x2 hd2 => ⟨F2, e, s2, _, E, (he.mono x1.same).mono x2.same, hd2, (hx.mono x1).mono x2, q2, fun o2 s3 H3 F3 q3 x3 hd3 => ?_⟩⟩⟩
  have r3 := (r1.mono x2.same).mono x3.same
  have px := ((post.mono x1).mono x2).mono x3
  obtain ⟨ds, h1, q⟩ := q3
  obtain ⟨p, xs, rfl, hL, rr⟩ := r3.lstq hd3 h1
  refine ⟨p, xs, rfl, hL, fun t nt => ?_⟩
  exact px _ _ _ _ F3 (q t (hd3.freshM nt)) (Ext.new hd3 nt) (hd3.new nt ⟨_, rfl, rr.cut o1 o2⟩) (.rf _)⟩
def genM (cs : List Int) (l : Addr) (t : Int) : MO := .mk [(Sum.inr "cells", .lst (cs.map .int)), (Sum.inr "left", .rf (.ref l)), (Sum.inr "at", .int t)]
/-- its two things may change -/
def S.open (s : S) (p l : Addr) (cs ls : List Int) (t : Int) : S := (S.mk s.mu none |>.put l (.ml (ls.map .int))).put p (genM cs l t)
/-- .. or are nobody's but the draws' -/
def S.shut (s : S) (p l : Addr) (n : Nat) : S := ⟨((s.del p).del l).mu, some (p, n)⟩
section
variable {K : PySem.W.Frag} {T : Tb} {F H : Hp} {s : S} {p l : Addr} {n : Nat} {cs ls : List Int} {t : Int}
theorem Hold.openG (hh : Hold K T F s H) (e : s.g = some (p, n)) : ∃ (l : Addr) (t : Int) (cs ls : List Int), 0 ≤ t ∧ t + n ≤ 2 ^ 60 ∧ s.mu p = none ∧ s.mu l = none ∧ l ≠ p ∧ Hold K T F (s.open p l cs ls t) H ∧ Ext F s H F (s.open p l cs ls t) H := by
  obtain ⟨l, c, t, cs, ls, g1, g2, g3, g4, g5, g6, g7, g8, g9⟩ := hh.gen p n e
  have np : l ≠ p := fun z => by rw [z, g5] at g7; cases g7
  refine ⟨l, t, cs, ls, g8, g9, g3, g4, np, ⟨hh.sub, fun q u w => ?_, fun q k w => (by cases w), hh.tab, hh.tabF⟩, Same.refl F, fun q u w z zz => ⟨w, fun y => z ?_⟩⟩
  · have w' : (if q = p then some (genM cs l t) else if q = l then some (MO.ml (ls.map .int)) else s.mu q) = some u := w
    by_cases z : q = p
    · rw [if_pos z] at w'
      cases w'
      subst z
      exact ⟨g1, _, g5, .cons (.lst g6 reps_of_ints) (.cons (.rf _) (.cons (.int t) .nil))⟩
    · rw [if_neg z] at w'
      by_cases zl : q = l
      · rw [if_pos zl] at w'
        cases w'
        subst zl
        exact ⟨g2, _, g7, reps_of_ints⟩
      · rw [if_neg zl] at w'
        exact hh.mu q u w'
  · rcases y with y | y | ⟨a, m, h1, _⟩
    · exact .inl y
    · have y' : (if q = p then some (genM cs l t) else if q = l then some (MO.ml (ls.map .int)) else s.mu q) ≠ none := y
      by_cases z : q = p
      · exact .inr (.inr ⟨p, n, e, .inl z⟩)
      · rw [if_neg z] at y'
        by_cases zl : q = l
        · exact .inr (.inr ⟨p, n, e, .inr ⟨_, l, g5, rfl, zl⟩⟩)
        · rw [if_neg zl] at y'
          exact .inr (.inl y')
    · cases h1
theorem Hold.shutG (hh : Hold K T F s H) (g0 : s.g = none) (hp : s.mu p = some (genM cs l t)) (hl : s.mu l = some (.ml (ls.map .int))) (h0 : 0 ≤ t) (h1 : t + n ≤ 2 ^ 60) : Hold K T F (s.shut p l n) H ∧ Ext F s H F (s.shut p l n) H := by
  obtain ⟨fp, ws, ep, rp⟩ := hh.mu p _ hp
  obtain ⟨fl, vs, el, rl⟩ := hh.mu l _ hl
  have e1 := reps_ints rl
  subst e1
  cases rp with | cons r1 rp => cases rp with | cons r2 rp => cases rp with | cons r3 rp =>
  cases rp
  cases r2; cases r3
  cases r1 with | lst lc rc =>
  have e2 := reps_ints rc
  subst e2
  have dl : ∀ q, (s.shut p l n).mu q = if q = l then none else if q = p then none else s.mu q := fun q => rfl
  refine ⟨⟨hh.sub, fun q u w => ?_, fun q k w => ?_, hh.tab, hh.tabF⟩, Same.refl F, fun q u w z zz => ⟨w, fun y => z ?_⟩⟩
  · rw [dl] at w
    split at w
    · cases w
    · split at w
      · cases w
      · exact hh.mu q u w
  · cases w
    refine ⟨l, _, t, cs, ls, fp, fl, ?_, ?_, ep, lc, el, h0, h1⟩
    · rw [dl]; split <;> simp
    · rw [dl, if_pos rfl]
  · rcases y with y | y | ⟨a, m, h1, h2⟩
    · exact .inl y
    · rw [dl] at y
      split at y
      · exact absurd rfl y
      · split at y
        · exact absurd rfl y
        · exact .inr (.inl y)
    · cases h1
      refine .inr (.inl ?_)
      rcases h2 with h2 | ⟨kvs, l', h3, h4, h5⟩
      · rw [h2, hp]; exact fun z => by cases z
      · rw [ep] at h3; cases h3
        have e : some (V.ref l) = some (V.ref l') := h4
        cases e
        rw [h5, hl]; exact fun z => by cases z
end
def dOpen (i : Nat) (t : DTS) : DTS := fun D e s => ∃ p n, nth e i = some (.rf (.ref p)) ∧ s.g = some (p, n) ∧ ∀ (l : Addr) (t0 : Int) (cs ls : List Int), 0 ≤ t0 → t0 + n ≤ 2 ^ 60 → s.mu p = none → s.mu l = none → l ≠ p → t D e (s.open p l cs ls t0)
theorem dss_open {i : Nat} {sts : List Stmt} {t : DTS} (h : DSs X T W sts t) : DSs X T W sts (dOpen i t) := ⟨pss_imp h.pss fun Q σ H ⟨F, e, s, D, he, hh, ht, p⟩ => by
  obtain ⟨q, n, h1, h2, h3⟩ := ht
  obtain ⟨l, t0, cs, ls, a1, a2, a3, a4, a5, a6, a7⟩ := hh.openG h2
  exact ⟨F, e, _, D, he, a6, h3 l t0 cs ls a1 a2 a3 a4 a5, p.mono a7⟩⟩
/-- a value, the draws' dict at slot i shut behind it -/
def dShut (i : Nat) (f : Exp) : Exp := fun e s R E => f e s (fun d s1 => ∃ (p l : Addr) (cs ls : List Int) (t : Int) (n : Nat), nth e i = some (.rf (.ref p)) ∧ s1.g = none ∧ s1.mu p = some (genM cs l t) ∧ s1.mu l = some (.ml (ls.map .int)) ∧ 0 ≤ t ∧ t + n ≤ 2 ^ 60 ∧ R d (s1.shut p l n)) E
theorem dx_shut {i : Nat} (h : DX X T W a fa) : DX X T W a (dShut i fa) := ⟨pe_imp h.pe fun σ H Q hq => by
  obtain ⟨F, e, s, R, E, he, hh, hx, hf, post⟩ := hq
  refine ⟨F, e, s, _, E, he, hh, hx, hf, fun x s1 vx H1 F1 q1 e1 hh1 rx => ?_⟩
  obtain ⟨p, l, cs, ls, t, n, h0, h1, h2, h3, h4, h5, q⟩ := q1
  obtain ⟨a1, a2⟩ := hh1.shutG h1 h2 h3 h4 h5
  exact post _ _ _ H1 F1 q (e1.trans a2) a1 rx⟩
/-- the draws' dict itself, just made -/
def dShutV (n : Nat) (f : Exp) : Exp := fun e s R E => f e s (fun d s1 => ∃ (p l : Addr) (cs ls : List Int) (t : Int), d = .rf (.ref p) ∧ s1.g = none ∧ s1.mu p = some (genM cs l t) ∧ s1.mu l = some (.ml (ls.map .int)) ∧ 0 ≤ t ∧ t + n ≤ 2 ^ 60 ∧ R d (s1.shut p l n)) E
theorem dx_shutV {n : Nat} (h : DX X T W a fa) : DX X T W a (dShutV n fa) := ⟨pe_imp h.pe fun σ H Q hq => by
  obtain ⟨F, e, s, R, E, he, hh, hx, hf, post⟩ := hq
  refine ⟨F, e, s, _, E, he, hh, hx, hf, fun x s1 vx H1 F1 q1 e1 hh1 rx => ?_⟩
  obtain ⟨p, l, cs, ls, t, h0, h1, h2, h3, h4, h5, q⟩ := q1
  obtain ⟨a1, a2⟩ := hh1.shutG h1 h2 h3 h4 h5
  exact post _ _ _ H1 F1 q (e1.trans a2) a1 rx⟩
end
end Bk
namespace Bk
open PySem PySem.Spec PyProof.Rows L2
/-- plain, of at most k levels, w weight -/
structure Okd (k w : Nat) (d : D) : Prop where
  pl : d.pl = true
  lay : d.py.canLay0 = true
  dep : d.py.depth ≤ k
  wt : d.py.weight ≤ w
  short : d.py.intsShort 13 = true
  sh : d.py.showable = true
def nmOk (x : Str) : Prop := PyData.strOk x = true ∧ x.length ≤ 64
theorem Okd.mono {k w k' w' : Nat} {d : D} (h : Okd k w d) (hk : k ≤ k') (hw : w ≤ w') : Okd k' w' d := ⟨h.pl, h.lay, Nat.le_trans h.dep hk, Nat.le_trans h.wt hw, h.short, h.sh⟩
theorem okd_str {x : Str} {k w : Nat} (h : PyData.strOk x = true) (hw : x.length ≤ w) : Okd k w (.str x) where
  pl := rfl
  lay := by rw [D.py, PyData.canLay0]; exact h
  dep := by rw [D.py, PyData.depth]; exact Nat.zero_le _
  wt := by rw [D.py, PyData.weight]; exact hw
  short := by rw [D.py, PyData.intsShort]
  sh := by rw [D.py, PyData.showable]
theorem okd_nm {x : Str} {k : Nat} (h : nmOk x) : Okd k 64 (.str x) := okd_str h.1 h.2
theorem log2_lt {n k : Nat} (h : n < 2 ^ k) (hk : 0 < k) : n.log2 < k := by
  by_cases e : n = 0
  · subst e; rw [Nat.log2_zero]; exact hk
  · exact (Nat.log2_lt e).mpr h
theorem okds {k w n : Nat} : ∀ {xs : List D}, (∀ x ∈ xs, Okd k w x) → xs.length ≤ n → D.pls xs = true ∧ PyData.canLayAll0 (D.pys xs) = true ∧ PyData.depthAll (D.pys xs) ≤ k ∧ PyData.weightAll (D.pys xs) ≤ n * (w + 1) ∧ PyData.intsShortAll 13 (D.pys xs) = true ∧ PyData.showableAll (D.pys xs) = true
  | [], _, _ => by simp [D.pls, D.pys, PyData.canLayAll0, PyData.depthAll, PyData.weightAll, PyData.intsShortAll, PyData.showableAll]
  | x :: xs, h, hn => by
    cases n with
    | zero => exact absurd hn (Nat.not_succ_le_zero _)
    | succ n =>
      have h1 := h x List.mem_cons_self
      obtain ⟨a1, a2, a3, a4, a5, a6⟩ := okds (n := n) (fun y hy => h y (List.mem_cons_of_mem _ hy)) (Nat.le_of_succ_le_succ hn)
      simp only [D.pls, D.pys, PyData.canLayAll0, PyData.depthAll, PyData.weightAll, PyData.intsShortAll, PyData.showableAll, Bool.and_eq_true]
      have := h1.wt
      have e : (n + 1) * (w + 1) = n * (w + 1) + (w + 1) := Nat.succ_mul ..
      exact ⟨⟨h1.pl, a1⟩, ⟨h1.lay, a2⟩, Nat.max_le.mpr ⟨h1.dep, a3⟩, by omega, ⟨h1.short, a5⟩, ⟨h1.sh, a6⟩⟩
theorem okd_tup {k w n : Nat} {xs : List D} (h : ∀ x ∈ xs, Okd k w x) (hn : xs.length ≤ n) : Okd (k + 1) (n * (w + 1)) (.tup xs) := by
  obtain ⟨a1, a2, a3, a4, a5, a6⟩ := okds h hn
  refine ⟨by rw [D.pl]; exact a1, by rw [D.py, PyData.canLay0]; exact a2, by rw [D.py, PyData.depth]; omega, by rw [D.py, PyData.weight]; exact a4, by rw [D.py, PyData.intsShort]; exact a5, by rw [D.py, PyData.showable]; exact a6⟩
theorem okd_lst {k w n : Nat} {xs : List D} (h : ∀ x ∈ xs, Okd k w x) (hn : xs.length ≤ n) : Okd (k + 1) (n * (w + 1)) (.lst xs) := by
  obtain ⟨a1, a2, a3, a4, a5, a6⟩ := okds h hn
  refine ⟨by rw [D.pl]; exact a1, by rw [D.py, PyData.canLay0]; exact a2, by rw [D.py, PyData.depth]; omega, by rw [D.py, PyData.weight]; exact a4, by rw [D.py, PyData.intsShort]; exact a5, by rw [D.py, PyData.showable]; exact a6⟩
theorem Okd.eqOk {k w : Nat} {d : D} (h : Okd k w d) (hk : k ≤ 64) : d.eqOk = true := by
  unfold D.eqOk SeqAt.shaped
  rw [h.pl, h.lay, decide_eq_true (Nat.le_trans h.dep hk)]; rfl
/-- the texts of a list -/
def texts (ns : List Str) : List D := ns.map .str
theorem texts_len (ns : List Str) : (texts ns).length = ns.length := by unfold texts; simp
theorem okd_texts {ns : List Str} {k : Nat} (h : ∀ x ∈ ns, nmOk x) : ∀ x ∈ texts ns, Okd k 64 x := fun d hd => by
  obtain ⟨x, hx, rfl⟩ := List.mem_map.mp hd
  exact okd_nm (h x hx)
theorem eqb_str (x y : Str) : (D.str x).eqb (.str y) = decide (x = y) := by
  unfold D.eqb
  rw [D.py, D.py, PyData.eqv]
  by_cases h : x = y
  · subst h; simp
  · simp [h]
theorem eqb_int (x y : Int) : (D.int x).eqb (.int y) = decide (x = y) := by
  unfold D.eqb
  rw [D.py, D.py, PyData.eqv]
  by_cases h : x = y
  · subst h; simp
  · simp [h]
theorem isIn_texts (x : Str) (ns : List Str) : isIn (.str x) (texts ns) = decide (x ∈ ns) := by
  unfold isIn texts
  rw [List.any_map]
  by_cases h : x ∈ ns
  · rw [decide_eq_true h]
    exact List.any_eq_true.mpr ⟨x, h, by show (D.str x).eqb (.str x) = true; rw [eqb_str]; exact decide_eq_true rfl⟩
  · rw [decide_eq_false h, List.any_eq_false]
    intro y hy z
    have z' : (D.str y).eqb (.str x) = true := z
    rw [eqb_str, decide_eq_true_eq] at z'
    exact h (z' ▸ hy)
theorem Sub.of {mu mu' : Addr → Option MO} {p : Addr} {n m : Nat} (h : ∀ q o, mu q = some o → mu' q = some o) (hn : n ≤ m) : Sub ⟨mu, some (p, n)⟩ ⟨mu', some (p, m)⟩ := ⟨h, fun q k e => by cases e; exact ⟨m, hn, rfl⟩⟩
end Bk
namespace Bk
open PySem PySem.Spec PyProof.Rows L2
theorem okd_ints_pl (ns : List Int) : (D.lst (ns.map .int)).eqOk = true := by
  have h : ∀ ns : List Int, D.pls (ns.map .int) = true ∧ PyData.canLayAll0 (D.pys (ns.map .int)) = true ∧ PyData.depthAll (D.pys (ns.map .int)) = 0 := by
    intro ns
    induction ns with
    | nil => simp [D.pls, D.pys, PyData.canLayAll0, PyData.depthAll]
    | cons n ns ih => simp [D.pls, D.pys, PyData.canLayAll0, PyData.depthAll, D.pl, D.py, PyData.canLay0, PyData.depth, ih.1, ih.2.1, ih.2.2]
  obtain ⟨h1, h2, h3⟩ := h ns
  unfold D.eqOk SeqAt.shaped
  rw [D.pl, D.py, PyData.canLay0, PyData.depth, h1, h2, h3]; rfl
theorem eqOk_int (i : Int) : (D.int i).eqOk = true := by
  unfold D.eqOk SeqAt.shaped
  rw [D.pl, D.py, PyData.canLay0, PyData.depth]; rfl
theorem eqb_lst_nil (xs : List D) : (D.lst xs).eqb (.lst []) = xs.isEmpty := by
  unfold D.eqb
  rw [D.py, D.py, PyData.eqv]
  cases xs with
  | nil => rw [D.pys, PyData.eqvAll]; rfl
  | cons x xs => rw [D.pys, D.pys, PyData.eqvAll]; rfl
def genK (cs : List Int) (l : Addr) (t : Int) : List (Key × D) := [(Sum.inr "cells", .lst (cs.map .int)), (Sum.inr "left", .rf (.ref l)), (Sum.inr "at", .int t)]
theorem k_cl : (("cells" : Str) = "left") = False := by decide
theorem k_ca : (("cells" : Str) = "at") = False := by decide
theorem k_la : (("left" : Str) = "at") = False := by decide
theorem k_al : (("at" : Str) = "left") = False := by decide
theorem gen_left (cs : List Int) (l : Addr) (t : Int) : dval (genK cs l t) (Sum.inr "left") = some (.rf (.ref l)) := by
  unfold dval genK
  simp [k_cl]
theorem gen_cells (cs : List Int) (l : Addr) (t : Int) : dval (genK cs l t) (Sum.inr "cells") = some (.lst (cs.map .int)) := by
  unfold dval genK
  simp
theorem gen_at (cs : List Int) (l : Addr) (t : Int) : dval (genK cs l t) (Sum.inr "at") = some (.int t) := by
  unfold dval genK
  simp [k_ca, k_la]
theorem gen_put_left (cs : List Int) (l l' : Addr) (t : Int) : dput (genK cs l t) (Sum.inr "left") (.rf (.ref l')) = genK cs l' t := by
  unfold dput genK
  rw [if_pos (by simp)]
  simp [k_cl, k_al]
theorem gen_put_at (cs : List Int) (l : Addr) (t t' : Int) : dput (genK cs l t) (Sum.inr "at") (.int t') = genK cs l t' := by
  unfold dput genK
  rw [if_pos (by simp)]
  simp [k_ca, k_la]
structure GO (mu0 : Addr → Option MO) (p : Addr) (cs : List Int) (t : Int) (s : S) (l : Addr) (ls : List Int) : Prop where
  g0 : s.g = none
  hp : s.mu p = some (.mk (genK cs l t))
  hl : s.mu l = some (.ml (ls.map .int))
  np : l ≠ p
  sub : ∀ q o, mu0 q = some o → s.mu q = some o
  m0p : mu0 p = none
  m0l : mu0 l = none
section
variable {mu0 : Addr → Option MO} {p l : Addr} {cs ls : List Int} {t : Int} {s : S}
theorem GO.start {n : Nat} (hp : mu0 p = none) (hl : mu0 l = none) (np : l ≠ p) : GO mu0 p cs t (S.open ⟨mu0, some (p, n)⟩ p l cs ls t) l ls := by
  have e : ∀ q, (S.open ⟨mu0, some (p, n)⟩ p l cs ls t).mu q = if q = p then some (genM cs l t) else if q = l then some (MO.ml (ls.map .int)) else mu0 q := fun q => rfl
  refine ⟨rfl, by rw [e, if_pos rfl]; rfl, by rw [e, if_neg np, if_pos rfl], np, fun q o h => ?_, hp, hl⟩
  rw [e, if_neg (fun z => by rw [z, hp] at h; cases h), if_neg (fun z => by rw [z, hl] at h; cases h)]
  exact h
theorem GO.toAt (G : GO mu0 p cs t s l ls) (t' : Int) : GO mu0 p cs t' (s.put p (.mk (genK cs l t'))) l ls := by
  have e : ∀ q, (s.put p (.mk (genK cs l t'))).mu q = if q = p then some (MO.mk (genK cs l t')) else s.mu q := fun q => rfl
  refine ⟨G.g0, by rw [e, if_pos rfl], by rw [e, if_neg G.np]; exact G.hl, G.np, fun q o h => ?_, G.m0p, G.m0l⟩
  rw [e, if_neg (fun z => by rw [z, G.m0p] at h; cases h)]
  exact G.sub q o h
theorem GO.toLs (G : GO mu0 p cs t s l ls) (ls' : List Int) : GO mu0 p cs t (s.put l (.ml (ls'.map .int))) l ls' := by
  have e : ∀ q, (s.put l (.ml (ls'.map .int))).mu q = if q = l then some (MO.ml (ls'.map .int)) else s.mu q := fun q => rfl
  refine ⟨G.g0, by rw [e, if_neg G.np.symm]; exact G.hp, by rw [e, if_pos rfl], G.np, fun q o h => ?_, G.m0p, G.m0l⟩
  rw [e, if_neg (fun z => by rw [z, G.m0l] at h; cases h)]
  exact G.sub q o h
theorem GO.toL (G : GO mu0 p cs t s l ls) {l' : Addr} (n : s.mu l' = none) (ls' : List Int) : GO mu0 p cs t ((s.put l' (.ml (ls'.map .int))).put p (.mk (genK cs l' t))) l' ls' := by
  have e : ∀ q, ((s.put l' (.ml (ls'.map .int))).put p (.mk (genK cs l' t))).mu q = if q = p then some (MO.mk (genK cs l' t)) else if q = l' then some (MO.ml (ls'.map .int)) else s.mu q := fun q => rfl
  have np : l' ≠ p := fun z => by rw [z, G.hp] at n; cases n
  have nl : mu0 l' = none := by
    cases h : mu0 l' with
    | none => rfl
    | some o => rw [G.sub _ _ h] at n; cases n
  refine ⟨G.g0, by rw [e, if_pos rfl], by rw [e, if_neg np, if_pos rfl], np, fun q o h => ?_, G.m0p, nl⟩
  rw [e, if_neg (fun z => by rw [z, G.m0p] at h; cases h), if_neg (fun z => by rw [z, nl] at h; cases h)]
  exact G.sub q o h
theorem GO.shut (G : GO mu0 p cs t s l ls) (n : Nat) : Sub ⟨mu0, some (p, n)⟩ (s.shut p l n) := by
  have e : ∀ q, (s.shut p l n).mu q = if q = l then none else if q = p then none else s.mu q := fun q => rfl
  refine Sub.of (mu' := (s.shut p l n).mu) (fun q o h => ?_) (Nat.le_refl n)
  rw [e, if_neg (fun z => by rw [z, G.m0l] at h; cases h), if_neg (fun z => by rw [z, G.m0p] at h; cases h)]
  exact G.sub q o h
end
theorem cut_tail (x : D) (xs : List D) : cutD (x :: xs) (some 1) none = xs := by
  unfold cutD
  rw [show HT.sIx (x :: xs).length 0 (some 1) = min 1 (x :: xs).length from HT.sIx_nat (x :: xs).length 0 1, HT.sIx_none]
  rw [show min 1 (x :: xs).length = 1 by rw [List.length_cons]; omega]
  show List.take ((x :: xs).length - 1) xs = xs
  rw [List.length_cons, Nat.add_sub_cancel]
  exact List.take_length
theorem atI_0 {α : Type} (x : α) (xs : List α) : atI (x :: xs) 0 = some x := by
  unfold atI ixN
  rw [if_pos (by omega), if_pos (by rw [List.length_cons]; omega)]; rfl
theorem ixN_0 {α : Type} (x : α) (xs : List α) : ixN (x :: xs).length 0 = some 0 := by
  unfold ixN
  rw [if_pos (by omega), if_pos (by rw [List.length_cons]; omega)]; rfl
theorem atI_of {α : Type} {xs : List α} {i : Int} (h0 : 0 ≤ i) (h1 : i < xs.length) : ∃ x, atI xs i = some x ∧ x ∈ xs := by
  unfold atI ixN
  rw [if_pos h0, if_pos h1]
  have : i.toNat < xs.length := by omega
  exact ⟨xs[i.toNat], by show xs[i.toNat]? = _; exact List.getElem?_eq_getElem this, List.getElem_mem this⟩
abbrev N_law_begun : List Str := ["_law_script", "_law_cell"]
def t_law_begun : DTS := (dRet (dShutV 1125899906842624 (dDispM [((dC (.str "cells")), (dBlt cList (dCons (dVar 0) dNil))), ((dC (.str "left")), (dLcM (dIter (dVar 0)) (gdName 1) (dTst (dOp oGe (dVar 1) (dOp oPow (dC (.int 10)) (dC (.int 18))))) (dVar 1) [1])), ((dC (.str "at")), (dC (.int 0)))])))
def p_law_begun : Fn := fun ds s R _ => ∃ ns, ds = [.scr ns] ∧ s = ⟨fun _ => none, none⟩ ∧ ∀ p, R (.rf (.ref p)) ⟨fun _ => none, some (p, 1125899906842624)⟩
theorem comp_filter {c : Int → Bool} {f : Exp} {e0 : DEnv} {t : Tst} {R : List D → S → Prop} {s : S} (ns : List Int) (acc : List D) (h : R (acc ++ (ns.filter c).map .int) s)
    (ht : ∀ n (Rt : Bool → S → Prop) E, t (dset e0 1 (some (.int n))) s Rt E = Rt (c n) s) (hf : ∀ n (Rf : Q1) E, f (dset e0 1 (some (.int n))) s Rf E = Rf (.int n) s) : dComp (gdName 1) t f e0 R (ns.map .int) acc s := by
  induction ns generalizing acc with
  | nil => simpa [dComp] using h
  | cons n ns ih =>
    rw [List.map_cons, dComp]
    show t (dset e0 1 (some (.int n))) s _ _
    rw [ht]
    cases e : c n with
    | true =>
      rw [if_pos rfl, hf]
      exact ih _ (by rw [List.filter_cons_of_pos e, List.map_cons] at h; simpa [List.append_assoc] using h)
    | false =>
      rw [if_neg (by decide)]
      exact ih _ (by rw [List.filter_cons_of_neg (by rw [e]; decide)] at h; exact h)
theorem r_law_begun : ∀ ds s R E, ds.length = 1 → p_law_begun ds s R E → t_law_begun (fnEnds R E) (dstart N_law_begun ds) s := by
  rintro _ _ R E _ ⟨ns, rfl, rfl, h⟩
  refine ⟨ns.map .int, rfl, fun hz => ⟨by rw [List.length_map]; exact hz, ?_⟩⟩
  refine comp_filter (c := fun n => decide (10 ^ 18 ≤ n)) ns [] ?_ (fun n Rt E => ?_) (fun n Rf E => rfl)
  · intro l _
    refine ⟨[(Sum.inr "cells", .lst (ns.map .int)), (Sum.inr "left", .rf (.ref l)), (Sum.inr "at", .int 0)], rfl, Nat.le_of_ble_eq_true rfl, fun p hp => ?_⟩
    have np : l ≠ p := fun z => by
      subst z
      have hp' : (if l = l then some _ else none : Option MO) = none := hp
      rw [if_pos rfl] at hp'; cases hp'
    have em : dMerge [] [(Sum.inr "cells", .lst (ns.map .int)), (Sum.inr "left", .rf (.ref l)), (Sum.inr "at", .int 0)] = genK ns l 0 := by
      unfold dMerge genK dput
      simp [k_cl, k_ca, k_la]
    refine ⟨p, l, ns, ns.filter (fun n => decide (10 ^ 18 ≤ n)), 0, rfl, rfl, ?_, ?_, by decide, by decide, ⟨_, ?_, h p⟩⟩
    · show (if p = p then some (MO.mk (dMerge [] _)) else _) = _
      rw [if_pos rfl, em]; rfl
    · show (if l = p then _ else if l = l then some (MO.ml _) else _) = _
      rw [if_neg np, if_pos rfl]; rfl
    · exact .of (fun q o z => by cases z) (Nat.le_refl _)
  · show (CPow 10 18 ∧ _) = _
    rw [eq_iff_iff]
    exact ⟨fun z => z.2, fun z => ⟨⟨by decide, by decide, by decide⟩, z⟩⟩
abbrev N_law_next : List Str := ["_law_m", "_law_many", "_law_rest", "_law_at", "_law_lot", "_law_cell", "_law_blend"]
def t_law_next : DTS := (dOpen 0 (dSeq (dWhile (dAnd (dTst (dOp oNeM (dGet (dVar 0) (dC (.str "left"))) (dLst dNil))) (dTst (dOp oEq (dOp oIx (dGet (dVar 0) (dC (.str "left"))) (dC (.int 0))) (dC (.int 0))))) (dPutS (dVar 0) (dC (.str "left")) (dSlM (dGet (dVar 0) (dC (.str "left"))) (dPart (dC (.int 1))) dNoPart)))
  (dSeq (dIfS (dTst (dOp oNeM (dGet (dVar 0) (dC (.str "left"))) (dLst dNil))) (dSeq (dSet 2 (dOp oIx (dGet (dVar 0) (dC (.str "left"))) (dC (.int 0))))
  (dSeq (dSetIx (dGet (dVar 0) (dC (.str "left"))) (dC (.int 0)) (dOp oDiv (dVar 2) (dVar 1)))
  (dRet (dShut 0 (dOp oMod (dBlt cInt (dCons (dVar 2) dNil)) (dVar 1)))))) dNext)
  (dSeq (dPar 3 4 (dCons (dOp oAdd (dGet (dVar 0) (dC (.str "at"))) (dC (.int 1))) (dCons (dGet (dVar 0) (dC (.str "cells"))) dNil)))
  (dSeq (dPutS (dVar 0) (dC (.str "at")) (dVar 3))
  (dSeq (dSet 5 (dIf (dTst (dOp oNe (dVar 4) (dLst dNil))) (dBlt cInt (dCons (dOp oIx (dVar 4) (dOp oMod (dBlt cInt (dCons (dOp oAdd (dOp oMul (dVar 3) (dVar 3)) (dOp oDiv (dVar 3) (dC (.int 2)))) dNil)) (dBlt cLen (dCons (dVar 4) dNil)))) dNil)) (dC (.int 5))))
  (dSeq (dSet 6 (dOp oMod (dBlt cInt (dCons (dOp oAdd (dOp oAdd (dOp oMul (dVar 5) (dC (.int 40692))) (dOp oMul (dVar 3) (dC (.int 65539)))) (dOp oMul (dOp oMul (dC (.int 7001)) (dVar 3)) (dVar 3))) dNil)) (dC (.int 2147483399))))
  (dRet (dShut 0 (dOp oMod (dBlt cInt (dCons (dOp oDiv (dOp oMod (dBlt cInt (dCons (dOp oAdd (dOp oMul (dVar 6) (dC (.int 48271))) (dOp oMul (dC (.int 1013)) (dVar 3))) dNil)) (dC (.int 2147483647))) (dC (.int 13))) dNil)) (dVar 1)))))))))))
/-- one draw: any number below k -/
def p_law_next : Fn := fun ds s R _ => ∃ mu p m k, ds = [.rf (.ref p), .int k] ∧ s = ⟨mu, some (p, m)⟩ ∧ 1 ≤ m ∧ 0 < k ∧ k < 1073741824 ∧ ∀ r, 0 ≤ r → r < k → R (.int r) ⟨mu, some (p, m - 1)⟩
theorem use_next {mu : Addr → Option MO} {p : Addr} {m : Nat} {k : Int} {R : Q1} {E : XQ} (hm : 1 ≤ m) (h0 : 0 < k) (h1 : k < 1073741824) (h : ∀ r, 0 ≤ r → r < k → R (.int r) ⟨mu, some (p, m - 1)⟩) : p_law_next [.rf (.ref p), .int k] ⟨mu, some (p, m)⟩ R E :=
  ⟨mu, p, m, k, rfl, rfl, hm, h0, h1, h⟩
theorem lstOf_ml {s : S} {l : Addr} {ds : List D} (h : s.mu l = some (.ml ds)) : lstOf (.rf (.ref l)) s = some ds := by
  show (match s.mu l with | some (MO.ml ds) => some ds | _ => none) = _
  rw [h]
theorem dicOf_mk {s : S} {l : Addr} {ds : List (Key × D)} (h : s.mu l = some (.mk ds)) : dicOf (.rf (.ref l)) s = some ds := by
  show (match s.mu l with | some (MO.mk ds) => some ds | _ => none) = _
  rw [h]
theorem dref_ml {s : S} {l : Addr} {ds : List D} (h : s.mu l = some (.ml ds)) : dref (.rf (.ref l)) s = .lst ds := by
  unfold dref
  rw [lstOf_ml h]
theorem r_law_next : ∀ ds s R E, ds.length = 2 → p_law_next ds s R E → t_law_next (fnEnds R E) (dstart N_law_next ds) s := by
  rintro _ _ R E _ ⟨mu, p, m, k, rfl, rfl, hm, hk0, hk1, h⟩
  refine ⟨p, m, rfl, rfl, fun l t cs ls h0 h1 hp hl hn => ?_⟩
  refine ⟨fun j e s => e = [some (.rf (.ref p)), some (.int k), none, none, none, none, none] ∧ ∃ l ls, GO mu p cs t s l ls ∧ ls.length = j, ⟨_, rfl, l, ls, GO.start hp hl hn, rfl⟩, ?_⟩
  rintro j e s ⟨rfl, l, ls, G, rfl⟩
  -- left != []
  refine ⟨_, _, _, rfl, dicOf_mk G.hp, gen_left cs l t, Nat.zero_le _, ?_⟩
  refine ⟨⟨by rw [dref_ml G.hl]; exact okd_ints_pl ls, okd_ints_pl []⟩, ?_⟩
  rw [dref_ml G.hl]
  rw [show dref (D.lst []) s = .lst [] from rfl, eqb_lst_nil]
  have hw : ∀ {q : Prop}, q → q := fun h => h
  -- behind the loop
  have back : ∀ (s : S) (l : Addr) (ls : List Int), GO mu p cs t s l ls → (ls = [] ∨ ∃ x r, ls = x :: r ∧ x ≠ 0) → 
      (dSeq (dIfS (dTst (dOp oNeM (dGet (dVar 0) (dC (.str "left"))) (dLst dNil))) (dSeq (dSet 2 (dOp oIx (dGet (dVar 0) (dC (.str "left"))) (dC (.int 0))))
  (dSeq (dSetIx (dGet (dVar 0) (dC (.str "left"))) (dC (.int 0)) (dOp oDiv (dVar 2) (dVar 1)))
  (dRet (dShut 0 (dOp oMod (dBlt cInt (dCons (dVar 2) dNil)) (dVar 1)))))) dNext)
  (dSeq (dPar 3 4 (dCons (dOp oAdd (dGet (dVar 0) (dC (.str "at"))) (dC (.int 1))) (dCons (dGet (dVar 0) (dC (.str "cells"))) dNil)))
  (dSeq (dPutS (dVar 0) (dC (.str "at")) (dVar 3))
  (dSeq (dSet 5 (dIf (dTst (dOp oNe (dVar 4) (dLst dNil))) (dBlt cInt (dCons (dOp oIx (dVar 4) (dOp oMod (dBlt cInt (dCons (dOp oAdd (dOp oMul (dVar 3) (dVar 3)) (dOp oDiv (dVar 3) (dC (.int 2)))) dNil)) (dBlt cLen (dCons (dVar 4) dNil)))) dNil)) (dC (.int 5))))
  (dSeq (dSet 6 (dOp oMod (dBlt cInt (dCons (dOp oAdd (dOp oAdd (dOp oMul (dVar 5) (dC (.int 40692))) (dOp oMul (dVar 3) (dC (.int 65539)))) (dOp oMul (dOp oMul (dC (.int 7001)) (dVar 3)) (dVar 3))) dNil)) (dC (.int 2147483399))))
  (dRet (dShut 0 (dOp oMod (dBlt cInt (dCons (dOp oDiv (dOp oMod (dBlt cInt (dCons (dOp oAdd (dOp oMul (dVar 6) (dC (.int 48271))) (dOp oMul (dC (.int 1013)) (dVar 3))) dNil)) (dC (.int 2147483647))) (dC (.int 13))) dNil)) (dVar 1)))))))))
        (fnEnds R E) [some (.rf (.ref p)), some (.int k), none, none, none, none, none] s := by
    intro s l ls G hls
    refine ⟨_, _, _, rfl, dicOf_mk G.hp, gen_left cs l t, Nat.zero_le _, ⟨by rw [dref_ml G.hl]; exact okd_ints_pl ls, okd_ints_pl []⟩, ?_⟩
    rw [dref_ml G.hl]
    rw [show dref (D.lst []) s = .lst [] from rfl, eqb_lst_nil]
    cases ls with
    | cons x r =>
      have hx : x ≠ 0 := by rcases hls with z | ⟨x', r', z, h'⟩
                            · cases z
                            · cases z; exact h'
      -- a number of the script
      refine ⟨_, _, _, rfl, dicOf_mk G.hp, gen_left cs l t, _, _, lstOf_ml G.hl, atI_0 _ _, ?_⟩
      refine ⟨⟨hk0, hk1⟩, _, _, _, rfl, dicOf_mk G.hp, gen_left cs l t, _, 0, G.hl, ixN_0 (D.int x) (r.map D.int), ?_⟩
      have e1 : ((x :: r).map D.int).set 0 (.int (x / k)) = ((x / k) :: r).map D.int := rfl
      rw [e1]
      have G2 := G.toLs ((x / k) :: r)
      refine ⟨hk0, p, l, cs, (x / k) :: r, t, m - 1, rfl, G2.g0, G2.hp, G2.hl, h0, by omega, ⟨_, G2.shut (m - 1), h _ (Int.emod_nonneg _ (by omega)) (Int.emod_lt_of_pos _ hk0)⟩⟩
    | nil =>
      refine ⟨_, _, _, rfl, dicOf_mk G.hp, gen_at cs l t, _, _, _, rfl, dicOf_mk G.hp, gen_cells cs l t, ?_⟩
      refine ⟨_, _, rfl, G.hp, by rw [sizeLine_eq]; show 3 < 16777216; decide, ?_⟩
      rw [gen_put_at]
      have G2 := G.toAt (t + 1)
      have c1 : CMul (t + 1) (t + 1) := .inl ⟨by omega, by omega⟩
      have fin : ∀ c : Int, dSeq (dSet 6 (dOp oMod (dBlt cInt (dCons (dOp oAdd (dOp oAdd (dOp oMul (dVar 5) (dC (.int 40692))) (dOp oMul (dVar 3) (dC (.int 65539)))) (dOp oMul (dOp oMul (dC (.int 7001)) (dVar 3)) (dVar 3))) dNil)) (dC (.int 2147483399))))
          (dRet (dShut 0 (dOp oMod (dBlt cInt (dCons (dOp oDiv (dOp oMod (dBlt cInt (dCons (dOp oAdd (dOp oMul (dVar 6) (dC (.int 48271))) (dOp oMul (dC (.int 1013)) (dVar 3))) dNil)) (dC (.int 2147483647))) (dC (.int 13))) dNil)) (dVar 1))))
          (fnEnds R E) [some (.rf (.ref p)), some (.int k), none, some (.int (t + 1)), some (.lst (cs.map .int)), some (.int c), none] (s.put p (.mk (genK cs l (t + 1)))) := by
        intro c
        refine ⟨.inr ⟨by decide, by decide⟩, .inr ⟨by decide, by decide⟩, .inl ⟨by decide, by decide⟩, .inr ⟨by omega, by omega⟩, (show (0 : Int) < 2147483399 by decide), ?_⟩
        refine ⟨.inr ⟨by decide, by decide⟩, .inl ⟨by decide, by decide⟩, (show (0 : Int) < 2147483647 by decide), ⟨by decide, by decide⟩, hk0, ?_⟩
        exact ⟨p, l, cs, [], t + 1, m - 1, rfl, G2.g0, G2.hp, G2.hl, by omega, by omega, ⟨_, G2.shut (m - 1), h _ (Int.emod_nonneg _ (by omega)) (Int.emod_lt_of_pos _ hk0)⟩⟩
      refine ⟨Nat.zero_le _, ⟨okd_ints_pl cs, okd_ints_pl []⟩, ?_⟩
      rw [eqb_lst_nil]
      cases cs with
      | nil => exact fin 5
      | cons c0 cs =>
        refine ⟨c1, ⟨by decide, by decide⟩, _, rfl, by show (0 : Int) < (((c0 :: cs).map D.int).length : Nat); rw [List.length_map, List.length_cons]; omega, ?_⟩
        obtain ⟨d, hd, hm'⟩ := atI_of (xs := (c0 :: cs).map D.int) (i := ((t + 1) * (t + 1) + (t + 1) / 2) % (((c0 :: cs).map D.int).length : Nat)) (Int.emod_nonneg _ (by rw [List.length_map, List.length_cons]; omega)) (Int.emod_lt_of_pos _ (by rw [List.length_map, List.length_cons]; omega))
        obtain ⟨c, _, rfl⟩ := List.mem_map.mp hm'
        exact ⟨_, _, rfl, hd, fin c⟩
  cases ls with
  | nil => exact back s l [] G (.inl rfl)
  | cons x ls =>
    show (dTst (dOp oEq (dOp oIx (dGet (dVar 0) (dC (.str "left"))) (dC (.int 0))) (dC (.int 0)))) _ _ _ _
    refine ⟨_, _, _, rfl, dicOf_mk G.hp, gen_left cs l t, _, _, lstOf_ml G.hl, atI_0 _ _, ⟨eqOk_int _, eqOk_int _⟩, ?_⟩
    rw [eqb_int]
    by_cases hx : x = 0
    · rw [decide_eq_true hx]
      refine ⟨_, _, _, rfl, dicOf_mk G.hp, gen_left cs l t, _, lstOf_ml G.hl, fun l' hl' => ?_⟩
      refine ⟨_, genK cs l t, rfl, ?_, by rw [sizeLine_eq]; show 3 < 16777216; decide, ?_⟩
      · show (if p = l' then _ else s.mu p) = _
        rw [if_neg (fun z => by rw [← z, G.hp] at hl'; cases hl')]
        exact G.hp
      · rw [gen_put_left, List.map_cons, cut_tail]
        exact ⟨_, Nat.lt_succ_self _, rfl, l', ls, G.toL hl' ls, rfl⟩
    · rw [decide_eq_false hx]
      exact back s l (x :: ls) G (.inr ⟨x, ls, rfl, hx⟩)
end Bk
namespace Bk
open PySem PySem.Spec PyProof.Rows L2
abbrev Term := Int × Str
abbrev Test := List Term × Str × Int
abbrev SetR := Str × List Term × Int
structure Prog where
  name : Str
  level : Str
  looks : List (List Str)
  when : List (List Test)
  sets : List SetR
  marks : List Str
def letters : Str := "abcdefghijklmnopqrstuvwxyz"
/-- signs from a to z -/
def Low (x : Str) : Prop := ∀ c ∈ x.cps.toList, c ∈ letters.cps.toList
def lowS (x : Str) : Prop := 1 ≤ x.length ∧ x.length ≤ 8 ∧ Low x
def cellD (c : Str × Int) : D := .tup [.str c.1, .int c.2]
def cellsD (cs : List (Str × Int)) : D := .tup (cs.map cellD)
def termD (t : Term) : D := .tup [.int t.1, .str t.2]
def termsD (ts : List Term) : D := .tup (ts.map termD)
def testD (t : Test) : D := .tup [termsD t.1, .str t.2.1, .int t.2.2]
def caseD (c : List Test) : D := .tup (c.map testD)
def formD (f : List (List Test)) : D := .tup (f.map caseD)
def partD (p : List Str) : D := .tup (texts p)
def looksD (l : List (List Str)) : D := .tup (l.map partD)
def setD (x : SetR) : D := .tup [.str x.1, termsD x.2.1, .int x.2.2]
def setsD (xs : List SetR) : D := .tup (xs.map setD)
def progD (p : Prog) : D := .tup [.str p.name, .str p.level, looksD p.looks, formD p.when, setsD p.sets, partD p.marks]
structure CellsOk (cs : List (Str × Int)) : Prop where
  nm : ∀ c ∈ cs, nmOk c.1
  pos : 1 ≤ cs.length
  len : cs.length ≤ 4
  most : ∀ c ∈ cs, 1 ≤ c.2 ∧ c.2 ≤ 3
  nd : (cs.map (·.1)).Nodup
  low : ∀ c ∈ cs, lowS c.1
end Bk
namespace Bk
open PySem PySem.Spec PyProof.Rows L2
theorem strOk_iff {x : Str} : PyData.strOk x = true ↔ ∀ c ∈ x.cps.toList, c < 0x110000 := by
  unfold PyData.strOk
  rw [Array.all_eq_true_iff_forall_mem]
  constructor
  · intro h c hc
    have := h c (Array.mem_toList_iff.mp hc)
    simpa using this
  · intro h c hc
    have := h c (Array.mem_toList_iff.mpr hc)
    simpa using this
theorem sz (n : Nat) (h : n ≤ 16777216) : n ≤ sizeLine := by rw [sizeLine_eq]; exact h
theorem rangeD_eq (n : Nat) : rangeD 0 n = (List.range n).map fun k : Nat => D.int k := by
  unfold rangeD
  refine List.map_congr_left fun k _ => ?_
  rw [Int.zero_add]
theorem letters_ok : PyData.strOk letters = true := by decide +kernel
theorem letters_at {c : Nat} (h : c ∈ letters.cps.toList) : c < 0x110000 := strOk_iff.mp letters_ok c h
theorem Low.ok {x : Str} (h : Low x) : PyData.strOk x = true := strOk_iff.mpr fun c hc => letters_at (h c hc)
structure MOwn (mu mu' : Addr → Option MO) (q : Addr) (ds : List D) : Prop where
  here : mu' q = some (.ml ds)
  sub : ∀ b o, mu b = some o → mu' b = some o
  fresh : mu q = none
theorem MOwn.start {mu : Addr → Option MO} {q : Addr} (h : mu q = none) (ds : List D) : MOwn mu (fun b => if b = q then some (.ml ds) else mu b) q ds :=
  ⟨if_pos rfl, fun b o e => by rw [if_neg (fun z => by rw [z, h] at e; cases e)]; exact e, h⟩
theorem MOwn.put {mu mu' : Addr → Option MO} {q : Addr} {ds : List D} (M : MOwn mu mu' q ds) (ds' : List D) : MOwn mu (fun b => if b = q then some (.ml ds') else mu' b) q ds' :=
  ⟨if_pos rfl, fun b o e => by rw [if_neg (fun z => by rw [z, M.fresh] at e; cases e)]; exact M.sub b o e, M.fresh⟩
theorem eqOk_texts {ns : List Str} (h : ∀ x ∈ ns, nmOk x) : (D.lst (texts ns)).eqOk = true := (okd_lst (n := ns.length) (k := 0) (okd_texts h) (by rw [texts_len]; exact Nat.le_refl _)).eqOk (by decide)
theorem eqOk_nm {x : Str} (h : nmOk x) : (D.str x).eqOk = true := (okd_nm (k := 0) h).eqOk (by decide)
end Bk
namespace Bk
open PySem PySem.Spec PyProof.Rows L2
section
variable {X : Cx} {T : Tb}
def oNeS : G2 := fun x y s R => match x, y with
  | .str a, .str b => R (.bl (!decide (a = b))) s
  | _, _ => False
theorem od_neS : OpD X T (compareOp .NotEq) oNeS := .of op_ne fun F s H x y vx vy R Q hh rx ry hg post => by
  unfold oNeS at hg
  split at hg
  · rename_i a b
    cases rx; cases ry
    refine ⟨rfl, ?_⟩
    have e : decide (V.str a = V.str b) = decide (a = b) := by simp
    rw [e]
    exact post _ s _ H F hg Ext.refl hh (.bl _)
  · exact hg.elim
end
end Bk
namespace Bk
open PySem PySem.Spec PyProof.Rows L2
section
variable {X : Cx} {W : WX} {k : Nat}
theorem Bod.u1 (B : Bod X W k) : X.A.units + 1 < cLine := by have := B.room.un; omega
theorem Bod.u64 (B : Bod X W k) : X.A.units + 64 < cLine := by have := B.room.un; omega
theorem Bod.u66 (B : Bod X W k) : X.A.units + 66 < cLine := by have := B.room.un; omega
theorem blk_top {scope sc : Scope} {N : List Str} {own : List (Str × Nat)} (h : blkC N sc scope own = true) (hN : X.N = N := by rfl) (hs : X.env.scope = sc := by rfl) : BlkOk X.N X.env.scope scope own := by
  rw [hN, hs]; exact blkOk_by h
section
variable {T : Tb} {pos : Pos} {g g1 : DG} {vs vs1 : List Nat}
theorem dx_lcV {elt tg iter : Expr} {ifs : List Expr} {scope : Scope} {own : List (Str × Nat)} {f0 : Arg} {t : Tst} {f : Exp} (hc : X.calm = true) (hN : X.N.Nodup) (hi : DI X T W tg iter f0) (ok : BlkOk X.N X.env.scope scope own) (hv : own.map (·.2) = vs)
    (hg : BlkAll X scope fun Y => DPGo Y T vs tg g) (ht : BlkAll X scope fun Y => DTs Y T wF ifs t) (he : BlkAll X scope fun Y => DX Y T wF elt f) (hs : ∀ x, foldedSetIterable iter X.env x = pure x := by intro _; rfl) :
    DX X T W (.ListComp elt [⟨tg, iter, ifs, 0⟩] scope pos) (dLc f0 g t f vs) := by subst hv; exact dx_lc hc hN hi ok hg ht he hs
theorem dx_lcMV {elt tg iter : Expr} {ifs : List Expr} {scope : Scope} {own : List (Str × Nat)} {f0 : Arg} {t : Tst} {f : Exp} (hc : X.calm = true) (hN : X.N.Nodup) (hi : DI X T W tg iter f0) (ok : BlkOk X.N X.env.scope scope own) (hv : own.map (·.2) = vs)
    (hg : BlkAll X scope fun Y => DPGo Y T vs tg g) (ht : BlkAll X scope fun Y => DTs Y T wF ifs t) (he : BlkAll X scope fun Y => DX Y T wF elt f) (hs : ∀ x, foldedSetIterable iter X.env x = pure x := by intro _; rfl) :
    DX X T W (.ListComp elt [⟨tg, iter, ifs, 0⟩] scope pos) (dLcM f0 g t f vs) := by subst hv; exact dx_lcM hc hN hi ok hg ht he hs
theorem ds_setLcV {i : Nat} {y : Str} {py spos : Pos} {elt tg iter : Expr} {ifs : List Expr} {scope : Scope} {own : List (Str × Nat)} {f0 : Arg} {t : Tst} {f : Exp} (hc : X.calm = true) (hN : X.N.Nodup) (hi : DI X T W tg iter f0) (ok : BlkOk X.N X.env.scope scope own) (hv : own.map (·.2) = vs)
    (hg : BlkAll X scope fun Y => DPGo Y T vs tg g) (ht : BlkAll X scope fun Y => DTs Y T wF ifs t) (he : BlkAll X scope fun Y => DX Y T wF elt f) (hy : X.N[i]? = some y) (hyl : X.env.scope.names.lookup y = some .local)
    (hsw : swapsWith (.ListComp elt [⟨tg, iter, ifs, 0⟩] scope pos) (some (.Name y py)) spos.line X.env = pure true) (hs : ∀ x, foldedSetIterable iter X.env x = pure x := by intro _; rfl) :
    DS X T W (.Assign [.Name y py] (.ListComp elt [⟨tg, iter, ifs, 0⟩] scope pos) spos) (dSet i (dLc f0 g t f vs)) := by subst hv; exact ds_setLc hc hN hy hyl hsw hi ok hg ht he hs
end
end
theorem bt_len : bootBuiltins "len" = some (.builtin "len") := by decide +kernel
theorem bt_repr : bootBuiltins "repr" = some (.builtin "repr") := by decide +kernel
theorem bt_min : bootBuiltins "min" = some (.builtin "min") := by decide +kernel
theorem bt_list : bootBuiltins "list" = some (.type "list") := by decide +kernel
theorem bt_int : bootBuiltins "int" = some (.type "int") := by decide +kernel
theorem bt_isinstance : bootBuiltins "isinstance" = some (.builtin "isinstance") := by decide +kernel
end Bk
namespace Bk
open PySem PySem.Spec PyProof.Rows L2
theorem spD_start {cl : Str → Addr} {hs : NestedKey → Int} {K : PySem.W.Frag} {phi : Fn} {H : Hp} {a : Addr} {ns : List Int} {cs : List (Addr × Addr)} {TT : List (Addr × Str)} (hH : ∀ p ∈ cs, H p.2 = some (.tbl #[])) (hT : ∀ b ps, H b = some (.tbl ps) → b ∈ cs.map (·.2)) (hTT : ∀ p ∈ TT, p.1 ∈ cs.map (·.2)) (ha : a ∉ cs.map (·.2))
    (hS : SqL K H a (ns.map V.int)) (h : phi [.scr ns] ⟨fun _ => none, none⟩ (fun d _ => d = .bl true) fun _ _ => False) :
    spD K ⟨TT, cl, hs⟩ 1 phi [.ref a] H (fun v _ => v = .bl true) fun _ _ _ => False := by
  let F : Hp := fun b => if b ∈ cs.map (·.2) then none else H b
  have fa : F a = H a := if_neg ha
  have sm : Same F H := fun b x e => by
    by_cases hb : b ∈ cs.map (·.2)
    · have e' : (if b ∈ cs.map (·.2) then none else H b) = some x := e
      rw [if_pos hb] at e'; cases e'
    · have e' : (if b ∈ cs.map (·.2) then none else H b) = some x := e
      rwa [if_neg hb] at e'
  have hF : SqL K F a (ns.map V.int) := by
    rcases hS with (z | ⟨o, z⟩) | z
    · exact .inl (.inl (fa.trans z))
    · exact .inl (.inr ⟨o, fa.trans z⟩)
    · exact .inr z
  refine ⟨F, ⟨fun _ => none, none⟩, [.scr ns], fun d _ => d = .bl true, fun _ _ => False, rfl, .cons (.scr hF) .nil, ⟨sm, fun p o e => (nomatch e), fun p n e => (nomatch e), fun x hx => ?_, fun b ps z => ?_⟩, fun _ _ _ _ _ _ q => q.elim, h, ?_⟩
  · obtain ⟨p, hp, e⟩ := List.mem_map.mp (hTT x hx)
    exact LamX.TabS.nil (by rw [← e]; exact hH p hp)
  · have z' := sm _ _ z
    have hb := hT b ps z'
    have z2 : (if b ∈ cs.map (·.2) then none else H b) = some (.tbl ps) := z
    rw [if_pos hb] at z2; cases z2
  · rintro d s' v H' F' rfl _ _ r
    cases r
    rfl
/-- what the head gives of the tables -/
def TabF (q : Program) (K : PySem.W.Frag) (h : Heap) : Prop := ∀ (x : Str) (c P : Addr), ((recsOf q).find? fun e => e.name == x).isSome = true → PySem.W.tabIn K x = some (c, P) → PySem.W.CodeHd h c P ∧ h.get? P = some { cls := .none, data := .fields #[] }
end Bk
namespace Bk
open PySem PySem.Spec PyProof.Rows L2
open AutoSeq1 (wpAny_loadPart')
section
variable {X : Cx} {T : Tb} {W : WX} {a b c : Expr} {fa fb fc : Exp} {pos : Pos} {K : PySem.W.Frag} {F H : Hp} {s : S}
/-- a tuple as any other -/
def D.unp : D → D
  | .pln xs => .tup xs
  | d => d
theorem Rep.unp {d : D} {v : V} (r : Rep K T F d v) : Rep K T F d.unp v := by
  cases r with
  | pln h hd r => exact .tup (.inl (.inr ⟨_, h⟩)) r
  | non => exact .non
  | bl b => exact .bl b
  | int i => exact .int i
  | str x => exact .str x
  | lst h r => exact .lst h r
  | tup h r => exact .tup h r
  | dic h r => exact .dic h r
  | rf v => exact .rf v
  | scr h => exact .scr h
  | exc h h2 r => exact .exc h h2 r
  | obj h r => exact .obj h r
  | clo f r => exact .clo f r
  | cls n => exact .cls n
  | kdc h r => exact .kdc h r
end
end Bk
namespace Bk
open PySem PySem.Spec PyProof.Rows L2
def cellsP (cs : List (Str × Int)) : D := .pln (cs.map cellD)
end Bk
namespace Bk
open PySem PySem.Spec PyProof.Rows L2
def ItB (h : Heap) (b : Bool) (it a : Addr) (i : Nat) : Prop := match b with
  | true => h.IsTupleIter it a i
  | false => h.IsListIter it a i
def SeqB (h : Heap) (b : Bool) (a : Addr) (items : Array Value) : Prop := match b with
  | true => h.IsTuple a items
  | false => h.IsList a items
theorem ItB.obj {h : Heap} {b : Bool} {it a : Addr} {i : Nat} (x : ItB h b it a i) : ∃ o fs, h.get? it = some o ∧ o.data = .fields fs ∧ (o.cls = .type "tuple_iterator" ∨ o.cls = .type "list_iterator") := by
  cases b with
  | true => obtain ⟨o, ho, hc, hd⟩ : h.IsTupleIter it a i := x; exact ⟨o, _, ho, hd, .inl hc⟩
  | false => obtain ⟨o, ho, hc, hd⟩ : h.IsListIter it a i := x; exact ⟨o, _, ho, hd, .inr hc⟩
theorem ItB.at {h h' : Heap} {b : Bool} {it a : Addr} {i : Nat} (x : ItB h b it a i) (k : ∀ o, h.get? it = some o → h'.get? it = some o) : ItB h' b it a i := by
  cases b with
  | true => exact Heap.IsTupleIter.at (show h.IsTupleIter it a i from x) k
  | false => exact Heap.IsListIter.at (show h.IsListIter it a i from x) k
theorem SeqB.at {h h' : Heap} {b : Bool} {a : Addr} {items : Array Value} (x : SeqB h b a items) (k : ∀ o, h.get? a = some o → h'.get? a = some o) : SeqB h' b a items := by
  cases b with
  | true => exact Heap.IsTuple.at (show h.IsTuple a items from x) k
  | false => exact Heap.IsList.at (show h.IsList a items from x) k
theorem SeqB.obj {h : Heap} {b : Bool} {a : Addr} {items : Array Value} (x : SeqB h b a items) : ∃ o n, h.get? a = some o ∧ o.data = .seq items n ∧ (o.cls = .type "tuple" ∨ o.cls = .type "list") := by
  cases b with
  | true => obtain ⟨o, ho, hc, n, hd⟩ : h.IsTuple a items := x; exact ⟨o, n, ho, hd, .inl hc⟩
  | false => obtain ⟨o, ho, hc, n, hd⟩ : h.IsList a items := x; exact ⟨o, n, ho, hd, .inr hc⟩
section
variable {K : PySem.W.Frag} {T : Tb} {F : Hp}
/-- what a list, a tuple has -/
def seqD : D → Option (List D)
  | .lst xs => some xs
  | .tup xs => some xs
  | .pln xs => some xs
  | _ => none
end
end Bk
namespace Bk
open PySem PySem.Spec PyProof.Rows L2
end Bk
namespace Bk
open PySem PySem.Spec PyProof.Rows L2
/-- the three built-in bases -/
structure BaseX (B newId initId : String) (bmB : List Value) : Prop where
  fb : ExcBaseFacts B newId initId bmB
  kf : PySem.W.KxsFacts B initId
  sf : StoreFacts B bmB "object.__setattr__" "object"
theorem base_value : BaseX "ValueError" "ValueError.__new__" "ValueError.__init__" [.type "ValueError", .type "Exception", .type "BaseException", .type "object"] := ⟨PySem.F.excBase_ValueError, PySem.W.kxs_ValueError, PySem.F.store_ValueError⟩
theorem base_lookup : BaseX "LookupError" "LookupError.__new__" "LookupError.__init__" [.type "LookupError", .type "Exception", .type "BaseException", .type "object"] := ⟨PySem.F.excBase_LookupError, PySem.W.kxs_LookupError, PySem.F.store_LookupError⟩
theorem base_over : BaseX "OverflowError" "OverflowError.__new__" "OverflowError.__init__" [.type "OverflowError", .type "ArithmeticError", .type "Exception", .type "BaseException", .type "object"] := ⟨PySem.F.excBase_OverflowError, PySem.W.kxs_OverflowError, PySem.F.store_OverflowError⟩
/-- the def of such an __init__ -/
structure InitS (params : Arguments) (bd : List Stmt) (scope : Scope) (f y : Str) : Prop where
  body : ∃ (p0 p1 p2 p3 p4 p5 p6 p7 p8 p9 : Pos) (txt : Str) (j : Nat), bd = [.Expr (.Call (.Attribute (.Call (.Name "super" p0) [] [] p1) "__init__" p2) [.Constant (.str txt) j p3] [] p4) p5, .Assign [.Attribute (.Name "self" p6) f p7] (.Name y p8) p9] ∧
    ∀ (q : Str) (L a cc : Addr) (cd : Value), ∃ pl : Sem Bool, eval (.Call (.Attribute (.Call (.Name "super" p0) [] [] p1) "__init__" p2) [.Constant (.str txt) j p3] [] p4) (PySem.W.ksEnv q scope L a cd cc) = (do
      let ov ← attributeBase (.Call (.Name "super" p0) [] [] p1) "__init__" (PySem.W.ksEnv q scope L a cd cc) (eval (.Call (.Name "super" p0) [] [] p1) (PySem.W.ksEnv q scope L a cd cc))
      standAt p2.atName
      let (f, first) ← holding [ov] (getMethod ov "__init__" pl)
      callWith p4 f first (backTo p4 (starEach [.Constant (.str txt) j p3] (PySem.W.ksEnv q scope L a cd cc))) []) ∧
      interactive (PySem.W.ksEnv q scope L a cd cc) = false ∧ swapsWith (.Call (.Attribute (.Call (.Name "super" p0) [] [] p1) "__init__" p2) [.Constant (.str txt) j p3] [] p4) none p5.line (PySem.W.ksEnv q scope L a cd cc) = pure false ∧
      swapsWith (.Name y p8) (some (.Attribute (.Name "self" p6) f p7)) p9.line (PySem.W.ksEnv q scope L a cd cc) = pure false
  first : ∃ ar, (params.posonlyargs ++ params.args).head? = some ar ∧ ar.arg = "self"
  bind : ∀ (q : Str) (kV doc pm cdv ct : Value) (an : Option Addr) (cc : Addr) (a b : Value), bindArgs (PySem.W.ksFn "__init__" q params bd scope .none kV doc pm an cdv ct cc) ⟨[a, b], []⟩ = pure [(("self" : Str), a), (y, b)]
  hks : scope.names.lookup ("super" : Str) = some .globalImplicit
  hkc : scope.names.lookup ("__class__" : Str) = some .free
  hka : scope.names.lookup ("self" : Str) = some .local
  hky : scope.names.lookup y = some .local
  hkd : (y == ("__debug__" : Str)) = false
  hne : (y == ("self" : Str)) = false
  cell : ∀ x ∈ scope.names, x.2 ≠ .cell
  co : scope.isCoroutine = false
  gen : scope.isGenerator = false
  kind : scope.kind = .function
/-- what the written part says of the class at C -/
structure ExcT (P : Program) (K : PySem.W.Frag) (C : Addr) (f : Str) : Prop where
  base : ∃ B newId initId bmB, BaseX B newId initId bmB ∧ PySem.W.excInitIn K C bmB newId = true ∧ PySem.W.excOver K C bmB = true ∧ PySem.W.subIn K (.ref C) (.type B) = some true ∧ PySem.W.ks_superIn K C C "__init__" = some (some (.builtin initId))
  sa : PySem.W.findIn K (.ref C) "__setattr__" = some (some (.builtin "object.__setattr__"))
  tk : PySem.W.takerIn K C f = some none
  hd : PySem.W.hasDictIn K C = true
  mro : PySem.W.mroIn K C (.ref C) = some true
  sup : PySem.W.nsIn K mainGlobals "super" = some none
  tp : PySem.W.nsIn K cStatics "thirdparty.any" = some none
  top : (P.main.scope.names.lookup ("super" : Str)).isSome = false
  fn : ∃ (fI cda cc : Addr) (qual y : Str) (params : Arguments) (body : List Stmt) (scope : Scope) (kV doc pm ct oc : Value) (an od : Option Addr) (osl : Array (Option Value)) (ccl cl : Value) (cdd cld : Option Addr) (ccs csl : Array (Option Value)) (vs : Array Value) (file : Str) (tf : Tok),
    PySem.W.findIn K (.ref C) "__init__" = some (some (.ref fI)) ∧ PySem.W.isFn K (.ref fI) = true ∧ K.lookup fI = some ⟨oc, od, .func (PySem.W.ksFn "__init__" qual params body scope .none kV doc pm an (.ref cda) ct cc), osl⟩ ∧
    PySem.W.codeIn K (.ref cda) qual = true ∧ K.lookup cda = some ⟨ccl, cdd, .fields vs, ccs⟩ ∧ vs[2]? = some (.str file tf) ∧ ((P.main.file : Str) == file) = true ∧ K.lookup cc = some ⟨cl, cld, .cell (some (.ref C)), csl⟩ ∧ InitS params body scope f y
section
open PySem.W PySem.Calls
variable {P : Program} {w : World} {A : Around} {E : Value → Shared → Prop} {s : Shared} {K : Frag} {mg mb : Str → Option Value} {C : Addr} {f : Str} {v : Value} {Q : Value → Shared → Prop}
theorem exc_made (T : ExcT P K C f) (X : K.In s.heap) (G : s.heap.Ns mainGlobals mg) (Bn : s.heap.Ns builtinsNs mb) (boot : ∀ y : Str, y ≠ "__name__" → mb y = bootBuiltins y) (lim : s.heap.NoLimit) (room : (A.under (.builtin "type.__call__" ⟨[.ref C, v], []⟩)).depth < recursionLimit)
    (h : ∀ h' e dx t tk, (∀ b o, s.heap.get? b = some o → h'.get? b = some o) → s.heap.objs.size ≤ e → s.heap.objs.size ≤ dx → dx ≠ e → h'.get? e = some (excObj C t (some dx) .none) → h'.Ns1 dx (fun y => if y = f then some v else none) → Q (.ref e) { s with heap := h', toks := tk }) :
    wpAny (model P w) A (call (.ref C) [v]) Q E s := by
  obtain ⟨B, newId, initId, bmB, BX, hI, hO, hB, hS⟩ := T.base
  obtain ⟨fI, cda, cc, qual, y, params, body, scope, kV, doc, pm, ct, oc, an, od, osl, ccl, cl, cdd, cld, ccs, csl, vs, file, tf, hfi, hfn, hlk, hcd, hcda, hvs, hfile, hcell, IS⟩ := T.fn
  obtain ⟨nm, N', qn, bs, bm, hdct, sn, sub, ab, col, dd, k0, k1, k2, k3, k5, hC, hT⟩ := excInit_of X hI
  obtain ⟨hh, g, d, tk, os⟩ := s
  have hoI := X _ _ hlk
  have hi' : Looks (model P w) hh (typeLookup (.ref C) "__init__") (some (.ref fI)) := looks_findIn X hfi
  have hcI : oc = .type "function" := by
    have e : (K.lookup fI).map (·.cls) = some (.type "function") := beq_iff_eq.mp hfn
    rw [hlk] at e
    exact Option.some.inj e
  subst hcI
  refine wpAny_call (PX.call_own BX.fb hT hC hi' (fun self => exc_bind hoI rfl self) (by rw [sizeLine_eq]; exact (by decide : 1 ≤ 16777216)) ?_)
  -- the object and its args are laid
  have lt : ∀ {b o}, hh.get? b = some o → b < hh.objs.size := fun e => Heap.lt_size e
  generalize hG2 : (hh.push (kdv_tup [v])).push (PX.excO C hh.objs.size) = h2
  have k2' : ∀ b o, hh.get? b = some o → h2.get? b = some o := fun b o e => by rw [← hG2]; exact Heap.get?_push_of_some _ (Heap.get?_push_of_some _ e)
  have sz2 : h2.objs.size = hh.objs.size + 2 := by rw [← hG2, Heap.size_push, Heap.size_push]
  have e2 : h2.get? (hh.objs.size + 1) = some (excObj C hh.objs.size none .none) := by
    rw [← hG2]
    have z : ((hh.push (kdv_tup [v])).push (PX.excO C hh.objs.size)).get? (hh.push (kdv_tup [v])).objs.size = some (PX.excO C hh.objs.size) := Heap.get?_push_size _ rfl
    rw [Heap.size_push] at z
    exact z
  have t2 : h2.get? hh.objs.size = some (excTup [v]) := by
    rw [← hG2]
    exact Heap.get?_push_of_some _ (Heap.get?_push_size _ rfl)
  have ne12 : hh.objs.size + 1 ≠ hh.objs.size := Nat.succ_ne_self _
  refine ks_codeAny_call_defAt (s := ⟨h2, g, d, tk, os⟩) (fd := ksFn "__init__" qual params body scope .none kV doc pm an (.ref cda) ct cc) (body := body) (binds := [(("self" : Str), .ref (hh.objs.size + 1)), (y, v)]) room (k2' _ _ hoI) rfl (lim.keeps k2') (codeRec_of (X.keeps k2') hcd) rfl
    (BindsTo.of_eq (IS.bind _ _ _ _ _ _ _ _ _ _)) IS.cell (fun z hz => ?_) (fun h₁ hns k₁ => ?_) IS.co IS.gen IS.kind
  · simp only [List.mem_cons, List.not_mem_nil, or_false] at hz
    rcases hz with rfl | rfl
    · exact IS.hka
    · exact IS.hky
  obtain ⟨p0, p1, p2, p3, p4, p5, p6, p7, p8, p9, txt, j, rfl, hev⟩ := IS.body
  obtain ⟨ar, har, hself⟩ := IS.first
  let l2 : List Addr := [hh.objs.size + 1, hh.objs.size]
  have F : Fr (hideAll h2 l2) h2.objs.size h₁ (fun z => [(("self" : Str), .ref (hh.objs.size + 1)), (y, v)].reverse.lookup z) := ⟨hns, fun b o e => k₁ b o (of_hideAll _ e), Nat.le_of_eq (hideAll_size _ _)⟩
  have N : News (hideAll h2 l2) h2.objs.size h₁ [(hh.objs.size + 1, excObj C hh.objs.size none .none), (hh.objs.size, excTup [v])] := by
    intro p hp
    simp only [List.mem_cons, List.not_mem_nil, or_false] at hp
    rcases hp with rfl | rfl
    · exact ⟨k₁ _ _ e2, by rw [sz2]; show hh.objs.size + 1 ≠ hh.objs.size + 2; omega, hideAll_none _ (by simp [l2])⟩
    · exact ⟨k₁ _ _ t2, by rw [sz2]; show hh.objs.size ≠ hh.objs.size + 2; omega, hideAll_none _ (by simp [l2])⟩
  have old : ∀ b o, hh.get? b = some o → (hideAll h2 l2).get? b = some o := fun b o e => hideAll_get _ (k2' _ _ e) (fun z => by
    have q : b < hh.objs.size := lt e
    rcases List.mem_cons.mp z with z | z
    · rw [z] at q; exact absurd q (Nat.not_lt.mpr (Nat.le_succ _))
    · rw [List.mem_singleton.mp z] at q; exact absurd q (Nat.lt_irrefl _))
  have X₀ : K.In (hideAll h2 l2) := X.keeps old
  have G₀ : (hideAll h2 l2).Ns mainGlobals mg := G.keeps old
  have B₀ : (hideAll h2 l2).Ns builtinsNs mb := Bn.keeps old
  have hsuper : mg "super" = none := mg_none_of X G T.sup
  have lself : [(("self" : Str), Value.ref (hh.objs.size + 1)), (y, v)].reverse.lookup ("self" : Str) = some (Value.ref (hh.objs.size + 1)) := by
    show (List.lookup ("self" : Str) [(y, v), (("self" : Str), Value.ref (hh.objs.size + 1))]) = _
    have e : (("self" : Str) == y) = false := by
      have := IS.hne
      simp only [beq_eq_false_iff_ne, ne_eq] at this ⊢
      exact fun z => this z.symm
    simp [List.lookup, e]
  have ly : [(("self" : Str), Value.ref (hh.objs.size + 1)), (y, v)].reverse.lookup y = some v := by
    show (List.lookup y [(y, v), (("self" : Str), Value.ref (hh.objs.size + 1))]) = _
    simp [List.lookup]
  obtain ⟨cdD, hcls, _⟩ := any_some T.hd
  have Xh : K.In h₁ := X₀.keeps F.keep
  have hhC : h₁.get? C = some (excClassObj nm qn C N' bs bm hdct sn sub ab col dd k0 k1 k2 k3 k5 newId) := F.keep _ _ (old _ _ hC)
  have nC : ∀ {cd : ClassData}, excObj C hh.objs.size none .none ≠ ({ cls := .type "type", dict := none, data := .cls cd } : Obj) := fun z => by cases z
  obtain ⟨pl, he, hint, hs1, hs2⟩ := hev qual h2.objs.size fI cc (.ref cda)
  refine ks_wpAt_execs_cons (ks_wpAt_Expr_any (ks_wpAt_MethodCall (pl := pl) ?_ he) hint hs1)
  refine ks_wpAt_super_base (env := ksEnv qual scope h2.objs.size fI (.ref cda) cc) IS.hks IS.hkc (by decide) rfl (Xh _ _ hlk) rfl har rfl (Xh _ _ hcda) rfl hvs hfile T.top ?_
  refine ks_loadName_global IS.kind IS.hks (loadGlobal_builtin (env := ksEnv qual scope h2.objs.size fI (.ref cda) cc) (G₀.keeps F.keep) hsuper (B₀.keeps F.keep) ((boot _ (by decide +kernel)).trans (show bootBuiltins "super" = some (.type "super") by decide +kernel)) ⟨rfl, ?_⟩)
  refine wpAny_loadName_free IS.kind IS.hkc rfl ⟨_, Xh _ _ hcell, rfl⟩ ?_
  rw [hself]
  refine wpAny_loadName_local IS.kind IS.hka F.ns lself ?_
  refine ks_wpAny_isType_cls hhC rfl ⟨rfl, ?_⟩
  refine ks_wpAny_call_super hhC rfl (k₁ _ _ e2) rfl (fun c e => by cases e) (looks_mroIn Xh T.mro) (fun h3 e3 k3' => ?_)
  obtain ⟨F3, N3, l3⟩ := ks_newsPush (s := ⟨h₁, g, d, tk + 2, os⟩) F N rfl e3 k3'
  refine kxs_method BX.kf F3 X₀ N3 List.mem_cons_self (InstAt.of_exc0 N3 (List.mem_cons_of_mem _ List.mem_cons_self)) T.tp hS hB (by decide) (fun qa h4 F4 N4 l4 => ?_)
  refine kxs_callWith1 (i := initId) (x := hh.objs.size + 1) N4 List.mem_cons_self ?_
  refine Calls.spliced_cons (wpAny_Constant_str (pos := p3) (k := j) (Calls.spliced_nil ⟨kxs_at N4 List.mem_cons_self, ?_⟩))
  have me : ((hh.objs.size + 1, excObj C hh.objs.size none .none) : Addr × Obj) ∈ [(hh.objs.size + 1, excObj C hh.objs.size none .none), (hh.objs.size, excTup [v])] := List.mem_cons_self
  have n1 : qa ≠ hh.objs.size + 1 := fun z => by
    have q := l4 _ (List.mem_cons_of_mem _ me)
    rw [z] at q; exact absurd q (Nat.lt_irrefl _)
  have n2 : h₁.objs.size ≠ hh.objs.size + 1 := fun z => by
    have q := l3 _ me
    rw [z] at q; exact absurd q (Nat.lt_irrefl _)
  have n3 : hh.objs.size ≠ hh.objs.size + 1 := fun z => ne12 z.symm
  refine kxs_call (s := ⟨h4, g, d, _, os⟩) F4 X₀ N4 BX.fb hI List.mem_cons_self (.tail n1 (.tail n2 (.head fun p hp => by rw [List.mem_singleton.mp hp]; exact n3))) (by rw [sizeLine_eq]; exact (by decide : 1 ≤ 16777216)) (fun t5 h5 F5 N5 l5 => ?_)
  have hrest : ∀ p ∈ [(hh.objs.size, excTup [v])], p.1 ≠ hh.objs.size + 1 := fun p hp => by rw [List.mem_singleton.mp hp]; exact n3
  have n4 : t5 ≠ hh.objs.size + 1 := fun z => by
    have q := l5 _ (List.mem_cons_of_mem _ (List.mem_cons_of_mem _ me))
    rw [z] at q; exact absurd q (Nat.lt_irrefl _)
  refine ks_wpAt_execs_cons (wpAt_of_wpAny (plainObj_wpAny_Assign_Attribute ?_ hs2))
  refine ESX.ldL (m := fun z => [(("self" : Str), Value.ref (hh.objs.size + 1)), (y, v)].reverse.lookup z) (v := v) F5.ns ly ?_ IS.kind IS.hky IS.hkd
  refine ESX.ldL (m := fun z => [(("self" : Str), Value.ref (hh.objs.size + 1)), (y, v)].reverse.lookup z) (v := .ref (hh.objs.size + 1)) F5.ns lself ?_ IS.kind IS.hka
  refine set_exc0 (s := ⟨h5, g, d, _, os⟩) BX.sf F5 X₀ N5 (by simp) T.sa hO T.tk T.hd rfl (.tail n4 (.tail n1 (.tail n2 (.head hrest)))) (show 1 ≤ 1000 by decide) (fun dx h6 F6 N6 l6 => ?_)
  refine wpAt_of_wpAny (wpAny_execs_nil ?_)
  refine ⟨rfl, h h6 (hh.objs.size + 1) dx t5 _ (fun b o e => F6.keep _ _ (old _ _ e)) (Nat.le_succ _) ?_ ?_ (N6 _ (.tail _ (.tail _ (.tail _ (.tail _ (.head _)))))).1 ?_⟩
  · have q := l6 (t5, _) List.mem_cons_self
    have q2 := l5 _ (List.mem_cons_of_mem _ (List.mem_cons_of_mem _ me))
    exact Nat.le_trans (Nat.le_succ _) (Nat.le_of_lt (Nat.lt_trans q2 q))
  · intro z
    have q := l6 (t5, _) List.mem_cons_self
    have q2 := l5 _ (List.mem_cons_of_mem _ (List.mem_cons_of_mem _ me))
    rw [z] at q
    exact absurd (Nat.lt_trans q2 q) (Nat.lt_irrefl _)
  · refine ⟨_, _, _, (N6 _ List.mem_cons_self).1, rfl, ?_, ?_, ?_⟩
    · intro e he
      obtain ⟨tt, he'⟩ : ∃ tt : Tok, e ∈ [(⟨PyData.keyHash w.params f, .str f tt, v⟩ : DictEntry)] := ⟨_, by simpa only [putL] using (Array.mem_toList_iff.mpr he)⟩
      rw [List.mem_singleton.mp he']
      exact ⟨_, _, rfl⟩
    · exact List.pairwise_singleton _ _
    · intro z
      simp only [nsFind, findBy, putL]
      by_cases hz : z = f
      · subst hz
        simp [Value.isStr]
      · have hz' : ¬ f = z := fun q => hz q.symm
        simp [Value.isStr, hz, hz']
end
end Bk
namespace Bk
open PySem PySem.Spec PyProof.Rows L2
/-- whose instances are whose -/
def supers (n : Str) : List Str :=
  if n = "Missing" then ["Missing", "LookupError"] else if n = "TooMany" then ["TooMany", "OverflowError"] else [n, "KeptError", "ValueError"]
def subC (n m : Str) : Bool := decide (m ∈ supers n)
/-- what the written part says of the class n with the field f -/
structure ECls (P : Program) (K : PySem.W.Frag) (mg : Str → Option Value) (T : Tb) (n f : Str) : Prop where
  et : ExcT P K (T.cls n) f
  mg : mg n = some (.ref (T.cls n))
  keep : PySem.W.keepIn K (.ref (T.cls n)) = true
  sb : PySem.W.subIn K (.ref (T.cls n)) (.type "BaseException") = some true
  ty : PySem.W.typeIn K (.ref (T.cls n)) = some (.type "type")
/-- what is asked of a class whose instances are held -/
structure EHold (K : PySem.W.Frag) (T : Tb) (n : Str) : Prop where
  ec : ExcC K (T.cls n)
  xf : XfC K (T.cls n)
end Bk
namespace Bk
open PySem PySem.Spec PyProof.Rows L2
section
variable {X : Cx} {pins : List (Addr × Obj)} {σ : L2.St} {H : Hp} {s : Shared}
theorem excO_ok {P : Program} {w : World} {h : Heap} {a C dx : Addr} {oe : Obj} {vs : Array Value} (e : h.get? a = some oe) (z : Zc (.ref C) (some dx) oe) (d : oe.data = .fields vs) : ObjOk P w H h a (ExcO C dx a) :=
  ⟨⟨oe, vs, e, z.1, z.2, d⟩, ⟨oe, e⟩, fun _ _ ⟨o, v, q, r⟩ k => ⟨o, v, k o q, r⟩⟩
end
end Bk
namespace Bk
open PySem PySem.Spec PyProof.Rows L2
/-- enumerate(xs), a list or a tuple -/
def enumD (ds : List D) : List D := ds.mapIdx fun i d => .tup [.int (i : Nat), d]
theorem enumD_len (ds : List D) : (enumD ds).length = ds.length := by unfold enumD; simp
theorem enumD_get {ds : List D} {i : Nat} {d : D} (h : (enumD ds)[i]? = some d) : ∃ x, ds[i]? = some x ∧ d = .tup [.int (i : Nat), x] := by
  unfold enumD at h
  rw [List.getElem?_mapIdx] at h
  cases e : ds[i]? with
  | none => rw [e] at h; cases h
  | some x => rw [e] at h; exact ⟨x, rfl, (Option.some.inj h).symm⟩
section
variable {K : PySem.W.Frag} {T : Tb} {F : Hp}
theorem itd_enumL {a : Addr} {xs : List V} {ds : List D} (h : F a = some (.lst xs)) (r : Reps K T F ds xs) : ItD K T F (Ite K a) (enumD ds) := fun F' s' H' e hh => by
  have hq : SqL K H' a xs := sql_frz (e _ _ h) hh.sub
  refine ⟨fun i hi => ⟨xs, hq, by rw [enumD_len] at hi; rw [← r.length]; exact hi⟩, fun i d hd => ?_⟩
  obtain ⟨x, hx, rfl⟩ := enumD_get hd
  obtain ⟨v, hv, rv⟩ := r.getD hx
  refine ⟨⟨xs, v, hq, hv⟩, fun v' H2 y => ?_⟩
  obtain ⟨t, x', rfl, nt, rfl, y⟩ := y
  have e2 := y xs hq
  rw [hv] at e2; cases e2
  exact new_pair hh nt (.int _) (rv.mono e)
end
def dEnumL (r : Arg) : Arg := fun e s R E => r e s (fun ds s1 => match ds with
  | [.lst xs] => R (enumD xs) s1
  | _ => False) E
section
variable {X : Cx} {T : Tb} {W : WX} {a : Expr} {p pos tpos : Pos} {elts : List Expr} {kk : Nat} {r : Arg}
theorem di_enumL (hg : Gl X "enumerate") (hm : X.mg "enumerate" = none) (ha : DA X T W [a] r) (hs : starEach [a] X.env = [(false, eval a X.env)] := by rfl) : DI X T W (.Tuple elts kk tpos) (.Call (.Name "enumerate" p) [a] [] pos) (dEnumL r) := by
  refine ⟨⟨fun pins s σ H R I hR => (pi_enum hg hm ha.pa hs).run pins s σ H R I ?_⟩⟩
  obtain ⟨F, e, s0, RR, E, he, hh, hx, hf, k⟩ := hR
  refine ⟨F, e, s0, _, E, he, hh, hx, hf, fun ds s1 vs H1 F1 q x hh1 rs => ?_⟩
  split at q
  · obtain ⟨v, rfl, r1⟩ := rs.one
    cases r1 with | lst l rr => exact ⟨_, _, rfl, sql_frz l hh1.sub, k _ s1 _ H1 F1 q x hh1 (itd_enumL l rr)⟩
  · exact q.elim
end
end Bk
namespace PySem.W
open PySem PySem.Spec PySem.Calls PyProof.Rows
section
variable {prog : Program} {w : World} {A : Around} {E : Value → Shared → Prop} {s : Shared} {K : Frag} {x D : Addr} {ox : Obj} {dd : Obj}
theorem bk_classE (C : L2.ExcC K D) (X : K.In s.heap) (I : InstAt s.heap x ox D (some dd)) {Q : Option Value → Shared → Prop} (hq : Q (some (.ref D)) { s with toks := s.toks + 1 }) : wpAny (model prog w) A (getAttr? (.ref x) "__class__") Q E s := by
  have ff : findObj K D (some dd) "__class__" = some (.bind (.builtin "getset_descriptor.__get__") (.builtin "object.__class__")) := findObj_data (by obtain ⟨cd, e, _⟩ := any_some C.hd; rw [e]; rfl) C.ha C.hn C.ht
  obtain ⟨hp, g, d, t, os⟩ := s
  have lT := I.type (M := model prog w)
  have lA := looks_findIn (M := model prog w) X C.hg
  have lG := looks_findIn (M := model prog w) X C.hk
  have lF := looks_find (M := model prog w) X I ff
  have lS : Looks (model prog w) hp (isInstance (.ref x) (.type "BaseException")) true := lT.andThen (looks_subIn X C.hs)
  have z2 : (Value.builtin "BaseException.__getattribute__" == Value.builtin "object.__getattribute__") = false := by decide +kernel
  have z1 : (onTheHeap (Value.ref D) && Value.builtin "BaseException.__getattribute__" == Value.builtin "object.__getattribute__") = false := by rw [z2]; rfl
  unfold getAttr? getAttrBy? getAttrBy
  refine wpAny_bind (wpAny_mkText (wpAny_bind (wpAny_attempt (wpAny_holding (wpAny_bind (lT.at (wpAny_bind (lA.at ?_))))))))
  change wpAny _ _ (if (onTheHeap (Value.ref D) && Value.builtin "BaseException.__getattribute__" == Value.builtin "object.__getattribute__") = true then _ else _) _ _ _
  rw [z1]
  rw [if_neg Bool.false_ne_true]
  unfold getAttrByItsOwn hookBefore
  refine wpAny_bind ?_
  rw [if_pos (show onTheHeap (Value.ref D) = true by rfl)]
  refine lG.at (wpAny_bind (wpAny_attempt (wpAny_holding ?_)))
  unfold callGetattribute
  rw [show (false && onTheHeap (Value.builtin "BaseException.__getattribute__")) = false by rfl]
  rw [if_neg Bool.false_ne_true]
  unfold boundAndCalled
  rw [PySem.F.excAttr_ValueError.ga.bind (.ref x)]
  refine wpAny_bind (wpAny_pure ?_)
  change wpAny _ _ (call (.builtin "BaseException.__getattribute__") [.ref x, .str "__class__" t]) _ _ _
  refine wpAny_call (codeAny_call_builtin PySem.F.excAttr_ValueError.ga.plain PySem.F.entry_bexc_ga (@check_slot (model prog w) _ _ ⟨hp, g, d, t + 1, os⟩ "BaseException.__getattribute__" "BaseException" "__getattribute__" (.ref x) [.str "__class__" t] [] _ (by decide +kernel) (by decide +kernel) lS (PySem.F.args_bexc_ga (.ref x) (.str "__class__" t)) ?_))
  unfold Builtin.«object.__getattribute__»
  refine wpAny_bind (wpAny_of_eq (a := ((Value.ref x : Value), [Value.str "__class__" t])) (by first | rfl | (simp only [slotArgs]; rfl)) (wpAny_bind (wpAny_pure (wpAny_bind (lT.at (wpAny_bind (lF.at ?_)))))))
  change wpAny _ _ (holding [Value.builtin "object.__class__"] (call (.builtin "getset_descriptor.__get__") [.builtin "object.__class__", .ref x, .ref D]) >>= ret) _ _ _
  refine wpAny_bind (wpAny_holding (wpAny_call (class_get (s := ⟨hp, g, d, t + 1, os⟩) (ox := ox) (od := some dd) X I C.hm (wpAny_pure ?_))))
  change wpAny _ _ (handedOut (.ref D)) _ _ _
  rw [handedOut_of (v := .ref D) rfl]
  first
    | exact wpAny_pure (wpAny_pure hq)
    | exact wpAny_pure hq
    | exact wpAny_pure (wpAny_bind (wpAny_pure (wpAny_pure hq)))
theorem bk_kitx (C : L2.ExcC K D) : KitX K (.ref x) (.ref D) (fun h => InstAt h x ox D (some dd)) where
  ty := fun _ _ _ I => I.type
  it := fun _ _ X _ => by
    obtain ⟨cd, e, _⟩ := any_some C.hd
    unfold clsIn at e
    split at e
    · rename_i c2 d2 cd2 sl2 ho
      exact fun A2 Q2 E2 s2 k q => by
        unfold isType loadHead
        exact wpAny_bind (wpAny_loadPart (k _ _ (X _ _ ho)) (wpAny_pure q))
    · cases e
  ne := fun h tp dv its n sl X htp => by
    obtain ⟨cd, e, _⟩ := any_some C.hd
    cases hz : (Value.ref D == .ref tp) with
    | false => rfl
    | true =>
      have e2 : D = tp := Value.ref.inj (beq_iff_eq.mp hz)
      rw [← e2] at htp
      unfold clsIn at e
      split at e
      · rename_i c2 d2 cd2 sl2 ho
        have z := (X _ _ ho).symm.trans htp
        cases z
      · cases e
  ca := fun X I k => bk_classE C X I k
end
end PySem.W
namespace Bk
open PySem PySem.Spec PyProof.Rows L2
section
variable {X : Cx} {pins : List (Addr × Obj)} {σ : L2.St} {H : Hp} {s : Shared}
theorem inst_of {a C dx : Addr} {vs : List (Str × V)} (I : L2.Inv X pins σ H s) (ha : H a = some (ExcO C dx a)) (hd : H dx = some (.xd vs)) : ∃ (oe od : Obj) (mA : Str → Option Value), PySem.W.InstAt s.heap a oe C (some od) ∧ (∀ name, PySem.W.lookIn name od = some (mA name)) ∧ ∀ f, RelO (vs.lookup f) (mA f) := by
  obtain ⟨⟨oe, xs, e1, e2, e3, e4⟩, _, _⟩ := (show ObjOk X.prog X.w H s.heap a (.ext fun h => ∃ (oe : Obj) (vs : Array Value), h.get? a = some oe ∧ oe.cls = .ref C ∧ oe.dict = some dx ∧ oe.data = .fields vs) from I.hok a _ ha)
  obtain ⟨mA, hns, hr⟩ := (show ObjOk X.prog X.w H s.heap dx (.xd vs) from I.hok dx _ hd)
  obtain ⟨od, ho, hl⟩ := lookIn_ns hns
  exact ⟨oe, od, mA, ⟨e1, e2, by unfold PySem.W.notCls; rw [e4] <;> rfl, by rw [e3]; exact ho⟩, hl, hr⟩
/-- isinstance(e, c), e an exception that is held -/
def rIsH (K : PySem.W.Frag) : List V → Hp → VK → Prop := fun xs H Q => ∃ (a C dx : Addr) (vs : List (Str × V)) (c : V) (cv : Value) (b : Bool), xs = [.ref a, c] ∧ H a = some (ExcO C dx a) ∧ H dx = some (.xd vs) ∧ (∀ u, RelV c u → u = cv) ∧ ExcC K C ∧ PySem.W.kitOne K (.ref C) cv = some b ∧ Q (.bl b) H
theorem call_isH : CallR X (.builtin "isinstance") (rIsH X.K) := by
  intro pins s σ H xs us Q I r h
  obtain ⟨a, C, dx, vs, c, cv, b, rfl, ha, hd, hcv, hC, e, q⟩ := h
  obtain ⟨u1, u2, rfl, r1, r2⟩ := vals2 r
  obtain rfl : u1 = Value.ref a := r1
  have ec := hcv _ r2
  subst ec
  obtain ⟨oe, od, mA, J, _⟩ := inst_of I ha hd
  exact PySem.W.kia_one (PySem.W.bk_kitx hC) I.kIn J e (fun z => nomatch z) fun tk => ⟨.bl b, H, I.kept (t' := tk) fun _ _ z => z, rfl, q⟩
/-- e.f, e an exception that is held -/
def tXh (K : PySem.W.Frag) (f : Str) (te : TE) : TE := fun σ H Q => te σ H fun x H1 => ∃ (a C dx : Addr) (vs : List (Str × V)) (v : V), x = .ref a ∧ H1 a = some (ExcO C dx a) ∧ H1 dx = some (.xd vs) ∧ XfC K C ∧ PySem.W.findIn K (.ref C) f = some none ∧ vs.lookup f = some v ∧ Q v H1
theorem pe_xh {e : Expr} {te : TE} {pos : Pos} {n : Str} (he : PE X e te) (hb : attributeBase e n X.env (eval e X.env) = eval e X.env := by rfl) : PE X (.Attribute e n pos) (tXh X.K n te) := by
  refine ⟨fun pins s σ H Q I h => attr_of hb (thn (he.run pins s σ H _ I h) fun u s1 hh => ?_)⟩
  obtain ⟨x, H1, I1, rx, a, C, dx, vs, v, rfl, ha, hd, hX, hno, l, q⟩ := hh
  obtain rfl : u = Value.ref a := rx
  obtain ⟨oe, od, mA, J, hl, hr⟩ := inst_of I1 ha hd
  obtain ⟨w, hw, rw'⟩ := RelO.some_of (v := v) (o := mA n) (by rw [← l]; exact hr n)
  exact HandSPX.exc_get I1.kIn J hX.ga hX.gg hX.exC (PySem.W.findObj_own hX.hdC hno rfl (by rw [hl, hw])) (handed_of rw') ⟨v, H1, I1.tok _, rw', q⟩
end
end Bk
namespace Bk
open PySem PySem.Spec PyProof.Rows L2
def tyName (d : D) (s : S) : Option String := match d with
  | .non => some "NoneType"
  | .bl _ => some "bool"
  | .int _ => some "int"
  | .str _ => some "str"
  | .lst _ => some "list"
  | .scr _ => some "list"
  | .tup _ => some "tuple"
  | .dic _ => some "dict"
  | .rf (.ref p) => match s.mu p with
    | some (.ml _) => some "list"
    | some (.mk _) => some "dict"
    | _ => none
  | _ => none
theorem Rep.ty {K : PySem.W.Frag} {T : Tb} {F H : Hp} {s : S} (hh : Hold K T F s H) {d : D} {v : V} {t : String} (r : Rep K T F d v) (h : tyName d s = some t) : TyX K H v (.type t) := by
  cases r with
  | non => cases h; exact .base .non
  | bl b => cases h; exact .base (.bl b)
  | int i => cases h; exact .base (.int i)
  | str x => cases h; exact .base (.str x)
  | lst l rr => cases h; exact .base (.lst (hh.sub _ _ l))
  | scr l =>
    cases h
    rcases hh.sub.seq l with (e | ⟨o, e⟩) | ⟨o, its, n, e, c, _⟩
    · exact .base (.lst e)
    · exact .base (.frz e)
    · exact .kList e c
  | tup l rr =>
    cases h
    rcases sqt_mono hh.sub l with (e | ⟨o, e⟩) | ⟨o, its, n, e, c, _⟩
    · exact .base (.tup e)
    · exact .fTuple e
    · exact .kTuple e c
  | dic l rr => cases h; exact .base (.dK (hh.sub _ _ l))
  | rf v =>
    cases v with
    | ref p =>
      have h' : (match s.mu p with | some (MO.ml _) => some "list" | some (MO.mk _) => some "dict" | _ => none) = some t := h
      cases e : s.mu p with
      | none => rw [e] at h'; cases h'
      | some m =>
        rw [e] at h'
        obtain ⟨_, q⟩ := hh.mu p m e
        cases m with
        | ml xs => cases h'; obtain ⟨vs, e1, _⟩ := q; exact .base (.lst e1)
        | mk xs => cases h'; obtain ⟨vs, e1, _⟩ := q; exact .base (.dK e1)
        | mo _ _ => cases h'
        | md _ => cases h'
    | _ => cases h
  | exc _ _ _ => cases h
  | obj _ _ => cases h
  | pln _ _ _ => cases h
  | clo _ _ => cases h
  | cls _ => cases h
  | kdc _ _ => cases h
def tyNames : List String := ["NoneType", "bool", "int", "str", "list", "tuple", "dict"]
def isTy (t n : String) : Bool := t == n || (t == "bool" && n == "int")
section
variable {X : Cx} {T : Tb} {W : WX} {a b : Expr} {fa fb : Exp} {pos p p2 : Pos}
theorem dx_bty {x : Str} {id : String} (hg : Gl X x) (hm : X.mg x = none) (hv : bootBuiltins x = some (.type id)) (hn : x ≠ "__name__" := by decide) (hd : (x == ("__debug__" : Str)) = false := by decide) : DX X T W (.Name x p) (dC (.rf (.ty id))) := dx_of_c (v := .ty id) (pe_bltn hg hm hv (show L2.RelV (.ty id) (.type id) from rfl) hn hd) fun _ => .rf _
/-- what the written part says of the classes kn, asked for the classes ms and the fields fs -/
structure EAll (K : PySem.W.Frag) (T : Tb) (kn ms fs : List Str) : Prop where
  hold : ∀ c ∈ kn, EHold K T c
  kit : ∀ c ∈ kn, ∀ m ∈ ms, PySem.W.kitOne K (.ref (T.cls c)) (.ref (T.cls m)) = some (subC c m)
  exm : ∀ c ∈ kn, ∀ m ∈ ms, PySem.W.exmOne K (.ref (T.cls c)) (.ref (T.cls m)) = some (subC c m)
  nof : ∀ c ∈ kn, ∀ f ∈ fs, PySem.W.findIn K (.ref (T.cls c)) f = some none
def dIsE (kn : List Str) (m : Str) (f : Exp) : Exp := fun e s R E => f e s (fun d s1 => match d with
  | .exc c _ => c ∈ kn ∧ R (.bl (subC c m)) s1
  | _ => False) E
theorem dx_isE {kn ms fs : List Str} {m : Str} (A : EAll X.K T kn ms fs) (hmem : m ∈ ms) (hi : Gl X "isinstance") (hmi : X.mg "isinstance" = none) (hbi : bootBuiltins "isinstance" = some (.builtin "isinstance")) (hg : Gl X m) (hm : X.mg m = some (.ref (T.cls m))) (ha : DX X T W a fa)
    (hd : (m == ("__debug__" : Str)) = false := by decide) (hs1 : starEach [.Name m p2] X.env = (false, eval (.Name m p2) X.env) :: starEach [] X.env := by rfl) (hs : starEach (a :: [.Name m p2]) X.env = (false, eval a X.env) :: starEach [.Name m p2] X.env := by rfl) (hpl : (backTo pos (starEach [.Name m p2] X.env)).any (·.1) = false := by rfl) :
    DX X T W (.Call (.Name "isinstance" p) [a, .Name m p2] [] pos) (dIsE kn m fa) := by
  have hn : DX X T W (.Name m p2) (dC (.rf (.ref (T.cls m)))) := dx_of_c (v := .ref (T.cls m)) (pe_glob hg hm (show L2.RelV (.ref (T.cls m)) (.ref (T.cls m)) from rfl) hd) fun _ => .rf _
  refine ⟨pe_imp (pe_callB call_isH hi hmi hbi (da_cons ha (da_cons hn da_nil hs1) hs).pa (by decide) (by decide) hs hpl) fun σ H Q h => ?_⟩
  obtain ⟨F, e, s, R, E, he, hh, hx, hf, post⟩ := h
  refine ⟨F, e, s, (fun ds s1 => match ds with
    | [.exc c fs, .rf v] => v = .ref (T.cls m) ∧ c ∈ kn ∧ R (.bl (subC c m)) s1
    | _ => False), E, he, hh, hx, ?_, fun ds s1 vs H1 F1 q1 x1 hh1 rs => ?_⟩
  · refine cast (congrArg (fun g => fa e s g E) ?_) hf
    funext d s1
    cases d <;> first | rfl | (exact propext ⟨fun z => z.elim, fun z => z.elim⟩) | (exact propext ⟨fun z => ⟨rfl, z⟩, fun z => z.2⟩)
  · dsimp only at q1 ⊢
    split at q1
    · obtain ⟨rfl, hc, q⟩ := q1
      obtain ⟨v, w, rfl, r1, r2⟩ := rs.two
      cases r2
      cases r1 with | exc l1 l2 rr =>
        exact ⟨_, _, _, _, _, _, _, rfl, hh1.sub _ _ l1, hh1.sub _ _ l2, fun u z => z, (A.hold _ hc).ec, A.kit _ hc m hmem, post _ s1 _ H1 F1 q x1 hh1 (.bl _)⟩
    · exact q1.elim
def dFldE (kn : List Str) (f : Str) (g : Exp) : Exp := fun e s R E => g e s (fun d s1 => match d with
  | .exc c fs => c ∈ kn ∧ ∃ x, fs.lookup f = some x ∧ R x s1
  | _ => False) E
theorem dx_fldE {kn ms fs : List Str} {f : Str} (A : EAll X.K T kn ms fs) (hf : f ∈ fs) (ha : DX X T W a fa) (hb : attributeBase a f X.env (eval a X.env) = eval a X.env := by rfl) : DX X T W (.Attribute a f pos) (dFldE kn f fa) :=
  ⟨pe_imp (pe_xh ha.pe hb) fun σ H Q h => by
    obtain ⟨F, e, s, R, E, he, hh, hx, hg, post⟩ := h
    refine ⟨F, e, s, _, E, he, hh, hx, hg, fun d s1 v H1 F1 q x1 hh1 r => ?_⟩
    split at q
    · obtain ⟨hc, x, hl, q⟩ := q
      cases r with | exc l1 l2 rr =>
        obtain ⟨w, hw, rw'⟩ := rr.look hl
        exact ⟨_, _, _, _, w, rfl, hh1.sub _ _ l1, hh1.sub _ _ l2, (A.hold _ hc).xf, A.nof _ hc f hf, hw, post _ s1 _ H1 F1 q x1 hh1 rw'⟩
    · exact q.elim⟩
end
end Bk
namespace Bk
open PySem PySem.Spec PyProof.Rows L2
end Bk
namespace Bk
open PySem PySem.Spec PyProof.Rows L2 LamX
end Bk
namespace Bk
open PySem PySem.Spec PyProof.Rows L2
def dDict0 : Exp := fun _ s R _ => R (.dic []) s
theorem dx_dict0 {X : Cx} {T : Tb} {W : WX} {pos : Pos} : DX X T W (.Dict [] [] pos) dDict0 := ⟨pe_imp pe_dnewK fun σ H Q hq p np => by
  obtain ⟨F, e, s, R, E, he, hh, hx, hf, post⟩ := hq
  exact post _ s _ _ _ hf (Ext.frz hh np) (hh.frz (o := .dK []) np (fun ps z => by cases z)) (.dic upd_same .nil)⟩
mutual
/-- no thing by its address, no dict but the empty one -/
def D.plA : D → Bool
  | .non | .bl _ | .int _ | .str _ => true
  | .lst xs | .tup xs | .pln xs => D.plsA xs
  | .dic [] => true
  | .dic (_ :: _) | .rf _ | .scr _ | .exc _ _ | .obj _ _ | .clo _ _ _ | .cls _ | .kdc _ => false
def D.plsA : List D → Bool
  | [] => true
  | x :: xs => x.plA && D.plsA xs
end
section
variable {X : Cx} {pins : List (Addr × Obj)} {σ : L2.St} {H F : Hp} {s : Shared} {T : Tb}
theorem off_sys (I : L2.Inv X pins σ H s) (hs : ∃ mm, X.base.Ns sysModules mm) {a : Addr} {o : Obj} {vs : Array Value} {n : Nat} (e : s.heap.get? a = some o) (d : o.data = .seq vs n) : sysModules ≠ a := fun z => by
  obtain ⟨mm, ob, es, ep, hb, hd, _⟩ := hs
  have := I.bk _ _ hb
  rw [z, e] at this
  cases this
  rw [d] at hd
  cases hd
mutual
theorem rep_readsA (I : L2.Inv X pins σ H s) (hs : ∃ mm, X.base.Ns sysModules mm) (e : Same F H) : ∀ {d : D} {v : V} {u : Value}, Rep X.K T F d v → d.plA = true → RelV v u → ∃ as, Reads s.heap u d.py as ∧ sysModules ∉ as
  | _, _, _, .non, _, r => by cases r; rw [D.py]; exact ⟨_, Reads.none, fun h => nomatch h⟩
  | _, _, _, .bl b, _, r => by cases r; rw [D.py]; exact ⟨_, Reads.bool b, fun h => nomatch h⟩
  | _, _, _, .int i, _, r => by obtain ⟨t, rfl⟩ := r; rw [D.py]; exact ⟨_, Reads.int i t, fun h => nomatch h⟩
  | _, _, _, .str x, _, r => by obtain ⟨t, rfl⟩ := r; rw [D.py]; exact ⟨_, Reads.str x t, fun h => nomatch h⟩
  | _, _, _, .lst h rr, p, r => by
    cases r
    obtain ⟨its, rv, ⟨o, n, ho, hc, _, hd⟩, _⟩ := I.list (sql_frz h e)
    obtain ⟨as, q, hn⟩ := reps_readsA I hs e rr (by rwa [D.plA] at p) rv
    rw [D.py]
    exact ⟨_, Reads.list ho hc hd q, fun z => by
      rcases List.mem_cons.mp z with z | z
      · exact off_sys I hs ho hd z
      · exact hn z⟩
  | _, _, _, .tup h rr, p, r => by
    cases r
    obtain ⟨its, rv, ⟨o, ho, hc, n, hd⟩, _⟩ := I.tuple (sqt_mono e h)
    obtain ⟨as, q, hn⟩ := reps_readsA I hs e rr (by rwa [D.plA] at p) rv
    rw [D.py]
    exact ⟨_, Reads.tuple ho hc hd q, hn⟩
  | _, _, _, .pln h hdn rr, p, r => by
    cases r
    obtain ⟨its, rv, ⟨o, ho, hc, n, hd⟩, _⟩ := I.tuple (X := X) (H := H) (s := s) (.inl (.inr ⟨_, e _ _ h⟩))
    obtain ⟨as, q, hn⟩ := reps_readsA I hs e rr (by rwa [D.plA] at p) rv
    rw [D.py]
    exact ⟨_, Reads.tuple ho hc hd q, hn⟩
  | _, _, _, .dic (kvs := kvs) h rr, p, r => by
    cases kvs with
    | cons a b => rw [D.plA] at p; cases p
    | nil =>
      cases rr
      cases r
      obtain ⟨_, hns, vs, kv, ⟨o, es, ep, ho, hex, hdat, _, hes, _⟩⟩ := I.hok _ _ (e _ _ h)
      cases kv
      rw [D.py]
      have e0 : es.toList = [] := by
        generalize es.toList = l at hes
        cases hes; rfl
      refine ⟨_, Reads.dict ho hex.1 hdat (by rw [e0]; exact .nil) (by rw [e0]; exact .nil), fun z => ?_⟩
      simp only [List.append_nil, List.mem_cons, List.not_mem_nil, or_false] at z
      rw [← z] at hns
      simp at hns
  | _, _, _, .rf v, p, _ => by rw [D.plA] at p; cases p
  | _, _, _, .scr h, p, _ => by rw [D.plA] at p; cases p
  | _, _, _, .exc h h2 r, p, _ => by rw [D.plA] at p; cases p
  | _, _, _, .obj h r, p, _ => by rw [D.plA] at p; cases p
  | _, _, _, .clo f r, p, _ => by rw [D.plA] at p; cases p
  | _, _, _, .cls _, p, _ => by rw [D.plA] at p; cases p
  | _, _, _, .kdc _ _, p, _ => by rw [D.plA] at p; cases p
theorem reps_readsA (I : L2.Inv X pins σ H s) (hs : ∃ mm, X.base.Ns sysModules mm) (e : Same F H) : ∀ {ds : List D} {vs : List V} {us : List Value}, Reps X.K T F ds vs → D.plsA ds = true → Vals vs us → ∃ as, ReadsAll s.heap us (D.pys ds) as ∧ sysModules ∉ as
  | _, _, _, .nil, _, r => by cases r; rw [D.pys]; exact ⟨_, .nil, fun h => nomatch h⟩
  | _, _, _, .cons h rr, p, r => by
    rw [D.plsA, Bool.and_eq_true] at p
    cases r with
    | cons r1 r2 =>
      obtain ⟨as, q1, n1⟩ := rep_readsA I hs e h p.1 r1
      obtain ⟨bs, q2, n2⟩ := reps_readsA I hs e rr p.2 r2
      rw [D.pys]
      exact ⟨_, .cons q1 q2, fun z => (List.mem_append.mp z).elim n1 n2⟩
end
end
def D.shOkA (d : D) : Prop := d.plA = true ∧ d.py.showable = true ∧ d.py.depth ≤ 64 ∧ d.py.shown.length ≤ sizeLine
def cReprA : GA := fun ds s R => match ds with
  | [x] => x.shOkA ∧ ∀ a, shown x = a → R (.str a) s
  | _ => False
section
variable {X : Cx} {T : Tb}
/-- repr, by values and the frozen heap -/
theorem cd_reprA (hs : ∃ mm, X.base.Ns sysModules mm) (hg : X.A.guards = some []) (hu : X.A.units + 66 < cLine) : CallD X T (.builtin "repr") cReprA := by
  refine ⟨fun vs H Q => ∃ (F : Hp) (d : D) (v : V), vs = [v] ∧ Same F H ∧ Rep X.K T F d v ∧ d.shOkA ∧ Q (.str (shown d)) H, fun pins s σ H vs us Q I r h => ?_, fun F s H ds vs R Q hh rs hg' post => ?_⟩
  · obtain ⟨F, d, v, rfl, e, rp, ⟨h0, h1, h2, h3⟩, q⟩ := h
    obtain ⟨u, rfl, ru⟩ := vals1 r
    obtain ⟨as, rd, hn⟩ := rep_readsA I hs e rp h0 ru
    have viaRef : ∀ a, u = .ref a → wpAny (model X.prog X.w) X.A (call (.builtin "repr") [u]) (EP X pins σ Q) X.xe s := fun a ea => by
      subst ea
      exact repr_of_reads' rd h1 (fun _ => hn) hg (by omega) (fun _ _ e => e) (fun h' u tk hk => ⟨.str _, H, I.kept hk, ⟨_, rfl⟩, q⟩) h3
    cases rp with
    | non =>
      cases ru
      exact PySem.P.repr_of_none ⟨.str _, H, I.tok _, ⟨_, rfl⟩, q⟩
    | bl b =>
      cases ru
      exact PySem.P.repr_of_bool ⟨.str _, H, I.tok _, ⟨_, rfl⟩, q⟩
    | int i =>
      obtain ⟨t, rfl⟩ := ru
      exact PySem.P.repr_of_int (by rw [D.py] at h1; simpa [PyData.showable] using h1) ⟨.str _, H, I.tok _, ⟨_, rfl⟩, q⟩
    | str x =>
      obtain ⟨t, rfl⟩ := ru
      refine PySem.P.repr_of_str ⟨.str _, H, I.tok _, ⟨_, rfl⟩, q⟩ ?_
      rw [D.py] at h3
      exact h3
    | lst _ _ => exact viaRef _ ru
    | tup _ _ => exact viaRef _ ru
    | pln _ _ _ => exact viaRef _ ru
    | dic _ _ => exact viaRef _ ru
    | rf v => rw [D.plA] at h0; cases h0
    | scr _ => rw [D.plA] at h0; cases h0
    | exc _ _ _ => rw [D.plA] at h0; cases h0
    | obj _ _ => rw [D.plA] at h0; cases h0
    | clo _ _ => rw [D.plA] at h0; cases h0
    | cls _ => rw [D.plA] at h0; cases h0
    | kdc _ _ => rw [D.plA] at h0; cases h0
  · unfold cReprA at hg'
    split at hg'
    · obtain ⟨v, rfl, r⟩ := rs.one
      exact ⟨F, _, v, rfl, hh.sub, r, hg'.1, post _ s _ H F (hg'.2 _ rfl) Ext.refl hh (.str _)⟩
    · exact hg'.elim
end
end Bk
namespace Bk
open PySem PySem.Spec PyProof.Rows L2
end Bk
namespace Bk
open PySem PySem.Spec PyProof.Rows L2
/-- a def whose code object stands at c -/
structure FunC (K : PySem.W.Frag) (x qual : Str) (st : Stmt) (f : Addr) (fd : FuncData) (c : Addr) : Prop where
  ex : ∃ (oc : Value) (od : Option Addr) (kV doc pm : Value) (an : Option Addr) (ct : Value) (osl : Array (Option Value)),
    fd = PySem.W.fnOf x qual (defArgs st) (defBody st) (defScope st) .none kV doc pm an (.ref c) ct ∧ K.lookup f = some ⟨oc, od, .func fd, osl⟩ ∧ PySem.W.codeIn K (.ref c) qual = true
  kp : PySem.W.keepIn K (.ref f) = true
section
variable {P : Program} {w : World} {K : PySem.W.Frag} {mg : Str → Option Value} {base : Heap} {T : Tb}
theorem FunC.fn {x qual : Str} {st : Stmt} {f c : Addr} {fd : FuncData} (F : FunC K x qual st f fd c) : Fun K x qual st f fd := by
  obtain ⟨oc, od, kV, doc, pm, an, ct, osl, h1, h2, h3⟩ := F.ex
  exact ⟨⟨oc, od, kV, doc, pm, an, _, ct, osl, h1, h2, h3⟩, F.kp⟩
end
end Bk
namespace Bk
open PySem PySem.Spec PyProof.Rows L2
/-- the class of that name -/
def clsK (K : PySem.W.Frag) (n : Str) : Addr := match PySem.W.nsIn K mainGlobals n with
  | some (some (.ref a)) => a
  | _ => 0
def nmB (K : PySem.W.Frag) (n : Str) : Bool := match PySem.W.nsIn K mainGlobals n with
  | some (some (.ref _)) => true
  | _ => false
theorem clsK_of {K : PySem.W.Frag} {n : Str} {C : Addr} (h : PySem.W.nsIn K mainGlobals n = some (some (.ref C))) : clsK K n = C := by unfold clsK; rw [h]
theorem mg_cls {K : PySem.W.Frag} {h : Heap} {mg : Str → Option Value} {n : Str} (X : K.In h) (G : h.Ns mainGlobals mg) (b : nmB K n = true) : mg n = some (.ref (clsK K n)) := by
  unfold nmB at b
  split at b
  · rename_i a e
    rw [clsK_of e]
    exact PySem.W.mg_of X G e
  · cases b
def excB (K : PySem.W.Frag) (C : Addr) : Bool := decide (PySem.W.findIn K (.ref C) "__getattribute__" = some (some (.builtin "BaseException.__getattribute__"))) && decide (PySem.W.findIn K (.ref C) "__getattr__" = some none) && decide (PySem.W.subIn K (.ref C) (.type "BaseException") = some true) && PySem.W.hasDictIn K C &&
  decide (PySem.W.findIn K (.ref C) "__class__" = some (some (.builtin "object.__class__"))) && decide (PySem.W.specialIn K (.builtin "object.__class__") "__get__" = some (some (.builtin "getset_descriptor.__get__"))) && decide (PySem.W.takesIn K (.builtin "object.__class__") = some true) && decide (PySem.W.mroIn K C (.type "object") = some true)
theorem excB_ok {K : PySem.W.Frag} {C : Addr} (h : excB K C = true) : ExcC K C := by
  simp only [excB, Bool.and_eq_true, decide_eq_true_eq] at h
  obtain ⟨⟨⟨⟨⟨⟨⟨h1, h2⟩, h3⟩, h4⟩, h5⟩, h6⟩, h7⟩, h8⟩ := h
  exact ⟨h1, h2, h3, h4, h5, h6, h7, h8⟩
def eaB (K : PySem.W.Frag) (kn ms fs : List Str) : Bool := kn.all fun c => excB K (clsK K c) && xfB K (clsK K c) && (ms.all fun m => decide (PySem.W.kitOne K (.ref (clsK K c)) (.ref (clsK K m)) = some (subC c m)) && decide (PySem.W.exmOne K (.ref (clsK K c)) (.ref (clsK K m)) = some (subC c m))) &&
  fs.all fun f => decide (PySem.W.findIn K (.ref (clsK K c)) f = some none)
theorem eall_of {hs : NestedKey → Int} {K : PySem.W.Frag} {TT : List (Addr × Str)} {kn ms fs : List Str} (h : eaB K kn ms fs = true) : EAll K ⟨TT, clsK K, hs⟩ kn ms fs := by
  have go : ∀ c ∈ kn, excB K (clsK K c) = true ∧ xfB K (clsK K c) = true ∧ (∀ m ∈ ms, PySem.W.kitOne K (.ref (clsK K c)) (.ref (clsK K m)) = some (subC c m) ∧ PySem.W.exmOne K (.ref (clsK K c)) (.ref (clsK K m)) = some (subC c m)) ∧ ∀ f ∈ fs, PySem.W.findIn K (.ref (clsK K c)) f = some none := fun c hc => by
    have q := List.all_eq_true.mp h c hc
    simp only [Bool.and_eq_true, List.all_eq_true, decide_eq_true_eq] at q
    exact ⟨q.1.1.1, q.1.1.2, fun m hm => q.1.2 m hm, fun f hf => q.2 f hf⟩
  exact ⟨fun c hc => ⟨excB_ok (go c hc).1, xfB_ok (go c hc).2.1⟩, fun c hc m hm => ((go c hc).2.2.1 m hm).1, fun c hc m hm => ((go c hc).2.2.1 m hm).2, fun c hc f hf => (go c hc).2.2.2 f hf⟩
/-- an own exception's class, but for its def -/
def exB (K : PySem.W.Frag) (C : Addr) (f : Str) (B newId initId : String) (bmB : List Value) : Bool := PySem.W.excInitIn K C bmB newId && PySem.W.excOver K C bmB && decide (PySem.W.subIn K (.ref C) (.type B) = some true) && decide (PySem.W.ks_superIn K C C "__init__" = some (some (.builtin initId))) &&
  decide (PySem.W.findIn K (.ref C) "__setattr__" = some (some (.builtin "object.__setattr__"))) && decide (PySem.W.takerIn K C f = some none) && PySem.W.hasDictIn K C && decide (PySem.W.mroIn K C (.ref C) = some true) && decide (PySem.W.nsIn K mainGlobals "super" = some none) && decide (PySem.W.nsIn K cStatics "thirdparty.any" = some none) &&
  PySem.W.keepIn K (.ref C) && decide (PySem.W.subIn K (.ref C) (.type "BaseException") = some true) && decide (PySem.W.typeIn K (.ref C) = some (.type "type"))
/-- the __init__ that stands in a class's body -/
def initS : Stmt → Stmt
  | .ClassDef _ _ _ (st :: _) .. => st
  | st => st
theorem ecls_of {hs : NestedKey → Int} {P : Program} {K : PySem.W.Frag} {mg : Str → Option Value} {h : Heap} {TT : List (Addr × Str)} {n f y : Str} {B newId initId : String} {bmB : List Value} {st : Stmt} {C fI cda cc : Addr} {qual : Str} {kV doc pm ct oc : Value} {an od : Option Addr} {osl : Array (Option Value)} {ccl cl : Value} {cdd cld : Option Addr} {ccs csl : Array (Option Value)} {vs : Array Value} {file : Str} {tf : Tok}
    (X : K.In h) (G : h.Ns mainGlobals mg) (BX : BaseX B newId initId bmB) (IS : InitS (defArgs st) (defBody st) (defScope st) f y) (top : (P.main.scope.names.lookup ("super" : Str)).isSome = false)
    (hC : PySem.W.nsIn K mainGlobals n = some (some (.ref C))) (hB : exB K C f B newId initId bmB = true) (hfi : PySem.W.findIn K (.ref C) "__init__" = some (some (.ref fI))) (hfn : PySem.W.isFn K (.ref fI) = true)
    (hl : K.lookup fI = some ⟨oc, od, .func (PySem.W.ksFn "__init__" qual (defArgs st) (defBody st) (defScope st) .none kV doc pm an (.ref cda) ct cc), osl⟩) (hcd : PySem.W.codeIn K (.ref cda) qual = true) (hcl : K.lookup cda = some ⟨ccl, cdd, .fields vs, ccs⟩)
    (hv : vs[2]? = some (.str file tf)) (hf : ((P.main.file : Str) == file) = true) (hcc : K.lookup cc = some ⟨cl, cld, .cell (some (.ref C)), csl⟩) : ECls P K mg ⟨TT, clsK K, hs⟩ n f := by
  simp only [exB, Bool.and_eq_true, decide_eq_true_eq] at hB
  obtain ⟨⟨⟨⟨⟨⟨⟨⟨⟨⟨⟨⟨a1, a2⟩, a3⟩, a4⟩, a5⟩, a6⟩, a7⟩, a8⟩, a9⟩, a10⟩, a11⟩, a12⟩, a13⟩ := hB
  have e := clsK_of hC
  have ex : ExcT P K C f := ⟨⟨B, newId, initId, bmB, BX, a1, a2, a3, a4⟩, a5, a6, a7, a8, a9, a10, top, ⟨fI, cda, cc, qual, y, _, _, _, kV, doc, pm, ct, oc, an, od, osl, ccl, cl, cdd, cld, ccs, csl, vs, file, tf, hfi, hfn, hl, hcd, hcl, hv, hf, hcc, IS⟩⟩
  refine ⟨?_, ?_, ?_, ?_, ?_⟩
  · show ExcT P K (clsK K n) f
    rw [e]; exact ex
  · show mg n = some (.ref (clsK K n))
    rw [e]; exact PySem.W.mg_of X G hC
  · show PySem.W.keepIn K (.ref (clsK K n)) = true
    rw [e]; exact a11
  · show PySem.W.subIn K (.ref (clsK K n)) _ = _
    rw [e]; exact a12
  · show PySem.W.typeIn K (.ref (clsK K n)) = _
    rw [e]; exact a13
end Bk
namespace Bk
open PySem PySem.Spec PyProof.Rows L2
mutual
/-- lists, tuples, ints up to b, texts, {} -/
def D.good (b : Int) : D → Bool
  | .non | .bl _ => true
  | .int i => decide (-b ≤ i) && decide (i ≤ b)
  | .str x => PyData.strOk x
  | .lst xs | .tup xs => D.goods b xs
  | .dic [] => true
  | .dic (_ :: _) | .rf _ | .scr _ | .exc _ _ | .obj _ _ | .clo _ _ _ | .pln _ | .cls _ | .kdc _ => false
def D.goods (b : Int) : List D → Bool
  | [] => true
  | x :: xs => x.good b && D.goods b xs
end
mutual
theorem good_mono {b c : Int} (h : b ≤ c) : ∀ d : D, d.good b = true → d.good c = true
  | .non, _ | .bl _, _ => by rw [D.good]
  | .int i, z => by
    rw [D.good, Bool.and_eq_true, decide_eq_true_eq, decide_eq_true_eq] at z ⊢
    omega
  | .str x, z => by rw [D.good] at z ⊢; exact z
  | .lst xs, z | .tup xs, z => by rw [D.good] at z ⊢; exact goods_mono h xs z
  | .dic [], _ => by rw [D.good]
  | .dic (_ :: _), z | .rf _, z | .scr _, z | .exc _ _, z | .obj _ _, z | .clo _ _ _, z | .pln _, z | .cls _, z | .kdc _, z => by rw [D.good] at z; cases z
theorem goods_mono {b c : Int} (h : b ≤ c) : ∀ xs : List D, D.goods b xs = true → D.goods c xs = true
  | [], _ => by rw [D.goods]
  | x :: xs, z => by
    rw [D.goods, Bool.and_eq_true] at z ⊢
    exact ⟨good_mono h x z.1, goods_mono h xs z.2⟩
end
mutual
theorem good_plA {b : Int} : ∀ d : D, d.good b = true → d.plA = true
  | .non, _ | .bl _, _ | .int _, _ | .str _, _ => by rw [D.plA]
  | .lst xs, z | .tup xs, z => by rw [D.good] at z; rw [D.plA]; exact goods_plA xs z
  | .dic [], _ => by rw [D.plA]
  | .dic (_ :: _), z | .rf _, z | .scr _, z | .exc _ _, z | .obj _ _, z | .clo _ _ _, z | .pln _, z | .cls _, z | .kdc _, z => by rw [D.good] at z; cases z
theorem goods_plA {b : Int} : ∀ xs : List D, D.goods b xs = true → D.plsA xs = true
  | [], _ => by rw [D.plsA]
  | x :: xs, z => by
    rw [D.goods, Bool.and_eq_true] at z
    rw [D.plsA, Bool.and_eq_true]
    exact ⟨good_plA x z.1, goods_plA xs z.2⟩
end
theorem int_short {i : Int} (h : -(10 ^ 38) < i ∧ i < 10 ^ 38) : (PyData.shown (.int i)).length ≤ 40 := by
  rw [PyData.shown]
  have hb : i.natAbs < 10 ^ 38 := by omega
  have := int_text_length_le10 (a := i) (k := 38) (by decide) hb
  have e : (Str.ofString (toString i)).length ≤ (toString i).length := by
    rw [Str.ofString_eq_toList]
    show ((toString i).toList.map Char.toNat).toArray.size ≤ _
    rw [List.size_toArray, List.length_map]
    exact Nat.le_of_eq String.length_toList
  exact Nat.le_trans e (by omega)
mutual
theorem good_show {b : Int} (hb : b < 10 ^ 38) : ∀ d : D, d.good b = true → d.py.showable = true ∧ d.py.leavesShort 40 = true
  | .non, _ => by rw [D.py]; simp [PyData.showable, PyData.leavesShort]
  | .bl _, _ => by rw [D.py]; simp [PyData.showable, PyData.leavesShort]
  | .int i, z => by
    rw [D.good, Bool.and_eq_true, decide_eq_true_eq, decide_eq_true_eq] at z
    have hl : i.natAbs.log2 < 127 := log2_lt (Nat.lt_trans (show i.natAbs < 10 ^ 38 by omega) (by decide)) (by decide)
    rw [D.py, PyData.showable, PyData.leavesShort]
    exact ⟨decide_eq_true (by omega), decide_eq_true (int_short (by omega))⟩
  | .str x, z => by
    rw [D.good] at z
    rw [D.py, PyData.showable, PyData.leavesShort]
    refine ⟨rfl, List.all_eq_true.mpr fun c hc => decide_eq_true ?_⟩
    have := strOk_iff.mp z c hc
    exact Nat.lt_trans this (by decide)
  | .lst xs, z | .tup xs, z => by
    rw [D.good] at z
    rw [D.py, PyData.showable, PyData.leavesShort]
    exact goods_show hb xs z
  | .dic [], _ => by rw [D.py]; simp [PyData.showable, PyData.showableKv, PyData.leavesShort, PyData.leavesShortKv]
  | .dic (_ :: _), z | .rf _, z | .scr _, z | .exc _ _, z | .obj _ _, z | .clo _ _ _, z | .pln _, z | .cls _, z | .kdc _, z => by rw [D.good] at z; cases z
theorem goods_show {b : Int} (hb : b < 10 ^ 38) : ∀ xs : List D, D.goods b xs = true → PyData.showableAll (D.pys xs) = true ∧ PyData.leavesShortAll 40 (D.pys xs) = true
  | [], _ => by rw [D.pys, PyData.showableAll, PyData.leavesShortAll]; exact ⟨rfl, rfl⟩
  | x :: xs, z => by
    rw [D.goods, Bool.and_eq_true] at z
    obtain ⟨h1, h2⟩ := good_show hb x z.1
    obtain ⟨h3, h4⟩ := goods_show hb xs z.2
    rw [D.pys, PyData.showableAll, PyData.leavesShortAll, h1, h2, h3, h4]
    exact ⟨rfl, rfl⟩
end
/-- a small thing -/
structure Th (b : Int) (n w : Nat) (d : D) : Prop where
  g : d.good b = true
  dep : d.py.depth ≤ n
  wt : d.py.weight ≤ w
structure Ths (b : Int) (n w : Nat) (xs : List D) : Prop where
  g : D.goods b xs = true
  dep : PyData.depthAll (D.pys xs) ≤ n
  wt : PyData.weightAll (D.pys xs) ≤ w
section
variable {b c : Int} {n m w u : Nat} {d : D} {xs ys : List D}
theorem Th.mono (h : Th b n w d) (h1 : b ≤ c) (h2 : n ≤ m) (h3 : w ≤ u) : Th c m u d := ⟨good_mono h1 d h.g, Nat.le_trans h.dep h2, Nat.le_trans h.wt h3⟩
theorem Ths.mono (h : Ths b n w xs) (h1 : b ≤ c) (h2 : n ≤ m) (h3 : w ≤ u) : Ths c m u xs := ⟨goods_mono h1 xs h.g, Nat.le_trans h.dep h2, Nat.le_trans h.wt h3⟩
theorem Th.shOkA (h : Th b n w d) (hb : b < 10 ^ 38) (hn : n ≤ 64) (hw : w ≤ 300000) : d.shOkA := by
  obtain ⟨h1, h2⟩ := good_show hb d h.g
  refine ⟨good_plA d h.g, h1, Nat.le_trans h.dep hn, ?_⟩
  have := PyData.shown_le 40 (by decide) _ h2
  have hw' := h.wt
  have : (40 + 2) * d.py.weight ≤ 42 * 300000 := Nat.mul_le_mul (by decide) (Nat.le_trans hw' hw)
  rw [sizeLine_eq]
  omega
theorem th_tup : Th b (n + 1) w (.tup xs) ↔ Ths b n w xs := by
  constructor
  · rintro ⟨h1, h2, h3⟩
    rw [D.good] at h1
    rw [D.py, PyData.depth] at h2
    rw [D.py, PyData.weight] at h3
    exact ⟨h1, by omega, h3⟩
  · rintro ⟨h1, h2, h3⟩
    refine ⟨by rw [D.good]; exact h1, ?_, ?_⟩
    · rw [D.py, PyData.depth]; omega
    · rw [D.py, PyData.weight]; exact h3
theorem th_lst : Th b (n + 1) w (.lst xs) ↔ Ths b n w xs := by
  constructor
  · rintro ⟨h1, h2, h3⟩
    rw [D.good] at h1
    rw [D.py, PyData.depth] at h2
    rw [D.py, PyData.weight] at h3
    exact ⟨h1, by omega, h3⟩
  · rintro ⟨h1, h2, h3⟩
    refine ⟨by rw [D.good]; exact h1, ?_, ?_⟩
    · rw [D.py, PyData.depth]; omega
    · rw [D.py, PyData.weight]; exact h3
theorem ths_cons (h1 : Th b n w d) (h2 : Ths b n u xs) : Ths b n (w + 1 + u) (d :: xs) := by
  refine ⟨by rw [D.goods, h1.g, h2.g]; rfl, ?_, ?_⟩
  · rw [D.pys, PyData.depthAll]; exact Nat.max_le.mpr ⟨h1.dep, h2.dep⟩
  · rw [D.pys, PyData.weightAll]; have := h1.wt; have := h2.wt; omega
theorem ths_cons_iff : Ths b n w (d :: xs) ↔ ∃ w1 w2, w1 + 1 + w2 ≤ w ∧ Th b n w1 d ∧ Ths b n w2 xs := by
  constructor
  · rintro ⟨h1, h2, h3⟩
    rw [D.goods, Bool.and_eq_true] at h1
    rw [D.pys, PyData.depthAll] at h2
    rw [D.pys, PyData.weightAll] at h3
    exact ⟨_, _, h3, ⟨h1.1, (Nat.max_le.mp h2).1, Nat.le_refl _⟩, ⟨h1.2, (Nat.max_le.mp h2).2, Nat.le_refl _⟩⟩
  · rintro ⟨w1, w2, h, h1, h2⟩
    exact (ths_cons h1 h2).mono (Int.le_refl _) (Nat.le_refl _) h
theorem th_mem : ∀ {xs : List D} {w : Nat}, Ths b n w xs → d ∈ xs → Th b n w d
  | [], w, h, hd => by cases hd
  | x :: xs, w, h, hd => by
    obtain ⟨w1, w2, e, g1, g2⟩ := ths_cons_iff.mp h
    rcases List.mem_cons.mp hd with rfl | hd
    · exact g1.mono (Int.le_refl _) (Nat.le_refl _) (by omega)
    · exact (th_mem g2 hd).mono (Int.le_refl _) (Nat.le_refl _) (by omega)
theorem ths_len : ∀ {xs : List D} {w : Nat}, Ths b n w xs → xs.length ≤ w
  | [], w, h => Nat.zero_le _
  | x :: xs, w, h => by
    obtain ⟨w1, w2, e, g1, g2⟩ := ths_cons_iff.mp h
    have := ths_len g2
    rw [List.length_cons]; omega
theorem th_str_iff {x : Str} : Th b n w (.str x) → PyData.strOk x = true ∧ x.length ≤ w := fun ⟨h1, _, h3⟩ => ⟨by rw [D.good] at h1; exact h1, by rw [D.py, PyData.weight] at h3; exact h3⟩
end
end Bk
namespace Bk
open PySem PySem.Spec PyProof.Rows L2
section
variable {e : DEnv} {s : S} {R : Q1} {E : XQ} {i j : Nat} {d : D} {a b : Exp} {c t u : Tst} {D' : DEnds} {v w : DTS}
/-- the type of a thing -/
def kind : D → String
  | .non => "NoneType"
  | .bl _ => "bool"
  | .int _ => "int"
  | .str _ => "str"
  | .lst _ => "list"
  | .tup _ => "tuple"
  | .dic _ => "dict"
  | _ => ""
end
theorem put_same {s : S} {q : Addr} {o : MO} : (s.put q o).mu q = some o := if_pos rfl
theorem put_ne {s : S} {p q : Addr} {o : MO} (h : q ≠ p) : (s.put p o).mu q = s.mu q := if_neg h
theorem sub_free {s t : S} (h : Sub s t) {q : Addr} (n : t.mu q = none) : s.mu q = none := by
  cases e : s.mu q with
  | none => rfl
  | some o => rw [h.mu q o e] at n; cases n
theorem atI_nat {α : Type} {xs : List α} {j : Nat} (h : j < xs.length) : atI xs (j : Int) = xs[j]? := by
  unfold atI ixN
  rw [if_pos (by omega), if_pos (by omega)]; rfl
theorem cut_to (xs : List D) (k : Nat) (h : k ≤ xs.length) : cutD xs none (some (k : Int)) = xs.take k := by
  unfold cutD
  rw [HT.sIx_none, HT.sIx_nat, List.drop_zero, Nat.sub_zero, Nat.min_eq_left h]
theorem cut_from (xs : List D) (k : Nat) (h : k ≤ xs.length) : cutD xs (some (k : Int)) none = xs.drop k := by
  unfold cutD
  rw [HT.sIx_none, HT.sIx_nat, Nat.min_eq_left h]
  exact List.take_of_length_le (by rw [List.length_drop]; exact Nat.le_refl _)
end Bk
namespace Bk
open PySem PySem.Spec PyProof.Rows L2
end Bk
namespace Hk
open PySem PySem.Spec PyProof.Rows L2
def vA : Value → Addr
  | .ref a => a
  | _ => 0
abbrev FV : Type := Option (Str × Arguments × FuncBody × Scope × Addr × List Str × Value × Addr)
/-- where a def's defaults lie is not told -/
def dfN : Value → Value
  | .ref _ => .ellipsis
  | v => v
theorem dfN_none {v : Value} (h : dfN v = .none) : v = .none := by
  cases v with
  | ref a => cases h
  | _ => exact h
def fV (K : PySem.W.Frag) (a : Addr) : FV := match K.lookup a with
  | some ⟨_, _, .func fd, _⟩ => some (fd.name, fd.params, fd.body, fd.scope, fd.globals, fd.closure.map (fun p => p.1), dfN fd.defaults, fd.builtins)
  | _ => none
def fnV (n : Str) (st : Stmt) : FV := some (n, defArgs st, .stmts (defBody st), defScope st, mainGlobals, [], .none, builtinsNs)
def inV (st : Stmt) : FV := some ("__init__", defArgs st, .stmts (defBody st), defScope st, mainGlobals, ["__class__"], .none, builtinsNs)
def cdB (K : PySem.W.Frag) (a : Addr) (q : Str) : Bool := match K.lookup a with
  | some ⟨_, _, .func fd, _⟩ => decide (fd.qualname = q) && PySem.W.codeIn K fd.code q
  | _ => false
theorem fn_ok {K : PySem.W.Frag} {a : Addr} {n q : Str} {st : Stmt} (e : fV K a = fnV n st) (c : cdB K a q = true) :
    ∃ oc od osl kV doc pm an cdv ct, K.lookup a = some ⟨oc, od, .func (PySem.W.fnOf n q (defArgs st) (defBody st) (defScope st) .none kV doc pm an cdv ct), osl⟩ ∧ PySem.W.codeIn K cdv q = true := by
  unfold cdB at c
  unfold fV at e
  cases z : K.lookup a with
  | none =>
    rw [z] at c
    cases c
  | some o =>
    obtain ⟨oc, od, dt, osl⟩ := o
    rw [z] at c e
    cases dt with
    | func fd =>
      obtain ⟨n1, n2, n3, n4, n5, n6, n7, n8, n9, n10, n11, n12, n13, n14, n15⟩ := fd
      have e2 : (some (n1, n3, n4, n5, n6, n7.map (fun p => p.1), dfN n8, n15) : FV) = fnV n st := e
      unfold fnV at e2
      simp only [Option.some.injEq, Prod.mk.injEq, List.map_eq_nil_iff] at e2
      obtain ⟨h1, h3, h4, h5, h6, h7, h8, h15⟩ := e2
      replace h8 := dfN_none h8
      have c2 : (decide (n2 = q) && PySem.W.codeIn K n13 q) = true := c
      obtain ⟨c3, c4⟩ := He.ba c2
      have h2 := of_decide_eq_true c3
      subst h1 h2 h3 h4 h5 h6 h7 h8 h15
      exact ⟨oc, od, osl, n9, n10, n11, n12, n13, n14, rfl, c4⟩
    | _ => cases c
/-- an exception's __init__: its code's file, the class in its cell -/
def xiB (K : PySem.W.Frag) (file : Str) (C a : Addr) : Bool := match K.lookup a with
  | some ⟨_, _, .func fd, _⟩ => PySem.W.codeIn K fd.code fd.qualname && (match K.lookup (vA fd.code) with
      | some ⟨_, _, .fields vs, _⟩ => (match vs.toList with
        | _ :: _ :: .str f _ :: _ => file == f
        | _ => false)
      | _ => false) && (match fd.closure with
      | [(_, cc)] => (match K.lookup cc with
        | some ⟨_, _, .cell (some v), _⟩ => decide (v = .ref C)
        | _ => false)
      | _ => false)
  | _ => false
theorem xi_ok {K : PySem.W.Frag} {file : Str} {C a : Addr} {st : Stmt} (e : fV K a = inV st) (c : xiB K file C a = true) :
    ∃ (oc : Value) (od : Option Addr) (osl : Array (Option Value)) (q : Str) (kV doc pm : Value) (an : Option Addr) (cda : Addr) (ct : Value) (cc : Addr) (ccl : Value) (cdd : Option Addr) (vs : Array Value) (ccs : Array (Option Value)) (f : Str) (tf : Tok) (cl : Value) (cld : Option Addr) (csl : Array (Option Value)),
      K.lookup a = some ⟨oc, od, .func (PySem.W.ksFn "__init__" q (defArgs st) (defBody st) (defScope st) .none kV doc pm an (.ref cda) ct cc), osl⟩ ∧ PySem.W.codeIn K (.ref cda) q = true ∧ K.lookup cda = some ⟨ccl, cdd, .fields vs, ccs⟩ ∧ vs[2]? = some (.str f tf) ∧ (file == f) = true ∧ K.lookup cc = some ⟨cl, cld, .cell (some (.ref C)), csl⟩ := by
  unfold xiB at c
  unfold fV at e
  cases z : K.lookup a with
  | none =>
    rw [z] at c
    cases c
  | some o =>
    obtain ⟨oc, od, dt, osl⟩ := o
    rw [z] at c e
    cases dt with
    | func fd =>
      obtain ⟨n1, n2, n3, n4, n5, n6, n7, n8, n9, n10, n11, n12, n13, n14, n15⟩ := fd
      have e2 : (some (n1, n3, n4, n5, n6, n7.map (fun p => p.1), dfN n8, n15) : FV) = inV st := e
      unfold inV at e2
      simp only [Option.some.injEq, Prod.mk.injEq] at e2
      obtain ⟨h1, h3, h4, h5, h6, h7, h8, h15⟩ := e2
      replace h8 := dfN_none h8
      obtain ⟨c0, c3⟩ := He.ba c
      obtain ⟨c1, c2⟩ := He.ba c0
      dsimp only at c1 c2 c3
      have h13 : n13 = .ref (vA n13) := by
        cases n13 with
        | ref c => rfl
        | _ => cases c1
      match n7, h7, c3 with
      | [(nm, cc)], h7, c3 =>
        have hn : nm = "__class__" := (List.cons.inj h7).1
        subst h1 h3 h4 h5 h6 h8 h15 hn
        dsimp only at c3
        split at c3
        · rename_i cl cld v csl ecc
          have hv := of_decide_eq_true c3
          subst hv
          split at c2
          · rename_i ccl cdd vs ccs ecd
            split at c2
            · rename_i v0 v1 f tf r ev
              refine ⟨oc, od, osl, n2, n9, n10, n11, n12, vA n13, n14, cc, ccl, cdd, vs, ccs, f, tf, cl, cld, csl, ?_, ?_, ecd, ?_, c2, ecc⟩
              · rw [← h13] <;> rfl
              · rw [← h13]; exact c1
              · rw [← Array.getElem?_toList, ev] <;> rfl
            · cases c2
          · cases c2
        · cases c3
    | _ => cases c
def oRefs (o : Obj) : List Addr := match o.data with
  | .seq its _ => its.toList.flatMap He.refV
  | .dict es _ => es.toList.flatMap fun e => He.refV e.val
  | .func fd => He.refV fd.code ++ (He.refV fd.kwdefaults ++ (He.refV fd.defaults ++ fd.closure.map fun p => p.2))
  | .cls cd => cd.ns :: cd.mro.flatMap He.refV
  | .fields vs => (match o.cls with
    | .type t => (match t == "classmethod" || t == "property" with
      | true => vs.toList.flatMap He.refV
      | false => [])
    | _ => [])
  | _ => []
def gRefs (g : Addr → Option Obj) (a : Addr) : List Addr := match g a with
  | some o => oRefs o
  | none => []
def frL {α : Type} (l : List Nat) (k : List Nat → α) : α := match l with
  | [] => k []
  | a :: r => HandSHeadRun.frNat a fun a => frL r fun r => k (a :: r)
theorem frL_eq {α : Type} : ∀ (l : List Nat) (k : List Nat → α), frL l k = k l
  | [], k => rfl
  | a :: r, k => by
    show HandSHeadRun.frNat a (fun a => frL r fun r => k (a :: r)) = _
    rw [HandSHeadRun.frNat_eq, frL_eq r]
def newA (acc : List Nat) : List Nat → List Nat → List Nat
  | [], out => out
  | a :: r, out => match acc.contains a || out.contains a with
    | true => newA acc r out
    | false => newA acc r (a :: out)
def grow (g : Addr → Option Obj) : Nat → List Nat → List Nat → List Nat
  | 0, acc, _ => acc
  | n + 1, acc, fr => frL (newA acc (fr.flatMap (gRefs g)) []) fun nw => frL (acc ++ nw) fun acc => grow g n acc nw
def roots (K : PySem.W.Frag) (xs : List Str) : List Nat := xs.map fun x => He.ga K x
def adr (xs : List Str) (n : Nat) (g : Addr → Option Obj) : List Nat := frL (newA [mainGlobals, cStatics] (roots (He.frG g [mainGlobals]) xs) []) fun rs => grow g n (mainGlobals :: cStatics :: rs) rs
/-- a part of the heap, its cells laid out -/
def frF {α : Type} (g : Addr → Option Obj) (l : List Nat) (k : PySem.W.Frag → α) : α := match l with
  | [] => k []
  | a :: r => match g a with
    | some ⟨c, d, dt, sl⟩ => frF g r fun K => k ((a, ⟨c, d, dt, sl⟩) :: K)
    | none => frF g r k
theorem frF_eq {α : Type} (g : Addr → Option Obj) : ∀ (l : List Nat) (k : PySem.W.Frag → α), frF g l k = k (He.frG g l)
  | [], k => rfl
  | a :: r, k => by
    have e : He.frG g (a :: r) = (match g a with | some o => (a, o) :: He.frG g r | none => He.frG g r) := by
      unfold He.frG
      rw [List.filterMap_cons]
      cases g a <;> rfl
    rw [e]
    unfold frF
    cases g a with
    | none => exact frF_eq g r k
    | some o => exact frF_eq g r _
structure Ck where
  ok : PySem.W.Frag → Bool
  ad : PySem.W.Frag → List Addr
  vs : List FV
def lV (K : PySem.W.Frag) : List Addr → List FV
  | [] => []
  | a :: r => fV K a :: lV K r
abbrev Al : Type := Bool × List FV
def obsK (c : Ck) (K : PySem.W.Frag) : Al := (c.ok K, lV K (c.ad K))
def Says (c : Ck) (K : PySem.W.Frag) : Prop := obsK c K = (true, c.vs)
def obsG (c : Ck) (xs : List Str) (n : Nat) (g : Addr → Option Obj) : Al := frL (adr xs n g) fun l => frF g l fun K => obsK c K
theorem obsG_eq (c : Ck) (xs : List Str) (n : Nat) (g : Addr → Option Obj) : obsG c xs n g = obsK c (He.frG g (adr xs n g)) := by
  unfold obsG
  rw [frL_eq, frF_eq]
def hook (c : Ck) (xs : List Str) (n : Nat) : PySem.W.Hook where
  α := Al
  obs := fun s => obsG c xs n s.heap.get?
  val := fun _ => (true, c.vs)
  says := fun _ h => ∃ K : PySem.W.Frag, K.In h ∧ Says c K
  of := fun _ s e => ⟨_, He.frG_in, (obsG_eq c xs n s.heap.get?).symm.trans e⟩
  keeps := fun _ _ _ ⟨K, hK, c⟩ k => ⟨K, PySem.W.Frag.In.keeps hK k, c⟩
def ob (c : Ck) (xs : List Str) (n : Nat) (s : PySem.W.SharedT) : Al := obsG c xs n (HandSHeadRun.getT s)
theorem ob_eq (c : Ck) (xs : List Str) (n : Nat) (s : PySem.W.SharedT) : ob c xs n s = (hook c xs n).obs s.abs := by
  have e : HandSHeadRun.getT s = s.abs.heap.get? := funext (HandSHeadRun.getT_eq s)
  show obsG c xs n (HandSHeadRun.getT s) = obsG c xs n s.abs.heap.get?
  rw [e]
/-- one look at the part of the heap -/
def obP {α : Type} (F : PySem.W.Frag → α) (xs : List Str) (n : Nat) (s : PySem.W.SharedT) : α := frL (adr xs n (HandSHeadRun.getT s)) fun l => frF (HandSHeadRun.getT s) l F
theorem obP_eq {α : Type} (F : PySem.W.Frag → α) (xs : List Str) (n : Nat) (s : PySem.W.SharedT) : obP F xs n s = F (He.frG (HandSHeadRun.getT s) (adr xs n (HandSHeadRun.getT s))) := by
  unfold obP
  rw [frL_eq, frF_eq]
/-- the run's end -/
noncomputable abbrev runE (r : PySem.W.OpenRow) (M : Nat) (w : World) (os : OsState) : Option PySem.W.SharedT := HandSHeadRun.endF (HandSHeadRun.stepQ (HandSHeadRun.denQ HandSHeadRun.tabQ) r.prog w) M r.prog w os
open PySem.W PySem.Calls in
/-- the run's equation from single looks -/
theorem run_of {r : PySem.W.OpenRow} {q : Program} {c : Ck} {xs : List Str} {n M : Nat} {loose : List PySem.Str} {w : World} {Fs : List (PySem.W.Frag → Bool)} (hk : ∀ K, c.ok K = Fs.all fun F => F K)
    (h1 : ∀ os, (runE r M w os).map (fun s => (HandSHeadRun.looksF r.prog (boot_heap w.params) s.abs, HandSHeadRun.seenQ q loose (importedModules r.prog.main.body) (fun s => PySem.W.xlAt q [] s && PySem.W.recOk r.toRowW.records s) s.abs)) = some (true, PySem.W.openGood q loose))
    (h2 : ∀ F ∈ Fs, ∀ os, (runE r M w os).map (fun s => obP F xs n s) = some true) (h3 : ∀ os, (runE r M w os).map (fun s => obP (fun K => lV K (c.ad K)) xs n s) = some c.vs) : HandSHeadRun.RunEq r q (hook c xs n) (ob c xs n) M loose w := by
  intro os
  have e1 := h1 os
  have e3 := h3 os
  have e2 := fun F hF => h2 F hF os
  show (runE r M w os).map _ = _
  cases hE : runE r M w os with
  | none => rw [hE] at e1; cases e1
  | some s =>
    rw [hE] at e1 e3
    obtain ⟨a1, a2⟩ := Prod.mk.inj (Option.some.inj e1)
    have a3 : obP (fun K => lV K (c.ad K)) xs n s = c.vs := Option.some.inj e3
    have a4 : c.ok (He.frG (HandSHeadRun.getT s) (adr xs n (HandSHeadRun.getT s))) = true := by
      rw [hk, List.all_eq_true]
      intro F hF
      have e := e2 F hF
      rw [hE] at e
      have e' : obP F xs n s = true := Option.some.inj e
      rw [obP_eq] at e'
      exact e'
    rw [obP_eq] at a3
    have a5 : ob c xs n s = (true, c.vs) := by
      unfold ob
      rw [obsG_eq]
      unfold obsK
      rw [a4, a3]
    refine congrArg some (Prod.ext a1 (Prod.ext a2 ?_))
    exact a5
theorem pick {l : List Bool} (h : l.all id = true) (i : Nat) {b : Bool} (e : l[i]? = some b) : b = true := List.all_eq_true.mp h b (List.mem_of_getElem? e)
theorem pickF {c : Ck} {K : PySem.W.Frag} (h : Says c K) (i : Nat) {a : Addr} {v : FV} (e : (c.ad K)[i]? = some a) (ev : c.vs[i]? = some v) : fV K a = v := by
  have h2 : lV K (c.ad K) = c.vs := congrArg (fun z : Al => z.2) h
  have h3 : ∀ l : List Addr, lV K l = l.map (fV K) := fun l => by
    induction l with
    | nil => rfl
    | cons b r ih => show fV K b :: lV K r = _; rw [ih]; rfl
  rw [h3] at h2
  have h4 : ((c.ad K).map (fV K))[i]? = c.vs[i]? := by rw [h2]
  rw [List.getElem?_map, e, ev] at h4
  exact Option.some.inj h4
theorem okS {c : Ck} {K : PySem.W.Frag} (h : Says c K) : c.ok K = true := congrArg (fun z : Al => z.1) h
end Hk
namespace Bk
open PySem PySem.Spec PyProof.Rows L2
def ebB (K : PySem.W.Frag) (kn : List Str) (bs : List String) : Bool := kn.all fun c => bs.all fun b => decide (PySem.W.kitOne K (.ref (clsK K c)) (.type b) = some (subC c b))
def nclsB (K : PySem.W.Frag) (C : Addr) (B : String) (b : Bool) : Bool := PySem.W.keepIn K (.ref C) && PySem.W.excIn K C [.type "ValueError", .type "Exception", .type "BaseException", .type "object"] "ValueError.__new__" && excB K C && decide (PySem.W.kitOne K (.ref C) (.type B) = some b)
end Bk
namespace Bk.K60
open PySem PySem.Spec PyProof.Rows L2
abbrev kn : List Str := ["BadCells", "BadFormula", "BadProgram", "Twice", "BadStanding", "BadWeaving", "BadNode", "BadPaper", "BadMarks", "BadLevels", "BadText", "BadNumber", "BadRun", "Missing", "TooMany"]
abbrev ms : List Str := ["BadCells", "BadFormula", "BadProgram", "Twice", "BadStanding", "BadWeaving", "BadNode", "BadPaper", "BadMarks", "BadLevels", "BadText", "BadNumber", "BadRun", "Missing", "TooMany", "KeptError"]
abbrev fs : List Str := ["place", "name", "value", "line", "number", "most"]
abbrev bs : List String := ["ValueError", "LookupError", "OverflowError"]
def topS (i : Nat) : Stmt := PySem.Challenge.pw_bothkept_k60_errors.main.body.getD i (.Pass ⟨0, 0, 0, 0⟩)
abbrev s_law_begun : Stmt := topS 18
abbrev s_law_next : Stmt := topS 19
abbrev s_law_kinds : Stmt := topS 20
abbrev s_law_fields : Stmt := topS 21
abbrev s_law : Stmt := topS 22
abbrev i_BadCells : Stmt := initS (topS 2)
abbrev i_BadFormula : Stmt := initS (topS 3)
abbrev i_BadLevels : Stmt := initS (topS 11)
abbrev i_BadMarks : Stmt := initS (topS 10)
abbrev i_BadNode : Stmt := initS (topS 8)
abbrev i_BadNumber : Stmt := initS (topS 13)
abbrev i_BadPaper : Stmt := initS (topS 9)
abbrev i_BadProgram : Stmt := initS (topS 4)
abbrev i_BadRun : Stmt := initS (topS 14)
abbrev i_BadStanding : Stmt := initS (topS 6)
abbrev i_BadText : Stmt := initS (topS 12)
abbrev i_BadWeaving : Stmt := initS (topS 7)
abbrev i_Missing : Stmt := initS (topS 15)
abbrev i_TooMany : Stmt := initS (topS 16)
abbrev i_Twice : Stmt := initS (topS 5)
abbrev RR : PySem.W.OpenRow := PySem.W.OpenLaw.row PySem.Challenge.rw_bothkept_k60_errors
abbrev qv : Program := PySem.W.view RR.prog [22]
abbrev fl : Str := (PySem.Challenge.rw_bothkept_k60_errors).prog.main.file
def g0 (K : PySem.W.Frag) : List Bool := [He.eqO (PySem.W.nsIn K mainGlobals "_law_begun") (some (some (.ref (He.ga K "_law_begun")))),
  Hk.cdB K (He.ga K "_law_begun") "_law_begun",
  PySem.W.keepIn K (.ref (He.ga K "_law_begun")),
  He.eqO (PySem.W.nsIn K mainGlobals "_law_next") (some (some (.ref (He.ga K "_law_next")))),
  Hk.cdB K (He.ga K "_law_next") "_law_next",
  PySem.W.keepIn K (.ref (He.ga K "_law_next")),
  He.eqO (PySem.W.nsIn K mainGlobals "_law_kinds") (some (some (.ref (He.ga K "_law_kinds")))),
  Hk.cdB K (He.ga K "_law_kinds") "_law_kinds",
  PySem.W.keepIn K (.ref (He.ga K "_law_kinds")),
  He.eqO (PySem.W.nsIn K mainGlobals "_law_fields") (some (some (.ref (He.ga K "_law_fields")))),
  Hk.cdB K (He.ga K "_law_fields") "_law_fields",
  PySem.W.keepIn K (.ref (He.ga K "_law_fields")),
  He.eqO (PySem.W.nsIn K mainGlobals "law") (some (some (.ref (He.ga K "law")))),
  Hk.cdB K (He.ga K "law") "law",
  PySem.W.keepIn K (.ref (He.ga K "law")),
  He.eqO (PySem.W.nsIn K mainGlobals "LookupError") (some none),
  He.eqO (PySem.W.nsIn K mainGlobals "OverflowError") (some none),
  He.eqO (PySem.W.nsIn K mainGlobals "ValueError") (some none),
  He.eqO (PySem.W.nsIn K mainGlobals "enumerate") (some none),
  He.eqO (PySem.W.nsIn K mainGlobals "int") (some none),
  He.eqO (PySem.W.nsIn K mainGlobals "isinstance") (some none),
  He.eqO (PySem.W.nsIn K mainGlobals "len") (some none),
  He.eqO (PySem.W.nsIn K mainGlobals "list") (some none),
  He.eqO (PySem.W.nsIn K mainGlobals "min") (some none),
  He.eqO (PySem.W.nsIn K mainGlobals "range") (some none),
  He.eqO (PySem.W.nsIn K mainGlobals "repr") (some none),
  eaB K kn ms fs,
  nmB K "BadCells",
  nmB K "BadFormula",
  nmB K "BadLevels",
  nmB K "BadMarks",
  nmB K "BadNode",
  nmB K "BadNumber",
  nmB K "BadPaper",
  nmB K "BadProgram",
  nmB K "BadRun",
  nmB K "BadStanding",
  nmB K "BadText",
  nmB K "BadWeaving",
  nmB K "KeptError"]
def g1 (K : PySem.W.Frag) : List Bool := [nmB K "Missing",
  nmB K "TooMany",
  nmB K "Twice",
  He.eqO (PySem.W.nsIn K mainGlobals "BadCells") (some (some (.ref (He.ga K "BadCells")))),
  exB K (He.ga K "BadCells") "place" "ValueError" "ValueError.__new__" "ValueError.__init__" [.type "ValueError", .type "Exception", .type "BaseException", .type "object"],
  He.eqO (PySem.W.findIn K (.ref (He.ga K "BadCells")) "__init__") (some (some (.ref (He.ma K (He.ga K "BadCells") "__init__")))),
  PySem.W.isFn K (.ref (He.ma K (He.ga K "BadCells") "__init__")),
  Hk.xiB K fl (He.ga K "BadCells") (He.ma K (He.ga K "BadCells") "__init__"),
  He.eqO (PySem.W.nsIn K mainGlobals "BadFormula") (some (some (.ref (He.ga K "BadFormula")))),
  exB K (He.ga K "BadFormula") "place" "ValueError" "ValueError.__new__" "ValueError.__init__" [.type "ValueError", .type "Exception", .type "BaseException", .type "object"],
  He.eqO (PySem.W.findIn K (.ref (He.ga K "BadFormula")) "__init__") (some (some (.ref (He.ma K (He.ga K "BadFormula") "__init__")))),
  PySem.W.isFn K (.ref (He.ma K (He.ga K "BadFormula") "__init__")),
  Hk.xiB K fl (He.ga K "BadFormula") (He.ma K (He.ga K "BadFormula") "__init__"),
  He.eqO (PySem.W.nsIn K mainGlobals "BadLevels") (some (some (.ref (He.ga K "BadLevels")))),
  exB K (He.ga K "BadLevels") "name" "ValueError" "ValueError.__new__" "ValueError.__init__" [.type "ValueError", .type "Exception", .type "BaseException", .type "object"],
  He.eqO (PySem.W.findIn K (.ref (He.ga K "BadLevels")) "__init__") (some (some (.ref (He.ma K (He.ga K "BadLevels") "__init__")))),
  PySem.W.isFn K (.ref (He.ma K (He.ga K "BadLevels") "__init__")),
  Hk.xiB K fl (He.ga K "BadLevels") (He.ma K (He.ga K "BadLevels") "__init__"),
  He.eqO (PySem.W.nsIn K mainGlobals "BadMarks") (some (some (.ref (He.ga K "BadMarks")))),
  exB K (He.ga K "BadMarks") "place" "ValueError" "ValueError.__new__" "ValueError.__init__" [.type "ValueError", .type "Exception", .type "BaseException", .type "object"],
  He.eqO (PySem.W.findIn K (.ref (He.ga K "BadMarks")) "__init__") (some (some (.ref (He.ma K (He.ga K "BadMarks") "__init__")))),
  PySem.W.isFn K (.ref (He.ma K (He.ga K "BadMarks") "__init__")),
  Hk.xiB K fl (He.ga K "BadMarks") (He.ma K (He.ga K "BadMarks") "__init__"),
  He.eqO (PySem.W.nsIn K mainGlobals "BadNode") (some (some (.ref (He.ga K "BadNode")))),
  exB K (He.ga K "BadNode") "place" "ValueError" "ValueError.__new__" "ValueError.__init__" [.type "ValueError", .type "Exception", .type "BaseException", .type "object"],
  He.eqO (PySem.W.findIn K (.ref (He.ga K "BadNode")) "__init__") (some (some (.ref (He.ma K (He.ga K "BadNode") "__init__")))),
  PySem.W.isFn K (.ref (He.ma K (He.ga K "BadNode") "__init__")),
  Hk.xiB K fl (He.ga K "BadNode") (He.ma K (He.ga K "BadNode") "__init__"),
  He.eqO (PySem.W.nsIn K mainGlobals "BadNumber") (some (some (.ref (He.ga K "BadNumber")))),
  exB K (He.ga K "BadNumber") "value" "ValueError" "ValueError.__new__" "ValueError.__init__" [.type "ValueError", .type "Exception", .type "BaseException", .type "object"],
  He.eqO (PySem.W.findIn K (.ref (He.ga K "BadNumber")) "__init__") (some (some (.ref (He.ma K (He.ga K "BadNumber") "__init__")))),
  PySem.W.isFn K (.ref (He.ma K (He.ga K "BadNumber") "__init__")),
  Hk.xiB K fl (He.ga K "BadNumber") (He.ma K (He.ga K "BadNumber") "__init__"),
  He.eqO (PySem.W.nsIn K mainGlobals "BadPaper") (some (some (.ref (He.ga K "BadPaper")))),
  exB K (He.ga K "BadPaper") "place" "ValueError" "ValueError.__new__" "ValueError.__init__" [.type "ValueError", .type "Exception", .type "BaseException", .type "object"],
  He.eqO (PySem.W.findIn K (.ref (He.ga K "BadPaper")) "__init__") (some (some (.ref (He.ma K (He.ga K "BadPaper") "__init__")))),
  PySem.W.isFn K (.ref (He.ma K (He.ga K "BadPaper") "__init__")),
  Hk.xiB K fl (He.ga K "BadPaper") (He.ma K (He.ga K "BadPaper") "__init__"),
  He.eqO (PySem.W.nsIn K mainGlobals "BadProgram") (some (some (.ref (He.ga K "BadProgram")))),
  exB K (He.ga K "BadProgram") "place" "ValueError" "ValueError.__new__" "ValueError.__init__" [.type "ValueError", .type "Exception", .type "BaseException", .type "object"]]
def g2 (K : PySem.W.Frag) : List Bool := [He.eqO (PySem.W.findIn K (.ref (He.ga K "BadProgram")) "__init__") (some (some (.ref (He.ma K (He.ga K "BadProgram") "__init__")))),
  PySem.W.isFn K (.ref (He.ma K (He.ga K "BadProgram") "__init__")),
  Hk.xiB K fl (He.ga K "BadProgram") (He.ma K (He.ga K "BadProgram") "__init__"),
  He.eqO (PySem.W.nsIn K mainGlobals "BadRun") (some (some (.ref (He.ga K "BadRun")))),
  exB K (He.ga K "BadRun") "number" "ValueError" "ValueError.__new__" "ValueError.__init__" [.type "ValueError", .type "Exception", .type "BaseException", .type "object"],
  He.eqO (PySem.W.findIn K (.ref (He.ga K "BadRun")) "__init__") (some (some (.ref (He.ma K (He.ga K "BadRun") "__init__")))),
  PySem.W.isFn K (.ref (He.ma K (He.ga K "BadRun") "__init__")),
  Hk.xiB K fl (He.ga K "BadRun") (He.ma K (He.ga K "BadRun") "__init__"),
  He.eqO (PySem.W.nsIn K mainGlobals "BadStanding") (some (some (.ref (He.ga K "BadStanding")))),
  exB K (He.ga K "BadStanding") "value" "ValueError" "ValueError.__new__" "ValueError.__init__" [.type "ValueError", .type "Exception", .type "BaseException", .type "object"],
  He.eqO (PySem.W.findIn K (.ref (He.ga K "BadStanding")) "__init__") (some (some (.ref (He.ma K (He.ga K "BadStanding") "__init__")))),
  PySem.W.isFn K (.ref (He.ma K (He.ga K "BadStanding") "__init__")),
  Hk.xiB K fl (He.ga K "BadStanding") (He.ma K (He.ga K "BadStanding") "__init__"),
  He.eqO (PySem.W.nsIn K mainGlobals "BadText") (some (some (.ref (He.ga K "BadText")))),
  exB K (He.ga K "BadText") "line" "ValueError" "ValueError.__new__" "ValueError.__init__" [.type "ValueError", .type "Exception", .type "BaseException", .type "object"],
  He.eqO (PySem.W.findIn K (.ref (He.ga K "BadText")) "__init__") (some (some (.ref (He.ma K (He.ga K "BadText") "__init__")))),
  PySem.W.isFn K (.ref (He.ma K (He.ga K "BadText") "__init__")),
  Hk.xiB K fl (He.ga K "BadText") (He.ma K (He.ga K "BadText") "__init__"),
  He.eqO (PySem.W.nsIn K mainGlobals "BadWeaving") (some (some (.ref (He.ga K "BadWeaving")))),
  exB K (He.ga K "BadWeaving") "place" "ValueError" "ValueError.__new__" "ValueError.__init__" [.type "ValueError", .type "Exception", .type "BaseException", .type "object"],
  He.eqO (PySem.W.findIn K (.ref (He.ga K "BadWeaving")) "__init__") (some (some (.ref (He.ma K (He.ga K "BadWeaving") "__init__")))),
  PySem.W.isFn K (.ref (He.ma K (He.ga K "BadWeaving") "__init__")),
  Hk.xiB K fl (He.ga K "BadWeaving") (He.ma K (He.ga K "BadWeaving") "__init__"),
  He.eqO (PySem.W.nsIn K mainGlobals "Missing") (some (some (.ref (He.ga K "Missing")))),
  exB K (He.ga K "Missing") "name" "LookupError" "LookupError.__new__" "LookupError.__init__" [.type "LookupError", .type "Exception", .type "BaseException", .type "object"],
  He.eqO (PySem.W.findIn K (.ref (He.ga K "Missing")) "__init__") (some (some (.ref (He.ma K (He.ga K "Missing") "__init__")))),
  PySem.W.isFn K (.ref (He.ma K (He.ga K "Missing") "__init__")),
  Hk.xiB K fl (He.ga K "Missing") (He.ma K (He.ga K "Missing") "__init__"),
  He.eqO (PySem.W.nsIn K mainGlobals "TooMany") (some (some (.ref (He.ga K "TooMany")))),
  exB K (He.ga K "TooMany") "most" "OverflowError" "OverflowError.__new__" "OverflowError.__init__" [.type "OverflowError", .type "ArithmeticError", .type "Exception", .type "BaseException", .type "object"],
  He.eqO (PySem.W.findIn K (.ref (He.ga K "TooMany")) "__init__") (some (some (.ref (He.ma K (He.ga K "TooMany") "__init__")))),
  PySem.W.isFn K (.ref (He.ma K (He.ga K "TooMany") "__init__")),
  Hk.xiB K fl (He.ga K "TooMany") (He.ma K (He.ga K "TooMany") "__init__"),
  He.eqO (PySem.W.nsIn K mainGlobals "Twice") (some (some (.ref (He.ga K "Twice")))),
  exB K (He.ga K "Twice") "name" "ValueError" "ValueError.__new__" "ValueError.__init__" [.type "ValueError", .type "Exception", .type "BaseException", .type "object"],
  He.eqO (PySem.W.findIn K (.ref (He.ga K "Twice")) "__init__") (some (some (.ref (He.ma K (He.ga K "Twice") "__init__")))),
  PySem.W.isFn K (.ref (He.ma K (He.ga K "Twice") "__init__")),
  Hk.xiB K fl (He.ga K "Twice") (He.ma K (He.ga K "Twice") "__init__"),
  He.eqO (PySem.W.nsIn K mainGlobals "KeptError") (some (some (.ref (He.ga K "KeptError")))),
  nclsB K (He.ga K "KeptError") "ValueError" true]
def g3 (K : PySem.W.Frag) : List Bool := [ebB K kn bs]
def q0 (K : PySem.W.Frag) : Bool := (g0 K).all id && ((g1 K).all id && ((g2 K).all id && (true)))
def q1 (K : PySem.W.Frag) : Bool := (g3 K).all id && (true)
def gA (K : PySem.W.Frag) : Bool := q0 K && (q1 K && (true))
def gd0 (K : PySem.W.Frag) : List Addr := [(He.ga K "_law_begun"), (He.ga K "_law_next"), (He.ga K "_law_kinds"), (He.ga K "_law_fields"), (He.ga K "law"), (He.ma K (He.ga K "BadCells") "__init__"), (He.ma K (He.ga K "BadFormula") "__init__"), (He.ma K (He.ga K "BadLevels") "__init__"), (He.ma K (He.ga K "BadMarks") "__init__"), (He.ma K (He.ga K "BadNode") "__init__"), (He.ma K (He.ga K "BadNumber") "__init__"), (He.ma K (He.ga K "BadPaper") "__init__"), (He.ma K (He.ga K "BadProgram") "__init__"), (He.ma K (He.ga K "BadRun") "__init__"), (He.ma K (He.ga K "BadStanding") "__init__"), (He.ma K (He.ga K "BadText") "__init__"), (He.ma K (He.ga K "BadWeaving") "__init__"), (He.ma K (He.ga K "Missing") "__init__"), (He.ma K (He.ga K "TooMany") "__init__"), (He.ma K (He.ga K "Twice") "__init__")]
def gd (K : PySem.W.Frag) : List Addr := gd0 K
def gv0 : List Hk.FV := [Hk.fnV "_law_begun" s_law_begun, Hk.fnV "_law_next" s_law_next, Hk.fnV "_law_kinds" s_law_kinds, Hk.fnV "_law_fields" s_law_fields, Hk.fnV "law" s_law, Hk.inV i_BadCells, Hk.inV i_BadFormula, Hk.inV i_BadLevels, Hk.inV i_BadMarks, Hk.inV i_BadNode, Hk.inV i_BadNumber, Hk.inV i_BadPaper, Hk.inV i_BadProgram, Hk.inV i_BadRun, Hk.inV i_BadStanding, Hk.inV i_BadText, Hk.inV i_BadWeaving, Hk.inV i_Missing, Hk.inV i_TooMany, Hk.inV i_Twice]
def gv : List Hk.FV := gv0
def ck : Hk.Ck := ⟨gA, gd, gv⟩
def nm0 : List Str := [Str.ofString "__name__", Str.ofString "KeptError", Str.ofString "BadCells", Str.ofString "BadFormula", Str.ofString "BadProgram", Str.ofString "Twice", Str.ofString "BadStanding", Str.ofString "BadWeaving", Str.ofString "BadNode", Str.ofString "BadPaper", Str.ofString "BadMarks", Str.ofString "BadLevels", Str.ofString "BadText", Str.ofString "BadNumber", Str.ofString "BadRun", Str.ofString "Missing", Str.ofString "TooMany", Str.ofString "_law_begun", Str.ofString "_law_next", Str.ofString "_law_kinds", Str.ofString "_law_fields"]
def nm : List Str := nm0
def xs0 : List Str := [Str.ofString "_law_begun", Str.ofString "_law_next", Str.ofString "_law_kinds", Str.ofString "_law_fields", Str.ofString "law", Str.ofString "BadCells", Str.ofString "BadFormula", Str.ofString "BadLevels", Str.ofString "BadMarks", Str.ofString "BadNode", Str.ofString "BadNumber", Str.ofString "BadPaper", Str.ofString "BadProgram", Str.ofString "BadRun", Str.ofString "BadStanding", Str.ofString "BadText", Str.ofString "BadWeaving", Str.ofString "KeptError", Str.ofString "Missing", Str.ofString "TooMany", Str.ofString "Twice"]
def xs : List Str := xs0
open PySem.W PySem.Calls in
theorem run_a (w : World) : ∀ os, (Hk.runE RR 12000 w os).map (fun s => (HandSHeadRun.looksF RR.prog (boot_heap w.params) s.abs, HandSHeadRun.seenQ qv nm (importedModules RR.prog.main.body) (fun s => PySem.W.xlAt qv [] s && PySem.W.recOk RR.toRowW.records s) s.abs)) = some (true, PySem.W.openGood qv nm) := by
  intro os
  kernel_rfl
theorem run_q0 (w : World) : ∀ os, (Hk.runE RR 12000 w os).map (fun s => Hk.obP q0 xs 7 s) = some true := by
  intro os
  kernel_rfl
theorem run_q1 (w : World) : ∀ os, (Hk.runE RR 12000 w os).map (fun s => Hk.obP q1 xs 7 s) = some true := by
  intro os
  kernel_rfl
theorem run_l (w : World) : ∀ os, (Hk.runE RR 12000 w os).map (fun s => Hk.obP (fun K => Hk.lV K (ck.ad K)) xs 7 s) = some ck.vs := by
  intro os
  kernel_rfl
theorem run (w : World) : HandSHeadRun.RunEq RR qv (Hk.hook ck xs 7) (Hk.ob ck xs 7) 12000 nm w := Hk.run_of (Fs := [q0, q1]) (fun _ => rfl) (run_a w) (fun F hF => by
  simp only [List.mem_cons, List.not_mem_nil, or_false] at hF
  rcases hF with rfl | rfl
  · exact run_q0 w
  · exact run_q1 w) (run_l w)
open PySem.W PySem.Calls in
theorem p_e : opening RR.prog = plainProg RR.prog.main.scope.names := by kernel_rfl
open PySem.W PySem.Calls in
theorem p_f : ∀ s, fenceModules? RR.prog s = some s := fun _ => by kernel_rfl
theorem p_d : PySem.W.defOf qv RR.name = some (HandSHeadRun.topDef RR.prog 22, []) := by kernel_rfl
theorem p_p : RR.prog.theDef RR.name = some ((HandSHeadRun.topDef RR.prog 22).params, (HandSHeadRun.topDef RR.prog 22).body, (HandSHeadRun.topDef RR.prog 22).scope) := by kernel_rfl
theorem p_k : (!RR.writes || RR.records.isEmpty) = true := by kernel_rfl
theorem p_b : RR.prog.bare := by refine ⟨?_, ?_, ?_, ?_, ?_, ?_⟩ <;> kernel_rfl
end Bk.K60
namespace Bk
open PySem PySem.Spec PyProof.Rows L2
end Bk
namespace Bk
open PySem PySem.Spec PyProof.Rows L2
/-- an answer: a value, an exception, or not told -/
inductive Rs (α : Type) where
  | ok (a : α)
  | ex (x : Ex)
  | no
section
variable {α β : Type}
def Rs.bind : Rs α → (α → Rs β) → Rs β
  | .ok a, f => f a
  | .ex x, _ => .ex x
  | .no, _ => .no
def Rs.run : Rs α → (α → Prop) → (Ex → Prop) → Prop
  | .ok a, R, _ => R a
  | .ex x, _, E => E x
  | .no, _, _ => False
/-- an exception is not told -/
def Rs.calm : Rs α → Rs α
  | .ok a => .ok a
  | .ex _ => .no
  | .no => .no
def Rs.opt : Option α → Rs α
  | some a => .ok a
  | none => .no
def asB : D → Rs Bool
  | .bl b => .ok b
  | _ => .no
section
variable {a : α} {x : Ex} {f : α → Rs β} {R : α → Prop} {E : Ex → Prop} {b : Bool}
@[simp] theorem bind_ok : (Rs.ok a).bind f = f a := rfl
@[simp] theorem bind_ex : (Rs.ex x : Rs α).bind f = .ex x := rfl
@[simp] theorem bind_no : (Rs.no : Rs α).bind f = .no := rfl
@[simp] theorem run_ok : (Rs.ok a).run R E = R a := rfl
@[simp] theorem run_ex : (Rs.ex x : Rs α).run R E = E x := rfl
@[simp] theorem run_no : (Rs.no : Rs α).run R E = False := rfl
@[simp] theorem calm_ok : (Rs.ok a).calm = .ok a := rfl
@[simp] theorem calm_ex : (Rs.ex x : Rs α).calm = .no := rfl
@[simp] theorem calm_no : (Rs.no : Rs α).calm = .no := rfl
@[simp] theorem opt_some : Rs.opt (some a) = .ok a := rfl
@[simp] theorem opt_none : Rs.opt (none : Option α) = .no := rfl
@[simp] theorem asB_bl : asB (.bl b) = .ok b := rfl
end
section
variable {p : Prop} [Decidable p]
@[simp] theorem bind_ite {a b : Rs α} {f : α → Rs β} : (if p then a else b).bind f = if p then a.bind f else b.bind f := by split <;> rfl
@[simp] theorem calm_ite {a b : Rs α} : (if p then a else b).calm = if p then a.calm else b.calm := by split <;> rfl
@[simp] theorem asB_ite {a b : D} : asB (if p then a else b) = if p then asB a else asB b := by split <;> rfl
@[simp] theorem opt_ite {a b : Option α} : Rs.opt (if p then a else b) = if p then Rs.opt a else Rs.opt b := by split <;> rfl
end
theorem run_bind {r : Rs α} {f : α → Rs β} {R : β → Prop} {E : Ex → Prop} : (r.bind f).run R E ↔ r.run (fun a => (f a).run R E) E := by
  cases r <;> exact Iff.rfl
theorem run_mono {r : Rs α} {R R' : α → Prop} {E E' : Ex → Prop} (h : r.run R E) (k : ∀ a, R a → R' a) (k2 : ∀ x, E x → E' x) : r.run R' E' := by
  cases r with
  | ok a => exact k a h
  | ex x => exact k2 x h
  | no => exact h
theorem run_opt {o : Option α} {R : α → Prop} {E : Ex → Prop} (h : (Rs.opt o).run R E) : ∃ a, o = some a ∧ R a := by
  cases o with
  | none => exact h.elim
  | some a => exact ⟨a, rfl, h⟩
end
abbrev FX := DEnv → Rs D
abbrev FT := DEnv → Rs Bool
abbrev FA := DEnv → Rs (List D)
abbrev FG := D → DEnv → Option DEnv
/-- how a statement ends -/
inductive Out where
  | nx (e : DEnv) | rt (d : D) | bk (e : DEnv) | ct (e : DEnv) | ex (x : Ex) (e : DEnv) | no
abbrev FS := DEnv → Out
def moOf : D → Option MO
  | .lst xs => some (.ml xs)
  | .dic kvs => some (.mk kvs)
  | .obj n fs => some (.mo n fs)
  | .kdc kvs => some (.md kvs)
  | _ => none
/-- d', in the state, is d -/
def VRel (ws : S) (d' d : D) : Prop := d' = d ∨ ∃ p o, d' = .rf (.ref p) ∧ moOf d = some o ∧ ws.mu p = some o
/-- what the functions hold at the slots M stands in the state; elsewhere it stands in the slots (where i + 1000 is in M perhaps in what s0 keeps); s0 is kept -/
structure Rl (M : List Nat) (s0 : S) (fe we : DEnv) (ws : S) : Prop where
  len : fe.length = we.length
  sub : Sub s0 ws
  im : ∀ i d, i ∉ M → i + 1000 ∉ M → nth fe i = some d → nth we i = some d
  vr : ∀ i d, i ∉ M → i + 1000 ∈ M → nth fe i = some d → ∃ d', nth we i = some d' ∧ VRel s0 d' d
  mu : ∀ i d, i ∈ M → nth fe i = some d → ∃ p o, nth we i = some (.rf (.ref p)) ∧ s0.mu p = none ∧ moOf d = some o ∧ ws.mu p = some o
  inj : ∀ i j p, i ∈ M → j ∈ M → i ≠ j → nth fe i ≠ none → nth fe j ≠ none → nth we i = some (.rf (.ref p)) → nth we j ≠ some (.rf (.ref p))
def Out.run (M : List Nat) (s0 : S) (DD : DEnds) : Out → Prop
  | .nx fe => ∀ we ws, Rl M s0 fe we ws → DD.nx we ws
  | .rt d => ∀ ws, Sub s0 ws → DD.rt d ws
  | .bk fe => ∀ we ws, Rl M s0 fe we ws → DD.bk we ws
  | .ct fe => ∀ we ws, Rl M s0 fe we ws → DD.ct we ws
  | .ex x fe => ∀ we ws, Rl M s0 fe we ws → DD.ex x we ws
  | .no => False
/-- w computes f -/
def AX (M : List Nat) (f : FX) (w : Exp) : Prop := ∀ s0 fe we ws, Rl M s0 fe we ws → ∀ R E, (f fe).run (fun d => R d ws) (fun x => E x ws) → w we ws R E
def AT (M : List Nat) (f : FT) (w : Tst) : Prop := ∀ s0 fe we ws, Rl M s0 fe we ws → ∀ R E, (f fe).run (fun b => R b ws) (fun x => E x ws) → w we ws R E
def AA (M : List Nat) (n : Nat) (f : FA) (w : Arg) : Prop := ∀ s0 fe we ws, Rl M s0 fe we ws → ∀ R E, (f fe).run (fun ds => ds.length = n → R ds ws) (fun x => E x ws) → w we ws R E
def AG (M : List Nat) (g : FG) (w : DG) : Prop := ∀ s0 fe we ws, Rl M s0 fe we ws → ∀ d fe1, g d fe = some fe1 → ∀ K : DEnv → S → Prop, (∀ we1, Rl M s0 fe1 we1 ws → K we1 ws) → w d we ws K
def AS (M : List Nat) (f : FS) (w : DTS) : Prop := ∀ s0 fe we ws, Rl M s0 fe we ws → ∀ DD, (f fe).run M s0 DD → w DD we ws
def AV (M : List Nat) (f : FX) (w : Exp) : Prop := ∀ s0 fe we ws, Rl M s0 fe we ws → ∀ R E, (f fe).run (fun d => ∀ d', VRel ws d' d → R d' ws) (fun x => E x ws) → w we ws R E
/-- a new thing that may change -/
def AM (M : List Nat) (f : FX) (w : Exp) : Prop := ∀ s0 fe we ws, Rl M s0 fe we ws → ∀ R E, (f fe).run (fun d => ∀ p o, moOf d = some o → ws.mu p = none → R (.rf (.ref p)) (ws.put p o)) (fun x => E x ws) → w we ws R E
section
variable {M : List Nat} {s0 ws : S} {fe we : DEnv}
theorem nth_dset : ∀ (e : DEnv) (i j : Nat) (x : Option D), nth (dset e i x) j = if i = j ∧ i < e.length then x else nth e j
  | [], i, j, x => by simp [dset, nth]
  | y :: r, 0, 0, x => by simp [dset, nth]
  | y :: r, 0, j + 1, x => by simp [dset, nth]
  | y :: r, i + 1, 0, x => by simp [dset, nth]
  | y :: r, i + 1, j + 1, x => by
    rw [dset, nth, nth, nth_dset r i j x]
    simp
theorem dset_len : ∀ (e : DEnv) (i : Nat) (x : Option D), (dset e i x).length = e.length
  | [], _, _ => rfl
  | _ :: _, 0, _ => rfl
  | _ :: r, i + 1, x => congrArg (· + 1) (dset_len r i x)
theorem nth_lt : ∀ {e : DEnv} {i : Nat} {d : D}, nth e i = some d → i < e.length
  | [], _, _, h => by cases h
  | _ :: _, 0, _, _ => Nat.zero_lt_succ _
  | _ :: r, i + 1, _, h => Nat.succ_lt_succ (nth_lt (e := r) h)
theorem Rl.nonM {i : Nat} {d : D} (h : Rl M s0 fe we ws) (hi : i ∉ M) : Rl M s0 (dset fe i (some d)) (dset we i (some d)) ws := by
  have hne : ∀ j, j ∈ M → i ≠ j := fun j hj e => hi (e ▸ hj)
  refine ⟨by rw [dset_len, dset_len, h.len], h.sub, fun j x hj hv e => ?_, fun j x hj hv e => ?_, fun j x hj e => ?_, fun j k p hj hk hjk e1 e2 e3 => ?_⟩
  · rw [nth_dset] at e ⊢
    rw [← h.len]
    split at e
    · rename_i z; rw [if_pos z]; exact e
    · rename_i z; rw [if_neg z]; exact h.im j x hj hv e
  · rw [nth_dset] at e ⊢
    rw [← h.len]
    split at e
    · rename_i z; rw [if_pos z]; exact ⟨_, e, .inl rfl⟩
    · rename_i z; rw [if_neg z]; exact h.vr j x hj hv e
  · rw [nth_dset, if_neg (fun z => hne j hj z.1)] at e ⊢
    exact h.mu j x hj e
  · rw [nth_dset, if_neg (fun z => hne j hj z.1)] at e1 e3
    rw [nth_dset, if_neg (fun z => hne k hk z.1)] at e2 ⊢
    exact h.inj j k p hj hk hjk e1 e2 e3
theorem Rl.forget (h : Rl M s0 fe we ws) (i : Nat) : Rl M s0 (dset fe i none) we ws := by
  have g : ∀ {j : Nat} {x : D}, nth (dset fe i none) j = some x → nth fe j = some x := fun {j x} e => by
    rw [nth_dset] at e
    split at e
    · cases e
    · exact e
  have g2 : ∀ {j : Nat}, nth (dset fe i none) j ≠ none → nth fe j ≠ none := fun {j} e z => by
    cases q : nth (dset fe i none) j with
    | none => exact e q
    | some x => rw [g q] at z; cases z
  exact ⟨by rw [dset_len, h.len], h.sub, fun j x hj hv e => h.im j x hj hv (g e), fun j x hj hv e => h.vr j x hj hv (g e), fun j x hj e => h.mu j x hj (g e), fun j k p hj hk hjk e1 e2 e3 => h.inj j k p hj hk hjk (g2 e1) (g2 e2) e3⟩
theorem Rl.forgets (h : Rl M s0 fe we ws) : ∀ vs : List Nat, Rl M s0 (dwipe fe vs) we ws
  | [] => h
  | v :: vs => (Rl.forgets h vs).forget v
theorem Rl.both (h : Rl M s0 fe we ws) (i : Nat) : Rl M s0 (dset fe i none) (dset we i none) ws := by
  have g : ∀ {j : Nat} {x : D}, nth (dset fe i none) j = some x → nth fe j = some x ∧ ¬ (i = j ∧ i < we.length) := fun {j x} e => by
    rw [nth_dset] at e
    split at e
    · cases e
    · rename_i z; rw [h.len] at z; exact ⟨e, z⟩
  have g2 : ∀ {j : Nat}, nth (dset fe i none) j ≠ none → nth fe j ≠ none ∧ ¬ (i = j ∧ i < we.length) := fun {j} e => by
    cases q : nth (dset fe i none) j with
    | none => exact (e q).elim
    | some x => exact ⟨by rw [(g q).1]; exact (fun z => by cases z), (g q).2⟩
  refine ⟨by rw [dset_len, dset_len, h.len], h.sub, fun j x hj hv e => ?_, fun j x hj hv e => ?_, fun j x hj e => ?_, fun j k p hj hk hjk e1 e2 e3 => ?_⟩
  · rw [nth_dset, if_neg (g e).2]; exact h.im j x hj hv (g e).1
  · rw [nth_dset, if_neg (g e).2]; exact h.vr j x hj hv (g e).1
  · rw [nth_dset, if_neg (g e).2]; exact h.mu j x hj (g e).1
  · rw [nth_dset, if_neg (g2 e1).2] at e3
    rw [nth_dset, if_neg (g2 e2).2]
    exact h.inj j k p hj hk hjk (g2 e1).1 (g2 e2).1 e3
theorem Rl.wipes (h : Rl M s0 fe we ws) : ∀ vs : List Nat, Rl M s0 (dwipe fe vs) (dwipe we vs) ws
  | [] => h
  | v :: vs => (Rl.wipes h vs).both v
theorem Rl.fresh (h : Rl M s0 fe we ws) {p : Addr} {o : MO} (hp : ws.mu p = none) : Rl M s0 fe we (ws.put p o) :=
  ⟨h.len, Sub.put (sub_free h.sub hp) h.sub, h.im, h.vr, fun i d hi e => by
    obtain ⟨q, u, h1, h2, h3, h4⟩ := h.mu i d hi e
    exact ⟨q, u, h1, h2, h3, by rw [put_ne (fun z => by rw [z, hp] at h4; cases h4)]; exact h4⟩, h.inj⟩
/-- a new thing is put into a slot of M -/
theorem Rl.setM (h : Rl M s0 fe we ws) {i : Nat} {d : D} {p : Addr} {o : MO} (hi : i ∈ M) (hp : ws.mu p = none) (ho : moOf d = some o) : Rl M s0 (dset fe i (some d)) (dset we i (some (.rf (.ref p)))) (ws.put p o) := by
  have h' := h.fresh (o := o) hp
  refine ⟨by rw [dset_len, dset_len, h.len], h'.sub, fun j x hj hv e => ?_, fun j x hj hv e => ?_, fun j x hj e => ?_, fun j k q hj hk hjk e1 e2 e3 => ?_⟩
  · have ne : i ≠ j := fun z => hj (z ▸ hi)
    rw [nth_dset, if_neg (fun z => ne z.1)] at e ⊢
    exact h.im j x hj hv e
  · have ne : i ≠ j := fun z => hj (z ▸ hi)
    rw [nth_dset, if_neg (fun z => ne z.1)] at e ⊢
    exact h.vr j x hj hv e
  · rw [nth_dset] at e ⊢
    rw [← h.len]
    split at e
    · rename_i z
      rw [if_pos z]
      cases e
      exact ⟨p, o, rfl, sub_free h.sub hp, ho, put_same⟩
    · rename_i z
      rw [if_neg z]
      exact h'.mu j x hj e
  · rw [nth_dset, ← h.len] at e3
    rw [nth_dset] at e1 e2
    rw [nth_dset, ← h.len]
    have old : ∀ {a : Nat}, a ∈ M → nth fe a ≠ none → nth we a ≠ some (.rf (.ref p)) := fun {a} ha hn z => by
      cases q : nth fe a with
      | none => exact hn q
      | some x =>
        obtain ⟨p', o', g1, _, _, g4⟩ := h.mu a x ha q
        rw [g1] at z
        cases z
        rw [hp] at g4; cases g4
    by_cases z1 : i = j ∧ i < fe.length
    · rw [if_pos z1] at e3
      cases e3
      have z2 : ¬ (i = k ∧ i < fe.length) := fun z => hjk (z1.1.symm.trans z.1)
      rw [if_neg z2] at e2 ⊢
      exact old hk e2
    · rw [if_neg z1] at e1 e3
      by_cases z2 : i = k ∧ i < fe.length
      · rw [if_pos z2]
        intro z
        cases z
        exact old hj e1 e3
      · rw [if_neg z2] at e2 ⊢
        exact h.inj j k q hj hk hjk e1 e2 e3
/-- the thing at a slot of M changes -/
theorem Rl.chg (h : Rl M s0 fe we ws) {i : Nat} {d d0 : D} {p : Addr} {o : MO} (hi : i ∈ M) (h0 : nth fe i = some d0) (hw : nth we i = some (.rf (.ref p))) (ho : moOf d = some o) : Rl M s0 (dset fe i (some d)) we (ws.put p o) := by
  have il := nth_lt h0
  obtain ⟨p', o', g1, g2, g3, g4⟩ := h.mu i d0 hi h0
  rw [hw] at g1
  cases g1
  refine ⟨by rw [dset_len, h.len], Sub.put g2 h.sub, fun j x hj hv e => ?_, fun j x hj hv e => ?_, fun j x hj e => ?_, fun j k q hj hk hjk e1 e2 e3 => ?_⟩
  · have ne : i ≠ j := fun z => hj (z ▸ hi)
    rw [nth_dset, if_neg (fun z => ne z.1)] at e
    exact h.im j x hj hv e
  · have ne : i ≠ j := fun z => hj (z ▸ hi)
    rw [nth_dset, if_neg (fun z => ne z.1)] at e
    exact h.vr j x hj hv e
  · rw [nth_dset] at e
    by_cases z : i = j
    · rw [if_pos ⟨z, il⟩] at e
      cases e
      exact ⟨p, o, z ▸ hw, g2, ho, put_same⟩
    · rw [if_neg (fun y => z y.1)] at e
      obtain ⟨q, u, f1, f2, f3, f4⟩ := h.mu j x hj e
      refine ⟨q, u, f1, f2, f3, ?_⟩
      rw [put_ne (fun y => ?_)]
      · exact f4
      · rw [y] at f1
        exact h.inj i j p hi hj z (by rw [h0]; exact fun y => by cases y) (by rw [e]; exact fun y => by cases y) hw f1
  · have g : ∀ {a : Nat}, nth (dset fe i (some d)) a ≠ none → nth fe a ≠ none := fun {a} e z => by
      rw [nth_dset] at e
      split at e
      · rename_i y; rw [← y.1, h0] at z; cases z
      · exact e z
    exact h.inj j k q hj hk hjk (g e1) (g e2) e3
/-- a list at a slot of M will not change any more -/
theorem Rl.frz (h : Rl M s0 fe we ws) {i : Nat} {xs : List D} (hi : i ∈ M) (h0 : nth fe i = some (.lst xs)) (h9 : i < 1000 := by decide) : ∃ p, nth we i = some (.rf (.ref p)) ∧ ws.mu p = some (.ml xs) ∧ Sub s0 (ws.del p) ∧ Rl (M.filter (· != i)) s0 fe (dset we i (some (.lst xs))) (ws.del p) := by
  obtain ⟨p, o, g1, g2, g3, g4⟩ := h.mu i _ hi h0
  cases g3
  have dn : ∀ q, q ≠ p → (ws.del p).mu q = ws.mu q := fun q hq => if_neg hq
  have sb : Sub s0 (ws.del p) := ⟨fun q u e => by rw [dn q (fun z => by rw [z, g2] at e; cases e)]; exact h.sub.mu q u e, h.sub.g⟩
  have mem : ∀ {j : Nat}, j ∈ M.filter (· != i) ↔ j ∈ M ∧ i ≠ j := fun {j} => by
    rw [List.mem_filter]
    simp only [bne_iff_ne, ne_eq]
    exact ⟨fun ⟨a, b⟩ => ⟨a, fun z => b z.symm⟩, fun ⟨a, b⟩ => ⟨a, fun z => b z.symm⟩⟩
  have il := nth_lt h0
  refine ⟨p, g1, g4, sb, ⟨by rw [dset_len, h.len], sb, fun j x hj hv e => ?_, fun j x hj hv e => ?_, fun j x hj e => ?_, fun j k q hj hk hjk e1 e2 e3 => ?_⟩⟩
  · rw [nth_dset, ← h.len]
    by_cases z : i = j
    · rw [if_pos ⟨z, il⟩, ← e, ← z, h0]
    · rw [if_neg (fun y => z y.1)]
      exact h.im j x (fun y => hj (mem.mpr ⟨y, z⟩)) (fun y => hv (mem.mpr ⟨y, by omega⟩)) e
  · rw [nth_dset, ← h.len]
    by_cases z : i = j
    · rw [if_pos ⟨z, il⟩]; rw [← z, h0] at e; exact ⟨_, rfl, .inl (Option.some.inj e)⟩
    · rw [if_neg (fun y => z y.1)]
      exact h.vr j x (fun y => hj (mem.mpr ⟨y, z⟩)) (mem.mp hv).1 e
  · obtain ⟨jm, ne⟩ := mem.mp hj
    obtain ⟨q, u, f1, f2, f3, f4⟩ := h.mu j x jm e
    refine ⟨q, u, by rw [nth_dset, if_neg (fun y => ne y.1)]; exact f1, f2, f3, ?_⟩
    rw [dn q (fun y => ?_)]
    · exact f4
    · rw [y] at f1
      exact h.inj i j p hi jm ne (by rw [h0]; exact fun y => by cases y) (by rw [e]; exact fun y => by cases y) g1 f1
  · obtain ⟨jm, nj⟩ := mem.mp hj
    obtain ⟨km, nk⟩ := mem.mp hk
    rw [nth_dset, if_neg (fun y => nj y.1)] at e3
    rw [nth_dset, if_neg (fun y => nk y.1)]
    exact h.inj j k q jm km hjk e1 e2 e3
/-- a slot of M is forgotten by both -/
theorem Rl.back {i : Nat} (h : Rl (M.filter (· != i)) s0 fe we ws) (h9 : i < 1000 := by decide) : Rl M s0 (dset fe i none) we ws := by
  have h' := h.forget i
  have mem : ∀ {j : Nat}, j ∈ M → i ≠ j → j ∈ M.filter (· != i) := fun {j} a b => by
    rw [List.mem_filter]
    simp only [bne_iff_ne, ne_eq]
    exact ⟨a, fun z => b z.symm⟩
  have ni : ∀ {x : D}, nth (dset fe i none) i = some x → False := fun {x} e => by
    have il : i < fe.length := by
      have := nth_lt e
      rwa [dset_len] at this
    rw [nth_dset, if_pos ⟨rfl, il⟩] at e; cases e
  have ne : ∀ {j : Nat} {x : D}, nth (dset fe i none) j = some x → i ≠ j := fun {j x} e z => by subst z; exact ni e
  have ne2 : ∀ {j : Nat}, nth (dset fe i none) j ≠ none → i ≠ j := fun {j} e => by
    cases q : nth (dset fe i none) j with
    | none => exact (e q).elim
    | some x => exact ne q
  exact ⟨h'.len, h'.sub, fun j x hj hv e => h'.im j x (fun z => hj (List.mem_filter.mp z).1) (fun z => hv (List.mem_filter.mp z).1) e, fun j x hj hv e => h'.vr j x (fun z => hj (List.mem_filter.mp z).1) (mem hv (by omega)) e, fun j x hj e => h'.mu j x (mem hj (ne e)) e, fun j k p hj hk hjk e1 e2 e3 => h'.inj j k p (mem hj (ne2 e1)) (mem hk (ne2 e2)) hjk e1 e2 e3⟩
end
theorem vrel_sub {s0 ws : S} {d' d : D} (h : Sub s0 ws) (r : VRel s0 d' d) : VRel ws d' d := by
  rcases r with r | ⟨p, o, h1, h2, h3⟩
  · exact .inl r
  · exact .inr ⟨p, o, h1, h2, h.mu _ _ h3⟩
def seqF : D → Option (List D)
  | .tup xs => some xs
  | .lst xs => some xs
  | .scr ns => some (ns.map .int)
  | _ => none
def lstF : D → Option (List D)
  | .lst xs => some xs
  | .scr ns => some (ns.map .int)
  | _ => none
theorem vrel_lst {ws : S} {d' d : D} {xs : List D} (h : VRel ws d' d) (hs : lstF d = some xs) : lstOf d' ws = some xs := by
  rcases h with rfl | ⟨p, o, rfl, ho, hp⟩
  · cases d' <;> first | exact hs | cases hs
  · cases d <;> first | cases ho | skip
    · cases hs
      show (match ws.mu p with | some (.ml ds) => some ds | _ => none) = _
      rw [hp]
    · cases hs
    · cases hs
    · cases hs
theorem vrel_seq {ws : S} {d' d : D} {xs : List D} (h : VRel ws d' d) (hs : seqF d = some xs) : seqOf d' ws = some xs := by
  cases d with
  | tup ys =>
    rcases h with rfl | ⟨p, o, rfl, ho, hp⟩
    · exact hs
    · cases ho
  | lst ys =>
    have q := vrel_lst (xs := xs) h (by exact hs)
    rcases h with rfl | ⟨p, o, rfl, ho, hp⟩ <;> exact q
  | scr ys =>
    have q := vrel_lst (xs := xs) h (by exact hs)
    rcases h with rfl | ⟨p, o, rfl, ho, hp⟩ <;> exact q
  | _ => cases hs
end Bk
namespace Bk
open PySem PySem.Spec PyProof.Rows L2
abbrev F1 := D → Option D
abbrev F2 := D → D → Option D
def O2 (g : F2) (w : G2) : Prop := ∀ x y d s R, g x y = some d → R d s → w x y s R
def OV (g : F2) (w : G2) : Prop := ∀ x' y' x y d s R, VRel s x' x → VRel s y' y → g x y = some d → R d s → w x' y' s R
def O1 (g : F1) (w : G1) : Prop := ∀ x d s R, g x = some d → R d s → w x s R
def B1 (g : F1) (w : GA) : Prop := ∀ x' x d s R, VRel s x' x → g x = some d → R d s → w [x'] s R
def B2 (g : F2) (w : GA) : Prop := ∀ x y d s R, g x y = some d → R d s → w [x, y] s R
section
variable {M : List Nat} {a b c : FX} {wa wb wc : Exp} {t u : FT} {wt wu : Tst} {r : FA} {wr : Arg} {n : Nat}
theorem vrel_id {s : S} {d' d : D} (h : VRel s d' d) (ho : moOf d = none) : d' = d := by
  rcases h with h | ⟨p, o, _, h, _⟩
  · exact h
  · rw [ho] at h; cases h
@[simp] def fVar (i : Nat) (e : DEnv) : Rs D := Rs.opt (nth e i)
@[simp] def fC (d : D) (_ : DEnv) : Rs D := .ok d
theorem ax_var (i : Nat) (hi : i ∉ M := by decide) (hv : i + 1000 ∉ M := by decide) : AX M (fVar i) (dVar i) := fun s0 fe we ws h R E q => by
  obtain ⟨d, hd, q⟩ := run_opt q
  unfold dVar
  rw [h.im i d hi hv hd]; exact q
theorem av_var (i : Nat) : AV M (fVar i) (dVar i) := fun s0 fe we ws h R E q => by
  obtain ⟨d, hd, q⟩ := run_opt q
  unfold dVar
  by_cases hi : i ∈ M
  · obtain ⟨p, o, h1, h2, h3, h4⟩ := h.mu i d hi hd
    rw [h1]
    exact q _ (.inr ⟨p, o, rfl, h3, h4⟩)
  · by_cases hv : i + 1000 ∈ M
    · obtain ⟨d', h1, h2⟩ := h.vr i d hi hv hd
      rw [h1]
      exact q _ (vrel_sub h.sub h2)
    · rw [h.im i d hi hv hd]
      exact q _ (.inl rfl)
theorem ax_c (d : D) : AX M (fC d) (dC d) := fun s0 fe we ws h R E q => q
theorem av_of (h : AX M a wa) : AV M a wa := fun s0 fe we ws hr R E q => h s0 fe we ws hr R E (run_mono q (fun d k => k d (.inl rfl)) fun _ k => k)
@[simp] def fOp (g : F2) (a b : FX) (e : DEnv) : Rs D := (a e).bind fun x => (b e).bind fun y => Rs.opt (g x y)
@[simp] def fUn (g : F1) (a : FX) (e : DEnv) : Rs D := (a e).bind fun x => Rs.opt (g x)
theorem ax_op {g : F2} {w : G2} (ho : O2 g w) (ha : AX M a wa) (hb : AX M b wb) : AX M (fOp g a b) (dOp w wa wb) := fun s0 fe we ws h R E q => by
  refine ha s0 fe we ws h _ E (run_mono (run_bind.mp q) (fun x q => ?_) fun _ k => k)
  refine hb s0 fe we ws h _ E (run_mono (run_bind.mp q) (fun y q => ?_) fun _ k => k)
  obtain ⟨d, e, q⟩ := run_opt q
  exact ho x y d ws R e q
theorem ax_un {g : F1} {w : G1} (ho : O1 g w) (ha : AX M a wa) : AX M (fUn g a) (dUn w wa) := fun s0 fe we ws h R E q => by
  refine ha s0 fe we ws h _ E (run_mono (run_bind.mp q) (fun x q => ?_) fun _ k => k)
  obtain ⟨d, e, q⟩ := run_opt q
  exact ho x d ws R e q
def gInt (f : Int → Int → D) : F2
  | .int i, .int j => some (f i j)
  | _, _ => none
theorem o_int (f : Int → Int → D) : O2 (gInt f) (oInt f) := fun x y d s R e q => by
  cases x <;> cases y <;> first | (cases e; exact q) | cases e
instance (i j : Int) : Decidable (CMul i j) := by unfold CMul; infer_instance
instance (i j : Int) : Decidable (CDiv i j) := by unfold CDiv; infer_instance
instance (i j : Int) : Decidable (CPow i j) := by unfold CPow; infer_instance
def gIntC (c : Int → Int → Prop) [∀ i j, Decidable (c i j)] (f : Int → Int → D) : F2
  | .int i, .int j => if c i j then some (f i j) else none
  | _, _ => none
theorem o_intC (c : Int → Int → Prop) [∀ i j, Decidable (c i j)] (f : Int → Int → D) : O2 (gIntC c f) (oIntC c f) := fun x y d s R e q => by
  cases x <;> cases y <;> first | cases e | skip
  rename_i i j
  rw [gIntC] at e
  split at e
  · rename_i h; cases e; exact ⟨h, q⟩
  · cases e
abbrev gSub : F2 := gInt fun i j => .int (i - j)
abbrev gLt : F2 := gInt fun i j => .bl (decide (i < j))
abbrev gLe : F2 := gInt fun i j => .bl (decide (i ≤ j))
abbrev gGt : F2 := gInt fun i j => .bl (decide (j < i))
abbrev gPow : F2 := gIntC CPow fun i j => .int (i ^ j.toNat)
def gNeg : F1
  | .int i => some (.int (-i))
  | _ => none
theorem o_neg : O1 gNeg oNeg := fun x d s R e q => by cases x <;> first | (cases e; exact q) | cases e
def gAdd : F2
  | .int i, .int j => some (.int (i + j))
  | .str a, .str b => if a.length + b.length ≤ sizeLine then some (.str (a ++ b)) else none
  | .lst xs, .lst ys => if xs.length + ys.length ≤ sizeLine then some (.lst (xs ++ ys)) else none
  | .tup xs, .tup ys => if xs.length + ys.length ≤ sizeLine then some (.tup (xs ++ ys)) else none
  | _, _ => none
theorem o_add : O2 gAdd oAdd := fun x y d s R e q => by
  unfold gAdd at e
  unfold oAdd
  split at e
  · cases e; exact q
  · split at e
    · rename_i h; cases e; exact ⟨h, q⟩
    · cases e
  · split at e
    · rename_i h; cases e; exact ⟨h, q⟩
    · cases e
  · split at e
    · rename_i h; cases e; exact ⟨h, q⟩
    · cases e
  · cases e
def gMulT : F2
  | .tup xs, .int k => if xs.length ≠ 0 ∧ 1 ≤ k ∧ k ≤ 1000 ∧ xs.length ≤ 1000 then some (.tup (repL xs k.toNat)) else none
  | _, _ => none
def gEq : F2 := fun x y => if x.eqOk = true ∧ y.eqOk = true then some (.bl (x.eqb y)) else none
theorem o_eq : O2 gEq oEq := fun x y d s R e q => by
  unfold gEq at e
  split at e
  · rename_i h; cases e; exact ⟨h, q⟩
  · cases e
def gNe : F2 := fun x y => if x.eqOk = true ∧ y.eqOk = true then some (.bl (!x.eqb y)) else none
theorem o_ne : O2 gNe oNe := fun x y d s R e q => by
  unfold gNe at e
  split at e
  · rename_i h; cases e; exact ⟨h, q⟩
  · cases e
def gNeS : F2
  | .str a, .str b => some (.bl (!decide (a = b)))
  | _, _ => none
theorem o_neS : O2 gNeS oNeS := fun x y d s R e q => by
  unfold gNeS at e
  unfold oNeS
  split at e
  · cases e; exact q
  · cases e
def gMulS : F2
  | .str z, .int k => if 1 < k ∧ k ≤ 100 ∧ z.length ≤ 100000 then some (.str (strMul z k.toNat)) else none
  | _, _ => none
def gIn (neg : Bool) : F2 := fun x y => match y with
  | .lst ds => if x.eqOk = true ∧ (D.lst ds).eqOk = true then some (.bl (if neg then !isIn x ds else isIn x ds)) else none
  | .tup ds => if x.eqOk = true ∧ (D.tup ds).eqOk = true then some (.bl (if neg then !isIn x ds else isIn x ds)) else none
  | .str t => match x with
    | .str a => some (.bl (if neg then !(!(Builtin.Str.occurrences t a 0 t.length 1).isEmpty) else !(Builtin.Str.occurrences t a 0 t.length 1).isEmpty))
    | _ => none
  | _ => none
def gIsN (neg : Bool) : F2
  | .non, .non => some (.bl (!neg))
  | .bl _, .non | .int _, .non | .str _, .non | .lst _, .non | .tup _, .non | .dic _, .non | .exc _ _, .non => some (.bl neg)
  | _, _ => none
def gIx : F2 := fun x y => match y with
  | .int i => match x with
    | .str z => if z.length ≤ sizeLine then (atI z.cps.toList i).map fun c => .str ⟨#[c]⟩ else none
    | x => (seqF x).bind fun ds => atI ds i
  | _ => none
theorem o_ix : OV gIx oIx := fun x' y' x y d s R hx hy e q => by
  unfold gIx at e
  cases y with
  | int i =>
    have hy' := vrel_id hy rfl
    subst hy'
    cases x with
    | str z =>
      have hx' := vrel_id hx rfl
      subst hx'
      dsimp only at e
      split at e
      · rename_i h
        obtain ⟨c, hc, rfl⟩ := Option.map_eq_some_iff.mp e
        exact ⟨h, c, hc, q⟩
      · cases e
    | _ =>
      obtain ⟨ds, h1, h2⟩ := Option.bind_eq_some_iff.mp e
      have h3 := vrel_seq hx h1
      cases x' <;> first | exact ⟨ds, d, h3, h2, q⟩ | cases h3
  | _ => cases e
abbrev FP := DEnv → Rs (Option Int)
@[simp] def fNoPart (_ : DEnv) : Rs (Option Int) := .ok none
def asI : D → Rs (Option Int)
  | .int i => .ok (some i)
  | _ => .no
@[simp] def fPart (f : FX) (e : DEnv) : Rs (Option Int) := (f e).bind asI
def gSl (x : D) (lo hi : Option Int) : Option D := match x with
  | .str z => if z.length ≤ sizeLine then some (.str (cutS z lo hi)) else none
  | .tup ds => some (.tup (cutD ds lo hi))
  | x => (lstF x).map fun ds => .lst (cutD ds lo hi)
@[simp] def fSl (a : FX) (l h : FP) (e : DEnv) : Rs D := (a e).bind fun d => (l e).bind fun lo => (h e).bind fun hi => Rs.opt (gSl d lo hi)
def revT : D → Rs D
  | .tup xs => .ok (.tup xs.reverse)
  | _ => .no
@[simp] def fBack (a : FX) (e : DEnv) : Rs D := (a e).bind revT
@[simp] def fAndV (a b : FX) (e : DEnv) : Rs D := ((a e).bind asB).bind fun k => if k = true then b e else .ok (.bl false)
@[simp] def fOrV (a b : FX) (e : DEnv) : Rs D := ((a e).bind asB).bind fun k => if k = true then .ok (.bl true) else b e
@[simp] def fNotV (a : FX) (e : DEnv) : Rs D := ((a e).bind asB).bind fun k => .ok (.bl (!k))
theorem asB_run {d : D} {R : Bool → Prop} {E : Ex → Prop} (h : (asB d).run R E) : ∃ k, d = .bl k ∧ R k := by
  cases d <;> first | exact ⟨_, rfl, h⟩ | exact h.elim
@[simp] def fTst (a : FX) (e : DEnv) : Rs Bool := (a e).bind asB
@[simp] def fAnd (t u : FT) (e : DEnv) : Rs Bool := (t e).bind fun b => if b = true then u e else .ok false
@[simp] def fOr (t u : FT) (e : DEnv) : Rs Bool := (t e).bind fun b => if b = true then .ok true else u e
@[simp] def fNot (t : FT) (e : DEnv) : Rs Bool := (t e).bind fun b => .ok (!b)
@[simp] def fYes (_ : DEnv) : Rs Bool := .ok true
theorem at_tst (ha : AX M a wa) : AT M (fTst a) (dTst wa) := fun s0 fe we ws h R E q => by
  refine ha s0 fe we ws h _ E (run_mono (run_bind.mp q) (fun x q => ?_) fun _ k => k)
  obtain ⟨k, rfl, q⟩ := asB_run q
  exact q
theorem at_yes : AT M fYes dYes := fun s0 fe we ws h R E q => q
@[simp] def fIf (t : FT) (a b : FX) (e : DEnv) : Rs D := (t e).bind fun k => if k = true then a e else b e
@[simp] def fChain (g g' : F2) (a b c : FX) (e : DEnv) : Rs D := (a e).bind fun x => (b e).bind fun y => ((Rs.opt (g x y)).bind asB).bind fun k => if k = true then (c e).bind fun w => Rs.opt (g' y w) else .ok (.bl false)
@[simp] def fNil (_ : DEnv) : Rs (List D) := .ok []
@[simp] def fCons (a : FX) (r : FA) (e : DEnv) : Rs (List D) := (a e).bind fun d => (r e).bind fun ds => .ok (d :: ds)
theorem aa_nil : AA M 0 fNil dNil := fun s0 fe we ws h R E q => q rfl
theorem aa_cons (ha : AX M a wa) (hr : AA M n r wr) : AA M (n + 1) (fCons a r) (dCons wa wr) := fun s0 fe we ws h R E q => by
  refine ha s0 fe we ws h _ E (run_mono (run_bind.mp q) (fun x q => ?_) fun _ k => k)
  exact hr s0 fe we ws h _ E (run_mono (run_bind.mp q) (fun ds q hl => q (by rw [List.length_cons, hl])) fun _ k => k)
@[simp] def fTup (r : FA) (e : DEnv) : Rs D := (r e).bind fun ds => .ok (.tup ds)
@[simp] def fLst (r : FA) (e : DEnv) : Rs D := (r e).bind fun ds => .ok (.lst ds)
theorem ax_tup (hr : AA M n r wr) (hn : n ≤ 10000 := by decide) : AX M (fTup r) (dTup wr) := fun s0 fe we ws h R E q =>
  hr s0 fe we ws h _ E (run_mono (run_bind.mp q) (fun ds q hl => ⟨sz _ (by omega), q⟩) fun _ k => k)
theorem ax_lst (hr : AA M n r wr) (hn : n ≤ 10000 := by decide) : AX M (fLst r) (dLst wr) := fun s0 fe we ws h R E q =>
  hr s0 fe we ws h _ E (run_mono (run_bind.mp q) (fun ds q hl => ⟨sz _ (by omega), q⟩) fun _ k => k)
abbrev FF := List D → Rs D
/-- a promise: it computes f -/
def pF (f : FF) : Fn := fun ds s R E => (f ds).run (fun d => R d s) (fun x => E x s)
@[simp] def fCall (f : FF) (r : FA) (e : DEnv) : Rs D := (r e).bind f
theorem ax_call {f : FF} (hr : AA M n r wr) : AX M (fCall f r) (dCall n (pF f) wr) := fun s0 fe we ws h R E q =>
  hr s0 fe we ws h _ E (run_mono (run_bind.mp q) (fun ds q hl => ⟨hl, q⟩) fun _ k => k)
@[simp] def fB1 (g : F1) (a : FX) (e : DEnv) : Rs D := (a e).bind fun d => Rs.opt (g d)
theorem ax_b1 {g : F1} {w : GA} (hg : B1 g w) (ha : AV M a wa) : AX M (fB1 g a) (dBlt w (dCons wa dNil)) := fun s0 fe we ws h R E q => by
  refine ha s0 fe we ws h _ E (run_mono (run_bind.mp q) (fun x q x' hx => ?_) fun _ k => k)
  obtain ⟨d, e, q⟩ := run_opt q
  exact hg x' x d ws R hx e q
@[simp] def fB2 (g : F2) (a b : FX) (e : DEnv) : Rs D := (a e).bind fun x => (b e).bind fun y => Rs.opt (g x y)
theorem ax_b2 {g : F2} {w : GA} (hg : B2 g w) (ha : AX M a wa) (hb : AX M b wb) : AX M (fB2 g a b) (dBlt w (dCons wa (dCons wb dNil))) := fun s0 fe we ws h R E q => by
  refine ha s0 fe we ws h _ E (run_mono (run_bind.mp q) (fun x q => ?_) fun _ k => k)
  refine hb s0 fe we ws h _ E (run_mono (run_bind.mp q) (fun y q => ?_) fun _ k => k)
  obtain ⟨d, e, q⟩ := run_opt q
  exact hg x y d ws R e q
def gLen : F1
  | .str z => if z.length ≤ sizeLine then some (.int z.length) else none
  | d => (seqF d).map fun xs => .int xs.length
theorem b_len : B1 gLen cLen := fun x' x d s R hx e q => by
  cases x with
  | str z =>
    have hx' := vrel_id hx rfl
    subst hx'
    rw [gLen] at e
    split at e
    · rename_i h; cases e; exact ⟨h, q⟩
    · cases e
  | _ =>
    unfold gLen at e
    dsimp only at e
    obtain ⟨ds, h1, h2⟩ := Option.map_eq_some_iff.mp e
    subst h2
    have h3 := vrel_seq hx h1
    cases x' <;> first | exact ⟨ds, h3, q⟩ | cases h3
def gList : F1 := fun d => (seqF d).map .lst
def gTuple : F1 := fun d => (seqF d).map .tup
def gAll (any : Bool) : F1
  | .lst xs => (bls xs).map fun bs => .bl (if any then bs.any id else bs.all id)
  | _ => none
/-- .. of something that does not change -/
theorem ax_b1x {g : F1} {w : GA} (hg : ∀ x d s R, g x = some d → R d s → w [x] s R) (ha : AX M a wa) : AX M (fB1 g a) (dBlt w (dCons wa dNil)) := fun s0 fe we ws h R E q => by
  refine ha s0 fe we ws h _ E (run_mono (run_bind.mp q) (fun x q => ?_) fun _ k => k)
  obtain ⟨d, e, q⟩ := run_opt q
  exact hg x d ws R e q
def gSum : F1
  | .lst xs => (intL xs).map fun bs => .int bs.sum
  | _ => none
def g2I (f : Int → Int → Int) : F2
  | .int i, .int j => some (.int (f i j))
  | _, _ => none
theorem b_2I (f : Int → Int → Int) : B2 (g2I f) (c2I f) := fun x y d s R e q => by
  cases x <;> cases y <;> first | (cases e; exact q) | cases e
instance (d : D) : Decidable d.shOkA := by unfold D.shOkA; infer_instance
def gRepr : F1 := fun d => if d.shOkA then some (.str (shown d)) else none
theorem x_repr : ∀ x d s R, gRepr x = some d → R d s → cReprA [x] s R := fun x d s R e q => by
  unfold gRepr at e
  split at e
  · rename_i h
    cases e
    exact ⟨h, fun a ha => by subst ha; exact q⟩
  · cases e
/-- the name of its type, for isinstance -/
def tyF : D → Option String
  | .non => some "NoneType"
  | .bl _ => some "bool"
  | .int _ => some "int"
  | .str _ => some "str"
  | .lst _ => some "list"
  | .scr _ => some "list"
  | .tup _ => some "tuple"
  | .dic _ => some "dict"
  | _ => none
def gIsi (n : String) : F1 := fun d => if n ∈ tyNames then (tyF d).map fun t => .bl (isTy t n) else none
def itF : D → Rs (List D)
  | .lst ds => .ok ds
  | .tup ds => .ok ds
  | .str x => if (signs x).length ≤ sizeLine then .ok (signs x) else .no
  | .scr ns => .ok (ns.map .int)
  | _ => .no
@[simp] def fIter (a : FX) (e : DEnv) : Rs (List D) := (a e).bind itF
/-- walked, where no more than a line is walked -/
def AW (M : List Nat) (f : FA) (w : Arg) : Prop := ∀ s0 fe we ws, Rl M s0 fe we ws → ∀ R E, (f fe).run (fun ds => ds.length ≤ sizeLine → R ds ws) (fun x => E x ws) → w we ws R E
theorem aw_iter (ha : AX M a wa) : AW M (fIter a) (dIter wa) := fun s0 fe we ws h R E q => by
  refine ha s0 fe we ws h _ E (run_mono (run_bind.mp q) (fun x q => ?_) fun _ k => k)
  cases x <;> first | exact q.elim | exact q | skip
  · simp only [itF] at q
    split at q
    · rename_i hz; exact q hz
    · exact q.elim
  · rename_i ns
    exact fun hz => q (by rw [List.length_map]; exact hz)
def rngF : List D → Rs (List D)
  | [.int j] => if -(2 ^ 62) ≤ j ∧ j < 2 ^ 62 ∧ j.toNat ≤ sizeLine then .ok (rangeD 0 j.toNat) else .no
  | _ => .no
@[simp] def fRng1 (r : FA) (e : DEnv) : Rs (List D) := (r e).bind rngF
theorem aw_rng1 (hr : AA M n r wr) : AW M (fRng1 r) (dRng1 wr) := fun s0 fe we ws h R E q => by
  refine hr s0 fe we ws h _ E (run_mono (run_bind.mp q) (fun ds q hl => ?_) fun _ k => k)
  unfold rngF at q
  split at q
  · split at q
    · rename_i hz
      exact ⟨⟨hz.1, hz.2.1⟩, q (by unfold rangeD; rw [List.length_map, List.length_range]; exact hz.2.2)⟩
    · exact q.elim
  · exact q.elim
def zipF : Option (List D) → Option (List D) → Rs (List D)
  | some xs, some ys => if xs.length ≤ sizeLine then .ok (zipD xs ys) else .no
  | _, _ => .no
@[simp] def fZip (a b : FX) (e : DEnv) : Rs (List D) := (a e).bind fun x => (b e).bind fun y => zipF (seqD x) (seqD y)
def enumT : D → Rs (List D)
  | .tup xs => if xs.length ≤ sizeLine then .ok (enumD xs) else .no
  | _ => .no
@[simp] def fEnumT (a : FX) (e : DEnv) : Rs (List D) := (a e).bind enumT
theorem enumD_lenF (xs : List D) : (enumD xs).length = xs.length := by unfold enumD; rw [List.length_mapIdx]
def enumL : D → Rs (List D)
  | .lst xs => if xs.length ≤ sizeLine then .ok (enumD xs) else .no
  | _ => .no
@[simp] def fEnumL (a : FX) (e : DEnv) : Rs (List D) := (a e).bind enumL
theorem aw_enumL (ha : AX M a wa) : AW M (fEnumL a) (dEnumL (dCons wa dNil)) := fun s0 fe we ws h R E q => by
  refine ha s0 fe we ws h _ E (run_mono (run_bind.mp q) (fun x q => ?_) fun _ k => k)
  cases x <;> first | exact q.elim | skip
  simp only [enumL] at q
  split at q
  · rename_i hz; exact q (by rw [enumD_lenF]; exact hz)
  · exact q.elim
@[simp] def fgName (i : Nat) (d : D) (e : DEnv) : Option DEnv := some (dset e i (some d))
def fgNil (ds : List D) (e : DEnv) : Option DEnv := match ds with
  | [] => some e
  | _ => none
def fgCons (g : FG) (r : List D → DEnv → Option DEnv) (ds : List D) (e : DEnv) : Option DEnv := match ds with
  | d :: ds => (g d e).bind fun e1 => r ds e1
  | [] => none
def fgTup (n : Nat) (r : List D → DEnv → Option DEnv) (d : D) (e : DEnv) : Option DEnv := match d with
  | .tup ds => if ds.length = n then r ds e else none
  | _ => none
def AGs (M : List Nat) (g : List D → DEnv → Option DEnv) (w : DGs) : Prop := ∀ s0 fe we ws, Rl M s0 fe we ws → ∀ ds fe1, g ds fe = some fe1 → ∀ K : DEnv → S → Prop, (∀ we1, Rl M s0 fe1 we1 ws → K we1 ws) → w ds we ws K
theorem ag_name (i : Nat) (hi : i ∉ M := by decide) : AG M (fgName i) (gdName i) := fun s0 fe we ws h d fe1 e K k => by
  cases e
  exact k _ (h.nonM hi)
theorem ags_nil : AGs M fgNil gdNil := fun s0 fe we ws h ds fe1 e K k => by
  cases ds with
  | nil => cases e; exact ⟨rfl, k _ h⟩
  | cons _ _ => cases e
theorem ags_cons {g : FG} {w : DG} {r : List D → DEnv → Option DEnv} {wr : DGs} (hg : AG M g w) (hr : AGs M r wr) : AGs M (fgCons g r) (gdCons w wr) := fun s0 fe we ws h ds fe1 e K k => by
  cases ds with
  | nil => cases e
  | cons d ds =>
    obtain ⟨e1, h1, h2⟩ := Option.bind_eq_some_iff.mp e
    exact hg s0 fe we ws h d e1 h1 _ fun we1 r1 => hr s0 e1 we1 ws r1 ds fe1 h2 K k
theorem ag_tup {n : Nat} {r : List D → DEnv → Option DEnv} {wr : DGs} (hr : AGs M r wr) : AG M (fgTup n r) (gdTup n wr) := fun s0 fe we ws h d fe1 e K k => by
  unfold fgTup at e
  unfold gdTup
  split at e
  · split at e
    · rename_i hl; exact ⟨hl, hr s0 fe we ws h _ fe1 e K k⟩
    · cases e
  · cases e
/-- what one turn gives -/
def fElem (g : FG) (t : FT) (a : FX) (e0 : DEnv) (d : D) : Rs (Option D) := match g d e0 with
  | none => .no
  | some e1 => match t e1 with
    | .ok true => match a e1 with
      | .ok y => .ok (some y)
      | _ => .no
    | .ok false => .ok none
    | _ => .no
def fGo (el : D → Rs (Option D)) : List D → Rs (List D)
  | [] => .ok []
  | d :: ds => (el d).bind fun o => (fGo el ds).bind fun ys => .ok (o.toList ++ ys)
@[simp] def fLc (i : FA) (g : FG) (t : FT) (a : FX) (vs : List Nat) (e : DEnv) : Rs D := (i e).bind fun ds => (fGo (fElem g t a (dwipe e vs)) ds).bind fun ys => .ok (.lst ys)
theorem comp_go {g : FG} {wg : DG} {s0 : S} {fe we : DEnv} {ws : S} (h : Rl M s0 fe we ws) (hg : AG M g wg) (ht : AT M t wt) (ha : AX M a wa) : ∀ (ds acc ys : List D) (R : List D → S → Prop), fGo (fElem g t a fe) ds = .ok ys → R (acc ++ ys) ws → dComp wg wt wa we R ds acc ws
  | [], acc, ys, R, e, q => by
    cases e
    rw [List.append_nil] at q; exact q
  | d :: ds, acc, ys, R, e, q => by
    rw [fGo] at e
    cases h1 : fElem g t a fe d with
    | no => rw [h1] at e; cases e
    | ex x => rw [h1] at e; cases e
    | ok o =>
      rw [h1] at e
      replace e : (fGo (fElem g t a fe) ds).bind (fun ys => .ok (o.toList ++ ys)) = .ok ys := e
      cases h2 : fGo (fElem g t a fe) ds with
      | no => rw [h2] at e; cases e
      | ex x => rw [h2] at e; cases e
      | ok zs =>
        rw [h2] at e
        cases e
        unfold fElem at h1
        unfold dComp
        split at h1
        · cases h1
        · rename_i e1 hg1
          refine hg s0 fe we ws h d e1 hg1 _ fun we1 r1 => ?_
          split at h1
          · rename_i ht1
            refine ht s0 e1 we1 ws r1 _ _ ?_
            rw [ht1]
            simp only [run_ok, if_true]
            split at h1
            · rename_i y hy
              cases h1
              refine ha s0 e1 we1 ws r1 _ _ ?_
              rw [hy]
              exact comp_go h hg ht ha ds (acc ++ [y]) zs R h2 (by rw [List.append_assoc]; exact q)
            · cases h1
          · rename_i ht1
            cases h1
            refine ht s0 e1 we1 ws r1 _ _ ?_
            rw [ht1]
            simp only [run_ok]
            rw [if_neg (by decide)]
            exact comp_go h hg ht ha ds acc zs R h2 q
          · cases h1
theorem ax_lc {i : FA} {wi : Arg} {g : FG} {wg : DG} {vs : List Nat} (hi : AW M i wi) (hg : AG M g wg) (ht : AT M t wt) (ha : AX M a wa) : AX M (fLc i g t a vs) (dLc wi wg wt wa vs) := fun s0 fe we ws h R E q => by
  refine hi s0 fe we ws h _ E (run_mono (run_bind.mp q) (fun ds q hz => ?_) fun _ k => k)
  refine ⟨hz, ?_⟩
  cases e : fGo (fElem g t a (dwipe fe vs)) ds with
  | no => rw [e] at q; exact q.elim
  | ex x =>
    exfalso
    clear q
    induction ds with
    | nil => cases e
    | cons d ds ih =>
      rw [fGo] at e
      cases h1 : fElem g t a (dwipe fe vs) d with
      | no => rw [h1] at e; cases e
      | ex x =>
        unfold fElem at h1
        split at h1
        · cases h1
        · split at h1
          · split at h1 <;> cases h1
          · cases h1
          · cases h1
      | ok o =>
        rw [h1] at e
        replace e : (fGo (fElem g t a (dwipe fe vs)) ds).bind (fun ys => .ok (o.toList ++ ys)) = .ex x := e
        cases h2 : fGo (fElem g t a (dwipe fe vs)) ds with
        | no => rw [h2] at e; cases e
        | ok zs => rw [h2] at e; cases e
        | ex x2 =>
          rw [h2] at e
          cases e
          exact ih (by rw [List.length_cons] at hz; omega) h2
  | ok ys =>
    rw [e] at q
    exact comp_go (h.wipes vs) hg ht ha ds [] ys _ e q
end
section
variable {x y : D} {i j k : Int} {a b z : Str} {xs ys ds : List D} {ns : List Int} {u v neg any : Bool} {e : DEnv} {lo hi : Option Int}
@[simp] theorem gInt_eq (f : Int → Int → D) : gInt f (.int i) (.int j) = some (f i j) := rfl
@[simp] theorem gIntC_eq (c : Int → Int → Prop) [∀ i j, Decidable (c i j)] (f : Int → Int → D) : gIntC c f (.int i) (.int j) = if c i j then some (f i j) else none := rfl
@[simp] theorem gNeg_eq : gNeg (.int i) = some (.int (-i)) := rfl
@[simp] theorem gAdd_int : gAdd (.int i) (.int j) = some (.int (i + j)) := rfl
@[simp] theorem gAdd_str : gAdd (.str a) (.str b) = if a.length + b.length ≤ sizeLine then some (.str (a ++ b)) else none := rfl
@[simp] theorem gAdd_lst : gAdd (.lst xs) (.lst ys) = if xs.length + ys.length ≤ sizeLine then some (.lst (xs ++ ys)) else none := rfl
@[simp] theorem gAdd_tup : gAdd (.tup xs) (.tup ys) = if xs.length + ys.length ≤ sizeLine then some (.tup (xs ++ ys)) else none := rfl
@[simp] theorem gMulT_eq : gMulT (.tup xs) (.int k) = if xs.length ≠ 0 ∧ 1 ≤ k ∧ k ≤ 1000 ∧ xs.length ≤ 1000 then some (.tup (repL xs k.toNat)) else none := rfl
@[simp] theorem gNeS_eq : gNeS (.str a) (.str b) = some (.bl (!decide (a = b))) := rfl
@[simp] theorem gMulS_eq : gMulS (.str z) (.int k) = if 1 < k ∧ k ≤ 100 ∧ z.length ≤ 100000 then some (.str (strMul z k.toNat)) else none := rfl
@[simp] theorem gIsN_non : gIsN neg .non .non = some (.bl (!neg)) := rfl
@[simp] theorem gIsN_bl : gIsN neg (.bl u) .non = some (.bl neg) := rfl
@[simp] theorem gIsN_int : gIsN neg (.int i) .non = some (.bl neg) := rfl
@[simp] theorem gIsN_str : gIsN neg (.str a) .non = some (.bl neg) := rfl
@[simp] theorem gIsN_lst : gIsN neg (.lst xs) .non = some (.bl neg) := rfl
@[simp] theorem gIsN_tup : gIsN neg (.tup xs) .non = some (.bl neg) := rfl
@[simp] theorem gIsN_dic (kvs : List (Key × D)) : gIsN neg (.dic kvs) .non = some (.bl neg) := rfl
@[simp] theorem gIsN_exc (n : Str) (fs : List (Str × D)) : gIsN neg (.exc n fs) .non = some (.bl neg) := rfl
@[simp] theorem gIx_str : gIx (.str z) (.int i) = if z.length ≤ sizeLine then (atI z.cps.toList i).map fun c => .str ⟨#[c]⟩ else none := rfl
@[simp] theorem gIx_lst : gIx (.lst xs) (.int i) = atI xs i := rfl
@[simp] theorem gIx_tup : gIx (.tup xs) (.int i) = atI xs i := rfl
@[simp] theorem gIx_scr : gIx (.scr ns) (.int i) = atI (ns.map .int) i := rfl
@[simp] theorem gSl_str : gSl (.str z) lo hi = if z.length ≤ sizeLine then some (.str (cutS z lo hi)) else none := rfl
@[simp] theorem gSl_tup : gSl (.tup ds) lo hi = some (.tup (cutD ds lo hi)) := rfl
@[simp] theorem gSl_lst : gSl (.lst ds) lo hi = some (.lst (cutD ds lo hi)) := rfl
@[simp] theorem asI_int : asI (.int i) = .ok (some i) := rfl
@[simp] theorem revT_tup : revT (.tup xs) = .ok (.tup xs.reverse) := rfl
@[simp] theorem gLen_str : gLen (.str z) = if z.length ≤ sizeLine then some (.int z.length) else none := rfl
@[simp] theorem gLen_lst : gLen (.lst xs) = some (.int xs.length) := rfl
@[simp] theorem gLen_tup : gLen (.tup xs) = some (.int xs.length) := rfl
@[simp] theorem gLen_scr : gLen (.scr ns) = some (.int (ns.map D.int).length) := rfl
@[simp] theorem gList_lst : gList (.lst xs) = some (.lst xs) := rfl
@[simp] theorem gList_tup : gList (.tup xs) = some (.lst xs) := rfl
@[simp] theorem gTuple_lst : gTuple (.lst xs) = some (.tup xs) := rfl
@[simp] theorem gTuple_tup : gTuple (.tup xs) = some (.tup xs) := rfl
@[simp] theorem gAll_lst : gAll any (.lst xs) = (bls xs).map fun bs => .bl (if any then bs.any id else bs.all id) := rfl
@[simp] theorem gSum_lst : gSum (.lst xs) = (intL xs).map fun bs => .int bs.sum := rfl
@[simp] theorem g2I_eq (f : Int → Int → Int) : g2I f (.int i) (.int j) = some (.int (f i j)) := rfl
@[simp] theorem itF_lst : itF (.lst xs) = .ok xs := rfl
@[simp] theorem itF_tup : itF (.tup xs) = .ok xs := rfl
@[simp] theorem itF_scr : itF (.scr ns) = .ok (ns.map .int) := rfl
@[simp] theorem itF_str : itF (.str z) = if (signs z).length ≤ sizeLine then .ok (signs z) else .no := rfl
@[simp] theorem rngF_eq : rngF [.int j] = if -(2 ^ 62) ≤ j ∧ j < 2 ^ 62 ∧ j.toNat ≤ sizeLine then .ok (rangeD 0 j.toNat) else .no := rfl
@[simp] theorem zipF_eq : zipF (some xs) (some ys) = if xs.length ≤ sizeLine then .ok (zipD xs ys) else .no := rfl
@[simp] theorem seqD_lst : seqD (.lst xs) = some xs := rfl
@[simp] theorem seqD_tup : seqD (.tup xs) = some xs := rfl
@[simp] theorem enumT_eq : enumT (.tup xs) = if xs.length ≤ sizeLine then .ok (enumD xs) else .no := rfl
@[simp] theorem enumL_eq : enumL (.lst xs) = if xs.length ≤ sizeLine then .ok (enumD xs) else .no := rfl
@[simp] theorem fgNil_eq : fgNil [] e = some e := rfl
@[simp] theorem fgCons_eq (g : FG) (r : List D → DEnv → Option DEnv) : fgCons g r (x :: ds) e = (g x e).bind fun e1 => r ds e1 := rfl
@[simp] theorem fgTup_eq (n : Nat) (r : List D → DEnv → Option DEnv) : fgTup n r (.tup ds) e = if ds.length = n then r ds e else none := rfl
@[simp] theorem gIsi_non (n : String) (h : n ∈ tyNames) : gIsi n .non = some (.bl (isTy "NoneType" n)) := by unfold gIsi; rw [if_pos h]; rfl
@[simp] theorem gIsi_bl (n : String) (h : n ∈ tyNames) : gIsi n (.bl u) = some (.bl (isTy "bool" n)) := by unfold gIsi; rw [if_pos h]; rfl
@[simp] theorem gIsi_int (n : String) (h : n ∈ tyNames) : gIsi n (.int i) = some (.bl (isTy "int" n)) := by unfold gIsi; rw [if_pos h]; rfl
@[simp] theorem gIsi_str (n : String) (h : n ∈ tyNames) : gIsi n (.str z) = some (.bl (isTy "str" n)) := by unfold gIsi; rw [if_pos h]; rfl
@[simp] theorem gIsi_lst (n : String) (h : n ∈ tyNames) : gIsi n (.lst xs) = some (.bl (isTy "list" n)) := by unfold gIsi; rw [if_pos h]; rfl
@[simp] theorem gIsi_tup (n : String) (h : n ∈ tyNames) : gIsi n (.tup xs) = some (.bl (isTy "tuple" n)) := by unfold gIsi; rw [if_pos h]; rfl
@[simp] theorem gIsi_dic (n : String) (kvs : List (Key × D)) (h : n ∈ tyNames) : gIsi n (.dic kvs) = some (.bl (isTy "dict" n)) := by unfold gIsi; rw [if_pos h]; rfl
end
theorem fGo_map {α : Type} {el : D → Rs (Option D)} (enc F : α → D) {xs : List α} (h : ∀ a ∈ xs, el (enc a) = .ok (some (F a))) : fGo el (xs.map enc) = .ok (xs.map F) := by
  induction xs with
  | nil => rfl
  | cons x xs ih => rw [List.map_cons, fGo, h x List.mem_cons_self, bind_ok, ih fun a ha => h a (List.mem_cons_of_mem _ ha)]; rfl
theorem fGo_filter {α : Type} {el : D → Rs (Option D)} (enc F : α → D) (c : α → Bool) {xs : List α} (h : ∀ a ∈ xs, el (enc a) = .ok (if c a = true then some (F a) else none)) : fGo el (xs.map enc) = .ok ((xs.filter c).map F) := by
  induction xs with
  | nil => rfl
  | cons x xs ih =>
    rw [List.map_cons, fGo, h x List.mem_cons_self, bind_ok, ih fun a ha => h a (List.mem_cons_of_mem _ ha)]
    cases e : c x with
    | true => rw [List.filter_cons_of_pos e]; rfl
    | false => rw [List.filter_cons_of_neg (by rw [e]; decide)]; rfl
theorem fGo_all {el : D → Rs (Option D)} (F : D → D) {xs : List D} (h : ∀ a ∈ xs, el a = .ok (some (F a))) : fGo el xs = .ok (xs.map F) := by
  have := fGo_map (el := el) (fun d : D => d) F (xs := xs) h
  rwa [List.map_id'] at this
theorem fGo_allF {el : D → Rs (Option D)} (F : D → D) (c : D → Bool) {xs : List D} (h : ∀ a ∈ xs, el a = .ok (if c a = true then some (F a) else none)) : fGo el xs = .ok ((xs.filter c).map F) := by
  have := fGo_filter (el := el) (fun d : D => d) F c (xs := xs) h
  rwa [List.map_id'] at this
end Bk
namespace Bk
open PySem PySem.Spec PyProof.Rows L2
def Rs.out {α : Type} : Rs α → DEnv → (α → Out) → Out
  | .ok a, _, f => f a
  | .ex x, e, _ => .ex x e
  | .no, _, _ => .no
/-- .. and then -/
def Out.andThen : Out → FS → Out
  | .nx e, g => g e
  | .rt d, _ => .rt d
  | .bk e, _ => .bk e
  | .ct e, _ => .ct e
  | .ex x e, _ => .ex x e
  | .no, _ => .no
/-- a turn ends; k: the next ones -/
def Out.turn (W : List Nat) : Out → FS → Out
  | .nx e, k => k (dwipe e W)
  | .ct e, k => k (dwipe e W)
  | .bk e, _ => .nx (dwipe e W)
  | .rt d, _ => .rt d
  | .ex x e, _ => .ex x e
  | .no, _ => .no
def optE : Option DEnv → FS → Out
  | some e, k => k e
  | none, _ => .no
def Out.fn : Out → Rs D
  | .nx _ => .ok .non
  | .rt d => .ok d
  | .ex x _ => .ex x
  | .bk _ => .no
  | .ct _ => .no
  | .no => .no
section
variable {α : Type} {a : α} {x : Ex} {e : DEnv} {f : α → Out} {g : FS} {W : List Nat} {d : D} {xs : List D} {kvs : List (Key × D)} {key : Key} {h : DEnv → DEnv} {kn : List Str} {m : Str}
@[simp] theorem out_ok : (Rs.ok a).out e f = f a := rfl
@[simp] theorem out_ex : (Rs.ex x : Rs α).out e f = .ex x e := rfl
@[simp] theorem out_no : (Rs.no : Rs α).out e f = .no := rfl
@[simp] theorem then_nx : (Out.nx e).andThen g = g e := rfl
@[simp] theorem then_rt : (Out.rt d).andThen g = .rt d := rfl
@[simp] theorem then_bk : (Out.bk e).andThen g = .bk e := rfl
@[simp] theorem then_ct : (Out.ct e).andThen g = .ct e := rfl
@[simp] theorem then_ex : (Out.ex x e).andThen g = .ex x e := rfl
@[simp] theorem then_no : Out.no.andThen g = .no := rfl
@[simp] theorem turn_nx : (Out.nx e).turn W g = g (dwipe e W) := rfl
@[simp] theorem turn_ct : (Out.ct e).turn W g = g (dwipe e W) := rfl
@[simp] theorem turn_bk : (Out.bk e).turn W g = .nx (dwipe e W) := rfl
@[simp] theorem turn_rt : (Out.rt d).turn W g = .rt d := rfl
@[simp] theorem turn_ex : (Out.ex x e).turn W g = .ex x e := rfl
@[simp] theorem turn_no : Out.no.turn W g = .no := rfl
@[simp] theorem optE_some : optE (some e) g = g e := rfl
@[simp] theorem optE_none : optE none g = .no := rfl
@[simp] theorem fn_nx : (Out.nx e).fn = .ok .non := rfl
@[simp] theorem fn_rt : (Out.rt d).fn = .ok d := rfl
@[simp] theorem fn_ex : (Out.ex x e).fn = .ex x := rfl
@[simp] theorem fn_no : Out.no.fn = .no := rfl
end
section
variable {p : Prop} [Decidable p]
@[simp] theorem out_ite {α : Type} {a b : Rs α} {e : DEnv} {f : α → Out} : (if p then a else b).out e f = if p then a.out e f else b.out e f := by split <;> rfl
@[simp] theorem then_ite {a b : Out} {f : FS} : (if p then a else b).andThen f = if p then a.andThen f else b.andThen f := by split <;> rfl
@[simp] theorem turn_ite {W : List Nat} {a b : Out} {f : FS} : (if p then a else b).turn W f = if p then a.turn W f else b.turn W f := by split <;> rfl
@[simp] theorem fn_ite {a b : Out} : (if p then a else b).fn = if p then a.fn else b.fn := by split <;> rfl
end
def Out.mapE (f : DEnv → DEnv) : Out → Out
  | .nx e => .nx (f e)
  | .rt d => .rt d
  | .bk e => .bk (f e)
  | .ct e => .ct (f e)
  | .ex x e => .ex x (f e)
  | .no => .no
section
variable {M : List Nat} {a b c : FX} {wa wb wc : Exp} {t u : FT} {wt wu : Tst} {r : FA} {wr : Arg} {n : Nat} {f g : FS} {w v : DTS} {s0 ws : S} {fe we : DEnv}
theorem Rl.refl (h : Rl M s0 fe we ws) : Rl M s0 fe we ws := h
theorem run_out {α : Type} {r : Rs α} {e : DEnv} {k : α → Out} {DD : DEnds} (h : (r.out e k).run M s0 DD) (hr : Rl M s0 e we ws) : r.run (fun a => (k a).run M s0 DD) (fun x => DD.ex x we ws) := by
  cases r with
  | ok a => exact h
  | ex x => exact h we ws hr
  | no => exact h
@[simp] def fNext (e : DEnv) : Out := .nx e
@[simp] def fBreak (e : DEnv) : Out := .bk e
@[simp] def fCont (e : DEnv) : Out := .ct e
@[simp] def fSeq (f g : FS) (e : DEnv) : Out := (f e).andThen g
@[simp] def fDrop (a : FX) (e : DEnv) : Out := (a e).out e fun _ => .nx e
@[simp] def fRet (a : FX) (e : DEnv) : Out := (a e).out e .rt
@[simp] def fRetN (_ : DEnv) : Out := .rt .non
@[simp] def fIfS (t : FT) (f g : FS) (e : DEnv) : Out := (t e).out e fun b => if b = true then f e else g e
@[simp] def fSet (i : Nat) (a : FX) (e : DEnv) : Out := (a e).out e fun d => .nx (dset e i (some d))
@[simp] def fAsg (a : FX) (g : FG) (e : DEnv) : Out := (a e).out e fun d => optE (g d e) .nx
@[simp] def fRaise (n x : Str) (a : FX) (e : DEnv) : Out := (a e).out e fun d => .ex ⟨n, [(x, d)]⟩ e
theorem as_next : AS M fNext dNext := fun s0 fe we ws h DD q => q we ws h
theorem as_seq (hf : AS M f w) (hg : AS M g v) : AS M (fSeq f g) (dSeq w v) := fun s0 fe we ws h DD q => by
  refine hf s0 fe we ws h _ ?_
  unfold fSeq at q
  cases e : f fe with
  | nx e' => rw [e] at q; exact fun we' ws' h' => hg s0 e' we' ws' h' DD q
  | rt d => rw [e] at q; exact q
  | bk e' => rw [e] at q; exact q
  | ct e' => rw [e] at q; exact q
  | ex x e' => rw [e] at q; exact q
  | no => rw [e] at q; exact q
theorem as_ret (ha : AX M a wa) : AS M (fRet a) (dRet wa) := fun s0 fe we ws h DD q => ha s0 fe we ws h _ _ (run_mono (run_out q h) (fun d q => q ws h.sub) fun _ k => k)
theorem as_if (ht : AT M t wt) (hf : AS M f w) (hg : AS M g v) : AS M (fIfS t f g) (dIfS wt w v) := fun s0 fe we ws h DD q => by
  refine ht s0 fe we ws h _ _ (run_mono (run_out q h) (fun b q => ?_) fun _ k => k)
  cases b
  · exact hg s0 fe we ws h DD q
  · exact hf s0 fe we ws h DD q
theorem as_set (i : Nat) (ha : AX M a wa) (hi : i ∉ M := by decide) : AS M (fSet i a) (dSet i wa) := fun s0 fe we ws h DD q =>
  ha s0 fe we ws h _ _ (run_mono (run_out q h) (fun d q => q _ ws (h.nonM hi)) fun _ k => k)
theorem as_setM (i : Nat) (ha : AM M a wa) (hi : i ∈ M := by decide) : AS M (fSet i a) (dSet i wa) := fun s0 fe we ws h DD q =>
  ha s0 fe we ws h _ _ (run_mono (run_out q h) (fun d q p o ho hp => q _ _ (h.setM hi hp ho)) fun _ k => k)
theorem am_lst (hr : AA M n r wr) (hn : n ≤ 10000 := by decide) : AM M (fLst r) (dLstM wr) := fun s0 fe we ws h R E q =>
  hr s0 fe we ws h _ E (run_mono (run_bind.mp q) (fun ds q hl => ⟨sz _ (by omega), fun p hp => q p _ rfl hp⟩) fun _ k => k)
@[simp] def fDict0 (_ : DEnv) : Rs D := .ok (.dic [])
theorem ax_dict0 : AX M fDict0 dDict0 := fun s0 fe we ws h R E q => q
/-- pairs of written keys -/
def fPairs : List (FX × FX) → DEnv → Rs (List (D × D))
  | [], _ => .ok []
  | (k, v) :: r, e => (k e).bind fun x => (v e).bind fun y => (fPairs r e).bind fun ps => .ok ((x, y) :: ps)
@[simp] def fDisp (fs : List (FX × FX)) (e : DEnv) : Rs D := (fPairs fs e).bind fun ps => match ps.mapM (fun p => (keyD p.1).map fun k => (k, p.2)) with
  | some kvs => if kvs.length ≤ 15 then .ok (.dic (dMerge [] kvs)) else .no
  | none => .no
/-- the list at a slot -/
def atL : Option D → (List D → Out) → Out
  | some (.lst xs), k => k xs
  | _, _ => .no
/-- the dict at a slot -/
def atK : Option D → (List (Key × D) → Out) → Out
  | some (.dic kvs), k => k kvs
  | _, _ => .no
def optK : Option Key → (Key → Out) → Out
  | some k, f => f k
  | none, _ => .no
@[simp] def fApp (i : Nat) (a : FX) (e : DEnv) : Out := atL (nth e i) fun xs => (a e).out e fun y => if xs.length < sizeLine then .nx (dset e i (some (.lst (xs ++ [y])))) else .no
theorem as_app (i : Nat) (ha : AX M a wa) (hi : i ∈ M := by decide) : AS M (fApp i a) (dApp (dVar i) wa) := fun s0 fe we ws h DD q => by
  unfold fApp atL at q
  split at q
  · rename_i k xs hx
    obtain ⟨p, o, h1, h2, h3, h4⟩ := h.mu i _ hi hx
    cases h3
    unfold dApp dVar
    rw [h1]
    refine ⟨⟨xs, h4⟩, ha s0 fe we ws h _ _ (run_mono (run_out q h) (fun y q => ?_) fun _ k => k)⟩
    split at q
    · rename_i hl
      exact ⟨xs, h4, hl, q _ _ (h.chg hi hx h1 rfl)⟩
    · exact q.elim
  · exact q.elim
@[simp] def fPut (i : Nat) (k v : FX) (e : DEnv) : Out := (v e).out e fun y => atK (nth e i) fun kvs => (k e).out e fun x => optK (keyD x) fun key => if kvs.length < sizeLine then .nx (dset e i (some (.dic (dput kvs key y)))) else .no
def getF : D → Option Key → Rs D
  | .dic kvs, some key => Rs.opt (dval kvs key)
  | _, _ => .no
@[simp] def fGet (a k : FX) (e : DEnv) : Rs D := (a e).bind fun d => (k e).bind fun x => getF d (keyD x)
def inKF (neg : Bool) : D → Option Key → Rs D
  | .dic kvs, some key => .ok (.bl (if neg then !(dval kvs key).isSome else (dval kvs key).isSome))
  | _, _ => .no
@[simp] def fInK (neg : Bool) (k a : FX) (e : DEnv) : Rs D := (k e).bind fun x => (a e).bind fun d => inKF neg d (keyD x)
def asK : D → (List (Key × D) → Rs D) → Rs D
  | .dic kvs, k => k kvs
  | _, _ => .no
@[simp] def fGetOr (a k c : FX) (e : DEnv) : Rs D := (a e).bind fun d => asK d fun kvs => (k e).bind fun x => (c e).bind fun y => (Rs.opt (keyD x)).bind fun key => .ok ((dval kvs key).getD y)
def idxF (xs : List D) (x : D) : Option Nat := xs.findIdx? fun z => z.eqb x
def indexF : D → D → Rs D
  | .lst xs, x => if x.eqOk = true ∧ (D.lst xs).eqOk = true then (Rs.opt (idxF xs x)).bind fun j => .ok (.int (j : Nat)) else .no
  | _, _ => .no
def asL : D → Rs D
  | .lst xs => .ok (.lst xs)
  | _ => .no
@[simp] def fIndex (a b : FX) (e : DEnv) : Rs D := ((a e).bind asL).bind fun d => (b e).bind fun x => indexF d x
@[simp] def fFrz (i : Nat) (f : FS) (e : DEnv) : Out := atL (nth e i) fun _ => (f e).mapE fun e => dset e i none
theorem as_frz (i : Nat) (hf : AS (M.filter (· != i)) f w) (hi : i ∈ M := by decide) (h9 : i < 1000 := by decide) : AS M (fFrz i f) (dFrzV i w) := fun s0 fe we ws h DD q => by
  unfold fFrz atL at q
  split at q
  · rename_i k xs hx
    obtain ⟨p, h1, h2, h3, h4⟩ := h.frz hi hx h9
    refine ⟨p, xs, h1, h2, hf s0 fe _ _ h4 DD ?_⟩
    cases e : f fe with
    | nx e' => rw [e] at q; exact fun we' ws' r => q we' ws' (r.back h9)
    | rt d => rw [e] at q; exact q
    | bk e' => rw [e] at q; exact fun we' ws' r => q we' ws' (r.back h9)
    | ct e' => rw [e] at q; exact fun we' ws' r => q we' ws' (r.back h9)
    | ex x e' => rw [e] at q; exact fun we' ws' r => q we' ws' (r.back h9)
    | no => rw [e] at q; exact q
  · exact q.elim
def fLoop (g : FG) (f : FS) (W : List Nat) : List D → DEnv → Out
  | [], e => .nx e
  | d :: ds, e => optE (g d e) fun e1 => (f e1).turn W (fLoop g f W ds)
theorem loop_run {g : FG} {wg : DG} {W : List Nat} (hg : AG M g wg) (hf : AS M f w) : ∀ (ds : List D) (s0 : S) (fe we : DEnv) (ws : S), Rl M s0 fe we ws → ∀ DD : DEnds, (fLoop g f W ds fe).run M s0 DD → dLoop wg w DD ds we ws
  | [], s0, fe, we, ws, h, DD, q => q we ws h
  | d :: ds, s0, fe, we, ws, h, DD, q => by
    unfold fLoop at q
    unfold dLoop
    cases he : g d fe with
    | none => rw [he] at q; exact q.elim
    | some e1 =>
      rw [he] at q
      refine hg s0 fe we ws h d e1 he _ fun we1 r1 => ?_
      refine hf s0 e1 we1 ws r1 _ ?_
      simp only [optE] at q
      cases h2 : f e1 with
      | nx e2 =>
        rw [h2] at q
        exact fun we2 ws2 r2 => loop_run hg hf ds s0 _ we2 ws2 (r2.forgets W) DD q
      | ct e2 =>
        rw [h2] at q
        exact fun we2 ws2 r2 => loop_run hg hf ds s0 _ we2 ws2 (r2.forgets W) DD q
      | bk e2 =>
        rw [h2] at q
        exact fun we2 ws2 r2 => q we2 ws2 (r2.forgets W)
      | rt d2 => rw [h2] at q; exact q
      | ex x e2 => rw [h2] at q; exact q
      | no => rw [h2] at q; exact q
@[simp] def fFor (i : FA) (g : FG) (f : FS) (W : List Nat) (e : DEnv) : Out := (i e).out e fun ds => fLoop g f W ds e
theorem as_for {i : FA} {wi : Arg} {g : FG} {wg : DG} {W : List Nat} (hi : AW M i wi) (hg : AG M g wg) (hf : AS M f w) : AS M (fFor i g f W) (dFor wi wg w) := fun s0 fe we ws h DD q =>
  hi s0 fe we ws h _ _ (run_mono (run_out q h) (fun ds q _ => loop_run hg hf ds s0 fe we ws h DD q) fun _ k => k)
def Out.tryE (kn : List Str) (m : Str) : Out → FS → Out
  | .ex x e', g => if x.c ∈ kn then (if subC x.c m = true then g e' else .ex x e') else .no
  | .nx e, _ => .nx e
  | .rt d, _ => .rt d
  | .bk e, _ => .bk e
  | .ct e, _ => .ct e
  | .no, _ => .no
@[simp] theorem try_nx {kn : List Str} {m : Str} {e : DEnv} {g : FS} : (Out.nx e).tryE kn m g = .nx e := rfl
@[simp] theorem try_rt {kn : List Str} {m : Str} {d : D} {g : FS} : (Out.rt d).tryE kn m g = .rt d := rfl
@[simp] theorem try_bk {kn : List Str} {m : Str} {e : DEnv} {g : FS} : (Out.bk e).tryE kn m g = .bk e := rfl
@[simp] theorem try_ct {kn : List Str} {m : Str} {e : DEnv} {g : FS} : (Out.ct e).tryE kn m g = .ct e := rfl
@[simp] theorem try_ex {kn : List Str} {m : Str} {x : Ex} {e : DEnv} {g : FS} : (Out.ex x e).tryE kn m g = if x.c ∈ kn then (if subC x.c m = true then g e else .ex x e) else .no := rfl
@[simp] theorem try_ite {p : Prop} [Decidable p] {kn : List Str} {m : Str} {a b : Out} {g : FS} : (if p then a else b).tryE kn m g = if p then a.tryE kn m g else b.tryE kn m g := by split <;> rfl
@[simp] def fTry (kn : List Str) (m : Str) (f g : FS) (e : DEnv) : Out := (f e).tryE kn m g
end
/-- put into the slots, from the first on -/
def dsets (e : DEnv) : List Nat → List D → DEnv
  | i :: is, d :: ds => dsets (dset e i (some d)) is ds
  | _, _ => e
def fAll : List FX → DEnv → Rs (List D)
  | [], _ => .ok []
  | a :: r, e => (a e).bind fun d => (fAll r e).bind fun ds => .ok (d :: ds)
@[simp] def fPars (is : List Nat) (fs : List FX) (e : DEnv) : Out := (fAll fs e).out e fun ds => .nx (dsets e is ds)
section
variable {M : List Nat} {s0 ws : S} {fe we : DEnv}
/-- values that wait for their slots -/
inductive Pd (M : List Nat) (s0 : S) (fe we : DEnv) (ws : S) : List Nat → List D → List D → Prop
  | nil : Pd M s0 fe we ws [] [] []
  | val {i : Nat} {is : List Nat} {d : D} {ds ds' : List D} : i ∉ M → Pd M s0 fe we ws is ds ds' → Pd M s0 fe we ws (i :: is) (d :: ds) (d :: ds')
  | chg {i : Nat} {is : List Nat} {d : D} {ds ds' : List D} {p : Addr} {o : MO} : i ∈ M → s0.mu p = none → moOf d = some o → ws.mu p = some o → (∀ j, j ∈ M → nth fe j ≠ none → nth we j ≠ some (.rf (.ref p))) →
      (∀ j d', (j, d') ∈ is.zip ds' → j ∈ M → d' ≠ .rf (.ref p)) → Pd M s0 fe we ws is ds ds' → Pd M s0 fe we ws (i :: is) (d :: ds) (.rf (.ref p) :: ds')
theorem Pd.fresh {p : Addr} {o : MO} (hp : ws.mu p = none) : ∀ {is : List Nat} {ds ds' : List D}, Pd M s0 fe we ws is ds ds' → Pd M s0 fe we (ws.put p o) is ds ds' ∧ ∀ j d', (j, d') ∈ is.zip ds' → j ∈ M → d' ≠ .rf (.ref p) := by
  intro is ds ds' r
  induction r with
  | nil => exact ⟨.nil, fun j d' hm => (nomatch hm)⟩
  | val a _ ih => 
    refine ⟨.val a ih.1, fun j d' hm hj => ?_⟩
    rcases List.mem_cons.mp hm with e | hm
    · cases e; exact (a hj).elim
    · exact ih.2 j d' hm hj
  | chg a b c e f g _ ih =>
    refine ⟨.chg a b c (by rw [put_ne (fun z => by rw [z, hp] at e; cases e)]; exact e) f g ih.1, fun j d' hm hj => ?_⟩
    rcases List.mem_cons.mp hm with e2 | hm
    · cases e2
      intro z; cases z
      rw [hp] at e; cases e
    · exact ih.2 j d' hm hj
end
theorem start_nth {N : List Str} : ∀ {ds : List D} {i : Nat}, ds.length ≤ i → nth (dstart N ds) i = none := by
  have rp : ∀ k i : Nat, nth (List.replicate k (none : Option D)) i = none := by
    intro k
    induction k with
    | zero => intro i; rfl
    | succ k ih =>
      intro i
      cases i with
      | zero => rfl
      | succ i => exact ih i
  have go : ∀ (ds : List D) (k i : Nat), ds.length ≤ i → nth (ds.map some ++ List.replicate k (none : Option D)) i = none := by
    intro ds
    induction ds with
    | nil => intro k i _; exact rp k i
    | cons d ds ih =>
      intro k i h
      cases i with
      | zero => cases h
      | succ i => exact ih k i (Nat.le_of_succ_le_succ h)
  exact fun {ds i} h => go ds _ i h
/-- THE RULE: what is computed is what is promised -/
theorem r_fn {M : List Nat} {f : FS} {w : DTS} {N : List Str} {n : Nat} (h : AS M f w) (hM : ∀ i ∈ M, n ≤ i := by decide) : ∀ ds s R E, ds.length = n → pF (fun ds => (f (dstart N ds)).fn) ds s R E → w (fnEnds R E) (dstart N ds) s := fun ds s R E hl q => by
  refine h s (dstart N ds) (dstart N ds) s ⟨rfl, Sub.refl s, fun _ _ _ _ z => z, fun _ _ _ _ z => ⟨_, z, .inl rfl⟩, fun i d hi e => ?_, fun i j p hi _ _ e => ?_⟩ _ ?_
  · rw [start_nth (by rw [hl]; exact hM i hi)] at e; cases e
  · exact (e (start_nth (by rw [hl]; exact hM i hi))).elim
  · replace q : ((f (dstart N ds)).fn).run (fun d => R d s) (fun x => E x s) := q
    cases e : f (dstart N ds) with
    | nx e' => rw [e] at q; exact fun we ws r => ⟨s, r.sub, q⟩
    | rt d => rw [e] at q; exact fun ws r => ⟨s, r, q⟩
    | bk e' => rw [e] at q; exact q.elim
    | ct e' => rw [e] at q; exact q.elim
    | ex x e' => rw [e] at q; exact fun we ws r => ⟨s, r.sub, q⟩
    | no => rw [e] at q; exact q
/-- arguments, some of which (true) may stand in the state -/
inductive VRs (s : S) : List Bool → List D → List D → Prop
  | nil : VRs s [] [] []
  | val {d : D} {V : List Bool} {ds es : List D} : VRs s V ds es → VRs s (false :: V) (d :: ds) (d :: es)
  | ref {d' d : D} {V : List Bool} {ds es : List D} : VRel s d' d → VRs s V ds es → VRs s (true :: V) (d' :: ds) (d :: es)
theorem VRs.len {s : S} {V : List Bool} {ds es : List D} (h : VRs s V ds es) : ds.length = es.length ∧ V.length = ds.length := by
  induction h with
  | nil => exact ⟨rfl, rfl⟩
  | val _ ih => exact ⟨congrArg (· + 1) ih.1, congrArg (· + 1) ih.2⟩
  | ref _ _ ih => exact ⟨congrArg (· + 1) ih.1, congrArg (· + 1) ih.2⟩
section
variable {e : DEnv} {d : D} {xs ds : List D} {kvs : List (Key × D)} {key : Key} {k : List D → Out} {kk : List (Key × D) → Out} {f : Key → Out} {i : Nat} {is : List Nat} {a b : FX} {r : List FX} {rr : List (FX × FX)} {neg : Bool} {h : DEnv → DEnv} {x : Ex}
@[simp] theorem atL_some : atL (some (.lst xs)) k = k xs := rfl
@[simp] theorem atK_some : atK (some (.dic kvs)) kk = kk kvs := rfl
@[simp] theorem optK_some : optK (some key) f = f key := rfl
@[simp] theorem getF_some : getF (.dic kvs) (some key) = Rs.opt (dval kvs key) := rfl
@[simp] theorem inKF_some : inKF neg (.dic kvs) (some key) = .ok (.bl (if neg then !(dval kvs key).isSome else (dval kvs key).isSome)) := rfl
@[simp] theorem asK_dic {k : List (Key × D) → Rs D} : asK (.dic kvs) k = k kvs := rfl
@[simp] theorem asL_lst : asL (.lst xs) = .ok (.lst xs) := rfl
@[simp] theorem keyD_int (i : Int) : keyD (.int i) = some (.inl i) := rfl
@[simp] theorem keyD_str (x : Str) : keyD (.str x) = some (.inr x) := rfl
@[simp] theorem dsets_nil : dsets e [] ds = e := by cases ds <;> rfl
@[simp] theorem dsets_cons : dsets e (i :: is) (d :: ds) = dsets (dset e i (some d)) is ds := rfl
@[simp] theorem fAll_nil : fAll [] e = .ok [] := rfl
@[simp] theorem fAll_cons : fAll (a :: r) e = (a e).bind fun d => (fAll r e).bind fun ds => .ok (d :: ds) := rfl
@[simp] theorem fPairs_nil : fPairs [] e = .ok [] := rfl
@[simp] theorem fPairs_cons : fPairs ((a, b) :: rr) e = (a e).bind fun x => (b e).bind fun y => (fPairs rr e).bind fun ps => .ok ((x, y) :: ps) := rfl
@[simp] theorem mapE_nx : (Out.nx e).mapE h = .nx (h e) := rfl
@[simp] theorem mapE_rt : (Out.rt d).mapE h = .rt d := rfl
@[simp] theorem mapE_ex : (Out.ex x e).mapE h = .ex x (h e) := rfl
@[simp] theorem mapE_no : Out.no.mapE h = .no := rfl
@[simp] theorem mapE_ite {p : Prop} [Decidable p] {a b : Out} : (if p then a else b).mapE h = if p then a.mapE h else b.mapE h := by split <;> rfl
@[simp] theorem nth_zero {x : Option D} : nth (x :: e) 0 = x := rfl
@[simp] theorem nth_succ {x : Option D} {n : Nat} : nth (x :: e) (n + 1) = nth e n := rfl
@[simp] theorem dset_zero {x y : Option D} : dset (x :: e) 0 y = y :: e := rfl
@[simp] theorem dset_succ {x y : Option D} {n : Nat} : dset (x :: e) (n + 1) y = x :: dset e n y := rfl
@[simp] theorem dwipe_nil : dwipe e [] = e := rfl
@[simp] theorem dwipe_cons {vs : List Nat} : dwipe e (i :: vs) = dset (dwipe e vs) i none := rfl
end
@[simp] theorem dstart_eq (N : List Str) (ds : List D) : dstart N ds = ds.map some ++ List.replicate (N.length - ds.length) none := rfl
end Bk
namespace Bk
open PySem PySem.Spec PyProof.Rows L2
/-- what one turn of an outer clause gives -/
def fRow (g : FG) (t : FT) (i : FA) (inner : DEnv → D → Rs (List D)) (vs1 : List Nat) (cat : (D → Rs (List D)) → List D → Rs (List D)) (e0 : DEnv) (d : D) : Rs (List D) := match g d e0 with
  | none => .no
  | some e1 => match t e1 with
    | .ok true => match i e1 with
      | .ok its => (cat (inner (dwipe e1 vs1)) its).calm
      | _ => .no
    | .ok false => .ok []
    | _ => .no
def fCat (row : D → Rs (List D)) : List D → Rs (List D)
  | [] => .ok []
  | d :: ds => (row d).bind fun o => (fCat row ds).bind fun ys => .ok (o ++ ys)
/-- one turn of the innermost clause -/
def fEl1 (g : FG) (t : FT) (a : FX) (e0 : DEnv) (d : D) : Rs (List D) := (fElem g t a e0 d).bind fun o => .ok o.toList
@[simp] def fLc2 (i : FA) (g : FG) (t : FT) (i1 : FA) (g1 : FG) (t1 : FT) (a : FX) (vs vs1 : List Nat) (e : DEnv) : Rs D := (i e).bind fun ds => (fCat (fRow g t i1 (fEl1 g1 t1 a) vs1 fCat (dwipe e vs)) ds).calm.bind fun ys => if ys.length ≤ sizeLine then .ok (.lst ys) else .no
@[simp] def fLc3 (i : FA) (g : FG) (t : FT) (i1 : FA) (g1 : FG) (t1 : FT) (i2 : FA) (g2 : FG) (t2 : FT) (a : FX) (vs vs1 vs2 : List Nat) (e : DEnv) : Rs D := (i e).bind fun ds => (fCat (fRow g t i1 (fRow g1 t1 i2 (fEl1 g2 t2 a) vs2 fCat) vs1 fCat (dwipe e vs)) ds).calm.bind fun ys => if ys.length ≤ sizeLine then .ok (.lst ys) else .no
theorem fCat_map {α : Type} {row : D → Rs (List D)} (enc : α → D) (F : α → List D) {xs : List α} (h : ∀ x ∈ xs, row (enc x) = .ok (F x)) : fCat row (xs.map enc) = .ok (xs.flatMap F) := by
  induction xs with
  | nil => rfl
  | cons x xs ih => rw [List.map_cons, fCat, h x List.mem_cons_self, bind_ok, ih fun a ha => h a (List.mem_cons_of_mem _ ha)]; rfl
def strsF : List D → Option (List Str)
  | [] => some []
  | .str x :: xs => (strsF xs).map (x :: ·)
  | _ :: _ => none
theorem strsF_texts : ∀ ns : List Str, strsF (texts ns) = some ns
  | [] => rfl
  | n :: ns => by
    show (strsF (texts ns)).map (n :: ·) = _
    rw [strsF_texts ns]; rfl
theorem strsF_some : ∀ {xs : List D} {ns : List Str}, strsF xs = some ns → xs = texts ns
  | [], ns, h => by cases h; rfl
  | x :: xs, ns, h => by
    cases x with
    | str z =>
      obtain ⟨ms, h1, h2⟩ := Option.map_eq_some_iff.mp (show (strsF xs).map (z :: ·) = some ns from h)
      subst h2
      rw [strsF_some h1]; rfl
    | _ => cases h
/-- each once, in the order in which they come first -/
def ddS (ns : List Str) : List Str := ns.foldl (fun acc x => if x ∈ acc then acc else acc ++ [x]) []
def gLenSet : F1
  | .lst xs => (strsF xs).bind fun ns => if ns.length ≤ 1000 then some (.int (ddS ns).length) else none
  | _ => none
theorem gLenSet_texts (ns : List Str) (h : ns.length ≤ 1000) : gLenSet (.lst (texts ns)) = some (.int (ddS ns).length) := by
  show (strsF (texts ns)).bind _ = _
  rw [strsF_texts]
  show (if ns.length ≤ 1000 then _ else _) = _
  rw [if_pos h]
theorem EAll.sub {K : PySem.W.Frag} {T : Tb} {kn kn' ms fs : List Str} (A : EAll K T kn ms fs) (h : ∀ x ∈ kn', x ∈ kn) : EAll K T kn' ms fs :=
  ⟨fun c hc => A.hold c (h c hc), fun c hc => A.kit c (h c hc), fun c hc => A.exm c (h c hc), fun c hc => A.nof c (h c hc)⟩
end Bk
namespace Bk
open PySem PySem.Spec PyProof.Rows L2
end Bk
namespace Bk
open PySem PySem.Spec PyProof.Rows L2
end Bk
namespace Bk
open PySem PySem.Spec PyProof.Rows L2
end Bk
namespace PySem
namespace PX
section
variable {M : Model} {A : Around} {E : Value → Shared → Prop} {h : Heap} {g : Array GenState} {d : Drawn} {t : Nat} {os : OsState}
variable {nm q : Str} {C N : Addr} {bs bm bmB : List Value} {hdct : Bool} {sn : List Str} {sub : List Value} {ab : Bool} {col : Option Bool} {dd : Option Addr} {k0 k1 k2 k3 k5 : Option Value} {B newId initId : String}
theorem bk_check_new_kw (F : ExcBaseFacts B newId initId bmB) (hT : ∀ X : String, bm.contains (.type X) = bmB.contains (.type X)) {rest : List Value} {kw : List (Str × Value)} {Q : Unit → Shared → Prop}
    (hC : h.get? C = some (excClassObj nm q C N bs bm hdct sn sub ab col dd k0 k1 k2 k3 k5 newId)) (hq : Q () ⟨h, g, d, t, os⟩) : wpAny M A (checkBuiltinCall newId ⟨.ref C :: rest, kw⟩) Q E ⟨h, g, d, t, os⟩ := by
  have hcont : (Value.ref C :: bm).contains (.type B) = true := by rw [List.contains_cons, hT, F.hasB, Bool.or_true]
  have hstar := F.noStar
  simp only [checkBuiltinCall, F.newKind, F.newSplit, F.newRow]
  repeat (first | refine wpAny_loadPart_at hC ?_ | (refine wpAny_isSubtype_exc hC ?_; rw [hcont]) | refine wpAny_staticBase_exc hC ?_ | refine wpAny_madeBy_exc hC ?_ | simp only [bne_self_eq_false, Bool.false_eq_true, if_false] | wp_step)
  exact hq
end
section
variable {prog : Program} {w : World} {A : Around} {E : Value → Shared → Prop} {R : Result → Shared → Prop} {h : Heap} {g : Array GenState} {d : Drawn} {t : Nat} {os : OsState}
variable {nm q : Str} {C N : Addr} {bs bm bmB : List Value} {hdct : Bool} {sn : List Str} {sub : List Value} {ab : Bool} {col : Option Bool} {dd : Option Addr} {k0 k1 k2 k3 k5 : Option Value} {B newId initId : String}
theorem bk_new_kw (F : ExcBaseFacts B newId initId bmB) (hT : ∀ X : String, bm.contains (.type X) = bmB.contains (.type X)) {rest : List Value} {kw : List (Str × Value)}
    (hC : h.get? C = some (excClassObj nm q C N bs bm hdct sn sub ab col dd k0 k1 k2 k3 k5 newId))
    (hq : R (.ok (.ret (.ref (h.objs.size + 1)))) ⟨(h.push { cls := .type "tuple", data := .seq rest.toArray }).push
      { cls := .ref C, data := .fields #[.ref h.objs.size, .none, .none, .none, .bool false, .none] }, g, d, t, os⟩) (hrest : rest.length ≤ sizeLine) :
    codeAny (model prog w) A (.builtin newId ⟨.ref C :: rest, kw⟩) R ⟨h, g, d, t, os⟩ := by
  have hends := F.ends
  have hcB : (Value.ref C :: bm).contains (.type B) = true := by rw [List.contains_cons, hT, F.hasB, Bool.or_true]
  have hcA : (Value.ref C :: bm).contains (.type "AttributeError") = false := by rw [List.contains_cons, hT, F.noAttr]; rfl
  have hcN : (Value.ref C :: bm).contains (.type "NameError") = false := by rw [List.contains_cons, hT, F.noName]; rfl
  refine codeAny_builtinAt F.entry ?_
  unfold Builtin.«BaseException.__new__»
  refine wpAt_bind ?_
  show wpAt _ _ _ (stack >>= _) _ _ _
  refine wpAt_bind (wpAt_stack fun p below => wpAt_of_wpAny ?_)
  wp_walk
  refine wpAt_of_wpAny ?_
  rw [F.owner]
  repeat (first | with_reducible refine wpAny_madeHere_exc F.canon hC ?_ | with_reducible refine wpAny_loadPart_at hC ?_ | (with_reducible refine wpAny_isSubtype_exc hC ?_; first | rw [hcB] | rw [hcA] | rw [hcN]) | wp_step)
  show R _ _
  rw [Heap.size_push]
  exact hq
theorem bk_type_call_kw (F : ExcBaseFacts B newId initId bmB) (hT : ∀ X : String, bm.contains (.type X) = bmB.contains (.type X)) {rest : List Value} {kw : List (Str × Value)} {fI : Addr} {Q : Fin → Shared → Prop}
    (hC : h.get? C = some (excClassObj nm q C N bs bm hdct sn sub ab col dd k0 k1 k2 k3 k5 newId))
    (hi : W.Looks (model prog w) h (typeLookup (.ref C) "__init__") (some (.ref fI))) (hb : ∀ self, W.Looks (model prog w) h (bindSpecial (.ref fI) self) (.ref fI, [self])) (hrest : rest.length ≤ sizeLine)
    (hq : codeAny (model prog w) A (.call (.ref fI) ⟨.ref (h.objs.size + 1) :: rest, kw⟩)
      (fun r s' => match r with | .ok (.ret v) => v = .none ∧ Q (.done (.ret (.ref (h.objs.size + 1)))) s' | .ok _ => False | .error e => E e s')
      ⟨(h.push (W.kdv_tup rest)).push (excO C h.objs.size), g, d, t, os⟩) :
    wpAny (model prog w) A (Builtin.«type.__call__» ⟨.ref C :: rest, kw⟩) Q E ⟨h, g, d, t, os⟩ := by
  repeat (first | with_reducible refine wpAny_loadPart_at hC ?_ | with_reducible refine wpAny_madeBy_exc hC ?_ | wp_step)
  refine codeAny_call_builtin_code (Code.quiet_builtin _ F.quiet) (bk_check_new_kw F hT hC ?_)
  refine bk_new_kw F hT hC ?_ hrest
  show wpAny _ _ _ _ _ _
  have k : ∀ b o, h.get? b = some o → ((h.push (W.kdv_tup rest)).push (excO C h.objs.size)).get? b = some o := fun b o e => Heap.get?_push_of_some _ (Heap.get?_push_of_some _ e)
  have hC₁ := k _ _ hC
  have hget : ((h.push (W.kdv_tup rest)).push (excO C h.objs.size)).get? (h.objs.size + 1) = some (excO C h.objs.size) := by heap_get
  have hcC : (Value.ref C :: bm).contains (.ref C) = true := by simp
  have i1 := hi.keeps k
  have b1 := (hb (.ref (h.objs.size + 1))).keeps k
  unfold isInstance
  repeat (first | with_reducible refine wpAny_loadPart_at hget ?_ | (with_reducible refine wpAny_isSubtype_exc hC₁ ?_; rw [hcC]) | wp_step)
  show wpAny _ _ (typeLookup (.ref C) _) _ _ _
  refine i1.at ?_
  refine wpAny_holding (wpAny_bind (b1.at ?_))
  refine wpAny_bind (wpAny_call (codeAny_mono hq fun r s' z => ?_))
  rcases r with e | (v | _ | _ | _) <;> first | exact z | exact z.elim | skip
  obtain ⟨rfl, z⟩ := z
  first
    | exact wpAny_pure (wpAny_pure z)
    | (wp_walk; exact z)
theorem bk_call_kw (F : ExcBaseFacts B newId initId bmB) (hT : ∀ X : String, bm.contains (.type X) = bmB.contains (.type X)) {rest : List Value} {kw : List (Str × Value)} {fI : Addr}
    (hC : h.get? C = some (excClassObj nm q C N bs bm hdct sn sub ab col dd k0 k1 k2 k3 k5 newId))
    (hi : W.Looks (model prog w) h (typeLookup (.ref C) "__init__") (some (.ref fI))) (hb : ∀ self, W.Looks (model prog w) h (bindSpecial (.ref fI) self) (.ref fI, [self])) (hrest : rest.length ≤ sizeLine)
    (hq : codeAny (model prog w) (A.under (.builtin "type.__call__" ⟨.ref C :: rest, kw⟩)) (.call (.ref fI) ⟨.ref (h.objs.size + 1) :: rest, kw⟩) (W.InitBack (h.objs.size + 1) R)
      ⟨(h.push (W.kdv_tup rest)).push (excO C h.objs.size), g, d, t, os⟩) :
    codeAny (model prog w) A (.call (.ref C) ⟨rest, kw⟩) R ⟨h, g, d, t, os⟩ := by
  have f1 := tc_lookup
  have f2 := tc_bind (.ref C)
  have hTy : (⟨h, g, d, t, os⟩ : Shared).TypeIs (.ref C) "type" := ⟨_, hC, rfl⟩
  refine codeAny_of_tree ?_
  show wpAny _ _ (callAny (.ref C) _) _ _ _
  repeat (any_goals (first | assumption | with_reducible refine wpAny_loadPart_at hC ?_ | wp_step))
  refine ⟨rfl, ?_⟩
  refine codeAny_call_builtin_at (Code.quiet_builtin _ (by decide +kernel)) entry_typeCall (wpAny_check_type_call_sub hC (bk_type_call_kw F hT hC hi hb hrest ?_))
  refine codeAny_mono hq fun r s' z => ?_
  rcases r with e | (v | _ | _ | _) <;> exact z
end
end PX
end PySem
namespace Bk
open PySem PySem.Spec PyProof.Rows L2
/-- the __init__ of C takes its one value by the name f, too -/
structure KwT (K : PySem.W.Frag) (C : Addr) (f : Str) : Prop where
  kw : ∀ (fI : Addr) (oc : Value) (od : Option Addr) (osl : Array (Option Value)) (fd : FuncData), PySem.W.findIn K (.ref C) "__init__" = some (some (.ref fI)) → K.lookup fI = some ⟨oc, od, .func fd, osl⟩ →
    (∀ a b : Value, bindArgs fd ⟨[a, b], []⟩ = pure [(("self" : Str), a), (f, b)]) ∧ ∀ a b : Value, bindArgs fd ⟨[a], [(f, b)]⟩ = pure [(("self" : Str), a), (f, b)]
theorem pure_binds {a b : List (Str × Value)} (h : (pure a : Sem (List (Str × Value))) = pure b) : a = b := by
  injection h
section
open PySem.W PySem.Calls
variable {P : Program} {w : World} {A : Around} {E : Value → Shared → Prop} {s : Shared} {K : Frag} {mg mb : Str → Option Value} {C : Addr} {f : Str} {v : Value} {Q : Value → Shared → Prop}
theorem exc_made_kw (T : ExcT P K C f) (KT : KwT K C f) (X : K.In s.heap) (G : s.heap.Ns mainGlobals mg) (Bn : s.heap.Ns builtinsNs mb) (boot : ∀ y : Str, y ≠ "__name__" → mb y = bootBuiltins y) (lim : s.heap.NoLimit) (room : (A.under (.builtin "type.__call__" ⟨[.ref C], [(f, v)]⟩)).depth < recursionLimit)
    (h : ∀ h' e dx t tk, (∀ b o, s.heap.get? b = some o → h'.get? b = some o) → s.heap.objs.size ≤ e → s.heap.objs.size ≤ dx → dx ≠ e → h'.get? e = some (excObj C t (some dx) .none) → h'.Ns1 dx (fun y => if y = f then some v else none) → Q (.ref e) { s with heap := h', toks := tk }) :
    wpAny (model P w) A (call (.ref C) [] [(f, v)]) Q E s := by
  obtain ⟨B, newId, initId, bmB, BX, hI, hO, hB, hS⟩ := T.base
  obtain ⟨fI, cda, cc, qual, y, params, body, scope, kV, doc, pm, ct, oc, an, od, osl, ccl, cl, cdd, cld, ccs, csl, vs, file, tf, hfi, hfn, hlk, hcd, hcda, hvs, hfile, hcell, IS⟩ := T.fn
  obtain ⟨nm, N', qn, bs, bm, hdct, sn, sub, ab, col, dd, k0, k1, k2, k3, k5, hC, hT⟩ := excInit_of X hI
  obtain ⟨hk1, hk2⟩ := KT.kw fI _ _ _ _ hfi hlk
  have hyf : f = y := by
    have e := pure_binds ((hk1 .none .none).symm.trans (IS.bind _ _ _ _ _ _ _ _ .none .none))
    simp only [List.cons.injEq, Prod.mk.injEq, and_true, true_and] at e
    exact e
  obtain ⟨hh, g, d, tk, os⟩ := s
  have hoI := X _ _ hlk
  have hi' : Looks (model P w) hh (typeLookup (.ref C) "__init__") (some (.ref fI)) := looks_findIn X hfi
  have hcI : oc = .type "function" := by
    have e : (K.lookup fI).map (·.cls) = some (.type "function") := beq_iff_eq.mp hfn
    rw [hlk] at e
    exact Option.some.inj e
  subst hcI
  refine wpAny_call (PX.bk_call_kw (rest := []) (kw := [(f, v)]) BX.fb hT hC hi' (fun self => exc_bind hoI rfl self) (by rw [sizeLine_eq]; exact (by decide : 0 ≤ 16777216)) ?_)
  -- the object and its args are laid
  have lt : ∀ {b o}, hh.get? b = some o → b < hh.objs.size := fun e => Heap.lt_size e
  generalize hG2 : (hh.push (kdv_tup [])).push (PX.excO C hh.objs.size) = h2
  have k2' : ∀ b o, hh.get? b = some o → h2.get? b = some o := fun b o e => by rw [← hG2]; exact Heap.get?_push_of_some _ (Heap.get?_push_of_some _ e)
  have sz2 : h2.objs.size = hh.objs.size + 2 := by rw [← hG2, Heap.size_push, Heap.size_push]
  have e2 : h2.get? (hh.objs.size + 1) = some (excObj C hh.objs.size none .none) := by
    rw [← hG2]
    have z : ((hh.push (kdv_tup [])).push (PX.excO C hh.objs.size)).get? (hh.push (kdv_tup [])).objs.size = some (PX.excO C hh.objs.size) := Heap.get?_push_size _ rfl
    rw [Heap.size_push] at z
    exact z
  have t2 : h2.get? hh.objs.size = some (excTup []) := by
    rw [← hG2]
    exact Heap.get?_push_of_some _ (Heap.get?_push_size _ rfl)
  have ne12 : hh.objs.size + 1 ≠ hh.objs.size := Nat.succ_ne_self _
  refine ks_codeAny_call_defAt (s := ⟨h2, g, d, tk, os⟩) (fd := ksFn "__init__" qual params body scope .none kV doc pm an (.ref cda) ct cc) (body := body) (binds := [(("self" : Str), .ref (hh.objs.size + 1)), (y, v)]) room (k2' _ _ hoI) rfl (lim.keeps k2') (codeRec_of (X.keeps k2') hcd) rfl
    (BindsTo.of_eq (by rw [← hyf]; exact hk2 _ _)) IS.cell (fun z hz => ?_) (fun h₁ hns k₁ => ?_) IS.co IS.gen IS.kind
  · simp only [List.mem_cons, List.not_mem_nil, or_false] at hz
    rcases hz with rfl | rfl
    · exact IS.hka
    · exact IS.hky
  obtain ⟨p0, p1, p2, p3, p4, p5, p6, p7, p8, p9, txt, j, rfl, hev⟩ := IS.body
  obtain ⟨ar, har, hself⟩ := IS.first
  let l2 : List Addr := [hh.objs.size + 1, hh.objs.size]
  have F : Fr (hideAll h2 l2) h2.objs.size h₁ (fun z => [(("self" : Str), .ref (hh.objs.size + 1)), (y, v)].reverse.lookup z) := ⟨hns, fun b o e => k₁ b o (of_hideAll _ e), Nat.le_of_eq (hideAll_size _ _)⟩
  have N : News (hideAll h2 l2) h2.objs.size h₁ [(hh.objs.size + 1, excObj C hh.objs.size none .none), (hh.objs.size, excTup [])] := by
    intro p hp
    simp only [List.mem_cons, List.not_mem_nil, or_false] at hp
    rcases hp with rfl | rfl
    · exact ⟨k₁ _ _ e2, by rw [sz2]; show hh.objs.size + 1 ≠ hh.objs.size + 2; omega, hideAll_none _ (by simp [l2])⟩
    · exact ⟨k₁ _ _ t2, by rw [sz2]; show hh.objs.size ≠ hh.objs.size + 2; omega, hideAll_none _ (by simp [l2])⟩
  have old : ∀ b o, hh.get? b = some o → (hideAll h2 l2).get? b = some o := fun b o e => hideAll_get _ (k2' _ _ e) (fun z => by
    have q : b < hh.objs.size := lt e
    rcases List.mem_cons.mp z with z | z
    · rw [z] at q; exact absurd q (Nat.not_lt.mpr (Nat.le_succ _))
    · rw [List.mem_singleton.mp z] at q; exact absurd q (Nat.lt_irrefl _))
  have X₀ : K.In (hideAll h2 l2) := X.keeps old
  have G₀ : (hideAll h2 l2).Ns mainGlobals mg := G.keeps old
  have B₀ : (hideAll h2 l2).Ns builtinsNs mb := Bn.keeps old
  have hsuper : mg "super" = none := mg_none_of X G T.sup
  have lself : [(("self" : Str), Value.ref (hh.objs.size + 1)), (y, v)].reverse.lookup ("self" : Str) = some (Value.ref (hh.objs.size + 1)) := by
    show (List.lookup ("self" : Str) [(y, v), (("self" : Str), Value.ref (hh.objs.size + 1))]) = _
    have e : (("self" : Str) == y) = false := by
      have := IS.hne
      simp only [beq_eq_false_iff_ne, ne_eq] at this ⊢
      exact fun z => this z.symm
    simp [List.lookup, e]
  have ly : [(("self" : Str), Value.ref (hh.objs.size + 1)), (y, v)].reverse.lookup y = some v := by
    show (List.lookup y [(y, v), (("self" : Str), Value.ref (hh.objs.size + 1))]) = _
    simp [List.lookup]
  obtain ⟨cdD, hcls, _⟩ := any_some T.hd
  have Xh : K.In h₁ := X₀.keeps F.keep
  have hhC : h₁.get? C = some (excClassObj nm qn C N' bs bm hdct sn sub ab col dd k0 k1 k2 k3 k5 newId) := F.keep _ _ (old _ _ hC)
  have nC : ∀ {cd : ClassData}, excObj C hh.objs.size none .none ≠ ({ cls := .type "type", dict := none, data := .cls cd } : Obj) := fun z => by cases z
  obtain ⟨pl, he, hint, hs1, hs2⟩ := hev qual h2.objs.size fI cc (.ref cda)
  refine ks_wpAt_execs_cons (ks_wpAt_Expr_any (ks_wpAt_MethodCall (pl := pl) ?_ he) hint hs1)
  refine ks_wpAt_super_base (env := ksEnv qual scope h2.objs.size fI (.ref cda) cc) IS.hks IS.hkc (by decide) rfl (Xh _ _ hlk) rfl har rfl (Xh _ _ hcda) rfl hvs hfile T.top ?_
  refine ks_loadName_global IS.kind IS.hks (loadGlobal_builtin (env := ksEnv qual scope h2.objs.size fI (.ref cda) cc) (G₀.keeps F.keep) hsuper (B₀.keeps F.keep) ((boot _ (by decide +kernel)).trans (show bootBuiltins "super" = some (.type "super") by decide +kernel)) ⟨rfl, ?_⟩)
  refine wpAny_loadName_free IS.kind IS.hkc rfl ⟨_, Xh _ _ hcell, rfl⟩ ?_
  rw [hself]
  refine wpAny_loadName_local IS.kind IS.hka F.ns lself ?_
  refine ks_wpAny_isType_cls hhC rfl ⟨rfl, ?_⟩
  refine ks_wpAny_call_super hhC rfl (k₁ _ _ e2) rfl (fun c e => by cases e) (looks_mroIn Xh T.mro) (fun h3 e3 k3' => ?_)
  obtain ⟨F3, N3, l3⟩ := ks_newsPush (s := ⟨h₁, g, d, tk + 2, os⟩) F N rfl e3 k3'
  refine kxs_method BX.kf F3 X₀ N3 List.mem_cons_self (InstAt.of_exc0 N3 (List.mem_cons_of_mem _ List.mem_cons_self)) T.tp hS hB (by decide) (fun qa h4 F4 N4 l4 => ?_)
  refine kxs_callWith1 (i := initId) (x := hh.objs.size + 1) N4 List.mem_cons_self ?_
  refine Calls.spliced_cons (wpAny_Constant_str (pos := p3) (k := j) (Calls.spliced_nil ⟨kxs_at N4 List.mem_cons_self, ?_⟩))
  have me : ((hh.objs.size + 1, excObj C hh.objs.size none .none) : Addr × Obj) ∈ [(hh.objs.size + 1, excObj C hh.objs.size none .none), (hh.objs.size, excTup [])] := List.mem_cons_self
  have n1 : qa ≠ hh.objs.size + 1 := fun z => by
    have q := l4 _ (List.mem_cons_of_mem _ me)
    rw [z] at q; exact absurd q (Nat.lt_irrefl _)
  have n2 : h₁.objs.size ≠ hh.objs.size + 1 := fun z => by
    have q := l3 _ me
    rw [z] at q; exact absurd q (Nat.lt_irrefl _)
  have n3 : hh.objs.size ≠ hh.objs.size + 1 := fun z => ne12 z.symm
  refine kxs_call (s := ⟨h4, g, d, _, os⟩) F4 X₀ N4 BX.fb hI List.mem_cons_self (.tail n1 (.tail n2 (.head fun p hp => by rw [List.mem_singleton.mp hp]; exact n3))) (by rw [sizeLine_eq]; exact (by decide : 1 ≤ 16777216)) (fun t5 h5 F5 N5 l5 => ?_)
  have hrest : ∀ p ∈ [(hh.objs.size, excTup [])], p.1 ≠ hh.objs.size + 1 := fun p hp => by rw [List.mem_singleton.mp hp]; exact n3
  have n4 : t5 ≠ hh.objs.size + 1 := fun z => by
    have q := l5 _ (List.mem_cons_of_mem _ (List.mem_cons_of_mem _ me))
    rw [z] at q; exact absurd q (Nat.lt_irrefl _)
  refine ks_wpAt_execs_cons (wpAt_of_wpAny (plainObj_wpAny_Assign_Attribute ?_ hs2))
  refine ESX.ldL (m := fun z => [(("self" : Str), Value.ref (hh.objs.size + 1)), (y, v)].reverse.lookup z) (v := v) F5.ns ly ?_ IS.kind IS.hky IS.hkd
  refine ESX.ldL (m := fun z => [(("self" : Str), Value.ref (hh.objs.size + 1)), (y, v)].reverse.lookup z) (v := .ref (hh.objs.size + 1)) F5.ns lself ?_ IS.kind IS.hka
  refine set_exc0 (s := ⟨h5, g, d, _, os⟩) BX.sf F5 X₀ N5 (by simp) T.sa hO T.tk T.hd rfl (.tail n4 (.tail n1 (.tail n2 (.head hrest)))) (show 1 ≤ 1000 by decide) (fun dx h6 F6 N6 l6 => ?_)
  refine wpAt_of_wpAny (wpAny_execs_nil ?_)
  refine ⟨rfl, h h6 (hh.objs.size + 1) dx t5 _ (fun b o e => F6.keep _ _ (old _ _ e)) (Nat.le_succ _) ?_ ?_ (N6 _ (.tail _ (.tail _ (.tail _ (.tail _ (.head _)))))).1 ?_⟩
  · have q := l6 (t5, _) List.mem_cons_self
    have q2 := l5 _ (List.mem_cons_of_mem _ (List.mem_cons_of_mem _ me))
    exact Nat.le_trans (Nat.le_succ _) (Nat.le_of_lt (Nat.lt_trans q2 q))
  · intro z
    have q := l6 (t5, _) List.mem_cons_self
    have q2 := l5 _ (List.mem_cons_of_mem _ (List.mem_cons_of_mem _ me))
    rw [z] at q
    exact absurd (Nat.lt_trans q2 q) (Nat.lt_irrefl _)
  · refine ⟨_, _, _, (N6 _ List.mem_cons_self).1, rfl, ?_, ?_, ?_⟩
    · intro e he
      obtain ⟨tt, he'⟩ : ∃ tt : Tok, e ∈ [(⟨PyData.keyHash w.params f, .str f tt, v⟩ : DictEntry)] := ⟨_, by simpa only [putL] using (Array.mem_toList_iff.mpr he)⟩
      rw [List.mem_singleton.mp he']
      exact ⟨_, _, rfl⟩
    · exact List.pairwise_singleton _ _
    · intro z
      simp only [nsFind, findBy, putL]
      by_cases hz : z = f
      · subst hz
        simp [Value.isStr]
      · have hz' : ¬ f = z := fun q => hz q.symm
        simp [Value.isStr, hz, hz']
end
end Bk
namespace Bk
open PySem PySem.Spec PyProof.Rows L2
section
variable {g : FG} {f : FS} {W : List Nat} {e : DEnv}
@[simp] theorem loop_nil : fLoop g f W [] e = .nx e := rfl
theorem loop_cons {d : D} {ds : List D} : fLoop g f W (d :: ds) e = optE (g d e) fun e1 => (f e1).turn W (fLoop g f W ds) := rfl
/-- each turn goes on with the same slots or ends -/
theorem loop_find {α : Type} (enc : α → D) (p : α → Bool) (o : α → Out) {xs : List α} (h : ∀ a ∈ xs, ∀ k : FS, (optE (g (enc a) e) fun e1 => (f e1).turn W k) = if p a = true then k e else o a) : fLoop g f W (xs.map enc) e = match xs.find? (fun a => !p a) with
  | none => .nx e
  | some a => o a := by
  induction xs with
  | nil => rfl
  | cons x xs ih =>
    rw [List.map_cons, loop_cons, h x List.mem_cons_self, ih fun a ha => h a (List.mem_cons_of_mem _ ha)]
    cases hp : p x with
    | true => rw [if_pos rfl, List.find?_cons_of_neg (by rw [hp]; decide)]
    | false => rw [if_neg (by decide), List.find?_cons_of_pos (by rw [hp]; rfl)]
theorem loop_all {α : Type} (enc : α → D) (p : α → Bool) (o : Out) {xs : List α} (h : ∀ a ∈ xs, ∀ k : FS, (optE (g (enc a) e) fun e1 => (f e1).turn W k) = if p a = true then k e else o) : fLoop g f W (xs.map enc) e = if xs.all p = true then .nx e else o := by
  rw [loop_find enc p (fun _ => o) h]
  cases hf : xs.find? (fun a => !p a) with
  | none =>
    have := List.find?_eq_none.mp hf
    rw [if_pos (List.all_eq_true.mpr fun a ha => by simpa using this a ha)]
  | some a =>
    have h1 := List.find?_some hf
    have h2 := List.mem_of_find?_eq_some hf
    rw [if_neg]
    intro z
    rw [List.all_eq_true.mp z a h2] at h1
    cases h1
theorem loop_allD (p : D → Bool) (o : Out) {xs : List D} (h : ∀ a ∈ xs, ∀ k : FS, (optE (g a e) fun e1 => (f e1).turn W k) = if p a = true then k e else o) : fLoop g f W xs e = if xs.all p = true then .nx e else o := by
  have := loop_all (g := g) (f := f) (W := W) (e := e) (fun d : D => d) p o (xs := xs) h
  rwa [List.map_id'] at this
theorem loop_enum (p : D → Bool) (o : Nat → D → Out) {xs : List D} (h : ∀ i a, xs[i]? = some a → ∀ k : FS, (optE (g (.tup [.int (i : Nat), a]) e) fun e1 => (f e1).turn W k) = if p a = true then k e else o i a) : fLoop g f W (enumD xs) e = match xs.findIdx? (fun a => !p a) with
  | none => .nx e
  | some i => o i (xs[i]?.getD .non) := by
  have go : ∀ (n : Nat) (ys : List D), (∀ i a, ys[i]? = some a → ∀ k : FS, (optE (g (.tup [.int ((i + n : Nat) : Int), a]) e) fun e1 => (f e1).turn W k) = if p a = true then k e else o (i + n) a) → fLoop g f W (ys.mapIdx fun i d => .tup [.int ((i + n : Nat) : Int), d]) e = match ys.findIdx? (fun a => !p a) with
      | none => .nx e
      | some i => o (i + n) (ys[i]?.getD .non) := by
    intro n ys
    induction ys generalizing n with
    | nil => intro _; rfl
    | cons y ys ih =>
      intro h
      have h0 := h 0 y rfl
      rw [Nat.zero_add] at h0
      rw [List.mapIdx_cons, loop_cons, Nat.zero_add, h0]
      have ih' := ih (n + 1) fun i a hi k => by
        have := h (i + 1) a (by simpa using hi) k
        rwa [show i + 1 + n = i + (n + 1) by omega] at this
      have e1 : (fun (i : Nat) (d : D) => D.tup [.int ((i + 1 + n : Nat) : Int), d]) = fun (i : Nat) (d : D) => D.tup [.int ((i + (n + 1) : Nat) : Int), d] := by
        funext i d
        rw [show i + 1 + n = i + (n + 1) by omega]
      rw [e1, ih']
      rw [List.findIdx?_cons]
      cases hp : p y with
      | true =>
        simp only [if_true, Bool.not_true, Bool.false_eq_true, if_false]
        cases ys.findIdx? (fun a => !p a) with
        | none => rfl
        | some i => simp only [Option.map_some]; rw [show i + (n + 1) = i + 1 + n by omega]; simp
      | false => simp
  have := go 0 xs (fun i a hi k => by simpa using h i a hi k)
  simpa [enumD] using this
end
end Bk
namespace Bk
open PySem PySem.Spec PyProof.Rows L2
def inL (c : Nat) : Bool := !(Builtin.Str.occurrences letters ⟨#[c]⟩ 0 letters.length 1).isEmpty
def nameB : D → Bool
  | .str x => decide (1 ≤ x.length) && decide (x.length ≤ 8) && x.cps.toList.all inL
  | _ => false
def amongB (d : D) (lo hi : Int) : Bool := match d with
  | .int i => decide (lo ≤ i) && decide (i ≤ hi)
  | _ => false
def rowB (d : D) (k : Int) : Bool := match d with
  | .tup xs => decide ((xs.length : Int) ≤ k)
  | _ => false
/-- a cell's name -/
def cellOf : D → Option Str
  | .tup [.str x, v] => if (nameB (.str x) && amongB v 1 3) = true then some x else none
  | _ => none
/-- a thing of the tests -/
def ThS (d : D) : Prop := ∃ b n w, Th b n w d ∧ b ≤ 10 ^ 32 ∧ n ≤ 40 ∧ w ≤ 100000
/-- names, in the order of the cells -/
def inOrdB (ns : List Str) (xs : List D) : Bool := match strsF xs with
  | some zs => decide (ns.filter (fun n => decide (n ∈ zs)) = zs)
  | none => false
def inOrdT (ns : List Str) : D → Bool
  | .tup xs => inOrdB ns xs
  | _ => false
def termB : D → Bool
  | .tup [.int i, _] => (decide (-9 ≤ i) && decide (i ≤ 9)) && !decide (i = 0)
  | _ => false
def sndD : D → D
  | .tup [_, b] => b
  | _ => .non
def termsB (ns : List Str) : D → Bool
  | .tup xs => decide (xs.length ≤ 4) && (xs.all termB && inOrdB ns (xs.map sndD))
  | _ => false
def opB : D → Bool
  | .str o => decide (o ∈ (["=", "!=", "<", "<=", ">", ">="] : List Str))
  | _ => false
def testB (ns : List Str) : D → Bool
  | .tup [t, o, n] => termsB ns t && (opB o && amongB n (-99) 99)
  | _ => false
def itemsD : D → List D
  | .tup xs => xs
  | _ => []
def badCase (ns : List Str) (c : D) : Bool := (itemsD c).any fun t => !testB ns t
/-- the first place at which it is no formula -/
def faultF (ns : List Str) : D → Option D
  | .tup xs => if 4 < xs.length then some (.tup []) else match xs.findIdx? (fun c => !rowB c 4) with
    | some i => some (.tup [.int (i : Nat)])
    | none => match xs.findIdx? (badCase ns) with
      | some i => some (.tup [.int (i : Nat), .int (((itemsD (xs[i]?.getD .non)).findIdx fun t => !testB ns t : Nat))])
      | none => none
  | _ => some (.tup [])
theorem bls_bools : ∀ is : List Bool, bls (is.map D.bl) = some is
  | [] => rfl
  | i :: is => by rw [List.map_cons, bls, bls_bools is]; rfl
theorem tup_items {b : Int} {n w : Nat} {xs : List D} (h : Th b n w (.tup xs)) : ∃ m, n = m + 1 ∧ Ths b m w xs := by
  cases n with
  | zero =>
    have := h.dep
    rw [D.py, PyData.depth] at this
    omega
  | succ m => exact ⟨m, rfl, th_tup.mp h⟩
theorem ths_item {d x : D} {xs : List D} (h : ThS d) (e : d = .tup xs) (hx : x ∈ xs) : ThS x := by
  obtain ⟨b, n, w, hd, h1, h2, h3⟩ := h
  subst e
  obtain ⟨m, rfl, hs⟩ := tup_items hd
  exact ⟨b, m, w, th_mem hs hx, h1, by omega, h3⟩
theorem ths_len' {xs : List D} (h : ThS (.tup xs)) : xs.length ≤ 100000 := by
  obtain ⟨b, n, w, hd, h1, h2, h3⟩ := h
  obtain ⟨m, rfl, hs⟩ := tup_items hd
  exact Nat.le_trans (ths_len hs) h3
theorem row_tup {d : D} {k : Int} (h : rowB d k = true) : ∃ xs, d = .tup xs ∧ (xs.length : Int) ≤ k := by
  cases d with
  | tup xs => exact ⟨xs, rfl, of_decide_eq_true h⟩
  | _ => cases h
theorem th_non {b : Int} {n : Nat} : Th b n 0 .non := ⟨by rw [D.good], by rw [D.py, PyData.depth]; exact Nat.zero_le _, by rw [D.py, PyData.weight]; exact Nat.zero_le _⟩
end Bk
namespace Bk
open PySem PySem.Spec PyProof.Rows L2
section
variable {M : List Nat} {a : FX} {wa : Exp} {s0 ws : S} {fe we : DEnv}
def isEF (kn : List Str) (m : Str) : F1
  | .exc c _ => if c ∈ kn then some (.bl (subC c m)) else none
  | _ => none
def fldEF (kn : List Str) (x : Str) : F1
  | .exc c fs => if c ∈ kn then fs.lookup x else none
  | _ => none
theorem ax_isE {kn : List Str} {m : Str} (ha : AX M a wa) : AX M (fB1 (isEF kn m) a) (dIsE kn m wa) := fun s0 fe we ws h R E q => by
  refine ha s0 fe we ws h _ E (run_mono (run_bind.mp q) (fun x q => ?_) fun _ k => k)
  obtain ⟨d, e, q⟩ := run_opt q
  cases x with
  | exc c fs =>
    rw [isEF] at e
    split at e
    · rename_i hk; cases e; exact ⟨hk, q⟩
    · cases e
  | _ => cases e
theorem ax_fldE {kn : List Str} {m : Str} (ha : AX M a wa) : AX M (fB1 (fldEF kn m) a) (dFldE kn m wa) := fun s0 fe we ws h R E q => by
  refine ha s0 fe we ws h _ E (run_mono (run_bind.mp q) (fun x q => ?_) fun _ k => k)
  obtain ⟨d, e, q2⟩ := run_opt q
  clear q
  cases x with
  | exc c fs =>
    rw [fldEF] at e
    split at e
    · rename_i hk; exact ⟨hk, d, e, q2⟩
    · cases e
  | _ => cases e
@[simp] def fLam (told : Rs D → Rs D) (a : FX) (e : DEnv) : Rs D := told (a e)
end
/-- m draws are left -/
def Left (p : Addr) (m : Nat) (s : S) : Prop := ∃ k, m ≤ k ∧ s.g = some (p, k)
theorem Left.mono {p : Addr} {m n : Nat} {s : S} (l : Left p m s) (h : n ≤ m) : Left p n s := by
  obtain ⟨k, hk, e⟩ := l
  exact ⟨k, Nat.le_trans h hk, e⟩
end Bk
namespace Bk
open PySem PySem.Spec PyProof.Rows L2
end Bk
namespace Bk
open PySem PySem.Spec PyProof.Rows L2
def fgUnl (n : Nat) (r : List D → DEnv → Option DEnv) (d : D) (e : DEnv) : Option DEnv := match d with
  | .lst ds => if ds.length = n then r ds e else none
  | _ => none
@[simp] theorem fgUnl_eq (n : Nat) (r : List D → DEnv → Option DEnv) {ds : List D} {e : DEnv} : fgUnl n r (.lst ds) e = if ds.length = n then r ds e else none := rfl
end Bk
namespace Bk
open PySem PySem.Spec PyProof.Rows L2
/-- the call's node: starred or not, all keywords named -/
theorem callWith_any {M : Model} {A : Around} {E : Value → Shared → Prop} {s : Shared} {pos : Pos} {f : Value} {first : List Value} {Q : Value → Shared → Prop} {P : Heap → Prop} {args : List (Bool × Sem Value)} {kws : List (Option Str × Sem Value)} (hn : kws.any (·.1.isNone) = false)
    (hk : ∀ h, P h → ∃ k, (k = Keeper.frame ∨ k = Keeper.machine ∨ k = Keeper.boundFrame) ∧ PySem.W.Looks M h (keeperOf f) k)
    (h : wpAny M A (evalArgs f true args kws) (fun a s₁ => P s₁.heap ∧ wpAny M A (call f (first ++ a.pos) a.kw) Q E s₁) E s) : wpAny M A (callWith pos f first args kws) Q E s := by
  cases hst : args.any (·.1) with
  | false => exact PySem.W.callWith_of (by rw [hst, hn]; rfl) hk h
  | true =>
    unfold callWith
    refine wpAny_bind (wpAny_holding (wpAny_mono h (fun a s₁ h₁ => wpAny_bind (wpAny_standAt ?_)) fun _ _ x => x))
    obtain ⟨k, hk', L⟩ := hk _ h₁.1
    simp only [hst, Bool.true_or]
    refine wpAny_bind (L.here ?_)
    have tail : ∀ {t : Sem Value}, wpAny M A t Q E s₁ → wpAny M A (t >>= fun r => holding [r] point >>= fun _ => pure r) Q E s₁ :=
      fun ht => wpAny_bind (wpAny_mono ht (fun r s₂ hr => wpAny_bind (wpAny_holding (wpAny_point (wpAny_pure hr)))) fun _ _ x => x)
    have marked (mk : Value) : wpAny M A (callMarked mk f (first ++ a.pos) a.kw) Q E s₁ := by unfold callMarked; exact Calls.wpAny_keep h₁.2
    rcases hk' with rfl | rfl | rfl <;> dsimp only <;> first | exact tail (marked _) | exact tail (wpAny_operating h₁.2)
/-- t looks into D for what lacks, and goes on as r -/
def KwGo {α : Type} (D : Addr) : List (Str × Value) → Sem α → Sem α → Prop
  | [], t, r => t = r
  | q :: l, t, r => ∃ (β γ : Type) (k1 : Option Value → Sem β) (k2 : β → Sem γ) (k3 : γ → Sem α) (a : β), t = ((nsGet D q.1 >>= k1) >>= k2) >>= k3 ∧ k1 (some q.2) = pure a ∧ KwGo D l (k2 a >>= k3) r
theorem KwGo.run {α : Type} {K : PySem.W.Frag} {M : Model} {A : Around} {D : Addr} {s : Shared} {Q : α → Shared → Prop} {E : Value → Shared → Prop} (X : K.In s.heap) : ∀ {l : List (Str × Value)} {t r : Sem α}, (∀ q ∈ l, PySem.W.nsIn K D q.1 = some (some q.2)) → KwGo D l t r → wpAny M A r Q E s → wpAny M A t Q E s
  | [], t, r, _, e, h => by rw [show t = r from e]; exact h
  | q :: l, t, r, hl, e, h => by
    obtain ⟨β, γ, k1, k2, k3, a, e1, e2, e3⟩ := e
    have l1 : PySem.W.Looks M s.heap (nsGet D q.1 >>= k1) a := (PySem.W.looks_nsIn X (hl q (List.mem_cons_self ..))).andThen (PySem.W.Looks.of_pure e2)
    rw [e1, bind_assoc]
    exact wpAny_bind (l1.at (KwGo.run X (fun p hp => hl p (List.mem_cons_of_mem _ hp)) e3 h))
section
variable {P : Program} {w : World} {K : PySem.W.Frag} {mg : Str → Option Value} {base : Heap} {T : Tb}
/-- a def with a star: what it promises of the values and of those that came by names -/
structure GSt (P : Program) (w : World) (K : PySem.W.Frag) (mg : Str → Option Value) (base : Heap) (k : Nat) (f : Addr) (n : Nat) (ks : List Str) (gV : List V → V → List V → List V) (sp : Sp) : Prop where
  run : ∀ (A : Around) (outer : List Env) (s : Shared) (H : Hp) (us ws : List Value) (vs rest zs : List V) (Q : VK) (E : XK), Room k A → A.guards = some [] → Env0 P w K mg base A outer s H → Vals (vs ++ rest) us → Vals zs ws → vs.length = n → zs.length = ks.length → rest.length ≤ sizeLine →
    (∀ p, H p = none → sp (gV vs (.ref p) zs) (upd H p (.tup rest)) Q E) → codeAny (model P w) A (.call (.ref f) ⟨us, ks.zip ws⟩) (CR (L2.CX P w) outer P w H s Q E) s
end
end Bk
namespace Bk
open PySem PySem.Spec PyProof.Rows L2
section
variable {K : PySem.W.Frag} {T : Tb} {F H : Hp} {s : S}
/-- the fields behind x.f = y -/
def putFD (f : Str) (y : D) : List (Str × D) → List (Str × D)
  | [] => [(f, y)]
  | (g, x) :: r => if g = f then (g, y) :: r else (g, x) :: putFD f y r
theorem RepF.put {f : Str} {y : D} {v : V} (h : Rep K T F y v) : ∀ {fs : List (Str × D)} {vs : List (Str × V)}, RepF K T F fs vs → RepF K T F (putFD f y fs) (putF f v vs)
  | _, _, .nil => .cons h .nil
  | _, _, .cons (k := k) q r => by
    unfold putFD putF
    by_cases e : k = f
    · rw [if_pos e, if_pos e]; exact .cons h r
    · rw [if_neg e, if_neg e]; exact .cons q (RepF.put h r)
end
/-- a book's cells may be known to have no dict of their own; most readers need not know it -/
def unpF (f : Str) (d : D) : D := bif f == "cells" then d.unp else d
end Bk
namespace Bk
open PySem PySem.Spec PyProof.Rows L2
/-- how positional data, the star's tuple and what came by names stand for the parameters -/
structure BindsD (K : PySem.W.Frag) (T : Tb) (n m : Nat) (gD : List D → D → List D → List D) (gV : List V → V → List V → List V) : Prop where
  rel : ∀ {F : Hp} {ds ks : List D} {vs zs : List V} {t : D} {u : V}, Reps K T F ds vs → Rep K T F t u → Reps K T F ks zs → ds.length = n → ks.length = m → Reps K T F (gD ds t ks) (gV vs u zs)
structure DK (X : Cx) (T : Tb) (W : WX) (kws : List Keyword) (f : Arg) : Prop where
  pk : PK X kws (liftA X.K T W f)
section
variable {X : Cx} {T : Tb} {W : WX} {a : Expr} {es : List Expr} {kws : List Keyword} {fa : Exp} {r : Arg} {p pos : Pos}
theorem pk_imp {t t' : TA} (h : PK X kws t) (k : ∀ σ H Q, t' σ H Q → t σ H Q) : PK X kws t' := ⟨fun pos pins s σ H Q I q => h.run pos pins s σ H Q I (k σ H Q q)⟩
theorem dk_nil : DK X T W [] dNil := ⟨pk_imp pk_nil fun σ H Q h => by
  obtain ⟨F, e, s, R, E, he, hh, hx, hf, post⟩ := h
  exact post [] s [] H F hf Ext.refl hh .nil⟩
theorem dk_cons {nm : Option Str} {kpos : Pos} (ha : DX X T W a fa) (hr : DK X T W kws r) : DK X T W (⟨nm, a, kpos⟩ :: kws) (dCons fa r) := ⟨pk_imp (pk_cons ha.pe hr.pk) fun σ H Q h => by
  obtain ⟨F, e, s, R, E, he, hh, hx, hf, post⟩ := h
  exact ⟨F, e, s, _, E, he, hh, hx, hf, fun x s1 vx H1 F1 q1 e1 hh1 rx => ⟨F1, e, s1, _, E, he.mono e1.same, hh1, hx.mono e1, q1, fun ds s2 vs H2 F2 q2 e2 hh2 rs =>
    post (x :: ds) s2 (vx :: vs) H2 F2 q2 (e1.trans e2) hh2 (.cons (rx.mono e2.same) rs)⟩⟩⟩
end
end Bk
namespace Bk
open PySem PySem.Spec PyProof.Rows L2
end Bk
namespace Bk
open PySem PySem.Spec PyProof.Rows L2
def gFldO (cn : List Str) (f : Str) : F1
  | .obj n fs => if n ∈ cn then (fs.lookup f).map (unpF f) else none
  | _ => none
@[simp] theorem gFldO_eq (cn : List Str) (f n : Str) (fs : List (Str × D)) (h : n ∈ cn) : gFldO cn f (.obj n fs) = (fs.lookup f).map (unpF f) := if_pos h
@[simp] theorem unpF_tup (f : Str) (xs : List D) : unpF f (.tup xs) = .tup xs := by unfold unpF; cases f == "cells" <;> rfl
@[simp] theorem unpF_lst (f : Str) (xs : List D) : unpF f (.lst xs) = .lst xs := by unfold unpF; cases f == "cells" <;> rfl
section
variable {M : List Nat} {a v : FX} {wa wv : Exp} {cn : List Str} {f nm : Str}
def atO : Option D → (Str → List (Str × D) → Out) → Out
  | some (.obj n fs), k => k n fs
  | _, _ => .no
@[simp] theorem atO_eq (n : Str) (fs : List (Str × D)) (k : Str → List (Str × D) → Out) : atO (some (.obj n fs)) k = k n fs := rfl
@[simp] def fPutO (cn : List Str) (i : Nat) (f : Str) (v : FX) (e : DEnv) : Out := (v e).out e fun y => atO (nth e i) fun n fs => if n ∈ cn ∧ fs.length < 1000 then .nx (dset e i (some (.obj n (putFD f y fs)))) else .no
end
abbrev FI := DEnv → List (Str × D) → Rs (List (Str × D))
@[simp] def fiDrop (a : FX) (f : FI) : FI := fun e fs => (a e).bind fun _ => f e fs
@[simp] def fiPut (cn : List Str) (nm fld : Str) (v : FX) (f : FI) : FI := fun e fs => (v e).bind fun y => if nm ∈ cn ∧ fs.length < 1000 then f e (putFD fld y fs) else .no
@[simp] def fiNil : FI := fun _ fs => .ok fs
def initF (f : FI) (N : List Str) (as : List D) : Rs (List (Str × D)) := f (dstart N (.non :: as)) []
/-- C(e, .., *ys, k = v, ..) -/
def newF (nm : Str) (n m : Nat) (g : List D → D → List D → List D) (F : List D → Rs (List (Str × D))) (ds ks : List D) : Rs D := if n ≤ ds.length ∧ ds.length ≤ sizeLine ∧ ks.length = m then (F (g (ds.take n) (.tup (ds.drop n)) ks)).bind fun fs => .ok (.obj nm fs) else .no
@[simp] def fNew (nm : Str) (n m : Nat) (g : List D → D → List D → List D) (F : List D → Rs (List (Str × D))) (r rk : FA) (e : DEnv) : Rs D := (r e).bind fun ds => (rk e).bind fun ks => newF nm n m g F ds ks
section
variable {M : List Nat} {nm : Str} {n m : Nat} {g : List D → D → List D → List D} {F : List D → Rs (List (Str × D))} {r rk : FA} {wr wk : Arg}
/-- .. by a variable that holds the class -/
def isC (nm : Str) : D → Bool
  | .cls c => decide (c = nm)
  | _ => false
@[simp] theorem isC_eq (nm : Str) : isC nm (.cls nm) = true := decide_eq_true rfl
@[simp] def fNewV (nm : Str) (n m : Nat) (g : List D → D → List D → List D) (F : List D → Rs (List (Str × D))) (a : FX) (r rk : FA) (e : DEnv) : Rs D := (a e).bind fun d => if isC nm d = true then fNew nm n m g F r rk e else .no
/-- arguments with stars -/
@[simp] def fSpl (a : FX) (r : FA) (e : DEnv) : Rs (List D) := (a e).bind fun d => (Rs.opt (seqF d)).bind fun ds => (r e).bind fun rest => .ok (ds ++ rest)
end
end Bk
namespace Bk
open PySem PySem.Spec PyProof.Rows L2 ClX
end Bk
namespace Bk
open PySem PySem.Spec PyProof.Rows L2 ClX
section
variable {M : List Nat} {n m : Nat} {gD : List D → List D → List D} {F : FF} {r rk : FA} {wr wk : Arg} {a : FX} {wa : Exp} {cn : List Str} {mt : Str}
@[simp] def fCallK (n m : Nat) (gD : List D → List D → List D) (F : FF) (r rk : FA) (e : DEnv) : Rs D := (r e).bind fun ds => (rk e).bind fun ks => if ds.length = n ∧ ks.length = m then F (gD ds ks) else .no
def objM (cn : List Str) (mt : Str) : D → Bool
  | .obj c fs => decide (c ∈ cn) && (fs.lookup mt).isNone
  | _ => false
@[simp] def fMeth (cn : List Str) (mt : Str) (n m : Nat) (gD : List D → List D → List D) (F : FF) (a : FX) (r rk : FA) (e : DEnv) : Rs D := (a e).bind fun d => if objM cn mt d = true then fCallK n m gD F (fun e => (r e).bind fun ds => .ok (d :: ds)) rk e else .no
def objC (cn : List Str) : D → Bool
  | .obj c _ => decide (c ∈ cn)
  | _ => false
@[simp] def fProp (cn : List Str) (F : FF) (a : FX) (e : DEnv) : Rs D := (a e).bind fun d => if objC cn d = true then (F [d]).calm else .no
end
end Bk
namespace Bk
open PySem PySem.Spec PyProof.Rows L2 ClX
section
variable {X : Cx} {T : Tb} {W : WX} {k : Nat} {C g : Addr} {fd : FuncData} {ps cn : List Str} {phi : Fn}
theorem inst_ofO {pins : List (Addr × Obj)} {σ : L2.St} {H : Hp} {s : Shared} {a dx : Addr} {fs : List (Str × V)} (I : Inv X pins σ H s) (ea : H a = some (.ins C dx fs)) : ∃ ox od, PySem.W.InstAt s.heap a ox C od := by
  obtain ⟨mA, O, _, _, _, _⟩ := ins_get I.hok ea
  obtain ⟨od, J, _⟩ := O.look
  exact ⟨_, _, J⟩
end
end Bk
namespace Bk
open PySem PySem.Spec PyProof.Rows L2
/-- the order of what came by names -/
inductive Sel where
  | id | rev
def Sel.of {α : Type} : Sel → List α → List α
  | .id, l => l
  | .rev, l => l.reverse
@[simp] theorem Sel.of_id {α : Type} (l : List α) : Sel.of .id l = l := rfl
@[simp] theorem Sel.of_rev {α : Type} (l : List α) : Sel.of .rev l = l.reverse := rfl
theorem Sel.len {α : Type} (x : Sel) (l : List α) : (x.of l).length = l.length := by cases x <;> simp
def selG (x : Sel) (ds : List D) (t : D) (ks : List D) : List D := ds ++ x.of ks ++ [t]
def conG (cs : List D) (ds : List D) (t : D) (_ : List D) : List D := ds ++ cs ++ [t]
@[simp] theorem selG_id (ds : List D) (t : D) (ks : List D) : selG .id ds t ks = ds ++ ks ++ [t] := rfl
@[simp] theorem selG_rev (ds : List D) (t : D) (ks : List D) : selG .rev ds t ks = ds ++ ks.reverse ++ [t] := rfl
@[simp] theorem conG_eq (cs ds : List D) (t : D) (ks : List D) : conG cs ds t ks = ds ++ cs ++ [t] := rfl
def selK (x : Sel) (ds ks : List D) : List D := ds ++ x.of ks
def conK (cs : List D) (ds _ks : List D) : List D := ds ++ cs
@[simp] theorem selK_id (ds : List D) (ks : List D) : selK .id ds ks = ds ++ ks := rfl
@[simp] theorem selK_rev (ds : List D) (ks : List D) : selK .rev ds ks = ds ++ ks.reverse := rfl
@[simp] theorem conK_eq (cs ds : List D) (ks : List D) : conK cs ds ks = ds ++ cs := rfl
end Bk
namespace Bk
open PySem PySem.Spec PyProof.Rows L2 ClX
/-- calls of the class nm with n positional values, a star, and names ks -/
structure NewP (P : Program) (w : World) (K : PySem.W.Frag) (mg : Str → Option Value) (base : Heap) (T : Tb) (k : Nat) (nm : Str) (n : Nat) (ks : List Str) (gD : List D → D → List D → List D) (phi : Fn) : Prop where
  ex : ∃ (fI : Addr) (np : Nat) (gV : List V → V → List V → List V), Mk K (T.cls nm) fI ∧ GSt P w K mg base k fI (n + 1) ks gV (spD K T np phi) ∧ BindsD K T (n + 1) ks.length gD gV ∧ ∀ ds t ks', ds.length = n + 1 → ks'.length = ks.length → (gD ds t ks').length = np
theorem GSt.mono {P : Program} {w : World} {K : PySem.W.Frag} {mg : Str → Option Value} {base : Heap} {j k : Nat} {f : Addr} {n : Nat} {ks : List Str} {gV : List V → V → List V → List V} {sp : Sp} (G : GSt P w K mg base j f n ks gV sp) (h : j ≤ k) : GSt P w K mg base k f n ks gV sp :=
  ⟨fun A outer s H us ws vs rest zs Q E hr => G.run A outer s H us ws vs rest zs Q E (hr.mono h)⟩
theorem NewP.mono {P : Program} {w : World} {K : PySem.W.Frag} {mg : Str → Option Value} {base : Heap} {T : Tb} {j k : Nat} {nm : Str} {n : Nat} {ks : List Str} {gD : List D → D → List D → List D} {phi : Fn} (N : NewP P w K mg base T j nm n ks gD phi) (h : j ≤ k) : NewP P w K mg base T k nm n ks gD phi := by
  obtain ⟨fI, np, gV, a, b, c, d⟩ := N.ex
  exact ⟨fI, np, gV, a, b.mono h, c, d⟩
end Bk
namespace Bk
open PySem PySem.Spec PyProof.Rows L2
def gInL (neg : Bool) : F2 := fun x y => match lstF y with
  | some ds => if x.eqOk = true ∧ (D.lst ds).eqOk = true then some (.bl (if neg then !isIn x ds else isIn x ds)) else none
  | none => none
@[simp] theorem gInL_eq (neg : Bool) (x : D) (ds : List D) : gInL neg x (.lst ds) = if x.eqOk = true ∧ (D.lst ds).eqOk = true then some (.bl (if neg then !isIn x ds else isIn x ds)) else none := rfl
end Bk
namespace Bk
open PySem PySem.Spec PyProof.Rows L2
def rng2F : List D → Rs (List D)
  | [.int i, .int j] => if (-(2 ^ 62) ≤ i ∧ i < 2 ^ 62 ∧ -(2 ^ 62) ≤ j ∧ j < 2 ^ 62) ∧ (j - i).toNat ≤ sizeLine then .ok (rangeD i (j - i).toNat) else .no
  | _ => .no
@[simp] theorem rng2F_eq (i j : Int) : rng2F [.int i, .int j] = if (-(2 ^ 62) ≤ i ∧ i < 2 ^ 62 ∧ -(2 ^ 62) ≤ j ∧ j < 2 ^ 62) ∧ (j - i).toNat ≤ sizeLine then .ok (rangeD i (j - i).toNat) else .no := rfl
@[simp] def fRng2 (r : FA) (e : DEnv) : Rs (List D) := (r e).bind rng2F
end Bk
namespace Bk
open PySem PySem.Spec PyProof.Rows L2
/-- what comes of draws: at p at most c draws give any d with P, if q -/
inductive Dt (α : Type) where
  | ret (a : α)
  | no
  | any (p : Addr) (c : Nat) (q : Prop) (P : D → Prop) (f : D → Dt α)
section
variable {α β : Type}
def Dt.bind : Dt α → (α → Dt β) → Dt β
  | .ret a, f => f a
  | .no, _ => .no
  | .any p c q P g, f => .any p c q P fun d => (g d).bind f
/-- n draws are left; R tells of each end, and how many are left then -/
def Dt.run (p : Addr) : Dt α → Nat → (α → Nat → Prop) → Prop
  | .ret a, n, R => R a n
  | .no, _, _ => False
  | .any p' c q P g, n, R => p' = p ∧ q ∧ c ≤ n ∧ ∀ d, P d → (g d).run p (n - c) R
def Dt.of : Rs α → Dt α
  | .ok a => .ret a
  | _ => .no
def Dt.opt : Option α → Dt α
  | some a => .ret a
  | none => .no
section
variable {a : α} {x : Ex} {f : α → Dt β} {p p' : Addr} {n c : Nat} {R : α → Nat → Prop} {q : Prop} {P : D → Prop} {g : D → Dt α}
@[simp] theorem dt_bind_ret : (Dt.ret a).bind f = f a := rfl
@[simp] theorem dt_bind_no : (Dt.no : Dt α).bind f = .no := rfl
@[simp] theorem dt_bind_any : (Dt.any p c q P g).bind f = .any p c q P fun d => (g d).bind f := rfl
@[simp] theorem dt_run_ret : (Dt.ret a).run p n R = R a n := rfl
@[simp] theorem dt_run_no : (Dt.no : Dt α).run p n R = False := rfl
@[simp] theorem dt_of_ok : Dt.of (.ok a) = .ret a := rfl
@[simp] theorem dt_of_ex : Dt.of (.ex x : Rs α) = .no := rfl
@[simp] theorem dt_of_no : Dt.of (.no : Rs α) = .no := rfl
@[simp] theorem dt_opt_some : Dt.opt (some a) = .ret a := rfl
@[simp] theorem dt_opt_none : Dt.opt (none : Option α) = .no := rfl
end
section
variable {p : Prop} [Decidable p]
@[simp] theorem dt_bind_ite {a b : Dt α} {f : α → Dt β} : (if p then a else b).bind f = if p then a.bind f else b.bind f := by split <;> rfl
@[simp] theorem dt_of_ite {a b : Rs α} : Dt.of (if p then a else b) = if p then Dt.of a else Dt.of b := by split <;> rfl
@[simp] theorem dt_opt_ite {a b : Option α} : Dt.opt (if p then a else b) = if p then Dt.opt a else Dt.opt b := by split <;> rfl
end
theorem dt_bind_assoc {γ : Type} {t : Dt α} {f : α → Dt β} {g : β → Dt γ} : (t.bind f).bind g = t.bind fun a => (f a).bind g := by
  induction t with
  | ret a => rfl
  | no => rfl
  | any p c q P h ih => exact congrArg _ (funext fun d => ih d)
theorem dt_run_bind {p : Addr} {t : Dt α} {f : α → Dt β} {n : Nat} {R : β → Nat → Prop} : (t.bind f).run p n R ↔ t.run p n (fun a m => (f a).run p m R) := by
  induction t generalizing n with
  | ret a => exact Iff.rfl
  | no => exact Iff.rfl
  | any p c q P h ih => exact and_congr_right fun _ => and_congr_right fun _ => and_congr_right fun _ => forall_congr' fun d => imp_congr_right fun _ => ih d
theorem dt_run_mono {p : Addr} {t : Dt α} {n : Nat} {R R' : α → Nat → Prop} (h : t.run p n R) (k : ∀ a m, R a m → R' a m) : t.run p n R' := by
  induction t generalizing n with
  | ret a => exact k a n h
  | no => exact h
  | any p c q P g ih => exact ⟨h.1, h.2.1, h.2.2.1, fun d hd => ih d (h.2.2.2 d hd)⟩
theorem dt_run_of {p : Addr} {r : Rs α} {n : Nat} {R : α → Nat → Prop} (h : (Dt.of r).run p n R) : ∃ a, r = .ok a ∧ R a n := by
  cases r with
  | ok a => exact ⟨a, rfl, h⟩
  | ex x => exact h.elim
  | no => exact h.elim
theorem dt_run_opt {p : Addr} {r : Option α} {n : Nat} {R : α → Nat → Prop} (h : (Dt.opt r).run p n R) : ∃ a, r = some a ∧ R a n := by
  cases r with
  | some a => exact ⟨a, rfl, h⟩
  | none => exact h.elim
end
abbrev MX := DEnv → Dt D
abbrev MT := DEnv → Dt Bool
abbrev MA := DEnv → Dt (List D)
abbrev MS := DEnv → Dt Out
abbrev MF := List D → Dt D
/-- without a draw -/
def mP {α : Type} (f : DEnv → Rs α) (e : DEnv) : Dt α := .of (f e)
def mS (f : FS) (e : DEnv) : Dt Out := .ret (f e)
/-- n draws are left at p -/
abbrev sM (mu : Addr → Option MO) (p : Addr) (n : Nat) : S := ⟨mu, some (p, n)⟩
def Dw {α : Type} (M : List Nat) (mu : Addr → Option MO) (p : Addr) (fe we : DEnv) (ws : S) (t : Dt α) (n : Nat) (R : α → S → Prop) : Prop :=
  t.run p n fun a m => ∀ ws' : S, ws'.mu = ws.mu → Rl M (sM mu p m) fe we ws' → R a ws'
def BX (M : List Nat) (f : MX) (w : Exp) : Prop := ∀ mu p n fe we ws, Rl M (sM mu p n) fe we ws → ∀ R E, Dw M mu p fe we ws (f fe) n R → w we ws R E
def BA (M : List Nat) (k : Nat) (f : MA) (w : Arg) : Prop := ∀ mu p n fe we ws, Rl M (sM mu p n) fe we ws → ∀ R E, Dw M mu p fe we ws (f fe) n (fun ds s => ds.length = k → R ds s) → w we ws R E
def BW (M : List Nat) (f : MA) (w : Arg) : Prop := ∀ mu p n fe we ws, Rl M (sM mu p n) fe we ws → ∀ R E, Dw M mu p fe we ws (f fe) n (fun ds s => ds.length ≤ sizeLine → R ds s) → w we ws R E
def BV (M : List Nat) (f : MX) (w : Exp) : Prop := ∀ mu p n fe we ws, Rl M (sM mu p n) fe we ws → ∀ R E, Dw M mu p fe we ws (f fe) n (fun d s => ∀ d', VRel s d' d → R d' s) → w we ws R E
def BS (M : List Nat) (f : MS) (w : DTS) : Prop := ∀ mu p n fe we ws, Rl M (sM mu p n) fe we ws → ∀ DD, (f fe).run p n (fun o m => o.run M (sM mu p m) DD) → w DD we ws
theorem sM_left {mu : Addr → Option MO} {p : Addr} {n : Nat} {ws : S} (h : Sub (sM mu p n) ws) : Left p n ws := h.g p n rfl
theorem Rl.draw {M : List Nat} {mu : Addr → Option MO} {p : Addr} {n m : Nat} {fe we : DEnv} {ws ws' : S} (h : Rl M (sM mu p n) fe we ws) (e : ws'.mu = ws.mu) (hl : Left p m ws') : Rl M (sM mu p m) fe we ws' := by
  refine ⟨h.len, ⟨fun q o z => by rw [e]; exact h.sub.mu q o z, fun q k z => ?_⟩, h.im, fun i d hi hv hd => ?_, fun i d hi hd => ?_, h.inj⟩
  · cases z
    exact hl
  · obtain ⟨d', h1, h2⟩ := h.vr i d hi hv hd
    exact ⟨d', h1, h2⟩
  · obtain ⟨q, o, h1, h2, h3, h4⟩ := h.mu i d hi hd
    exact ⟨q, o, h1, h2, h3, by rw [e]; exact h4⟩
theorem vrel_mu {s s' : S} {d' d : D} (e : s'.mu = s.mu) (h : VRel s d' d) : VRel s' d' d := by
  rcases h with h | ⟨p, o, h1, h2, h3⟩
  · exact .inl h
  · exact .inr ⟨p, o, h1, h2, by rw [e]; exact h3⟩
section
variable {M : List Nat} {a b c : MX} {wa wb wc : Exp} {t u : MT} {wt wu : Tst} {r : MA} {wr : Arg} {k : Nat} {f g : MS} {w v : DTS}
theorem ba_of {r : FA} (h : AA M k r wr) : BA M k (mP r) wr := fun mu p n fe we ws hr R E q => by
  obtain ⟨d, e, q⟩ := dt_run_of q
  exact h _ fe we ws hr R E (by rw [e]; exact fun hl => q ws rfl hr hl)
theorem bw_of {r : FA} (h : AW M r wr) : BW M (mP r) wr := fun mu p n fe we ws hr R E q => by
  obtain ⟨d, e, q⟩ := dt_run_of q
  exact h _ fe we ws hr R E (by rw [e]; exact fun hl => q ws rfl hr hl)
theorem bv_of {a : FX} (h : AV M a wa) : BV M (mP a) wa := fun mu p n fe we ws hr R E q => by
  obtain ⟨d, e, q⟩ := dt_run_of q
  exact h _ fe we ws hr R E (by rw [e]; exact fun d' hd => q ws rfl hr d' hd)
theorem bs_of {f : FS} (h : AS M f w) : BS M (mS f) w := fun mu p n fe we ws hr DD q => h _ fe we ws hr DD q
theorem bv_bx (h : BX M a wa) : BV M a wa := fun mu p n fe we ws hr R E q => h mu p n fe we ws hr R E (dt_run_mono q fun d m q ws' e hr' => q ws' e hr' d (.inl rfl))
def mOp (g : F2) (a b : MX) (e : DEnv) : Dt D := (a e).bind fun x => (b e).bind fun y => Dt.opt (g x y)
theorem bx_opV {g : F2} {w : G2} (ho : OV g w) (ha : BV M a wa) (hb : BV M b wb) : BX M (mOp g a b) (dOp w wa wb) := fun mu p n fe we ws h R E q => by
  refine ha mu p n fe we ws h _ E (dt_run_mono (dt_run_bind.mp q) fun x m q ws1 e1 h1 x' hx => ?_)
  refine hb mu p m fe we ws1 h1 _ E (dt_run_mono (dt_run_bind.mp q) fun y m q ws2 e2 h2 y' hy => ?_)
  obtain ⟨d, e, q⟩ := dt_run_opt q
  exact ho x' y' x y d ws2 R (vrel_mu e2 hx) hy e (q ws2 (e2.trans e1) h2)
/-- a promise: it draws as mf says -/
def pM (mf : MF) : Fn := fun ds s R E => ∃ p n, Left p n s ∧ (mf ds).run p n fun d m => ∀ s' : S, s'.mu = s.mu → Left p m s' → R d s'
def PM (phi : Fn) (mf : MF) : Prop := ∀ ds s R E, pM mf ds s R E → phi ds s R E
def mCallM (mf : MF) (r : MA) (e : DEnv) : Dt D := (r e).bind mf
theorem bx_callM {phi : Fn} {mf : MF} (hp : PM phi mf) (hr : BA M k r wr) : BX M (mCallM mf r) (dCall k phi wr) := fun mu p n fe we ws h R E q =>
  hr mu p n fe we ws h _ E (dt_run_mono (dt_run_bind.mp q) fun ds m q ws1 e1 h1 hl => ⟨hl, hp _ _ _ _ ⟨p, m, sM_left h1.sub, dt_run_mono q fun d m q s' e' hl' => q s' (e'.trans e1) (h1.draw e' hl')⟩⟩)
def mNext : MF
  | [.rf (.ref q), .int k] => .any q 1 (0 < k ∧ k < 1073741824) (fun d => ∃ r : Int, d = .int r ∧ 0 ≤ r ∧ r < k) .ret
  | _ => .no
theorem pm_next : PM p_law_next mNext := fun ds s R E ⟨p, n, hl, q⟩ => by
  unfold mNext at q
  split at q
  · obtain ⟨rfl, h1, h2, h3⟩ := q
    obtain ⟨j, hj, hg⟩ := hl
    obtain ⟨mu, g⟩ := s
    cases hg
    exact use_next (by omega) h1.1 h1.2 fun r r0 r1 => h3 (.int r) ⟨r, rfl, r0, r1⟩ _ rfl ⟨j - 1, by omega, rfl⟩
  · exact q.elim
def Out.thenM : Out → MS → Dt Out
  | .nx e, g => g e
  | .rt d, _ => .ret (.rt d)
  | .bk e, _ => .ret (.bk e)
  | .ct e, _ => .ret (.ct e)
  | .ex x e, _ => .ret (.ex x e)
  | .no, _ => .no
def Out.turnM (W : List Nat) : Out → MS → Dt Out
  | .nx e, k => k (dwipe e W)
  | .ct e, k => k (dwipe e W)
  | .bk e, _ => .ret (.nx (dwipe e W))
  | .rt d, _ => .ret (.rt d)
  | .ex x e, _ => .ret (.ex x e)
  | .no, _ => .no
def mSeq (f g : MS) (e : DEnv) : Dt Out := (f e).bind fun o => o.thenM g
def mSet (i : Nat) (a : MX) (e : DEnv) : Dt Out := (a e).bind fun d => .ret (.nx (dset e i (some d)))
theorem bs_seq (hf : BS M f w) (hg : BS M g v) : BS M (mSeq f g) (dSeq w v) := fun mu p n fe we ws h DD q => by
  refine hf mu p n fe we ws h _ (dt_run_mono (dt_run_bind.mp q) fun o m q => ?_)
  cases o with
  | nx e' => exact fun we' ws' h' => hg mu p m e' we' ws' h' DD q
  | rt d => exact q
  | bk e' => exact q
  | ct e' => exact q
  | ex x e' => exact q
  | no => exact q
theorem bs_set (i : Nat) (ha : BX M a wa) (hi : i ∉ M := by decide) : BS M (mSet i a) (dSet i wa) := fun mu p n fe we ws h DD q =>
  ha mu p n fe we ws h _ _ (dt_run_mono (dt_run_bind.mp q) fun d m q ws1 e1 h1 => q _ ws1 (h1.nonM hi))
def mLoop (g : FG) (f : MS) (W : List Nat) : List D → DEnv → Dt Out
  | [], e => .ret (.nx e)
  | d :: ds, e => match g d e with
    | none => .no
    | some e1 => (f e1).bind fun o => o.turnM W (mLoop g f W ds)
theorem bloop_run {g : FG} {wg : DG} {W : List Nat} (hg : AG M g wg) (hf : BS M f w) : ∀ (ds : List D) (mu : Addr → Option MO) (p : Addr) (n : Nat) (fe we : DEnv) (ws : S), Rl M (sM mu p n) fe we ws → ∀ DD : DEnds, (mLoop g f W ds fe).run p n (fun o m => o.run M (sM mu p m) DD) → dLoop wg w DD ds we ws
  | [], mu, p, n, fe, we, ws, h, DD, q => q we ws h
  | d :: ds, mu, p, n, fe, we, ws, h, DD, q => by
    unfold mLoop at q
    unfold dLoop
    cases he : g d fe with
    | none => rw [he] at q; exact q.elim
    | some e1 =>
      rw [he] at q
      refine hg _ fe we ws h d e1 he _ fun we1 r1 => ?_
      refine hf mu p n e1 we1 ws r1 _ (dt_run_mono (dt_run_bind.mp q) fun o m q => ?_)
      cases o with
      | nx e2 => exact fun we2 ws2 r2 => bloop_run hg hf ds mu p m _ we2 ws2 (r2.forgets W) DD q
      | ct e2 => exact fun we2 ws2 r2 => bloop_run hg hf ds mu p m _ we2 ws2 (r2.forgets W) DD q
      | bk e2 => exact fun we2 ws2 r2 => q we2 ws2 (r2.forgets W)
      | rt d2 => exact q
      | ex x e2 => exact q
      | no => exact q
def mFor (i : MA) (g : FG) (f : MS) (W : List Nat) (e : DEnv) : Dt Out := (i e).bind fun ds => mLoop g f W ds e
theorem bs_for {i : MA} {wi : Arg} {g : FG} {wg : DG} {W : List Nat} (hi : BW M i wi) (hg : AG M g wg) (hf : BS M f w) : BS M (mFor i g f W) (dFor wi wg w) := fun mu p n fe we ws h DD q =>
  hi mu p n fe we ws h _ _ (dt_run_mono (dt_run_bind.mp q) fun ds m q ws1 e1 h1 _ => bloop_run hg hf ds mu p m fe we ws1 h1 DD q)
end
section
variable {M : List Nat} {mu : Addr → Option MO} {p : Addr} {fe we : DEnv}
theorem Pd.draw {s0 s1 ws ws' : S} (em : ∀ q, s0.mu q = none → s1.mu q = none) (e : ws'.mu = ws.mu) : ∀ {is : List Nat} {ds ds' : List D}, Pd M s0 fe we ws is ds ds' → Pd M s1 fe we ws' is ds ds' := by
  intro is ds ds' r
  induction r with
  | nil => exact .nil
  | val a _ ih => exact .val a ih
  | chg a b c e' f g _ ih => exact .chg a (em _ b) c (by rw [e]; exact e') f g ih
end
/-- the law itself: behind its first statement -/
theorem law_mfn {M : List Nat} {f : MS} {te : DTS} {N : List Str} {ns : List Int} {R : Q1} {E : XQ} (h : BS M f te) (hM : ∀ i ∈ M, 2 ≤ i) (hN : 2 ≤ N.length) (hq : ∀ p, (f (some (.scr ns) :: some (.rf (.ref p)) :: List.replicate (N.length - 2) none)).run p 1125899906842624 fun o _ => o = .rt (.bl true)) (hR : ∀ s, R (.bl true) s) :
    dSeq (dSet 1 (dCall 1 p_law_begun (dCons (dVar 0) dNil))) te (fnEnds R E) (dstart N [.scr ns]) ⟨fun _ => none, none⟩ := by
  obtain ⟨rest, hrest⟩ : ∃ k, N.length - 1 = k + 1 := ⟨N.length - 2, by omega⟩
  have e0 : dstart N [.scr ns] = some (.scr ns) :: none :: List.replicate rest none := by
    rw [dstart_eq]
    show [some (D.scr ns)] ++ List.replicate (N.length - 1) none = _
    rw [hrest]; rfl
  rw [e0]
  refine ⟨rfl, ns, rfl, rfl, fun p => ?_⟩
  have e1 : N.length - 2 = rest := by omega
  have hq := hq p
  rw [e1] at hq
  refine h (fun _ => none) p _ (some (.scr ns) :: some (.rf (.ref p)) :: List.replicate rest none) _ _ ⟨rfl, Sub.refl _, fun _ _ _ _ z => z, fun _ _ _ _ z => ⟨_, z, .inl rfl⟩, fun i d hi e => ?_, fun i j p0 hi _ _ e => ?_⟩ _ (dt_run_mono hq fun o m q => ?_)
  · have := start_nth (N := N) (ds := [.scr ns, .rf (.ref p)]) (hM i hi)
    rw [dstart_eq] at this
    have e2 : N.length - [D.scr ns, .rf (.ref p)].length = rest := e1
    rw [e2] at this
    rw [show nth (some (D.scr ns) :: some (D.rf (.ref p)) :: List.replicate rest none) i = none from this] at e
    cases e
  · have := start_nth (N := N) (ds := [.scr ns, .rf (.ref p)]) (hM i hi)
    rw [dstart_eq] at this
    have e2 : N.length - [D.scr ns, .rf (.ref p)].length = rest := e1
    rw [e2] at this
    exact (e this).elim
  · subst q
    exact fun ws hs => ⟨_, Sub.refl _, hR ws⟩
section
variable {α β : Type} {p : Addr} {n c : Nat} {t : Dt α}
/-- at most c draws, and each end has P -/
def Sp (p : Addr) (c : Nat) (t : Dt α) (P : α → Prop) : Prop := ∀ n, c ≤ n → t.run p n fun a m => P a ∧ n ≤ m + c
theorem Sp.use {P : α → Prop} {R : α → Nat → Prop} (h : Sp p c t P) (hc : c ≤ n) (k : ∀ a m, P a → n ≤ m + c → R a m) : t.run p n R := dt_run_mono (h n hc) fun a m q => k a m q.1 q.2
theorem sp_ret {a : α} {P : α → Prop} (h : P a) : Sp p c (.ret a) P := fun n hn => ⟨h, Nat.le_add_right _ _⟩
theorem sp_bind {f : α → Dt β} {P : α → Prop} {Q : β → Prop} {c1 c2 : Nat} (h : Sp p c1 t P) (k : ∀ a, P a → Sp p c2 (f a) Q) (hc : c1 + c2 ≤ c := by omega) : Sp p c (t.bind f) Q := fun n hn =>
  dt_run_bind.mpr (dt_run_mono (h n (by omega)) fun a m q => dt_run_mono (k a q.1 m (by omega)) fun b m2 q2 => ⟨q2.1, by omega⟩)
theorem sp_mono {P Q : α → Prop} {c1 : Nat} (h : Sp p c1 t P) (k : ∀ a, P a → Q a) (hc : c1 ≤ c := by omega) : Sp p c t Q := fun n hn => dt_run_mono (h n (by omega)) fun a m q => ⟨k a q.1, by omega⟩
theorem sp_any {q : Prop} {P : D → Prop} {f : D → Dt α} {Q : α → Prop} {c1 c2 : Nat} (hq : q) (k : ∀ d, P d → Sp p c2 (f d) Q) (hc : c1 + c2 ≤ c := by omega) : Sp p c (.any p c1 q P f) Q := fun n hn =>
  ⟨rfl, hq, by omega, fun d hd => dt_run_mono (k d hd (n - c1) (by omega)) fun a m q => ⟨q.1, by omega⟩⟩
theorem sp_opt {o : Option α} {a : α} {P : α → Prop} (h : o = some a) (q : P a) : Sp p c (.opt o) P := by subst h; exact sp_ret q
theorem sp_next {k : Int} (h0 : 0 < k) (h1 : k < 1073741824) : Sp p 1 (mNext [.rf (.ref p), .int k]) fun d => ∃ r : Int, d = .int r ∧ 0 ≤ r ∧ r < k := sp_any (c2 := 0) ⟨h0, h1⟩ fun d hd => sp_ret hd
theorem sp_seq {f g : MS} {e : DEnv} {c1 c2 : Nat} {P : Out → Prop} {Q : DEnv → Prop} (h : Sp p c1 (f e) fun o => ∃ e1, o = .nx e1 ∧ Q e1) (k : ∀ e1, Q e1 → Sp p c2 (g e1) P) (hc : c1 + c2 ≤ c := by omega) : Sp p c (mSeq f g e) P :=
  sp_bind h (fun o ho => by obtain ⟨e1, rfl, hq⟩ := ho; exact k e1 hq) hc
end
end Bk
namespace Bk
open PySem PySem.Spec PyProof.Rows L2 ClX
/-- what one turn gives -/
def fElemK (g : FG) (t : FT) (a b : FX) (e0 : DEnv) (d : D) : Rs (Option (Key × D)) := match g d e0 with
  | none => .no
  | some e1 => match t e1 with
    | .ok true => match a e1 with
      | .ok k => match keyD k with
        | some key => match b e1 with
          | .ok y => .ok (some (key, y))
          | _ => .no
        | none => .no
      | _ => .no
    | .ok false => .ok none
    | _ => .no
def fGoK (el : D → Rs (Option (Key × D))) : List D → List (Key × D) → Rs (List (Key × D))
  | [], acc => .ok acc
  | d :: ds, acc => (el d).bind fun o => fGoK el ds (match o with
    | some kv => dput acc kv.1 kv.2
    | none => acc)
@[simp] def fDc (i : FA) (g : FG) (t : FT) (a b : FX) (vs : List Nat) (e : DEnv) : Rs D := (i e).bind fun ds => (fGoK (fElemK g t a b (dwipe e vs)) ds []).calm.bind fun ys => .ok (.dic ys)
end Bk
namespace Bk
open PySem PySem.Spec PyProof.Rows L2
/-- fst: what was given comes first -/
def mixL {α : Type} (fst : Bool) (us ws cs : List α) : List α := if fst then us ++ ws ++ cs else us ++ cs ++ ws
def mixG (fst : Bool) (cs : List D) (ds : List D) (t : D) (ks : List D) : List D := mixL fst ds ks cs ++ [t]
def mixK (fst : Bool) (cs : List D) (ds ks : List D) : List D := mixL fst ds ks cs
@[simp] theorem mixG_t (cs ds : List D) (t : D) (ks : List D) : mixG true cs ds t ks = ds ++ ks ++ cs ++ [t] := rfl
@[simp] theorem mixG_f (cs ds : List D) (t : D) (ks : List D) : mixG false cs ds t ks = ds ++ cs ++ ks ++ [t] := rfl
@[simp] theorem mixK_t (cs ds ks : List D) : mixK true cs ds ks = ds ++ ks ++ cs := rfl
@[simp] theorem mixK_f (cs ds ks : List D) : mixK false cs ds ks = ds ++ cs ++ ks := rfl
abbrev m_law_next : MF := mNext
theorem pm_law_next : PM p_law_next m_law_next := pm_next
@[simp] def fUnp (a : FX) (e : DEnv) : Rs D := (a e).bind fun d => .ok d.unp
def listV (d : D) (s : S) : Option (List D) := match d with
  | .lst xs => some xs
  | .rf (.ref p) => match s.mu p with
    | some (.ml ds) => some ds
    | _ => none
  | _ => none
def oAddM : G2 := fun x y s R => ∃ xs ys, listV x s = some xs ∧ listV y s = some ys ∧ xs.length + ys.length ≤ sizeLine ∧ ∀ p, s.mu p = none → R (.rf (.ref p)) (s.put p (.ml (xs ++ ys)))
section
variable {X : Cx} {T : Tb}
theorem listV_rep {K : PySem.W.Frag} {F H : Hp} {s : S} (hh : Hold K T F s H) {d : D} {v : V} {xs : List D} (r : Rep K T F d v) (h : listV d s = some xs) : ∃ p vs, v = .ref p ∧ H p = some (.lst vs) ∧ Reps K T F xs vs := by
  unfold listV at h
  split at h
  · cases h
    cases r with | lst l rr => exact ⟨_, _, rfl, hh.sub _ _ l, rr⟩
  · cases r
    split at h
    · rename_i e
      cases h
      obtain ⟨_, vs, hp, rr⟩ := hh.mu _ _ e
      exact ⟨_, vs, rfl, hp, rr⟩
    · cases h
  · cases h
theorem od_addM : OpD X T (binaryOp .Add) oAddM := .of op_cat fun F s H x y vx vy R Q hh rx ry hg post => by
  obtain ⟨xs, ys, h1, h2, hz, q⟩ := hg
  obtain ⟨p1, v1, rfl, e1, r1⟩ := listV_rep hh rx h1
  obtain ⟨p2, v2, rfl, e2, r2⟩ := listV_rep hh ry h2
  refine ⟨_, _, _, _, rfl, rfl, e1, e2, by rw [← r1.length, ← r2.length]; exact hz, fun l nl => ?_⟩
  exact post _ _ _ _ F (q l (hh.freshM nl)) (Ext.new hh nl) (hh.new nl ⟨_, rfl, r1.append r2⟩) (.rf _)
end
def gAddL : F2
  | .lst xs, .lst ys => if xs.length + ys.length ≤ sizeLine then some (.lst (xs ++ ys)) else none
  | _, _ => none
theorem vrel_listV {s : S} {d' : D} {xs : List D} (h : VRel s d' (.lst xs)) : listV d' s = some xs := by
  rcases h with rfl | ⟨p, o, rfl, ho, hp⟩
  · rfl
  · cases ho
    show (match s.mu p with | some (.ml ds) => some ds | _ => none) = _
    rw [hp]
def ON (g : F2) (w : G2) : Prop := ∀ x' y' x y d s R, VRel s x' x → VRel s y' y → g x y = some d → (∀ p o, moOf d = some o → s.mu p = none → R (.rf (.ref p)) (s.put p o)) → w x' y' s R
theorem o_addM : ON gAddL oAddM := fun x' y' x y d s R hx hy e q => by
  unfold gAddL at e
  split at e
  · split at e
    · rename_i hz
      cases e
      exact ⟨_, _, vrel_listV hx, vrel_listV hy, hz, fun p hp => q p _ rfl hp⟩
    · cases e
  · cases e
theorem am_opN {M : List Nat} {a b : FX} {wa wb : Exp} {g : F2} {w : G2} (ho : ON g w) (ha : AV M a wa) (hb : AV M b wb) : AM M (fOp g a b) (dOp w wa wb) := fun s0 fe we ws h R E q => by
  refine ha s0 fe we ws h _ E (run_mono (run_bind.mp q) (fun x q x' hx => ?_) fun _ k => k)
  refine hb s0 fe we ws h _ E (run_mono (run_bind.mp q) (fun y q y' hy => ?_) fun _ k => k)
  obtain ⟨d, e, q⟩ := run_opt q
  exact ho x' y' x y d ws R hx hy e q
end Bk
namespace Bk
open PySem PySem.Spec PyProof.Rows L2
end Bk
namespace Bk
open PySem PySem.Spec PyProof.Rows L2
inductive HdsD (X : Cx) (T : Tb) (ms : List Str) : List ExceptHandler → List (Str × Nat × DTS) → Prop
  | nil : HdsD X T ms [] []
  | cons {n x : Str} {c : Str} {i : Nat} {u : DTS} {b₀ : Stmt} {suite : List Stmt} {np pos' : Pos} {hds : List ExceptHandler} {l : List (Str × Nat × DTS)} (hi : X.N[i]? = some n) (hln : X.env.kindOf n = some .local) (hm : c ∈ ms) (hc : Names X x (.ref (T.cls c)))
      (hsu : ∀ (a : Addr) (pn : List (Addr × Obj)), DSs (X.suite a pn) T (fun _ _ _ _ => False) (b₀ :: suite) u) (r : HdsD X T ms hds l) :
      HdsD X T ms (.ExceptHandler (some (.Name x np)) (some n) (b₀ :: suite) pos' :: hds) ((c, i, u) :: l)
section
variable {X : Cx} {T : Tb} {W : WX} {k : Nat} {body : List Stmt} {t : DTS} {kn ms fs : List Str} {h₀ : ExceptHandler} {hds : List ExceptHandler} {l : List (Str × Nat × DTS)} {pos : Pos}
theorem HdsD.mem {hs : List ExceptHandler} (h : HdsD X T ms hs l) : ∀ q ∈ l, q.1 ∈ ms ∧ q.2.1 < X.N.length := by
  induction h with
  | nil => exact fun q hq => (nomatch hq)
  | cons hi hln hm hc hsu r ih =>
    intro q hq
    rcases List.mem_cons.mp hq with e | hq
    · subst e; exact ⟨hm, (List.getElem?_eq_some_iff.mp hi).1⟩
    · exact ih q hq
end
/-- what a suite may count on -/
structure BodS (X : Cx) : Prop where
  grd : X.A.guards = some []
  un : X.A.units + 200 < cLine
theorem Bod.suite {X : Cx} {W : WX} {k : Nat} (B : Bod X W k) (a : Addr) (pn : List (Addr × Obj)) : BodS (X.suite a pn) := ⟨B.grd, by have := B.room.un; show X.A.units + 200 < _; omega⟩
theorem BodS.u64 {X : Cx} (B : BodS X) : X.A.units + 64 < cLine := by have := B.un; omega
theorem BodS.u66 {X : Cx} (B : BodS X) : X.A.units + 66 < cLine := by have := B.un; omega
end Bk
namespace Bk
open PySem PySem.Spec PyProof.Rows L2
end Bk
namespace Bk
open PySem PySem.Spec PyProof.Rows L2
section
variable {M : List Nat} {r : FA} {wr : Arg}
@[simp] def fTupS (r : FA) (e : DEnv) : Rs D := (r e).bind fun ds => if ds.length ≤ sizeLine then .ok (.tup ds) else .no
@[simp] def fLstS (r : FA) (e : DEnv) : Rs D := (r e).bind fun ds => if ds.length ≤ sizeLine then .ok (.lst ds) else .no
end
end Bk
namespace Bk
open PySem PySem.Spec PyProof.Rows L2 ClX
section
variable {M : List Nat} {cn : List Str} {a b : FX} {wa wb : Exp} {F : FF}
@[simp] def fOrO (cn : List Str) (F : FF) (a b : FX) (e : DEnv) : Rs D := (a e).bind fun x => (b e).bind fun y => if objC cn x = true ∧ objC cn y = true then F [x, y] else .no
end
end Bk
namespace Bk
open PySem PySem.Spec PyProof.Rows L2
end Bk
namespace Bk
open PySem PySem.Spec PyProof.Rows L2 ClX
section
variable {X : Cx} {T : Tb} {W : WX} {k n m : Nat} {C f : Addr} {fd : FuncData} {ks ps cn : List Str} {gD : List D → List D → List D} {phi : Fn} {rk : Arg} {kws : List Keyword} {pos p1 apos : Pos} {o : Expr} {fo : Exp} {mt x : Str} {pl : Sem Bool}
theorem argsK0 {pins : List (Addr × Obj)} {σ : L2.St} {F H : Hp} {s : S} {sh : Shared} {fv : Value} {fst : List Value} {Q : Value → Shared → Prop} {E : XQ} {e : DEnv} {P : Heap → Prop} {Rd : List D → S → Prop} (hkw : DK X T W kws rk)
    (I : Inv X pins σ H sh) (he' : ERep X.K T F e σ) (hh : Hold X.K T F s H) (hx : XOk X.K T W F s H E σ) (h : rk e s (fun kd s2 => Rd kd s2) E)
    (hall : (backToKw pos (keywordEach kws X.env)).all (·.1.isSome) = true) (hks : (backToKw pos (keywordEach kws X.env)).filterMap (·.1) = ks)
    (hn : (backToKw pos (keywordEach kws X.env)).any (·.1.isNone) = false)
    (hkp : ∀ h, P h → ∃ k, (k = Keeper.frame ∨ k = Keeper.machine ∨ k = Keeper.boundFrame) ∧ PySem.W.Looks (model X.prog X.w) h (keeperOf fv) k)
    (fin : ∀ ws zs kd s2 F2 H2 sh2, Vals zs ws → Reps X.K T F2 kd zs → Hold X.K T F2 s2 H2 → Ext F s H F2 s2 H2 → Inv X pins σ H2 sh2 → Rd kd s2 → P sh2.heap ∧ wpAny (model X.prog X.w) X.A (call fv fst (ks.zip ws)) Q X.xe sh2) :
    wpAny (model X.prog X.w) X.A (callWith pos fv fst (backTo pos (starEach [] X.env)) (backToKw pos (keywordEach kws X.env))) Q X.xe sh := by
  refine callWith_any (P := P) hn hkp (PyProof.Rows.evalArgs_kw2_nil hall ?_)
  refine thn (hkw.pk.run pos pins sh σ H (fun zs H2 => ∃ (F2 : Hp) (s2 : S) (kd : List D), Reps X.K T F2 kd zs ∧ Hold X.K T F2 s2 H2 ∧ Ext F s H F2 s2 H2 ∧ Rd kd s2) I
    ⟨F, e, s, _, E, he', hh, hx, h, fun kd s2 zs H2 F2 q x2 hh2 rs => ⟨F2, s2, kd, rs, hh2, x2, q⟩⟩) fun ws s2 ⟨zs, H2, I2, rz, F2, t2, kd, rk', hh2, x2, q2⟩ => ?_
  rw [hks]
  obtain ⟨h1, h2⟩ := fin ws zs kd t2 F2 H2 s2 rz rk' hh2 x2 I2 q2
  exact ⟨h1, by rw [List.append_nil]; exact h2⟩
end
end Bk
namespace Bk
open PySem PySem.Spec PyProof.Rows L2
section
variable {X : Cx} {T : Tb}
def isNilT : D → Bool
  | .tup xs => xs.isEmpty
  | _ => false
def gEqA : F2 := fun x y => match y with
  | .tup [] => (match x with
    | .non | .bl _ | .int _ | .str _ | .lst _ | .dic _ => some (.bl false)
    | .tup xs => some (.bl xs.isEmpty)
    | _ => none)
  | _ => none
end
end Bk
namespace Bk.Pa
open PySem PySem.Spec PyProof.Rows L2
abbrev N_is_among : List Str := ["thing", "least", "most"]
def fb_is_among : FS := (fRet (fAndV (fB1 (gIsi "int") (fVar 0)) (fAndV (fNotV (fB1 (gIsi "bool") (fVar 0))) (fChain gLe gLe (fVar 1) (fVar 0) (fVar 2)))))
def f_is_among : FF := fun ds => (fb_is_among (dstart N_is_among ds)).fn
abbrev N_is_name : List Str := ["thing", "letter"]
def fb_is_name : FS := (fRet (fAndV (fB1 (gIsi "str") (fVar 0)) (fAndV (fChain gLe gLe (fC (.int 1)) (fB1 gLen (fVar 0)) (fC (.int 8))) (fB1 (gAll false) (fLc (fIter (fVar 0)) (fgName 1) fYes (fOp (gIn false) (fVar 1) (fC (.str "abcdefghijklmnopqrstuvwxyz"))) [1])))))
def f_is_name : FF := fun ds => (fb_is_name (dstart N_is_name ds)).fn
abbrev N_is_row : List Str := ["thing", "most"]
def fb_is_row : FS := (fRet (fAndV (fB1 (gIsi "tuple") (fVar 0)) (fOp gLe (fB1 gLen (fVar 0)) (fVar 1))))
def f_is_row : FF := fun ds => (fb_is_row (dstart N_is_row ds)).fn
abbrev N_names_of : List Str := ["cells", "cell"]
def fb_names_of : FS := (fRet (fLc (fIter (fVar 0)) (fgName 1) fYes (fOp gIx (fVar 1) (fC (.int 0))) [1]))
def f_names_of : FF := fun ds => (fb_names_of (dstart N_names_of ds)).fn
abbrev N_are_in_order : List Str := ["cells", "thing", "name"]
def fb_are_in_order : FS := (fSeq (fIfS (fOr (fNot (fTst (fCall f_is_row (fCons (fVar 1) (fCons (fC (.int 4)) fNil))))) (fNot (fTst (fB1 (gAll false) (fLc (fIter (fVar 1)) (fgName 2) fYes (fCall f_is_name (fCons (fVar 2) fNil)) [2]))))) (fRet (fC (.bl false))) fNext)
  (fRet (fOp gEq (fLc (fIter (fCall f_names_of (fCons (fVar 0) fNil))) (fgName 2) (fTst (fOp (gIn false) (fVar 2) (fVar 1))) (fVar 2) [2]) (fB1 gList (fVar 1)))))
def f_are_in_order : FF := fun ds => (fb_are_in_order (dstart N_are_in_order ds)).fn
abbrev N_are_terms : List Str := ["cells", "thing", "term"]
def fb_are_terms : FS := (fSeq (fIfS (fNot (fTst (fCall f_is_row (fCons (fVar 1) (fCons (fC (.int 4)) fNil))))) (fRet (fC (.bl false))) fNext)
  (fSeq (fFor (fIter (fVar 1)) (fgName 2) (fSeq (fIfS (fOr (fNot (fTst (fCall f_is_row (fCons (fVar 2) (fCons (fC (.int 2)) fNil))))) (fTst (fOp gNe (fB1 gLen (fVar 2)) (fC (.int 2))))) (fRet (fC (.bl false))) fNext)
  (fIfS (fOr (fNot (fTst (fCall f_is_among (fCons (fOp gIx (fVar 2) (fC (.int 0))) (fCons (fOp gSub (fC (.int 0)) (fC (.int 9))) (fCons (fC (.int 9)) fNil)))))) (fTst (fOp gEq (fOp gIx (fVar 2) (fC (.int 0))) (fC (.int 0))))) (fRet (fC (.bl false))) fNext)) [2])
  (fRet (fCall f_are_in_order (fCons (fVar 0) (fCons (fB1 gTuple (fLc (fIter (fVar 1)) (fgName 2) fYes (fOp gIx (fVar 2) (fC (.int 1))) [2])) fNil))))))
def f_are_terms : FF := fun ds => (fb_are_terms (dstart N_are_terms ds)).fn
abbrev N_is_test : List Str := ["cells", "thing"]
def fb_is_test : FS := (fSeq (fIfS (fOr (fNot (fTst (fCall f_is_row (fCons (fVar 1) (fCons (fC (.int 3)) fNil))))) (fOr (fTst (fOp gNe (fB1 gLen (fVar 1)) (fC (.int 3)))) (fNot (fTst (fCall f_are_terms (fCons (fVar 0) (fCons (fOp gIx (fVar 1) (fC (.int 0))) fNil))))))) (fRet (fC (.bl false))) fNext)
  (fRet (fAndV (fB1 (gIsi "str") (fOp gIx (fVar 1) (fC (.int 1)))) (fAndV (fOp (gIn false) (fOp gIx (fVar 1) (fC (.int 1))) (fC (.tup [(.str "="), (.str "!="), (.str "<"), (.str "<="), (.str ">"), (.str ">=")]))) (fCall f_is_among (fCons (fOp gIx (fVar 1) (fC (.int 2))) (fCons (fOp gSub (fC (.int 0)) (fC (.int 99))) (fCons (fC (.int 99)) fNil))))))))
def f_is_test : FF := fun ds => (fb_is_test (dstart N_is_test ds)).fn
abbrev N_need_formula : List Str := ["cells", "thing", "i", "case", "j", "test"]
def fb_need_formula : FS := (fSeq (fIfS (fNot (fTst (fCall f_is_row (fCons (fVar 1) (fCons (fC (.int 4)) fNil))))) (fRaise "BadFormula" "place" (fTup fNil)) fNext)
  (fSeq (fFor (fEnumT (fVar 1)) (fgTup 2 (fgCons (fgName 2) (fgCons (fgName 3) fgNil))) (fIfS (fNot (fTst (fCall f_is_row (fCons (fVar 3) (fCons (fC (.int 4)) fNil))))) (fRaise "BadFormula" "place" (fTup (fCons (fVar 2) fNil))) fNext) [3, 2])
  (fSeq (fFor (fEnumT (fVar 1)) (fgTup 2 (fgCons (fgName 2) (fgCons (fgName 3) fgNil))) (fFor (fEnumT (fVar 3)) (fgTup 2 (fgCons (fgName 4) (fgCons (fgName 5) fgNil))) (fIfS (fNot (fTst (fCall f_is_test (fCons (fVar 0) (fCons (fVar 5) fNil))))) (fRaise "BadFormula" "place" (fTup (fCons (fVar 2) (fCons (fVar 4) fNil)))) fNext) [4, 5]) [3, 2, 4, 5])
  (fRet (fVar 1)))))
def f_need_formula : FF := fun ds => (fb_need_formula (dstart N_need_formula ds)).fn
abbrev N_are_parts : List Str := ["cells", "thing", "most", "part", "found", "name"]
def fb_are_parts : FS := (fSeq (fIfS (fNot (fTst (fCall f_is_row (fCons (fVar 1) (fCons (fVar 2) fNil))))) (fRet (fC (.bl false))) fNext)
  (fSeq (fFor (fIter (fVar 1)) (fgName 3) (fIfS (fOr (fTst (fOp gEqA (fVar 3) (fTup fNil))) (fNot (fTst (fCall f_are_in_order (fCons (fVar 0) (fCons (fVar 3) fNil)))))) (fRet (fC (.bl false))) fNext) [3])
  (fSeq (fSet 4 (fLc2 (fIter (fVar 1)) (fgName 3) fYes (fIter (fVar 3)) (fgName 5) fYes (fVar 5) [3, 5] [5]))
  (fRet (fOp gEq (fB1 gLenSet (fVar 4)) (fB1 gLen (fVar 4)))))))
def f_are_parts : FF := fun ds => (fb_are_parts (dstart N_are_parts ds)).fn
abbrev N_names_in : List Str := ["formula", "case", "test", "term"]
def fb_names_in : FS := (fRet (fLc3 (fIter (fVar 0)) (fgName 1) fYes (fIter (fVar 1)) (fgName 2) fYes (fIter (fOp gIx (fVar 2) (fC (.int 0)))) (fgName 3) fYes (fOp gIx (fVar 3) (fC (.int 1))) [1, 2, 3] [2, 3] [3]))
def f_names_in : FF := fun ds => (fb_names_in (dstart N_names_in ds)).fn
abbrev N_is_formula_of : List Str := ["cells", "thing", "known", "name"]
def fb_is_formula_of : FS := (fSeq (fTry ["BadFormula"] "BadFormula" (fDrop (fCall f_need_formula (fCons (fVar 0) (fCons (fVar 1) fNil)))) (fRet (fC (.bl false))))
  (fRet (fB1 (gAll false) (fLc (fIter (fCall f_names_in (fCons (fVar 1) fNil))) (fgName 3) fYes (fOp (gIn false) (fVar 3) (fVar 2)) [3]))))
def f_is_formula_of : FF := fun ds => (fb_is_formula_of (dstart N_is_formula_of ds)).fn
abbrev N_is_set : List Str := ["cells", "thing", "known", "term"]
def fb_is_set : FS := (fSeq (fIfS (fOr (fNot (fTst (fCall f_is_row (fCons (fVar 1) (fCons (fC (.int 3)) fNil))))) (fOr (fTst (fOp gNe (fB1 gLen (fVar 1)) (fC (.int 3)))) (fOr (fNot (fTst (fCall f_is_name (fCons (fOp gIx (fVar 1) (fC (.int 0))) fNil)))) (fTst (fOp (gIn true) (fOp gIx (fVar 1) (fC (.int 0))) (fCall f_names_of (fCons (fVar 0) fNil))))))) (fRet (fC (.bl false))) fNext)
  (fSeq (fIfS (fOr (fNot (fTst (fCall f_are_terms (fCons (fVar 0) (fCons (fOp gIx (fVar 1) (fC (.int 1))) fNil))))) (fNot (fTst (fCall f_is_among (fCons (fOp gIx (fVar 1) (fC (.int 2))) (fCons (fOp gSub (fC (.int 0)) (fC (.int 99))) (fCons (fC (.int 99)) fNil))))))) (fRet (fC (.bl false))) fNext)
  (fRet (fB1 (gAll false) (fLc (fIter (fOp gIx (fVar 1) (fC (.int 1)))) (fgName 3) fYes (fOp (gIn false) (fOp gIx (fVar 3) (fC (.int 1))) (fVar 2)) [3])))))
def f_is_set : FF := fun ds => (fb_is_set (dstart N_is_set ds)).fn
abbrev N_are_sets : List Str := ["cells", "thing", "known", "one"]
def fb_are_sets : FS := (fSeq (fIfS (fOr (fNot (fTst (fCall f_is_row (fCons (fVar 1) (fCons (fC (.int 4)) fNil))))) (fNot (fTst (fB1 (gAll false) (fLc (fIter (fVar 1)) (fgName 3) fYes (fCall f_is_set (fCons (fVar 0) (fCons (fVar 3) (fCons (fVar 2) fNil)))) [3]))))) (fRet (fC (.bl false))) fNext)
  (fRet (fCall f_are_in_order (fCons (fVar 0) (fCons (fB1 gTuple (fLc (fIter (fVar 1)) (fgName 3) fYes (fOp gIx (fVar 3) (fC (.int 0))) [3])) fNil)))))
def f_are_sets : FF := fun ds => (fb_are_sets (dstart N_are_sets ds)).fn
abbrev N_fault_of : List Str := ["cells", "thing", "name", "level", "looks", "when", "sets", "marks", "known", "part", "one"]
def fb_fault_of : FS := (fSeq (fIfS (fOr (fNot (fTst (fCall f_is_row (fCons (fVar 1) (fCons (fC (.int 6)) fNil))))) (fTst (fOp gNe (fB1 gLen (fVar 1)) (fC (.int 6))))) (fRet (fC (.str "form"))) fNext)
  (fSeq (fAsg (fVar 1) (fgTup 6 (fgCons (fgName 2) (fgCons (fgName 3) (fgCons (fgName 4) (fgCons (fgName 5) (fgCons (fgName 6) (fgCons (fgName 7) fgNil))))))))
  (fSeq (fIfS (fNot (fTst (fCall f_is_name (fCons (fVar 2) fNil)))) (fRet (fC (.str "name"))) fNext)
  (fSeq (fIfS (fOr (fNot (fTst (fB1 (gIsi "str") (fVar 3)))) (fTst (fOp (gIn true) (fVar 3) (fC (.tup [(.str "each"), (.str "one"), (.str "last")]))))) (fRet (fC (.str "level"))) fNext)
  (fSeq (fIfS (fNot (fTst (fCall f_are_parts (fCons (fVar 0) (fCons (fVar 4) (fCons (fC (.int 3)) fNil)))))) (fRet (fC (.str "looks"))) fNext)
  (fSeq (fSet 8 (fLc2 (fIter (fVar 4)) (fgName 9) fYes (fIter (fVar 9)) (fgName 2) fYes (fVar 2) [9, 2] [2]))
  (fSeq (fIfS (fNot (fTst (fCall f_is_formula_of (fCons (fVar 0) (fCons (fVar 5) (fCons (fVar 8) fNil)))))) (fRet (fC (.str "when"))) fNext)
  (fSeq (fIfS (fNot (fTst (fCall f_are_sets (fCons (fVar 0) (fCons (fVar 6) (fCons (fVar 8) fNil)))))) (fRet (fC (.str "sets"))) fNext)
  (fSeq (fIfS (fOr (fNot (fTst (fCall f_are_in_order (fCons (fVar 0) (fCons (fVar 7) fNil))))) (fTst (fB1 (gAll true) (fLc (fIter (fVar 6)) (fgName 10) fYes (fOp (gIn false) (fOp gIx (fVar 10) (fC (.int 0))) (fVar 7)) [10])))) (fRet (fC (.str "marks"))) fNext)
  (fRet (fC .non)))))))))))
def f_fault_of : FF := fun ds => (fb_fault_of (dstart N_fault_of ds)).fn
abbrev N_need_program : List Str := ["cells", "thing", "fault"]
def fb_need_program : FS := (fSeq (fSet 2 (fCall f_fault_of (fCons (fVar 0) (fCons (fVar 1) fNil))))
  (fSeq (fIfS (fTst (fOp (gIsN true) (fVar 2) (fC .non))) (fRaise "BadProgram" "place" (fVar 2)) fNext)
  (fRet (fVar 1))))
def f_need_program : FF := fun ds => (fb_need_program (dstart N_need_program ds)).fn
end Bk.Pa
namespace Bk
open PySem PySem.Spec PyProof.Rows L2
@[elab_as_elim] theorem thS_cases {P : D → Prop} {d : D} (h : ThS d) (non : P .non) (bl : ∀ b, P (.bl b)) (int : ∀ i, P (.int i)) (str : ∀ x, PyData.strOk x = true → x.length ≤ 100000 → P (.str x)) (lst : ∀ xs, xs.length ≤ 100000 → (∀ x ∈ xs, ThS x) → P (.lst xs)) (tup : ∀ xs, xs.length ≤ 100000 → (∀ x ∈ xs, ThS x) → P (.tup xs)) (dic : P (.dic [])) : P d := by
  cases d with
  | non => exact non
  | bl b => exact bl b
  | int i => exact int i
  | str x =>
    obtain ⟨b, n, w, ht, _, _, hw⟩ := h
    exact str x (th_str_iff ht).1 (Nat.le_trans (th_str_iff ht).2 hw)
  | tup xs => exact tup xs (ths_len' h) fun x hx => ths_item h rfl hx
  | lst xs =>
    obtain ⟨b, n, w, ht, h1, h2, h3⟩ := h
    obtain ⟨n, rfl⟩ : ∃ m, n = m + 1 := by
      have := ht.dep
      rw [D.py, PyData.depth] at this
      exact ⟨n - 1, by omega⟩
    have hs := th_lst.mp ht
    exact lst xs (Nat.le_trans (ths_len hs) h3) fun x hx => ⟨b, n, w, th_mem hs hx, h1, by omega, h3⟩
  | dic kvs =>
    cases kvs with
    | nil => exact dic
    | cons k kvs =>
      obtain ⟨b, n, w, ht, _⟩ := h
      have := ht.g
      rw [D.good] at this
      cases this
  | _ =>
    obtain ⟨b, n, w, ht, _⟩ := h
    have := ht.g
    rw [D.good] at this
    cases this
@[simp] theorem isTy_NoneType_bool : isTy "NoneType" "bool" = false := by decide
@[simp] theorem isTy_NoneType_int : isTy "NoneType" "int" = false := by decide
@[simp] theorem isTy_NoneType_str : isTy "NoneType" "str" = false := by decide
@[simp] theorem isTy_NoneType_list : isTy "NoneType" "list" = false := by decide
@[simp] theorem isTy_NoneType_tuple : isTy "NoneType" "tuple" = false := by decide
@[simp] theorem isTy_NoneType_dict : isTy "NoneType" "dict" = false := by decide
@[simp] theorem isTy_bool_bool : isTy "bool" "bool" = true := by decide
@[simp] theorem isTy_bool_int : isTy "bool" "int" = true := by decide
@[simp] theorem isTy_bool_str : isTy "bool" "str" = false := by decide
@[simp] theorem isTy_bool_list : isTy "bool" "list" = false := by decide
@[simp] theorem isTy_bool_tuple : isTy "bool" "tuple" = false := by decide
@[simp] theorem isTy_bool_dict : isTy "bool" "dict" = false := by decide
@[simp] theorem isTy_int_bool : isTy "int" "bool" = false := by decide
@[simp] theorem isTy_int_int : isTy "int" "int" = true := by decide
@[simp] theorem isTy_int_str : isTy "int" "str" = false := by decide
@[simp] theorem isTy_int_list : isTy "int" "list" = false := by decide
@[simp] theorem isTy_int_tuple : isTy "int" "tuple" = false := by decide
@[simp] theorem isTy_int_dict : isTy "int" "dict" = false := by decide
@[simp] theorem isTy_str_bool : isTy "str" "bool" = false := by decide
@[simp] theorem isTy_str_int : isTy "str" "int" = false := by decide
@[simp] theorem isTy_str_str : isTy "str" "str" = true := by decide
@[simp] theorem isTy_str_list : isTy "str" "list" = false := by decide
@[simp] theorem isTy_str_tuple : isTy "str" "tuple" = false := by decide
@[simp] theorem isTy_str_dict : isTy "str" "dict" = false := by decide
@[simp] theorem isTy_list_bool : isTy "list" "bool" = false := by decide
@[simp] theorem isTy_list_int : isTy "list" "int" = false := by decide
@[simp] theorem isTy_list_str : isTy "list" "str" = false := by decide
@[simp] theorem isTy_list_list : isTy "list" "list" = true := by decide
@[simp] theorem isTy_list_tuple : isTy "list" "tuple" = false := by decide
@[simp] theorem isTy_list_dict : isTy "list" "dict" = false := by decide
@[simp] theorem isTy_tuple_bool : isTy "tuple" "bool" = false := by decide
@[simp] theorem isTy_tuple_int : isTy "tuple" "int" = false := by decide
@[simp] theorem isTy_tuple_str : isTy "tuple" "str" = false := by decide
@[simp] theorem isTy_tuple_list : isTy "tuple" "list" = false := by decide
@[simp] theorem isTy_tuple_tuple : isTy "tuple" "tuple" = true := by decide
@[simp] theorem isTy_tuple_dict : isTy "tuple" "dict" = false := by decide
@[simp] theorem isTy_dict_bool : isTy "dict" "bool" = false := by decide
@[simp] theorem isTy_dict_int : isTy "dict" "int" = false := by decide
@[simp] theorem isTy_dict_str : isTy "dict" "str" = false := by decide
@[simp] theorem isTy_dict_list : isTy "dict" "list" = false := by decide
@[simp] theorem isTy_dict_tuple : isTy "dict" "tuple" = false := by decide
@[simp] theorem isTy_dict_dict : isTy "dict" "dict" = true := by decide
@[simp] theorem mem_ty_bool : ("bool" : String) ∈ tyNames := by decide
@[simp] theorem mem_ty_int : ("int" : String) ∈ tyNames := by decide
@[simp] theorem mem_ty_str : ("str" : String) ∈ tyNames := by decide
@[simp] theorem mem_ty_list : ("list" : String) ∈ tyNames := by decide
@[simp] theorem mem_ty_tuple : ("tuple" : String) ∈ tyNames := by decide
@[simp] theorem mem_ty_dict : ("dict" : String) ∈ tyNames := by decide
@[simp] theorem bls_map {α : Type} (p : α → Bool) (xs : List α) : bls (xs.map fun a => D.bl (p a)) = some (xs.map p) := by
  have := bls_bools (xs.map p)
  rwa [List.map_map] at this
@[simp] theorem signs_lenS (x : Str) : (signs x).length = x.length := signs_len x
@[simp] theorem atI_c0 {α : Type} (a : α) (r : List α) : atI (a :: r) 0 = some a := by rw [show (0 : Int) = ((0 : Nat) : Int) from rfl, atI_nat (by simp)]; rfl
@[simp] theorem atI_c1 {α : Type} (a b : α) (r : List α) : atI (a :: b :: r) 1 = some b := by rw [show (1 : Int) = ((1 : Nat) : Int) from rfl, atI_nat (by simp)]; rfl
@[simp] theorem atI_c2 {α : Type} (a b c : α) (r : List α) : atI (a :: b :: c :: r) 2 = some c := by rw [show (2 : Int) = ((2 : Nat) : Int) from rfl, atI_nat (by simp)]; rfl
@[simp] theorem atI_c3 {α : Type} (a b c d : α) (r : List α) : atI (a :: b :: c :: d :: r) 3 = some d := by rw [show (3 : Int) = ((3 : Nat) : Int) from rfl, atI_nat (by simp)]; rfl
@[simp] theorem atI_c4 {α : Type} (a b c d e : α) (r : List α) : atI (a :: b :: c :: d :: e :: r) 4 = some e := by rw [show (4 : Int) = ((4 : Nat) : Int) from rfl, atI_nat (by simp)]; rfl
@[simp] theorem atI_c5 {α : Type} (a b c d e f : α) (r : List α) : atI (a :: b :: c :: d :: e :: f :: r) 5 = some f := by rw [show (5 : Int) = ((5 : Nat) : Int) from rfl, atI_nat (by simp)]; rfl
@[simp] theorem gNe_int (i j : Int) : gNe (.int i) (.int j) = some (.bl (!decide (i = j))) := by
  unfold gNe
  rw [if_pos ⟨eqOk_int _, eqOk_int _⟩, eqb_int]
@[simp] theorem gEq_int (i j : Int) : gEq (.int i) (.int j) = some (.bl (decide (i = j))) := by
  unfold gEq
  rw [if_pos ⟨eqOk_int _, eqOk_int _⟩, eqb_int]
theorem map_strs {α : Type} (f : α → Str) (xs : List α) : (xs.map fun a => D.str (f a)) = texts (xs.map f) := by
  unfold texts; rw [List.map_map]; rfl
theorem eqb_texts : ∀ a b : List Str, (D.lst (texts a)).eqb (.lst (texts b)) = decide (a = b) := by
  have go : ∀ a b : List Str, PyData.eqvAll (D.pys (texts a)) (D.pys (texts b)) = decide (a = b) := by
    intro a
    induction a with
    | nil =>
      intro b
      cases b with
      | nil => show PyData.eqvAll (D.pys []) (D.pys []) = _; rw [D.pys, PyData.eqvAll]; rfl
      | cons y b => show PyData.eqvAll (D.pys []) (D.pys (.str y :: texts b)) = _; rw [D.pys, D.pys, PyData.eqvAll]; rfl
    | cons x a ih =>
      intro b
      cases b with
      | nil => show PyData.eqvAll (D.pys (.str x :: texts a)) (D.pys []) = _; rw [D.pys, D.pys, PyData.eqvAll]; rfl
      | cons y b =>
        show PyData.eqvAll (D.pys (.str x :: texts a)) (D.pys (.str y :: texts b)) = _
        rw [D.pys, D.pys, PyData.eqvAll, ih]
        have e : PyData.eqv (D.str x).py (D.str y).py = decide (x = y) := eqb_str x y
        rw [e]
        by_cases h1 : x = y <;> by_cases h2 : a = b <;> simp [h1, h2]
  intro a b
  unfold D.eqb
  rw [D.py, D.py, PyData.eqv]
  exact go a b
theorem okd_strs {zs : List Str} {w : Nat} (h : ∀ x ∈ zs, PyData.strOk x = true ∧ x.length ≤ w) : ∀ x ∈ texts zs, Okd 0 w x := fun d hd => by
  obtain ⟨x, hx, rfl⟩ := List.mem_map.mp hd
  exact okd_str (h x hx).1 (h x hx).2
theorem eqOk_strs {zs : List Str} {w : Nat} (h : ∀ x ∈ zs, PyData.strOk x = true ∧ x.length ≤ w) : (D.lst (texts zs)).eqOk = true := (okd_lst (n := zs.length) (k := 0) (okd_strs h) (by rw [texts_len]; exact Nat.le_refl _)).eqOk (by decide)
theorem eqOk_strsT {zs : List Str} {w : Nat} (h : ∀ x ∈ zs, PyData.strOk x = true ∧ x.length ≤ w) : (D.tup (texts zs)).eqOk = true := (okd_tup (n := zs.length) (k := 0) (okd_strs h) (by rw [texts_len]; exact Nat.le_refl _)).eqOk (by decide)
theorem strsF_all : ∀ {xs : List D}, (∀ x ∈ xs, ∃ z, x = D.str z) → ∃ zs, xs = texts zs
  | [], _ => ⟨[], rfl⟩
  | x :: xs, h => by
    obtain ⟨z, rfl⟩ := h x List.mem_cons_self
    obtain ⟨zs, rfl⟩ := strsF_all fun y hy => h y (List.mem_cons_of_mem _ hy)
    exact ⟨z :: zs, rfl⟩
theorem inOrd_sub {ns : List Str} {xs : List D} (h : inOrdB ns xs = true) : ∃ zs, xs = texts zs ∧ ns.filter (fun n => decide (n ∈ zs)) = zs := by
  unfold inOrdB at h
  split at h
  · rename_i zs hz
    exact ⟨zs, strsF_some hz, of_decide_eq_true h⟩
  · cases h
theorem inOrd_texts (ns zs : List Str) : inOrdB ns (texts zs) = decide (ns.filter (fun n => decide (n ∈ zs)) = zs) := by
  unfold inOrdB
  rw [strsF_texts]
theorem inL_low : ∀ c ∈ letters.cps.toList, inL c = true := by decide +kernel
theorem nameB_low {x : Str} (h : lowS x) : nameB (.str x) = true := by
  show (decide (1 ≤ x.length) && decide (x.length ≤ 8) && x.cps.toList.all inL) = true
  rw [decide_eq_true h.1, decide_eq_true h.2.1, Bool.true_and, Bool.true_and, List.all_eq_true]
  exact fun c hc => inL_low c (h.2.2 c hc)
theorem th_str_ok {x : Str} (h : ThS (.str x)) : PyData.strOk x = true ∧ x.length ≤ 100000 := by
  obtain ⟨b, n, w, ht, _, _, hw⟩ := h
  exact ⟨(th_str_iff ht).1, Nat.le_trans (th_str_iff ht).2 hw⟩
theorem str_line {x : Str} (h : x.length ≤ 100000) : x.length ≤ sizeLine := sz _ (by omega)
theorem gIn_sign (c : Nat) : gIn false (.str ⟨#[c]⟩) (.str "abcdefghijklmnopqrstuvwxyz") = some (.bl (inL c)) := rfl
end Bk
namespace Bk.Pa
open PySem PySem.Spec PyProof.Rows L2
theorem is_among_eq {d : D} (h : ThS d) (lo hi : Int) : f_is_among [d, .int lo, .int hi] = .ok (.bl (amongB d lo hi)) := by
  refine thS_cases h ?_ ?_ ?_ ?_ ?_ ?_ ?_ <;> intros <;> simp [f_is_among, fb_is_among, amongB]
  split <;> simp_all
  omega
theorem is_row_eq {d : D} (h : ThS d) (k : Int) : f_is_row [d, .int k] = .ok (.bl (rowB d k)) := by
  refine thS_cases h ?_ ?_ ?_ ?_ ?_ ?_ ?_ <;> intros <;> simp [f_is_row, fb_is_row, rowB]
theorem is_name_eq {d : D} (h : ThS d) : f_is_name [d] = .ok (.bl (nameB d)) := by
  refine thS_cases h ?_ ?_ ?_ ?_ ?_ ?_ ?_ <;> intros <;> simp [f_is_name, fb_is_name, nameB]
  rename_i x _ hx
  rw [if_pos (str_line hx), signs, fGo_map (F := fun c => .bl (inL c)) (h := fun c _ => by simp [fElem, gIn_sign])]
  simp [str_line hx]
  have e1 : ((1 : Int) ≤ (x.length : Nat)) = (1 ≤ x.length) := propext (by omega)
  have e2 : (((x.length : Nat) : Int) ≤ 8) = (x.length ≤ 8) := propext (by omega)
  simp only [e1, e2]
  by_cases h1 : 1 ≤ x.length <;> by_cases h2 : x.length ≤ 8 <;> simp [h1, h2]
theorem names_of_eq (cs : List (Str × Int)) : f_names_of [cellsD cs] = .ok (.lst (texts (cs.map (·.1)))) := by
  simp [f_names_of, fb_names_of, cellsD]
  rw [fGo_map (F := fun c => .str c.1) (h := fun c _ => by simp [fElem, cellD])]
  simp [map_strs]
theorem row_false {d : D} {k : Int} (h : rowB d k = false) {xs : List D} (e : d = .tup xs) : k < xs.length := by
  subst e
  have := of_decide_eq_false (show decide ((xs.length : Int) ≤ k) = false from h)
  omega
theorem in_row {ns : List Str} {d : D} (hn : ns.length ≤ 4) (h : rowB d 4 = false) : inOrdT ns d = false := by
  cases d with
  | tup xs =>
    cases hb : inOrdT ns (.tup xs) with
    | false => rfl
    | true =>
      obtain ⟨zs, rfl, hz⟩ := inOrd_sub hb
      have h4 := List.length_filter_le (fun n => decide (n ∈ zs)) ns
      have := row_false h rfl
      rw [hz] at h4
      rw [texts_len] at this
      omega
  | _ => rfl
theorem gIn_texts {x : Str} {zs : List Str} (hx : nmOk x) (hz : ∀ y ∈ zs, PyData.strOk y = true ∧ y.length ≤ 100000) : gIn false (.str x) (.tup (texts zs)) = some (.bl (decide (x ∈ zs))) := by
  show (if _ then _ else _) = _
  rw [if_pos ⟨eqOk_nm hx, eqOk_strsT hz⟩]
  simp [isIn_texts]
theorem fGo_texts {el : D → Rs (Option D)} (c : Str → Bool) {ns : List Str} (h : ∀ x ∈ ns, el (.str x) = .ok (if c x = true then some (.str x) else none)) : fGo el (texts ns) = .ok (texts (ns.filter c)) := fGo_filter D.str D.str c h
theorem fGo_textsM {el : D → Rs (Option D)} (F : Str → D) {ns : List Str} (h : ∀ x ∈ ns, el (.str x) = .ok (some (F x))) : fGo el (texts ns) = .ok (ns.map F) := fGo_map D.str F h
theorem all_id {α : Type} (p : α → Bool) (xs : List α) : (xs.map p).all id = xs.all p := by rw [List.all_map]; rfl
theorem any_id {α : Type} (p : α → Bool) (xs : List α) : (xs.map p).any id = xs.any p := by rw [List.any_map]; rfl
theorem cells_low {cs : List (Str × Int)} (hc : CellsOk cs) : ∀ x ∈ cs.map (·.1), lowS x := fun x hx => by
  obtain ⟨c, hc', rfl⟩ := List.mem_map.mp hx
  exact hc.low c hc'
theorem cells_nm {cs : List (Str × Int)} (hc : CellsOk cs) : ∀ x ∈ cs.map (·.1), nmOk x := fun x hx => by
  obtain ⟨c, hc', rfl⟩ := List.mem_map.mp hx
  exact hc.nm c hc'
theorem gEq_texts {a b : List Str} (ha : ∀ x ∈ a, nmOk x) (hb : ∀ y ∈ b, PyData.strOk y = true ∧ y.length ≤ 100000) : gEq (.lst (texts a)) (.lst (texts b)) = some (.bl (decide (a = b))) := by
  unfold gEq
  rw [if_pos ⟨eqOk_texts ha, eqOk_strs hb⟩, eqb_texts]
theorem are_in_order_eq {cs : List (Str × Int)} {d : D} (hc : CellsOk cs) (h : ThS d) : f_are_in_order [cellsD cs, d] = .ok (.bl (inOrdT (cs.map (·.1)) d)) := by
  simp [f_are_in_order, fb_are_in_order, is_row_eq h, names_of_eq]
  cases hr : rowB d 4 with
  | false => simp [in_row (ns := cs.map (·.1)) (by rw [List.length_map]; exact hc.len) hr]
  | true =>
    obtain ⟨xs, rfl, hl⟩ := row_tup hr
    have hit : ∀ x ∈ xs, ThS x := fun x hx => ths_item h rfl hx
    simp
    rw [fGo_all (F := fun x => .bl (nameB x)) (h := fun x hx => by simp [fElem, is_name_eq (hit x hx)])]
    cases ha : xs.all nameB with
    | false =>
      simp [-List.all_eq_true, all_id, ha]
      cases hb : inOrdT (cs.map (·.1)) (.tup xs) with
      | false => rfl
      | true =>
        obtain ⟨zs, rfl, hf⟩ := inOrd_sub hb
        rw [List.all_eq_false] at ha
        obtain ⟨y, hy, hn⟩ := ha
        obtain ⟨z, hzm, rfl⟩ := List.mem_map.mp hy
        rw [← hf] at hzm
        exact absurd (nameB_low (cells_low hc z (List.mem_filter.mp hzm).1)) hn
    | true =>
      obtain ⟨zs, rfl⟩ := strsF_all (xs := xs) fun y hy => by
        have := List.all_eq_true.mp ha y hy
        cases y with
        | str z => exact ⟨z, rfl⟩
        | _ => cases this
      have hzs : ∀ x ∈ zs, PyData.strOk x = true ∧ x.length ≤ 100000 := fun x hx => th_str_ok (hit _ (List.mem_map.mpr ⟨x, hx, rfl⟩))
      simp [-List.all_eq_true, all_id, ha, names_of_eq]
      rw [fGo_texts (fun x => decide (x ∈ zs)) (fun x hx => by simp [fElem, gIn_texts (cells_nm hc x hx) hzs]; by_cases hz : x ∈ zs <;> simp [hz])]
      simp [gEq_texts (fun x hx => cells_nm hc x (List.mem_filter.mp hx).1) hzs, inOrdT, inOrd_texts]
theorem two_of {xs : List D} (h : xs.length = 2) : ∃ a b, xs = [a, b] := by
  match xs, h with
  | [a, b], _ => exact ⟨a, b, rfl⟩
theorem three_of {xs : List D} (h : xs.length = 3) : ∃ a b c, xs = [a, b, c] := by
  match xs, h with
  | [a, b, c], _ => exact ⟨a, b, c, rfl⟩
theorem six_of {xs : List D} (h : xs.length = 6) : ∃ a b c d e f, xs = [a, b, c, d, e, f] := by
  match xs, h with
  | [a, b, c, d, e, f], _ => exact ⟨a, b, c, d, e, f, rfl⟩
theorem termB_pair {d : D} (h : termB d = true) : ∃ i b, d = .tup [.int i, b] := by
  unfold termB at h
  split at h
  · exact ⟨_, _, rfl⟩
  · cases h
theorem termB_len {xs : List D} (h : xs.length ≠ 2) : termB (.tup xs) = false := by
  unfold termB
  split
  · rename_i e; cases e; exact absurd rfl h
  · rfl
theorem thS_snds {xs : List D} (h : ThS (.tup xs)) : ThS (.tup (xs.map sndD)) := by
  obtain ⟨b, n, w, ht, h1, h2, h3⟩ := h
  obtain ⟨m, rfl, hs⟩ := tup_items ht
  refine ⟨b, m + 1, w, th_tup.mpr ?_, h1, h2, h3⟩
  have one : ∀ (x : D) (u : Nat), Th b m u x → Th b m u (sndD x) := fun x u hx => by
    unfold sndD
    split
    · rename_i a c
      obtain ⟨k, rfl, hs2⟩ := tup_items hx
      obtain ⟨w1, w2, e, g1, g2⟩ := ths_cons_iff.mp hs2
      obtain ⟨w3, w4, e2, g3, g4⟩ := ths_cons_iff.mp g2
      exact g3.mono (Int.le_refl _) (by omega) (by omega)
    · exact th_non.mono (Int.le_refl _) (Nat.zero_le _) (Nat.zero_le _)
  clear ht h3
  induction xs generalizing w with
  | nil => exact hs.mono (Int.le_refl _) (Nat.le_refl _) (Nat.le_refl _)
  | cons x xs ih =>
    obtain ⟨w1, w2, e, g1, g2⟩ := ths_cons_iff.mp hs
    exact (ths_cons (one x w1 g1) (ih w2 g2)).mono (Int.le_refl _) (Nat.le_refl _) (by omega)
theorem are_terms_eq {cs : List (Str × Int)} {d : D} (hc : CellsOk cs) (h : ThS d) : f_are_terms [cellsD cs, d] = .ok (.bl (termsB (cs.map (·.1)) d)) := by
  simp [f_are_terms, fb_are_terms, is_row_eq h]
  cases hr : rowB d 4 with
  | false =>
    simp
    cases d with
    | tup xs =>
      have := row_false hr rfl
      simp [termsB]
      omega
    | _ => rfl
  | true =>
    obtain ⟨xs, rfl, hl⟩ := row_tup hr
    have hit : ∀ x ∈ xs, ThS x := fun x hx => ths_item h rfl hx
    simp
    rw [loop_allD termB (.rt (.bl false)) (fun a ha k => by
      have hT := hit a ha
      simp [is_row_eq hT]
      cases h2 : rowB a 2 with
      | false =>
        have : termB a = false := by
          cases a with
          | tup ys => exact termB_len (by have := row_false h2 rfl; omega)
          | _ => rfl
        simp [this]
      | true =>
        obtain ⟨ys, rfl, hy⟩ := row_tup h2
        by_cases hy2 : ys.length = 2
        · obtain ⟨u, v, rfl⟩ := two_of hy2
          have hu := ths_item hT rfl (x := u) (by simp)
          simp [is_among_eq hu]
          cases u with
          | int i =>
            simp [amongB, termB, gEq_int]
            by_cases q1 : -9 ≤ i <;> by_cases q2 : i ≤ 9 <;> by_cases q3 : i = 0 <;> simp [q1, q2, q3]
            intro; omega
          | _ => simp [amongB, termB]
        · have : termB (.tup ys) = false := termB_len hy2
          simp [this, show ¬ ((ys.length : Int) = 2) by omega, gEq_int])]
    have h4 : xs.length ≤ 4 := by omega
    cases ha : xs.all termB with
    | false => simp [termsB, ha, -List.all_eq_true]
    | true =>
      simp [termsB, ha, h4, -List.all_eq_true]
      rw [fGo_all (F := sndD) (h := fun x hx => by
        obtain ⟨i, b, rfl⟩ := termB_pair (List.all_eq_true.mp ha x hx)
        simp [fElem, sndD])]
      simp [are_in_order_eq hc (thS_snds h), inOrdT]
end Bk.Pa
namespace Bk
open PySem PySem.Spec PyProof.Rows L2
theorem fault_row {ns : List Str} {d : D} (h : rowB d 4 = false) : faultF ns d = some (.tup []) := by
  cases d with
  | tup xs =>
    replace h : decide ((xs.length : Int) ≤ 4) = false := h
    have := of_decide_eq_false h
    show (if 4 < xs.length then _ else _) = _
    rw [if_pos (by omega)]
  | _ => rfl
theorem bad_of {ns : List Str} {c : D} {j : Nat} (hj : (itemsD c).findIdx? (fun t => !testB ns t) = some j) : badCase ns c = true := by
  obtain ⟨h, h1, _⟩ := List.findIdx?_eq_some_iff_getElem.mp hj
  exact List.any_eq_true.mpr ⟨_, List.getElem_mem h, h1⟩
theorem not_bad {ns : List Str} {c : D} (hj : (itemsD c).findIdx? (fun t => !testB ns t) = none) : badCase ns c = false := by
  refine List.any_eq_false.mpr fun x hx => ?_
  rw [List.findIdx?_eq_none_iff.mp hj x hx]; decide
theorem gIn_strs {neg : Bool} {x : Str} {zs : List Str} (hx : PyData.strOk x = true ∧ x.length ≤ 100000) (hz : ∀ y ∈ zs, PyData.strOk y = true ∧ y.length ≤ 100000) : gIn neg (.str x) (.tup (texts zs)) = some (.bl (if neg then !decide (x ∈ zs) else decide (x ∈ zs))) := by
  show (if _ then _ else _) = _
  rw [if_pos ⟨(okd_str (k := 0) hx.1 hx.2).eqOk (by decide), eqOk_strsT hz⟩]
  simp [isIn_texts]
theorem gIn_strsL {neg : Bool} {x : Str} {zs : List Str} (hx : PyData.strOk x = true ∧ x.length ≤ 100000) (hz : ∀ y ∈ zs, PyData.strOk y = true ∧ y.length ≤ 100000) : gIn neg (.str x) (.lst (texts zs)) = some (.bl (if neg then !decide (x ∈ zs) else decide (x ∈ zs))) := by
  show (if _ then _ else _) = _
  rw [if_pos ⟨(okd_str (k := 0) hx.1 hx.2).eqOk (by decide), eqOk_strs hz⟩]
  simp [isIn_texts]
def opsZ : List Str := ["=", "!=", "<", "<=", ">", ">="]
theorem opsZ_ok : ∀ y ∈ opsZ, PyData.strOk y = true ∧ y.length ≤ 100000 := by decide +kernel
theorem opsZ_D : [D.str "=", D.str "!=", D.str "<", D.str "<=", D.str ">", D.str ">="] = texts opsZ := rfl
theorem opB_str (o : Str) : opB (.str o) = decide (o ∈ opsZ) := rfl
theorem testB_len {ns : List Str} {xs : List D} (h : xs.length ≠ 3) : testB ns (.tup xs) = false := by
  unfold testB
  split
  · rename_i e; cases e; exact absurd rfl h
  · rfl
theorem testB_three {ns : List Str} (t o n : D) : testB ns (.tup [t, o, n]) = (termsB ns t && (opB o && amongB n (-99) 99)) := rfl
theorem fault_eq {ns : List Str} {xs : List D} (hl : xs.length ≤ 4) : faultF ns (.tup xs) = match xs.findIdx? (fun c => !rowB c 4) with
  | some i => some (.tup [.int (i : Nat)])
  | none => match xs.findIdx? (badCase ns) with
    | some i => some (.tup [.int (i : Nat), .int (((itemsD (xs[i]?.getD .non)).findIdx fun t => !testB ns t : Nat))])
    | none => none := by
  simp only [faultF]
  rw [if_neg (by omega)]
  all_goals (cases xs.findIdx? (fun c => !rowB c 4) with
    | some i => rfl
    | none => cases xs.findIdx? (badCase ns) <;> rfl)
theorem findIdx_of {xs : List D} {p : D → Bool} {j : Nat} (h : xs.findIdx? p = some j) : xs.findIdx p = j := by
  rw [List.findIdx_eq_getD_findIdx?, h]; rfl
end Bk
namespace Bk.Pa
open PySem PySem.Spec PyProof.Rows L2
theorem is_test_eq {cs : List (Str × Int)} {d : D} (hc : CellsOk cs) (h : ThS d) : f_is_test [cellsD cs, d] = .ok (.bl (testB (cs.map (·.1)) d)) := by
  simp [f_is_test, fb_is_test, is_row_eq h]
  cases hr : rowB d 3 with
  | false =>
    have : testB (cs.map (·.1)) d = false := by
      cases d with
      | tup ys => exact testB_len (by have := row_false hr rfl; omega)
      | _ => rfl
    simp [this]
  | true =>
    obtain ⟨xs, rfl, hl⟩ := row_tup hr
    by_cases h3 : xs.length = 3
    · obtain ⟨t, o, n, rfl⟩ := three_of h3
      have ht := ths_item h rfl (x := t) (by simp)
      have ho := ths_item h rfl (x := o) (by simp)
      have hn := ths_item h rfl (x := n) (by simp)
      rw [testB_three]
      simp [are_terms_eq hc ht, is_among_eq hn]
      cases h1 : termsB (cs.map (·.1)) t with
      | false => simp
      | true =>
        simp
        cases o with
        | str z =>
          simp [opsZ_D, gIn_strs (th_str_ok ho) opsZ_ok, opB_str, is_among_eq hn]
          by_cases q : z ∈ opsZ <;> simp [q]
        | non => simp [opB]
        | bl _ => simp [opB]
        | int _ => simp [opB]
        | tup _ => simp [opB]
        | lst _ => simp [opB]
        | dic _ => simp [opB]
        | _ =>
          obtain ⟨b, n, w, ht, _⟩ := ho
          have := ht.g
          rw [D.good] at this
          cases this
    · have : testB (cs.map (·.1)) (.tup xs) = false := testB_len h3
      simp [this, show ¬ ((xs.length : Int) = 3) by omega]
theorem need_formula_eq {cs : List (Str × Int)} {d : D} (hc : CellsOk cs) (h : ThS d) : f_need_formula [cellsD cs, d] = match faultF (cs.map (·.1)) d with
  | none => .ok d
  | some e => .ex ⟨"BadFormula", [("place", e)]⟩ := by
  simp [f_need_formula, fb_need_formula, is_row_eq h]
  cases hr : rowB d 4 with
  | false => simp [fault_row hr]
  | true =>
    obtain ⟨xs, rfl, hl⟩ := row_tup hr
    have h4 : xs.length ≤ 4 := by omega
    have hz : xs.length ≤ sizeLine := sz _ (by omega)
    have hit : ∀ x ∈ xs, ThS x := fun x hx => ths_item h rfl hx
    simp [hz]
    rw [loop_enum (fun c => rowB c 4) (fun i a => .ex ⟨"BadFormula", [("place", .tup [.int (i : Nat)])]⟩ [some (cellsD cs), some (.tup xs), some (.int (i : Nat)), some a, none, none]) (fun i a ha k => by
      simp [is_row_eq (hit a (List.mem_of_getElem? ha))]
      cases rowB a 4 <;> simp)]
    rw [fault_eq h4]
    cases h1 : xs.findIdx? (fun c => !rowB c 4) with
    | some i => simp
    | none =>
      have hrow : ∀ c ∈ xs, rowB c 4 = true := fun c hc => by simpa using List.findIdx?_eq_none_iff.mp h1 c hc
      simp [hz]
      rw [loop_enum (fun c => !badCase (cs.map (·.1)) c) (fun i a => .ex ⟨"BadFormula", [("place", .tup [.int (i : Nat), .int ((itemsD a).findIdx fun t => !testB (cs.map (·.1)) t : Nat)])]⟩ [some (cellsD cs), some (.tup xs), some (.int (i : Nat)), some a, some (.int ((itemsD a).findIdx fun t => !testB (cs.map (·.1)) t : Nat)), some (((itemsD a)[(itemsD a).findIdx fun t => !testB (cs.map (·.1)) t]?).getD .non)]) (fun i a ha k => by
        have hax := List.mem_of_getElem? ha
        obtain ⟨ys, rfl, hy⟩ := row_tup (hrow a hax)
        have hT := hit _ hax
        simp [show ys.length ≤ sizeLine from sz _ (by omega)]
        rw [loop_enum (fun t => testB (cs.map (·.1)) t) (fun j t => .ex ⟨"BadFormula", [("place", .tup [.int (i : Nat), .int (j : Nat)])]⟩ [some (cellsD cs), some (.tup xs), some (.int (i : Nat)), some (.tup ys), some (.int (j : Nat)), some t]) (fun j t ht k => by
          simp [is_test_eq hc (ths_item hT rfl (List.mem_of_getElem? ht))]
          cases testB (cs.map (·.1)) t <;> simp)]
        cases h2 : ys.findIdx? (fun t => !testB (cs.map (·.1)) t) with
        | none => simp [not_bad (c := .tup ys) h2]
        | some j =>
          simp [bad_of (c := .tup ys) h2, itemsD, findIdx_of h2])]
      simp
      cases h2 : xs.findIdx? (badCase (cs.map (·.1))) with
      | none => simp
      | some i => simp
end Bk.Pa
namespace Bk
open PySem PySem.Spec PyProof.Rows L2
def strB : D → Bool
  | .str _ => true
  | _ => false
end Bk
namespace Bk.Pa
open PySem PySem.Spec PyProof.Rows L2
theorem isStr_turn {x : D} (h : ThS x) : gIsi "str" x = some (.bl (strB x)) := by
  refine thS_cases h ?_ ?_ ?_ ?_ ?_ ?_ ?_ <;> intros <;> simp [strB]
end Bk.Pa
namespace Bk
open PySem PySem.Spec PyProof.Rows L2
def strD : D → Str
  | .str x => x
  | _ => ""
def fstD : D → D
  | .tup (a :: _) => a
  | _ => .non
/-- the names in a tuple of texts -/
def strsD (d : D) : List Str := (itemsD d).map strD
def flatL (xs : List D) : List Str := xs.flatMap strsD
def partB (ns : List Str) (p : D) : Bool := inOrdT ns p && !isNilT p
def looksB (ns : List Str) : D → Bool
  | .tup xs => decide (xs.length ≤ 3) && (xs.all (partB ns) && decide ((ddS (flatL xs)).length = (flatL xs).length))
  | _ => false
def namesF (f : List (List Test)) : List Str := f.flatMap fun c => c.flatMap fun t => t.1.map (·.2)
/-- the names in a formula that is one -/
def namesD (d : D) : List Str := (itemsD d).flatMap fun c => (itemsD c).flatMap fun t => (itemsD (fstD t)).map fun x => strD (sndD x)
def whenB (ns kn : List Str) (d : D) : Bool := (faultF ns d).isNone && (namesD d).all fun x => decide (x ∈ kn)
def setB (ns kn : List Str) : D → Bool
  | .tup [_, t, k] => termsB ns t && (amongB k (-99) 99 && (itemsD t).all fun x => decide (strD (sndD x) ∈ kn))
  | _ => false
def setsB (ns kn : List Str) : D → Bool
  | .tup xs => decide (xs.length ≤ 4) && (xs.all (setB ns kn) && inOrdB ns (xs.map fstD))
  | _ => false
def levelB : D → Bool
  | .str x => decide (x ∈ (["each", "one", "last"] : List Str))
  | _ => false
def marksB (ns : List Str) (sets marks : D) : Bool := inOrdT ns marks && (itemsD sets).all fun x => !decide (strD (fstD x) ∈ strsD marks)
/-- the word of the first invalid part -/
def faultP (ns : List Str) : D → Option Str
  | .tup [name, level, looks, whn, sets, marks] =>
    if nameB name = false then some "name" else if levelB level = false then some "level" else if looksB ns looks = false then some "looks"
    else if whenB ns (flatL (itemsD looks)) whn = false then some "when" else if setsB ns (flatL (itemsD looks)) sets = false then some "sets"
    else if marksB ns sets marks = false then some "marks" else none
  | _ => some "form"
theorem faultP_len {ns : List Str} {xs : List D} (h : xs.length ≠ 6) : faultP ns (.tup xs) = some "form" := by
  unfold faultP
  split
  · rename_i e; cases e; exact absurd rfl h
  · rfl
theorem strsD_texts (zs : List Str) : strsD (.tup (texts zs)) = zs := by
  show (texts zs).map strD = zs
  unfold texts
  rw [List.map_map]
  exact (List.map_congr_left fun _ _ => rfl).trans (List.map_id _)
theorem inOrdT_is {ns : List Str} {d : D} (h : inOrdT ns d = true) : ∃ zs, d = .tup (texts zs) ∧ ns.filter (fun n => decide (n ∈ zs)) = zs := by
  cases d with
  | tup xs =>
    obtain ⟨zs, rfl, hz⟩ := inOrd_sub h
    exact ⟨zs, rfl, hz⟩
  | _ => cases h
theorem termsB_is {ns : List Str} {d : D} (h : termsB ns d = true) : ∃ ts : List Term, d = termsD ts ∧ ts.length ≤ 4 ∧ (∀ t ∈ ts, t.2 ∈ ns) ∧ ∀ t ∈ ts, -9 ≤ t.1 ∧ t.1 ≤ 9 := by
  cases d with
  | tup xs =>
    simp only [termsB, Bool.and_eq_true, decide_eq_true_eq] at h
    obtain ⟨h4, hall, hord⟩ := h
    obtain ⟨zs, hz, hf⟩ := inOrd_sub hord
    have go : ∀ (xs : List D) (zs : List Str), xs.all termB = true → xs.map sndD = texts zs → ∃ ts : List Term, xs = ts.map termD ∧ ts.map (·.2) = zs ∧ ∀ t ∈ ts, -9 ≤ t.1 ∧ t.1 ≤ 9 := by
      intro xs
      induction xs with
      | nil =>
        intro zs _ h
        cases zs with
        | nil => exact ⟨[], rfl, rfl, fun t ht => by simp at ht⟩
        | cons _ _ => cases h
      | cons x xs ih =>
        intro zs ha h
        cases zs with
        | nil => cases h
        | cons z zs =>
          rw [List.all_cons, Bool.and_eq_true] at ha
          obtain ⟨i, b, rfl⟩ := Pa.termB_pair ha.1
          have e1 : b = .str z := (List.cons.inj h).1
          subst e1
          obtain ⟨ts, rfl, e2, hb⟩ := ih zs ha.2 (List.cons.inj h).2
          have hi := ha.1
          simp only [termB, Bool.and_eq_true, decide_eq_true_eq] at hi
          refine ⟨(i, z) :: ts, rfl, by rw [List.map_cons, e2], fun t ht => ?_⟩
          rcases List.mem_cons.mp ht with rfl | ht
          · exact ⟨hi.1.1, hi.1.2⟩
          · exact hb t ht
    obtain ⟨ts, rfl, e, hb⟩ := go xs zs hall hz
    refine ⟨ts, rfl, by rwa [List.length_map] at h4, fun t ht => ?_, hb⟩
    have : t.2 ∈ zs := by rw [← e]; exact List.mem_map.mpr ⟨t, ht, rfl⟩
    rw [← hf] at this
    exact (List.mem_filter.mp this).1
  | _ => cases h
theorem testB_is {ns : List Str} {d : D} (h : testB ns d = true) : ∃ t : Test, d = testD t ∧ t.1.length ≤ 4 ∧ ∀ x ∈ t.1, x.2 ∈ ns := by
  unfold testB at h
  split at h
  · rename_i t o n
    simp only [Bool.and_eq_true] at h
    obtain ⟨h1, h2, h3⟩ := h
    obtain ⟨ts, rfl, h4, hin, _⟩ := termsB_is h1
    cases o with
    | str z =>
      cases n with
      | int k => exact ⟨(ts, z, k), rfl, h4, hin⟩
      | _ => cases h3
    | _ => cases h2
  · cases h
theorem all_is {α : Type} {enc : α → D} {p : D → Bool} {P : α → Prop} (h : ∀ d, p d = true → ∃ a, d = enc a ∧ P a) : ∀ {xs : List D}, xs.all p = true → ∃ as : List α, xs = as.map enc ∧ ∀ a ∈ as, P a
  | [], _ => ⟨[], rfl, fun a ha => by simp at ha⟩
  | x :: xs, ha => by
    rw [List.all_cons, Bool.and_eq_true] at ha
    obtain ⟨a, rfl, pa⟩ := h x ha.1
    obtain ⟨as, rfl, pas⟩ := all_is h ha.2
    refine ⟨a :: as, rfl, fun b hb => ?_⟩
    rcases List.mem_cons.mp hb with rfl | hb
    · exact pa
    · exact pas b hb
theorem form_is {ns : List Str} {d : D} (h : faultF ns d = none) : ∃ f : List (List Test), d = formD f ∧ f.length ≤ 4 ∧ ∀ c ∈ f, c.length ≤ 4 ∧ ∀ t ∈ c, t.1.length ≤ 4 ∧ ∀ x ∈ t.1, x.2 ∈ ns := by
  cases d with
  | tup xs =>
    by_cases h4 : 4 < xs.length
    · simp only [faultF, if_pos h4] at h; cases h
    · rw [fault_eq (by omega)] at h
      cases h1 : xs.findIdx? (fun c => !rowB c 4) with
      | some i => rw [h1] at h; cases h
      | none =>
        rw [h1] at h
        cases h2 : xs.findIdx? (badCase ns) with
        | some i => rw [h2] at h; cases h
        | none =>
          have hrow : ∀ c ∈ xs, rowB c 4 = true := fun c hc => by simpa using List.findIdx?_eq_none_iff.mp h1 c hc
          have hok : ∀ c ∈ xs, badCase ns c = false := fun c hc => by simpa using List.findIdx?_eq_none_iff.mp h2 c hc
          obtain ⟨f, rfl, hf⟩ := all_is (enc := caseD) (p := fun c => rowB c 4 && !badCase ns c) (P := fun c : List Test => c.length ≤ 4 ∧ ∀ t ∈ c, t.1.length ≤ 4 ∧ ∀ x ∈ t.1, x.2 ∈ ns) (fun c hc => by
            rw [Bool.and_eq_true] at hc
            obtain ⟨ys, rfl, hy⟩ := row_tup hc.1
            have hb : ys.all (testB ns) = true := by
              have hb := hc.2
              simp only [badCase, itemsD, Bool.not_eq_true', List.any_eq_false] at hb
              exact List.all_eq_true.mpr fun t ht => by simpa using hb t ht
            obtain ⟨ts, rfl, hts⟩ := all_is (enc := testD) (fun t ht => testB_is ht) hb
            exact ⟨ts, rfl, by rw [List.length_map] at hy; omega, hts⟩) (xs := xs) (List.all_eq_true.mpr fun c hc => by rw [hrow c hc, hok c hc]; rfl)
          exact ⟨f, rfl, by rw [List.length_map] at h4; omega, hf⟩
  | _ => cases h
theorem namesD_form (f : List (List Test)) : namesD (formD f) = namesF f := by
  unfold namesD namesF
  show (f.map caseD).flatMap _ = _
  rw [List.flatMap_map]
  congr 1
  funext c
  show (c.map testD).flatMap _ = _
  rw [List.flatMap_map]
  congr 1
  funext t
  show (t.1.map termD).map _ = _
  rw [List.map_map]
  exact List.map_congr_left fun _ _ => rfl
theorem namesF_ok {ns : List Str} {f : List (List Test)} (h1 : f.length ≤ 4) (h2 : ∀ c ∈ f, c.length ≤ 4 ∧ ∀ t ∈ c, t.1.length ≤ 4 ∧ ∀ x ∈ t.1, x.2 ∈ ns) : (namesF f).length ≤ 64 ∧ ∀ x ∈ namesF f, x ∈ ns := by
  have len : ∀ {α β : Type} (g : α → List β) (k : Nat) (xs : List α), (∀ x ∈ xs, (g x).length ≤ k) → (xs.flatMap g).length ≤ k * xs.length := by
    intro α β g k xs
    induction xs with
    | nil => intro _; simp
    | cons x xs ih =>
      intro h
      rw [List.flatMap_cons, List.length_append, List.length_cons, Nat.mul_succ]
      have := h x List.mem_cons_self
      have := ih fun y hy => h y (List.mem_cons_of_mem _ hy)
      omega
  constructor
  · refine Nat.le_trans (len _ 16 f fun c hc => ?_) (by omega)
    obtain ⟨hc4, ht⟩ := h2 c hc
    refine Nat.le_trans (len _ 4 c fun t htc => ?_) (by omega)
    rw [List.length_map]
    exact (ht t htc).1
  · intro x hx
    obtain ⟨c, hc, hx⟩ := List.mem_flatMap.mp hx
    obtain ⟨t, ht, hx⟩ := List.mem_flatMap.mp hx
    obtain ⟨y, hy, rfl⟩ := List.mem_map.mp hx
    exact ((h2 c hc).2 t ht).2 y hy
/-- parts that are parts -/
theorem parts_are {ns : List Str} {xs : List D} (h : xs.all (partB ns) = true) : ∃ ps : List (List Str), xs = ps.map partD ∧ ∀ p ∈ ps, ns.filter (fun n => decide (n ∈ p)) = p := by
  refine all_is (enc := partD) (fun d hd => ?_) h
  unfold partB at hd
  rw [Bool.and_eq_true] at hd
  obtain ⟨zs, rfl, hz⟩ := inOrdT_is hd.1
  exact ⟨zs, rfl, hz⟩
theorem flatL_parts (ps : List (List Str)) : flatL (ps.map partD) = ps.flatten := by
  unfold flatL
  rw [List.flatMap_map, List.flatten_eq_flatMap]
  congr 1
  funext p
  exact strsD_texts p
theorem flat_ok {ns : List Str} {ps : List (List Str)} (hn : ns.length ≤ 4) (hp : ps.length ≤ 3) (h : ∀ p ∈ ps, ns.filter (fun n => decide (n ∈ p)) = p) : ps.flatten.length ≤ 12 ∧ (∀ p ∈ ps, p.length ≤ 4) ∧ ∀ x ∈ ps.flatten, x ∈ ns := by
  have l4 : ∀ p ∈ ps, p.length ≤ 4 := fun p hpm => by
    rw [← h p hpm]
    exact Nat.le_trans (List.length_filter_le _ _) hn
  refine ⟨?_, l4, fun x hx => ?_⟩
  · have : ∀ ps : List (List Str), (∀ p ∈ ps, p.length ≤ 4) → ps.flatten.length ≤ 4 * ps.length := by
      intro ps
      induction ps with
      | nil => intro _; simp
      | cons p ps ih =>
        intro h
        rw [List.flatten_cons, List.length_append, List.length_cons, Nat.mul_succ]
        have := h p List.mem_cons_self
        have := ih fun y hy => h y (List.mem_cons_of_mem _ hy)
        omega
    have := this ps l4
    omega
  · obtain ⟨p, hpm, hx⟩ := List.mem_flatten.mp hx
    rw [← h p hpm] at hx
    exact (List.mem_filter.mp hx).1
theorem nm_str {x : Str} (h : nmOk x) : PyData.strOk x = true ∧ x.length ≤ 100000 := ⟨h.1, Nat.le_trans h.2 (by decide)⟩
end Bk
namespace Bk.Pa
open PySem PySem.Spec PyProof.Rows L2
theorem flatMap_one {α β : Type} (f : α → β) (p : List α) : p.flatMap (fun x => [f x]) = p.map f := by
  induction p with
  | nil => rfl
  | cons x p ih => rw [List.flatMap_cons, ih]; rfl
/-- the names of parts, gathered -/
theorem parts_flat {e0 : DEnv} {i j : Nat} {ps : List (List Str)} {vs : List Nat} (h : ∀ p ∈ ps, fRow (fgName i) fYes (fIter (fVar i)) (fEl1 (fgName j) fYes (fVar j)) vs fCat e0 (partD p) = .ok (texts p)) : fCat (fRow (fgName i) fYes (fIter (fVar i)) (fEl1 (fgName j) fYes (fVar j)) vs fCat e0) (ps.map partD) = .ok (texts ps.flatten) := by
  rw [fCat_map (F := texts) (h := fun p hp => h p hp)]
  unfold texts
  rw [List.map_flatten, ← List.flatMap_def]
theorem texts_take {el : D → Rs (List D)} {p : List Str} (h : ∀ x ∈ p, el (.str x) = .ok [.str x]) : fCat el (texts p) = .ok (texts p) := by
  unfold texts
  rw [fCat_map (F := fun x => [D.str x]) (h := h), flatMap_one]
@[simp] theorem strD_str (x : Str) : strD (.str x) = x := rfl
@[simp] theorem fstD_cons (a : D) (r : List D) : fstD (.tup (a :: r)) = a := rfl
@[simp] theorem sndD_two (a b : D) : sndD (.tup [a, b]) = b := rfl
@[simp] theorem gEqA_tup (xs : List D) : gEqA (.tup xs) (.tup []) = some (.bl xs.isEmpty) := rfl
theorem gEqA_of {x : D} (h : ThS x) : gEqA x (.tup []) = some (.bl (isNilT x)) := by
  refine thS_cases h ?_ ?_ ?_ ?_ ?_ ?_ ?_ <;> intros <;> rfl
theorem are_parts_eq {cs : List (Str × Int)} {d : D} (hc : CellsOk cs) (h : ThS d) : f_are_parts [cellsD cs, d, .int 3] = .ok (.bl (looksB (cs.map (·.1)) d)) := by
  simp [f_are_parts, fb_are_parts, is_row_eq h]
  cases hr : rowB d 3 with
  | false =>
    simp
    cases d with
    | tup xs =>
      have := row_false hr rfl
      simp [looksB]
      omega
    | _ => rfl
  | true =>
    obtain ⟨xs, rfl, hl⟩ := row_tup hr
    have h3 : xs.length ≤ 3 := by omega
    have hit : ∀ x ∈ xs, ThS x := fun x hx => ths_item h rfl hx
    simp
    rw [loop_allD (partB (cs.map (·.1))) (.rt (.bl false)) (fun a ha k => by
      have hT := hit a ha
      simp [gEqA_of hT]
      unfold partB
      cases hn : isNilT a with
      | true => simp
      | false =>
        simp [are_in_order_eq hc hT]
        cases inOrdT (cs.map (·.1)) a <;> simp)]
    cases ha : xs.all (partB (cs.map (·.1))) with
    | false => simp [looksB, ha, -List.all_eq_true]
    | true =>
      obtain ⟨ps, rfl, hp⟩ := parts_are ha
      rw [List.length_map] at h3
      obtain ⟨f12, p4, fin⟩ := flat_ok (by rw [List.length_map]; exact hc.len) h3 hp
      simp [looksB, ha, h3, -List.all_eq_true]
      rw [parts_flat (fun p hpm => by
        simp [fRow, partD]
        rw [texts_take fun x _ => by simp [fEl1, fElem]]
        simp)]
      have hz : ps.flatten.length ≤ sizeLine := sz _ (by omega)
      simp only [bind_ok, calm_ok, if_pos hz, out_ok, then_nx, dset_zero, dset_succ, fRet, fOp, fB1, fVar, nth_zero, nth_succ, opt_some, gLenSet_texts _ (show ps.flatten.length ≤ 1000 by omega), gLen_lst, texts_len, gEq_int, fn_rt, flatL_parts]
      have e := texts_len ps.flatten
      exact congrArg (fun b => Rs.ok (D.bl b)) (decide_eq_decide.mpr (by omega))
theorem names_in_eq {f : List (List Test)} (h1 : f.length ≤ 4) (hl : (namesF f).length ≤ 64) : f_names_in [formD f] = .ok (.lst (texts (namesF f))) := by
  simp [f_names_in, fb_names_in, formD]
  rw [fCat_map (F := fun c : List Test => texts (c.flatMap fun t => t.1.map (·.2))) (h := fun c _ => by
    simp [fRow, caseD]
    rw [fCat_map (F := fun t : Test => texts (t.1.map (·.2))) (h := fun t _ => by
      simp [fRow, testD, termsD]
      rw [fCat_map (F := fun x : Term => [D.str x.2]) (h := fun x _ => by simp [fEl1, fElem, termD])]
      simp [flatMap_one, map_strs])]
    simp [texts, List.map_flatMap])]
  have e : (f.flatMap fun c => texts (c.flatMap fun t => t.1.map (·.2))) = texts (namesF f) := by
    unfold namesF texts
    rw [List.map_flatMap]
  rw [e]
  have hz : (texts (namesF f)).length ≤ sizeLine := sz _ (by rw [texts_len]; omega)
  simp [hz]
theorem known_all {kn xs : List Str} (hx : ∀ x ∈ xs, nmOk x) (hk : ∀ x ∈ kn, nmOk x) {el : D → Rs (Option D)} (h : ∀ x ∈ xs, el (.str x) = (Rs.opt (gIn false (.str x) (.lst (texts kn)))).bind fun y => .ok (some y)) : fGo el (texts xs) = .ok (xs.map fun x => .bl (decide (x ∈ kn))) := by
  rw [fGo_textsM (fun x => .bl (decide (x ∈ kn))) fun x hxm => by
    rw [h x hxm, gIn_strsL (nm_str (hx x hxm)) fun y hy => nm_str (hk y hy)]; rfl]
theorem is_formula_of_eq {cs : List (Str × Int)} {d : D} {kn : List Str} (hc : CellsOk cs) (h : ThS d) (hk : ∀ x ∈ kn, nmOk x) : f_is_formula_of [cellsD cs, d, .lst (texts kn)] = .ok (.bl (whenB (cs.map (·.1)) kn d)) := by
  simp [f_is_formula_of, fb_is_formula_of, need_formula_eq hc h]
  cases hf : faultF (cs.map (·.1)) d with
  | some e => simp [whenB, hf, show subC "BadFormula" "BadFormula" = true by decide +kernel]
  | none =>
    obtain ⟨f, rfl, f4, fok⟩ := form_is hf
    obtain ⟨n64, nin⟩ := namesF_ok f4 fok
    simp [names_in_eq f4 n64]
    rw [known_all (fun x hx => cells_nm hc x (nin x hx)) hk fun x hx => by simp [fElem]; rw [gIn_strsL (nm_str (cells_nm hc x (nin x hx))) fun y hy => nm_str (hk y hy)]; simp]
    simp [whenB, hf, namesD_form, -List.all_eq_true]
theorem setB_len {ns kn : List Str} {xs : List D} (h : xs.length ≠ 3) : setB ns kn (.tup xs) = false := by
  unfold setB
  split
  · rename_i e; cases e; exact absurd rfl h
  · rfl
/-- a set, as the program asks it: its name is one of the cells -/
def setP (ns kn : List Str) (d : D) : Bool := nameB (fstD d) && (decide (strD (fstD d) ∈ ns) && setB ns kn d)
theorem is_set_eq {cs : List (Str × Int)} {d : D} {kn : List Str} (hc : CellsOk cs) (h : ThS d) (hk : ∀ x ∈ kn, nmOk x) : f_is_set [cellsD cs, d, .lst (texts kn)] = .ok (.bl (setP (cs.map (·.1)) kn d)) := by
  simp [f_is_set, fb_is_set, is_row_eq h]
  cases hr : rowB d 3 with
  | false =>
    have : setB (cs.map (·.1)) kn d = false := by
      cases d with
      | tup ys => exact setB_len (by have := row_false hr rfl; omega)
      | _ => rfl
    simp [setP, this]
  | true =>
    obtain ⟨xs, rfl, hl⟩ := row_tup hr
    by_cases h3 : xs.length = 3
    · obtain ⟨n, t, k, rfl⟩ := three_of h3
      have hn := ths_item h rfl (x := n) (by simp)
      have ht := ths_item h rfl (x := t) (by simp)
      have hkk := ths_item h rfl (x := k) (by simp)
      simp [is_name_eq hn, names_of_eq]
      cases h1 : nameB n with
      | false => simp [setP, h1]
      | true =>
        cases n with
        | str z =>
          simp [gIn_strsL (th_str_ok hn) (fun y hy => nm_str (cells_nm hc y hy))]
          by_cases hz : z ∈ cs.map (·.1)
          · simp [hz, are_terms_eq hc ht, is_among_eq hkk, setP, h1, setB]
            cases h2 : termsB (cs.map (·.1)) t with
            | false => simp
            | true =>
              cases h3 : amongB k (-99) 99 with
              | false => simp
              | true =>
                obtain ⟨ts, rfl, _, tin, _⟩ := termsB_is h2
                simp [termsD, itemsD]
                rw [fGo_map (F := fun t : Term => .bl (decide (t.2 ∈ kn))) (h := fun t htm => by
                  simp [fElem, termD]
                  rw [gIn_strsL (nm_str (cells_nm hc _ (tin t htm))) fun y hy => nm_str (hk y hy)]
                  simp)]
                simp [-List.all_eq_true, List.all_map, Function.comp_def, termD]
                all_goals exact congrArg ts.all (funext fun _ => decide_eq_decide.mpr Iff.rfl)
          · simp [hz, setP, h1]
        | _ => cases h1
    · have : setB (cs.map (·.1)) kn (.tup xs) = false := setB_len h3
      simp [setP, this, show ¬ ((xs.length : Int) = 3) by omega]
theorem setP_of {ns kn : List Str} {d : D} (h : setP ns kn d = true) : nameB (fstD d) = true ∧ strD (fstD d) ∈ ns ∧ setB ns kn d = true := by
  unfold setP at h
  rw [Bool.and_eq_true, Bool.and_eq_true, decide_eq_true_eq] at h
  exact h
theorem nameB_str {d : D} (h : nameB d = true) : ∃ z, d = .str z := by
  cases d with
  | str z => exact ⟨z, rfl⟩
  | _ => cases h
theorem setB_three {ns kn : List Str} {d : D} (h : setB ns kn d = true) : ∃ n t k, d = .tup [n, t, k] := by
  unfold setB at h
  split at h
  · exact ⟨_, _, _, rfl⟩
  · cases h
theorem thS_fsts {xs : List D} (h : ThS (.tup xs)) : ThS (.tup (xs.map fstD)) := by
  obtain ⟨b, n, w, ht, h1, h2, h3⟩ := h
  obtain ⟨m, rfl, hs⟩ := tup_items ht
  refine ⟨b, m + 1, w, th_tup.mpr ?_, h1, h2, h3⟩
  have one : ∀ (x : D) (u : Nat), Th b m u x → Th b m u (fstD x) := fun x u hx => by
    unfold fstD
    split
    · rename_i a c
      obtain ⟨k, rfl, hs2⟩ := tup_items hx
      obtain ⟨w1, w2, e, g1, g2⟩ := ths_cons_iff.mp hs2
      exact g1.mono (Int.le_refl _) (by omega) (by omega)
    · exact th_non.mono (Int.le_refl _) (Nat.zero_le _) (Nat.zero_le _)
  clear ht h3
  induction xs generalizing w with
  | nil => exact hs.mono (Int.le_refl _) (Nat.le_refl _) (Nat.le_refl _)
  | cons x xs ih =>
    obtain ⟨w1, w2, e, g1, g2⟩ := ths_cons_iff.mp hs
    exact (ths_cons (one x w1 g1) (ih w2 g2)).mono (Int.le_refl _) (Nat.le_refl _) (by omega)
/-- the names that come in order are names of the cells -/
theorem order_names {ns : List Str} (hl : ∀ x ∈ ns, lowS x) {xs : List D} (h : inOrdB ns (xs.map fstD) = true) : ∀ x ∈ xs, nameB (fstD x) = true ∧ strD (fstD x) ∈ ns := by
  obtain ⟨zs, hz, hf⟩ := inOrd_sub h
  intro x hx
  have : fstD x ∈ texts zs := by rw [← hz]; exact List.mem_map.mpr ⟨x, hx, rfl⟩
  obtain ⟨z, hzm, e⟩ := List.mem_map.mp this
  rw [← e]
  have hin : z ∈ ns := by rw [← hf] at hzm; exact (List.mem_filter.mp hzm).1
  exact ⟨nameB_low (hl z hin), hin⟩
theorem are_sets_eq {cs : List (Str × Int)} {d : D} {kn : List Str} (hc : CellsOk cs) (h : ThS d) (hk : ∀ x ∈ kn, nmOk x) : f_are_sets [cellsD cs, d, .lst (texts kn)] = .ok (.bl (setsB (cs.map (·.1)) kn d)) := by
  simp [f_are_sets, fb_are_sets, is_row_eq h]
  cases hr : rowB d 4 with
  | false =>
    simp
    cases d with
    | tup xs =>
      have := row_false hr rfl
      simp [setsB]
      omega
    | _ => rfl
  | true =>
    obtain ⟨xs, rfl, hl⟩ := row_tup hr
    have h4 : xs.length ≤ 4 := by omega
    have hit : ∀ x ∈ xs, ThS x := fun x hx => ths_item h rfl hx
    simp
    rw [fGo_all (F := fun x => .bl (setP (cs.map (·.1)) kn x)) (h := fun x hx => by simp [fElem, is_set_eq hc (hit x hx) hk])]
    cases ha : xs.all (setP (cs.map (·.1)) kn) with
    | false =>
      simp [-List.all_eq_true, all_id, ha, setsB, h4]
      cases h1 : xs.all (setB (cs.map (·.1)) kn) with
      | false => simp
      | true =>
        cases h2 : inOrdB (cs.map (·.1)) (xs.map fstD) with
        | false => simp
        | true =>
          exfalso
          have no := order_names (cells_low hc) h2
          obtain ⟨y, hy, hn⟩ := List.all_eq_false.mp ha
          apply hn
          unfold setP
          rw [(no y hy).1, decide_eq_true (no y hy).2, List.all_eq_true.mp h1 y hy]; rfl
    | true =>
      have h1 : xs.all (setB (cs.map (·.1)) kn) = true := List.all_eq_true.mpr fun x hx => (setP_of (List.all_eq_true.mp ha x hx)).2.2
      simp [-List.all_eq_true, all_id, ha, setsB, h4, h1]
      rw [fGo_all (F := fstD) (h := fun x hx => by
        obtain ⟨n, t, k, rfl⟩ := setB_three (List.all_eq_true.mp h1 x hx)
        simp [fElem])]
      simp [are_in_order_eq hc (thS_fsts h), inOrdT]
end Bk.Pa
namespace Bk.Pa
open PySem PySem.Spec PyProof.Rows L2
def levelsZ : List Str := ["each", "one", "last"]
theorem levelsZ_ok : ∀ y ∈ levelsZ, PyData.strOk y = true ∧ y.length ≤ 100000 := by decide +kernel
theorem levelsZ_D : [D.str "each", D.str "one", D.str "last"] = texts levelsZ := rfl
@[simp] theorem levelB_str (z : Str) : levelB (.str z) = decide (z ∈ levelsZ) := rfl
theorem looks_are {ns : List Str} (hn : ns.length ≤ 4) {d : D} (h : looksB ns d = true) : ∃ ps : List (List Str), d = .tup (ps.map partD) ∧ ps.length ≤ 3 ∧ ps.flatten.length ≤ 12 ∧ (∀ p ∈ ps, p.length ≤ 4) ∧ ∀ x ∈ ps.flatten, x ∈ ns := by
  cases d with
  | tup xs =>
    simp only [looksB, Bool.and_eq_true, decide_eq_true_eq] at h
    obtain ⟨h3, ha, _⟩ := h
    obtain ⟨ps, rfl, hp⟩ := parts_are ha
    rw [List.length_map] at h3
    obtain ⟨f12, p4, fin⟩ := flat_ok hn h3 hp
    exact ⟨ps, rfl, h3, f12, p4, fin⟩
  | _ => cases h
theorem fault_of_eq {cs : List (Str × Int)} {d : D} (hc : CellsOk cs) (h : ThS d) : f_fault_of [cellsD cs, d] = .ok (match faultP (cs.map (·.1)) d with
  | some w => .str w
  | none => .non) := by
  simp [f_fault_of, fb_fault_of, is_row_eq h]
  have hl4 : (cs.map (·.1)).length ≤ 4 := by rw [List.length_map]; exact hc.len
  cases hr : rowB d 6 with
  | false =>
    have : faultP (cs.map (·.1)) d = some "form" := by
      cases d with
      | tup ys => exact faultP_len (by have := row_false hr rfl; omega)
      | _ => rfl
    simp [this]
  | true =>
    obtain ⟨xs, rfl, hl⟩ := row_tup hr
    by_cases h6 : xs.length = 6
    · obtain ⟨n, l, lk, w, st, mk, rfl⟩ := six_of h6
      have hn := ths_item h rfl (x := n) (by simp)
      have hlv := ths_item h rfl (x := l) (by simp)
      have hlk := ths_item h rfl (x := lk) (by simp)
      have hw := ths_item h rfl (x := w) (by simp)
      have hst := ths_item h rfl (x := st) (by simp)
      have hmk := ths_item h rfl (x := mk) (by simp)
      simp [is_name_eq hn]
      cases h1 : nameB n with
      | false => simp [faultP, h1]
      | true =>
        simp [isStr_turn hlv]
        cases l with
        | str z =>
          simp [strB, levelsZ_D, gIn_strs (th_str_ok hlv) levelsZ_ok]
          by_cases hz : z ∈ levelsZ
          · simp [hz, are_parts_eq hc hlk]
            cases h2 : looksB (cs.map (·.1)) lk with
            | false => simp [faultP, h1, h2, hz]
            | true =>
              obtain ⟨ps, rfl, p3, f12, p4, fin⟩ := looks_are hl4 h2
              have hkn : ∀ x ∈ ps.flatten, nmOk x := fun x hx => cells_nm hc x (fin x hx)
              have hz2 : (texts ps.flatten).length ≤ sizeLine := sz _ (by rw [texts_len]; omega)
              simp
              rw [parts_flat (fun p hpm => by
                simp [fRow, partD]
                rw [texts_take fun x _ => by simp [fEl1, fElem]]
                simp)]
              simp [hz2, is_formula_of_eq hc hw hkn]
              cases h3 : whenB (cs.map (·.1)) ps.flatten w with
              | false => simp [faultP, h1, h2, hz, flatL_parts, itemsD, h3]
              | true =>
                simp [are_sets_eq hc hst hkn]
                cases h4 : setsB (cs.map (·.1)) ps.flatten st with
                | false => simp [faultP, h1, h2, hz, flatL_parts, itemsD, h3, h4]
                | true =>
                  simp [are_in_order_eq hc hmk]
                  cases h5 : inOrdT (cs.map (·.1)) mk with
                  | false => simp [faultP, h1, h2, hz, flatL_parts, itemsD, h3, h4, marksB, h5]
                  | true =>
                    obtain ⟨zs, rfl, _⟩ := inOrdT_is h5
                    cases st with
                    | tup ys =>
                      simp only [setsB, Bool.and_eq_true, decide_eq_true_eq] at h4
                      obtain ⟨y4, ya, yo⟩ := h4
                      have nmz := order_names (cells_low hc) yo
                      have hzs : ∀ x ∈ zs, PyData.strOk x = true ∧ x.length ≤ 100000 := fun x hx => th_str_ok (ths_item hmk rfl (List.mem_map.mpr ⟨x, hx, rfl⟩))
                      have h4' : setsB (cs.map (·.1)) ps.flatten (.tup ys) = true := by simp only [setsB, Bool.and_eq_true, decide_eq_true_eq]; exact ⟨y4, ya, yo⟩
                      simp
                      rw [fGo_all (F := fun y => .bl (decide (strD (fstD y) ∈ zs))) (h := fun y hy => by
                        obtain ⟨a, t, k, rfl⟩ := setB_three (List.all_eq_true.mp ya y hy)
                        obtain ⟨b1, b2⟩ := nmz _ hy
                        obtain ⟨x, hx⟩ := nameB_str b1
                        simp at hx
                        subst hx
                        simp [fElem]
                        rw [gIn_strs (nm_str (cells_nm hc x b2)) hzs]
                        simp
                        exact decide_eq_decide.mpr Iff.rfl)]
                      simp only [bind_ok, gAll_lst, bls_map, Option.map_some, opt_some, if_true, any_id, asB_bl]
                      cases h6 : ys.any (fun y => decide (strD (fstD y) ∈ zs)) with
                      | true =>
                        have : marksB (cs.map (·.1)) (.tup ys) (.tup (texts zs)) = false := by
                          unfold marksB
                          rw [h5, strsD_texts, Bool.true_and, Bool.eq_false_iff]
                          intro z
                          obtain ⟨y, hy, hy2⟩ := List.any_eq_true.mp h6
                          have := List.all_eq_true.mp z y hy
                          rw [hy2] at this
                          cases this
                        simp [faultP, h1, h2, hz, flatL_parts, itemsD, h3, h4', this]
                      | false =>
                        have : marksB (cs.map (·.1)) (.tup ys) (.tup (texts zs)) = true := by
                          unfold marksB
                          rw [h5, strsD_texts, Bool.true_and]
                          exact List.all_eq_true.mpr fun y hy => by rw [List.any_eq_false.mp h6 y hy |> Bool.eq_false_iff.mpr]; rfl
                        simp [faultP, h1, h2, hz, flatL_parts, itemsD, h3, h4', this]
                    | _ => cases h4
          · simp [hz, faultP, h1]
        | _ => simp [strB, faultP, h1, levelB]
    · have : faultP (cs.map (·.1)) (.tup xs) = some "form" := faultP_len h6
      simp [this, show ¬ ((xs.length : Int) = 6) by omega]
theorem need_program_eq {cs : List (Str × Int)} {d : D} (hc : CellsOk cs) (h : ThS d) : f_need_program [cellsD cs, d] = match faultP (cs.map (·.1)) d with
  | none => .ok d
  | some w => .ex ⟨"BadProgram", [("place", .str w)]⟩ := by
  simp [f_need_program, fb_need_program, fault_of_eq hc h]
  cases faultP (cs.map (·.1)) d <;> simp
end Bk.Pa
namespace Bk
open PySem PySem.Spec PyProof.Rows L2
end Bk
namespace Bk.Pa
open PySem PySem.Spec PyProof.Rows L2
end Bk.Pa
namespace Bk
open PySem PySem.Spec PyProof.Rows L2
/-- the first index from n on at which p fails -/
def firstBad (p : Nat → D → Bool) : Nat → List D → Option Nat
  | _, [] => none
  | n, x :: xs => if p n x = true then firstBad p (n + 1) xs else some n
section
variable {g : FG} {f : FS} {W : List Nat} {e : DEnv}
theorem loop_enumI (p : Nat → D → Bool) (o : Nat → D → Out) {xs : List D} (h : ∀ i a, xs[i]? = some a → (∀ j b, j < i → xs[j]? = some b → p j b = true) → ∀ k : FS, (optE (g (.tup [.int (i : Nat), a]) e) fun e1 => (f e1).turn W k) = if p i a = true then k e else o i a) :
    fLoop g f W (enumD xs) e = match firstBad p 0 xs with
      | none => .nx e
      | some i => o i (xs[i]?.getD .non) := by
  have go : ∀ (ys : List D) (n : Nat) (pre : List D), pre.length = n → pre ++ ys = xs → (∀ j b, j < n → xs[j]? = some b → p j b = true) → fLoop g f W (ys.mapIdx fun i d => .tup [.int ((i + n : Nat) : Int), d]) e = match firstBad p n ys with
      | none => .nx e
      | some i => o i (xs[i]?.getD .non) := by
    intro ys
    induction ys with
    | nil => intro n pre _ _ _; rfl
    | cons y ys ih =>
      intro n pre hl hp hg
      have hy : xs[n]? = some y := by rw [← hp, List.getElem?_append_right (by omega), hl]; simp
      have h0 := h n y hy hg
      rw [List.mapIdx_cons, loop_cons, Nat.zero_add, h0]
      have e1 : (fun (i : Nat) (d : D) => D.tup [.int ((i + 1 + n : Nat) : Int), d]) = fun (i : Nat) (d : D) => D.tup [.int ((i + (n + 1) : Nat) : Int), d] := by
        funext i d
        rw [show i + 1 + n = i + (n + 1) by omega]
      unfold firstBad
      cases hq : p n y with
      | true =>
        rw [if_pos rfl, if_pos rfl, e1]
        refine ih (n + 1) (pre ++ [y]) (by rw [List.length_append, hl]; rfl) (by rw [List.append_assoc]; exact hp) fun j b hj hb => ?_
        by_cases z : j = n
        · subst z; rw [hy] at hb; cases hb; exact hq
        · exact hg j b (by omega) hb
      | false =>
        rw [if_neg (by decide), if_neg (by decide)]
        simp [hy]
  have := go xs 0 [] rfl rfl (fun j b hj _ => absurd hj (Nat.not_lt_zero _))
  simpa [enumD] using this
end
end Bk
namespace Bk.Bo
open PySem PySem.Spec PyProof.Rows L2
abbrev cn : List Str := ["Book"]
abbrev ff : List Str := ["cells", "programs", "starts", "rule"]
end Bk.Bo
namespace Bk.Bo
open PySem PySem.Spec PyProof.Rows L2
open Bk.Pa
abbrev N_is_cell : List Str := ["thing"]
def fb_is_cell : FS := (fRet (fAndV (fCall f_is_row (fCons (fVar 0) (fCons (fC (.int 2)) fNil))) (fAndV (fOp gEq (fB1 gLen (fVar 0)) (fC (.int 2))) (fAndV (fCall f_is_name (fCons (fOp gIx (fVar 0) (fC (.int 0))) fNil)) (fCall f_is_among (fCons (fOp gIx (fVar 0) (fC (.int 1))) (fCons (fC (.int 1)) (fCons (fC (.int 3)) fNil))))))))
def f_is_cell : FF := fun ds => (fb_is_cell (dstart N_is_cell ds)).fn
abbrev N_need_cells : List Str := ["thing", "place", "cell", "other"]
def fb_need_cells : FS := (fSeq (fIfS (fOr (fNot (fTst (fCall f_is_row (fCons (fVar 0) (fCons (fC (.int 4)) fNil))))) (fTst (fOp gEqA (fVar 0) (fTup fNil)))) (fRaise "BadCells" "place" (fC .non)) fNext)
  (fSeq (fFor (fEnumT (fVar 0)) (fgTup 2 (fgCons (fgName 1) (fgCons (fgName 2) fgNil))) (fIfS (fOr (fNot (fTst (fCall f_is_cell (fCons (fVar 2) fNil)))) (fTst (fOp (gIn false) (fOp gIx (fVar 2) (fC (.int 0))) (fLc (fIter (fSl (fVar 0) fNoPart (fPart (fVar 1)))) (fgName 3) fYes (fOp gIx (fVar 3) (fC (.int 0))) [3])))) (fRaise "BadCells" "place" (fVar 1)) fNext) [2, 1])
  (fRet (fVar 0))))
def f_need_cells : FF := fun ds => (fb_need_cells (dstart N_need_cells ds)).fn
abbrev N_need_programs : List Str := ["cells", "programs", "program", "names"]
def fb_need_programs : FS := (fSeq (fFor (fIter (fVar 1)) (fgName 2) (fDrop (fCall f_need_program (fCons (fVar 0) (fCons (fVar 2) fNil)))) [2])
  (fSeq (fSet 3 (fLst fNil))
  (fSeq (fFor (fIter (fVar 1)) (fgName 2) (fSeq (fIfS (fTst (fOp (gInL false) (fOp gIx (fVar 2) (fC (.int 0))) (fVar 3))) (fRaise "Twice" "name" (fOp gIx (fVar 2) (fC (.int 0)))) fNext)
  (fApp 3 (fOp gIx (fVar 2) (fC (.int 0))))) [2])
  (fIfS (fTst (fOp gGt (fB1 gLen (fVar 3)) (fC (.int 4)))) (fRaise "TooMany" "most" (fC (.int 4))) fNext))))
def f_need_programs : FF := fun ds => (fb_need_programs (dstart N_need_programs ds)).fn
abbrev N_Book___init__ : List Str := ["self", "cells", "starts", "rule", "programs"]
def fi_Book___init__ : FI := (fiDrop (fCall f_need_cells (fCons (fVar 1) fNil)) 
  (fiDrop (fCall f_need_programs (fCons (fVar 1) (fCons (fVar 4) fNil))) 
  (fiDrop (fCall f_need_formula (fCons (fVar 1) (fCons (fVar 2) fNil))) 
  (fiDrop (fCall f_need_formula (fCons (fVar 1) (fCons (fVar 3) fNil))) 
  (fiPut cn "Book" "cells" (fVar 1) 
  (fiPut cn "Book" "programs" (fB1 gTuple (fVar 4)) 
  (fiPut cn "Book" "starts" (fVar 2) 
  (fiPut cn "Book" "rule" (fVar 3) fiNil))))))))
def F_Book___init__ : List D → Rs (List (Str × D)) := initF fi_Book___init__ N_Book___init__
abbrev N_Book_of : List Str := ["cls", "cells", "programs", "starts", "rule"]
def fb_Book_of : FS := (fRet (fNewV "Book" 1 2 (selG .id) F_Book___init__ (fVar 0) (fCons (fVar 1) (fSpl (fVar 2) fNil)) (fCons (fVar 3) (fCons (fVar 4) fNil))))
def f_Book_of : FF := fun ds => (fb_Book_of (dstart N_Book_of ds)).fn
end Bk.Bo
namespace Bk.Bo
open PySem PySem.Spec PyProof.Rows L2
open Bk.Pa
theorem cellOf_none {d : D} (h : rowB d 2 = false) : cellOf d = none := by
  unfold cellOf
  split
  · rename_i x v
    have : decide ((([D.str x, v].length : Nat) : Int) ≤ 2) = false := h
    simp at this
  · rfl
theorem cell_two {a c : D} : (cellOf (.tup [a, c])).isSome = (nameB a && amongB c 1 3) := by
  cases a with
  | str x =>
    unfold cellOf
    dsimp only
    cases h : nameB (.str x) && amongB c 1 3 <;> simp
  | _ => rfl
theorem cell_len {xs : List D} (h : xs.length ≠ 2) : cellOf (.tup xs) = none := by
  unfold cellOf
  split
  · rename_i e; cases e; exact absurd rfl h
  · rfl
theorem is_cell_eq {d : D} (h : ThS d) : f_is_cell [d] = .ok (.bl (cellOf d).isSome) := by
  cases hr : rowB d 2 with
  | false => simp [f_is_cell, fb_is_cell, is_row_eq h, hr, cellOf_none hr]
  | true =>
    obtain ⟨xs, rfl, hl⟩ := row_tup hr
    by_cases h2 : xs.length = 2
    · obtain ⟨a, b, rfl⟩ := two_of h2
      have ha : ThS a := ths_item h rfl (by simp)
      have hb : ThS b := ths_item h rfl (by simp)
      rw [cell_two]
      simp [f_is_cell, fb_is_cell, is_row_eq h, hr, is_name_eq ha, is_among_eq hb]
      cases nameB a <;> simp
    · rw [cell_len h2]
      simp [f_is_cell, fb_is_cell, is_row_eq h, hr, show ¬ ((xs.length : Int) = 2) by omega]
def cellP (xs : List D) (i : Nat) (a : D) : Bool := (cellOf a).isSome && !decide (strD (fstD a) ∈ (xs.take i).map fun c => strD (fstD c))
/-- the place at which cells are none -/
def badC : D → Option D
  | .tup xs => if xs.length = 0 ∨ 4 < xs.length then some .non else (firstBad (cellP xs) 0 xs).map fun i => .int (i : Nat)
  | _ => some .non
theorem cell_pair {d : D} (h : (cellOf d).isSome = true) : ∃ x v, d = .tup [.str x, v] := by
  unfold cellOf at h
  split at h
  · exact ⟨_, _, rfl⟩
  · cases h
theorem need_cells_eq {d : D} (h : ThS d) : f_need_cells [d] = match badC d with
  | none => .ok d
  | some e => .ex ⟨"BadCells", [("place", e)]⟩ := by
  cases hr : rowB d 4 with
  | false =>
    have : badC d = some .non := by
      cases d with
      | tup xs =>
        have := row_false hr rfl
        show (if _ then _ else _) = _
        rw [if_pos (by omega)]
      | _ => rfl
    rw [this]
    simp [f_need_cells, fb_need_cells, is_row_eq h, hr]
  | true =>
    obtain ⟨xs, rfl, hl⟩ := row_tup hr
    cases xs with
    | nil => simp [f_need_cells, fb_need_cells, is_row_eq h, hr, gEqA_of h, badC, isNilT]
    | cons x0 xs0 =>
      generalize hx : x0 :: xs0 = xs at h hr hl ⊢
      have hn : xs.length ≠ 0 := by rw [← hx]; simp
      have hnil : isNilT (.tup xs) = false := by rw [← hx]; rfl
      have hit : ∀ a ∈ xs, ThS a := fun a ha => ths_item h rfl ha
      have hb : badC (.tup xs) = (firstBad (cellP xs) 0 xs).map fun i => D.int (i : Nat) := by
        show (if _ then _ else _) = _
        rw [if_neg (by omega)]
      rw [hb]
      simp [f_need_cells, fb_need_cells, is_row_eq h, hr, gEqA_of h, hnil]
      rw [if_pos (sz _ (by omega)), loop_enumI (cellP xs) (fun i a => .ex ⟨"BadCells", [("place", .int (i : Nat))]⟩ [some (.tup xs), some (.int (i : Nat)), some a, none]) ?_]
      · cases firstBad (cellP xs) 0 xs <;> simp
      · intro i a hi hg k
        obtain ⟨hlt, hia⟩ := List.getElem?_eq_some_iff.mp hi
        have ha : ThS a := hit a (by rw [← hia]; exact List.getElem_mem hlt)
        cases hc : (cellOf a).isSome with
        | false =>
          have : cellP xs i a = false := by unfold cellP; rw [hc]; rfl
          rw [this]
          simp [is_cell_eq ha, hc]
        | true =>
          obtain ⟨x, v, rfl⟩ := cell_pair hc
          have old : ∀ b ∈ xs.take i, ∃ y w, b = .tup [.str y, w] ∧ PyData.strOk y = true ∧ y.length ≤ 100000 := fun b hb => by
            obtain ⟨j, hj, e⟩ := List.getElem_of_mem hb
            have hj' : j < i := by rw [List.length_take] at hj; omega
            have ex : xs[j]? = some b := by rw [List.getElem_take] at e; rw [← e]; exact List.getElem?_eq_getElem _
            have := hg j b hj' ex
            unfold cellP at this
            rw [Bool.and_eq_true] at this
            obtain ⟨y, w, rfl⟩ := cell_pair this.1
            have hb2 : ThS (.tup [.str y, w]) := hit _ (List.mem_of_mem_take hb)
            exact ⟨y, w, rfl, th_str_ok (ths_item hb2 rfl (by simp))⟩
          have hx := th_str_ok (ths_item ha rfl (show D.str x ∈ [.str x, v] by simp))
          have cp : cellP xs i (.tup [.str x, v]) = !decide (x ∈ (xs.take i).map fun c => strD (fstD c)) := by unfold cellP; rw [hc]; rfl
          rw [cp]
          simp [is_cell_eq ha, hc, cut_to xs i (by omega)]
          rw [fGo_all (F := fun c => .str (strD (fstD c))) (h := fun b hb => by obtain ⟨y, w, rfl, _⟩ := old b hb; simp [fElem, fstD, strD])]
          rw [show ((xs.take i).map fun c => D.str (strD (fstD c))) = texts ((xs.take i).map fun c => strD (fstD c)) from map_strs _ _]
          simp only [bind_ok]
          rw [gIn_strsL hx (fun y hy => by obtain ⟨b, hb, rfl⟩ := List.mem_map.mp hy; obtain ⟨y, w, rfl, z⟩ := old b hb; exact z)]
          simp
/-- the first name that stands twice -/
def firstTwice : List Str → List Str → Option Str
  | _, [] => none
  | acc, x :: xs => if x ∈ acc then some x else firstTwice (acc ++ [x]) xs
def Named (p : D) (x : Str) : Prop := (∃ r, p = .tup (.str x :: r)) ∧ PyData.strOk x = true ∧ x.length ≤ 100000
abbrev body2 : FS := (fSeq (fIfS (fTst (fOp (gInL false) (fOp gIx (fVar 2) (fC (.int 0))) (fVar 3))) (fRaise "Twice" "name" (fOp gIx (fVar 2) (fC (.int 0)))) fNext)
  (fApp 3 (fOp gIx (fVar 2) (fC (.int 0)))))
theorem twice_loop {c P : Option D} : ∀ (ps : List D) (xs acc : List Str), List.length ps = xs.length → (∀ (i : Nat) p x, ps[i]? = some p → xs[i]? = some x → Named p x) → (∀ y ∈ acc, PyData.strOk y = true ∧ y.length ≤ 100000) → acc.length + xs.length ≤ 100 →
    (firstTwice acc xs = none → fLoop (fgName 2) body2 [2] ps [c, P, none, some (.lst (texts acc))] = .nx [c, P, none, some (.lst (texts (acc ++ xs)))]) ∧
    (∀ z, firstTwice acc xs = some z → ∃ e', fLoop (fgName 2) body2 [2] ps [c, P, none, some (.lst (texts acc))] = .ex ⟨"Twice", [("name", .str z)]⟩ e')
  | [], [], acc, _, _, _, _ => ⟨fun _ => by rw [List.append_nil]; rfl, fun z h => (nomatch h)⟩
  | p :: ps, x :: xs, acc, hl, hn, ha, hb => by
    obtain ⟨⟨r, rfl⟩, hx⟩ := hn 0 p x rfl rfl
    have hin : gInL false (.str x) (.lst (texts acc)) = some (.bl (decide (x ∈ acc))) := by
      rw [gInL_eq, if_pos ⟨(okd_str (k := 0) hx.1 hx.2).eqOk (by decide), eqOk_strs ha⟩]
      simp [isIn_texts]
    have hlen : (texts acc).length < sizeLine := by
      rw [texts_len]
      have : acc.length ≤ 100 := by omega
      exact Nat.lt_of_le_of_lt this (by decide)
    by_cases hm : x ∈ acc
    · refine ⟨fun h => ?_, fun z h => ?_⟩
      · unfold firstTwice at h; rw [if_pos hm] at h; cases h
      · unfold firstTwice at h; rw [if_pos hm] at h; cases h
        refine ⟨[c, P, some (.tup (.str x :: r)), some (.lst (texts acc))], ?_⟩
        rw [loop_cons]
        simp [-gInL_eq, hin, hm]
    · have ih := twice_loop (c := c) (P := P) ps xs (acc ++ [x]) (by simpa using hl) (fun i p x h1 h2 => hn (i + 1) p x (by simpa using h1) (by simpa using h2)) (fun y hy => by
        rcases List.mem_append.mp hy with hy | hy
        · exact ha y hy
        · rw [List.mem_singleton.mp hy]; exact hx) (by rw [List.length_append]; simp at hb ⊢; omega)
      have st : fLoop (fgName 2) body2 [2] (.tup (.str x :: r) :: ps) [c, P, none, some (.lst (texts acc))] = fLoop (fgName 2) body2 [2] ps [c, P, none, some (.lst (texts (acc ++ [x])))] := by
        have e : texts (acc ++ [x]) = texts acc ++ [.str x] := by simp [texts]
        rw [loop_cons, e]
        simp [-gInL_eq, hin, hm, hlen]
      have ft : firstTwice acc (x :: xs) = firstTwice (acc ++ [x]) xs := by
        show (if _ then _ else _) = _
        rw [if_neg hm]
      rw [st, ft]
      refine ⟨fun h => ?_, ih.2⟩
      rw [ih.1 h, List.append_assoc]; rfl
def nmD (d : D) : Str := strD (fstD d)
/-- what is wrong with programs of these cells -/
def faultPs (ns : List Str) (ps : List D) : Option Ex := match ps.find? (fun d => !(faultP ns d).isNone) with
  | some d => some ⟨"BadProgram", [("place", .str ((faultP ns d).getD ""))]⟩
  | none => match firstTwice [] (ps.map nmD) with
    | some z => some ⟨"Twice", [("name", .str z)]⟩
    | none => if 4 < ps.length then some ⟨"TooMany", [("most", .int 4)]⟩ else none
theorem named_of {ns : List Str} {d : D} (h : faultP ns d = none) (hd : ThS d) : Named d (nmD d) := by
  unfold faultP at h
  split at h
  · rename_i name level looks whn sets marks
    split at h
    · cases h
    · rename_i hn
      obtain ⟨z, rfl⟩ := nameB_str (show nameB name = true by simpa using hn)
      exact ⟨⟨_, rfl⟩, th_str_ok (ths_item hd rfl (show D.str z ∈ [D.str z, level, looks, whn, sets, marks] by simp))⟩
  · cases h
theorem need_programs_eq {cs : List (Str × Int)} {ps : List D} (hc : CellsOk cs) (h : ∀ d ∈ ps, ThS d) (hl : ps.length ≤ 50) : f_need_programs [cellsD cs, .tup ps] = match faultPs (cs.map (·.1)) ps with
  | none => .ok .non
  | some x => .ex x := by
  have l1 : fLoop (fgName 2) (fDrop (fCall f_need_program (fCons (fVar 0) (fCons (fVar 2) fNil)))) [2] ps [some (cellsD cs), some (.tup ps), none, none] = match ps.find? (fun d => !(faultP (cs.map (·.1)) d).isNone) with
      | none => .nx [some (cellsD cs), some (.tup ps), none, none]
      | some d => .ex ⟨"BadProgram", [("place", .str ((faultP (cs.map (·.1)) d).getD ""))]⟩ [some (cellsD cs), some (.tup ps), some d, none] := by
    have := loop_find (g := fgName 2) (f := fDrop (fCall f_need_program (fCons (fVar 0) (fCons (fVar 2) fNil)))) (W := [2]) (e := [some (cellsD cs), some (.tup ps), none, none]) (fun d : D => d) (fun d => (faultP (cs.map (·.1)) d).isNone) (fun d => .ex ⟨"BadProgram", [("place", .str ((faultP (cs.map (·.1)) d).getD ""))]⟩ [some (cellsD cs), some (.tup ps), some d, none]) (xs := ps) (fun d hd k => by
      have e := need_program_eq hc (h d hd)
      cases hf : faultP (cs.map (·.1)) d with
      | none => rw [hf] at e; simp [e]
      | some w => rw [hf] at e; simp [e])
    rw [List.map_id'] at this
    refine this.trans ?_
    cases ps.find? (fun d => !(faultP (cs.map (·.1)) d).isNone) <;> rfl
  have hz : ps.length ≤ sizeLine := sz _ (by omega)
  simp only [f_need_programs, fb_need_programs]
  unfold faultPs
  cases hf : ps.find? (fun d => !(faultP (cs.map (·.1)) d).isNone) with
  | some d =>
    rw [hf] at l1
    simp [hz, l1]
  | none =>
    rw [hf] at l1
    have nm : ∀ d ∈ ps, Named d (nmD d) := fun d hd => named_of (by
      have := List.find?_eq_none.mp hf d hd
      simpa using this) (h d hd)
    obtain ⟨t1, t2⟩ := twice_loop (c := some (cellsD cs)) (P := some (.tup ps)) ps (ps.map nmD) [] (by simp) (fun i p x h1 h2 => by
      rw [List.getElem?_map, h1] at h2
      cases h2
      exact nm p (List.mem_of_getElem? h1)) (fun y hy => (nomatch hy)) (by simp; omega)
    cases ht : firstTwice [] (ps.map nmD) with
    | some z =>
      obtain ⟨e', q⟩ := t2 z ht
      change fLoop (fgName 2) body2 [2] ps [some (cellsD cs), some (.tup ps), none, some (.lst [])] = _ at q
      simp [hz, l1]
      rw [q]
      rfl
    | none =>
      have q := t1 ht
      change fLoop (fgName 2) body2 [2] ps [some (cellsD cs), some (.tup ps), none, some (.lst [])] = _ at q
      simp [hz, l1]
      rw [q]
      by_cases h4 : 4 < ps.length
      · simp [h4, texts_len]
        all_goals omega
      · simp [h4, texts_len]
        all_goals omega
theorem cellOf_cell {c : Str × Int} (h : lowS c.1) (h1 : 1 ≤ c.2 ∧ c.2 ≤ 3) : cellOf (cellD c) = some c.1 := by
  unfold cellOf cellD
  dsimp only
  rw [nameB_low h]
  simp [amongB, h1.1, h1.2]
theorem firstBad_none {p : Nat → D → Bool} : ∀ {xs : List D} {n : Nat}, (∀ i a, xs[i]? = some a → p (i + n) a = true) → firstBad p n xs = none
  | [], _, _ => rfl
  | x :: xs, n, h => by
    unfold firstBad
    have h0 := h 0 x rfl
    rw [Nat.zero_add] at h0
    rw [if_pos h0]
    exact firstBad_none fun i a hi => by
      have := h (i + 1) a (by simpa using hi)
      rwa [show i + 1 + n = i + (n + 1) by omega] at this
theorem badC_ok {cs : List (Str × Int)} (hc : CellsOk cs) : badC (cellsD cs) = none := by
  show (if _ then _ else _) = _
  have h1 := hc.pos
  have h2 := hc.len
  rw [if_neg (by rw [List.length_map]; omega), firstBad_none]
  · rfl
  · intro i a hi
    rw [List.getElem?_map] at hi
    cases hx : cs[i]? with
    | none => rw [hx] at hi; cases hi
    | some c =>
      rw [hx] at hi
      cases hi
      have hm := List.mem_of_getElem? hx
      unfold cellP
      rw [cellOf_cell (hc.low c hm) (hc.most c hm), Nat.add_zero]
      rw [Bool.and_eq_true]
      refine ⟨rfl, ?_⟩
      rw [Bool.not_eq_true', decide_eq_false_iff_not]
      intro z
      rw [← List.map_take, List.map_map] at z
      have e : ((fun c => strD (fstD c)) ∘ cellD : Str × Int → Str) = (·.1) := rfl
      rw [e] at z
      have nd := hc.nd
      obtain ⟨hlt, hxx⟩ := List.getElem?_eq_some_iff.mp hx
      obtain ⟨j, hj, ej⟩ := List.getElem_of_mem z
      rw [List.length_map, List.length_take] at hj
      have hji : j < i := by omega
      rw [List.getElem_map, List.getElem_take] at ej
      have hne := List.pairwise_iff_getElem.mp nd j i (by rw [List.length_map]; omega) (by rw [List.length_map]; exact hlt) hji
      rw [List.getElem_map, List.getElem_map, hxx] at hne
      exact hne ej
theorem init_eq {cs : List (Str × Int)} {ps : List D} {a b : D} (hc : CellsOk cs) (h : ∀ d ∈ ps, ThS d) (hl : ps.length ≤ 50) (ha : ThS a) (hb : ThS b) (hcs : ThS (cellsD cs)) : F_Book___init__ [cellsD cs, a, b, .tup ps] = match faultPs (cs.map (·.1)) ps with
  | some x => .ex x
  | none => match faultF (cs.map (·.1)) a with
    | some e => .ex ⟨"BadFormula", [("place", e)]⟩
    | none => match faultF (cs.map (·.1)) b with
      | some e => .ex ⟨"BadFormula", [("place", e)]⟩
      | none => .ok [("cells", cellsD cs), ("programs", .tup ps), ("starts", a), ("rule", b)] := by
  have e1 := need_cells_eq hcs
  rw [badC_ok hc] at e1
  have e2 := need_programs_eq hc h hl
  have e3 := need_formula_eq hc ha
  have e4 := need_formula_eq hc hb
  have q1 : putFD ("cells" : Str) (cellsD cs) ([] : List (Str × D)) = ([(("cells" : Str), cellsD cs)] : List (Str × D)) := rfl
  have q2 : putFD ("programs" : Str) (.tup ps) [(("cells" : Str), cellsD cs)] = ([(("cells" : Str), cellsD cs), (("programs" : Str), .tup ps)] : List (Str × D)) := rfl
  have q3 : putFD ("starts" : Str) a [(("cells" : Str), cellsD cs), (("programs" : Str), .tup ps)] = ([(("cells" : Str), cellsD cs), (("programs" : Str), .tup ps), (("starts" : Str), a)] : List (Str × D)) := rfl
  have q4 : putFD ("rule" : Str) b [(("cells" : Str), cellsD cs), (("programs" : Str), .tup ps), (("starts" : Str), a)] = ([(("cells" : Str), cellsD cs), (("programs" : Str), .tup ps), (("starts" : Str), a), (("rule" : Str), b)] : List (Str × D)) := rfl
  simp [F_Book___init__, initF, fi_Book___init__, e1, e2, e3, e4, q1, q2, q3, q4]
  cases faultPs (cs.map (·.1)) ps with
  | some x => rfl
  | none =>
    cases faultF (cs.map (·.1)) a with
    | some x => rfl
    | none => cases faultF (cs.map (·.1)) b <;> rfl
def bookD (c : D) (ps : List D) (a b : D) : D := .obj "Book" [("cells", c), ("programs", .tup ps), ("starts", a), ("rule", b)]
/-- what comes of making a book -/
def madeB (ns : List Str) (c : D) (ps : List D) (a b : D) : Rs D := match faultPs ns ps with
  | some x => .ex x
  | none => match faultF ns a with
    | some e => .ex ⟨"BadFormula", [("place", e)]⟩
    | none => match faultF ns b with
      | some e => .ex ⟨"BadFormula", [("place", e)]⟩
      | none => .ok (bookD c ps a b)
section
variable {cs : List (Str × Int)} {ps : List D} {a b : D}
theorem init_made (hc : CellsOk cs) (h : ∀ d ∈ ps, ThS d) (hl : ps.length ≤ 50) (ha : ThS a) (hb : ThS b) (hcs : ThS (cellsD cs)) : ((F_Book___init__ [cellsD cs, a, b, .tup ps]).bind fun fs => .ok (.obj "Book" fs)) = madeB (cs.map (·.1)) (cellsD cs) ps a b := by
  rw [init_eq hc h hl ha hb hcs]
  unfold madeB
  cases faultPs (cs.map (·.1)) ps with
  | some x => rfl
  | none =>
    cases faultF (cs.map (·.1)) a with
    | some x => rfl
    | none => cases faultF (cs.map (·.1)) b <;> rfl
theorem new_id (hc : CellsOk cs) (h : ∀ d ∈ ps, ThS d) (hl : ps.length ≤ 50) (ha : ThS a) (hb : ThS b) (hcs : ThS (cellsD cs)) : newF "Book" 1 2 (selG .id) F_Book___init__ (cellsD cs :: ps) [a, b] = madeB (cs.map (·.1)) (cellsD cs) ps a b := by
  rw [← init_made hc h hl ha hb hcs]
  unfold newF
  rw [if_pos ⟨by simp, sz _ (by rw [List.length_cons]; omega), rfl⟩]
  rfl
/-- Book.of, the programs a tuple or a list -/
theorem of_eq {q : D} (hq : q = .tup ps ∨ q = .lst ps) (hc : CellsOk cs) (h : ∀ d ∈ ps, ThS d) (hl : ps.length ≤ 50) (ha : ThS a) (hb : ThS b) (hcs : ThS (cellsD cs)) : f_Book_of [.cls "Book", cellsD cs, q, a, b] = madeB (cs.map (·.1)) (cellsD cs) ps a b := by
  have e := new_id hc h hl ha hb hcs
  rcases hq with rfl | rfl
  · simp [f_Book_of, fb_Book_of, seqF, e]
    cases madeB (cs.map (·.1)) (cellsD cs) ps a b <;> rfl
  · simp [f_Book_of, fb_Book_of, seqF, e]
    cases madeB (cs.map (·.1)) (cellsD cs) ps a b <;> rfl
end
end Bk.Bo
namespace Bk.Qa
open PySem PySem.Spec PyProof.Rows L2
end Bk.Qa
namespace Bk.Qa
open PySem PySem.Spec PyProof.Rows L2
end Bk.Qa
namespace Bk
open PySem PySem.Spec PyProof.Rows L2
end Bk
namespace Bk.Wv
open PySem PySem.Spec PyProof.Rows L2
open Bk.Pa
open Bk.Bo
end Bk.Wv
namespace Bk.Wv
open PySem PySem.Spec PyProof.Rows L2
open Bk.Pa Bk.Bo
abbrev Kv := List (Key × D)
def vf (kvs : Kv) (x : Str) : Int := match dval kvs (.inr x) with
  | some (.int v) => v
  | _ => 0
def KOk (kvs : Kv) (ns : List Str) : Prop := ∀ x ∈ ns, ∃ v : Int, dval kvs (.inr x) = some (.int v) ∧ 0 ≤ v ∧ v ≤ 3
theorem KOk.val {kvs : Kv} {ns : List Str} (h : KOk kvs ns) {x : Str} (hx : x ∈ ns) : dval kvs (.inr x) = some (.int (vf kvs x)) ∧ 0 ≤ vf kvs x ∧ vf kvs x ≤ 3 := by
  obtain ⟨v, h1, h2, h3⟩ := h x hx
  have e : vf kvs x = v := by unfold vf; rw [h1]
  rw [e]; exact ⟨h1, h2, h3⟩
theorem KOk.sub {kvs : Kv} {ns ms : List Str} (h : KOk kvs ns) (hs : ∀ x ∈ ms, x ∈ ns) : KOk kvs ms := fun x hx => h x (hs x hx)
@[simp] theorem intL_map {α : Type} (f : α → Int) (xs : List α) : intL (xs.map fun a => D.int (f a)) = some (xs.map f) := by
  induction xs with
  | nil => rfl
  | cons a r ih => rw [List.map_cons, intL, ih]; rfl
@[simp] theorem so_0 : PyData.strOk (Str.ofString "=") = true := by decide +kernel
@[simp] theorem sne_01 : ((Str.ofString "=" = Str.ofString "!=") : Prop) = False := eq_false (by decide +kernel)
@[simp] theorem sne_02 : ((Str.ofString "=" = Str.ofString "<") : Prop) = False := eq_false (by decide +kernel)
@[simp] theorem sne_03 : ((Str.ofString "=" = Str.ofString "<=") : Prop) = False := eq_false (by decide +kernel)
@[simp] theorem sne_04 : ((Str.ofString "=" = Str.ofString ">") : Prop) = False := eq_false (by decide +kernel)
@[simp] theorem sne_05 : ((Str.ofString "=" = Str.ofString ">=") : Prop) = False := eq_false (by decide +kernel)
@[simp] theorem so_1 : PyData.strOk (Str.ofString "!=") = true := by decide +kernel
@[simp] theorem sne_10 : ((Str.ofString "!=" = Str.ofString "=") : Prop) = False := eq_false (by decide +kernel)
@[simp] theorem sne_12 : ((Str.ofString "!=" = Str.ofString "<") : Prop) = False := eq_false (by decide +kernel)
@[simp] theorem sne_13 : ((Str.ofString "!=" = Str.ofString "<=") : Prop) = False := eq_false (by decide +kernel)
@[simp] theorem sne_14 : ((Str.ofString "!=" = Str.ofString ">") : Prop) = False := eq_false (by decide +kernel)
@[simp] theorem sne_15 : ((Str.ofString "!=" = Str.ofString ">=") : Prop) = False := eq_false (by decide +kernel)
@[simp] theorem so_2 : PyData.strOk (Str.ofString "<") = true := by decide +kernel
@[simp] theorem sne_20 : ((Str.ofString "<" = Str.ofString "=") : Prop) = False := eq_false (by decide +kernel)
@[simp] theorem sne_21 : ((Str.ofString "<" = Str.ofString "!=") : Prop) = False := eq_false (by decide +kernel)
@[simp] theorem sne_23 : ((Str.ofString "<" = Str.ofString "<=") : Prop) = False := eq_false (by decide +kernel)
@[simp] theorem sne_24 : ((Str.ofString "<" = Str.ofString ">") : Prop) = False := eq_false (by decide +kernel)
@[simp] theorem sne_25 : ((Str.ofString "<" = Str.ofString ">=") : Prop) = False := eq_false (by decide +kernel)
@[simp] theorem so_3 : PyData.strOk (Str.ofString "<=") = true := by decide +kernel
@[simp] theorem sne_30 : ((Str.ofString "<=" = Str.ofString "=") : Prop) = False := eq_false (by decide +kernel)
@[simp] theorem sne_31 : ((Str.ofString "<=" = Str.ofString "!=") : Prop) = False := eq_false (by decide +kernel)
@[simp] theorem sne_32 : ((Str.ofString "<=" = Str.ofString "<") : Prop) = False := eq_false (by decide +kernel)
@[simp] theorem sne_34 : ((Str.ofString "<=" = Str.ofString ">") : Prop) = False := eq_false (by decide +kernel)
@[simp] theorem sne_35 : ((Str.ofString "<=" = Str.ofString ">=") : Prop) = False := eq_false (by decide +kernel)
@[simp] theorem so_4 : PyData.strOk (Str.ofString ">") = true := by decide +kernel
@[simp] theorem sne_40 : ((Str.ofString ">" = Str.ofString "=") : Prop) = False := eq_false (by decide +kernel)
@[simp] theorem sne_41 : ((Str.ofString ">" = Str.ofString "!=") : Prop) = False := eq_false (by decide +kernel)
@[simp] theorem sne_42 : ((Str.ofString ">" = Str.ofString "<") : Prop) = False := eq_false (by decide +kernel)
@[simp] theorem sne_43 : ((Str.ofString ">" = Str.ofString "<=") : Prop) = False := eq_false (by decide +kernel)
@[simp] theorem sne_45 : ((Str.ofString ">" = Str.ofString ">=") : Prop) = False := eq_false (by decide +kernel)
@[simp] theorem so_5 : PyData.strOk (Str.ofString ">=") = true := by decide +kernel
@[simp] theorem sne_50 : ((Str.ofString ">=" = Str.ofString "=") : Prop) = False := eq_false (by decide +kernel)
@[simp] theorem sne_51 : ((Str.ofString ">=" = Str.ofString "!=") : Prop) = False := eq_false (by decide +kernel)
@[simp] theorem sne_52 : ((Str.ofString ">=" = Str.ofString "<") : Prop) = False := eq_false (by decide +kernel)
@[simp] theorem sne_53 : ((Str.ofString ">=" = Str.ofString "<=") : Prop) = False := eq_false (by decide +kernel)
@[simp] theorem sne_54 : ((Str.ofString ">=" = Str.ofString ">") : Prop) = False := eq_false (by decide +kernel)
@[simp] theorem gin_0 : gIn false (.str (Str.ofString "=")) (.tup [.str (Str.ofString "<"), .str (Str.ofString "<=")]) = some (.bl false) := by kernel_rfl
@[simp] theorem gin_1 : gIn false (.str (Str.ofString "!=")) (.tup [.str (Str.ofString "<"), .str (Str.ofString "<=")]) = some (.bl false) := by kernel_rfl
@[simp] theorem gin_2 : gIn false (.str (Str.ofString "<")) (.tup [.str (Str.ofString "<"), .str (Str.ofString "<=")]) = some (.bl true) := by kernel_rfl
@[simp] theorem gin_3 : gIn false (.str (Str.ofString "<=")) (.tup [.str (Str.ofString "<"), .str (Str.ofString "<=")]) = some (.bl true) := by kernel_rfl
@[simp] theorem gin_4 : gIn false (.str (Str.ofString ">")) (.tup [.str (Str.ofString "<"), .str (Str.ofString "<=")]) = some (.bl false) := by kernel_rfl
@[simp] theorem gin_5 : gIn false (.str (Str.ofString ">=")) (.tup [.str (Str.ofString "<"), .str (Str.ofString "<=")]) = some (.bl false) := by kernel_rfl
end Bk.Wv
namespace Bk
open PySem PySem.Spec PyProof.Rows L2
end Bk
namespace Bk.Wv
open PySem PySem.Spec PyProof.Rows L2
open Bk.Pa Bk.Bo
@[simp] theorem zip_enc {α β : Type} (f : α → D) (g : β → D) (xs : List α) (ys : List β) : zipD (xs.map f) (ys.map g) = (xs.zip ys).map fun p => .tup [f p.1, g p.2] := by
  unfold zipD
  rw [List.zip_map, List.map_map]; rfl
@[simp] theorem seqD_tup (xs : List D) : seqD (.tup xs) = some xs := rfl
@[simp] theorem seqD_lst (xs : List D) : seqD (.lst xs) = some xs := rfl
@[simp] theorem zipF_some (xs ys : List D) : zipF (some xs) (some ys) = if xs.length ≤ sizeLine then .ok (zipD xs ys) else .no := rfl
end Bk.Wv
namespace Bk.Wv
open PySem PySem.Spec PyProof.Rows L2
open Bk.Pa Bk.Bo
end Bk.Wv
namespace Bk.Wv
open PySem PySem.Spec PyProof.Rows L2
open Bk.Pa Bk.Bo
@[simp] theorem gIx_tup (xs : List D) (i : Int) : gIx (.tup xs) (.int i) = atI xs i := rfl
@[simp] theorem gIx_lst (xs : List D) (i : Int) : gIx (.lst xs) (.int i) = atI xs i := rfl
theorem atI_of_nat {α : Type} {xs : List α} {n : Nat} {a : α} (h : xs[n]? = some a) : atI xs (n : Int) = some a := by
  obtain ⟨h1, h2⟩ := List.getElem?_eq_some_iff.mp h
  rw [atI_nat h1, h]
end Bk.Wv
namespace Bk.Wv
open PySem PySem.Spec PyProof.Rows L2
open Bk.Pa Bk.Bo
def wrL (p : Prog) : List Str := p.sets.map (·.1) ++ p.marks
def wr (ns : List Str) (p : Prog) : List Str := ns.filter fun x => decide (x ∈ wrL p)
def bkD (cs : List (Str × Int)) (ps : List Prog) (a b : D) : D := bookD (cellsP cs) (ps.map progD) a b
@[simp] theorem fld_cells (cs : List (Str × Int)) (ps : List Prog) (a b : D) : gFldO cn "cells" (bkD cs ps a b) = some (cellsD cs) := rfl
@[simp] theorem fld_progs (cs : List (Str × Int)) (ps : List Prog) (a b : D) : gFldO cn "programs" (bkD cs ps a b) = some (.tup (ps.map progD)) := rfl
@[simp] theorem fld_starts (cs : List (Str × Int)) (ps : List Prog) (a b : D) : gFldO cn "starts" (bkD cs ps a b) = some a := rfl
@[simp] theorem fld_rule (cs : List (Str × Int)) (ps : List Prog) (a b : D) : gFldO cn "rule" (bkD cs ps a b) = some b := rfl
@[simp] theorem obj_bk (m : Str) (cs : List (Str × Int)) (ps : List Prog) (a b : D) (h : (m == "cells" || (m == "programs" || (m == "starts" || m == "rule"))) = false) : objM cn m (bkD cs ps a b) = true := by
  simp only [Bool.or_eq_false_iff] at h
  obtain ⟨h1, h2, h3, h4⟩ := h
  show (decide (Str.ofString "Book" ∈ cn) && (List.lookup m _).isNone) = true
  simp [bookD, List.lookup, h1, h2, h3, h4, cn]
theorem cut_from (xs : List D) (k : Nat) : cutD xs (some (k : Int)) none = xs.drop k := by
  unfold cutD
  rw [HT.sIx_nat, HT.sIx_none]
  by_cases h : k ≤ xs.length
  · rw [Nat.min_eq_left h, List.take_of_length_le (by rw [List.length_drop]; omega)]
  · rw [Nat.min_eq_right (by omega), List.drop_eq_nil_of_le (Nat.le_refl _), List.drop_eq_nil_of_le (by omega)]; simp
@[simp] theorem cut_from1 (xs : List D) : cutD xs (some 1) none = xs.drop 1 := cut_from xs 1
@[simp] theorem gSl_tup (xs : List D) (a b : Option Int) : gSl (.tup xs) a b = some (.tup (cutD xs a b)) := rfl
@[simp] theorem gSl_lst (xs : List D) (a b : Option Int) : gSl (.lst xs) a b = some (.lst (cutD xs a b)) := rfl
@[simp] theorem gLen_tup (xs : List D) : gLen (.tup xs) = some (.int (xs.length : Nat)) := rfl
@[simp] theorem gLen_lst (xs : List D) : gLen (.lst xs) = some (.int (xs.length : Nat)) := rfl
@[simp] theorem gAll_map (b : Bool) {α : Type} (f : α → Bool) (xs : List α) : gAll b (.lst (xs.map fun a => D.bl (f a))) = some (.bl (if b = true then xs.any f else xs.all f)) := by
  show (bls (xs.map fun a => D.bl (f a))).map _ = _
  rw [bls_map]
  cases b
  · simp only [Bool.false_eq_true, if_false, Option.map_some, List.all_map]; rfl
  · simp only [if_true, Option.map_some, List.any_map]; rfl
end Bk.Wv
namespace Bk.Wv
open PySem PySem.Spec PyProof.Rows L2
open Bk.Pa Bk.Bo
end Bk.Wv
namespace Bk.Wv
open PySem PySem.Spec PyProof.Rows L2
open Bk.Pa Bk.Bo
end Bk.Wv
namespace Bk.Wv
open PySem PySem.Spec PyProof.Rows L2
open Bk.Pa Bk.Bo
def optN : Option Nat → D
  | some k => .int k
  | none => .non
end Bk.Wv
namespace Bk.Wv
open PySem PySem.Spec PyProof.Rows L2
open Bk.Pa Bk.Bo
theorem filter_sub : ∀ {zs ns : List Str}, zs.Sublist ns → ns.Nodup → ns.filter (fun n => decide (n ∈ zs)) = zs
  | _, _, .slnil, _ => rfl
  | zs, _, .cons a (l₂ := l) h, hn => by
    rw [List.nodup_cons] at hn
    rw [List.filter_cons, if_neg (by rw [decide_eq_true_eq]; exact fun z => hn.1 (h.subset z))]
    exact filter_sub h hn.2
  | _, _, .cons₂ a (l₁ := zs) (l₂ := l) h, hn => by
    rw [List.nodup_cons] at hn
    rw [List.filter_cons, if_pos (by simp)]
    have e : l.filter (fun n => decide (n ∈ a :: zs)) = l.filter (fun n => decide (n ∈ zs)) := by
      refine List.filter_congr fun x hx => ?_
      have : ¬ x = a := fun z => hn.1 (z ▸ hx)
      simp [this]
    rw [e, filter_sub h hn.2]
theorem inOrd_texts {ns zs : List Str} (h : zs.Sublist ns) (hn : ns.Nodup) : inOrdB ns (texts zs) = true := by
  unfold inOrdB
  rw [strsF_texts]
  exact decide_eq_true (filter_sub h hn)
end Bk.Wv
namespace Bk.Wv
open PySem PySem.Spec PyProof.Rows L2
open Bk.Pa Bk.Bo
theorem fRng1_of {r : FA} {e : DEnv} {ds : List D} {x : Rs (List D)} (h1 : r e = .ok ds) (h2 : rngF ds = x) : fRng1 r e = x := by
  unfold fRng1
  rw [h1]; exact h2
end Bk.Wv
namespace Bk
open PySem PySem.Spec PyProof.Rows L2
section
variable {p : Addr} {c c1 c2 : Nat} {P : Out → Prop} {e e1 : DEnv} {f g h : MS}
theorem rng_nat {v : Nat} (h : v ≤ 1000) : rngF [.int (v : Int)] = .ok ((List.range v).map fun k : Nat => D.int k) := by
  have b3 : ((v : Int)).toNat ≤ sizeLine := sz _ (by omega)
  have e : ((v : Int)).toNat = v := by omega
  rw [rngF_eq]
  split
  · rw [e, rangeD_eq]
  · rename_i hn
    exact (hn ⟨by omega, by omega, b3⟩).elim
end
end Bk
namespace Bk.Wv
open PySem PySem.Spec PyProof.Rows L2
open Bk.Pa Bk.Bo
end Bk.Wv
namespace Bk.Wv
open PySem PySem.Spec PyProof.Rows L2
open Bk.Pa Bk.Bo
end Bk.Wv
namespace Bk.Wv
open PySem PySem.Spec PyProof.Rows L2
open Bk.Pa Bk.Bo
end Bk.Wv
namespace Bk.Wv
open PySem PySem.Spec PyProof.Rows L2
open Bk.Pa Bk.Bo
end Bk.Wv
namespace Bk.Wv
open PySem PySem.Spec PyProof.Rows L2
open Bk.Pa Bk.Bo
end Bk.Wv
namespace Bk
open PySem PySem.Spec PyProof.Rows L2
end Bk
namespace Bk
open PySem PySem.Spec PyProof.Rows L2
end Bk
namespace Bk
open PySem PySem.Spec PyProof.Rows L2 PySem.W
end Bk
namespace Bk
open PySem PySem.Spec PyProof.Rows L2 PySem.SeqAt MeetsSeq
open AutoSeq1 (wpAny_loadPart')
section
variable {M : Model} {prog : Program} {w : World} {A : Around} {E : Value → Shared → Prop} {s : Shared} {K : PySem.W.Frag} {x C f dx : Addr} {ox : Obj} {od : Option Obj}
/-- no builtin type of data is below a class of one's own -/
theorem sub_bt {t : String} (ht : t ∈ ["NoneType", "int", "bool", "str", "list", "tuple"]) : PySem.W.subIn K (.type t) (.ref C) = some false := by
  have e : ∀ t ∈ ["NoneType", "int", "bool", "str", "list", "tuple"], (PySem.fastBuiltinMro t).map (·.all fun v => match v with | .ref _ => false | _ => true) = some true := by decide +kernel
  have := e t ht
  show (PySem.fastBuiltinMro t).map (·.contains (.ref C)) = some false
  cases h : PySem.fastBuiltinMro t with
  | none => rw [h] at this; cases this
  | some l =>
    rw [h] at this
    simp only [Option.map_some, Option.some.injEq, List.all_eq_true] at this ⊢
    simp only [List.contains_eq_mem, decide_eq_false_iff_not]
    intro hm
    have := this _ hm
    cases this
end
section
variable {M : Model} {prog : Program} {w : World} {A : Around} {E : Value → Shared → Prop} {s : Shared} {K : PySem.W.Frag} {x C f dx : Addr} {ox : Obj} {od : Option Obj} {b tb : Value}
/-- a value of a builtin type -/
inductive BtV (K : PySem.W.Frag) (H : Hp) : V → String → Prop
  | non : BtV K H .non "NoneType"
  | int (i : Int) : BtV K H (.int i) "int"
  | bl (b : Bool) : BtV K H (.bl b) "bool"
  | str (x : Str) : BtV K H (.str x) "str"
  | lst {a : Addr} {xs : List V} (h : SqL K H a xs) : BtV K H (.ref a) "list"
  | tup {a : Addr} {xs : List V} (h : SqT K H a xs) : BtV K H (.ref a) "tuple"
end
section
variable {X : Cx} {T : Tb} {pins : List (Addr × Obj)} {σ : L2.St} {H : Hp} {s : Shared} {v : V} {u : Value} {t : String}
theorem BtV.mem (h : BtV X.K H v t) : t ∈ ["NoneType", "int", "bool", "str", "list", "tuple"] := by cases h <;> decide
theorem BtV.looks {M : Model} (I : L2.Inv X pins σ H s) (h : BtV X.K H v t) (r : RelV v u) : PySem.W.Looks M s.heap (typeOf u) (.type t) := by
  cases h with
  | non => obtain rfl : u = Value.none := r; exact PySem.W.Looks.of_pure rfl
  | int i => obtain ⟨tk, rfl⟩ := r; exact PySem.W.Looks.of_pure rfl
  | bl b => obtain rfl : u = Value.bool b := r; exact PySem.W.Looks.of_pure rfl
  | str x => obtain ⟨tk, rfl⟩ := r; exact PySem.W.Looks.of_pure rfl
  | lst h =>
    obtain ⟨its, _, ⟨o, n, e, hc, _⟩, _⟩ := I.list h
    obtain rfl : u = Value.ref _ := r
    exact hc ▸ (PySem.W.Looks.ld e).andThen .now
  | tup h =>
    obtain ⟨its, _, ⟨o, e, hc, _⟩, _⟩ := I.tuple h
    obtain rfl : u = Value.ref _ := r
    exact hc ▸ (PySem.W.Looks.ld e).andThen .now
end
section
variable {X : Cx} {T : Tb} {W : WX} {k : Nat} {C g : Addr} {fd : FuncData} {ps cn : List Str} {phi : Fn}
/-- a value that may stand beside an instance of the class at C -/
def RgtV (K : PySem.W.Frag) (C : Addr) (H : Hp) (y : V) : Prop := (∃ t, BtV K H y t) ∨ ∃ b dy gs, y = .ref b ∧ H b = some (.ins C dy gs)
theorem RgtV.looks {M : Model} {pins : List (Addr × Obj)} {σ : L2.St} {H : Hp} {s : Shared} {y : V} {u : Value} (I : L2.Inv X pins σ H s) (h : RgtV X.K C H y) (r : RelV y u) : ∃ tb, PySem.W.Looks M s.heap (typeOf u) tb ∧ PySem.W.notFirst X.K C tb = true := by
  rcases h with ⟨t, h⟩ | ⟨b, dy, gs, rfl, e⟩
  · exact ⟨.type t, h.looks I r, Bool.or_eq_true_iff.mpr (.inr (beq_iff_eq.mpr (sub_bt h.mem)))⟩
  · obtain ⟨ox, od, J⟩ := inst_ofO I e
    obtain rfl : u = Value.ref b := r
    exact ⟨.ref C, J.type, Bool.or_eq_true_iff.mpr (.inl (beq_iff_eq.mpr rfl))⟩
end
end Bk
namespace Bk
open PySem PySem.Spec PyProof.Rows L2 PySem.SeqAt MeetsSeq
open AutoSeq1 (wpAny_loadPart')
end Bk
namespace Bk
open PySem PySem.Spec PyProof.Rows L2
end Bk
namespace Bk
open PySem PySem.Spec PyProof.Rows L2
section
variable {X : Cx} {T : Tb} {W : WX} {k : Nat} {a : Expr} {fa : Exp} {p pos pos' kpos : Pos} {x n f : Str} {C : Addr}
/-- a new exception at e, its dict at dx -/
def tNewX (C : Addr) (f : Str) (ta : TA) : TE := fun σ H Q => ta σ H fun vs H1 => ∃ x, vs = [x] ∧ ∀ dx e, H1 dx = none → H1 e = none → dx ≠ e → Q (.ref e) (upd (upd H1 dx (.xd [(f, x)])) e (ExcO C dx e))
theorem laid_exc {pins : List (Addr × Obj)} {σ : L2.St} {H : Hp} {s : Shared} {h' : Heap} {e dx t tk : Nat} {y : V} {u : Value} (I : Inv X pins σ H s) (ru : RelV y u) (kp : ∀ b o, s.heap.get? b = some o → h'.get? b = some o) (he : s.heap.objs.size ≤ e) (hdx : s.heap.objs.size ≤ dx) (ne : dx ≠ e) (ho : h'.get? e = some (PySem.W.excObj C t (some dx) .none))
    (hn : h'.Ns1 dx (fun y => if y = f then some u else none)) : H dx = none ∧ H e = none ∧ Inv X pins σ (upd (upd H dx (.xd [(f, y)])) e (ExcO C dx e)) { s with heap := h', toks := tk } := by
  obtain ⟨G, g1, g2⟩ := restrict h' fun b => decide (b ≠ e)
  have gk : ∀ b, b ≠ e → G.get? b = h'.get? b := fun b hb => g1 b (decide_eq_true hb)
  have ge : G.get? e = none := g2 e (by simp)
  have nlt : ∀ {b o}, s.heap.get? b = some o → b ≠ e := fun {b o} z y => absurd (Heap.lt_size z) (by rw [y]; exact Nat.not_lt.mpr he)
  have k2 : ∀ b o, s.heap.get? b = some o → G.get? b = some o := fun b o z => by rw [gk b (nlt z)]; exact kp b o z
  have n0 : s.heap.get? dx = none := by
    cases z : s.heap.get? dx with
    | none => rfl
    | some o => exact absurd (Heap.lt_size z) (Nat.not_lt.mpr hdx)
  have hd0 : H dx = none := I.hok.fresh hdx
  have he0 : H e = none := I.hok.fresh he
  have hnG : G.Ns1 dx (fun y => if y = f then some u else none) := hn.at fun o z => by rw [gk dx ne]; exact z
  have J := I.laidN (h' := G) (t' := tk) (o := .xd [(f, y)]) k2 n0 hd0 ⟨_, hnG, fun g => by
    by_cases hgf : g = f
    · subst hgf
      simp only [List.lookup, beq_self_eq_true, if_true]
      exact ru
    · have e2 : (g == f) = false := by simpa using hgf
      simp only [List.lookup, e2, if_neg hgf]
      exact trivial⟩
  have J2 := J.laidN (h' := h') (t' := tk) (o := ExcO C dx e) (a := e) (fun b o z => by
    by_cases hb : b = e
    · rw [hb, show ({ s with heap := G, toks := tk } : Shared).heap.get? e = G.get? e from rfl, ge] at z; cases z
    · rw [← gk b hb]; exact z) ge (by rw [upd_ne (fun z => ne z.symm)]; exact he0) (excO_ok ho ⟨rfl, rfl⟩ rfl)
  exact ⟨hd0, he0, J2⟩
theorem pe_newX {ta : TA} (T : ExcT X.prog X.K C f) (gC : X.mg x = some (.ref C)) (kC : PySem.W.keepIn X.K (.ref C) = true) (hg : Gl X x) (hr : Room k X.A) (ha : PA X [a] ta)
    (hdb : (x == ("__debug__" : Str)) = false := by decide) (he : starEach [a] X.env = (false, eval a X.env) :: starEach [] X.env := by rfl) (hpl : (backTo pos (starEach [] X.env)).any (·.1) = false := by rfl) : PE X (.Call (.Name x p) [a] [] pos) (tNewX C f ta) := by
  refine ⟨fun pins s σ H Q I h => ?_⟩
  refine wpAny_Call_Name_kw (ld_glob I hg gC ?_ hdb)
  refine PySem.W.callWith_K (h₀ := X.base) I.ok.mod.kin kC (thn (ha.run pos pins s σ H _ I h) fun us s1 ⟨vs, H1, I1, r1, q⟩ => ⟨I1.kIn, ?_⟩) he hpl
  obtain ⟨y, rfl, q⟩ := q
  obtain ⟨u, rfl, ru⟩ := vals1 r1
  obtain ⟨mb, nb, boot⟩ := I1.mod.blt
  refine exc_made T I1.kIn (I1.mod.glob.keeps I1.bk) (nb.keeps I1.bk) boot I1.nolimit (by rw [make_depth]; have := hr.dp; omega) fun h' e dx t tk kp he hdx ne ho hn => ?_
  obtain ⟨hd0, he0, J⟩ := laid_exc (tk := tk) I1 ru kp he hdx ne ho hn
  exact ⟨.ref e, _, J, rfl, q dx e hd0 he0 ne⟩
/-- C(e), C an own exception: the exception -/
def dMkE (n f : Str) (g : Exp) : Exp := fun e s R E => g e s (fun d s1 => R (.exc n [(f, d)]) s1) E
theorem newX_post {F H : Hp} {s : S} {R : Q1} {Q : VK} {d : D} {v : V} {dx e : Addr} (hh : Hold X.K T F s H) (rv : Rep X.K T F d v) (h1 : H dx = none) (h2 : H e = none) (ne : dx ≠ e) (q : R (.exc n [(f, d)]) s) (post : Post X.K T F s H R Q) : Q (.ref e) (upd (upd H dx (.xd [(f, v)])) e (ExcO (T.cls n) dx e)) := by
  have a1 := Ext.frz (o := .xd [(f, v)]) hh h1
  have b1 := hh.frz (o := .xd [(f, v)]) h1 (fun ps z => by cases z)
  have ne0 : (upd H dx (.xd [(f, v)])) e = none := by rw [upd_ne (fun z => ne z.symm)]; exact h2
  have a2 := a1.trans (Ext.frz (o := ExcO (T.cls n) dx e) b1 ne0)
  have b2 := b1.frz (o := ExcO (T.cls n) dx e) ne0 (fun ps z => by unfold ExcO at z; cases z)
  have sm1 : Same F (upd F dx (.xd [(f, v)])) := same_upd (hh.fresh h1)
  have sm2 : Same (upd F dx (.xd [(f, v)])) (upd (upd F dx (.xd [(f, v)])) e (ExcO (T.cls n) dx e)) := same_upd (b1.fresh ne0)
  exact post _ _ _ _ _ q a2 b2 (.exc upd_same (sm2 _ _ upd_same) (.cons (rv.mono (sm1.trans sm2)) .nil))
theorem dx_mkE (C : ECls X.prog X.K X.mg T n f) (hr : Room k X.A) (hg : Gl X n) (ha : DX X T W a fa)
    (hdb : (n == ("__debug__" : Str)) = false := by decide) (he : starEach [a] X.env = (false, eval a X.env) :: starEach [] X.env := by rfl) (hpl : (backTo pos (starEach [] X.env)).any (·.1) = false := by rfl) :
    DX X T W (.Call (.Name n p) [a] [] pos) (dMkE n f fa) := ⟨pe_imp (pe_newX C.et C.mg C.keep hg hr (pa_cons ha.pe pa_nil he) hdb he hpl) fun σ H Q h => by
  obtain ⟨F, e, s, R, E, he, hh, hx, hf, post⟩ := h
  exact ⟨F, e, s, _, E, he, hh, hx, hf, fun d s1 v H1 F1 q x1 hh1 rv => ⟨v, rfl, fun dx e2 n1 n2 ne => newX_post hh1 rv n1 n2 ne q (post.mono x1)⟩⟩⟩
theorem dx_mkEK (C : ECls X.prog X.K X.mg T n f) (KT : KwT X.K (T.cls n) f) (hr : Room k X.A) (hg : Gl X n) (ha : DX X T W a fa)
    (hdb : (n == ("__debug__" : Str)) = false := by decide) (hall : (backToKw pos (keywordEach [⟨some f, a, kpos⟩] X.env)).all (·.1.isSome) = true := by rfl) (hks : (backToKw pos (keywordEach [⟨some f, a, kpos⟩] X.env)).filterMap (·.1) = [f] := by rfl)
    (hn : (backToKw pos (keywordEach [⟨some f, a, kpos⟩] X.env)).any (·.1.isNone) = false := by rfl) :
    DX X T W (.Call (.Name n p) [] [⟨some f, a, kpos⟩] pos) (dMkE n f fa) := ⟨⟨fun pins s σ H Q I h => by
  obtain ⟨F, e, s0, R, E, he, hh, hx, hf, post⟩ := h
  refine wpAny_Call_Name_kw (ld_glob I hg C.mg ?_ hdb)
  refine argsK0 (P := fun h => X.K.In h) (fst := []) (Rd := fun kd s2 => ∃ d, kd = [d] ∧ R (.exc n [(f, d)]) s2) (dk_cons ha dk_nil) I he hh hx ?_ hall hks hn (PySem.W.keeps_K C.keep) fun ws zs kd s3 F2 H2 sh2 rz rk hh2 x2 I3 q => ⟨I3.kIn, ?_⟩
  · show fa e s0 (fun d s1 => ∃ d', [d] = [d'] ∧ R (.exc n [(f, d')]) s1) E
    refine cast (congrArg (fun g => fa e s0 g E) ?_) hf
    funext d s1
    exact propext ⟨fun z => ⟨d, rfl, z⟩, fun ⟨d', z1, z2⟩ => by cases z1; exact z2⟩
  obtain ⟨d, rfl, q⟩ := q
  obtain ⟨v, rfl, rv⟩ := rk.one
  obtain ⟨u, rfl, ru⟩ := vals1 rz
  obtain ⟨mb, nb, boot⟩ := I3.mod.blt
  refine exc_made_kw C.et KT I3.kIn (I3.mod.glob.keeps I3.bk) (nb.keeps I3.bk) boot I3.nolimit (by rw [make_depth]; have := hr.dp; omega) fun h' e2 dx t tk kp he2 hdx ne ho hn2 => ?_
  obtain ⟨hd0, he0, J⟩ := laid_exc (tk := tk) I3 ru kp he2 hdx ne ho hn2
  exact ⟨.ref e2, _, J, rfl, newX_post hh2 rv hd0 he0 ne q (post.mono x2)⟩⟩⟩
end
end Bk
namespace Bk
open PySem PySem.Spec PyProof.Rows L2
/-- what the written part says of the classes kn, asked for the builtin classes bs -/
structure EBt (K : PySem.W.Frag) (T : Tb) (kn : List Str) (bs : List String) : Prop where
  kit : ∀ c ∈ kn, ∀ b ∈ bs, PySem.W.kitOne K (.ref (T.cls c)) (.type b) = some (subC c b)
theorem ebt_of {hs : NestedKey → Int} {K : PySem.W.Frag} {TT : List (Addr × Str)} {kn : List Str} {bs : List String} (h : ebB K kn bs = true) : EBt K ⟨TT, clsK K, hs⟩ kn bs := ⟨fun c hc b hb => by
  have q := List.all_eq_true.mp (List.all_eq_true.mp h c hc) b hb
  exact of_decide_eq_true q⟩
section
variable {X : Cx} {T : Tb} {W : WX} {k : Nat} {a : Expr} {fa : Exp} {p p1 p2 p3 pos pos' kpos : Pos} {x n f m : Str} {C : Addr}
theorem dx_isEB {kn ms fs : List Str} {bs : List String} {m : String} (A : EAll X.K T kn ms fs) (Ab : EBt X.K T kn bs) (hmem : m ∈ bs) (hi : Gl X "isinstance") (hmi : X.mg "isinstance" = none) (hbi : bootBuiltins "isinstance" = some (.builtin "isinstance")) (hn : DX X T W (.Name m p2) (dC (.rf (.ty m)))) (ha : DX X T W a fa)
    (hs1 : starEach [.Name m p2] X.env = (false, eval (.Name m p2) X.env) :: starEach [] X.env := by rfl) (hs : starEach (a :: [.Name m p2]) X.env = (false, eval a X.env) :: starEach [.Name m p2] X.env := by rfl) (hpl : (backTo pos (starEach [.Name m p2] X.env)).any (·.1) = false := by rfl) :
    DX X T W (.Call (.Name "isinstance" p) [a, .Name m p2] [] pos) (dIsE kn m fa) := by
  refine ⟨pe_imp (pe_callB call_isH hi hmi hbi (da_cons ha (da_cons hn da_nil hs1) hs).pa (by decide) (by decide) hs hpl) fun σ H Q h => ?_⟩
  obtain ⟨F, e, s, R, E, he, hh, hx, hf, post⟩ := h
  refine ⟨F, e, s, (fun ds s1 => match ds with
    | [.exc c fs, .rf v] => v = .ty m ∧ c ∈ kn ∧ R (.bl (subC c m)) s1
    | _ => False), E, he, hh, hx, ?_, fun ds s1 vs H1 F1 q1 x1 hh1 rs => ?_⟩
  · refine cast (congrArg (fun g => fa e s g E) ?_) hf
    funext d s1
    cases d <;> first | rfl | (exact propext ⟨fun z => z.elim, fun z => z.elim⟩) | (exact propext ⟨fun z => ⟨rfl, z⟩, fun z => z.2⟩)
  · dsimp only at q1 ⊢
    split at q1
    · obtain ⟨rfl, hc, q⟩ := q1
      obtain ⟨v, w, rfl, r1, r2⟩ := rs.two
      cases r2
      cases r1 with | exc l1 l2 rr =>
        exact ⟨_, _, _, _, _, _, _, rfl, hh1.sub _ _ l1, hh1.sub _ _ l2, fun u z => z, (A.hold _ hc).ec, Ab.kit _ hc m hmem, post _ s1 _ H1 F1 q x1 hh1 (.bl _)⟩
    · exact q1.elim
/-- C(), an own exception class without own __init__ -/
theorem pe_exc0 {bmB : List Value} {B newId initId : String} (F : ExcBaseFacts B newId initId bmB) (q : PySem.W.excIn X.K C bmB newId = true) (gC : X.mg x = some (.ref C)) (kC : PySem.W.keepIn X.K (.ref C) = true) (hg : Gl X x)
    (hdb : (x == ("__debug__" : Str)) = false := by decide) :
    PE X (.Call (.Name x p) [] [] pos) (fun σ H Q => ∀ a, H a = none → Q (.ref a) (upd H a (ExO (.ref C) a))) := by
  refine ⟨fun pins s σ H Q I h => ?_⟩
  refine wpAny_Call_Name_kw (ld_glob I hg gC ?_ hdb)
  refine callWith_any (P := fun h => X.K.In h) rfl (PySem.W.keeps_K kC) (PyProof.Rows.evalArgs_kw2_nil (by rfl) (Calls.spliced_nil ⟨I.kIn, ?_⟩))
  show wpAny _ _ (call (.ref C) []) _ _ _
  obtain ⟨bm, N, nm, qn, bs, hdct, sn, sub, ab, col, dd, k0, k1, k2, k3, k5, mN, hC, hN, hni, T⟩ := exc_obj I.kIn q
  refine wpAny_call_exc_subT F T hC hN hni (fun h' a hm => ?_) (by show 0 ≤ sizeLine; omega)
  have hn : H a = none := I.hok.gone hm.new
  obtain ⟨t, ht, _, _⟩ := hm.there
  exact ⟨.ref a, upd H a (ExO (.ref C) a), I.laidN hm.keeps hm.new hn (exO_ok ht ⟨rfl, rfl⟩ rfl rfl rfl (show 4 < 6 by decide)), rfl, h a hn⟩
/-- isinstance(e, c), e an exception not raised yet, without a dict -/
def rIsN (K : PySem.W.Frag) : List V → Hp → VK → Prop := fun xs H Q => ∃ (a C : Addr) (c : V) (cv : Value) (b : Bool), xs = [.ref a, c] ∧ H a = some (ExO (.ref C) a) ∧ (∀ u, RelV c u → u = cv) ∧ ExcC K C ∧ PySem.W.kitOne K (.ref C) cv = some b ∧ Q (.bl b) H
theorem call_isN : CallR X (.builtin "isinstance") (rIsN X.K) := by
  intro pins s σ H xs us Q I r h
  obtain ⟨a, C, c, cv, b, rfl, ha, hcv, hC, e, q⟩ := h
  obtain ⟨u1, u2, rfl, r1, r2⟩ := vals2 r
  obtain rfl : u1 = Value.ref a := r1
  have ec := hcv _ r2
  subst ec
  obtain ⟨⟨oe, vs, ho, hz, hd, h1, _⟩, _, _⟩ := I.hok a _ ha
  have J : PySem.W.InstAt s.heap a oe C none := by
    obtain ⟨oc, od, oda, osl⟩ := oe
    obtain ⟨h1, h2⟩ := hz
    dsimp only at h1 h2 hd
    subst h1 h2 hd
    exact ⟨ho, rfl, rfl, trivial⟩
  exact PySem.W.kia_one (PySem.W.handS_kitx_exc hC.hg hC.hk hC.hs hC.hd hC.ha hC.hn hC.ht hC.hm) I.kIn J e (fun z => nomatch z) fun tk => ⟨.bl b, H, I.kept (t' := tk) fun _ _ z => z, rfl, q⟩
/-- a bool that a new object told -/
def dIsNew (b : Bool) : Exp := fun e s R E => R (.bl b) s
/-- what the written part says of the class n without own __init__ -/
structure NCls (K : PySem.W.Frag) (mg : Str → Option Value) (T : Tb) (n : Str) (B : String) (b : Bool) : Prop where
  mg : mg n = some (.ref (T.cls n))
  keep : PySem.W.keepIn K (.ref (T.cls n)) = true
  ex : PySem.W.excIn K (T.cls n) [.type "ValueError", .type "Exception", .type "BaseException", .type "object"] "ValueError.__new__" = true
  ec : ExcC K (T.cls n)
  kit : PySem.W.kitOne K (.ref (T.cls n)) (.type B) = some b
theorem dx_isNew {m : String} {b : Bool} (N : NCls X.K X.mg T n m b) (hi : Gl X "isinstance") (hmi : X.mg "isinstance" = none) (hbi : bootBuiltins "isinstance" = some (.builtin "isinstance")) (hg : Gl X n) (hgm : Gl X m) (hmm : X.mg m = none) (hvm : bootBuiltins m = some (.type m))
    (hdb : (n == ("__debug__" : Str)) = false := by decide) (hnm : (m : Str) ≠ "__name__" := by decide) (hdm : (m == ("__debug__" : Str)) = false := by decide)
    (hs1 : starEach [.Name m p2] X.env = (false, eval (.Name m p2) X.env) :: starEach [] X.env := by rfl) (hs : starEach ((.Call (.Name n p1) [] [] p3) :: [.Name m p2]) X.env = (false, eval (.Call (.Name n p1) [] [] p3) X.env) :: starEach [.Name m p2] X.env := by rfl) (hpl : (backTo pos (starEach [.Name m p2] X.env)).any (·.1) = false := by rfl) :
    DX X T W (.Call (.Name "isinstance" p) [.Call (.Name n p1) [] [] p3, .Name m p2] [] pos) (dIsNew b) := by
  have hn : PE X (.Name m p2) (fun σ H Q => Q (.ty m) H) := pe_bltn hgm hmm hvm (show L2.RelV (.ty m) (.type m) from rfl) hnm hdm
  refine ⟨pe_imp (pe_callB call_isN hi hmi hbi (pa_cons (pe_exc0 PySem.F.excBase_ValueError N.ex N.mg N.keep hg hdb) (pa_cons hn pa_nil hs1) hs) (by decide) (by decide) hs hpl) fun σ H Q h => ?_⟩
  obtain ⟨F, e, s, R, E, he, hh, hx, hf, post⟩ := h
  intro a hna
  refine ⟨a, T.cls n, .ty m, .type m, b, rfl, upd_same, fun u z => z, N.ec, N.kit, ?_⟩
  exact post _ s _ _ _ hf (Ext.frz hh hna) (hh.frz hna (fun ps z => by unfold ExO at z; cases z)) (.bl _)
end
end Bk
namespace Bk
open PySem PySem.Spec PyProof.Rows L2
theorem bt_ValueError : bootBuiltins "ValueError" = some (.type "ValueError") := by decide +kernel
theorem bt_LookupError : bootBuiltins "LookupError" = some (.type "LookupError") := by decide +kernel
theorem bt_OverflowError : bootBuiltins "OverflowError" = some (.type "OverflowError") := by decide +kernel
def gMkE (n f : Str) : F1 := fun d => some (.exc n [(f, d)])
section
variable {M : List Nat} {a : FX} {wa : Exp}
theorem ax_mkE {n f : Str} (ha : AX M a wa) : AX M (fB1 (gMkE n f) a) (dMkE n f wa) := fun s0 fe we ws h R E q => by
  refine ha s0 fe we ws h _ E (run_mono (run_bind.mp q) (fun x q => ?_) fun _ k => k)
  obtain ⟨d, e, q⟩ := run_opt q
  cases e
  exact q
end
theorem ncls_of {hs : NestedKey → Int} {K : PySem.W.Frag} {mg : Str → Option Value} {h : Heap} {TT : List (Addr × Str)} {n : Str} {C : Addr} {B : String} {b : Bool} (X : K.In h) (G : h.Ns mainGlobals mg) (hC : PySem.W.nsIn K mainGlobals n = some (some (.ref C))) (hB : nclsB K C B b = true) : NCls K mg ⟨TT, clsK K, hs⟩ n B b := by
  simp only [nclsB, Bool.and_eq_true, decide_eq_true_eq] at hB
  obtain ⟨⟨⟨h1, h2⟩, h3⟩, h4⟩ := hB
  have e := clsK_of hC
  refine ⟨?_, ?_, ?_, ?_, ?_⟩
  · show mg n = some (.ref (clsK K n)); rw [e]; exact PySem.W.mg_of X G hC
  · show PySem.W.keepIn K (.ref (clsK K n)) = true; rw [e]; exact h1
  · show PySem.W.excIn K (clsK K n) _ _ = true; rw [e]; exact h2
  · show ExcC K (clsK K n); rw [e]; exact excB_ok h3
  · show PySem.W.kitOne K (.ref (clsK K n)) _ = _; rw [e]; exact h4
theorem kwt_of {K : PySem.W.Frag} {n f : Str} {st : Stmt} {C fI cda cc : Addr} {qual : Str} {kV doc pm ct oc : Value} {an od : Option Addr} {osl : Array (Option Value)}
    (hC : PySem.W.nsIn K mainGlobals n = some (some (.ref C))) (hfi : PySem.W.findIn K (.ref C) "__init__" = some (some (.ref fI)))
    (hl : K.lookup fI = some ⟨oc, od, .func (PySem.W.ksFn "__init__" qual (defArgs st) (defBody st) (defScope st) .none kV doc pm an (.ref cda) ct cc), osl⟩)
    (h1 : ∀ (q : Str) (kV doc pm cdv ct : Value) (an : Option Addr) (cc : Addr) (a b : Value), bindArgs (PySem.W.ksFn "__init__" q (defArgs st) (defBody st) (defScope st) .none kV doc pm an cdv ct cc) ⟨[a, b], []⟩ = pure [(("self" : Str), a), (f, b)])
    (h2 : ∀ (q : Str) (kV doc pm cdv ct : Value) (an : Option Addr) (cc : Addr) (a b : Value), bindArgs (PySem.W.ksFn "__init__" q (defArgs st) (defBody st) (defScope st) .none kV doc pm an cdv ct cc) ⟨[a], [(f, b)]⟩ = pure [(("self" : Str), a), (f, b)]) : KwT K (clsK K n) f := ⟨fun fI' oc' od' osl' fd e1 e2 => by
  rw [clsK_of hC, hfi] at e1
  cases e1
  rw [hl] at e2
  cases e2
  exact ⟨h1 _ _ _ _ _ _ _ _, h2 _ _ _ _ _ _ _ _⟩⟩
end Bk
namespace Bk
open PySem PySem.Spec PyProof.Rows L2 PySem.W
end Bk
namespace Bk.K60
open PySem PySem.Spec PyProof.Rows L2
def p_law : Fn := fun ds s R _ => ∃ ns, ds = [.scr ns] ∧ ns.length ≤ 63 ∧ s = ⟨fun _ => none, none⟩ ∧ ∀ s', R (.bl true) s'
end Bk.K60
namespace Bk.K60
open PySem PySem.Spec PyProof.Rows L2
abbrev N_law_kinds : List Str := ["_law_one", "_law_found"]
/-- _law_kinds: 0 _law_one 1 _law_found -/
def t_law_kinds : DTS := (dSeq (dSet 1 (dLstM (dCons (dIsE kn "BadCells" (dVar 0)) (dCons (dIsE kn "BadFormula" (dVar 0)) (dCons (dIsE kn "BadProgram" (dVar 0)) dNil)))))
  (dSeq (dSet 1 (dOp oAddM (dVar 1) (dLst (dCons (dIsE kn "Twice" (dVar 0)) (dCons (dIsE kn "BadStanding" (dVar 0)) (dCons (dIsE kn "BadWeaving" (dVar 0)) dNil))))))
  (dSeq (dSet 1 (dOp oAddM (dVar 1) (dLst (dCons (dIsE kn "BadNode" (dVar 0)) (dCons (dIsE kn "BadPaper" (dVar 0)) (dCons (dIsE kn "BadMarks" (dVar 0)) dNil))))))
  (dSeq (dApp (dVar 1) (dIsE kn "BadLevels" (dVar 0)))
  (dFrzV 1 (dSeq (dSet 1 (dOp oAdd (dVar 1) (dLst (dCons (dIsE kn "BadText" (dVar 0)) (dCons (dIsE kn "BadNumber" (dVar 0)) (dCons (dIsE kn "BadRun" (dVar 0)) dNil))))))
  (dRet (dOp oAdd (dVar 1) (dLst (dCons (dIsE kn "Missing" (dVar 0)) (dCons (dIsE kn "TooMany" (dVar 0)) dNil)))))))))))
def fb_law_kinds : FS := (fSeq (fSet 1 (fLst (fCons (fB1 (isEF kn "BadCells") (fVar 0)) (fCons (fB1 (isEF kn "BadFormula") (fVar 0)) (fCons (fB1 (isEF kn "BadProgram") (fVar 0)) fNil)))))
  (fSeq (fSet 1 (fOp gAddL (fVar 1) (fLst (fCons (fB1 (isEF kn "Twice") (fVar 0)) (fCons (fB1 (isEF kn "BadStanding") (fVar 0)) (fCons (fB1 (isEF kn "BadWeaving") (fVar 0)) fNil))))))
  (fSeq (fSet 1 (fOp gAddL (fVar 1) (fLst (fCons (fB1 (isEF kn "BadNode") (fVar 0)) (fCons (fB1 (isEF kn "BadPaper") (fVar 0)) (fCons (fB1 (isEF kn "BadMarks") (fVar 0)) fNil))))))
  (fSeq (fApp 1 (fB1 (isEF kn "BadLevels") (fVar 0)))
  (fFrz 1 (fSeq (fSet 1 (fOp gAdd (fVar 1) (fLst (fCons (fB1 (isEF kn "BadText") (fVar 0)) (fCons (fB1 (isEF kn "BadNumber") (fVar 0)) (fCons (fB1 (isEF kn "BadRun") (fVar 0)) fNil))))))
  (fRet (fOp gAdd (fVar 1) (fLst (fCons (fB1 (isEF kn "Missing") (fVar 0)) (fCons (fB1 (isEF kn "TooMany") (fVar 0)) fNil)))))))))))
def f_law_kinds : FF := fun ds => (fb_law_kinds (dstart N_law_kinds ds)).fn
abbrev p_law_kinds : Fn := pF f_law_kinds
theorem r_law_kinds : ∀ ds s R E, ds.length = 1 → p_law_kinds ds s R E → t_law_kinds (fnEnds R E) (dstart N_law_kinds ds) s := r_fn (f := fb_law_kinds) (M := [1]) (as_seq (as_setM 1 (am_lst (aa_cons (ax_isE (ax_var 0)) (aa_cons (ax_isE (ax_var 0)) (aa_cons (ax_isE (ax_var 0)) aa_nil)))))
  (as_seq (as_setM 1 (am_opN o_addM (av_var 1) (av_of (ax_lst (aa_cons (ax_isE (ax_var 0)) (aa_cons (ax_isE (ax_var 0)) (aa_cons (ax_isE (ax_var 0)) aa_nil)))))))
  (as_seq (as_setM 1 (am_opN o_addM (av_var 1) (av_of (ax_lst (aa_cons (ax_isE (ax_var 0)) (aa_cons (ax_isE (ax_var 0)) (aa_cons (ax_isE (ax_var 0)) aa_nil)))))))
  (as_seq (as_app 1 (ax_isE (ax_var 0)))
  (as_frz 1 (as_seq (as_set 1 (ax_op o_add (ax_var 1) (ax_lst (aa_cons (ax_isE (ax_var 0)) (aa_cons (ax_isE (ax_var 0)) (aa_cons (ax_isE (ax_var 0)) aa_nil))))))
  (as_ret (ax_op o_add (ax_var 1) (ax_lst (aa_cons (ax_isE (ax_var 0)) (aa_cons (ax_isE (ax_var 0)) aa_nil)))))))))))
abbrev N_law_fields : List Str := ["_law_q", "_law_some", "_law_found", "_law_one"]
/-- _law_fields: 0 _law_q 1 _law_some 2 _law_found 3 _law_one -/
def t_law_fields : DTS := (dSeq (dSet 1 (dLst (dCons (dMkE "BadCells" "place" (dVar 0)) (dCons (dMkE "BadFormula" "place" (dVar 0)) (dCons (dMkE "BadProgram" "place" (dVar 0)) (dCons (dMkE "BadWeaving" "place" (dVar 0)) (dCons (dMkE "BadNode" "place" (dVar 0)) (dCons (dMkE "BadPaper" "place" (dVar 0)) (dCons (dMkE "BadMarks" "place" (dVar 0)) dNil)))))))))
  (dSeq (dSet 2 (dLc (dIter (dVar 1)) (gdName 3) dYes (dFldE kn "place" (dVar 3)) [3]))
  (dSeq (dSet 1 (dLst (dCons (dMkE "BadCells" "place" (dVar 0)) (dCons (dMkE "BadFormula" "place" (dVar 0)) (dCons (dMkE "BadProgram" "place" (dVar 0)) (dCons (dMkE "BadWeaving" "place" (dVar 0)) (dCons (dMkE "BadNode" "place" (dVar 0)) dNil)))))))
  (dSeq (dSet 2 (dOp oAdd (dVar 2) (dLc (dIter (dOp oAdd (dVar 1) (dLst (dCons (dMkE "BadPaper" "place" (dVar 0)) (dCons (dMkE "BadMarks" "place" (dVar 0)) dNil))))) (gdName 3) dYes (dFldE kn "place" (dVar 3)) [3])))
  (dSeq (dSet 2 (dOp oAdd (dVar 2) (dLc (dIter (dLst (dCons (dMkE "Twice" "name" (dVar 0)) (dCons (dMkE "Twice" "name" (dVar 0)) (dCons (dMkE "BadLevels" "name" (dVar 0)) (dCons (dMkE "BadLevels" "name" (dVar 0)) dNil)))))) (gdName 3) dYes (dFldE kn "name" (dVar 3)) [3])))
  (dSeq (dSet 2 (dOp oAdd (dVar 2) (dLc (dIter (dLst (dCons (dMkE "BadStanding" "value" (dVar 0)) (dCons (dMkE "BadStanding" "value" (dVar 0)) (dCons (dMkE "BadNumber" "value" (dVar 0)) (dCons (dMkE "BadNumber" "value" (dVar 0)) dNil)))))) (gdName 3) dYes (dFldE kn "value" (dVar 3)) [3])))
  (dSeq (dSet 2 (dOp oAdd (dVar 2) (dLst (dCons (dFldE kn "line" (dMkE "BadText" "line" (dVar 0))) (dCons (dFldE kn "line" (dMkE "BadText" "line" (dVar 0))) (dCons (dFldE kn "number" (dMkE "BadRun" "number" (dVar 0))) (dCons (dFldE kn "number" (dMkE "BadRun" "number" (dVar 0))) dNil)))))))
  (dRet (dOp oAdd (dVar 2) (dLst (dCons (dFldE kn "name" (dMkE "Missing" "name" (dVar 0))) (dCons (dFldE kn "name" (dMkE "Missing" "name" (dVar 0))) (dCons (dFldE kn "most" (dMkE "TooMany" "most" (dVar 0))) (dCons (dFldE kn "most" (dMkE "TooMany" "most" (dVar 0))) dNil))))))))))))))
def fb_law_fields : FS := (fSeq (fSet 1 (fLst (fCons (fB1 (gMkE "BadCells" "place") (fVar 0)) (fCons (fB1 (gMkE "BadFormula" "place") (fVar 0)) (fCons (fB1 (gMkE "BadProgram" "place") (fVar 0)) (fCons (fB1 (gMkE "BadWeaving" "place") (fVar 0)) (fCons (fB1 (gMkE "BadNode" "place") (fVar 0)) (fCons (fB1 (gMkE "BadPaper" "place") (fVar 0)) (fCons (fB1 (gMkE "BadMarks" "place") (fVar 0)) fNil)))))))))
  (fSeq (fSet 2 (fLc (fIter (fVar 1)) (fgName 3) fYes (fB1 (fldEF kn "place") (fVar 3)) [3]))
  (fSeq (fSet 1 (fLst (fCons (fB1 (gMkE "BadCells" "place") (fVar 0)) (fCons (fB1 (gMkE "BadFormula" "place") (fVar 0)) (fCons (fB1 (gMkE "BadProgram" "place") (fVar 0)) (fCons (fB1 (gMkE "BadWeaving" "place") (fVar 0)) (fCons (fB1 (gMkE "BadNode" "place") (fVar 0)) fNil)))))))
  (fSeq (fSet 2 (fOp gAdd (fVar 2) (fLc (fIter (fOp gAdd (fVar 1) (fLst (fCons (fB1 (gMkE "BadPaper" "place") (fVar 0)) (fCons (fB1 (gMkE "BadMarks" "place") (fVar 0)) fNil))))) (fgName 3) fYes (fB1 (fldEF kn "place") (fVar 3)) [3])))
  (fSeq (fSet 2 (fOp gAdd (fVar 2) (fLc (fIter (fLst (fCons (fB1 (gMkE "Twice" "name") (fVar 0)) (fCons (fB1 (gMkE "Twice" "name") (fVar 0)) (fCons (fB1 (gMkE "BadLevels" "name") (fVar 0)) (fCons (fB1 (gMkE "BadLevels" "name") (fVar 0)) fNil)))))) (fgName 3) fYes (fB1 (fldEF kn "name") (fVar 3)) [3])))
  (fSeq (fSet 2 (fOp gAdd (fVar 2) (fLc (fIter (fLst (fCons (fB1 (gMkE "BadStanding" "value") (fVar 0)) (fCons (fB1 (gMkE "BadStanding" "value") (fVar 0)) (fCons (fB1 (gMkE "BadNumber" "value") (fVar 0)) (fCons (fB1 (gMkE "BadNumber" "value") (fVar 0)) fNil)))))) (fgName 3) fYes (fB1 (fldEF kn "value") (fVar 3)) [3])))
  (fSeq (fSet 2 (fOp gAdd (fVar 2) (fLst (fCons (fB1 (fldEF kn "line") (fB1 (gMkE "BadText" "line") (fVar 0))) (fCons (fB1 (fldEF kn "line") (fB1 (gMkE "BadText" "line") (fVar 0))) (fCons (fB1 (fldEF kn "number") (fB1 (gMkE "BadRun" "number") (fVar 0))) (fCons (fB1 (fldEF kn "number") (fB1 (gMkE "BadRun" "number") (fVar 0))) fNil)))))))
  (fRet (fOp gAdd (fVar 2) (fLst (fCons (fB1 (fldEF kn "name") (fB1 (gMkE "Missing" "name") (fVar 0))) (fCons (fB1 (fldEF kn "name") (fB1 (gMkE "Missing" "name") (fVar 0))) (fCons (fB1 (fldEF kn "most") (fB1 (gMkE "TooMany" "most") (fVar 0))) (fCons (fB1 (fldEF kn "most") (fB1 (gMkE "TooMany" "most") (fVar 0))) fNil))))))))))))))
def f_law_fields : FF := fun ds => (fb_law_fields (dstart N_law_fields ds)).fn
abbrev p_law_fields : Fn := pF f_law_fields
theorem r_law_fields : ∀ ds s R E, ds.length = 1 → p_law_fields ds s R E → t_law_fields (fnEnds R E) (dstart N_law_fields ds) s := r_fn (f := fb_law_fields) (M := []) (as_seq (as_set 1 (ax_lst (aa_cons (ax_mkE (ax_var 0)) (aa_cons (ax_mkE (ax_var 0)) (aa_cons (ax_mkE (ax_var 0)) (aa_cons (ax_mkE (ax_var 0)) (aa_cons (ax_mkE (ax_var 0)) (aa_cons (ax_mkE (ax_var 0)) (aa_cons (ax_mkE (ax_var 0)) aa_nil)))))))))
  (as_seq (as_set 2 (ax_lc (aw_iter (ax_var 1)) (ag_name 3) at_yes (ax_fldE (ax_var 3))))
  (as_seq (as_set 1 (ax_lst (aa_cons (ax_mkE (ax_var 0)) (aa_cons (ax_mkE (ax_var 0)) (aa_cons (ax_mkE (ax_var 0)) (aa_cons (ax_mkE (ax_var 0)) (aa_cons (ax_mkE (ax_var 0)) aa_nil)))))))
  (as_seq (as_set 2 (ax_op o_add (ax_var 2) (ax_lc (aw_iter (ax_op o_add (ax_var 1) (ax_lst (aa_cons (ax_mkE (ax_var 0)) (aa_cons (ax_mkE (ax_var 0)) aa_nil))))) (ag_name 3) at_yes (ax_fldE (ax_var 3)))))
  (as_seq (as_set 2 (ax_op o_add (ax_var 2) (ax_lc (aw_iter (ax_lst (aa_cons (ax_mkE (ax_var 0)) (aa_cons (ax_mkE (ax_var 0)) (aa_cons (ax_mkE (ax_var 0)) (aa_cons (ax_mkE (ax_var 0)) aa_nil)))))) (ag_name 3) at_yes (ax_fldE (ax_var 3)))))
  (as_seq (as_set 2 (ax_op o_add (ax_var 2) (ax_lc (aw_iter (ax_lst (aa_cons (ax_mkE (ax_var 0)) (aa_cons (ax_mkE (ax_var 0)) (aa_cons (ax_mkE (ax_var 0)) (aa_cons (ax_mkE (ax_var 0)) aa_nil)))))) (ag_name 3) at_yes (ax_fldE (ax_var 3)))))
  (as_seq (as_set 2 (ax_op o_add (ax_var 2) (ax_lst (aa_cons (ax_fldE (ax_mkE (ax_var 0))) (aa_cons (ax_fldE (ax_mkE (ax_var 0))) (aa_cons (ax_fldE (ax_mkE (ax_var 0))) (aa_cons (ax_fldE (ax_mkE (ax_var 0))) aa_nil)))))))
  (as_ret (ax_op o_add (ax_var 2) (ax_lst (aa_cons (ax_fldE (ax_mkE (ax_var 0))) (aa_cons (ax_fldE (ax_mkE (ax_var 0))) (aa_cons (ax_fldE (ax_mkE (ax_var 0))) (aa_cons (ax_fldE (ax_mkE (ax_var 0))) aa_nil))))))))))))))
abbrev N_law : List Str := ["_law_script", "_law_m", "_law_turn", "_law_q", "_law_some", "_law_at", "_law_one", "_law_told", "_law_k"]
/-- law: 0 _law_script 1 _law_m 2 _law_turn 3 _law_q 4 _law_some 5 _law_at 6 _law_one 7 _law_told 8 _law_k -/
def t_law_b1 : DTS := (dSeq (dIfS (dTst (dOp oNe (dCall 1 p_law_kinds (dCons (dVar 6) dNil)) (dLc (dRng1 (dCons (dC (.int 15)) dNil)) (gdName 8) dYes (dOp oEq (dVar 8) (dVar 5)) [8]))) (dRet (dC (.bl false))) dNext)
  (dSeq (dSet 7 (dLst (dCons (dIsE kn "KeptError" (dVar 6)) (dCons (dIsE kn "ValueError" (dVar 6)) (dCons (dIsE kn "LookupError" (dVar 6)) dNil)))))
  (dIfS (dTst (dOp oNe (dOp oAdd (dVar 7) (dLst (dCons (dIsE kn "OverflowError" (dVar 6)) dNil))) (dLst (dCons (dOp oLt (dVar 5) (dC (.int 13))) (dCons (dOp oLt (dVar 5) (dC (.int 13))) (dCons (dOp oEq (dVar 5) (dC (.int 13))) (dCons (dOp oEq (dVar 5) (dC (.int 14))) dNil))))))) (dRet (dC (.bl false))) dNext)))
def t_law_b2 : DTS := (dSeq (dSet 3 (dOp oIx (dLst (dCons (dC .non) (dCons (dC (.int 0)) (dCons (dUn oNeg (dC (.int 7))) (dCons (dC (.str "x")) (dCons (dTup (dCons (dC (.int 1)) (dCons (dC (.int 2)) dNil))) (dCons (dLst (dCons (dC (.int 3)) dNil)) (dCons dDict0 (dCons (dOp oPow (dC (.int 10)) (dC (.int 40))) (dCons (dC (.bl true)) dNil)))))))))) (dCall 2 p_law_next (dCons (dVar 1) (dCons (dC (.int 9)) dNil)))))
  (dSeq (dIfS (dTst (dOp oNe (dLc (dIter (dCall 1 p_law_fields (dCons (dVar 3) dNil))) (gdName 6) (dTst (dOp oNeS (dBlt cReprA (dCons (dVar 6) dNil)) (dBlt cReprA (dCons (dVar 3) dNil)))) (dVar 6) [6]) (dLst dNil))) (dRet (dC (.bl false))) dNext)
  (dSeq (dSet 4 (dLst (dCons (dMkE "BadCells" "place" (dVar 3)) (dCons (dMkE "BadFormula" "place" (dVar 3)) (dCons (dMkE "BadProgram" "place" (dVar 3)) (dCons (dMkE "Twice" "name" (dVar 3)) (dCons (dMkE "BadStanding" "value" (dVar 3)) (dCons (dMkE "BadWeaving" "place" (dVar 3)) (dCons (dMkE "BadNode" "place" (dVar 3)) dNil)))))))))
  (dSeq (dSet 4 (dOp oAdd (dVar 4) (dLst (dCons (dMkE "BadPaper" "place" (dVar 3)) (dCons (dMkE "BadMarks" "place" (dVar 3)) (dCons (dMkE "BadLevels" "name" (dVar 3)) (dCons (dMkE "BadText" "line" (dVar 3)) (dCons (dMkE "BadNumber" "value" (dVar 3)) (dCons (dMkE "BadRun" "number" (dVar 3)) dNil)))))))))
  (dSeq (dSet 4 (dOp oAdd (dVar 4) (dLst (dCons (dMkE "Missing" "name" (dVar 3)) (dCons (dMkE "TooMany" "most" (dVar 3)) dNil)))))
  (dFor (dEnumL (dCons (dVar 4) dNil)) (gdTup 2 (gdCons (gdName 5) (gdCons (gdName 6) gdNil))) t_law_b1))))))
def t_law_rest : DTS := (dSeq (dFor (dRng1 (dCons (dOp oAdd (dC (.int 1)) (dBlt (c2I fun i j => if j < i then j else i) (dCons (dBlt cLen (dCons (dVar 0) dNil)) (dCons (dC (.int 6)) dNil)))) dNil)) (gdName 2) t_law_b2)
  (dRet (dC (.bl true))))
def mb_law : MS := (mSeq (mFor (mP (fRng1 (fCons (fOp gAdd (fC (.int 1)) (fB2 (g2I (fun i j => if j < i then j else i)) (fB1 gLen (fVar 0)) (fC (.int 6)))) fNil))) (fgName 2) (mSeq (mSet 3 (mOp gIx (mP (fLst (fCons (fC .non) (fCons (fC (.int 0)) (fCons (fUn gNeg (fC (.int 7))) (fCons (fC (.str "x")) (fCons (fTup (fCons (fC (.int 1)) (fCons (fC (.int 2)) fNil))) (fCons (fLst (fCons (fC (.int 3)) fNil)) (fCons fDict0 (fCons (fOp gPow (fC (.int 10)) (fC (.int 40))) (fCons (fC (.bl true)) fNil))))))))))) (mCallM m_law_next (mP (fCons (fVar 1) (fCons (fC (.int 9)) fNil))))))
  (mS (fSeq (fIfS (fTst (fOp gNe (fLc (fIter (fCall f_law_fields (fCons (fVar 3) fNil))) (fgName 6) (fTst (fOp gNeS (fB1 gRepr (fVar 6)) (fB1 gRepr (fVar 3)))) (fVar 6) [6]) (fLst fNil))) (fRet (fC (.bl false))) fNext)
  (fSeq (fSet 4 (fLst (fCons (fB1 (gMkE "BadCells" "place") (fVar 3)) (fCons (fB1 (gMkE "BadFormula" "place") (fVar 3)) (fCons (fB1 (gMkE "BadProgram" "place") (fVar 3)) (fCons (fB1 (gMkE "Twice" "name") (fVar 3)) (fCons (fB1 (gMkE "BadStanding" "value") (fVar 3)) (fCons (fB1 (gMkE "BadWeaving" "place") (fVar 3)) (fCons (fB1 (gMkE "BadNode" "place") (fVar 3)) fNil)))))))))
  (fSeq (fSet 4 (fOp gAdd (fVar 4) (fLst (fCons (fB1 (gMkE "BadPaper" "place") (fVar 3)) (fCons (fB1 (gMkE "BadMarks" "place") (fVar 3)) (fCons (fB1 (gMkE "BadLevels" "name") (fVar 3)) (fCons (fB1 (gMkE "BadText" "line") (fVar 3)) (fCons (fB1 (gMkE "BadNumber" "value") (fVar 3)) (fCons (fB1 (gMkE "BadRun" "number") (fVar 3)) fNil)))))))))
  (fSeq (fSet 4 (fOp gAdd (fVar 4) (fLst (fCons (fB1 (gMkE "Missing" "name") (fVar 3)) (fCons (fB1 (gMkE "TooMany" "most") (fVar 3)) fNil)))))
  (fFor (fEnumL (fVar 4)) (fgTup 2 (fgCons (fgName 5) (fgCons (fgName 6) fgNil))) (fSeq (fIfS (fTst (fOp gNe (fCall f_law_kinds (fCons (fVar 6) fNil)) (fLc (fRng1 (fCons (fC (.int 15)) fNil)) (fgName 8) fYes (fOp gEq (fVar 8) (fVar 5)) [8]))) (fRet (fC (.bl false))) fNext)
  (fSeq (fSet 7 (fLst (fCons (fB1 (isEF kn "KeptError") (fVar 6)) (fCons (fB1 (isEF kn "ValueError") (fVar 6)) (fCons (fB1 (isEF kn "LookupError") (fVar 6)) fNil)))))
  (fIfS (fTst (fOp gNe (fOp gAdd (fVar 7) (fLst (fCons (fB1 (isEF kn "OverflowError") (fVar 6)) fNil))) (fLst (fCons (fOp gLt (fVar 5) (fC (.int 13))) (fCons (fOp gLt (fVar 5) (fC (.int 13))) (fCons (fOp gEq (fVar 5) (fC (.int 13))) (fCons (fOp gEq (fVar 5) (fC (.int 14))) fNil))))))) (fRet (fC (.bl false))) fNext))) [5, 6, 7]))))))) [5, 6, 3, 4, 7, 2])
  (mS (fRet (fC (.bl true)))))
theorem am_law : BS [] mb_law t_law_rest := (bs_seq (bs_for (W := [5, 6, 3, 4, 7, 2]) (bw_of (aw_rng1 (aa_cons (ax_op o_add (ax_c _) (ax_b2 (b_2I _) (ax_b1 b_len (av_of (ax_var 0))) (ax_c _))) aa_nil))) (ag_name 2) (bs_seq (bs_set 3 (bx_opV o_ix (bv_of (av_of (ax_lst (aa_cons (ax_c _) (aa_cons (ax_c _) (aa_cons (ax_un o_neg (ax_c _)) (aa_cons (ax_c _) (aa_cons (ax_tup (aa_cons (ax_c _) (aa_cons (ax_c _) aa_nil))) (aa_cons (ax_lst (aa_cons (ax_c _) aa_nil)) (aa_cons ax_dict0 (aa_cons (ax_op (o_intC _ _) (ax_c _) (ax_c _)) (aa_cons (ax_c _) aa_nil)))))))))))) (bv_bx (bx_callM pm_law_next (ba_of (aa_cons (ax_var 1) (aa_cons (ax_c _) aa_nil)))))))
  (bs_of (as_seq (as_if (at_tst (ax_op o_ne (ax_lc (aw_iter (ax_call (aa_cons (ax_var 3) aa_nil))) (ag_name 6) (at_tst (ax_op o_neS (ax_b1x x_repr (ax_var 6)) (ax_b1x x_repr (ax_var 3)))) (ax_var 6)) (ax_lst aa_nil))) (as_ret (ax_c _)) as_next)
  (as_seq (as_set 4 (ax_lst (aa_cons (ax_mkE (ax_var 3)) (aa_cons (ax_mkE (ax_var 3)) (aa_cons (ax_mkE (ax_var 3)) (aa_cons (ax_mkE (ax_var 3)) (aa_cons (ax_mkE (ax_var 3)) (aa_cons (ax_mkE (ax_var 3)) (aa_cons (ax_mkE (ax_var 3)) aa_nil)))))))))
  (as_seq (as_set 4 (ax_op o_add (ax_var 4) (ax_lst (aa_cons (ax_mkE (ax_var 3)) (aa_cons (ax_mkE (ax_var 3)) (aa_cons (ax_mkE (ax_var 3)) (aa_cons (ax_mkE (ax_var 3)) (aa_cons (ax_mkE (ax_var 3)) (aa_cons (ax_mkE (ax_var 3)) aa_nil)))))))))
  (as_seq (as_set 4 (ax_op o_add (ax_var 4) (ax_lst (aa_cons (ax_mkE (ax_var 3)) (aa_cons (ax_mkE (ax_var 3)) aa_nil)))))
  (as_for (W := [5, 6, 7]) (aw_enumL (ax_var 4)) (ag_tup (ags_cons (ag_name 5) (ags_cons (ag_name 6) ags_nil))) (as_seq (as_if (at_tst (ax_op o_ne (ax_call (aa_cons (ax_var 6) aa_nil)) (ax_lc (aw_rng1 (aa_cons (ax_c _) aa_nil)) (ag_name 8) at_yes (ax_op o_eq (ax_var 8) (ax_var 5))))) (as_ret (ax_c _)) as_next)
  (as_seq (as_set 7 (ax_lst (aa_cons (ax_isE (ax_var 6)) (aa_cons (ax_isE (ax_var 6)) (aa_cons (ax_isE (ax_var 6)) aa_nil)))))
  (as_if (at_tst (ax_op o_ne (ax_op o_add (ax_var 7) (ax_lst (aa_cons (ax_isE (ax_var 6)) aa_nil))) (ax_lst (aa_cons (ax_op (o_int _) (ax_var 5) (ax_c _)) (aa_cons (ax_op (o_int _) (ax_var 5) (ax_c _)) (aa_cons (ax_op o_eq (ax_var 5) (ax_c _)) (aa_cons (ax_op o_eq (ax_var 5) (ax_c _)) aa_nil))))))) (as_ret (ax_c _)) as_next)))))))))))
  (bs_of (as_ret (ax_c _))))
def t_law : DTS := (dSeq (dSet 1 (dCall 1 p_law_begun (dCons (dVar 0) dNil)))
  t_law_rest)
end Bk.K60
namespace Bk
open PySem PySem.Spec PyProof.Rows L2 LamX
end Bk
namespace Bk
open PySem PySem.Spec PyProof.Rows L2 LamX
end Bk
namespace Bk
open PySem PySem.Spec PyProof.Rows L2
end Bk
namespace Bk
open PySem PySem.Spec PyProof.Rows L2
end Bk
namespace Bk
open PySem PySem.Spec PyProof.Rows L2
section
variable {M : List Nat} {b c : FX} {wb wc : Exp}
def setI (xs : List D) : D → D → Option (List D)
  | .int j, y => (ixN xs.length j).map fun k => xs.set k y
  | _, _ => none
def optN : Option (List D) → (List D → Out) → Out
  | some xs, f => f xs
  | none, _ => .no
@[simp] theorem optN_some (xs : List D) (f : List D → Out) : optN (some xs) f = f xs := rfl
@[simp] def fSetIx (i : Nat) (b c : FX) (e : DEnv) : Out := (c e).out e fun y => atL (nth e i) fun xs => (b e).out e fun k => optN (setI xs k y) fun ys => .nx (dset e i (some (.lst ys)))
end
/-- what stands in the state behind arguments that do not -/
theorem VRs.vals {s : S} : ∀ ks : List D, VRs s (List.replicate ks.length false) ks ks
  | [] => .nil
  | _ :: ks => .val (VRs.vals ks)
theorem VRs.app {s : S} {V : List Bool} {ds es : List D} (h : VRs s V ds es) (ks : List D) : VRs s (V ++ List.replicate ks.length false) (ds ++ ks) (es ++ ks) := by
  induction h with
  | nil => exact VRs.vals ks
  | val _ ih => exact .val ih
  | ref r _ ih => exact .ref r ih
end Bk
namespace Bk.Z
open PySem PySem.Spec PyProof.Rows L2
open Bk.Wv Bk.Pa Bk.Bo
theorem ix_l {xs : List D} {k : Nat} {a : D} (h : xs[k]? = some a) : gIx (.lst xs) (.int (k : Nat)) = some a := by
  show atI xs (k : Int) = _
  exact atI_of_nat h
section
variable {p : Addr} {c c1 c2 : Nat}
theorem sp_mS {f : FS} {e : DEnv} {o : Out} {P : Out → Prop} (h : f e = o) (q : P o) : Sp p c (mS f e) P := by
  unfold mS
  rw [h]; exact sp_ret q
theorem sp_loopC {g : FG} {h0 : MS} {W : List Nat} {e : DEnv} {ds : List D} (h : ∀ d ∈ ds, ∃ e1, g d e = some e1 ∧ Sp p c (h0 e1) fun o => ∃ e2, (o = .nx e2 ∨ o = .ct e2) ∧ dwipe e2 W = e) : Sp p (c * ds.length) (mLoop g h0 W ds e) fun o => o = .nx e := by
  induction ds with
  | nil => exact sp_ret rfl
  | cons d ds ih =>
    obtain ⟨e1, h1, h2⟩ := h d List.mem_cons_self
    rw [mLoop, h1, List.length_cons, Nat.mul_succ]
    refine sp_bind h2 (fun o ho => ?_) (by omega) (c2 := c * ds.length)
    obtain ⟨e2, ho, he⟩ := ho
    have hk : Sp p (c * ds.length) (mLoop g h0 W ds (dwipe e2 W)) fun o => o = .nx e := by
      rw [he]
      exact ih fun x hx => h x (List.mem_cons_of_mem _ hx)
    rcases ho with rfl | rfl
    · exact hk
    · exact hk
end
end Bk.Z
namespace Bk.K60
open PySem PySem.Spec PyProof.Rows L2
open Bk.Wv Bk.Z
abbrev kb0 : MS := (mSet 3 (mOp gIx (mP (fLst (fCons (fC .non) (fCons (fC (.int 0)) (fCons (fUn gNeg (fC (.int 7))) (fCons (fC (.str "x")) (fCons (fTup (fCons (fC (.int 1)) (fCons (fC (.int 2)) fNil))) (fCons (fLst (fCons (fC (.int 3)) fNil)) (fCons fDict0 (fCons (fOp gPow (fC (.int 10)) (fC (.int 40))) (fCons (fC (.bl true)) fNil))))))))))) (mCallM m_law_next (mP (fCons (fVar 1) (fCons (fC (.int 9)) fNil))))))
abbrev kb1 : FS := (fRet (fC (.bl false)))
abbrev kb2 : FS := (fIfS (fTst (fOp gNe (fLc (fIter (fCall f_law_fields (fCons (fVar 3) fNil))) (fgName 6) (fTst (fOp gNeS (fB1 gRepr (fVar 6)) (fB1 gRepr (fVar 3)))) (fVar 6) [6]) (fLst fNil))) kb1 fNext)
abbrev kb3 : FS := (fSet 4 (fLst (fCons (fB1 (gMkE "BadCells" "place") (fVar 3)) (fCons (fB1 (gMkE "BadFormula" "place") (fVar 3)) (fCons (fB1 (gMkE "BadProgram" "place") (fVar 3)) (fCons (fB1 (gMkE "Twice" "name") (fVar 3)) (fCons (fB1 (gMkE "BadStanding" "value") (fVar 3)) (fCons (fB1 (gMkE "BadWeaving" "place") (fVar 3)) (fCons (fB1 (gMkE "BadNode" "place") (fVar 3)) fNil)))))))))
abbrev kb4 : FS := (fSet 4 (fOp gAdd (fVar 4) (fLst (fCons (fB1 (gMkE "BadPaper" "place") (fVar 3)) (fCons (fB1 (gMkE "BadMarks" "place") (fVar 3)) (fCons (fB1 (gMkE "BadLevels" "name") (fVar 3)) (fCons (fB1 (gMkE "BadText" "line") (fVar 3)) (fCons (fB1 (gMkE "BadNumber" "value") (fVar 3)) (fCons (fB1 (gMkE "BadRun" "number") (fVar 3)) fNil)))))))))
abbrev kb5 : FS := (fSet 4 (fOp gAdd (fVar 4) (fLst (fCons (fB1 (gMkE "Missing" "name") (fVar 3)) (fCons (fB1 (gMkE "TooMany" "most") (fVar 3)) fNil)))))
abbrev kb6 : FS := (fRet (fC (.bl false)))
abbrev kb7 : FS := (fIfS (fTst (fOp gNe (fCall f_law_kinds (fCons (fVar 6) fNil)) (fLc (fRng1 (fCons (fC (.int 15)) fNil)) (fgName 8) fYes (fOp gEq (fVar 8) (fVar 5)) [8]))) kb6 fNext)
abbrev kb8 : FS := (fSet 7 (fLst (fCons (fB1 (isEF kn "KeptError") (fVar 6)) (fCons (fB1 (isEF kn "ValueError") (fVar 6)) (fCons (fB1 (isEF kn "LookupError") (fVar 6)) fNil)))))
abbrev kb9 : FS := (fRet (fC (.bl false)))
abbrev kb10 : FS := (fIfS (fTst (fOp gNe (fOp gAdd (fVar 7) (fLst (fCons (fB1 (isEF kn "OverflowError") (fVar 6)) fNil))) (fLst (fCons (fOp gLt (fVar 5) (fC (.int 13))) (fCons (fOp gLt (fVar 5) (fC (.int 13))) (fCons (fOp gEq (fVar 5) (fC (.int 13))) (fCons (fOp gEq (fVar 5) (fC (.int 14))) fNil))))))) kb9 fNext)
abbrev kb11 : FS := (fSeq kb8 kb10)
abbrev kb12 : FS := (fSeq kb7 kb11)
abbrev kb13 : FS := (fFor (fEnumL (fVar 4)) (fgTup 2 (fgCons (fgName 5) (fgCons (fgName 6) fgNil))) kb12 [5, 6, 7])
abbrev kb14 : FS := (fSeq kb5 kb13)
abbrev kb15 : FS := (fSeq kb4 kb14)
abbrev kb16 : FS := (fSeq kb3 kb15)
abbrev kb17 : FS := (fSeq kb2 kb16)
abbrev kb18 : MS := (mS kb17)
abbrev kb19 : MS := (mSeq kb0 kb18)
def eT (s : D) (p : Addr) (x2 x3 x4 x5 x6 x7 x8 : Option D) : DEnv := [some s, some (.rf (.ref p)), x2, x3, x4, x5, x6, x7, x8]
abbrev WL : List Nat := [5, 6, 3, 4, 7, 2]
theorem nx_seq {f g : FS} {e e1 : DEnv} (h : f e = .nx e1) : fSeq f g e = g e1 := by
  show (f e).andThen g = _
  rw [h]; rfl
def excs (q : D) : List D := [.exc "BadCells" [("place", q)], .exc "BadFormula" [("place", q)], .exc "BadProgram" [("place", q)], .exc "Twice" [("name", q)], .exc "BadStanding" [("value", q)], .exc "BadWeaving" [("place", q)], .exc "BadNode" [("place", q)],
  .exc "BadPaper" [("place", q)], .exc "BadMarks" [("place", q)], .exc "BadLevels" [("name", q)], .exc "BadText" [("line", q)], .exc "BadNumber" [("value", q)], .exc "BadRun" [("number", q)], .exc "Missing" [("name", q)], .exc "TooMany" [("most", q)]]
section
variable {s q : D} {p : Addr} {x2 : Option D}
theorem rest_ok : kb16 (eT s p x2 (some q) none none none none none) = .nx (eT s p x2 (some q) (some (.lst (excs q))) none none none none) := by
  kernel_rfl
theorem repr_ok (h : q.shOkA) : kb2 (eT s p x2 (some q) none none none none none) = .nx (eT s p x2 (some q) none none none none none) := by
  have hr : gRepr q = some (.str (shown q)) := by unfold gRepr; rw [if_pos h]
  have hn : gNeS (.str (shown q)) (.str (shown q)) = some (.bl false) := by simp [gNeS]
  have e1 : fGo (fElem (fgName 6) (fTst (fOp gNeS (fB1 gRepr (fVar 6)) (fB1 gRepr (fVar 3)))) (fVar 6) (dwipe (eT s p x2 (some q) none none none none none) [6])) (List.replicate 30 q) = .ok (((List.replicate 30 q).filter fun _ => false).map id) := fGo_allF (F := id) (c := fun _ => false) fun a ha => by
    have ha' := List.eq_of_mem_replicate ha
    subst ha'
    simp [eT, fElem, hr, hn]
  have e2 : ((List.replicate 30 q).filter fun _ => false).map id = [] := by simp
  rw [e2] at e1
  have e3 : fLc (fIter (fCall f_law_fields (fCons (fVar 3) fNil))) (fgName 6) (fTst (fOp gNeS (fB1 gRepr (fVar 6)) (fB1 gRepr (fVar 3)))) (fVar 6) [6] (eT s p x2 (some q) none none none none none) = .ok (.lst []) := by
    unfold fLc
    have e4 : fIter (fCall f_law_fields (fCons (fVar 3) fNil)) (eT s p x2 (some q) none none none none none) = .ok (List.replicate 30 q) := rfl
    rw [e4]
    show (fGo _ (List.replicate 30 q)).bind _ = _
    rw [e1]
    rfl
  have e5 : fLst fNil (eT s p x2 (some q) none none none none none) = .ok (.lst []) := rfl
  show fIfS (fTst (fOp gNe (fLc (fIter (fCall f_law_fields (fCons (fVar 3) fNil))) (fgName 6) (fTst (fOp gNeS (fB1 gRepr (fVar 6)) (fB1 gRepr (fVar 3)))) (fVar 6) [6]) (fLst fNil))) kb1 fNext _ = _
  generalize hX : fLc (fIter (fCall f_law_fields (fCons (fVar 3) fNil))) (fgName 6) (fTst (fOp gNeS (fB1 gRepr (fVar 6)) (fB1 gRepr (fVar 3)))) (fVar 6) [6] = X at e3 ⊢
  have e6 : gNe (.lst []) (.lst []) = some (.bl false) := by kernel_rfl
  simp [e3, e6]
def nine : List D := [.non, .int 0, .int (-7), .str "x", .tup [.int 1, .int 2], .lst [.int 3], .dic [], .int (10 ^ 40), .bl true]
theorem nine_ok : ∀ d ∈ nine, d.shOkA := by
  intro d hd
  simp only [nine, List.mem_cons, List.not_mem_nil, or_false] at hd
  rcases hd with rfl | rfl | rfl | rfl | rfl | rfl | rfl | rfl | rfl <;> exact of_decide_eq_true (by kernel_rfl)
theorem lst_nine : (fLst (fCons (fC .non) (fCons (fC (.int 0)) (fCons (fUn gNeg (fC (.int 7))) (fCons (fC (.str "x")) (fCons (fTup (fCons (fC (.int 1)) (fCons (fC (.int 2)) fNil))) (fCons (fLst (fCons (fC (.int 3)) fNil)) (fCons fDict0 (fCons (fOp gPow (fC (.int 10)) (fC (.int 40))) (fCons (fC (.bl true)) fNil)))))))))) (eT s p x2 none none none none none none) = .ok (.lst nine) := by
  kernel_rfl
theorem turn : Sp p 1 (kb19 (eT s p x2 none none none none none none)) (fun o => ∃ e2, (o = .nx e2 ∨ o = .ct e2) ∧ dwipe e2 WL = eT s p none none none none none none none) := by
  have e0 : kb0 (eT s p x2 none none none none none none) = (m_law_next [.rf (.ref p), .int 9]).bind fun y => (Dt.opt (gIx (.lst nine) y)).bind fun z => .ret (.nx (eT s p x2 (some z) none none none none none)) := by
    have l := lst_nine (s := s) (p := p) (x2 := x2)
    have n1 : nth (eT s p x2 none none none none none none) 1 = some (.rf (.ref p)) := rfl
    have n2 : ∀ z, dset (eT s p x2 none none none none none none) 3 (some z) = eT s p x2 (some z) none none none none none := fun z => rfl
    generalize eT s p x2 none none none none none none = E at *
    show mSet 3 (mOp gIx (mP (fLst _)) (mCallM m_law_next (mP (fCons (fVar 1) (fCons (fC (.int 9)) fNil))))) E = _
    generalize hX : (fLst (fCons (fC .non) (fCons (fC (.int 0)) (fCons (fUn gNeg (fC (.int 7))) (fCons (fC (.str "x")) (fCons (fTup (fCons (fC (.int 1)) (fCons (fC (.int 2)) fNil))) (fCons (fLst (fCons (fC (.int 3)) fNil)) (fCons fDict0 (fCons (fOp gPow (fC (.int 10)) (fC (.int 40))) (fCons (fC (.bl true)) fNil)))))))))) = X at *
    simp [mSet, mOp, mCallM, mP, dt_bind_assoc, fVar, n1, l, n2]
  show Sp p 1 (mSeq kb0 kb18 _) _
  refine sp_seq (c1 := 1) (c2 := 0) (Q := fun e1 => ∃ z ∈ nine, e1 = eT s p x2 (some z) none none none none none) ?_ (fun e1 he => ?_) (by omega)
  · rw [e0]
    refine sp_bind (c1 := 1) (c2 := 0) (sp_next (by decide) (by decide)) (fun y hy => ?_) (by omega)
    obtain ⟨r, rfl, h0, h9⟩ := hy
    obtain ⟨k, rfl⟩ := Int.eq_ofNat_of_zero_le h0
    have hk : k < 9 := by omega
    have hz : k < nine.length := hk
    have hg : gIx (.lst nine) (.int (k : Nat)) = some (nine[k]) := ix_l (List.getElem?_eq_getElem hz)
    refine sp_bind (c1 := 0) (c2 := 0) (sp_opt (P := fun z => z = nine[k]) hg rfl) (fun z hz' => ?_) (by omega)
    exact sp_ret ⟨_, rfl, z, by rw [hz']; exact List.getElem_mem hz, rfl⟩
  · obtain ⟨z, hz, rfl⟩ := he
    have e1 : kb17 (eT s p x2 (some z) none none none none none) = .nx (eT s p x2 (some z) (some (.lst (excs z))) none none none none) := by
      show fSeq kb2 kb16 _ = _
      rw [nx_seq (repr_ok (nine_ok z hz))]
      exact rest_ok
    exact sp_mS e1 ⟨_, .inl rfl, rfl⟩
end
theorem law_sp {ns : List Int} {p : Addr} (h63 : ns.length ≤ 63) : Sp p 40000 (mb_law (eT (.scr ns) p none none none none none none none)) (fun o => o = .rt (.bl true)) := by
  obtain ⟨m, hm, hm12⟩ : ∃ m : Nat, m = 1 + (if 6 < ns.length then 6 else ns.length) ∧ m ≤ 16 := ⟨_, rfl, by split <;> omega⟩
  have a1 : (fCons (fOp gAdd (fC (.int 1)) (fB2 (g2I (fun i j => if j < i then j else i)) (fB1 gLen (fVar 0)) (fC (.int 6)))) fNil) (eT (.scr ns) p none none none none none none none) = .ok [.int (m : Nat)] := by
    have hlen : gLen (.scr ns) = some (.int (ns.length : Nat)) := by simp [gLen, seqF]
    have e : (1 : Int) + (if (6 : Int) < (ns.length : Int) then (6 : Int) else (ns.length : Int)) = (m : Int) := by
      rw [hm]
      by_cases h : 6 < ns.length
      · rw [if_pos h, if_pos (by omega)]; omega
      · rw [if_neg h, if_neg (by omega)]; omega
    have ga : ∀ a b : Int, gAdd (.int a) (.int b) = some (.int (a + b)) := fun _ _ => rfl
    generalize ns.length = q at *
    simp [eT, hlen, g2I, ga, e]
  have hr := congrArg Dt.of (fRng1_of a1 (rng_nat (v := m) (by omega)))
  have hl : ((List.range m).map fun k : Nat => D.int k).length = m := by simp
  have hloop := sp_loopC (p := p) (g := fgName 2) (h0 := kb19) (W := WL) (e := eT (.scr ns) p none none none none none none none) (c := 1) (ds := (List.range m).map fun k : Nat => D.int k) (fun d _ => ⟨eT (.scr ns) p (some d) none none none none none none, rfl, turn⟩)
  rw [hl] at hloop
  show Sp p 40000 (mSeq (mFor (mP (fRng1 (fCons (fOp gAdd (fC (.int 1)) (fB2 (g2I (fun i j => if j < i then j else i)) (fB1 gLen (fVar 0)) (fC (.int 6)))) fNil))) (fgName 2) kb19 WL) (mS (fRet (fC (.bl true)))) (eT (.scr ns) p none none none none none none none)) _
  refine sp_seq (c1 := 1 * m) (c2 := 0) (Q := fun e1 => e1 = eT (.scr ns) p none none none none none none none) ?_ (fun e1 he => ?_) (by omega)
  · unfold mFor
    refine (congrArg (fun t : Dt (List D) => Sp p (1 * m) (t.bind fun ds => mLoop (fgName 2) kb19 WL ds (eT (.scr ns) p none none none none none none none)) _) hr).mpr ?_
    refine sp_mono (c1 := 1 * m) hloop (fun o ho => ?_) (Nat.le_refl _)
    exact ⟨_, ho, rfl⟩
  · rw [he]
    exact sp_mS (o := .rt (.bl true)) rfl rfl
theorem r_law : ∀ ds s R E, ds.length = 1 → p_law ds s R E → t_law (fnEnds R E) (dstart N_law ds) s := by
  rintro _ _ R E _ ⟨ns, rfl, hl, rfl, h⟩
  exact law_mfn (M := []) (N := N_law) am_law (by decide) (by decide) (fun p => (law_sp (ns := ns) (p := p) hl).use (by decide) (fun a m q _ => q)) h
end Bk.K60
namespace Bk.K60
open PySem PySem.Spec PyProof.Rows L2
theorem sc_law_begun : FnScope N_law_begun ["_law_script"] (defScope s_law_begun) := ⟨rfl, rfl, rfl, by decide +kernel, rfl, by decide +kernel, by decide +kernel⟩
theorem sc_law_next : FnScope N_law_next ["_law_m", "_law_many"] (defScope s_law_next) := ⟨rfl, rfl, rfl, by decide +kernel, rfl, by decide +kernel, by decide +kernel⟩
theorem sc_law_kinds : FnScope N_law_kinds ["_law_one"] (defScope s_law_kinds) := ⟨rfl, rfl, rfl, by decide +kernel, rfl, by decide +kernel, by decide +kernel⟩
theorem sc_law_fields : FnScope N_law_fields ["_law_q"] (defScope s_law_fields) := ⟨rfl, rfl, rfl, by decide +kernel, rfl, by decide +kernel, by decide +kernel⟩
theorem sc_law : FnScope N_law ["_law_script"] (defScope s_law) := ⟨rfl, rfl, rfl, by decide +kernel, rfl, by decide +kernel, by decide +kernel⟩
theorem is_BadCells : InitS (defArgs i_BadCells) (defBody i_BadCells) (defScope i_BadCells) "place" "place" := ⟨⟨_, _, _, _, _, _, _, _, _, _, _, _, rfl, fun _ _ _ _ _ => ⟨_, rfl, rfl, rfl, rfl⟩⟩, ⟨_, rfl, rfl⟩, fun _ _ _ _ _ _ _ _ _ _ => rfl, rfl, rfl, rfl, rfl, by decide, by decide, by decide +kernel, rfl, rfl, rfl⟩
theorem is_BadFormula : InitS (defArgs i_BadFormula) (defBody i_BadFormula) (defScope i_BadFormula) "place" "place" := ⟨⟨_, _, _, _, _, _, _, _, _, _, _, _, rfl, fun _ _ _ _ _ => ⟨_, rfl, rfl, rfl, rfl⟩⟩, ⟨_, rfl, rfl⟩, fun _ _ _ _ _ _ _ _ _ _ => rfl, rfl, rfl, rfl, rfl, by decide, by decide, by decide +kernel, rfl, rfl, rfl⟩
theorem is_BadLevels : InitS (defArgs i_BadLevels) (defBody i_BadLevels) (defScope i_BadLevels) "name" "name" := ⟨⟨_, _, _, _, _, _, _, _, _, _, _, _, rfl, fun _ _ _ _ _ => ⟨_, rfl, rfl, rfl, rfl⟩⟩, ⟨_, rfl, rfl⟩, fun _ _ _ _ _ _ _ _ _ _ => rfl, rfl, rfl, rfl, rfl, by decide, by decide, by decide +kernel, rfl, rfl, rfl⟩
theorem is_BadMarks : InitS (defArgs i_BadMarks) (defBody i_BadMarks) (defScope i_BadMarks) "place" "place" := ⟨⟨_, _, _, _, _, _, _, _, _, _, _, _, rfl, fun _ _ _ _ _ => ⟨_, rfl, rfl, rfl, rfl⟩⟩, ⟨_, rfl, rfl⟩, fun _ _ _ _ _ _ _ _ _ _ => rfl, rfl, rfl, rfl, rfl, by decide, by decide, by decide +kernel, rfl, rfl, rfl⟩
theorem is_BadNode : InitS (defArgs i_BadNode) (defBody i_BadNode) (defScope i_BadNode) "place" "place" := ⟨⟨_, _, _, _, _, _, _, _, _, _, _, _, rfl, fun _ _ _ _ _ => ⟨_, rfl, rfl, rfl, rfl⟩⟩, ⟨_, rfl, rfl⟩, fun _ _ _ _ _ _ _ _ _ _ => rfl, rfl, rfl, rfl, rfl, by decide, by decide, by decide +kernel, rfl, rfl, rfl⟩
theorem is_BadNumber : InitS (defArgs i_BadNumber) (defBody i_BadNumber) (defScope i_BadNumber) "value" "value" := ⟨⟨_, _, _, _, _, _, _, _, _, _, _, _, rfl, fun _ _ _ _ _ => ⟨_, rfl, rfl, rfl, rfl⟩⟩, ⟨_, rfl, rfl⟩, fun _ _ _ _ _ _ _ _ _ _ => rfl, rfl, rfl, rfl, rfl, by decide, by decide, by decide +kernel, rfl, rfl, rfl⟩
theorem is_BadPaper : InitS (defArgs i_BadPaper) (defBody i_BadPaper) (defScope i_BadPaper) "place" "place" := ⟨⟨_, _, _, _, _, _, _, _, _, _, _, _, rfl, fun _ _ _ _ _ => ⟨_, rfl, rfl, rfl, rfl⟩⟩, ⟨_, rfl, rfl⟩, fun _ _ _ _ _ _ _ _ _ _ => rfl, rfl, rfl, rfl, rfl, by decide, by decide, by decide +kernel, rfl, rfl, rfl⟩
theorem is_BadProgram : InitS (defArgs i_BadProgram) (defBody i_BadProgram) (defScope i_BadProgram) "place" "place" := ⟨⟨_, _, _, _, _, _, _, _, _, _, _, _, rfl, fun _ _ _ _ _ => ⟨_, rfl, rfl, rfl, rfl⟩⟩, ⟨_, rfl, rfl⟩, fun _ _ _ _ _ _ _ _ _ _ => rfl, rfl, rfl, rfl, rfl, by decide, by decide, by decide +kernel, rfl, rfl, rfl⟩
theorem is_BadRun : InitS (defArgs i_BadRun) (defBody i_BadRun) (defScope i_BadRun) "number" "number" := ⟨⟨_, _, _, _, _, _, _, _, _, _, _, _, rfl, fun _ _ _ _ _ => ⟨_, rfl, rfl, rfl, rfl⟩⟩, ⟨_, rfl, rfl⟩, fun _ _ _ _ _ _ _ _ _ _ => rfl, rfl, rfl, rfl, rfl, by decide, by decide, by decide +kernel, rfl, rfl, rfl⟩
theorem is_BadStanding : InitS (defArgs i_BadStanding) (defBody i_BadStanding) (defScope i_BadStanding) "value" "value" := ⟨⟨_, _, _, _, _, _, _, _, _, _, _, _, rfl, fun _ _ _ _ _ => ⟨_, rfl, rfl, rfl, rfl⟩⟩, ⟨_, rfl, rfl⟩, fun _ _ _ _ _ _ _ _ _ _ => rfl, rfl, rfl, rfl, rfl, by decide, by decide, by decide +kernel, rfl, rfl, rfl⟩
theorem is_BadText : InitS (defArgs i_BadText) (defBody i_BadText) (defScope i_BadText) "line" "line" := ⟨⟨_, _, _, _, _, _, _, _, _, _, _, _, rfl, fun _ _ _ _ _ => ⟨_, rfl, rfl, rfl, rfl⟩⟩, ⟨_, rfl, rfl⟩, fun _ _ _ _ _ _ _ _ _ _ => rfl, rfl, rfl, rfl, rfl, by decide, by decide, by decide +kernel, rfl, rfl, rfl⟩
theorem is_BadWeaving : InitS (defArgs i_BadWeaving) (defBody i_BadWeaving) (defScope i_BadWeaving) "place" "place" := ⟨⟨_, _, _, _, _, _, _, _, _, _, _, _, rfl, fun _ _ _ _ _ => ⟨_, rfl, rfl, rfl, rfl⟩⟩, ⟨_, rfl, rfl⟩, fun _ _ _ _ _ _ _ _ _ _ => rfl, rfl, rfl, rfl, rfl, by decide, by decide, by decide +kernel, rfl, rfl, rfl⟩
theorem is_Missing : InitS (defArgs i_Missing) (defBody i_Missing) (defScope i_Missing) "name" "name" := ⟨⟨_, _, _, _, _, _, _, _, _, _, _, _, rfl, fun _ _ _ _ _ => ⟨_, rfl, rfl, rfl, rfl⟩⟩, ⟨_, rfl, rfl⟩, fun _ _ _ _ _ _ _ _ _ _ => rfl, rfl, rfl, rfl, rfl, by decide, by decide, by decide +kernel, rfl, rfl, rfl⟩
theorem is_TooMany : InitS (defArgs i_TooMany) (defBody i_TooMany) (defScope i_TooMany) "most" "most" := ⟨⟨_, _, _, _, _, _, _, _, _, _, _, _, rfl, fun _ _ _ _ _ => ⟨_, rfl, rfl, rfl, rfl⟩⟩, ⟨_, rfl, rfl⟩, fun _ _ _ _ _ _ _ _ _ _ => rfl, rfl, rfl, rfl, rfl, by decide, by decide, by decide +kernel, rfl, rfl, rfl⟩
theorem is_Twice : InitS (defArgs i_Twice) (defBody i_Twice) (defScope i_Twice) "name" "name" := ⟨⟨_, _, _, _, _, _, _, _, _, _, _, _, rfl, fun _ _ _ _ _ => ⟨_, rfl, rfl, rfl, rfl⟩⟩, ⟨_, rfl, rfl⟩, fun _ _ _ _ _ _ _ _ _ _ => rfl, rfl, rfl, rfl, rfl, by decide, by decide, by decide +kernel, rfl, rfl, rfl⟩
structure Txt (P : Program) (w : World) (K : PySem.W.Frag) (mg : Str → Option Value) (base : Heap) (T : Tb) where
  f_law_begun : Addr
  d_law_begun : FuncData
  F_law_begun : Fun K "_law_begun" "_law_begun" s_law_begun f_law_begun d_law_begun
  m_law_begun : mg "_law_begun" = some (.ref f_law_begun)
  b_law_begun : Binds K d_law_begun ["_law_script"] []
  f_law_next : Addr
  d_law_next : FuncData
  F_law_next : Fun K "_law_next" "_law_next" s_law_next f_law_next d_law_next
  m_law_next : mg "_law_next" = some (.ref f_law_next)
  b_law_next : Binds K d_law_next ["_law_m", "_law_many"] []
  f_law_kinds : Addr
  d_law_kinds : FuncData
  F_law_kinds : Fun K "_law_kinds" "_law_kinds" s_law_kinds f_law_kinds d_law_kinds
  m_law_kinds : mg "_law_kinds" = some (.ref f_law_kinds)
  b_law_kinds : Binds K d_law_kinds ["_law_one"] []
  f_law_fields : Addr
  d_law_fields : FuncData
  F_law_fields : Fun K "_law_fields" "_law_fields" s_law_fields f_law_fields d_law_fields
  m_law_fields : mg "_law_fields" = some (.ref f_law_fields)
  b_law_fields : Binds K d_law_fields ["_law_q"] []
  f_law : Addr
  d_law : FuncData
  F_law : Fun K "law" "law" s_law f_law d_law
  m_law : mg "law" = some (.ref f_law)
  b_law : Binds K d_law ["_law_script"] []
  n_LookupError : mg "LookupError" = none
  n_OverflowError : mg "OverflowError" = none
  n_ValueError : mg "ValueError" = none
  n_enumerate : mg "enumerate" = none
  n_int : mg "int" = none
  n_isinstance : mg "isinstance" = none
  n_len : mg "len" = none
  n_list : mg "list" = none
  n_min : mg "min" = none
  n_range : mg "range" = none
  n_repr : mg "repr" = none
  sm : ∃ mm, base.Ns sysModules mm
  ea : EAll K T kn ms fs
  na_BadCells : mg "BadCells" = some (.ref (T.cls "BadCells"))
  na_BadFormula : mg "BadFormula" = some (.ref (T.cls "BadFormula"))
  na_BadLevels : mg "BadLevels" = some (.ref (T.cls "BadLevels"))
  na_BadMarks : mg "BadMarks" = some (.ref (T.cls "BadMarks"))
  na_BadNode : mg "BadNode" = some (.ref (T.cls "BadNode"))
  na_BadNumber : mg "BadNumber" = some (.ref (T.cls "BadNumber"))
  na_BadPaper : mg "BadPaper" = some (.ref (T.cls "BadPaper"))
  na_BadProgram : mg "BadProgram" = some (.ref (T.cls "BadProgram"))
  na_BadRun : mg "BadRun" = some (.ref (T.cls "BadRun"))
  na_BadStanding : mg "BadStanding" = some (.ref (T.cls "BadStanding"))
  na_BadText : mg "BadText" = some (.ref (T.cls "BadText"))
  na_BadWeaving : mg "BadWeaving" = some (.ref (T.cls "BadWeaving"))
  na_KeptError : mg "KeptError" = some (.ref (T.cls "KeptError"))
  na_Missing : mg "Missing" = some (.ref (T.cls "Missing"))
  na_TooMany : mg "TooMany" = some (.ref (T.cls "TooMany"))
  na_Twice : mg "Twice" = some (.ref (T.cls "Twice"))
  ec_BadCells : ECls P K mg T "BadCells" "place"
  ec_BadFormula : ECls P K mg T "BadFormula" "place"
  ec_BadLevels : ECls P K mg T "BadLevels" "name"
  ec_BadMarks : ECls P K mg T "BadMarks" "place"
  ec_BadNode : ECls P K mg T "BadNode" "place"
  ec_BadNumber : ECls P K mg T "BadNumber" "value"
  ec_BadPaper : ECls P K mg T "BadPaper" "place"
  ec_BadProgram : ECls P K mg T "BadProgram" "place"
  ec_BadRun : ECls P K mg T "BadRun" "number"
  ec_BadStanding : ECls P K mg T "BadStanding" "value"
  ec_BadText : ECls P K mg T "BadText" "line"
  ec_BadWeaving : ECls P K mg T "BadWeaving" "place"
  ec_Missing : ECls P K mg T "Missing" "name"
  ec_TooMany : ECls P K mg T "TooMany" "most"
  ec_Twice : ECls P K mg T "Twice" "name"
  kw_BadCells : KwT K (T.cls "BadCells") "place"
  kw_BadFormula : KwT K (T.cls "BadFormula") "place"
  kw_BadLevels : KwT K (T.cls "BadLevels") "name"
  kw_BadMarks : KwT K (T.cls "BadMarks") "place"
  kw_BadNode : KwT K (T.cls "BadNode") "place"
  kw_BadNumber : KwT K (T.cls "BadNumber") "value"
  kw_BadPaper : KwT K (T.cls "BadPaper") "place"
  kw_BadProgram : KwT K (T.cls "BadProgram") "place"
  kw_BadRun : KwT K (T.cls "BadRun") "number"
  kw_BadStanding : KwT K (T.cls "BadStanding") "value"
  kw_BadText : KwT K (T.cls "BadText") "line"
  kw_BadWeaving : KwT K (T.cls "BadWeaving") "place"
  kw_Missing : KwT K (T.cls "Missing") "name"
  kw_TooMany : KwT K (T.cls "TooMany") "most"
  kw_Twice : KwT K (T.cls "Twice") "name"
  no_KeptError : NCls K mg T "KeptError" "ValueError" true
  eb : EBt K T kn bs
section
variable {P : Program} {w : World} {K : PySem.W.Frag} {mg : Str → Option Value} {base : Heap} {T : Tb}
theorem g_law_begun (t : Txt P w K mg base T) : GFn P w K mg base 1 t.f_law_begun t.d_law_begun ["_law_script"] (spD K T 1 p_law_begun) := gfn_of (t := t_law_begun) t.F_law_begun sc_law_begun (fun cdv A outer s H E B => 
  (dss_one (ds_ret (dx_shutV (n := 1125899906842624) (dx_dispM (.cons dx_str (dx_callTy cd_list (by rfl) t.n_list bt_list (da_cons (dv 0) da_nil)) (.cons dx_str (dx_lcMV rfl sc_law_begun.nd (di_seq (dv 0)) (blk_top (N := N_law_begun) (sc := defScope s_law_begun) (own := [("_law_cell", 1)]) (by decide +kernel)) rfl (fun _ _ _ _ _ => (dgo_name (i := 1) (by decide) sc_law_begun.nd rfl (.inl rfl))) (fun _ _ _ _ _ => (dts_one (dt_cmp od_ge (dv 1) (dx_bin od_pow dx_int dx_int)))) (fun _ _ _ _ _ => (dv 1))) (.cons dx_str dx_int .nil)))))))) r_law_begun
theorem g_law_next (t : Txt P w K mg base T) : GFn P w K mg base 1 t.f_law_next t.d_law_next ["_law_m", "_law_many"] (spD K T 2 p_law_next) := gfn_of (t := t_law_next) t.F_law_next sc_law_next (fun cdv A outer s H E B => 
  (dss_open (i := 0) (dss_cons (ds_while B.own (DW.dt (dw_and (dt_cmp (od_neM B.u64) (dx_get B.u1 (dv 0) dx_str (fun _ _ => rfl)) (dx_lst da_nil)) (dw_and1 (dt_cmp (od_eq B.u64) (dx_ix ixd_seq (dx_get B.u1 (dv 0) dx_str (fun _ _ => rfl)) dx_int (fun _ _ => rfl)) dx_int)))) (dss_one (ds_put B.u1 (dv 0) dx_str (dx_sliceM (dx_get B.u1 (dv 0) dx_str (fun _ _ => rfl)) (dpo_some dx_int) dpo_none))))
  (dss_cons (ds_if (dt_cmp (od_neM B.u64) (dx_get B.u1 (dv 0) dx_str (fun _ _ => rfl)) (dx_lst da_nil)) (dss_cons (ds_set (i := 2) sc_law_next.nd rfl (.inl rfl) (dx_ix ixd_seq (dx_get B.u1 (dv 0) dx_str (fun _ _ => rfl)) dx_int (fun _ _ => rfl)))
  (dss_cons (ds_setIx (dx_get B.u1 (dv 0) dx_str (fun _ _ => rfl)) dx_int (dx_bin od_div (dv 2) (dv 1)))
  (dss_one (ds_ret (dx_shut (i := 0) (dx_bin od_mod (dx_callTy cd_int (by rfl) t.n_int bt_int (da_cons (dv 2) da_nil)) (dv 1))))))) dss_nil)
  (dss_cons (ds_par (i := 3) (j := 4) rfl sc_law_next.nd rfl rfl (by decide) rfl rfl (da_cons (dx_bin od_add (dx_get B.u1 (dv 0) dx_str (fun _ _ => rfl)) dx_int) (da_cons (dx_get B.u1 (dv 0) dx_str (fun _ _ => rfl)) da_nil)) (by rfl))
  (dss_cons (ds_put B.u1 (dv 0) dx_str (dv 3))
  (dss_cons (ds_set (i := 5) sc_law_next.nd rfl (.inl rfl) (dx_if (dt_cmp (od_ne B.u64) (dv 4) (dx_lst da_nil)) (dx_callTy cd_int (by rfl) t.n_int bt_int (da_cons (dx_ix ixd_seq (dv 4) (dx_bin od_mod (dx_callTy cd_int (by rfl) t.n_int bt_int (da_cons (dx_bin od_add (dx_bin od_mul (dv 3) (dv 3)) (dx_bin od_div (dv 3) dx_int)) da_nil)) (dx_callB cd_len (by rfl) t.n_len bt_len (da_cons (dv 4) da_nil))) (fun _ _ => rfl)) da_nil)) dx_int))
  (dss_cons (ds_set (i := 6) sc_law_next.nd rfl (.inl rfl) (dx_bin od_mod (dx_callTy cd_int (by rfl) t.n_int bt_int (da_cons (dx_bin od_add (dx_bin od_add (dx_bin od_mul (dv 5) dx_int) (dx_bin od_mul (dv 3) dx_int)) (dx_bin od_mul (dx_bin od_mul dx_int (dv 3)) (dv 3))) da_nil)) dx_int))
  (dss_one (ds_ret (dx_shut (i := 0) (dx_bin od_mod (dx_callTy cd_int (by rfl) t.n_int bt_int (da_cons (dx_bin od_div (dx_bin od_mod (dx_callTy cd_int (by rfl) t.n_int bt_int (da_cons (dx_bin od_add (dx_bin od_mul (dv 6) dx_int) (dx_bin od_mul dx_int (dv 3))) da_nil)) dx_int) dx_int) da_nil)) (dv 1))))))))))))) r_law_next
theorem g_law_kinds (t : Txt P w K mg base T) : GFn P w K mg base 1 t.f_law_kinds t.d_law_kinds ["_law_one"] (spD K T 1 p_law_kinds) := gfn_of (t := t_law_kinds) t.F_law_kinds sc_law_kinds (fun cdv A outer s H E B => 
  (dss_cons (ds_set (i := 1) sc_law_kinds.nd rfl (.inl rfl) (dx_lstM (da_cons (dx_isE t.ea (by decide) (by rfl) t.n_isinstance bt_isinstance (by rfl) t.na_BadCells (dv 0)) (da_cons (dx_isE t.ea (by decide) (by rfl) t.n_isinstance bt_isinstance (by rfl) t.na_BadFormula (dv 0)) (da_cons (dx_isE t.ea (by decide) (by rfl) t.n_isinstance bt_isinstance (by rfl) t.na_BadProgram (dv 0)) da_nil)))))
  (dss_cons (ds_set (i := 1) sc_law_kinds.nd rfl (.inl rfl) (dx_bin od_addM (dv 1) (dx_lst (da_cons (dx_isE t.ea (by decide) (by rfl) t.n_isinstance bt_isinstance (by rfl) t.na_Twice (dv 0)) (da_cons (dx_isE t.ea (by decide) (by rfl) t.n_isinstance bt_isinstance (by rfl) t.na_BadStanding (dv 0)) (da_cons (dx_isE t.ea (by decide) (by rfl) t.n_isinstance bt_isinstance (by rfl) t.na_BadWeaving (dv 0)) da_nil))))))
  (dss_cons (ds_set (i := 1) sc_law_kinds.nd rfl (.inl rfl) (dx_bin od_addM (dv 1) (dx_lst (da_cons (dx_isE t.ea (by decide) (by rfl) t.n_isinstance bt_isinstance (by rfl) t.na_BadNode (dv 0)) (da_cons (dx_isE t.ea (by decide) (by rfl) t.n_isinstance bt_isinstance (by rfl) t.na_BadPaper (dv 0)) (da_cons (dx_isE t.ea (by decide) (by rfl) t.n_isinstance bt_isinstance (by rfl) t.na_BadMarks (dv 0)) da_nil))))))
  (dss_cons (ds_app (dv 1) (dx_isE t.ea (by decide) (by rfl) t.n_isinstance bt_isinstance (by rfl) t.na_BadLevels (dv 0)) (fun ho ha => pe_bm PySem.F.plainAttrs_list PySem.F.slot_list_append PySem.F.type_list_append mt_append ho ha))
  (dss_frz (i := 1) (dss_cons (ds_set (i := 1) sc_law_kinds.nd rfl (.inl rfl) (dx_bin od_add (dv 1) (dx_lst (da_cons (dx_isE t.ea (by decide) (by rfl) t.n_isinstance bt_isinstance (by rfl) t.na_BadText (dv 0)) (da_cons (dx_isE t.ea (by decide) (by rfl) t.n_isinstance bt_isinstance (by rfl) t.na_BadNumber (dv 0)) (da_cons (dx_isE t.ea (by decide) (by rfl) t.n_isinstance bt_isinstance (by rfl) t.na_BadRun (dv 0)) da_nil))))))
  (dss_one (ds_ret (dx_bin od_add (dv 1) (dx_lst (da_cons (dx_isE t.ea (by decide) (by rfl) t.n_isinstance bt_isinstance (by rfl) t.na_Missing (dv 0)) (da_cons (dx_isE t.ea (by decide) (by rfl) t.n_isinstance bt_isinstance (by rfl) t.na_TooMany (dv 0)) da_nil))))))))))))) r_law_kinds
theorem g_law_fields (t : Txt P w K mg base T) : GFn P w K mg base 1 t.f_law_fields t.d_law_fields ["_law_q"] (spD K T 1 p_law_fields) := gfn_of (t := t_law_fields) t.F_law_fields sc_law_fields (fun cdv A outer s H E B => 
  (dss_cons (ds_set (i := 1) sc_law_fields.nd rfl (.inl rfl) (dx_lst (da_cons (dx_mkE t.ec_BadCells B.room (by rfl) (dv 0)) (da_cons (dx_mkE t.ec_BadFormula B.room (by rfl) (dv 0)) (da_cons (dx_mkE t.ec_BadProgram B.room (by rfl) (dv 0)) (da_cons (dx_mkE t.ec_BadWeaving B.room (by rfl) (dv 0)) (da_cons (dx_mkE t.ec_BadNode B.room (by rfl) (dv 0)) (da_cons (dx_mkE t.ec_BadPaper B.room (by rfl) (dv 0)) (da_cons (dx_mkE t.ec_BadMarks B.room (by rfl) (dv 0)) da_nil)))))))))
  (dss_cons (ds_setLcV rfl sc_law_fields.nd (di_seq (dv 1)) (blk_top (N := N_law_fields) (sc := defScope s_law_fields) (own := [("_law_one", 3)]) (by decide +kernel)) rfl (fun _ _ _ _ _ => (dgo_name (i := 3) (by decide) sc_law_fields.nd rfl (.inl rfl))) (fun _ _ _ _ _ => dts_nil) (fun _ _ _ _ _ => (dx_fldE t.ea (by decide) (dv 3))) (i := 2) rfl rfl (sw_true rfl rfl rfl (by decide +kernel)))
  (dss_cons (ds_set (i := 1) sc_law_fields.nd rfl (.inl rfl) (dx_lst (da_cons (dx_mkEK t.ec_BadCells t.kw_BadCells B.room (by rfl) (dv 0)) (da_cons (dx_mkEK t.ec_BadFormula t.kw_BadFormula B.room (by rfl) (dv 0)) (da_cons (dx_mkEK t.ec_BadProgram t.kw_BadProgram B.room (by rfl) (dv 0)) (da_cons (dx_mkEK t.ec_BadWeaving t.kw_BadWeaving B.room (by rfl) (dv 0)) (da_cons (dx_mkEK t.ec_BadNode t.kw_BadNode B.room (by rfl) (dv 0)) da_nil)))))))
  (dss_cons (ds_set (i := 2) sc_law_fields.nd rfl (.inl rfl) (dx_bin od_add (dv 2) (dx_lcV rfl sc_law_fields.nd (di_seq (dx_bin od_add (dv 1) (dx_lst (da_cons (dx_mkEK t.ec_BadPaper t.kw_BadPaper B.room (by rfl) (dv 0)) (da_cons (dx_mkEK t.ec_BadMarks t.kw_BadMarks B.room (by rfl) (dv 0)) da_nil))))) (blk_top (N := N_law_fields) (sc := defScope s_law_fields) (own := [("_law_one", 3)]) (by decide +kernel)) rfl (fun _ _ _ _ _ => (dgo_name (i := 3) (by decide) sc_law_fields.nd rfl (.inl rfl))) (fun _ _ _ _ _ => dts_nil) (fun _ _ _ _ _ => (dx_fldE t.ea (by decide) (dv 3))))))
  (dss_cons (ds_set (i := 2) sc_law_fields.nd rfl (.inl rfl) (dx_bin od_add (dv 2) (dx_lcV rfl sc_law_fields.nd (di_seq (dx_lst (da_cons (dx_mkE t.ec_Twice B.room (by rfl) (dv 0)) (da_cons (dx_mkEK t.ec_Twice t.kw_Twice B.room (by rfl) (dv 0)) (da_cons (dx_mkE t.ec_BadLevels B.room (by rfl) (dv 0)) (da_cons (dx_mkEK t.ec_BadLevels t.kw_BadLevels B.room (by rfl) (dv 0)) da_nil)))))) (blk_top (N := N_law_fields) (sc := defScope s_law_fields) (own := [("_law_one", 3)]) (by decide +kernel)) rfl (fun _ _ _ _ _ => (dgo_name (i := 3) (by decide) sc_law_fields.nd rfl (.inl rfl))) (fun _ _ _ _ _ => dts_nil) (fun _ _ _ _ _ => (dx_fldE t.ea (by decide) (dv 3))))))
  (dss_cons (ds_set (i := 2) sc_law_fields.nd rfl (.inl rfl) (dx_bin od_add (dv 2) (dx_lcV rfl sc_law_fields.nd (di_seq (dx_lst (da_cons (dx_mkE t.ec_BadStanding B.room (by rfl) (dv 0)) (da_cons (dx_mkEK t.ec_BadStanding t.kw_BadStanding B.room (by rfl) (dv 0)) (da_cons (dx_mkE t.ec_BadNumber B.room (by rfl) (dv 0)) (da_cons (dx_mkEK t.ec_BadNumber t.kw_BadNumber B.room (by rfl) (dv 0)) da_nil)))))) (blk_top (N := N_law_fields) (sc := defScope s_law_fields) (own := [("_law_one", 3)]) (by decide +kernel)) rfl (fun _ _ _ _ _ => (dgo_name (i := 3) (by decide) sc_law_fields.nd rfl (.inl rfl))) (fun _ _ _ _ _ => dts_nil) (fun _ _ _ _ _ => (dx_fldE t.ea (by decide) (dv 3))))))
  (dss_cons (ds_set (i := 2) sc_law_fields.nd rfl (.inl rfl) (dx_bin od_add (dv 2) (dx_lst (da_cons (dx_fldE t.ea (by decide) (dx_mkE t.ec_BadText B.room (by rfl) (dv 0))) (da_cons (dx_fldE t.ea (by decide) (dx_mkEK t.ec_BadText t.kw_BadText B.room (by rfl) (dv 0))) (da_cons (dx_fldE t.ea (by decide) (dx_mkE t.ec_BadRun B.room (by rfl) (dv 0))) (da_cons (dx_fldE t.ea (by decide) (dx_mkEK t.ec_BadRun t.kw_BadRun B.room (by rfl) (dv 0))) da_nil)))))))
  (dss_one (ds_ret (dx_bin od_add (dv 2) (dx_lst (da_cons (dx_fldE t.ea (by decide) (dx_mkE t.ec_Missing B.room (by rfl) (dv 0))) (da_cons (dx_fldE t.ea (by decide) (dx_mkEK t.ec_Missing t.kw_Missing B.room (by rfl) (dv 0))) (da_cons (dx_fldE t.ea (by decide) (dx_mkE t.ec_TooMany B.room (by rfl) (dv 0))) (da_cons (dx_fldE t.ea (by decide) (dx_mkEK t.ec_TooMany t.kw_TooMany B.room (by rfl) (dv 0))) da_nil)))))))))))))))) r_law_fields
theorem g_law (t : Txt P w K mg base T) : GFn P w K mg base 2 t.f_law t.d_law ["_law_script"] (spD K T 1 p_law) := gfn_of (t := t_law) t.F_law sc_law (fun cdv A outer s H E B => 
  (dss_cons (ds_set (i := 1) sc_law.nd rfl (.inl rfl) (dx_call ((g_law_begun t).mono (by decide)) B.room B.grd B.tk (by rfl) t.m_law_begun t.F_law_begun.kp t.b_law_begun (da_cons (dv 0) da_nil)))
  (dss_cons (ds_for B.own rfl (di_range1 (by rfl) t.n_range (da_cons (dx_bin od_add dx_int (dx_callB (cd_min2 rfl) (by rfl) t.n_min bt_min (da_cons (dx_callB cd_len (by rfl) t.n_len bt_len (da_cons (dv 0) da_nil)) (da_cons dx_int da_nil)))) da_nil)) (dg_name (i := 2) sc_law.nd rfl (.inl rfl)) (dss_cons (ds_set (i := 3) sc_law.nd rfl (.inr rfl) (dx_ix ixd_seq (dx_lst (da_cons dx_non (da_cons dx_int (da_cons (dx_un ud_neg dx_int) (da_cons dx_str (da_cons (dx_tup (da_cons dx_int (da_cons dx_int da_nil))) (da_cons (dx_lst (da_cons dx_int da_nil)) (da_cons dx_dict0 (da_cons (dx_bin od_pow dx_int dx_int) (da_cons dx_bl da_nil)))))))))) (dx_call ((g_law_next t).mono (by decide)) B.room B.grd B.tk (by rfl) t.m_law_next t.F_law_next.kp t.b_law_next (da_cons (dv 1) (da_cons dx_int da_nil))) (fun _ _ => rfl)))
  (dss_cons (ds_if (dt_cmp (od_ne B.u64) (dx_lcV rfl sc_law.nd (di_seq (dx_call ((g_law_fields t).mono (by decide)) B.room B.grd B.tk (by rfl) t.m_law_fields t.F_law_fields.kp t.b_law_fields (da_cons (dv 3) da_nil))) (blk_top (N := N_law) (sc := defScope s_law) (own := [("_law_one", 6)]) (by decide +kernel)) rfl (fun _ _ _ _ _ => (dgo_name (i := 6) (by decide) sc_law.nd rfl (.inl rfl))) (fun _ _ _ _ _ => (dts_one (dt_cmp od_neS (dx_callB (cd_reprA t.sm B.grd B.u66) (by rfl) t.n_repr bt_repr (da_cons (dv 6) da_nil)) (dx_callB (cd_reprA t.sm B.grd B.u66) (by rfl) t.n_repr bt_repr (da_cons (dv 3) da_nil))))) (fun _ _ _ _ _ => (dv 6))) (dx_lst da_nil)) (dss_one (ds_ret dx_bl)) dss_nil)
  (dss_cons (ds_set (i := 4) sc_law.nd rfl (.inl rfl) (dx_lst (da_cons (dx_mkE t.ec_BadCells B.room (by rfl) (dv 3)) (da_cons (dx_mkE t.ec_BadFormula B.room (by rfl) (dv 3)) (da_cons (dx_mkE t.ec_BadProgram B.room (by rfl) (dv 3)) (da_cons (dx_mkE t.ec_Twice B.room (by rfl) (dv 3)) (da_cons (dx_mkE t.ec_BadStanding B.room (by rfl) (dv 3)) (da_cons (dx_mkE t.ec_BadWeaving B.room (by rfl) (dv 3)) (da_cons (dx_mkE t.ec_BadNode B.room (by rfl) (dv 3)) da_nil)))))))))
  (dss_cons (ds_set (i := 4) sc_law.nd rfl (.inl rfl) (dx_bin od_add (dv 4) (dx_lst (da_cons (dx_mkE t.ec_BadPaper B.room (by rfl) (dv 3)) (da_cons (dx_mkE t.ec_BadMarks B.room (by rfl) (dv 3)) (da_cons (dx_mkE t.ec_BadLevels B.room (by rfl) (dv 3)) (da_cons (dx_mkE t.ec_BadText B.room (by rfl) (dv 3)) (da_cons (dx_mkE t.ec_BadNumber B.room (by rfl) (dv 3)) (da_cons (dx_mkE t.ec_BadRun B.room (by rfl) (dv 3)) da_nil)))))))))
  (dss_cons (ds_set (i := 4) sc_law.nd rfl (.inl rfl) (dx_bin od_add (dv 4) (dx_lst (da_cons (dx_mkE t.ec_Missing B.room (by rfl) (dv 3)) (da_cons (dx_mkE t.ec_TooMany B.room (by rfl) (dv 3)) da_nil)))))
  (dss_one (ds_for B.own rfl (di_enumL (by rfl) t.n_enumerate (da_cons (dv 4) da_nil)) (dg_tup rfl (dgs_cons (dg_name (i := 5) sc_law.nd rfl (.inr rfl)) (dgs_cons (dg_name (i := 6) sc_law.nd rfl (.inl rfl)) dgs_nil))) (dss_cons (ds_if (dt_cmp (od_ne B.u64) (dx_call ((g_law_kinds t).mono (by decide)) B.room B.grd B.tk (by rfl) t.m_law_kinds t.F_law_kinds.kp t.b_law_kinds (da_cons (dv 6) da_nil)) (dx_lcV rfl sc_law.nd (di_range1 (by rfl) t.n_range (da_cons dx_int da_nil)) (blk_top (N := N_law) (sc := defScope s_law) (own := [("_law_k", 8)]) (by decide +kernel)) rfl (fun _ _ _ _ _ => (dgo_name (i := 8) (by decide) sc_law.nd rfl (.inl rfl))) (fun _ _ _ _ _ => dts_nil) (fun _ _ _ _ _ => (dx_cmp (od_eq B.u64) (dv 8) (dv 5))))) (dss_one (ds_ret dx_bl)) dss_nil)
  (dss_cons (ds_set (i := 7) sc_law.nd rfl (.inl rfl) (dx_lst (da_cons (dx_isE t.ea (by decide) (by rfl) t.n_isinstance bt_isinstance (by rfl) t.na_KeptError (dv 6)) (da_cons (dx_isEB t.ea t.eb (by decide) (by rfl) t.n_isinstance bt_isinstance (dx_bty (by rfl) t.n_ValueError bt_ValueError) (dv 6)) (da_cons (dx_isEB t.ea t.eb (by decide) (by rfl) t.n_isinstance bt_isinstance (dx_bty (by rfl) t.n_LookupError bt_LookupError) (dv 6)) da_nil)))))
  (dss_one (ds_if (dt_cmp (od_ne B.u64) (dx_bin od_add (dv 7) (dx_lst (da_cons (dx_isEB t.ea t.eb (by decide) (by rfl) t.n_isinstance bt_isinstance (dx_bty (by rfl) t.n_OverflowError bt_OverflowError) (dv 6)) da_nil))) (dx_lst (da_cons (dx_cmp od_lt (dv 5) dx_int) (da_cons (dx_cmp od_lt (dv 5) dx_int) (da_cons (dx_cmp (od_eq B.u64) (dv 5) dx_int) (da_cons (dx_cmp (od_eq B.u64) (dv 5) dx_int) da_nil)))))) (dss_one (ds_ret dx_bl)) dss_nil))))))))))))
  (dss_one (ds_ret (dx_isNew t.no_KeptError (by rfl) t.n_isinstance bt_isinstance (by rfl) (by rfl) t.n_ValueError bt_ValueError)))))) r_law
end
theorem all_mk {l : PySem.W.OpenLaw} {pq : Program} {w : World} {K : PySem.W.Frag} {h : Heap} {mg : Str → Option Value} {fa : Addr} (X : K.In h) (G : h.Ns mainGlobals mg) (hfa : mg "law" = some (.ref fa)) (TF : TabF pq K h)
    {aa_law_begun : Addr} {oo_law_begun nn_law_begun : Option Addr} {ll_law_begun : Array (Option Value)} {cc_law_begun vv_law_begun ww_law_begun pp_law_begun tt_law_begun uu_law_begun : Value}
    {aa_law_next : Addr} {oo_law_next nn_law_next : Option Addr} {ll_law_next : Array (Option Value)} {cc_law_next vv_law_next ww_law_next pp_law_next tt_law_next uu_law_next : Value}
    {aa_law_kinds : Addr} {oo_law_kinds nn_law_kinds : Option Addr} {ll_law_kinds : Array (Option Value)} {cc_law_kinds vv_law_kinds ww_law_kinds pp_law_kinds tt_law_kinds uu_law_kinds : Value}
    {aa_law_fields : Addr} {oo_law_fields nn_law_fields : Option Addr} {ll_law_fields : Array (Option Value)} {cc_law_fields vv_law_fields ww_law_fields pp_law_fields tt_law_fields uu_law_fields : Value}
    {aa_law : Addr} {oo_law nn_law : Option Addr} {ll_law : Array (Option Value)} {cc_law vv_law ww_law pp_law tt_law uu_law : Value}
    {BadCells_C BadCells_I BadCells_cda BadCells_cc : Addr} {BadCells_q BadCells_file : Str} {BadCells_kV BadCells_doc BadCells_pm BadCells_ct BadCells_oc BadCells_ccl BadCells_cl : Value} {BadCells_an BadCells_od BadCells_cdd BadCells_cld : Option Addr} {BadCells_osl BadCells_ccs BadCells_csl : Array (Option Value)} {BadCells_vs : Array Value} {BadCells_tf : Tok}
    {BadFormula_C BadFormula_I BadFormula_cda BadFormula_cc : Addr} {BadFormula_q BadFormula_file : Str} {BadFormula_kV BadFormula_doc BadFormula_pm BadFormula_ct BadFormula_oc BadFormula_ccl BadFormula_cl : Value} {BadFormula_an BadFormula_od BadFormula_cdd BadFormula_cld : Option Addr} {BadFormula_osl BadFormula_ccs BadFormula_csl : Array (Option Value)} {BadFormula_vs : Array Value} {BadFormula_tf : Tok}
    {BadLevels_C BadLevels_I BadLevels_cda BadLevels_cc : Addr} {BadLevels_q BadLevels_file : Str} {BadLevels_kV BadLevels_doc BadLevels_pm BadLevels_ct BadLevels_oc BadLevels_ccl BadLevels_cl : Value} {BadLevels_an BadLevels_od BadLevels_cdd BadLevels_cld : Option Addr} {BadLevels_osl BadLevels_ccs BadLevels_csl : Array (Option Value)} {BadLevels_vs : Array Value} {BadLevels_tf : Tok}
    {BadMarks_C BadMarks_I BadMarks_cda BadMarks_cc : Addr} {BadMarks_q BadMarks_file : Str} {BadMarks_kV BadMarks_doc BadMarks_pm BadMarks_ct BadMarks_oc BadMarks_ccl BadMarks_cl : Value} {BadMarks_an BadMarks_od BadMarks_cdd BadMarks_cld : Option Addr} {BadMarks_osl BadMarks_ccs BadMarks_csl : Array (Option Value)} {BadMarks_vs : Array Value} {BadMarks_tf : Tok}
    {BadNode_C BadNode_I BadNode_cda BadNode_cc : Addr} {BadNode_q BadNode_file : Str} {BadNode_kV BadNode_doc BadNode_pm BadNode_ct BadNode_oc BadNode_ccl BadNode_cl : Value} {BadNode_an BadNode_od BadNode_cdd BadNode_cld : Option Addr} {BadNode_osl BadNode_ccs BadNode_csl : Array (Option Value)} {BadNode_vs : Array Value} {BadNode_tf : Tok}
    {BadNumber_C BadNumber_I BadNumber_cda BadNumber_cc : Addr} {BadNumber_q BadNumber_file : Str} {BadNumber_kV BadNumber_doc BadNumber_pm BadNumber_ct BadNumber_oc BadNumber_ccl BadNumber_cl : Value} {BadNumber_an BadNumber_od BadNumber_cdd BadNumber_cld : Option Addr} {BadNumber_osl BadNumber_ccs BadNumber_csl : Array (Option Value)} {BadNumber_vs : Array Value} {BadNumber_tf : Tok}
    {BadPaper_C BadPaper_I BadPaper_cda BadPaper_cc : Addr} {BadPaper_q BadPaper_file : Str} {BadPaper_kV BadPaper_doc BadPaper_pm BadPaper_ct BadPaper_oc BadPaper_ccl BadPaper_cl : Value} {BadPaper_an BadPaper_od BadPaper_cdd BadPaper_cld : Option Addr} {BadPaper_osl BadPaper_ccs BadPaper_csl : Array (Option Value)} {BadPaper_vs : Array Value} {BadPaper_tf : Tok}
    {BadProgram_C BadProgram_I BadProgram_cda BadProgram_cc : Addr} {BadProgram_q BadProgram_file : Str} {BadProgram_kV BadProgram_doc BadProgram_pm BadProgram_ct BadProgram_oc BadProgram_ccl BadProgram_cl : Value} {BadProgram_an BadProgram_od BadProgram_cdd BadProgram_cld : Option Addr} {BadProgram_osl BadProgram_ccs BadProgram_csl : Array (Option Value)} {BadProgram_vs : Array Value} {BadProgram_tf : Tok}
    {BadRun_C BadRun_I BadRun_cda BadRun_cc : Addr} {BadRun_q BadRun_file : Str} {BadRun_kV BadRun_doc BadRun_pm BadRun_ct BadRun_oc BadRun_ccl BadRun_cl : Value} {BadRun_an BadRun_od BadRun_cdd BadRun_cld : Option Addr} {BadRun_osl BadRun_ccs BadRun_csl : Array (Option Value)} {BadRun_vs : Array Value} {BadRun_tf : Tok}
    {BadStanding_C BadStanding_I BadStanding_cda BadStanding_cc : Addr} {BadStanding_q BadStanding_file : Str} {BadStanding_kV BadStanding_doc BadStanding_pm BadStanding_ct BadStanding_oc BadStanding_ccl BadStanding_cl : Value} {BadStanding_an BadStanding_od BadStanding_cdd BadStanding_cld : Option Addr} {BadStanding_osl BadStanding_ccs BadStanding_csl : Array (Option Value)} {BadStanding_vs : Array Value} {BadStanding_tf : Tok}
    {BadText_C BadText_I BadText_cda BadText_cc : Addr} {BadText_q BadText_file : Str} {BadText_kV BadText_doc BadText_pm BadText_ct BadText_oc BadText_ccl BadText_cl : Value} {BadText_an BadText_od BadText_cdd BadText_cld : Option Addr} {BadText_osl BadText_ccs BadText_csl : Array (Option Value)} {BadText_vs : Array Value} {BadText_tf : Tok}
    {BadWeaving_C BadWeaving_I BadWeaving_cda BadWeaving_cc : Addr} {BadWeaving_q BadWeaving_file : Str} {BadWeaving_kV BadWeaving_doc BadWeaving_pm BadWeaving_ct BadWeaving_oc BadWeaving_ccl BadWeaving_cl : Value} {BadWeaving_an BadWeaving_od BadWeaving_cdd BadWeaving_cld : Option Addr} {BadWeaving_osl BadWeaving_ccs BadWeaving_csl : Array (Option Value)} {BadWeaving_vs : Array Value} {BadWeaving_tf : Tok}
    {Missing_C Missing_I Missing_cda Missing_cc : Addr} {Missing_q Missing_file : Str} {Missing_kV Missing_doc Missing_pm Missing_ct Missing_oc Missing_ccl Missing_cl : Value} {Missing_an Missing_od Missing_cdd Missing_cld : Option Addr} {Missing_osl Missing_ccs Missing_csl : Array (Option Value)} {Missing_vs : Array Value} {Missing_tf : Tok}
    {TooMany_C TooMany_I TooMany_cda TooMany_cc : Addr} {TooMany_q TooMany_file : Str} {TooMany_kV TooMany_doc TooMany_pm TooMany_ct TooMany_oc TooMany_ccl TooMany_cl : Value} {TooMany_an TooMany_od TooMany_cdd TooMany_cld : Option Addr} {TooMany_osl TooMany_ccs TooMany_csl : Array (Option Value)} {TooMany_vs : Array Value} {TooMany_tf : Tok}
    {Twice_C Twice_I Twice_cda Twice_cc : Addr} {Twice_q Twice_file : Str} {Twice_kV Twice_doc Twice_pm Twice_ct Twice_oc Twice_ccl Twice_cl : Value} {Twice_an Twice_od Twice_cdd Twice_cld : Option Addr} {Twice_osl Twice_ccs Twice_csl : Array (Option Value)} {Twice_vs : Array Value} {Twice_tf : Tok}
    {KeptError_C : Addr}
    (ha_law_begun : PySem.W.nsIn K mainGlobals "_law_begun" = some (some (.ref aa_law_begun)))
    (hl_law_begun : K.lookup aa_law_begun = some ⟨cc_law_begun, oo_law_begun, .func (PySem.W.fnOf "_law_begun" "_law_begun" (defArgs s_law_begun) (defBody s_law_begun) (defScope s_law_begun) .none vv_law_begun ww_law_begun pp_law_begun nn_law_begun tt_law_begun uu_law_begun), ll_law_begun⟩)
    (hc_law_begun : PySem.W.codeIn K tt_law_begun "_law_begun" = true)
    (hk_law_begun : PySem.W.keepIn K (.ref aa_law_begun) = true)
    (ha_law_next : PySem.W.nsIn K mainGlobals "_law_next" = some (some (.ref aa_law_next)))
    (hl_law_next : K.lookup aa_law_next = some ⟨cc_law_next, oo_law_next, .func (PySem.W.fnOf "_law_next" "_law_next" (defArgs s_law_next) (defBody s_law_next) (defScope s_law_next) .none vv_law_next ww_law_next pp_law_next nn_law_next tt_law_next uu_law_next), ll_law_next⟩)
    (hc_law_next : PySem.W.codeIn K tt_law_next "_law_next" = true)
    (hk_law_next : PySem.W.keepIn K (.ref aa_law_next) = true)
    (ha_law_kinds : PySem.W.nsIn K mainGlobals "_law_kinds" = some (some (.ref aa_law_kinds)))
    (hl_law_kinds : K.lookup aa_law_kinds = some ⟨cc_law_kinds, oo_law_kinds, .func (PySem.W.fnOf "_law_kinds" "_law_kinds" (defArgs s_law_kinds) (defBody s_law_kinds) (defScope s_law_kinds) .none vv_law_kinds ww_law_kinds pp_law_kinds nn_law_kinds tt_law_kinds uu_law_kinds), ll_law_kinds⟩)
    (hc_law_kinds : PySem.W.codeIn K tt_law_kinds "_law_kinds" = true)
    (hk_law_kinds : PySem.W.keepIn K (.ref aa_law_kinds) = true)
    (ha_law_fields : PySem.W.nsIn K mainGlobals "_law_fields" = some (some (.ref aa_law_fields)))
    (hl_law_fields : K.lookup aa_law_fields = some ⟨cc_law_fields, oo_law_fields, .func (PySem.W.fnOf "_law_fields" "_law_fields" (defArgs s_law_fields) (defBody s_law_fields) (defScope s_law_fields) .none vv_law_fields ww_law_fields pp_law_fields nn_law_fields tt_law_fields uu_law_fields), ll_law_fields⟩)
    (hc_law_fields : PySem.W.codeIn K tt_law_fields "_law_fields" = true)
    (hk_law_fields : PySem.W.keepIn K (.ref aa_law_fields) = true)
    (ha_law : PySem.W.nsIn K mainGlobals "law" = some (some (.ref aa_law)))
    (hl_law : K.lookup aa_law = some ⟨cc_law, oo_law, .func (PySem.W.fnOf "law" "law" (defArgs s_law) (defBody s_law) (defScope s_law) .none vv_law ww_law pp_law nn_law tt_law uu_law), ll_law⟩)
    (hc_law : PySem.W.codeIn K tt_law "law" = true)
    (hk_law : PySem.W.keepIn K (.ref aa_law) = true)
    (hn_LookupError : PySem.W.nsIn K mainGlobals "LookupError" = some none)
    (hn_OverflowError : PySem.W.nsIn K mainGlobals "OverflowError" = some none)
    (hn_ValueError : PySem.W.nsIn K mainGlobals "ValueError" = some none)
    (hn_enumerate : PySem.W.nsIn K mainGlobals "enumerate" = some none)
    (hn_int : PySem.W.nsIn K mainGlobals "int" = some none)
    (hn_isinstance : PySem.W.nsIn K mainGlobals "isinstance" = some none)
    (hn_len : PySem.W.nsIn K mainGlobals "len" = some none)
    (hn_list : PySem.W.nsIn K mainGlobals "list" = some none)
    (hn_min : PySem.W.nsIn K mainGlobals "min" = some none)
    (hn_range : PySem.W.nsIn K mainGlobals "range" = some none)
    (hn_repr : PySem.W.nsIn K mainGlobals "repr" = some none)
    (hea : eaB K kn ms fs = true)
    (hm_BadCells : nmB K "BadCells" = true)
    (hm_BadFormula : nmB K "BadFormula" = true)
    (hm_BadLevels : nmB K "BadLevels" = true)
    (hm_BadMarks : nmB K "BadMarks" = true)
    (hm_BadNode : nmB K "BadNode" = true)
    (hm_BadNumber : nmB K "BadNumber" = true)
    (hm_BadPaper : nmB K "BadPaper" = true)
    (hm_BadProgram : nmB K "BadProgram" = true)
    (hm_BadRun : nmB K "BadRun" = true)
    (hm_BadStanding : nmB K "BadStanding" = true)
    (hm_BadText : nmB K "BadText" = true)
    (hm_BadWeaving : nmB K "BadWeaving" = true)
    (hm_KeptError : nmB K "KeptError" = true)
    (hm_Missing : nmB K "Missing" = true)
    (hm_TooMany : nmB K "TooMany" = true)
    (hm_Twice : nmB K "Twice" = true)
    (e1_BadCells : PySem.W.nsIn K mainGlobals "BadCells" = some (some (.ref BadCells_C)))
    (e2_BadCells : exB K BadCells_C "place" "ValueError" "ValueError.__new__" "ValueError.__init__" [.type "ValueError", .type "Exception", .type "BaseException", .type "object"] = true)
    (e3_BadCells : PySem.W.findIn K (.ref BadCells_C) "__init__" = some (some (.ref BadCells_I)))
    (e4_BadCells : PySem.W.isFn K (.ref BadCells_I) = true)
    (e5_BadCells : K.lookup BadCells_I = some ⟨BadCells_oc, BadCells_od, .func (PySem.W.ksFn "__init__" BadCells_q (defArgs i_BadCells) (defBody i_BadCells) (defScope i_BadCells) .none BadCells_kV BadCells_doc BadCells_pm BadCells_an (.ref BadCells_cda) BadCells_ct BadCells_cc), BadCells_osl⟩)
    (e6_BadCells : PySem.W.codeIn K (.ref BadCells_cda) BadCells_q = true)
    (e7_BadCells : K.lookup BadCells_cda = some ⟨BadCells_ccl, BadCells_cdd, .fields BadCells_vs, BadCells_ccs⟩)
    (e8_BadCells : BadCells_vs[2]? = some (.str BadCells_file BadCells_tf))
    (e9_BadCells : ((l.prog.main.file : Str) == BadCells_file) = true)
    (e10_BadCells : K.lookup BadCells_cc = some ⟨BadCells_cl, BadCells_cld, .cell (some (.ref BadCells_C)), BadCells_csl⟩)
    (e1_BadFormula : PySem.W.nsIn K mainGlobals "BadFormula" = some (some (.ref BadFormula_C)))
    (e2_BadFormula : exB K BadFormula_C "place" "ValueError" "ValueError.__new__" "ValueError.__init__" [.type "ValueError", .type "Exception", .type "BaseException", .type "object"] = true)
    (e3_BadFormula : PySem.W.findIn K (.ref BadFormula_C) "__init__" = some (some (.ref BadFormula_I)))
    (e4_BadFormula : PySem.W.isFn K (.ref BadFormula_I) = true)
    (e5_BadFormula : K.lookup BadFormula_I = some ⟨BadFormula_oc, BadFormula_od, .func (PySem.W.ksFn "__init__" BadFormula_q (defArgs i_BadFormula) (defBody i_BadFormula) (defScope i_BadFormula) .none BadFormula_kV BadFormula_doc BadFormula_pm BadFormula_an (.ref BadFormula_cda) BadFormula_ct BadFormula_cc), BadFormula_osl⟩)
    (e6_BadFormula : PySem.W.codeIn K (.ref BadFormula_cda) BadFormula_q = true)
    (e7_BadFormula : K.lookup BadFormula_cda = some ⟨BadFormula_ccl, BadFormula_cdd, .fields BadFormula_vs, BadFormula_ccs⟩)
    (e8_BadFormula : BadFormula_vs[2]? = some (.str BadFormula_file BadFormula_tf))
    (e9_BadFormula : ((l.prog.main.file : Str) == BadFormula_file) = true)
    (e10_BadFormula : K.lookup BadFormula_cc = some ⟨BadFormula_cl, BadFormula_cld, .cell (some (.ref BadFormula_C)), BadFormula_csl⟩)
    (e1_BadLevels : PySem.W.nsIn K mainGlobals "BadLevels" = some (some (.ref BadLevels_C)))
    (e2_BadLevels : exB K BadLevels_C "name" "ValueError" "ValueError.__new__" "ValueError.__init__" [.type "ValueError", .type "Exception", .type "BaseException", .type "object"] = true)
    (e3_BadLevels : PySem.W.findIn K (.ref BadLevels_C) "__init__" = some (some (.ref BadLevels_I)))
    (e4_BadLevels : PySem.W.isFn K (.ref BadLevels_I) = true)
    (e5_BadLevels : K.lookup BadLevels_I = some ⟨BadLevels_oc, BadLevels_od, .func (PySem.W.ksFn "__init__" BadLevels_q (defArgs i_BadLevels) (defBody i_BadLevels) (defScope i_BadLevels) .none BadLevels_kV BadLevels_doc BadLevels_pm BadLevels_an (.ref BadLevels_cda) BadLevels_ct BadLevels_cc), BadLevels_osl⟩)
    (e6_BadLevels : PySem.W.codeIn K (.ref BadLevels_cda) BadLevels_q = true)
    (e7_BadLevels : K.lookup BadLevels_cda = some ⟨BadLevels_ccl, BadLevels_cdd, .fields BadLevels_vs, BadLevels_ccs⟩)
    (e8_BadLevels : BadLevels_vs[2]? = some (.str BadLevels_file BadLevels_tf))
    (e9_BadLevels : ((l.prog.main.file : Str) == BadLevels_file) = true)
    (e10_BadLevels : K.lookup BadLevels_cc = some ⟨BadLevels_cl, BadLevels_cld, .cell (some (.ref BadLevels_C)), BadLevels_csl⟩)
    (e1_BadMarks : PySem.W.nsIn K mainGlobals "BadMarks" = some (some (.ref BadMarks_C)))
    (e2_BadMarks : exB K BadMarks_C "place" "ValueError" "ValueError.__new__" "ValueError.__init__" [.type "ValueError", .type "Exception", .type "BaseException", .type "object"] = true)
    (e3_BadMarks : PySem.W.findIn K (.ref BadMarks_C) "__init__" = some (some (.ref BadMarks_I)))
    (e4_BadMarks : PySem.W.isFn K (.ref BadMarks_I) = true)
    (e5_BadMarks : K.lookup BadMarks_I = some ⟨BadMarks_oc, BadMarks_od, .func (PySem.W.ksFn "__init__" BadMarks_q (defArgs i_BadMarks) (defBody i_BadMarks) (defScope i_BadMarks) .none BadMarks_kV BadMarks_doc BadMarks_pm BadMarks_an (.ref BadMarks_cda) BadMarks_ct BadMarks_cc), BadMarks_osl⟩)
    (e6_BadMarks : PySem.W.codeIn K (.ref BadMarks_cda) BadMarks_q = true)
    (e7_BadMarks : K.lookup BadMarks_cda = some ⟨BadMarks_ccl, BadMarks_cdd, .fields BadMarks_vs, BadMarks_ccs⟩)
    (e8_BadMarks : BadMarks_vs[2]? = some (.str BadMarks_file BadMarks_tf))
    (e9_BadMarks : ((l.prog.main.file : Str) == BadMarks_file) = true)
    (e10_BadMarks : K.lookup BadMarks_cc = some ⟨BadMarks_cl, BadMarks_cld, .cell (some (.ref BadMarks_C)), BadMarks_csl⟩)
    (e1_BadNode : PySem.W.nsIn K mainGlobals "BadNode" = some (some (.ref BadNode_C)))
    (e2_BadNode : exB K BadNode_C "place" "ValueError" "ValueError.__new__" "ValueError.__init__" [.type "ValueError", .type "Exception", .type "BaseException", .type "object"] = true)
    (e3_BadNode : PySem.W.findIn K (.ref BadNode_C) "__init__" = some (some (.ref BadNode_I)))
    (e4_BadNode : PySem.W.isFn K (.ref BadNode_I) = true)
    (e5_BadNode : K.lookup BadNode_I = some ⟨BadNode_oc, BadNode_od, .func (PySem.W.ksFn "__init__" BadNode_q (defArgs i_BadNode) (defBody i_BadNode) (defScope i_BadNode) .none BadNode_kV BadNode_doc BadNode_pm BadNode_an (.ref BadNode_cda) BadNode_ct BadNode_cc), BadNode_osl⟩)
    (e6_BadNode : PySem.W.codeIn K (.ref BadNode_cda) BadNode_q = true)
    (e7_BadNode : K.lookup BadNode_cda = some ⟨BadNode_ccl, BadNode_cdd, .fields BadNode_vs, BadNode_ccs⟩)
    (e8_BadNode : BadNode_vs[2]? = some (.str BadNode_file BadNode_tf))
    (e9_BadNode : ((l.prog.main.file : Str) == BadNode_file) = true)
    (e10_BadNode : K.lookup BadNode_cc = some ⟨BadNode_cl, BadNode_cld, .cell (some (.ref BadNode_C)), BadNode_csl⟩)
    (e1_BadNumber : PySem.W.nsIn K mainGlobals "BadNumber" = some (some (.ref BadNumber_C)))
    (e2_BadNumber : exB K BadNumber_C "value" "ValueError" "ValueError.__new__" "ValueError.__init__" [.type "ValueError", .type "Exception", .type "BaseException", .type "object"] = true)
    (e3_BadNumber : PySem.W.findIn K (.ref BadNumber_C) "__init__" = some (some (.ref BadNumber_I)))
    (e4_BadNumber : PySem.W.isFn K (.ref BadNumber_I) = true)
    (e5_BadNumber : K.lookup BadNumber_I = some ⟨BadNumber_oc, BadNumber_od, .func (PySem.W.ksFn "__init__" BadNumber_q (defArgs i_BadNumber) (defBody i_BadNumber) (defScope i_BadNumber) .none BadNumber_kV BadNumber_doc BadNumber_pm BadNumber_an (.ref BadNumber_cda) BadNumber_ct BadNumber_cc), BadNumber_osl⟩)
    (e6_BadNumber : PySem.W.codeIn K (.ref BadNumber_cda) BadNumber_q = true)
    (e7_BadNumber : K.lookup BadNumber_cda = some ⟨BadNumber_ccl, BadNumber_cdd, .fields BadNumber_vs, BadNumber_ccs⟩)
    (e8_BadNumber : BadNumber_vs[2]? = some (.str BadNumber_file BadNumber_tf))
    (e9_BadNumber : ((l.prog.main.file : Str) == BadNumber_file) = true)
    (e10_BadNumber : K.lookup BadNumber_cc = some ⟨BadNumber_cl, BadNumber_cld, .cell (some (.ref BadNumber_C)), BadNumber_csl⟩)
    (e1_BadPaper : PySem.W.nsIn K mainGlobals "BadPaper" = some (some (.ref BadPaper_C)))
    (e2_BadPaper : exB K BadPaper_C "place" "ValueError" "ValueError.__new__" "ValueError.__init__" [.type "ValueError", .type "Exception", .type "BaseException", .type "object"] = true)
    (e3_BadPaper : PySem.W.findIn K (.ref BadPaper_C) "__init__" = some (some (.ref BadPaper_I)))
    (e4_BadPaper : PySem.W.isFn K (.ref BadPaper_I) = true)
    (e5_BadPaper : K.lookup BadPaper_I = some ⟨BadPaper_oc, BadPaper_od, .func (PySem.W.ksFn "__init__" BadPaper_q (defArgs i_BadPaper) (defBody i_BadPaper) (defScope i_BadPaper) .none BadPaper_kV BadPaper_doc BadPaper_pm BadPaper_an (.ref BadPaper_cda) BadPaper_ct BadPaper_cc), BadPaper_osl⟩)
    (e6_BadPaper : PySem.W.codeIn K (.ref BadPaper_cda) BadPaper_q = true)
    (e7_BadPaper : K.lookup BadPaper_cda = some ⟨BadPaper_ccl, BadPaper_cdd, .fields BadPaper_vs, BadPaper_ccs⟩)
    (e8_BadPaper : BadPaper_vs[2]? = some (.str BadPaper_file BadPaper_tf))
    (e9_BadPaper : ((l.prog.main.file : Str) == BadPaper_file) = true)
    (e10_BadPaper : K.lookup BadPaper_cc = some ⟨BadPaper_cl, BadPaper_cld, .cell (some (.ref BadPaper_C)), BadPaper_csl⟩)
    (e1_BadProgram : PySem.W.nsIn K mainGlobals "BadProgram" = some (some (.ref BadProgram_C)))
    (e2_BadProgram : exB K BadProgram_C "place" "ValueError" "ValueError.__new__" "ValueError.__init__" [.type "ValueError", .type "Exception", .type "BaseException", .type "object"] = true)
    (e3_BadProgram : PySem.W.findIn K (.ref BadProgram_C) "__init__" = some (some (.ref BadProgram_I)))
    (e4_BadProgram : PySem.W.isFn K (.ref BadProgram_I) = true)
    (e5_BadProgram : K.lookup BadProgram_I = some ⟨BadProgram_oc, BadProgram_od, .func (PySem.W.ksFn "__init__" BadProgram_q (defArgs i_BadProgram) (defBody i_BadProgram) (defScope i_BadProgram) .none BadProgram_kV BadProgram_doc BadProgram_pm BadProgram_an (.ref BadProgram_cda) BadProgram_ct BadProgram_cc), BadProgram_osl⟩)
    (e6_BadProgram : PySem.W.codeIn K (.ref BadProgram_cda) BadProgram_q = true)
    (e7_BadProgram : K.lookup BadProgram_cda = some ⟨BadProgram_ccl, BadProgram_cdd, .fields BadProgram_vs, BadProgram_ccs⟩)
    (e8_BadProgram : BadProgram_vs[2]? = some (.str BadProgram_file BadProgram_tf))
    (e9_BadProgram : ((l.prog.main.file : Str) == BadProgram_file) = true)
    (e10_BadProgram : K.lookup BadProgram_cc = some ⟨BadProgram_cl, BadProgram_cld, .cell (some (.ref BadProgram_C)), BadProgram_csl⟩)
    (e1_BadRun : PySem.W.nsIn K mainGlobals "BadRun" = some (some (.ref BadRun_C)))
    (e2_BadRun : exB K BadRun_C "number" "ValueError" "ValueError.__new__" "ValueError.__init__" [.type "ValueError", .type "Exception", .type "BaseException", .type "object"] = true)
    (e3_BadRun : PySem.W.findIn K (.ref BadRun_C) "__init__" = some (some (.ref BadRun_I)))
    (e4_BadRun : PySem.W.isFn K (.ref BadRun_I) = true)
    (e5_BadRun : K.lookup BadRun_I = some ⟨BadRun_oc, BadRun_od, .func (PySem.W.ksFn "__init__" BadRun_q (defArgs i_BadRun) (defBody i_BadRun) (defScope i_BadRun) .none BadRun_kV BadRun_doc BadRun_pm BadRun_an (.ref BadRun_cda) BadRun_ct BadRun_cc), BadRun_osl⟩)
    (e6_BadRun : PySem.W.codeIn K (.ref BadRun_cda) BadRun_q = true)
    (e7_BadRun : K.lookup BadRun_cda = some ⟨BadRun_ccl, BadRun_cdd, .fields BadRun_vs, BadRun_ccs⟩)
    (e8_BadRun : BadRun_vs[2]? = some (.str BadRun_file BadRun_tf))
    (e9_BadRun : ((l.prog.main.file : Str) == BadRun_file) = true)
    (e10_BadRun : K.lookup BadRun_cc = some ⟨BadRun_cl, BadRun_cld, .cell (some (.ref BadRun_C)), BadRun_csl⟩)
    (e1_BadStanding : PySem.W.nsIn K mainGlobals "BadStanding" = some (some (.ref BadStanding_C)))
    (e2_BadStanding : exB K BadStanding_C "value" "ValueError" "ValueError.__new__" "ValueError.__init__" [.type "ValueError", .type "Exception", .type "BaseException", .type "object"] = true)
    (e3_BadStanding : PySem.W.findIn K (.ref BadStanding_C) "__init__" = some (some (.ref BadStanding_I)))
    (e4_BadStanding : PySem.W.isFn K (.ref BadStanding_I) = true)
    (e5_BadStanding : K.lookup BadStanding_I = some ⟨BadStanding_oc, BadStanding_od, .func (PySem.W.ksFn "__init__" BadStanding_q (defArgs i_BadStanding) (defBody i_BadStanding) (defScope i_BadStanding) .none BadStanding_kV BadStanding_doc BadStanding_pm BadStanding_an (.ref BadStanding_cda) BadStanding_ct BadStanding_cc), BadStanding_osl⟩)
    (e6_BadStanding : PySem.W.codeIn K (.ref BadStanding_cda) BadStanding_q = true)
    (e7_BadStanding : K.lookup BadStanding_cda = some ⟨BadStanding_ccl, BadStanding_cdd, .fields BadStanding_vs, BadStanding_ccs⟩)
    (e8_BadStanding : BadStanding_vs[2]? = some (.str BadStanding_file BadStanding_tf))
    (e9_BadStanding : ((l.prog.main.file : Str) == BadStanding_file) = true)
    (e10_BadStanding : K.lookup BadStanding_cc = some ⟨BadStanding_cl, BadStanding_cld, .cell (some (.ref BadStanding_C)), BadStanding_csl⟩)
    (e1_BadText : PySem.W.nsIn K mainGlobals "BadText" = some (some (.ref BadText_C)))
    (e2_BadText : exB K BadText_C "line" "ValueError" "ValueError.__new__" "ValueError.__init__" [.type "ValueError", .type "Exception", .type "BaseException", .type "object"] = true)
    (e3_BadText : PySem.W.findIn K (.ref BadText_C) "__init__" = some (some (.ref BadText_I)))
    (e4_BadText : PySem.W.isFn K (.ref BadText_I) = true)
    (e5_BadText : K.lookup BadText_I = some ⟨BadText_oc, BadText_od, .func (PySem.W.ksFn "__init__" BadText_q (defArgs i_BadText) (defBody i_BadText) (defScope i_BadText) .none BadText_kV BadText_doc BadText_pm BadText_an (.ref BadText_cda) BadText_ct BadText_cc), BadText_osl⟩)
    (e6_BadText : PySem.W.codeIn K (.ref BadText_cda) BadText_q = true)
    (e7_BadText : K.lookup BadText_cda = some ⟨BadText_ccl, BadText_cdd, .fields BadText_vs, BadText_ccs⟩)
    (e8_BadText : BadText_vs[2]? = some (.str BadText_file BadText_tf))
    (e9_BadText : ((l.prog.main.file : Str) == BadText_file) = true)
    (e10_BadText : K.lookup BadText_cc = some ⟨BadText_cl, BadText_cld, .cell (some (.ref BadText_C)), BadText_csl⟩)
    (e1_BadWeaving : PySem.W.nsIn K mainGlobals "BadWeaving" = some (some (.ref BadWeaving_C)))
    (e2_BadWeaving : exB K BadWeaving_C "place" "ValueError" "ValueError.__new__" "ValueError.__init__" [.type "ValueError", .type "Exception", .type "BaseException", .type "object"] = true)
    (e3_BadWeaving : PySem.W.findIn K (.ref BadWeaving_C) "__init__" = some (some (.ref BadWeaving_I)))
    (e4_BadWeaving : PySem.W.isFn K (.ref BadWeaving_I) = true)
    (e5_BadWeaving : K.lookup BadWeaving_I = some ⟨BadWeaving_oc, BadWeaving_od, .func (PySem.W.ksFn "__init__" BadWeaving_q (defArgs i_BadWeaving) (defBody i_BadWeaving) (defScope i_BadWeaving) .none BadWeaving_kV BadWeaving_doc BadWeaving_pm BadWeaving_an (.ref BadWeaving_cda) BadWeaving_ct BadWeaving_cc), BadWeaving_osl⟩)
    (e6_BadWeaving : PySem.W.codeIn K (.ref BadWeaving_cda) BadWeaving_q = true)
    (e7_BadWeaving : K.lookup BadWeaving_cda = some ⟨BadWeaving_ccl, BadWeaving_cdd, .fields BadWeaving_vs, BadWeaving_ccs⟩)
    (e8_BadWeaving : BadWeaving_vs[2]? = some (.str BadWeaving_file BadWeaving_tf))
    (e9_BadWeaving : ((l.prog.main.file : Str) == BadWeaving_file) = true)
    (e10_BadWeaving : K.lookup BadWeaving_cc = some ⟨BadWeaving_cl, BadWeaving_cld, .cell (some (.ref BadWeaving_C)), BadWeaving_csl⟩)
    (e1_Missing : PySem.W.nsIn K mainGlobals "Missing" = some (some (.ref Missing_C)))
    (e2_Missing : exB K Missing_C "name" "LookupError" "LookupError.__new__" "LookupError.__init__" [.type "LookupError", .type "Exception", .type "BaseException", .type "object"] = true)
    (e3_Missing : PySem.W.findIn K (.ref Missing_C) "__init__" = some (some (.ref Missing_I)))
    (e4_Missing : PySem.W.isFn K (.ref Missing_I) = true)
    (e5_Missing : K.lookup Missing_I = some ⟨Missing_oc, Missing_od, .func (PySem.W.ksFn "__init__" Missing_q (defArgs i_Missing) (defBody i_Missing) (defScope i_Missing) .none Missing_kV Missing_doc Missing_pm Missing_an (.ref Missing_cda) Missing_ct Missing_cc), Missing_osl⟩)
    (e6_Missing : PySem.W.codeIn K (.ref Missing_cda) Missing_q = true)
    (e7_Missing : K.lookup Missing_cda = some ⟨Missing_ccl, Missing_cdd, .fields Missing_vs, Missing_ccs⟩)
    (e8_Missing : Missing_vs[2]? = some (.str Missing_file Missing_tf))
    (e9_Missing : ((l.prog.main.file : Str) == Missing_file) = true)
    (e10_Missing : K.lookup Missing_cc = some ⟨Missing_cl, Missing_cld, .cell (some (.ref Missing_C)), Missing_csl⟩)
    (e1_TooMany : PySem.W.nsIn K mainGlobals "TooMany" = some (some (.ref TooMany_C)))
    (e2_TooMany : exB K TooMany_C "most" "OverflowError" "OverflowError.__new__" "OverflowError.__init__" [.type "OverflowError", .type "ArithmeticError", .type "Exception", .type "BaseException", .type "object"] = true)
    (e3_TooMany : PySem.W.findIn K (.ref TooMany_C) "__init__" = some (some (.ref TooMany_I)))
    (e4_TooMany : PySem.W.isFn K (.ref TooMany_I) = true)
    (e5_TooMany : K.lookup TooMany_I = some ⟨TooMany_oc, TooMany_od, .func (PySem.W.ksFn "__init__" TooMany_q (defArgs i_TooMany) (defBody i_TooMany) (defScope i_TooMany) .none TooMany_kV TooMany_doc TooMany_pm TooMany_an (.ref TooMany_cda) TooMany_ct TooMany_cc), TooMany_osl⟩)
    (e6_TooMany : PySem.W.codeIn K (.ref TooMany_cda) TooMany_q = true)
    (e7_TooMany : K.lookup TooMany_cda = some ⟨TooMany_ccl, TooMany_cdd, .fields TooMany_vs, TooMany_ccs⟩)
    (e8_TooMany : TooMany_vs[2]? = some (.str TooMany_file TooMany_tf))
    (e9_TooMany : ((l.prog.main.file : Str) == TooMany_file) = true)
    (e10_TooMany : K.lookup TooMany_cc = some ⟨TooMany_cl, TooMany_cld, .cell (some (.ref TooMany_C)), TooMany_csl⟩)
    (e1_Twice : PySem.W.nsIn K mainGlobals "Twice" = some (some (.ref Twice_C)))
    (e2_Twice : exB K Twice_C "name" "ValueError" "ValueError.__new__" "ValueError.__init__" [.type "ValueError", .type "Exception", .type "BaseException", .type "object"] = true)
    (e3_Twice : PySem.W.findIn K (.ref Twice_C) "__init__" = some (some (.ref Twice_I)))
    (e4_Twice : PySem.W.isFn K (.ref Twice_I) = true)
    (e5_Twice : K.lookup Twice_I = some ⟨Twice_oc, Twice_od, .func (PySem.W.ksFn "__init__" Twice_q (defArgs i_Twice) (defBody i_Twice) (defScope i_Twice) .none Twice_kV Twice_doc Twice_pm Twice_an (.ref Twice_cda) Twice_ct Twice_cc), Twice_osl⟩)
    (e6_Twice : PySem.W.codeIn K (.ref Twice_cda) Twice_q = true)
    (e7_Twice : K.lookup Twice_cda = some ⟨Twice_ccl, Twice_cdd, .fields Twice_vs, Twice_ccs⟩)
    (e8_Twice : Twice_vs[2]? = some (.str Twice_file Twice_tf))
    (e9_Twice : ((l.prog.main.file : Str) == Twice_file) = true)
    (e10_Twice : K.lookup Twice_cc = some ⟨Twice_cl, Twice_cld, .cell (some (.ref Twice_C)), Twice_csl⟩)
    (j1_KeptError : PySem.W.nsIn K mainGlobals "KeptError" = some (some (.ref KeptError_C)))
    (j2_KeptError : nclsB K KeptError_C "ValueError" true = true)
    (heb : ebB K kn bs = true)
    (htop : (l.prog.main.scope.names.lookup ("super" : Str)).isSome = false) :
    ∃ (fd : FuncData) (cs : List (Addr × Addr)) (TT : List (Addr × Str)), (∀ p ∈ cs, h.get? p.2 = some { cls := .none, data := .fields #[] } ∧ K.lookup p.2 = none ∧ PySem.W.CodeHd h p.1 p.2) ∧ (∀ p ∈ TT, p.1 ∈ cs.map (·.2)) ∧ (∀ (s : Shared) (v : Value), BindsTo s fd ⟨[v], []⟩ [("_law_script", v)]) ∧
      ∀ base : Heap, K.In base → base.Ns mainGlobals mg → (∀ p ∈ cs, LamX.TabB base mg p.1 p.2) → (∃ mm, base.Ns sysModules mm) → GFn l.prog w K mg base 2 fa fd ["_law_script"] (spD K ⟨TT, clsK K, fun k => k.hash w⟩ 1 p_law) := by
  have e := hfa.symm.trans (PySem.W.mg_of X G ha_law)
  cases e
  have F_law_begun := fun_mk (st := s_law_begun) hl_law_begun hc_law_begun hk_law_begun
  have b_law_begun := F_law_begun.binds (ps := ["_law_script"]) fun _ _ _ _ _ _ us hl => match us, hl with | [_], _ => rfl
  have F_law_next := fun_mk (st := s_law_next) hl_law_next hc_law_next hk_law_next
  have b_law_next := F_law_next.binds (ps := ["_law_m", "_law_many"]) fun _ _ _ _ _ _ us hl => match us, hl with | [_, _], _ => rfl
  have F_law_kinds := fun_mk (st := s_law_kinds) hl_law_kinds hc_law_kinds hk_law_kinds
  have b_law_kinds := F_law_kinds.binds (ps := ["_law_one"]) fun _ _ _ _ _ _ us hl => match us, hl with | [_], _ => rfl
  have F_law_fields := fun_mk (st := s_law_fields) hl_law_fields hc_law_fields hk_law_fields
  have b_law_fields := F_law_fields.binds (ps := ["_law_q"]) fun _ _ _ _ _ _ us hl => match us, hl with | [_], _ => rfl
  have F_law := fun_mk (st := s_law) hl_law hc_law hk_law
  have b_law := F_law.binds (ps := ["_law_script"]) fun _ _ _ _ _ _ us hl => match us, hl with | [_], _ => rfl
  exact ⟨_, [], [], fun p hp => (nomatch hp), fun p hp => (nomatch hp), fun s v => .of_eq rfl, fun base _ _ ht hsm => g_law ⟨_, _, F_law_begun, (PySem.W.mg_of X G ha_law_begun), b_law_begun, _, _, F_law_next, (PySem.W.mg_of X G ha_law_next), b_law_next, _, _, F_law_kinds, (PySem.W.mg_of X G ha_law_kinds), b_law_kinds, _, _, F_law_fields, (PySem.W.mg_of X G ha_law_fields), b_law_fields, _, _, F_law, (PySem.W.mg_of X G ha_law), b_law, (PySem.W.mg_none_of X G hn_LookupError), (PySem.W.mg_none_of X G hn_OverflowError), (PySem.W.mg_none_of X G hn_ValueError), (PySem.W.mg_none_of X G hn_enumerate), (PySem.W.mg_none_of X G hn_int), (PySem.W.mg_none_of X G hn_isinstance), (PySem.W.mg_none_of X G hn_len), (PySem.W.mg_none_of X G hn_list), (PySem.W.mg_none_of X G hn_min), (PySem.W.mg_none_of X G hn_range), (PySem.W.mg_none_of X G hn_repr), hsm, (eall_of hea), (mg_cls X G hm_BadCells), (mg_cls X G hm_BadFormula), (mg_cls X G hm_BadLevels), (mg_cls X G hm_BadMarks), (mg_cls X G hm_BadNode), (mg_cls X G hm_BadNumber), (mg_cls X G hm_BadPaper), (mg_cls X G hm_BadProgram), (mg_cls X G hm_BadRun), (mg_cls X G hm_BadStanding), (mg_cls X G hm_BadText), (mg_cls X G hm_BadWeaving), (mg_cls X G hm_KeptError), (mg_cls X G hm_Missing), (mg_cls X G hm_TooMany), (mg_cls X G hm_Twice), (ecls_of X G base_value is_BadCells htop e1_BadCells e2_BadCells e3_BadCells e4_BadCells e5_BadCells e6_BadCells e7_BadCells e8_BadCells e9_BadCells e10_BadCells), (ecls_of X G base_value is_BadFormula htop e1_BadFormula e2_BadFormula e3_BadFormula e4_BadFormula e5_BadFormula e6_BadFormula e7_BadFormula e8_BadFormula e9_BadFormula e10_BadFormula), (ecls_of X G base_value is_BadLevels htop e1_BadLevels e2_BadLevels e3_BadLevels e4_BadLevels e5_BadLevels e6_BadLevels e7_BadLevels e8_BadLevels e9_BadLevels e10_BadLevels), (ecls_of X G base_value is_BadMarks htop e1_BadMarks e2_BadMarks e3_BadMarks e4_BadMarks e5_BadMarks e6_BadMarks e7_BadMarks e8_BadMarks e9_BadMarks e10_BadMarks), (ecls_of X G base_value is_BadNode htop e1_BadNode e2_BadNode e3_BadNode e4_BadNode e5_BadNode e6_BadNode e7_BadNode e8_BadNode e9_BadNode e10_BadNode), (ecls_of X G base_value is_BadNumber htop e1_BadNumber e2_BadNumber e3_BadNumber e4_BadNumber e5_BadNumber e6_BadNumber e7_BadNumber e8_BadNumber e9_BadNumber e10_BadNumber), (ecls_of X G base_value is_BadPaper htop e1_BadPaper e2_BadPaper e3_BadPaper e4_BadPaper e5_BadPaper e6_BadPaper e7_BadPaper e8_BadPaper e9_BadPaper e10_BadPaper), (ecls_of X G base_value is_BadProgram htop e1_BadProgram e2_BadProgram e3_BadProgram e4_BadProgram e5_BadProgram e6_BadProgram e7_BadProgram e8_BadProgram e9_BadProgram e10_BadProgram), (ecls_of X G base_value is_BadRun htop e1_BadRun e2_BadRun e3_BadRun e4_BadRun e5_BadRun e6_BadRun e7_BadRun e8_BadRun e9_BadRun e10_BadRun), (ecls_of X G base_value is_BadStanding htop e1_BadStanding e2_BadStanding e3_BadStanding e4_BadStanding e5_BadStanding e6_BadStanding e7_BadStanding e8_BadStanding e9_BadStanding e10_BadStanding), (ecls_of X G base_value is_BadText htop e1_BadText e2_BadText e3_BadText e4_BadText e5_BadText e6_BadText e7_BadText e8_BadText e9_BadText e10_BadText), (ecls_of X G base_value is_BadWeaving htop e1_BadWeaving e2_BadWeaving e3_BadWeaving e4_BadWeaving e5_BadWeaving e6_BadWeaving e7_BadWeaving e8_BadWeaving e9_BadWeaving e10_BadWeaving), (ecls_of X G base_lookup is_Missing htop e1_Missing e2_Missing e3_Missing e4_Missing e5_Missing e6_Missing e7_Missing e8_Missing e9_Missing e10_Missing), (ecls_of X G base_over is_TooMany htop e1_TooMany e2_TooMany e3_TooMany e4_TooMany e5_TooMany e6_TooMany e7_TooMany e8_TooMany e9_TooMany e10_TooMany), (ecls_of X G base_value is_Twice htop e1_Twice e2_Twice e3_Twice e4_Twice e5_Twice e6_Twice e7_Twice e8_Twice e9_Twice e10_Twice), (kwt_of (st := i_BadCells) e1_BadCells e3_BadCells e5_BadCells (fun _ _ _ _ _ _ _ _ _ _ => rfl) (fun _ _ _ _ _ _ _ _ _ _ => rfl)), (kwt_of (st := i_BadFormula) e1_BadFormula e3_BadFormula e5_BadFormula (fun _ _ _ _ _ _ _ _ _ _ => rfl) (fun _ _ _ _ _ _ _ _ _ _ => rfl)), (kwt_of (st := i_BadLevels) e1_BadLevels e3_BadLevels e5_BadLevels (fun _ _ _ _ _ _ _ _ _ _ => rfl) (fun _ _ _ _ _ _ _ _ _ _ => rfl)), (kwt_of (st := i_BadMarks) e1_BadMarks e3_BadMarks e5_BadMarks (fun _ _ _ _ _ _ _ _ _ _ => rfl) (fun _ _ _ _ _ _ _ _ _ _ => rfl)), (kwt_of (st := i_BadNode) e1_BadNode e3_BadNode e5_BadNode (fun _ _ _ _ _ _ _ _ _ _ => rfl) (fun _ _ _ _ _ _ _ _ _ _ => rfl)), (kwt_of (st := i_BadNumber) e1_BadNumber e3_BadNumber e5_BadNumber (fun _ _ _ _ _ _ _ _ _ _ => rfl) (fun _ _ _ _ _ _ _ _ _ _ => rfl)), (kwt_of (st := i_BadPaper) e1_BadPaper e3_BadPaper e5_BadPaper (fun _ _ _ _ _ _ _ _ _ _ => rfl) (fun _ _ _ _ _ _ _ _ _ _ => rfl)), (kwt_of (st := i_BadProgram) e1_BadProgram e3_BadProgram e5_BadProgram (fun _ _ _ _ _ _ _ _ _ _ => rfl) (fun _ _ _ _ _ _ _ _ _ _ => rfl)), (kwt_of (st := i_BadRun) e1_BadRun e3_BadRun e5_BadRun (fun _ _ _ _ _ _ _ _ _ _ => rfl) (fun _ _ _ _ _ _ _ _ _ _ => rfl)), (kwt_of (st := i_BadStanding) e1_BadStanding e3_BadStanding e5_BadStanding (fun _ _ _ _ _ _ _ _ _ _ => rfl) (fun _ _ _ _ _ _ _ _ _ _ => rfl)), (kwt_of (st := i_BadText) e1_BadText e3_BadText e5_BadText (fun _ _ _ _ _ _ _ _ _ _ => rfl) (fun _ _ _ _ _ _ _ _ _ _ => rfl)), (kwt_of (st := i_BadWeaving) e1_BadWeaving e3_BadWeaving e5_BadWeaving (fun _ _ _ _ _ _ _ _ _ _ => rfl) (fun _ _ _ _ _ _ _ _ _ _ => rfl)), (kwt_of (st := i_Missing) e1_Missing e3_Missing e5_Missing (fun _ _ _ _ _ _ _ _ _ _ => rfl) (fun _ _ _ _ _ _ _ _ _ _ => rfl)), (kwt_of (st := i_TooMany) e1_TooMany e3_TooMany e5_TooMany (fun _ _ _ _ _ _ _ _ _ _ => rfl) (fun _ _ _ _ _ _ _ _ _ _ => rfl)), (kwt_of (st := i_Twice) e1_Twice e3_Twice e5_Twice (fun _ _ _ _ _ _ _ _ _ _ => rfl) (fun _ _ _ _ _ _ _ _ _ _ => rfl)), (ncls_of X G j1_KeptError j2_KeptError), (ebt_of heb)⟩⟩
end Bk.K60
namespace Bk
open PySem PySem.Spec PyProof.Rows L2
theorem walk_ofH {l : PySem.W.OpenLaw} {n k : Nat} {q : Program} {loose : List Str} {XP : (Str → Option Value) → Heap → Prop} {YP : World → Heap → Prop} {d : DefRec} {SK : World → PySem.W.Frag → Prop} {phi : Fn} {x : Str}
    (hn : l.most = some n) (hn2 : n ≤ sizeLine) (hdf : d.params.defaults = []) (hr : Room k callerA) (hY : ∀ (w : World) (h : Heap), YP w h → ∃ K : PySem.W.Frag, K.In h ∧ SK w K) (himp : importsNone q = true)
    (F : ∀ (w : World) (K : PySem.W.Frag) (mg : Str → Option Value) (fa : Addr) (h : Heap), SK w K → K.In h → h.Ns mainGlobals mg → mg d.name = some (.ref fa) → TabF q K h →
      ∃ (fd : FuncData) (cs : List (Addr × Addr)) (TT : List (Addr × Str)) (cl : Str → Addr), (∀ p ∈ cs, h.get? p.2 = some { cls := .none, data := .fields #[] } ∧ K.lookup p.2 = none ∧ PySem.W.CodeHd h p.1 p.2) ∧ (∀ p ∈ TT, p.1 ∈ cs.map (·.2)) ∧ (∀ (s : Shared) (u : Value), BindsTo s fd ⟨[u], []⟩ [(x, u)]) ∧
        ∀ base : Heap, K.In base → base.Ns mainGlobals mg → (∀ p ∈ cs, LamX.TabB base mg p.1 p.2) → (∃ mm, base.Ns sysModules mm) → GFn l.prog w K mg base k fa fd [x] (spD K ⟨TT, cl, fun k => k.hash w⟩ 1 phi))
    (hphi : ∀ (ns : List Int) (R : Q1) (E : XQ), ns.length ≤ n → (∀ s', R (.bl true) s') → phi [.scr ns] ⟨fun _ => none, none⟩ R E) :
    PySem.W.WalkO q loose XP YP l.row.toRowW d [] (fun f vs => PySem.call f vs) := by
  refine Att.attach_call hn hdf fun w s₀ s₁ mg mb fa o pm cd doc a vs ns G Y ho hd hcd hmg hobj hints hlen hg => ?_
  obtain ⟨K, KX, hSK⟩ := hY w _ Y
  have tabF : TabF q K s₁.heap := fun x c P hx ht => by
    cases e : (recsOf q).find? fun e => e.name == x with
    | none => rw [e] at hx; cases hx
    | some d' => exact PySem.W.tab_of G.T KX e ht
  obtain ⟨fd, cs, TT, cl, hcs, hTT, hb, hF⟩ := F w K mg fa _ hSK KX G.T.g hmg tabF
  have S : Start K mg mb cs s₁ := ⟨KX, G.T.g, G.T.b, G.T.builtins, G.T.nolimit, (let ⟨mm, z, _⟩ := (G.T.seer himp).mods; ⟨mm, z⟩), hg, fun p hp => (hcs p hp).1, fun p hp => (hcs p hp).2.1, fun p hp => (hcs p hp).2.2, fun _ => G.T.bmain⟩
  have rv := vals_ints hints
  have lenV := hints.length
  have hl : ns.length ≤ sizeLine := Nat.le_trans hlen hn2
  have aT : a ∉ cs.map (·.2) := fun z => by
    obtain ⟨p, hp, e⟩ := List.mem_map.mp z
    have q := (hcs p hp).1
    rw [e, hobj] at q
    cases q
  have memT : ∀ p ∈ cs, p.2 ∈ cs.map (·.2) := fun p hp => List.mem_map.mpr ⟨p, hp, rfl⟩
  have isT : ∀ b ∈ cs.map (·.2), s₁.heap.get? b = some { cls := .none, data := .fields #[] } := fun b hb => by
    obtain ⟨p, hp, e⟩ := List.mem_map.mp hb
    rw [← e]; exact (hcs p hp).1
  have hsp : ∀ H : Hp, (∀ p ∈ cs, H p.2 = some (.tbl #[])) → (∀ b ps, H b = some (.tbl ps) → b ∈ cs.map (·.2)) → SqL K H a (ns.map V.int) → spD K ⟨TT, cl, fun k => k.hash w⟩ 1 phi [.ref a] H (fun v _ => v = .bl true) fun _ _ _ => False := fun H h1 h2 hS => spD_start h1 h2 hTT aT hS (hphi ns _ _ hlen fun _ => rfl)
  cases hk : K.lookup a with
  | some o =>
    have e := KX a o hk
    rw [hobj] at e
    cases e
    have e1 : ∀ b, H0 cs none b = if b ∈ cs.map (·.2) then some (.tbl #[]) else none := fun _ => rfl
    have hS : SqL K (H0 cs none) a (ns.map V.int) := .inr ⟨_, vs.toArray, _, hk, rfl, rfl, rfl, by rw [List.size_toArray, lenV]; exact hl, by simpa using rv⟩
    refine run_start (its := vs) (H := H0 cs none) S hobj (fun b z => ?_) (fun p hp => by rw [e1, if_pos (memT p hp)]) (fun b nb z => ?_) (fun z => ?_) hS (fun b u z => ?_) hr (fun base h1 h2 h3 h4 => hF base h1 h2 h3 h4) hb (hsp _ (fun p hp => by rw [e1, if_pos (memT p hp)]) (fun b ps z => ?_) hS)
    · by_cases hb : b ∈ cs.map (·.2)
      · exact .inr hb
      · exact absurd (by rw [e1, if_neg hb]) z
    · exact absurd (by rw [e1, if_neg nb]) z
    · exact absurd (by rw [e1, if_neg aT]) z
    · by_cases hb : b ∈ cs.map (·.2)
      · rw [e1, if_pos hb] at z
        cases z
        exact isT b hb
      · rw [e1, if_neg hb] at z; cases z
    · by_cases hb : b ∈ cs.map (·.2)
      · exact hb
      · rw [e1, if_neg hb] at z; cases z
  | none =>
    have e1 : ∀ b, H0 cs (some (a, .frz { cls := .type "list", data := .seq vs.toArray } (.lst (ns.map V.int)))) b = if b ∈ cs.map (·.2) then some (.tbl #[]) else if b = a then some (.frz { cls := .type "list", data := .seq vs.toArray } (.lst (ns.map V.int))) else none := fun _ => rfl
    have hS : SqL K (H0 cs (some (a, .frz { cls := .type "list", data := .seq vs.toArray } (.lst (ns.map V.int))))) a (ns.map V.int) := .inl (.inr ⟨{ cls := .type "list", data := .seq vs.toArray }, by rw [e1, if_neg aT, if_pos rfl]⟩)
    refine run_start (its := vs) (H := H0 cs (some (a, .frz { cls := .type "list", data := .seq vs.toArray } (.lst (ns.map V.int))))) S hobj (fun b z => ?_) (fun p hp => by rw [e1, if_pos (memT p hp)]) (fun b nb z => ?_) (fun _ => hk) hS (fun b u z => ?_) hr (fun base h1 h2 h3 h4 => hF base h1 h2 h3 h4) hb (hsp _ (fun p hp => by rw [e1, if_pos (memT p hp)]) (fun b ps z => ?_) hS)
    · by_cases hb : b ∈ cs.map (·.2)
      · exact .inr hb
      · by_cases hb2 : b = a
        · exact .inl hb2
        · exact absurd (by rw [e1, if_neg hb, if_neg hb2]) z
    · by_cases hb2 : b = a
      · exact ⟨_, _, by rw [e1, if_neg nb, if_pos hb2]⟩
      · exact absurd (by rw [e1, if_neg nb, if_neg hb2]) z
    · by_cases hb : b ∈ cs.map (·.2)
      · rw [e1, if_pos hb] at z
        cases z
        exact isT b hb
      · rw [e1, if_neg hb] at z
        by_cases hb2 : b = a
        · rw [if_pos hb2] at z
          cases z
          subst hb2
          exact ⟨hobj, by rw [List.length_map]; exact hl, vs, _, rv, hobj⟩
        · rw [if_neg hb2] at z; cases z
    · by_cases hb : b ∈ cs.map (·.2)
      · exact hb
      · rw [e1, if_neg hb] at z
        by_cases hb2 : b = a
        · rw [if_pos hb2] at z; cases z
        · rw [if_neg hb2] at z; cases z
end Bk
namespace Bk.K60
open PySem PySem.Spec PyProof.Rows L2
theorem all_h {w : World} {K : PySem.W.Frag} {h : Heap} {mg : Str → Option Value} {fa : Addr} (c : Hk.Says ck K) (X : K.In h) (G : h.Ns mainGlobals mg) (hfa : mg "law" = some (.ref fa)) (TF : TabF qv K h) :
    ∃ (fd : FuncData) (cs : List (Addr × Addr)) (TT : List (Addr × Str)), (∀ p ∈ cs, h.get? p.2 = some { cls := .none, data := .fields #[] } ∧ K.lookup p.2 = none ∧ PySem.W.CodeHd h p.1 p.2) ∧ (∀ p ∈ TT, p.1 ∈ cs.map (·.2)) ∧ (∀ (s : Shared) (v : Value), BindsTo s fd ⟨[v], []⟩ [("_law_script", v)]) ∧
      ∀ base : Heap, K.In base → base.Ns mainGlobals mg → (∀ p ∈ cs, LamX.TabB base mg p.1 p.2) → (∃ mm, base.Ns sysModules mm) → GFn (PySem.Challenge.rw_bothkept_k60_errors).prog w K mg base 2 fa fd ["_law_script"] (spD K ⟨TT, clsK K, fun k => k.hash w⟩ 1 p_law) := by
  have cA : gA K = true := Hk.okS c
  obtain ⟨z0, s0⟩ := He.ba cA
  obtain ⟨c0, r0⟩ := He.ba z0
  obtain ⟨c1, r1⟩ := He.ba r0
  obtain ⟨c2, r2⟩ := He.ba r1
  obtain ⟨z1, s1⟩ := He.ba s0
  obtain ⟨c3, r3⟩ := He.ba z1
  have ha_law_begun : PySem.W.nsIn K mainGlobals "_law_begun" = some (some (.ref (He.ga K "_law_begun"))) := He.eqO_ok (Hk.pick c0 0 rfl)
  obtain ⟨cc_law_begun, oo_law_begun, ll_law_begun, vv_law_begun, ww_law_begun, pp_law_begun, nn_law_begun, tt_law_begun, uu_law_begun, hl_law_begun, hc_law_begun⟩ := Hk.fn_ok (n := "_law_begun") (q := "_law_begun") (st := s_law_begun) (Hk.pickF c 0 rfl rfl) (Hk.pick c0 1 rfl)
  have hk_law_begun : PySem.W.keepIn K (.ref (He.ga K "_law_begun")) = true := (Hk.pick c0 2 rfl)
  have ha_law_next : PySem.W.nsIn K mainGlobals "_law_next" = some (some (.ref (He.ga K "_law_next"))) := He.eqO_ok (Hk.pick c0 3 rfl)
  obtain ⟨cc_law_next, oo_law_next, ll_law_next, vv_law_next, ww_law_next, pp_law_next, nn_law_next, tt_law_next, uu_law_next, hl_law_next, hc_law_next⟩ := Hk.fn_ok (n := "_law_next") (q := "_law_next") (st := s_law_next) (Hk.pickF c 1 rfl rfl) (Hk.pick c0 4 rfl)
  have hk_law_next : PySem.W.keepIn K (.ref (He.ga K "_law_next")) = true := (Hk.pick c0 5 rfl)
  have ha_law_kinds : PySem.W.nsIn K mainGlobals "_law_kinds" = some (some (.ref (He.ga K "_law_kinds"))) := He.eqO_ok (Hk.pick c0 6 rfl)
  obtain ⟨cc_law_kinds, oo_law_kinds, ll_law_kinds, vv_law_kinds, ww_law_kinds, pp_law_kinds, nn_law_kinds, tt_law_kinds, uu_law_kinds, hl_law_kinds, hc_law_kinds⟩ := Hk.fn_ok (n := "_law_kinds") (q := "_law_kinds") (st := s_law_kinds) (Hk.pickF c 2 rfl rfl) (Hk.pick c0 7 rfl)
  have hk_law_kinds : PySem.W.keepIn K (.ref (He.ga K "_law_kinds")) = true := (Hk.pick c0 8 rfl)
  have ha_law_fields : PySem.W.nsIn K mainGlobals "_law_fields" = some (some (.ref (He.ga K "_law_fields"))) := He.eqO_ok (Hk.pick c0 9 rfl)
  obtain ⟨cc_law_fields, oo_law_fields, ll_law_fields, vv_law_fields, ww_law_fields, pp_law_fields, nn_law_fields, tt_law_fields, uu_law_fields, hl_law_fields, hc_law_fields⟩ := Hk.fn_ok (n := "_law_fields") (q := "_law_fields") (st := s_law_fields) (Hk.pickF c 3 rfl rfl) (Hk.pick c0 10 rfl)
  have hk_law_fields : PySem.W.keepIn K (.ref (He.ga K "_law_fields")) = true := (Hk.pick c0 11 rfl)
  have ha_law : PySem.W.nsIn K mainGlobals "law" = some (some (.ref (He.ga K "law"))) := He.eqO_ok (Hk.pick c0 12 rfl)
  obtain ⟨cc_law, oo_law, ll_law, vv_law, ww_law, pp_law, nn_law, tt_law, uu_law, hl_law, hc_law⟩ := Hk.fn_ok (n := "law") (q := "law") (st := s_law) (Hk.pickF c 4 rfl rfl) (Hk.pick c0 13 rfl)
  have hk_law : PySem.W.keepIn K (.ref (He.ga K "law")) = true := (Hk.pick c0 14 rfl)
  have hn_LookupError : PySem.W.nsIn K mainGlobals "LookupError" = some none := He.eqO_ok (Hk.pick c0 15 rfl)
  have hn_OverflowError : PySem.W.nsIn K mainGlobals "OverflowError" = some none := He.eqO_ok (Hk.pick c0 16 rfl)
  have hn_ValueError : PySem.W.nsIn K mainGlobals "ValueError" = some none := He.eqO_ok (Hk.pick c0 17 rfl)
  have hn_enumerate : PySem.W.nsIn K mainGlobals "enumerate" = some none := He.eqO_ok (Hk.pick c0 18 rfl)
  have hn_int : PySem.W.nsIn K mainGlobals "int" = some none := He.eqO_ok (Hk.pick c0 19 rfl)
  have hn_isinstance : PySem.W.nsIn K mainGlobals "isinstance" = some none := He.eqO_ok (Hk.pick c0 20 rfl)
  have hn_len : PySem.W.nsIn K mainGlobals "len" = some none := He.eqO_ok (Hk.pick c0 21 rfl)
  have hn_list : PySem.W.nsIn K mainGlobals "list" = some none := He.eqO_ok (Hk.pick c0 22 rfl)
  have hn_min : PySem.W.nsIn K mainGlobals "min" = some none := He.eqO_ok (Hk.pick c0 23 rfl)
  have hn_range : PySem.W.nsIn K mainGlobals "range" = some none := He.eqO_ok (Hk.pick c0 24 rfl)
  have hn_repr : PySem.W.nsIn K mainGlobals "repr" = some none := He.eqO_ok (Hk.pick c0 25 rfl)
  have hea : eaB K kn ms fs = true := (Hk.pick c0 26 rfl)
  have hm_BadCells : nmB K "BadCells" = true := (Hk.pick c0 27 rfl)
  have hm_BadFormula : nmB K "BadFormula" = true := (Hk.pick c0 28 rfl)
  have hm_BadLevels : nmB K "BadLevels" = true := (Hk.pick c0 29 rfl)
  have hm_BadMarks : nmB K "BadMarks" = true := (Hk.pick c0 30 rfl)
  have hm_BadNode : nmB K "BadNode" = true := (Hk.pick c0 31 rfl)
  have hm_BadNumber : nmB K "BadNumber" = true := (Hk.pick c0 32 rfl)
  have hm_BadPaper : nmB K "BadPaper" = true := (Hk.pick c0 33 rfl)
  have hm_BadProgram : nmB K "BadProgram" = true := (Hk.pick c0 34 rfl)
  have hm_BadRun : nmB K "BadRun" = true := (Hk.pick c0 35 rfl)
  have hm_BadStanding : nmB K "BadStanding" = true := (Hk.pick c0 36 rfl)
  have hm_BadText : nmB K "BadText" = true := (Hk.pick c0 37 rfl)
  have hm_BadWeaving : nmB K "BadWeaving" = true := (Hk.pick c0 38 rfl)
  have hm_KeptError : nmB K "KeptError" = true := (Hk.pick c0 39 rfl)
  have hm_Missing : nmB K "Missing" = true := (Hk.pick c1 0 rfl)
  have hm_TooMany : nmB K "TooMany" = true := (Hk.pick c1 1 rfl)
  have hm_Twice : nmB K "Twice" = true := (Hk.pick c1 2 rfl)
  have e1_BadCells : PySem.W.nsIn K mainGlobals "BadCells" = some (some (.ref (He.ga K "BadCells"))) := He.eqO_ok (Hk.pick c1 3 rfl)
  have e2_BadCells : exB K (He.ga K "BadCells") "place" "ValueError" "ValueError.__new__" "ValueError.__init__" [.type "ValueError", .type "Exception", .type "BaseException", .type "object"] = true := (Hk.pick c1 4 rfl)
  have e3_BadCells : PySem.W.findIn K (.ref (He.ga K "BadCells")) "__init__" = some (some (.ref (He.ma K (He.ga K "BadCells") "__init__"))) := He.eqO_ok (Hk.pick c1 5 rfl)
  have e4_BadCells : PySem.W.isFn K (.ref (He.ma K (He.ga K "BadCells") "__init__")) = true := (Hk.pick c1 6 rfl)
  obtain ⟨BadCells_oc, BadCells_od, BadCells_osl, BadCells_q, BadCells_kV, BadCells_doc, BadCells_pm, BadCells_an, BadCells_cda, BadCells_ct, BadCells_cc, BadCells_ccl, BadCells_cdd, BadCells_vs, BadCells_ccs, BadCells_file, BadCells_tf, BadCells_cl, BadCells_cld, BadCells_csl, e5_BadCells, e6_BadCells, e7_BadCells, e8_BadCells, e9_BadCells, e10_BadCells⟩ := Hk.xi_ok (st := i_BadCells) (Hk.pickF c 5 rfl rfl) (Hk.pick c1 7 rfl)
  have e1_BadFormula : PySem.W.nsIn K mainGlobals "BadFormula" = some (some (.ref (He.ga K "BadFormula"))) := He.eqO_ok (Hk.pick c1 8 rfl)
  have e2_BadFormula : exB K (He.ga K "BadFormula") "place" "ValueError" "ValueError.__new__" "ValueError.__init__" [.type "ValueError", .type "Exception", .type "BaseException", .type "object"] = true := (Hk.pick c1 9 rfl)
  have e3_BadFormula : PySem.W.findIn K (.ref (He.ga K "BadFormula")) "__init__" = some (some (.ref (He.ma K (He.ga K "BadFormula") "__init__"))) := He.eqO_ok (Hk.pick c1 10 rfl)
  have e4_BadFormula : PySem.W.isFn K (.ref (He.ma K (He.ga K "BadFormula") "__init__")) = true := (Hk.pick c1 11 rfl)
  obtain ⟨BadFormula_oc, BadFormula_od, BadFormula_osl, BadFormula_q, BadFormula_kV, BadFormula_doc, BadFormula_pm, BadFormula_an, BadFormula_cda, BadFormula_ct, BadFormula_cc, BadFormula_ccl, BadFormula_cdd, BadFormula_vs, BadFormula_ccs, BadFormula_file, BadFormula_tf, BadFormula_cl, BadFormula_cld, BadFormula_csl, e5_BadFormula, e6_BadFormula, e7_BadFormula, e8_BadFormula, e9_BadFormula, e10_BadFormula⟩ := Hk.xi_ok (st := i_BadFormula) (Hk.pickF c 6 rfl rfl) (Hk.pick c1 12 rfl)
  have e1_BadLevels : PySem.W.nsIn K mainGlobals "BadLevels" = some (some (.ref (He.ga K "BadLevels"))) := He.eqO_ok (Hk.pick c1 13 rfl)
  have e2_BadLevels : exB K (He.ga K "BadLevels") "name" "ValueError" "ValueError.__new__" "ValueError.__init__" [.type "ValueError", .type "Exception", .type "BaseException", .type "object"] = true := (Hk.pick c1 14 rfl)
  have e3_BadLevels : PySem.W.findIn K (.ref (He.ga K "BadLevels")) "__init__" = some (some (.ref (He.ma K (He.ga K "BadLevels") "__init__"))) := He.eqO_ok (Hk.pick c1 15 rfl)
  have e4_BadLevels : PySem.W.isFn K (.ref (He.ma K (He.ga K "BadLevels") "__init__")) = true := (Hk.pick c1 16 rfl)
  obtain ⟨BadLevels_oc, BadLevels_od, BadLevels_osl, BadLevels_q, BadLevels_kV, BadLevels_doc, BadLevels_pm, BadLevels_an, BadLevels_cda, BadLevels_ct, BadLevels_cc, BadLevels_ccl, BadLevels_cdd, BadLevels_vs, BadLevels_ccs, BadLevels_file, BadLevels_tf, BadLevels_cl, BadLevels_cld, BadLevels_csl, e5_BadLevels, e6_BadLevels, e7_BadLevels, e8_BadLevels, e9_BadLevels, e10_BadLevels⟩ := Hk.xi_ok (st := i_BadLevels) (Hk.pickF c 7 rfl rfl) (Hk.pick c1 17 rfl)
  have e1_BadMarks : PySem.W.nsIn K mainGlobals "BadMarks" = some (some (.ref (He.ga K "BadMarks"))) := He.eqO_ok (Hk.pick c1 18 rfl)
  have e2_BadMarks : exB K (He.ga K "BadMarks") "place" "ValueError" "ValueError.__new__" "ValueError.__init__" [.type "ValueError", .type "Exception", .type "BaseException", .type "object"] = true := (Hk.pick c1 19 rfl)
  have e3_BadMarks : PySem.W.findIn K (.ref (He.ga K "BadMarks")) "__init__" = some (some (.ref (He.ma K (He.ga K "BadMarks") "__init__"))) := He.eqO_ok (Hk.pick c1 20 rfl)
  have e4_BadMarks : PySem.W.isFn K (.ref (He.ma K (He.ga K "BadMarks") "__init__")) = true := (Hk.pick c1 21 rfl)
  obtain ⟨BadMarks_oc, BadMarks_od, BadMarks_osl, BadMarks_q, BadMarks_kV, BadMarks_doc, BadMarks_pm, BadMarks_an, BadMarks_cda, BadMarks_ct, BadMarks_cc, BadMarks_ccl, BadMarks_cdd, BadMarks_vs, BadMarks_ccs, BadMarks_file, BadMarks_tf, BadMarks_cl, BadMarks_cld, BadMarks_csl, e5_BadMarks, e6_BadMarks, e7_BadMarks, e8_BadMarks, e9_BadMarks, e10_BadMarks⟩ := Hk.xi_ok (st := i_BadMarks) (Hk.pickF c 8 rfl rfl) (Hk.pick c1 22 rfl)
  have e1_BadNode : PySem.W.nsIn K mainGlobals "BadNode" = some (some (.ref (He.ga K "BadNode"))) := He.eqO_ok (Hk.pick c1 23 rfl)
  have e2_BadNode : exB K (He.ga K "BadNode") "place" "ValueError" "ValueError.__new__" "ValueError.__init__" [.type "ValueError", .type "Exception", .type "BaseException", .type "object"] = true := (Hk.pick c1 24 rfl)
  have e3_BadNode : PySem.W.findIn K (.ref (He.ga K "BadNode")) "__init__" = some (some (.ref (He.ma K (He.ga K "BadNode") "__init__"))) := He.eqO_ok (Hk.pick c1 25 rfl)
  have e4_BadNode : PySem.W.isFn K (.ref (He.ma K (He.ga K "BadNode") "__init__")) = true := (Hk.pick c1 26 rfl)
  obtain ⟨BadNode_oc, BadNode_od, BadNode_osl, BadNode_q, BadNode_kV, BadNode_doc, BadNode_pm, BadNode_an, BadNode_cda, BadNode_ct, BadNode_cc, BadNode_ccl, BadNode_cdd, BadNode_vs, BadNode_ccs, BadNode_file, BadNode_tf, BadNode_cl, BadNode_cld, BadNode_csl, e5_BadNode, e6_BadNode, e7_BadNode, e8_BadNode, e9_BadNode, e10_BadNode⟩ := Hk.xi_ok (st := i_BadNode) (Hk.pickF c 9 rfl rfl) (Hk.pick c1 27 rfl)
  have e1_BadNumber : PySem.W.nsIn K mainGlobals "BadNumber" = some (some (.ref (He.ga K "BadNumber"))) := He.eqO_ok (Hk.pick c1 28 rfl)
  have e2_BadNumber : exB K (He.ga K "BadNumber") "value" "ValueError" "ValueError.__new__" "ValueError.__init__" [.type "ValueError", .type "Exception", .type "BaseException", .type "object"] = true := (Hk.pick c1 29 rfl)
  have e3_BadNumber : PySem.W.findIn K (.ref (He.ga K "BadNumber")) "__init__" = some (some (.ref (He.ma K (He.ga K "BadNumber") "__init__"))) := He.eqO_ok (Hk.pick c1 30 rfl)
  have e4_BadNumber : PySem.W.isFn K (.ref (He.ma K (He.ga K "BadNumber") "__init__")) = true := (Hk.pick c1 31 rfl)
  obtain ⟨BadNumber_oc, BadNumber_od, BadNumber_osl, BadNumber_q, BadNumber_kV, BadNumber_doc, BadNumber_pm, BadNumber_an, BadNumber_cda, BadNumber_ct, BadNumber_cc, BadNumber_ccl, BadNumber_cdd, BadNumber_vs, BadNumber_ccs, BadNumber_file, BadNumber_tf, BadNumber_cl, BadNumber_cld, BadNumber_csl, e5_BadNumber, e6_BadNumber, e7_BadNumber, e8_BadNumber, e9_BadNumber, e10_BadNumber⟩ := Hk.xi_ok (st := i_BadNumber) (Hk.pickF c 10 rfl rfl) (Hk.pick c1 32 rfl)
  have e1_BadPaper : PySem.W.nsIn K mainGlobals "BadPaper" = some (some (.ref (He.ga K "BadPaper"))) := He.eqO_ok (Hk.pick c1 33 rfl)
  have e2_BadPaper : exB K (He.ga K "BadPaper") "place" "ValueError" "ValueError.__new__" "ValueError.__init__" [.type "ValueError", .type "Exception", .type "BaseException", .type "object"] = true := (Hk.pick c1 34 rfl)
  have e3_BadPaper : PySem.W.findIn K (.ref (He.ga K "BadPaper")) "__init__" = some (some (.ref (He.ma K (He.ga K "BadPaper") "__init__"))) := He.eqO_ok (Hk.pick c1 35 rfl)
  have e4_BadPaper : PySem.W.isFn K (.ref (He.ma K (He.ga K "BadPaper") "__init__")) = true := (Hk.pick c1 36 rfl)
  obtain ⟨BadPaper_oc, BadPaper_od, BadPaper_osl, BadPaper_q, BadPaper_kV, BadPaper_doc, BadPaper_pm, BadPaper_an, BadPaper_cda, BadPaper_ct, BadPaper_cc, BadPaper_ccl, BadPaper_cdd, BadPaper_vs, BadPaper_ccs, BadPaper_file, BadPaper_tf, BadPaper_cl, BadPaper_cld, BadPaper_csl, e5_BadPaper, e6_BadPaper, e7_BadPaper, e8_BadPaper, e9_BadPaper, e10_BadPaper⟩ := Hk.xi_ok (st := i_BadPaper) (Hk.pickF c 11 rfl rfl) (Hk.pick c1 37 rfl)
  have e1_BadProgram : PySem.W.nsIn K mainGlobals "BadProgram" = some (some (.ref (He.ga K "BadProgram"))) := He.eqO_ok (Hk.pick c1 38 rfl)
  have e2_BadProgram : exB K (He.ga K "BadProgram") "place" "ValueError" "ValueError.__new__" "ValueError.__init__" [.type "ValueError", .type "Exception", .type "BaseException", .type "object"] = true := (Hk.pick c1 39 rfl)
  have e3_BadProgram : PySem.W.findIn K (.ref (He.ga K "BadProgram")) "__init__" = some (some (.ref (He.ma K (He.ga K "BadProgram") "__init__"))) := He.eqO_ok (Hk.pick c2 0 rfl)
  have e4_BadProgram : PySem.W.isFn K (.ref (He.ma K (He.ga K "BadProgram") "__init__")) = true := (Hk.pick c2 1 rfl)
  obtain ⟨BadProgram_oc, BadProgram_od, BadProgram_osl, BadProgram_q, BadProgram_kV, BadProgram_doc, BadProgram_pm, BadProgram_an, BadProgram_cda, BadProgram_ct, BadProgram_cc, BadProgram_ccl, BadProgram_cdd, BadProgram_vs, BadProgram_ccs, BadProgram_file, BadProgram_tf, BadProgram_cl, BadProgram_cld, BadProgram_csl, e5_BadProgram, e6_BadProgram, e7_BadProgram, e8_BadProgram, e9_BadProgram, e10_BadProgram⟩ := Hk.xi_ok (st := i_BadProgram) (Hk.pickF c 12 rfl rfl) (Hk.pick c2 2 rfl)
  have e1_BadRun : PySem.W.nsIn K mainGlobals "BadRun" = some (some (.ref (He.ga K "BadRun"))) := He.eqO_ok (Hk.pick c2 3 rfl)
  have e2_BadRun : exB K (He.ga K "BadRun") "number" "ValueError" "ValueError.__new__" "ValueError.__init__" [.type "ValueError", .type "Exception", .type "BaseException", .type "object"] = true := (Hk.pick c2 4 rfl)
  have e3_BadRun : PySem.W.findIn K (.ref (He.ga K "BadRun")) "__init__" = some (some (.ref (He.ma K (He.ga K "BadRun") "__init__"))) := He.eqO_ok (Hk.pick c2 5 rfl)
  have e4_BadRun : PySem.W.isFn K (.ref (He.ma K (He.ga K "BadRun") "__init__")) = true := (Hk.pick c2 6 rfl)
  obtain ⟨BadRun_oc, BadRun_od, BadRun_osl, BadRun_q, BadRun_kV, BadRun_doc, BadRun_pm, BadRun_an, BadRun_cda, BadRun_ct, BadRun_cc, BadRun_ccl, BadRun_cdd, BadRun_vs, BadRun_ccs, BadRun_file, BadRun_tf, BadRun_cl, BadRun_cld, BadRun_csl, e5_BadRun, e6_BadRun, e7_BadRun, e8_BadRun, e9_BadRun, e10_BadRun⟩ := Hk.xi_ok (st := i_BadRun) (Hk.pickF c 13 rfl rfl) (Hk.pick c2 7 rfl)
  have e1_BadStanding : PySem.W.nsIn K mainGlobals "BadStanding" = some (some (.ref (He.ga K "BadStanding"))) := He.eqO_ok (Hk.pick c2 8 rfl)
  have e2_BadStanding : exB K (He.ga K "BadStanding") "value" "ValueError" "ValueError.__new__" "ValueError.__init__" [.type "ValueError", .type "Exception", .type "BaseException", .type "object"] = true := (Hk.pick c2 9 rfl)
  have e3_BadStanding : PySem.W.findIn K (.ref (He.ga K "BadStanding")) "__init__" = some (some (.ref (He.ma K (He.ga K "BadStanding") "__init__"))) := He.eqO_ok (Hk.pick c2 10 rfl)
  have e4_BadStanding : PySem.W.isFn K (.ref (He.ma K (He.ga K "BadStanding") "__init__")) = true := (Hk.pick c2 11 rfl)
  obtain ⟨BadStanding_oc, BadStanding_od, BadStanding_osl, BadStanding_q, BadStanding_kV, BadStanding_doc, BadStanding_pm, BadStanding_an, BadStanding_cda, BadStanding_ct, BadStanding_cc, BadStanding_ccl, BadStanding_cdd, BadStanding_vs, BadStanding_ccs, BadStanding_file, BadStanding_tf, BadStanding_cl, BadStanding_cld, BadStanding_csl, e5_BadStanding, e6_BadStanding, e7_BadStanding, e8_BadStanding, e9_BadStanding, e10_BadStanding⟩ := Hk.xi_ok (st := i_BadStanding) (Hk.pickF c 14 rfl rfl) (Hk.pick c2 12 rfl)
  have e1_BadText : PySem.W.nsIn K mainGlobals "BadText" = some (some (.ref (He.ga K "BadText"))) := He.eqO_ok (Hk.pick c2 13 rfl)
  have e2_BadText : exB K (He.ga K "BadText") "line" "ValueError" "ValueError.__new__" "ValueError.__init__" [.type "ValueError", .type "Exception", .type "BaseException", .type "object"] = true := (Hk.pick c2 14 rfl)
  have e3_BadText : PySem.W.findIn K (.ref (He.ga K "BadText")) "__init__" = some (some (.ref (He.ma K (He.ga K "BadText") "__init__"))) := He.eqO_ok (Hk.pick c2 15 rfl)
  have e4_BadText : PySem.W.isFn K (.ref (He.ma K (He.ga K "BadText") "__init__")) = true := (Hk.pick c2 16 rfl)
  obtain ⟨BadText_oc, BadText_od, BadText_osl, BadText_q, BadText_kV, BadText_doc, BadText_pm, BadText_an, BadText_cda, BadText_ct, BadText_cc, BadText_ccl, BadText_cdd, BadText_vs, BadText_ccs, BadText_file, BadText_tf, BadText_cl, BadText_cld, BadText_csl, e5_BadText, e6_BadText, e7_BadText, e8_BadText, e9_BadText, e10_BadText⟩ := Hk.xi_ok (st := i_BadText) (Hk.pickF c 15 rfl rfl) (Hk.pick c2 17 rfl)
  have e1_BadWeaving : PySem.W.nsIn K mainGlobals "BadWeaving" = some (some (.ref (He.ga K "BadWeaving"))) := He.eqO_ok (Hk.pick c2 18 rfl)
  have e2_BadWeaving : exB K (He.ga K "BadWeaving") "place" "ValueError" "ValueError.__new__" "ValueError.__init__" [.type "ValueError", .type "Exception", .type "BaseException", .type "object"] = true := (Hk.pick c2 19 rfl)
  have e3_BadWeaving : PySem.W.findIn K (.ref (He.ga K "BadWeaving")) "__init__" = some (some (.ref (He.ma K (He.ga K "BadWeaving") "__init__"))) := He.eqO_ok (Hk.pick c2 20 rfl)
  have e4_BadWeaving : PySem.W.isFn K (.ref (He.ma K (He.ga K "BadWeaving") "__init__")) = true := (Hk.pick c2 21 rfl)
  obtain ⟨BadWeaving_oc, BadWeaving_od, BadWeaving_osl, BadWeaving_q, BadWeaving_kV, BadWeaving_doc, BadWeaving_pm, BadWeaving_an, BadWeaving_cda, BadWeaving_ct, BadWeaving_cc, BadWeaving_ccl, BadWeaving_cdd, BadWeaving_vs, BadWeaving_ccs, BadWeaving_file, BadWeaving_tf, BadWeaving_cl, BadWeaving_cld, BadWeaving_csl, e5_BadWeaving, e6_BadWeaving, e7_BadWeaving, e8_BadWeaving, e9_BadWeaving, e10_BadWeaving⟩ := Hk.xi_ok (st := i_BadWeaving) (Hk.pickF c 16 rfl rfl) (Hk.pick c2 22 rfl)
  have e1_Missing : PySem.W.nsIn K mainGlobals "Missing" = some (some (.ref (He.ga K "Missing"))) := He.eqO_ok (Hk.pick c2 23 rfl)
  have e2_Missing : exB K (He.ga K "Missing") "name" "LookupError" "LookupError.__new__" "LookupError.__init__" [.type "LookupError", .type "Exception", .type "BaseException", .type "object"] = true := (Hk.pick c2 24 rfl)
  have e3_Missing : PySem.W.findIn K (.ref (He.ga K "Missing")) "__init__" = some (some (.ref (He.ma K (He.ga K "Missing") "__init__"))) := He.eqO_ok (Hk.pick c2 25 rfl)
  have e4_Missing : PySem.W.isFn K (.ref (He.ma K (He.ga K "Missing") "__init__")) = true := (Hk.pick c2 26 rfl)
  obtain ⟨Missing_oc, Missing_od, Missing_osl, Missing_q, Missing_kV, Missing_doc, Missing_pm, Missing_an, Missing_cda, Missing_ct, Missing_cc, Missing_ccl, Missing_cdd, Missing_vs, Missing_ccs, Missing_file, Missing_tf, Missing_cl, Missing_cld, Missing_csl, e5_Missing, e6_Missing, e7_Missing, e8_Missing, e9_Missing, e10_Missing⟩ := Hk.xi_ok (st := i_Missing) (Hk.pickF c 17 rfl rfl) (Hk.pick c2 27 rfl)
  have e1_TooMany : PySem.W.nsIn K mainGlobals "TooMany" = some (some (.ref (He.ga K "TooMany"))) := He.eqO_ok (Hk.pick c2 28 rfl)
  have e2_TooMany : exB K (He.ga K "TooMany") "most" "OverflowError" "OverflowError.__new__" "OverflowError.__init__" [.type "OverflowError", .type "ArithmeticError", .type "Exception", .type "BaseException", .type "object"] = true := (Hk.pick c2 29 rfl)
  have e3_TooMany : PySem.W.findIn K (.ref (He.ga K "TooMany")) "__init__" = some (some (.ref (He.ma K (He.ga K "TooMany") "__init__"))) := He.eqO_ok (Hk.pick c2 30 rfl)
  have e4_TooMany : PySem.W.isFn K (.ref (He.ma K (He.ga K "TooMany") "__init__")) = true := (Hk.pick c2 31 rfl)
  obtain ⟨TooMany_oc, TooMany_od, TooMany_osl, TooMany_q, TooMany_kV, TooMany_doc, TooMany_pm, TooMany_an, TooMany_cda, TooMany_ct, TooMany_cc, TooMany_ccl, TooMany_cdd, TooMany_vs, TooMany_ccs, TooMany_file, TooMany_tf, TooMany_cl, TooMany_cld, TooMany_csl, e5_TooMany, e6_TooMany, e7_TooMany, e8_TooMany, e9_TooMany, e10_TooMany⟩ := Hk.xi_ok (st := i_TooMany) (Hk.pickF c 18 rfl rfl) (Hk.pick c2 32 rfl)
  have e1_Twice : PySem.W.nsIn K mainGlobals "Twice" = some (some (.ref (He.ga K "Twice"))) := He.eqO_ok (Hk.pick c2 33 rfl)
  have e2_Twice : exB K (He.ga K "Twice") "name" "ValueError" "ValueError.__new__" "ValueError.__init__" [.type "ValueError", .type "Exception", .type "BaseException", .type "object"] = true := (Hk.pick c2 34 rfl)
  have e3_Twice : PySem.W.findIn K (.ref (He.ga K "Twice")) "__init__" = some (some (.ref (He.ma K (He.ga K "Twice") "__init__"))) := He.eqO_ok (Hk.pick c2 35 rfl)
  have e4_Twice : PySem.W.isFn K (.ref (He.ma K (He.ga K "Twice") "__init__")) = true := (Hk.pick c2 36 rfl)
  obtain ⟨Twice_oc, Twice_od, Twice_osl, Twice_q, Twice_kV, Twice_doc, Twice_pm, Twice_an, Twice_cda, Twice_ct, Twice_cc, Twice_ccl, Twice_cdd, Twice_vs, Twice_ccs, Twice_file, Twice_tf, Twice_cl, Twice_cld, Twice_csl, e5_Twice, e6_Twice, e7_Twice, e8_Twice, e9_Twice, e10_Twice⟩ := Hk.xi_ok (st := i_Twice) (Hk.pickF c 19 rfl rfl) (Hk.pick c2 37 rfl)
  have j1_KeptError : PySem.W.nsIn K mainGlobals "KeptError" = some (some (.ref (He.ga K "KeptError"))) := He.eqO_ok (Hk.pick c2 38 rfl)
  have j2_KeptError : nclsB K (He.ga K "KeptError") "ValueError" true = true := (Hk.pick c2 39 rfl)
  have heb : ebB K kn bs = true := (Hk.pick c3 0 rfl)
  exact all_mk (l := PySem.Challenge.rw_bothkept_k60_errors) X G hfa TF ha_law_begun hl_law_begun hc_law_begun hk_law_begun ha_law_next hl_law_next hc_law_next hk_law_next ha_law_kinds hl_law_kinds hc_law_kinds hk_law_kinds ha_law_fields hl_law_fields hc_law_fields hk_law_fields ha_law hl_law hc_law hk_law hn_LookupError hn_OverflowError hn_ValueError hn_enumerate hn_int hn_isinstance hn_len hn_list hn_min hn_range hn_repr hea hm_BadCells hm_BadFormula hm_BadLevels hm_BadMarks hm_BadNode hm_BadNumber hm_BadPaper hm_BadProgram hm_BadRun hm_BadStanding hm_BadText hm_BadWeaving hm_KeptError hm_Missing hm_TooMany hm_Twice e1_BadCells e2_BadCells e3_BadCells e4_BadCells e5_BadCells e6_BadCells e7_BadCells e8_BadCells e9_BadCells e10_BadCells e1_BadFormula e2_BadFormula e3_BadFormula e4_BadFormula e5_BadFormula e6_BadFormula e7_BadFormula e8_BadFormula e9_BadFormula e10_BadFormula e1_BadLevels e2_BadLevels e3_BadLevels e4_BadLevels e5_BadLevels e6_BadLevels e7_BadLevels e8_BadLevels e9_BadLevels e10_BadLevels e1_BadMarks e2_BadMarks e3_BadMarks e4_BadMarks e5_BadMarks e6_BadMarks e7_BadMarks e8_BadMarks e9_BadMarks e10_BadMarks e1_BadNode e2_BadNode e3_BadNode e4_BadNode e5_BadNode e6_BadNode e7_BadNode e8_BadNode e9_BadNode e10_BadNode e1_BadNumber e2_BadNumber e3_BadNumber e4_BadNumber e5_BadNumber e6_BadNumber e7_BadNumber e8_BadNumber e9_BadNumber e10_BadNumber e1_BadPaper e2_BadPaper e3_BadPaper e4_BadPaper e5_BadPaper e6_BadPaper e7_BadPaper e8_BadPaper e9_BadPaper e10_BadPaper e1_BadProgram e2_BadProgram e3_BadProgram e4_BadProgram e5_BadProgram e6_BadProgram e7_BadProgram e8_BadProgram e9_BadProgram e10_BadProgram e1_BadRun e2_BadRun e3_BadRun e4_BadRun e5_BadRun e6_BadRun e7_BadRun e8_BadRun e9_BadRun e10_BadRun e1_BadStanding e2_BadStanding e3_BadStanding e4_BadStanding e5_BadStanding e6_BadStanding e7_BadStanding e8_BadStanding e9_BadStanding e10_BadStanding e1_BadText e2_BadText e3_BadText e4_BadText e5_BadText e6_BadText e7_BadText e8_BadText e9_BadText e10_BadText e1_BadWeaving e2_BadWeaving e3_BadWeaving e4_BadWeaving e5_BadWeaving e6_BadWeaving e7_BadWeaving e8_BadWeaving e9_BadWeaving e10_BadWeaving e1_Missing e2_Missing e3_Missing e4_Missing e5_Missing e6_Missing e7_Missing e8_Missing e9_Missing e10_Missing e1_TooMany e2_TooMany e3_TooMany e4_TooMany e5_TooMany e6_TooMany e7_TooMany e8_TooMany e9_TooMany e10_TooMany e1_Twice e2_Twice e3_Twice e4_Twice e5_Twice e6_Twice e7_Twice e8_Twice e9_Twice e10_Twice j1_KeptError j2_KeptError heb rfl
end Bk.K60
open PySem PySem.W PyProof.Rows
theorem PySem.Challenge.cw_bothkept_k60_errors_holds : PySem.Challenge.rw_bothkept_k60_errors.Holds := by
  w_on; o_law
  refine HandSHeadRun.head_any (r := Bk.K60.RR) (q := Bk.K60.qv) (H := Hk.hook Bk.K60.ck Bk.K60.xs 7) (ob := Hk.ob Bk.K60.ck Bk.K60.xs 7) (M := 12000) (loose := Bk.K60.nm) (d := HandSHeadRun.topDef Bk.K60.RR.prog 22) (kwd := [])
    (Hk.ob_eq _ _ _) Bk.K60.p_e Bk.K60.p_f Bk.K60.run Bk.K60.p_d Bk.K60.p_p (by kernel_rfl) Bk.K60.p_k
    (by first | assumption | decide +kernel) (by decide +kernel) Bk.K60.p_b ?hw ?hc
  case hw => w_witness2
  case hc =>
    refine Bk.walk_ofH (l := PySem.Challenge.rw_bothkept_k60_errors) (n := 63) (k := 2) (x := "_law_script") (phi := Bk.K60.p_law) (SK := fun _ K => Hk.Says Bk.K60.ck K)
      rfl (by decide) (by kernel_rfl) ⟨rfl, by decide, by decide⟩ (fun _ _ Y => Y) (by kernel_rfl) ?F (fun ns R E hl h => ⟨ns, rfl, hl, rfl, h⟩)
    intro w K mg fa h c KX G hmg TF
    have e : (HandSHeadRun.topDef Bk.K60.RR.prog 22).name = ("law" : PySem.Str) := by kernel_rfl
    obtain ⟨fd, cs, TT, r⟩ := Bk.K60.all_h c KX G (by rw [← e]; exact hmg) TF
    exact ⟨fd, cs, TT, _, r⟩
