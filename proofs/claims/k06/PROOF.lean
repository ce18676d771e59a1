import PyProof.Rows.All
import Wide.All
import OpenK.AllK
import Wide.FinOn
import HandS.ForMost
import HandS.Wide
import HandS.Style
import HandS.Flow
import HandS.Zip
import HandS.Lambda
import KE.SortKeyHeap
import KE.KeyNested
import PyProof.DictFindH
import HandS.TupAny
import HandS.Deep
import HandS.IsInst
import KE.DataCmp
import HandS.EndTab
import HandS.Conv
import HandS.DictComp
import KE.KNestM
import HandS.Flt
import HandS.Text
import HandS.TupMul
import HandS.Exc
import HandS.ExcOwn
import HandS.WordsExc
import HandS.ExcInit
import HandS.ExcField
import HandS.TryOnly
import HandS.MakeKwOnly
import HandS.Property
import HandS.FStrTup
import HandS.RaiseMore
import PyProof.ReprDict
import KE.KRevSl
import KE.KMethU
import HandS.CallSlots
import HandS.Nested
import HandS.ListItems
import KE.GoesEnum
import PyProof.DictMoreH
import KE.KDictWalk
import HandS.Iter
import HandS.Star
import PyProof.CollectIter
import KE.KDictKeyed
import KE.KMinKey
import HandS.ExcIs
import HandS.ExcValue
import HandS.DeepEq
import OpenK.KMeth
import OpenK.KOps
import KE.KCallOwn
import PyProof.ReprRoads
import KE.KEqDict
import PyProof.InstNe
import PySem.Challenge.RW_kindgrove_k06_equal_grids
set_option Elab.async false
set_option linter.all false
set_option maxRecDepth 100000
set_option maxHeartbeats 4000000
set_option exponentiation.threshold 1000
/-! DW: a calculus over values: tuples by value, changing objects in a list of (address, content). Every rule is drawn from the hand layer's. -/
namespace G
open PySem L2
/-- a lambda, by its words; fr: the names that it takes from outside -/
structure Lamb where
  qual : Str
  params : Arguments
  body : Expr
  scope : Scope
  fr : List Str
inductive DV where
  | non | bl (b : Bool) | int (i : Int) | str (x : Str) | ty (n : String) | ref (a : Addr) | tup (ds : List DV)
  /-- a list that nobody changes, by value -/
  | lis (ds : List DV)
  /-- a tuple of which we know where it stands -/
  | tupA (a : Addr) (ds : List DV)
  /-- a lambda made by a frame that may still run, with its cells -/
  | lam (L : Lamb) (cl : List (Str × Addr))
  /-- a lambda whose cells nobody changes: what they hold -/
  | clo (L : Lamb) (ds : List DV)
/-- a thing that is known to the object, and stays -/
def PinO (a : Addr) (o : Obj) : HO := .frz o (.ext fun h => h.get? a = some o)
abbrev lamObj (L : Lamb) (cl : List (Str × Addr)) (pm : Value) (c : Addr) (ctv : Value) : Obj := PySem.W.kla_obj "<lambda>" L.qual L.params L.body L.scope cl pm c ctv
def LamH (H : Hp) (f : Addr) (L : Lamb) (cl : List (Str × Addr)) : Prop := ∃ pm c ctv, H f = some (PinO f (lamObj L cl pm c ctv)) ∧ H c = some (LamX.CodeO c L.qual)
def CloH (H : Hp) (f : Addr) (L : Lamb) (vs : List V) : Prop := ∃ cl, LamH H f L cl ∧ vs.length = L.fr.length ∧ (∀ x y c, cl.lookup x = some c → cl.lookup y = some c → x = y) ∧ (∀ y c, cl.lookup y = some c → y ∈ L.fr) ∧
  ∀ (i : Nat) (y : Str), L.fr[i]? = some y → ∃ c oc v u, cl.lookup y = some c ∧ H c = some (PinO c oc) ∧ oc.data = .cell (some u) ∧ vs[i]? = some v ∧ RelV v u
abbrev Fg := PySem.W.Frag
/-- a list that is locked, or the module's own -/
def FrzL (K : Fg) (H : Hp) (a : Addr) (xs : List V) : Prop := (∃ o, H a = some (.frz o (.lst xs))) ∨ ∃ (o : Obj) (its : Array Value) (n : Nat), K.lookup a = some o ∧ o.cls = .type "list" ∧ o.dict = none ∧ o.data = .seq its n ∧ its.size ≤ sizeLine ∧ Vals xs its.toList
theorem FrzL.sq {K : Fg} {H : Hp} {a : Addr} {xs : List V} (h : FrzL K H a xs) : SqL K H a xs := h.elim (fun ⟨o, e⟩ => .inl (.inr ⟨o, e⟩)) .inr
mutual
inductive RD (K : Fg) (H : Hp) : DV → V → Prop
  | non : RD K H .non .non
  | bl (b : Bool) : RD K H (.bl b) (.bl b)
  | int (i : Int) : RD K H (.int i) (.int i)
  | str (x : Str) : RD K H (.str x) (.str x)
  | ty (n : String) : RD K H (.ty n) (.ty n)
  | ref (a : Addr) : RD K H (.ref a) (.ref a)
  | tup {a : Addr} {vs : List V} {ds : List DV} : SqT K H a vs → RDs K H ds vs → RD K H (.tup ds) (.ref a)
  | lis {a : Addr} {vs : List V} {ds : List DV} : FrzL K H a vs → RDs K H ds vs → RD K H (.lis ds) (.ref a)
  | tupA {a : Addr} {vs : List V} {ds : List DV} : SqT K H a vs → RDs K H ds vs → RD K H (.tupA a ds) (.ref a)
  | lam {f : Addr} {L : Lamb} {cl : List (Str × Addr)} : LamH H f L cl → RD K H (.lam L cl) (.ref f)
  | clo {f : Addr} {L : Lamb} {vs : List V} {ds : List DV} : CloH H f L vs → RDs K H ds vs → RD K H (.clo L ds) (.ref f)
inductive RDs (K : Fg) (H : Hp) : List DV → List V → Prop
  | nil : RDs K H [] []
  | cons {d : DV} {ds : List DV} {v : V} {vs : List V} : RD K H d v → RDs K H ds vs → RDs K H (d :: ds) (v :: vs)
end
/-- tuples and locked things stay -/
structure Stay (K : Fg) (H H' : Hp) : Prop where
  tup : ∀ a xs, H a = some (.tup xs) → H' a = some (.tup xs)
  frz : ∀ a o u, H a = some (.frz o u) → H' a = some (.frz o u)
  cod : ∀ a q, H a = some (LamX.CodeO a q) → H' a = some (LamX.CodeO a q)
  xd : ∀ a fs, H a = some (.xd fs) → H' a = some (.xd fs)
/-- an object that may be written -/
def Wr (H : Hp) (p : Addr) : Prop := Mut (H p) ∧ ∀ q, H p ≠ some (LamX.CodeO p q)
theorem wr_lst {H : Hp} {p : Addr} {xs : List V} (h : H p = some (.lst xs)) : Wr H p := ⟨by rw [h]; trivial, fun q z => by rw [h] at z; unfold LamX.CodeO at z; cases z⟩
theorem wr_ins {H : Hp} {p C dx : Addr} {fs : List (Str × V)} (h : H p = some (.ins C dx fs)) : Wr H p := ⟨by rw [h]; trivial, fun q z => by rw [h] at z; unfold LamX.CodeO at z; cases z⟩
theorem wr_dk {H : Hp} {p : Addr} {kvs : List (Key × V)} (h : H p = some (.dK kvs)) : Wr H p := ⟨by rw [h]; trivial, fun q z => by rw [h] at z; unfold LamX.CodeO at z; cases z⟩
theorem Stay.refl {K : Fg} {H : Hp} : Stay K H H := ⟨fun _ _ h => h, fun _ _ _ h => h, fun _ _ h => h, fun _ _ h => h⟩
theorem Stay.trans {K : Fg} {H H1 H2 : Hp} (a : Stay K H H1) (b : Stay K H1 H2) : Stay K H H2 := ⟨fun x o h => b.tup x o (a.tup x o h), fun x o u h => b.frz x o u (a.frz x o u h), fun x q h => b.cod x q (a.cod x q h), fun x q h => b.xd x q (a.xd x q h)⟩
theorem Stay.sqt {K : Fg} {H H' : Hp} (s : Stay K H H') {a : Addr} {xs : List V} (h : SqT K H a xs) : SqT K H' a xs := by
  rcases h with (h | ⟨o, h⟩) | h
  · exact .inl (.inl (s.tup _ _ h))
  · exact .inl (.inr ⟨o, s.frz _ _ _ h⟩)
  · exact .inr h
theorem Stay.new {K : Fg} {H : Hp} {p : Addr} {o : HO} (h : H p = none) : Stay K H (upd H p o) :=
  ⟨fun a xs e => by rw [upd_ne (ne_of_none e h)]; exact e, fun a o' u e => by rw [upd_ne (ne_of_none e h)]; exact e, fun a q e => by rw [upd_ne (ne_of_none e h)]; exact e, fun a q e => by rw [upd_ne (ne_of_none e h)]; exact e⟩
theorem Stay.write {K : Fg} {H : Hp} {p : Addr} {o : HO} (h : Wr H p) : Stay K H (upd H p o) :=
  ⟨fun a xs e => by rw [upd_ne (fun z => by subst z; have := h.1; rw [e] at this; exact this)]; exact e, fun a o' u e => by rw [upd_ne (fun z => by subst z; have := h.1; rw [e] at this; exact this)]; exact e,
   fun a q e => by rw [upd_ne (fun z => by subst z; exact h.2 q e)]; exact e, fun a xs e => by rw [upd_ne (fun z => by subst z; have := h.1; rw [e] at this; exact this)]; exact e⟩
theorem LamH.mono {K : Fg} {H H' : Hp} {f : Addr} {L : Lamb} {cl : List (Str × Addr)} (s : Stay K H H') (h : LamH H f L cl) : LamH H' f L cl := by
  obtain ⟨pm, c, ctv, h1, h2⟩ := h
  exact ⟨pm, c, ctv, s.frz _ _ _ h1, s.cod _ _ h2⟩
theorem CloH.mono {K : Fg} {H H' : Hp} {f : Addr} {L : Lamb} {vs : List V} (s : Stay K H H') (h : CloH H f L vs) : CloH H' f L vs := by
  obtain ⟨cl, h1, h2, h3, h4, h5⟩ := h
  refine ⟨cl, h1.mono s, h2, h3, h4, fun i y e => ?_⟩
  obtain ⟨c, oc, v, u, a1, a2, a3⟩ := h5 i y e
  exact ⟨c, oc, v, u, a1, s.frz _ _ _ a2, a3⟩
mutual
theorem RD.mono {K : Fg} {H H' : Hp} (s : Stay K H H') : ∀ {d : DV} {v : V}, RD K H d v → RD K H' d v
  | _, _, .non => .non
  | _, _, .bl b => .bl b
  | _, _, .int b => .int b
  | _, _, .str b => .str b
  | _, _, .ty b => .ty b
  | _, _, .ref b => .ref b
  | _, _, .tup h t => .tup (s.sqt h) (RDs.mono s t)
  | _, _, .tupA h t => .tupA (s.sqt h) (RDs.mono s t)
  | _, _, .lam h => .lam (h.mono s)
  | _, _, .clo h t => .clo (h.mono s) (RDs.mono s t)
  | _, _, .lis h t => .lis (h.elim (fun ⟨o, e⟩ => .inl ⟨o, s.frz _ _ _ e⟩) .inr) (RDs.mono s t)
theorem RDs.mono {K : Fg} {H H' : Hp} (s : Stay K H H') : ∀ {d : List DV} {v : List V}, RDs K H d v → RDs K H' d v
  | _, _, .nil => .nil
  | _, _, .cons h t => .cons (RD.mono s h) (RDs.mono s t)
end
theorem RDs.length {K : Fg} {H : Hp} : ∀ {ds : List DV} {vs : List V}, RDs K H ds vs → ds.length = vs.length
  | _, _, .nil => rfl
  | _, _, .cons _ t => by rw [List.length_cons, List.length_cons, RDs.length t]
theorem RDs.get {K : Fg} {H : Hp} : ∀ {ds : List DV} {vs : List V} {i : Nat} {d : DV}, RDs K H ds vs → ds[i]? = some d → ∃ v, vs[i]? = some v ∧ RD K H d v
  | _, _, _, _, .nil, h => by simp at h
  | _, _, 0, _, .cons r _, h => by simp at h; subst h; exact ⟨_, rfl, r⟩
  | _, _, i + 1, _, .cons _ t, h => by
    obtain ⟨v, h1, h2⟩ := RDs.get (i := i) t (by simpa using h)
    exact ⟨v, by simpa using h1, h2⟩
theorem RDs.set {K : Fg} {H : Hp} {d : DV} {v : V} (r : RD K H d v) : ∀ {ds : List DV} {vs : List V} (i : Nat), RDs K H ds vs → RDs K H (ds.set i d) (vs.set i v)
  | _, _, _, .nil => .nil
  | _, _, 0, .cons _ t => .cons r t
  | _, _, i + 1, .cons q t => .cons q (RDs.set r i t)
theorem RDs.append {K : Fg} {H : Hp} : ∀ {ds es : List DV} {vs us : List V}, RDs K H ds vs → RDs K H es us → RDs K H (ds ++ es) (vs ++ us)
  | _, _, _, _, .nil, q => q
  | _, _, _, _, .cons r t, q => .cons r (RDs.append t q)
theorem RDs.take {K : Fg} {H : Hp} : ∀ {ds : List DV} {vs : List V} (n : Nat), RDs K H ds vs → RDs K H (ds.take n) (vs.take n)
  | _, _, 0, _ => .nil
  | _, _, _ + 1, .nil => .nil
  | _, _, n + 1, .cons r t => .cons r (RDs.take n t)
theorem RDs.drop {K : Fg} {H : Hp} : ∀ {ds : List DV} {vs : List V} (n : Nat), RDs K H ds vs → RDs K H (ds.drop n) (vs.drop n)
  | _, _, 0, h => h
  | _, _, _ + 1, .nil => .nil
  | _, _, n + 1, .cons r t => RDs.drop n t
theorem RDs.reverse {K : Fg} {H : Hp} : ∀ {ds : List DV} {vs : List V}, RDs K H ds vs → RDs K H ds.reverse vs.reverse
  | _, _, .nil => .nil
  | _, _, .cons r t => by
    rw [List.reverse_cons, List.reverse_cons]
    exact RDs.append (RDs.reverse t) (.cons r .nil)
theorem RDs.dropLast {K : Fg} {H : Hp} {ds : List DV} {vs : List V} (h : RDs K H ds vs) : RDs K H ds.dropLast vs.dropLast := by
  rw [List.dropLast_eq_take, List.dropLast_eq_take, ← h.length]
  exact h.take _
/-! plain values of all sorts as keys -/
abbrev NK := NestedKey
mutual
def nkD : DV → Option NK
  | .non => some .none
  | .bl b => some (.num (if b = true then 1 else 0))
  | .int i => some (.num i)
  | .str x => some (.text x)
  | .tup ds => (nkDs ds).map .tup
  | .lis _ => none
  | .ty _ => none
  | .ref _ => none
  | .tupA _ _ => none
  | .lam _ _ => none
  | .clo _ _ => none
def nkDs : List DV → Option (List NK)
  | [] => some []
  | d :: ds => match nkD d, nkDs ds with
    | some k, some ks => some (k :: ks)
    | _, _ => none
end
/-- an entry: what its key is, the key's own value, the value -/
abbrev PEnt := NK × Value × Value
def penc (w : World) (x : PEnt) : DictEntry := ⟨x.1.hash w, x.2.1, x.2.2⟩
def PDict (w : World) (h : Heap) (d : Addr) (xs : List PEnt) : Prop := (d == sysModules) = false ∧ xs.length ≤ sizeLine ∧ (xs.map (·.1)).Nodup ∧ ∃ o es ep, h.get? d = some o ∧ o.ExactDict ∧ o.data = .dict es ep ∧ es.toList = xs.map (penc w)
def DnO (w : World) (a : Addr) (o : Obj) (xs : List PEnt) : HO := .ext fun h => h.get? a = some o ∧ PDict w h a xs
inductive RKs (K : Fg) (H : Hp) : List (DV × DV) → List PEnt → Prop
  | nil : RKs K H [] []
  | cons {kd vd : DV} {k : NK} {ku vu : Value} {kv vv : V} {fs : List (DV × DV)} {xs : List PEnt} : nkD kd = some k → k.depth ≤ 8 → RD K H kd kv → RelV kv ku → RD K H vd vv → RelV vv vu → RKs K H fs xs → RKs K H ((kd, vd) :: fs) ((k, ku, vu) :: xs)
theorem RKs.mono {K : Fg} {H H' : Hp} (s : Stay K H H') {fs : List (DV × DV)} {xs : List PEnt} (h : RKs K H fs xs) : RKs K H' fs xs := by
  induction h with
  | nil => exact .nil
  | cons a b c d e f _ ih => exact .cons a b (c.mono s) d (e.mono s) f ih
/-- the content of a changing object -/
inductive MO where
  | lst (xs : List DV)
  | ins (C : Addr) (fs : List (Str × DV))
  /-- a dict whose keys are ints and texts -/
  | dk (kvs : List (Key × DV))
  /-- a dict whose keys are plain values of all sorts -/
  | dn (w : World) (o : Obj) (kvs : List (DV × DV))
  /-- an exception of the class at C, held as a value, its fields -/
  | exc (C : Addr) (fs : List (Str × DV))
  /-- a range object -/
  | rng (lo hi : Int)
  /-- a def's table of code objects of the name q -/
  | tab (q : Str)
abbrev Mm := List (Addr × MO)
inductive RF {κ : Type} (K : Fg) (H : Hp) : List (κ × DV) → List (κ × V) → Prop
  | nil : RF K H [] []
  | cons {x : κ} {d : DV} {v : V} {fs : List (κ × DV)} {gs : List (κ × V)} : RD K H d v → RF K H fs gs → RF K H ((x, d) :: fs) ((x, v) :: gs)
theorem RF.mono {κ : Type} {K : Fg} {H H' : Hp} (s : Stay K H H') : ∀ {d : List (κ × DV)} {v : List (κ × V)}, RF K H d v → RF K H' d v
  | _, _, .nil => .nil
  | _, _, .cons h t => .cons (h.mono s) (RF.mono s t)
def RO (K : Fg) (H : Hp) (a : Addr) : MO → Prop
  | .lst xs => ∃ vs, H a = some (.lst vs) ∧ RDs K H xs vs
  | .ins C fs => ∃ dx gs, H a = some (.ins C dx gs) ∧ RF K H fs gs
  | .dk kvs => ∃ vs, H a = some (.dK vs) ∧ RF K H kvs vs
  | .dn w o kvs => ∃ xs, H a = some (DnO w a o xs) ∧ RKs K H kvs xs
  | .exc C fs => ∃ oe, H a = some (PinO a oe) ∧ oe.cls = .ref C ∧ (∃ vs, oe.data = .fields vs) ∧ ((oe.dict = none ∧ fs = []) ∨ ∃ dx gs, oe.dict = some dx ∧ H dx = some (.xd gs) ∧ RF K H fs gs)
  | .rng lo hi => H a = some (.rng lo hi)
  | .tab q => LamX.TabS H a q
/-- the object itself is as it was -/
theorem RO.mono {K : Fg} {H H' : Hp} {a : Addr} {o : MO} (s : Stay K H H') (h : RO K H a o) (e : H' a = H a) : RO K H' a o := by
  cases o with
  | lst xs => obtain ⟨vs, h1, h2⟩ := h; exact ⟨vs, e.trans h1, h2.mono s⟩
  | ins C fs => obtain ⟨dx, gs, h1, h2⟩ := h; exact ⟨dx, gs, e.trans h1, h2.mono s⟩
  | dk kvs => obtain ⟨vs, h1, h2⟩ := h; exact ⟨vs, e.trans h1, h2.mono s⟩
  | dn w o kvs => obtain ⟨vs, h1, h2⟩ := h; exact ⟨vs, e.trans h1, h2.mono s⟩
  | exc C fs => obtain ⟨oe, h1, h2, h3, h4⟩ := h; exact ⟨oe, e.trans h1, h2, h3, h4.elim .inl fun ⟨dx, gs, a1, a2, a3⟩ => .inr ⟨dx, gs, a1, s.xd _ _ a2, a3.mono s⟩⟩
  | rng lo hi => exact e.trans h
  | tab q =>
    obtain ⟨ps, h1, h2, h3⟩ := h
    refine ⟨ps, e.trans h1, h2, fun pos cv hc => ?_⟩
    obtain ⟨c, e1, e2⟩ := h3 pos cv hc
    exact ⟨c, e1, s.cod _ _ e2⟩
theorem RO.some {K : Fg} {H : Hp} {a : Addr} {o : MO} (h : RO K H a o) : ∃ u, H a = some u := by
  cases o with
  | lst xs => obtain ⟨vs, h1, _⟩ := h; exact ⟨_, h1⟩
  | ins C fs => obtain ⟨dx, gs, h1, _⟩ := h; exact ⟨_, h1⟩
  | dk kvs => obtain ⟨vs, h1, _⟩ := h; exact ⟨_, h1⟩
  | dn w o kvs => obtain ⟨vs, h1, _⟩ := h; exact ⟨_, h1⟩
  | exc C fs => obtain ⟨oe, h1, _⟩ := h; exact ⟨_, h1⟩
  | rng lo hi => exact ⟨_, h⟩
  | tab q => obtain ⟨ps, h1, _⟩ := h; exact ⟨_, h1⟩
structure RM (K : Fg) (H : Hp) (M : Mm) : Prop where
  nd : (M.map (·.1)).Nodup
  ok : ∀ a o, (a, o) ∈ M → RO K H a o
/-- something new is laid -/
theorem RM.new {K : Fg} {H : Hp} {M : Mm} {p : Addr} {o : HO} (h : RM K H M) (hp : H p = none) : RM K (upd H p o) M :=
  ⟨h.nd, fun a q hm => by
    obtain ⟨u, hu⟩ := (h.ok a q hm).some
    exact (h.ok a q hm).mono (Stay.new hp) (upd_ne (ne_of_none hu hp))⟩
theorem RM.cons {K : Fg} {H : Hp} {M : Mm} {p : Addr} {o : HO} {q : MO} (h : RM K H M) (hp : H p = none) (hq : RO K (upd H p o) p q) : RM K (upd H p o) ((p, q) :: M) := by
  have hn := h.new (o := o) hp
  refine ⟨?_, fun a u hm => ?_⟩
  · rw [List.map_cons, List.nodup_cons]
    refine ⟨fun hm => ?_, h.nd⟩
    obtain ⟨⟨b, r⟩, hb, e⟩ := List.mem_map.mp hm
    obtain ⟨u, hu⟩ := (h.ok b r hb).some
    have e : b = p := e
    rw [e, hp] at hu
    cases hu
  · rcases List.mem_cons.mp hm with e | e
    · cases e; exact hq
    · exact hn.ok a u e
theorem RM.sub {K : Fg} {H : Hp} {M M' : Mm} (h : RM K H M) (nd : (M'.map (·.1)).Nodup) (s : ∀ x ∈ M', x ∈ M) : RM K H M' := ⟨nd, fun a o hm => h.ok a o (s _ hm)⟩
theorem RM.tail {K : Fg} {H : Hp} {M : Mm} {x : Addr × MO} (h : RM K H (x :: M)) : RM K H M := ⟨by have := h.nd; rw [List.map_cons, List.nodup_cons] at this; exact this.2, fun a o hm => h.ok a o (List.mem_cons_of_mem _ hm)⟩
/-- an object of M is written -/
theorem RM.write {K : Fg} {H : Hp} {M : Mm} {i : Nat} {p : Addr} {q q' : MO} {o : HO} (h : RM K H M) (hi : M[i]? = some (p, q)) (mu : Wr H p) (hq : RO K (upd H p o) p q') : RM K (upd H p o) (M.set i (p, q')) := by
  have hl : i < M.length := (List.getElem?_eq_some_iff.mp hi).1
  have ek : (M.set i (p, q')).map (·.1) = M.map (·.1) := by
    apply List.ext_getElem?
    intro j
    rw [List.getElem?_map, List.getElem?_map, List.getElem?_set]
    split
    · rename_i e; subst e
      rw [hi]
      rfl
    · rfl
  refine ⟨by rw [ek]; exact h.nd, fun a u hm => ?_⟩
  obtain ⟨j, hj⟩ := List.mem_iff_getElem?.mp hm
  rw [List.getElem?_set] at hj
  split at hj
  · rename_i e; subst e
    cases hj
    exact hq
  · rename_i e
    have hne : a ≠ p := fun z => by
      subst z
      have h1 : (M.map (·.1))[j]? = some a := by rw [List.getElem?_map, hj]; rfl
      have h2 : (M.map (·.1))[i]? = some a := by rw [List.getElem?_map, hi]; rfl
      obtain ⟨l1, e1⟩ := List.getElem?_eq_some_iff.mp h1
      obtain ⟨l2, e2⟩ := List.getElem?_eq_some_iff.mp h2
      exact e ((List.getElem_inj h.nd).mp (e2.trans e1.symm))
    exact (h.ok a u (List.mem_of_getElem? hj)).mono (Stay.write mu) (upd_ne hne)
theorem RM.at {K : Fg} {H : Hp} {M : Mm} {i : Nat} {p : Addr} {q : MO} (h : RM K H M) (hi : M[i]? = some (p, q)) : RO K H p q := h.ok p q (List.mem_of_getElem? hi)
/-! ### the slots -/
abbrev Ro := List (Option DV)
/-- a context and the heap from which on tuples and locked things stay -/
structure Cy extends Cx where
  anc : Hp
instance : Coe Cy Cx := ⟨Cy.toCx⟩
structure RS (X : Cy) (H : Hp) (ρ : Ro) (σ : L2.St) : Prop where
  st : Stay X.K X.anc H
  len : ρ.length = σ.length
  get : ∀ (i : Nat) (d : DV), ρ[i]? = some (some d) → (∃ x, X.N[i]? = some x ∧ Vis X.env.scope x) ∧ ∃ v, σ[i]? = some (some v) ∧ RD X.K H d v
theorem RS.mono {X : Cy} {H H' : Hp} {ρ : Ro} {σ : L2.St} (s : Stay X.K H H') (h : RS X H ρ σ) : RS X H' ρ σ :=
  ⟨h.st.trans s, h.len, fun i d e => by obtain ⟨a, v, b, c⟩ := h.get i d e; exact ⟨a, v, b, c.mono s⟩⟩
/-- a name's value -/
class inductive At : List Str → Ro → Str → outParam DV → Prop
  | here {x : Str} {N : List Str} {d : DV} {ρ : Ro} : At (x :: N) (some d :: ρ) x d
  | there {x y : Str} {N : List Str} {o : Option DV} {d : DV} {ρ : Ro} : At N ρ x d → At (y :: N) (o :: ρ) x d
theorem At.ix : ∀ {N : List Str} {ρ : Ro} {x : Str} {d : DV}, At N ρ x d → ∃ i : Nat, N[i]? = some x ∧ ρ[i]? = some (some d)
  | _, _, _, _, .here => ⟨0, rfl, rfl⟩
  | _, _, _, _, .there h => let ⟨i, a, b⟩ := At.ix h; ⟨i + 1, by simpa using a, by simpa using b⟩
/-- a name is given a value -/
class inductive Put (d : DV) : List Str → Ro → Str → outParam Ro → Prop
  | here {x : Str} {N : List Str} {o : Option DV} {ρ : Ro} : Put d (x :: N) (o :: ρ) x (some d :: ρ)
  | there {x y : Str} {N : List Str} {o : Option DV} {ρ ρ' : Ro} : Put d N ρ x ρ' → Put d (y :: N) (o :: ρ) x (o :: ρ')
theorem Put.ix {d : DV} : ∀ {N : List Str} {ρ ρ' : Ro} {x : Str}, Put d N ρ x ρ' → ∃ i : Nat, N[i]? = some x ∧ ρ' = ρ.set i (some d)
  | _, _, _, _, .here => ⟨0, rfl, rfl⟩
  | _, _, _, _, .there h => let ⟨i, a, b⟩ := Put.ix h; ⟨i + 1, by simpa using a, by subst b; rfl⟩
/-- an object's content -/
class inductive AtM : Mm → outParam Nat → Addr → outParam MO → Prop
  | here {a : Addr} {o : MO} {M : Mm} : AtM ((a, o) :: M) 0 a o
  | there {a : Addr} {o : MO} {x : Addr × MO} {M : Mm} {i : Nat} : AtM M i a o → AtM (x :: M) (i + 1) a o
theorem AtM.ix : ∀ {M : Mm} {i : Nat} {a : Addr} {o : MO}, AtM M i a o → M[i]? = some (a, o)
  | _, _, _, _, .here => rfl
  | _, _, _, _, .there h => by simpa using AtM.ix h
inductive PutM (o : MO) : Mm → Addr → Mm → Prop
  | here {a : Addr} {u : MO} {M : Mm} : PutM o ((a, u) :: M) a ((a, o) :: M)
  | there {a : Addr} {x : Addr × MO} {M M' : Mm} : PutM o M a M' → PutM o (x :: M) a (x :: M')
/-! ### the static facts of a def's body -/
/-- L: the def's own names that may be stored; C: those that inner blocks read; N: both, then the names of its comprehensions; Gs: the global names that it reads; Bs: the built-ins' names that the module leaves alone -/
class Fx (X : Cy) (P : outParam Program) (w : outParam World) (K : outParam Fg) (mg : outParam (Str → Option Value)) (base : outParam Heap) (sc : outParam Scope) (N L C Gs Bs : outParam (List Str)) (k : outParam Nat) : Prop where
  hP : X.prog = P
  hw : X.w = w
  hK : X.K = K
  hmg : X.mg = mg
  hbase : X.base = base
  hN : X.N = N
  hsc : X.env.scope = sc
  nd : N.Nodup
  loc : ∀ x ∈ L, X.env.scope.names.lookup x = some .local
  cel : ∀ x ∈ C, X.env.scope.names.lookup x = some .cell ∧ X.fn x = true
  kind : X.env.scope.kind = .function
  nob : ∀ x ∈ N, (x == ("__debug__" : Str)) = false ∧ (x == ("__classdict__" : Str)) = false
  gl : ∀ x ∈ Gs, Gl X x ∧ (x == ("__debug__" : Str)) = false ∧ x ≠ "__name__"
  bl : ∀ x ∈ Bs, mg x = none
  calm : X.calm = true
  room : Room k X.A
  pp : PassesOwn (model X.prog X.w) X.A X.env X.xe
/-! ### the readings by meaning -/
def wE (X : Cx) (e : Expr) : TE := fun σ H Q => ∀ (pins : List (Addr × Obj)) (s : Shared), Inv X pins σ H s → wpAny (model X.prog X.w) X.A (eval e X.env) (EP X pins σ Q) X.xe s
def wT (X : Cx) (e : Expr) : TT := fun σ H Q => ∀ (pins : List (Addr × Obj)) (s : Shared), Inv X pins σ H s → wpAny (model X.prog X.w) X.A (isTrue e X.env (eval e X.env)) (TP X pins σ Q) X.xe s
def wW (X : Cx) (e : Expr) : TT := fun σ H Q => ∀ (whole : Sem Value) (pins : List (Addr × Obj)) (s : Shared), Inv X pins σ H s → wpAny (model X.prog X.w) X.A (isTrue e X.env whole) (TP X pins σ Q) X.xe s
def wA (X : Cx) (es : List Expr) : TA := fun σ H Q => ∀ (pos : Pos) (pins : List (Addr × Obj)) (s : Shared), Inv X pins σ H s → wpAny (model X.prog X.w) X.A (spliced (backTo pos (starEach es X.env))) (AP X pins σ Q) X.xe s
def wS (X : Cx) (st : Stmt) : TS := fun D σ H => ∀ (pins : List (Addr × Obj)) (s : Shared), Inv X pins σ H s → wpAny (model X.prog X.w) X.A (exec st X.env) (SP X pins D) X.xe s
def wSs (X : Cx) (st : List Stmt) : TS := fun D σ H => ∀ (pins : List (Addr × Obj)) (s : Shared), Inv X pins σ H s → wpAny (model X.prog X.w) X.A (execs st X.env) (SP X pins D) X.xe s
section
variable {X : Cx} {e : Expr} {es : List Expr} {st : Stmt} {sts : List Stmt} {σ : L2.St} {H : Hp}
theorem pe_w : PE X e (wE X e) := ⟨fun pins s _ _ _ I h => h pins s I⟩
theorem pt_w : PT X e (wT X e) := ⟨fun pins s _ _ _ I h => h pins s I⟩
theorem pw_w : PW X e (wW X e) := ⟨fun whole pins s _ _ _ I h => h whole pins s I⟩
theorem pa_w : PA X es (wA X es) := ⟨fun pos pins s _ _ _ I h => h pos pins s I⟩
theorem ps_w : PS X st (wS X st) := ⟨fun pins s _ _ _ I h => h pins s I⟩
theorem pss_w : PSs X sts (wSs X sts) := ⟨fun pins s _ _ _ I h => h pins s I⟩
theorem wE.of {t : TE} (p : PE X e t) {Q : VK} (h : t σ H Q) : wE X e σ H Q := fun pins s I => p.run pins s σ H Q I h
theorem wT.of {t : TT} (p : PT X e t) {Q : Bool → Hp → Prop} (h : t σ H Q) : wT X e σ H Q := fun pins s I => p.run pins s σ H Q I h
theorem wW.of {t : TT} (p : PW X e t) {Q : Bool → Hp → Prop} (h : t σ H Q) : wW X e σ H Q := fun wh pins s I => p.run wh pins s σ H Q I h
theorem wA.of {t : TA} (p : PA X es t) {Q : List V → Hp → Prop} (h : t σ H Q) : wA X es σ H Q := fun pos pins s I => p.run pos pins s σ H Q I h
theorem wS.of {t : TS} (p : PS X st t) {D : Ends} (h : t D σ H) : wS X st D σ H := fun pins s I => p.run pins s σ H D I h
theorem wSs.of {t : TS} (p : PSs X sts t) {D : Ends} (h : t D σ H) : wSs X sts D σ H := fun pins s I => p.run pins s σ H D I h
theorem wE.mono {Q Q' : VK} (h : wE X e σ H Q) (q : ∀ v H', Q v H' → Q' v H') : wE X e σ H Q' := fun pins s I => thn (h pins s I) fun u s' ⟨v, H', I', r, z⟩ => ⟨v, H', I', r, q v H' z⟩
theorem wT.mono {Q Q' : Bool → Hp → Prop} (h : wT X e σ H Q) (q : ∀ v H', Q v H' → Q' v H') : wT X e σ H Q' := fun pins s I => thn (h pins s I) fun u s' ⟨H', I', z⟩ => ⟨H', I', q u H' z⟩
theorem wW.mono {Q Q' : Bool → Hp → Prop} (h : wW X e σ H Q) (q : ∀ v H', Q v H' → Q' v H') : wW X e σ H Q' := fun wh pins s I => thn (h wh pins s I) fun u s' ⟨H', I', z⟩ => ⟨H', I', q u H' z⟩
theorem wA.mono {Q Q' : List V → Hp → Prop} (h : wA X es σ H Q) (q : ∀ v H', Q v H' → Q' v H') : wA X es σ H Q' := fun pos pins s I => thn (h pos pins s I) fun u s' ⟨v, H', I', r, z⟩ => ⟨v, H', I', r, q v H' z⟩
theorem SP.mono {pins : List (Addr × Obj)} {D D' : Ends} {f : Flow} {s : Shared} (h : SP X pins D f s) (h1 : ∀ σ H, D.nx σ H → D'.nx σ H) (h2 : ∀ v H, D.rt v H → D'.rt v H) (h3 : ∀ σ H, D.bk σ H → D'.bk σ H) (h4 : ∀ σ H, D.ct σ H → D'.ct σ H) : SP X pins D' f s := by
  cases f with
  | next => obtain ⟨σ', H', I, q⟩ := h; exact ⟨σ', H', I, h1 _ _ q⟩
  | brk => obtain ⟨σ', H', I, q⟩ := h; exact ⟨σ', H', I, h3 _ _ q⟩
  | cont => obtain ⟨σ', H', I, q⟩ := h; exact ⟨σ', H', I, h4 _ _ q⟩
  | ret u => obtain ⟨v, σ', H', I, r, q⟩ := h; exact ⟨v, σ', H', I, r, h2 _ _ q⟩
theorem wS.mono {D D' : Ends} (h : wS X st D σ H) (h1 : ∀ σ H, D.nx σ H → D'.nx σ H) (h2 : ∀ v H, D.rt v H → D'.rt v H) (h3 : ∀ σ H, D.bk σ H → D'.bk σ H) (h4 : ∀ σ H, D.ct σ H → D'.ct σ H) : wS X st D' σ H := fun pins s I => thn (h pins s I) fun u s' z => SP.mono z h1 h2 h3 h4
theorem wSs.mono {D D' : Ends} (h : wSs X sts D σ H) (h1 : ∀ σ H, D.nx σ H → D'.nx σ H) (h2 : ∀ v H, D.rt v H → D'.rt v H) (h3 : ∀ σ H, D.bk σ H → D'.bk σ H) (h4 : ∀ σ H, D.ct σ H → D'.ct σ H) : wSs X sts D' σ H := fun pins s I => thn (h pins s I) fun u s' z => SP.mono z h1 h2 h3 h4
end
/-! ### the judgements over values -/
def LE (K : Fg) (H : Hp) (Q : DV → Mm → Prop) : VK := fun v H' => ∃ d M', RD K H' d v ∧ RM K H' M' ∧ Stay K H H' ∧ Q d M'
def LT (K : Fg) (H : Hp) (Q : Bool → Mm → Prop) : Bool → Hp → Prop := fun b H' => ∃ M', RM K H' M' ∧ Stay K H H' ∧ Q b M'
def LA (K : Fg) (H : Hp) (Q : List DV → Mm → Prop) : List V → Hp → Prop := fun v H' => ∃ d M', RDs K H' d v ∧ RM K H' M' ∧ Stay K H H' ∧ Q d M'
structure En where
  nx : Ro → Mm → Prop
  rt : DV → Mm → Prop
  bk : Ro → Mm → Prop := fun _ _ => False
  ct : Ro → Mm → Prop := fun _ _ => False
def LN (X : Cy) (H : Hp) (Q : Ro → Mm → Prop) : L2.St → Hp → Prop := fun σ H' => ∃ ρ M', RS X H' ρ σ ∧ RM X.K H' M' ∧ Stay X.K H H' ∧ Q ρ M'
def LD (X : Cy) (H : Hp) (D : En) : Ends := { nx := LN X H D.nx, rt := LE X.K H D.rt, bk := LN X H D.bk, ct := LN X H D.ct }
def WE (X : Cy) (ρ : Ro) (M : Mm) (e : Expr) (Q : DV → Mm → Prop) : Prop := ∀ σ H, RS X H ρ σ → RM X.K H M → wE X e σ H (LE X.K H Q)
def WT (X : Cy) (ρ : Ro) (M : Mm) (e : Expr) (Q : Bool → Mm → Prop) : Prop := ∀ σ H, RS X H ρ σ → RM X.K H M → wT X e σ H (LT X.K H Q)
def WW (X : Cy) (ρ : Ro) (M : Mm) (e : Expr) (Q : Bool → Mm → Prop) : Prop := ∀ σ H, RS X H ρ σ → RM X.K H M → wW X e σ H (LT X.K H Q)
def WA (X : Cy) (ρ : Ro) (M : Mm) (es : List Expr) (Q : List DV → Mm → Prop) : Prop := ∀ σ H, RS X H ρ σ → RM X.K H M → wA X es σ H (LA X.K H Q)
def WS (X : Cy) (ρ : Ro) (M : Mm) (st : Stmt) (nx : Ro → Mm → Prop) (rt : DV → Mm → Prop) (bk ct : Ro → Mm → Prop) : Prop := ∀ σ H, RS X H ρ σ → RM X.K H M → wS X st (LD X H ⟨nx, rt, bk, ct⟩) σ H
def WSs (X : Cy) (ρ : Ro) (M : Mm) (st : List Stmt) (nx : Ro → Mm → Prop) (rt : DV → Mm → Prop) (bk ct : Ro → Mm → Prop) : Prop := ∀ σ H, RS X H ρ σ → RM X.K H M → wSs X st (LD X H ⟨nx, rt, bk, ct⟩) σ H
theorem LE.stay {K : Fg} {H H1 : Hp} {Q : DV → Mm → Prop} (s : Stay K H H1) {v : V} {H' : Hp} (h : LE K H1 Q v H') : LE K H Q v H' := let ⟨d, M', a, b, c, q⟩ := h; ⟨d, M', a, b, s.trans c, q⟩
theorem LT.stay {K : Fg} {H H1 : Hp} {Q : Bool → Mm → Prop} (s : Stay K H H1) {v : Bool} {H' : Hp} (h : LT K H1 Q v H') : LT K H Q v H' := let ⟨M', b, c, q⟩ := h; ⟨M', b, s.trans c, q⟩
theorem LA.stay {K : Fg} {H H1 : Hp} {Q : List DV → Mm → Prop} (s : Stay K H H1) {v : List V} {H' : Hp} (h : LA K H1 Q v H') : LA K H Q v H' := let ⟨d, M', a, b, c, q⟩ := h; ⟨d, M', a, b, s.trans c, q⟩
theorem LN.stay {X : Cy} {H H1 : Hp} {Q : Ro → Mm → Prop} (s : Stay X.K H H1) {σ : L2.St} {H' : Hp} (h : LN X H1 Q σ H') : LN X H Q σ H' := let ⟨d, M', a, b, c, q⟩ := h; ⟨d, M', a, b, s.trans c, q⟩
/-! ### expressions -/
section
variable {X : Cy} {P : Program} {w : World} {K : Fg} {mg : Str → Option Value} {base : Heap} {sc : Scope} {N L C Gs Bs : List Str} {k : Nat} {ρ : Ro} {M : Mm} {Q : DV → Mm → Prop} {a b c e : Expr} {es : List Expr} {pos : Pos}
theorem WE.mono {Q' : DV → Mm → Prop} (h : WE X ρ M e Q) (q : ∀ d M', Q d M' → Q' d M') : WE X ρ M e Q' := fun σ H r m => (h σ H r m).mono fun v H' ⟨d, M', a, b, c, z⟩ => ⟨d, M', a, b, c, q d M' z⟩
theorem we_name {x : Str} {d : DV} (F : Fx X P w K mg base sc N L C Gs Bs k) (h : At N ρ x d) (q : Q d M) : WE X ρ M (.Name x pos) Q := fun σ H r m => by
  obtain ⟨i, h1, h2⟩ := h.ix
  obtain ⟨⟨y, n1, n2⟩, v, n3, n4⟩ := r.get i d h2
  have hx : x ∈ N := List.mem_of_getElem? h1
  have h1' : X.N[i]? = some x := by rw [F.hN]; exact h1
  have e : y = x := by rw [n1] at h1'; exact Option.some.inj h1'
  subst e
  exact wE.of (pe_var h1' n2 (F.nob y hx).1 (F.nob y hx).2) ⟨v, n3, d, M, n4, m, Stay.refl, q⟩
theorem we_int {i : Int} {j : Nat} (q : Q (.int i) M) : WE X ρ M (.Constant (.int i) j pos) Q := fun σ H r m => wE.of pe_int ⟨_, M, .int i, m, Stay.refl, q⟩
theorem we_bl {i : Bool} {j : Nat} (q : Q (.bl i) M) : WE X ρ M (.Constant (.bool i) j pos) Q := fun σ H r m => wE.of pe_bl ⟨_, M, .bl i, m, Stay.refl, q⟩
theorem we_non {j : Nat} (q : Q .non M) : WE X ρ M (.Constant .none j pos) Q := fun σ H r m => wE.of pe_non ⟨_, M, .non, m, Stay.refl, q⟩
theorem we_str {x : Str} {j : Nat} (q : Q (.str x) M) : WE X ρ M (.Constant (.str x) j pos) Q := fun σ H r m => wE.of pe_str ⟨_, M, .str x, m, Stay.refl, q⟩
/-- what a two-place operation asks, over values -/
def R2D (K : Fg) (r : R2) (x y : DV) (M : Mm) (Q : DV → Mm → Prop) : Prop := ∀ vx vy H, RD K H x vx → RD K H y vy → RM K H M → r vx vy H (LE K H Q)
theorem tOp_of {r : R2} {ta tb : TE} {σ : L2.St} {H : Hp} (ha : ∀ Q', (∀ v H1, LE X.K H (fun x M1 => ∀ H2, RS X H2 ρ σ → RM X.K H2 M1 → tb σ H2 (LE X.K H2 fun y M2 => R2D X.K r x y M2 Q)) v H1 → Q' v H1) → ta σ H Q') (rs : RS X H ρ σ)
    (mb : ∀ σ H Q Q', tb σ H Q → (∀ v H', Q v H' → Q' v H') → tb σ H Q') (mr : ∀ x y H Q Q', r x y H Q → (∀ v H', Q v H' → Q' v H') → r x y H Q') : tOp r ta tb σ H (LE X.K H Q) := by
  refine ha _ fun v H1 ⟨d, M1, h1, h2, h3, h4⟩ => ?_
  refine mb _ _ _ _ (h4 H1 (rs.mono h3) h2) fun u H2 ⟨d2, M2, g1, g2, g3, g4⟩ => ?_
  exact mr _ _ _ _ _ (g4 v u H2 (h1.mono g3) g1 g2) fun _ _ z => z.stay (h3.trans g3)
/-- an operation's reading may be weakened -/
def MonR (r : R2) : Prop := ∀ x y H Q Q', r x y H Q → (∀ v H', Q v H' → Q' v H') → r x y H Q'
theorem we_op {r : R2} (p : ∀ {ta tb : TE}, PE X a ta → PE X b tb → PE X e (tOp r ta tb)) (mr : MonR r) (h : WE X ρ M a fun x M1 => WE X ρ M1 b fun y M2 => R2D X.K r x y M2 Q) : WE X ρ M e Q := fun σ H rs m => by
  refine wE.of (p pe_w pe_w) (tOp_of (ρ := ρ) (fun Q' hq => (h σ H rs m).mono fun v H1 z => hq v H1 ?_) rs (fun _ _ _ _ h q => h.mono q) mr)
  obtain ⟨d, M1, h1, h2, h3, h4⟩ := z
  exact ⟨d, M1, h1, h2, h3, fun H2 r2 m2 => h4 σ H2 r2 m2⟩
theorem MonR.or {r r' : R2} (a : MonR r) (b : MonR r') : MonR fun x y H Q => r x y H Q ∨ r' x y H Q := fun x y H Q Q' h q => h.elim (fun h => .inl (a x y H Q Q' h q)) fun h => .inr (b x y H Q Q' h q)
theorem monI0 {g : Int → Int → V} : MonR (rI0 g) := fun x y H Q Q' h q => let ⟨i, j, a, b, c⟩ := h; ⟨i, j, a, b, q _ _ c⟩
theorem monI {C : Int → Int → Prop} {g : Int → Int → V} : MonR (rI C g) := fun x y H Q Q' h q => let ⟨i, j, a, b, d, c⟩ := h; ⟨i, j, a, b, d, q _ _ c⟩
end
end G
namespace G
open PySem L2
/-! ### arguments -/
def isStar : Expr → Bool
  | .Starred _ _ => true
  | _ => false
theorem starEach_cons {e : Expr} {es : List Expr} {env : Env} (h : isStar e = false) : starEach (e :: es) env = (false, eval e env) :: starEach es env := by
  cases e <;> first | rfl | exact Bool.noConfusion h
def noStars : List Expr → Bool
  | [] => true
  | e :: es => !isStar e && noStars es
theorem noStars_cons {e : Expr} {es : List Expr} (h : noStars (e :: es) = true) : isStar e = false ∧ noStars es = true := by
  unfold noStars at h
  cases q : isStar e with
  | true => rw [q] at h; exact Bool.noConfusion h
  | false => rw [q] at h; exact ⟨rfl, h⟩
theorem noStars_any {env : Env} {pos : Pos} : ∀ {es : List Expr}, noStars es = true → (backTo pos (starEach es env)).any (·.1) = false
  | [], _ => rfl
  | e :: es, h => by
    obtain ⟨h1, h2⟩ := noStars_cons h
    rw [starEach_cons h1]
    show (false || (backTo pos (starEach es env)).any (·.1)) = false
    rw [noStars_any h2]
    rfl
section
variable {X : Cy} {P : Program} {w : World} {K : Fg} {mg : Str → Option Value} {base : Heap} {sc : Scope} {N L C Gs Bs : List Str} {k : Nat} {ρ : Ro} {M : Mm} {Q : DV → Mm → Prop} {a b c e : Expr} {es : List Expr} {pos p p2 : Pos}
theorem wa_nil {Q : List DV → Mm → Prop} (q : Q [] M) : WA X ρ M [] Q := fun σ H rs m => wA.of pa_nil ⟨[], M, .nil, m, Stay.refl, q⟩
theorem wa_cons' {Q : List DV → Mm → Prop} (hs : isStar e = false) (h : WE X ρ M e fun d M1 => WA X ρ M1 es fun ds M2 => Q (d :: ds) M2) : WA X ρ M (e :: es) Q := fun σ H rs m => by
  refine wA.of (pa_cons pe_w pa_w (starEach_cons hs)) ?_
  refine (h σ H rs m).mono fun v H1 ⟨d, M1, h1, h2, h3, h4⟩ => ?_
  refine (h4 σ H1 (rs.mono h3) h2).mono fun vs H2 ⟨ds, M2, g1, g2, g3, g4⟩ => ?_
  exact ⟨d :: ds, M2, .cons (h1.mono g3) g1, g2, h3.trans g3, g4⟩
theorem we_tup {i : Nat} (hs : noStars es = true) (h : WA X ρ M es fun ds M1 => ds.length ≤ sizeLine ∧ Q (.tup ds) M1) : WE X ρ M (.Tuple es i pos) Q := fun σ H rs m => by
  refine wE.of (pe_tup pa_w) ?_
  refine (h σ H rs m).mono fun vs H1 ⟨ds, M1, h1, h2, h3, h4, h5⟩ => ⟨by rw [← h1.length]; exact h4, fun p hp => ?_⟩
  exact ⟨.tup ds, M1, .tup (SqT.of upd_same) (h1.mono (Stay.new hp)), h2.new hp, h3.trans (Stay.new hp), h5⟩
theorem we_lst (hs : noStars es = true) (h : WA X ρ M es fun ds M1 => ds.length ≤ sizeLine ∧ ∀ p, Q (.ref p) ((p, .lst ds) :: M1)) : WE X ρ M (.List es pos) Q := fun σ H rs m => by
  refine wE.of (pe_lst pa_w) ?_
  refine (h σ H rs m).mono fun vs H1 ⟨ds, M1, h1, h2, h3, h4, h5⟩ => ⟨by rw [← h1.length]; exact h4, fun p hp => ?_⟩
  exact ⟨.ref p, (p, .lst ds) :: M1, .ref p, h2.cons hp ⟨vs, upd_same, h1.mono (Stay.new hp)⟩, h3.trans (Stay.new hp), h5 p⟩
/-! ### operators -/
def rAdd3 (K : Fg) : R2 := fun x y H Q => rI0 (fun i j => .int (i + j)) x y H Q ∨ (∃ i j, x = .str i ∧ y = .str j ∧ i.length + j.length ≤ sizeLine ∧ Q (.str (i ++ j)) H) ∨ rCat x y H Q ∨ rCatA K x y H Q
theorem mon_add : MonR (rAdd3 K) := fun x y H Q Q' h q => by
  rcases h with h | ⟨i, j, a, b, c, d⟩ | ⟨l, b, xs, zs, h1, h2, h3, h4, h5, h6⟩ | ⟨a, b, xs, ys, h1, h2, h3, h4, h5, h6, h7, h8⟩
  · exact .inl (monI0 x y H Q Q' h q)
  · exact .inr (.inl ⟨i, j, a, b, c, q _ _ d⟩)
  · exact .inr (.inr (.inl ⟨l, b, xs, zs, h1, h2, h3, h4, h5, fun p hp => q _ _ (h6 p hp)⟩))
  · exact .inr (.inr (.inr ⟨a, b, xs, ys, h1, h2, h3, h4, h5, fun z => q _ _ (h6 z), fun z z' => q _ _ (h7 z z'), fun z z' p hp => q _ _ (h8 z z' p hp)⟩))
theorem op_add3 : OpR X (binaryOp .Add) (rAdd3 X.K) := op_add.or (op_add_str.or (op_cat.or op_catA))
theorem we_add (h : WE X ρ M a fun x M1 => WE X ρ M1 b fun y M2 => R2D X.K (rAdd3 X.K) x y M2 Q) : WE X ρ M (.BinOp a .Add b pos) Q := we_op (pe_op op_add3) mon_add h
theorem we_sub (h : WE X ρ M a fun x M1 => WE X ρ M1 b fun y M2 => R2D X.K (rI0 fun i j => .int (i - j)) x y M2 Q) : WE X ρ M (.BinOp a .Sub b pos) Q := we_op (pe_op op_sub) monI0 h
def rMul3 : R2 := fun x y H Q => rI CMul (fun i j => .int (i * j)) x y H Q ∨ rI CMulW (fun i j => .int (i * j)) x y H Q
theorem we_mul (h : WE X ρ M a fun x M1 => WE X ρ M1 b fun y M2 => R2D X.K rMul3 x y M2 Q) : WE X ρ M (.BinOp a .Mult b pos) Q := we_op (pe_op (op_mul.or op_mulW)) (monI.or monI) h
theorem we_fdiv (h : WE X ρ M a fun x M1 => WE X ρ M1 b fun y M2 => R2D X.K (rI CDivW fun i j => .int (i / j)) x y M2 Q) : WE X ρ M (.BinOp a .FloorDiv b pos) Q := we_op (pe_op op_fdivW) monI h
theorem we_mod (h : WE X ρ M a fun x M1 => WE X ρ M1 b fun y M2 => R2D X.K (rI (fun _ j => j ≠ 0) fun i j => .int (i.fmod j)) x y M2 Q) : WE X ρ M (.BinOp a .Mod b pos) Q := we_op (pe_op op_modN) monI h
theorem we_pow (h : WE X ρ M a fun x M1 => WE X ρ M1 b fun y M2 => R2D X.K (rI CPow fun i j => .int (i ^ j.toNat)) x y M2 Q) : WE X ρ M (.BinOp a .Pow b pos) Q := we_op (pe_op op_pow) monI h
theorem we_bor (h : WE X ρ M a fun x M1 => WE X ρ M1 b fun y M2 => R2D X.K (rI0 fun i j => .int (Builtin.bitOr i j)) x y M2 Q) : WE X ρ M (.BinOp a .BitOr b pos) Q := we_op (pe_op op_or) monI0 h
theorem we_band (h : WE X ρ M a fun x M1 => WE X ρ M1 b fun y M2 => R2D X.K (rI0 fun i j => .int (Builtin.bitAnd i j)) x y M2 Q) : WE X ρ M (.BinOp a .BitAnd b pos) Q := we_op (pe_op op_and) monI0 h
theorem we_shl (h : WE X ρ M a fun x M1 => WE X ρ M1 b fun y M2 => R2D X.K (rI CPow fun i j => .int (i * 2 ^ j.toNat)) x y M2 Q) : WE X ρ M (.BinOp a .LShift b pos) Q := we_op (pe_op op_shl) monI h
theorem v_ii {g : Int → Int → Int} {i j : Int} (q : Q (.int (g i j)) M) : R2D K (rI0 fun i j => .int (g i j)) (.int i) (.int j) M Q := fun vx vy H h1 h2 m => by
  cases h1; cases h2
  exact ⟨i, j, rfl, rfl, .int (g i j), M, .int _, m, Stay.refl, q⟩
theorem v_ib {g : Int → Int → Bool} {i j : Int} (q : Q (.bl (g i j)) M) : R2D K (rI0 fun i j => .bl (g i j)) (.int i) (.int j) M Q := fun vx vy H h1 h2 m => by
  cases h1; cases h2
  exact ⟨i, j, rfl, rfl, .bl (g i j), M, .bl _, m, Stay.refl, q⟩
theorem v_ci {C : Int → Int → Prop} {g : Int → Int → Int} {i j : Int} (hc : C i j) (q : Q (.int (g i j)) M) : R2D K (rI C fun i j => .int (g i j)) (.int i) (.int j) M Q := fun vx vy H h1 h2 m => by
  cases h1; cases h2
  exact ⟨i, j, rfl, rfl, hc, .int (g i j), M, .int _, m, Stay.refl, q⟩
theorem R2D.l {r r' : R2} {x y : DV} (h : R2D K r x y M Q) : R2D K (fun x y H Q => r x y H Q ∨ r' x y H Q) x y M Q := fun vx vy H h1 h2 m => .inl (h vx vy H h1 h2 m)
theorem R2D.r {r r' : R2} {x y : DV} (h : R2D K r' x y M Q) : R2D K (fun x y H Q => r x y H Q ∨ r' x y H Q) x y M Q := fun vx vy H h1 h2 m => .inr (h vx vy H h1 h2 m)
theorem v_mul_i {i j : Int} (hc : CMul i j ∨ CMulW i j) (q : Q (.int (i * j)) M) : R2D K rMul3 (.int i) (.int j) M Q := by
  rcases hc with hc | hc
  · exact R2D.l (v_ci (g := fun i j => i * j) hc q)
  · exact R2D.r (v_ci (g := fun i j => i * j) hc q)
theorem v_add_i {i j : Int} (q : Q (.int (i + j)) M) : R2D K (rAdd3 K) (.int i) (.int j) M Q := R2D.l (v_ii q)
theorem v_add_s {i j : Str} (hl : i.length + j.length ≤ sizeLine) (q : Q (.str (i ++ j)) M) : R2D K (rAdd3 K) (.str i) (.str j) M Q := R2D.r (R2D.l fun vx vy H h1 h2 m => by
  cases h1; cases h2
  exact ⟨i, j, rfl, rfl, hl, .str (i ++ j), M, .str _, m, Stay.refl, q⟩)
theorem v_add_l {x y : Addr} {i j : Nat} {xs ys : List DV} (hx : AtM M i x (.lst xs)) (hy : AtM M j y (.lst ys)) (hl : xs.length + ys.length ≤ sizeLine) (q : ∀ p, Q (.ref p) ((p, .lst (xs ++ ys)) :: M)) : R2D K (rAdd3 K) (.ref x) (.ref y) M Q :=
  R2D.r (R2D.r (R2D.l fun vx vy H h1 h2 m => by
    cases h1; cases h2
    obtain ⟨vs, e1, r1⟩ := m.at hx.ix
    obtain ⟨us, e2, r2⟩ := m.at hy.ix
    refine ⟨x, y, vs, us, rfl, rfl, e1, e2, by rw [← r1.length, ← r2.length]; exact hl, fun p hp => ?_⟩
    exact ⟨.ref p, (p, .lst (xs ++ ys)) :: M, .ref p, m.cons hp ⟨_, upd_same, (r1.append r2).mono (Stay.new hp)⟩, Stay.new hp, q p⟩))
theorem v_add_t {xs ys : List DV} (hl : xs.length + ys.length ≤ sizeLine) (q : Q (.tup (xs ++ ys)) M) : R2D K (rAdd3 K) (.tup xs) (.tup ys) M Q :=
  R2D.r (R2D.r (R2D.r fun vx vy H h1 h2 m => by
    cases h1 with
    | tup s1 r1 =>
      cases h2 with
      | tup s2 r2 =>
        rename_i a vs b us
        refine ⟨a, b, vs, us, rfl, rfl, s1, s2, by rw [← r1.length, ← r2.length]; exact hl, fun z => ?_, fun _ z => ?_, fun _ _ p hp => ?_⟩
        · subst z
          cases r1
          exact ⟨.tup ys, M, .tup s2 r2, m, Stay.refl, q⟩
        · subst z
          cases r2
          rw [List.append_nil] at q
          exact ⟨.tup xs, M, .tup s1 r1, m, Stay.refl, q⟩
        · exact ⟨.tup (xs ++ ys), M, .tup (SqT.of upd_same) ((r1.append r2).mono (Stay.new hp)), m.new hp, Stay.new hp, q⟩))
/-! ### one-place operators -/
theorem we_neg (h : WE X ρ M a fun x M1 => ∃ i, x = .int i ∧ Q (.int (-i)) M1) : WE X ρ M (.UnaryOp .USub a pos) Q := fun σ H rs m => by
  refine wE.of (pe_un un_neg pe_w) ?_
  refine (h σ H rs m).mono fun v H1 ⟨d, M1, h1, h2, h3, i, e, q⟩ => ?_
  subst e
  cases h1
  exact ⟨i, rfl, .int (-i), M1, .int _, h2, h3, q⟩
/-! ### subscripts -/
def isSl : Expr → Bool
  | .Slice _ _ _ _ => true
  | _ => false
theorem plainIx {b : Expr} (h : isSl b = false) : PlainIx b := fun o i => by
  cases b <;> first | rfl | exact Bool.noConfusion h
theorem mon_ix : MonR (rIx K) := fun x y H Q Q' h q => by
  rcases h with ⟨p, xs, i, v, h1, h2, h3, h4, h5⟩ | ⟨p, xs, i, v, h1, h2, h3, h4, h5⟩ | ⟨z, i, c, h1, h2, h3, h4, h5⟩
  · exact .inl ⟨p, xs, i, v, h1, h2, h3, h4, q _ _ h5⟩
  · exact .inr (.inl ⟨p, xs, i, v, h1, h2, h3, h4, q _ _ h5⟩)
  · exact .inr (.inr ⟨z, i, c, h1, h2, h3, h4, q _ _ h5⟩)
theorem we_ix (hb : isSl b = false) (h : WE X ρ M a fun x M1 => WE X ρ M1 b fun y M2 => R2D X.K (rIx X.K) x y M2 Q) : WE X ρ M (.Subscript a b pos) Q := we_op (fun ha hb' => pe_ix ix_seq ha hb' (plainIx hb)) mon_ix h
theorem atI_rel {H : Hp} {ds : List DV} {vs : List V} {i : Int} {d : DV} (r : RDs K H ds vs) (h : atI ds i = some d) : ∃ v, atI vs i = some v ∧ RD K H d v := by
  unfold atI at h ⊢
  rw [← r.length]
  cases e : ixN ds.length i with
  | none => rw [e] at h; cases h
  | some j =>
    rw [e] at h
    have h : ds[j]? = some d := h
    obtain ⟨v, h1, h2⟩ := r.get h
    exact ⟨v, h1, h2⟩
theorem v_ix_t {ds : List DV} {i : Int} {d : DV} (h : atI ds i = some d) (q : Q d M) : R2D K (rIx K) (.tup ds) (.int i) M Q := fun vx vy H h1 h2 m => by
  cases h1 with
  | tup s1 r1 =>
    cases h2
    obtain ⟨v, e, r⟩ := atI_rel r1 h
    exact .inr (.inl ⟨_, _, i, v, rfl, rfl, s1, e, d, M, r, m, Stay.refl, q⟩)
theorem v_ix_l {ds : List DV} {i : Int} {d : DV} {x : Addr} {n : Nat} (hx : AtM M n x (.lst ds)) (h : atI ds i = some d) (q : Q d M) : R2D K (rIx K) (.ref x) (.int i) M Q := fun vx vy H h1 h2 m => by
  cases h1; cases h2
  obtain ⟨vs, e1, r1⟩ := m.at hx.ix
  obtain ⟨v, e, r⟩ := atI_rel r1 h
  exact .inl ⟨_, _, i, v, rfl, rfl, SqL.of e1, e, d, M, r, m, Stay.refl, q⟩
theorem v_ix_s {z : Str} {i : Int} {c : Nat} (hl : z.length ≤ sizeLine) (h : atI z.cps.toList i = some c) (q : Q (.str ⟨#[c]⟩) M) : R2D K (rIx K) (.str z) (.int i) M Q := fun vx vy H h1 h2 m => by
  cases h1; cases h2
  exact .inr (.inr ⟨z, i, c, rfl, rfl, hl, h, .str _, M, .str _, m, Stay.refl, q⟩)
end
end G
namespace G
open PySem L2
/-! ### data: what is compared by == -/
mutual
inductive Pd (M : Mm) : DV → PyData → Prop
  | non : Pd M .non .none
  | bl (b : Bool) : Pd M (.bl b) (.bool b)
  | int (i : Int) : Pd M (.int i) (.int i)
  | str (x : Str) : Pd M (.str x) (.str x)
  | tup {ds : List DV} {ps : List PyData} : Pds M ds ps → Pd M (.tup ds) (.tuple ps)
  | lst {a : Addr} {i : Nat} {ds : List DV} {ps : List PyData} : AtM M i a (.lst ds) → Pds M ds ps → Pd M (.ref a) (.list ps)
  | lis {ds : List DV} {ps : List PyData} : Pds M ds ps → Pd M (.lis ds) (.list ps)
inductive Pds (M : Mm) : List DV → List PyData → Prop
  | nil : Pds M [] []
  | cons {d : DV} {ds : List DV} {p : PyData} {ps : List PyData} : Pd M d p → Pds M ds ps → Pds M (d :: ds) (p :: ps)
end
mutual
theorem Pd.dp {K : Fg} {H : Hp} {M : Mm} (m : RM K H M) : ∀ {d : DV} {p : PyData} {v : V}, Pd M d p → RD K H d v → Dp K H v p
  | _, _, _, .non, h => by cases h; exact .non
  | _, _, _, .bl b, h => by cases h; exact .bl b
  | _, _, _, .int b, h => by cases h; exact .int b
  | _, _, _, .str b, h => by cases h; exact .str b
  | _, _, _, .tup q, h => by
    cases h with
    | tup s r => exact .tup s (Pds.dp m q r)
  | _, _, _, .lst ha q, h => by
    cases h
    obtain ⟨vs, e, r⟩ := m.at ha.ix
    exact .lst (SqL.of e) (Pds.dp m q r)
  | _, _, _, .lis q, h => by
    cases h with
    | lis s r => exact .lst s.sq (Pds.dp m q r)
theorem Pds.dp {K : Fg} {H : Hp} {M : Mm} (m : RM K H M) : ∀ {d : List DV} {p : List PyData} {v : List V}, Pds M d p → RDs K H d v → DpAll K H v p
  | _, _, _, .nil, h => by cases h; exact .nil
  | _, _, _, .cons a b, h => by
    cases h with
    | cons r t => exact .cons (Pd.dp m a r) (Pds.dp m b t)
end
section
variable {X : Cy} {P : Program} {w : World} {K : Fg} {mg : Str → Option Value} {base : Heap} {sc : Scope} {N L C Gs Bs : List Str} {k : Nat} {ρ : Ro} {M : Mm} {Q : DV → Mm → Prop} {R : Bool → Mm → Prop} {a b c e : Expr} {es rest : List Expr} {pos p p2 apos : Pos}
/-! ### comparisons -/
def QB (R : Bool → Mm → Prop) : DV → Mm → Prop := fun d M => ∃ b, d = .bl b ∧ R b M
theorem qb {c : Bool} (h : R c M) : QB R (.bl c) M := ⟨c, rfl, h⟩
theorem wt_op {r : R2} (pt : ∀ {ta tb : TE}, PE X a ta → PE X b tb → PT X e (tTest (tOp r ta tb))) (mr : MonR r) (h : WE X ρ M a fun x M1 => WE X ρ M1 b fun y M2 => R2D X.K r x y M2 (QB R)) : WT X ρ M e R := fun σ H rs m => by
  refine wT.of (pt pe_w pe_w) ?_
  have q : tOp r (wE X a) (wE X b) σ H (LE X.K H (QB R)) := tOp_of (ρ := ρ) (fun Q' hq => (h σ H rs m).mono fun v H1 z => hq v H1 (by
    obtain ⟨d, M1, h1, h2, h3, h4⟩ := z
    exact ⟨d, M1, h1, h2, h3, fun H2 r2 m2 => h4 σ H2 r2 m2⟩)) rs (fun _ _ _ _ h q => h.mono q) mr
  show wE X a σ H fun x H1 => wE X b σ H1 fun y H2 => r x y H2 _
  refine wE.mono (show wE X a σ H fun x H1 => wE X b σ H1 fun y H2 => r x y H2 _ from q) fun x H1 z => wE.mono z fun y H2 z => mr _ _ _ _ _ z fun v H' ⟨d, M', g1, g2, g3, bb, g4, g5⟩ => ?_
  subst g4
  cases g1
  exact ⟨bb, rfl, M', g2, g3, g5⟩
def rEq3 (K : Fg) : R2 := fun x y H Q => rEq x y H Q ∨ rEqD K x y H Q
def rNe3 (K : Fg) : R2 := fun x y H Q => rNe x y H Q ∨ rNeD K x y H Q
theorem mon_eq : MonR (rEq3 K) := fun x y H Q Q' h q => by
  rcases h with ⟨h1, h2⟩ | ⟨d, e, h1, h2, h3, h4, h5⟩
  · exact .inl ⟨h1, q _ _ h2⟩
  · exact .inr ⟨d, e, h1, h2, h3, h4, q _ _ h5⟩
theorem mon_ne : MonR (rNe3 K) := fun x y H Q Q' h q => by
  rcases h with ⟨h1, h2⟩ | ⟨d, e, h1, h2, h3, h4, h5⟩
  · exact .inl ⟨h1, q _ _ h2⟩
  · exact .inr ⟨d, e, h1, h2, h3, h4, q _ _ h5⟩
theorem we_eq (F : Fx X P w K mg base sc N L C Gs Bs k) (h : WE X ρ M a fun x M1 => WE X ρ M1 b fun y M2 => R2D X.K (rEq3 X.K) x y M2 Q) : WE X ρ M (.Compare a [.Eq] [b] pos) Q :=
  we_op (fun ha hb => pe_cmpR (op_eq.or (op_eqD F.room.units)) ha hb (nomark _)) mon_eq h
theorem wt_eq (F : Fx X P w K mg base sc N L C Gs Bs k) (h : WE X ρ M a fun x M1 => WE X ρ M1 b fun y M2 => R2D X.K (rEq3 X.K) x y M2 (QB R)) : WT X ρ M (.Compare a [.Eq] [b] pos) R :=
  wt_op (fun ha hb => pt_cmpR (op_eq.or (op_eqD F.room.units)) ha hb (nomark _)) mon_eq h
theorem we_ne (F : Fx X P w K mg base sc N L C Gs Bs k) (h : WE X ρ M a fun x M1 => WE X ρ M1 b fun y M2 => R2D X.K (rNe3 X.K) x y M2 Q) : WE X ρ M (.Compare a [.NotEq] [b] pos) Q :=
  we_op (fun ha hb => pe_cmpR (op_ne.or (op_neD F.room.units)) ha hb (nomark _)) mon_ne h
theorem wt_ne (F : Fx X P w K mg base sc N L C Gs Bs k) (h : WE X ρ M a fun x M1 => WE X ρ M1 b fun y M2 => R2D X.K (rNe3 X.K) x y M2 (QB R)) : WT X ρ M (.Compare a [.NotEq] [b] pos) R :=
  wt_op (fun ha hb => pt_cmpR (op_ne.or (op_neD F.room.units)) ha hb (nomark _)) mon_ne h
theorem v_eq_i {i j : Int} (q : Q (.bl (decide (i = j))) M) : R2D K (rEq3 K) (.int i) (.int j) M Q := fun vx vy H h1 h2 m => by
  cases h1; cases h2
  refine .inl ⟨rfl, ?_⟩
  have e : decide (V.int i = V.int j) = decide (i = j) := by rw [dec_int]; rfl
  rw [e]
  exact ⟨_, M, .bl _, m, Stay.refl, q⟩
theorem v_ne_i {i j : Int} (q : Q (.bl (!decide (i = j))) M) : R2D K (rNe3 K) (.int i) (.int j) M Q := fun vx vy H h1 h2 m => by
  cases h1; cases h2
  refine .inl ⟨rfl, ?_⟩
  have e : decide (V.int i = V.int j) = decide (i = j) := by rw [dec_int]; rfl
  rw [e]
  exact ⟨_, M, .bl _, m, Stay.refl, q⟩
theorem dec_bl {i j : Bool} : decide (V.bl i = V.bl j) = decide (i = j) := by cases i <;> cases j <;> decide
theorem dec_str {i j : Str} : decide (V.str i = V.str j) = decide (i = j) := by
  by_cases e : i = j
  · subst e; simp
  · rw [decide_eq_false e, decide_eq_false fun q => e (V.str.inj q)]
theorem v_eq_b {i j : Bool} (q : Q (.bl (decide (i = j))) M) : R2D K (rEq3 K) (.bl i) (.bl j) M Q := fun vx vy H h1 h2 m => by
  cases h1; cases h2
  refine .inl ⟨rfl, ?_⟩
  rw [dec_bl]
  exact ⟨_, M, .bl _, m, Stay.refl, q⟩
theorem v_ne_b {i j : Bool} (q : Q (.bl (!decide (i = j))) M) : R2D K (rNe3 K) (.bl i) (.bl j) M Q := fun vx vy H h1 h2 m => by
  cases h1; cases h2
  refine .inl ⟨rfl, ?_⟩
  rw [dec_bl]
  exact ⟨_, M, .bl _, m, Stay.refl, q⟩
theorem v_eq_s {i j : Str} (q : Q (.bl (decide (i = j))) M) : R2D K (rEq3 K) (.str i) (.str j) M Q := fun vx vy H h1 h2 m => by
  cases h1; cases h2
  refine .inl ⟨rfl, ?_⟩
  rw [dec_str]
  exact ⟨_, M, .bl _, m, Stay.refl, q⟩
theorem v_ne_s {i j : Str} (q : Q (.bl (!decide (i = j))) M) : R2D K (rNe3 K) (.str i) (.str j) M Q := fun vx vy H h1 h2 m => by
  cases h1; cases h2
  refine .inl ⟨rfl, ?_⟩
  rw [dec_str]
  exact ⟨_, M, .bl _, m, Stay.refl, q⟩
theorem v_eq_d {x y : DV} {d e : PyData} (h1 : Pd M x d) (h2 : Pd M y e) (s1 : SeqAt.shaped d = true) (s2 : SeqAt.shaped e = true) (q : Q (.bl (PyData.eqv d e)) M) : R2D K (rEq3 K) x y M Q := fun vx vy H r1 r2 m =>
  .inr ⟨d, e, h1.dp m r1, h2.dp m r2, s1, s2, _, M, .bl _, m, Stay.refl, q⟩
theorem v_ne_d {x y : DV} {d e : PyData} (h1 : Pd M x d) (h2 : Pd M y e) (s1 : SeqAt.shaped d = true) (s2 : SeqAt.shaped e = true) (q : Q (.bl (!PyData.eqv d e)) M) : R2D K (rNe3 K) x y M Q := fun vx vy H r1 r2 m =>
  .inr ⟨d, e, h1.dp m r1, h2.dp m r2, s1, s2, _, M, .bl _, m, Stay.refl, q⟩
/-- data that are compared by < -/
def rLtD (K : Fg) : R2 := fun x y H Q => ∃ d e, Dp K H x d ∧ Dp K H y e ∧ PySem.W.alike d e = true ∧ d ≠ .none ∧ d.depth ≤ 40 ∧ Q (.bl (PySem.W.dataLt d e)) H
def rLt3 (K : Fg) : R2 := fun x y H Q => rI0 (fun i j => .bl (decide (i < j))) x y H Q ∨ rLtD K x y H Q
theorem op_ltD {X : Cx} (hu : X.A.units + 64 < cLine) : OpR X (compareOp .Lt) (rLtD X.K) := by
  intro pins s σ H x y u v Q I r1 r2 h
  obtain ⟨d, e, h1, h2, h3, h4, h5, h6⟩ := h
  obtain ⟨as, q1⟩ := Dp.reads I d x u h1 r1
  obtain ⟨bs, q2⟩ := Dp.reads I e y v h2 r2
  exact PySem.W.lt_data q1 q2 h3 h4 (by have := Nat.min_le_left d.depth e.depth; omega) ⟨.bl _, H, I, rfl, h6⟩
theorem mon_lt : MonR (rLt3 K) := fun x y H Q Q' h q => by
  rcases h with h | ⟨d, e, h1, h2, h3, h4, h5, h6⟩
  · exact .inl (monI0 x y H Q Q' h q)
  · exact .inr ⟨d, e, h1, h2, h3, h4, h5, q _ _ h6⟩
theorem v_lt_d {x y : DV} {d e : PyData} (h1 : Pd M x d) (h2 : Pd M y e) (ha : PySem.W.alike d e = true) (hn : d ≠ .none) (hd : d.depth ≤ 40) (q : Q (.bl (PySem.W.dataLt d e)) M) : R2D K (rLt3 K) x y M Q := fun vx vy H r1 r2 m =>
  .inr ⟨d, e, h1.dp m r1, h2.dp m r2, ha, hn, hd, _, M, .bl _, m, Stay.refl, q⟩
theorem we_lt (F : Fx X P w K mg base sc N L C Gs Bs k) (h : WE X ρ M a fun x M1 => WE X ρ M1 b fun y M2 => R2D X.K (rLt3 X.K) x y M2 Q) : WE X ρ M (.Compare a [.Lt] [b] pos) Q := we_op (fun ha hb => pe_cmpR (op_lt.or (op_ltD F.room.units)) ha hb (nomark _)) mon_lt h
theorem we_le (h : WE X ρ M a fun x M1 => WE X ρ M1 b fun y M2 => R2D X.K (rI0 fun i j => .bl (decide (i ≤ j))) x y M2 Q) : WE X ρ M (.Compare a [.LtE] [b] pos) Q := we_op (fun ha hb => pe_cmpR op_le ha hb (nomark _)) monI0 h
theorem we_gt (h : WE X ρ M a fun x M1 => WE X ρ M1 b fun y M2 => R2D X.K (rI0 fun i j => .bl (decide (j < i))) x y M2 Q) : WE X ρ M (.Compare a [.Gt] [b] pos) Q := we_op (fun ha hb => pe_cmpR op_gt ha hb (nomark _)) monI0 h
theorem we_ge (h : WE X ρ M a fun x M1 => WE X ρ M1 b fun y M2 => R2D X.K (rI0 fun i j => .bl (decide (j ≤ i))) x y M2 Q) : WE X ρ M (.Compare a [.GtE] [b] pos) Q := we_op (fun ha hb => pe_cmpR op_ge ha hb (nomark _)) monI0 h
theorem wt_lt (F : Fx X P w K mg base sc N L C Gs Bs k) (h : WE X ρ M a fun x M1 => WE X ρ M1 b fun y M2 => R2D X.K (rLt3 X.K) x y M2 (QB R)) : WT X ρ M (.Compare a [.Lt] [b] pos) R := wt_op (fun ha hb => pt_cmpR (op_lt.or (op_ltD F.room.units)) ha hb (nomark _)) mon_lt h
theorem wt_le (h : WE X ρ M a fun x M1 => WE X ρ M1 b fun y M2 => R2D X.K (rI0 fun i j => .bl (decide (i ≤ j))) x y M2 (QB R)) : WT X ρ M (.Compare a [.LtE] [b] pos) R := wt_op (fun ha hb => pt_cmpR op_le ha hb (nomark _)) monI0 h
theorem wt_gt (h : WE X ρ M a fun x M1 => WE X ρ M1 b fun y M2 => R2D X.K (rI0 fun i j => .bl (decide (j < i))) x y M2 (QB R)) : WT X ρ M (.Compare a [.Gt] [b] pos) R := wt_op (fun ha hb => pt_cmpR op_gt ha hb (nomark _)) monI0 h
theorem wt_ge (h : WE X ρ M a fun x M1 => WE X ρ M1 b fun y M2 => R2D X.K (rI0 fun i j => .bl (decide (j ≤ i))) x y M2 (QB R)) : WT X ρ M (.Compare a [.GtE] [b] pos) R := wt_op (fun ha hb => pt_cmpR op_ge ha hb (nomark _)) monI0 h
/-! is, is not: None and flags -/
def rIs3 : R2 := fun x y H Q => (y = .non ∧ Q (.bl (decide (x = .non))) H) ∨ rIsB x y H Q
def rNot3 : R2 := fun x y H Q => (y = .non ∧ Q (.bl (!decide (x = .non))) H) ∨ rNotB x y H Q
theorem mon_is : MonR rIs3 := fun x y H Q Q' h q => by
  rcases h with ⟨h1, h2⟩ | ⟨d, e, h1, h2, h3⟩
  · exact .inl ⟨h1, q _ _ h2⟩
  · exact .inr ⟨d, e, h1, h2, q _ _ h3⟩
theorem mon_isnot : MonR rNot3 := fun x y H Q Q' h q => by
  rcases h with ⟨h1, h2⟩ | ⟨d, e, h1, h2, h3⟩
  · exact .inl ⟨h1, q _ _ h2⟩
  · exact .inr ⟨d, e, h1, h2, q _ _ h3⟩
theorem we_is (h : WE X ρ M a fun x M1 => WE X ρ M1 b fun y M2 => R2D X.K rIs3 x y M2 Q) : WE X ρ M (.Compare a [.Is] [b] pos) Q := we_op (fun ha hb => pe_cmpR (op_isN.or op_isBl) ha hb (nomark _)) mon_is h
theorem we_isnot (h : WE X ρ M a fun x M1 => WE X ρ M1 b fun y M2 => R2D X.K rNot3 x y M2 Q) : WE X ρ M (.Compare a [.IsNot] [b] pos) Q := we_op (fun ha hb => pe_cmpR (op_notN.or op_notBl) ha hb (nomark _)) mon_isnot h
theorem wt_is (h : WE X ρ M a fun x M1 => WE X ρ M1 b fun y M2 => R2D X.K rIs3 x y M2 (QB R)) : WT X ρ M (.Compare a [.Is] [b] pos) R := wt_op (fun ha hb => pt_cmpR (op_isN.or op_isBl) ha hb (nomark _)) mon_is h
theorem wt_isnot (h : WE X ρ M a fun x M1 => WE X ρ M1 b fun y M2 => R2D X.K rNot3 x y M2 (QB R)) : WT X ρ M (.Compare a [.IsNot] [b] pos) R := wt_op (fun ha hb => pt_cmpR (op_notN.or op_notBl) ha hb (nomark _)) mon_isnot h
def DV.isNon : DV → Bool
  | .non => true
  | _ => false
theorem RD.non_iff {H : Hp} {d : DV} {v : V} (h : RD K H d v) : decide (v = .non) = d.isNon := by cases h <;> rfl
theorem v_is_n {x : DV} (q : Q (.bl x.isNon) M) : R2D K rIs3 x .non M Q := fun vx vy H h1 h2 m => by
  cases h2
  refine .inl ⟨rfl, ?_⟩
  rw [h1.non_iff]
  exact ⟨_, M, .bl _, m, Stay.refl, q⟩
theorem v_isnot_n {x : DV} (q : Q (.bl (!x.isNon)) M) : R2D K rNot3 x .non M Q := fun vx vy H h1 h2 m => by
  cases h2
  refine .inl ⟨rfl, ?_⟩
  rw [h1.non_iff]
  exact ⟨_, M, .bl _, m, Stay.refl, q⟩
theorem v_is_b {x y : Bool} (q : Q (.bl (decide (x = y))) M) : R2D K rIs3 (.bl x) (.bl y) M Q := fun vx vy H h1 h2 m => by
  cases h1; cases h2
  exact .inr ⟨x, y, rfl, rfl, _, M, .bl _, m, Stay.refl, q⟩
theorem v_isnot_b {x y : Bool} (q : Q (.bl (!decide (x = y))) M) : R2D K rNot3 (.bl x) (.bl y) M Q := fun vx vy H h1 h2 m => by
  cases h1; cases h2
  exact .inr ⟨x, y, rfl, rfl, _, M, .bl _, m, Stay.refl, q⟩
/-! ### a chain of two -/
theorem we_chain' {r r' : R2} {op op' : CmpOp} (ho : OpR X (compareOp op) r) (ho' : OpR X (compareOp op') r') (mr : MonR r) (mr' : MonR r') (hm : lastMarks [op, op'] [b, c] = false)
    (h : WE X ρ M a fun x M1 => WE X ρ M1 b fun y M2 => R2D X.K r x y M2 (QB fun t M3 => (t = true → WE X ρ M3 c fun z M4 => R2D X.K r' y z M4 Q) ∧ (t = false → Q (.bl false) M3))) : WE X ρ M (.Compare a [op, op'] [b, c] pos) Q := fun σ H rs m => by
  refine wE.of (pe_chain ho ho' pe_w pe_w pe_w hm) ?_
  refine (h σ H rs m).mono fun vx H1 ⟨x, M1, h1, h2, h3, h4⟩ => ?_
  refine (h4 σ H1 (rs.mono h3) h2).mono fun vy H2 ⟨y, M2, g1, g2, g3, g4⟩ => ?_
  refine mr _ _ _ _ _ (g4 vx vy H2 (h1.mono g3) g1 g2) fun v H3 ⟨d, M3, k1, k2, k3, t, k4, k5, k6⟩ => ?_
  subst k4
  cases k1
  refine ⟨t, rfl, ?_⟩
  cases t with
  | true =>
    rw [if_pos rfl]
    refine (k5 rfl σ H3 ((rs.mono h3).mono (g3.trans k3)) k2).mono fun vz H4 ⟨z, M4, l1, l2, l3, l4⟩ => ?_
    exact mr' _ _ _ _ _ (l4 vy vz H4 ((g1.mono k3).mono l3) l1 l2) fun _ _ q => q.stay (((h3.trans g3).trans k3).trans l3)
  | false =>
    rw [if_neg (by decide)]
    exact ⟨_, M3, .bl false, k2, (h3.trans g3).trans k3, k6 rfl⟩
theorem wt_chain' {r r' : R2} {op op' : CmpOp} (ho : OpR X (compareOp op) r) (ho' : OpR X (compareOp op') r') (mr : MonR r) (mr' : MonR r') (hm : lastMarks [op, op'] [b, c] = false)
    (h : WE X ρ M a fun x M1 => WE X ρ M1 b fun y M2 => R2D X.K r x y M2 (QB fun t M3 => (t = true → WE X ρ M3 c fun z M4 => R2D X.K r' y z M4 (QB R)) ∧ (t = false → R false M3))) : WT X ρ M (.Compare a [op, op'] [b, c] pos) R := fun σ H rs m => by
  refine wT.of (pt_chain ho ho' pe_w pe_w pe_w hm) ?_
  refine (h σ H rs m).mono fun vx H1 ⟨x, M1, h1, h2, h3, h4⟩ => ?_
  refine (h4 σ H1 (rs.mono h3) h2).mono fun vy H2 ⟨y, M2, g1, g2, g3, g4⟩ => ?_
  refine mr _ _ _ _ _ (g4 vx vy H2 (h1.mono g3) g1 g2) fun v H3 ⟨d, M3, k1, k2, k3, t, k4, k5, k6⟩ => ?_
  subst k4
  cases k1
  refine ⟨t, rfl, ?_⟩
  cases t with
  | true =>
    rw [if_pos rfl]
    refine (k5 rfl σ H3 ((rs.mono h3).mono (g3.trans k3)) k2).mono fun vz H4 ⟨z, M4, l1, l2, l3, l4⟩ => ?_
    refine mr' _ _ _ _ _ (l4 vy vz H4 ((g1.mono k3).mono l3) l1 l2) fun _ _ ⟨d, M5, n1, n2, n3, t, n4, n5⟩ => ?_
    subst n4
    cases n1
    exact ⟨t, rfl, M5, n2, (((h3.trans g3).trans k3).trans l3).trans n3, n5⟩
  | false =>
    rw [if_neg (by decide)]
    exact ⟨false, rfl, M3, k2, (h3.trans g3).trans k3, k6 rfl⟩
/-! ### tests -/
theorem wt_ww (h : WW X ρ M e R) : WT X ρ M e R := fun σ H rs m => fun pins s I => h σ H rs m _ pins s I
theorem wt_and1 (h : WT X ρ M a R) : WW X ρ M (.BoolOp .And [a] pos) R := fun σ H rs m => wW.of (pw_and1 pt_w) (h σ H rs m)
theorem wt_or1 (h : WT X ρ M a R) : WW X ρ M (.BoolOp .Or [a] pos) R := fun σ H rs m => wW.of (pw_or1 pt_w) (h σ H rs m)
theorem wt_and (h : WT X ρ M a fun t M1 => (t = true → WW X ρ M1 (.BoolOp .And (b :: rest) pos) R) ∧ (t = false → R false M1)) : WW X ρ M (.BoolOp .And (a :: b :: rest) pos) R := fun σ H rs m => by
  refine wW.of (pw_and pt_w pw_w) ?_
  refine (h σ H rs m).mono fun t H1 ⟨M1, h1, h2, h3, h4⟩ => ?_
  cases t with
  | true => rw [if_pos rfl]; exact (h3 rfl σ H1 (rs.mono h2) h1).mono fun _ _ z => z.stay h2
  | false => rw [if_neg (by decide)]; exact ⟨M1, h1, h2, h4 rfl⟩
theorem wt_or (h : WT X ρ M a fun t M1 => (t = true → R true M1) ∧ (t = false → WW X ρ M1 (.BoolOp .Or (b :: rest) pos) R)) : WW X ρ M (.BoolOp .Or (a :: b :: rest) pos) R := fun σ H rs m => by
  refine wW.of (pw_or pt_w pw_w) ?_
  refine (h σ H rs m).mono fun t H1 ⟨M1, h1, h2, h3, h4⟩ => ?_
  cases t with
  | true => rw [if_pos rfl]; exact ⟨M1, h1, h2, h3 rfl⟩
  | false => rw [if_neg (by decide)]; exact (h4 rfl σ H1 (rs.mono h2) h1).mono fun _ _ z => z.stay h2
theorem wt_not (h : WT X ρ M a fun t M1 => R (!t) M1) : WT X ρ M (.UnaryOp .Not a pos) R := fun σ H rs m => wT.of (pt_not pt_w) ((h σ H rs m).mono fun _ _ z => z)
theorem we_if (h : WT X ρ M c fun t M1 => (t = true → WE X ρ M1 a Q) ∧ (t = false → WE X ρ M1 b Q)) : WE X ρ M (.IfExp c a b pos) Q := fun σ H rs m => by
  refine wE.of (pe_ifExp pt_w pe_w pe_w) ?_
  refine (h σ H rs m).mono fun t H1 ⟨M1, h1, h2, h3, h4⟩ => ?_
  cases t with
  | true => rw [if_pos rfl]; exact (h3 rfl σ H1 (rs.mono h2) h1).mono fun _ _ z => z.stay h2
  | false => rw [if_neg (by decide)]; exact (h4 rfl σ H1 (rs.mono h2) h1).mono fun _ _ z => z.stay h2
theorem we_one {op : BoolOp} (h : WE X ρ M a Q) : WE X ρ M (.BoolOp op [a] pos) Q := fun σ H rs m => wE.of (pe_one pe_w) (h σ H rs m)
theorem we_and (h : WE X ρ M a fun x M1 => ∃ t, x = .bl t ∧ (t = true → WE X ρ M1 (.BoolOp .And (b :: rest) pos) Q) ∧ (t = false → Q (.bl false) M1)) : WE X ρ M (.BoolOp .And (a :: b :: rest) pos) Q := fun σ H rs m => by
  refine wE.of (pe_and pe_w pe_w) ?_
  refine (h σ H rs m).mono fun v H1 ⟨d, M1, h0, h1, h2, t, e, h3, h4⟩ => ?_
  subst e
  cases h0
  refine ⟨t, rfl, ?_⟩
  cases t with
  | true => rw [if_pos rfl]; exact (h3 rfl σ H1 (rs.mono h2) h1).mono fun _ _ z => z.stay h2
  | false => rw [if_neg (by decide)]; exact ⟨_, M1, .bl false, h1, h2, h4 rfl⟩
theorem we_or (h : WE X ρ M a fun x M1 => ∃ t, x = .bl t ∧ (t = true → Q (.bl true) M1) ∧ (t = false → WE X ρ M1 (.BoolOp .Or (b :: rest) pos) Q)) : WE X ρ M (.BoolOp .Or (a :: b :: rest) pos) Q := fun σ H rs m => by
  refine wE.of (pe_or pe_w pe_w) ?_
  refine (h σ H rs m).mono fun v H1 ⟨d, M1, h0, h1, h2, t, e, h3, h4⟩ => ?_
  subst e
  cases h0
  refine ⟨t, rfl, ?_⟩
  cases t with
  | true => rw [if_pos rfl]; exact ⟨_, M1, .bl true, h1, h2, h3 rfl⟩
  | false => rw [if_neg (by decide)]; exact (h4 rfl σ H1 (rs.mono h2) h1).mono fun _ _ z => z.stay h2
theorem we_not (h : WE X ρ M a fun x M1 => ∃ t, x = .bl t ∧ Q (.bl (!t)) M1) : WE X ρ M (.UnaryOp .Not a pos) Q := fun σ H rs m => by
  refine wE.of (pe_not pe_w) ?_
  refine (h σ H rs m).mono fun v H1 ⟨d, M1, h0, h1, h2, t, e, h3⟩ => ?_
  subst e
  cases h0
  exact ⟨t, rfl, _, M1, .bl _, h1, h2, h3⟩
/-- a value that is a flag, as a test -/
def plainT : Expr → Bool
  | .UnaryOp .Not _ _ => false
  | .BoolOp _ _ _ => false
  | .IfExp _ _ _ _ => false
  | .Compare _ _ _ _ => false
  | _ => true
theorem plainT_ok {e : Expr} {env : Env} (h : plainT e = true) : ∀ whole, isTrue e env whole = (do let v ← whole; standAt e.pos; holding [v] (truthy v)) := fun whole => by
  cases e <;> first | rfl | exact Bool.noConfusion h | (rename_i op _ _; cases op <;> first | rfl | exact Bool.noConfusion h)
/-- a value's truth -/
def TruD (M : Mm) : DV → Bool → Prop
  | .non, k => k = false
  | .bl b, k => k = b
  | .int i, k => k = (i != 0)
  | .str y, k => y.length ≤ sizeLine ∧ k = ((y.length : Int) != 0)
  | .tup ds, k => k = !ds.isEmpty
  | .ref a, k => ∃ i xs, AtM M i a (.lst xs) ∧ k = !xs.isEmpty
  | .ty _, _ => False
  | .lis ds, k => k = !ds.isEmpty
  | .tupA _ ds, k => k = !ds.isEmpty
  | .lam _ _, _ => False
  | .clo _ _, _ => False
theorem wt_val (hp : plainT e = true) (h : WE X ρ M e fun x M1 => ∃ t, x = .bl t ∧ R t M1) : WT X ρ M e R := fun σ H rs m => by
  refine wT.of (pt_val pe_w (plainT_ok hp)) ?_
  refine (h σ H rs m).mono fun v H1 ⟨d, M1, h0, h1, h2, t, e, h3⟩ => ?_
  subst e
  cases h0
  exact ⟨t, rfl, M1, h1, h2, h3⟩
end
end G
namespace G
open PySem L2
/-! ### promises over values -/
abbrev SpD := List DV → Mm → (DV → Mm → Prop) → Prop
def sp1 (K : Fg) (n : Nat) (sp : SpD) : Sp := fun vs H Q _ => ∃ ds M Q0, RDs K H ds vs ∧ RM K H M ∧ ds.length = n ∧ sp ds M Q0 ∧ ∀ d M', Q0 d M' → ∀ v H', RD K H' d v → RM K H' M' → Stay K H H' → Q v H'
/-- a def of the module that keeps a promise -/
class Cal (P : Program) (w : World) (K : Fg) (mg : Str → Option Value) (base : Heap) (x : Str) (j n : outParam Nat) (sp : outParam SpD) : Prop where
  ex : ∃ (f : Addr) (fd : FuncData) (ps : List Str), FnOk P w K mg base CX0 j f fd ps (sp1 K n sp) ∧ mg x = some (.ref f) ∧ PySem.W.keepIn K (.ref f) = true ∧ Binds K fd ps []
/-- a method of the class at C -/
class Mcal (P : Program) (w : World) (K : Fg) (mg : Str → Option Value) (base : Heap) (C : outParam Addr) (m : Str) (j n : outParam Nat) (sp : outParam SpD) : Prop where
  cl : Cls K C
  ex : ∃ (f : Addr) (fd : FuncData) (ps : List Str), FnOk P w K mg base CX0 j f fd ps (sp1 K n sp) ∧ Meth K C m f ∧ Binds K fd ps []
section
variable {X : Cy} {P : Program} {w : World} {K : Fg} {mg : Str → Option Value} {base : Heap} {sc : Scope} {N L C Gs Bs : List Str} {k j n : Nat} {ρ ρ' : Ro} {M : Mm} {Q : DV → Mm → Prop} {R : Bool → Mm → Prop} {a b c e o : Expr} {es rest : List Expr} {pos p p2 apos : Pos} {x m : Str} {sp : SpD}
theorem we_call (F : Fx X P w K mg base sc N L C Gs Bs k) (G : Cal P w K mg base x j n sp) (hj : j ≤ k) (hx : x ∈ Gs) (hs : noStars (e :: es) = true) (h : WA X ρ M (e :: es) fun ds M1 => ds.length = n ∧ sp ds M1 Q) : WE X ρ M (.Call (.Name x p) (e :: es) [] pos) Q := fun σ H rs m => by
  obtain ⟨f, fd, ps, G, hm, hk, hb⟩ := G.ex
  obtain ⟨g1, g2, g3⟩ := F.gl x hx
  obtain ⟨h1, h2⟩ := noStars_cons hs
  have eP := F.hP; have ew := F.hw; have eK := F.hK; have eg := F.hmg; have eb := F.hbase
  subst eP ew eK eg eb
  refine wE.of (pe_call (E := E0) G (F.room.mono hj) g1 hm hk hb .nil pass0 pa_w g2 (starEach_cons h1) (noStars_any h2)) ?_
  refine (h σ H rs m).mono fun vs H1 ⟨ds, M1, k1, k2, k3, k4, k5⟩ => ?_
  rw [List.append_nil]
  exact ⟨ds, M1, Q, k1, k2, k4, k5, fun d M' q v H' r1 r2 r3 => ⟨d, M', r1, r2, k3.trans r3, q⟩⟩
theorem we_call0 (F : Fx X P w K mg base sc N L C Gs Bs k) (G : Cal P w K mg base x j 0 sp) (hj : j ≤ k) (hx : x ∈ Gs) (h : sp [] M Q) : WE X ρ M (.Call (.Name x p) [] [] pos) Q := fun σ H rs m => by
  obtain ⟨f, fd, ps, G, hm, hk, hb⟩ := G.ex
  obtain ⟨g1, g2, g3⟩ := F.gl x hx
  have eP := F.hP; have ew := F.hw; have eK := F.hK; have eg := F.hmg; have eb := F.hbase
  subst eP ew eK eg eb
  refine wE.of (pe_call0 (E := E0) G (F.room.mono hj) g1 hm hk hb .nil pass0 g2) ?_
  exact ⟨[], M, Q, .nil, m, rfl, h, fun d M' q v H' r1 r2 r3 => ⟨d, M', r1, r2, r3, q⟩⟩
def notCall : Expr → Bool
  | .Call _ _ _ _ => false
  | _ => true
theorem attrBase {o : Expr} {m : Str} {env : Env} {wh : Sem Value} (h : notCall o = true) : attributeBase o m env wh = wh := by
  cases o <;> first | rfl | exact Bool.noConfusion h
theorem noStars_all {env : Env} {pos : Pos} : ∀ {es : List Expr}, noStars es = true → (backTo pos (starEach es env)).all (!·.1) = true
  | [], _ => rfl
  | e :: es, h => by
    obtain ⟨h1, h2⟩ := noStars_cons h
    rw [starEach_cons h1]
    show (true && (backTo pos (starEach es env)).all (!·.1)) = true
    rw [noStars_all h2]
    rfl
theorem meth_eval {o : Expr} {m : Str} {apos pos : Pos} {es : List Expr} {env : Env} (ho : notCall o = true) (hs : noStars es = true) (hn : es.length < 30) (hl : (apos.endLine == pos.line) = true) :
    eval (.Call (.Attribute o m apos) es [] pos) env = (do
      let ov ← eval o env
      standAt apos.atName
      let (f, first) ← holding [ov] (getMethod ov m (do return (← importBound o env).getD true))
      callWith pos f first (backTo pos (starEach es env)) (backToKw pos (keywordEach [] env))) := by
  have hf : methodCallForm (es.length + ([] : List Keyword).length) (backTo pos (starEach es env)) (backToKw pos (keywordEach [] env)) = true := by
    unfold methodCallForm
    rw [noStars_all hs]
    show (true && true && decide (es.length + 0 + 0 < 30)) = true
    rw [decide_eq_true (by omega)]
    rfl
  show (do
    let ov ← attributeBase o m env (eval o env)
    standAt apos.atName
    methodCall o m apos pos env ov (es.length + ([] : List Keyword).length) (backTo pos (starEach es env)) (backToKw pos (keywordEach [] env))) = _
  rw [attrBase ho]
  unfold methodCall
  rw [hf]
  have hp : methodCallPos true o env apos pos = pure pos := by
    unfold methodCallPos
    rw [if_pos (by rw [hl]; rfl)]
  rw [hp]
  rfl
theorem RF.lookup_none {H : Hp} {f : Str} : ∀ {fs : List (Str × DV)} {gs : List (Str × V)}, RF K H fs gs → fs.lookup f = none → gs.lookup f = none
  | _, _, .nil, _ => rfl
  | _, _, .cons (x := x) r t, h => by
    rw [List.lookup_cons] at h ⊢
    cases q : (f == x) with
    | true => rw [q] at h; cases h
    | false => rw [q] at h; exact RF.lookup_none t h
theorem RF.lookup_some {H : Hp} {f : Str} {d : DV} : ∀ {fs : List (Str × DV)} {gs : List (Str × V)}, RF K H fs gs → fs.lookup f = some d → ∃ v, gs.lookup f = some v ∧ RD K H d v
  | _, _, .nil, h => by cases h
  | _, _, .cons (x := x) r t, h => by
    rw [List.lookup_cons] at h ⊢
    cases q : (f == x) with
    | true => rw [q] at h; cases h; exact ⟨_, rfl, r⟩
    | false => rw [q] at h; exact RF.lookup_some t h
/-- o.m(e, ..) -/
theorem we_meth {Cc : Addr} (F : Fx X P w K mg base sc N L C Gs Bs k) (G : Mcal P w K mg base Cc m j n sp) (hj : j ≤ k) (ho : notCall o = true) (hs : noStars (e :: es) = true) (hn : (e :: es).length < 30) (hl : (apos.endLine == pos.line) = true)
    (h : WE X ρ M o fun d M1 => ∃ a i fs, d = .ref a ∧ AtM M1 i a (.ins Cc fs) ∧ fs.lookup m = none ∧ WA X ρ M1 (e :: es) fun ds M2 => ds.length + 1 = n ∧ sp (.ref a :: ds) M2 Q) : WE X ρ M (.Call (.Attribute o m apos) (e :: es) [] pos) Q := fun σ H rs m => by
  obtain ⟨f, fd, ps, G1, hm, hb⟩ := G.ex
  have hcl := G.cl
  obtain ⟨h1, h2⟩ := noStars_cons hs
  have eP := F.hP; have ew := F.hw; have eK := F.hK; have eg := F.hmg; have eb := F.hbase
  subst eP ew eK eg eb
  refine wE.of (pe_meth (E := E0) pe_w hcl hm G1 (F.room.mono hj) hb .nil pass0 pa_w (starEach_cons h1) (noStars_any h2) (meth_eval ho hs hn hl)) ?_
  refine (h σ H rs m).mono fun v H1 ⟨d, M1, k1, k2, k3, a, i, fs, k4, k5, k6, k7⟩ => ?_
  subst k4
  cases k1
  obtain ⟨dx, gs, q1, q2⟩ := k2.at k5.ix
  refine ⟨a, dx, gs, rfl, q1, q2.lookup_none k6, ?_⟩
  refine (k7 σ H1 (rs.mono k3) k2).mono fun vs H2 ⟨ds, M2, l1, l2, l3, l4, l5⟩ => ?_
  rw [List.append_nil]
  exact ⟨.ref a :: ds, M2, Q, .cons (.ref a) l1, l2, l4, l5, fun d M' q v H' r1 r2 r3 => ⟨d, M', r1, r2, (k3.trans l3).trans r3, q⟩⟩
theorem we_meth0 {Cc : Addr} (F : Fx X P w K mg base sc N L C Gs Bs k) (G : Mcal P w K mg base Cc m j 1 sp) (hj : j ≤ k) (ho : notCall o = true) (hl : (apos.endLine == pos.line) = true)
    (h : WE X ρ M o fun d M1 => ∃ a i fs, d = .ref a ∧ AtM M1 i a (.ins Cc fs) ∧ fs.lookup m = none ∧ sp [.ref a] M1 Q) : WE X ρ M (.Call (.Attribute o m apos) [] [] pos) Q := fun σ H rs m => by
  obtain ⟨f, fd, ps, G1, hm, hb⟩ := G.ex
  have hcl := G.cl
  have eP := F.hP; have ew := F.hw; have eK := F.hK; have eg := F.hmg; have eb := F.hbase
  subst eP ew eK eg eb
  refine wE.of (pe_meth0 (E := E0) pe_w hcl hm G1 (F.room.mono hj) hb .nil pass0 (meth_eval (es := []) ho rfl (by decide) hl)) ?_
  refine (h σ H rs m).mono fun v H1 ⟨d, M1, k1, k2, k3, a, i, fs, k4, k5, k6, k7⟩ => ?_
  subst k4
  cases k1
  obtain ⟨dx, gs, q1, q2⟩ := k2.at k5.ix
  refine ⟨a, dx, gs, rfl, q1, q2.lookup_none k6, ?_⟩
  exact ⟨[.ref a], M1, Q, .cons (.ref a) .nil, k2, rfl, k7, fun d M' q v H' r1 r2 r3 => ⟨d, M', r1, r2, k3.trans r3, q⟩⟩
/-! ### built-ins -/
def CD (K : Fg) (r : List V → Hp → VK → Prop) (ds : List DV) (M : Mm) (Q : DV → Mm → Prop) : Prop := ∀ vs H, RDs K H ds vs → RM K H M → r vs H (LE K H Q)
def MonC (r : List V → Hp → VK → Prop) : Prop := ∀ xs H Q Q', r xs H Q → (∀ v H', Q v H' → Q' v H') → r xs H Q'
theorem we_blt {id : String} {r : List V → Hp → VK → Prop} (F : Fx X P w K mg base sc N L C Gs Bs k) (hc : CallR X (.builtin id) r) (mr : MonC r) (hv : bootBuiltins x = some (.builtin id)) (hx : x ∈ Gs) (hx2 : x ∈ Bs) (hs : noStars (e :: es) = true)
    (h : WA X ρ M (e :: es) fun ds M1 => CD X.K r ds M1 Q) : WE X ρ M (.Call (.Name x p) (e :: es) [] pos) Q := fun σ H rs m => by
  obtain ⟨g1, g2, g3⟩ := F.gl x hx
  obtain ⟨h1, h2⟩ := noStars_cons hs
  refine wE.of (pe_callB hc g1 (by rw [F.hmg]; exact F.bl x hx2) hv pa_w g3 g2 (starEach_cons h1) (noStars_any h2)) ?_
  refine (h σ H rs m).mono fun vs H1 ⟨ds, M1, k1, k2, k3, k4⟩ => ?_
  exact mr _ _ _ _ (k4 vs H1 k1 k2) fun _ _ z => z.stay k3
theorem we_blty {T : String} {r : List V → Hp → VK → Prop} (F : Fx X P w K mg base sc N L C Gs Bs k) (hc : CallR X (.type T) r) (mr : MonC r) (hv : bootBuiltins x = some (.type T)) (hx : x ∈ Gs) (hx2 : x ∈ Bs) (hs : noStars (e :: es) = true)
    (h : WA X ρ M (e :: es) fun ds M1 => CD X.K r ds M1 Q) : WE X ρ M (.Call (.Name x p) (e :: es) [] pos) Q := fun σ H rs m => by
  obtain ⟨g1, g2, g3⟩ := F.gl x hx
  obtain ⟨h1, h2⟩ := noStars_cons hs
  refine wE.of (pe_callTy hc g1 (by rw [F.hmg]; exact F.bl x hx2) hv pa_w g3 g2 (starEach_cons h1) (noStars_any h2)) ?_
  refine (h σ H rs m).mono fun vs H1 ⟨ds, M1, k1, k2, k3, k4⟩ => ?_
  exact mr _ _ _ _ (k4 vs H1 k1 k2) fun _ _ z => z.stay k3
theorem CD.one {r : List V → Hp → VK → Prop} {d : DV} (h : ∀ v H, RD K H d v → RM K H M → r [v] H (LE K H Q)) : CD K r [d] M Q := fun vs H rs m => by
  cases rs with
  | cons r1 r2 => cases r2; exact h _ H r1 m
theorem CD.two {r : List V → Hp → VK → Prop} {d d' : DV} (h : ∀ v v' H, RD K H d v → RD K H d' v' → RM K H M → r [v, v'] H (LE K H Q)) : CD K r [d, d'] M Q := fun vs H rs m => by
  cases rs with
  | cons r1 r2 =>
    cases r2 with
    | cons r3 r4 => cases r4; exact h _ _ H r1 r3 m
-- int
def rInt : List V → Hp → VK → Prop := fun xs H Q => (∃ i, xs = [.int i] ∧ Q (.int i) H) ∨ ∃ k, xs = [.bl k] ∧ Q (.int (if k then 1 else 0)) H
theorem we_Int (F : Fx X P w K mg base sc N L C Gs Bs k) (hx : ("int" : Str) ∈ Gs) (hx2 : ("int" : Str) ∈ Bs) (hs : noStars [e] = true) (h : WA X ρ M [e] fun ds M1 => CD X.K rInt ds M1 Q) : WE X ρ M (.Call (.Name "int" p) [e] [] pos) Q :=
  we_blty F call_int1 (fun xs H Q Q' h q => h.elim (fun ⟨i, a, b⟩ => .inl ⟨i, a, q _ _ b⟩) fun ⟨i, a, b⟩ => .inr ⟨i, a, q _ _ b⟩) (by decide +kernel) hx hx2 hs h
theorem v_int_i {i : Int} (q : Q (.int i) M) : CD K rInt [.int i] M Q := .one fun v H r m => by cases r; exact .inl ⟨i, rfl, _, M, .int i, m, Stay.refl, q⟩
theorem v_int_b {i : Bool} (q : Q (.int (if i then 1 else 0)) M) : CD K rInt [.bl i] M Q := .one fun v H r m => by cases r; exact .inr ⟨i, rfl, _, M, .int _, m, Stay.refl, q⟩
-- abs
def rAbs : List V → Hp → VK → Prop := fun xs H Q => ∃ i, xs = [.int i] ∧ Q (.int (if i < 0 then -i else i)) H
theorem we_abs (F : Fx X P w K mg base sc N L C Gs Bs k) (hx : ("abs" : Str) ∈ Gs) (hx2 : ("abs" : Str) ∈ Bs) (hs : noStars [e] = true) (h : WA X ρ M [e] fun ds M1 => CD X.K rAbs ds M1 Q) : WE X ρ M (.Call (.Name "abs" p) [e] [] pos) Q :=
  we_blt F call_abs (fun xs H Q Q' ⟨i, a, b⟩ q => ⟨i, a, q _ _ b⟩) (by decide +kernel) hx hx2 hs h
theorem v_abs {i : Int} (q : Q (.int (if i < 0 then -i else i)) M) : CD K rAbs [.int i] M Q := .one fun v H r m => by cases r; exact ⟨i, rfl, _, M, .int _, m, Stay.refl, q⟩
-- min, max of two
def rMin2 : List V → Hp → VK → Prop := fun xs H Q => ∃ i j, xs = [.int i, .int j] ∧ Q (.int (if j < i then j else i)) H
def rMax2 : List V → Hp → VK → Prop := fun xs H Q => ∃ i j, xs = [.int i, .int j] ∧ Q (.int (if j > i then j else i)) H
theorem we_min2 {e2 : Expr} (F : Fx X P w K mg base sc N L C Gs Bs k) (hx : ("min" : Str) ∈ Gs) (hx2 : ("min" : Str) ∈ Bs) (hs : noStars [e, e2] = true) (h : WA X ρ M [e, e2] fun ds M1 => CD X.K rMin2 ds M1 Q) : WE X ρ M (.Call (.Name "min" p) [e, e2] [] pos) Q :=
  we_blt F (call_min2 F.calm) (fun xs H Q Q' ⟨i, j, a, b⟩ q => ⟨i, j, a, q _ _ b⟩) (by decide +kernel) hx hx2 hs h
theorem we_max2 {e2 : Expr} (F : Fx X P w K mg base sc N L C Gs Bs k) (hx : ("max" : Str) ∈ Gs) (hx2 : ("max" : Str) ∈ Bs) (hs : noStars [e, e2] = true) (h : WA X ρ M [e, e2] fun ds M1 => CD X.K rMax2 ds M1 Q) : WE X ρ M (.Call (.Name "max" p) [e, e2] [] pos) Q :=
  we_blt F (call_max2 F.calm) (fun xs H Q Q' ⟨i, j, a, b⟩ q => ⟨i, j, a, q _ _ b⟩) (by decide +kernel) hx hx2 hs h
theorem v_min2 {i j : Int} (q : Q (.int (if j < i then j else i)) M) : CD K rMin2 [.int i, .int j] M Q := .two fun v v' H r r' m => by cases r; cases r'; exact ⟨i, j, rfl, _, M, .int _, m, Stay.refl, q⟩
theorem v_max2 {i j : Int} (q : Q (.int (if j > i then j else i)) M) : CD K rMax2 [.int i, .int j] M Q := .two fun v v' H r r' m => by cases r; cases r'; exact ⟨i, j, rfl, _, M, .int _, m, Stay.refl, q⟩
-- len
def rLen3 (K : Fg) : List V → Hp → VK → Prop := fun xs H Q => ∃ x n, xs = [x] ∧ LenV K x H n ∧ Q (.int n) H
theorem we_len (F : Fx X P w K mg base sc N L C Gs Bs k) (hx : ("len" : Str) ∈ Gs) (hx2 : ("len" : Str) ∈ Bs) (hs : noStars [e] = true) (h : WA X ρ M [e] fun ds M1 => CD X.K (rLen3 X.K) ds M1 Q) : WE X ρ M (.Call (.Name "len" p) [e] [] pos) Q :=
  we_blt F call_len (fun xs H Q Q' ⟨i, j, a, b, c⟩ q => ⟨i, j, a, b, q _ _ c⟩) PySem.boot_len hx hx2 hs h
theorem v_len_t {ds : List DV} (q : Q (.int (ds.length : Int)) M) : CD K (rLen3 K) [.tup ds] M Q := .one fun v H r m => by
  cases r with
  | tup s r => exact ⟨_, ds.length, rfl, .inr ⟨_, s, r.length⟩, _, M, .int _, m, Stay.refl, q⟩
theorem v_len_l {ds : List DV} {i : Nat} {a : Addr} (ha : AtM M i a (.lst ds)) (q : Q (.int (ds.length : Int)) M) : CD K (rLen3 K) [.ref a] M Q := .one fun v H r m => by
  cases r
  obtain ⟨vs, e, r⟩ := m.at ha.ix
  exact ⟨_, ds.length, rfl, .inl ⟨vs, SqL.of e, r.length⟩, _, M, .int _, m, Stay.refl, q⟩
theorem v_len_s {z : Str} (hl : z.length ≤ sizeLine) (q : Q (.int (z.length : Int)) M) : CD K (rLen3 K) [.str z] M Q := .one fun v H r m => by
  cases r
  exact ⟨_, z.length, rfl, ⟨hl, rfl⟩, _, M, .int _, m, Stay.refl, q⟩
-- list, tuple
def rList3 (K : Fg) : List V → Hp → VK → Prop := fun xs H Q => ∃ p ys, xs = [.ref p] ∧ (SqL K H p ys ∨ SqT K H p ys) ∧ ∀ l, H l = none → Q (.ref l) (upd H l (.lst ys))
theorem we_list (F : Fx X P w K mg base sc N L C Gs Bs k) (hx : ("list" : Str) ∈ Gs) (hx2 : ("list" : Str) ∈ Bs) (hs : noStars [e] = true) (h : WA X ρ M [e] fun ds M1 => CD X.K (rList3 X.K) ds M1 Q) : WE X ρ M (.Call (.Name "list" p) [e] [] pos) Q :=
  we_blty F call_list_of (fun xs H Q Q' ⟨i, j, a, b, c⟩ q => ⟨i, j, a, b, fun l hl => q _ _ (c l hl)⟩) (by decide +kernel) hx hx2 hs h
theorem v_list_l {ds : List DV} {i : Nat} {a : Addr} (ha : AtM M i a (.lst ds)) (q : ∀ p, Q (.ref p) ((p, .lst ds) :: M)) : CD K (rList3 K) [.ref a] M Q := .one fun v H r m => by
  cases r
  obtain ⟨vs, e, r⟩ := m.at ha.ix
  exact ⟨a, vs, rfl, .inl (SqL.of e), fun l hl => ⟨.ref l, (l, .lst ds) :: M, .ref l, m.cons hl ⟨vs, upd_same, r.mono (Stay.new hl)⟩, Stay.new hl, q l⟩⟩
theorem v_list_t {ds : List DV} (q : ∀ p, Q (.ref p) ((p, .lst ds) :: M)) : CD K (rList3 K) [.tup ds] M Q := .one fun v H r m => by
  cases r with
  | tup s r => exact ⟨_, _, rfl, .inr s, fun l hl => ⟨.ref l, (l, .lst ds) :: M, .ref l, m.cons hl ⟨_, upd_same, r.mono (Stay.new hl)⟩, Stay.new hl, q l⟩⟩
def rTup3 (K : Fg) : List V → Hp → VK → Prop := fun xs H Q => ∃ p ys, xs = [.ref p] ∧ ((SqL K H p ys ∧ ∀ l, H l = none → Q (.ref l) (upd H l (.tup ys))) ∨ (SqT K H p ys ∧ Q (.ref p) H))
theorem we_tuple (F : Fx X P w K mg base sc N L C Gs Bs k) (hx : ("tuple" : Str) ∈ Gs) (hx2 : ("tuple" : Str) ∈ Bs) (hs : noStars [e] = true) (h : WA X ρ M [e] fun ds M1 => CD X.K (rTup3 X.K) ds M1 Q) : WE X ρ M (.Call (.Name "tuple" p) [e] [] pos) Q :=
  we_blty F call_tuple_of (fun xs H Q Q' ⟨i, j, a, b⟩ q => ⟨i, j, a, b.elim (fun ⟨b, c⟩ => .inl ⟨b, fun l hl => q _ _ (c l hl)⟩) fun ⟨b, c⟩ => .inr ⟨b, q _ _ c⟩⟩) (by decide +kernel) hx hx2 hs h
theorem v_tuple_l {ds : List DV} {i : Nat} {a : Addr} (ha : AtM M i a (.lst ds)) (q : Q (.tup ds) M) : CD K (rTup3 K) [.ref a] M Q := .one fun v H r m => by
  cases r
  obtain ⟨vs, e, r⟩ := m.at ha.ix
  exact ⟨a, vs, rfl, .inl ⟨SqL.of e, fun l hl => ⟨.tup ds, M, .tup (SqT.of upd_same) (r.mono (Stay.new hl)), m.new hl, Stay.new hl, q⟩⟩⟩
theorem v_tuple_t {ds : List DV} (q : Q (.tup ds) M) : CD K (rTup3 K) [.tup ds] M Q := .one fun v H r m => by
  cases r with
  | tup s r => exact ⟨_, _, rfl, .inr ⟨s, .tup ds, M, .tup s r, m, Stay.refl, q⟩⟩
end
/-! ### targets -/
def wG (X : Cx) (tg : Expr) : TG := fun v σ H Q => ∀ (pins : List (Addr × Obj)) (s : Shared) (u : Value), Inv X pins σ H s → RelV v u → wpAny (model X.prog X.w) X.A (assign tg X.env u) (fun _ s' => ∃ σ' H', Inv X pins σ' H' s' ∧ Q σ' H') X.xe s
theorem pg_w {X : Cx} {tg : Expr} : PG X tg (wG X tg) := ⟨fun pins s _ _ _ u _ I r h => h pins s u I r⟩
def WG (X : Cy) (ρ : Ro) (M : Mm) (tg : Expr) (d : DV) (R : Ro → Mm → Prop) : Prop := ∀ σ H v, RS X H ρ σ → RM X.K H M → RD X.K H d v → wG X tg v σ H (LN X H R)
section
variable {X : Cy} {P : Program} {w : World} {K : Fg} {mg : Str → Option Value} {base : Heap} {sc : Scope} {N L C Gs Bs : List Str} {k j n : Nat} {ρ ρ' ρ1 ρ2 ρ3 : Ro} {M : Mm} {nx : Ro → Mm → Prop} {rt : DV → Mm → Prop} {bk ct : Ro → Mm → Prop} {Q : DV → Mm → Prop} {R : Ro → Mm → Prop} {a b c e o tg : Expr} {es rest : List Expr} {pos p p2 p3 apos : Pos} {x y z m : Str} {sp : SpD} {st : Stmt} {sts sa sb : List Stmt}
theorem RS.put {H : Hp} {σ : L2.St} {d : DV} {v : V} {i : Nat} {x : Str} (h : RS X H ρ σ) (hi : X.N[i]? = some x) (hv : Vis X.env.scope x) (r : RD X.K H d v) : RS X H (ρ.set i (some d)) (σ.set i (some v)) := by
  refine ⟨h.st, by simpa using h.len, fun j e he => ?_⟩
  rw [List.getElem?_set] at he
  split at he
  · rename_i q; subst q
    split at he
    · rename_i q
      cases he
      refine ⟨⟨x, hi, hv⟩, v, ?_, r⟩
      rw [List.getElem?_set, if_pos rfl, if_pos (by rw [← h.len]; exact q)]
    · cases he
  · rename_i q
    obtain ⟨a, v', b, c⟩ := h.get j e he
    refine ⟨a, v', ?_, c⟩
    rw [List.getElem?_set, if_neg q]
    exact b
theorem wg_name {d : DV} (F : Fx X P w K mg base sc N L C Gs Bs k) (hx : x ∈ L) (h : Put d N ρ x ρ') (q : R ρ' M) : WG X ρ M (.Name x pos) d R := fun σ H v rs m r => by
  obtain ⟨i, h1, h2⟩ := h.ix
  have hi : X.N[i]? = some x := by rw [F.hN]; exact h1
  have hl := F.loc x hx
  subst h2
  intro pins s u I ru
  exact (pg_name (i := i) (by rw [F.hN]; exact F.nd) hi (.inl hl) (.inr hl)).run pins s σ H v u _ I ru ⟨_, M, rs.put hi (.inl hl) r, m, Stay.refl, q⟩
theorem wg_nameC {d : DV} (F : Fx X P w K mg base sc N L C Gs Bs k) (hx : x ∈ C) (h : Put d N ρ x ρ') (q : R ρ' M) : WG X ρ M (.Name x pos) d R := fun σ H v rs m r => by
  obtain ⟨i, h1, h2⟩ := h.ix
  have hi : X.N[i]? = some x := by rw [F.hN]; exact h1
  obtain ⟨hl, hf⟩ := F.cel x hx
  subst h2
  intro pins s u I ru
  exact (pg_name (i := i) (by rw [F.hN]; exact F.nd) hi (.inr hl) (.inl hf)).run pins s σ H v u _ I ru ⟨_, M, rs.put hi (.inr (.inl hl)) r, m, Stay.refl, q⟩
theorem wG.of {t : TG} (p : PG X tg t) {v : V} {σ : L2.St} {H : Hp} {Q : L2.St → Hp → Prop} (h : t v σ H Q) : wG X tg v σ H Q := fun pins s u I r => p.run pins s σ H v u Q I r h
theorem wG.mono {v : V} {σ : L2.St} {H : Hp} {Q Q' : L2.St → Hp → Prop} (h : wG X tg v σ H Q) (q : ∀ σ H, Q σ H → Q' σ H) : wG X tg v σ H Q' := fun pins s u I r => thn (h pins s u I r) fun _ s' ⟨σ', H', I', z⟩ => ⟨σ', H', I', q _ _ z⟩
def notStarT : Expr → Bool
  | .Starred _ _ => false
  | _ => true
theorem assignEach_cons {e : Expr} {es : List Expr} {env : Env} (h : notStarT e = true) : assignEach (e :: es) env = (false, assign e env) :: assignEach es env := by
  cases e <;> first | rfl | exact Bool.noConfusion h
/-- a, b = t: two targets -/
theorem wg_tup2 {i : Nat} {t1 t2 : Expr} {d1 d2 : DV} (F : Fx X P w K mg base sc N L C Gs Bs k) (s1 : notStarT t1 = true) (s2 : notStarT t2 = true) (h : WG X ρ M t1 d1 fun ρ1 M1 => WG X ρ1 M1 t2 d2 R) : WG X ρ M (.Tuple [t1, t2] i pos) (.tup [d1, d2]) R := fun σ H v rs m r => by
  cases r with
  | tup sq rr =>
    cases rr with
    | cons r1 rr =>
      cases rr with
      | cons r2 rr =>
        cases rr
        refine wG.of (pg_tup (n := 2) F.calm (pgs_cons pg_w (pgs_cons pg_w pgs_nil (by rw [assignEach_cons s2]; rfl)) (by rw [assignEach_cons s1]; rfl)) (by rw [assignEach_cons s1, assignEach_cons s2]; rfl) (by rw [assignEach_cons s1, assignEach_cons s2]; rfl)) ?_
        refine ⟨_, _, rfl, sq, rfl, _, _, rfl, ?_⟩
        refine (h σ H _ rs m r1).mono fun σ1 H1 ⟨ρ1, M1, h1, h2, h3, h4⟩ => ?_
        refine ⟨_, _, rfl, ?_⟩
        refine (h4 σ1 H1 _ h1 h2 (r2.mono h3)).mono fun σ2 H2 ⟨ρ2, M2, k1, k2, k3, k4⟩ => ?_
        exact ⟨rfl, ρ2, M2, k1, k2, h3.trans k3, k4⟩
theorem wg_tup3 {i : Nat} {t1 t2 t3 : Expr} {d1 d2 d3 : DV} (F : Fx X P w K mg base sc N L C Gs Bs k) (s1 : notStarT t1 = true) (s2 : notStarT t2 = true) (s3 : notStarT t3 = true) (h : WG X ρ M t1 d1 fun ρ1 M1 => WG X ρ1 M1 t2 d2 fun ρ2 M2 => WG X ρ2 M2 t3 d3 R) : WG X ρ M (.Tuple [t1, t2, t3] i pos) (.tup [d1, d2, d3]) R := fun σ H v rs m r => by
  cases r with
  | tup sq rr =>
    cases rr with
    | cons r1 rr =>
      cases rr with
      | cons r2 rr =>
        cases rr with
        | cons r3 rr =>
          cases rr
          refine wG.of (pg_tup (n := 3) F.calm (pgs_cons pg_w (pgs_cons pg_w (pgs_cons pg_w pgs_nil (by rw [assignEach_cons s3]; rfl)) (by rw [assignEach_cons s2]; rfl)) (by rw [assignEach_cons s1]; rfl)) (by rw [assignEach_cons s1, assignEach_cons s2, assignEach_cons s3]; rfl) (by rw [assignEach_cons s1, assignEach_cons s2, assignEach_cons s3]; rfl)) ?_
          refine ⟨_, _, rfl, sq, rfl, _, _, rfl, ?_⟩
          refine (h σ H _ rs m r1).mono fun σ1 H1 ⟨ρ1, M1, h1, h2, h3, h4⟩ => ?_
          refine ⟨_, _, rfl, ?_⟩
          refine (h4 σ1 H1 _ h1 h2 (r2.mono h3)).mono fun σ2 H2 ⟨ρ2, M2, k1, k2, k3, k4⟩ => ?_
          refine ⟨_, _, rfl, ?_⟩
          refine (k4 σ2 H2 _ k1 k2 ((r3.mono h3).mono k3)).mono fun σ3 H3 ⟨ρ3, M3, l1, l2, l3, l4⟩ => ?_
          exact ⟨rfl, ρ3, M3, l1, l2, (h3.trans k3).trans l3, l4⟩
/-! ### statements -/
theorem LD.stay {H H1 : Hp} (s : Stay X.K H H1) {σ : L2.St} (h : wS X st (LD X H1 ⟨nx, rt, bk, ct⟩) σ H1) : wS X st (LD X H ⟨nx, rt, bk, ct⟩) σ H1 := h.mono (fun _ _ z => z.stay s) (fun _ _ z => z.stay s) (fun _ _ z => z.stay s) (fun _ _ z => z.stay s)
theorem LDs.stay {H H1 : Hp} (s : Stay X.K H H1) {σ : L2.St} (h : wSs X sts (LD X H1 ⟨nx, rt, bk, ct⟩) σ H1) : wSs X sts (LD X H ⟨nx, rt, bk, ct⟩) σ H1 := h.mono (fun _ _ z => z.stay s) (fun _ _ z => z.stay s) (fun _ _ z => z.stay s) (fun _ _ z => z.stay s)
theorem wss_nil (q : nx ρ M) : WSs X ρ M [] nx rt bk ct := fun σ H rs m => wSs.of pss_nil ⟨ρ, M, rs, m, Stay.refl, q⟩
theorem wss_cons (h : WS X ρ M st (fun ρ1 M1 => WSs X ρ1 M1 sts nx rt bk ct) rt bk ct) : WSs X ρ M (st :: sts) nx rt bk ct := fun σ H rs m => by
  refine wSs.of (pss_cons ps_w pss_w) ?_
  refine (h σ H rs m).mono (fun σ1 H1 ⟨ρ1, M1, h1, h2, h3, h4⟩ => ?_) (fun _ _ z => z) (fun _ _ z => z) (fun _ _ z => z)
  exact LDs.stay h3 (h4 σ1 H1 h1 h2)
theorem WSs.mono {nx' : Ro → Mm → Prop} {rt' : DV → Mm → Prop} {bk' ct' : Ro → Mm → Prop} (h : WSs X ρ M sts nx rt bk ct) (h1 : ∀ σ H, nx σ H → nx' σ H) (h2 : ∀ v H, rt v H → rt' v H) (h3 : ∀ σ H, bk σ H → bk' σ H) (h4 : ∀ σ H, ct σ H → ct' σ H) : WSs X ρ M sts nx' rt' bk' ct' := fun σ H rs m =>
  (h σ H rs m).mono (fun _ _ ⟨a, b, c, d, e, f⟩ => ⟨a, b, c, d, e, h1 _ _ f⟩) (fun _ _ ⟨a, b, c, d, e, f⟩ => ⟨a, b, c, d, e, h2 _ _ f⟩) (fun _ _ ⟨a, b, c, d, e, f⟩ => ⟨a, b, c, d, e, h3 _ _ f⟩) (fun _ _ ⟨a, b, c, d, e, f⟩ => ⟨a, b, c, d, e, h4 _ _ f⟩)
theorem ws_pass (q : nx ρ M) : WS X ρ M (.Pass pos) nx rt bk ct := fun σ H rs m => wS.of ps_pass ⟨ρ, M, rs, m, Stay.refl, q⟩
theorem ws_break (q : bk ρ M) : WS X ρ M (.Break pos) nx rt bk ct := fun σ H rs m => wS.of ps_break ⟨ρ, M, rs, m, Stay.refl, q⟩
theorem ws_cont (q : ct ρ M) : WS X ρ M (.Continue pos) nx rt bk ct := fun σ H rs m => wS.of ps_continue ⟨ρ, M, rs, m, Stay.refl, q⟩
theorem ws_ret (h : WE X ρ M e rt) : WS X ρ M (.Return (some e) pos) nx rt bk ct := fun σ H rs m => wS.of (ps_ret pe_w) (h σ H rs m)
theorem ws_retN (q : rt .non M) : WS X ρ M (.Return none pos) nx rt bk ct := fun σ H rs m => wS.of ps_retN ⟨.non, M, .non, m, Stay.refl, q⟩
theorem ws_if (h : WT X ρ M c fun t M1 => (t = true → WSs X ρ M1 sa nx rt bk ct) ∧ (t = false → WSs X ρ M1 sb nx rt bk ct)) : WS X ρ M (.If c sa sb pos) nx rt bk ct := fun σ H rs m => by
  refine wS.of (ps_if pt_w pss_w pss_w) ?_
  refine (h σ H rs m).mono fun t H1 ⟨M1, h1, h2, h3, h4⟩ => ?_
  cases t with
  | true => rw [if_pos rfl]; exact LDs.stay h2 (h3 rfl σ H1 (rs.mono h2) h1)
  | false => rw [if_neg (by decide)]; exact LDs.stay h2 (h4 rfl σ H1 (rs.mono h2) h1)
def notComp : Expr → Bool
  | .ListComp _ _ _ _ => false
  | .SetComp _ _ _ _ => false
  | .DictComp _ _ _ _ _ => false
  | _ => true
theorem notComp_ok {e : Expr} {t : Option Expr} {l : Nat} {env : Env} (h : notComp e = true) : swapsWith e t l env = pure false := by
  cases e <;> first | rfl | exact Bool.noConfusion h
theorem ws_expr (hn : notComp e = true) (h : WE X ρ M e fun _ M1 => nx ρ M1) : WS X ρ M (.Expr e pos) nx rt bk ct := fun σ H rs m => by
  refine wS.of (ps_expr pe_w (notComp_ok hn)) ?_
  exact (h σ H rs m).mono fun v H1 ⟨d, M1, h1, h2, h3, h4⟩ => ⟨ρ, M1, rs.mono h3, h2, h3, h4⟩
theorem swappedStores_none {tg e : Expr} {env : Env} (h : (match tg, e with | .Tuple _ _ _, .Tuple _ _ _ => false | .List _ _, .Tuple _ _ _ => false | _, _ => true) = true) : swappedStores [tg] e env = pure none := by
  cases tg <;> cases e <;> first | rfl | exact Bool.noConfusion h
def notPair (tg e : Expr) : Bool := match tg, e with
  | .Tuple _ _ _, .Tuple _ _ _ => false
  | .List _ _, .Tuple _ _ _ => false
  | _, _ => true
/-- tg = e, no pair of tuples, no comprehension -/
theorem ws_asg (hn : notComp e = true) (hp : notPair tg e = true) (ht : notStarT tg = true) (h : WE X ρ M e fun d M1 => WG X ρ M1 tg d nx) : WS X ρ M (.Assign [tg] e pos) nx rt bk ct := fun σ H rs m => by
  refine wS.of (ps_asg pe_w pg_w (notComp_ok hn) (swappedStores_none hp) (by rw [assignEach_cons ht]; rfl)) ?_
  refine (h σ H rs m).mono fun v H1 ⟨d, M1, h1, h2, h3, h4⟩ => ?_
  exact (h4 σ H1 v (rs.mono h3) h2 h1).mono fun _ _ z => z.stay h3
theorem lineAll {env : Env} {x : Str} (h : env.scope.names.lookup x = some .local) : env.kindOf x = some .local := h
def envS (sc : Scope) : Env := PyProof.Rows.envOfC "" sc 0 0 .none
theorem swS {ts : List Expr} {v : Expr} {env : Env} : swappedStores ts v env = swappedStores ts v (envS env.scope) := rfl
theorem ix_ne {i j : Nat} (h1 : N[i]? = some x) (h2 : N[j]? = some y) (h : y ≠ x) : i ≠ j := fun e => by
  subst e
  rw [h1] at h2
  exact h (Option.some.inj h2).symm
/-- x, y = a, b of plain local names -/
theorem ws_par2 {px py pt pt2 : Pos} {kt k2 : Nat} (F : Fx X P w K mg base sc N L C Gs Bs k) (hx : x ∈ L) (hy : y ∈ L) (hne : y ≠ x) (hw : swappedStores [.Tuple [.Name x px, .Name y py] kt pt] (.Tuple [a, b] k2 pt2) (envS sc) = pure (some [x, y]))
    (h : WA X ρ M [a, b] fun ds M1 => ∃ d1 d2 ρ1 ρ2, ds = [d1, d2] ∧ Put d1 N ρ x ρ1 ∧ Put d2 N ρ1 y ρ2 ∧ nx ρ2 M1) (i0 j0 : Nat) (hi0 : N[i0]? = some x) (hj0 : N[j0]? = some y) : WS X ρ M (.Assign [.Tuple [.Name x px, .Name y py] kt pt] (.Tuple [a, b] k2 pt2) pos) nx rt bk ct := fun σ H rs m => by
  have lx := F.loc x hx
  have ly := F.loc y hy
  refine wS.of (ps_par (i := i0) (j := j0) F.calm (by rw [F.hN]; exact F.nd) (by rw [F.hN]; exact hi0) (by rw [F.hN]; exact hj0) (ix_ne hi0 hj0 hne) lx ly pa_w (by rw [swS, F.hsc]; exact hw) rfl) ?_
  refine (h σ H rs m).mono fun vs H1 ⟨ds, M1, k1, k2, k3, d1, d2, ρ1, ρ2, k4, k5, k6, k7⟩ => ?_
  subst k4
  cases k1 with
  | cons r1 kk =>
    cases kk with
    | cons r2 kk =>
      cases kk
      refine ⟨_, _, rfl, ?_⟩
      obtain ⟨i, q1, q2⟩ := k5.ix
      obtain ⟨j, q3, q4⟩ := k6.ix
      have ei : i = i0 := nodup_ix F.nd q1 hi0
      have ej : j = j0 := nodup_ix F.nd q3 hj0
      subst ei ej q2 q4
      exact ⟨_, M1, ((rs.mono k3).put (by rw [F.hN]; exact q1) (.inl lx) r1).put (by rw [F.hN]; exact q3) (.inl ly) r2, k2, k3, k7⟩
theorem ws_par3 {px py pz pt pt2 : Pos} {kt k2 : Nat} (F : Fx X P w K mg base sc N L C Gs Bs k) (hx : x ∈ L) (hy : y ∈ L) (hz : z ∈ L) (hyx : y ≠ x) (hzx : z ≠ x) (hzy : z ≠ y) (hw : swappedStores [.Tuple [.Name x px, .Name y py, .Name z pz] kt pt] (.Tuple [a, b, c] k2 pt2) (envS sc) = pure (some [x, y, z]))
    (h : WA X ρ M [a, b, c] fun ds M1 => ∃ d1 d2 d3 ρ1 ρ2 ρ3, ds = [d1, d2, d3] ∧ Put d1 N ρ x ρ1 ∧ Put d2 N ρ1 y ρ2 ∧ Put d3 N ρ2 z ρ3 ∧ nx ρ3 M1) (i0 j0 l0 : Nat) (hi0 : N[i0]? = some x) (hj0 : N[j0]? = some y) (hl0 : N[l0]? = some z) : WS X ρ M (.Assign [.Tuple [.Name x px, .Name y py, .Name z pz] kt pt] (.Tuple [a, b, c] k2 pt2) pos) nx rt bk ct := fun σ H rs m => by
  have lx := F.loc x hx
  have ly := F.loc y hy
  have lz := F.loc z hz
  refine wS.of (ps_par3 (i := i0) (j := j0) (l := l0) F.calm (by rw [F.hN]; exact F.nd) (by rw [F.hN]; exact hi0) (by rw [F.hN]; exact hj0) (by rw [F.hN]; exact hl0) (ix_ne hi0 hj0 hyx) (ix_ne hi0 hl0 hzx) (ix_ne hj0 hl0 hzy) lx ly lz pa_w (by rw [swS, F.hsc]; exact hw) rfl) ?_
  refine (h σ H rs m).mono fun vs H1 ⟨ds, M1, k1, k2, k3, d1, d2, d3, ρ1, ρ2, ρ3, k4, k5, k6, k8, k7⟩ => ?_
  subst k4
  cases k1 with
  | cons r1 kk =>
    cases kk with
    | cons r2 kk =>
      cases kk with
      | cons r3 kk =>
        cases kk
        refine ⟨_, _, _, rfl, ?_⟩
        obtain ⟨i, q1, q2⟩ := k5.ix
        obtain ⟨j, q3, q4⟩ := k6.ix
        obtain ⟨l, q5, q6⟩ := k8.ix
        have ei : i = i0 := nodup_ix F.nd q1 hi0
        have ej : j = j0 := nodup_ix F.nd q3 hj0
        have el : l = l0 := nodup_ix F.nd q5 hl0
        subst ei ej el q2 q4 q6
        exact ⟨_, M1, (((rs.mono k3).put (by rw [F.hN]; exact q1) (.inl lx) r1).put (by rw [F.hN]; exact q3) (.inl ly) r2).put (by rw [F.hN]; exact q5) (.inl lz) r3, k2, k3, k7⟩
/-- a tuple of targets, a tuple of values that is made and taken apart -/
theorem ws_asgT {ts vs : List Expr} {kt k2 : Nat} {pt pt2 : Pos} (F : Fx X P w K mg base sc N L C Gs Bs k) (hw : swappedStores [.Tuple ts kt pt] (.Tuple vs k2 pt2) (envS sc) = pure none) (h : WE X ρ M (.Tuple vs k2 pt2) fun d M1 => WG X ρ M1 (.Tuple ts kt pt) d nx) : WS X ρ M (.Assign [.Tuple ts kt pt] (.Tuple vs k2 pt2) pos) nx rt bk ct := fun σ H rs m => by
  refine wS.of (ps_asg pe_w pg_w rfl (by rw [swS, F.hsc]; exact hw) rfl) ?_
  refine (h σ H rs m).mono fun v H1 ⟨d, M1, h1, h2, h3, h4⟩ => ?_
  exact (h4 σ H1 v (rs.mono h3) h2 h1).mono fun _ _ z => z.stay h3
/-- l[i] = v -/
theorem wg_ix {d : DV} (hi : isSl b = false) (h : WE X ρ M a fun x M1 => WE X ρ M1 b fun y M2 => ∃ (p : Addr) (n : Nat) (xs : List DV) (i : Int) (j : Nat), x = .ref p ∧ y = .int i ∧ AtM M2 n p (.lst xs) ∧ ixN xs.length i = some j ∧ R ρ (M2.set n (p, .lst (xs.set j d)))) : WG X ρ M (.Subscript a b pos) d R := fun σ H v rs m r => by
  refine wG.of (pg_sub pe_w pe_w set_list (fun v => by cases b <;> first | rfl | exact Bool.noConfusion hi)) ?_
  refine (h σ H rs m).mono fun va H1 ⟨x, M1, h1, h2, h3, h4⟩ => ?_
  refine (h4 σ H1 (rs.mono h3) h2).mono fun vb H2 ⟨y, M2, g1, g2, g3, p, n, xs, i, j, g4, g5, g6, g7, g8⟩ => ?_
  subst g4 g5
  cases h1; cases g1
  obtain ⟨vs, e, rr⟩ := g2.at g6.ix
  have mu : Wr H2 p := wr_lst e
  refine ⟨p, vs, i, j, rfl, rfl, e, by rw [← rr.length]; exact g7, ?_⟩
  have st : Stay X.K H2 (upd H2 p (.lst (vs.set j v))) := Stay.write mu
  exact ⟨ρ, _, ((rs.mono h3).mono g3).mono st, g2.write (q' := .lst (xs.set j d)) g6.ix mu ⟨_, upd_same, (rr.mono st).set (((r.mono h3).mono g3).mono st) j⟩, (h3.trans g3).trans st, g8⟩
/-! ### objects that are let go -/
theorem RM.less {H : Hp} {M0 M : Mm} (h : RM K H M) (s : M0.Sublist M) : RM K H M0 := h.sub (h.nd.sublist (s.map _)) fun x hx => s.subset hx
def Sub (I : Mm → Prop) (M : Mm) : Prop := ∃ M0, List.Sublist M0 M ∧ I M0
theorem Sub.self {I : Mm → Prop} (h : I M) : Sub I M := ⟨M, List.Sublist.refl M, h⟩
theorem Sub.mono {I J : Mm → Prop} (h : Sub I M) (q : ∀ M, I M → J M) : Sub J M := let ⟨M0, a, b⟩ := h; ⟨M0, a, q _ b⟩
theorem ws_less {M0 : Mm} (s : M0.Sublist M) (h : WS X ρ M0 st nx rt bk ct) : WS X ρ M st nx rt bk ct := fun σ H rs m => h σ H rs (m.less s)
theorem wss_less {M0 : Mm} (s : M0.Sublist M) (h : WSs X ρ M0 sts nx rt bk ct) : WSs X ρ M sts nx rt bk ct := fun σ H rs m => h σ H rs (m.less s)
theorem we_less {M0 : Mm} (s : M0.Sublist M) (h : WE X ρ M0 e Q) : WE X ρ M e Q := fun σ H rs m => h σ H rs (m.less s)
/-! ### while -/
theorem ws_while {body : List Stmt} (F : Fx X P w K mg base sc N L C Gs Bs k) (I : Nat → Ro → Mm → Prop) (n0 : Nat) (h0 : Sub (I n0 ρ) M)
    (h : ∀ n ρ1 M1, I n ρ1 M1 → WT X ρ1 M1 c fun t M2 => (t = true → WSs X ρ1 M2 body (fun ρ2 M3 => ∃ n', n' < n ∧ Sub (I n' ρ2) M3) rt nx (fun ρ2 M3 => ∃ n', n' < n ∧ Sub (I n' ρ2) M3)) ∧ (t = false → nx ρ1 M2)) : WS X ρ M (.While c body [] pos) nx rt bk ct := fun σ H rs m => by
  refine wS.of (ps_while F.pp pt_w pss_w) ?_
  refine ⟨fun n σ1 H1 => ∃ ρ1 M1, RS X H1 ρ1 σ1 ∧ RM X.K H1 M1 ∧ Stay X.K H H1 ∧ I n ρ1 M1, ⟨n0, let ⟨M0, a, b⟩ := h0; ⟨ρ, M0, rs, m.less a, Stay.refl, b⟩⟩, ?_⟩
  rintro n σ1 H1 ⟨ρ1, M1, q1, q2, q3, q4⟩
  refine (h n ρ1 M1 q4 σ1 H1 q1 q2).mono fun t H2 ⟨M2, g1, g2, g3, g4⟩ => ?_
  cases t with
  | true =>
    rw [if_pos rfl]
    refine ⟨fun σ' H' => ∃ n', n' < n ∧ ∃ ρ1 M1, RS X H' ρ1 σ' ∧ RM X.K H' M1 ∧ Stay X.K H H' ∧ I n' ρ1 M1, fun _ _ ⟨n', a, b⟩ => ⟨n', a, b⟩, ?_⟩
    refine (g3 rfl σ1 H2 (q1.mono g2) g1).mono ?_ ?_ ?_ ?_
    · rintro σ' H' ⟨ρ', M', a, b, c, n', d, M0, e0, e⟩
      exact ⟨n', d, ρ', M0, a, b.less e0, (q3.trans g2).trans c, e⟩
    · intro v H' z
      exact z.stay (q3.trans g2)
    · intro v H' z
      exact z.stay (q3.trans g2)
    · rintro σ' H' ⟨ρ', M', a, b, c, n', d, M0, e0, e⟩
      exact ⟨n', d, ρ', M0, a, b.less e0, (q3.trans g2).trans c, e⟩
  | false =>
    rw [if_neg (by decide)]
    exact ⟨ρ1, M2, q1.mono g2, g1, q3.trans g2, g4 rfl⟩
/-! ### for -/
/-- an iterator that yields y 0, .., y (n - 1), as long as G holds of the objects -/
structure ItD (K : Fg) (H0 : Hp) (J : It) (n : Nat) (y : Nat → DV) (G : Mm → Prop) : Prop where
  go : ∀ i H M, Stay K H0 H → RM K H M → G M → i < n → J.go i H
  yld : ∀ i H M v H', Stay K H0 H → RM K H M → G M → i < n → J.yld i H v H' → RD K H' (y i) v ∧ Stay K H H' ∧ RM K H' M
  stop : ∀ H M, Stay K H0 H → RM K H M → G M → J.stop n H
def WI (X : Cy) (ρ : Ro) (M : Mm) (tg iter : Expr) (R : Nat → (Nat → DV) → (Mm → Prop) → Mm → Prop) : Prop :=
  ∃ wi, PI X tg iter wi ∧ ∀ σ H, RS X H ρ σ → RM X.K H M → wi σ H fun J H1 => ∃ n y G M1, ItD X.K H1 J n y G ∧ RM X.K H1 M1 ∧ Stay X.K H H1 ∧ R n y G M1
def notSet : Expr → Bool
  | .Set _ _ _ => false
  | _ => true
theorem notSet_ok {e : Expr} {env : Env} (h : notSet e = true) : ∀ x, foldedSetIterable e env x = pure x := fun x => by
  cases e <;> first | rfl | exact Bool.noConfusion h
theorem ws_for {iter : Expr} {body : List Stmt} (F : Fx X P w K mg base sc N L C Gs Bs k) (hs : notSet iter = true)
    (h : WI X ρ M tg iter fun n y G M1 => ∃ I : Nat → Ro → Mm → Prop, Sub (I 0 ρ) M1 ∧ (∀ i ρ1 M2, i ≤ n → I i ρ1 M2 → G M2) ∧
      (∀ i ρ1 M2, i < n → I i ρ1 M2 → WG X ρ1 M2 tg (y i) fun ρ2 M3 => WSs X ρ2 M3 body (fun ρ3 M4 => Sub (I (i + 1) ρ3) M4) rt nx (fun ρ3 M4 => Sub (I (i + 1) ρ3) M4)) ∧ (∀ ρ1 M2, I n ρ1 M2 → nx ρ1 M2)) : WS X ρ M (.For tg iter body [] pos) nx rt bk ct := fun σ H rs m => by
  obtain ⟨wi, pi, h⟩ := h
  refine wS.of (ps_for F.pp F.calm (show PI X tg iter (fun σ H R => ∃ R', wi σ H R' ∧ ∀ J H', R' J H' → R J H') from ⟨fun pins s σ H R I ⟨R', a, b⟩ => thn (pi.run pins s σ H R' I a) fun v s1 z => thn z fun u s2 ⟨it, fp, tn, J, H', c1, c2, c3, c4, c5, c6⟩ => ⟨it, fp, tn, J, H', c1, c2, c3, c4, c5, b J H' c6⟩⟩) pg_w pss_w (notSet_ok hs)) ?_
  refine ⟨_, h σ H rs m, fun J H1 ⟨n, y, G, M1, hJ, m1, s1, I, ⟨Mi, si, i0⟩, hG, hstep, hend⟩ => ?_⟩
  refine ⟨fun i q σ' H' => q = n - i ∧ i ≤ n ∧ ∃ ρ1 M2, RS X H' ρ1 σ' ∧ RM X.K H' M2 ∧ Stay X.K H1 H' ∧ I i ρ1 M2, ⟨n, by simp, Nat.zero_le _, ρ, Mi, rs.mono s1, m1.less si, Stay.refl, i0⟩, ?_⟩
  rintro i q σ' H' ⟨rfl, hi, ρ1, M2, a1, a2, a3, a4⟩
  have g := hG i ρ1 M2 hi a4
  by_cases hlt : i < n
  · refine .inr ⟨hJ.go i H' M2 a3 a2 g hlt, fun σ' H' => ∃ ρ1 M2, RS X H' ρ1 σ' ∧ RM X.K H' M2 ∧ Stay X.K H1 H' ∧ I (i + 1) ρ1 M2, fun σ' H' z => ⟨n - (i + 1), by omega, rfl, hlt, z⟩, fun v H2 yl => ?_⟩
    obtain ⟨b1, b2, b3⟩ := hJ.yld i H' M2 v H2 a3 a2 g hlt yl
    refine (hstep i ρ1 M2 hlt a4 σ' H2 v (a1.mono b2) b3 b1).mono fun σ3 H3 ⟨ρ3, M3, c1, c2, c3, c4⟩ => ?_
    refine (c4 σ3 H3 c1 c2).mono ?_ ?_ ?_ ?_
    · rintro σ4 H4 ⟨ρ4, M4, e1, e2, e3, M5, e5, e4⟩
      exact ⟨ρ4, M5, e1, e2.less e5, ((a3.trans b2).trans c3).trans e3, e4⟩
    · intro v H' z
      exact z.stay (((s1.trans a3).trans b2).trans c3)
    · intro v H' z
      exact z.stay (((s1.trans a3).trans b2).trans c3)
    · rintro σ4 H4 ⟨ρ4, M4, e1, e2, e3, M5, e5, e4⟩
      exact ⟨ρ4, M5, e1, e2.less e5, ((a3.trans b2).trans c3).trans e3, e4⟩
  · have e : i = n := by omega
    subst e
    exact .inl ⟨hJ.stop H' M2 a3 a2 g, ρ1, M2, a1, a2, s1.trans a3, hend ρ1 M2 a4⟩
/-! what is walked -/
theorem it_list {H0 : Hp} {a : Addr} {ds : List DV} : ItD K H0 (Itl K a) ds.length (fun i => ds.getD i .non) (fun M => ∃ i, AtM M i a (.lst ds)) where
  go := fun i H M _ m ⟨j, hj⟩ hi => by
    obtain ⟨vs, e, r⟩ := m.at hj.ix
    obtain ⟨v, h1, h2⟩ := r.get (List.getElem?_eq_getElem hi)
    exact ⟨vs, v, SqL.of e, h1⟩
  yld := fun i H M v H' _ m ⟨j, hj⟩ hi ⟨e1, e2⟩ => by
    subst e1
    obtain ⟨vs, e, r⟩ := m.at hj.ix
    obtain ⟨v', h1, h2⟩ := r.get (List.getElem?_eq_getElem hi)
    have := e2 vs (SqL.of e)
    rw [h1] at this
    cases this
    refine ⟨?_, Stay.refl, m⟩
    rw [List.getD_eq_getElem?_getD, List.getElem?_eq_getElem hi]
    exact h2
  stop := fun H M _ m ⟨j, hj⟩ => by
    obtain ⟨vs, e, r⟩ := m.at hj.ix
    exact ⟨vs, SqL.of e, by rw [r.length]; exact Nat.le_refl _⟩
theorem it_tup {H0 : Hp} {a : Addr} {ds : List DV} {vs : List V} (sq : SqT K H0 a vs) (r : RDs K H0 ds vs) : ItD K H0 (Itt K a) ds.length (fun i => ds.getD i .non) (fun _ => True) where
  go := fun i H M st m _ hi => by
    obtain ⟨v, h1, h2⟩ := r.get (List.getElem?_eq_getElem hi)
    exact ⟨vs, v, st.sqt sq, h1⟩
  yld := fun i H M v H' st m _ hi ⟨e1, e2⟩ => by
    subst e1
    obtain ⟨v', h1, h2⟩ := r.get (List.getElem?_eq_getElem hi)
    have := e2 vs (st.sqt sq)
    rw [h1] at this
    cases this
    refine ⟨?_, Stay.refl, m⟩
    rw [List.getD_eq_getElem?_getD, List.getElem?_eq_getElem hi]
    exact h2.mono st
  stop := fun H M st m _ => ⟨vs, st.sqt sq, by rw [r.length]; exact Nat.le_refl _⟩
theorem wi_list {R : Nat → (Nat → DV) → (Mm → Prop) → Mm → Prop} (h : WE X ρ M e fun d M1 => ∃ a i ds, d = .ref a ∧ AtM M1 i a (.lst ds) ∧ R ds.length (fun i => ds.getD i .non) (fun M => ∃ i, AtM M i a (.lst ds)) M1) : WI X ρ M tg e R := by
  refine ⟨_, pi_list pe_w, fun σ H rs m => ?_⟩
  refine (h σ H rs m).mono fun v H1 ⟨d, M1, h1, h2, h3, a, i, ds, e, h4, h5⟩ => ?_
  subst e
  cases h1
  obtain ⟨vs, e, r⟩ := h2.at h4.ix
  exact ⟨a, rfl, ⟨vs, SqL.of e⟩, _, _, _, M1, it_list, h2, h3, h5⟩
theorem wi_tup {R : Nat → (Nat → DV) → (Mm → Prop) → Mm → Prop} (h : WE X ρ M e fun d M1 => ∃ ds, d = .tup ds ∧ R ds.length (fun i => ds.getD i .non) (fun _ => True) M1) : WI X ρ M tg e R := by
  refine ⟨_, pi_tup pe_w, fun σ H rs m => ?_⟩
  refine (h σ H rs m).mono fun v H1 ⟨d, M1, h1, h2, h3, ds, e, h5⟩ => ?_
  subst e
  cases h1 with
  | tup sq r => exact ⟨_, rfl, ⟨_, sq⟩, _, _, _, M1, it_tup sq r, h2, h3, h5⟩
theorem it_range {H0 : Hp} {lo : Int} {n : Nat} : ItD K H0 (Itr lo n) n (fun i => .int (lo + i)) (fun _ => True) where
  go := fun i H M _ m _ hi => hi
  yld := fun i H M v H' _ m _ hi ⟨e1, e2⟩ => by subst e1 e2; exact ⟨.int _, Stay.refl, m⟩
  stop := fun H M _ m _ => Nat.le_refl _
theorem wi_range1 {R : Nat → (Nat → DV) → (Mm → Prop) → Mm → Prop} (F : Fx X P w K mg base sc N L C Gs Bs k) (hx : ("range" : Str) ∈ Gs) (hx2 : ("range" : Str) ∈ Bs) (hs : isStar e = false)
    (h : WE X ρ M e fun d M1 => ∃ j : Int, d = .int j ∧ -(2 ^ 62) ≤ j ∧ j < 2 ^ 62 ∧ R j.toNat (fun i => .int (0 + (i : Int))) (fun _ => True) M1) : WI X ρ M tg (.Call (.Name "range" p) [e] [] pos) R := by
  obtain ⟨g1, g2, g3⟩ := F.gl _ hx
  refine ⟨_, pi_range1 g1 (by rw [F.hmg]; exact F.bl _ hx2) (pa_cons pe_w pa_nil (starEach_cons hs)) (by rw [starEach_cons hs]; rfl), fun σ H rs m => ?_⟩
  refine (h σ H rs m).mono fun v H1 ⟨d, M1, h1, h2, h3, j, e, h4, h5, h6⟩ => ?_
  subst e
  cases h1
  exact ⟨j, rfl, h4, h5, _, _, _, M1, it_range, h2, h3, h6⟩
theorem wi_range2 {e2 : Expr} {R : Nat → (Nat → DV) → (Mm → Prop) → Mm → Prop} (F : Fx X P w K mg base sc N L C Gs Bs k) (hx : ("range" : Str) ∈ Gs) (hx2 : ("range" : Str) ∈ Bs) (hs : isStar e = false) (hs2 : isStar e2 = false)
    (h : WE X ρ M e fun d M1 => WE X ρ M1 e2 fun d2 M2 => ∃ i j : Int, d = .int i ∧ d2 = .int j ∧ (-(2 ^ 62) ≤ i ∧ i < 2 ^ 62 ∧ -(2 ^ 62) ≤ j ∧ j < 2 ^ 62) ∧ R (j - i).toNat (fun t => .int (i + (t : Int))) (fun _ => True) M2) : WI X ρ M tg (.Call (.Name "range" p) [e, e2] [] pos) R := by
  obtain ⟨g1, g2, g3⟩ := F.gl _ hx
  refine ⟨_, pi_range2 g1 (by rw [F.hmg]; exact F.bl _ hx2) (pa_cons pe_w (pa_cons pe_w pa_nil (starEach_cons hs2)) (starEach_cons hs)) (by rw [starEach_cons hs, starEach_cons hs2]; rfl) (by rw [starEach_cons hs2]; rfl), fun σ H rs m => ?_⟩
  refine (h σ H rs m).mono fun v H1 ⟨d, M1, h1, h2, h3, h4⟩ => ?_
  refine (h4 σ H1 (rs.mono h3) h2).mono fun v2 H2 ⟨d2, M2, k1, k2, k3, i, j, e1, e2, k4, k5⟩ => ?_
  subst e1 e2
  cases h1; cases k1
  exact ⟨i, j, rfl, k4, _, _, _, M2, it_range, k2, h3.trans k3, k5⟩
end
end G
namespace G
open PySem L2
/-! ### a def by its body -/
/-- what is looked up once for a def's names -/
def stat (sc : Scope) (N L C Gs : List Str) : Bool :=
  (match sc.kind with | .function => true | _ => false) && decide N.Nodup && (N.all fun x => !(x == ("__debug__" : Str)) && !(x == ("__classdict__" : Str))) &&
    (L.all fun x => match sc.names.lookup x with | some .local => true | _ => false) && (C.all fun x => match sc.names.lookup x with | some .cell => true | _ => false) &&
    (Gs.all fun x => (match sc.names.lookup x with | some .globalImplicit => true | _ => false) && !(x == ("__debug__" : Str)) && !(x == ("__name__" : Str)))
structure Stat (sc : Scope) (N L C Gs : List Str) : Prop where
  kind : sc.kind = .function
  nd : N.Nodup
  nob : ∀ x ∈ N, (x == ("__debug__" : Str)) = false ∧ (x == ("__classdict__" : Str)) = false
  loc : ∀ x ∈ L, sc.names.lookup x = some .local
  cel : ∀ x ∈ C, sc.names.lookup x = some .cell
  gl : ∀ x ∈ Gs, sc.names.lookup x = some .globalImplicit ∧ (x == ("__debug__" : Str)) = false ∧ x ≠ "__name__"
theorem stat_ok {sc : Scope} {N L C Gs : List Str} (h : stat sc N L C Gs = true) : Stat sc N L C Gs := by
  unfold stat at h
  simp only [Bool.and_eq_true, List.all_eq_true] at h
  obtain ⟨⟨⟨⟨⟨h1, h2⟩, h3⟩, h4⟩, h5⟩, h6⟩ := h
  refine ⟨?_, of_decide_eq_true h2, fun x hx => ?_, fun x hx => ?_, fun x hx => ?_, fun x hx => ?_⟩
  · cases q : sc.kind <;> rw [q] at h1 <;> first | rfl | exact Bool.noConfusion h1
  · have := h3 x hx
    simpa using this
  · have := h4 x hx
    cases q : sc.names.lookup x with
    | none => rw [q] at this; cases this
    | some z => rw [q] at this; cases z <;> first | rfl | exact Bool.noConfusion this
  · have := h5 x hx
    cases q : sc.names.lookup x with
    | none => rw [q] at this; cases this
    | some z => rw [q] at this; cases z <;> first | rfl | exact Bool.noConfusion this
  · have := h6 x hx
    obtain ⟨⟨a, b⟩, c⟩ := this
    refine ⟨?_, by simpa using b, by simpa using c⟩
    cases q : sc.names.lookup x with
    | none => rw [q] at a; cases a
    | some z => rw [q] at a; cases z <;> first | rfl | exact Bool.noConfusion a
section
variable {P : Program} {w : World} {K : Fg} {mg : Str → Option Value} {base : Heap} {N L C Gs Bs : List Str} {k : Nat}
theorem RS.start {X : Cy} {H : Hp} {ds : List DV} {vs : List V} (hst : Stay X.K X.anc H) (hl : ds.length ≤ X.N.length) (hv : ∀ (i : Nat) x, i < ds.length → X.N[i]? = some x → Vis X.env.scope x) (r : RDs X.K H ds vs) :
    RS X H (ds.map some ++ List.replicate (X.N.length - ds.length) none) (L2.start X.N vs) := by
  refine ⟨hst, ?_, fun i d h => ?_⟩
  · unfold L2.start
    simp [r.length]
  · have hi : i < ds.length := by
      by_cases hi : i < ds.length
      · exact hi
      · rw [List.getElem?_append_right (by simpa using hi), List.getElem?_replicate] at h
        split at h <;> cases h
    rw [List.getElem?_append_left (by simpa using hi), List.getElem?_map] at h
    have h' : ds[i]? = some d := by
      cases q : ds[i]? with
      | none => rw [q] at h; cases h
      | some z => rw [q] at h; cases h; rfl
    obtain ⟨v, e, rr⟩ := r.get h'
    have hN : i < X.N.length := Nat.lt_of_lt_of_le hi hl
    refine ⟨⟨X.N[i], List.getElem?_eq_getElem hN, hv i _ hi (List.getElem?_eq_getElem hN)⟩, v, ?_, rr⟩
    unfold L2.start
    rw [List.getElem?_append_left (by rw [List.length_map, ← r.length]; exact hi), List.getElem?_map, e]
    rfl
def ini : List Str → List DV → Ro
  | [], _ => []
  | _ :: N, [] => none :: ini N []
  | _ :: N, d :: ds => some d :: ini N ds
theorem ini_nil : ∀ N : List Str, ini N [] = List.replicate N.length none
  | [] => rfl
  | _ :: N => by rw [ini, ini_nil N]; rfl
theorem ini_eq : ∀ (N : List Str) (ds : List DV), ds.length ≤ N.length → ini N ds = ds.map some ++ List.replicate (N.length - ds.length) none
  | [], [], _ => rfl
  | [], _ :: _, h => by simp at h
  | _ :: N, [], _ => by rw [ini_nil]; rfl
  | _ :: N, d :: ds, h => by
    rw [ini, ini_eq N ds (by simpa using h)]
    simp
theorem fn_ok {x qual : Str} {st : Stmt} {f : Addr} {fd : FuncData} {ps : List Str} {sp : SpD} (F : Fun K x qual st f fd) (S : FnScope N ps (defScope st)) (hst : stat (defScope st) N L C Gs = true) (hb : ∀ x ∈ Bs, mg x = none)
    (h : ∀ X, Fx X P w K mg base (defScope st) N L C Gs Bs k → ∀ ds M Q, ds.length = ps.length → sp ds M Q → WSs X (ini N ds) M (defBody st) (fun _ M' => Sub (Q .non) M') (fun d M' => Sub (Q d) M') (fun _ _ => False) (fun _ _ => False)) :
    FnOk P w K mg base CX0 (k + 1) f fd ps (sp1 K ps.length sp) := by
  have T := stat_ok hst
  refine F.ok S (fun vs H Q E ⟨ds, M, Q0, h1, h2, h3, _⟩ => by rw [← h1.length]; exact h3) fun cdv A outer s H vs Q E hr ⟨ds, M, Q0, h1, h2, h3, h4, h5⟩ => ?_
  refine ⟨_, pss_w, ?_⟩
  have hps : ps.length ≤ N.length := by have := congrArg List.length S.pre; rw [List.length_take] at this; omega
  have FX : Fx ⟨(cxOf CX0 P w K mg base N qual (defScope st) f cdv A outer s H E).nox, H⟩ P w K mg base (defScope st) N L C Gs Bs k :=
    ⟨rfl, rfl, rfl, rfl, rfl, rfl, rfl, T.nd, T.loc, fun x hx => ⟨T.cel x hx, rfl⟩, T.kind, T.nob, T.gl, hb, rfl, hr, PassesOwn.never⟩
  have W := h _ FX ds M Q0 h3 h4
  rw [ini_eq N ds (by rw [h3]; exact hps)] at W
  refine (W (start N vs) H (RS.start (X := ⟨(cxOf CX0 P w K mg base N qual (defScope st) f cdv A outer s H E).nox, H⟩) Stay.refl (by rw [h3]; exact hps) (fun i y hi hy => ?_) h1) h2).mono (fun σ' H' ⟨ρ', M', q1, q2, q3, M0, q4, q5⟩ => ?_) (fun v H' ⟨d, M', q1, q2, q3, M0, q4, q5⟩ => ?_) (fun _ _ ⟨_, _, _, _, _, q⟩ => q) (fun _ _ ⟨_, _, _, _, _, q⟩ => q)
  · have hp : ps[i]? = some y := by
      rw [← S.pre, List.getElem?_take_of_lt (by rw [← h3]; exact hi)]
      exact hy
    rcases S.par y (List.mem_of_getElem? hp) with z | z
    · exact .inl z
    · exact .inr (.inl z)
  · exact h5 _ _ q5 _ _ .non (q2.less q4) q3
  · exact h5 _ _ q5 _ _ q1 (q2.less q4) q3
end
/-! ### C() of a class without __init__ -/
structure Mk0 (K : Fg) (C : Addr) : Prop where
  makes : PySem.W.makesIn K C = true
  init : PySem.W.findIn K (.ref C) "__init__" = some (some (.builtin "object.__init__"))
  kp : PySem.W.keepIn K (.ref C) = true
section
variable {X : Cy} {P : Program} {w : World} {K : Fg} {mg : Str → Option Value} {base : Heap} {sc : Scope} {N L C Gs Bs : List Str} {k j n : Nat} {ρ ρ' : Ro} {M : Mm} {Q : DV → Mm → Prop} {R : Bool → Mm → Prop} {a b c e o tg : Expr} {es rest : List Expr} {pos p p2 apos : Pos} {x y m : Str} {sp : SpD}
theorem we_make0 {Cc : Addr} (F : Fx X P w K mg base sc N L C Gs Bs k) (Mc : Mk0 K Cc) (hx : x ∈ Gs) (hm : mg x = some (.ref Cc)) (h : ∀ q, Q (.ref q) ((q, .ins Cc []) :: M)) : WE X ρ M (.Call (.Name x p) [] [] pos) Q := fun σ H rs m => by
  obtain ⟨g1, g2, g3⟩ := F.gl x hx
  have eK := F.hK; have eg := F.hmg
  subst eK eg
  intro pins s I
  refine wpAny_Call_Name_kw (ld_glob I g1 hm ?_ g2)
  have I2 := Inv.made (C := Cc) I
  have Y := PySem.W.makes_of (M := model X.prog X.w) I.kIn Mc.makes
  have hx1 : H (s.heap.objs.size + 1) = none := I.hok.fresh (Nat.le_succ _)
  have hx2 : H s.heap.objs.size = none := I.hok.fresh (Nat.le_refl _)
  refine PySem.W.callWith_K0 I.kIn Mc.kp (wpAny_call (make_map0 I.kIn Mc.makes Mc.init (fun self => PySem.W.Looks.of_pure (PySem.W.oi_bind self)) ?_))
  have hg : ((s.heap.push PySem.W.emptyDict).push (PySem.W.instObj Cc s.heap.objs.size)).get? (s.heap.objs.size + 1) = some (PySem.W.instObj Cc s.heap.objs.size) := by
    have q := Heap.get?_push_size (s.heap.push PySem.W.emptyDict) (o := PySem.W.instObj Cc s.heap.objs.size) rfl
    rw [Heap.size_push] at q
    exact q
  have t1 : PySem.W.Looks (model X.prog X.w) ((s.heap.push PySem.W.emptyDict).push (PySem.W.instObj Cc s.heap.objs.size)) (typeOf (.ref (s.heap.objs.size + 1))) (.ref Cc) := (PySem.W.Looks.ld hg).andThen .now
  have t2 : PySem.W.Looks (model X.prog X.w) ((s.heap.push PySem.W.emptyDict).push (PySem.W.instObj Cc s.heap.objs.size)) (isInstance (.ref (s.heap.objs.size + 1)) (.type "object")) true := t1.andThen (Y.top.keeps fun b o e => Heap.get?_push_of_some _ (Heap.get?_push_of_some _ e))
  refine codeAny_call_builtin PySem.W.oi_plain PySem.W.entry_oi (@PySem.W.check_slot (model X.prog X.w) _ _ _ "object.__init__" "object" "__init__" (.ref (s.heap.objs.size + 1)) [] [] _ PySem.W.oi_kind PySem.W.oi_split t2 (PySem.W.oi_args (.ref (s.heap.objs.size + 1))) ?_)
  rw [PySem.W.oi_run]
  refine wpAny_pure (And.intro rfl ⟨V.ref (s.heap.objs.size + 1), _, I2, rfl, .ref (s.heap.objs.size + 1), _, .ref _, ?_, ?_, h _⟩)
  · have m1 : RM X.K (upd H s.heap.objs.size (.own (s.heap.objs.size + 1))) M := m.new hx2
    exact m1.cons (by rw [upd_ne (Nat.ne_of_gt (Nat.lt_succ_self _))]; exact hx1) ⟨_, [], upd_same, .nil⟩
  · refine (Stay.new hx2).trans (Stay.new ?_)
    rw [upd_ne (Nat.ne_of_gt (Nat.lt_succ_self _))]
    exact hx1
/-! ### conditions -/
theorem cdiv_of {i m : Int} (h : 0 < m) (hb : m.natAbs < 2 ^ 8000) : CDivW i m := wide_div h hb (by decide) (by decide)
theorem v_mod_p {i j : Int} (hj : 0 < j) (q : Q (.int (i % j)) M) : R2D K (rI (fun _ j => j ≠ 0) fun i j => .int (i.fmod j)) (.int i) (.int j) M Q := by
  refine v_ci (g := fun i j => i.fmod j) (by omega) ?_
  show Q (.int (i.fmod j)) M
  rw [Int.fmod_eq_emod_of_nonneg _ (by omega)]
  exact q
theorem v_mod_n {i j : Int} (hj : j ≠ 0) (q : Q (.int (i.fmod j)) M) : R2D K (rI (fun _ j => j ≠ 0) fun i j => .int (i.fmod j)) (.int i) (.int j) M Q := v_ci (g := fun i j => i.fmod j) hj q
theorem v_fdiv_p {i j : Int} (hj : CDivW i j) (q : Q (.int (i / j)) M) : R2D K (rI CDivW fun i j => .int (i / j)) (.int i) (.int j) M Q := v_ci (g := fun i j => i / j) hj q
theorem v_pow_p {i j : Int} {r : Int} (hj : CPow i j) (e : i ^ j.toNat = r) (q : Q (.int r) M) : R2D K (rI CPow fun i j => .int (i ^ j.toNat)) (.int i) (.int j) M Q := v_ci (g := fun i j => i ^ j.toNat) hj (by rw [e]; exact q)
end
end G
namespace G
open PySem L2
/-! ### the steps, found by the form of what is to be shown -/
class Step (G : Prop) (c : outParam Bool) (B : outParam Prop) : Prop where
  h : c = true → B → G
structure Side (A B : Prop) : Prop where
  a : A
  b : B
class MemC (x : Str) (l : List Str) : Prop where
  h : x ∈ l
instance {x : Str} {y : Str} {l : List Str} [m : MemC x l] : MemC x (y :: l) := ⟨List.mem_cons_of_mem _ m.h⟩
instance {x : Str} {l : List Str} : MemC x (x :: l) := ⟨List.mem_cons_self⟩
instance At.iT {x y : Str} {N : List Str} {o : Option DV} {d : DV} {ρ : Ro} [h : At N ρ x d] : At (y :: N) (o :: ρ) x d := .there h
instance At.iH {x : Str} {N : List Str} {d : DV} {ρ : Ro} : At (x :: N) (some d :: ρ) x d := .here
instance Put.iT {d : DV} {x y : Str} {N : List Str} {o : Option DV} {ρ ρ' : Ro} [h : Put d N ρ x ρ'] : Put d (y :: N) (o :: ρ) x (o :: ρ') := .there h
instance Put.iH {d : DV} {x : Str} {N : List Str} {o : Option DV} {ρ : Ro} : Put d (x :: N) (o :: ρ) x (some d :: ρ) := .here
theorem AtM.set_self {M : Mm} {i : Nat} {a : Addr} {o o' : MO} (h : AtM M i a o) : AtM (M.set i (a, o')) i a o' := by
  induction h with
  | here => exact .here
  | there _ ih => exact .there ih
theorem AtM.set_id {M : Mm} {i : Nat} {a : Addr} {o : MO} (h : AtM M i a o) : M.set i (a, o) = M := by
  induction h with
  | here => rfl
  | there _ ih => rw [List.set_cons_succ, ih]
theorem AtM.set_ne {M : Mm} {i j : Nat} {a : Addr} {o : MO} {v : Addr × MO} (h : AtM M i a o) (hn : i ≠ j) : AtM (M.set j v) i a o := by
  induction h generalizing j with
  | here =>
    cases j with
    | zero => exact absurd rfl hn
    | succ j => exact .here
  | there _ ih =>
    cases j with
    | zero => exact .there (by assumption)
    | succ j => exact .there (ih (by omega))
instance AtM.iT {a : Addr} {o : MO} {x : Addr × MO} {M : Mm} {i : Nat} [h : AtM M i a o] : AtM (x :: M) (i + 1) a o := .there h
instance AtM.iH {a : Addr} {o : MO} {M : Mm} : AtM ((a, o) :: M) 0 a o := .here
instance AtM.iS {M : Mm} {i : Nat} {a : Addr} {o o' : MO} [h : AtM M i a o] : AtM (M.set i (a, o')) i a o' := h.set_self
section
variable {X : Cy} {P : Program} {w : World} {K : Fg} {mg : Str → Option Value} {base : Heap} {sc : Scope} {N L C Gs Bs : List Str} {k j n : Nat} {ρ ρ' : Ro} {M : Mm} {Q : DV → Mm → Prop} {R : Bool → Mm → Prop} {T : List DV → Mm → Prop} {nx bk ct S : Ro → Mm → Prop} {rt : DV → Mm → Prop} {a b c e e2 o tg : Expr} {es rest : List Expr} {pos p p2 apos : Pos} {x y m : Str} {sp : SpD} {st : Stmt} {sts sa sb : List Stmt} {d : DV} {cmp cmp' : CmpOp}
-- expressions
instance [F : Fx X P w K mg base sc N L C Gs Bs k] [A : At N ρ x d] : Step (WE X ρ M (.Name x pos) Q) true (Q d M) := ⟨fun _ q => we_name F A q⟩
instance {i : Int} {j : Nat} : Step (WE X ρ M (.Constant (.int i) j pos) Q) true (Q (.int i) M) := ⟨fun _ q => we_int q⟩
instance {i : Bool} {j : Nat} : Step (WE X ρ M (.Constant (.bool i) j pos) Q) true (Q (.bl i) M) := ⟨fun _ q => we_bl q⟩
instance {j : Nat} : Step (WE X ρ M (.Constant .none j pos) Q) true (Q .non M) := ⟨fun _ q => we_non q⟩
instance {x : Str} {j : Nat} : Step (WE X ρ M (.Constant (.str x) j pos) Q) true (Q (.str x) M) := ⟨fun _ q => we_str q⟩
instance {i : Nat} : Step (WE X ρ M (.Tuple es i pos) Q) (noStars es) (WA X ρ M es fun ds M1 => Side (ds.length ≤ sizeLine) (Q (.tup ds) M1)) := ⟨fun h q => we_tup h fun σ H r m => (q σ H r m).mono fun _ _ ⟨a, b, c, d, e, f⟩ => ⟨a, b, c, d, e, f.a, f.b⟩⟩
instance : Step (WE X ρ M (.List es pos) Q) (noStars es) (WA X ρ M es fun ds M1 => Side (ds.length ≤ sizeLine) (∀ p, Q (.ref p) ((p, .lst ds) :: M1))) := ⟨fun h q => we_lst h fun σ H r m => (q σ H r m).mono fun _ _ ⟨a, b, c, d, e, f⟩ => ⟨a, b, c, d, e, f.a, f.b⟩⟩
instance : Step (WE X ρ M (.BinOp a .Add b pos) Q) true (WE X ρ M a fun x M1 => WE X ρ M1 b fun y M2 => R2D X.K (rAdd3 X.K) x y M2 Q) := ⟨fun _ => we_add⟩
instance : Step (WE X ρ M (.BinOp a .Sub b pos) Q) true (WE X ρ M a fun x M1 => WE X ρ M1 b fun y M2 => R2D X.K (rI0 fun i j => .int (i - j)) x y M2 Q) := ⟨fun _ => we_sub⟩
instance : Step (WE X ρ M (.BinOp a .Mult b pos) Q) true (WE X ρ M a fun x M1 => WE X ρ M1 b fun y M2 => R2D X.K rMul3 x y M2 Q) := ⟨fun _ => we_mul⟩
instance : Step (WE X ρ M (.BinOp a .FloorDiv b pos) Q) true (WE X ρ M a fun x M1 => WE X ρ M1 b fun y M2 => R2D X.K (rI CDivW fun i j => .int (i / j)) x y M2 Q) := ⟨fun _ => we_fdiv⟩
instance : Step (WE X ρ M (.BinOp a .Mod b pos) Q) true (WE X ρ M a fun x M1 => WE X ρ M1 b fun y M2 => R2D X.K (rI (fun _ j => j ≠ 0) fun i j => .int (i.fmod j)) x y M2 Q) := ⟨fun _ => we_mod⟩
instance : Step (WE X ρ M (.BinOp a .Pow b pos) Q) true (WE X ρ M a fun x M1 => WE X ρ M1 b fun y M2 => R2D X.K (rI CPow fun i j => .int (i ^ j.toNat)) x y M2 Q) := ⟨fun _ => we_pow⟩
instance : Step (WE X ρ M (.BinOp a .BitOr b pos) Q) true (WE X ρ M a fun x M1 => WE X ρ M1 b fun y M2 => R2D X.K (rI0 fun i j => .int (Builtin.bitOr i j)) x y M2 Q) := ⟨fun _ => we_bor⟩
instance : Step (WE X ρ M (.BinOp a .BitAnd b pos) Q) true (WE X ρ M a fun x M1 => WE X ρ M1 b fun y M2 => R2D X.K (rI0 fun i j => .int (Builtin.bitAnd i j)) x y M2 Q) := ⟨fun _ => we_band⟩
instance : Step (WE X ρ M (.BinOp a .LShift b pos) Q) true (WE X ρ M a fun x M1 => WE X ρ M1 b fun y M2 => R2D X.K (rI CPow fun i j => .int (i * 2 ^ j.toNat)) x y M2 Q) := ⟨fun _ => we_shl⟩
instance : Step (WE X ρ M (.UnaryOp .USub a pos) Q) true (WE X ρ M a fun x M1 => ∃ i, x = .int i ∧ Q (.int (-i)) M1) := ⟨fun _ => we_neg⟩
instance : Step (WE X ρ M (.UnaryOp .Not a pos) Q) true (WE X ρ M a fun x M1 => ∃ t, x = .bl t ∧ Q (.bl (!t)) M1) := ⟨fun _ => we_not⟩
instance : Step (WE X ρ M (.Subscript a b pos) Q) (!isSl b) (WE X ρ M a fun x M1 => WE X ρ M1 b fun y M2 => R2D X.K (rIx X.K) x y M2 Q) := ⟨fun h => we_ix (by simpa using h)⟩
instance [F : Fx X P w K mg base sc N L C Gs Bs k] : Step (WE X ρ M (.Compare a [.Eq] [b] pos) Q) true (WE X ρ M a fun x M1 => WE X ρ M1 b fun y M2 => R2D X.K (rEq3 X.K) x y M2 Q) := ⟨fun _ => we_eq F⟩
instance [F : Fx X P w K mg base sc N L C Gs Bs k] : Step (WE X ρ M (.Compare a [.NotEq] [b] pos) Q) true (WE X ρ M a fun x M1 => WE X ρ M1 b fun y M2 => R2D X.K (rNe3 X.K) x y M2 Q) := ⟨fun _ => we_ne F⟩
instance [F : Fx X P w K mg base sc N L C Gs Bs k] : Step (WE X ρ M (.Compare a [.Lt] [b] pos) Q) true (WE X ρ M a fun x M1 => WE X ρ M1 b fun y M2 => R2D X.K (rLt3 X.K) x y M2 Q) := ⟨fun _ => we_lt F⟩
instance : Step (WE X ρ M (.Compare a [.LtE] [b] pos) Q) true (WE X ρ M a fun x M1 => WE X ρ M1 b fun y M2 => R2D X.K (rI0 fun i j => .bl (decide (i ≤ j))) x y M2 Q) := ⟨fun _ => we_le⟩
instance : Step (WE X ρ M (.Compare a [.Gt] [b] pos) Q) true (WE X ρ M a fun x M1 => WE X ρ M1 b fun y M2 => R2D X.K (rI0 fun i j => .bl (decide (j < i))) x y M2 Q) := ⟨fun _ => we_gt⟩
instance : Step (WE X ρ M (.Compare a [.GtE] [b] pos) Q) true (WE X ρ M a fun x M1 => WE X ρ M1 b fun y M2 => R2D X.K (rI0 fun i j => .bl (decide (j ≤ i))) x y M2 Q) := ⟨fun _ => we_ge⟩
instance : Step (WE X ρ M (.Compare a [.Is] [b] pos) Q) true (WE X ρ M a fun x M1 => WE X ρ M1 b fun y M2 => R2D X.K rIs3 x y M2 Q) := ⟨fun _ => we_is⟩
instance : Step (WE X ρ M (.Compare a [.IsNot] [b] pos) Q) true (WE X ρ M a fun x M1 => WE X ρ M1 b fun y M2 => R2D X.K rNot3 x y M2 Q) := ⟨fun _ => we_isnot⟩
instance : Step (WE X ρ M (.IfExp c a b pos) Q) true (WT X ρ M c fun t M1 => (t = true → WE X ρ M1 a Q) ∧ (t = false → WE X ρ M1 b Q)) := ⟨fun _ => we_if⟩
instance {op : BoolOp} : Step (WE X ρ M (.BoolOp op [a] pos) Q) true (WE X ρ M a Q) := ⟨fun _ => we_one⟩
instance : Step (WE X ρ M (.BoolOp .And (a :: b :: rest) pos) Q) true (WE X ρ M a fun x M1 => ∃ t, x = .bl t ∧ (t = true → WE X ρ M1 (.BoolOp .And (b :: rest) pos) Q) ∧ (t = false → Q (.bl false) M1)) := ⟨fun _ => we_and⟩
instance : Step (WE X ρ M (.BoolOp .Or (a :: b :: rest) pos) Q) true (WE X ρ M a fun x M1 => ∃ t, x = .bl t ∧ (t = true → Q (.bl true) M1) ∧ (t = false → WE X ρ M1 (.BoolOp .Or (b :: rest) pos) Q)) := ⟨fun _ => we_or⟩
-- calls
instance [F : Fx X P w K mg base sc N L C Gs Bs k] [G : Cal P w K mg base x j n sp] [m : MemC x Gs] : Step (WE X ρ M (.Call (.Name x p) (e :: es) [] pos) Q) (Nat.ble j k && noStars (e :: es)) (WA X ρ M (e :: es) fun ds M1 => Side (ds.length = n) (sp ds M1 Q)) := ⟨fun h q => by
  rw [Bool.and_eq_true] at h
  exact we_call F G (Nat.le_of_ble_eq_true h.1) m.h h.2 fun σ H r m => (q σ H r m).mono fun _ _ ⟨a, b, c, d, e, f⟩ => ⟨a, b, c, d, e, f.a, f.b⟩⟩
instance [F : Fx X P w K mg base sc N L C Gs Bs k] [G : Cal P w K mg base x j 0 sp] [m : MemC x Gs] : Step (WE X ρ M (.Call (.Name x p) [] [] pos) Q) (Nat.ble j k) (sp [] M Q) := ⟨fun h q => we_call0 F G (Nat.le_of_ble_eq_true h) m.h q⟩
instance {Cc : Addr} [F : Fx X P w K mg base sc N L C Gs Bs k] [G : Mcal P w K mg base Cc m j n sp] : Step (WE X ρ M (.Call (.Attribute o m apos) (e :: es) [] pos) Q) (Nat.ble j k && notCall o && noStars (e :: es) && Nat.blt (e :: es).length 30 && (apos.endLine == pos.line))
    (WE X ρ M o fun d M1 => ∃ a i fs, d = .ref a ∧ AtM M1 i a (.ins Cc fs) ∧ fs.lookup m = none ∧ WA X ρ M1 (e :: es) fun ds M2 => Side (ds.length + 1 = n) (sp (.ref a :: ds) M2 Q)) := ⟨fun h q => by
  simp only [Bool.and_eq_true] at h
  obtain ⟨⟨⟨⟨h1, h2⟩, h3⟩, h4⟩, h5⟩ := h
  exact we_meth F G (Nat.le_of_ble_eq_true h1) h2 h3 (Nat.blt_eq.mp h4) h5 (q.mono fun d M' ⟨a, i, fs, z1, z2, z3, z4⟩ => ⟨a, i, fs, z1, z2, z3, fun σ H r m => (z4 σ H r m).mono fun _ _ ⟨a, b, c, d, e, f⟩ => ⟨a, b, c, d, e, f.a, f.b⟩⟩)⟩
instance {Cc : Addr} [F : Fx X P w K mg base sc N L C Gs Bs k] [G : Mcal P w K mg base Cc m j 1 sp] : Step (WE X ρ M (.Call (.Attribute o m apos) [] [] pos) Q) (Nat.ble j k && notCall o && (apos.endLine == pos.line))
    (WE X ρ M o fun d M1 => ∃ a i fs, d = .ref a ∧ AtM M1 i a (.ins Cc fs) ∧ fs.lookup m = none ∧ sp [.ref a] M1 Q) := ⟨fun h q => by
  simp only [Bool.and_eq_true] at h
  obtain ⟨⟨h1, h2⟩, h3⟩ := h
  exact we_meth0 F G (Nat.le_of_ble_eq_true h1) h2 h3 q⟩
/-- the receiver is known -/
instance {A : Addr} {i : Nat} {Cc : Addr} {fs : List (Str × DV)} {W : Addr → Prop} [h : AtM M i A (.ins Cc fs)] : Step (∃ a i fs, DV.ref A = .ref a ∧ AtM M i a (.ins Cc fs) ∧ fs.lookup m = none ∧ W a) true (Side (fs.lookup m = none) (W A)) := ⟨fun _ q => ⟨A, i, fs, rfl, h, q.a, q.b⟩⟩
-- built-ins
instance [F : Fx X P w K mg base sc N L C Gs Bs k] [m : MemC "int" Gs] [m2 : MemC "int" Bs] : Step (WE X ρ M (.Call (.Name (Str.ofString "int") p) [e] [] pos) Q) (noStars [e]) (WA X ρ M [e] fun ds M1 => CD X.K rInt ds M1 Q) := ⟨fun h q => we_Int F m.h m2.h h q⟩
instance [F : Fx X P w K mg base sc N L C Gs Bs k] [m : MemC "abs" Gs] [m2 : MemC "abs" Bs] : Step (WE X ρ M (.Call (.Name (Str.ofString "abs") p) [e] [] pos) Q) (noStars [e]) (WA X ρ M [e] fun ds M1 => CD X.K rAbs ds M1 Q) := ⟨fun h q => we_abs F m.h m2.h h q⟩
instance [F : Fx X P w K mg base sc N L C Gs Bs k] [m : MemC "len" Gs] [m2 : MemC "len" Bs] : Step (WE X ρ M (.Call (.Name (Str.ofString "len") p) [e] [] pos) Q) (noStars [e]) (WA X ρ M [e] fun ds M1 => CD X.K (rLen3 X.K) ds M1 Q) := ⟨fun h q => we_len F m.h m2.h h q⟩
instance [F : Fx X P w K mg base sc N L C Gs Bs k] [m : MemC "list" Gs] [m2 : MemC "list" Bs] : Step (WE X ρ M (.Call (.Name (Str.ofString "list") p) [e] [] pos) Q) (noStars [e]) (WA X ρ M [e] fun ds M1 => CD X.K (rList3 X.K) ds M1 Q) := ⟨fun h q => we_list F m.h m2.h h q⟩
instance [F : Fx X P w K mg base sc N L C Gs Bs k] [m : MemC "tuple" Gs] [m2 : MemC "tuple" Bs] : Step (WE X ρ M (.Call (.Name (Str.ofString "tuple") p) [e] [] pos) Q) (noStars [e]) (WA X ρ M [e] fun ds M1 => CD X.K (rTup3 X.K) ds M1 Q) := ⟨fun h q => we_tuple F m.h m2.h h q⟩
instance [F : Fx X P w K mg base sc N L C Gs Bs k] [m : MemC "min" Gs] [m2 : MemC "min" Bs] : Step (WE X ρ M (.Call (.Name (Str.ofString "min") p) [e, e2] [] pos) Q) (noStars [e, e2]) (WA X ρ M [e, e2] fun ds M1 => CD X.K rMin2 ds M1 Q) := ⟨fun h q => we_min2 F m.h m2.h h q⟩
instance [F : Fx X P w K mg base sc N L C Gs Bs k] [m : MemC "max" Gs] [m2 : MemC "max" Bs] : Step (WE X ρ M (.Call (.Name (Str.ofString "max") p) [e, e2] [] pos) Q) (noStars [e, e2]) (WA X ρ M [e, e2] fun ds M1 => CD X.K rMax2 ds M1 Q) := ⟨fun h q => we_max2 F m.h m2.h h q⟩
-- arguments
instance : Step (WA X ρ M [] T) true (T [] M) := ⟨fun _ => wa_nil⟩
instance : Step (WA X ρ M (e :: es) T) (!isStar e) (WE X ρ M e fun d M1 => WA X ρ M1 es fun ds M2 => T (d :: ds) M2) := ⟨fun h => wa_cons' (by simpa using h)⟩
-- tests
instance [F : Fx X P w K mg base sc N L C Gs Bs k] : Step (WT X ρ M (.Compare a [.Eq] [b] pos) R) true (WE X ρ M a fun x M1 => WE X ρ M1 b fun y M2 => R2D X.K (rEq3 X.K) x y M2 (QB R)) := ⟨fun _ => wt_eq F⟩
instance [F : Fx X P w K mg base sc N L C Gs Bs k] : Step (WT X ρ M (.Compare a [.NotEq] [b] pos) R) true (WE X ρ M a fun x M1 => WE X ρ M1 b fun y M2 => R2D X.K (rNe3 X.K) x y M2 (QB R)) := ⟨fun _ => wt_ne F⟩
instance [F : Fx X P w K mg base sc N L C Gs Bs k] : Step (WT X ρ M (.Compare a [.Lt] [b] pos) R) true (WE X ρ M a fun x M1 => WE X ρ M1 b fun y M2 => R2D X.K (rLt3 X.K) x y M2 (QB R)) := ⟨fun _ => wt_lt F⟩
instance : Step (WT X ρ M (.Compare a [.LtE] [b] pos) R) true (WE X ρ M a fun x M1 => WE X ρ M1 b fun y M2 => R2D X.K (rI0 fun i j => .bl (decide (i ≤ j))) x y M2 (QB R)) := ⟨fun _ => wt_le⟩
instance : Step (WT X ρ M (.Compare a [.Gt] [b] pos) R) true (WE X ρ M a fun x M1 => WE X ρ M1 b fun y M2 => R2D X.K (rI0 fun i j => .bl (decide (j < i))) x y M2 (QB R)) := ⟨fun _ => wt_gt⟩
instance : Step (WT X ρ M (.Compare a [.GtE] [b] pos) R) true (WE X ρ M a fun x M1 => WE X ρ M1 b fun y M2 => R2D X.K (rI0 fun i j => .bl (decide (j ≤ i))) x y M2 (QB R)) := ⟨fun _ => wt_ge⟩
instance : Step (WT X ρ M (.Compare a [.Is] [b] pos) R) true (WE X ρ M a fun x M1 => WE X ρ M1 b fun y M2 => R2D X.K rIs3 x y M2 (QB R)) := ⟨fun _ => wt_is⟩
instance : Step (WT X ρ M (.Compare a [.IsNot] [b] pos) R) true (WE X ρ M a fun x M1 => WE X ρ M1 b fun y M2 => R2D X.K rNot3 x y M2 (QB R)) := ⟨fun _ => wt_isnot⟩
instance : Step (WT X ρ M (.UnaryOp .Not a pos) R) true (WT X ρ M a fun t M1 => R (!t) M1) := ⟨fun _ => wt_not⟩
instance {op : BoolOp} : Step (WT X ρ M (.BoolOp op es pos) R) true (WW X ρ M (.BoolOp op es pos) R) := ⟨fun _ => wt_ww⟩
instance : Step (WW X ρ M (.BoolOp .And [a] pos) R) true (WT X ρ M a R) := ⟨fun _ => wt_and1⟩
instance : Step (WW X ρ M (.BoolOp .Or [a] pos) R) true (WT X ρ M a R) := ⟨fun _ => wt_or1⟩
instance : Step (WW X ρ M (.BoolOp .And (a :: b :: rest) pos) R) true (WT X ρ M a fun t M1 => (t = true → WW X ρ M1 (.BoolOp .And (b :: rest) pos) R) ∧ (t = false → R false M1)) := ⟨fun _ => wt_and⟩
instance : Step (WW X ρ M (.BoolOp .Or (a :: b :: rest) pos) R) true (WT X ρ M a fun t M1 => (t = true → R true M1) ∧ (t = false → WW X ρ M1 (.BoolOp .Or (b :: rest) pos) R)) := ⟨fun _ => wt_or⟩
instance (priority := low) : Step (WT X ρ M e R) (plainT e) (WE X ρ M e fun x M1 => ∃ t, x = .bl t ∧ R t M1) := ⟨fun h q => wt_val h q⟩
-- values
instance {g : Int → Int → Int} {i j : Int} : Step (R2D K (rI0 fun i j => .int (g i j)) (.int i) (.int j) M Q) true (Q (.int (g i j)) M) := ⟨fun _ q => v_ii q⟩
instance {g : Int → Int → Bool} {i j : Int} : Step (R2D K (rI0 fun i j => .bl (g i j)) (.int i) (.int j) M Q) true (Q (.bl (g i j)) M) := ⟨fun _ q => v_ib q⟩
instance {i j : Int} : Step (R2D K (rAdd3 K) (.int i) (.int j) M Q) true (Q (.int (i + j)) M) := ⟨fun _ q => v_add_i q⟩
instance {i j : Str} : Step (R2D K (rAdd3 K) (.str i) (.str j) M Q) true (Side (i.length + j.length ≤ sizeLine) (Q (.str (i ++ j)) M)) := ⟨fun _ q => v_add_s q.a q.b⟩
instance {x y : Addr} {i j : Nat} {xs ys : List DV} [h : AtM M i x (.lst xs)] [h2 : AtM M j y (.lst ys)] : Step (R2D K (rAdd3 K) (.ref x) (.ref y) M Q) true (Side (xs.length + ys.length ≤ sizeLine) (∀ p, Q (.ref p) ((p, .lst (xs ++ ys)) :: M))) := ⟨fun _ q => v_add_l h h2 q.a q.b⟩
instance {xs ys : List DV} : Step (R2D K (rAdd3 K) (.tup xs) (.tup ys) M Q) true (Side (xs.length + ys.length ≤ sizeLine) (Q (.tup (xs ++ ys)) M)) := ⟨fun _ q => v_add_t q.a q.b⟩
instance {i j : Int} : Step (R2D K rMul3 (.int i) (.int j) M Q) true (Side (CMul i j ∨ CMulW i j) (Q (.int (i * j)) M)) := ⟨fun _ q => v_mul_i q.a q.b⟩
/-- i % j: by a positive number, or by any but nought -/
def ModD (i j : Int) (M : Mm) (Q : DV → Mm → Prop) : Prop := (0 < j ∧ Q (.int (i % j)) M) ∨ (j ≠ 0 ∧ Q (.int (i.fmod j)) M)
theorem ModD.gz {i j : Int} (h : 0 < j) (q : Q (.int (i % j)) M) : ModD i j M Q := .inl ⟨h, q⟩
theorem ModD.nz {i j : Int} (h : j ≠ 0) (q : Q (.int (i.fmod j)) M) : ModD i j M Q := .inr ⟨h, q⟩
instance {i j : Int} : Step (R2D K (rI (fun _ j => j ≠ 0) fun i j => .int (i.fmod j)) (.int i) (.int j) M Q) true (ModD i j M Q) := ⟨fun _ q => q.elim (fun q => v_mod_p q.1 q.2) fun q => v_mod_n q.1 q.2⟩
instance {i j : Int} : Step (R2D K (rI CDivW fun i j => .int (i / j)) (.int i) (.int j) M Q) true (Side (CDivW i j) (Q (.int (i / j)) M)) := ⟨fun _ q => v_fdiv_p q.a q.b⟩
instance {i j : Int} : Step (R2D K (rI CPow fun i j => .int (i ^ j.toNat)) (.int i) (.int j) M Q) true (Side (CPow i j) (Q (.int (i ^ j.toNat)) M)) := ⟨fun _ q => v_pow_p q.a rfl q.b⟩
instance {i j : Int} : Step (R2D K (rI CPow fun i j => .int (i * 2 ^ j.toNat)) (.int i) (.int j) M Q) true (Side (CPow i j) (Q (.int (i * 2 ^ j.toNat)) M)) := ⟨fun _ q => v_ci (g := fun i j => i * 2 ^ j.toNat) q.a q.b⟩
instance {i j : Int} : Step (R2D K (rLt3 K) (.int i) (.int j) M Q) true (Q (.bl (decide (i < j))) M) := ⟨fun _ q => R2D.l (v_ib q)⟩
instance {b : Bool} : Step (QB R (.bl b) M) true (R b M) := ⟨fun _ q => qb q⟩
instance {i j : Int} : Step (R2D K (rEq3 K) (.int i) (.int j) M Q) true (Q (.bl (decide (i = j))) M) := ⟨fun _ q => v_eq_i q⟩
instance {i j : Int} : Step (R2D K (rNe3 K) (.int i) (.int j) M Q) true (Q (.bl (!decide (i = j))) M) := ⟨fun _ q => v_ne_i q⟩
instance {i j : Bool} : Step (R2D K (rEq3 K) (.bl i) (.bl j) M Q) true (Q (.bl (decide (i = j))) M) := ⟨fun _ q => v_eq_b q⟩
instance {i j : Bool} : Step (R2D K (rNe3 K) (.bl i) (.bl j) M Q) true (Q (.bl (!decide (i = j))) M) := ⟨fun _ q => v_ne_b q⟩
instance {i j : Str} : Step (R2D K (rEq3 K) (.str i) (.str j) M Q) true (Q (.bl (decide (i = j))) M) := ⟨fun _ q => v_eq_s q⟩
instance {i j : Str} : Step (R2D K (rNe3 K) (.str i) (.str j) M Q) true (Q (.bl (!decide (i = j))) M) := ⟨fun _ q => v_ne_s q⟩
instance : Step (R2D K rIs3 d .non M Q) true (Q (.bl d.isNon) M) := ⟨fun _ q => v_is_n q⟩
instance : Step (R2D K rNot3 d .non M Q) true (Q (.bl (!d.isNon)) M) := ⟨fun _ q => v_isnot_n q⟩
instance {x y : Bool} : Step (R2D K rIs3 (.bl x) (.bl y) M Q) true (Q (.bl (decide (x = y))) M) := ⟨fun _ q => v_is_b q⟩
instance {x y : Bool} : Step (R2D K rNot3 (.bl x) (.bl y) M Q) true (Q (.bl (!decide (x = y))) M) := ⟨fun _ q => v_isnot_b q⟩
instance {i : Int} : Step (CD K rInt [.int i] M Q) true (Q (.int i) M) := ⟨fun _ q => v_int_i q⟩
instance {i : Bool} : Step (CD K rInt [.bl i] M Q) true (Q (.int (if i then 1 else 0)) M) := ⟨fun _ q => v_int_b q⟩
instance {i : Int} : Step (CD K rAbs [.int i] M Q) true (Q (.int (if i < 0 then -i else i)) M) := ⟨fun _ q => v_abs q⟩
instance {i j : Int} : Step (CD K rMin2 [.int i, .int j] M Q) true (Q (.int (if j < i then j else i)) M) := ⟨fun _ q => v_min2 q⟩
instance {i j : Int} : Step (CD K rMax2 [.int i, .int j] M Q) true (Q (.int (if j > i then j else i)) M) := ⟨fun _ q => v_max2 q⟩
instance {ds : List DV} : Step (CD K (rLen3 K) [.tup ds] M Q) true (Q (.int (ds.length : Int)) M) := ⟨fun _ q => v_len_t q⟩
instance {ds : List DV} {i : Nat} {a : Addr} [h : AtM M i a (.lst ds)] : Step (CD K (rLen3 K) [.ref a] M Q) true (Q (.int (ds.length : Int)) M) := ⟨fun _ q => v_len_l h q⟩
instance {z : Str} : Step (CD K (rLen3 K) [.str z] M Q) true (Side (z.length ≤ sizeLine) (Q (.int (z.length : Int)) M)) := ⟨fun _ q => v_len_s q.a q.b⟩
instance {ds : List DV} {i : Nat} {a : Addr} [h : AtM M i a (.lst ds)] : Step (CD K (rList3 K) [.ref a] M Q) true (∀ p, Q (.ref p) ((p, .lst ds) :: M)) := ⟨fun _ q => v_list_l h q⟩
instance {ds : List DV} : Step (CD K (rList3 K) [.tup ds] M Q) true (∀ p, Q (.ref p) ((p, .lst ds) :: M)) := ⟨fun _ q => v_list_t q⟩
instance {ds : List DV} {i : Nat} {a : Addr} [h : AtM M i a (.lst ds)] : Step (CD K (rTup3 K) [.ref a] M Q) true (Q (.tup ds) M) := ⟨fun _ q => v_tuple_l h q⟩
instance {ds : List DV} : Step (CD K (rTup3 K) [.tup ds] M Q) true (Q (.tup ds) M) := ⟨fun _ q => v_tuple_t q⟩
/-- an item at a written place -/
class IxL (ds : List DV) (i : Int) (d : outParam DV) : Prop where
  h : atI ds i = some d
class SetL (ds : List DV) (i : Int) (d : DV) (es : outParam (List DV)) : Prop where
  h : ∃ j, ixN ds.length i = some j ∧ ds.set j d = es
theorem atI_of {ds : List DV} {d : DV} (i : Nat) (h : ds[i]? = some d) : atI ds (i : Int) = some d := atI_nat h
theorem ixN_of {n : Nat} (i : Nat) (h : i < n) : ixN n (i : Int) = some i := by
  unfold ixN
  rw [if_pos (by omega), if_pos (by omega)]
  simp
instance {r : List DV} {d0 : DV} : IxL (d0 :: r) 0 d0 := ⟨atI_of 0 rfl⟩
instance {r : List DV} {d0 d1 : DV} : IxL (d0 :: d1 :: r) 1 d1 := ⟨atI_of 1 rfl⟩
instance {r : List DV} {d0 d1 d2 : DV} : IxL (d0 :: d1 :: d2 :: r) 2 d2 := ⟨atI_of 2 rfl⟩
instance {r : List DV} {d0 d1 d2 d3 : DV} : IxL (d0 :: d1 :: d2 :: d3 :: r) 3 d3 := ⟨atI_of 3 rfl⟩
instance {r : List DV} {d0 d1 d2 d3 d4 : DV} : IxL (d0 :: d1 :: d2 :: d3 :: d4 :: r) 4 d4 := ⟨atI_of 4 rfl⟩
instance {r : List DV} {d0 d1 d2 d3 d4 d5 : DV} : IxL (d0 :: d1 :: d2 :: d3 :: d4 :: d5 :: r) 5 d5 := ⟨atI_of 5 rfl⟩
instance {r : List DV} {d0 d1 d2 d3 d4 d5 d6 : DV} : IxL (d0 :: d1 :: d2 :: d3 :: d4 :: d5 :: d6 :: r) 6 d6 := ⟨atI_of 6 rfl⟩
instance {r : List DV} {d0 d1 d2 d3 d4 d5 d6 d7 : DV} : IxL (d0 :: d1 :: d2 :: d3 :: d4 :: d5 :: d6 :: d7 :: r) 7 d7 := ⟨atI_of 7 rfl⟩
instance {r : List DV} {d0 d1 d2 d3 d4 d5 d6 d7 d8 : DV} : IxL (d0 :: d1 :: d2 :: d3 :: d4 :: d5 :: d6 :: d7 :: d8 :: r) 8 d8 := ⟨atI_of 8 rfl⟩
instance {r : List DV} {d0 d1 d2 d3 d4 d5 d6 d7 d8 d9 : DV} : IxL (d0 :: d1 :: d2 :: d3 :: d4 :: d5 :: d6 :: d7 :: d8 :: d9 :: r) 9 d9 := ⟨atI_of 9 rfl⟩
instance {r : List DV} {d0 d1 d2 d3 d4 d5 d6 d7 d8 d9 d10 : DV} : IxL (d0 :: d1 :: d2 :: d3 :: d4 :: d5 :: d6 :: d7 :: d8 :: d9 :: d10 :: r) 10 d10 := ⟨atI_of 10 rfl⟩
instance {r : List DV} {d0 d1 d2 d3 d4 d5 d6 d7 d8 d9 d10 d11 : DV} : IxL (d0 :: d1 :: d2 :: d3 :: d4 :: d5 :: d6 :: d7 :: d8 :: d9 :: d10 :: d11 :: r) 11 d11 := ⟨atI_of 11 rfl⟩
instance {r : List DV} {d0 d1 d2 d3 d4 d5 d6 d7 d8 d9 d10 d11 d12 : DV} : IxL (d0 :: d1 :: d2 :: d3 :: d4 :: d5 :: d6 :: d7 :: d8 :: d9 :: d10 :: d11 :: d12 :: r) 12 d12 := ⟨atI_of 12 rfl⟩
instance {r : List DV} {d0 e : DV} : SetL (d0 :: r) 0 e (e :: r) := ⟨0, ixN_of 0 (by simp), rfl⟩
instance {r : List DV} {d0 d1 e : DV} : SetL (d0 :: d1 :: r) 1 e (d0 :: e :: r) := ⟨1, ixN_of 1 (by simp), rfl⟩
instance {r : List DV} {d0 d1 d2 e : DV} : SetL (d0 :: d1 :: d2 :: r) 2 e (d0 :: d1 :: e :: r) := ⟨2, ixN_of 2 (by simp), rfl⟩
instance {r : List DV} {d0 d1 d2 d3 e : DV} : SetL (d0 :: d1 :: d2 :: d3 :: r) 3 e (d0 :: d1 :: d2 :: e :: r) := ⟨3, ixN_of 3 (by simp), rfl⟩
instance {ds : List DV} {i : Int} [h : IxL ds i d] : Step (R2D K (rIx K) (.tup ds) (.int i) M Q) true (Q d M) := ⟨fun _ q => v_ix_t h.h q⟩
instance {ds : List DV} {i : Int} {n : Nat} {a : Addr} [A : AtM M n a (.lst ds)] [h : IxL ds i d] : Step (R2D K (rIx K) (.ref a) (.int i) M Q) true (Q d M) := ⟨fun _ q => v_ix_l A h.h q⟩
-- what values are
instance {b : Bool} {W : Bool → Prop} : Step (∃ t, DV.bl b = .bl t ∧ W t) true (W b) := ⟨fun _ q => ⟨b, rfl, q⟩⟩
instance {b : Int} {W : Int → Prop} : Step (∃ t, DV.int b = .int t ∧ W t) true (W b) := ⟨fun _ q => ⟨b, rfl, q⟩⟩
-- targets
instance [F : Fx X P w K mg base sc N L C Gs Bs k] [m : MemC x L] [h : Put d N ρ x ρ'] : Step (WG X ρ M (.Name x pos) d S) true (S ρ' M) := ⟨fun _ q => wg_name F m.h h q⟩
instance (priority := low) [F : Fx X P w K mg base sc N L C Gs Bs k] [m : MemC x C] [h : Put d N ρ x ρ'] : Step (WG X ρ M (.Name x pos) d S) true (S ρ' M) := ⟨fun _ q => wg_nameC F m.h h q⟩
instance {i : Nat} {t1 t2 : Expr} {d1 d2 : DV} [F : Fx X P w K mg base sc N L C Gs Bs k] : Step (WG X ρ M (.Tuple [t1, t2] i pos) (.tup [d1, d2]) S) (notStarT t1 && notStarT t2) (WG X ρ M t1 d1 fun ρ1 M1 => WG X ρ1 M1 t2 d2 S) := ⟨fun h q => by rw [Bool.and_eq_true] at h; exact wg_tup2 F h.1 h.2 q⟩
instance {i : Nat} {t1 t2 t3 : Expr} {d1 d2 d3 : DV} [F : Fx X P w K mg base sc N L C Gs Bs k] : Step (WG X ρ M (.Tuple [t1, t2, t3] i pos) (.tup [d1, d2, d3]) S) (notStarT t1 && notStarT t2 && notStarT t3) (WG X ρ M t1 d1 fun ρ1 M1 => WG X ρ1 M1 t2 d2 fun ρ2 M2 => WG X ρ2 M2 t3 d3 S) := ⟨fun h q => by simp only [Bool.and_eq_true] at h; exact wg_tup3 F h.1.1 h.1.2 h.2 q⟩
def SetIx (M : Mm) (x y d : DV) (S : Mm → Prop) : Prop := ∃ (p : Addr) (n : Nat) (xs : List DV) (i : Int) (j : Nat), x = .ref p ∧ y = .int i ∧ AtM M n p (.lst xs) ∧ ixN xs.length i = some j ∧ S (M.set n (p, .lst (xs.set j d)))
instance : Step (WG X ρ M (.Subscript a b pos) d S) (!isSl b) (WE X ρ M a fun x M1 => WE X ρ M1 b fun y M2 => SetIx M2 x y d (S ρ)) := ⟨fun h => wg_ix (by simpa using h)⟩
/-- l[i] = d at a written place -/
instance {A : Addr} {i : Int} {n : Nat} {ds es : List DV} {W : Mm → Prop} [h : AtM M n A (.lst ds)] [h2 : SetL ds i d es] : Step (SetIx M (.ref A) (.int i) d W) true (W (M.set n (A, .lst es))) := ⟨fun _ q => by
  obtain ⟨j, e1, e2⟩ := h2.h
  exact ⟨A, n, ds, i, j, rfl, rfl, h, e1, by rw [e2]; exact q⟩⟩
-- statements
instance : Step (WSs X ρ M [] nx rt bk ct) true (nx ρ M) := ⟨fun _ => wss_nil⟩
instance : Step (WSs X ρ M (st :: sts) nx rt bk ct) true (WS X ρ M st (fun ρ1 M1 => WSs X ρ1 M1 sts nx rt bk ct) rt bk ct) := ⟨fun _ => wss_cons⟩
instance : Step (WS X ρ M (.Pass pos) nx rt bk ct) true (nx ρ M) := ⟨fun _ => ws_pass⟩
instance : Step (WS X ρ M (.Break pos) nx rt bk ct) true (bk ρ M) := ⟨fun _ => ws_break⟩
instance : Step (WS X ρ M (.Continue pos) nx rt bk ct) true (ct ρ M) := ⟨fun _ => ws_cont⟩
instance : Step (WS X ρ M (.Return (some e) pos) nx rt bk ct) true (WE X ρ M e rt) := ⟨fun _ => ws_ret⟩
instance : Step (WS X ρ M (.Return none pos) nx rt bk ct) true (rt .non M) := ⟨fun _ => ws_retN⟩
instance : Step (WS X ρ M (.If c sa sb pos) nx rt bk ct) true (WT X ρ M c fun t M1 => (t = true → WSs X ρ M1 sa nx rt bk ct) ∧ (t = false → WSs X ρ M1 sb nx rt bk ct)) := ⟨fun _ => ws_if⟩
instance : Step (WS X ρ M (.Expr e pos) nx rt bk ct) (notComp e) (WE X ρ M e fun _ M1 => nx ρ M1) := ⟨fun h => ws_expr h⟩
instance : Step (WS X ρ M (.Assign [tg] e pos) nx rt bk ct) (notComp e && notPair tg e && notStarT tg) (WE X ρ M e fun d M1 => WG X ρ M1 tg d nx) := ⟨fun h => by simp only [Bool.and_eq_true] at h; exact ws_asg h.1.1 h.1.2 h.2⟩
end
end G
namespace G
open PySem L2
/-! ### list comprehensions -/
def mask : List Bool → Ro → Ro
  | true :: ms, o :: ρ => o :: mask ms ρ
  | false :: ms, _ :: ρ => none :: mask ms ρ
  | [], _ => []
  | _, [] => []
theorem mask_get : ∀ {ms : List Bool} {ρ : Ro} {i : Nat} {d : DV}, (mask ms ρ)[i]? = some (some d) → ms[i]? = some true ∧ ρ[i]? = some (some d)
  | true :: ms, o :: ρ, 0, d, h => by simp [mask] at h; subst h; exact ⟨rfl, rfl⟩
  | true :: ms, o :: ρ, i + 1, d, h => by
    have := mask_get (ms := ms) (ρ := ρ) (i := i) (d := d) (by simpa [mask] using h)
    simpa using this
  | false :: ms, o :: ρ, 0, d, h => by simp [mask] at h
  | false :: ms, o :: ρ, i + 1, d, h => by
    have := mask_get (ms := ms) (ρ := ρ) (i := i) (d := d) (by simpa [mask] using h)
    simpa using this
  | [], ρ, i, d, h => by simp [mask] at h
  | true :: ms, [], i, d, h => by simp [mask] at h
  | false :: ms, [], i, d, h => by simp [mask] at h
theorem mask_len : ∀ {ms : List Bool} {ρ : Ro}, ms.length = ρ.length → (mask ms ρ).length = ρ.length
  | true :: ms, o :: ρ, h => by simp [mask, mask_len (ms := ms) (ρ := ρ) (by simpa using h)]
  | false :: ms, o :: ρ, h => by simp [mask, mask_len (ms := ms) (ρ := ρ) (by simpa using h)]
  | [], [], h => rfl
  | [], _ :: _, h => by simp at h
  | _ :: _, [], h => by simp at h
/-- the names that the block sees of the outer ones; its own cells -/
def maskC (N : List Str) (sc' scope : Scope) (own : List (Str × Nat)) (C' : List Str) (ms : List Bool) : Bool :=
  (ms.length == N.length) && ((List.range ms.length).all fun i => !(ms.getD i false) || (match sc'.names.lookup (N.getD i "") with | some .cell => true | some .free => true | _ => false) && !((own.map (·.2)).contains i)) && (C'.all fun x => scope.names.lookup x == some .cell)
theorem wipe_get {σ : L2.St} {i : Nat} : ∀ {vs : List Nat}, i ∉ vs → (wipe σ vs)[i]? = σ[i]?
  | [], _ => rfl
  | v :: vs, h => by
    simp only [List.mem_cons, not_or] at h
    unfold wipe
    rw [List.getElem?_set_ne (fun e => h.1 e.symm)]
    exact wipe_get h.2
theorem wipe_at {τ : L2.St} {ws : List Nat} {j : Nat} (h : j ∈ ws) : (wipe τ ws)[j]? = if j < τ.length then some none else none := by
  induction ws with
  | nil => cases h
  | cons v ws ih =>
    unfold wipe
    rw [List.getElem?_set]
    by_cases e : v = j
    · subst e
      rw [if_pos rfl, wipe_length]
    · rw [if_neg e]
      exact ih ((List.mem_cons.mp h).resolve_left fun z => e z.symm)
theorem wipe_wipe {τ : L2.St} {ws : List Nat} : wipe (wipe τ ws) ws = wipe τ ws := by
  apply List.ext_getElem?
  intro t
  by_cases ht : t ∈ ws
  · rw [wipe_at ht, wipe_at ht, wipe_length]
  · rw [wipe_get ht]
theorem wipe_set {σ : L2.St} {i : Nat} {o : Option V} : ∀ {vs : List Nat}, i ∈ vs → wipe ((wipe σ vs).set i o) vs = wipe σ vs := fun {vs} h => by
  apply List.ext_getElem?
  intro j
  by_cases hj : j ∈ vs
  · have key : ∀ (τ : L2.St) (ws : List Nat), j ∈ ws → (wipe τ ws)[j]? = if j < τ.length then some none else none := fun τ ws => by
      induction ws with
      | nil => intro h; cases h
      | cons v ws ih =>
        intro h
        unfold wipe
        rw [List.getElem?_set]
        by_cases e : v = j
        · subst e
          rw [if_pos rfl, wipe_length]
        · rw [if_neg e]
          exact ih ((List.mem_cons.mp h).resolve_left fun z => e z.symm)
    rw [key _ _ hj, key _ _ hj, List.length_set, wipe_length]
  · rw [wipe_get hj, List.getElem?_set_ne (fun e => hj (by rw [← e]; exact h))]
section
variable {X : Cy} {P : Program} {w : World} {K : Fg} {mg : Str → Option Value} {base : Heap} {sc : Scope} {N L C Gs Bs L' C' Gs' : List Str} {k : Nat} {ρ ρ' : Ro} {M : Mm} {Q : DV → Mm → Prop} {elt iter c : Expr} {scope : Scope} {pos px py pt : Pos} {x y : Str} {ms : List Bool} {own : List (Str × Nat)}
/-- a comprehension's block -/
abbrev Cy.blk (X : Cy) (s : Shared) (H : Hp) (scope : Scope) (env : Env) (fp : List Addr) : Cy := ⟨X.toCx.blk s H scope env fp, X.anc⟩
theorem blk_fx (F : Fx X P w K mg base sc N L C Gs Bs k) (st : stat (relS scope sc) N L' C' Gs' = true) (hm : maskC N (relS scope sc) scope own C' ms = true) (s : Shared) (H : Hp) (Ca : Addr) (cl : List (Str × Addr)) (fp : List Addr) :
    Fx (X.blk s H scope (compEnvC scope cl Ca X.env) fp) P w K mg base (relS scope sc) N L' C' Gs' Bs k := by
  have T := stat_ok st
  have hs : (compEnvC scope cl Ca X.env).scope = relS scope sc := by rw [← F.hsc]; rfl
  have hc : ∀ z ∈ C', (scope.names.lookup z == some .cell) = true := by
    unfold maskC at hm
    simp only [Bool.and_eq_true, List.all_eq_true] at hm
    exact hm.2
  exact ⟨F.hP, F.hw, F.hK, F.hmg, F.hbase, F.hN, hs, T.nd, fun z hz => by rw [hs]; exact T.loc z hz, fun z hz => ⟨by rw [hs]; exact T.cel z hz, hc z hz⟩, by rw [hs]; exact T.kind, T.nob, fun z hz => by
    obtain ⟨a, b, c⟩ := T.gl z hz
    exact ⟨by show (compEnvC scope cl Ca X.env).scope.names.lookup z = _; rw [hs]; exact a, b, c⟩, F.bl, F.calm, F.room, PassesOwn.never⟩
theorem blk_rs (F : Fx X P w K mg base sc N L C Gs Bs k) (hm : maskC N (relS scope sc) scope own C' ms = true) {σ : L2.St} {H0 : Hp} (hl : σ.length = N.length) (r : RS X H0 ρ σ) (s : Shared) (H : Hp) (Ca : Addr) (cl : List (Str × Addr)) (fp : List Addr) :
    RS (X.blk s H scope (compEnvC scope cl Ca X.env) fp) H0 (mask ms ρ) (wipe σ (own.map (·.2))) := by
  have hs : (compEnvC scope cl Ca X.env).scope = relS scope sc := by rw [← F.hsc]; rfl
  unfold maskC at hm
  simp only [Bool.and_eq_true, List.all_eq_true, beq_iff_eq] at hm
  obtain ⟨⟨h1, h2⟩, h3⟩ := hm
  have hlm : ms.length = ρ.length := by rw [h1, r.len, hl]
  refine ⟨r.st, by rw [wipe_length, mask_len hlm, r.len], fun i d h => ?_⟩
  obtain ⟨g1, g2⟩ := mask_get h
  obtain ⟨⟨z, a1, a2⟩, v, a3, a4⟩ := r.get i d g2
  have hi : i < ms.length := (List.getElem?_eq_some_iff.mp g1).1
  have q := h2 i (List.mem_range.mpr hi)
  have e1 : ms.getD i false = true := by rw [List.getD_eq_getElem?_getD, g1]; rfl
  have e2 : N.getD i "" = z := by rw [List.getD_eq_getElem?_getD, ← F.hN, a1]; rfl
  rw [e1, e2] at q
  simp only [Bool.not_true, Bool.false_or, Bool.and_eq_true] at q
  obtain ⟨q1, q2⟩ := q
  have hni : i ∉ own.map (·.2) := fun hh => by
    have : (own.map (·.2)).contains i = true := List.contains_iff_mem.mpr hh
    rw [this] at q2
    cases q2
  refine ⟨⟨z, a1, ?_⟩, v, by rw [wipe_get hni]; exact a3, a4⟩
  show Vis (compEnvC scope cl Ca X.env).scope z
  rw [hs]
  cases e : (relS scope sc).names.lookup z with
  | none => rw [e] at q1; cases q1
  | some kk => rw [e] at q1; cases kk <;> first | exact .inr (.inl e) | exact .inr (.inr e) | exact Bool.noConfusion q1
/-- a target upon values -/
abbrev TgD := DV → (Ro → Prop) → Prop
def TgN (N : List Str) (ρ : Ro) (x : Str) : TgD := fun d S => ∃ ρ2, Put d N ρ x ρ2 ∧ S ρ2
def TgT (N : List Str) (ρ : Ro) (x y : Str) : TgD := fun d S => ∃ d1 d2 ρ1 ρ2, d = .tup [d1, d2] ∧ Put d1 N ρ x ρ1 ∧ Put d2 N ρ1 y ρ2 ∧ S ρ2
instance {d : DV} {S : Ro → Prop} [h : Put d N ρ x ρ'] : Step (TgN N ρ x d S) true (S ρ') := ⟨fun _ q => ⟨ρ', h, q⟩⟩
instance {d1 d2 : DV} {ρ1 ρ2 : Ro} {S : Ro → Prop} [h : Put d1 N ρ x ρ1] [h2 : Put d2 N ρ1 y ρ2] : Step (TgT N ρ x y (.tup [d1, d2]) S) true (S ρ2) := ⟨fun _ q => ⟨d1, d2, ρ1, ρ2, rfl, h, h2, q⟩⟩
/-- the list at D gets one more -/
def App (D : Addr) (M : Mm) (d : DV) (S : Mm → Prop) : Prop := ∃ j acc, AtM M j D (.lst acc) ∧ acc.length < sizeLine ∧ S (M.set j (D, .lst (acc ++ [d])))
instance {D : Addr} {d : DV} {j : Nat} {acc : List DV} {S : Mm → Prop} [h : AtM M j D (.lst acc)] : Step (App D M d S) true (Side (acc.length < sizeLine) (S (M.set j (D, .lst (acc ++ [d]))))) := ⟨fun _ q => ⟨j, acc, h, q.a, q.b⟩⟩
/-- a turn's own part; FP: what is known of the block -/
def LcB (FP : Cy → Prop) (X' : Cy) (ρ : Ro) (M : Mm) (elt : Expr) (ifs : List Expr) (D : Addr) (I : Mm → Prop) : Prop := match ifs with
  | [] => WE X' ρ M elt fun d M5 => App D M5 d (Sub I)
  | [c] => WT X' ρ M c fun b M4 => (b = true → ∀ X'', FP X'' → WE X'' ρ M4 elt fun d M5 => App D M5 d (Sub I)) ∧ (b = false → Sub I M4)
  | _ => False
instance {FP : Cy → Prop} {X' : Cy} {D : Addr} {I : Mm → Prop} : Step (LcB FP X' ρ M elt [] D I) true (WE X' ρ M elt fun d M5 => App D M5 d (Sub I)) := ⟨fun _ q => q⟩
instance {FP : Cy → Prop} {X' : Cy} {D : Addr} {I : Mm → Prop} : Step (LcB FP X' ρ M elt [c] D I) true (WT X' ρ M c fun b M4 => (b = true → ∀ X'', FP X'' → WE X'' ρ M4 elt fun d M5 => App D M5 d (Sub I)) ∧ (b = false → Sub I M4)) := ⟨fun _ q => q⟩
/-- what a comprehension's loop asks -/
def LcI (P : Program) (w : World) (K : Fg) (mg : Str → Option Value) (base : Heap) (sc' : Scope) (N L' C' Gs' Bs : List Str) (k : Nat) (tgd : TgD) (elt : Expr) (ifs : List Expr) (Q : DV → Mm → Prop) (n : Nat) (y : Nat → DV) (G : Mm → Prop) (M1 : Mm) : Prop :=
  ∀ D, ∃ I : Nat → Mm → Prop, Sub (I 0) ((D, .lst []) :: M1) ∧ (∀ i M2, i ≤ n → I i M2 → G M2) ∧
    (∀ i M2, i < n → I i M2 → tgd (y i) fun ρ2 => ∀ X', Fx X' P w K mg base sc' N L' C' Gs' Bs k → LcB (fun X'' => Fx X'' P w K mg base sc' N L' C' Gs' Bs k) X' ρ2 M2 elt ifs D (I (i + 1))) ∧
    (∀ M2, I n M2 → Q (.ref D) M2)
def ttOf (X : Cy) (scope : Scope) : List Expr → TT
  | [] => tYes
  | [c] => fun σ H Q => ∀ (s : Shared) (H0 : Hp) (Ca : Addr) (cl : List (Str × Addr)) (fp : List Addr), wT (X.blk s H0 scope (compEnvC scope cl Ca X.env) fp) c σ H Q
  | _ => fun _ _ _ => False
def teOf (X : Cy) (scope : Scope) (elt : Expr) : TE := fun σ H Q => ∀ (s : Shared) (H0 : Hp) (Ca : Addr) (cl : List (Str × Addr)) (fp : List Addr), wE (X.blk s H0 scope (compEnvC scope cl Ca X.env) fp) elt σ H Q
theorem lc_gen {tg : Expr} {ifs : List Expr} {g : TG} {tgd : TgD} (F : Fx X P w K mg base sc N L C Gs Bs k) (ok : blkC N sc scope own = true) (st : stat (relS scope sc) N L' C' Gs' = true) (hm : maskC N (relS scope sc) scope own C' ms = true) (hs : notSet iter = true) (hif : ifs.length ≤ 1)
    (hg : ∀ (s : Shared) (H : Hp) (Ca : Addr) (cl : List (Str × Addr)) (fp : List Addr), PG (X.blk s H scope (compEnvC scope cl Ca X.env) fp) tg g)
    (hgw : ∀ (d : DV) (S : Ro → Prop) (σ : L2.St) (H0 : Hp) (v : V) (Qg : L2.St → Hp → Prop), tgd d S → (∀ s H Ca cl fp, RS (X.blk s H scope (compEnvC scope cl Ca X.env) fp) H0 (mask ms ρ) (wipe σ (own.map (·.2)))) → RD K H0 d v →
      (∀ σ2 ρ2, wipe σ2 (own.map (·.2)) = wipe σ (own.map (·.2)) → (∀ s H Ca cl fp, RS (X.blk s H scope (compEnvC scope cl Ca X.env) fp) H0 ρ2 σ2) → S ρ2 → Qg σ2 H0) → g v (wipe σ (own.map (·.2))) H0 Qg)
    (h : WI X ρ M tg iter (LcI P w K mg base (relS scope sc) N L' C' Gs' Bs k tgd elt ifs Q)) {σ : L2.St} {H : Hp} (rs : RS X H ρ σ) (m : RM X.K H M) (hlen : σ.length = N.length) {KQ : VK} (hKQ : ∀ D H' M2, RM X.K H' M2 → Stay X.K H H' → Q (.ref D) M2 → KQ (.ref D) H') :
    ∃ wi' tt te, PI X tg iter wi' ∧ (∀ (s : Shared) (H : Hp) (Ca : Addr) (cl : List (Str × Addr)) (fp : List Addr), PTs (X.blk s H scope (compEnvC scope cl Ca X.env) fp) ifs tt) ∧ (∀ (s : Shared) (H : Hp) (Ca : Addr) (cl : List (Str × Addr)) (fp : List Addr), PE (X.blk s H scope (compEnvC scope cl Ca X.env) fp) elt te) ∧ tLc wi' g tt te (own.map (·.2)) σ H KQ := by
  obtain ⟨wi, pi, h⟩ := h
  have eK := F.hK
  have PIw : PI X tg iter (fun σ H R => ∃ R', wi σ H R' ∧ ∀ J H', R' J H' → R J H') := ⟨fun pins s σ H R I ⟨R', a, b⟩ => thn (pi.run pins s σ H R' I a) fun v s1 z => thn z fun u s2 ⟨it, fp, tn, J, H', c1, c2, c3, c4, c5, c6⟩ => ⟨it, fp, tn, J, H', c1, c2, c3, c4, c5, b J H' c6⟩⟩
  have htt : ∀ (s : Shared) (H : Hp) (Ca : Addr) (cl : List (Str × Addr)) (fp : List Addr), PTs (X.blk s H scope (compEnvC scope cl Ca X.env) fp) ifs (ttOf X scope ifs) := fun s H Ca cl fp => by
    match ifs, hif with
    | [], _ => exact pts_nil
    | [c], _ => exact ⟨fun pins s1 σ H1 Q I h => (pts_one (pt_w (X := X.blk s H scope (compEnvC scope cl Ca X.env) fp) (e := c))).run pins s1 σ H1 Q I (h s H Ca cl fp)⟩
  have hte : ∀ (s : Shared) (H : Hp) (Ca : Addr) (cl : List (Str × Addr)) (fp : List Addr), PE (X.blk s H scope (compEnvC scope cl Ca X.env) fp) elt (teOf X scope elt) := fun s H Ca cl fp => ⟨fun pins s1 σ H1 Q I h => h s H Ca cl fp pins s1 I⟩
  refine ⟨_, ttOf X scope ifs, teOf X scope elt, PIw, htt, hte, ?_⟩
  refine ⟨_, h σ H rs m, fun J H1 ⟨n, y, G, M1, hJ, m1, s1, hI⟩ D hD => ?_⟩
  obtain ⟨I, ⟨Mi, si, i0⟩, hG, hstep, hend⟩ := hI D
  have mD : RM X.K (upd H1 D (.lst [])) ((D, .lst []) :: M1) := m1.cons hD ⟨[], upd_same, .nil⟩
  refine ⟨fun i q H' => q = n - i ∧ i ≤ n ∧ ∃ M2, RM X.K H' M2 ∧ Stay X.K H1 H' ∧ I i M2, ⟨n, by simp, Nat.zero_le _, Mi, mD.less si, Stay.new hD, i0⟩, ?_⟩
  rintro i q H' ⟨rfl, hi, M2, a2, a3, a4⟩
  have gg := hG i M2 hi a4
  by_cases hlt : i < n
  · refine .inr ⟨hJ.go i H' M2 a3 a2 gg hlt, fun H' => ∃ M2, RM X.K H' M2 ∧ Stay X.K H1 H' ∧ I (i + 1) M2, fun H' z => ⟨n - (i + 1), by omega, rfl, hlt, z⟩, fun v H2 yl => ?_⟩
    obtain ⟨b1, b2, b3⟩ := hJ.yld i H' M2 v H2 a3 a2 gg hlt yl
    have rs2 : RS X H2 ρ σ := rs.mono ((s1.trans a3).trans b2)
    have FXs := fun s Hx Ca cl fp => blk_fx (X := X) F st hm s Hx Ca cl fp
    refine hgw (y i) _ σ H2 v _ (hstep i M2 hlt a4) (fun s Hx Ca cl fp => blk_rs F hm hlen rs2 s Hx Ca cl fp) (by rw [← eK]; exact b1) fun σ2 ρ2 ew rr body => ⟨ew, ?_⟩
    -- the element, put behind the list
    have fin : ∀ (H3 : Hp) (M4 : Mm), RM X.K H3 M4 → Stay X.K H1 H3 → (∀ X', Fx X' P w K mg base (relS scope sc) N L' C' Gs' Bs k → WE X' ρ2 M4 elt fun d M5 => App D M5 d (Sub (I (i + 1)))) → (∀ s Hx Ca cl fp, RS (X.blk s Hx scope (compEnvC scope cl Ca X.env) fp) H3 ρ2 σ2) →
        teOf X scope elt σ2 H3 fun y H4 => ∃ acc, H4 D = some (.lst acc) ∧ acc.length < sizeLine ∧ ∃ M2, RM X.K (upd H4 D (.lst (acc ++ [y]))) M2 ∧ Stay X.K H1 (upd H4 D (.lst (acc ++ [y]))) ∧ I (i + 1) M2 := fun H3 M4 m3 st3 hb hr s Hx Ca cl fp => by
      refine (hb _ (FXs s Hx Ca cl fp) σ2 H3 (hr s Hx Ca cl fp) m3).mono fun u H4 ⟨d, M5, c1, c2, c3, j, acc, c4, c5, M6, c6, c7⟩ => ?_
      obtain ⟨vs, e1, e2⟩ := c2.at c4.ix
      have mu : Wr H4 D := wr_lst e1
      have st4 : Stay X.K H4 (upd H4 D (.lst (vs ++ [u]))) := Stay.write mu
      refine ⟨vs, e1, by rw [← e2.length]; exact c5, M6, ?_, (st3.trans c3).trans st4, c7⟩
      exact (c2.write (q' := .lst (acc ++ [d])) c4.ix mu ⟨_, upd_same, (e2.mono st4).append (.cons (c1.mono st4) .nil)⟩).less c6
    match ifs, hif, body with
    | [], _, body =>
      simp only [ttOf, tYes, ↓reduceIte]
      exact fin H2 M2 b3 (a3.trans b2) (fun X' FX' => body X' FX') rr
    | [c], _, body =>
      intro s Hx Ca cl fp
      refine (body _ (FXs s Hx Ca cl fp) σ2 H2 (rr s Hx Ca cl fp) b3).mono fun t H3 ⟨M4, c1, c2, c3, c4⟩ => ?_
      cases t with
      | true =>
        exact L2.iteT (fin H3 M4 c1 ((a3.trans b2).trans c2) (fun X' FX' => c3 rfl X' FX') fun s Hx Ca cl fp => (rr s Hx Ca cl fp).mono c2)
      | false =>
        obtain ⟨M5, e1, e2⟩ := c4 rfl
        exact L2.iteF ⟨M5, c1.less e1, (a3.trans b2).trans c2, e2⟩
  · have e : i = n := by omega
    subst e
    exact .inl ⟨hJ.stop H' M2 a3 a2 gg, hKQ D H' M2 a2 (s1.trans a3) (hend M2 a4)⟩
theorem lc_nm {ifs : List Expr} (F : Fx X P w K mg base sc N L C Gs Bs k) {i : Nat} (hi : N[i]? = some x) (hx : x ∈ L' ∨ x ∈ C') (st : stat (relS scope sc) N L' C' Gs' = true) (hm : maskC N (relS scope sc) scope own C' ms = true) (hmem : i ∈ own.map (·.2)) :
    (∀ (s : Shared) (H : Hp) (Ca : Addr) (cl : List (Str × Addr)) (fp : List Addr), PG (X.blk s H scope (compEnvC scope cl Ca X.env) fp) (.Name x px) (gName i)) ∧
    ∀ (d : DV) (ρ1 : Ro) (S : Ro → Prop) (σ τ : L2.St) (H0 : Hp) (v : V) (Qg : L2.St → Hp → Prop), TgN N ρ1 x d S → wipe τ (own.map (·.2)) = wipe σ (own.map (·.2)) → (∀ s H Ca cl fp, RS (X.blk s H scope (compEnvC scope cl Ca X.env) fp) H0 ρ1 τ) → RD K H0 d v →
      (∀ σ2 ρ2, wipe σ2 (own.map (·.2)) = wipe σ (own.map (·.2)) → (∀ s H Ca cl fp, RS (X.blk s H scope (compEnvC scope cl Ca X.env) fp) H0 ρ2 σ2) → S ρ2 → Qg σ2 H0) → gName i v τ H0 Qg := by
  have T := stat_ok st
  have hc : ∀ z ∈ C', (scope.names.lookup z == some .cell) = true := by
    unfold maskC at hm
    simp only [Bool.and_eq_true, List.all_eq_true] at hm
    exact hm.2
  have hsc : ∀ cl Ca, (compEnvC scope cl Ca X.env).scope = relS scope sc := fun cl Ca => by rw [← F.hsc]; rfl
  have hl : (relS scope sc).names.lookup x = some .local ∨ ((relS scope sc).names.lookup x = some .cell ∧ (scope.names.lookup x == some .cell) = true) := hx.elim (fun h => .inl (T.loc x h)) fun h => .inr ⟨T.cel x h, hc x h⟩
  refine ⟨fun s H Ca cl fp => ?_, fun d ρ1 S σ τ H0 v Qg ⟨ρ2, h1, h2⟩ ew hr r q => ?_⟩
  · refine pg_name (X := X.blk s H scope (compEnvC scope cl Ca X.env) fp) (by show X.N.Nodup; rw [F.hN]; exact F.nd) (by show X.N[i]? = _; rw [F.hN]; exact hi) ?_ ?_
    · show Loc (compEnvC scope cl Ca X.env).scope x
      rw [hsc]
      exact hl.elim .inl fun z => .inr z.1
    · rcases hl with z | z
      · exact .inr (by show (compEnvC scope cl Ca X.env).scope.names.lookup x = _; rw [hsc]; exact z)
      · exact .inl z.2
  · obtain ⟨j, e1, e2⟩ := h1.ix
    have ej : j = i := nodup_ix F.nd e1 hi
    subst ej e2
    refine q _ _ ?_ (fun s H Ca cl fp => ?_) h2
    · rw [← ew]
      apply List.ext_getElem?
      intro t
      by_cases ht : t ∈ own.map (·.2)
      · rw [wipe_at ht, wipe_at ht, List.length_set]
      · rw [wipe_get ht, wipe_get ht, List.getElem?_set_ne (fun e => ht (by rw [← e]; exact hmem))]
    · refine (hr s H Ca cl fp).put (x := x) (by show X.N[j]? = _; rw [F.hN]; exact hi) ?_ (by show RD X.K H0 d v; rw [F.hK]; exact r)
      show Vis (compEnvC scope cl Ca X.env).scope x
      rw [hsc]
      exact hl.elim .inl fun z => .inr (.inl z.1)
/-- what stands static for a comprehension of one name -/
structure Lc1 (N : List Str) (sc scope : Scope) (x : Str) (i : Nat) (ms : List Bool) (L' C' Gs' : List Str) : Prop where
  hi : N[i]? = some x
  hx : x ∈ L' ∨ x ∈ C'
  ok : blkC N sc scope [(x, i)] = true
  st : stat (relS scope sc) N L' C' Gs' = true
  hm : maskC N (relS scope sc) scope [(x, i)] C' ms = true
theorem lc1_read {ifs : List Expr} {i : Nat} (F : Fx X P w K mg base sc N L C Gs Bs k) (c : Lc1 N sc scope x i ms L' C' Gs') (hs : notSet iter = true) (hif : ifs.length ≤ 1)
    (h : WI X ρ M (.Name x px) iter (LcI P w K mg base (relS scope sc) N L' C' Gs' Bs k (TgN N (mask ms ρ) x) elt ifs Q)) {σ : L2.St} {H : Hp} (rs : RS X H ρ σ) (m : RM X.K H M) (hlen : σ.length = N.length) {KQ : VK} (hKQ : ∀ D H' M2, RM X.K H' M2 → Stay X.K H H' → Q (.ref D) M2 → KQ (.ref D) H') :
    ∃ wi' tt te, PI X (.Name x px) iter wi' ∧ (∀ (s : Shared) (H : Hp) (Ca : Addr) (cl : List (Str × Addr)) (fp : List Addr), PTs (X.blk s H scope (compEnvC scope cl Ca X.env) fp) ifs tt) ∧ (∀ (s : Shared) (H : Hp) (Ca : Addr) (cl : List (Str × Addr)) (fp : List Addr), PE (X.blk s H scope (compEnvC scope cl Ca X.env) fp) elt te) ∧ tLc wi' (gName i) tt te ([(x, i)].map (·.2)) σ H KQ := by
  obtain ⟨g1, g2⟩ := lc_nm (px := px) (ifs := ifs) (own := [(x, i)]) F c.hi c.hx c.st c.hm (by simp)
  exact lc_gen (own := [(x, i)]) F c.ok c.st c.hm hs hif g1 (fun d S σ H0 v Qg t hr r q => g2 d (mask ms ρ) S σ _ H0 v Qg t (by rw [wipe_wipe]) hr r q) h rs m hlen hKQ
theorem Inv_len {pins : List (Addr × Obj)} {σ : L2.St} {H : Hp} {s : Shared} (F : Fx X P w K mg base sc N L C Gs Bs k) (I : Inv X pins σ H s) : σ.length = N.length := by rw [← F.hN]; exact I.len
/-- [elt for x in iter (if c)] -/
theorem we_lc1 {ifs : List Expr} {i : Nat} (F : Fx X P w K mg base sc N L C Gs Bs k) (c : Lc1 N sc scope x i ms L' C' Gs') (hs : notSet iter = true) (hif : ifs.length ≤ 1)
    (h : WI X ρ M (.Name x px) iter (LcI P w K mg base (relS scope sc) N L' C' Gs' Bs k (TgN N (mask ms ρ) x) elt ifs Q)) : WE X ρ M (.ListComp elt [⟨.Name x px, iter, ifs, 0⟩] scope pos) Q := by
  obtain ⟨g1, _⟩ := lc_nm (px := px) (ifs := ifs) (own := [(x, i)]) F c.hi c.hx c.st c.hm (by simp)
  intro σ H rs m pins s I
  obtain ⟨wi, tt, te, p1, p2, p3, p4⟩ := lc1_read (px := px) F c hs hif h rs m (Inv_len F I) (KQ := LE X.K H Q) fun D H' M2 r st q => ⟨_, M2, .ref D, r, st, q⟩
  exact (pe_lc (own := [(x, i)]) F.calm (by rw [F.hN]; exact F.nd) p1 (blkOk_by (by rw [F.hN, F.hsc]; exact c.ok)) g1 p2 p3 (notSet_ok hs)).run pins s σ H _ I p4
/-- y = [elt for x in iter (if c)], y a local name -/
theorem ws_setLc1 {ifs : List Expr} {i iy : Nat} {spos : Pos} {nx : Ro → Mm → Prop} {rt : DV → Mm → Prop} {bk ct : Ro → Mm → Prop} (F : Fx X P w K mg base sc N L C Gs Bs k) (c : Lc1 N sc scope x i ms L' C' Gs') (hs : notSet iter = true) (hif : ifs.length ≤ 1) (hy : y ∈ L) (hiy : N[iy]? = some y)
    (hsw : swapsWith (.ListComp elt [⟨.Name x px, iter, ifs, 0⟩] scope pos) (some (.Name y py)) spos.line (envS sc) = pure true)
    (h : WI X ρ M (.Name x px) iter (LcI P w K mg base (relS scope sc) N L' C' Gs' Bs k (TgN N (mask ms ρ) x) elt ifs fun d M1 => TgN N ρ y d fun ρ2 => nx ρ2 M1)) : WS X ρ M (.Assign [.Name y py] (.ListComp elt [⟨.Name x px, iter, ifs, 0⟩] scope pos) spos) nx rt bk ct := by
  obtain ⟨g1, _⟩ := lc_nm (px := px) (ifs := ifs) (own := [(x, i)]) F c.hi c.hx c.st c.hm (by simp)
  intro σ H rs m pins s I
  obtain ⟨wi, tt, te, p1, p2, p3, p4⟩ := lc1_read (px := px) F c hs hif h rs m (Inv_len F I) (KQ := fun v H1 => gName iy v σ H1 (LN X H nx)) fun D H' M2 r st ⟨ρ2, h1, h2⟩ => by
    obtain ⟨j, e1, e2⟩ := h1.ix
    have ej : j = iy := nodup_ix F.nd e1 hiy
    subst ej e2
    exact ⟨_, M2, (rs.mono st).put (by rw [F.hN]; exact hiy) (.inl (F.loc y hy)) (.ref D), r, st, h2⟩
  refine (ps_setLc (i := iy) (own := [(x, i)]) F.calm (by rw [F.hN]; exact F.nd) (by rw [F.hN]; exact hiy) (F.loc y hy) (by rw [show swapsWith _ _ _ X.env = swapsWith (.ListComp elt [⟨.Name x px, iter, ifs, 0⟩] scope pos) (some (.Name y py)) spos.line (envS X.env.scope) from rfl, F.hsc]; exact hsw) p1 (blkOk_by (by rw [F.hN, F.hsc]; exact c.ok)) g1 p2 p3 (notSet_ok hs)).run pins s σ H _ I p4
/-- y = [..] where y is a cell -/
theorem ws_setLcC1 {ifs : List Expr} {i : Nat} {spos : Pos} {nx : Ro → Mm → Prop} {rt : DV → Mm → Prop} {bk ct : Ro → Mm → Prop} (F : Fx X P w K mg base sc N L C Gs Bs k) (hy : y ∈ C)
    (hsw : swapsWith (.ListComp elt [⟨.Name x px, iter, ifs, 0⟩] scope pos) (some (.Name y py)) spos.line (envS sc) = pure false)
    (h : WE X ρ M (.ListComp elt [⟨.Name x px, iter, ifs, 0⟩] scope pos) fun d M1 => WG X ρ M1 (.Name y py) d nx) : WS X ρ M (.Assign [.Name y py] (.ListComp elt [⟨.Name x px, iter, ifs, 0⟩] scope pos) spos) nx rt bk ct := fun σ H rs m => by
  refine wS.of (ps_asg pe_w pg_w (by rw [show swapsWithSole _ _ _ X.env = swapsWith (.ListComp elt [⟨.Name x px, iter, ifs, 0⟩] scope pos) (some (.Name y py)) spos.line (envS X.env.scope) from rfl, F.hsc]; exact hsw) rfl rfl) ?_
  refine (h σ H rs m).mono fun v H1 ⟨d, M1, h1, h2, h3, h4⟩ => ?_
  exact (h4 σ H1 v (rs.mono h3) h2 h1).mono fun _ _ z => z.stay h3
end
end G
namespace G
open PySem L2
/-! ### slices -/
def cutD {α : Type} (xs : List α) (lo hi : Option Int) : List α := (xs.drop (HT.sIx xs.length 0 lo)).take (HT.sIx xs.length xs.length hi - HT.sIx xs.length 0 lo)
theorem RDs.cut {K : Fg} {H : Hp} {ds : List DV} {vs : List V} (h : RDs K H ds vs) (lo hi : Option Int) : RDs K H (cutD ds lo hi) (cutV vs lo hi) := by
  unfold cutD cutV
  rw [← h.length]
  exact (h.drop _).take _
section
variable {X : Cy} {P : Program} {w : World} {K : Fg} {mg : Str → Option Value} {base : Heap} {sc : Scope} {N L C Gs Bs : List Str} {k : Nat} {ρ ρ' : Ro} {M : Mm} {Q : DV → Mm → Prop} {e el eh : Expr} {pos p2 : Pos}
/-- a part of a slice -/
def WO (X : Cy) (ρ : Ro) (M : Mm) : Option Expr → (Option Int → Mm → Prop) → Prop
  | none, T => T none M
  | some e, T => WE X ρ M e fun d M1 => ∃ i, d = .int i ∧ T (some i) M1
def SlD (K : Fg) (x : DV) (lo hi : Option Int) (M : Mm) (Q : DV → Mm → Prop) : Prop := ∀ v H, RD K H x v → RM K H M → (rSlL K v lo hi H (LE K H Q) ∨ rSlA K v lo hi H (LE K H Q)) ∨ rSlS v lo hi H (LE K H Q)
def toOf (X : Cy) : Option Expr → TO
  | none => tNoPart
  | some e => tPart (wE X e)
theorem po_w {o : Option Expr} : PO X o (toOf X o) := match o with
  | none => po_none
  | some e => po_some pe_w
theorem wo_run {o : Option Expr} {T : Option Int → Mm → Prop} {σ : L2.St} {H : Hp} (rs : RS X H ρ σ) (m : RM X.K H M) (h : WO X ρ M o T) {Q' : Option Int → Hp → Prop} (q : ∀ i H' M', RM X.K H' M' → Stay X.K H H' → T i M' → Q' i H') : toOf X o σ H Q' := by
  cases o with
  | none => exact q none H M m Stay.refl h
  | some e =>
    refine (h σ H rs m).mono fun v H1 ⟨d, M1, h1, h2, h3, i, e1, h4⟩ => ?_
    subst e1
    cases h1
    exact ⟨i, rfl, q (some i) H1 M1 h2 h3 h4⟩
theorem we_slice {lo hi : Option Expr} (h : WE X ρ M e fun x M1 => WO X ρ M1 lo fun l M2 => WO X ρ M2 hi fun u M3 => SlD X.K x l u M3 Q) : WE X ρ M (.Subscript e (.Slice lo hi none p2) pos) Q := fun σ H rs m => by
  refine wE.of (pe_slice ((sl_list.or sl_tupA).or sl_str) pe_w po_w po_w) ?_
  refine (h σ H rs m).mono fun v H1 ⟨d, M1, h1, h2, h3, h4⟩ => ?_
  refine wo_run (rs.mono h3) h2 h4 fun l H2 M2 k2 k3 k4 => ?_
  refine wo_run ((rs.mono h3).mono k3) k2 k4 fun u H3 M3 l2 l3 l4 => ?_
  have st := (h3.trans k3).trans l3
  rcases l4 v H3 ((h1.mono k3).mono l3) l2 with (⟨a, xs, q1, q2, q3⟩ | ⟨a, xs, q1, q2, q3, q4⟩) | ⟨z, q1, q2, q3⟩
  · exact .inl (.inl ⟨a, xs, q1, q2, fun p hp => (q3 p hp).stay st⟩)
  · exact .inl (.inr ⟨a, xs, q1, q2, fun z => (q3 z).stay st, fun z p hp => (q4 z p hp).stay st⟩)
  · exact .inr ⟨z, q1, q2, q3.stay st⟩
instance {lo hi : Option Expr} : Step (WE X ρ M (.Subscript e (.Slice lo hi none p2) pos) Q) true (WE X ρ M e fun x M1 => WO X ρ M1 lo fun l M2 => WO X ρ M2 hi fun u M3 => SlD X.K x l u M3 Q) := ⟨fun _ => we_slice⟩
instance {T : Option Int → Mm → Prop} : Step (WO X ρ M none T) true (T none M) := ⟨fun _ q => q⟩
instance {T : Option Int → Mm → Prop} : Step (WO X ρ M (some e) T) true (WE X ρ M e fun d M1 => ∃ i, d = .int i ∧ T (some i) M1) := ⟨fun _ q => q⟩
instance {ds : List DV} {lo hi : Option Int} : Step (SlD K (.lis ds) lo hi M Q) true (∀ p, Q (.ref p) ((p, .lst (cutD ds lo hi)) :: M)) := ⟨fun _ q v H r m => by
  cases r with
  | lis sq rr => exact .inl (.inl ⟨_, _, rfl, sq.sq, fun p hp => ⟨.ref p, _, .ref p, m.cons (q := .lst (cutD ds lo hi)) hp ⟨_, upd_same, (rr.cut lo hi).mono (Stay.new hp)⟩, Stay.new hp, q p⟩⟩)⟩
instance {ds : List DV} {a : Addr} {i : Nat} {lo hi : Option Int} [A : AtM M i a (.lst ds)] : Step (SlD K (.ref a) lo hi M Q) true (∀ p, Q (.ref p) ((p, .lst (cutD ds lo hi)) :: M)) := ⟨fun _ q v H r m => by
  cases r
  obtain ⟨vs, e, rr⟩ := m.at A.ix
  exact .inl (.inl ⟨_, _, rfl, SqL.of e, fun p hp => ⟨.ref p, _, .ref p, m.cons (q := .lst (cutD ds lo hi)) hp ⟨_, upd_same, (rr.cut lo hi).mono (Stay.new hp)⟩, Stay.new hp, q p⟩⟩)⟩
instance {ds : List DV} {lo hi : Option Int} : Step (SlD K (.tup ds) lo hi M Q) true (Q (.tup (cutD ds lo hi)) M) := ⟨fun _ q v H r m => by
  cases r with
  | tup sq rr =>
    refine .inl (.inr ⟨_, _, rfl, sq, fun ⟨z1, z2⟩ => ?_, fun z p hp => ⟨_, M, .tup (SqT.of upd_same) ((rr.cut lo hi).mono (Stay.new hp)), m.new hp, Stay.new hp, q⟩⟩)
    have e : cutD ds lo hi = ds := by
      unfold cutD
      rw [rr.length, z1, z2]
      rw [List.drop_zero, Nat.sub_zero, List.take_of_length_le (by rw [rr.length]; exact Nat.le_refl _)]
    rw [e] at q
    exact ⟨_, M, .tup sq rr, m, Stay.refl, q⟩⟩
instance {z : Str} {lo hi : Option Int} : Step (SlD K (.str z) lo hi M Q) true (Side (z.length ≤ sizeLine) (Q (.str (cutS z lo hi)) M)) := ⟨fun _ q v H r m => by
  cases r
  exact .inr ⟨z, rfl, q.a, _, M, .str _, m, Stay.refl, q.b⟩⟩
end
/-! ### the law's own def -/
section
variable {P : Program} {w : World} {K : Fg} {mg : Str → Option Value} {base : Heap} {N L C Gs Bs : List Str} {k : Nat}
def spLawL (K : Fg) : Sp := fun vs H Q _ => ∃ (a : Addr) (ns : List Int), vs = [.ref a] ∧ Only H ∧ SqL K H a (ns.map V.int) ∧ ns.length ≤ 63 ∧ ∀ H', Q (.bl true) H'
theorem RDs.ints {H : Hp} : ∀ ns : List Int, RDs K H (ns.map DV.int) (ns.map V.int)
  | [] => .nil
  | n :: ns => .cons (.int n) (RDs.ints ns)
theorem law_ok {x qual y : Str} {st : Stmt} {f : Addr} {fd : FuncData} (F : Fun K x qual st f fd) (S : FnScope N [y] (defScope st)) (hst : stat (defScope st) N L C Gs = true) (hb : ∀ x ∈ Bs, mg x = none)
    (h : ∀ X, Fx X P w K mg base (defScope st) N L C Gs Bs k → ∀ ns : List Int, ns.length ≤ 63 → WSs X (ini N [.lis (ns.map .int)]) [] (defBody st) (fun _ _ => False) (fun d _ => d = .bl true) (fun _ _ => False) (fun _ _ => False)) :
    FnOk P w K mg base CX0 (k + 1) f fd [y] (spLawL K) := by
  have T := stat_ok hst
  refine F.ok S (fun vs H Q E ⟨a, ns, h1, _⟩ => by rw [h1]; rfl) fun cdv A outer s H vs Q E hr ⟨a, ns, h1, h2, h3, h4, h5⟩ => ?_
  subst h1
  refine ⟨_, pss_w, ?_⟩
  have hps : 1 ≤ N.length := by have := congrArg List.length S.pre; rw [List.length_take] at this; simp at this; omega
  have FX : Fx ⟨(cxOf CX0 P w K mg base N qual (defScope st) f cdv A outer s H E).nox, H⟩ P w K mg base (defScope st) N L C Gs Bs k :=
    ⟨rfl, rfl, rfl, rfl, rfl, rfl, rfl, T.nd, T.loc, fun x hx => ⟨T.cel x hx, rfl⟩, T.kind, T.nob, T.gl, hb, rfl, hr, PassesOwn.never⟩
  have fz : FrzL K H a (ns.map V.int) := by
    rcases h3 with (z | z) | z
    · rcases h2 a with q | ⟨o, xs, q⟩
      · rw [q] at z; cases z
      · rw [q] at z; cases z
    · exact .inl z
    · exact .inr z
  have W := h _ FX ns h4
  rw [ini_eq N [.lis (ns.map .int)] hps] at W
  refine (W (start N [.ref a]) H (RS.start (X := ⟨(cxOf CX0 P w K mg base N qual (defScope st) f cdv A outer s H E).nox, H⟩) Stay.refl hps (fun i z hi hz => ?_) (.cons (.lis fz (RDs.ints ns)) .nil)) ⟨List.nodup_nil, fun _ _ h => by cases h⟩).mono (fun σ' H' ⟨ρ', M', q1, q2, q3, q4⟩ => q4.elim) (fun v H' ⟨d, M', q1, q2, q3, q4⟩ => ?_) (fun _ _ ⟨_, _, _, _, _, q⟩ => q) (fun _ _ ⟨_, _, _, _, _, q⟩ => q)
  · have hp : ([y] : List Str)[i]? = some z := by
      rw [← S.pre, List.getElem?_take_of_lt (show i < ([y] : List Str).length from hi)]
      exact hz
    rcases S.par z (List.mem_of_getElem? hp) with q | q
    · exact .inl q
    · exact .inr (.inl q)
  · subst q4
    cases q1
    exact h5 H'
end
/-! ### a list's own methods; enumerate -/
section
variable {X : Cy} {P : Program} {w : World} {K : Fg} {mg : Str → Option Value} {base : Heap} {sc : Scope} {N L C Gs Bs : List Str} {k : Nat} {ρ ρ' : Ro} {M : Mm} {Q : DV → Mm → Prop} {e e2 o : Expr} {pos apos p : Pos} {es : List Expr}
def AppL (M : Mm) (x d : DV) (S : Mm → Prop) : Prop := ∃ D j acc, x = .ref D ∧ AtM M j D (.lst acc) ∧ acc.length < sizeLine ∧ S (M.set j (D, .lst (acc ++ [d])))
instance {D : Addr} {d : DV} {j : Nat} {acc : List DV} {S : Mm → Prop} [h : AtM M j D (.lst acc)] : Step (AppL M (.ref D) d S) true (Side (acc.length < sizeLine) (S (M.set j (D, .lst (acc ++ [d]))))) := ⟨fun _ q => ⟨D, j, acc, rfl, h, q.a, q.b⟩⟩
/-- o.name(e, ..), a built-in type's method -/
theorem we_bm {T id : String} {name : Str} {r : V → List V → Hp → VK → Prop} (pa : PlainAttrs T) (slot : Slot T name id) (hty : typeOf (.builtin id) = pure (.type "method_descriptor")) (hm : MtR X id r) (mr : ∀ x xs H Q Q', r x xs H Q → (∀ v H', Q v H' → Q' v H') → r x xs H Q')
    (ho : notCall o = true) (hs : noStars (e :: es) = true) (hn : (e :: es).length < 30) (hl : (apos.endLine == pos.line) = true)
    (h : WE X ρ M o fun x M1 => (∀ v H, RD X.K H x v → RM X.K H M1 → tyV X.K T v H) ∧ WA X ρ M1 (e :: es) fun ds M2 => ∀ v vs H, RD X.K H x v → RDs X.K H ds vs → RM X.K H M2 → r v vs H (LE X.K H Q)) : WE X ρ M (.Call (.Attribute o name apos) (e :: es) [] pos) Q := fun σ H rs m => by
  obtain ⟨h1, h2⟩ := noStars_cons hs
  refine wE.of (pe_bm pa slot hty hm pe_w pa_w (attrBase ho) (by
    rw [noStars_all hs]
    show (true && true && decide ((e :: es).length + 0 + 0 < 30)) = true
    rw [decide_eq_true (by omega)]
    rfl) hl (starEach_cons h1) (noStars_any h2)) ?_
  refine (h σ H rs m).mono fun v H1 ⟨x, M1, k1, k2, k3, k4, k5⟩ => ⟨k4 v H1 k1 k2, ?_⟩
  refine (k5 σ H1 (rs.mono k3) k2).mono fun vs H2 ⟨ds, M2, l1, l2, l3, l4⟩ => ?_
  exact mr _ _ _ _ _ (l4 v vs H2 (k1.mono l3) l1 l2) fun _ _ z => z.stay (k3.trans l3)
/-- l.append(e) -/
theorem we_append (ho : notCall o = true) (hs : noStars [e] = true) (hl : (apos.endLine == pos.line) = true)
    (h : WE X ρ M o fun x M1 => (∃ D j acc, x = .ref D ∧ AtM M1 j D (.lst acc)) ∧ WE X ρ M1 e fun d M2 => AppL M2 x d (Q .non)) : WE X ρ M (.Call (.Attribute o "append" apos) [e] [] pos) Q := by
  refine we_bm PySem.F.plainAttrs_list PySem.F.slot_list_append PySem.F.type_list_append mt_append (fun x xs H Q Q' ⟨l, ys, y, a, b, c, d, z⟩ q => ⟨l, ys, y, a, b, c, d, q _ _ z⟩) ho hs (by simp) hl ?_
  refine h.mono fun x M1 ⟨⟨D, j, acc, h1, h2⟩, h3⟩ => ⟨fun v H r m => ?_, ?_⟩
  · subst h1
    cases r
    obtain ⟨vs, e1, _⟩ := m.at h2.ix
    exact .inl ⟨rfl, vs, SqL.of e1⟩
  · refine wa_cons' (noStars_cons hs).1 (h3.mono fun d M2 q => wa_nil fun v vs H r rs m => ?_)
    obtain ⟨D', j', acc', e1, e2, e3, e4⟩ := q
    subst e1
    cases r
    cases rs with
    | cons r1 rr =>
      rename_i u _
      cases rr
      obtain ⟨us, g1, g2⟩ := m.at e2.ix
      have mu : Wr H D' := wr_lst g1
      have st : Stay X.K H (upd H D' (.lst (us ++ [u]))) := Stay.write mu
      exact ⟨D', us, u, rfl, rfl, g1, by rw [← g2.length]; exact e3, .non, _, .non, m.write (q' := .lst (acc' ++ [d])) e2.ix mu ⟨_, upd_same, (g2.mono st).append (.cons (r1.mono st) .nil)⟩, st, e4⟩
instance : Step (WE X ρ M (.Call (.Attribute o (Str.ofString "append") apos) [e] [] pos) Q) (notCall o && noStars [e] && (apos.endLine == pos.line)) (WE X ρ M o fun x M1 => Side (∃ D j acc, x = .ref D ∧ AtM M1 j D (.lst acc)) (WE X ρ M1 e fun d M2 => AppL M2 x d (Q .non))) := ⟨fun h q => by
  simp only [Bool.and_eq_true] at h
  exact we_append h.1.1 h.1.2 h.2 (q.mono fun _ _ z => ⟨z.a, z.b⟩)⟩
/-! for a, b in enumerate(l) -/
theorem it_enum {H0 : Hp} {a : Addr} {ds : List DV} : ItD K H0 (Ite K a) ds.length (fun i => .tup [.int (i : Int), ds.getD i .non]) (fun M => ∃ i, AtM M i a (.lst ds)) where
  go := fun i H M _ m ⟨j, hj⟩ hi => by
    obtain ⟨vs, e, r⟩ := m.at hj.ix
    obtain ⟨v, h1, h2⟩ := r.get (List.getElem?_eq_getElem hi)
    exact ⟨vs, v, SqL.of e, h1⟩
  yld := fun i H M v H' _ m ⟨j, hj⟩ hi ⟨T, x, e0, hT, e1, e2⟩ => by
    subst e0 e1
    obtain ⟨vs, e, r⟩ := m.at hj.ix
    obtain ⟨v', h1, h2⟩ := r.get (List.getElem?_eq_getElem hi)
    have := e2 vs (SqL.of e)
    rw [h1] at this
    cases this
    refine ⟨.tup (SqT.of upd_same) (.cons (.int _) (.cons ?_ .nil)), Stay.new hT, m.new hT⟩
    rw [List.getD_eq_getElem?_getD, List.getElem?_eq_getElem hi]
    exact h2.mono (Stay.new hT)
  stop := fun H M _ m ⟨j, hj⟩ => by
    obtain ⟨vs, e, r⟩ := m.at hj.ix
    exact ⟨vs, SqL.of e, by rw [r.length]; exact Nat.le_refl _⟩
theorem wi_enum {elts : List Expr} {kk : Nat} {tpos : Pos} {R : Nat → (Nat → DV) → (Mm → Prop) → Mm → Prop} (F : Fx X P w K mg base sc N L C Gs Bs k) (hx : ("enumerate" : Str) ∈ Gs) (hx2 : ("enumerate" : Str) ∈ Bs) (hs : isStar e = false)
    (h : WE X ρ M e fun d M1 => ∃ a i ds, d = .ref a ∧ AtM M1 i a (.lst ds) ∧ R ds.length (fun i => .tup [.int (i : Int), ds.getD i .non]) (fun M => ∃ i, AtM M i a (.lst ds)) M1) : WI X ρ M (.Tuple elts kk tpos) (.Call (.Name "enumerate" p) [e] [] pos) R := by
  obtain ⟨g1, g2, g3⟩ := F.gl _ hx
  refine ⟨_, pi_enum g1 (by rw [F.hmg]; exact F.bl _ hx2) (pa_cons pe_w pa_nil (starEach_cons hs)) (by rw [starEach_cons hs]; rfl), fun σ H rs m => ?_⟩
  refine (h σ H rs m).mono fun v H1 ⟨d, M1, h1, h2, h3, a, i, ds, e, h4, h5⟩ => ?_
  subst e
  cases h1
  obtain ⟨vs, e, r⟩ := h2.at h4.ix
  exact ⟨a, vs, rfl, SqL.of e, _, _, _, M1, it_enum, h2, h3, h5⟩
end
/-! ### defs and methods of the text -/
section
variable {P : Program} {w : World} {K : Fg} {mg : Str → Option Value} {base : Heap} {N L C Gs Bs ps : List Str} {k : Nat} {x qual m : Str} {st : Stmt} {sp : SpD} {Cc : Addr}
def FnT (K : Fg) (mg : Str → Option Value) (x : Str) (st : Stmt) (ps : List Str) : Prop := ∃ f fd, Fun K x x st f fd ∧ mg x = some (.ref f) ∧ Binds K fd ps []
def MtT (K : Fg) (Cc : Addr) (m qual : Str) (st : Stmt) (ps : List Str) : Prop := ∃ f fd, Fun K m qual st f fd ∧ Meth K Cc m f ∧ Binds K fd ps []
theorem cal_mk (hf : FnT K mg x st ps) (S : FnScope N ps (defScope st)) (hst : stat (defScope st) N L C Gs = true) (hb : ∀ x ∈ Bs, mg x = none)
    (h : ∀ X, Fx X P w K mg base (defScope st) N L C Gs Bs k → ∀ ds M Q, ds.length = ps.length → sp ds M Q → WSs X (ini N ds) M (defBody st) (fun _ M' => Sub (Q .non) M') (fun d M' => Sub (Q d) M') (fun _ _ => False) (fun _ _ => False)) :
    Cal P w K mg base x (k + 1) ps.length sp := by
  obtain ⟨f, fd, F, hm, hb'⟩ := hf
  exact ⟨⟨f, fd, ps, fn_ok F S hst hb h, hm, F.kp, hb'⟩⟩
theorem mcal_mk (cl : Cls K Cc) (hf : MtT K Cc m qual st ps) (S : FnScope N ps (defScope st)) (hst : stat (defScope st) N L C Gs = true) (hb : ∀ x ∈ Bs, mg x = none)
    (h : ∀ X, Fx X P w K mg base (defScope st) N L C Gs Bs k → ∀ ds M Q, ds.length = ps.length → sp ds M Q → WSs X (ini N ds) M (defBody st) (fun _ M' => Sub (Q .non) M') (fun d M' => Sub (Q d) M') (fun _ _ => False) (fun _ _ => False)) :
    Mcal P w K mg base Cc m (k + 1) ps.length sp := by
  obtain ⟨f, fd, F, hm, hb'⟩ := hf
  exact ⟨cl, ⟨f, fd, ps, fn_ok F S hst hb h, hm, hb'⟩⟩
end
end G
namespace G
open PySem L2
/-! ### data as PyData, found by form -/
class PdC (M : Mm) (d : DV) (p : outParam PyData) : Prop where
  h : Pd M d p
class PdsC (M : Mm) (d : List DV) (p : outParam (List PyData)) : Prop where
  h : Pds M d p
instance {M : Mm} : PdC M .non .none := ⟨.non⟩
instance {M : Mm} {b : Bool} : PdC M (.bl b) (.bool b) := ⟨.bl b⟩
instance {M : Mm} {i : Int} : PdC M (.int i) (.int i) := ⟨.int i⟩
instance {M : Mm} {x : Str} : PdC M (.str x) (.str x) := ⟨.str x⟩
instance {M : Mm} {ds : List DV} {ps : List PyData} [h : PdsC M ds ps] : PdC M (.tup ds) (.tuple ps) := ⟨.tup h.h⟩
instance {M : Mm} {ds : List DV} {ps : List PyData} {a : Addr} {i : Nat} [A : AtM M i a (.lst ds)] [h : PdsC M ds ps] : PdC M (.ref a) (.list ps) := ⟨.lst A h.h⟩
instance {M : Mm} : PdsC M [] [] := ⟨.nil⟩
instance {M : Mm} {d : DV} {p : PyData} {ds : List DV} {ps : List PyData} [h : PdC M d p] [t : PdsC M ds ps] : PdsC M (d :: ds) (p :: ps) := ⟨.cons h.h t.h⟩
theorem Pds.ints {M : Mm} : ∀ ns : List Int, Pds M (ns.map DV.int) (ns.map PyData.int)
  | [] => .nil
  | n :: ns => .cons (.int n) (Pds.ints ns)
instance {M : Mm} {ns : List Int} : PdsC M (ns.map DV.int) (ns.map PyData.int) := ⟨Pds.ints ns⟩
section
variable {X : Cy} {P : Program} {w : World} {K : Fg} {mg : Str → Option Value} {base : Heap} {sc : Scope} {N L C Gs Bs : List Str} {k j n : Nat} {ρ ρ' : Ro} {M : Mm} {Q : DV → Mm → Prop} {nx bk ct S : Ro → Mm → Prop} {rt : DV → Mm → Prop} {a b c e e2 o tg : Expr} {pos p p2 apos : Pos} {x y z : Str} {R : Bool → Mm → Prop}
instance (priority := low) {d d' : DV} {q q' : PyData} [h : PdC M d q] [h' : PdC M d' q'] : Step (R2D K (rEq3 K) d d' M Q) (SeqAt.shaped q && SeqAt.shaped q') (Q (.bl (PyData.eqv q q')) M) := ⟨fun hc z => by rw [Bool.and_eq_true] at hc; exact v_eq_d h.h h'.h hc.1 hc.2 z⟩
instance (priority := low) {d d' : DV} {q q' : PyData} [h : PdC M d q] [h' : PdC M d' q'] : Step (R2D K (rNe3 K) d d' M Q) (SeqAt.shaped q && SeqAt.shaped q') (Q (.bl (!PyData.eqv q q')) M) := ⟨fun hc z => by rw [Bool.and_eq_true] at hc; exact v_ne_d h.h h'.h hc.1 hc.2 z⟩
def notNonP : PyData → Bool
  | .none => false
  | _ => true
instance (priority := low) {d d' : DV} {q q' : PyData} [h : PdC M d q] [h' : PdC M d' q'] : Step (R2D K (rLt3 K) d d' M Q) (PySem.W.alike q q' && notNonP q && Nat.ble q.depth 40) (Q (.bl (PySem.W.dataLt q q')) M) := ⟨fun hc z => by
  rw [Bool.and_eq_true, Bool.and_eq_true] at hc
  exact v_lt_d h.h h'.h hc.1.1 (fun e => by rw [e] at hc; exact Bool.noConfusion hc.1.2) (Nat.le_of_ble_eq_true hc.2) z⟩
theorem eqv2 {a b c d : Int} : PyData.eqv (.tuple [.int a, .int b]) (.tuple [.int c, .int d]) = (a == c && b == d) := by
  simp [PyData.eqv, PyData.eqvAll]
theorem eqv_ints : ∀ {xs ys : List Int}, PyData.eqvAll (xs.map .int) (ys.map .int) = (xs == ys)
  | [], [] => rfl
  | [], _ :: _ => rfl
  | _ :: _, [] => rfl
  | x :: xs, y :: ys => by
    rw [List.map_cons, List.map_cons, PyData.eqvAll, eqv_ints (xs := xs) (ys := ys)]
    simp [PyData.eqv]
theorem canLay_ints : ∀ xs : List Int, PyData.canLayAll0 (xs.map .int) = true
  | [] => rfl
  | x :: xs => by rw [List.map_cons, PyData.canLayAll0, canLay_ints xs]; rfl
theorem depth_ints : ∀ xs : List Int, PyData.depthAll (xs.map .int) ≤ 1
  | [] => by simp [PyData.depthAll]
  | x :: xs => by
    have := depth_ints xs
    rw [List.map_cons, PyData.depthAll]
    simp only [PyData.depth]
    omega
theorem shaped_ints (xs : List Int) : SeqAt.shaped (.list (xs.map .int)) = true := by
  unfold SeqAt.shaped
  rw [Bool.and_eq_true]
  refine ⟨by rw [PyData.canLay0]; exact canLay_ints xs, decide_eq_true ?_⟩
  have := depth_ints xs
  rw [PyData.depth]
  omega
/-! ### names by place -/
class IxN (N : List Str) (x : Str) (i : outParam Nat) : Prop where
  h : N[i]? = some x
instance {N : List Str} {x y : Str} {i : Nat} [h : IxN N x i] : IxN (y :: N) x (i + 1) := ⟨by simpa using h.h⟩
instance {N : List Str} {x : Str} : IxN (x :: N) x 0 := ⟨rfl⟩
/-- x, y = a, b -/
theorem ws_p2 {px py pt pt2 : Pos} {kt k2 i0 j0 : Nat} [F : Fx X P w K mg base sc N L C Gs Bs k] [hx : MemC x L] [hy : MemC y L] [hi : IxN N x i0] [hj : IxN N y j0] (hne : Nat.beq i0 j0 = false) (hw : swappedStores [.Tuple [.Name x px, .Name y py] kt pt] (.Tuple [a, b] k2 pt2) (envS sc) = pure (some [x, y]))
    (h : WA X ρ M [a, b] fun ds M1 => ∃ d1 d2, ds = [d1, d2] ∧ TgN N ρ x d1 fun ρ1 => TgN N ρ1 y d2 fun ρ2 => nx ρ2 M1) : WS X ρ M (.Assign [.Tuple [.Name x px, .Name y py] kt pt] (.Tuple [a, b] k2 pt2) pos) nx rt bk ct :=
  ws_par2 F hx.h hy.h (fun e => by
    have : i0 = j0 := nodup_ix F.nd hi.h (e ▸ hj.h)
    subst this
    rw [Nat.beq_refl] at hne
    cases hne) hw (fun σ H r m => (h σ H r m).mono fun _ _ ⟨ds, M1, k1, k2, k3, d1, d2, e, ρ1, p1, ρ2, p2, q⟩ => ⟨ds, M1, k1, k2, k3, d1, d2, ρ1, ρ2, e, p1, p2, q⟩) i0 j0 hi.h hj.h
theorem ws_p3 {px py pz pt pt2 : Pos} {kt k2 i0 j0 l0 : Nat} [F : Fx X P w K mg base sc N L C Gs Bs k] [hx : MemC x L] [hy : MemC y L] [hz : MemC z L] [hi : IxN N x i0] [hj : IxN N y j0] [hl : IxN N z l0] (h1 : (Nat.beq i0 j0 || Nat.beq i0 l0 || Nat.beq j0 l0) = false) (hw : swappedStores [.Tuple [.Name x px, .Name y py, .Name z pz] kt pt] (.Tuple [a, b, c] k2 pt2) (envS sc) = pure (some [x, y, z]))
    (h : WA X ρ M [a, b, c] fun ds M1 => ∃ d1 d2 d3, ds = [d1, d2, d3] ∧ TgN N ρ x d1 fun ρ1 => TgN N ρ1 y d2 fun ρ2 => TgN N ρ2 z d3 fun ρ3 => nx ρ3 M1) : WS X ρ M (.Assign [.Tuple [.Name x px, .Name y py, .Name z pz] kt pt] (.Tuple [a, b, c] k2 pt2) pos) nx rt bk ct := by
  simp only [Bool.or_eq_false_iff] at h1
  have ne : ∀ {u v : Str} {s t : Nat}, N[s]? = some u → N[t]? = some v → Nat.beq s t = false → v ≠ u := fun hs ht hb e => by
    have := nodup_ix F.nd hs (e ▸ ht)
    subst this
    rw [Nat.beq_refl] at hb
    cases hb
  exact ws_par3 F hx.h hy.h hz.h (ne hi.h hj.h h1.1.1) (ne hi.h hl.h h1.1.2) (ne hj.h hl.h h1.2) hw (fun σ H r m => (h σ H r m).mono fun _ _ ⟨ds, M1, k1, k2, k3, d1, d2, d3, e, ρ1, p1, ρ2, p2, ρ3, p3, q⟩ => ⟨ds, M1, k1, k2, k3, d1, d2, d3, ρ1, ρ2, ρ3, e, p1, p2, p3, q⟩) i0 j0 l0 hi.h hj.h hl.h
instance {d1 d2 : DV} {W : DV → DV → Prop} : Step (∃ e1 e2, [d1, d2] = [e1, e2] ∧ W e1 e2) true (W d1 d2) := ⟨fun _ q => ⟨d1, d2, rfl, q⟩⟩
instance {d1 d2 d3 : DV} {W : DV → DV → DV → Prop} : Step (∃ e1 e2 e3, [d1, d2, d3] = [e1, e2, e3] ∧ W e1 e2 e3) true (W d1 d2 d3) := ⟨fun _ q => ⟨d1, d2, d3, rfl, q⟩⟩
/-- C() -/
class MkC (mg : Str → Option Value) (K : Fg) (x : Str) (Cc : outParam Addr) : Prop where
  m0 : Mk0 K Cc
  h : mg x = some (.ref Cc)
instance {Cc : Addr} [F : Fx X P w K mg base sc N L C Gs Bs k] [m : MkC mg K x Cc] [g : MemC x Gs] : Step (WE X ρ M (.Call (.Name x p) [] [] pos) Q) true (∀ q, Q (.ref q) ((q, .ins Cc []) :: M)) := ⟨fun _ q => we_make0 F m.m0 g.h m.h q⟩
/-! ### chains -/
class CmpI (op : CmpOp) (g : outParam (Int → Int → Bool)) : Prop where
  h : ∀ X : Cx, OpR X (compareOp op) (rI0 fun i j => .bl (g i j))
instance : CmpI .Lt (fun i j => decide (i < j)) := ⟨fun _ => op_lt⟩
instance : CmpI .LtE (fun i j => decide (i ≤ j)) := ⟨fun _ => op_le⟩
instance : CmpI .Gt (fun i j => decide (j < i)) := ⟨fun _ => op_gt⟩
instance : CmpI .GtE (fun i j => decide (j ≤ i)) := ⟨fun _ => op_ge⟩
instance {op op' : CmpOp} {g g' : Int → Int → Bool} [h : CmpI op g] [h' : CmpI op' g'] : Step (WE X ρ M (.Compare a [op, op'] [b, c] pos) Q) (!lastMarks [op, op'] [b, c])
    (WE X ρ M a fun x M1 => WE X ρ M1 b fun y M2 => R2D X.K (rI0 fun i j => .bl (g i j)) x y M2 (QB fun t M3 => (t = true → WE X ρ M3 c fun z M4 => R2D X.K (rI0 fun i j => .bl (g' i j)) y z M4 Q) ∧ (t = false → Q (.bl false) M3))) := ⟨fun hc q => we_chain' (h.h X) (h'.h X) monI0 monI0 (by simpa using hc) q⟩
instance {op op' : CmpOp} {g g' : Int → Int → Bool} [h : CmpI op g] [h' : CmpI op' g'] : Step (WT X ρ M (.Compare a [op, op'] [b, c] pos) R) (!lastMarks [op, op'] [b, c])
    (WE X ρ M a fun x M1 => WE X ρ M1 b fun y M2 => R2D X.K (rI0 fun i j => .bl (g i j)) x y M2 (QB fun t M3 => (t = true → WE X ρ M3 c fun z M4 => R2D X.K (rI0 fun i j => .bl (g' i j)) y z M4 (QB R)) ∧ (t = false → R false M3))) := ⟨fun hc q => wt_chain' (h.h X) (h'.h X) monI0 monI0 (by simpa using hc) q⟩
end
end G
namespace G
open PySem PyProof.Rows L2
/-! ### comprehensions that keep the objects as they are; len(set(ints)) -/
def rng (lo : Int) (n : Nat) : List Int := (List.range n).map fun i : Nat => lo + (i : Int)
theorem rng_len {lo : Int} {n : Nat} : (rng lo n).length = n := by simp [rng]
theorem rng_get {lo : Int} {n i : Nat} (h : i < (rng lo n).length) : (rng lo n)[i] = lo + (i : Int) := by simp [rng]
theorem mem_rng {lo x : Int} {n : Nat} : x ∈ rng lo n ↔ lo ≤ x ∧ x < lo + n := by
  unfold rng
  rw [List.mem_map]
  constructor
  · rintro ⟨i, h, rfl⟩
    have := List.mem_range.mp h
    omega
  · rintro ⟨h1, h2⟩
    exact ⟨(x - lo).toNat, List.mem_range.mpr (by omega), by omega⟩
theorem filterMap_if {α β : Type} (p : α → Bool) (f : α → β) : ∀ l : List α, l.filterMap (fun x => if p x = true then some (f x) else none) = (l.filter p).map f
  | [] => rfl
  | a :: l => by
    rw [List.filterMap_cons, filterMap_if p f l]
    cases h : p a <;> simp [h]
theorem filterMap_all {α β : Type} (f : α → β) (l : List α) : l.filterMap (fun x => some (f x)) = l.map f := by
  induction l with
  | nil => rfl
  | cons a l ih => rw [List.filterMap_cons]; simp [ih]
section
variable {X : Cy} {P : Program} {w : World} {K : Fg} {mg : Str → Option Value} {base : Heap} {sc sc' : Scope} {N L C Gs Bs L' C' Gs' : List Str} {k : Nat} {ρ ρ' : Ro} {M M1 : Mm} {Q : DV → Mm → Prop} {e elt : Expr} {ifs : List Expr} {p p2 pos pos2 : Pos} {tgd : TgD} {n : Nat} {y : Nat → DV} {G : Mm → Prop}
theorem lcI_items {α : Type} (items : List α) (v : α → DV) (g : α → Option DV) (hn : n = items.length) (hy : ∀ i (h : i < items.length), y i = v items[i]) (hG : ∀ D l, G ((D, .lst l) :: M1)) (hs : n ≤ sizeLine)
    (hb : ∀ D x acc, x ∈ items → acc.length < sizeLine → tgd (v x) fun ρ2 => ∀ X', Fx X' P w K mg base sc' N L' C' Gs' Bs k → LcB (fun X'' => Fx X'' P w K mg base sc' N L' C' Gs' Bs k) X' ρ2 ((D, .lst acc) :: M1) elt ifs D fun M2 => M2 = (D, .lst (acc ++ (g x).toList)) :: M1)
    (tm : ∀ d (S S' : Ro → Prop), tgd d S → (∀ r, S r → S' r) → tgd d S')
    (bm : ∀ X' ρ2 M2 D (I I' : Mm → Prop), LcB (fun X'' => Fx X'' P w K mg base sc' N L' C' Gs' Bs k) X' ρ2 M2 elt ifs D I → (∀ m, I m → I' m) → LcB (fun X'' => Fx X'' P w K mg base sc' N L' C' Gs' Bs k) X' ρ2 M2 elt ifs D I')
    (q : ∀ D, Q (.ref D) ((D, .lst (items.filterMap g)) :: M1)) : LcI P w K mg base sc' N L' C' Gs' Bs k tgd elt ifs Q n y G M1 := fun D => by
  subst hn
  refine ⟨fun i M2 => M2 = (D, .lst ((items.take i).filterMap g)) :: M1, .self rfl, fun i M2 _ e => by subst e; exact hG D _, fun i M2 hi e => ?_, fun M2 e => ?_⟩
  · subst e
    rw [hy i hi]
    have hl : ((items.take i).filterMap g).length < sizeLine := Nat.lt_of_le_of_lt (List.length_filterMap_le _ _) (by rw [List.length_take]; omega)
    refine tm _ _ _ (hb D items[i] _ (List.getElem_mem hi) hl) fun r h X' FX => bm _ _ _ _ _ _ (h X' FX) fun m e => ?_
    show m = _
    rw [e, List.take_succ, List.filterMap_append, List.getElem?_eq_getElem hi]
    simp [List.filterMap_cons]
    cases g items[i] <;> rfl
  · subst e
    rw [List.take_length]
    exact q D
theorem TgN.mono {x : Str} {d : DV} {S S' : Ro → Prop} (h : TgN N ρ x d S) (q : ∀ r, S r → S' r) : TgN N ρ x d S' := let ⟨a, b, c⟩ := h; ⟨a, b, q _ c⟩
theorem TgT.mono {x x' : Str} {d : DV} {S S' : Ro → Prop} (h : TgT N ρ x x' d S) (q : ∀ r, S r → S' r) : TgT N ρ x x' d S' := let ⟨a, b, c, d1, e, f, g1, g2⟩ := h; ⟨a, b, c, d1, e, f, g1, q _ g2⟩
theorem App.mono {D : Addr} {d : DV} {I I' : Mm → Prop} (h : App D M d I) (q : ∀ m, I m → I' m) : App D M d I' := let ⟨a, b, c, d1, e⟩ := h; ⟨a, b, c, d1, q _ e⟩
theorem WT.mono {R R' : Bool → Mm → Prop} (h : WT X ρ M e R) (q : ∀ b m, R b m → R' b m) : WT X ρ M e R' := fun σ H rs m => (h σ H rs m).mono fun t H1 ⟨M1, a, b, c⟩ => ⟨M1, a, b, q _ _ c⟩
theorem LcB.mono {FP : Cy → Prop} {D : Addr} {I I' : Mm → Prop} (h : LcB FP X ρ M elt ifs D I) (q : ∀ m, I m → I' m) : LcB FP X ρ M elt ifs D I' := by
  match ifs, h with
  | [], h => exact WE.mono h fun d m z => z.mono fun m z => z.mono q
  | [c], h => exact WT.mono h fun b m z => ⟨fun hb X'' FX => (z.1 hb X'' FX).mono fun d m z => z.mono fun m z => z.mono q, fun hb => (z.2 hb).mono q⟩
/-- a comprehension of one name that alters nothing else -/
theorem lcI1 {x : Str} {α : Type} (items : List α) (v : α → DV) (g : α → Option DV) (hn : n = items.length) (hy : ∀ i (h : i < items.length), y i = v items[i]) (hG : ∀ D l, G ((D, .lst l) :: M1)) (hs : n ≤ sizeLine)
    (hb : ∀ D x1 acc, x1 ∈ items → acc.length < sizeLine → TgN N ρ x (v x1) fun ρ2 => ∀ X', Fx X' P w K mg base sc' N L' C' Gs' Bs k → LcB (fun X'' => Fx X'' P w K mg base sc' N L' C' Gs' Bs k) X' ρ2 ((D, .lst acc) :: M1) elt ifs D fun M2 => M2 = (D, .lst (acc ++ (g x1).toList)) :: M1)
    (q : ∀ D, Q (.ref D) ((D, .lst (items.filterMap g)) :: M1)) : LcI P w K mg base sc' N L' C' Gs' Bs k (TgN N ρ x) elt ifs Q n y G M1 :=
  lcI_items items v g hn hy hG hs hb (fun _ _ _ h q => h.mono q) (fun _ _ _ _ _ _ h q => h.mono q) q
theorem lcI2 {x x' : Str} {α : Type} (items : List α) (v : α → DV) (g : α → Option DV) (hn : n = items.length) (hy : ∀ i (h : i < items.length), y i = v items[i]) (hG : ∀ D l, G ((D, .lst l) :: M1)) (hs : n ≤ sizeLine)
    (hb : ∀ D x1 acc, x1 ∈ items → acc.length < sizeLine → TgT N ρ x x' (v x1) fun ρ2 => ∀ X', Fx X' P w K mg base sc' N L' C' Gs' Bs k → LcB (fun X'' => Fx X'' P w K mg base sc' N L' C' Gs' Bs k) X' ρ2 ((D, .lst acc) :: M1) elt ifs D fun M2 => M2 = (D, .lst (acc ++ (g x1).toList)) :: M1)
    (q : ∀ D, Q (.ref D) ((D, .lst (items.filterMap g)) :: M1)) : LcI P w K mg base sc' N L' C' Gs' Bs k (TgT N ρ x x') elt ifs Q n y G M1 :=
  lcI_items items v g hn hy hG hs hb (fun _ _ _ h q => h.mono q) (fun _ _ _ _ _ _ h q => h.mono q) q
/-! the count of distinct ints -/
def cnt (ns : List Int) : Nat := (PyProof.Rows.firstMet (fun i => ns.getD i 0) ns.length).length
theorem fm_mem {f : Nat → Int} : ∀ {n : Nat} {x : Int}, x ∈ PyProof.Rows.firstMet f n ↔ ∃ i, i < n ∧ f i = x
  | 0, x => by simp [PyProof.Rows.firstMet_zero]
  | n + 1, x => by
    rw [PyProof.Rows.firstMet_succ]
    unfold PyProof.Rows.step_dedup
    have ih := fun x => fm_mem (f := f) (n := n) (x := x)
    split
    · rename_i h
      rw [ih]
      obtain ⟨z, hz, e⟩ := List.any_eq_true.mp h
      have e := beq_iff_eq.mp e
      obtain ⟨i, hi, e2⟩ := (ih z).mp hz
      constructor
      · rintro ⟨i, h, e⟩; exact ⟨i, by omega, e⟩
      · rintro ⟨j, h, e3⟩
        by_cases hj : j < n
        · exact ⟨j, hj, e3⟩
        · have : j = n := by omega
          subst this
          exact ⟨i, hi, by rw [e2, e, e3]⟩
    · rw [List.mem_append, ih, List.mem_singleton]
      constructor
      · rintro (⟨i, h, e⟩ | e)
        · exact ⟨i, by omega, e⟩
        · exact ⟨n, by omega, e.symm⟩
      · rintro ⟨j, h, e3⟩
        by_cases hj : j < n
        · exact .inl ⟨j, hj, e3⟩
        · have : j = n := by omega
          subst this
          exact .inr e3.symm
theorem fm_nodup {f : Nat → Int} : ∀ n : Nat, (PyProof.Rows.firstMet f n).Nodup
  | 0 => by simp [PyProof.Rows.firstMet_zero]
  | n + 1 => by
    rw [PyProof.Rows.firstMet_succ]
    unfold PyProof.Rows.step_dedup
    split
    · exact fm_nodup n
    · rename_i h
      refine List.nodup_append.mpr ⟨fm_nodup n, by simp, fun a ha b hb e => ?_⟩
      rw [List.mem_singleton] at hb
      subst hb e
      exact h (List.any_eq_true.mpr ⟨_, ha, beq_self_eq_true _⟩)
theorem mem_fm {ns : List Int} {x : Int} : x ∈ PyProof.Rows.firstMet (fun i => ns.getD i 0) ns.length ↔ x ∈ ns := by
  rw [fm_mem]
  constructor
  · rintro ⟨i, h, e⟩
    rw [List.getD_eq_getElem?_getD, List.getElem?_eq_getElem h] at e
    exact e ▸ List.getElem_mem h
  · intro h
    obtain ⟨i, hi, e⟩ := List.getElem_of_mem h
    exact ⟨i, hi, by rw [List.getD_eq_getElem?_getD, List.getElem?_eq_getElem hi]; exact e⟩
theorem cnt_one {ns : List Int} : cnt ns = 1 ↔ ∃ x, x ∈ ns ∧ ∀ y ∈ ns, y = x := by
  unfold cnt
  rw [List.length_eq_one_iff]
  constructor
  · rintro ⟨a, h⟩
    refine ⟨a, mem_fm.mp (by rw [h]; simp), fun y hy => ?_⟩
    have := mem_fm.mpr hy
    rw [h, List.mem_singleton] at this
    exact this
  · rintro ⟨x, hx, h⟩
    have nd := fm_nodup (f := fun i => ns.getD i 0) ns.length
    have hm := mem_fm.mpr hx
    have ha : ∀ y ∈ PyProof.Rows.firstMet (fun i => ns.getD i 0) ns.length, y = x := fun y hy => h y (mem_fm.mp hy)
    generalize PyProof.Rows.firstMet (fun i => ns.getD i 0) ns.length = l at *
    match l, nd, hm, ha with
    | [a], _, _, ha => exact ⟨a, rfl⟩
    | a :: b :: t, nd, _, ha =>
      have e1 := ha a (by simp)
      have e2 := ha b (by simp)
      rw [List.nodup_cons] at nd
      exact absurd (by rw [e1, e2]; simp) nd.1
def tLenSetD (K : Fg) (ta : TE) : TE := fun σ H Q => ta σ H fun x H1 => ∃ (l : Addr) (ns : List Int), x = .ref l ∧ SqL K H1 l (ns.map V.int) ∧ ns.length ≤ 4000 ∧ Q (.int (cnt ns : Nat)) H1
theorem pe_lenSetD {X : Cx} {a : Expr} {ta : TE} {p p2 q pos : Pos} (hg : Gl X "len") (hm : X.mg "len" = none) (hg2 : Gl X "set") (hm2 : X.mg "set" = none) (ha : PE X a ta) (hc : X.calm = true)
    (na : starEach [a] X.env = (false, eval a X.env) :: starEach [] X.env) : PE X (.Call (.Name "len" p) [.Call (.Name "set" p2) [a] [] q] [] pos) (tLenSetD X.K ta) := by
  refine ⟨fun pins s σ H Q I h => ?_⟩
  refine PyProof.Rows.Call_ (ld_blt I hg hm boot_len ?_)
  refine PyProof.Rows.callWith_builtin1 (PyProof.Rows.args_cons ?_ rfl) rfl rfl
  refine PyProof.Rows.Call_ (ld_blt I hg2 hm2 PyProof.Rows.boot_set ?_)
  refine PyProof.Rows.callWith_type1 (PyProof.Rows.args_cons (thn (ha.run pins s σ H _ I h) fun v s1 ⟨x, H1, I1, r1, q1⟩ => PyProof.Rows.args_nil ?_) na) na rfl
  obtain ⟨l, ns, rfl, hq, hl, q1⟩ := q1
  cases r1
  obtain ⟨its, r, pl, hz⟩ := I1.list hq
  have hlen : its.toArray.size = ns.length := by rw [List.size_toArray, ← r.length, List.length_map]
  refine call_set_list (I1.ok.hd hc) pl.isList (by simpa using RZ.intsAre_vals r) (by rw [hlen]; unfold scanBound; omega) fun h' tk hS hk => ?_
  refine PyProof.Rows.args_nil ?_
  rw [hlen] at hS
  have hle := PyProof.Rows.firstMet_length_le (fun i => ns.getD i 0) ns.length
  obtain ⟨o, es, ep, t, ho, hex, hd, _, _, _, hf, hn⟩ := hS
  have I2 : Inv X pins σ H1 { s1 with heap := h', toks := tk } := I1.kept fun b o e => hk b o (Heap.lt_size e) e
  exact call_len_set ho hex hd hf (by rw [hn] <;> omega) ⟨.int (cnt ns : Nat), H1, I2.tok _, ⟨_, by rw [hn]; rfl⟩, q1⟩
theorem RDs.toInts {H : Hp} : ∀ {ns : List Int} {vs : List V}, RDs K H (ns.map DV.int) vs → vs = ns.map V.int
  | [], _, .nil => rfl
  | n :: ns, _, .cons r t => by cases r; rw [toInts t]; rfl
theorem we_lenSet (F : Fx X P w K mg base sc N L C Gs Bs k) (g1 : ("len" : Str) ∈ Gs) (g2 : ("len" : Str) ∈ Bs) (g3 : ("set" : Str) ∈ Gs) (g4 : ("set" : Str) ∈ Bs) (hs : noStars [e] = true)
    (h : WE X ρ M e fun d M1 => ∃ a i ns, d = .ref a ∧ AtM M1 i a (.lst (ns.map DV.int)) ∧ ns.length ≤ 4000 ∧ Q (.int (cnt ns : Nat)) M1) : WE X ρ M (.Call (.Name "len" p) [.Call (.Name "set" p2) [e] [] pos2] [] pos) Q := fun σ H rs m => by
  refine wE.of (pe_lenSetD (F.gl _ g1).1 (by rw [F.hmg]; exact F.bl _ g2) (F.gl _ g3).1 (by rw [F.hmg]; exact F.bl _ g4) pe_w F.calm (starEach_cons (noStars_cons hs).1)) ?_
  refine (h σ H rs m).mono fun v H1 ⟨d, M1, r, m1, s1, a, i, ns, e1, hA, hl, q⟩ => ?_
  subst e1
  cases r
  obtain ⟨vs, e1, e2⟩ := m1.at hA.ix
  have e3 := RDs.toInts e2
  subst e3
  exact ⟨a, ns, rfl, SqL.of e1, hl, _, M1, .int _, m1, s1, q⟩
instance (priority := high) [F : Fx X P w K mg base sc N L C Gs Bs k] [m : MemC "len" Gs] [m2 : MemC "len" Bs] [m3 : MemC "set" Gs] [m4 : MemC "set" Bs] : Step (WE X ρ M (.Call (.Name (Str.ofString "len") p) [.Call (.Name (Str.ofString "set") p2) [e] [] pos2] [] pos) Q) (noStars [e]) (WE X ρ M e fun d M1 => ∃ a i ns, d = .ref a ∧ AtM M1 i a (.lst (ns.map DV.int)) ∧ ns.length ≤ 4000 ∧ Q (.int (cnt ns : Nat)) M1) := ⟨fun h q => we_lenSet F m.h m2.h m3.h m4.h h q⟩
theorem eqv_nil (ns : List Int) : PyData.eqv (.list (ns.map .int)) (.list []) = decide (ns = []) := by
  cases ns <;> rfl
instance (priority := high) {ns : List Int} {a b : Addr} {i j : Nat} [A : AtM M i a (.lst (ns.map DV.int))] [B : AtM M j b (.lst [])] : Step (R2D K (rNe3 K) (.ref a) (.ref b) M Q) true (Q (.bl (!decide (ns = []))) M) := ⟨fun _ q => v_ne_d (.lst A (Pds.ints ns)) (.lst B .nil) (shaped_ints ns) rfl (by rw [eqv_nil]; exact q)⟩
instance (priority := high) {ns : List Int} {a b : Addr} {i j : Nat} [A : AtM M i a (.lst (ns.map DV.int))] [B : AtM M j b (.lst [])] : Step (R2D K (rEq3 K) (.ref a) (.ref b) M Q) true (Q (.bl (decide (ns = []))) M) := ⟨fun _ q => v_eq_d (.lst A (Pds.ints ns)) (.lst B .nil) (shaped_ints ns) rfl (by rw [eqv_nil]; exact q)⟩
instance {A B : Prop} : Step ((true = true → A) ∧ (true = false → B)) true A := ⟨fun _ q => ⟨fun _ => q, fun h => Bool.noConfusion h⟩⟩
instance {A B : Prop} : Step ((false = true → A) ∧ (false = false → B)) true B := ⟨fun _ q => ⟨fun h => Bool.noConfusion h, fun _ => q⟩⟩
instance {A B : Prop} {b : Bool} : Step (((!b) = true → A) ∧ ((!b) = false → B)) true ((b = true → B) ∧ (b = false → A)) := ⟨fun _ q => by cases b; exact ⟨fun _ => q.2 rfl, fun h => Bool.noConfusion h⟩; exact ⟨fun h => Bool.noConfusion h, fun _ => q.1 rfl⟩⟩
end
end G
namespace G
open PySem PySem.Spec PyProof.Rows L2
/-! ### lambdas that are made and called within one expression -/
/-- a lambda's names: its parameters, captured ones and globals -/
structure LamP (sc scope : Scope) (ps : List Str) : Prop where
  kind : scope.kind = .function
  co : scope.isCoroutine = false
  gen : scope.isGenerator = false
  cel : ∀ y ∈ scope.names, y.2 ≠ .cell
  loc : ∀ x, scope.names.lookup x = some .local → x ∈ ps
  par : ∀ x ∈ ps, scope.names.lookup x = some .local
  free : ∀ y ∈ scope.names, y.2 = .free → sc.names.lookup y.1 = some .cell ∨ sc.names.lookup y.1 = some .free
def lamP (sc scope : Scope) (ps : List Str) : Bool :=
  decide (scope.kind = .function) && !scope.isCoroutine && !scope.isGenerator &&
    (scope.names.all fun y => !decide (y.2 = .cell) && (!decide (y.2 = .local) || ps.contains y.1) && (!decide (y.2 = .free) || decide (sc.names.lookup y.1 = some .cell) || decide (sc.names.lookup y.1 = some .free))) &&
    (ps.all fun x => decide (scope.names.lookup x = some .local))
theorem lamP_ok {sc scope : Scope} {ps : List Str} (h : lamP sc scope ps = true) : LamP sc scope ps := by
  unfold lamP at h
  simp only [Bool.and_eq_true, Bool.or_eq_true, Bool.not_eq_true', decide_eq_true_eq, decide_eq_false_iff_not, List.all_eq_true] at h
  obtain ⟨⟨⟨⟨h1, h2⟩, h3⟩, h4⟩, h5⟩ := h
  refine ⟨h1, h2, h3, fun y hy => (h4 y hy).1.1, fun x hx => ?_, h5, fun y hy e => ?_⟩
  · have hm := PySem.mem_of_lookup hx
    rcases (h4 _ hm).1.2 with z | z
    · exact absurd rfl z
    · exact List.contains_iff_mem.mp z
  · rcases (h4 y hy).2 with (z | z) | z
    · exact absurd e z
    · exact .inl z
    · exact .inr z
section
variable {X : Cx} {pins : List (Addr × Obj)} {σ σ' : L2.St} {H : Hp} {s : Shared} {ps : List Str}
theorem LamP.has {scope : Scope} (L : LamP X.env.scope scope ps) (ok : X.Ok) : ∀ y ∈ scope.names, y.2 = .free → ∃ c, X.env.cells.lookup y.1 = some c :=
  fun y hy e => (L.free y hy e).elim (fun k => ok.has _ (.inl k)) fun k => ok.has _ (.inr k)
theorem lam_begin {A : Around} {outer : List Env} {E : XK} {scope : Scope} {f c' : Addr} {h₁ : Heap} {tk : Nat} {binds : List (Str × Value)} (I : Inv X pins σ H s) (L : LamP X.env.scope scope ps) (e0 : Env0 X.prog X.w X.K X.mg X.base A outer s H) (hd : A.handled = none)
    (hns : h₁.Ns s.heap.objs.size fun y => binds.reverse.lookup y) (kp : ∀ b o, s.heap.get? b = some o → h₁.get? b = some o) (hl : σ'.length = X.N.length)
    (hσ : ∀ (i : Nat) (y : Str) (v : V), X.N[i]? = some y → σ'[i]? = some (some v) → (∃ u, RelV v u ∧ binds.reverse.lookup y = some u ∧ scope.names.lookup y = some .local) ∨ (scope.names.lookup y ≠ some .local ∧ σ[i]? = some (some v))) :
    Inv (LamX.lamCx X A outer s H E scope f c') [] σ' H { s with heap := h₁, toks := tk } := by
  have own := L.has I.ok
  have up : ∀ {y c}, (cloFrom X.env.cells scope.names []).lookup y = some c → X.env.cells.lookup y = some c := fun {y c} e => by
    rcases cloFrom_mem (PySem.mem_of_lookup e) with z | ⟨z1, z2⟩
    · cases z
    · obtain ⟨c1, q⟩ := own _ z1 rfl
      have q : X.env.cells.lookup y = some c1 := q
      rw [q] at z2
      cases z2
      exact q
  have down : ∀ {y}, scope.names.lookup y = some .free → ∃ c, (cloFrom X.env.cells scope.names []).lookup y = some c := fun {y} e =>
    mem_lookup (cloFrom_has (cells := X.env.cells) (acc := []) (PySem.mem_of_lookup e))
  have cell : ∀ {c : Addr} {v : Option Value}, s.heap.IsCell c v → h₁.IsCell c v := fun {c v} ⟨o, q1, q2⟩ => ⟨o, kp _ _ q1, q2⟩
  have none1 : ∀ b : Addr, b ∉ (LamX.lamCx X A outer s H E scope f c').ex := fun b z => nomatch (show b ∈ ([] : List Addr) from z)
  have OK : (LamX.lamCx X A outer s H E scope f c').Ok := by
    constructor
    case mod => exact e0.mod
    case kind => exact L.kind
    case glob => rfl
    case blt => rfl
    case above => exact Nat.le_refl _
    case inj => exact fun y z c e1 e2 => I.ok.inj y z c (up e1) (up e2)
    case has =>
      intro y hy
      have hy : scope.names.lookup y = some .cell ∨ scope.names.lookup y = some .free := hy
      rcases hy with z | z
      · exact absurd rfl (L.cel _ (PySem.mem_of_lookup z))
      · exact down z
    case cab => exact fun y c z _ => Bool.noConfusion (show false = true from z)
    case hd => exact fun _ => hd
    case frames => exact Around.frames_deeper e0.frames
    case stk => exact .inr ⟨rfl, rfl⟩
    case exf => exact fun b z => absurd z (none1 b)
    case bs => exact e0.bs
    case bsz => exact e0.bsz
    case noex => exact fun b _ _ => none1 b
    case exfs => exact fun b z => absurd z (none1 b)
    case funs => exact e0.funs
    case frf => exact e0.frf
  constructor
  case ok => exact OK
  case os => rfl
  case bare => exact e0.bare
  case base => exact Un.kept kp
  case loc =>
    refine ⟨_, hns, fun i y v e1 e2 e3 => ?_⟩
    have e3 : Vis scope y := e3
    rcases hσ i y v e1 e2 with ⟨u, r, q1, q2⟩ | ⟨q1, q2⟩
    · exact ⟨u, r, .inl ⟨q2, q1⟩⟩
    · rcases e3 with k | k | k
      · exact absurd k q1
      · exact absurd rfl (L.cel _ (PySem.mem_of_lookup k))
      · have hv : X.env.scope.names.lookup y = some .cell ∨ X.env.scope.names.lookup y = some .free := L.free _ (PySem.mem_of_lookup k) rfl
        obtain ⟨m, _, hm⟩ := I.loc
        obtain ⟨u, r, z⟩ := hm i y v e1 q2 (.inr hv)
        obtain ⟨c2, h2⟩ := down k
        refine ⟨u, r, .inr ⟨.inr k, c2, h2, ?_⟩⟩
        rcases z with ⟨z1, _⟩ | ⟨_, c3, z2, z3⟩
        · have z1 : X.env.scope.names.lookup y = some .local := z1
          rcases hv with w | w
          · rw [z1] at w; cases w
          · rw [z1] at w; cases w
        · rw [up h2] at z2
          cases z2
          exact cell z3
  case cell =>
    intro y c e
    obtain ⟨v, z⟩ := I.cell y c (up e)
    exact ⟨v, cell z⟩
  case free => exact e0.hok.fresh (Nat.le_refl _)
  case freeC => exact fun y c e => I.freeC y c (up e)
  case pin => exact fun q hq => nomatch (show q ∈ ([] : List (Addr × Obj)) from hq)
  case hok => exact e0.hok.kept kp
  case len => exact hl
/-- the lambda at f -/
def LamAt (X : Cx) (h : Heap) (params : Arguments) (body : Expr) (scope : Scope) (f c' : Addr) : Prop :=
  ∃ pm ctv, h.get? f = some (PySem.W.kla_obj "<lambda>" (X.env.qual ++ "<lambda>") params body scope (cloFrom X.env.cells scope.names []) pm c' ctv)
/-- a call of the lambda, from within X's frame -/
theorem lam_call {A : Around} {E : Value → Shared → Prop} {params : Arguments} {body : Expr} {scope : Scope} {f c' : Addr} {us : List Value} {binds : List (Str × Value)} {k : Nat} {Q : VK} (I : Inv X pins σ H s) (L : LamP X.env.scope scope ps)
    (hf : LamAt X s.heap params body scope f c') (hc : H c' = some (LamX.CodeO c' (X.env.qual ++ "<lambda>")))
    (hb : ∀ pm ctv, bindArgs (PySem.W.kla_fn "<lambda>" (X.env.qual ++ "<lambda>") params body scope (cloFrom X.env.cells scope.names []) pm (.ref c') ctv) ⟨us, []⟩ = pure binds)
    (hbl : ∀ y ∈ binds, scope.names.lookup y.1 = some .local) (hr : Room (k + 1) A) (e0 : Env0 X.prog X.w X.K X.mg X.base A X.stack s H) (hl : σ'.length = X.N.length)
    (hσ : ∀ (i : Nat) (y : Str) (v : V), X.N[i]? = some y → σ'[i]? = some (some v) → (∃ u, RelV v u ∧ binds.reverse.lookup y = some u ∧ scope.names.lookup y = some .local) ∨ (scope.names.lookup y ≠ some .local ∧ σ[i]? = some (some v)))
    (h : Room k (A.deeper (LamX.lamEnv X scope s.heap.objs.size f c')) → wE (LamX.lamCx X A X.stack s H E0 scope f c').nox body σ' H Q) :
    wpAny (model X.prog X.w) A (call (.ref f) us) (EP X pins σ Q) E s := by
  obtain ⟨pm, ctv, of⟩ := hf
  obtain ⟨⟨oc, vs, t, hoc, hdc, hvc⟩, _, _⟩ := I.hok c' _ hc
  have rc : codeAny (model X.prog X.w) A (.call (.ref f) ⟨us, []⟩) (CR CX0 X.stack X.prog X.w H s Q E0) s := by
    refine PySem.W.kla_callFunE hr.depth of rfl L.co L.gen rfl ⟨c', oc, vs, t, rfl, hoc, hdc, hvc⟩ ?_
    rw [hb]
    refine wpAny_pure (wpAny_newFunctionEnv L.cel hbl (fun h₁ hns hsb => ⟨I.nolimit.fresh _ hsb, ?_⟩) L.kind)
    show codeAny _ _ (.expr body (LamX.lamEnv X scope s.heap.objs.size f c')) _ _
    have kp : ∀ b o, s.heap.get? b = some o → h₁.get? b = some o := fun b o e => hsb.extBut b o (Nat.ne_of_lt (Heap.lt_size e)) (Heap.get?_push_of_some _ e)
    have J : Inv (LamX.lamCx X A X.stack s H E0 scope f c') [] σ' H { s with heap := h₁, toks := s.toks + binds.length } := lam_begin I L e0 hr.hd hns kp hl hσ
    refine PySem.W.kla_codeExpr (wpAny_mono (h (hr.deeper _) [] _ (J.wish fun _ _ => False)) (fun v s' hq => ?_) fun e s' hq => hq.elim)
    obtain ⟨w', H', J', rv, q⟩ := hq
    exact ⟨w', H', J'.os, J'.bare, J'.base, J'.hok, rv, q⟩
  refine wpAny_call (codeAny_mono rc fun r s' hq => ?_)
  cases r with
  | error e => exact False.elim hq
  | ok fl =>
    cases fl with
    | ret u => exact I.after hq
    | next => exact False.elim hq
    | brk => exact False.elim hq
    | cont => exact False.elim hq
end
end G
namespace G
open PySem PySem.Spec PyProof.Rows L2
/-! ### sorted(xs, key=lambda ..) -/
section
variable {X : Cx} {pins : List (Addr × Obj)} {σ : L2.St} {H H' : Hp} {s : Shared} {h' : Heap}
theorem fp_at {b : Addr} (h : FpOk X pins H b) (n : H' b = none) : FpOk X pins H' b := ⟨n, h.2⟩
/-- own records turn, one of them is known from now on -/
theorem inv_taken {t' : Nat} {ch : List Addr} {T : Addr} {ob : HO} (I : Inv X pins σ H s) (k : ∀ b o, b ∉ ch → s.heap.get? b = some o → h'.get? b = some o) (hf : ∀ b ∈ ch, FpOk X pins H b) (hT : T ∈ ch)
    (new : ObjOk X.prog X.w (upd H T ob) h' T ob) : Inv X pins σ (upd H T ob) { s with heap := h', toks := t' } := by
  have hn : H T = none := (hf T hT).1
  have off : ∀ b u, H b = some u → b ∉ ch := fun b u e z => by
    rw [(hf b z).1] at e
    cases e
  have old : ∀ b u, H b = some u → upd H T ob b = some u := fun b u e => by
    rw [upd_ne (ne_of_none e hn)]
    exact e
  refine I.step (g' := s.gens) (d' := s.drawn) (ch := ch) (fun b hb => ?_) ?_ ?_ ?_ ?_ (fun b xs e => old b _ e) (fun b o u e => old b _ e) ?_ ?_ ?_ I.bare
  · obtain ⟨_, a2, _, a4, a5, a6⟩ := hf b hb
    exact ⟨a4, a2, a5, a6⟩
  · exact fun b o _ _ hc e _ => k b o hc e
  · exact fun b o _ _ hc e _ => ⟨o.slots, k b o hc e⟩
  · intro b o hc e n
    rw [upd_ne (fun z => hc (by rw [z]; exact hT))]
    exact n
  · exact fun b o hc e => ⟨o, k b o hc e⟩
  · intro b ps e
    exact ⟨#[], by rw [old b _ e]; simp⟩
  · rintro m ⟨o, es, ep, ho, r⟩
    exact ⟨o, es, ep, k _ o (fun z => (hf _ z).2.1 rfl) ho, r⟩
  · intro b u e
    by_cases hb : b = T
    · subst hb
      rw [upd_same] at e
      cases e
      exact new
    · rw [upd_ne hb] at e
      refine (I.hok b u e).stay (fun c v hc q => k c v ?_ q) (fun c q => old c _ q) fun c xs q => old c _ q
      rcases hc with z | z
      · rw [z]
        exact off b u e
      · exact off c _ z
/-- what holds of a list of DVs as keys -/
def KeysD (kd : List DV) (kz : List PyData) : Prop := Pds [] kd kz
theorem Pds.length {M : Mm} : ∀ {ds : List DV} {ps : List PyData}, Pds M ds ps → ds.length = ps.length
  | _, _, .nil => rfl
  | _, _, .cons _ t => by rw [List.length_cons, List.length_cons, Pds.length t]
theorem RM.none {K : Fg} {H : Hp} : RM K H [] := ⟨List.nodup_nil, fun a o h => nomatch h⟩
theorem each_reads (I : Inv X pins σ H s) : ∀ {kd : List DV} {kz : List PyData} {ws : List V} {us : List Value}, Pds [] kd kz → RDs X.K H kd ws → Vals ws us → PySem.W.EachIs (fun v k => ∃ as, Reads s.heap v k as) us kz
  | _, _, _, _, .nil, .nil, .nil => .nil
  | _, _, _, _, .cons p ps, .cons r rs, .cons v vs => .cons (Dp.reads I _ _ _ (p.dp RM.none r) v) (each_reads I ps rs vs)
theorem each_vals {α : Type} {g : α → V} : ∀ {us : List Value} {bs : List α}, PySem.W.EachIs (fun v x => RelV (g x) v) us bs → Vals (bs.map g) us
  | _, _, .nil => .nil
  | _, _, .cons r t => .cons r (each_vals t)
theorem vals_each {α : Type} {g : α → V} : ∀ {bs : List α} {us : List Value}, Vals (bs.map g) us → PySem.W.EachIs (fun v x => RelV (g x) v) us bs
  | [], _, .nil => .nil
  | _ :: _, _, .cons r t => .cons r (vals_each t)
theorem vals_cons {x : V} {xs : List V} {us : List Value} (h : Vals (x :: xs) us) : ∃ u r, us = u :: r ∧ RelV x u ∧ Vals xs r := by
  cases h with
  | cons a b => exact ⟨_, _, rfl, a, b⟩
theorem vals_snoc : ∀ {xs : List V} {us : List Value} {x : V} {u : Value}, Vals xs us → RelV x u → Vals (xs ++ [x]) (us ++ [u])
  | _, _, _, _, .nil, r => .cons r .nil
  | _, _, _, _, .cons a b, r => .cons a (vals_snoc b r)
/-- the key calls, one after another; then the sort -/
theorem sort_rest {A : Around} {E : Value → Shared → Prop} {P : PySem.Fin → Shared → Prop} {f a kS : Addr} {vs : List Value} {e1 : Nat} {kd : List DV} {kz : List PyData} (J : Nat → Hp → Prop) (bs : List (V × PyData))
    (I : Inv X pins σ H s) (hJ : J 0 H) (fa : FpOk X pins H a) (fk : FpOk X pins H kS) (nk : s.heap.get? kS = some (seqObj "list" #[] 0)) (na : s.heap.get? a = some (seqObj "list" #[] e1)) (hka : kS ≠ a)
    (hp : Pds [] kd kz) (hlen : kz.length = vs.length) (hZ : vs.length ≤ sizeLine) (hal : PySem.W.AllAlike kz) (hsk : PySem.W.Sortable kz) (hu : ∀ d, d ∈ kz → A.units + d.depth < cLine) (hbs : bs.map (·.2) = kz) (hbv : Vals (bs.map (·.1)) vs)
    (turn : ∀ (i : Nat) (v : Value), vs[i]? = some v → ∀ (pins' : List (Addr × Obj)) (s' : Shared) (H1 : Hp), (∀ q ∈ pins, q ∈ pins') → Inv X pins' σ H1 s' → J i H1 →
      wpAny (model X.prog X.w) A (call (.ref f) [v]) (EP X pins' σ fun w H2 => Stay X.K H1 H2 ∧ J (i + 1) H2 ∧ ∃ d, kd[i]? = some d ∧ RD X.K H2 d w) (fun _ _ => False) s')
    (fin : ∀ (s' : Shared) (Hn : Hp), Hn a = none → J vs.length Hn → Inv X pins σ (upd Hn a (.lst ((bs.mergeSort (PySem.W.dataLe false (·.2))).map (·.1)))) s' → P (.done (.ret .none)) s') :
    wpAny (model X.prog X.w) A (ksk_rest a (.ref f) false vs.toArray e1 (.ref kS)) P E s := by
  unfold ksk_rest
  refine wpAny_bind (wpAny_rule ?_)
  rw [List.forIn_toArray]
  refine wpAny_bind (ksk_fold (fun i s' => ∃ Hi kA e ws, Inv X pins σ Hi s' ∧ J i Hi ∧ FpOk X pins Hi a ∧ FpOk X pins Hi kS ∧ s'.heap.get? kS = some (seqObj "list" kA e) ∧ s'.heap.get? a = some (seqObj "list" #[] e1) ∧ Vals ws kA.toList ∧ RDs X.K Hi (kd.take i) ws) vs 0 s
    ⟨H, #[], 0, [], I, hJ, fa, fk, nk, na, .nil, by rw [List.take_zero]; exact .nil⟩ ?go ?done)
  case go =>
    rintro j x s1 hx ⟨Hi, kA, e, ws, I1, J1, fa1, fk1, nk1, na1, v1, r1⟩
    rw [Nat.zero_add] at J1 r1
    have hkl : kA.size ≤ vs.length := by
      have q1 : ws.length = kA.toList.length := v1.length
      have q2 : (kd.take j).length = ws.length := r1.length
      have q3 : kA.toList.length = kA.size := Array.length_toList
      have q4 : (kd.take j).length ≤ kd.length := by rw [List.length_take]; omega
      have q5 : kd.length = kz.length := hp.length
      omega
    have IP : Inv X ([(kS, seqObj "list" kA e), (a, seqObj "list" #[] e1)] ++ pins) σ Hi s1 := I1.pins_of fun p hm => by
      rcases List.mem_append.mp hm with hm | hm
      · rcases List.mem_cons.mp hm with rfl | hm
        · exact ⟨nk1, fk1.1, fk1.2.1, fk1.2.2.1, fun v z => by cases z⟩
        · rcases List.mem_cons.mp hm with rfl | hm
          · exact ⟨na1, fa1.1, fa1.2.1, fa1.2.2.1, fun v z => by cases z⟩
          · cases hm
      · exact I1.pin p (List.mem_append_right _ hm)
    refine wpAny_bind (wpAny_attempt (wpAny_mono (turn j x hx _ s1 Hi (fun q hq => List.mem_append_right _ hq) IP J1) (fun u s2 he => ?_) fun _ _ z => z.elim))
    obtain ⟨w2, H2, I2, rv, st2, J2, d, hd, rd⟩ := he
    have pk := I2.pin (kS, seqObj "list" kA e) (List.mem_append_right _ (by simp))
    have pa := I2.pin (a, seqObj "list" #[] e1) (List.mem_append_right _ (by simp))
    have I3 : Inv X pins σ H2 s2 := I2.pins_of fun p hm => I2.pin p (List.mem_append_right _ (List.mem_append_right _ hm))
    dsimp only
    have sb := Heap.SameBut.update s2.heap kS (Obj.mapSeq (·.push u))
    obtain ⟨c2, hc2⟩ : ∃ c2, (s2.heap.update kS (Obj.mapSeq (·.push u))).get? kS = some (seqObj "list" (kA.push u) c2) := ⟨_, get?_update_seq pk.1 (·.push u)⟩
    refine wpAny_bind (listUpdate_at pk.1 rfl ?_ (Nat.le_trans hkl hZ) (Nat.le_trans (Nat.le_of_eq (Array.size_push ..)) (Nat.succ_le_succ (Nat.le_trans hkl hZ))))
    have I4 := I3.turnedL (t' := s2.toks) (h' := s2.heap.update kS (Obj.mapSeq (·.push u))) (ch := [kS]) (fun b o hb q => (sb.2 b (fun z => hb (by rw [z]; simp))).trans q) (fun b hb => by rw [List.mem_singleton] at hb; rw [hb]; exact fp_at fk1 pk.2.1)
    refine wpAny_pure ⟨rfl, H2, kA.push u, c2, ws ++ [w2], I4, by rw [Nat.zero_add]; exact J2, fp_at fa1 pa.2.1, fp_at fk1 pk.2.1, hc2, (sb.2 a hka.symm).trans pa.1, ?_, ?_⟩
    · rw [Array.toList_push]
      exact vals_snoc v1 rv
    · rw [Nat.zero_add, List.take_add_one, hd]
      exact (r1.mono st2).append (.cons rd .nil)
  case done =>
    rintro s1 ⟨Hi, kA, e, ws, I1, J1, fa1, fk1, nk1, na1, v1, r1⟩
    rw [Nat.zero_add] at J1 r1
    rw [List.take_of_length_le (by rw [hp.length, hlen]; exact Nat.le_refl _)] at r1
    have er := each_reads I1 hp r1 v1
    have hsz : kA.size = vs.length := by
      have := er.length
      rw [Array.length_toList] at this
      omega
    refine wpAny_bind (listItems_at nk1 rfl ?_)
    refine PySem.W.keyH_end (κ := PySem.W.dataKind s1.heap kz) (h₁ := PySem.W.hideAll s1.heap [kS]) (fun b o _ q => PySem.W.of_hideAll _ q) (PySem.W.hideAll_none _ (by simp)) nk1 na1 hka (PySem.W.SortsAt.data er hal hsk hu) hsz hZ fun h3 tk3 c k3 n3 => ?_
    have ko : PySem.W.KeyedOut false kz vs (PySem.W.sortVals (PySem.W.dataKind s1.heap kz) false kA.toList vs) := ⟨s1.heap, kA.toList, hal, rfl, er⟩
    rw [← hbs] at ko
    have eo := each_vals (PySem.W.keyedOut_each (fun x : V × PyData => x.2) ko (vals_each hbv))
    rw [hbs] at eo
    refine fin _ Hi fa1.1 J1 (inv_taken (ch := [kS, a]) (T := a) I1 (fun b o hb q => ?_) (fun b hb => ?_) (by simp) ⟨?_, _, c, eo, n3⟩)
    · exact k3 b o (fun z => hb (by rw [z]; simp)) (PySem.W.hideAll_get _ q (fun z => hb (by rw [List.mem_singleton] at z; rw [z]; simp)))
    · rcases List.mem_cons.mp hb with rfl | hb
      · exact fk1
      · rw [List.mem_singleton] at hb
        rw [hb]
        exact fa1
    · rw [List.length_map, (List.mergeSort_perm bs _).length_eq]
      have := hbv.length
      rw [List.length_map] at this
      omega
theorem sort_tree {A : Around} {E : Value → Shared → Prop} {P : PySem.Fin → Shared → Prop} {f a : Addr} {vs : List Value} {n : Nat} {kd : List DV} {kz : List PyData} (J : Nat → Hp → Prop) (bs : List (V × PyData))
    (I : Inv X pins σ H s) (hJ : J 0 H) (fa : FpOk X pins H a) (ho : s.heap.get? a = some (seqObj "list" vs.toArray n))
    (hp : Pds [] kd kz) (hlen : kz.length = vs.length) (hZ : vs.length ≤ sizeLine) (hal : PySem.W.AllAlike kz) (hsk : PySem.W.Sortable kz) (hu : ∀ d, d ∈ kz → A.units + d.depth < cLine) (hbs : bs.map (·.2) = kz) (hbv : Vals (bs.map (·.1)) vs)
    (turn : ∀ (i : Nat) (v : Value), vs[i]? = some v → ∀ (pins' : List (Addr × Obj)) (s' : Shared) (H1 : Hp), (∀ q ∈ pins, q ∈ pins') → Inv X pins' σ H1 s' → J i H1 →
      wpAny (model X.prog X.w) A (call (.ref f) [v]) (EP X pins' σ fun w H2 => Stay X.K H1 H2 ∧ J (i + 1) H2 ∧ ∃ d, kd[i]? = some d ∧ RD X.K H2 d w) (fun _ _ => False) s')
    (fin : ∀ (s' : Shared) (Hn : Hp), Hn a = none → J vs.length Hn → Inv X pins σ (upd Hn a (.lst ((bs.mergeSort (PySem.W.dataLe false (·.2))).map (·.1)))) s' → P (.done (.ret .none)) s') :
    wpAny (model X.prog X.w) A (ksk_tree a (.ref f) false) P E s := by
  have la : a < s.heap.objs.size := Heap.lt_size ho
  have sb := Heap.SameBut.update s.heap a (Obj.mapSeq fun _ => (#[] : Array Value))
  obtain ⟨e1, ho1⟩ : ∃ e1, (s.heap.update a (Obj.mapSeq fun _ => (#[] : Array Value))).get? a = some (seqObj "list" #[] e1) := ⟨_, get?_update_seq ho fun _ => #[]⟩
  have ek : ((s.heap.update a (Obj.mapSeq fun _ => (#[] : Array Value))).push (seqObj "tuple" vs.toArray 0)).objs.size = s.heap.objs.size + 1 := by rw [size_push', Heap.size_update]
  unfold ksk_tree
  refine wpAny_bind (listItems_at ho rfl ?_)
  refine wpAny_bind (listUpdate_at ho rfl ?_ (by rw [List.size_toArray]; exact hZ) (Nat.zero_le _))
  refine wpAny_bind (seqEpoch_at ho1 rfl ?_)
  refine wpAny_bind (wpAny_newTuple ?_ (show vs.length ≤ _ from hZ))
  refine wpAny_bind (wpAny_newList ?_ (Nat.zero_le _))
  refine wpAny_holding ?_
  have I1 := I.turnedL (t' := s.toks) (ch := [a]) (h' := ((s.heap.update a (Obj.mapSeq fun _ => (#[] : Array Value))).push (seqObj "tuple" vs.toArray 0)).push (seqObj "list" #[] 0))
    (fun b o hb q => Heap.get?_push_of_some _ (Heap.get?_push_of_some _ ((sb.2 b (fun z => hb (by rw [z]; simp))).trans q))) (fun b hb => by rw [List.mem_singleton] at hb; rw [hb]; exact fa)
  refine sort_rest (kd := kd) (kz := kz) (kS := ((s.heap.update a (Obj.mapSeq fun _ => (#[] : Array Value))).push (seqObj "tuple" vs.toArray 0)).objs.size) J bs I1 hJ fa ?_ (Heap.get?_push_size _ rfl) (Heap.get?_push_of_some _ (Heap.get?_push_of_some _ ho1)) (by rw [ek]; exact Nat.ne_of_gt (Nat.lt_succ_of_lt la)) hp hlen hZ hal hsk hu hbs hbv turn fin
  exact I.fpOk (by rw [ek]; exact Nat.le_succ _) (I.hok.fresh (by rw [ek]; exact Nat.le_succ _))
end
/-- sorted(x, ..): the items are collected, a new list of them is sorted -/
theorem sorted_gen {prog : Program} {w : World} {A : Around} {E : Value → Shared → Prop} {s : Shared} {x : Value} {kw : List (Str × Value)} {R : List Value → Prop} {Q : Value → Shared → Prop} (ha1 : argsOk "sorted" ⟨[x], kw⟩) (ha2 : ∀ y, argsOk "list.sort" ⟨[.ref y], kw⟩)
    (col : ∀ {Q' : List Value → Shared → Prop} {E' : Value → Shared → Prop}, (∀ (h' : Heap) (tk : Nat) (acc : List Value), (∀ b o, s.heap.get? b = some o → h'.get? b = some o) → R acc → Q' acc { s with heap := h', toks := tk }) → wpAny (model prog w) A.in1 (collect x) Q' E' s) (hR : ∀ acc, R acc → acc.length ≤ sizeLine)
    (body : ∀ (h' : Heap) (tk : Nat) (acc : List Value), (∀ b o, s.heap.get? b = some o → h'.get? b = some o) → R acc → ∀ E' : Value → Shared → Prop, wpAny (model prog w) A.in1.in1 (Builtin.«list.sort» ⟨[.ref h'.objs.size], kw⟩) (fun f s' => f = .done (.ret .none) ∧ Q (.ref h'.objs.size) s') E' { s with heap := h'.push (seqObj "list" acc.toArray 0), toks := tk }) :
    wpAny (model prog w) A (call (.builtin "sorted") [x] kw) Q E s := by
  refine call_function_entry_kw kind_sorted plain_sorted entry_sorted ha1 ?_
  unfold Builtin.«sorted»
  refine wpAny_bind (m := checkCount "sorted" 1 1 _) (wpAny_pure ?_)
  refine wpAny_bind (col fun h' tk acc kp r => ?_)
  refine wpAny_bind (wpAny_newList ?_ (hR acc r))
  refine wpAny_bind (wpAny_holding (wpAny_call_entry_kw slot_list_sort ⟨_, Heap.get?_push_size _ rfl, rfl⟩ entry_list_sort ?b (ha2 _)))
  case b =>
    refine wpAny_mono (body h' tk acc kp r _) (fun fn s' hf => ?_) fun _ _ z => z
    obtain ⟨rfl, q⟩ := hf
    exact ⟨_, rfl, wpAny_pure ⟨_, rfl, q⟩⟩
end G
namespace G
open PySem PySem.Spec PyProof.Rows L2
/-! ### makers of lambdas -/
class Mkr (X : Cy) (c P : outParam Addr) (q : outParam Str) : Prop where
  code : X.env.code = .ref c
  tb : LamX.TabB X.base X.mg c P
  qn : X.env.qual ++ "<lambda>" = q
def tabsOf : Mm → List (Addr × Str)
  | [] => []
  | (p, .tab q) :: M => (p, q) :: tabsOf M
  | _ :: M => tabsOf M
theorem mem_tabsOf : ∀ {M : Mm} {p : Addr} {q : Str}, (p, q) ∈ tabsOf M ↔ (p, MO.tab q) ∈ M
  | [], p, q => by simp [tabsOf]
  | (a, .tab r) :: M, p, q => by
    rw [tabsOf, List.mem_cons, List.mem_cons, mem_tabsOf]
    constructor
    · rintro (h | h)
      · cases h; exact .inl rfl
      · exact .inr h
    · rintro (h | h)
      · cases h; exact .inl rfl
      · exact .inr h
  | (a, .lst r) :: M, p, q => by rw [tabsOf, List.mem_cons, mem_tabsOf]; exact ⟨.inr, fun h => h.elim (fun h => by cases h) id⟩; all_goals (intros; simp_all)
  | (a, .ins r u) :: M, p, q => by rw [tabsOf, List.mem_cons, mem_tabsOf]; exact ⟨.inr, fun h => h.elim (fun h => by cases h) id⟩; all_goals (intros; simp_all)
  | (a, .dk r) :: M, p, q => by rw [tabsOf, List.mem_cons, mem_tabsOf]; exact ⟨.inr, fun h => h.elim (fun h => by cases h) id⟩; all_goals (intros; simp_all)
  | (a, .dn r u t) :: M, p, q => by rw [tabsOf, List.mem_cons, mem_tabsOf]; exact ⟨.inr, fun h => h.elim (fun h => by cases h) id⟩; all_goals (intros; simp_all)
  | (a, .exc r u) :: M, p, q => by rw [tabsOf, List.mem_cons, mem_tabsOf]; exact ⟨.inr, fun h => h.elim (fun h => by cases h) id⟩; all_goals (intros; simp_all)
  | (a, .rng r u) :: M, p, q => by rw [tabsOf, List.mem_cons, mem_tabsOf]; exact ⟨.inr, fun h => h.elim (fun h => by cases h) id⟩; all_goals (intros; simp_all)
theorem ext_stay {K : Fg} {H H1 : Hp} (e : LamX.ExtN H H1) : Stay K H H1 := ⟨fun a xs h => e a _ h fun ps z => (by cases z), fun a o u h => e a _ h fun ps z => (by cases z), fun a q h => e a _ h LamX.codeO_ne, fun a fs h => e a _ h fun ps z => (by cases z)⟩
theorem RM.tabs {K : Fg} {H H1 : Hp} {M : Mm} (h : RM K H M) (e : LamX.ExtN H H1) (t : LamX.Tabs (tabsOf M) H1) : RM K H1 M := ⟨h.nd, fun a o hm => by
  have hr := h.ok a o hm
  cases o with
  | tab q => exact t (a, q) (mem_tabsOf.mpr hm)
  | lst xs => exact hr.mono (ext_stay e) (by obtain ⟨vs, h1, _⟩ := hr; rw [h1]; exact e a _ h1 fun ps z => (by cases z))
  | ins C fs => exact hr.mono (ext_stay e) (by obtain ⟨dx, gs, h1, _⟩ := hr; rw [h1]; exact e a _ h1 fun ps z => (by cases z))
  | dk kvs => exact hr.mono (ext_stay e) (by obtain ⟨vs, h1, _⟩ := hr; rw [h1]; exact e a _ h1 fun ps z => (by cases z))
  | dn w o kvs => exact hr.mono (ext_stay e) (by obtain ⟨vs, h1, _⟩ := hr; rw [h1]; exact e a _ h1 fun ps z => (by cases z))
  | exc w o => exact hr.mono (ext_stay e) (by obtain ⟨vs, h1, _⟩ := hr; rw [h1]; exact e a _ h1 fun ps z => (by cases z))
  | rng lo hi => exact hr.mono (ext_stay e) (by have h1 : H a = some (.rng lo hi) := hr; rw [h1]; exact e a _ h1 fun ps z => (by cases z))⟩
theorem nodup_fst {M : Mm} (nd : (M.map (·.1)).Nodup) {p : Addr} {a b : MO} (h1 : (p, a) ∈ M) (h2 : (p, b) ∈ M) : a = b := by
  obtain ⟨i, hi, e1⟩ := List.getElem_of_mem h1
  obtain ⟨j, hj, e2⟩ := List.getElem_of_mem h2
  have q : (M.map (·.1))[i]'(by simpa using hi) = (M.map (·.1))[j]'(by simpa using hj) := by simp [e1, e2]
  have : i = j := (List.getElem_inj nd).mp q
  subst this
  rw [e1] at e2
  cases e2
  rfl
def plainArgs (a : Arguments) : Bool := match a with
  | ⟨_, _, _, _, [], _, []⟩ => true
  | _ => false
theorem plainArgs_ok {a : Arguments} {env : Env} (h : plainArgs a = true) : defaultsOf a env = ([], []) := by
  obtain ⟨p1, p2, p3, p4, p5, p6, p7⟩ := a
  cases p5 <;> cases p7 <;> first | rfl | exact Bool.noConfusion h
/-- the static facts of a lambda with one parameter -/
def lamM (N : List Str) (scope : Scope) (ms : List Bool) : Bool := (ms.length == N.length) && ((List.range ms.length).all fun i => !(ms.getD i false) || decide (scope.names.lookup (N.getD i "") = some .free))
structure Lam1 (N : List Str) (sc scope : Scope) (params : Arguments) (body : Expr) (x : Str) (i : Nat) (ms : List Bool) (Gs' : List Str) : Prop where
  hi : N[i]? = some x
  lp : lamP sc scope [x] = true
  st : stat scope N [x] [] Gs' = true
  ms : lamM N scope ms = true
  pa : plainArgs params = true
  hb : ∀ (q : Str) (cl : List (Str × Addr)) (pm cv ctv u : Value), bindArgs (PySem.W.kla_fn "<lambda>" q params body scope cl pm cv ctv) ⟨[u], []⟩ = pure [(x, u)]
section
variable {X : Cy} {A : Around} {P : Program} {w : World} {K : Fg} {mg : Str → Option Value} {base : Heap} {sc : Scope} {N L C Gs Bs Gs' : List Str} {k : Nat} {ρ ρ' : Ro} {M : Mm} {Q : DV → Mm → Prop} {e body : Expr} {params : Arguments} {scope : Scope} {x : Str} {i : Nat} {ms : List Bool} {pos p p2 kp lp : Pos}
theorem lam_made {c Pt : Addr} {q : Str} {ti : Nat} {pins : List (Addr × Obj)} {σ : L2.St} {H : Hp} {s : Shared} {E : Value → Shared → Prop} {R : Value → Shared → Prop} (Mk : Mkr X c Pt q) (m : RM X.K H M) (I : Inv X pins σ H s) (tb : AtM M ti Pt (.tab q)) (Lm : Lam1 N X.env.scope scope params body x i ms Gs')
    (h : ∀ (f c' : Addr) (H1 : Hp) (s' : Shared), Inv X pins σ H1 s' → Stay X.K H H1 → RM X.K H1 M → LamAt X s'.heap params body scope f c' → H1 f = none → f ≠ X.env.locals → f ∉ X.fs → H1 c' = some (LamX.CodeO c' (X.env.qual ++ "<lambda>")) → R (.ref f) s') :
    wpAny (model X.prog X.w) X.A (eval (.Lambda params body scope lp) X.env) R E s := by
  have L := lamP_ok Lm.lp
  have hin := List.mem_of_getElem? tb.ix
  refine LamX.lam_make2 (T := tabsOf M) I Mk.tb Mk.code (by rw [Mk.qn]; exact mem_tabsOf.mpr hin) (fun r hr e => ?_) (fun r hr => m.ok r.1 _ (mem_tabsOf.mp hr)) (plainArgs_ok Lm.pa) (L.has I.ok) fun f c' pm ctv H1 s' I1 ext tabs hf hfn hfr hc => ?_
  · rw [Mk.qn]
    have := nodup_fst m.nd (mem_tabsOf.mp hr) (by rw [e]; exact hin)
    cases this
    rfl
  · refine h f c' H1 s' I1 (ext_stay ext) (m.tabs ext tabs) ⟨pm, ctv, hf⟩ hfn (fun z => ?_) (fun z => ?_) hc
    · obtain ⟨mm, ⟨o, es, ep, ho, hd, _⟩, _⟩ := I1.loc
      rw [← z, hf] at ho
      cases ho
      cases hd
    · rcases I1.ok.stk with z1 | ⟨z1, _⟩
      · exact hfr (by rw [z1]; exact z)
      · refine hfr ?_
        rw [z1]
        obtain ⟨ev, h1, h2⟩ := List.mem_filterMap.mp z
        exact List.mem_filterMap.mpr ⟨ev, List.mem_cons_of_mem _ h1, h2⟩
theorem lam_fx (F : Fx X P w K mg base sc N L C Gs Bs k) (Lm : Lam1 N sc scope params body x i ms Gs') (A : Around) (s : Shared) (H : Hp) (f c' : Addr) {j : Nat} (hr : Room j (A.deeper (LamX.lamEnv X scope s.heap.objs.size f c'))) :
    Fx ⟨(LamX.lamCx X A X.stack s H E0 scope f c').nox, X.anc⟩ P w K mg base scope N [x] [] Gs' Bs j := by
  have T := stat_ok Lm.st
  exact ⟨F.hP, F.hw, F.hK, F.hmg, F.hbase, F.hN, rfl, T.nd, T.loc, fun z hz => (nomatch hz), T.kind, T.nob, T.gl, F.bl, rfl, hr, PassesOwn.never⟩
theorem lam_rs (F : Fx X P w K mg base sc N L C Gs Bs k) (Lm : Lam1 N sc scope params body x i ms Gs') {σ : L2.St} {H : Hp} {d : DV} {v : V} (hl : σ.length = N.length) (rs : RS X H ρ σ) (hp : Put d N (mask ms ρ) x ρ') (r : RD X.K H d v) (A : Around) (s : Shared) (f c' : Addr) :
    RS ⟨(LamX.lamCx X A X.stack s H E0 scope f c').nox, X.anc⟩ H ρ' (σ.set i (some v)) := by
  have T := stat_ok Lm.st
  have hm := Lm.ms
  unfold lamM at hm
  simp only [Bool.and_eq_true, List.all_eq_true, beq_iff_eq] at hm
  obtain ⟨hm1, hm2⟩ := hm
  obtain ⟨i0, q1, q2⟩ := hp.ix
  have ei : i0 = i := nodup_ix F.nd q1 Lm.hi
  subst ei q2
  refine ⟨rs.st, ?_, fun j d' hj => ?_⟩
  · rw [List.length_set, List.length_set, mask_len (by rw [hm1, rs.len, hl]), rs.len]
  · rw [List.getElem?_set] at hj
    split at hj
    · rename_i ej
      subst ej
      split at hj
      · rename_i hlt
        cases hj
        have hlt' : i0 < σ.length := by rw [hl]; exact (List.getElem?_eq_some_iff.mp q1).1
        exact ⟨⟨x, (by show X.N[i0]? = _; rw [F.hN]; exact q1), .inl (T.loc x (by simp))⟩, v, (by rw [List.getElem?_set_self hlt']), r⟩
      · cases hj
    · rename_i ej
      obtain ⟨g1, g2⟩ := mask_get hj
      obtain ⟨⟨y, a1, a2⟩, u, a3, a4⟩ := rs.get j d' g2
      have hlt : j < ms.length := (List.getElem?_eq_some_iff.mp g1).1
      have z := hm2 j (List.mem_range.mpr hlt)
      have e1 : ms.getD j false = true := by rw [List.getD_eq_getElem?_getD, g1]; rfl
      have e2 : N.getD j "" = y := by rw [List.getD_eq_getElem?_getD, ← F.hN, a1]; rfl
      rw [e1, e2] at z
      have z : scope.names.lookup y = some .free := by simpa using z
      exact ⟨⟨y, a1, .inr (.inr z)⟩, u, by rw [List.getElem?_set_ne ej]; exact a3, a4⟩
theorem paired_get : ∀ {xs : List V} {us : List Value} {j : Nat} {x : V} {u : Value}, Vals xs us → xs[j]? = some x → us[j]? = some u → RelV x u
  | _, _, _, _, _, .nil, h, _ => by simp at h
  | _, _, 0, _, _, .cons r _, h1, h2 => by simp at h1 h2; subst h1 h2; exact r
  | _, _, j + 1, _, _, .cons _ t, h1, h2 => paired_get (j := j) t (by simpa using h1) (by simpa using h2)
/-- what sorted goes over -/
def SrcD (M : Mm) (d : DV) (ds : List DV) : Prop := (∃ a i, d = .ref a ∧ AtM M i a (.lst ds)) ∨ (∃ a i n, d = .ref a ∧ AtM M i a (.rng 0 n) ∧ -(2 ^ 20) ≤ n ∧ n ≤ 2 ^ 20 ∧ ds = (rng 0 n.toNat).map .int)
def sortD (ds : List DV) (kz : List PyData) : List DV := ((ds.zip kz).mergeSort (PySem.W.dataLe false (·.2))).map (·.1)
theorem rds_mem {K : Fg} {H : Hp} : ∀ {ts : List (DV × V × PyData)}, (∀ t ∈ ts, RD K H t.1 t.2.1) → RDs K H (ts.map (·.1)) (ts.map (·.2.1))
  | [], _ => .nil
  | t :: ts, h => .cons (h t (by simp)) (rds_mem fun t ht => h t (List.mem_cons_of_mem _ ht))
theorem zip_rd {K : Fg} {H : Hp} : ∀ {ds : List DV} {xs : List V} {kz : List PyData}, RDs K H ds xs → ∀ t ∈ ds.zip (xs.zip kz), RD K H t.1 t.2.1
  | _, _, _, .nil, t, ht => by simp at ht
  | _, _, [], .cons r rs, t, ht => by simp at ht
  | _, _, k :: kz, .cons r rs, t, ht => by
    rw [List.zip_cons_cons, List.zip_cons_cons, List.mem_cons] at ht
    rcases ht with rfl | ht
    · exact r
    · exact zip_rd rs t ht
theorem zip_13 : ∀ {ds : List DV} {xs : List V} {kz : List PyData}, ds.length = xs.length → (ds.zip (xs.zip kz)).map (fun t => (t.1, t.2.2)) = ds.zip kz
  | [], xs, kz, _ => by simp
  | d :: ds, [], kz, h => by simp at h
  | d :: ds, x :: xs, [], h => by simp
  | d :: ds, x :: xs, k :: kz, h => by simp [zip_13 (ds := ds) (xs := xs) (kz := kz) (by simpa using h)]
theorem zip_23 : ∀ {ds : List DV} {xs : List V} {kz : List PyData}, ds.length = xs.length → (ds.zip (xs.zip kz)).map (·.2) = xs.zip kz
  | [], [], kz, _ => by simp
  | [], x :: xs, kz, h => by simp at h
  | d :: ds, [], kz, h => by simp at h
  | d :: ds, x :: xs, [], h => by simp
  | d :: ds, x :: xs, k :: kz, h => by simp [zip_23 (ds := ds) (xs := xs) (kz := kz) (by simpa using h)]
theorem sortD_rd {K : Fg} {H : Hp} {ds : List DV} {xs : List V} {kz : List PyData} (r : RDs K H ds xs) : RDs K H (sortD ds kz) (((xs.zip kz).mergeSort (PySem.W.dataLe false (·.2))).map (·.1)) := by
  have e1 := List.map_mergeSort (r := PySem.W.dataLe false (fun t : DV × V × PyData => t.2.2)) (s := PySem.W.dataLe false (fun t : DV × PyData => t.2)) (f := fun t => (t.1, t.2.2)) (l := ds.zip (xs.zip kz)) (fun a _ b _ => rfl)
  have e2 := List.map_mergeSort (r := PySem.W.dataLe false (fun t : DV × V × PyData => t.2.2)) (s := PySem.W.dataLe false (fun t : V × PyData => t.2)) (f := fun t => t.2) (l := ds.zip (xs.zip kz)) (fun a _ b _ => rfl)
  rw [zip_13 r.length] at e1
  rw [zip_23 r.length] at e2
  unfold sortD
  rw [← e1, ← e2, List.map_map, List.map_map]
  exact rds_mem fun t ht => zip_rd r t ((List.mergeSort_perm _ _).mem_iff.mp ht)
theorem rds_ints {K : Fg} {H : Hp} : ∀ (ns : List Int), RDs K H (ns.map DV.int) (ns.map V.int)
  | [] => .nil
  | n :: ns => .cons (.int n) (rds_ints ns)
/-- sorted's items, in a state -/
theorem src_col {pins : List (Addr × Obj)} {σ : L2.St} {H : Hp} {s : Shared} {d : DV} {ds : List DV} {v : V} {u : Value} (I : Inv X pins σ H s) (m : RM X.K H M) (hd : A.handled = none) (h : SrcD M d ds) (r : RD X.K H d v) (rv : RelV v u) :
    ∃ a xs, u = .ref a ∧ RDs X.K H ds xs ∧ xs.length ≤ sizeLine ∧ ∀ {Q' : List Value → Shared → Prop} {E' : Value → Shared → Prop}, (∀ (h' : Heap) (tk : Nat) (acc : List Value), (∀ b o, s.heap.get? b = some o → h'.get? b = some o) → Vals xs acc → Q' acc { s with heap := h', toks := tk }) → wpAny (model X.prog X.w) A (collect u) Q' E' s := by
  rcases h with ⟨a, i, rfl, hA⟩ | ⟨a, i, n, rfl, hA, hn0, hn, rfl⟩
  · cases r
    obtain rfl : u = .ref a := rv
    obtain ⟨xs, e1, r1⟩ := m.at hA.ix
    obtain ⟨its, w1, pl, hz⟩ := I.list (SqL.of e1)
    refine ⟨a, xs, rfl, r1, hz, fun {Q' E'} hq => collect_list pl.isList ?_ (by rw [← w1.length]; exact hz)⟩
    have sb := Heap.SameBut.update (s.heap.push (seqObj "list" #[] 0)) s.heap.objs.size (Obj.mapSeq (· ++ its.toArray))
    exact hq _ s.toks its (fun b o e => (sb.2 b (Nat.ne_of_lt (Heap.lt_size e))).trans (Heap.get?_push_of_some _ e)) w1
  · cases r
    obtain rfl : u = .ref a := rv
    have e1 : H a = some (.rng 0 n) := m.at hA.ix
    obtain ⟨t, u', v', ho⟩ := I.hok a _ e1
    refine ⟨a, (rng 0 n.toNat).map V.int, rfl, rds_ints _, by rw [List.length_map, rng_len, sizeLine_eq]; omega, fun {Q' E'} hq => ?_⟩
    refine collect_range (n := n.toNat) hd ho ?_ ?_ (by omega) fun h' tk acc kp it => hq h' tk acc.toList kp ?_
    · exact small_one (by decide) (by decide) (by omega) (by omega)
    · have := rangeSize_nat 0 n
      rw [this]
      congr 1
      omega
    · have q := vals_of_get acc.toList (fun j : Nat => V.int (0 + (j : Int))) fun j u hu => by
        rw [Array.getElem?_toList] at hu
        obtain ⟨t, rfl⟩ := it.2 j u hu
        exact ⟨t, by rw [Int.mul_one]⟩
      rw [Array.length_toList, it.1] at q
      have e : (rng 0 n.toNat).map V.int = (List.range n.toNat).map (fun j : Nat => V.int (0 + (j : Int))) := by unfold rng; rw [List.map_map]; rfl
      rw [e]
      exact q
theorem we_rangeV (F : Fx X P w K mg base sc N L C Gs Bs k) (g1 : ("range" : Str) ∈ Gs) (g2 : ("range" : Str) ∈ Bs) (hs : isStar e = false) (h : WE X ρ M e fun d M1 => ∃ n, d = .int n ∧ ∀ p, Q (.ref p) ((p, .rng 0 n) :: M1)) : WE X ρ M (.Call (.Name "range" p) [e] [] pos) Q := fun σ H rs m pins s I => by
  refine Call_ (ld_blt I (F.gl _ g1).1 (by rw [F.hmg]; exact F.bl _ g2) boot_range (PyProof.Rows.callWith_type1 (one_arg pe_w I (h σ H rs m) (fun v s2 x H2 I2 r q => ?_) (starEach_cons hs)) (starEach_cons hs)))
  obtain ⟨d, M1, q1, q2, q3, n, e1, q4⟩ := q
  subst e1
  cases q1
  obtain ⟨t, rfl⟩ := r
  refine call_range_1 ?_
  have hn : H2 s2.heap.objs.size = none := I2.hok.fresh (Nat.le_refl _)
  exact ⟨.ref _, upd H2 s2.heap.objs.size (.rng 0 n), I2.laid (fun b o e => Heap.get?_push_of_some _ e) (Nat.le_refl _) (show ObjOk X.prog X.w _ _ _ (.rng 0 n) from ⟨_, _, _, Heap.get?_push_size _ rfl⟩), rfl, .ref _, _, .ref _, q2.cons (q := .rng 0 n) hn upd_same, q3.trans (Stay.new hn), q4 _⟩
instance [F : Fx X P w K mg base sc N L C Gs Bs k] [m : MemC "range" Gs] [m2 : MemC "range" Bs] : Step (WE X ρ M (.Call (.Name (Str.ofString "range") p) [e] [] pos) Q) (!isStar e) (WE X ρ M e fun d M1 => ∃ n, d = .int n ∧ ∀ p, Q (.ref p) ((p, .rng 0 n) :: M1)) := ⟨fun h q => we_rangeV F m.h m2.h (by simpa using h) q⟩
/-- what is asked of the keys -/
structure KeysOk (kz : List PyData) : Prop where
  al : PySem.W.AllAlike kz
  so : PySem.W.Sortable kz
  dp : ∀ d ∈ kz, d.depth ≤ 8
def SortKQ (P : Program) (w : World) (K : Fg) (mg : Str → Option Value) (base : Heap) (scope : Scope) (N Gs' Bs : List Str) (k : Nat) (x : Str) (body : Expr) (ρm : Ro) (Pt : Addr) (q : Str) (Q : DV → Mm → Prop) (d : DV) (M1 : Mm) : Prop :=
  ∃ ds kd kz ti, SrcD M1 d ds ∧ AtM M1 ti Pt (.tab q) ∧ Pds [] kd kz ∧ kz.length = ds.length ∧ KeysOk kz ∧
    (∀ (j : Nat) (hj : j < ds.length), TgN N ρm x ds[j] fun ρ2 => ∀ X', Fx X' P w K mg base scope N [x] [] Gs' Bs k → WE X' ρ2 M1 body fun dk M2 => kd[j]? = some dk ∧ Sub (· = M1) M2) ∧
    ∀ p, Q (.ref p) ((p, .lst (sortD ds kz)) :: M1)
theorem we_sortedK {c Pt : Addr} {q : Str} (F : Fx X P w K mg base sc N L C Gs Bs (k + 3)) (Mk : Mkr X c Pt q) (g1 : ("sorted" : Str) ∈ Gs) (g2 : ("sorted" : Str) ∈ Bs) (hs : isStar e = false) (Lm : Lam1 N sc scope params body x i ms Gs')
    (h : WE X ρ M e (SortKQ P w K mg base scope N Gs' Bs k x body (mask ms ρ) Pt q Q)) : WE X ρ M (.Call (.Name "sorted" p) [e] [⟨some "key", .Lambda params body scope lp, kp⟩] pos) Q := fun σ H rs m pins s I => by
  have Lm' : Lam1 N X.env.scope scope params body x i ms Gs' := by rw [F.hsc]; exact Lm
  have L := lamP_ok Lm'.lp
  have eK := F.hK
  refine wpAny_Call_Name_kw (ld_blt I (F.gl _ g1).1 (by rw [F.hmg]; exact F.bl _ g2) (show bootBuiltins "sorted" = some (.builtin "sorted") by decide +kernel) ?_ (F.gl _ g1).2.2 (F.gl _ g1).2.1)
  refine PyProof.Rows.callWith_kw (one_arg (pos := pos) (pe_w (X := X)) I (h σ H rs m) (fun v s1 xv H1 I1 r1 q1 => ?_) (starEach_cons hs)) (by rw [starEach_cons hs]; rfl) (by rw [starEach_cons hs]; rfl)
  obtain ⟨d, M1, a1, a2, a3, ds, kd, kz, ti, src, tb, pd, hkl, ko, turn, fin⟩ := q1
  show wpAny _ _ (evalAll [do let v ← eval (.Lambda params body scope lp) X.env; standAt pos; pure v]) _ _ _
  refine wpAny_evalAll_cons (wpAny_bind (lam_made Mk a2 I1 tb Lm' fun f c' H2 s2 I2 st2 m2 la fn nl nf hc => wpAny_bind (wpAny_standAt (wpAny_pure (wpAny_evalAll_nil ?_)))))
  show wpAny _ _ (call (.builtin "sorted") [v] [(Str.ofString "key", .ref f)]) _ _ _
  obtain ⟨pm, ctv, hof⟩ := la
  have IP : Inv X ((f, PySem.W.kla_obj "<lambda>" (X.env.qual ++ "<lambda>") params body scope (cloFrom X.env.cells scope.names []) pm c' ctv) :: pins) σ H2 s2 := I2.pins_of fun r hm => by
    rcases List.mem_cons.mp hm with rfl | hm
    · exact ⟨hof, fn, nl, nf, fun v z => by cases z⟩
    · exact I2.pin r (List.mem_append_right _ hm)
  obtain ⟨a0, xs, ea, rx, hxl, col⟩ := src_col (A := X.A.in1) I2 m2 (I2.ok.hd F.calm) src (a1.mono st2) r1
  subst ea
  refine sorted_gen (R := Vals xs) (ksk_s1 _ _) (fun _ => ksk_l1 _ _) col (fun acc hv => by rw [← hv.length]; exact hxl) fun h' tk acc kp hv E' => ?_
  rw [ksk_t1]
  have IH := IP.kept (t' := tk) kp
  have I3 := IH.kept (t' := tk) (h' := h'.push (seqObj "list" acc.toArray 0)) fun b o q => Heap.get?_push_of_some _ q
  have fa := IH.fpOk (Nat.le_refl _) (IH.hok.fresh (Nat.le_refl _))
  have l1 : ds.length = xs.length := rx.length
  have l2 : xs.length = acc.length := hv.length
  have hu0 := F.room.un
  have R1 : Room (k + 1) X.A.in1.in1 := (Room.in1 (k := k + 2) F.room).in1
  refine sort_tree (kd := kd) (kz := kz) (fun _ H' => Stay X.K H2 H' ∧ RM X.K H' M1) (xs.zip kz) I3 ⟨Stay.refl, m2⟩ fa (Heap.get?_push_size _ rfl) pd (by omega) (by omega) ko.al ko.so (fun d0 hd0 => ?_) (List.map_snd_zip (by omega)) (by rw [List.map_fst_zip (by omega)]; exact hv) (fun j v' hvj pins' s' H' hsub I' hJ => ?_) (fun s' Hn hna hJ In => ?_)
  · have := ko.dp d0 hd0
    show X.A.units + 1 + 1 + d0.depth < cLine
    omega
  · obtain ⟨stj, mj⟩ := hJ
    have hja : j < acc.length := (List.getElem?_eq_some_iff.mp hvj).1
    have hjd : j < ds.length := by omega
    obtain ⟨xj, ex, rj⟩ := (rx.mono stj).get (List.getElem?_eq_getElem hjd)
    have rv : RelV xj v' := by
      have q := hv
      exact paired_get q ex hvj
    obtain ⟨ρ2, hput, hb⟩ := turn j hjd
    have rs' : RS X H' ρ σ := rs.mono ((a3.trans st2).trans stj)
    have hlσ : σ.length = N.length := by rw [I'.len, F.hN]
    have hpf := I'.pin _ (List.mem_append_right X.pn (hsub _ List.mem_cons_self))
    have ilt : i < σ.length := by rw [hlσ]; exact (List.getElem?_eq_some_iff.mp Lm.hi).1
    refine thn (lam_call (σ' := σ.set i (some xj)) (binds := [(x, v')]) (k := k) (Q := fun w H3 => Stay X.K H' H3 ∧ (Stay X.K H2 H3 ∧ RM X.K H3 M1) ∧ ∃ d, kd[j]? = some d ∧ RD X.K H3 d w) I' L ⟨pm, ctv, hpf.1⟩ (stj.cod _ _ hc) (fun pm ctv => Lm.hb _ _ _ _ _ _) (fun y hy => ?_) R1 I'.env0.in1.in1 (by rw [List.length_set, I'.len]) (fun t y u hN hu => ?_) (fun hr => ?_)) fun _ _ z => z
    · rw [List.mem_singleton] at hy
      subst hy
      exact L.par x (by simp)
    · rw [List.getElem?_set] at hu
      split at hu
      · rename_i et
        subst et
        cases hu
        have : y = x := by rw [F.hN, Lm.hi] at hN; exact (Option.some.inj hN).symm
        subst this
        exact .inl ⟨v', rv, by simp, L.par y (by simp)⟩
      · rename_i et
        refine .inr ⟨fun z => ?_, hu⟩
        have := L.loc y z
        rw [List.mem_singleton] at this
        subst this
        exact et (nodup_ix F.nd Lm.hi (by rw [← F.hN]; exact hN))
    · have W := hb _ (lam_fx F Lm X.A.in1.in1 s' H' f c' hr) (σ.set i (some xj)) H' (lam_rs F Lm hlσ rs' hput rj X.A.in1.in1 s' f c') mj
      refine W.mono fun w H3 ⟨dk, M2, b1, b2, b3, b4, M0, b5, b6⟩ => ?_
      subst b6
      exact ⟨b3, ⟨stj.trans b3, b2.less b5⟩, dk, b4, b1⟩
  · obtain ⟨stn, mn⟩ := hJ
    refine ⟨rfl, .ref _, _, In.pins_of fun r hm => In.pin r (List.mem_append_right _ (List.mem_cons_of_mem _ hm)), rfl, .ref _, (_, .lst (sortD ds kz)) :: M1, .ref _, mn.cons (q := .lst (sortD ds kz)) hna ⟨_, upd_same, (sortD_rd (rx.mono stn)).mono (Stay.new hna)⟩, ((a3.trans st2).trans stn).trans (Stay.new hna), fin _⟩
end
end G
namespace G
open PySem PySem.Spec PyProof.Rows L2
/-! ### data without lists stand over any objects -/
mutual
theorem Pd.up {M : Mm} : ∀ {d : DV} {p : PyData}, Pd [] d p → Pd M d p
  | _, _, .non => .non
  | _, _, .bl b => .bl b
  | _, _, .int i => .int i
  | _, _, .str x => .str x
  | _, _, .tup t => .tup (Pds.up t)
  | _, _, .lst h _ => by cases h
  | _, _, .lis t => .lis (Pds.up t)
theorem Pds.up {M : Mm} : ∀ {d : List DV} {p : List PyData}, Pds [] d p → Pds M d p
  | _, _, .nil => .nil
  | _, _, .cons h t => .cons (Pd.up h) (Pds.up t)
end
/-! ### dicts of ints and texts -/
def putD {κ : Type} [DecidableEq κ] (kvs : List (κ × DV)) (k : κ) (d : DV) : List (κ × DV) :=
  if (kvs.any fun kv => decide (kv.1 = k)) = true then kvs.map (fun kv => if kv.1 = k then (kv.1, d) else kv) else kvs ++ [(k, d)]
def getD {κ : Type} [DecidableEq κ] (kvs : List (κ × DV)) (k : κ) : Option DV := (kvs.find? fun kv => decide (kv.1 = k)).map (·.2)
section
variable {κ : Type} [DecidableEq κ] {K : Fg} {H : Hp}
theorem RF.any {p : κ → Bool} : ∀ {kvs : List (κ × DV)} {vs : List (κ × V)}, RF K H kvs vs → kvs.any (fun kv => p kv.1) = vs.any (fun kv => p kv.1)
  | _, _, .nil => rfl
  | _, _, .cons _ t => by rw [List.any_cons, List.any_cons, RF.any t]
theorem RF.len : ∀ {kvs : List (κ × DV)} {vs : List (κ × V)}, RF K H kvs vs → kvs.length = vs.length
  | _, _, .nil => rfl
  | _, _, .cons _ t => by rw [List.length_cons, List.length_cons, RF.len t]
theorem RF.snoc {k : κ} {d : DV} {v : V} (r : RD K H d v) : ∀ {kvs : List (κ × DV)} {vs : List (κ × V)}, RF K H kvs vs → RF K H (kvs ++ [(k, d)]) (vs ++ [(k, v)])
  | _, _, .nil => .cons r .nil
  | _, _, .cons q t => .cons q (RF.snoc r t)
theorem RF.over {k : κ} {d : DV} {v : V} (r : RD K H d v) : ∀ {kvs : List (κ × DV)} {vs : List (κ × V)}, RF K H kvs vs → RF K H (kvs.map fun kv => if kv.1 = k then (kv.1, d) else kv) (vs.map fun kv => if kv.1 = k then (kv.1, v) else kv)
  | _, _, .nil => .nil
  | _, _, .cons (x := x) q t => by
    rw [List.map_cons, List.map_cons]
    by_cases e : x = k
    · rw [if_pos e, if_pos e]; exact .cons r (RF.over r t)
    · rw [if_neg e, if_neg e]; exact .cons q (RF.over r t)
theorem RF.put {k : κ} {d : DV} {v : V} {kvs : List (κ × DV)} {vs : List (κ × V)} (h : RF K H kvs vs) (r : RD K H d v) : RF K H (putD kvs k d) (putK vs k v) := by
  unfold putD putK
  rw [h.any (p := fun x => decide (x = k))]
  split
  · exact h.over r
  · exact h.snoc r
theorem RF.val {k : κ} : ∀ {kvs : List (κ × DV)} {vs : List (κ × V)}, RF K H kvs vs → (getD kvs k = none ∧ valV vs k = none) ∨ ∃ d v, getD kvs k = some d ∧ valV vs k = some v ∧ RD K H d v
  | _, _, .nil => .inl ⟨rfl, rfl⟩
  | _, _, .cons (x := x) (d := d) (v := v) q t => by
    by_cases e : x = k
    · exact .inr ⟨d, v, by simp [getD, List.find?_cons, e], by simp [valV, List.find?_cons, e], q⟩
    · have e1 : ∀ fs : List (κ × DV), getD ((x, d) :: fs) k = getD fs k := fun fs => by simp [getD, List.find?_cons, e]
      have e2 : ∀ fs : List (κ × V), valV ((x, v) :: fs) k = valV fs k := fun fs => by simp [valV, List.find?_cons, e]
      rw [e1, e2]
      exact RF.val t
end
/-- an int or a text as a key -/
def keyD : Key → DV
  | .inl i => .int i
  | .inr z => .str z
theorem rd_key {K : Fg} {H : Hp} {k : Key} {v : V} (r : RD K H (keyD k) v) : v = kV k := by
  cases k <;> (cases r; rfl)
section
variable {X : Cy} {P : Program} {w : World} {K : Fg} {mg : Str → Option Value} {base : Heap} {sc : Scope} {N L C Gs Bs L' C' Gs' : List Str} {k : Nat} {ρ ρ' : Ro} {M : Mm} {Q : DV → Mm → Prop} {R : Bool → Mm → Prop} {a b e kx vx iter : Expr} {scope : Scope} {x : Str} {i : Nat} {ms : List Bool} {pos px : Pos}
/-- k in d -/
def InD (M : Mm) (y d : DV) (S : Bool → Prop) : Prop := ∃ (p : Addr) (i : Nat) (kvs : List (Key × DV)) (k : Key), d = .ref p ∧ y = keyD k ∧ AtM M i p (.dk kvs) ∧ S (getD kvs k).isSome
theorem inD_get {y d : DV} {S : Bool → Prop} {H : Hp} {vy vd : V} (h : InD M y d S) (m : RM K H M) (ry : RD K H y vy) (rd : RD K H d vd) : ∃ p o, vd = .ref p ∧ DGet H p vy o ∧ S o.isSome := by
  obtain ⟨p, i, kvs, k, rfl, rfl, hA, q⟩ := h
  cases rd
  obtain ⟨vs, e, r⟩ := m.at hA.ix
  have ey := rd_key ry
  subst ey
  refine ⟨p, _, rfl, DGet.k e, ?_⟩
  rcases r.val (k := k) with ⟨h1, h2⟩ | ⟨d, v, h1, h2, _⟩
  · rw [h2]; rw [h1] at q; exact q
  · rw [h2]; rw [h1] at q; exact q
theorem we_in (F : Fx X P w K mg base sc N L C Gs Bs k) (hb : behindInMarks .In b = false) (h : WE X ρ M a fun y M1 => WE X ρ M1 b fun d M2 => InD M2 y d fun t => Q (.bl t) M2) : WE X ρ M (.Compare a [.In] [b] pos) Q := fun σ H rs m => by
  refine wE.of (pe_cmp (pc_din (by have := F.room.un; omega) pe_w pe_w) hb) ?_
  refine (h σ H rs m).mono fun v H1 ⟨y, M1, a1, a2, a3, a4⟩ => (a4 σ H1 (rs.mono a3) a2).mono fun u H2 ⟨d, M2, b1, b2, b3, b4⟩ => ?_
  obtain ⟨p, o, e1, e2, e3⟩ := inD_get b4 b2 (a1.mono b3) b1
  exact ⟨p, o, e1, e2, _, M2, .bl _, b2, a3.trans b3, e3⟩
theorem we_notin (F : Fx X P w K mg base sc N L C Gs Bs k) (hb : behindInMarks .NotIn b = false) (h : WE X ρ M a fun y M1 => WE X ρ M1 b fun d M2 => InD M2 y d fun t => Q (.bl !t) M2) : WE X ρ M (.Compare a [.NotIn] [b] pos) Q := fun σ H rs m => by
  refine wE.of (pe_cmp (pc_dnotin (by have := F.room.un; omega) pe_w pe_w) hb) ?_
  refine (h σ H rs m).mono fun v H1 ⟨y, M1, a1, a2, a3, a4⟩ => (a4 σ H1 (rs.mono a3) a2).mono fun u H2 ⟨d, M2, b1, b2, b3, b4⟩ => ?_
  obtain ⟨p, o, e1, e2, e3⟩ := inD_get b4 b2 (a1.mono b3) b1
  exact ⟨p, o, e1, e2, _, M2, .bl _, b2, a3.trans b3, e3⟩
instance [F : Fx X P w K mg base sc N L C Gs Bs k] : Step (WE X ρ M (.Compare a [.In] [b] pos) Q) (!behindInMarks .In b) (WE X ρ M a fun y M1 => WE X ρ M1 b fun d M2 => InD M2 y d fun t => Q (.bl t) M2) := ⟨fun h q => we_in F (by simpa using h) q⟩
instance [F : Fx X P w K mg base sc N L C Gs Bs k] : Step (WE X ρ M (.Compare a [.NotIn] [b] pos) Q) (!behindInMarks .NotIn b) (WE X ρ M a fun y M1 => WE X ρ M1 b fun d M2 => InD M2 y d fun t => Q (.bl !t) M2) := ⟨fun h q => we_notin F (by simpa using h) q⟩
instance {n : Int} {p : Addr} {i : Nat} {kvs : List (Key × DV)} {S : Bool → Prop} [h : AtM M i p (.dk kvs)] : Step (InD M (.int n) (.ref p) S) true (S (getD kvs (Sum.inl n)).isSome) := ⟨fun _ q => ⟨p, i, kvs, .inl n, rfl, rfl, h, q⟩⟩
instance {n : Str} {p : Addr} {i : Nat} {kvs : List (Key × DV)} {S : Bool → Prop} [h : AtM M i p (.dk kvs)] : Step (InD M (.str n) (.ref p) S) true (S (getD kvs (Sum.inr n)).isSome) := ⟨fun _ q => ⟨p, i, kvs, .inr n, rfl, rfl, h, q⟩⟩
/-- {k: v for x in iter} -/
def DcI (P : Program) (w : World) (K : Fg) (mg : Str → Option Value) (base : Heap) (sc' : Scope) (N L' C' Gs' Bs : List Str) (k : Nat) (tgd : TgD) (kx vx : Expr) (Q : DV → Mm → Prop) (n : Nat) (y : Nat → DV) (G : Mm → Prop) (M1 : Mm) : Prop :=
  ∀ D, ∃ I : Nat → Mm → Prop, Sub (I 0) ((D, .dk []) :: M1) ∧ (∀ i M2, i ≤ n → I i M2 → G M2) ∧
    (∀ i M2, i < n → I i M2 → tgd (y i) fun ρ2 => ∀ X', Fx X' P w K mg base sc' N L' C' Gs' Bs k → WE X' ρ2 M2 kx fun dk M3 => ∀ X'', Fx X'' P w K mg base sc' N L' C' Gs' Bs k → WE X'' ρ2 M3 vx fun dv M4 =>
      ∃ j kvs ky, AtM M4 j D (.dk kvs) ∧ dk = keyD ky ∧ kvs.length < sizeLine ∧ Sub (I (i + 1)) (M4.set j (D, .dk (putD kvs ky dv)))) ∧
    (∀ M2, I n M2 → Q (.ref D) M2)
theorem we_dc1 (F : Fx X P w K mg base sc N L C Gs Bs k) (c : Lc1 N sc scope x i ms L' C' Gs') (hs : notSet iter = true) (h : WI X ρ M (.Name x px) iter (DcI P w K mg base (relS scope sc) N L' C' Gs' Bs k (TgN N (mask ms ρ) x) kx vx Q)) : WE X ρ M (.DictComp kx vx [⟨.Name x px, iter, [], 0⟩] scope pos) Q := by
  obtain ⟨g1, g2⟩ := lc_nm (px := px) (ifs := []) (own := [(x, i)]) F c.hi c.hx c.st c.hm (by simp)
  obtain ⟨wi, pi, h⟩ := h
  intro σ H rs m pins s I
  have hlen := Inv_len F I
  have eK := F.hK
  have PIw : PI X (.Name x px) iter (fun σ H R => ∃ R', wi σ H R' ∧ ∀ J H', R' J H' → R J H') := ⟨fun pins s σ H R I ⟨R', a, b⟩ => thn (pi.run pins s σ H R' I a) fun v s1 z => thn z fun u s2 ⟨it, fp, tn, J, H', c1, c2, c3, c4, c5, c6⟩ => ⟨it, fp, tn, J, H', c1, c2, c3, c4, c5, b J H' c6⟩⟩
  have htk : ∀ (e : Expr) (s : Shared) (H : Hp) (Ca : Addr) (cl : List (Str × Addr)) (fp : List Addr), PE (X.blk s H scope (compEnvC scope cl Ca X.env) fp) e (teOf X scope e) := fun e s H Ca cl fp => ⟨fun pins s1 σ H1 Q I h => h s H Ca cl fp pins s1 I⟩
  refine (pe_dc (own := [(x, i)]) F.calm (by rw [F.hN]; exact F.nd) PIw (blkOk_by (by rw [F.hN, F.hsc]; exact c.ok)) g1 (fun _ _ _ _ _ => pts_nil) (htk kx) (htk vx) (notSet_ok hs)).run pins s σ H _ I ?_
  refine ⟨_, h σ H rs m, fun J H1 ⟨n, y, G, M1, hJ, m1, s1, hI⟩ D hD => ?_⟩
  obtain ⟨I, ⟨Mi, si, i0⟩, hG, hstep, hend⟩ := hI D
  have mD : RM X.K (upd H1 D (.dK [])) ((D, .dk []) :: M1) := m1.cons (q := .dk []) hD ⟨[], upd_same, .nil⟩
  refine ⟨fun i q H' => q = n - i ∧ i ≤ n ∧ ∃ M2, RM X.K H' M2 ∧ Stay X.K H1 H' ∧ I i M2, ⟨n, by simp, Nat.zero_le _, Mi, mD.less si, Stay.new hD, i0⟩, ?_⟩
  rintro j q H' ⟨rfl, hi, M2, a2, a3, a4⟩
  have gg := hG j M2 hi a4
  by_cases hlt : j < n
  · refine .inr ⟨hJ.go j H' M2 a3 a2 gg hlt, fun H' => ∃ M2, RM X.K H' M2 ∧ Stay X.K H1 H' ∧ I (j + 1) M2, fun H' z => ⟨n - (j + 1), by omega, rfl, hlt, z⟩, fun v H2 yl => ?_⟩
    obtain ⟨b1, b2, b3⟩ := hJ.yld j H' M2 v H2 a3 a2 gg hlt yl
    have rs2 : RS X H2 ρ σ := rs.mono ((s1.trans a3).trans b2)
    have FXs := fun s Hx Ca cl fp => blk_fx (X := X) F c.st c.hm s Hx Ca cl fp
    refine g2 (y j) (mask ms ρ) _ σ _ H2 v _ (hstep j M2 hlt a4) (by rw [wipe_wipe]) (fun s Hx Ca cl fp => blk_rs F c.hm hlen rs2 s Hx Ca cl fp) (by rw [← eK]; exact b1) fun σ2 ρ2 ew rr body => ⟨ew, ?_⟩
    simp only [tYes, ↓reduceIte]
    intro sA HA CA clA fpA
    refine (body _ (FXs sA HA CA clA fpA) σ2 H2 (rr sA HA CA clA fpA) b3).mono fun uk H3 ⟨dk, M3, c1, c2, c3, c4⟩ => ?_
    intro sB HB CB clB fpB
    refine (c4 _ (FXs sB HB CB clB fpB) σ2 H3 ((rr sB HB CB clB fpB).mono c3) c2).mono fun uv H4 ⟨dv, M4, d1, d2, d3, jj, kvs, ky, d4, d5, d6, M6, d7, d8⟩ => ?_
    subst d5
    obtain ⟨vs, e1, e2⟩ := d2.at d4.ix
    have hk : uk = kV ky := rd_key c1
    have st4 : Stay X.K H4 (upd H4 D (.dK (putK vs ky uv))) := Stay.write (wr_dk e1)
    refine ⟨vs, ky, hk, e1, by rw [← e2.len]; exact d6, M6, ?_, ((((a3.trans b2).trans c3).trans d3).trans st4), d8⟩
    exact (d2.write (q' := .dk (putD kvs ky dv)) d4.ix (wr_dk e1) ⟨_, upd_same, (e2.mono st4).put (d1.mono st4)⟩).less d7
  · have e : j = n := by omega
    subst e
    exact .inl ⟨hJ.stop H' M2 a3 a2 gg, _, M2, .ref D, a2, s1.trans a3, hend M2 a4⟩
/-- y = {k: v for x in iter} where y is a cell -/
theorem ws_setDcC {y : Str} {py spos : Pos} {gens : List Comprehension} {nx bk ct : Ro → Mm → Prop} {rt : DV → Mm → Prop} (F : Fx X P w K mg base sc N L C Gs Bs k) (hsw : swapsWith (.DictComp kx vx gens scope pos) (some (.Name y py)) spos.line (envS sc) = pure false)
    (h : WE X ρ M (.DictComp kx vx gens scope pos) fun d M1 => WG X ρ M1 (.Name y py) d nx) : WS X ρ M (.Assign [.Name y py] (.DictComp kx vx gens scope pos) spos) nx rt bk ct := fun σ H rs m => by
  refine wS.of (ps_asg pe_w pg_w (by rw [show swapsWithSole _ _ _ X.env = swapsWith (.DictComp kx vx gens scope pos) (some (.Name y py)) spos.line (envS X.env.scope) from rfl, F.hsc]; exact hsw) rfl rfl) ?_
  refine (h σ H rs m).mono fun v H1 ⟨d, M1, h1, h2, h3, h4⟩ => ?_
  exact (h4 σ H1 v (rs.mono h3) h2 h1).mono fun _ _ z => z.stay h3
end
end G
namespace G
open PySem PySem.Spec PyProof.Rows L2
/-! ### defs that make lambdas -/
structure FunM (K : Fg) (x qual : Str) (st : Stmt) (f : Addr) (fd : FuncData) (c : Addr) : Prop where
  ex : ∃ (oc : Value) (od : Option Addr) (kV doc pm : Value) (an : Option Addr) (ct : Value) (osl : Array (Option Value)),
    fd = PySem.W.fnOf x qual (defArgs st) (defBody st) (defScope st) .none kV doc pm an (.ref c) ct ∧ K.lookup f = some ⟨oc, od, .func fd, osl⟩ ∧ PySem.W.codeIn K (.ref c) qual = true
  kp : PySem.W.keepIn K (.ref f) = true
theorem funm_mk {K : Fg} {x qual : Str} {st : Stmt} {f c : Addr} {oc : Value} {od an : Option Addr} {osl : Array (Option Value)} {kV doc pm ct : Value} (l : K.lookup f = some ⟨oc, od, .func (PySem.W.fnOf x qual (defArgs st) (defBody st) (defScope st) .none kV doc pm an (.ref c) ct), osl⟩)
    (hc : PySem.W.codeIn K (.ref c) qual = true) (k : PySem.W.keepIn K (.ref f) = true) : FunM K x qual st f (PySem.W.fnOf x qual (defArgs st) (defBody st) (defScope st) .none kV doc pm an (.ref c) ct) c := ⟨⟨oc, od, kV, doc, pm, an, ct, osl, rfl, l, hc⟩, k⟩
def FnTm (K : Fg) (mg : Str → Option Value) (x : Str) (st : Stmt) (ps : List Str) (c : Addr) : Prop := ∃ f fd, FunM K x x st f fd c ∧ mg x = some (.ref f) ∧ Binds K fd ps []
def MtTm (K : Fg) (Cc : Addr) (m qual : Str) (st : Stmt) (ps : List Str) (c : Addr) : Prop := ∃ f fd, FunM K m qual st f fd c ∧ Meth K Cc m f ∧ Binds K fd ps []
section
variable {P : Program} {w : World} {K : Fg} {mg : Str → Option Value} {base : Heap} {N L C Gs Bs : List Str} {k : Nat}
theorem fn_okM {x qual q : Str} {st : Stmt} {f c Pt : Addr} {fd : FuncData} {ps : List Str} {sp : SpD} (F : FunM K x qual st f fd c) (TB : LamX.TabB base mg c Pt) (eq : qual ++ ".<locals>." ++ "<lambda>" = q) (S : FnScope N ps (defScope st)) (hst : stat (defScope st) N L C Gs = true) (hb : ∀ x ∈ Bs, mg x = none)
    (h : ∀ X, Fx X P w K mg base (defScope st) N L C Gs Bs k → Mkr X c Pt q → ∀ ds M Q, ds.length = ps.length → sp ds M Q → WSs X (ini N ds) M (defBody st) (fun _ M' => Sub (Q .non) M') (fun d M' => Sub (Q d) M') (fun _ _ => False) (fun _ _ => False)) :
    FnOk P w K mg base CX0 (k + 1) f fd ps (sp1 K ps.length sp) := by
  have T := stat_ok hst
  obtain ⟨oc, od, kV, doc, pm, an, ct, osl, rfl, lk, hcd⟩ := F.ex
  refine fn_of lk hcd S (fun vs H Q E ⟨ds, M, Q0, h1, h2, h3, _⟩ => by rw [← h1.length]; exact h3) fun A outer s H vs Q E hr ⟨ds, M, Q0, h1, h2, h3, h4, h5⟩ => ?_
  refine ⟨_, PSs.nox pss_w, ?_⟩
  have hps : ps.length ≤ N.length := by have := congrArg List.length S.pre; rw [List.length_take] at this; omega
  have FX : Fx ⟨(cxOf CX0 P w K mg base N qual (defScope st) f (.ref c) A outer s H E).nox, H⟩ P w K mg base (defScope st) N L C Gs Bs k :=
    ⟨rfl, rfl, rfl, rfl, rfl, rfl, rfl, T.nd, T.loc, fun x hx => ⟨T.cel x hx, rfl⟩, T.kind, T.nob, T.gl, hb, rfl, hr, PassesOwn.never⟩
  have MX : Mkr ⟨(cxOf CX0 P w K mg base N qual (defScope st) f (.ref c) A outer s H E).nox, H⟩ c Pt q := ⟨rfl, TB, eq⟩
  have W := h _ FX MX ds M Q0 h3 h4
  rw [ini_eq N ds (by rw [h3]; exact hps)] at W
  refine (W (start N vs) H (RS.start (X := ⟨(cxOf CX0 P w K mg base N qual (defScope st) f (.ref c) A outer s H E).nox, H⟩) Stay.refl (by rw [h3]; exact hps) (fun i y hi hy => ?_) h1) h2).mono (fun σ' H' ⟨ρ', M', q1, q2, q3, M0, q4, q5⟩ => ?_) (fun v H' ⟨d, M', q1, q2, q3, M0, q4, q5⟩ => ?_) (fun _ _ ⟨_, _, _, _, _, q⟩ => q) (fun _ _ ⟨_, _, _, _, _, q⟩ => q)
  · have hp : ps[i]? = some y := by
      rw [← S.pre, List.getElem?_take_of_lt (by rw [← h3]; exact hi)]
      exact hy
    rcases S.par y (List.mem_of_getElem? hp) with z | z
    · exact .inl z
    · exact .inr (.inl z)
  · exact h5 _ _ q5 _ _ .non (q2.less q4) q3
  · exact h5 _ _ q5 _ _ q1 (q2.less q4) q3
theorem cal_mkM {x q : Str} {st : Stmt} {ps : List Str} {sp : SpD} {c Pt : Addr} (hf : FnTm K mg x st ps c) (TB : LamX.TabB base mg c Pt) (eq : x ++ ".<locals>." ++ "<lambda>" = q) (S : FnScope N ps (defScope st)) (hst : stat (defScope st) N L C Gs = true) (hb : ∀ x ∈ Bs, mg x = none)
    (h : ∀ X, Fx X P w K mg base (defScope st) N L C Gs Bs k → Mkr X c Pt q → ∀ ds M Q, ds.length = ps.length → sp ds M Q → WSs X (ini N ds) M (defBody st) (fun _ M' => Sub (Q .non) M') (fun d M' => Sub (Q d) M') (fun _ _ => False) (fun _ _ => False)) :
    Cal P w K mg base x (k + 1) ps.length sp := by
  obtain ⟨f, fd, F, hm, hbn⟩ := hf
  exact ⟨f, fd, ps, fn_okM F TB eq S hst hb h, hm, F.kp, hbn⟩
theorem mcal_mkM {m qual q : Str} {st : Stmt} {ps : List Str} {sp : SpD} {c Pt Cc : Addr} (cl : Cls K Cc) (hf : MtTm K Cc m qual st ps c) (TB : LamX.TabB base mg c Pt) (eq : qual ++ ".<locals>." ++ "<lambda>" = q) (S : FnScope N ps (defScope st)) (hst : stat (defScope st) N L C Gs = true) (hb : ∀ x ∈ Bs, mg x = none)
    (h : ∀ X, Fx X P w K mg base (defScope st) N L C Gs Bs k → Mkr X c Pt q → ∀ ds M Q, ds.length = ps.length → sp ds M Q → WSs X (ini N ds) M (defBody st) (fun _ M' => Sub (Q .non) M') (fun d M' => Sub (Q d) M') (fun _ _ => False) (fun _ _ => False)) :
    Mcal P w K mg base Cc m (k + 1) ps.length sp := by
  obtain ⟨f, fd, F, hm, hbn⟩ := hf
  exact ⟨cl, f, fd, ps, fn_okM F TB eq S hst hb h, hm, hbn⟩
/-! ### the law's own def, with tables -/
/-- the tables at the law's entry: (code, table, name) -/
def tabM (cs : List (Addr × Addr × Str)) : Mm := cs.map fun p => (p.2.1, .tab p.2.2)
def spLawT (K : Fg) (cs : List (Addr × Addr × Str)) : Sp := fun vs H Q _ => ∃ (a : Addr) (ns : List Int), vs = [.ref a] ∧ SqL K H a (ns.map V.int) ∧ ns.length ≤ 63 ∧ (∀ p ∈ cs, H p.2.1 = some (.tbl #[])) ∧ ∀ H', Q (.bl true) H'
theorem law_okT {x qual y : Str} {st : Stmt} {f : Addr} {fd : FuncData} {cs : List (Addr × Addr × Str)} (F : Fun K x qual st f fd) (S : FnScope N [y] (defScope st)) (hst : stat (defScope st) N L C Gs = true) (hb : ∀ x ∈ Bs, mg x = none) (hcs : (cs.map (·.2.1)).Nodup)
    (h : ∀ X, Fx X P w K mg base (defScope st) N L C Gs Bs k → ∀ ns : List Int, ns.length ≤ 63 → WSs X (ini N [.lis (ns.map .int)]) (tabM cs) (defBody st) (fun _ _ => False) (fun d _ => d = .bl true) (fun _ _ => False) (fun _ _ => False)) :
    FnOk P w K mg base CX0 (k + 1) f fd [y] (spLawT K cs) := by
  have T := stat_ok hst
  refine F.ok S (fun vs H Q E ⟨a, ns, h1, _⟩ => by rw [h1]; rfl) fun cdv A outer s H vs Q E hr ⟨a, ns, h1, h3, h4, ht, h5⟩ => ?_
  subst h1
  refine ⟨_, pss_w, ?_⟩
  have hps : 1 ≤ N.length := by have := congrArg List.length S.pre; rw [List.length_take] at this; simp at this; omega
  have FX : ∀ Ha, Fx ⟨(cxOf CX0 P w K mg base N qual (defScope st) f cdv A outer s H E).nox, Ha⟩ P w K mg base (defScope st) N L C Gs Bs k := fun Ha =>
    ⟨rfl, rfl, rfl, rfl, rfl, rfl, rfl, T.nd, T.loc, fun x hx => ⟨T.cel x hx, rfl⟩, T.kind, T.nob, T.gl, hb, rfl, hr, PassesOwn.never⟩
  have go : ∀ H2 : Hp, FrzL K H2 a (ns.map V.int) → (∀ p ∈ cs, H2 p.2.1 = some (.tbl #[])) → wSs (cxOf CX0 P w K mg base N qual (defScope st) f cdv A outer s H E).nox (defBody st) { nx := fun _ H' => Q .non H', rt := Q } (start N [.ref a]) H2 := fun H2 fz ht2 => by
    have W := h _ (FX H2) ns h4
    rw [ini_eq N [.lis (ns.map .int)] hps] at W
    have m0 : RM K H2 (tabM cs) := by
      refine ⟨by unfold tabM; rw [List.map_map]; exact hcs, fun b o hm => ?_⟩
      obtain ⟨p, hp, e⟩ := List.mem_map.mp hm
      cases e
      exact LamX.TabS.nil (ht2 p hp)
    refine (W (start N [.ref a]) H2 (RS.start (X := ⟨(cxOf CX0 P w K mg base N qual (defScope st) f cdv A outer s H E).nox, H2⟩) Stay.refl hps (fun i z hi hz => ?_) (.cons (.lis fz (RDs.ints ns)) .nil)) m0).mono (fun σ' H' ⟨ρ', M', q1, q2, q3, q4⟩ => q4.elim) (fun v H' ⟨d, M', q1, q2, q3, q4⟩ => ?_) (fun _ _ ⟨_, _, _, _, _, q⟩ => q) (fun _ _ ⟨_, _, _, _, _, q⟩ => q)
    · have hp : ([y] : List Str)[i]? = some z := by
        rw [← S.pre, List.getElem?_take_of_lt (show i < ([y] : List Str).length from hi)]
        exact hz
      rcases S.par z (List.mem_of_getElem? hp) with q | q
      · exact .inl q
      · exact .inr (.inl q)
    · subst q4
      cases q1
      exact h5 H'
  rcases h3 with (z | z) | z
  · intro pins s' I
    obtain ⟨od, I2⟩ := I.lock z trivial
    refine go _ (.inl ⟨od, upd_same⟩) (fun p hp => ?_) pins s' I2
    rw [upd_ne (fun e => by have := ht p hp; rw [e, z] at this; cases this)]
    exact ht p hp
  · exact go H (.inl z) ht
  · exact go H (.inr z) ht
end
theorem walkT {l : PySem.W.OpenLaw} {q : Program} {loose : List Str} {XP : (Str → Option Value) → Heap → Prop} {YP : World → Heap → Prop} {d : DefRec} {K : Params → PySem.W.Frag} {k : Nat} {x : Str} (hn : l.most = some 63) (hdf : d.params.defaults = []) (hr : Room k callerA)
    (hY : ∀ (w : World) (h : Heap), YP w h → (K w.params).In h)
    (F : ∀ (w : World) (mg : Str → Option Value) (fa : Addr) (h : Heap), YP w h → (K w.params).In h → h.Ns mainGlobals mg → mg d.name = some (.ref fa) →
      ∃ (fd : FuncData) (cs : List (Addr × Addr × Str)), (∀ p ∈ cs, h.get? p.2.1 = some { cls := .none, data := .fields #[] }) ∧ (∀ p ∈ cs, (K w.params).lookup p.2.1 = none) ∧ (∀ p ∈ cs, PySem.W.codeHdIn (K w.params) p.1 p.2.1 = true) ∧ (∀ (s : Shared) (u : Value), BindsTo s fd ⟨[u], []⟩ [(x, u)]) ∧
        ∀ base : Heap, (K w.params).In base → base.Ns mainGlobals mg → (∀ p ∈ cs, LamX.TabB base mg p.1 p.2.1) → FnOk l.prog w (K w.params) mg base CX0 k fa fd [x] (spLawT (K w.params) cs)) :
    PySem.W.WalkO q loose XP YP l.row.toRowW d [] (fun f vs => PySem.call f vs) := by
  refine LamX.walk_ofTs (n := 63) (k := k) (x := x) (CX := fun _ => CX0) hn (by rw [sizeLine_eq]; decide) hdf hr hY (fun w mg fa h Y KX G hm => ?_) fun _ _ _ _ _ z => z
  obtain ⟨fd, cs, c1, c2, c3, c4, c5⟩ := F w mg fa h Y KX G hm
  refine ⟨fd, cs.map fun p => (p.1, p.2.1), spLawT (K w.params) cs, fun p hp => ?_, fun p hp => ?_, fun p hp => ?_, c4, fun H a ns hl _ ht hS => ⟨a, ns, rfl, hS, hl, fun p hp => ?_, fun _ => rfl⟩, fun base kb nb tb => c5 base kb nb fun p hp => ?_⟩
  · obtain ⟨r, hr, e⟩ := List.mem_map.mp hp
    subst e
    exact c1 r hr
  · obtain ⟨r, hr, e⟩ := List.mem_map.mp hp
    subst e
    exact c2 r hr
  · obtain ⟨r, hr, e⟩ := List.mem_map.mp hp
    subst e
    exact PySem.W.codeHd_of_K KX (c3 r hr)
  · exact ht _ (List.mem_map.mpr ⟨p, hp, rfl⟩)
  · exact tb _ (List.mem_map.mpr ⟨p, hp, rfl⟩)
end G
namespace G
open PySem L2
/-! ### comprehensions of two names; max and min of three -/
section
variable {X : Cy} {P : Program} {w : World} {K : Fg} {mg : Str → Option Value} {base : Heap} {sc : Scope} {N L C Gs Bs L' C' Gs' : List Str} {k : Nat} {ρ ρ' : Ro} {M : Mm} {Q : DV → Mm → Prop} {elt iter e e2 e3 : Expr} {scope : Scope} {x y : Str} {i j kt : Nat} {ms : List Bool} {pos px py pt p : Pos}
/-- what stands static for a comprehension of two names -/
structure Lc2 (N : List Str) (sc scope : Scope) (x y : Str) (i j : Nat) (ms : List Bool) (L' C' Gs' : List Str) : Prop where
  hi : N[i]? = some x
  hj : N[j]? = some y
  hx : x ∈ L' ∨ x ∈ C'
  hy : y ∈ L' ∨ y ∈ C'
  ok : blkC N sc scope [(x, i), (y, j)] = true
  st : stat (relS scope sc) N L' C' Gs' = true
  hm : maskC N (relS scope sc) scope [(x, i), (y, j)] C' ms = true
/-- [elt for x, y in iter (if c)] -/
theorem we_lc2 {ifs : List Expr} (F : Fx X P w K mg base sc N L C Gs Bs k) (c : Lc2 N sc scope x y i j ms L' C' Gs') (hs : notSet iter = true) (hif : ifs.length ≤ 1)
    (h : WI X ρ M (.Tuple [.Name x px, .Name y py] kt pt) iter (LcI P w K mg base (relS scope sc) N L' C' Gs' Bs k (TgT N (mask ms ρ) x y) elt ifs Q)) : WE X ρ M (.ListComp elt [⟨.Tuple [.Name x px, .Name y py] kt pt, iter, ifs, 0⟩] scope pos) Q := by
  obtain ⟨g1, g2⟩ := lc_nm (px := px) (ifs := ifs) (own := [(x, i), (y, j)]) F c.hi c.hx c.st c.hm (by simp)
  obtain ⟨f1, f2⟩ := lc_nm (px := py) (ifs := ifs) (own := [(x, i), (y, j)]) F c.hj c.hy c.st c.hm (by simp)
  have eK := F.hK
  have G1 : ∀ (s : Shared) (H : Hp) (Ca : Addr) (cl : List (Str × Addr)) (fp : List Addr), PG (X.blk s H scope (compEnvC scope cl Ca X.env) fp) (.Tuple [.Name x px, .Name y py] kt pt) (gTup X.K 2 (gCons (gName i) (gCons (gName j) gNil))) := fun s H Ca cl fp =>
    pg_tup (X := X.blk s H scope (compEnvC scope cl Ca X.env) fp) (n := 2) F.calm (pgs_cons (g1 s H Ca cl fp) (pgs_cons (f1 s H Ca cl fp) pgs_nil rfl) rfl) rfl rfl
  intro σ H rs m pins s I
  obtain ⟨wi, tt, te, p1, p2, p3, p4⟩ := lc_gen (own := [(x, i), (y, j)]) F c.ok c.st c.hm hs hif G1 (fun d S σ H0 v Qg t hr r q => by
    obtain ⟨d1, d2, ρ1, ρ2, rfl, h1, h2, h3⟩ := t
    cases r with
    | tup sq rr =>
      cases rr with
      | cons r1 rr =>
        cases rr with
        | cons r2 rr =>
          cases rr
          refine ⟨_, _, rfl, by rw [eK]; exact sq, rfl, _, _, rfl, ?_⟩
          refine g2 d1 (mask ms ρ) (fun ρ' => TgN N ρ' y d2 S) σ _ H0 _ _ ⟨ρ1, h1, ρ2, h2, h3⟩ (by rw [wipe_wipe]) hr r1 fun σ2 ρ2' ew hr2 t2 => ?_
          refine ⟨_, _, rfl, ?_⟩
          exact f2 d2 ρ2' S σ σ2 H0 _ _ t2 ew hr2 r2 fun σ3 ρ3 ew3 hr3 h3 => ⟨rfl, q σ3 ρ3 ew3 hr3 h3⟩) h rs m (Inv_len F I) (KQ := LE X.K H Q) fun D H' M2 r st q => ⟨_, M2, .ref D, r, st, q⟩
  exact (pe_lc (own := [(x, i), (y, j)]) F.calm (by rw [F.hN]; exact F.nd) p1 (blkOk_by (by rw [F.hN, F.hsc]; exact c.ok)) G1 p2 p3 (notSet_ok hs)).run pins s σ H _ I p4
def max3 (i j k : Int) : Int := if (if j > i then j else i) < k then k else if j > i then j else i
def rMax3 : List V → Hp → VK → Prop := fun xs H Q => ∃ i j k, xs = [.int i, .int j, .int k] ∧ Q (.int (max3 i j k)) H
theorem call_max3 {X : Cx} (hc : X.calm = true) : CallR X (.builtin "max") rMax3 := by
  intro pins s σ H xs us Q I r h
  obtain ⟨i, j, k, rfl, q⟩ := h
  refine call_max3Nu hc pins s σ H _ us Q I r ⟨_, _, _, .int (max3 i j k), rfl, ?_, q⟩
  by_cases h1 : i < j
  · by_cases h2 : j < k
    · simp [nuMax3, nuMax2, nuLt, nuCB, max3, h1, h2]
    · simp [nuMax3, nuMax2, nuLt, nuCB, max3, h1, h2]
  · by_cases h2 : i < k
    · simp [nuMax3, nuMax2, nuLt, nuCB, max3, h1, h2]
    · simp [nuMax3, nuMax2, nuLt, nuCB, max3, h1, h2]
theorem we_max3 (F : Fx X P w K mg base sc N L C Gs Bs k) (hx : ("max" : Str) ∈ Gs) (hx2 : ("max" : Str) ∈ Bs) (hs : noStars [e, e2, e3] = true) (h : WA X ρ M [e, e2, e3] fun ds M1 => CD X.K rMax3 ds M1 Q) : WE X ρ M (.Call (.Name "max" p) [e, e2, e3] [] pos) Q :=
  we_blt F (call_max3 F.calm) (fun xs H Q Q' ⟨i, j, k, a, b⟩ q => ⟨i, j, k, a, q _ _ b⟩) (by decide +kernel) hx hx2 hs h
instance [F : Fx X P w K mg base sc N L C Gs Bs k] [m : MemC "max" Gs] [m2 : MemC "max" Bs] : Step (WE X ρ M (.Call (.Name (Str.ofString "max") p) [e, e2, e3] [] pos) Q) (noStars [e, e2, e3]) (WA X ρ M [e, e2, e3] fun ds M1 => CD X.K rMax3 ds M1 Q) := ⟨fun h q => we_max3 F m.h m2.h h q⟩
instance {i j k : Int} : Step (CD K rMax3 [.int i, .int j, .int k] M Q) true (Q (.int (max3 i j k)) M) := ⟨fun _ q vs H r m => by
  cases r with
  | cons r1 r =>
    cases r with
    | cons r2 r =>
      cases r with
      | cons r3 r =>
        cases r; cases r1; cases r2; cases r3
        exact ⟨i, j, k, rfl, _, M, .int _, m, Stay.refl, q⟩⟩
theorem max3_eq (i j k : Int) : max3 i j k = max i (max j k) := by
  unfold max3
  repeat' split
  all_goals omega
end
end G
namespace G
open PySem L2
/-! ### x += e for ints; strings: startswith, join, one sign -/
section
variable {X : Cy} {P : Program} {w : World} {K : Fg} {mg : Str → Option Value} {base : Heap} {sc : Scope} {N L C Gs Bs : List Str} {k : Nat} {ρ ρ' : Ro} {M : Mm} {Q : DV → Mm → Prop} {e o : Expr} {x : Str} {pos apos p : Pos} {nx bk ct : Ro → Mm → Prop} {rt : DV → Mm → Prop}
def isC : Expr → Bool
  | .Constant _ _ _ => true
  | _ => false
theorem ws_augI {a : Int} {pos' : Pos} (F : Fx X P w K mg base sc N L C Gs Bs k) (hx : x ∈ L) (hA : At N ρ x (.int a)) (h : WE X ρ M e fun d M1 => ∃ j, d = .int j ∧ TgN N ρ x (.int (a + j)) fun ρ' => nx ρ' M1) : WS X ρ M (.AugAssign (.Name x pos') .Add e pos) nx rt bk ct := fun σ H rs m => by
  obtain ⟨i, h1, h2⟩ := hA.ix
  obtain ⟨_, v, n3, n4⟩ := rs.get i _ h2
  have hl := F.loc x hx
  have hi : X.N[i]? = some x := by rw [F.hN]; exact h1
  refine wS.of (ps_aug (i := i) (by rw [F.hN]; exact F.nd) hi (.inl hl) pe_w ip_add (.inr hl)) ?_
  refine ⟨v, n3, ?_⟩
  cases n4
  refine (h σ H rs m).mono fun u H1 ⟨d, M1, g1, g2, g3, j, e1, ρ2, e2, g4⟩ => ?_
  subst e1
  cases g1
  refine ⟨a, j, rfl, rfl, ?_⟩
  obtain ⟨i', q1, q2⟩ := e2.ix
  have ei : i' = i := nodup_ix F.nd q1 h1
  subst ei q2
  exact ⟨_, M1, (rs.mono g3).put hi (.inl hl) (.int _), g2, g3, g4⟩
def AugD (d : DV) (S : Int → Prop) : Prop := ∃ j, d = .int j ∧ S j
instance {j : Int} {S : Int → Prop} : Step (AugD (.int j) S) true (S j) := ⟨fun _ q => ⟨j, rfl, q⟩⟩
instance {a : Int} {pos' : Pos} [F : Fx X P w K mg base sc N L C Gs Bs k] [mx : MemC x L] [A : At N ρ x (.int a)] : Step (WS X ρ M (.AugAssign (.Name x pos') .Add e pos) nx rt bk ct) true (WE X ρ M e fun d M1 => AugD d fun j => TgN N ρ x (.int (a + j)) fun ρ' => nx ρ' M1) := ⟨fun _ q => ws_augI F mx.h A q⟩
/-! strings -/
instance {z : Str} {i : Int} : Step (R2D K (rIx K) (.str z) (.int i) M Q) true (∃ c, (z.length ≤ sizeLine ∧ atI z.cps.toList i = some c) ∧ Q (.str ⟨#[c]⟩) M) := ⟨fun _ ⟨c, h, q⟩ => v_ix_s h.1 h.2 q⟩
def StwD (x d : DV) (S : Bool → Prop) : Prop := ∃ a b, x = .str a ∧ d = .str b ∧ S (Txt.startswith a b)
theorem we_startswith (ho : notCall o = true) (hs : noStars [e] = true) (hl : (apos.endLine == pos.line) = true)
    (h : WE X ρ M o fun x M1 => (∃ a, x = .str a) ∧ WE X ρ M1 e fun d M2 => StwD x d fun t => Q (.bl t) M2) : WE X ρ M (.Call (.Attribute o "startswith" apos) [e] [] pos) Q := by
  refine we_bm PySem.F.plainAttrs_str PySem.F.slot_str_startswith PySem.F.type_str_startswith mt_startswith (fun x xs H Q Q' ⟨a, b, c, d, z⟩ q => ⟨a, b, c, d, q _ _ z⟩) ho hs (by simp) hl ?_
  refine h.mono fun x M1 ⟨⟨a, h1⟩, h3⟩ => ⟨fun v H r m => ?_, ?_⟩
  · subst h1
    cases r
    rfl
  · refine wa_cons' (noStars_cons hs).1 (h3.mono fun d M2 q => wa_nil fun v vs H r rs m => ?_)
    obtain ⟨a', b', e1, e2, e3⟩ := q
    subst e1 e2
    cases r
    cases rs with
    | cons r1 rr =>
      cases rr
      cases r1
      exact ⟨a', b', rfl, rfl, .bl _, M2, .bl _, m, Stay.refl, e3⟩
instance {a b : Str} {S : Bool → Prop} : Step (StwD (.str a) (.str b) S) true (S (Txt.startswith a b)) := ⟨fun _ q => ⟨a, b, rfl, rfl, q⟩⟩
instance : Step (WE X ρ M (.Call (.Attribute o (Str.ofString "startswith") apos) [e] [] pos) Q) (notCall o && noStars [e] && (apos.endLine == pos.line)) (WE X ρ M o fun x M1 => Side (∃ a, x = .str a) (WE X ρ M1 e fun d M2 => StwD x d fun t => Q (.bl t) M2)) := ⟨fun h q => by
  simp only [Bool.and_eq_true] at h
  exact we_startswith h.1.1 h.1.2 h.2 (q.mono fun _ _ z => ⟨z.a, z.b⟩)⟩
theorem RDs.strs {H : Hp} : ∀ {ys : List Str} {vs : List V}, RDs K H (ys.map DV.str) vs → vs = ys.map V.str
  | [], _, h => by cases h; rfl
  | y :: ys, _, h => by
    cases h with
    | cons r rr => cases r; rw [RDs.strs rr]; rfl
def JoinD (M : Mm) (x d : DV) (S : Str → Prop) : Prop := ∃ a p i ys, x = .str a ∧ d = .ref p ∧ AtM M i p (.lst (ys.map DV.str)) ∧ (ys.map (·.length)).sum + ys.length * a.length ≤ 16777216 ∧ S (Txt.join a ys)
theorem we_join (ho : notCall o = true) (hs : noStars [e] = true) (hl : (apos.endLine == pos.line) = true)
    (h : WE X ρ M o fun x M1 => (∃ a, x = .str a) ∧ WE X ρ M1 e fun d M2 => JoinD M2 x d fun t => Q (.str t) M2) : WE X ρ M (.Call (.Attribute o "join" apos) [e] [] pos) Q := by
  refine we_bm PySem.F.plainAttrs_str PySem.F.slot_str_join PySem.F.type_str_join mt_join (fun x xs H Q Q' ⟨a, b, c, d, z, z1, z2, z3⟩ q => ⟨a, b, c, d, z, z1, z2, q _ _ z3⟩) ho hs (by simp) hl ?_
  refine h.mono fun x M1 ⟨⟨a, h1⟩, h3⟩ => ⟨fun v H r m => ?_, ?_⟩
  · subst h1
    cases r
    rfl
  · refine wa_cons' (noStars_cons hs).1 (h3.mono fun d M2 q => wa_nil fun v vs H r rs m => ?_)
    obtain ⟨a', p', i, ys, e1, e2, e3, e4, e5⟩ := q
    subst e1 e2
    cases r
    cases rs with
    | cons r1 rr =>
      cases rr
      cases r1
      obtain ⟨us, g1, g2⟩ := m.at e3.ix
      rw [RDs.strs g2] at g1
      exact ⟨a', p', ys, rfl, rfl, .inl (SqL.of g1), e4, .str _, M2, .str _, m, Stay.refl, e5⟩
instance : Step (WE X ρ M (.Call (.Attribute o (Str.ofString "join") apos) [e] [] pos) Q) (isC o && notCall o && noStars [e] && (apos.endLine == pos.line)) (WE X ρ M o fun x M1 => Side (∃ a, x = .str a) (WE X ρ M1 e fun d M2 => JoinD M2 x d fun t => Q (.str t) M2)) := ⟨fun h q => by
  simp only [Bool.and_eq_true] at h
  exact we_join h.1.1.2 h.1.2 h.2 (q.mono fun _ _ z => ⟨z.a, z.b⟩)⟩
end
end G
namespace G
open PySem L2
/-! ### names of built-in types and of whole numbers; isinstance; pop and extend of lists -/
class BtyC (x : Str) (T : outParam String) : Prop where
  h : bootBuiltins x = some (.type T)
instance : BtyC (Str.ofString "int") "int" := ⟨by decide +kernel⟩
instance : BtyC (Str.ofString "bool") "bool" := ⟨by decide +kernel⟩
instance : BtyC (Str.ofString "str") "str" := ⟨by decide +kernel⟩
instance : BtyC (Str.ofString "tuple") "tuple" := ⟨by decide +kernel⟩
instance : BtyC (Str.ofString "list") "list" := ⟨by decide +kernel⟩
instance : BtyC (Str.ofString "dict") "dict" := ⟨by decide +kernel⟩
/-- a name of the module that holds a whole number -/
class GInt (mg : Str → Option Value) (x : Str) (i : outParam Int) : Prop where
  h : ∃ t, mg x = some (.int i t)
class Isi (a T : String) (b : outParam Bool) : Prop where
  h : kitB a T = some b
instance : Isi "NoneType" "int" false := ⟨by decide +kernel⟩
instance : Isi "NoneType" "bool" false := ⟨by decide +kernel⟩
instance : Isi "NoneType" "str" false := ⟨by decide +kernel⟩
instance : Isi "NoneType" "tuple" false := ⟨by decide +kernel⟩
instance : Isi "NoneType" "list" false := ⟨by decide +kernel⟩
instance : Isi "NoneType" "dict" false := ⟨by decide +kernel⟩
instance : Isi "bool" "int" true := ⟨by decide +kernel⟩
instance : Isi "bool" "bool" true := ⟨by decide +kernel⟩
instance : Isi "bool" "str" false := ⟨by decide +kernel⟩
instance : Isi "bool" "tuple" false := ⟨by decide +kernel⟩
instance : Isi "bool" "list" false := ⟨by decide +kernel⟩
instance : Isi "bool" "dict" false := ⟨by decide +kernel⟩
instance : Isi "int" "int" true := ⟨by decide +kernel⟩
instance : Isi "int" "bool" false := ⟨by decide +kernel⟩
instance : Isi "int" "str" false := ⟨by decide +kernel⟩
instance : Isi "int" "tuple" false := ⟨by decide +kernel⟩
instance : Isi "int" "list" false := ⟨by decide +kernel⟩
instance : Isi "int" "dict" false := ⟨by decide +kernel⟩
instance : Isi "str" "int" false := ⟨by decide +kernel⟩
instance : Isi "str" "bool" false := ⟨by decide +kernel⟩
instance : Isi "str" "str" true := ⟨by decide +kernel⟩
instance : Isi "str" "tuple" false := ⟨by decide +kernel⟩
instance : Isi "str" "list" false := ⟨by decide +kernel⟩
instance : Isi "str" "dict" false := ⟨by decide +kernel⟩
instance : Isi "tuple" "int" false := ⟨by decide +kernel⟩
instance : Isi "tuple" "bool" false := ⟨by decide +kernel⟩
instance : Isi "tuple" "str" false := ⟨by decide +kernel⟩
instance : Isi "tuple" "tuple" true := ⟨by decide +kernel⟩
instance : Isi "tuple" "list" false := ⟨by decide +kernel⟩
instance : Isi "tuple" "dict" false := ⟨by decide +kernel⟩
instance : Isi "list" "int" false := ⟨by decide +kernel⟩
instance : Isi "list" "bool" false := ⟨by decide +kernel⟩
instance : Isi "list" "str" false := ⟨by decide +kernel⟩
instance : Isi "list" "tuple" false := ⟨by decide +kernel⟩
instance : Isi "list" "list" true := ⟨by decide +kernel⟩
instance : Isi "list" "dict" false := ⟨by decide +kernel⟩
instance : Isi "dict" "int" false := ⟨by decide +kernel⟩
instance : Isi "dict" "bool" false := ⟨by decide +kernel⟩
instance : Isi "dict" "str" false := ⟨by decide +kernel⟩
instance : Isi "dict" "tuple" false := ⟨by decide +kernel⟩
instance : Isi "dict" "list" false := ⟨by decide +kernel⟩
instance : Isi "dict" "dict" true := ⟨by decide +kernel⟩
/-- a value's built-in type -/
class TyD (M : Mm) (d : DV) (a : outParam String) : Prop where
  h : ∀ K v H, RD K H d v → RM K H M → TyX K H v (.type a)
instance {M : Mm} : TyD M .non "NoneType" := ⟨fun K v H r m => by cases r; exact .base .non⟩
instance {M : Mm} {b : Bool} : TyD M (.bl b) "bool" := ⟨fun K v H r m => by cases r; exact .base (.bl b)⟩
instance {M : Mm} {i : Int} : TyD M (.int i) "int" := ⟨fun K v H r m => by cases r; exact .base (.int i)⟩
instance {M : Mm} {x : Str} : TyD M (.str x) "str" := ⟨fun K v H r m => by cases r; exact .base (.str x)⟩
instance {M : Mm} {ds : List DV} : TyD M (.tup ds) "tuple" := ⟨fun K v H r m => by
  cases r with
  | tup s _ =>
    rcases s with (z | ⟨o, z⟩) | ⟨o, its, n, z, c, _⟩
    · exact .base (.tup z)
    · exact .fTuple z
    · exact .kTuple z c⟩
instance {M : Mm} {pa : Addr} {ds : List DV} : TyD M (.tupA pa ds) "tuple" := ⟨fun K v H r m => by
  cases r with
  | tupA s _ =>
    rcases s with (z | ⟨o, z⟩) | ⟨o, its, n, z, c, _⟩
    · exact .base (.tup z)
    · exact .fTuple z
    · exact .kTuple z c⟩
instance {M : Mm} {ds : List DV} {i : Nat} {p : Addr} [A : AtM M i p (.lst ds)] : TyD M (.ref p) "list" := ⟨fun K v H r m => by
  cases r
  obtain ⟨vs, e, _⟩ := m.at A.ix
  exact .base (.lst e)⟩
instance {M : Mm} {kvs : List (Key × DV)} {i : Nat} {p : Addr} [A : AtM M i p (.dk kvs)] : TyD M (.ref p) "dict" := ⟨fun K v H r m => by
  cases r
  obtain ⟨vs, e, _⟩ := m.at A.ix
  exact .base (.dK e)⟩
section
variable {X : Cy} {P : Program} {w : World} {K : Fg} {mg : Str → Option Value} {base : Heap} {sc : Scope} {N L C Gs Bs : List Str} {k : Nat} {ρ ρ' : Ro} {M : Mm} {Q : DV → Mm → Prop} {e e2 o : Expr} {x : Str} {pos apos p : Pos}
theorem we_bty {T : String} (F : Fx X P w K mg base sc N L C Gs Bs k) (hx : x ∈ Gs) (hx2 : x ∈ Bs) (hv : bootBuiltins x = some (.type T)) (q : Q (.ty T) M) : WE X ρ M (.Name x pos) Q := fun σ H rs m => by
  obtain ⟨g1, g2, g3⟩ := F.gl x hx
  exact wE.of (pe_bltn (v := .ty T) g1 (by rw [F.hmg]; exact F.bl x hx2) hv rfl g3 g2) ⟨.ty T, M, .ty T, m, Stay.refl, q⟩
theorem we_gint {i : Int} (F : Fx X P w K mg base sc N L C Gs Bs k) (hx : x ∈ Gs) (hv : ∃ t, mg x = some (.int i t)) (q : Q (.int i) M) : WE X ρ M (.Name x pos) Q := fun σ H rs m => by
  obtain ⟨g1, g2, g3⟩ := F.gl x hx
  obtain ⟨t, ht⟩ := hv
  exact wE.of (pe_glob (v := .int i) g1 (by rw [F.hmg]; exact ht) ⟨t, rfl⟩ g2) ⟨.int i, M, .int i, m, Stay.refl, q⟩
instance (priority := low) {T : String} [F : Fx X P w K mg base sc N L C Gs Bs k] [B : BtyC x T] [m1 : MemC x Gs] [m2 : MemC x Bs] : Step (WE X ρ M (.Name x pos) Q) true (Q (.ty T) M) := ⟨fun _ q => we_bty F m1.h m2.h B.h q⟩
instance (priority := low) {i : Int} [F : Fx X P w K mg base sc N L C Gs Bs k] [B : GInt mg x i] [m1 : MemC x Gs] : Step (WE X ρ M (.Name x pos) Q) true (Q (.int i) M) := ⟨fun _ q => we_gint F m1.h B.h q⟩
theorem we_isi (F : Fx X P w K mg base sc N L C Gs Bs k) (hx : ("isinstance" : Str) ∈ Gs) (hx2 : ("isinstance" : Str) ∈ Bs) (hs : noStars [e, e2] = true) (h : WA X ρ M [e, e2] fun ds M1 => CD X.K (rIsi X.K) ds M1 Q) : WE X ρ M (.Call (.Name "isinstance" p) [e, e2] [] pos) Q :=
  we_blt F call_isi (fun xs H Q Q' ⟨a, b, c, d, f, g, h, i, j, k⟩ q => ⟨a, b, c, d, f, g, h, i, j, q _ _ k⟩) (by decide +kernel) hx hx2 hs h
instance [F : Fx X P w K mg base sc N L C Gs Bs k] [m : MemC "isinstance" Gs] [m2 : MemC "isinstance" Bs] : Step (WE X ρ M (.Call (.Name (Str.ofString "isinstance") p) [e, e2] [] pos) Q) (noStars [e, e2]) (WA X ρ M [e, e2] fun ds M1 => CD X.K (rIsi X.K) ds M1 Q) := ⟨fun h q => we_isi F m.h m2.h h q⟩
instance {d : DV} {a T : String} {b : Bool} [t : TyD M d a] [i : Isi a T b] : Step (CD K (rIsi K) [d, .ty T] M Q) true (Q (.bl b) M) := ⟨fun _ q vs H r m => by
  cases r with
  | cons r1 r =>
    cases r with
    | cons r2 r =>
      cases r; cases r2
      exact ⟨_, _, _, _, b, rfl, .ty T, t.h K _ H r1 m, i.h, .bl b, M, .bl b, m, Stay.refl, q⟩⟩
/-! l.pop() and l.extend(l2) -/
theorem we_bm0 {T id : String} {name : Str} {r : V → List V → Hp → VK → Prop} (pa : PlainAttrs T) (slot : Slot T name id) (hty : typeOf (.builtin id) = pure (.type "method_descriptor")) (hm : MtR X id r) (mr : ∀ x xs H Q Q', r x xs H Q → (∀ v H', Q v H' → Q' v H') → r x xs H Q')
    (ho : notCall o = true) (hl : (apos.endLine == pos.line) = true)
    (h : WE X ρ M o fun x M1 => (∀ v H, RD X.K H x v → RM X.K H M1 → tyV X.K T v H) ∧ ∀ v H, RD X.K H x v → RM X.K H M1 → r v [] H (LE X.K H Q)) : WE X ρ M (.Call (.Attribute o name apos) [] [] pos) Q := fun σ H rs m => by
  refine wE.of (pe_bm0 pa slot hty hm pe_w (attrBase ho) hl) ?_
  refine (h σ H rs m).mono fun v H1 ⟨x, M1, k1, k2, k3, k4, k5⟩ => ⟨k4 v H1 k1 k2, ?_⟩
  exact mr _ _ _ _ _ (k5 v H1 k1 k2) fun _ _ z => z.stay k3
def PopL (M : Mm) (x : DV) (S : DV → Mm → Prop) : Prop := ∃ p i ds d, x = .ref p ∧ AtM M i p (.lst ds) ∧ ds[ds.length - 1]? = some d ∧ S d (M.set i (p, .lst ds.dropLast))
theorem we_pop (ho : notCall o = true) (hl : (apos.endLine == pos.line) = true) (h : WE X ρ M o fun x M1 => PopL M1 x Q) : WE X ρ M (.Call (.Attribute o "pop" apos) [] [] pos) Q := by
  refine we_bm0 PySem.F.plainAttrs_list PySem.F.slot_list_pop PySem.F.type_list_pop mt_pop (fun x xs H Q Q' ⟨l, ys, y, a, b, c, d, z⟩ q => ⟨l, ys, y, a, b, c, d, q _ _ z⟩) ho hl ?_
  refine h.mono fun x M1 ⟨p, i, ds, d, h1, h2, h3, h4⟩ => ⟨fun v H r m => ?_, fun v H r m => ?_⟩
  · subst h1
    cases r
    obtain ⟨vs, e1, _⟩ := m.at h2.ix
    exact .inl ⟨rfl, vs, SqL.of e1⟩
  · subst h1
    cases r
    obtain ⟨vs, e1, rr⟩ := m.at h2.ix
    obtain ⟨u, eu, ru⟩ := rr.get h3
    have mu : Wr H p := wr_lst e1
    have st : Stay X.K H (upd H p (.lst vs.dropLast)) := Stay.write mu
    exact ⟨p, vs, u, rfl, rfl, e1, by rw [← rr.length]; exact eu, d, _, ru.mono st, m.write (q' := .lst ds.dropLast) h2.ix mu ⟨_, upd_same, (RDs.dropLast rr).mono st⟩, st, h4⟩
instance {p : Addr} {i : Nat} {ds : List DV} {S : DV → Mm → Prop} [A : AtM M i p (.lst ds)] : Step (PopL M (.ref p) S) true (∃ d, ds[ds.length - 1]? = some d ∧ S d (M.set i (p, .lst ds.dropLast))) := ⟨fun _ ⟨d, h1, h2⟩ => ⟨p, i, ds, d, rfl, A, h1, h2⟩⟩
instance : Step (WE X ρ M (.Call (.Attribute o (Str.ofString "pop") apos) [] [] pos) Q) (notCall o && (apos.endLine == pos.line)) (WE X ρ M o fun x M1 => PopL M1 x Q) := ⟨fun h q => by
  simp only [Bool.and_eq_true] at h
  exact we_pop h.1 h.2 q⟩
def ExtL (M : Mm) (x d : DV) (S : Mm → Prop) : Prop := ∃ p i ds q j es, x = .ref p ∧ d = .ref q ∧ AtM M i p (.lst ds) ∧ AtM M j q (.lst es) ∧ ds.length + es.length ≤ sizeLine ∧ S (M.set i (p, .lst (ds ++ es)))
theorem we_extend (ho : notCall o = true) (hs : noStars [e] = true) (hl : (apos.endLine == pos.line) = true)
    (h : WE X ρ M o fun x M1 => (∃ D j acc, x = .ref D ∧ AtM M1 j D (.lst acc)) ∧ WE X ρ M1 e fun d M2 => ExtL M2 x d (Q .non)) : WE X ρ M (.Call (.Attribute o "extend" apos) [e] [] pos) Q := by
  refine we_bm PySem.F.plainAttrs_list PySem.F.slot_list_extend PySem.F.type_list_extend mt_extend (fun x xs H Q Q' ⟨l, b, ys, y, a, b1, c, d, f, z⟩ q => ⟨l, b, ys, y, a, b1, c, d, f, q _ _ z⟩) ho hs (by simp) hl ?_
  refine h.mono fun x M1 ⟨⟨D, j, acc, h1, h2⟩, h3⟩ => ⟨fun v H r m => ?_, ?_⟩
  · subst h1
    cases r
    obtain ⟨vs, e1, _⟩ := m.at h2.ix
    exact .inl ⟨rfl, vs, SqL.of e1⟩
  · refine wa_cons' (noStars_cons hs).1 (h3.mono fun d M2 q => wa_nil fun v vs H r rs m => ?_)
    obtain ⟨p, i, ds, q, j', es, e1, e2, e3, e4, e5, e6⟩ := q
    subst e1 e2
    cases r
    cases rs with
    | cons r1 rr =>
      cases rr
      cases r1
      obtain ⟨us, g1, g2⟩ := m.at e3.ix
      obtain ⟨ws, f1, f2⟩ := m.at e4.ix
      have mu : Wr H p := wr_lst g1
      have st : Stay X.K H (upd H p (.lst (us ++ ws))) := Stay.write mu
      exact ⟨p, q, us, ws, rfl, rfl, g1, f1, by rw [← g2.length, ← f2.length]; exact e5, .non, _, .non, m.write (q' := .lst (ds ++ es)) e3.ix mu ⟨_, upd_same, (g2.append f2).mono st⟩, st, e6⟩
instance {p q : Addr} {i j : Nat} {ds es : List DV} {S : Mm → Prop} [A : AtM M i p (.lst ds)] [B : AtM M j q (.lst es)] : Step (ExtL M (.ref p) (.ref q) S) true (Side (ds.length + es.length ≤ sizeLine) (S (M.set i (p, .lst (ds ++ es))))) := ⟨fun _ h => ⟨p, i, ds, q, j, es, rfl, rfl, A, B, h.a, h.b⟩⟩
instance : Step (WE X ρ M (.Call (.Attribute o (Str.ofString "extend") apos) [e] [] pos) Q) (notCall o && noStars [e] && (apos.endLine == pos.line)) (WE X ρ M o fun x M1 => Side (∃ D j acc, x = .ref D ∧ AtM M1 j D (.lst acc)) (WE X ρ M1 e fun d M2 => ExtL M2 x d (Q .non))) := ⟨fun h q => by
  simp only [Bool.and_eq_true] at h
  exact we_extend h.1.1 h.1.2 h.2 (q.mono fun _ _ z => ⟨z.a, z.b⟩)⟩
end
end G
namespace G
open PySem L2
/-! ### things that are neither tuples nor texts nor numbers -/
def OddR (K : Fg) (M : Mm) (p : Addr) : Prop := ∀ T, T ∈ ["tuple", "int", "bool", "str"] → ∀ H, RM K H M → ∃ t, TyX K H (.ref p) t ∧ PySem.W.kitOne K t (.type T) = some false
class OddC (K : Fg) (M : Mm) (p : Addr) : Prop where
  h : OddR K M p
theorem OddR.less {K : Fg} {M0 M : Mm} {p : Addr} (h : OddR K M0 p) (s : M0.Sublist M) : OddR K M p := fun T hT H m => h T hT H (m.less s)
instance {K : Fg} {M : Mm} {p : Addr} {x : Addr × MO} [h : OddC K M p] : OddC K (x :: M) p := ⟨h.h.less (List.Sublist.cons _ (List.Sublist.refl _))⟩
theorem odd_lst {K : Fg} {M : Mm} {p : Addr} {i : Nat} {ds : List DV} (A : AtM M i p (.lst ds)) : OddR K M p := fun T hT H m => by
  refine ⟨_, TyD.h (M := M) (d := .ref p) (a := "list") K _ H (.ref p) m, ?_⟩
  rcases List.mem_cons.mp hT with rfl | hT
  · exact kit_ty (Isi.h (a := "list"))
  rcases List.mem_cons.mp hT with rfl | hT
  · exact kit_ty (Isi.h (a := "list"))
  rcases List.mem_cons.mp hT with rfl | hT
  · exact kit_ty (Isi.h (a := "list"))
  · rw [List.mem_singleton.mp hT]
    exact kit_ty (Isi.h (a := "list"))
theorem odd_dk {K : Fg} {M : Mm} {p : Addr} {i : Nat} {ds : List (Key × DV)} (A : AtM M i p (.dk ds)) : OddR K M p := fun T hT H m => by
  refine ⟨_, TyD.h (M := M) (d := .ref p) (a := "dict") K _ H (.ref p) m, ?_⟩
  rcases List.mem_cons.mp hT with rfl | hT
  · exact kit_ty (Isi.h (a := "dict"))
  rcases List.mem_cons.mp hT with rfl | hT
  · exact kit_ty (Isi.h (a := "dict"))
  rcases List.mem_cons.mp hT with rfl | hT
  · exact kit_ty (Isi.h (a := "dict"))
  · rw [List.mem_singleton.mp hT]
    exact kit_ty (Isi.h (a := "dict"))
/-- what isinstance asks of an own class -/
structure ClsI (K : Fg) (C : Addr) : Prop where
  cl : Cls K C
  ha : PySem.W.findIn K (.ref C) "__class__" = some (some (.builtin "object.__class__"))
  hn : PySem.W.specialIn K (.builtin "object.__class__") "__get__" = some (some (.builtin "getset_descriptor.__get__"))
  ht : PySem.W.takesIn K (.builtin "object.__class__") = some true
  hm : PySem.W.mroIn K C (.type "object") = some true
theorem odd_ins {K : Fg} {M : Mm} {p C : Addr} {i : Nat} {fs : List (Str × DV)} (A : AtM M i p (.ins C fs)) (I : ClsI K C) (h : ∀ T, T ∈ ["tuple", "int", "bool", "str"] → PySem.W.kitOne K (.ref C) (.type T) = some false) : OddR K M p := fun T hT H m => by
  obtain ⟨dx, gs, e, _⟩ := m.at A.ix
  exact ⟨_, .base (.ins e I.cl I.ha I.hn I.ht I.hm), h T hT⟩
section
variable {K : Fg} {M : Mm} {Q : DV → Mm → Prop} {p : Addr} {T : String}
theorem odd_isi (h : OddR K M p) (hT : T ∈ ["tuple", "int", "bool", "str"]) (q : Q (.bl false) M) : CD K (rIsi K) [.ref p, .ty T] M Q := fun vs H r m => by
  cases r with
  | cons r1 r =>
    cases r with
    | cons r2 r =>
      cases r; cases r2; cases r1
      obtain ⟨t, h1, h2⟩ := h T hT H m
      exact ⟨_, _, _, _, false, rfl, .ty T, h1, h2, .bl false, M, .bl false, m, Stay.refl, q⟩
instance [h : OddC K M p] : Step (CD K (rIsi K) [.ref p, .ty "tuple"] M Q) true (Q (.bl false) M) := ⟨fun _ q => odd_isi h.h (by simp) q⟩
instance [h : OddC K M p] : Step (CD K (rIsi K) [.ref p, .ty "int"] M Q) true (Q (.bl false) M) := ⟨fun _ q => odd_isi h.h (by simp) q⟩
instance [h : OddC K M p] : Step (CD K (rIsi K) [.ref p, .ty "bool"] M Q) true (Q (.bl false) M) := ⟨fun _ q => odd_isi h.h (by simp) q⟩
instance [h : OddC K M p] : Step (CD K (rIsi K) [.ref p, .ty "str"] M Q) true (Q (.bl false) M) := ⟨fun _ q => odd_isi h.h (by simp) q⟩
end
/-- a value of which isinstance can tell all -/
inductive Kn (K : Fg) (M : Mm) : DV → Prop
  | non : Kn K M .non
  | bl (b : Bool) : Kn K M (.bl b)
  | int (i : Int) : Kn K M (.int i)
  | str (x : Str) : Kn K M (.str x)
  | tup {ds : List DV} : (∀ d ∈ ds, Kn K M d) → Kn K M (.tup ds)
  | ref {p : Addr} : OddR K M p → Kn K M (.ref p)
  | tupA {a : Addr} {ds : List DV} : Kn K M (.tupA a ds)
theorem Kn.less {K : Fg} {M0 M : Mm} (s : M0.Sublist M) {d : DV} (h : Kn K M0 d) : Kn K M d := by
  induction h with
  | non => exact .non
  | bl b => exact .bl b
  | int i => exact .int i
  | str x => exact .str x
  | tup _ ih => exact .tup ih
  | ref h => exact .ref (h.less s)
  | tupA => exact .tupA
end G
namespace G
open PySem L2 PyProof.Rows
/-! ### texts and tuples times a number -/
def repS (a : Str) (n : Int) : Str := if n < 1 then Str.empty else if (n == 1 || a.length == 0) = true then a else ⟨(List.replicate n.toNat a.cps).foldl (· ++ ·) #[]⟩
def rMulS : R2 := fun x y H Q => ∃ a n, x = .str a ∧ y = .int n ∧ 0 ≤ n ∧ n ≤ 1000 ∧ a.length ≤ 1000 ∧ (repS a n).length ≤ 1000000 ∧ Q (.str (repS a n)) H
theorem op_mulS {X : Cx} : OpR X (binaryOp .Mult) rMulS := by
  intro pins s σ H x y v u Q I rx ry h
  obtain ⟨a, n, rfl, rfl, h0, h1, h2, h3, q⟩ := h
  obtain ⟨t, rfl⟩ := rx
  obtain ⟨t', rfl⟩ := ry
  have hm : a.length * n.toNat ≤ 1000 * 1000 := Nat.mul_le_mul h2 (by omega)
  refine PySem.P.mul_str ?_ (fun h4 _ => ?_) (fun _ _ => ?_) ?_
  · rw [decide_eq_false (by omega), decide_eq_false (by omega)]; rfl
  · have : 1000 ≤ (2 ^ 63 - 1) / n := Int.le_ediv_of_mul_le (by omega) (by omega)
    omega
  · unfold PySem.Builtin.Str.tooLong
    rw [sizeLine_eq]
    exact decide_eq_false (by omega)
  · unfold repS at q h3
    by_cases c1 : n < 1
    · rw [if_pos c1] at q ⊢
      exact ⟨by decide, .str _, H, I.tok _, ⟨_, rfl⟩, q⟩
    · rw [if_neg c1] at q h3 ⊢
      by_cases c2 : (n == 1 || a.length == 0) = true
      · rw [if_pos c2] at q ⊢
        exact ⟨.str _, H, I, ⟨_, rfl⟩, q⟩
      · rw [if_neg c2] at q h3 ⊢
        refine ⟨?_, .str _, H, I.tok _, ⟨_, rfl⟩, q⟩
        rw [sizeLine_eq]
        omega
theorem fold_size (c : Array Nat) : ∀ (m : Nat) (acc : Array Nat), ((List.replicate m c).foldl (· ++ ·) acc).size = acc.size + m * c.size
  | 0, acc => by simp
  | m + 1, acc => by
    rw [List.replicate_succ, List.foldl_cons, fold_size c m, Array.size_append, Nat.add_mul]
    omega
theorem repS_len (a : Str) (n : Int) : (repS a n).length ≤ a.length * n.toNat := by
  unfold repS
  split
  · exact Nat.zero_le _
  · split
    · rename_i h1 h2
      rcases (Bool.or_eq_true _ _).mp h2 with z | z
      · rw [show n = 1 by simpa using z]
        show a.length ≤ a.length * 1
        omega
      · rw [show a.length = 0 by simpa using z]
        exact Nat.zero_le _
    · show ((List.replicate n.toNat a.cps).foldl (· ++ ·) #[]).size ≤ _
      rw [fold_size, Nat.mul_comm]
      show 0 + _ ≤ _
      rw [Nat.zero_add]
      exact Nat.le_refl _
/-- a tuple, some thousand times -/
def rMulT (K : Fg) : R2 := fun x y H Q => ∃ p n vs, x = .ref p ∧ y = .int n ∧ SqT K H p vs ∧ 0 < vs.length ∧ vs.length ≤ 100 ∧ 2 ≤ n ∧ n ≤ 5000 ∧ ∀ z, H z = none → Q (.ref z) (upd H z (.tup (List.replicate n.toNat vs).flatten))
theorem op_mulT {X : Cx} : OpR X (binaryOp .Mult) (rMulT X.K) := by
  intro pins s σ H x y v u Q I rx ry h
  obtain ⟨p, n, vs, rfl, rfl, sq, l0, l1, n0, n1, q⟩ := h
  cases rx
  obtain ⟨tk, rfl⟩ := ry
  obtain ⟨us, rel, ⟨⟨cl, dc, dt, slo⟩, ob, eC, m, eD⟩, hsz⟩ := I.tuple sq
  simp only at eC eD
  subst eC eD
  have le : us.length = vs.length := rel.length.symm
  have ls : us.toArray.size = vs.length := by rw [List.size_toArray, le]
  have pr : ((us.toArray.size : Nat) : Int) * n ≤ 100 * n := by
    rw [ls]
    exact Int.mul_le_mul_of_nonneg_right (by omega) (by omega)
  have pn : n.toNat * vs.length ≤ 5000 * 100 := Nat.mul_le_mul (by omega) l1
  have em : us.toArray.isEmpty = false := by
    cases us with
    | nil => exact absurd l0 (by rw [← le]; exact Nat.lt_irrefl 0)
    | cons a b => rfl
  have ll : (List.replicate n.toNat us).flatten.length ≤ sizeLine := by
    rw [PyProof.Rows.lm_len_rep_flat, le, sizeLine_eq]
    omega
  have d0 : (decide (n < -(2 ^ 63)) || decide (n ≥ 2 ^ 63)) = false := by
    rw [Bool.or_eq_false_iff]
    exact ⟨decide_eq_false (by omega), decide_eq_false (by omega)⟩
  have d1 : (us.toArray.isEmpty || n == 1) = false := by
    rw [Bool.or_eq_false_iff]
    exact ⟨em, beq_eq_false_iff_ne.mpr (by omega)⟩
  have d2 : (decide (n ≤ 0) || us.toArray.isEmpty) = false := by
    rw [Bool.or_eq_false_iff]
    exact ⟨decide_eq_false (by omega), em⟩
  have d4 : Builtin.Tuple.tupleTooMany (((us.toArray.size : Nat) : Int) * n) = false := by unfold Builtin.Tuple.tupleTooMany; rw [sizeLine_eq]; exact decide_eq_false (by omega)
  have mt := tuple_mulW p us.toArray m dc slo n tk d0 d1 d2 (by omega) d4 (by rw [size_rep, List.size_toArray]; exact ll)
  have it := int_rmul_tuple n tk p us.toArray m dc slo
  refine wpAny_binaryOp_repeat_ref (T := "tuple") (U := "int") (by decide) ⟨_, ob, rfl⟩ (fun s' => typeIs_int s' n tk) noFill_tuple_mul PySem.F.fills_int_mul PySem.F.slot_int_rmul repeat_tuple PySem.F.slot_int_index.lookup ?_
  refine call_meets PySem.F.slot_int_rmul (typeIs_int s n tk) PySem.F.entry_int_rmul (PySem.F.args_int_rmul_2 _ _) it ⟨ob, rfl, ⟨_, ob, rfl⟩, ?_⟩
  refine call_meets PySem.F.slot_tuple_mul ⟨_, ob, rfl⟩ PySem.F.entry_tuple_mul (PySem.F.args_tuple_mul_2 _ _) mt ⟨ob, ?_⟩
  rw [size_rep]
  refine ⟨.ref s.heap.objs.size, _, I.laid (t' := s.toks) (o := .tup (List.replicate n.toNat vs).flatten) (fun b ob q => Heap.get?_push_of_some _ q) (Nat.le_refl _) ?_, rfl, q _ (I.hok.fresh (Nat.le_refl _))⟩
  refine ⟨?_, _, rel.rep n.toNat, IsTup.new _ _⟩
  rw [PyProof.Rows.lm_len_rep_flat, sizeLine_eq]
  omega
section
variable {X : Cy} {P : Program} {w : World} {K : Fg} {ρ : Ro} {M : Mm} {Q : DV → Mm → Prop} {a b : Expr} {pos : Pos}
def rMul4 (K : Fg) : R2 := fun x y H Q => rMul3 x y H Q ∨ (rMulS x y H Q ∨ rMulT K x y H Q)
theorem mon_mulS : MonR rMulS := fun x y H Q Q' ⟨a, n, h1, h2, h3, h4, h5, h6, h7⟩ q => ⟨a, n, h1, h2, h3, h4, h5, h6, q _ _ h7⟩
theorem mon_mulT : MonR (rMulT K) := fun x y H Q Q' ⟨p, n, vs, h1, h2, h3, h4, h5, h6, h7, h8⟩ q => ⟨p, n, vs, h1, h2, h3, h4, h5, h6, h7, fun z hz => q _ _ (h8 z hz)⟩
theorem we_mul4 (h : WE X ρ M a fun x M1 => WE X ρ M1 b fun y M2 => R2D X.K (rMul4 X.K) x y M2 Q) : WE X ρ M (.BinOp a .Mult b pos) Q := we_op (pe_op ((op_mul.or op_mulW).or (op_mulS.or op_mulT))) ((monI.or monI).or (mon_mulS.or mon_mulT)) h
instance : Step (WE X ρ M (.BinOp a .Mult b pos) Q) true (WE X ρ M a fun x M1 => WE X ρ M1 b fun y M2 => R2D X.K (rMul4 X.K) x y M2 Q) := ⟨fun _ => we_mul4⟩
instance {i j : Int} : Step (R2D K (rMul4 K) (.int i) (.int j) M Q) true (Side (CMul i j ∨ CMulW i j) (Q (.int (i * j)) M)) := ⟨fun _ q => R2D.l (v_mul_i q.a q.b)⟩
instance {x : Str} {n : Int} : Step (R2D K (rMul4 K) (.str x) (.int n) M Q) true (Side (0 ≤ n ∧ n ≤ 1000 ∧ x.length ≤ 1000) (Q (.str (repS x n)) M)) := ⟨fun _ q => R2D.r (R2D.l fun vx vy H h1 h2 m => by
  cases h1; cases h2
  have hm : x.length * n.toNat ≤ 1000 * 1000 := Nat.mul_le_mul q.a.2.2 (by have := q.a; omega)
  exact ⟨x, n, rfl, rfl, q.a.1, q.a.2.1, q.a.2.2, Nat.le_trans (repS_len x n) hm, .str _, M, .str _, m, Stay.refl, q.b⟩)⟩
theorem RDs.rep {H : Hp} {ds : List DV} {vs : List V} (r : RDs K H ds vs) : ∀ n : Nat, RDs K H (List.replicate n ds).flatten (List.replicate n vs).flatten
  | 0 => .nil
  | n + 1 => by
    rw [List.replicate_succ, List.replicate_succ, List.flatten_cons, List.flatten_cons]
    exact r.append (RDs.rep r n)
instance {ds : List DV} {n : Int} : Step (R2D K (rMul4 K) (.tup ds) (.int n) M Q) true (Side (0 < ds.length ∧ ds.length ≤ 100 ∧ 2 ≤ n ∧ n ≤ 5000) (Q (.tup (List.replicate n.toNat ds).flatten) M)) := ⟨fun _ q => R2D.r (R2D.r fun vx vy H h1 h2 m => by
  cases h2
  cases h1 with
  | tup s r =>
    refine ⟨_, n, _, rfl, rfl, s, by rw [← r.length]; exact q.a.1, by rw [← r.length]; exact q.a.2.1, q.a.2.2.1, q.a.2.2.2, fun z hz => ?_⟩
    exact ⟨.tup _, M, .tup (SqT.of upd_same) ((RDs.rep r n.toNat).mono (Stay.new hz)), m.new hz, Stay.new hz, q.b⟩)⟩
end
end G
namespace G
open PySem L2
/-! ### fields of objects; empty dicts -/
section
variable {X : Cy} {P : Program} {w : World} {K : Fg} {mg : Str → Option Value} {base : Heap} {sc : Scope} {N L C Gs Bs : List Str} {k : Nat} {ρ ρ' : Ro} {M : Mm} {Q : DV → Mm → Prop} {e o : Expr} {f : Str} {pos apos p : Pos} {nx bk ct : Ro → Mm → Prop} {rt : DV → Mm → Prop}
/-- a class whose objects may have the field f -/
class FldC (K : Fg) (C : Addr) (f : Str) : Prop where
  cl : Cls K C
  no : NoAttr K C f
theorem we_fld (F : Fx X P w K mg base sc N L C Gs Bs k) (ho : notCall o = true) (h : WE X ρ M o fun x M1 => ∃ a i Cc fs d, x = .ref a ∧ AtM M1 i a (.ins Cc fs) ∧ FldC K Cc f ∧ fs.lookup f = some d ∧ Q d M1) : WE X ρ M (.Attribute o f pos) Q := fun σ H rs m => by
  refine wE.of (pe_fld pe_w (attrBase ho)) ?_
  refine (h σ H rs m).mono fun v H1 ⟨x, M1, h1, h2, h3, a, i, Cc, fs, d, e1, e2, e3, e4, e5⟩ => ?_
  subst e1
  cases h1
  obtain ⟨dx, gs, g1, g2⟩ := h2.at e2.ix
  obtain ⟨u, u1, u2⟩ := g2.lookup_some e4
  exact ⟨a, Cc, dx, gs, u, rfl, g1, by rw [F.hK]; exact e3.cl, by rw [F.hK]; exact e3.no, u1, d, M1, u2, h2, h3, e5⟩
theorem we_dict0 (h : ∀ q, Q (.ref q) ((q, .dk []) :: M)) : WE X ρ M (.Dict [] [] pos) Q := fun σ H rs m => by
  refine wE.of pe_dnewK fun q hq => ?_
  exact ⟨.ref q, _, .ref q, m.cons (q := .dk []) hq ⟨[], upd_same, .nil⟩, Stay.new hq, h q⟩
instance : Step (WE X ρ M (.Dict [] [] pos) Q) true (∀ q, Q (.ref q) ((q, .dk []) :: M)) := ⟨fun _ q => we_dict0 q⟩
/-- a field put -/
def putFD (f : Str) (d : DV) : List (Str × DV) → List (Str × DV)
  | [] => [(f, d)]
  | (g, x) :: r => if g = f then (g, d) :: r else (g, x) :: putFD f d r
theorem RF.putF {H : Hp} {d : DV} {v : V} (r : RD K H d v) : ∀ {fs : List (Str × DV)} {gs : List (Str × V)}, RF K H fs gs → RF K H (putFD f d fs) (L2.putF f v gs)
  | _, _, .nil => .cons r .nil
  | _, _, .cons (x := x) r1 t => by
    show RF K H (if x = f then _ else _) (if x = f then _ else _)
    by_cases h : x = f
    · rw [if_pos h, if_pos h]
      exact .cons r t
    · rw [if_neg h, if_neg h]
      exact .cons r1 (RF.putF r t)
def SetF (K : Fg) (M : Mm) (x : DV) (f : Str) (d : DV) (S : Mm → Prop) : Prop := ∃ a i Cc fs, x = .ref a ∧ AtM M i a (.ins Cc fs) ∧ FldC K Cc f ∧ fs.length < 1000 ∧ S (M.set i (a, .ins Cc (putFD f d fs)))
theorem ws_setF (F : Fx X P w K mg base sc N L C Gs Bs k) (hn : notComp e = true) (h : WE X ρ M e fun d M1 => WE X ρ M1 o fun x M2 => SetF K M2 x f d (nx ρ)) : WS X ρ M (.Assign [.Attribute o f apos] e pos) nx rt bk ct := fun σ H rs m => by
  refine wS.of (ps_fld pe_w pe_w (by cases e <;> first | rfl | exact Bool.noConfusion hn)) ?_
  refine (h σ H rs m).mono fun v H1 ⟨d, M1, h1, h2, h3, h4⟩ => ?_
  refine (h4 σ H1 (rs.mono h3) h2).mono fun u H2 ⟨x, M2, g1, g2, g3, a, i, Cc, fs, e1, e2, e3, e4, e5⟩ => ?_
  subst e1
  cases g1
  obtain ⟨dx, gs, f1, f2⟩ := g2.at e2.ix
  have mu : Wr H2 a := wr_ins f1
  have st : Stay X.K H2 (upd H2 a (.ins Cc dx (L2.putF f v gs))) := Stay.write mu
  refine ⟨a, Cc, dx, gs, rfl, f1, by rw [F.hK]; exact e3.cl, by rw [F.hK]; exact e3.no, by rw [← f2.len]; exact e4, ?_⟩
  exact ⟨ρ, _, ((rs.mono h3).mono g3).mono st, g2.write (q' := .ins Cc (putFD f d fs)) e2.ix mu ⟨dx, _, upd_same, (f2.mono st).putF ((h1.mono g3).mono st)⟩, (h3.trans g3).trans st, e5⟩
instance {a : Addr} {i : Nat} {Cc : Addr} {fs : List (Str × DV)} {d : DV} {S : Mm → Prop} [A : AtM M i a (.ins Cc fs)] [E : FldC K Cc f] : Step (SetF K M (.ref a) f d S) true (Side (fs.length < 1000) (S (M.set i (a, .ins Cc (putFD f d fs))))) := ⟨fun _ q => ⟨a, i, Cc, fs, rfl, A, E, q.a, q.b⟩⟩
instance [F : Fx X P w K mg base sc N L C Gs Bs k] : Step (WS X ρ M (.Assign [.Attribute o f apos] e pos) nx rt bk ct) (notComp e) (WE X ρ M e fun d M1 => WE X ρ M1 o fun x M2 => SetF K M2 x f d (nx ρ)) := ⟨fun h q => ws_setF F h q⟩
def GetF (K : Fg) (M : Mm) (x : DV) (f : Str) (S : DV → Prop) : Prop := ∃ a i Cc fs d, x = .ref a ∧ AtM M i a (.ins Cc fs) ∧ FldC K Cc f ∧ fs.lookup f = some d ∧ S d
instance {a : Addr} {i : Nat} {Cc : Addr} {fs : List (Str × DV)} {S : DV → Prop} [A : AtM M i a (.ins Cc fs)] [E : FldC K Cc f] : Step (GetF K M (.ref a) f S) true (∃ d, fs.lookup f = some d ∧ S d) := ⟨fun _ ⟨d, h1, h2⟩ => ⟨a, i, Cc, fs, d, rfl, A, E, h1, h2⟩⟩
instance [F : Fx X P w K mg base sc N L C Gs Bs k] : Step (WE X ρ M (.Attribute o f pos) Q) (notCall o) (WE X ρ M o fun x M1 => GetF K M1 x f fun d => Q d M1) := ⟨fun h q => we_fld F h (q.mono fun _ _ z => z)⟩
end
end G
namespace G
open PySem L2
/-! ### defs with defaults; classes with their own __init__ -/
structure FunD (K : Fg) (x qual : Str) (st : Stmt) (f : Addr) (fd : FuncData) (dV : Value) : Prop where
  ex : ∃ (oc : Value) (od : Option Addr) (kV doc pm : Value) (an : Option Addr) (cdv ct : Value) (osl : Array (Option Value)),
    fd = PySem.W.fnOf x qual (defArgs st) (defBody st) (defScope st) dV kV doc pm an cdv ct ∧ K.lookup f = some ⟨oc, od, .func fd, osl⟩ ∧ PySem.W.codeIn K cdv qual = true
  kp : PySem.W.keepIn K (.ref f) = true
theorem fund_mk {K : Fg} {x qual : Str} {st : Stmt} {f : Addr} {oc : Value} {od an : Option Addr} {osl : Array (Option Value)} {dV kV doc pm cdv ct : Value} (l : K.lookup f = some ⟨oc, od, .func (PySem.W.fnOf x qual (defArgs st) (defBody st) (defScope st) dV kV doc pm an cdv ct), osl⟩)
    (hc : PySem.W.codeIn K cdv qual = true) (k : PySem.W.keepIn K (.ref f) = true) : FunD K x qual st f (PySem.W.fnOf x qual (defArgs st) (defBody st) (defScope st) dV kV doc pm an cdv ct) dV := ⟨⟨oc, od, kV, doc, pm, an, cdv, ct, osl, rfl, l, hc⟩, k⟩
section
variable {P : Program} {w : World} {K : Fg} {mg : Str → Option Value} {base : Heap} {N L C Gs Bs : List Str} {k : Nat}
theorem fn_okD {x qual : Str} {st : Stmt} {f : Addr} {fd : FuncData} {dV : Value} {ps : List Str} {sp : SpD} (F : FunD K x qual st f fd dV) (S : FnScope N ps (defScope st)) (hst : stat (defScope st) N L C Gs = true) (hb : ∀ x ∈ Bs, mg x = none)
    (h : ∀ X, Fx X P w K mg base (defScope st) N L C Gs Bs k → ∀ ds M Q, ds.length = ps.length → sp ds M Q → WSs X (ini N ds) M (defBody st) (fun _ M' => Sub (Q .non) M') (fun d M' => Sub (Q d) M') (fun _ _ => False) (fun _ _ => False)) :
    FnOk P w K mg base CX0 (k + 1) f fd ps (sp1 K ps.length sp) := by
  have T := stat_ok hst
  obtain ⟨oc, od, kV, doc, pm, an, cdv, ct, osl, rfl, lk, hcd⟩ := F.ex
  refine fn_of lk hcd S (fun vs H Q E ⟨ds, M, Q0, h1, h2, h3, _⟩ => by rw [← h1.length]; exact h3) fun A outer s H vs Q E hr ⟨ds, M, Q0, h1, h2, h3, h4, h5⟩ => ?_
  refine ⟨_, PSs.nox pss_w, ?_⟩
  have hps : ps.length ≤ N.length := by have := congrArg List.length S.pre; rw [List.length_take] at this; omega
  have FX : Fx ⟨(cxOf CX0 P w K mg base N qual (defScope st) f cdv A outer s H E).nox, H⟩ P w K mg base (defScope st) N L C Gs Bs k :=
    ⟨rfl, rfl, rfl, rfl, rfl, rfl, rfl, T.nd, T.loc, fun x hx => ⟨T.cel x hx, rfl⟩, T.kind, T.nob, T.gl, hb, rfl, hr, PassesOwn.never⟩
  have W := h _ FX ds M Q0 h3 h4
  rw [ini_eq N ds (by rw [h3]; exact hps)] at W
  refine (W (start N vs) H (RS.start (X := ⟨(cxOf CX0 P w K mg base N qual (defScope st) f cdv A outer s H E).nox, H⟩) Stay.refl (by rw [h3]; exact hps) (fun i y hi hy => ?_) h1) h2).mono (fun σ' H' ⟨ρ', M', q1, q2, q3, M0, q4, q5⟩ => ?_) (fun v H' ⟨d, M', q1, q2, q3, M0, q4, q5⟩ => ?_) (fun _ _ ⟨_, _, _, _, _, q⟩ => q) (fun _ _ ⟨_, _, _, _, _, q⟩ => q)
  · have hp : ps[i]? = some y := by
      rw [← S.pre, List.getElem?_take_of_lt (by rw [← h3]; exact hi)]
      exact hy
    rcases S.par y (List.mem_of_getElem? hp) with z | z
    · exact .inl z
    · exact .inr (.inl z)
  · exact h5 _ _ q5 _ _ .non (q2.less q4) q3
  · exact h5 _ _ q5 _ _ q1 (q2.less q4) q3
end
/-- a class with an __init__ of its own: x(..) of n arguments, the rest by their defaults dd -/
class Mki (P : Program) (w : World) (K : Fg) (mg : Str → Option Value) (base : Heap) (x : Str) (Cc : outParam Addr) (j : outParam Nat) (n : Nat) (dd : outParam (List DV)) (sp : outParam SpD) : Prop where
  ex : ∃ (f : Addr) (fd : FuncData) (ps : List Str) (us : List Value) (vs : List V), Mk K Cc f ∧ FnOk P w K mg base CX0 j f fd ps (sp1 K (1 + n + dd.length) sp) ∧ mg x = some (.ref Cc) ∧ Binds K fd ps us ∧ Vals vs us ∧ ∀ H, RDs K H dd vs
section
variable {X : Cy} {P : Program} {w : World} {K : Fg} {mg : Str → Option Value} {base : Heap} {sc : Scope} {N L C Gs Bs : List Str} {k j n : Nat} {ρ : Ro} {M : Mm} {Q : DV → Mm → Prop} {e : Expr} {es : List Expr} {pos p : Pos} {x : Str} {sp : SpD} {Cc : Addr} {dd : List DV}
theorem sp_made {H : Hp} {q dx : Addr} {ds : List DV} {vs : List V} (m : RM K H M) (hq : H q = none) (hd : H dx = none) (hne : dx ≠ q) (r : RDs K H ds vs) (h : sp (.ref q :: ds) ((q, .ins Cc []) :: M) fun d M' => d = .non ∧ Q (.ref q) M') (hl : 1 + ds.length = n) :
    sp1 K n sp (.ref q :: vs) (upd (upd H dx (.own q)) q (.ins Cc dx [])) (fun v H2 => v = .non ∧ LE K H Q (.ref q) H2) E := by
  have s1 : Stay K H (upd H dx (.own q)) := Stay.new hd
  have hq' : upd H dx (.own q) q = none := by rw [upd_ne (Ne.symm hne)]; exact hq
  have s2 : Stay K (upd H dx (.own q)) (upd (upd H dx (.own q)) q (.ins Cc dx [])) := Stay.new hq'
  refine ⟨.ref q :: ds, (q, .ins Cc []) :: M, _, .cons (.ref q) (r.mono (s1.trans s2)), (m.new hd).cons hq' ⟨_, [], upd_same, .nil⟩, by rw [List.length_cons]; omega, h, fun d M' z v H' r1 r2 r3 => ?_⟩
  obtain ⟨z1, z2⟩ := z
  subst z1
  cases r1
  exact ⟨rfl, .ref q, M', .ref q, r2, (s1.trans s2).trans r3, z2⟩
theorem we_makeI0 (F : Fx X P w K mg base sc N L C Gs Bs k) (G : Mki P w K mg base x Cc j 0 dd sp) (hj : j + 1 ≤ k) (hx : x ∈ Gs) (h : ∀ q, sp (.ref q :: dd) ((q, .ins Cc []) :: M) fun d M' => d = .non ∧ Q (.ref q) M') : WE X ρ M (.Call (.Name x p) [] [] pos) Q := fun σ H rs m => by
  obtain ⟨f, fd, ps, us, vs, Mm, G, hm, hb, hv, hd⟩ := G.ex
  obtain ⟨g1, g2, g3⟩ := F.gl x hx
  have eP := F.hP; have ew := F.hw; have eK := F.hK; have eg := F.hmg; have eb := F.hbase
  subst eP ew eK eg eb
  refine wE.of (pe_make0 (E := E0) Mm G (F.room.mono hj) g1 hm hb hv pass0 g2) ?_
  intro q dx hq hdx hne
  exact sp_made m hq hdx hne (hd H) (h q) (by omega)
theorem we_makeI (F : Fx X P w K mg base sc N L C Gs Bs k) (G : Mki P w K mg base x Cc j n dd sp) (hj : j + 1 ≤ k) (hx : x ∈ Gs) (hs : noStars (e :: es) = true) (h : WA X ρ M (e :: es) fun ds M1 => ds.length = n ∧ ∀ q, sp (.ref q :: (ds ++ dd)) ((q, .ins Cc []) :: M1) fun d M' => d = .non ∧ Q (.ref q) M') : WE X ρ M (.Call (.Name x p) (e :: es) [] pos) Q := fun σ H rs m => by
  obtain ⟨f, fd, ps, us, vs, Mm, G, hm, hb, hv, hd⟩ := G.ex
  obtain ⟨g1, g2, g3⟩ := F.gl x hx
  obtain ⟨h1, h2⟩ := noStars_cons hs
  have eP := F.hP; have ew := F.hw; have eK := F.hK; have eg := F.hmg; have eb := F.hbase
  subst eP ew eK eg eb
  refine wE.of (pe_make (E := E0) Mm G (F.room.mono hj) g1 hm hb hv pass0 pa_w g2 (starEach_cons h1) (noStars_any h2)) ?_
  refine (h σ H rs m).mono fun ws H1 ⟨ds, M1, k1, k2, k3, k4, k5⟩ => ?_
  intro q dx hq hdx hne
  have z := sp_made (E := E0) k2 hq hdx hne (k1.append (hd H1)) (k5 q) (n := 1 + n + dd.length) (by rw [List.length_append]; omega)
  obtain ⟨ds', M', Q0, z1, z2, z3, z4, z5⟩ := z
  exact ⟨ds', M', Q0, z1, z2, z3, z4, fun d M2 a v H2 b c st => let ⟨y1, y2⟩ := z5 d M2 a v H2 b c st; ⟨y1, y2.stay k3⟩⟩
instance [F : Fx X P w K mg base sc N L C Gs Bs k] [G : Mki P w K mg base x Cc j 0 dd sp] [m : MemC x Gs] : Step (WE X ρ M (.Call (.Name x p) [] [] pos) Q) (Nat.ble (j + 1) k) (∀ q, sp (.ref q :: dd) ((q, .ins Cc []) :: M) fun d M' => d = .non ∧ Q (.ref q) M') := ⟨fun h q => we_makeI0 F G (Nat.le_of_ble_eq_true h) m.h q⟩
/-- what the text says of a class with its own __init__ -/
def MkT (K : Fg) (mg : Str → Option Value) (x : Str) (Cc : Addr) (qual : Str) (st : Stmt) (ps : List Str) (dd : List DV) : Prop := ∃ f fd dV us vs, Mk K Cc f ∧ FunD K "__init__" qual st f fd dV ∧ mg x = some (.ref Cc) ∧ Binds K fd ps us ∧ Vals vs us ∧ ∀ H, RDs K H dd vs
theorem mki_mk {x qual : Str} {st : Stmt} {ps : List Str} (T : MkT K mg x Cc qual st ps dd) (S : FnScope N ps (defScope st)) (hst : stat (defScope st) N L C Gs = true) (hb : ∀ x ∈ Bs, mg x = none) (hn : 1 + n + dd.length = ps.length)
    (h : ∀ X, Fx X P w K mg base (defScope st) N L C Gs Bs k → ∀ ds M Q, ds.length = ps.length → sp ds M Q → WSs X (ini N ds) M (defBody st) (fun _ M' => Sub (Q .non) M') (fun d M' => Sub (Q d) M') (fun _ _ => False) (fun _ _ => False)) :
    Mki P w K mg base x Cc (k + 1) n dd sp := by
  obtain ⟨f, fd, dV, us, vs, h1, h2, h3, h4, h5, h6⟩ := T
  exact ⟨f, fd, ps, us, vs, h1, by rw [hn]; exact fn_okD h2 S hst hb h, h3, h4, h5, h6⟩
end
end G
namespace G
open PySem L2
/-! ### {k: v} -/
section
variable {X : Cy} {ρ : Ro} {M : Mm} {Q : DV → Mm → Prop} {kx vx : Expr} {pos : Pos}
theorem we_dict1 (h : ∀ p, WE X ρ ((p, .dk []) :: M) kx fun dk M1 => WE X ρ M1 vx fun dv M2 => ∃ i ky, AtM M2 i p (.dk []) ∧ dk = keyD ky ∧ Q (.ref p) (M2.set i (p, .dk [(ky, dv)]))) : WE X ρ M (.Dict [some kx] [vx] pos) Q := fun σ H rs m => by
  refine wE.of (pe_disp (pps_cons pe_w pe_w pps_nil) rfl rfl (by simp) (by simp)) fun p hp => ?_
  have s0 : Stay X.K H (upd H p (.dK [])) := Stay.new hp
  have m0 : RM X.K (upd H p (.dK [])) ((p, .dk []) :: M) := m.cons (q := .dk []) hp ⟨[], upd_same, .nil⟩
  show wE X kx σ _ _
  refine (h p σ _ (rs.mono s0) m0).mono fun u H1 ⟨dk, M1, k1, k2, k3, k4⟩ => ?_
  show wE X vx σ _ _
  refine (k4 σ H1 ((rs.mono s0).mono k3) k2).mono fun v H2 ⟨dv, M2, g1, g2, g3, i, ky, g4, g5, g6⟩ => ?_
  subst g5
  obtain ⟨vs, f1, f2⟩ := g2.at g4.ix
  cases f2
  have mu : Wr H2 p := wr_dk f1
  have eu : u = kV ky := by
    cases ky <;> cases k1 <;> rfl
  subst eu
  have st : Stay X.K H2 (upd H2 p (.dK [(ky, v)])) := Stay.write mu
  refine ⟨f1, [(ky, v)], rfl, by simp, ?_⟩
  exact ⟨.ref p, _, .ref p, g2.write (q' := .dk [(ky, dv)]) g4.ix mu ⟨_, upd_same, .cons (g1.mono st) .nil⟩, ((s0.trans k3).trans g3).trans st, g6⟩
def Dis1 (M : Mm) (p : Addr) (dk dv : DV) (S : Mm → Prop) : Prop := ∃ i ky, AtM M i p (.dk []) ∧ dk = keyD ky ∧ S (M.set i (p, .dk [(ky, dv)]))
instance {p : Addr} {i : Nat} {x : Str} {dv : DV} {S : Mm → Prop} [A : AtM M i p (.dk [])] : Step (Dis1 M p (.str x) dv S) true (S (M.set i (p, .dk [(.inr x, dv)]))) := ⟨fun _ q => ⟨i, .inr x, A, rfl, q⟩⟩
instance : Step (WE X ρ M (.Dict [some kx] [vx] pos) Q) true (∀ p, WE X ρ ((p, .dk []) :: M) kx fun dk M1 => WE X ρ M1 vx fun dv M2 => Dis1 M2 p dk dv (Q (.ref p))) := ⟨fun _ q => we_dict1 q⟩
end
end G
namespace G
open PySem L2
/-! ### exceptions: what leaves a body -/
abbrev EX := Addr → List (Str × DV) → Ro → Mm → Prop
/-- an exception of the class at C whose fields are fs, at the slots ρ -/
def LX (X : Cy) (E : EX) : WX := fun cls d σ H => ∃ C dd gs fs ρ M, cls = .ref C ∧ d = some dd ∧ H dd = some (.xd gs) ∧ RF X.K H fs gs ∧ RS X H ρ σ ∧ RM X.K H M ∧ E C fs ρ M
class Tk (X : Cy) (E : outParam EX) : Prop where
  tk : Takes X.toCx (LX X E)
theorem Tk.none {X : Cy} : Tk X (fun _ _ _ _ => False) := ⟨fun _ _ x => by
  obtain ⟨_, _, _, _, _, _, _, _, _, _, _, _, _, _, _, _, z⟩ := x
  obtain ⟨_, _, _, _, _, _, _, _, _, _, _, _, z⟩ := z
  exact z.elim⟩
/-- a promise with a way out -/
abbrev SpX := List DV → Mm → (DV → Mm → Prop) → (Addr → List (Str × DV) → Mm → Prop) → Prop
def sp1X (K : Fg) (n : Nat) (sp : SpX) : Sp := fun vs H Q E => ∃ ds M Q0 E0, RDs K H ds vs ∧ RM K H M ∧ ds.length = n ∧ sp ds M Q0 E0 ∧ (∀ d M', Q0 d M' → ∀ v H', RD K H' d v → RM K H' M' → Stay K H H' → Q v H') ∧
  ∀ C fs M', E0 C fs M' → ∀ dd gs H', H' dd = some (.xd gs) → RF K H' fs gs → RM K H' M' → Stay K H H' → E (.ref C) (some dd) H'
section
variable {P : Program} {w : World} {K : Fg} {mg : Str → Option Value} {base : Heap} {N L C Gs Bs : List Str} {k : Nat}
theorem fn_okDX {x qual : Str} {st : Stmt} {f : Addr} {fd : FuncData} {dV : Value} {ps : List Str} {sp : SpX} (F : FunD K x qual st f fd dV) (S : FnScope N ps (defScope st)) (hst : stat (defScope st) N L C Gs = true) (hb : ∀ x ∈ Bs, mg x = none)
    (h : ∀ X, Fx X P w K mg base (defScope st) N L C Gs Bs k → ∀ ds M Q E, ds.length = ps.length → sp ds M Q E → Tk X (fun Cc fs _ M' => Sub (E Cc fs) M') → WSs X (ini N ds) M (defBody st) (fun _ M' => Sub (Q .non) M') (fun d M' => Sub (Q d) M') (fun _ _ => False) (fun _ _ => False)) :
    FnOk P w K mg base (L2.CX P w) (k + 1) f fd ps (sp1X K ps.length sp) := by
  have T := stat_ok hst
  obtain ⟨oc, od, kV, doc, pm, an, cdv, ct, osl, rfl, lk, hcd⟩ := F.ex
  refine fn_of lk hcd S (fun vs H Q E ⟨ds, M, Q0, E0, h1, h2, h3, _⟩ => by rw [← h1.length]; exact h3) fun A outer s H vs Q E hr ⟨ds, M, Q0, E0, h1, h2, h3, h4, h5, h6⟩ => ?_
  refine ⟨_, pss_w, ?_⟩
  have hps : ps.length ≤ N.length := by have := congrArg List.length S.pre; rw [List.length_take] at this; omega
  have FX : Fx ⟨cxOf (L2.CX P w) P w K mg base N qual (defScope st) f cdv A outer s H E, H⟩ P w K mg base (defScope st) N L C Gs Bs k :=
    ⟨rfl, rfl, rfl, rfl, rfl, rfl, rfl, T.nd, T.loc, fun x hx => ⟨T.cel x hx, rfl⟩, T.kind, T.nob, T.gl, hb, rfl, hr, passes_of rfl⟩
  have TK : Tk ⟨cxOf (L2.CX P w) P w K mg base N qual (defScope st) f cdv A outer s H E, H⟩ (fun Cc fs _ M' => Sub (E0 Cc fs) M') :=
    ⟨(takes_of (E := E) rfl rfl rfl rfl).imp fun cls d σ' H' ⟨Cc, dd, gs, fs, ρ', M', e1, e2, e3, e4, e5, e6, M0, s0, q⟩ => by
      subst e1 e2
      exact h6 Cc fs M0 q dd gs H' e3 e4 (e6.less s0) e5.st⟩
  have W := h _ FX ds M Q0 E0 h3 h4 TK
  rw [ini_eq N ds (by rw [h3]; exact hps)] at W
  refine (W (start N vs) H (RS.start (X := ⟨cxOf (L2.CX P w) P w K mg base N qual (defScope st) f cdv A outer s H E, H⟩) Stay.refl (by rw [h3]; exact hps) (fun i y hi hy => ?_) h1) h2).mono (fun σ' H' ⟨ρ', M', q1, q2, q3, M0, q4, q5⟩ => ?_) (fun v H' ⟨d, M', q1, q2, q3, M0, q4, q5⟩ => ?_) (fun _ _ ⟨_, _, _, _, _, q⟩ => q) (fun _ _ ⟨_, _, _, _, _, q⟩ => q)
  · have hp : ps[i]? = some y := by
      rw [← S.pre, List.getElem?_take_of_lt (by rw [← h3]; exact hi)]
      exact hy
    rcases S.par y (List.mem_of_getElem? hp) with z | z
    · exact .inl z
    · exact .inr (.inl z)
  · exact h5 _ _ q5 _ _ .non (q2.less q4) q3
  · exact h5 _ _ q5 _ _ q1 (q2.less q4) q3
end
/-! ### classes whose __init__ may raise -/
class MkiX (P : Program) (w : World) (K : Fg) (mg : Str → Option Value) (base : Heap) (x : Str) (Cc : outParam Addr) (j : outParam Nat) (n : Nat) (dd : outParam (List DV)) (sp : outParam SpX) : Prop where
  ex : ∃ (f : Addr) (fd : FuncData) (ps : List Str) (us : List Value) (vs : List V), Mk K Cc f ∧ FnOk P w K mg base (L2.CX P w) j f fd ps (sp1X K (1 + n + dd.length) sp) ∧ mg x = some (.ref Cc) ∧ Binds K fd ps us ∧ Vals vs us ∧ ∀ H, RDs K H dd vs
/-- x(kn = e) -/
class MkiK (P : Program) (w : World) (K : Fg) (mg : Str → Option Value) (base : Heap) (x kn : Str) (Cc : outParam Addr) (j : outParam Nat) (sp : outParam SpX) : Prop where
  ex : ∃ (f : Addr) (fd : FuncData) (ps : List Str), Mk K Cc f ∧ FnOk P w K mg base (L2.CX P w) j f fd ps (sp1X K 2 sp) ∧ mg x = some (.ref Cc) ∧ KBn K fd ps 1 [kn] (fun us ws => us ++ ws) (fun us ws => us ++ ws)
def MkTk (K : Fg) (mg : Str → Option Value) (x kn : Str) (Cc : Addr) (qual : Str) (st : Stmt) (ps : List Str) : Prop := ∃ f fd dV, Mk K Cc f ∧ FunD K "__init__" qual st f fd dV ∧ mg x = some (.ref Cc) ∧ KBn K fd ps 1 [kn] (fun us ws => us ++ ws) (fun us ws => us ++ ws)
theorem mkiX_mk {P : Program} {w : World} {K : Fg} {mg : Str → Option Value} {base : Heap} {N L C Gs Bs : List Str} {k n : Nat} {x qual : Str} {st : Stmt} {ps : List Str} {Cc : Addr} {dd : List DV} {sp : SpX} (T : MkT K mg x Cc qual st ps dd) (S : FnScope N ps (defScope st)) (hst : stat (defScope st) N L C Gs = true) (hb : ∀ x ∈ Bs, mg x = none) (hn : 1 + n + dd.length = ps.length)
    (h : ∀ X, Fx X P w K mg base (defScope st) N L C Gs Bs k → ∀ ds M Q E, ds.length = ps.length → sp ds M Q E → Tk X (fun Cc fs _ M' => Sub (E Cc fs) M') → WSs X (ini N ds) M (defBody st) (fun _ M' => Sub (Q .non) M') (fun d M' => Sub (Q d) M') (fun _ _ => False) (fun _ _ => False)) :
    MkiX P w K mg base x Cc (k + 1) n dd sp := by
  obtain ⟨f, fd, dV, us, vs, h1, h2, h3, h4, h5, h6⟩ := T
  exact ⟨f, fd, ps, us, vs, h1, by rw [hn]; exact fn_okDX h2 S hst hb h, h3, h4, h5, h6⟩
theorem mkiK_mk {P : Program} {w : World} {K : Fg} {mg : Str → Option Value} {base : Heap} {N L C Gs Bs : List Str} {k : Nat} {x kn qual : Str} {st : Stmt} {ps : List Str} {Cc : Addr} {sp : SpX} (T : MkTk K mg x kn Cc qual st ps) (S : FnScope N ps (defScope st)) (hst : stat (defScope st) N L C Gs = true) (hb : ∀ x ∈ Bs, mg x = none) (hn : 2 = ps.length)
    (h : ∀ X, Fx X P w K mg base (defScope st) N L C Gs Bs k → ∀ ds M Q E, ds.length = ps.length → sp ds M Q E → Tk X (fun Cc fs _ M' => Sub (E Cc fs) M') → WSs X (ini N ds) M (defBody st) (fun _ M' => Sub (Q .non) M') (fun d M' => Sub (Q d) M') (fun _ _ => False) (fun _ _ => False)) :
    MkiK P w K mg base x kn Cc (k + 1) sp := by
  obtain ⟨f, fd, dV, h1, h2, h3, h4⟩ := T
  exact ⟨f, fd, ps, h1, by rw [hn]; exact fn_okDX h2 S hst hb h, h3, h4⟩
section
variable {X : Cy} {P : Program} {w : World} {K : Fg} {mg : Str → Option Value} {base : Heap} {sc : Scope} {N L C Gs Bs : List Str} {k j n : Nat} {ρ : Ro} {M : Mm} {Q : DV → Mm → Prop} {e : Expr} {es : List Expr} {pos p : Pos} {x : Str} {sp : SpX} {Cc : Addr} {dd : List DV} {E : EX}
/-- a new instance at q whose __init__ keeps sp, E' taken at the slots -/
theorem sp_madeX {H : Hp} {q dx : Addr} {ds : List DV} {vs : List V} {E' : XK} {E0 : Addr → List (Str × DV) → Mm → Prop} (m : RM K H M) (hq : H q = none) (hd : H dx = none) (hne : dx ≠ q) (r : RDs K H ds vs) (h : sp (.ref q :: ds) ((q, .ins Cc []) :: M) (fun d M' => d = .non ∧ Q (.ref q) M') E0) (hl : 1 + ds.length = n)
    (hE : ∀ C fs M', E0 C fs M' → ∀ dd gs H', H' dd = some (.xd gs) → RF K H' fs gs → RM K H' M' → Stay K H H' → E' (.ref C) (some dd) H') :
    sp1X K n sp (.ref q :: vs) (upd (upd H dx (.own q)) q (.ins Cc dx [])) (fun v H2 => v = .non ∧ LE K H Q (.ref q) H2) E' := by
  have s1 : Stay K H (upd H dx (.own q)) := Stay.new hd
  have hq' : upd H dx (.own q) q = none := by rw [upd_ne (Ne.symm hne)]; exact hq
  have s2 : Stay K (upd H dx (.own q)) (upd (upd H dx (.own q)) q (.ins Cc dx [])) := Stay.new hq'
  refine ⟨.ref q :: ds, (q, .ins Cc []) :: M, _, E0, .cons (.ref q) (r.mono (s1.trans s2)), (m.new hd).cons hq' ⟨_, [], upd_same, .nil⟩, by rw [List.length_cons]; omega, h, fun d M' z v H' r1 r2 r3 => ?_, fun C fs M' z dd gs H' e1 e2 e3 st => hE C fs M' z dd gs H' e1 e2 e3 ((s1.trans s2).trans st)⟩
  obtain ⟨z1, z2⟩ := z
  subst z1
  cases r1
  exact ⟨rfl, .ref q, M', .ref q, r2, (s1.trans s2).trans r3, z2⟩
/-- x(), nothing raised -/
theorem we_makeX0 (F : Fx X P w K mg base sc N L C Gs Bs k) (G : MkiX P w K mg base x Cc j 0 dd sp) (hj : j + 1 ≤ k) (hx : x ∈ Gs) (h : ∀ q, sp (.ref q :: dd) ((q, .ins Cc []) :: M) (fun d M' => d = .non ∧ Q (.ref q) M') (fun _ _ _ => False)) : WE X ρ M (.Call (.Name x p) [] [] pos) Q := fun σ H rs m => by
  obtain ⟨f, fd, ps, us, vs, Mm, G, hm, hb, hv, hd⟩ := G.ex
  obtain ⟨g1, g2, g3⟩ := F.gl x hx
  have eP := F.hP; have ew := F.hw; have eK := F.hK; have eg := F.hmg; have eb := F.hbase
  subst eP ew eK eg eb
  refine wE.of (pe_make0 (E := E0) Mm G (F.room.mono hj) g1 hm hb hv passL g2) ?_
  intro q dx hq hdx hne
  exact sp_madeX m hq hdx hne (hd H) (h q) (by omega) fun _ _ _ z => z.elim
/-- x(kw = e), nothing raised -/
theorem we_makeXk {kn : Str} {kp : Pos} (F : Fx X P w K mg base sc N L C Gs Bs k) (G : MkiK P w K mg base x kn Cc j sp) (hj : j + 1 ≤ k) (hx : x ∈ Gs)
    (h : WE X ρ M e fun d M1 => ∀ q, sp [.ref q, d] ((q, .ins Cc []) :: M1) (fun d M' => d = .non ∧ Q (.ref q) M') (fun _ _ _ => False)) : WE X ρ M (.Call (.Name x p) [] [⟨some kn, e, kp⟩] pos) Q := fun σ H rs m => by
  obtain ⟨f, fd, ps, Mm, G, hm, kb⟩ := G.ex
  obtain ⟨g1, g2, g3⟩ := F.gl x hx
  have eP := F.hP; have ew := F.hw; have eK := F.hK; have eg := F.hmg; have eb := F.hbase
  subst eP ew eK eg eb
  refine wE.of (pe_makeK0 (E := E0) Mm G (F.room.mono hj) g1 hm kb passL (pk_cons pe_w pk_nil) rfl rfl g2 rfl) ?_
  refine (h σ H rs m).mono fun v H1 ⟨d, M1, k1, k2, k3, k4⟩ => ?_
  refine ⟨rfl, rfl, fun q dx hq hdx hne => ?_⟩
  have z := sp_madeX (E' := E0) (ds := [d]) (vs := [v]) (Q := Q) k2 hq hdx hne (.cons k1 .nil) (k4 q) (n := 2) rfl fun _ _ _ z => z.elim
  obtain ⟨ds', M', Q0, E1, z1, z2, z3, z4, z5, z6⟩ := z
  exact ⟨ds', M', Q0, E1, z1, z2, z3, z4, fun d M2 a v H2 b c st => let ⟨y1, y2⟩ := z5 d M2 a v H2 b c st; ⟨y1, y2.stay k3⟩, z6⟩
/-- a class is called, what is raised is wished for at the slots σ -/
theorem run_makeX {X : Cx} {CX : CXT} {f : Addr} {fd : FuncData} {ps : List Str} {sp : Sp} {dvs : List V} {ds : List Value} {E : XK} {pins : List (Addr × Obj)} {σ : L2.St} {H : Hp} {s : Shared} {Q : VK} {us : List Value} {vs : List V} (Mc : Mk X.K Cc f) (F : FnOk X.prog X.w X.K X.mg X.base CX k f fd ps sp) (hr : Room (k + 1) X.A)
    (hb : Binds X.K fd ps ds) (hd : Vals dvs ds) (hx : PassesAt CX X σ E) (I : Inv X pins σ H s) (r : Vals vs us) (h : ∀ x dx, H x = none → H dx = none → dx ≠ x → sp (.ref x :: (vs ++ dvs)) (upd (upd H dx (.own x)) x (.ins Cc dx [])) (fun v H2 => v = .non ∧ Q (.ref x) H2) E) :
    wpAny (model X.prog X.w) X.A (call (.ref Cc) us) (EP X pins σ Q) X.xe s := by
  have want := h (s.heap.objs.size + 1) s.heap.objs.size (I.hok.fresh (Nat.le_succ _)) (I.hok.fresh (Nat.le_refl _)) (Nat.ne_of_lt (Nat.lt_succ_self _))
  have J := Inv.made (C := Cc) I
  have rr : Vals (V.ref (s.heap.objs.size + 1) :: (vs ++ dvs)) (Value.ref (s.heap.objs.size + 1) :: (us ++ ds)) := .cons rfl (r.append hd)
  have len : (Value.ref (s.heap.objs.size + 1) :: us ++ ds).length = ps.length := (rr.length.symm.trans (F.len _ _ _ _ want) : _)
  refine wpAny_call (make_map (f := f) I.kIn Mc.makes Mc.init (beq_iff_eq.mp Mc.fn) (codeAny_mono (F.run _ X.stack _ _ ⟨Value.ref (s.heap.objs.size + 1) :: us, []⟩ (Value.ref (s.heap.objs.size + 1) :: (us ++ ds)) _ _ E (hr.make Cc us []) (J.env0.make Cc us []) (hb _ (Value.ref (s.heap.objs.size + 1) :: us) J.kIn len) rr want) fun res s' end_ => ?_))
  match res, end_ with
  | .error e, z => exact hx pins _ _ e s' J z
  | .ok (.ret u), z =>
    obtain ⟨v, H', J3, rv, ev, q3⟩ := J.after z
    subst ev
    exact ⟨rv, ⟨V.ref (s.heap.objs.size + 1), H', J3, rfl, q3⟩⟩
  | .ok .next, z => exact False.elim z
  | .ok .brk, z => exact False.elim z
  | .ok .cont, z => exact False.elim z
theorem LX.of {H H' : Hp} {σ : L2.St} {Cx dx : Addr} {gs : List (Str × V)} {fs : List (Str × DV)} {M' : Mm} (rs : RS X H ρ σ) (st : Stay X.K H H') (e1 : H' dx = some (.xd gs)) (e2 : RF X.K H' fs gs) (e3 : RM X.K H' M') (h : E Cx fs ρ M') : LX X E (.ref Cx) (some dx) σ H' :=
  ⟨Cx, dx, gs, fs, ρ, M', rfl, rfl, e1, e2, rs.mono st, e3, h⟩
/-- x(e, ..) -/
theorem we_makeX (F : Fx X P w K mg base sc N L C Gs Bs k) (T : Tk X E) (G : MkiX P w K mg base x Cc j n dd sp) (hj : j + 1 ≤ k) (hx : x ∈ Gs) (hs : noStars (e :: es) = true) (h : WA X ρ M (e :: es) fun ds M1 => ds.length = n ∧ ∀ q, sp (.ref q :: (ds ++ dd)) ((q, .ins Cc []) :: M1) (fun d M' => d = .non ∧ Q (.ref q) M') (fun C fs M' => E C fs ρ M')) : WE X ρ M (.Call (.Name x p) (e :: es) [] pos) Q := fun σ H rs m pins s I => by
  obtain ⟨f, fd, ps, us, vs, Mm, G, hm, hb, hv, hd⟩ := G.ex
  obtain ⟨g1, g2, g3⟩ := F.gl x hx
  obtain ⟨h1, h2⟩ := noStars_cons hs
  have tk := T.tk
  have eP := F.hP; have ew := F.hw; have eK := F.hK; have eg := F.hmg; have eb := F.hbase
  subst eP ew eK eg eb
  refine wpAny_Call_Name_kw (ld_glob I g1 hm ?_ g2)
  refine PySem.W.callWith_K (h₀ := X.base) I.ok.mod.kin Mm.kp (thn (pa_w.run pos pins s σ H _ I (h σ H rs m)) fun ws s1 ⟨xs, H1, I1, rx, ds, M1, k1, k2, k3, k4, k5⟩ => ⟨I1.kIn, ?_⟩) (starEach_cons h1) (noStars_any h2)
  refine run_makeX (E := fun cls d H' => LX X E cls d σ H') Mm G (F.room.mono hj) hb hv (passAt tk σ) I1 rx fun q dx hq hdx hne => ?_
  have z := sp_madeX (Q := Q) (E' := fun cls d H' => LX X E cls d σ H') k2 hq hdx hne (k1.append (hd H1)) (k5 q) (n := 1 + n + dd.length) (by rw [List.length_append]; omega) fun C fs M' z dd gs H' e1 e2 e3 st => LX.of (rs.mono k3) st e1 e2 e3 z
  obtain ⟨ds', M', Q0, E1, z1, z2, z3, z4, z5, z6⟩ := z
  exact ⟨ds', M', Q0, E1, z1, z2, z3, z4, fun d M2 a v H2 b c st => let ⟨y1, y2⟩ := z5 d M2 a v H2 b c st; ⟨y1, y2.stay k3⟩, z6⟩
end
end G
namespace G
open PySem L2
/-! ### exceptions with one field -/
def spI (f : Str) (C : Addr) : Sp := fun vs H Q _ => ∃ a v, vs = [.ref a, v] ∧ H a = some (exo a C none) ∧ ∀ dx, H dx = none → dx ≠ a → Q .non (upd (upd H dx (exd dx [(f, v)])) a (exo a C (some dx)))
/-- an exception class x, at C, of one field f -/
class ExC (P : Program) (w : World) (K : Fg) (mg : Str → Option Value) (base : Heap) (x : Str) (C : outParam Addr) (f : outParam Str) : Prop where
  oex : OexC K C
  xf : XfC K C
  no : PySem.W.findIn K (.ref C) f = some none
  gm : mg x = some (.ref C)
  fn : ∃ fI fd, PySem.W.findIn K (.ref C) "__init__" = some (some (.ref fI)) ∧ PySem.W.typeIn K (.ref fI) = some (.type "function") ∧ FnOk P w K mg base CX0 1 fI fd ["self", f] (spI f C) ∧ Binds K fd ["self", f] []
def ExT (K : Fg) (mg : Str → Option Value) (x f qual : Str) (C : Addr) (st : Stmt) : Prop := OexC K C ∧ XfC K C ∧ PySem.W.findIn K (.ref C) f = some none ∧ mg x = some (.ref C) ∧ ∃ fI fd, PySem.W.findIn K (.ref C) "__init__" = some (some (.ref fI)) ∧ PySem.W.typeIn K (.ref fI) = some (.type "function") ∧ Fun K "__init__" qual st fI fd ∧ Binds K fd ["self", f] []
theorem exc_mk {P : Program} {w : World} {K : Fg} {mg : Str → Option Value} {base : Heap} {x f qual : Str} {C : Addr} {st : Stmt} (T : ExT K mg x f qual C st) (S : FnScope ["self", f] ["self", f] (defScope st)) {q1 q2 q3 q4 : Pos} (hb : defBody st = [.Assign [.Attribute (.Name "self" q1) f q2] (.Name f q3) q4]) (l1 : (defScope st).names.lookup ("self" : Str) = some .local) (l2 : (defScope st).names.lookup f = some .local)
    (n1 : (f == ("__debug__" : Str)) = false) (n2 : (f == ("__classdict__" : Str)) = false) : ExC P w K mg base x C f := by
  obtain ⟨t1, t2, t3, t4, fI, fd, t5, t6, t7, t8⟩ := T
  refine ⟨t1, t2, t3, t4, fI, fd, t5, t6, ?_, t8⟩
  refine t7.ok S (fun vs H Q E ⟨a, v, e, _⟩ => by rw [e]; rfl) fun cdv A outer s H vs Q E hr ⟨a, v, e, h1, h2⟩ => ?_
  subst e
  rw [hb]
  refine ⟨_, pss_one (ps_ost (pe_var (i := 0) rfl (.inl l1) (by decide) (by decide)) (pe_var (i := 1) rfl (.inl l2) n1 n2)), ?_⟩
  exact ⟨v, rfl, .ref a, rfl, a, C, rfl, t1, t3, .inl ⟨h1, h2⟩⟩
section
variable {X : Cy} {P : Program} {w : World} {K : Fg} {mg : Str → Option Value} {base : Heap} {sc : Scope} {N L C Gs Bs : List Str} {k : Nat} {ρ : Ro} {M : Mm} {Q : DV → Mm → Prop} {e o : Expr} {pos p pos2 : Pos} {x f n : Str} {E : EX} {Cc : Addr} {nx bk ct : Ro → Mm → Prop} {rt : DV → Mm → Prop}
theorem ws_raise1 (F : Fx X P w K mg base sc N L C Gs Bs k) (T : Tk X E) (G : ExC P w K mg base x Cc f) (hj : 2 ≤ k) (hx : x ∈ Gs) (hs : isStar e = false) (h : WE X ρ M e fun d M1 => E Cc [(f, d)] ρ M1) : WS X ρ M (.Raise (some (.Call (.Name x p) [e] [] pos)) none pos2) nx rt bk ct := fun σ H rs m => by
  obtain ⟨fI, fd, t5, t6, t7, t8⟩ := G.fn
  have t1 := G.oex; have t4 := G.gm
  obtain ⟨g1, g2, g3⟩ := F.gl x hx
  have tk := T.tk
  have eP := F.hP; have ew := F.hw; have eK := F.hK; have eg := F.hmg; have eb := F.hbase
  subst eP ew eK eg eb
  refine wS.of (ps_raise F.calm tk (pmk_oex t1 t5 t6 t7 (F.room.mono hj) t8 .nil pass0 g1 t4 (pa_cons pe_w pa_nil (starEach_cons hs)) g2 (starEach_cons hs) rfl)) ?_
  refine (h σ H rs m).mono fun v H1 ⟨d, M1, k1, k2, k3, k4⟩ => ?_
  refine ⟨by simp, fun a ha => ⟨a, v, rfl, upd_same, fun dx hdx hne => ⟨rfl, dx, [(f, v)], upd_same, by rw [upd_ne hne, upd_same], ?_, ?_⟩⟩⟩
  · rw [upd_ne hne] at hdx
    exact hdx
  · rw [upd_ne hne] at hdx
    have eH : upd (del (upd (upd (upd H1 a (exo a Cc none)) dx (exd dx [(f, v)])) a (exo a Cc (some dx))) a) dx (.xd [(f, v)]) = upd H1 dx (.xd [(f, v)]) := by
      funext b
      by_cases hb : b = dx
      · subst hb; rw [upd_same, upd_same]
      · rw [upd_ne hb, upd_ne hb]
        by_cases ha2 : b = a
        · subst ha2; rw [del_same, ha]
        · rw [del_ne ha2, upd_ne ha2, upd_ne hb, upd_ne ha2]
    rw [eH]
    exact LX.of (rs.mono k3) (Stay.new hdx) upd_same (.cons (k1.mono (Stay.new hdx)) .nil) (k2.new hdx) k4
instance [F : Fx X P w K mg base sc N L C Gs Bs k] [T : Tk X E] [G : ExC P w K mg base x Cc f] [mm : MemC x Gs] : Step (WS X ρ M (.Raise (some (.Call (.Name x p) [e] [] pos)) none pos2) nx rt bk ct) (Nat.ble 2 k && !isStar e) (WE X ρ M e fun d M1 => E Cc [(f, d)] ρ M1) := ⟨fun h q => by
  simp only [Bool.and_eq_true] at h
  exact ws_raise1 F T G (Nat.le_of_ble_eq_true h.1) mm.h (by simpa using h.2) q⟩
/-! ### an except clause's suite -/
/-- the static facts within a suite -/
class Fs (X : Cy) (K : outParam Fg) (mg : outParam (Str → Option Value)) (sc : outParam Scope) (N L Gs Bs : outParam (List Str)) : Prop where
  hK : X.K = K
  hmg : X.mg = mg
  hN : X.N = N
  hsc : X.env.scope = sc
  nd : N.Nodup
  loc : ∀ x ∈ L, X.env.scope.names.lookup x = some .local
  nob : ∀ x ∈ N, (x == ("__debug__" : Str)) = false ∧ (x == ("__classdict__" : Str)) = false
  gl : ∀ x ∈ Gs, Gl X x ∧ (x == ("__debug__" : Str)) = false ∧ x ≠ "__name__"
  bl : ∀ x ∈ Bs, mg x = none
  un : X.A.units + 200 < cLine
/-- the exception that a suite holds: at a, of the class at C, its fields fs -/
class Exv (X : Cy) (a : Addr) (C : outParam Addr) (fs : outParam (List (Str × DV))) : Prop where
  ex : ∃ (Y : Cx) (oe : Obj) (pn : List (Addr × Obj)) (dd : Addr) (gs : List (Str × V)), X.toCx = Y.suite a ((a, oe) :: pn) ∧ Zc (.ref C) (some dd) oe ∧ (∃ vs, oe.data = .fields vs) ∧ X.anc dd = some (.xd gs) ∧ RF X.K X.anc fs gs
theorem we_nameS {d : DV} (F : Fs X K mg sc N L Gs Bs) (h : At N ρ x d) (q : Q d M) : WE X ρ M (.Name x pos) Q := fun σ H r m => by
  obtain ⟨i, h1, h2⟩ := h.ix
  obtain ⟨⟨y, n1, n2⟩, v, n3, n4⟩ := r.get i d h2
  have hx : x ∈ N := List.mem_of_getElem? h1
  have h1' : X.N[i]? = some x := by rw [F.hN]; exact h1
  have e : y = x := by rw [n1] at h1'; exact Option.some.inj h1'
  subst e
  exact wE.of (pe_var h1' n2 (F.nob y hx).1 (F.nob y hx).2) ⟨v, n3, d, M, n4, m, Stay.refl, q⟩
theorem we_exf {a : Addr} {fs : List (Str × DV)} (Ev : Exv X a Cc fs) (T : XfC X.K Cc) (hno : PySem.W.findIn X.K (.ref Cc) f = some none) (ho : notCall o = true) (h : WE X ρ M o fun x M1 => x = .ref a ∧ ∃ d, fs.lookup f = some d ∧ Q d M1) : WE X ρ M (.Attribute o f pos) Q := fun σ H rs m => by
  obtain ⟨Y, oe, pn, dd, gs, e1, e2, e3, e4, e5⟩ := Ev.ex
  have hs := rs.st
  have W := h σ H rs m
  obtain ⟨X0, anc⟩ := X
  have e1 : X0 = Y.suite a ((a, oe) :: pn) := e1
  subst e1
  have T' : XfC Y.K Cc := T
  refine wE.of (pe_xf T' hno e2 e3 pe_w (attrBase ho)) ?_
  refine W.mono fun v H1 ⟨x, M1, k1, k2, k3, k4, d, k5, k6⟩ => ?_
  subst k4
  cases k1
  have st : Stay Y.K anc H1 := hs.trans k3
  obtain ⟨u, u1, u2⟩ := (RF.mono st e5).lookup_some k5
  exact ⟨rfl, rfl, dd, gs, u, rfl, st.xd _ _ e4, u1, d, M1, u2, k2, k3, k6⟩
/-- a name is set -/
theorem wg_nameS {d : DV} {ρ' : Ro} (F : Fs X K mg sc N L Gs Bs) (hx : x ∈ L) (h : Put d N ρ x ρ') (q : nx ρ' M) : WG X ρ M (.Name x pos) d nx := fun σ H v rs m r => by
  obtain ⟨i, h1, h2⟩ := h.ix
  have hi : X.N[i]? = some x := by rw [F.hN]; exact h1
  have hl := F.loc x hx
  subst h2
  intro pins s u I ru
  exact (pg_name (i := i) (by rw [F.hN]; exact F.nd) hi (.inl hl) (.inr hl)).run pins s σ H v u _ I ru ⟨_, M, rs.put hi (.inl hl) r, m, Stay.refl, q⟩
instance [F : Fs X K mg sc N L Gs Bs] {d : DV} [A : At N ρ x d] : Step (WE X ρ M (.Name x pos) Q) true (Q d M) := ⟨fun _ q => we_nameS F A q⟩
instance [F : Fs X K mg sc N L Gs Bs] {d : DV} {ρ' : Ro} [ml : MemC x L] [A : Put d N ρ x ρ'] : Step (WG X ρ M (.Name x pos) d nx) true (nx ρ' M) := ⟨fun _ q => wg_nameS F ml.h A q⟩
/-- what an exception class must have for its instances' fields to be read -/
class XfF (K : Fg) (C : Addr) (f : Str) : Prop where
  xf : XfC K C
  no : PySem.W.findIn K (.ref C) f = some none
instance {a : Addr} {fs : List (Str × DV)} [F : Fs X K mg sc N L Gs Bs] [Ev : Exv X a Cc fs] [T : XfF K Cc f] {y : Str} [A : At N ρ y (.ref a)] : Step (WE X ρ M (.Attribute (.Name y p) f pos) Q) true (∃ d, fs.lookup f = some d ∧ Q d M) := ⟨fun _ q =>
  we_exf Ev (by rw [F.hK]; exact T.xf) (by rw [F.hK]; exact T.no) rfl (we_nameS F A ⟨rfl, q⟩)⟩
/-! ### try -/
/-- the context of a def's own body -/
class Dfn (X : Cy) : Prop where
  hs : X.stack = X.env :: X.outer
  hf : X.env.frame = some X.env.locals
theorem RS.re {Y X : Cy} {H : Hp} {ρ : Ro} {σ : L2.St} (r : RS Y H ρ σ) (st : Stay X.K X.anc H) (hN : X.N = Y.N) (he : X.env.scope = Y.env.scope) (hK : X.K = Y.K) : RS X H ρ σ := ⟨st, r.len, fun i d h => by
  obtain ⟨a, v, b, c⟩ := r.get i d h
  rw [hN, he, hK]
  exact ⟨a, v, b, c⟩⟩
theorem RS.drop {X : Cy} {H : Hp} {ρ : Ro} {σ : L2.St} (i : Nat) (r : RS X H ρ σ) : RS X H (ρ.set i none) (σ.set i none) := ⟨r.st, by rw [List.length_set, List.length_set]; exact r.len, fun j d h => by
  rw [List.getElem?_set] at h
  split at h
  · split at h <;> cases h
  · rename_i hne
    obtain ⟨a, v, b, c⟩ := r.get j d h
    exact ⟨a, v, by rw [List.getElem?_set_ne hne]; exact b, c⟩⟩
theorem Fs.of_suite {a : Addr} {pn : List (Addr × Obj)} {H : Hp} (F : Fx X P w K mg base sc N L C Gs Bs k) : Fs ⟨X.toCx.suite a pn, H⟩ K mg sc N L Gs Bs := ⟨F.hK, F.hmg, F.hN, F.hsc, F.nd, F.loc, F.nob, F.gl, F.bl, by have := F.room.un; show X.A.units + 200 < cLine; omega⟩
/-- the wish of a try with one clause 'except x as n' -/
def tryAs (K : Fg) (mg : Str → Option Value) (sc : Scope) (N L Gs Bs : List Str) (Cx : Addr) (i : Nat) (suite : List Stmt) (gz : Option (List Code)) (nx : Ro → Mm → Prop) (rt : DV → Mm → Prop) (bk ct : Ro → Mm → Prop) (E : EX) : EX := fun C fs ρ' M' =>
  (PySem.W.exmOne K (.ref C) (.ref Cx) = some true ∧ ∀ Y a, Fs Y K mg sc N L Gs Bs → Y.A.guards = gz → Exv Y a C fs → WSs Y (ρ'.set i (some (.ref a))) M' suite (fun ρ2 M2 => nx (ρ2.set i none) M2) rt (fun ρ2 M2 => bk (ρ2.set i none) M2) (fun ρ2 M2 => ct (ρ2.set i none) M2)) ∨
    (PySem.W.exmOne K (.ref C) (.ref Cx) = some false ∧ E C fs ρ' M')
def tryOnly (K : Fg) (mg : Str → Option Value) (sc : Scope) (N L Gs Bs : List Str) (Cx : Addr) (suite : List Stmt) (gz : Option (List Code)) (nx : Ro → Mm → Prop) (rt : DV → Mm → Prop) (bk ct : Ro → Mm → Prop) (E : EX) : EX := fun C fs ρ' M' =>
  (PySem.W.exmOne K (.ref C) (.ref Cx) = some true ∧ ∀ Y, Fs Y K mg sc N L Gs Bs → Y.A.guards = gz → WSs Y ρ' M' suite nx rt bk ct) ∨ (PySem.W.exmOne K (.ref C) (.ref Cx) = some false ∧ E C fs ρ' M')
/-- a suite's context beside its frame's -/
structure Nrr (X X' : Cy) : Prop where
  s0 : X'.s_0 = X.s_0
  h0 : X'.H_0 = X.H_0
  ou : X'.outer = X.outer
  ex : X'.ex = X.ex
  kk : X'.K = X.K
  st : Stay X.K X.anc X'.anc
theorem ws_tryAsN {i : Nat} {body suite : List Stmt} {b₀ : Stmt} {np pos' : Pos} {Cx : Addr} (F : Fx X P w K mg base sc N L C Gs Bs k) (D : Dfn X) (T : Tk X E) (hx : x ∈ Gs) (hm : mg x = some (.ref Cx)) (hn : n ∈ L) (hi : N[i]? = some n)
    (h : ∀ X', Fx X' P w K mg base sc N L C Gs Bs k → Nrr X X' → X'.A.guards = X.A.guards → Tk X' (tryAs K mg sc N L Gs Bs Cx i (b₀ :: suite) X.A.guards nx rt bk ct E) → WSs X' ρ M body nx rt bk ct) :
    WS X ρ M (.Try body [.ExceptHandler (some (.Name x np)) (some n) (b₀ :: suite) pos'] [] [] pos) nx rt bk ct := fun σ H rs m => by
  obtain ⟨g1, g2, g3⟩ := F.gl x hx
  have hi' : X.N[i]? = some n := by rw [F.hN]; exact hi
  have hln := F.loc n hn
  refine wS.of (ps_try_as (i := i) (tb := fun W D σ H => ∀ pn xe, Takes (X.toCx.tr pn xe) W → PassesOwn (model X.prog X.w) X.A X.env xe → wSs (X.toCx.tr pn xe) body D σ H)
    (ts := fun a cls d D σ H => ∀ oe pn, Zc cls d oe → (∃ vs, oe.data = .fields vs) → wSs (X.toCx.suite a ((a, oe) :: pn)) (b₀ :: suite) D σ H) (Wout := LX X E) D.hs D.hf (by rw [F.hN]; exact F.nd) hi' hln ⟨g1, g2, .inl (by rw [F.hmg]; exact hm)⟩ T.tk
    (fun W pn xe tk pp => ⟨fun pins s σ H D I h => h pn xe tk pp pins s I⟩) (fun a oe cls d pn hz hf => ⟨fun pins s σ H D I h => h oe pn hz hf pins s I⟩)) ?_
  intro pn xe tk pp
  have F' : Fx ⟨X.toCx.tr pn xe, H⟩ P w K mg base sc N L C Gs Bs k := ⟨F.hP, F.hw, F.hK, F.hmg, F.hbase, F.hN, F.hsc, F.nd, F.loc, F.cel, F.kind, F.nob, F.gl, F.bl, F.calm, F.room, pp⟩
  have T' : Tk ⟨X.toCx.tr pn xe, H⟩ (tryAs K mg sc N L Gs Bs Cx i (b₀ :: suite) X.A.guards nx rt bk ct E) := ⟨tk.imp fun cls d σ' H' ⟨Cc, dd, gs, fs, ρ', M', e1, e2, e3, e4, e5, e6, e7⟩ => by
    subst e1 e2
    have sx : Stay X.K H H' := e5.st
    have rx : RS X H' ρ' σ' := e5.re (X := X) (rs.st.trans sx) rfl rfl rfl
    rcases e7 with ⟨hex, hsu⟩ | ⟨hex, hout⟩
    · refine ⟨true, by rw [F.hK]; exact hex, fun _ a ha oe pn2 hz hfd => ?_, fun z => Bool.noConfusion z⟩
      have Fy : Fs ⟨X.toCx.suite a ((a, oe) :: pn2), H'⟩ K mg sc N L Gs Bs := Fs.of_suite F
      have Ey : Exv ⟨X.toCx.suite a ((a, oe) :: pn2), H'⟩ a Cc fs := ⟨X.toCx, oe, pn2, dd, gs, rfl, hz, hfd, e3, e4⟩
      have ry : RS ⟨X.toCx.suite a ((a, oe) :: pn2), H'⟩ H' (ρ'.set i (some (.ref a))) (σ'.set i (some (.ref a))) := (rx.re (X := ⟨X.toCx.suite a ((a, oe) :: pn2), H'⟩) Stay.refl rfl rfl rfl).put hi' (.inl hln) (.ref a)
      refine (hsu _ a Fy rfl Ey _ H' ry e6).mono (fun σ2 H2 ⟨ρ2, M2, a1, a2, a3, a4⟩ => ?_) (fun v H2 ⟨d2, M2, a1, a2, a3, a4⟩ => ?_) (fun σ2 H2 ⟨ρ2, M2, a1, a2, a3, a4⟩ => ?_) (fun σ2 H2 ⟨ρ2, M2, a1, a2, a3, a4⟩ => ?_)
      · exact ⟨_, M2, (a1.re (X := X) (rx.st.trans a3) rfl rfl rfl).drop i, a2, sx.trans a3, a4⟩
      · exact ⟨d2, M2, a1, a2, sx.trans a3, a4⟩
      · exact ⟨_, M2, (a1.re (X := X) (rx.st.trans a3) rfl rfl rfl).drop i, a2, sx.trans a3, a4⟩
      · exact ⟨_, M2, (a1.re (X := X) (rx.st.trans a3) rfl rfl rfl).drop i, a2, sx.trans a3, a4⟩
    · exact ⟨false, by rw [F.hK]; exact hex, fun z => Bool.noConfusion z, fun _ => ⟨Cc, dd, gs, fs, ρ', M', rfl, rfl, e3, e4, rx, e6, hout⟩⟩⟩
  have r0 : RS ⟨X.toCx.tr pn xe, H⟩ H ρ σ := rs.re (X := ⟨X.toCx.tr pn xe, H⟩) Stay.refl rfl rfl rfl
  refine (h _ F' ⟨rfl, rfl, rfl, rfl, rfl, rs.st⟩ rfl T' σ H r0 m).mono (fun σ2 H2 ⟨ρ2, M2, a1, a2, a3, a4⟩ => ?_) (fun v H2 z => z) (fun σ2 H2 ⟨ρ2, M2, a1, a2, a3, a4⟩ => ?_) (fun σ2 H2 ⟨ρ2, M2, a1, a2, a3, a4⟩ => ?_)
  · exact ⟨_, M2, a1.re (X := X) (rs.st.trans a3) rfl rfl rfl, a2, a3, a4⟩
  · exact ⟨_, M2, a1.re (X := X) (rs.st.trans a3) rfl rfl rfl, a2, a3, a4⟩
  · exact ⟨_, M2, a1.re (X := X) (rs.st.trans a3) rfl rfl rfl, a2, a3, a4⟩
theorem ws_tryOnlyN {body suite : List Stmt} {b₀ : Stmt} {np pos' : Pos} {Cx : Addr} (F : Fx X P w K mg base sc N L C Gs Bs k) (D : Dfn X) (T : Tk X E) (hx : x ∈ Gs) (hm : mg x = some (.ref Cx))
    (h : ∀ X', Fx X' P w K mg base sc N L C Gs Bs k → Nrr X X' → X'.A.guards = X.A.guards → Tk X' (tryOnly K mg sc N L Gs Bs Cx (b₀ :: suite) X.A.guards nx rt bk ct E) → WSs X' ρ M body nx rt bk ct) :
    WS X ρ M (.Try body [.ExceptHandler (some (.Name x np)) none (b₀ :: suite) pos'] [] [] pos) nx rt bk ct := fun σ H rs m => by
  obtain ⟨g1, g2, g3⟩ := F.gl x hx
  refine wS.of (ps_try_only (tb := fun W D σ H => ∀ pn xe, Takes (X.toCx.tr pn xe) W → PassesOwn (model X.prog X.w) X.A X.env xe → wSs (X.toCx.tr pn xe) body D σ H)
    (ts := fun a cls d D σ H => ∀ oe pn, Zc cls d oe → (∃ vs, oe.data = .fields vs) → wSs (X.toCx.suite a ((a, oe) :: pn)) (b₀ :: suite) D σ H) (Wout := LX X E) D.hs D.hf ⟨g1, g2, .inl (by rw [F.hmg]; exact hm)⟩ T.tk
    (fun W pn xe tk pp => ⟨fun pins s σ H D I h => h pn xe tk pp pins s I⟩) (fun a oe cls d pn hz hf => ⟨fun pins s σ H D I h => h oe pn hz hf pins s I⟩)) ?_
  intro pn xe tk pp
  have F' : Fx ⟨X.toCx.tr pn xe, H⟩ P w K mg base sc N L C Gs Bs k := ⟨F.hP, F.hw, F.hK, F.hmg, F.hbase, F.hN, F.hsc, F.nd, F.loc, F.cel, F.kind, F.nob, F.gl, F.bl, F.calm, F.room, pp⟩
  have T' : Tk ⟨X.toCx.tr pn xe, H⟩ (tryOnly K mg sc N L Gs Bs Cx (b₀ :: suite) X.A.guards nx rt bk ct E) := ⟨tk.imp fun cls d σ' H' ⟨Cc, dd, gs, fs, ρ', M', e1, e2, e3, e4, e5, e6, e7⟩ => by
    subst e1 e2
    have sx : Stay X.K H H' := e5.st
    have rx : RS X H' ρ' σ' := e5.re (X := X) (rs.st.trans sx) rfl rfl rfl
    rcases e7 with ⟨hex, hsu⟩ | ⟨hex, hout⟩
    · refine ⟨true, by rw [F.hK]; exact hex, fun _ a ha oe pn2 hz hfd => ?_, fun z => Bool.noConfusion z⟩
      have Fy : Fs ⟨X.toCx.suite a ((a, oe) :: pn2), H'⟩ K mg sc N L Gs Bs := Fs.of_suite F
      refine (hsu _ Fy rfl _ H' (rx.re (X := ⟨X.toCx.suite a ((a, oe) :: pn2), H'⟩) Stay.refl rfl rfl rfl) e6).mono (fun σ2 H2 ⟨ρ2, M2, a1, a2, a3, a4⟩ => ?_) (fun v H2 ⟨d2, M2, a1, a2, a3, a4⟩ => ?_) (fun σ2 H2 ⟨ρ2, M2, a1, a2, a3, a4⟩ => ?_) (fun σ2 H2 ⟨ρ2, M2, a1, a2, a3, a4⟩ => ?_)
      · exact ⟨_, M2, a1.re (X := X) (rx.st.trans a3) rfl rfl rfl, a2, sx.trans a3, a4⟩
      · exact ⟨d2, M2, a1, a2, sx.trans a3, a4⟩
      · exact ⟨_, M2, a1.re (X := X) (rx.st.trans a3) rfl rfl rfl, a2, sx.trans a3, a4⟩
      · exact ⟨_, M2, a1.re (X := X) (rx.st.trans a3) rfl rfl rfl, a2, sx.trans a3, a4⟩
    · exact ⟨false, by rw [F.hK]; exact hex, fun z => Bool.noConfusion z, fun _ => ⟨Cc, dd, gs, fs, ρ', M', rfl, rfl, e3, e4, rx, e6, hout⟩⟩⟩
  have r0 : RS ⟨X.toCx.tr pn xe, H⟩ H ρ σ := rs.re (X := ⟨X.toCx.tr pn xe, H⟩) Stay.refl rfl rfl rfl
  refine (h _ F' ⟨rfl, rfl, rfl, rfl, rfl, rs.st⟩ rfl T' σ H r0 m).mono (fun σ2 H2 ⟨ρ2, M2, a1, a2, a3, a4⟩ => ?_) (fun v H2 z => z) (fun σ2 H2 ⟨ρ2, M2, a1, a2, a3, a4⟩ => ?_) (fun σ2 H2 ⟨ρ2, M2, a1, a2, a3, a4⟩ => ?_)
  · exact ⟨_, M2, a1.re (X := X) (rs.st.trans a3) rfl rfl rfl, a2, a3, a4⟩
  · exact ⟨_, M2, a1.re (X := X) (rs.st.trans a3) rfl rfl rfl, a2, a3, a4⟩
  · exact ⟨_, M2, a1.re (X := X) (rs.st.trans a3) rfl rfl rfl, a2, a3, a4⟩
theorem ws_tryAs {i : Nat} {body suite : List Stmt} {b₀ : Stmt} {np pos' : Pos} {Cx : Addr} (F : Fx X P w K mg base sc N L C Gs Bs k) (D : Dfn X) (T : Tk X E) (hx : x ∈ Gs) (hm : mg x = some (.ref Cx)) (hn : n ∈ L) (hi : N[i]? = some n)
    (h : ∀ X', Fx X' P w K mg base sc N L C Gs Bs k → X'.A.guards = X.A.guards → Tk X' (tryAs K mg sc N L Gs Bs Cx i (b₀ :: suite) X.A.guards nx rt bk ct E) → WSs X' ρ M body nx rt bk ct) :
    WS X ρ M (.Try body [.ExceptHandler (some (.Name x np)) (some n) (b₀ :: suite) pos'] [] [] pos) nx rt bk ct := ws_tryAsN F D T hx hm hn hi fun X' F' _ g T' => h X' F' g T'
theorem ws_tryOnly {body suite : List Stmt} {b₀ : Stmt} {np pos' : Pos} {Cx : Addr} (F : Fx X P w K mg base sc N L C Gs Bs k) (D : Dfn X) (T : Tk X E) (hx : x ∈ Gs) (hm : mg x = some (.ref Cx))
    (h : ∀ X', Fx X' P w K mg base sc N L C Gs Bs k → X'.A.guards = X.A.guards → Tk X' (tryOnly K mg sc N L Gs Bs Cx (b₀ :: suite) X.A.guards nx rt bk ct E) → WSs X' ρ M body nx rt bk ct) :
    WS X ρ M (.Try body [.ExceptHandler (some (.Name x np)) none (b₀ :: suite) pos'] [] [] pos) nx rt bk ct := ws_tryOnlyN F D T hx hm fun X' F' _ g T' => h X' F' g T'
end
/-! ### whatever is being shown around a body is known within it -/
abbrev Gd (X : Cx) (g : List Code) : Cx := { X with A := { X.A with guards := some g } }
theorem gd_in {X : Cx} {g : List Code} {pins : List (Addr × Obj)} {σ : L2.St} {H : Hp} {s : Shared} (I : Inv X pins σ H s) : Inv (Gd X g) pins σ H s := by
  have ok := I.ok
  exact ⟨⟨ok.mod, ok.kind, ok.glob, ok.blt, ok.above, ok.inj, ok.has, ok.cab, ok.hd, ok.frames, ok.stk, ok.exf, ok.bs, ok.bsz, ok.noex, ok.exfs, ok.funs, ok.frf⟩, I.os, I.bare, I.base, I.loc, I.cell, I.free, I.freeC, I.pin, I.hok, I.len⟩
theorem gd_out {X : Cx} {g : List Code} {pins : List (Addr × Obj)} {σ : L2.St} {H : Hp} {s : Shared} (I : Inv (Gd X g) pins σ H s) : Inv X pins σ H s := by
  have ok := I.ok
  exact ⟨⟨ok.mod, ok.kind, ok.glob, ok.blt, ok.above, ok.inj, ok.has, ok.cab, ok.hd, ok.frames, ok.stk, ok.exf, ok.bs, ok.bsz, ok.noex, ok.exfs, ok.funs, ok.frf⟩, I.os, I.bare, I.base, I.loc, I.cell, I.free, I.freeC, I.pin, I.hok, I.len⟩
theorem wSs.guards {X : Cx} {sts : List Stmt} {D : Ends} {σ : L2.St} {H : Hp} (h : ∀ g, wSs (Gd X g) sts D σ H) : wSs X sts D σ H := fun pins s I Γ p hΓ => by
  have W : wpAny (model X.prog X.w) { X.A with guards := some (Γ.code.guards ++ guardsOf Γ.below) } (execs sts X.env) (SP X pins D) X.xe s := by
    refine thn (h (Γ.code.guards ++ guardsOf Γ.below) pins s (gd_in I)) fun f s' z => ?_
    cases f with
    | next => obtain ⟨σ', H', J, q⟩ := z; exact ⟨σ', H', gd_out J, q⟩
    | brk => obtain ⟨σ', H', J, q⟩ := z; exact ⟨σ', H', gd_out J, q⟩
    | cont => obtain ⟨σ', H', J, q⟩ := z; exact ⟨σ', H', gd_out J, q⟩
    | ret u => obtain ⟨v, σ', H', J, r, q⟩ := z; exact ⟨v, σ', H', gd_out J, r, q⟩
  exact W Γ p ⟨hΓ.1, hΓ.2.1, hΓ.2.2.1, fun g hg => Option.some.inj hg, hΓ.2.2.2.2⟩
/-- what is being shown around X's body -/
class Gds (X : Cy) (g : outParam (List Code)) : Prop where
  gd : X.A.guards = some g
/-! ### defs with a try in them, out of which nothing comes -/
theorem fn_okT {P : Program} {w : World} {K : Fg} {mg : Str → Option Value} {base : Heap} {N L C Gs Bs : List Str} {k : Nat} {x qual : Str} {st : Stmt} {f : Addr} {fd : FuncData} {ps : List Str} {sp : SpD} (F : Fun K x qual st f fd) (S : FnScope N ps (defScope st)) (hst : stat (defScope st) N L C Gs = true) (hb : ∀ x ∈ Bs, mg x = none)
    (h : ∀ X, Fx X P w K mg base (defScope st) N L C Gs Bs k → Dfn X → Tk X (fun _ _ _ _ => False) → ∀ g, Gds X g → ∀ ds M Q, ds.length = ps.length → sp ds M Q → WSs X (ini N ds) M (defBody st) (fun _ M' => Sub (Q .non) M') (fun d M' => Sub (Q d) M') (fun _ _ => False) (fun _ _ => False)) :
    FnOk P w K mg base CX0 (k + 1) f fd ps (sp1 K ps.length sp) := by
  have T := stat_ok hst
  refine F.ok S (fun vs H Q E ⟨ds, M, Q0, h1, h2, h3, _⟩ => by rw [← h1.length]; exact h3) fun cdv A outer s H vs Q E hr ⟨ds, M, Q0, h1, h2, h3, h4, h5⟩ => ?_
  refine ⟨_, pss_w, wSs.guards fun g => ?_⟩
  have hps : ps.length ≤ N.length := by have := congrArg List.length S.pre; rw [List.length_take] at this; omega
  have FX : Fx ⟨Gd (cxOf CX0 P w K mg base N qual (defScope st) f cdv A outer s H E).nox g, H⟩ P w K mg base (defScope st) N L C Gs Bs k :=
    ⟨rfl, rfl, rfl, rfl, rfl, rfl, rfl, T.nd, T.loc, fun x hx => ⟨T.cel x hx, rfl⟩, T.kind, T.nob, T.gl, hb, rfl, ⟨hr.hd, hr.dp, hr.un⟩, PassesOwn.never⟩
  have W := h _ FX ⟨rfl, rfl⟩ Tk.none g ⟨rfl⟩ ds M Q0 h3 h4
  rw [ini_eq N ds (by rw [h3]; exact hps)] at W
  refine (W (start N vs) H (RS.start (X := ⟨Gd (cxOf CX0 P w K mg base N qual (defScope st) f cdv A outer s H E).nox g, H⟩) Stay.refl (by rw [h3]; exact hps) (fun i y hi hy => ?_) h1) h2).mono (fun σ' H' ⟨ρ', M', q1, q2, q3, M0, q4, q5⟩ => ?_) (fun v H' ⟨d, M', q1, q2, q3, M0, q4, q5⟩ => ?_) (fun _ _ ⟨_, _, _, _, _, q⟩ => q) (fun _ _ ⟨_, _, _, _, _, q⟩ => q)
  · have hp : ps[i]? = some y := by
      rw [← S.pre, List.getElem?_take_of_lt (by rw [← h3]; exact hi)]
      exact hy
    rcases S.par y (List.mem_of_getElem? hp) with z | z
    · exact .inl z
    · exact .inr (.inl z)
  · exact h5 _ _ q5 _ _ .non (q2.less q4) q3
  · exact h5 _ _ q5 _ _ q1 (q2.less q4) q3
theorem cal_mkT {P : Program} {w : World} {K : Fg} {mg : Str → Option Value} {base : Heap} {N L C Gs Bs : List Str} {k : Nat} {x : Str} {st : Stmt} {ps : List Str} {sp : SpD} (hf : FnT K mg x st ps) (S : FnScope N ps (defScope st)) (hst : stat (defScope st) N L C Gs = true) (hb : ∀ x ∈ Bs, mg x = none)
    (h : ∀ X, Fx X P w K mg base (defScope st) N L C Gs Bs k → Dfn X → Tk X (fun _ _ _ _ => False) → ∀ g, Gds X g → ∀ ds M Q, ds.length = ps.length → sp ds M Q → WSs X (ini N ds) M (defBody st) (fun _ M' => Sub (Q .non) M') (fun d M' => Sub (Q d) M') (fun _ _ => False) (fun _ _ => False)) :
    Cal P w K mg base x (k + 1) ps.length sp := by
  obtain ⟨f, fd, F, hm, hbn⟩ := hf
  exact ⟨f, fd, ps, fn_okT F S hst hb h, hm, F.kp, hbn⟩
end G
namespace G
open PySem L2
/-! ### repr, whatever is being shown around -/
def txtT (g : List Code) (a : Addr) (ts : List Str) : Str := if (g.any fun c => tupGuardF (.ref a) (c, default)) = true then "(...)" else tupleText ts
def txtD (g : List Code) (a : Addr) : Str := if (g.any fun c => dictGuardF (.ref a) (c, default)) = true then "{...}" else "{}"
section
variable {prog : Program} {w : World} {A : Around} {E : Value → Shared → Prop} {s : Shared} {g : List Code} {a : Addr} {o : Obj} {n : Nat} {Q : Value → Shared → Prop}
theorem rep_tuple {items : Array Value} {ts : List Str} (hg : A.guards = some g) (ha : s.heap.get? a = some o) (hc : o.cls = .type "tuple") (hd : o.data = .seq items n) (hT : ReprAll prog w items.toList ts) (hsz : (tupleText ts).length ≤ sizeLine) (h : ∀ u tk, Q (.str (txtT g a ts) u) { s with toks := tk }) :
    wpAny (model prog w) A (call (.builtin "tuple.__repr__") [.ref a]) Q E s := by
  refine wpAny_call (codeAny_call_builtin_own (Code.quiet_builtin _ (by decide +kernel)) F.entry_tuple_repr (F.slot_tuple_repr.check _ _ _ _ _ _ _ _ ⟨o, ha, hc⟩ (F.args_tuple_repr_1 _) ?_))
  show wpOwn _ _ _ (Builtin.tupleReprAt 0 ⟨[.ref a], []⟩) _ _ s
  rw [tuple_repr_tree, tupleReprUnderWay_eq]
  refine wpOwn_bind (wpOwn_stackTailAny hg (tupGuardF_off _) (tupGuardF_pos _) ?_)
  unfold txtT at h
  cases hb : (g.any fun c => tupGuardF (.ref a) (c, default)) with
  | true =>
    rw [hb, if_pos rfl] at h
    refine wpOwn_of_wpAny (PySem.W.KFB.if_so rfl (wpAny_bind (wpAny_rule (wpAny_bind (wpAny_mkStr (wpAny_pure ?_) (by decide +kernel))))))
    exact h _ _
  | false =>
    rw [hb, if_neg Bool.false_ne_true] at h
    refine wpOwn_of_wpAny (PySem.W.KFB.if_not rfl (wpAny_tupleReprRest ha hd hT (fun u tk => h u tk) (by omega)))
theorem rep_dict0 (hg : A.guards = some g) (ha : s.heap.get? a = some o) (hc : o.cls = .type "dict") (hd : o.data = .dict #[] n) (hsys : (a == sysModules) = false) (h : ∀ u tk, Q (.str (txtD g a) u) { s with toks := tk }) :
    wpAny (model prog w) A (call (.builtin "dict.__repr__") [.ref a]) Q E s := by
  have hTy : s.TypeIs (.ref a) "dict" := ⟨o, ha, hc⟩
  refine wpAny_call (codeAny_call_builtin_own (Code.quiet_builtin _ (by decide +kernel)) F.entry_dict_repr (F.slot_dict_repr.check _ _ _ _ _ _ _ _ ⟨o, ha, hc⟩ (F.args_dict_repr_1 _) ?_))
  show wpOwn _ _ _ (Builtin.dictReprAt 0 ⟨[.ref a], []⟩) _ _ s
  unfold Builtin.dictReprAt
  refine wpOwn_bind (wpOwn_of_wpAny ?_)
  unfold Builtin.Dict.dictSlotNone
  refine wpAny_bind (wpAny_notOrdered_dict hTy (show wpAny _ _ (pure (Value.ref a)) _ _ s from wpAny_pure ?_))
  rw [dictReprRunning_eq]
  refine wpOwn_bind (wpOwn_stackTailAny hg (dictGuardF_off _) (dictGuardF_pos _) ?_)
  unfold txtD at h
  cases hb : (g.any fun c => dictGuardF (.ref a) (c, default)) with
  | true =>
    rw [hb, if_pos rfl] at h
    refine wpOwn_of_wpAny (PySem.W.KFB.if_so rfl (wpAny_bind (wpAny_rule ?_)))
    refine wpAny_bind (wpAny_mkStr (wpAny_pure ?_) (by decide +kernel))
    exact h _ _
  | false =>
    rw [hb, if_neg Bool.false_ne_true] at h
    refine wpOwn_of_wpAny ?_
    show wpAny _ _ (Builtin.Dict.addrOf (.ref a) >>= _) _ _ s
    refine wpAny_bind (wpAny_pure ?_)
    show wpAny _ _ (Builtin.Dict.showsAll a >>= _) _ _ s
    unfold Builtin.Dict.showsAll
    rw [if_neg (by rw [hsys]; exact Bool.false_ne_true)]
    refine wpAny_bind (wpAny_pure (wpAny_bind (wpAny_dictEpoch ha hd (wpAny_bind (wpAny_dictEntries ha hd (wpAny_bind ?_))))))
    rw [Std.Legacy.Range.forIn_eq_forIn_range']
    refine wpAny_pure ?_
    show wpAny _ _ (retStr "{}") _ _ _
    refine wpAny_bind (wpAny_mkStr (wpAny_pure ?_) (by decide +kernel))
    exact h _ _
end
/-- repr of d is t -/
def RepAt (X : Cy) (d : DV) (M : Mm) (t : Str) : Prop := ∀ (pins : List (Addr × Obj)) (s : Shared) (σ : L2.St) (H : Hp) (v : V) (u : Value) (Q : Value → Shared → Prop), Inv X.toCx pins σ H s → RD X.K H d v → RM X.K H M → RelV v u → (∀ tk tk', Q (.str t tk) { s with toks := tk' }) →
  wpAny (model X.prog X.w) X.A (call (.builtin "repr") [u]) Q X.xe s
class RepC (X : Cy) (d : DV) (M : Mm) (t : outParam Str) : Prop where
  h : RepAt X d M t
section
variable {X : Cy} {P : Program} {w : World} {K : Fg} {mg : Str → Option Value} {base : Heap} {sc : Scope} {N L C Gs Bs : List Str} {k : Nat} {ρ : Ro} {M : Mm} {Q : DV → Mm → Prop} {e : Expr} {pos p : Pos} {g : List Code}
def rRep (X : Cy) (M : Mm) (d : DV) : List V → Hp → VK → Prop := fun xs H Q => ∃ v t, xs = [v] ∧ RD X.K H d v ∧ RM X.K H M ∧ RepAt X d M t ∧ Q (.str t) H
theorem call_rep {d : DV} : CallR X.toCx (.builtin "repr") (rRep X M d) := fun pins s σ H xs us Q I r h => by
  obtain ⟨v, t, rfl, h1, h2, h3, h4⟩ := h
  cases r with
  | cons r1 r2 =>
    cases r2
    exact h3 pins s σ H v _ _ I h1 h2 r1 fun tk tk' => ⟨.str t, H, I.tok _, ⟨_, rfl⟩, h4⟩
theorem we_repr_of (g1 : Gl X.toCx "repr") (g2 : (("repr" : Str) == ("__debug__" : Str)) = false) (g3 : ("repr" : Str) ≠ "__name__") (gb : X.mg "repr" = none) (hs : isStar e = false) (h : WE X ρ M e fun d M1 => ∃ t, RepAt X d M1 t ∧ Q (.str t) M1) : WE X ρ M (.Call (.Name "repr" p) [e] [] pos) Q := fun σ H rs m pins s I => by
  refine wpAny_Call_Name_kw (ld_blt I g1 gb (show bootBuiltins "repr" = some (.builtin "repr") by decide +kernel) ?_ g3 g2)
  have W := h σ H rs m
  refine PyProof.Rows.callWith_builtin1 (thn ((pa_cons (pe_w (X := X.toCx) (e := e)) pa_nil (starEach_cons hs)).run pos pins s σ H (fun vs H1 => ∃ d M1 v, vs = [v] ∧ RD X.K H1 d v ∧ RM X.K H1 M1 ∧ Stay X.K H H1 ∧ ∃ t, RepAt X d M1 t ∧ Q (.str t) M1) I (W.mono fun v H1 ⟨d, M1, a1, a2, a3, a4⟩ => ⟨d, M1, v, rfl, a1, a2, a3, a4⟩)) fun us s1 ⟨vs, H1, I1, r1, d, M1, v, ev, a1, a2, a3, t, a4, a5⟩ => ?_) (starEach_cons hs) rfl
  subst ev
  cases r1 with
  | cons r1 r2 =>
    cases r2
    exact a4 pins s1 σ H1 v _ _ I1 a1 a2 r1 fun tk tk' => ⟨.str t, H1, I1.tok _, ⟨_, rfl⟩, .str t, M1, .str t, a2, a3, a5⟩
/-- repr(e), in a body -/
theorem we_repr (F : Fx X P w K mg base sc N L C Gs Bs k) (hx : ("repr" : Str) ∈ Gs) (hx2 : ("repr" : Str) ∈ Bs) (hs : isStar e = false) (h : WE X ρ M e fun d M1 => ∃ t, RepAt X d M1 t ∧ Q (.str t) M1) : WE X ρ M (.Call (.Name "repr" p) [e] [] pos) Q :=
  we_repr_of (F.gl _ hx).1 (F.gl _ hx).2.1 (F.gl _ hx).2.2 (by rw [F.hmg]; exact F.bl _ hx2) hs h
/-- .. in a suite -/
theorem we_reprS (F : Fs X K mg sc N L Gs Bs) (hx : ("repr" : Str) ∈ Gs) (hx2 : ("repr" : Str) ∈ Bs) (hs : isStar e = false) (h : WE X ρ M e fun d M1 => ∃ t, RepAt X d M1 t ∧ Q (.str t) M1) : WE X ρ M (.Call (.Name "repr" p) [e] [] pos) Q :=
  we_repr_of (F.gl _ hx).1 (F.gl _ hx).2.1 (F.gl _ hx).2.2 (by rw [F.hmg]; exact F.bl _ hx2) hs h
theorem rp_int {i : Int} (hz : i.natAbs.log2 < 1920) : RepAt X (.int i) M (toString i) := fun pins s σ H v u Q I r m ru h => by
  cases r
  obtain ⟨t, rfl⟩ := ru
  exact PySem.P.repr_of_int hz (h _ _)
theorem rp_bl {b : Bool} : RepAt X (.bl b) M (if b then "True" else "False") := fun pins s σ H v u Q I r m ru h => by
  cases r
  cases ru
  exact PySem.P.repr_of_bool (h _ _)
theorem rp_non : RepAt X .non M "None" := fun pins s σ H v u Q I r m ru h => by
  cases r
  cases ru
  exact PySem.P.repr_of_none (h _ _)
theorem rp_str {x : Str} (hz : (reprText x).length ≤ sizeLine) : RepAt X (.str x) M (reprText x) := fun pins s σ H v u Q I r m ru h => by
  cases r
  obtain ⟨t, rfl⟩ := ru
  exact PySem.P.repr_of_str (h _ _) hz
theorem rp_lst0 {a : Addr} {i : Nat} (hu : X.A.units + 200 < cLine) (A : AtM M i a (.lst [])) : RepAt X (.ref a) M "[]" := fun pins s σ H v u Q I r m ru h => by
  cases r
  cases ru
  obtain ⟨vs, e, rv⟩ := m.at A.ix
  cases rv
  obtain ⟨_, its, n, hv, ho⟩ := I.hok a _ e
  cases hv
  exact call_repr_slot (by omega) ⟨_, ho, rfl⟩ F.slot_list_repr.toG (call_list_repr_empty ⟨_, ho, rfl⟩ ho rfl ⟨_, _, rfl, h _ _⟩)
theorem rp_dk0 {a : Addr} {i : Nat} (hu : X.A.units + 200 < cLine) (hg : X.A.guards = some g) (A : AtM M i a (.dk [])) : RepAt X (.ref a) M (txtD g a) := fun pins s σ H v u Q I r m ru h => by
  cases r
  cases ru
  obtain ⟨vs, e, rv⟩ := m.at A.ix
  cases rv
  obtain ⟨_, hsys, vs, hv, hd⟩ := I.hok a _ e
  cases hv
  obtain ⟨o, es, ep, h1, h2, h3, h4⟩ := hd
  have : es = #[] := by
    have z := h4.2.1
    obtain ⟨l⟩ := es
    have z : Pairs (mixKind X.prog X.w) l [] := z
    cases l with
    | nil => rfl
    | cons a l => cases z
  subst this
  exact call_repr_slot (by omega) ⟨o, h1, h2.1⟩ F.slot_dict_repr (rep_dict0 (A := X.A.in1) hg h1 h2.1 h3 hsys fun u tk => ⟨_, _, rfl, h _ _⟩)
theorem rp_tup1 {a : Addr} {i : Int} (hu : X.A.units + 200 < cLine) (hg : X.A.guards = some g) (hz : i.natAbs.log2 < 1920) (hsz : (tupleText [toString i]).length ≤ sizeLine) : RepAt X (.tupA a [.int i]) M (txtT g a [toString i]) := fun pins s σ H v u Q I r m ru h => by
  cases r with
  | tupA sq rs =>
    cases ru
    cases rs with
    | cons r1 r2 =>
      cases r2
      cases r1
      obtain ⟨its, rv, ⟨o, ho, hcl, n, hd⟩, _⟩ := I.tuple sq
      cases rv with
      | cons q1 q2 =>
        cases q2
        obtain ⟨t, rfl⟩ := q1
        exact call_repr_slot (by omega) ⟨o, ho, hcl⟩ F.slot_tuple_repr (rep_tuple (A := X.A.in1) hg ho hcl hd (.cons (ReprIs.int t hz) .nil) hsz fun u tk => ⟨_, _, rfl, h _ _⟩)
/-- a tuple's place is told -/
theorem wss_open {i : Nat} {ds : List DV} {sts : List Stmt} {nx bk ct : Ro → Mm → Prop} {rt : DV → Mm → Prop} (hi : ρ[i]? = some (some (.tup ds))) (h : ∀ a, WSs X (ρ.set i (some (.tupA a ds))) M sts nx rt bk ct) : WSs X ρ M sts nx rt bk ct := fun σ H rs m => by
  obtain ⟨n1, v, n3, n4⟩ := rs.get i _ hi
  cases n4 with
  | tup sq r =>
    rename_i a vs
    refine h a σ H ⟨rs.st, by rw [List.length_set]; exact rs.len, fun j d hj => ?_⟩ m
    rw [List.getElem?_set] at hj
    split at hj
    · rename_i ej
      subst ej
      split at hj
      · cases hj
        exact ⟨n1, _, n3, .tupA sq r⟩
      · cases hj
    · exact rs.get j d hj
end
end G
namespace G
open PySem PySem.Spec PyProof.Rows L2
/-! ### in; chains; bits; all; properties; t[::-1] -/
def rIn3 (K : Fg) (neg : Bool) : R2 := fun x y H Q => (∃ a o, y = .ref a ∧ DGet H a x o ∧ Q (.bl (if neg then !o.isSome else o.isSome)) H) ∨ rIn K neg x y H Q
theorem mon_in {K : Fg} {neg : Bool} : MonR (rIn3 K neg) := fun x y H Q Q' h q => h.elim (fun ⟨a, o, e1, e2, z⟩ => .inl ⟨a, o, e1, e2, q _ _ z⟩) fun ⟨p, xs, e1, e2, e3, e4, z⟩ => .inr ⟨p, xs, e1, e2, e3, e4, q _ _ z⟩
theorem op_in3 {X : Cx} (hu : X.A.units + 1 < cLine) : OpR X (compareOp .In) (rIn3 X.K false) := fun pins s σ H x y v u Q I rx ry h => by
  rcases h with ⟨a, o, e1, e2, q⟩ | h
  · subst e1
    cases ry
    exact d_in hu I e2 rx fun s3 I3 => ⟨.bl o.isSome, H, I3, rfl, q⟩
  · exact op_in_seq pins s σ H x y v u Q I rx ry h
theorem op_notin3 {X : Cx} (hu : X.A.units + 1 < cLine) : OpR X (compareOp .NotIn) (rIn3 X.K true) := fun pins s σ H x y v u Q I rx ry h => by
  rcases h with ⟨a, o, e1, e2, q⟩ | h
  · subst e1
    cases ry
    exact d_notIn hu I e2 rx fun s3 I3 => ⟨.bl (!o.isSome), H, I3, rfl, q⟩
  · exact op_notIn_seq pins s σ H x y v u Q I rx ry h
theorem rds_ints' {K : Fg} {H : Hp} : ∀ {ns : List Int} {vs : List V}, RDs K H (ns.map DV.int) vs → vs = ns.map V.int
  | [], _, h => by cases h; rfl
  | n :: ns, _, h => by
    cases h with
    | cons r t => cases r; rw [rds_ints' t]; rfl
theorem flat_ints (ns : List Int) : (ns.map V.int).all flatV = true := by
  rw [List.all_map, List.all_eq_true]
  intro x _
  rfl
theorem inV_ints (n : Int) (ns : List Int) : inV (.int n) (ns.map V.int) = decide (n ∈ ns) := by
  unfold inV
  rw [List.any_map]
  induction ns with
  | nil => rfl
  | cons m ns ih =>
    rw [List.any_cons, ih]
    show ((m == n) || decide (n ∈ ns)) = decide (n ∈ m :: ns)
    by_cases h : m = n
    · subst h; simp
    · have h1 : (m == n) = false := by simpa using h
      have h2 : (n = m) = False := by simp; exact fun z => h z.symm
      simp [h1, h2]
section
variable {X : Cy} {P : Program} {w : World} {K : Fg} {mg : Str → Option Value} {base : Heap} {sc : Scope} {N L C Gs Bs : List Str} {k j : Nat} {ρ ρ' : Ro} {M : Mm} {Q : DV → Mm → Prop} {R : Bool → Mm → Prop} {a b c e o : Expr} {x f : Str} {pos p p1 p2 p3 : Pos} {nx bk ct : Ro → Mm → Prop} {rt : DV → Mm → Prop} {neg : Bool}
instance (priority := 2000) [F : Fx X P w K mg base sc N L C Gs Bs k] : Step (WE X ρ M (.Compare a [.In] [b] pos) Q) (!behindInMarks .In b) (WE X ρ M a fun x M1 => WE X ρ M1 b fun y M2 => R2D X.K (rIn3 X.K false) x y M2 Q) := ⟨fun h q => we_op (fun ha hb => pe_cmpR (op_in3 (by have := F.room.un; omega)) ha hb (by simpa using h)) mon_in q⟩
instance (priority := 2000) [F : Fx X P w K mg base sc N L C Gs Bs k] : Step (WE X ρ M (.Compare a [.NotIn] [b] pos) Q) (!behindInMarks .NotIn b) (WE X ρ M a fun x M1 => WE X ρ M1 b fun y M2 => R2D X.K (rIn3 X.K true) x y M2 Q) := ⟨fun h q => we_op (fun ha hb => pe_cmpR (op_notin3 (by have := F.room.un; omega)) ha hb (by simpa using h)) mon_in q⟩
instance (priority := 2000) [F : Fx X P w K mg base sc N L C Gs Bs k] : Step (WT X ρ M (.Compare a [.In] [b] pos) R) (!behindInMarks .In b) (WE X ρ M a fun x M1 => WE X ρ M1 b fun y M2 => R2D X.K (rIn3 X.K false) x y M2 (QB R)) := ⟨fun h q => wt_op (fun ha hb => pt_cmpR (op_in3 (by have := F.room.un; omega)) ha hb (by simpa using h)) mon_in q⟩
instance (priority := 2000) [F : Fx X P w K mg base sc N L C Gs Bs k] : Step (WT X ρ M (.Compare a [.NotIn] [b] pos) R) (!behindInMarks .NotIn b) (WE X ρ M a fun x M1 => WE X ρ M1 b fun y M2 => R2D X.K (rIn3 X.K true) x y M2 (QB R)) := ⟨fun h q => wt_op (fun ha hb => pt_cmpR (op_notin3 (by have := F.room.un; omega)) ha hb (by simpa using h)) mon_in q⟩
theorem v_in_t {n : Int} {ns : List Int} (q : Q (.bl (if neg then !decide (n ∈ ns) else decide (n ∈ ns))) M) : R2D K (rIn3 K neg) (.int n) (.tup (ns.map .int)) M Q := fun vx vy H h1 h2 m => by
  cases h1
  cases h2 with
  | tup sq r =>
    have := rds_ints' r
    subst this
    exact .inr ⟨_, _, rfl, .inr sq, rfl, flat_ints ns, by rw [inV_ints]; exact ⟨_, M, .bl _, m, Stay.refl, q⟩⟩
theorem v_in_l {n : Int} {ns : List Int} {i : Nat} {p : Addr} (A : AtM M i p (.lst (ns.map .int))) (q : Q (.bl (if neg then !decide (n ∈ ns) else decide (n ∈ ns))) M) : R2D K (rIn3 K neg) (.int n) (.ref p) M Q := fun vx vy H h1 h2 m => by
  cases h1
  cases h2
  obtain ⟨vs, e, r⟩ := m.at A.ix
  have := rds_ints' r
  subst this
  exact .inr ⟨_, _, rfl, .inl (SqL.of e), rfl, flat_ints ns, by rw [inV_ints]; exact ⟨_, M, .bl _, m, Stay.refl, q⟩⟩
instance {n : Int} {ns : List Int} : Step (R2D K (rIn3 K false) (.int n) (.tup (ns.map .int)) M Q) true (Q (.bl (decide (n ∈ ns))) M) := ⟨fun _ q => v_in_t q⟩
instance {n : Int} {ns : List Int} : Step (R2D K (rIn3 K true) (.int n) (.tup (ns.map .int)) M Q) true (Q (.bl (!decide (n ∈ ns))) M) := ⟨fun _ q => v_in_t q⟩
instance {n : Int} {ns : List Int} {i : Nat} {p : Addr} [A : AtM M i p (.lst (ns.map .int))] : Step (R2D K (rIn3 K false) (.int n) (.ref p) M Q) true (Q (.bl (decide (n ∈ ns))) M) := ⟨fun _ q => v_in_l A q⟩
instance {n : Int} {ns : List Int} {i : Nat} {p : Addr} [A : AtM M i p (.lst (ns.map .int))] : Step (R2D K (rIn3 K true) (.int n) (.ref p) M Q) true (Q (.bl (!decide (n ∈ ns))) M) := ⟨fun _ q => v_in_l A q⟩
theorem v_in_d {y d : DV} (h : InD M y d fun t => Q (.bl (if neg then !t else t)) M) : R2D K (rIn3 K neg) y d M Q := fun vx vy H h1 h2 m => by
  obtain ⟨p, o, e1, e2, e3⟩ := inD_get h m h1 h2
  exact .inl ⟨p, o, e1, e2, _, M, .bl _, m, Stay.refl, e3⟩
instance {n : Int} {p : Addr} {i : Nat} {kvs : List (Key × DV)} [h : AtM M i p (.dk kvs)] : Step (R2D K (rIn3 K neg) (.int n) (.ref p) M Q) true (Q (.bl (if neg then !(getD kvs (Sum.inl n)).isSome else (getD kvs (Sum.inl n)).isSome)) M) := ⟨fun _ q => v_in_d ⟨p, i, kvs, .inl n, rfl, rfl, h, q⟩⟩
instance {n : Str} {p : Addr} {i : Nat} {kvs : List (Key × DV)} [h : AtM M i p (.dk kvs)] : Step (R2D K (rIn3 K neg) (.str n) (.ref p) M Q) true (Q (.bl (if neg then !(getD kvs (Sum.inr n)).isSome else (getD kvs (Sum.inr n)).isSome)) M) := ⟨fun _ q => v_in_d ⟨p, i, kvs, .inr n, rfl, rfl, h, q⟩⟩
/-! a <= b <= c, of ints -/
def rLe : R2 := rI0 fun i j => .bl (decide (i ≤ j))
theorem we_chain (hm : lastMarks [.LtE, .LtE] [b, c] = false) (h : WE X ρ M a fun x M1 => WE X ρ M1 b fun y M2 => ∃ i j, x = .int i ∧ y = .int j ∧ (i ≤ j → WE X ρ M2 c fun z M3 => ∃ l, z = .int l ∧ Q (.bl (decide (j ≤ l))) M3) ∧ (¬ i ≤ j → Q (.bl false) M2)) : WE X ρ M (.Compare a [.LtE, .LtE] [b, c] pos) Q := fun σ H rs m => by
  refine wE.of (pe_chain op_le op_le pe_w pe_w pe_w hm) ?_
  refine (h σ H rs m).mono fun v H1 ⟨x, M1, a1, a2, a3, a4⟩ => (a4 σ H1 (rs.mono a3) a2).mono fun u H2 ⟨y, M2, b1, b2, b3, i, j, e1, e2, b4, b5⟩ => ?_
  subst e1 e2
  cases a1
  cases b1
  refine ⟨i, j, rfl, rfl, _, rfl, ?_⟩
  by_cases hc : i ≤ j
  · rw [if_pos (decide_eq_true hc)]
    refine (b4 hc σ H2 ((rs.mono a3).mono b3) b2).mono fun w' H3 ⟨z, M3, c1, c2, c3, l, e3, c4⟩ => ?_
    subst e3
    cases c1
    exact ⟨j, l, rfl, rfl, _, M3, .bl _, c2, (a3.trans b3).trans c3, c4⟩
  · rw [if_neg (by rw [decide_eq_false hc]; exact Bool.false_ne_true)]
    exact ⟨_, M2, .bl false, b2, a3.trans b3, b5 hc⟩
def ChD (x y : DV) (S : Prop) (S' : Prop) : Prop := ∃ i j, x = .int i ∧ y = .int j ∧ (i ≤ j → S) ∧ (¬ i ≤ j → S')
/-! x |= e, x >>= 1 -/
theorem ws_augR {op : Operator} {r : R2} {cA : Int} {pos' : Pos} (F : Fx X P w K mg base sc N L C Gs Bs k) (ho : OpR X.toCx (inplaceOp op) r) (mr : MonR r) (hx : x ∈ L) (hA : At N ρ x (.int cA)) (h : WE X ρ M e fun d M1 => R2D X.K r (.int cA) d M1 fun d2 M2 => TgN N ρ x d2 fun ρ' => nx ρ' M2) : WS X ρ M (.AugAssign (.Name x pos') op e pos) nx rt bk ct := fun σ H rs m => by
  obtain ⟨i, h1, h2⟩ := hA.ix
  obtain ⟨_, v, n3, n4⟩ := rs.get i _ h2
  have hl := F.loc x hx
  have hi : X.N[i]? = some x := by rw [F.hN]; exact h1
  refine wS.of (ps_aug (i := i) (by rw [F.hN]; exact F.nd) hi (.inl hl) pe_w (ti := r) (fun pins s σ H x y v u Q I r1 r2 hh => ho pins s σ H x y v u Q I r1 r2 hh) (.inr hl)) ?_
  refine ⟨v, n3, ?_⟩
  refine (h σ H rs m).mono fun u H1 ⟨d, M1, g1, g2, g3, g4⟩ => ?_
  refine mr _ _ _ _ _ (g4 v u H1 (n4.mono g3) g1 g2) fun z H2 ⟨d2, M2, k1, k2, k3, ρ2, e2, k4⟩ => ?_
  obtain ⟨i', q1, q2⟩ := e2.ix
  have ei : i' = i := nodup_ix F.nd q1 h1
  subst ei q2
  exact ⟨_, M2, ((rs.mono g3).mono k3).put hi (.inl hl) k1, k2, g3.trans k3, k4⟩
instance {cA : Int} {pos' : Pos} [F : Fx X P w K mg base sc N L C Gs Bs k] [mx : MemC x L] [A : At N ρ x (.int cA)] : Step (WS X ρ M (.AugAssign (.Name x pos') .BitOr e pos) nx rt bk ct) true (WE X ρ M e fun d M1 => R2D X.K (rI0 fun i j => .int (Builtin.bitOr i j)) (.int cA) d M1 fun d2 M2 => TgN N ρ x d2 fun ρ' => nx ρ' M2) := ⟨fun _ q => ws_augR F iop_or monI0 mx.h A q⟩
instance {cA : Int} {pos' : Pos} [F : Fx X P w K mg base sc N L C Gs Bs k] [mx : MemC x L] [A : At N ρ x (.int cA)] : Step (WS X ρ M (.AugAssign (.Name x pos') .RShift e pos) nx rt bk ct) true (WE X ρ M e fun d M1 => R2D X.K (rI (fun _ j => 0 ≤ j) fun i j => .int (i / 2 ^ j.toNat)) (.int cA) d M1 fun d2 M2 => TgN N ρ x d2 fun ρ' => nx ρ' M2) := ⟨fun _ q => ws_augR F iop_shr monI mx.h A q⟩
instance {i j : Int} : Step (R2D K (rI (fun _ j => 0 ≤ j) fun i j => .int (i / 2 ^ j.toNat)) (.int i) (.int j) M Q) true (Side (0 ≤ j) (Q (.int (i / 2 ^ j.toNat)) M)) := ⟨fun _ q => v_ci (g := fun i j => i / 2 ^ j.toNat) q.a q.b⟩
/-! all(list of flags) -/
theorem we_all (F : Fx X P w K mg base sc N L C Gs Bs k) (hx : ("all" : Str) ∈ Gs) (hx2 : ("all" : Str) ∈ Bs) (hs : noStars [e] = true) (h : WA X ρ M [e] fun ds M1 => CD X.K (rAll X.K) ds M1 Q) : WE X ρ M (.Call (.Name "all" p) [e] [] pos) Q :=
  we_blt F (cr_all F.calm) (fun xs H Q Q' ⟨a, bs, e1, e2, z⟩ q => ⟨a, bs, e1, e2, q _ _ z⟩) (by decide +kernel) hx hx2 hs h
theorem rds_bls {H : Hp} : ∀ {ns : List Bool} {vs : List V}, RDs K H (ns.map DV.bl) vs → vs = ns.map V.bl
  | [], _, h => by cases h; rfl
  | n :: ns, _, h => by
    cases h with
    | cons r t => cases r; rw [rds_bls t]; rfl
theorem v_all {bs : List Bool} {i : Nat} {p : Addr} (A : AtM M i p (.lst (bs.map .bl))) (q : Q (.bl (bs.all id)) M) : CD K (rAll K) [.ref p] M Q := .one fun v H r m => by
  cases r
  obtain ⟨vs, e, r⟩ := m.at A.ix
  have := rds_bls r
  subst this
  exact ⟨p, bs, rfl, SqL.of e, _, M, .bl _, m, Stay.refl, q⟩
instance [F : Fx X P w K mg base sc N L C Gs Bs k] [m : MemC "all" Gs] [m2 : MemC "all" Bs] : Step (WE X ρ M (.Call (.Name (Str.ofString "all") p) [e] [] pos) Q) (noStars [e]) (WA X ρ M [e] fun ds M1 => CD X.K (rAll X.K) ds M1 Q) := ⟨fun h q => we_all F m.h m2.h h q⟩
instance {bs : List Bool} {i : Nat} {p : Addr} [A : AtM M i p (.lst (bs.map .bl))] : Step (CD K (rAll K) [.ref p] M Q) true (Q (.bl (bs.all id)) M) := ⟨fun _ q => v_all A q⟩
/-! properties -/
class PropC (P : Program) (w : World) (K : Fg) (mg : Str → Option Value) (base : Heap) (Cc : Addr) (f : Str) (j : outParam Nat) (sp : outParam SpD) : Prop where
  cl : Cls K Cc
  ex : ∃ (pr g : Addr) (fd : FuncData) (ps : List Str), PropOf K Cc f pr g ∧ FnOk P w K mg base CX0 j g fd ps (sp1 K 1 sp) ∧ Binds K fd ps []
def PropT (K : Fg) (Cc : Addr) (f qual : Str) (st : Stmt) (ps : List Str) : Prop := Cls K Cc ∧ ∃ pr g fd, PropOf K Cc f pr g ∧ Fun K f qual st g fd ∧ Binds K fd ps []
theorem prop_mk {qual : Str} {st : Stmt} {ps : List Str} {sp : SpD} {Cc : Addr} (T : PropT K Cc f qual st ps) (S : FnScope N ps (defScope st)) (hst : stat (defScope st) N L C Gs = true) (hb : ∀ x ∈ Bs, mg x = none) (h1 : ps.length = 1)
    (h : ∀ X, Fx X P w K mg base (defScope st) N L C Gs Bs k → ∀ ds M Q, ds.length = ps.length → sp ds M Q → WSs X (ini N ds) M (defBody st) (fun _ M' => Sub (Q .non) M') (fun d M' => Sub (Q d) M') (fun _ _ => False) (fun _ _ => False)) : PropC P w K mg base Cc f (k + 1) sp := by
  obtain ⟨cl, pr, g, fd, t1, t2, t3⟩ := T
  have z := fn_ok t2 S hst hb h
  rw [h1] at z
  exact ⟨cl, pr, g, fd, ps, t1, z, t3⟩
def notSup : Expr → Bool
  | .Call (.Name id _) [] [] _ => id != "super"
  | _ => true
theorem attrBase' {o : Expr} {m : Str} {env : Env} {wh : Sem Value} (h : notSup o = true) : attributeBase o m env wh = wh := by
  unfold attributeBase
  split
  · rename_i id p1 p2
    have h : (id != "super") = true := h
    rw [h, Bool.true_or, Bool.true_or, Bool.true_or, if_pos rfl]
  · rfl
/-- what o.f asks: a field, or a property -/
def GetP (P : Program) (w : World) (K : Fg) (mg : Str → Option Value) (base : Heap) (k : Nat) (M : Mm) (x : DV) (f : Str) (Q : DV → Mm → Prop) : Prop :=
  GetF K M x f (fun d => Q d M) ∨ ∃ a i Cc fs j sp, x = .ref a ∧ AtM M i a (.ins Cc fs) ∧ PropC P w K mg base Cc f j sp ∧ j + 1 ≤ k ∧ sp [.ref a] M Q
theorem we_getP (F : Fx X P w K mg base sc N L C Gs Bs k) (ho : notSup o = true) (h : WE X ρ M o fun x M1 => GetP P w K mg base k M1 x f Q) : WE X ρ M (.Attribute o f pos) Q := fun σ H rs m pins s I => by
  have eP := F.hP; have ew := F.hw; have eK := F.hK; have eg := F.hmg; have eb := F.hbase
  subst eP ew eK eg eb
  refine attr_of (attrBase' ho) (thn (h σ H rs m pins s I) fun u s1 ⟨v, H1, I1, rx, d, M1, a1, a2, a3, a4⟩ => ?_)
  rcases a4 with ⟨a, i, Cc, fs, d2, e1, e2, e3, e4, e5⟩ | ⟨a, i, Cc, fs, j, sp, e1, e2, e3, e4, e5⟩
  · subst e1
    cases a1
    obtain rfl : u = Value.ref a := rx
    obtain ⟨dx, gs, g1, g2⟩ := a2.at e2.ix
    obtain ⟨z, z1, z2⟩ := g2.lookup_some e4
    exact getattr_ok I1 g1 e3.cl e3.no z1 fun u' s2 I2 ru => ⟨z, H1, I2, ru, d2, M1, z2, a2, a3, e5⟩
  · subst e1
    cases a1
    obtain rfl : u = Value.ref a := rx
    obtain ⟨dx, gs, g1, g2⟩ := a2.at e2.ix
    obtain ⟨pr, g, fd, ps, t1, t2, t3⟩ := e3.ex
    refine getprop_ok (E := E0) I1 g1 e3.cl t1 t2 (F.room.mono e4) t3 .nil pass0 ?_
    exact ⟨[.ref a], M1, Q, .cons (.ref a) .nil, a2, rfl, e5, fun d M' q v H' r1 r2 r3 => ⟨d, M', r1, r2, a3.trans r3, q⟩⟩
instance (priority := 2000) [F : Fx X P w K mg base sc N L C Gs Bs k] : Step (WE X ρ M (.Attribute o f pos) Q) (notSup o) (WE X ρ M o fun x M1 => GetP P w K mg base k M1 x f Q) := ⟨fun h q => we_getP F h q⟩
instance {a : Addr} {i : Nat} {Cc : Addr} {fs : List (Str × DV)} [A : AtM M i a (.ins Cc fs)] [E : FldC K Cc f] : Step (GetP P w K mg base k M (.ref a) f Q) true (∃ d, fs.lookup f = some d ∧ Q d M) := ⟨fun _ ⟨d, h1, h2⟩ => .inl ⟨a, i, Cc, fs, d, rfl, A, E, h1, h2⟩⟩
instance {a : Addr} {i : Nat} {Cc : Addr} {fs : List (Str × DV)} {sp : SpD} [A : AtM M i a (.ins Cc fs)] [E : PropC P w K mg base Cc f j sp] : Step (GetP P w K mg base k M (.ref a) f Q) (Nat.ble (j + 1) k) (sp [.ref a] M Q) := ⟨fun hk h => .inr ⟨a, i, Cc, fs, j, sp, rfl, A, E, Nat.le_of_ble_eq_true hk, h⟩⟩
end
/-! t[::-1] -/
section
variable {prog : Program} {w : World} {A : Around} {E : Value → Shared → Prop} {s : Shared}
theorem rev_range (n : Nat) (xs : Array Value) (hn : xs.size = n) : ((List.range n).filterMap fun (k : Nat) => xs[(((n : Int) - 1) + (k : Int) * (-1)).toNat]?).toArray = xs.toList.reverse.toArray := by
  have h := PySem.W.krv_pick xs
  unfold slicePick at h
  rw [PySem.W.krv_bounds] at h
  have h' : ((sliceRange ((xs.size : Int) - 1) (-1) (-1)).filterMap (xs[·]?)).toArray = xs.toList.reverse.toArray := h
  rw [PySem.W.krv_sliceRange, List.filterMap_map] at h'
  rw [← h', hn]
  congr 1
  have e : (fun (k : Nat) => xs[(((n : Int) - 1) + (k : Int) * (-1)).toNat]?) = ((fun x => xs[x]?) ∘ fun k => n - 1 - k) := by
    funext k
    show xs[(((n : Int) - 1) + (k : Int) * (-1)).toNat]? = xs[n - 1 - k]?
    have e : (((n : Int) - 1) + (k : Int) * (-1)).toNat = n - 1 - k := by omega
    rw [e]
  rw [e]
theorem sliceApplied_rev {sl : Addr} {vl vu vs : Value} {n : Nat} {Q : Int × Int × Nat → Shared → Prop} (hs : s.heap.IsSliceOf sl vl vu vs) (pl : IsPart vl none) (pu : IsPart vu none) (ps : IsPart vs (some (-1))) (h : Q ((n : Int) - 1, -1, n) s) : wpAny (model prog w) A (Builtin.Slice.sliceApplied (.ref sl) (pure (n : Int))) Q E s := by
  obtain ⟨os, hos, hcs, hds⟩ := id hs
  unfold Builtin.Slice.sliceApplied Builtin.Slice.sliceFields
  refine wpAny_bind (wpAny_bind (wpAny_field hos hds (x := vl) rfl (wpAny_bind (wpAny_field hos hds (x := vu) rfl (wpAny_bind (wpAny_field hos hds (x := vs) rfl (wpAny_pure ?_)))))))
  refine wpAny_bind (HT.slicePart_ ps ?_)
  show wpAny _ _ (if ((-1 : Int) == 0) = true then _ else _) _ _ s
  rw [if_neg (by decide)]
  refine wpAny_bind (HT.slicePart_ pl (wpAny_bind (HT.slicePart_ pu (wpAny_bind (wpAny_pure ?_)))))
  have e1 : Builtin.Slice.sliceAdjust none none (-1) (n : Int) = ((n : Int) - 1, -1) := by
    unfold Builtin.Slice.sliceAdjust
    simp
  have e2 : Builtin.Slice.slicePlaces ((n : Int) - 1) (-1) (-1) = n := by
    unfold Builtin.Slice.slicePlaces
    simp
    first
    | done
    | omega
    | (split <;> omega)
  show wpAny _ _ (match Builtin.Slice.sliceAdjust none none (-1) (n : Int) with | (lo, hi) => pure (lo, (-1 : Int), Builtin.Slice.slicePlaces lo hi (-1))) _ _ s
  rw [e1]
  show wpAny _ _ (pure ((n : Int) - 1, (-1 : Int), Builtin.Slice.slicePlaces ((n : Int) - 1) (-1) (-1))) _ _ s
  rw [e2]
  exact wpAny_pure h
theorem getItem_tuple_rev {t sl : Addr} {items : Array Value} {vl vu vs : Value} {Q : Value → Shared → Prop} (ht : IsTup s.heap t items) (hs : s.heap.IsSliceOf sl vl vu vs) (pl : IsPart vl none) (pu : IsPart vu none) (ps : IsPart vs (some (-1)))
    (h : Q (.ref s.heap.objs.size) { s with heap := s.heap.push { cls := .type "tuple", data := .seq items.toList.reverse.toArray } }) (hsz : items.size ≤ sizeLine) : wpAny (model prog w) A (getItem (.ref t) (.ref sl)) Q E s := by
  have htake : sizeOk (.seq items.toList.reverse.toArray) := by
    show items.toList.reverse.toArray.size ≤ sizeLine
    rw [List.size_toArray, List.length_reverse, Array.length_toList]
    exact hsz
  obtain ⟨os, hos, hcs, hds⟩ := id hs
  have hTs : s.TypeIs (.ref sl) "slice" := ⟨os, hos, hcs⟩
  unfold getItem
  try with_reducible refine wpAny_holding ?_
  first | refine wpAny_bind (wpAny_pure ?_) | skip
  refine wpAny_bind (wpAny_sequenceKey ht.typeIs (by decide) (wpAny_bind (wpAny_callSpecial?_slot (name := Str.ofString "__getitem__") ht.typeIs PyProof.Rows.slot_tuple_getitem (wpAny_call_entry PyProof.Rows.slot_tuple_getitem ht.typeIs entry_tuple_getitem ?_ (args_tuple_getitem _ _)))))
  show wpAny _ _ (Builtin.Tuple.tupleItemsOf (.ref t) >>= _) _ _ s
  refine wpAny_bind (tupleItemsOf_ ht (wpAny_bind (wpAny_typeOf hTs ?_)))
  rw [if_pos (by decide)]
  refine wpAny_bind (sliceApplied_rev (n := items.size) hs pl pu ps ?_)
  show wpAny _ _ (if (((items.size : Int) - 1) == 0 && (-1 : Int) == 1 && items.size == items.size) = true then _ else _) _ _ s
  rw [if_neg (by simp), rev_range items.size items rfl]
  first
    | exact wpAny_bind (m := Builtin.Tuple.tupleExact _) (wpAny_newObj_type (wpAny_pure ⟨_, rfl, wpAny_pure h⟩) htake)
    | exact wpAny_bind (m := Builtin.Tuple.tupleExact _) (wpAny_newObj_type (wpAny_bind (wpAny_pure (wpAny_pure ⟨_, rfl, wpAny_pure h⟩))) htake)
    | exact wpAny_bind (wpAny_bind (m := Builtin.Tuple.tupleExact _) (wpAny_newObj_type (wpAny_pure (wpAny_pure ⟨_, rfl, wpAny_pure h⟩)) htake))
end
section
variable {X : Cy} {ρ : Ro} {M : Mm} {Q : DV → Mm → Prop} {e : Expr} {pos p1 p2 p3 : Pos} {k : Nat}
theorem we_revT (h : WE X ρ M e fun x M1 => ∃ ds, x = .tup ds ∧ Q (.tup ds.reverse) M1) : WE X ρ M (.Subscript e (.Slice none none (some (.UnaryOp .USub (.Constant (.int 1) k p1) p2)) p3) pos) Q := fun σ H rs m pins s I => by
  refine Subscript_ (thn (h σ H rs m pins s I) fun v s1 ⟨x, H1, I1, r1, d, M1, a1, a2, a3, ds, e1, q⟩ => ?_)
  subst e1
  cases a1 with
  | tup sq rd =>
    rename_i a xs
    obtain rfl : v = Value.ref a := r1
    have hst : PO X.toCx (some (.UnaryOp .USub (.Constant (.int 1) k p1) p2)) (tPart (tUn (rU fun i => .int (-i)) (tC (.int 1)))) := po_some (pe_un un_neg pe_int)
    refine wpAny_Slice (thn (po_none.run pins s1 σ H1 (fun o H2 => o = none ∧ H2 = H1) I1 ⟨rfl, rfl⟩) fun vl s2 ⟨l, H2, I2, pl, el, e2⟩ => ?_)
    subst el e2
    refine thn (po_none.run pins s2 σ H2 (fun o H3 => o = none ∧ H3 = H2) I2 ⟨rfl, rfl⟩) fun vu s3 ⟨u, H3, I3, pu, eu, e3⟩ => ?_
    subst eu e3
    refine thn (hst.run pins s3 σ H3 (fun o H4 => o = some (-1) ∧ H4 = H3) I3 ⟨1, rfl, -1, rfl, rfl, rfl⟩) fun vs s4 ⟨o, H4, I4, ps, eo, e4⟩ => ?_
    subst eo e4
    have I5 : Inv X.toCx pins σ H4 { s4 with heap := s4.heap.push { cls := .type "slice", data := .fields #[vl, vu, vs] } } := I4.kept (t' := s4.toks) fun b ob q => Heap.get?_push_of_some _ q
    obtain ⟨its, r, ht, hz⟩ := I5.tuple sq
    have hlen := r.length
    show wpAny (model X.prog X.w) X.A (subscriptTail e (.Slice none none (some (.UnaryOp .USub (.Constant (.int 1) k p1) p2)) p3) (.ref a) (.ref s4.heap.objs.size)) (EP X.toCx pins σ _) X.xe { s4 with heap := s4.heap.push { cls := .type "slice", data := .fields #[vl, vu, vs] } }
    refine tail_any (ops := [.ref a, .ref s4.heap.objs.size]) ht.typeIs (PyProof.Rows.slot_tuple_getitem.lookup) ?_ (by with_unfolding_all rfl)
    refine getItem_tuple_rev ht (Heap.IsSliceOf.new _ vl vu vs) pl pu ps ?_ (by rw [List.size_toArray]; omega)
    have hf := I5.hok.fresh (Nat.le_refl _)
    refine ⟨.ref _, _, I5.laid (t' := s4.toks) (o := .tup xs.reverse) (fun b ob q => Heap.get?_push_of_some _ q) (Nat.le_refl _) ?_, rfl, .tup ds.reverse, M1, .tup (vs := xs.reverse) (.inl (.inl upd_same)) (rd.reverse.mono (Stay.new hf)), a2.new hf, a3.trans (Stay.new hf), q⟩
    exact ⟨by rw [List.length_reverse]; exact hz, _, r.reverse, _, Heap.get?_push_size _ rfl, rfl, 0, rfl⟩
def RevD (x : DV) (S : DV → Prop) : Prop := ∃ ds, x = .tup ds ∧ S (.tup ds.reverse)
instance {ds : List DV} {S : DV → Prop} : Step (RevD (.tup ds) S) true (S (.tup ds.reverse)) := ⟨fun _ q => ⟨ds, rfl, q⟩⟩
instance : Step (WE X ρ M (.Subscript e (.Slice none none (some (.UnaryOp .USub (.Constant (.int 1) k p1) p2)) p3) pos) Q) true (WE X ρ M e fun x M1 => RevD x fun d => Q d M1) := ⟨fun _ q => we_revT q⟩
end
/-! repr as a step; a tuple's item whose place is told -/
section
variable {X : Cy} {P : Program} {w : World} {K : Fg} {mg : Str → Option Value} {base : Heap} {sc : Scope} {N L C Gs Bs : List Str} {k : Nat} {ρ : Ro} {M : Mm} {Q : DV → Mm → Prop} {e tg : Expr} {pos p : Pos}
instance [F : Fx X P w K mg base sc N L C Gs Bs k] [m : MemC "repr" Gs] [m2 : MemC "repr" Bs] : Step (WE X ρ M (.Call (.Name (Str.ofString "repr") p) [e] [] pos) Q) (!isStar e) (WE X ρ M e fun d M1 => ∃ t, RepAt X d M1 t ∧ Q (.str t) M1) := ⟨fun h q => we_repr F m.h m2.h (by simpa using h) q⟩
instance [F : Fs X K mg sc N L Gs Bs] [m : MemC "repr" Gs] [m2 : MemC "repr" Bs] : Step (WE X ρ M (.Call (.Name (Str.ofString "repr") p) [e] [] pos) Q) (!isStar e) (WE X ρ M e fun d M1 => ∃ t, RepAt X d M1 t ∧ Q (.str t) M1) := ⟨fun h q => we_reprS F m.h m2.h (by simpa using h) q⟩
theorem RDs.openAt {H : Hp} {es : List DV} : ∀ {ds : List DV} {vs : List V} {i : Nat}, RDs K H ds vs → ds[i]? = some (.tup es) → ∃ a, RDs K H (ds.set i (.tupA a es)) vs
  | _, _, _, .nil, h => by simp at h
  | _, _, 0, .cons r t, h => by
    simp at h
    subst h
    cases r with
    | tup sq q => exact ⟨_, .cons (.tupA sq q) t⟩
  | _, _, i + 1, .cons r t, h => by
    obtain ⟨a, q⟩ := RDs.openAt (i := i) t (by simpa using h)
    exact ⟨a, .cons r q⟩
theorem wi_tupO {es : List DV} (i : Nat) {R : Nat → (Nat → DV) → (Mm → Prop) → Mm → Prop} (h : WE X ρ M e fun d M1 => ∃ ds, d = .tup ds ∧ ds[i]? = some (.tup es) ∧ ∀ a, R (ds.set i (.tupA a es)).length (fun j => (ds.set i (.tupA a es)).getD j .non) (fun _ => True) M1) : WI X ρ M tg e R := by
  refine ⟨_, pi_tup pe_w, fun σ H rs m => ?_⟩
  refine (h σ H rs m).mono fun v H1 ⟨d, M1, h1, h2, h3, ds, e, h4, h5⟩ => ?_
  subst e
  cases h1 with
  | tup sq r =>
    obtain ⟨a, r'⟩ := r.openAt h4
    exact ⟨_, rfl, ⟨_, sq⟩, _, _, _, M1, it_tup sq r', h2, h3, h5 a⟩
end
end G
namespace G
open PySem PySem.Spec PyProof.Rows L2
/-! ### zip of two tuples; (x, y), z in comprehensions; sum, max, min; staticmethods -/
section
variable {X : Cy} {P : Program} {w : World} {K : Fg} {mg : Str → Option Value} {base : Heap} {sc : Scope} {N L C Gs Bs L' C' Gs' : List Str} {k j n : Nat} {ρ ρ' : Ro} {M : Mm} {Q : DV → Mm → Prop} {R : Bool → Mm → Prop} {elt iter a b c e e2 o : Expr} {es elts : List Expr} {scope : Scope} {x y z f m : Str} {i l kt kt2 : Nat} {ms : List Bool} {pos px py pz pt pt2 p apos tpos : Pos}
theorem it_zip {H0 : Hp} {a b : Addr} {ds es : List DV} {vs us : List V} (sa : SqT K H0 a vs) (sb : SqT K H0 b us) (ra : RDs K H0 ds vs) (rb : RDs K H0 es us) (hl : ds.length = es.length) : ItD K H0 (RZ.ItzT K a b) ds.length (fun i => .tup [ds.getD i .non, es.getD i .non]) (fun _ => True) where
  go := fun i H M st m _ hi => by
    obtain ⟨v, h1, h2⟩ := ra.get (List.getElem?_eq_getElem hi)
    obtain ⟨u, g1, g2⟩ := rb.get (List.getElem?_eq_getElem (by omega : i < es.length))
    exact ⟨vs, us, v, u, st.sqt sa, st.sqt sb, h1, g1⟩
  yld := fun i H M v H' st m _ hi ⟨T, x, y, e1, e2, e3, e4, e5⟩ => by
    subst e1 e3
    obtain ⟨v, h1, h2⟩ := ra.get (List.getElem?_eq_getElem hi)
    obtain ⟨u, g1, g2⟩ := rb.get (List.getElem?_eq_getElem (by omega : i < es.length))
    have z1 := e4 vs (st.sqt sa)
    have z2 := e5 us (st.sqt sb)
    rw [h1] at z1
    rw [g1] at z2
    cases z1
    cases z2
    have q1 : ds.getD i .non = ds[i] := by rw [List.getD_eq_getElem?_getD, List.getElem?_eq_getElem hi]; rfl
    have q2 : es.getD i .non = es[i]'(by omega) := by rw [List.getD_eq_getElem?_getD, List.getElem?_eq_getElem (by omega : i < es.length)]; rfl
    refine ⟨.tup (.inl (.inl upd_same)) ?_, Stay.new e2, m.new e2⟩
    rw [q1, q2]
    exact .cons ((h2.mono st).mono (Stay.new e2)) (.cons ((g2.mono st).mono (Stay.new e2)) .nil)
  stop := fun H M st m _ => ⟨vs, us, st.sqt sa, st.sqt sb, .inl (by rw [ra.length]; exact Nat.le_refl _)⟩
theorem wi_zip {R : Nat → (Nat → DV) → (Mm → Prop) → Mm → Prop} (F : Fx X P w K mg base sc N L C Gs Bs k) (hx : ("zip" : Str) ∈ Gs) (hx2 : ("zip" : Str) ∈ Bs) (hs : isStar e = false) (hs2 : isStar e2 = false)
    (h : WA X ρ M [e, e2] fun ds M1 => ∃ xs ys, ds = [.tup xs, .tup ys] ∧ xs.length = ys.length ∧ R xs.length (fun i => .tup [xs.getD i .non, ys.getD i .non]) (fun _ => True) M1) : WI X ρ M (.Tuple elts kt tpos) (.Call (.Name "zip" p) [e, e2] [] pos) R := by
  obtain ⟨g1, g2, g3⟩ := F.gl _ hx
  refine ⟨_, RZ.pi_zipA g1 (by rw [F.hmg]; exact F.bl _ hx2) pa_w (starEach_cons hs) (by rw [starEach_cons hs2]; rfl), fun σ H rs m => ?_⟩
  refine (h σ H rs m).mono fun vs H1 ⟨ds, M1, h1, h2, h3, xs, ys, e1, hl, h4⟩ => ?_
  subst e1
  cases h1 with
  | cons r1 r =>
    cases r with
    | cons r2 r =>
      cases r
      cases r1 with
      | tup s1 q1 =>
        cases r2 with
        | tup s2 q2 => exact ⟨_, _, _, _, rfl, .inr ⟨s1, s2, _, _, _, M1, it_zip s1 s2 q1 q2 hl, h2, h3, h4⟩⟩
/-! sum, max, min of a list of ints -/
theorem we_sum (F : Fx X P w K mg base sc N L C Gs Bs k) (hx : ("sum" : Str) ∈ Gs) (hx2 : ("sum" : Str) ∈ Bs) (hs : noStars [e] = true) (h : WA X ρ M [e] fun ds M1 => CD X.K (rSum X.K) ds M1 Q) : WE X ρ M (.Call (.Name "sum" p) [e] [] pos) Q :=
  we_blt F (cr_sum F.calm) (fun xs H Q Q' ⟨a, bs, e1, e2, z⟩ q => ⟨a, bs, e1, e2, q _ _ z⟩) (by decide +kernel) hx hx2 hs h
theorem we_maxL (F : Fx X P w K mg base sc N L C Gs Bs k) (hx : ("max" : Str) ∈ Gs) (hx2 : ("max" : Str) ∈ Bs) (hs : noStars [e] = true) (h : WA X ρ M [e] fun ds M1 => CD X.K (rMax X.K) ds M1 Q) : WE X ρ M (.Call (.Name "max" p) [e] [] pos) Q :=
  we_blt F (cr_max F.calm) (fun xs H Q Q' ⟨a, bs, e1, e2, e3, z⟩ q => ⟨a, bs, e1, e2, e3, fun m h1 h2 => q _ _ (z m h1 h2)⟩) (by decide +kernel) hx hx2 hs h
theorem we_minL (F : Fx X P w K mg base sc N L C Gs Bs k) (hx : ("min" : Str) ∈ Gs) (hx2 : ("min" : Str) ∈ Bs) (hs : noStars [e] = true) (h : WA X ρ M [e] fun ds M1 => CD X.K (rMin X.K) ds M1 Q) : WE X ρ M (.Call (.Name "min" p) [e] [] pos) Q :=
  we_blt F (cr_min F.calm) (fun xs H Q Q' ⟨a, bs, e1, e2, e3, z⟩ q => ⟨a, bs, e1, e2, e3, fun m h1 h2 => q _ _ (z m h1 h2)⟩) (by decide +kernel) hx hx2 hs h
instance [F : Fx X P w K mg base sc N L C Gs Bs k] [m : MemC "sum" Gs] [m2 : MemC "sum" Bs] : Step (WE X ρ M (.Call (.Name (Str.ofString "sum") p) [e] [] pos) Q) (noStars [e]) (WA X ρ M [e] fun ds M1 => CD X.K (rSum X.K) ds M1 Q) := ⟨fun h q => we_sum F m.h m2.h h q⟩
instance [F : Fx X P w K mg base sc N L C Gs Bs k] [m : MemC "max" Gs] [m2 : MemC "max" Bs] : Step (WE X ρ M (.Call (.Name (Str.ofString "max") p) [e] [] pos) Q) (noStars [e]) (WA X ρ M [e] fun ds M1 => CD X.K (rMax X.K) ds M1 Q) := ⟨fun h q => we_maxL F m.h m2.h h q⟩
instance [F : Fx X P w K mg base sc N L C Gs Bs k] [m : MemC "min" Gs] [m2 : MemC "min" Bs] : Step (WE X ρ M (.Call (.Name (Str.ofString "min") p) [e] [] pos) Q) (noStars [e]) (WA X ρ M [e] fun ds M1 => CD X.K (rMin X.K) ds M1 Q) := ⟨fun h q => we_minL F m.h m2.h h q⟩
/-- the greatest, the least -/
def maxZ : List Int → Int
  | [] => 0
  | [a] => a
  | a :: b :: r => max a (maxZ (b :: r))
def minZ : List Int → Int
  | [] => 0
  | [a] => a
  | a :: b :: r => min a (minZ (b :: r))
theorem maxZ_is : ∀ {l : List Int}, l ≠ [] → maxZ l ∈ l ∧ ∀ y ∈ l, y ≤ maxZ l
  | [a], _ => ⟨by simp [maxZ], by simp [maxZ]⟩
  | a :: b :: r, _ => by
    obtain ⟨h1, h2⟩ := maxZ_is (l := b :: r) (by simp)
    rw [maxZ]
    refine ⟨?_, fun y hy => ?_⟩
    · rcases Int.le_total a (maxZ (b :: r)) with h | h
      · rw [Int.max_eq_right h]; exact List.mem_cons_of_mem _ h1
      · rw [Int.max_eq_left h]; exact List.mem_cons_self
    · rcases List.mem_cons.mp hy with rfl | hy
      · omega
      · have := h2 y hy; omega
theorem minZ_is : ∀ {l : List Int}, l ≠ [] → minZ l ∈ l ∧ ∀ y ∈ l, minZ l ≤ y
  | [a], _ => ⟨by simp [minZ], by simp [minZ]⟩
  | a :: b :: r, _ => by
    obtain ⟨h1, h2⟩ := minZ_is (l := b :: r) (by simp)
    rw [minZ]
    refine ⟨?_, fun y hy => ?_⟩
    · rcases Int.le_total a (minZ (b :: r)) with h | h
      · rw [Int.min_eq_left h]; exact List.mem_cons_self
      · rw [Int.min_eq_right h]; exact List.mem_cons_of_mem _ h1
    · rcases List.mem_cons.mp hy with rfl | hy
      · omega
      · have := h2 y hy; omega
theorem maxZ_of {l : List Int} {m : Int} (h1 : m ∈ l) (h2 : ∀ y ∈ l, y ≤ m) : m = maxZ l := by
  obtain ⟨a, b⟩ := maxZ_is (l := l) (fun z => by rw [z] at h1; cases h1)
  have := h2 _ a; have := b _ h1; omega
theorem minZ_of {l : List Int} {m : Int} (h1 : m ∈ l) (h2 : ∀ y ∈ l, m ≤ y) : m = minZ l := by
  obtain ⟨a, b⟩ := minZ_is (l := l) (fun z => by rw [z] at h1; cases h1)
  have := h2 _ a; have := b _ h1; omega
instance {ns : List Int} {i : Nat} {p : Addr} [A : AtM M i p (.lst (ns.map .int))] : Step (CD K (rSum K) [.ref p] M Q) true (Q (.int ns.sum) M) := ⟨fun _ q => .one fun v H r m => by
  cases r
  obtain ⟨vs, e, r⟩ := m.at A.ix
  have := rds_ints' r
  subst this
  exact ⟨p, ns, rfl, SqL.of e, _, M, .int _, m, Stay.refl, q⟩⟩
instance {ns : List Int} {i : Nat} {p : Addr} [A : AtM M i p (.lst (ns.map .int))] : Step (CD K (rMax K) [.ref p] M Q) true (Side (0 < ns.length) (Q (.int (maxZ ns)) M)) := ⟨fun _ q => .one fun v H r m => by
  cases r
  obtain ⟨vs, e, r⟩ := m.at A.ix
  have := rds_ints' r
  subst this
  exact ⟨p, ns, rfl, SqL.of e, q.a, fun mm h1 h2 => ⟨_, M, .int _, m, Stay.refl, by rw [maxZ_of h1 h2]; exact q.b⟩⟩⟩
instance {ns : List Int} {i : Nat} {p : Addr} [A : AtM M i p (.lst (ns.map .int))] : Step (CD K (rMin K) [.ref p] M Q) true (Side (0 < ns.length) (Q (.int (minZ ns)) M)) := ⟨fun _ q => .one fun v H r m => by
  cases r
  obtain ⟨vs, e, r⟩ := m.at A.ix
  have := rds_ints' r
  subst this
  exact ⟨p, ns, rfl, SqL.of e, q.a, fun mm h1 h2 => ⟨_, M, .int _, m, Stay.refl, by rw [minZ_of h1 h2]; exact q.b⟩⟩⟩
/-! (x, y), z in a comprehension -/
structure Lc3 (N : List Str) (sc scope : Scope) (x y z : Str) (i j l : Nat) (ms : List Bool) (L' C' Gs' : List Str) : Prop where
  hi : N[i]? = some x
  hj : N[j]? = some y
  hl : N[l]? = some z
  hx : x ∈ L' ∨ x ∈ C'
  hy : y ∈ L' ∨ y ∈ C'
  hz : z ∈ L' ∨ z ∈ C'
  ok : blkC N sc scope [(x, i), (y, j), (z, l)] = true
  st : stat (relS scope sc) N L' C' Gs' = true
  hm : maskC N (relS scope sc) scope [(x, i), (y, j), (z, l)] C' ms = true
def TgT3 (N : List Str) (ρ : Ro) (x y z : Str) : TgD := fun d S => ∃ d1 d2 d3 ρ1 ρ2 ρ3, d = .tup [.tup [d1, d2], d3] ∧ Put d1 N ρ x ρ1 ∧ Put d2 N ρ1 y ρ2 ∧ Put d3 N ρ2 z ρ3 ∧ S ρ3
instance {d1 d2 d3 : DV} {ρ1 ρ2 ρ3 : Ro} {S : Ro → Prop} [h : Put d1 N ρ x ρ1] [h2 : Put d2 N ρ1 y ρ2] [h3 : Put d3 N ρ2 z ρ3] : Step (TgT3 N ρ x y z (.tup [.tup [d1, d2], d3]) S) true (S ρ3) := ⟨fun _ q => ⟨d1, d2, d3, ρ1, ρ2, ρ3, rfl, h, h2, h3, q⟩⟩
theorem we_lc3 {ifs : List Expr} (F : Fx X P w K mg base sc N L C Gs Bs k) (c : Lc3 N sc scope x y z i j l ms L' C' Gs') (hs : notSet iter = true) (hif : ifs.length ≤ 1)
    (h : WI X ρ M (.Tuple [.Tuple [.Name x px, .Name y py] kt2 pt2, .Name z pz] kt pt) iter (LcI P w K mg base (relS scope sc) N L' C' Gs' Bs k (TgT3 N (mask ms ρ) x y z) elt ifs Q)) : WE X ρ M (.ListComp elt [⟨.Tuple [.Tuple [.Name x px, .Name y py] kt2 pt2, .Name z pz] kt pt, iter, ifs, 0⟩] scope pos) Q := by
  obtain ⟨g1, g2⟩ := lc_nm (px := px) (ifs := ifs) (own := [(x, i), (y, j), (z, l)]) F c.hi c.hx c.st c.hm (by simp)
  obtain ⟨f1, f2⟩ := lc_nm (px := py) (ifs := ifs) (own := [(x, i), (y, j), (z, l)]) F c.hj c.hy c.st c.hm (by simp)
  obtain ⟨k1, k2⟩ := lc_nm (px := pz) (ifs := ifs) (own := [(x, i), (y, j), (z, l)]) F c.hl c.hz c.st c.hm (by simp)
  have eK := F.hK
  have G1 : ∀ (s : Shared) (H : Hp) (Ca : Addr) (cl : List (Str × Addr)) (fp : List Addr), PG (X.blk s H scope (compEnvC scope cl Ca X.env) fp) (.Tuple [.Tuple [.Name x px, .Name y py] kt2 pt2, .Name z pz] kt pt) (gTup X.K 2 (gCons (gTup X.K 2 (gCons (gName i) (gCons (gName j) gNil))) (gCons (gName l) gNil))) := fun s H Ca cl fp =>
    pg_tup (X := X.blk s H scope (compEnvC scope cl Ca X.env) fp) (n := 2) F.calm (pgs_cons (pg_tup (X := X.blk s H scope (compEnvC scope cl Ca X.env) fp) (n := 2) F.calm (pgs_cons (g1 s H Ca cl fp) (pgs_cons (f1 s H Ca cl fp) pgs_nil rfl) rfl) rfl rfl) (pgs_cons (k1 s H Ca cl fp) pgs_nil rfl) rfl) rfl rfl
  intro σ H rs m pins s I
  obtain ⟨wi, tt, te, p1, p2, p3, p4⟩ := lc_gen (own := [(x, i), (y, j), (z, l)]) F c.ok c.st c.hm hs hif G1 (fun d S σ H0 v Qg t hr r q => by
    obtain ⟨d1, d2, d3, ρ1, ρ2, ρ3, rfl, h1, h2, h3, h4⟩ := t
    cases r with
    | tup sq rr =>
      cases rr with
      | cons ra rr =>
        cases rr with
        | cons rb rr =>
          cases rr
          cases ra with
          | tup sq2 rr2 =>
            cases rr2 with
            | cons r1 rr2 =>
              cases rr2 with
              | cons r2 rr2 =>
                cases rr2
                refine ⟨_, _, rfl, by rw [eK]; exact sq, rfl, _, _, rfl, ?_⟩
                refine ⟨_, _, rfl, by rw [eK]; exact sq2, rfl, _, _, rfl, ?_⟩
                refine g2 d1 (mask ms ρ) (fun ρ' => TgN N ρ' y d2 fun ρ'' => TgN N ρ'' z d3 S) σ _ H0 _ _ ⟨ρ1, h1, ρ2, h2, ρ3, h3, h4⟩ (by rw [wipe_wipe]) hr r1 fun σ2 ρ2' ew hr2 t2 => ?_
                refine ⟨_, _, rfl, ?_⟩
                refine f2 d2 ρ2' (fun ρ'' => TgN N ρ'' z d3 S) σ σ2 H0 _ _ t2 ew hr2 r2 fun σ3 ρ3' ew3 hr3 t3 => ?_
                refine ⟨rfl, _, _, rfl, ?_⟩
                exact k2 d3 ρ3' S σ σ3 H0 _ _ t3 ew3 hr3 rb fun σ4 ρ4 ew4 hr4 h4 => ⟨rfl, q σ4 ρ4 ew4 hr4 h4⟩) h rs m (Inv_len F I) (KQ := LE X.K H Q) fun D H' M2 r st q => ⟨_, M2, .ref D, r, st, q⟩
  exact (pe_lc (own := [(x, i), (y, j), (z, l)]) F.calm (by rw [F.hN]; exact F.nd) p1 (blkOk_by (by rw [F.hN, F.hsc]; exact c.ok)) G1 p2 p3 (notSet_ok hs)).run pins s σ H _ I p4
end
end G
namespace G
open PySem PySem.Spec PyProof.Rows L2
/-! ### staticmethods -/
structure StF (K : Fg) (C : Addr) (m : Str) (pS f : Addr) : Prop where
  cg : PySem.W.specialIn K (.ref C) "__getattribute__" = some (some (.builtin "type.__getattribute__"))
  rd : PySem.W.readsIn K C (.type "type") = true
  fc : PySem.W.findCls K (.ref C) (.type "type") m = some (.get (.builtin "staticmethod.__get__") (.ref pS) .none (.ref C))
  rc : ∃ rest, PySem.W.recIn K pS "staticmethod" = some (.ref f :: rest)
  kp : PySem.W.keepIn K (.ref f) = true
  fi : PySem.W.findIn K (.ref C) m = some (some (.ref pS))
  ty : PySem.W.typeIn K (.ref pS) = some (.type "staticmethod")
  gt : PySem.W.specialIn K (.ref pS) "__get__" = some (some (.builtin "staticmethod.__get__"))
  tk : PySem.W.takesIn K (.ref pS) = some false
  cn : PySem.W.copiedNames.contains m = false
  cl : Cls K C
class Sta (P : Program) (w : World) (K : Fg) (mg : Str → Option Value) (base : Heap) (C : outParam Addr) (m : Str) (j n : outParam Nat) (sp : outParam SpX) : Prop where
  ex : ∃ (pS f : Addr) (fd : FuncData) (ps : List Str), StF K C m pS f ∧ FnOk P w K mg base (L2.CX P w) j f fd ps (sp1X K n sp) ∧ Binds K fd ps []
def StT (K : Fg) (C : Addr) (m qual : Str) (st : Stmt) (ps : List Str) : Prop := ∃ pS f fd dV, StF K C m pS f ∧ FunD K m qual st f fd dV ∧ Binds K fd ps []
theorem sta_mk {P : Program} {w : World} {K : Fg} {mg : Str → Option Value} {base : Heap} {N L C Gs Bs : List Str} {k : Nat} {m qual : Str} {st : Stmt} {ps : List Str} {Cc : Addr} {sp : SpX} (T : StT K Cc m qual st ps) (S : FnScope N ps (defScope st)) (hst : stat (defScope st) N L C Gs = true) (hb : ∀ x ∈ Bs, mg x = none)
    (h : ∀ X, Fx X P w K mg base (defScope st) N L C Gs Bs k → ∀ ds M Q E, ds.length = ps.length → sp ds M Q E → Tk X (fun Cc fs _ M' => Sub (E Cc fs) M') → WSs X (ini N ds) M (defBody st) (fun _ M' => Sub (Q .non) M') (fun d M' => Sub (Q d) M') (fun _ _ => False) (fun _ _ => False)) :
    Sta P w K mg base Cc m (k + 1) ps.length sp := by
  obtain ⟨pS, f, fd, dV, h1, h2, h3⟩ := T
  exact ⟨pS, f, fd, ps, h1, fn_okDX h2 S hst hb h, h3⟩
section
variable {X : Cy} {P : Program} {w : World} {K : Fg} {mg : Str → Option Value} {base : Heap} {sc : Scope} {N L C Gs Bs : List Str} {k j n : Nat} {ρ : Ro} {M : Mm} {Q : DV → Mm → Prop} {e o : Expr} {es : List Expr} {pos p apos : Pos} {x m : Str} {sp : SpX} {Cc : Addr} {E : EX}
theorem meth_eval' {o : Expr} {m : Str} {apos pos : Pos} {es : List Expr} {env : Env} (ho : notSup o = true) (hs : noStars es = true) (hn : es.length < 30) (hl : (apos.endLine == pos.line) = true) :
    eval (.Call (.Attribute o m apos) es [] pos) env = (do
      let ov ← eval o env
      standAt apos.atName
      let (f, first) ← holding [ov] (getMethod ov m (do return (← importBound o env).getD true))
      callWith pos f first (backTo pos (starEach es env)) (backToKw pos (keywordEach [] env))) := by
  have hf : methodCallForm (es.length + ([] : List Keyword).length) (backTo pos (starEach es env)) (backToKw pos (keywordEach [] env)) = true := by
    unfold methodCallForm
    rw [noStars_all hs]
    show (true && true && decide (es.length + 0 + 0 < 30)) = true
    rw [decide_eq_true (by omega)]
    rfl
  show (do
    let ov ← attributeBase o m env (eval o env)
    standAt apos.atName
    methodCall o m apos pos env ov (es.length + ([] : List Keyword).length) (backTo pos (starEach es env)) (backToKw pos (keywordEach [] env))) = _
  rw [attrBase' ho]
  unfold methodCall
  rw [hf]
  have hp : methodCallPos true o env apos pos = pure pos := by
    unfold methodCallPos
    rw [if_pos (by rw [hl]; rfl)]
  rw [hp]
  rfl
/-- the call itself, f found -/
theorem stat_run {f : Addr} {fd : FuncData} {ps : List Str} {σ : L2.St} {H H0 : Hp} {pins : List (Addr × Obj)} {s : Shared} (T : Tk X E) (G1 : FnOk X.prog X.w X.K X.mg X.base (L2.CX X.prog X.w) j f fd ps (sp1X X.K n sp)) (hr : Room j X.A) (hb : Binds X.K fd ps []) (hkp : PySem.W.keepIn X.K (.ref f) = true) (hs : noStars (e :: es) = true)
    (I : Inv X.toCx pins σ H s) (rs : RS X H ρ σ) (rm : RM X.K H M) (st0 : Stay X.K H0 H) (h : WA X ρ M (e :: es) fun ds M1 => ds.length = n ∧ sp ds M1 Q (fun C fs M' => E C fs ρ M')) :
    wpAny (model X.prog X.w) X.A (callWith pos (.ref f) [] (backTo pos (starEach (e :: es) X.env)) (backToKw pos (keywordEach [] X.env))) (EP X.toCx pins σ (LE X.K H0 Q)) X.xe s := by
  obtain ⟨h1, h2⟩ := noStars_cons hs
  have tk := T.tk
  refine PySem.W.callWith_K (first := []) (h₀ := X.base) I.ok.mod.kin hkp (thn (pa_w.run pos pins s σ H _ I (h σ H rs rm)) fun us s2 ⟨vs, H2, I2, r, ds, M1, k1, k2, k3, k4, k5⟩ => ⟨I2.kIn, ?_⟩) (starEach_cons h1) (noStars_any h2)
  refine run_fnSD (ds := []) (dvs := []) (E := fun σ cls d H' => LX X E cls d σ H') G1 hr hb .nil (passAt tk σ) I2 r ?_
  rw [List.append_nil]
  exact ⟨ds, M1, Q, _, k1, k2, k4, k5, fun d M' q v H' r1 r2 r3 => ⟨d, M', r1, r2, (st0.trans k3).trans r3, q⟩, fun C fs M' q dd gs H' e1 e2 e3 st => LX.of (rs.mono k3) st e1 e2 e3 q⟩
/-- C.m(e, ..) -/
theorem we_statC (F : Fx X P w K mg base sc N L C Gs Bs k) (T : Tk X E) (G : Sta P w K mg base Cc m j n sp) (hj : j ≤ k) (hx : x ∈ Gs) (hm : mg x = some (.ref Cc)) (hs : noStars (e :: es) = true) (hn : (e :: es).length < 30) (hl : (apos.endLine == pos.line) = true)
    (h : WA X ρ M (e :: es) fun ds M1 => ds.length = n ∧ sp ds M1 Q (fun C fs M' => E C fs ρ M')) : WE X ρ M (.Call (.Attribute (.Name x p) m apos) (e :: es) [] pos) Q := fun σ H rs rm pins s I => by
  obtain ⟨pS, f, fd, ps, S, G1, hb⟩ := G.ex
  obtain ⟨g1, g2, g3⟩ := F.gl x hx
  have eP := F.hP; have ew := F.hw; have eK := F.hK; have eg := F.hmg; have eb := F.hbase
  subst eP ew eK eg eb
  obtain ⟨rest, hrc⟩ := S.rc
  refine PySem.W.methodCall_KW (ld_glob I g1 hm ?_ g2) (meth_eval' (o := .Name x p) rfl hs hn hl)
  refine PySem.W.method_cls I.kIn S.cg (PySem.W.cls_bind I.kIn S.rd S.fc (wpAny_call (PySem.W.sm_get (s := { s with toks := s.toks + 1 }) I.kIn hrc (PySem.W.handed_on rfl ?_))))
  exact stat_run T G1 (F.room.mono hj) hb S.kp hs (I.tok _) rs rm Stay.refl h
/-- o.m(e, ..), o an instance -/
theorem we_statI (F : Fx X P w K mg base sc N L C Gs Bs k) (T : Tk X E) (G : Sta P w K mg base Cc m j n sp) (hj : j ≤ k) (ho : notSup o = true) (hs : noStars (e :: es) = true) (hn : (e :: es).length < 30) (hl : (apos.endLine == pos.line) = true)
    (h : WE X ρ M o fun d M1 => ∃ a i fs, d = .ref a ∧ AtM M1 i a (.ins Cc fs) ∧ fs.lookup m = none ∧ WA X ρ M1 (e :: es) fun ds M2 => ds.length = n ∧ sp ds M2 Q (fun C fs M' => E C fs ρ M')) : WE X ρ M (.Call (.Attribute o m apos) (e :: es) [] pos) Q := fun σ H rs rm pins s I => by
  obtain ⟨pS, f, fd, ps, S, G1, hb⟩ := G.ex
  have eP := F.hP; have ew := F.hw; have eK := F.hK; have eg := F.hmg; have eb := F.hbase
  subst eP ew eK eg eb
  obtain ⟨rest, hrc⟩ := S.rc
  refine PySem.W.methodCall_KW (thn (h σ H rs rm pins s I) fun u s1 ⟨v, H1, I1, rx, d, M1, a1, a2, a3, a, i, fs, e1, e2, e3, e4⟩ => ?_) (meth_eval' ho hs hn hl)
  subst e1
  cases a1
  obtain rfl : u = Value.ref a := rx
  obtain ⟨dx, gs, q1, q2⟩ := a2.at e2.ix
  obtain ⟨mA, O, r, _, _, _⟩ := ins_get I1.hok q1
  have hn : mA m = none := RelO.none_of (by rw [← q2.lookup_none e3]; exact r m)
  obtain ⟨od, J, hlk⟩ := O.look
  have pg := PySem.W.plainGet_of (S.cl.get m)
  refine PySem.W.method_usual (r := some (.ref pS)) I1.kIn J pg.1 pg.2 S.fi (by simp only [Option.all_some, S.ty, Option.any_some]; decide +kernel) (PySem.W.get_bind I1.kIn J pg.1 (PySem.W.findObj_fn S.cl.hd S.fi S.gt S.tk S.cn (by rw [hlk, hn])) pg.2 (wpAny_call (PySem.W.sm_get (s := { s1 with toks := s1.toks + 1 }) I1.kIn hrc (PySem.W.handed_on rfl ?_))))
  exact stat_run T G1 (F.room.mono hj) hb S.kp hs (I1.tok _) (rs.mono a3) a2 a3 e4
end
/-! == within a suite -/
theorem we_eqS {X : Cy} {K : Fg} {mg : Str → Option Value} {sc : Scope} {N L Gs Bs : List Str} {ρ : Ro} {M : Mm} {Q : DV → Mm → Prop} {a b : Expr} {pos : Pos} (F : Fs X K mg sc N L Gs Bs) (h : WE X ρ M a fun x M1 => WE X ρ M1 b fun y M2 => R2D X.K (rEq3 X.K) x y M2 Q) : WE X ρ M (.Compare a [.Eq] [b] pos) Q :=
  we_op (fun ha hb => pe_cmpR (op_eq.or (op_eqD (by have := F.un; omega))) ha hb (nomark _)) mon_eq h
end G
namespace G
open PySem PySem.Spec PyProof.Rows L2
/-! ### a list that nobody changes any more -/
theorem RM.lock {K : Fg} {H : Hp} {M : Mm} {j : Nat} {p : Addr} {xs : List V} {q : MO} {o : HO} (m : RM K H M) (hj : M[j]? = some (p, q)) (e : H p = some (.lst xs)) : RM K (upd H p o) (M.eraseIdx j) := by
  have sub : List.Sublist (M.eraseIdx j) M := List.eraseIdx_sublist M j
  refine ⟨(sub.map _).nodup m.nd, fun a u hm => ?_⟩
  have ha : a ≠ p := fun z => by
    subst z
    obtain ⟨i, hi⟩ := List.mem_iff_getElem?.mp hm
    rw [List.getElem?_eraseIdx] at hi
    have key : ∀ t, t ≠ j → M[t]? = some (a, u) → False := fun t ht h1 => by
      have l1 := (List.getElem?_eq_some_iff.mp h1).1
      have l2 := (List.getElem?_eq_some_iff.mp hj).1
      have e1 : (M.map (·.1))[t]? = some a := by rw [List.getElem?_map, h1]; rfl
      have e2 : (M.map (·.1))[j]? = some a := by rw [List.getElem?_map, hj]; rfl
      have q1 := (List.getElem?_eq_some_iff.mp e1).2
      have q2 := (List.getElem?_eq_some_iff.mp e2).2
      exact ht ((List.getElem_inj m.nd).mp (q1.trans q2.symm))
    split at hi
    · exact key i (by omega) hi
    · exact key (i + 1) (by omega) hi
  exact (m.ok a u (sub.subset hm)).mono (Stay.write (wr_lst e)) (upd_ne ha)
section
variable {X : Cy} {P : Program} {w : World} {K : Fg} {mg : Str → Option Value} {base : Heap} {sc : Scope} {N L C Gs Bs : List Str} {k : Nat} {ρ : Ro} {M : Mm} {Q : DV → Mm → Prop} {e : Expr}
/-- the value of e is a list that is locked from now on -/
theorem we_frz (h : WE X ρ M e fun d M1 => ∃ p j ds, d = .ref p ∧ AtM M1 j p (.lst ds) ∧ Q (.lis ds) (M1.eraseIdx j)) : WE X ρ M e Q := fun σ H rs m pins s I => by
  refine thn (h σ H rs m pins s I) fun u s1 ⟨v, H1, I1, r1, d, M1, a1, a2, a3, p, j, ds, e1, hA, q⟩ => ?_
  subst e1
  cases a1
  obtain ⟨vs, e2, rr⟩ := a2.at hA.ix
  obtain ⟨od, I2⟩ := I1.lock e2 trivial
  have st : Stay X.K H1 (upd H1 p (.frz od (.lst vs))) := Stay.write (wr_lst e2)
  exact ⟨_, _, I2, r1, .lis ds, _, .lis (.inl ⟨od, upd_same⟩) (rr.mono st), a2.lock hA.ix e2, a3.trans st, q⟩
/-- a slot holds a list that is locked from now on -/
theorem wss_frz {i j : Nat} {p : Addr} {ds : List DV} {sts : List Stmt} {nx bk ct : Ro → Mm → Prop} {rt : DV → Mm → Prop} (hi : ρ[i]? = some (some (.ref p))) (hA : AtM M j p (.lst ds)) (h : WSs X (ρ.set i (some (.lis ds))) (M.eraseIdx j) sts nx rt bk ct) : WSs X ρ M sts nx rt bk ct := fun σ H rs m pins s I => by
  obtain ⟨vs, e2, rr⟩ := m.at hA.ix
  obtain ⟨od, I2⟩ := I.lock e2 trivial
  have st : Stay X.K H (upd H p (.frz od (.lst vs))) := Stay.write (wr_lst e2)
  have rs2 := rs.mono st
  have hl : i < ρ.length := (List.getElem?_eq_some_iff.mp hi).1
  have W := h σ _ ⟨rs2.st, by rw [List.length_set]; exact rs2.len, fun t d ht => ?_⟩ (m.lock hA.ix e2) pins s I2
  · refine thn W fun fl s' hq => ?_
    cases fl with
    | next => obtain ⟨σ', H', J, ρ', M', q1, q2, q3, q4⟩ := hq; exact ⟨σ', H', J, ρ', M', q1, q2, st.trans q3, q4⟩
    | brk => obtain ⟨σ', H', J, ρ', M', q1, q2, q3, q4⟩ := hq; exact ⟨σ', H', J, ρ', M', q1, q2, st.trans q3, q4⟩
    | cont => obtain ⟨σ', H', J, ρ', M', q1, q2, q3, q4⟩ := hq; exact ⟨σ', H', J, ρ', M', q1, q2, st.trans q3, q4⟩
    | ret v => obtain ⟨x, σ', H', J, rv, d, M', q1, q2, q3, q4⟩ := hq; exact ⟨x, σ', H', J, rv, d, M', q1, q2, st.trans q3, q4⟩
  · rw [List.getElem?_set] at ht
    split at ht
    · rename_i et
      subst et
      obtain ⟨a1, v, a2, a3⟩ := rs2.get i (.ref p) hi
      cases ht
      cases a3
      exact ⟨a1, _, a2, .lis (.inl ⟨od, upd_same⟩) (rr.mono st)⟩
    · exact rs2.get t d ht
end
/-! ### a call that needs no changing object -/
/-- what nobody changes, and what is kept -/
def stillO : HO → Bool
  | .tup _ => true
  | .frz _ (.lst _) => true
  | .frz _ (.tup _) => true
  | _ => false
def cutH (H : Hp) : Hp := fun b => match H b with
  | some u => if stillO u = true then some u else none
  | none => none
theorem cutH_some {H : Hp} {b : Addr} {u : HO} (h : cutH H b = some u) : H b = some u ∧ stillO u = true := by
  unfold cutH at h
  split at h
  · rename_i v e
    split at h
    · rename_i hs
      cases h
      exact ⟨e, hs⟩
    · cases h
  · cases h
theorem cutH_of {H : Hp} {b : Addr} {u : HO} (h : H b = some u) (hs : stillO u = true) : cutH H b = some u := by
  unfold cutH
  rw [h]
  exact if_pos hs
theorem cutH_none {H : Hp} {b : Addr} (h : H b = none) : cutH H b = none := by
  unfold cutH
  rw [h]
theorem cutH_hid {H : Hp} {b : Addr} {u : HO} (h : H b = some u) (hs : stillO u = false) : cutH H b = none := by
  unfold cutH
  rw [h]
  exact if_neg (by rw [hs]; decide)
/-- behind the call: what was hidden is as it was -/
def backH (H H1 : Hp) : Hp := fun b => match H b with
  | some u => if stillO u = true then H1 b else some u
  | none => H1 b
theorem backH_hid {H H1 : Hp} {b : Addr} {u : HO} (h : H b = some u) (hs : stillO u = false) : backH H H1 b = some u := by
  unfold backH
  rw [h]
  exact if_neg (by rw [hs]; decide)
theorem backH_still {H H1 : Hp} {b : Addr} {u : HO} (h : H b = some u) (hs : stillO u = true) : backH H H1 b = H1 b := by
  unfold backH
  rw [h]
  exact if_pos hs
theorem backH_new {H H1 : Hp} {b : Addr} (h : H b = none) : backH H H1 b = H1 b := by
  unfold backH
  rw [h]
theorem still_ok {P : Program} {w : World} {H H' : Hp} {h : Heap} {b : Addr} {u : HO} (hs : stillO u = true) (x : ObjOk P w H h b u) : ObjOk P w H' h b u := by
  have tp : ∀ {xs : List V}, ObjOk P w H h b (.tup xs) → ObjOk P w H' h b (.tup xs) := fun {xs} q => by
    obtain ⟨q1, q2⟩ := (show xs.length ≤ sizeLine ∧ ∃ its : List Value, Vals xs its ∧ IsTup h b its.toArray from q)
    exact ⟨q1, q2⟩
  have ls : ∀ {xs : List V}, ObjOk P w H h b (.lst xs) → ObjOk P w H' h b (.lst xs) := fun {xs} q => by
    obtain ⟨q1, q2⟩ := (show xs.length ≤ sizeLine ∧ ∃ (its : List Value) (n : Nat), Vals xs its ∧ h.get? b = some { cls := .type "list", data := .seq its.toArray n } from q)
    exact ⟨q1, q2⟩
  cases u with
  | tup xs => exact tp x
  | frz o v =>
    obtain ⟨x1, x2⟩ := (show h.get? b = some o ∧ ObjOk P w H h b v from x)
    cases v with
    | tup xs => exact ⟨x1, tp x2⟩
    | lst xs => exact ⟨x1, ls x2⟩
    | _ => cases hs
  | _ => cases hs
section
variable {P : Program} {w : World} {K : Fg} {mg : Str → Option Value} {base : Heap} {A : Around} {outer : List Env} {s s' : Shared} {H H1 : Hp}
theorem Env0.cut (e : Env0 P w K mg base A outer s H) : Env0 P w K mg base A outer s (cutH H) :=
  ⟨e.frames, e.mod, fun b o hb => ⟨(e.bs b o hb).1, cutH_none (e.bs b o hb).2⟩, e.bsz, e.funs, fun b hb => cutH_none (e.frf b hb), fun b u hu => by
    obtain ⟨h1, h2⟩ := cutH_some hu
    exact still_ok h2 (e.hok b u h1), e.bare⟩
theorem back_un (e : Env0 P w K mg base A outer s H) (un : Un (frs outer) [] (cutH H) H1 s.heap s'.heap) : Un (frs outer) [] H (backH H H1) s.heap s'.heap where
  keep := fun b o hb n hf hx => un.keep b o hb (cutH_none n) hf hx
  slot := fun b o hb n hf hx => un.slot b o hb (cutH_none n) hf hx
  free := fun b o hb n hx => by rw [backH_new n]; exact un.free b o hb (cutH_none n) hx
  there := un.there
  tups := fun b xs hb => by rw [backH_still hb rfl]; exact un.tups b xs (cutH_of hb rfl)
  frzs := fun b o u hb => by
    cases hs : stillO (.frz o u) with
    | true => rw [backH_still hb hs]; exact un.frzs b o u (cutH_of hb hs)
    | false => rw [backH_hid hb hs]
  tbls := fun b ps hb => ⟨#[], by rw [backH_hid hb rfl]; simp⟩
/-- what is known ahead of the call is known behind it -/
theorem back_ext (un : Un (frs outer) [] (cutH H) H1 s.heap s'.heap) {b : Addr} {u : HO} (h : H b = some u) : backH H H1 b = some u := by
  cases hs : stillO u with
  | false => exact backH_hid h hs
  | true =>
    rw [backH_still h hs]
    cases u with
    | tup xs => exact un.tups b xs (cutH_of h hs)
    | frz o v => exact un.frzs b o v (cutH_of h hs)
    | _ => cases hs
theorem back_new (e : Env0 P w K mg base A outer s H) (un : Un (frs outer) [] (cutH H) H1 s.heap s'.heap) {b : Addr} {u : HO} (h : H1 b = some u) : backH H H1 b = some u := by
  cases hb : H b with
  | none => rw [backH_new hb]; exact h
  | some v =>
    cases hs : stillO v with
    | true => rw [backH_still hb hs]; exact h
    | false =>
      obtain ⟨o, ho⟩ := objOk_get (e.hok b _ hb)
      rw [un.free b o ho (cutH_hid hb hs) (by simp)] at h
      cases h
theorem back_hok (e : Env0 P w K mg base A outer s H) (un : Un (frs outer) [] (cutH H) H1 s.heap s'.heap) (hok : HOk P w H1 s'.heap) : HOk P w (backH H H1) s'.heap := fun b u hu => by
  have old : ∀ c v, H c = some v → stillO v = false → ∀ o, s.heap.get? c = some o → s'.heap.get? c = some o := fun c v hc hs o ho => un.keep c o ho (cutH_hid hc hs) (fun z => by rw [e.frf c z] at hc; cases hc) (by simp)
  cases hb : H b with
  | some v =>
    cases hs : stillO v with
    | false =>
      rw [backH_hid hb hs] at hu
      cases hu
      refine (e.hok b u hb).stay (fun c o hc ho => ?_) (fun c hc => back_ext un hc) fun c xs hc => back_ext un hc
      rcases hc with z | z
      · subst z
        exact old c u hb hs o ho
      · exact old c _ z rfl o ho
    | true =>
      rw [backH_still hb hs] at hu
      exact (hok b u hu).stay (fun c o _ ho => ho) (fun c hc => back_new e un hc) fun c xs hc => back_new e un hc
  | none =>
    rw [backH_new hb] at hu
    exact (hok b u hu).stay (fun c o _ ho => ho) (fun c hc => back_new e un hc) fun c xs hc => back_new e un hc
end
mutual
def Cf : DV → Bool
  | .lam _ _ => false
  | .clo _ _ => false
  | .tup ds => Cfs ds
  | .lis ds => Cfs ds
  | .tupA _ ds => Cfs ds
  | _ => true
def Cfs : List DV → Bool
  | [] => true
  | d :: ds => Cf d && Cfs ds
end
theorem sqt_cut {K : Fg} {H : Hp} {a : Addr} {xs : List V} (h : SqT K H a xs) : SqT K (cutH H) a xs := by
  rcases h with (h | ⟨o, h⟩) | h
  · exact .inl (.inl (cutH_of h rfl))
  · exact .inl (.inr ⟨o, cutH_of h rfl⟩)
  · exact .inr h
theorem frz_cut {K : Fg} {H : Hp} {a : Addr} {xs : List V} (h : FrzL K H a xs) : FrzL K (cutH H) a xs := by
  rcases h with ⟨o, h⟩ | h
  · exact .inl ⟨o, cutH_of h rfl⟩
  · exact .inr h
mutual
theorem RD.cut {K : Fg} {H : Hp} : ∀ {d : DV} {v : V}, RD K H d v → Cf d = true → RD K (cutH H) d v
  | _, _, .non, _ => .non
  | _, _, .bl b, _ => .bl b
  | _, _, .int b, _ => .int b
  | _, _, .str b, _ => .str b
  | _, _, .ty b, _ => .ty b
  | _, _, .ref b, _ => .ref b
  | _, _, .tup h t, c => .tup (sqt_cut h) (RDs.cutS t (by rw [Cf] at c; exact c))
  | _, _, .tupA h t, c => .tupA (sqt_cut h) (RDs.cutS t (by rw [Cf] at c; exact c))
  | _, _, .lis h t, c => .lis (frz_cut h) (RDs.cutS t (by rw [Cf] at c; exact c))
  | _, _, .lam _, c => by rw [Cf] at c; cases c
  | _, _, .clo _ _, c => by rw [Cf] at c; cases c
theorem RDs.cutS {K : Fg} {H : Hp} : ∀ {d : List DV} {v : List V}, RDs K H d v → Cfs d = true → RDs K (cutH H) d v
  | _, _, .nil, _ => .nil
  | _, _, .cons h t, c => by
    rw [Cfs, Bool.and_eq_true] at c
    exact .cons (RD.cut h c.1) (RDs.cutS t c.2)
end
end G
namespace G
open PySem PySem.Spec PyProof.Rows L2
/-! ### lambdas that are kept -/
theorem pin_ok {P : Program} {w : World} {H : Hp} {h : Heap} {a : Addr} {o : Obj} (e : h.get? a = some o) : ObjOk P w H h a (PinO a o) := ⟨e, e, ⟨o, e⟩, fun h1 h2 q k => k o q⟩
theorem pin_at {P : Program} {w : World} {H : Hp} {h : Heap} {a : Addr} {o : Obj} (hok : HOk P w H h) (e : H a = some (PinO a o)) : h.get? a = some o := (show h.get? a = some o ∧ _ from hok a _ e).1
def frOf (scope : Scope) : List Str := scope.names.filterMap fun y => if y.2 = .free then some y.1 else none
theorem mem_frOf {scope : Scope} {y : Str} : y ∈ frOf scope ↔ (y, NameKind.free) ∈ scope.names := by
  unfold frOf
  rw [List.mem_filterMap]
  constructor
  · rintro ⟨⟨a, b⟩, h1, h2⟩
    dsimp only at h2
    split at h2
    · rename_i e
      subst e
      cases h2
      exact h1
    · cases h2
  · intro h
    exact ⟨_, h, rfl⟩
section
variable {X : Cx} {pins : List (Addr × Obj)} {σ : L2.St} {H : Hp} {s : Shared}
theorem lam_make3 {T : List (Addr × Str)} {c P : Addr} {params : Arguments} {body : Expr} {scope : Scope} {pos : Pos} {E : Value → Shared → Prop} {Q : Value → Shared → Prop} (I : Inv X pins σ H s) (TB : LamX.TabB X.base X.mg c P) (hcode : X.env.code = .ref c)
    (hm : (P, X.env.qual ++ "<lambda>") ∈ T) (hu : ∀ p ∈ T, p.1 = P → p.2 = X.env.qual ++ "<lambda>") (hT : LamX.Tabs T H) (hdef : defaultsOf params X.env = ([], [])) (hfree : ∀ y ∈ scope.names, y.2 = .free → ∃ c, X.env.cells.lookup y.1 = some c)
    (h : ∀ (f c' : Addr) (pm ctv : Value) (H1 : Hp) (s' : Shared), H1 f = none → Inv X pins σ (upd H1 f (PinO f (PySem.W.kla_obj "<lambda>" (X.env.qual ++ "<lambda>") params body scope (cloFrom X.env.cells scope.names []) pm c' ctv))) s' → LamX.ExtN H H1 → LamX.Tabs T H1 → H1 c' = some (LamX.CodeO c' (X.env.qual ++ "<lambda>")) → Q (.ref f) s') :
    wpAny (model X.prog X.w) X.A (eval (.Lambda params body scope pos) X.env) Q E s := by
  obtain ⟨ps, hP, ht, ha⟩ := hT _ hm
  refine PySem.W.kla_eval hdef ?_
  have bP : s.heap.BuiltinsAt X.mg P := TB.bm.keeps I.bk
  have hP' : s.heap.get? P = some { cls := .none, data := .fields ps } := I.hok P _ hP
  cases hc : codeAmong pos ps.toList with
  | none =>
    refine PySem.W.kla_makeFunction (mg := X.mg) (c := c) (P := P) (ps := ps) (closure_ok hfree) I.ok.glob (I.mod.glob.keeps I.bk) hcode (TB.code.keeps I.bk) hP' ht hc TB.gP bP fun c' ctv h' tk hx hge hlt hrec htb => ?_
    obtain ⟨c2, oc, vs, t, e2, hoc, hd, hv⟩ := hrec
    cases e2
    have hsz : s.heap.objs.size ≤ h'.objs.size := Nat.le_trans hge (Nat.le_of_lt hlt)
    have nC : H c' = none := I.hok.fresh hge
    have I1 := LamX.inv_table (t' := tk) (more := #[rawInt pos.line, rawInt pos.col, .ref c']) (h' := h') I hP (fun b o hb e => hx b o hb e) htb hge ⟨oc, vs, t, hoc, hd, hv⟩
    have hE : LamX.ExtN H (upd (upd H P (.tbl (ps ++ #[rawInt pos.line, rawInt pos.col, .ref c']))) c' (LamX.CodeO c' (X.env.qual ++ "<lambda>"))) := fun b o e n => by
      rw [upd_ne (ne_of_none e nC), upd_ne (fun z => n ps (Option.some.inj (e.symm.trans (by rw [z]; exact hP))))]
      exact e
    have eL : (ps ++ #[rawInt pos.line, rawInt pos.col, .ref c']).toList = ps.toList ++ [rawInt pos.line, rawInt pos.col, .ref c'] := by simp
    refine h h'.objs.size c' ((X.mg "__name__").getD .none) ctv _ _ (I1.hok.fresh (Nat.le_refl _)) (I1.laid (t' := tk) (a := h'.objs.size) (fun b u e => Heap.get?_push_of_some _ e) (Nat.le_refl _) (pin_ok (Heap.get?_push_size _ rfl))) hE (fun p hp => ?_) upd_same
    by_cases hb : p.1 = P
    · rw [hu p hp hb, hb]
      refine ⟨_, by rw [upd_ne (ne_of_none hP nC), upd_same], by rw [eL]; exact PySem.TriplesOk_snoc _ _ _ _ ht, fun p' cv hcv => ?_⟩
      rw [eL] at hcv
      rcases LamX.among_app _ ht hcv with z | z
      · obtain ⟨c0, e1, e2⟩ := ha p' cv z
        exact ⟨c0, e1, hE _ _ e2 LamX.codeO_ne⟩
      · exact ⟨c', z, upd_same⟩
    · obtain ⟨ps', a1, a2, a3⟩ := hT p hp
      refine ⟨ps', by rw [upd_ne (ne_of_none a1 nC), upd_ne hb]; exact a1, a2, fun p' cv hcv => ?_⟩
      obtain ⟨c0, e1, e2⟩ := a3 p' cv hcv
      exact ⟨c0, e1, hE _ _ e2 LamX.codeO_ne⟩
  | some cv =>
    obtain ⟨c', e, hco⟩ := ha pos cv hc
    subst e
    refine PySem.W.kla_makeFunctionHit (mg := X.mg) (c := c) (P := P) (ps := ps) (closure_ok hfree) I.ok.glob (I.mod.glob.keeps I.bk) hcode (TB.code.keeps I.bk) hP' ht hc bP fun ctv h' tk hx hsz => ?_
    have I1 : Inv X pins σ H { s with heap := h', toks := tk } := I.kept fun b o e => hx b o e
    exact h h'.objs.size c' ((X.mg "__name__").getD .none) ctv H _ (I1.hok.fresh (Nat.le_refl _)) (I1.laid (t' := tk) (a := h'.objs.size) (fun b u e => Heap.get?_push_of_some _ e) (Nat.le_refl _) (pin_ok (Heap.get?_push_size _ rfl))) (LamX.ExtN.refl H) hT hco
end
section
variable {X : Cy} {P : Program} {w : World} {K : Fg} {mg : Str → Option Value} {base : Heap} {sc : Scope} {N L C Gs Bs : List Str} {k : Nat} {ρ : Ro} {M : Mm} {Q : DV → Mm → Prop} {e : Expr} {params : Arguments} {body : Expr} {scope : Scope} {lp : Pos}
/-- its free names are the maker's own cells -/
def lamC (sc scope : Scope) : Bool := scope.names.all fun y => !decide (y.2 = .free) || decide (sc.names.lookup y.1 = some .cell)
theorem lamC_ok {sc scope : Scope} (h : lamC sc scope = true) : ∀ y, (y, NameKind.free) ∈ scope.names → sc.names.lookup y = some .cell := fun y hy => by
  unfold lamC at h
  have := List.all_eq_true.mp h _ hy
  simpa using this
theorem we_lam {c Pt : Addr} {q : Str} {ti : Nat} (F : Fx X P w K mg base sc N L C Gs Bs k) (Mk : Mkr X c Pt q) (tb : AtM M ti Pt (.tab q)) (hl : lamC sc scope = true) (hp : plainArgs params = true) (h : Q (.lam ⟨q, params, body, scope, frOf scope⟩ (cloFrom X.env.cells scope.names [])) M) : WE X ρ M (.Lambda params body scope lp) Q := fun σ H rs m pins s I => by
  have hin := List.mem_of_getElem? tb.ix
  have hfr : ∀ y ∈ scope.names, y.2 = .free → ∃ c, X.env.cells.lookup y.1 = some c := fun y hy e => I.ok.has _ (.inl (by
    have z := lamC_ok hl y.1 (by rw [← e]; exact hy)
    rw [← F.hsc] at z
    exact z))
  refine lam_make3 (T := tabsOf M) I Mk.tb Mk.code (by rw [Mk.qn]; exact mem_tabsOf.mpr hin) (fun r hr e => ?_) (fun r hr => m.ok r.1 _ (mem_tabsOf.mp hr)) (plainArgs_ok hp) hfr fun f c' pm ctv H1 s' hn I1 ext tabs hc => ?_
  · rw [Mk.qn]
    have := nodup_fst m.nd (mem_tabsOf.mp hr) (by rw [e]; exact hin)
    cases this
    rfl
  · have st : Stay X.K H1 (upd H1 f (PinO f (PySem.W.kla_obj "<lambda>" (X.env.qual ++ "<lambda>") params body scope (cloFrom X.env.cells scope.names []) pm c' ctv))) := Stay.new hn
    refine ⟨.ref f, _, I1, rfl, _, M, .lam ⟨pm, c', ctv, ?_, ?_⟩, (m.tabs ext tabs).new hn, (ext_stay ext).trans st, h⟩
    · rw [upd_same]
      show _ = some (PinO f (PySem.W.kla_obj "<lambda>" q params body scope (cloFrom X.env.cells scope.names []) pm c' ctv))
      rw [Mk.qn]
    · rw [← Mk.qn]
      exact st.cod _ _ hc
instance {c Pt : Addr} {q : Str} {ti : Nat} [F : Fx X P w K mg base sc N L C Gs Bs k] [Mk : Mkr X c Pt q] [tb : AtM M ti Pt (.tab q)] : Step (WE X ρ M (.Lambda params body scope lp) Q) (lamC sc scope && plainArgs params) (Q (.lam ⟨q, params, body, scope, frOf scope⟩ (cloFrom X.env.cells scope.names [])) M) := ⟨fun h q => by
  rw [Bool.and_eq_true] at h
  exact we_lam F Mk tb h.1 h.2 q⟩
end
end G
namespace G
open PySem PySem.Spec PyProof.Rows L2
/-! ### defs whose lambdas outlive them -/
/-- a body that ends in a return, told with the slots at its end -/
def WF (X : Cy) (ρ : Ro) (M : Mm) (ss : List Stmt) (post : Ro → DV → Mm → Prop) : Prop := ∀ σ H, RS X H ρ σ → RM X.K H M → ∀ (pins : List (Addr × Obj)) (s : Shared), Inv X.toCx pins σ H s →
  wpAny (model X.prog X.w) X.A (execs ss X.env) (fun fl s' => ∃ u v σ' H' ρ' d M', fl = .ret u ∧ Inv X.toCx pins σ' H' s' ∧ RelV v u ∧ RS X H' ρ' σ' ∧ RD X.K H' d v ∧ RM X.K H' M' ∧ Stay X.K H H' ∧ post ρ' d M') X.xe s
section
variable {X : Cy} {ρ : Ro} {M : Mm} {e : Expr} {st : Stmt} {rest : List Stmt} {pos : Pos} {post : Ro → DV → Mm → Prop}
theorem wf_ret (h : WE X ρ M e (fun d M' => post ρ d M')) : WF X ρ M [.Return (some e) pos] post := fun σ H rs m pins s I => by
  refine wpAny_execs_cons (wpAny_Return_some (thn (h σ H rs m pins s I) fun u s1 ⟨v, H1, I1, r1, d, M1, a1, a2, a3, q⟩ => ?_))
  exact ⟨u, v, σ, H1, ρ, d, M1, rfl, I1, r1, rs.mono a3, a1, a2, a3, q⟩
theorem wf_cons (h : WS X ρ M st (fun ρ1 M1 => WF X ρ1 M1 rest post) (fun _ _ => False) (fun _ _ => False) (fun _ _ => False)) : WF X ρ M (st :: rest) post := fun σ H rs m pins s I => by
  refine wpAny_execs_cons (thn (h σ H rs m pins s I) fun fl s1 hq => ?_)
  cases fl with
  | next =>
    obtain ⟨σ1, H1, J, ρ1, M1, q1, q2, q3, q4⟩ := hq
    refine thn (q4 σ1 H1 q1 q2 pins s1 J) fun fl s2 ⟨u, v, σ', H', ρ', d, M', a1, a2, a3, a4, a5, a6, a7, a8⟩ => ⟨u, v, σ', H', ρ', d, M', a1, a2, a3, a4, a5, a6, q3.trans a7, a8⟩
  | brk => obtain ⟨_, _, _, _, _, _, _, _, q4⟩ := hq; exact q4.elim
  | cont => obtain ⟨_, _, _, _, _, _, _, _, q4⟩ := hq; exact q4.elim
  | ret v => obtain ⟨_, _, _, _, _, _, _, _, _, _, q4⟩ := hq; exact q4.elim
def notRet : Stmt → Bool
  | .Return _ _ => false
  | _ => true
instance : Step (WF X ρ M (st :: rest) post) (notRet st) (WS X ρ M st (fun ρ1 M1 => WF X ρ1 M1 rest post) (fun _ _ => False) (fun _ _ => False) (fun _ _ => False)) := ⟨fun _ q => wf_cons q⟩
instance : Step (WF X ρ M [.Return (some e) pos] post) true (WE X ρ M e (fun d M' => post ρ d M')) := ⟨fun _ q => wf_ret q⟩
end
/-- the frame's cells are known from now on -/
noncomputable def pinC (h : Heap) (cl : List (Str × Addr)) (H : Hp) : Hp := fun b => open Classical in if ∃ y, cl.lookup y = some b then (h.get? b).map (PinO b) else H b
theorem pinC_cell {h : Heap} {cl : List (Str × Addr)} {H : Hp} {y : Str} {c : Addr} {o : Obj} (e : cl.lookup y = some c) (ho : h.get? c = some o) : pinC h cl H c = some (PinO c o) := by
  unfold pinC
  rw [if_pos ⟨y, e⟩, ho]
  rfl
theorem pinC_else {h : Heap} {cl : List (Str × Addr)} {H : Hp} {b : Addr} (e : ∀ y, cl.lookup y ≠ some b) : pinC h cl H b = H b := by
  unfold pinC
  exact if_neg fun ⟨y, z⟩ => e y z
section
variable {X : Cx} {pins : List (Addr × Obj)} {σ : L2.St} {H : Hp} {s : Shared}
theorem pinC_ext (J : Inv X pins σ H s) {b : Addr} {u : HO} (h : H b = some u) : pinC s.heap X.env.cells H b = some u := by
  rw [pinC_else fun y z => by rw [J.freeC y b z] at h; cases h]
  exact h
theorem pinC_un (J : Inv X pins σ H s) (own : ∀ y c, X.env.cells.lookup y = some c → X.s_0.heap.objs.size ≤ c) : Un X.fs X.ex X.H_0 (pinC s.heap X.env.cells H) X.s_0.heap s.heap where
  keep := J.base.keep
  slot := J.base.slot
  free := fun b o hb n hx => by
    rw [pinC_else fun y z => Nat.lt_irrefl _ (Nat.lt_of_lt_of_le (Heap.lt_size hb) (own y b z))]
    exact J.base.free b o hb n hx
  there := J.base.there
  tups := fun b xs hb => pinC_ext J (J.base.tups b xs hb)
  frzs := fun b o u hb => pinC_ext J (J.base.frzs b o u hb)
  tbls := fun b ps hb => by
    obtain ⟨more, z⟩ := J.base.tbls b ps hb
    exact ⟨more, pinC_ext J z⟩
theorem pinC_hok (J : Inv X pins σ H s) : HOk X.prog X.w (pinC s.heap X.env.cells H) s.heap := fun b u hu => by
  by_cases hb : ∃ y, X.env.cells.lookup y = some b
  · obtain ⟨y, hy⟩ := hb
    obtain ⟨v, o, ho, _⟩ := J.cell y b hy
    rw [pinC_cell hy ho] at hu
    cases hu
    exact pin_ok ho
  · rw [pinC_else fun y z => hb ⟨y, z⟩] at hu
    exact (J.hok b u hu).stay (fun c o _ ho => ho) (fun c hc => pinC_ext J hc) fun c xs hc => pinC_ext J hc
theorem pinC_stay {K : Fg} (J : Inv X pins σ H s) : Stay K H (pinC s.heap X.env.cells H) := ⟨fun a xs h => pinC_ext J h, fun a o u h => pinC_ext J h, fun a q h => pinC_ext J h, fun a fs h => pinC_ext J h⟩
theorem RM.ext {K : Fg} {H H' : Hp} {M : Mm} (m : RM K H M) (ex : ∀ b u, H b = some u → H' b = some u) : RM K H' M := ⟨m.nd, fun a o hm => by
  have st : Stay K H H' := ⟨fun a xs h => ex _ _ h, fun a o u h => ex _ _ h, fun a q h => ex _ _ h, fun a fs h => ex _ _ h⟩
  obtain ⟨u, hu⟩ := (m.ok a o hm).some
  exact (m.ok a o hm).mono st ((ex a u hu).trans hu.symm)⟩
end
/-- a lambda of the frame X, closed: what its cells hold -/
inductive ClD (X : Cy) (N : List Str) (ρ : Ro) : DV → DV → Prop
  | same (d : DV) : ClD X N ρ d d
  | lam {L : Lamb} {ds : List DV} (h0 : L.fr = frOf L.scope) (h1 : ds.length = L.fr.length) (h2 : ∀ (i : Nat) (y : Str), L.fr[i]? = some y → ∃ (j : Nat) (d : DV), N[j]? = some y ∧ ρ[j]? = some (some d) ∧ ds[i]? = some d ∧ X.env.scope.names.lookup y = some .cell) : ClD X N ρ (.lam L (cloFrom X.env.cells L.scope.names [])) (.clo L ds)
inductive ClF (X : Cy) (N : List Str) (ρ : Ro) : List (Str × DV) → List (Str × DV) → Prop
  | nil : ClF X N ρ [] []
  | cons {x : Str} {d d' : DV} {fs fs' : List (Str × DV)} : ClD X N ρ d d' → ClF X N ρ fs fs' → ClF X N ρ ((x, d) :: fs) ((x, d') :: fs')
inductive ClM (X : Cy) (N : List Str) (ρ : Ro) : Mm → Mm → Prop
  | nil : ClM X N ρ [] []
  | same {M M' : Mm} (x : Addr × MO) : ClM X N ρ M M' → ClM X N ρ (x :: M) (x :: M')
  | ins {M M' : Mm} {a C : Addr} {fs fs' : List (Str × DV)} : ClF X N ρ fs fs' → ClM X N ρ M M' → ClM X N ρ ((a, .ins C fs) :: M) ((a, .ins C fs') :: M')
theorem ClM.refl {X : Cy} {N : List Str} {ρ : Ro} : ∀ {M : Mm}, ClM X N ρ M M
  | [] => .nil
  | x :: M => .same x ClM.refl
theorem ClM.fst {X : Cy} {N : List Str} {ρ : Ro} : ∀ {M M' : Mm}, ClM X N ρ M M' → M'.map (·.1) = M.map (·.1)
  | _, _, .nil => rfl
  | _, _, .same x t => by rw [List.map_cons, List.map_cons, t.fst]
  | _, _, .ins _ t => by rw [List.map_cons, List.map_cons, t.fst]
section
variable {X : Cy} {N : List Str} {ρ : Ro} {pins : List (Addr × Obj)} {σ : L2.St} {H : Hp} {s : Shared}
theorem ClD.rd {d d' : DV} {v : V} (c : ClD X N ρ d d') (J : Inv X.toCx pins σ H s) (hN : X.N = N) (rs : RS X H ρ σ) (r : RD X.K H d v) : RD X.K (pinC s.heap X.env.cells H) d' v := by
  have st : Stay X.K H (pinC s.heap X.env.cells H) := pinC_stay J
  cases c with
  | same => exact r.mono st
  | @lam L ds h0 h1 h2 =>
    cases r with
    | lam h =>
      rename_i f
      have own : ∀ y ∈ L.scope.names, y.2 = .free → ∃ c, X.env.cells.lookup y.1 = some c := fun y hy e => by
        have hm : y.1 ∈ L.fr := by rw [h0]; exact mem_frOf.mpr (by rw [← e]; exact hy)
        obtain ⟨i, hi⟩ := List.mem_iff_getElem?.mp hm
        obtain ⟨_, _, _, _, _, k⟩ := h2 i _ hi
        exact J.ok.has _ (.inl k)
      have up : ∀ {y c}, (cloFrom X.env.cells L.scope.names []).lookup y = some c → X.env.cells.lookup y = some c ∧ (y, NameKind.free) ∈ L.scope.names := fun {y c} e => by
        rcases cloFrom_mem (PySem.mem_of_lookup e) with z | ⟨z1, z2⟩
        · cases z
        · obtain ⟨c1, q⟩ := own _ z1 rfl
          have q : X.env.cells.lookup y = some c1 := q
          rw [q] at z2
          cases z2
          exact ⟨q, z1⟩
      have get : ∀ (i : Nat) (y : Str), L.fr[i]? = some y → ∃ c oc v u, (cloFrom X.env.cells L.scope.names []).lookup y = some c ∧ pinC s.heap X.env.cells H c = some (PinO c oc) ∧ oc.data = .cell (some u) ∧ RelV v u ∧ ∃ d, ds[i]? = some d ∧ RD X.K H d v := fun i y e => by
        obtain ⟨j, d, a1, a2, a3, a4⟩ := h2 i y e
        obtain ⟨_, v, b1, b2⟩ := rs.get j d a2
        obtain ⟨mm, hns, hl⟩ := J.loc
        obtain ⟨u, ru, lk⟩ := hl j y v (by rw [hN]; exact a1) b1 (.inr (.inl a4))
        have hm : (y, NameKind.free) ∈ L.scope.names := mem_frOf.mp (by rw [← h0]; exact List.mem_of_getElem? e)
        obtain ⟨c, hc⟩ := mem_lookup (cloFrom_has (cells := X.env.cells) (acc := []) hm)
        have hc2 := (up hc).1
        rcases lk with ⟨z, _⟩ | ⟨_, c3, z2, o, ho, hd⟩
        · have z : X.env.scope.names.lookup y = some .local := z
          rw [a4] at z
          cases z
        · rw [hc2] at z2
          cases z2
          exact ⟨c, o, v, u, hc, pinC_cell hc2 ho, hd, ru, d, a3, b2⟩
      have vals : ∀ (n : Nat), n ≤ L.fr.length → ∃ vs : List V, vs.length = n ∧ RDs X.K H (ds.take n) vs ∧ ∀ (i : Nat) (y : Str), i < n → L.fr[i]? = some y → ∃ c oc v u, (cloFrom X.env.cells L.scope.names []).lookup y = some c ∧ pinC s.heap X.env.cells H c = some (PinO c oc) ∧ oc.data = .cell (some u) ∧ vs[i]? = some v ∧ RelV v u := fun n => by
        induction n with
        | zero => exact fun _ => ⟨[], rfl, by rw [List.take_zero]; exact .nil, fun i y h => absurd h (Nat.not_lt_zero _)⟩
        | succ n ih =>
          intro hn
          obtain ⟨vs, e1, e2, e3⟩ := ih (by omega)
          have hy : L.fr[n]? = some (L.fr[n]'(by omega)) := List.getElem?_eq_getElem (by omega)
          obtain ⟨c, oc, v, u, b1, b2, b3, b4, d, b5, b6⟩ := get n _ hy
          refine ⟨vs ++ [v], by rw [List.length_append, e1]; rfl, ?_, fun i y hi ey => ?_⟩
          · rw [List.take_add_one, b5]
            exact e2.append (.cons b6 .nil)
          · by_cases hin : i < n
            · obtain ⟨c, oc, v', u, d1, d2, d3, d4, d5⟩ := e3 i y hin ey
              exact ⟨c, oc, v', u, d1, d2, d3, by rw [List.getElem?_append_left (by omega)]; exact d4, d5⟩
            · have : i = n := by omega
              subst this
              rw [hy] at ey
              cases ey
              exact ⟨c, oc, v, u, b1, b2, b3, by rw [List.getElem?_append_right (by omega), e1, Nat.sub_self]; rfl, b4⟩
      obtain ⟨vs, e1, e2, e3⟩ := vals _ (Nat.le_refl _)
      rw [List.take_of_length_le (by omega)] at e2
      refine .clo ⟨_, h.mono st, e1, fun x y c q1 q2 => J.ok.inj x y c (up q1).1 (up q2).1, fun y c q => ?_, fun i y e => e3 i y ?_ e⟩ (e2.mono st)
      · rw [h0]
        exact mem_frOf.mpr (up q).2
      · exact (List.getElem?_eq_some_iff.mp e).1
theorem ClF.rf {fs fs' : List (Str × DV)} {gs : List (Str × V)} (J : Inv X.toCx pins σ H s) (hN : X.N = N) (rs : RS X H ρ σ) (c : ClF X N ρ fs fs') : RF X.K H fs gs → RF X.K (pinC s.heap X.env.cells H) fs' gs := by
  induction c generalizing gs with
  | nil => intro r; cases r; exact .nil
  | cons h _ ih => intro r; cases r with | cons a b => exact .cons (h.rd J hN rs a) (ih b)
theorem ClM.rm {M M' : Mm} (J : Inv X.toCx pins σ H s) (hN : X.N = N) (rs : RS X H ρ σ) (c : ClM X N ρ M M') (m : RM X.K H M) : RM X.K (pinC s.heap X.env.cells H) M' := by
  refine ⟨by rw [c.fst]; exact m.nd, ?_⟩
  have ok := m.ok
  have st : Stay X.K H (pinC s.heap X.env.cells H) := pinC_stay J
  have keep : ∀ a o, RO X.K H a o → RO X.K (pinC s.heap X.env.cells H) a o := fun a o h => by
    obtain ⟨u, hu⟩ := h.some
    exact h.mono st ((pinC_ext J hu).trans hu.symm)
  clear m
  induction c with
  | nil => intro a o h; cases h
  | same x _ ih =>
    intro a o h
    rcases List.mem_cons.mp h with e | e
    · exact keep a o (ok a o (by rw [e]; exact List.mem_cons_self))
    · exact ih (fun a o h => ok a o (List.mem_cons_of_mem _ h)) a o e
  | @ins M M' b C fs fs' hf _ ih =>
    intro a o h
    rcases List.mem_cons.mp h with e | e
    · cases e
      obtain ⟨dx, gs, h1, h2⟩ := ok b (.ins C fs) List.mem_cons_self
      exact ⟨dx, gs, pinC_ext J h1, hf.rf J hN rs h2⟩
    · exact ih (fun a o h => ok a o (List.mem_cons_of_mem _ h)) a o e
end
section
variable {P : Program} {w : World} {K : Fg} {mg : Str → Option Value} {base : Heap} {N L C Gs Bs : List Str} {k : Nat}
theorem fn_okC {x qual q : Str} {st : Stmt} {f c Pt : Addr} {fd : FuncData} {ps : List Str} {sp : SpD} (F : FunM K x qual st f fd c) (TB : LamX.TabB base mg c Pt) (eq : qual ++ ".<locals>." ++ "<lambda>" = q) (S : FnScope N ps (defScope st)) (hst : stat (defScope st) N L C Gs = true) (hb : ∀ x ∈ Bs, mg x = none)
    (h : ∀ X, Fx X P w K mg base (defScope st) N L C Gs Bs k → Mkr X c Pt q → ∀ ds M Q, ds.length = ps.length → sp ds M Q → WF X (ini N ds) M (defBody st) (fun ρ d M' => ∃ d' M2, ClD X N ρ d d' ∧ ClM X N ρ M' M2 ∧ Sub (Q d') M2)) :
    FnOk P w K mg base CX0 (k + 1) f fd ps (sp1 K ps.length sp) := by
  have T := stat_ok hst
  obtain ⟨oc, od, kV, doc, pm, an, ct, osl, rfl, lk, hcd⟩ := F.ex
  refine ⟨fun vs H Q E ⟨ds, M, Q0, h1, h2, h3, _⟩ => by rw [← h1.length]; exact h3, fun A outer s H args us vs Q E hr e0 hbn r ⟨ds, M, Q0, h1, h2, h3, h4, h5⟩ => ?_⟩
  have hl : vs.length = ps.length := by rw [← h1.length]; exact h3
  have KX : K.In s.heap := e0.mod.kin.keeps fun b o e => (e0.bs b o e).1
  have lim : s.heap.NoLimit := e0.mod.nolimit.keeps fun b o e => (e0.bs b o e).1
  have hkind : ∀ y ∈ ps.zip us, (defScope st).names.lookup y.1 = some .local ∨ ((defScope st).names.lookup y.1 = some .cell ∧ ((cellsFrom (s.heap.objs.size + 1) (defScope st).names []).lookup y.1).isSome = true) := fun ⟨n, v⟩ hy => by
    rcases S.par n (List.of_mem_zip hy).1 with q | q
    · exact .inl q
    · exact .inr ⟨q, PySem.W.cellsFrom_some _ _ _ (.inl q)⟩
  refine codeAny_call_function hr.depth (KX _ _ lk) rfl S.co S.gen rfl (PySem.W.codeRec_of KX hcd) (hbn _ _ _ _ ?_)
  refine wpAny_newFunctionEnv_cells S.kind hkind fun env he s1 x => ?_
  subst he
  refine ⟨lim.keeps x.toInCall.keep, codeAny_func ?_⟩
  have I : Inv (cxOf CX0 P w K mg base N qual (defScope st) f (.ref c) A outer s H E) [] (start N vs) H s1 := inv_start S hr.hd e0 hl r x
  have hps : ps.length ≤ N.length := by have := congrArg List.length S.pre; rw [List.length_take] at this; omega
  have FX : Fx ⟨(cxOf CX0 P w K mg base N qual (defScope st) f (.ref c) A outer s H E).nox, H⟩ P w K mg base (defScope st) N L C Gs Bs k :=
    ⟨rfl, rfl, rfl, rfl, rfl, rfl, rfl, T.nd, T.loc, fun x hx => ⟨T.cel x hx, rfl⟩, T.kind, T.nob, T.gl, hb, rfl, hr.deeper _, PassesOwn.never⟩
  have MX : Mkr ⟨(cxOf CX0 P w K mg base N qual (defScope st) f (.ref c) A outer s H E).nox, H⟩ c Pt q := ⟨rfl, TB, eq⟩
  have W := h _ FX MX ds M Q0 h3 h4
  rw [ini_eq N ds (by rw [h3]; exact hps)] at W
  refine wpAny_mono (W (start N vs) H (RS.start (X := ⟨(cxOf CX0 P w K mg base N qual (defScope st) f (.ref c) A outer s H E).nox, H⟩) Stay.refl (by rw [h3]; exact hps) (fun i y hi hy => ?_) h1) h2 [] s1 (I.wish fun _ _ => False)) (fun fl s' hs => ?_) fun e s' hs => hs.elim
  · have hp : ps[i]? = some y := by
      rw [← S.pre, List.getElem?_take_of_lt (by rw [← h3]; exact hi)]
      exact hy
    rcases S.par y (List.mem_of_getElem? hp) with z | z
    · exact .inl z
    · exact .inr (.inl z)
  · obtain ⟨u, v, σ', H', ρ', d, M', a1, J, a3, a4, a5, a6, a7, d', M2, b1, b2, M0, b3, b4⟩ := hs
    subst a1
    refine ⟨v, pinC s'.heap (cellsFrom (s.heap.objs.size + 1) (defScope st).names []) H', J.os, J.bare, pinC_un J fun y c z => J.ok.cab y c rfl z, pinC_hok J, a3, ?_⟩
    exact h5 _ _ b4 _ _ (b1.rd J rfl a4 a5) ((b2.rm J rfl a4 a6).less b3) (a7.trans (pinC_stay J))
theorem cal_mkC {x q : Str} {st : Stmt} {ps : List Str} {sp : SpD} {c Pt : Addr} (hf : FnTm K mg x st ps c) (TB : LamX.TabB base mg c Pt) (eq : x ++ ".<locals>." ++ "<lambda>" = q) (S : FnScope N ps (defScope st)) (hst : stat (defScope st) N L C Gs = true) (hb : ∀ x ∈ Bs, mg x = none)
    (h : ∀ X, Fx X P w K mg base (defScope st) N L C Gs Bs k → Mkr X c Pt q → ∀ ds M Q, ds.length = ps.length → sp ds M Q → WF X (ini N ds) M (defBody st) (fun ρ d M' => ∃ d' M2, ClD X N ρ d d' ∧ ClM X N ρ M' M2 ∧ Sub (Q d') M2)) :
    Cal P w K mg base x (k + 1) ps.length sp := by
  obtain ⟨f, fd, F, hm, hbn⟩ := hf
  exact ⟨f, fd, ps, fn_okC F TB eq S hst hb h, hm, F.kp, hbn⟩
end
end G
namespace G
open PySem PySem.Spec PyProof.Rows L2
/-! ### calls of kept lambdas -/
/-- what a lambda does: what its cells hold, its arguments -/
abbrev SpC := List DV → List DV → (DV → Prop) → Prop
def CloOk (P : Program) (w : World) (K : Fg) (mg : Str → Option Value) (base : Heap) (k : Nat) (L : Lamb) (n : Nat) (sp : SpC) : Prop :=
  ∀ (A : Around) (outer : List Env) (s : Shared) (H : Hp) (f : Addr) (us : List Value) (vs cs : List V) (ds cd : List DV) (Q : DV → Prop), Room k A → Env0 P w K mg base A outer s H → CloH H f L cs → RDs K H cd cs → Vals vs us → RDs K H ds vs → ds.length = n → Cfs cd = true → Cfs ds = true → sp cd ds Q →
    codeAny (model P w) A (.call (.ref f) ⟨us, []⟩) (CR CX0 outer P w H s (fun v H' => (∀ b u, H b = some u → H' b = some u) ∧ ∃ d, RD K H' d v ∧ Q d) E0) s
theorem CloOk.mono {P : Program} {w : World} {K : Fg} {mg : Str → Option Value} {base : Heap} {j k n : Nat} {L : Lamb} {sp : SpC} (h : CloOk P w K mg base j L n sp) (hj : j ≤ k) : CloOk P w K mg base k L n sp :=
  fun A outer s H f us vs cs ds cd Q hr => h A outer s H f us vs cs ds cd Q (hr.mono hj)
theorem startF_eq {N : List Str} {vs cs : List V} : NdefX.startF N vs (cs.map some) = L2.start N (vs ++ cs) := by
  unfold NdefX.startF L2.start
  rw [List.map_append, List.append_assoc, List.length_map, List.length_append, Nat.sub_sub]
section
variable {P : Program} {w : World} {K : Fg} {mg : Str → Option Value} {base : Heap} {N Gs Bs : List Str} {k : Nat}
theorem clo_mk {L : Lamb} {ps : List Str} {sp : SpC} (S : NdefX.NScope N ps L.fr L.scope) (hst : stat L.scope N ps [] Gs = true) (hbl : ∀ x ∈ Bs, mg x = none)
    (hbi : ∀ (cl : List (Str × Addr)) (pm cv ctv : Value) (us : List Value), us.length = ps.length → bindArgs (PySem.W.kla_fn "<lambda>" L.qual L.params L.body L.scope cl pm cv ctv) ⟨us, []⟩ = pure (ps.zip us))
    (h : ∀ X, Fx X P w K mg base L.scope N ps [] Gs Bs k → ∀ cd ds Q, cd.length = L.fr.length → ds.length = ps.length → sp cd ds Q → WE X (ini N (ds ++ cd)) [] L.body (fun d _ => Q d)) : CloOk P w K mg base (k + 1) L ps.length sp := by
  intro A outer s H f us vs cs ds cd Q hr e0 hc rc rv rd hn cf1 cf2 hsp
  have T := stat_ok hst
  obtain ⟨cl, ⟨pm, c', ctv, hf, hco⟩, hl, hinj, hdom, hcell⟩ := hc
  have of1 : s.heap.get? f = some (lamObj L cl pm c' ctv) := pin_at e0.hok hf
  obtain ⟨⟨oc, vv, t, hoc, hdc, hvc⟩, _, _⟩ := e0.hok c' _ hco
  have e1 := Env0.cut e0
  have lim : s.heap.NoLimit := e0.mod.nolimit.keeps fun b o e => (e0.bs b o e).1
  have hvl : vs.length = ps.length := by rw [← rd.length]; exact hn
  have hul : us.length = ps.length := by rw [← rv.length]; exact hvl
  have CA : NdefX.CellsAt cl L.fr (cs.map some) s.heap (cutH H) := by
    refine ⟨by rw [List.length_map]; exact hl, fun y c e => ?_, hinj, fun i y e => ?_⟩
    · obtain ⟨i, hi⟩ := List.mem_iff_getElem?.mp (hdom y c e)
      obtain ⟨c2, oc2, v2, u2, a1, a2, a3, a4, a5⟩ := hcell i y hi
      rw [e] at a1
      cases a1
      exact ⟨cutH_hid a2 rfl, _, oc2, pin_at e0.hok a2, a3⟩
    · obtain ⟨c2, oc2, v2, u2, a1, a2, a3, a4, a5⟩ := hcell i y e
      refine ⟨c2, a1, fun v hv => ?_⟩
      rw [List.getElem?_map, a4] at hv
      cases hv
      exact ⟨u2, a5, oc2, pin_at e0.hok a2, a3⟩
  have hps : ps.length + L.fr.length ≤ N.length := by have q := congrArg List.length S.pre; rw [List.length_take, List.length_append] at q; omega
  have hcl : cd.length = L.fr.length := by rw [rc.length]; exact hl
  refine codeAny_mono (R := CR CX0 outer P w (cutH H) s (fun v H' => ∃ d, RD K H' d v ∧ Q d) E0) ?_ fun r s' hq => ?_
  · refine PySem.W.kla_callFunE hr.depth of1 rfl S.co S.gen rfl ⟨c', oc, vv, t, rfl, hoc, hdc, hvc⟩ ?_
    rw [hbi _ _ _ _ us hul]
    refine wpAny_pure (wpAny_newFunctionEnv S.nocell (fun ⟨n, _⟩ hy => S.par n (List.of_mem_zip hy).1) (fun h₁ hns hsb => ⟨lim.fresh _ hsb, ?_⟩) S.kind)
    have kp : ∀ b o, s.heap.get? b = some o → h₁.get? b = some o := fun b o e => hsb.extBut b o (Nat.ne_of_lt (Heap.lt_size e)) (Heap.get?_push_of_some _ e)
    have J : Inv (NdefX.ncx CX0 P w K mg base N ⟨"<lambda>", L.qual, L.params, [], L.scope, cl, c'⟩ f A outer s (cutH H) E0) [] (NdefX.startF N vs (cs.map some)) (cutH H) { s with heap := h₁, toks := s.toks + (ps.zip us).length } :=
      NdefX.inv_startN (F := ⟨"<lambda>", L.qual, L.params, [], L.scope, cl, c'⟩) S hr.hd e1 hvl rv CA hns kp
    rw [startF_eq] at J
    have FX : Fx ⟨(NdefX.ncx CX0 P w K mg base N ⟨"<lambda>", L.qual, L.params, [], L.scope, cl, c'⟩ f A outer s (cutH H) E0).nox, cutH H⟩ P w K mg base L.scope N ps [] Gs Bs k :=
      ⟨rfl, rfl, rfl, rfl, rfl, rfl, rfl, T.nd, T.loc, fun z hz => (nomatch hz), T.kind, T.nob, T.gl, hbl, rfl, hr.deeper _, PassesOwn.never⟩
    have W := h _ FX cd ds Q hcl hn hsp
    rw [ini_eq N (ds ++ cd) (by rw [List.length_append]; omega)] at W
    refine PySem.W.kla_codeExpr (wpAny_mono (W _ _ (RS.start (X := ⟨(NdefX.ncx CX0 P w K mg base N ⟨"<lambda>", L.qual, L.params, [], L.scope, cl, c'⟩ f A outer s (cutH H) E0).nox, cutH H⟩) Stay.refl (by rw [List.length_append]; show _ ≤ N.length; omega) (fun i y hi hy => ?_) ((RDs.cutS rd cf2).append (RDs.cutS rc cf1))) RM.none [] _ (J.wish fun _ _ => False)) (fun v s' hq => ?_) fun e s' hq => hq.elim)
    · rw [List.length_append] at hi
      have hp : (ps ++ L.fr)[i]? = some y := by
        rw [← S.pre, List.getElem?_take_of_lt (by omega)]
        exact hy
      rcases List.mem_append.mp (List.mem_of_getElem? hp) with z | z
      · exact .inl (S.par y z)
      · exact .inr (.inr (S.frk y z))
    · obtain ⟨w', H', J', rv', d, M', a1, a2, a3, a4⟩ := hq
      exact ⟨w', H', J'.os, J'.bare, J'.base, J'.hok, rv', d, a1, a4⟩
  · cases r with
    | error e => exact hq
    | ok fl =>
      cases fl with
      | next => exact hq
      | brk => exact hq
      | cont => exact hq
      | ret u =>
        obtain ⟨v, H1, b1, b2, un, hok, rvu, d, b5, b6⟩ := hq
        refine ⟨v, backH H H1, b1, b2, back_un e0 un, back_hok e0 un hok, rvu, fun b u hu => back_ext un hu, d, b5.mono ⟨fun a xs h => back_new e0 un h, fun a o u h => back_new e0 un h, fun a q h => back_new e0 un h, fun a fs h => back_new e0 un h⟩, b6⟩
end
/-! ### o.f(..), where the field f of the object holds a lambda -/
section
variable {X : Cy} {P : Program} {w : World} {K : Fg} {mg : Str → Option Value} {base : Heap} {sc : Scope} {N L C Gs Bs : List Str} {k j n : Nat} {ρ : Ro} {M : Mm} {Q : DV → Mm → Prop} {e o : Expr} {es : List Expr} {apos pos : Pos} {m : Str} {Cc : Addr}
theorem getfld_ok {pins : List (Addr × Obj)} {σ : L2.St} {H : Hp} {s : Shared} {A : Around} {E : Value → Shared → Prop} {pl : Sem Bool} {R : Value × List Value → Shared → Prop} {a dx : Addr} {fs : List (Str × V)} {v : V} (I : Inv X.toCx pins σ H s) (ea : H a = some (.ins Cc dx fs)) (c : Cls X.K Cc) (na : NoAttr X.K Cc m) (l : fs.lookup m = some v)
    (h : ∀ u s', Inv X.toCx pins σ H s' → RelV v u → R (u, []) s') : wpAny (model X.prog X.w) A (getMethod (.ref a) m pl) R E s := by
  obtain ⟨mA, O, r, _, _, _⟩ := ins_get I.hok ea
  obtain ⟨od, J, hl⟩ := O.look
  exact PySem.W.method_usual I.kIn J (PySem.W.plainGet_of (c.get m)).1 (PySem.W.plainGet_of (c.get m)).2 (r := none) na rfl (getattr_ok I ea c na l fun u s' I' ru => h u s' I' ru)
theorem fnAt_pin {pins : List (Addr × Obj)} {σ : L2.St} {H : Hp} {s : Shared} {f : Addr} {L' : Lamb} {cs : List V} (I : Inv X.toCx pins σ H s) (c : CloH H f L' cs) : PySem.W.FnAt f s.heap := by
  obtain ⟨cl, ⟨pm, c', ctv, hf, _⟩, _⟩ := c
  exact ⟨_, _, _, _, pin_at I.hok hf⟩
/-- the lambda at f is called, its arguments in hand -/
theorem clo_run {pins : List (Addr × Obj)} {σ : L2.St} {H : Hp} {s : Shared} {f : Addr} {L' : Lamb} {cs vs : List V} {cd ds : List DV} {us : List Value} {sp : SpC} {Hs : Hp} (F : Fx X P w K mg base sc N L C Gs Bs k) (hj : j ≤ k) (G : CloOk P w K mg base j L' n sp) (I : Inv X.toCx pins σ H s) (c : CloH H f L' cs) (rc : RDs X.K H cd cs) (rv : Vals vs us) (rd : RDs X.K H ds vs) (hn : ds.length = n)
    (cf1 : Cfs cd = true) (cf2 : Cfs ds = true) (rm : RM X.K H M) (st : Stay X.K Hs H) (q : sp cd ds fun d => Q d M) : wpAny (model X.prog X.w) X.A (call (.ref f) us) (EP X.toCx pins σ (LE X.K Hs Q)) X.xe s := by
  have eP := F.hP; have ew := F.hw; have eK := F.hK; have eg := F.hmg; have eb := F.hbase
  subst eP ew eK eg eb
  refine wpAny_call (codeAny_mono (G X.A X.stack s H f us vs cs ds cd (fun d => Q d M) (F.room.mono hj) I.env0 c rc rv rd hn cf1 cf2 q) fun r s' hq => ?_)
  cases r with
  | error e => exact False.elim hq
  | ok fl =>
    cases fl with
    | ret u =>
      obtain ⟨v, H', I3, r3, ex, d, q1, q2⟩ := I.after hq
      exact ⟨v, H', I3, r3, d, M, q1, rm.ext ex, st.trans ⟨fun a xs h => ex _ _ h, fun a o u h => ex _ _ h, fun a q h => ex _ _ h, fun a fs h => ex _ _ h⟩, q2⟩
    | next => exact False.elim hq
    | brk => exact False.elim hq
    | cont => exact False.elim hq
theorem we_callF (F : Fx X P w K mg base sc N L C Gs Bs k) (ho : notSup o = true) (hs : noStars (e :: es) = true) (hn : (e :: es).length < 30) (hl : (apos.endLine == pos.line) = true)
    (h : WE X ρ M o fun d M1 => ∃ a i Cc fs L' cd sp j n, d = .ref a ∧ AtM M1 i a (.ins Cc fs) ∧ FldC K Cc m ∧ fs.lookup m = some (.clo L' cd) ∧ CloOk P w K mg base j L' n sp ∧ j ≤ k ∧ Cfs cd = true ∧ WA X ρ M1 (e :: es) fun ds M2 => ds.length = n ∧ Cfs ds = true ∧ sp cd ds (fun d => Q d M2)) : WE X ρ M (.Call (.Attribute o m apos) (e :: es) [] pos) Q := fun σ H rs rm pins s I => by
  obtain ⟨h1, h2⟩ := noStars_cons hs
  refine PySem.W.methodCall_KW (thn (h σ H rs rm pins s I) fun u s1 ⟨v, H1, I1, rx, d, M1, a1, a2, a3, a, i, Cc, fs, L', cd, sp, j, n, e1, e2, c, e4, G, hj, cf1, e5⟩ => ?_) (meth_eval' ho hs hn hl)
  subst e1
  cases a1
  obtain rfl : u = .ref a := rx
  obtain ⟨dx, gs, g1, g2⟩ := a2.at e2.ix
  obtain ⟨vf, l1, l2⟩ := g2.lookup_some e4
  cases l2 with
  | @clo f _ cs _ hc rc =>
    refine getfld_ok I1 g1 (by rw [F.hK]; exact c.cl) (by rw [F.hK]; exact c.no) l1 fun u s2 I2 ru => ?_
    obtain rfl : u = .ref f := ru
    refine PySem.W.callWith_F (first := []) (fnAt_pin I2 hc) (thn (pa_w.run pos pins s2 σ H1 _ I2 (e5 σ H1 (rs.mono a3) a2)) fun us s3 ⟨vs, H3, I3, r3, ds, M3, k1, k2, k3, k4, k5, k6⟩ => ⟨fnAt_pin I3 (hc.mono k3), ?_⟩) (starEach_cons h1) (noStars_any h2)
    exact clo_run F hj G I3 (hc.mono k3) (rc.mono k3) r3 k1 k4 cf1 k5 k2 (a3.trans k3) k6
end
end G
namespace G
open PySem PySem.Spec PyProof.Rows L2
/-! ### x(k = e, ..) of several keywords -/
class MkiN (P : Program) (w : World) (K : Fg) (mg : Str → Option Value) (base : Heap) (x : Str) (ks : List Str) (Cc : outParam Addr) (j : outParam Nat) (dd : outParam (List DV)) (sp : outParam SpD) : Prop where
  ex : ∃ (f : Addr) (fd : FuncData) (ps : List Str) (mv : List Value) (mz : List V), Mk K Cc f ∧ FnOk P w K mg base CX0 j f fd ps (sp1 K (1 + ks.length + dd.length) sp) ∧ mg x = some (.ref Cc) ∧ KBn K fd ps 1 ks (fun us ws => us ++ ws ++ mv) (fun vs zs => vs ++ zs ++ mz) ∧ ∀ H, RDs K H dd mz
/-- what the text says of it -/
def MkTn (K : Fg) (mg : Str → Option Value) (x : Str) (ks : List Str) (Cc : Addr) (qual : Str) (st : Stmt) (ps : List Str) (dd : List DV) : Prop := ∃ f fd dV mv mz, Mk K Cc f ∧ FunD K "__init__" qual st f fd dV ∧ mg x = some (.ref Cc) ∧ KBn K fd ps 1 ks (fun us ws => us ++ ws ++ mv) (fun vs zs => vs ++ zs ++ mz) ∧ ∀ H, RDs K H dd mz
section
variable {P : Program} {w : World} {K : Fg} {mg : Str → Option Value} {base : Heap} {N L C Gs Bs : List Str} {k : Nat}
theorem mkiN_mk {x qual : Str} {st : Stmt} {ps ks : List Str} {Cc : Addr} {dd : List DV} {sp : SpD} (T : MkTn K mg x ks Cc qual st ps dd) (S : FnScope N ps (defScope st)) (hst : stat (defScope st) N L C Gs = true) (hb : ∀ x ∈ Bs, mg x = none) (hn : 1 + ks.length + dd.length = ps.length)
    (h : ∀ X, Fx X P w K mg base (defScope st) N L C Gs Bs k → ∀ ds M Q, ds.length = ps.length → sp ds M Q → WSs X (ini N ds) M (defBody st) (fun _ M' => Sub (Q .non) M') (fun d M' => Sub (Q d) M') (fun _ _ => False) (fun _ _ => False)) :
    MkiN P w K mg base x ks Cc (k + 1) dd sp := by
  obtain ⟨f, fd, dV, us, vs, h1, h2, h3, h4, h5⟩ := T
  exact ⟨f, fd, ps, us, vs, h1, by rw [hn]; exact fn_okD h2 S hst hb h, h3, h4, h5⟩
end
section
variable {X : Cy} {P : Program} {w : World} {K : Fg} {mg : Str → Option Value} {base : Heap} {sc : Scope} {N L C Gs Bs : List Str} {k j n : Nat} {ρ : Ro} {M : Mm} {Q : DV → Mm → Prop} {e1 e2 e3 e4 : Expr} {pos p p1 p2 p3 p4 : Pos} {x k1 k2 k3 k4 : Str} {sp : SpD} {Cc : Addr} {dd : List DV}
theorem we_make4 (F : Fx X P w K mg base sc N L C Gs Bs k) (G : MkiN P w K mg base x [k1, k2, k3, k4] Cc j dd sp) (hj : j + 1 ≤ k) (hx : x ∈ Gs)
    (h : WE X ρ M e1 fun d1 M1 => WE X ρ M1 e2 fun d2 M2 => WE X ρ M2 e3 fun d3 M3 => WE X ρ M3 e4 fun d4 M4 => ∀ q, sp (.ref q :: ([d1, d2, d3, d4] ++ dd)) ((q, .ins Cc []) :: M4) fun d M' => d = .non ∧ Q (.ref q) M') :
    WE X ρ M (.Call (.Name x p) [] [⟨some k1, e1, p1⟩, ⟨some k2, e2, p2⟩, ⟨some k3, e3, p3⟩, ⟨some k4, e4, p4⟩] pos) Q := fun σ H rs m => by
  obtain ⟨f, fd, ps, mv, mz, Mm, G, hm, kb, hd⟩ := G.ex
  obtain ⟨g1, g2, g3⟩ := F.gl x hx
  have eP := F.hP; have ew := F.hw; have eK := F.hK; have eg := F.hmg; have eb := F.hbase
  subst eP ew eK eg eb
  refine wE.of (pe_makeK0 (E := E0) Mm G (F.room.mono hj) g1 hm kb pass0 (pk_cons pe_w (pk_cons pe_w (pk_cons pe_w (pk_cons pe_w pk_nil)))) rfl rfl g2 rfl) ?_
  refine (h σ H rs m).mono fun v1 H1 ⟨d1, M1, a1, a2, a3, a4⟩ => ?_
  refine (a4 σ H1 (rs.mono a3) a2).mono fun v2 H2 ⟨d2, M2, b1, b2, b3, b4⟩ => ?_
  refine (b4 σ H2 (rs.mono (a3.trans b3)) b2).mono fun v3 H3 ⟨d3, M3, c1, c2, c3, c4⟩ => ?_
  refine (c4 σ H3 (rs.mono ((a3.trans b3).trans c3)) c2).mono fun v4 H4 ⟨d4, M4, f1, f2, f3, f4⟩ => ?_
  refine ⟨rfl, rfl, fun q dx hq hdx hne => ?_⟩
  have z := sp_made (E := E0) (ds := [d1, d2, d3, d4] ++ dd) (vs := [v1, v2, v3, v4] ++ mz) (Q := Q) f2 hq hdx hne ((RDs.cons (a1.mono ((b3.trans c3).trans f3)) (.cons (b1.mono (c3.trans f3)) (.cons (c1.mono f3) (.cons f1 .nil)))).append (hd H4)) (f4 q) (n := 1 + 4 + dd.length) (by rw [List.length_append]; show 1 + (4 + dd.length) = _; omega)
  obtain ⟨ds', M', Q0, z1, z2, z3, z4, z5⟩ := z
  exact ⟨ds', M', Q0, z1, z2, z3, z4, fun d M2 a v H2 b c st => let ⟨y1, y2⟩ := z5 d M2 a v H2 b c st; ⟨y1, y2.stay (((a3.trans b3).trans c3).trans f3)⟩⟩
instance [F : Fx X P w K mg base sc N L C Gs Bs k] [G : MkiN P w K mg base x [k1, k2, k3, k4] Cc j dd sp] [m : MemC x Gs] : Step (WE X ρ M (.Call (.Name x p) [] [⟨some k1, e1, p1⟩, ⟨some k2, e2, p2⟩, ⟨some k3, e3, p3⟩, ⟨some k4, e4, p4⟩] pos) Q) (Nat.ble (j + 1) k) (WE X ρ M e1 fun d1 M1 => WE X ρ M1 e2 fun d2 M2 => WE X ρ M2 e3 fun d3 M3 => WE X ρ M3 e4 fun d4 M4 => ∀ q, sp (.ref q :: ([d1, d2, d3, d4] ++ dd)) ((q, .ins Cc []) :: M4) fun d M' => d = .non ∧ Q (.ref q) M') := ⟨fun h q => we_make4 F G (Nat.le_of_ble_eq_true h) m.h q⟩
end
end G
namespace G
open PySem PySem.Spec PyProof.Rows L2
/-! ### locked lists are read -/
section
variable {K : Fg} {M : Mm} {Q : DV → Mm → Prop}
theorem v_ix_f {ds : List DV} {i : Int} {d : DV} (h : atI ds i = some d) (q : Q d M) : R2D K (rIx K) (.lis ds) (.int i) M Q := fun vx vy H h1 h2 m => by
  cases h2
  cases h1 with
  | lis sq r =>
    obtain ⟨v, e, r⟩ := atI_rel r h
    exact .inl ⟨_, _, i, v, rfl, rfl, sq.sq, e, d, M, r, m, Stay.refl, q⟩
theorem v_len_f {ds : List DV} (q : Q (.int (ds.length : Int)) M) : CD K (rLen3 K) [.lis ds] M Q := .one fun v H r m => by
  cases r with
  | lis sq rr => exact ⟨_, _, rfl, .inl ⟨_, sq.sq, rr.length⟩, .int _, M, .int _, m, Stay.refl, q⟩
instance {ds : List DV} : Step (CD K (rLen3 K) [.lis ds] M Q) true (Q (.int (ds.length : Int)) M) := ⟨fun _ q => v_len_f q⟩
theorem it_lis {H0 : Hp} {a : Addr} {ds : List DV} {vs : List V} (sq : FrzL K H0 a vs) (r : RDs K H0 ds vs) : ItD K H0 (Itl K a) ds.length (fun i => ds.getD i .non) (fun _ => True) where
  go := fun i H M st m _ hi => by
    obtain ⟨v, h1, h2⟩ := r.get (List.getElem?_eq_getElem hi)
    exact ⟨vs, v, (sq.elim (fun ⟨o, e⟩ => FrzL.sq (.inl ⟨o, st.frz _ _ _ e⟩)) fun z => FrzL.sq (.inr z)), h1⟩
  yld := fun i H M v H' st m _ hi ⟨e1, e2⟩ => by
    subst e1
    obtain ⟨v', h1, h2⟩ := r.get (List.getElem?_eq_getElem hi)
    have := e2 vs (sq.elim (fun ⟨o, e⟩ => FrzL.sq (.inl ⟨o, st.frz _ _ _ e⟩)) fun z => FrzL.sq (.inr z))
    rw [h1] at this
    cases this
    refine ⟨?_, Stay.refl, m⟩
    rw [List.getD_eq_getElem?_getD, List.getElem?_eq_getElem hi]
    exact h2.mono st
  stop := fun H M st m _ => ⟨vs, (sq.elim (fun ⟨o, e⟩ => FrzL.sq (.inl ⟨o, st.frz _ _ _ e⟩)) fun z => FrzL.sq (.inr z)), by rw [r.length]; exact Nat.le_refl _⟩
end
section
variable {X : Cy} {P : Program} {w : World} {K : Fg} {mg : Str → Option Value} {base : Heap} {sc : Scope} {N L C Gs Bs : List Str} {k : Nat} {ρ : Ro} {M : Mm} {Q : DV → Mm → Prop} {e o tg : Expr} {apos pos p : Pos}
theorem wi_lis {R : Nat → (Nat → DV) → (Mm → Prop) → Mm → Prop} (h : WE X ρ M e fun d M1 => ∃ ds, d = .lis ds ∧ R ds.length (fun i => ds.getD i .non) (fun _ => True) M1) : WI X ρ M tg e R := by
  refine ⟨_, pi_list pe_w, fun σ H rs m => ?_⟩
  refine (h σ H rs m).mono fun v H1 ⟨d, M1, h1, h2, h3, ds, e, h5⟩ => ?_
  subst e
  cases h1 with
  | lis sq r => exact ⟨_, rfl, ⟨_, sq.sq⟩, _, _, _, M1, it_lis sq r, h2, h3, h5⟩
/-- l.index(e) -/
def IxD (M : Mm) (x y : DV) (S : Int → Prop) : Prop := ∃ (ps : List PyData) (pd : PyData) (j : Nat) (z : PyData), Pd M x (.list ps) ∧ Pd M y pd ∧ SeqAt.shaped (.list ps) = true ∧ SeqAt.shaped pd = true ∧ ps[j]? = some z ∧ PyData.eqv z pd = true ∧ (∀ (m : Nat) (z' : PyData), m < j → ps[m]? = some z' → PyData.eqv z' pd = false) ∧ S (j : Int)
theorem we_index (F : Fx X P w K mg base sc N L C Gs Bs k) (ho : notCall o = true) (hs : noStars [e] = true) (hl : (apos.endLine == pos.line) = true)
    (h : WE X ρ M o fun x M1 => (∀ v H, RD X.K H x v → RM X.K H M1 → tyV X.K "list" v H) ∧ WE X ρ M1 e fun d M2 => IxD M2 x d fun j => Q (.int j) M2) : WE X ρ M (.Call (.Attribute o "index" apos) [e] [] pos) Q := by
  have hu := F.room.un
  refine we_bm PySem.F.plainAttrs_list PySem.F.slot_list_index PySem.F.type_list_index (mt_indexD (by omega)) (fun x xs H Q Q' ⟨a, y, d, ds, j, z, h1, h2, h3, h4, h5, h6, h7, h8, h9, q⟩ t => ⟨a, y, d, ds, j, z, h1, h2, h3, h4, h5, h6, h7, h8, h9, t _ _ q⟩) ho hs (by simp) hl ?_
  refine h.mono fun x M1 ⟨h1, h2⟩ => ⟨h1, wa_cons' (noStars_cons hs).1 (h2.mono fun d M2 h3 => wa_nil ?_)⟩
  intro v vs H r1 r2 m
  obtain ⟨ps, pd, j, z, g1, g2, g3, g4, g5, g6, g7, q⟩ := h3
  cases r2 with
  | cons r3 r4 =>
    cases r4
    have dl := g1.dp m r1
    obtain ⟨a, rfl⟩ : ∃ a, v = V.ref a := by cases dl; exact ⟨_, rfl⟩
    exact ⟨a, _, pd, ps, j, z, rfl, rfl, dl, g2.dp m r3, g3, g4, g5, g6, g7, .int _, M2, .int _, m, Stay.refl, q⟩
theorem ty_lis {ds : List DV} : ∀ v H, RD K H (.lis ds) v → RM K H M → tyV K "list" v H := fun v H r m => by
  cases r with
  | lis sq rr => exact .inl ⟨rfl, _, sq.sq⟩
/-! ### dicts: d['x'], d['x'] = v, {k: v, k: v}, list(d.items()), dict(pairs) -/
def DgD (M : Mm) (x : DV) (ky : Key) (Q : DV → Mm → Prop) : Prop := ∃ (q : Addr) (i : Nat) (kvs : List (Key × DV)) (d : DV), x = .ref q ∧ AtM M i q (.dk kvs) ∧ getD kvs ky = some d ∧ Q d M
theorem RF.valS {H : Hp} {ky : Key} {d : DV} {kvs : List (Key × DV)} {vs : List (Key × V)} (r : RF K H kvs vs) (h : getD kvs ky = some d) : ∃ v, valV vs ky = some v ∧ RD K H d v := by
  rcases r.val (k := ky) with ⟨z, _⟩ | ⟨d', v, z1, z2, z3⟩
  · rw [h] at z
    cases z
  · rw [h] at z1
    cases z1
    exact ⟨v, z2, z3⟩
theorem we_dgetS {x : Str} {j : Nat} {cp : Pos} (F : Fx X P w K mg base sc N L C Gs Bs k) (h : WE X ρ M o fun d M1 => DgD M1 d (.inr x) Q) : WE X ρ M (.Subscript o (.Constant (.str x) j cp) pos) Q := fun σ H rs m => by
  have hu := F.room.un
  refine wE.of (pe_dget (by omega) pe_w pe_str (fun ov iv => rfl)) ?_
  refine (h σ H rs m).mono fun v H1 ⟨d, M1, h1, h2, h3, q, i, kvs, d', e1, e2, e3, e4⟩ => ?_
  subst e1
  cases h1
  obtain ⟨vs, f1, f2⟩ := h2.at e2.ix
  obtain ⟨v', g1, g2⟩ := f2.valS e3
  exact ⟨q, v', rfl, .inl ⟨vs, .inr x, .inl f1, rfl, g1.symm⟩, d', M1, g2, h2, h3, e4⟩
instance {x : Str} {j : Nat} {cp : Pos} [F : Fx X P w K mg base sc N L C Gs Bs k] : Step (WE X ρ M (.Subscript o (.Constant (.str x) j cp) pos) Q) true (WE X ρ M o fun d M1 => DgD M1 d (.inr x) Q) := ⟨fun _ q => we_dgetS F q⟩
instance {q : Addr} {i : Nat} {kvs : List (Key × DV)} {ky : Key} [A : AtM M i q (.dk kvs)] : Step (DgD M (.ref q) ky Q) true (∃ d, getD kvs ky = some d ∧ Q d M) := ⟨fun _ ⟨d, h1, h2⟩ => ⟨q, i, kvs, d, rfl, A, h1, h2⟩⟩
theorem ws_dputS {x : Str} {j : Nat} {cp tp : Pos} {v : Expr} {nx bk ct : Ro → Mm → Prop} {rt : DV → Mm → Prop} (F : Fx X P w K mg base sc N L C Gs Bs k) (hsw : swapsWith v (some (.Subscript o (.Constant (.str x) j cp) tp)) pos.line X.env = pure false)
    (h : WE X ρ M v fun dv M1 => WE X ρ M1 o fun d M2 => ∃ q i kvs, d = .ref q ∧ AtM M2 i q (.dk kvs) ∧ kvs.length < sizeLine ∧ nx ρ (M2.set i (q, .dk (putD kvs (.inr x) dv)))) : WS X ρ M (.Assign [.Subscript o (.Constant (.str x) j cp) tp] v pos) nx rt bk ct := fun σ H rs m => by
  have hu := F.room.un
  refine wS.of (ps_dput (by omega) pe_w pe_str pe_w hsw) ?_
  refine (h σ H rs m).mono fun vv H1 ⟨dv, M1, h1, h2, h3, h4⟩ => ?_
  refine (h4 σ H1 (rs.mono h3) h2).mono fun vd H2 ⟨d, M2, k1, k2, k3, q, i, kvs, e1, e2, e3, e4⟩ => ?_
  subst e1
  cases k1
  obtain ⟨vs, f1, f2⟩ := k2.at e2.ix
  have st : Stay X.K H2 (upd H2 q (.dK (putK vs (.inr x) vv))) := Stay.write (wr_dk f1)
  refine ⟨q, _, rfl, DPut.k (k := .inr x) f1 (by rw [← f2.len]; exact e3), ρ, _, (rs.mono (h3.trans k3)).mono st, k2.write (q' := .dk (putD kvs (.inr x) dv)) e2.ix (wr_dk f1) ⟨_, upd_same, (f2.mono st).put ((h1.mono k3).mono st)⟩, (h3.trans k3).trans st, e4⟩
theorem we_dict2 {k1 k2 v1 v2 : Expr} (h : ∀ q, WE X ρ ((q, .dk []) :: M) k1 fun a1 M1 => WE X ρ M1 v1 fun b1 M2 => WE X ρ M2 k2 fun a2 M3 => WE X ρ M3 v2 fun b2 M4 => ∃ i x1 x2, AtM M4 i q (.dk []) ∧ a1 = keyD x1 ∧ a2 = keyD x2 ∧ x1 ≠ x2 ∧ Q (.ref q) (M4.set i (q, .dk [(x1, b1), (x2, b2)]))) : WE X ρ M (.Dict [some k1, some k2] [v1, v2] pos) Q := fun σ H rs m => by
  refine wE.of (pe_disp (pps_cons pe_w pe_w (pps_cons pe_w pe_w pps_nil)) rfl rfl (by simp) (by simp)) fun q hq => ?_
  have s0 : Stay X.K H (upd H q (.dK [])) := Stay.new hq
  have m0 : RM X.K (upd H q (.dK [])) ((q, .dk []) :: M) := m.cons (q := .dk []) hq ⟨[], upd_same, .nil⟩
  show wE X k1 σ _ _
  refine (h q σ _ (rs.mono s0) m0).mono fun u1 H1 ⟨a1, M1, c1, c2, c3, c4⟩ => ?_
  show wE X v1 σ _ _
  refine (c4 σ H1 (rs.mono (s0.trans c3)) c2).mono fun w1 H2 ⟨b1, M2, d1, d2, d3, d4⟩ => ?_
  show wE X k2 σ _ _
  refine (d4 σ H2 (rs.mono ((s0.trans c3).trans d3)) d2).mono fun u2 H3 ⟨a2, M3, f1, f2, f3, f4⟩ => ?_
  show wE X v2 σ _ _
  refine (f4 σ H3 (rs.mono (((s0.trans c3).trans d3).trans f3)) f2).mono fun w2 H4 ⟨b2, M4, g1, g2, g3, i, x1, x2, g4, g5, g6, g7, g8⟩ => ?_
  subst g5 g6
  obtain ⟨vs, y1, y2⟩ := g2.at g4.ix
  cases y2
  have e1 : u1 = kV x1 := by cases x1 <;> cases c1 <;> rfl
  have e2 : u2 = kV x2 := by cases x2 <;> cases f1 <;> rfl
  subst e1 e2
  have em : mergeK [] [(x1, w1), (x2, w2)] = [(x1, w1), (x2, w2)] := by
    show putK (putK [] x1 w1) x2 w2 = _
    have p1 : putK [] x1 w1 = [(x1, w1)] := rfl
    rw [p1]
    unfold putK
    rw [if_neg (by simp [g7])]
    rfl
  have st : Stay X.K H4 (upd H4 q (.dK [(x1, w1), (x2, w2)])) := Stay.write (wr_dk y1)
  refine ⟨y1, [(x1, w1), (x2, w2)], rfl, by simp, ?_⟩
  rw [em]
  exact ⟨.ref q, _, .ref q, g2.write (q' := .dk [(x1, b1), (x2, b2)]) g4.ix (wr_dk y1) ⟨_, upd_same, .cons (((d1.mono f3).mono g3).mono st) (.cons (g1.mono st) .nil)⟩, ((((s0.trans c3).trans d3).trans f3).trans g3).trans st, g8⟩
def pairD (kv : Key × DV) : DV := .tup [keyD kv.1, kv.2]
theorem key_rd {H : Hp} {ky : Key} : RD K H (keyD ky) (kV ky) := by
  cases ky with
  | inl i => exact .int i
  | inr x => exact .str x
theorem pairs_rd {H : Hp} : ∀ {kvs : List (Key × DV)} {vs : List (Key × V)} {ts : List Addr}, RF K H kvs vs → Paired (fun (t : Addr) (q : Key × V) => H t = some (.tup [kV q.1, q.2])) ts vs → RDs K H (kvs.map pairD) (ts.map V.ref)
  | _, _, _, .nil, .nil => .nil
  | _, _, _, .cons r t, .cons h t' => .cons (.tup (SqT.of h) (.cons key_rd (.cons r .nil))) (pairs_rd t t')
theorem we_listItems {lp cp : Pos} (F : Fx X P w K mg base sc N L C Gs Bs k) (g1 : ("list" : Str) ∈ Gs) (g2 : ("list" : Str) ∈ Bs) (ho : notCall o = true) (hl : (apos.endLine == cp.line) = true)
    (h : WE X ρ M o fun d M1 => ∃ q i kvs, d = .ref q ∧ AtM M1 i q (.dk kvs) ∧ ∀ r, Q (.ref r) ((r, .lst (kvs.map pairD)) :: M1)) : WE X ρ M (.Call (.Name "list" lp) [.Call (.Attribute o "items" apos) [] [] cp] [] pos) Q := fun σ H rs m => by
  refine wE.of (LiI.pe_listItems F.calm pe_w (F.gl _ g1).1 (by rw [F.hmg]; exact F.bl _ g2) boot_list (attrBase ho) hl (starEach_cons rfl)) ?_
  refine (h σ H rs m).mono fun v H1 ⟨d, M1, h1, h2, h3, q, i, kvs, e1, e2, e3⟩ => ?_
  subst e1
  cases h1
  obtain ⟨vs, f1, f2⟩ := h2.at e2.ix
  refine ⟨q, vs, rfl, f1, fun H' r ts ex hr hts hn hl hp => ?_⟩
  have st : Stay X.K H1 H' := ⟨fun a xs h => ex _ _ h, fun a o u h => ex _ _ h, fun a q h => ex _ _ h, fun a fs h => ex _ _ h⟩
  have m' := h2.ext ex
  refine ⟨.ref r, (r, .lst (kvs.map pairD)) :: M1, .ref r, ⟨?_, fun a u hm => ?_⟩, h3.trans st, e3 r⟩
  · rw [List.map_cons, List.nodup_cons]
    refine ⟨fun hm => ?_, h2.nd⟩
    obtain ⟨⟨b, y⟩, hb, e⟩ := List.mem_map.mp hm
    obtain ⟨u, hu⟩ := (h2.ok b y hb).some
    have e : b = r := e
    rw [e, hr] at hu
    cases hu
  · rcases List.mem_cons.mp hm with e | e
    · cases e
      exact ⟨_, hl, pairs_rd (f2.mono st) hp⟩
    · exact m'.ok a u e
def mergeD (kvs more : List (Key × DV)) : List (Key × DV) := more.foldl (fun acc kv => putD acc kv.1 kv.2) kvs
theorem RF.merge {H : Hp} {more : List (Key × DV)} {ws : List (Key × V)} (h : RF K H more ws) : ∀ {kvs : List (Key × DV)} {vs : List (Key × V)}, RF K H kvs vs → RF K H (mergeD kvs more) (mergeK vs ws) := by
  induction h with
  | nil => exact fun q => q
  | cons r _ ih => exact fun q => ih (q.put r)
theorem pairs_of_rd {H : Hp} : ∀ {kvs : List (Key × DV)} {us : List V}, RDs K H (kvs.map pairD) us → ∃ (ps : List Addr) (vs : List (Key × V)), us = ps.map V.ref ∧ Paired (fun p kv => SqT K H p [kV kv.1, kv.2]) ps vs ∧ RF K H kvs vs
  | [], _, .nil => ⟨[], [], rfl, .nil, .nil⟩
  | kv :: kvs, _, .cons r t => by
    obtain ⟨ps, vs, e, h1, h2⟩ := pairs_of_rd t
    subst e
    unfold pairD at r
    cases r with
    | tup sq rr =>
      cases rr with
      | cons ra rb =>
        cases rb with
        | cons rc rd =>
          cases rd
          rename_i a vk vv
          have ek : vk = kV kv.1 := by
            obtain ⟨ky, d⟩ := kv
            cases ky <;> cases ra <;> rfl
          subst ek
          exact ⟨_ :: ps, (kv.1, vv) :: vs, rfl, .cons sq h1, .cons rc h2⟩
theorem we_dictP {lp : Pos} (F : Fx X P w K mg base sc N L C Gs Bs k) (g1 : ("dict" : Str) ∈ Gs) (g2 : ("dict" : Str) ∈ Bs) (hs : isStar e = false)
    (h : WE X ρ M e fun d M1 => ∃ q i kvs, d = .ref q ∧ AtM M1 i q (.lst (kvs.map pairD)) ∧ ∀ r, Q (.ref r) ((r, .dk (mergeD [] kvs)) :: M1)) : WE X ρ M (.Call (.Name "dict" lp) [e] [] pos) Q := fun σ H rs m pins s I => by
  refine Call_ (ld_blt I (F.gl _ g1).1 (by rw [F.hmg]; exact F.bl _ g2) boot_dict (PyProof.Rows.callWith_type1 (one_arg pe_w I (h σ H rs m) (fun v s2 x H2 I2 r q => ?_) (starEach_cons hs)) (starEach_cons hs)))
  obtain ⟨d, M1, q1, q2, q3, l, i, kvs, e1, e2, e3⟩ := q
  subst e1
  cases q1
  obtain ⟨us, f1, f2⟩ := q2.at e2.ix
  obtain ⟨ps, vs, rfl, g3, g4⟩ := pairs_of_rd f2
  refine call_dictP F.calm pins s2 σ H2 [.ref l] [v] _ I2 (.cons r .nil) ⟨l, ps, vs, rfl, SqL.of f1, g3, fun p hp => ?_⟩
  exact ⟨.ref p, _, .ref p, q2.cons (q := .dk (mergeD [] kvs)) hp ⟨_, upd_same, (RF.merge g4 .nil).mono (Stay.new hp)⟩, q3.trans (Stay.new hp), e3 p⟩
end
end G
namespace G
open PySem PySem.Spec PyProof.Rows L2
open PySem.Sem (wp)
/-! ### enumerate(t), t a tuple -/
theorem meets_enumB1 {v : Value} {o : Obj} {H : Heap → Prop} (B : Begins v o H) :
    Meets (Builtin.«enumerate.__new__» ⟨[.type "enumerate", v], []⟩) (fun _ R s => H s.heap ∧
      R (.ok (.ret (.ref (s.heap.push o).objs.size))) { s with heap := (s.heap.push o).push { cls := .type "enumerate", data := .fields #[.none, .bool false, .ref s.heap.objs.size, rawInt 0, .none, .none] } }) :=
  .of_wp fun prog w A R s h => by
    obtain ⟨hp, g, d, tk, os⟩ := s; obtain ⟨h1, h⟩ := h
    have hsub := sub_enumerate
    have q1 : ∀ {A' : Around} {E : Value → Shared → Prop} {Q : Value → Shared → Prop}, Q (.ref hp.objs.size) ⟨hp.push o, g, d, tk, os⟩ → wpAny (model prog w) A' (pyIter v) Q E ⟨hp, g, d, tk, os⟩ :=
      fun q => B.iter prog w _ _ ⟨hp, g, d, tk, os⟩ _ h1 q
    wp_walk using q1
    refine wpAny_stack_any fun st => wpAny_pure ?_
    split
    · rename_i c _ _ _ _ _
      cases (c == Value.type "enumerate")
      · wp_walk using q1
        exact ⟨_, rfl, h⟩
      · wp_walk using q1
        exact ⟨_, rfl, h⟩
    · wp_walk using q1
      exact ⟨_, rfl, h⟩
theorem enum_begins1 {prog : Program} {w : World} {A : Around} {E : Value → Shared → Prop} {s : Shared} {v : Value} {o : Obj} {H : Heap → Prop} {Q : Value → Shared → Prop} (B : Begins v o H) (h1 : H s.heap)
    (h : ∀ h', IsEnum h' (s.heap.objs.size + 1) s.heap.objs.size 0 .none → h'.get? s.heap.objs.size = some o → h'.objs.size = s.heap.objs.size + 2 →
      (∀ b o, s.heap.get? b = some o → h'.get? b = some o) → Q (.ref (s.heap.objs.size + 1)) { s with heap := h' }) :
    wpAny (model prog w) A (call (.type "enumerate") [v]) Q E s := by
  refine callType_new PySem.F.called_enumerate (by decide) (PySem.F.typeCall_enumerate_1 _) (PySem.F.newCall_enumerate_1 _) (fun obj => PySem.F.args_object_init_2 obj _) PySem.F.entry_enumerate_new (meets_enumB1 B) ⟨h1, ?_⟩
  have hz : (s.heap.push o).objs.size = s.heap.objs.size + 1 := Heap.size_push ..
  show _ ∧ _
  rw [hz]
  have he : IsEnum ((s.heap.push o).push { cls := .type "enumerate", data := .fields #[.none, .bool false, .ref s.heap.objs.size, rawInt 0, .none, .none] }) (s.heap.objs.size + 1) s.heap.objs.size 0 .none := by
    have := Heap.get?_push_size (s.heap.push o) (o := { cls := .type "enumerate", data := .fields #[.none, .bool false, .ref s.heap.objs.size, rawInt 0, .none, .none] }) rfl
    rw [hz] at this; exact this
  refine ⟨⟨_, he, rfl⟩, h _ he (Heap.get?_push_of_some _ (Heap.get?_push_size _ B.free)) (by rw [Heap.size_push, hz]) fun b o x => Heap.get?_push_of_some _ (Heap.get?_push_of_some _ x)⟩
/-- the tuple at a, each item in a new pair -/
def IteT (K : PySem.W.Frag) (a : Addr) : It :=
  ⟨fun i H => ∃ (xs : List V) (x : V), SqT K H a xs ∧ xs[i]? = some x, fun i H v H' => ∃ T x, v = .ref T ∧ H T = none ∧ H' = upd H T (.tup [.int (i : Nat), x]) ∧ ∀ xs, SqT K H a xs → xs[i]? = some x, fun i H => ∃ xs : List V, SqT K H a xs ∧ xs.length ≤ i⟩
theorem turn_enumT {P : Program} {w : World} {K : PySem.W.Frag} {elts : List Expr} {kk : Nat} {tpos : Pos} (a e it : Addr) (hai : a ≠ it) (hae : a ≠ e) :
    Turn P w K (.Tuple elts kk tpos) (IteT K a) [e, it] e (fun i h => (∃ old, IsEnum h e it ((i : Nat) : Int) old) ∧ h.IsTupleIter it a i ∧ e ≠ it) where
  mem := by simp
  obj := fun i h st b hb => by
    obtain ⟨⟨old, he⟩, ⟨o, ho, hc, hd⟩, _⟩ := st
    have e' : b = e ∨ b = it := by simpa using hb
    rcases e' with z | z
    · rw [z]; exact ⟨_, he, fun v q => nomatch q⟩
    · rw [z]; exact ⟨o, ho, fun v q => by rw [hd] at q; cases q⟩
  keep := fun i h h' st k => let ⟨⟨old, he⟩, hi, hne⟩ := st; ⟨⟨old, k e (by simp) _ he⟩, hi.at fun o q => k it (by simp) o q, hne⟩
  item := by
    intro X hP hw hK hc i pins s σ H E I hf st hg
    subst hP hw hK
    obtain ⟨⟨old, he⟩, hit, hne⟩ := st
    obtain ⟨xs, x, hq, hx⟩ := hg
    obtain ⟨its, rv, p, hz⟩ := I.tuple hq
    obtain ⟨u, hu, ru⟩ := rv.get hx
    have hel : e < s.heap.objs.size := Heap.lt_size he
    have hil : it < s.heap.objs.size := by obtain ⟨_, q, _⟩ := hit; exact Heap.lt_size q
    have D : Draws X.prog X.w X.A.in1 it [it, a] its.toArray.size _ _ := Draws.tuple (A := X.A.in1) (show X.A.handled = none from I.ok.hd hc) it a hai its.toArray
    refine wpAny_pyNext_enum_itemD D he ⟨hit, show s.heap.IsTuple a its.toArray from p⟩ (by simpa using (List.getElem?_eq_some_iff.mp hu).1) hne (by simp [hne, hae.symm]) fun u' h' tk hu' ho hit' hT hsz hk => ?_
    have eu : u' = u := by
      have hu' : its.toArray[i]? = some u' := hu'
      rw [List.getElem?_toArray, hu] at hu'
      exact (Option.some.inj hu').symm
    subst eu
    refine ⟨_, rfl, wpAny_letOwnedTupleGo_enum (s := { s with heap := h', toks := tk + 1 }) ho fun h'' he' sb => ?_⟩
    have hT2 : h''.get? s.heap.objs.size = some { cls := .type "tuple", data := .seq #[.int i tk, u'] } := (sb.2 _ (Nat.ne_of_gt hel)).trans hT
    have new : ObjOk X.prog X.w (upd H s.heap.objs.size (.tup [.int (i : Nat), x])) h'' s.heap.objs.size (.tup [.int (i : Nat), x]) :=
      ⟨by show 2 ≤ sizeLine; decide, [.int i tk, u'], .cons ⟨_, rfl⟩ (.cons ru .nil), ⟨_, hT2, rfl, _, rfl⟩⟩
    have I1 : Inv X pins σ (upd H s.heap.objs.size (.tup [.int (i : Nat), x])) { s with heap := h'', toks := tk + 1 } :=
      I.turnedNew (ch := [e, it]) (fun b ob hb q => (sb.2 b (fun z => hb (by simp [z]))).trans (hk b ob (fun z => hb (by simp [z])) (fun z => hb (by simp [z])) q)) hf (Nat.le_refl _) new
    refine ⟨.ref s.heap.objs.size, _, I1, rfl, ⟨_, x, rfl, I.hok.fresh (Nat.le_refl _), rfl, fun ys hy => by rw [I.tuple_inj hy hq]; exact hx⟩, ⟨⟨u', ?_⟩, hit'.1.at fun o q => (sb.2 it (Ne.symm hne)).trans q, hne⟩, fun b hb => ?_⟩
    · have e1 : ((i + 1 : Nat) : Int) = (i : Int) + 1 := by omega
      rw [e1]; exact he'
    · have hb' : b < s.heap.objs.size := by
        have e' : b = e ∨ b = it := by simpa using hb
        rcases e' with z | z
        · rw [z]; exact hel
        · rw [z]; exact hil
      rw [upd_ne (Nat.ne_of_lt hb')]
      exact (hf b hb).1
  done := by
    intro X hP hw hK hc i pins s σ H E I hf st hg
    subst hP hw hK
    obtain ⟨⟨old, he⟩, hit, hne⟩ := st
    obtain ⟨xs, hq, hx⟩ := hg
    obtain ⟨its, rv, p, hz⟩ := I.tuple hq
    obtain ⟨f0, f1, f2, f3, f4, f5⟩ := hf it (by simp)
    have hl := rv.length
    have D : Draws X.prog X.w X.A.in1 it [it, a] i (fun j v => its.toArray[j]? = some v ∧ False) (fun j h => h.IsTupleIter it a j ∧ h.IsTuple a its.toArray ∧ (j = i ∨ False)) := by
      refine ⟨fun _ _ st => let ⟨o, ho, _⟩ := st.1; ⟨o, ho⟩, fun _ _ _ st hk => ⟨st.1.at fun o e => hk it (by simp) o e, st.2.1.at fun o e => hk a (by simp) o e, st.2.2⟩, fun j s Q E hj st hQ => ?_, fun s Q E st hE => ?_⟩
      · rcases st.2.2 with z | z
        · exact absurd hj (by omega)
        · exact z.elim
      · exact wpAny_nextOf_tuple_end (show X.A.in1.handled = none from I.ok.hd hc) st.1 st.2.1 (by simp; omega) hE
    exact wpAny_pyNext_enum_endD D he ⟨hit, show s.heap.IsTuple a its.toArray from p, .inl rfl⟩ fun h' eb => ⟨rfl, I.turned (t' := s.toks) (fun b o hb q => eb b o hb q) f0 f1 f3 f4 f5⟩
  self := fun A i s Q E st h => let ⟨⟨_, he⟩, _⟩ := st; wpAny_pyIter_enum he h
def iEnumT (K : PySem.W.Frag) (ta : TA) : TI := fun σ H R => ta σ H fun vs H1 => ∃ a xs, vs = [.ref a] ∧ SqT K H1 a xs ∧ R (IteT K a) H1
theorem pi_enumT {X : Cx} {e : Expr} {ta : TA} {p pos tpos : Pos} {elts : List Expr} {kk : Nat} (hg : Gl X "enumerate") (hm : X.mg "enumerate" = none) (ha : PA X [e] ta) (hs : starEach [e] X.env = [(false, eval e X.env)] := by rfl) :
    PI X (.Tuple elts kk tpos) (.Call (.Name "enumerate" p) [e] [] pos) (iEnumT X.K ta) := by
  refine ⟨fun pins s σ H R I h => ?_⟩
  refine Call_ (ld_blt I hg hm boot_enumerate (PyProof.Rows.callWith_type1 (thn (ha.run pos pins s σ H _ I h) fun us s1 ⟨vs, H1, I1, r1, q1⟩ => ?_) hs rfl))
  obtain ⟨a, xs, ex, hq, q⟩ := q1
  subst ex
  cases r1 with
  | cons r rr =>
    cases rr
    cases r
    obtain ⟨its, rv, p', hz⟩ := I1.tuple hq
    have hal : a < s1.heap.objs.size := p'.lt
    refine enum_begins1 (begins_tuple a its.toArray) (show s1.heap.IsTuple a its.toArray from p') fun h' he hit hsz hk => wpAny_pyIter_enum he ?_
    have I2 : Inv X pins σ H1 { s1 with heap := h' } := I1.kept (t' := s1.toks) hk
    refine ⟨s1.heap.objs.size + 1, [s1.heap.objs.size + 1, s1.heap.objs.size], _, _, H1, rfl, I2, turn_enumT a (s1.heap.objs.size + 1) s1.heap.objs.size (Nat.ne_of_lt hal) (Nat.ne_of_lt (Nat.lt_succ_of_lt hal)), ⟨⟨.none, he⟩, ⟨_, hit, rfl, rfl⟩, Nat.succ_ne_self _⟩, fun b hb => ?_, q⟩
    have e' : b = s1.heap.objs.size + 1 ∨ b = s1.heap.objs.size := by simpa using hb
    have hle : s1.heap.objs.size ≤ b := by
      rcases e' with z | z
      · rw [z]; exact Nat.le_add_right _ _
      · rw [z]; exact Nat.le_refl _
    exact I1.fpOk hle (I1.hok.fresh hle)
section
variable {X : Cy} {P : Program} {w : World} {K : Fg} {mg : Str → Option Value} {base : Heap} {sc : Scope} {N L C Gs Bs : List Str} {k : Nat} {ρ : Ro} {M : Mm} {e : Expr} {pos p : Pos}
theorem it_enumT {H0 : Hp} {a : Addr} {ds : List DV} {vs : List V} (sq : SqT K H0 a vs) (r : RDs K H0 ds vs) : ItD K H0 (IteT K a) ds.length (fun i => .tup [.int (i : Int), ds.getD i .non]) (fun _ => True) where
  go := fun i H M st m _ hi => by
    obtain ⟨v, h1, h2⟩ := r.get (List.getElem?_eq_getElem hi)
    exact ⟨vs, v, st.sqt sq, h1⟩
  yld := fun i H M v H' st m _ hi ⟨T, x, e0, hT, e1, e2⟩ => by
    subst e0 e1
    obtain ⟨v', h1, h2⟩ := r.get (List.getElem?_eq_getElem hi)
    have := e2 vs (st.sqt sq)
    rw [h1] at this
    cases this
    refine ⟨.tup (SqT.of upd_same) (.cons (.int _) (.cons ?_ .nil)), Stay.new hT, m.new hT⟩
    rw [List.getD_eq_getElem?_getD, List.getElem?_eq_getElem hi]
    exact (h2.mono st).mono (Stay.new hT)
  stop := fun H M st m _ => ⟨vs, st.sqt sq, by rw [r.length]; exact Nat.le_refl _⟩
theorem wi_enumT {elts : List Expr} {kk : Nat} {tpos : Pos} {R : Nat → (Nat → DV) → (Mm → Prop) → Mm → Prop} (F : Fx X P w K mg base sc N L C Gs Bs k) (hx : ("enumerate" : Str) ∈ Gs) (hx2 : ("enumerate" : Str) ∈ Bs) (hs : isStar e = false)
    (h : WE X ρ M e fun d M1 => ∃ ds, d = .tup ds ∧ R ds.length (fun i => .tup [.int (i : Int), ds.getD i .non]) (fun _ => True) M1) : WI X ρ M (.Tuple elts kk tpos) (.Call (.Name "enumerate" p) [e] [] pos) R := by
  obtain ⟨g1, g2, g3⟩ := F.gl _ hx
  refine ⟨_, pi_enumT g1 (by rw [F.hmg]; exact F.bl _ hx2) (pa_cons pe_w pa_nil (starEach_cons hs)) (by rw [starEach_cons hs]; rfl), fun σ H rs m => ?_⟩
  refine (h σ H rs m).mono fun v H1 ⟨d, M1, h1, h2, h3, ds, e, h5⟩ => ?_
  subst e
  cases h1 with
  | tup sq r => exact ⟨_, _, rfl, sq, _, _, _, M1, it_enumT sq r, h2, h3, h5⟩
end
end G
namespace G
open PySem PySem.Spec PyProof.Rows L2
/-! ### list(range(n)) -/
def natsD (l : List Nat) : List DV := l.map fun x : Nat => .int (x : Int)
theorem natsD_len {l : List Nat} : (natsD l).length = l.length := by unfold natsD; rw [List.length_map]
theorem natsD_get {l : List Nat} {i : Nat} (h : i < l.length) : (natsD l).getD i .non = .int ((l[i] : Nat) : Int) := by
  unfold natsD
  rw [List.getD_eq_getElem?_getD, List.getElem?_map, List.getElem?_eq_getElem h]
  rfl
theorem natsD_at {l : List Nat} {i x : Nat} (h : l[i]? = some x) : atI (natsD l) (i : Int) = some (.int (x : Int)) := by
  refine atI_nat ?_
  unfold natsD
  rw [List.getElem?_map, h]
  rfl
theorem natsD_app {l r : List Nat} : natsD (l ++ r) = natsD l ++ natsD r := by unfold natsD; rw [List.map_append]
theorem natsD_cf {l : List Nat} : Cfs (natsD l) = true := by
  unfold natsD
  induction l with
  | nil => rfl
  | cons a l ih => rw [List.map_cons, Cfs, ih]; rfl
theorem rds_nats {K : Fg} {H : Hp} {l : List Nat} : RDs K H (natsD l) (l.map fun x : Nat => .int (x : Int)) := by
  unfold natsD
  induction l with
  | nil => exact .nil
  | cons a l ih => exact .cons (.int _) ih
section
variable {X : Cy} {P : Program} {w : World} {K : Fg} {mg : Str → Option Value} {base : Heap} {sc : Scope} {N L C Gs Bs : List Str} {k : Nat} {ρ : Ro} {M : Mm} {Q : DV → Mm → Prop} {e : Expr} {p p2 pos pos2 : Pos}
theorem we_listRg (F : Fx X P w K mg base sc N L C Gs Bs k) (g1 : ("list" : Str) ∈ Gs) (g2 : ("list" : Str) ∈ Bs) (g3 : ("range" : Str) ∈ Gs) (g4 : ("range" : Str) ∈ Bs) (hs : isStar e = false)
    (h : WE X ρ M e fun d M1 => ∃ n : Nat, d = .int (n : Int) ∧ n ≤ 16777216 ∧ ∀ q, Q (.ref q) ((q, .lst (natsD (List.range n))) :: M1)) : WE X ρ M (.Call (.Name "list" p) [.Call (.Name "range" p2) [e] [] pos2] [] pos) Q := fun σ H rs m => by
  refine wE.of (pe_listRg F.calm (F.gl _ g1).1 (by rw [F.hmg]; exact F.bl _ g2) (prg_1 (F.gl _ g3).1 (by rw [F.hmg]; exact F.bl _ g4) pe_w (starEach_cons hs)) (starEach_cons rfl)) ?_
  refine (h σ H rs m).mono fun v H1 ⟨d, M1, h1, h2, h3, n, e, hn, q⟩ => ?_
  subst e
  cases h1
  refine ⟨(n : Int), rfl, RgOk.of_le (by omega) (by omega) (by omega) (by omega), fun l hl => ⟨.ref l, _, .ref l, h2.cons (q := .lst (natsD (List.range n))) hl ⟨_, upd_same, ?_⟩, h3.trans (Stay.new hl), q l⟩⟩
  have e : rgV 0 (n : Int) = (List.range n).map fun x : Nat => .int (x : Int) := by
    unfold rgV
    rw [show ((n : Int) - 0).toNat = n by omega]
    refine List.map_congr_left fun x _ => ?_
    rw [Int.zero_add]
  rw [e]
  exact rds_nats
end
/-! ### closures by places -/
theorem ClD.mk {X : Cy} {P : Program} {w : World} {K : Fg} {mg : Str → Option Value} {base : Heap} {sc : Scope} {N L C Gs Bs : List Str} {k : Nat} {ρ : Ro} {q : Str} {params : Arguments} {body : Expr} {scope : Scope} {ds : List DV} (F : Fx X P w K mg base sc N L C Gs Bs k) (js : List Nat) (hl : lamC sc scope = true) (e1 : (frOf scope).map some = js.map fun j => N[j]?) (e2 : js.map (fun j => ρ[j]?) = ds.map fun d => some (some d)) :
    ClD X N ρ (.lam ⟨q, params, body, scope, frOf scope⟩ (cloFrom X.env.cells scope.names [])) (.clo ⟨q, params, body, scope, frOf scope⟩ ds) := by
  have l1 : (frOf scope).length = js.length := by have := congrArg List.length e1; simpa using this
  have l2 : js.length = ds.length := by have := congrArg List.length e2; simpa using this
  refine .lam rfl (by show ds.length = (frOf scope).length; omega) fun i y hy => ?_
  have hy : (frOf scope)[i]? = some y := hy
  have hi : i < (frOf scope).length := (List.getElem?_eq_some_iff.mp hy).1
  have a1 : (List.map some (frOf scope))[i]? = (js.map fun j => N[j]?)[i]? := by rw [e1]
  have a2 : (js.map fun j => ρ[j]?)[i]? = (ds.map fun d => some (some d))[i]? := by rw [e2]
  rw [List.getElem?_map, List.getElem?_map, hy, List.getElem?_eq_getElem (by omega : i < js.length)] at a1
  rw [List.getElem?_map, List.getElem?_map, List.getElem?_eq_getElem (by omega : i < js.length), List.getElem?_eq_getElem (by omega : i < ds.length)] at a2
  refine ⟨js[i], ds[i], (Option.some.inj a1).symm, Option.some.inj a2, List.getElem?_eq_getElem _, ?_⟩
  have := lamC_ok hl y (mem_frOf.mp (List.mem_of_getElem? hy))
  rw [← F.hsc] at this
  exact this
/-! ### a lambda by its place in the text -/
def stE : Stmt → Expr
  | .Return (some e) _ => e
  | .Assign _ e _ => e
  | _ => .Constant .none 0 ⟨0, 0, 0, 0⟩
def kwE : Expr → Nat → Expr
  | .Call _ _ kws _, i => match kws[i]? with
    | some k => k.value
    | none => .Constant .none 0 ⟨0, 0, 0, 0⟩
  | e, _ => e
def lamOf (q : Str) (sc : Scope) : Expr → Lamb
  | .Lambda params body scope _ => ⟨q, params, body, scope, frOf scope⟩
  | e => ⟨q, ⟨[], [], none, [], [], none, []⟩, e, sc, []⟩
/-- the lambda at the keyword i of the call that stands in the j-th statement of a def -/
def lamAt (q : Str) (st : Stmt) (j i : Nat) : Lamb := lamOf q (defScope st) (kwE (stE ((defBody st).getD j (.Pass ⟨0, 0, 0, 0⟩))) i)
/-! ### what a statement leaves, said once for all its branches -/
theorem ws_join {X : Cy} {ρ : Ro} {M : Mm} {st : Stmt} {nx bk ct : Ro → Mm → Prop} {rt : DV → Mm → Prop} (J : Ro → Mm → Prop) (h : WS X ρ M st J rt bk ct) (q : ∀ ρ' M', J ρ' M' → nx ρ' M') : WS X ρ M st nx rt bk ct := fun σ H rs m =>
  (h σ H rs m).mono (fun _ _ ⟨a, b, c, d, e, f⟩ => ⟨a, b, c, d, e, q _ _ f⟩) (fun _ _ z => z) (fun _ _ z => z) (fun _ _ z => z)
end G
namespace G
open PySem PySem.Spec PyProof.Rows L2
/-! ### a tuple once, and not at all -/
theorem tuple_once (l : Addr) (items : Array Value) (n : Nat) (dd : Option Addr) (sl : Array (Option Value)) (u : Tok) :
    Meets (Builtin.«tuple.__mul__» ⟨[.ref l, .int 1 u], []⟩) (fun _ R s => s.heap.get? l = some { cls := .type "tuple", dict := dd, data := .seq items n, slots := sl } ∧ R (.ok (.ret (Value.ref l))) s) :=
  .of_wp fun prog w A R s h => by
    obtain ⟨hp, g, d, tk, os⟩ := s
    obtain ⟨hl, h⟩ := h
    have f1 := AutoSeq1.idx_int
    wp_walk using wpAny_loadPart' hl
    exact ⟨_, rfl, h⟩
theorem tuple_none (l : Addr) (items : Array Value) (n : Nat) (dd : Option Addr) (sl : Array (Option Value)) (u : Tok) (c1 : items.isEmpty = false) :
    Meets (Builtin.«tuple.__mul__» ⟨[.ref l, .int 0 u], []⟩) (fun _ R s => s.heap.get? l = some { cls := .type "tuple", dict := dd, data := .seq items n, slots := sl } ∧
      R (.ok (.ret (Value.ref s.heap.objs.size))) { s with heap := s.heap.push { cls := Value.type "tuple", data := Data.seq #[] }, toks := s.toks }) :=
  .of_wp fun prog w A R s h => by
    obtain ⟨hp, g, d, tk, os⟩ := s
    obtain ⟨hl, h⟩ := h
    have f1 := AutoSeq1.idx_int
    wp_walk using wpAny_loadPart' hl
    repeat (first
      | (refine wpAny_ite_false (decide_eq_false (by rw [c1]; decide)) ?_; wp_walk using wpAny_loadPart' hl)
      | (refine wpAny_ite_true (decide_eq_true (by decide)) ?_; wp_walk using wpAny_loadPart' hl))
    exact ⟨_, rfl, h⟩
def rMulF (K : Fg) : R2 := fun x y H Q => ∃ p n vs, x = .ref p ∧ y = .int n ∧ SqT K H p vs ∧ 0 < vs.length ∧ ((n = 1 ∧ Q (.ref p) H) ∨ (n = 0 ∧ ∀ z, H z = none → Q (.ref z) (upd H z (.tup []))))
theorem op_mulF {X : Cx} : OpR X (binaryOp .Mult) (rMulF X.K) := by
  intro pins s σ H x y v u Q I rx ry h
  obtain ⟨p, n, vs, rfl, rfl, sq, l0, h⟩ := h
  cases rx
  obtain ⟨tk, rfl⟩ := ry
  obtain ⟨us, rel, ⟨⟨cl, dc, dt, slo⟩, ob, eC, m, eD⟩, hsz⟩ := I.tuple sq
  simp only at eC eD
  subst eC eD
  have le : us.length = vs.length := rel.length.symm
  have em : us.toArray.isEmpty = false := by
    cases us with
    | nil => exact absurd l0 (by rw [← le]; exact Nat.lt_irrefl 0)
    | cons a b => rfl
  refine wpAny_binaryOp_repeat_ref (T := "tuple") (U := "int") (by decide) ⟨_, ob, rfl⟩ (fun s' => typeIs_int s' n tk) noFill_tuple_mul PySem.F.fills_int_mul PySem.F.slot_int_rmul repeat_tuple PySem.F.slot_int_index.lookup ?_
  refine call_meets PySem.F.slot_int_rmul (typeIs_int s n tk) PySem.F.entry_int_rmul (PySem.F.args_int_rmul_2 _ _) (int_rmul_tuple n tk p us.toArray m dc slo) ⟨ob, rfl, ⟨_, ob, rfl⟩, ?_⟩
  rcases h with ⟨rfl, q⟩ | ⟨rfl, q⟩
  · refine call_meets PySem.F.slot_tuple_mul ⟨_, ob, rfl⟩ PySem.F.entry_tuple_mul (PySem.F.args_tuple_mul_2 _ _) (tuple_once p us.toArray m dc slo tk) ⟨ob, ?_⟩
    exact ⟨.ref p, H, I, rfl, q⟩
  · refine call_meets PySem.F.slot_tuple_mul ⟨_, ob, rfl⟩ PySem.F.entry_tuple_mul (PySem.F.args_tuple_mul_2 _ _) (tuple_none p us.toArray m dc slo tk em) ⟨ob, ?_⟩
    refine ⟨.ref s.heap.objs.size, _, I.laid (t' := s.toks) (o := .tup []) (fun b ob q => Heap.get?_push_of_some _ q) (Nat.le_refl _) ?_, rfl, q _ (I.hok.fresh (Nat.le_refl _))⟩
    exact ⟨Nat.zero_le _, [], .nil, IsTup.new _ _⟩
section
variable {X : Cy} {P : Program} {w : World} {K : Fg} {ρ : Ro} {M : Mm} {Q : DV → Mm → Prop} {a b : Expr} {pos : Pos}
def rMul5 (K : Fg) : R2 := fun x y H Q => rMul4 K x y H Q ∨ rMulF K x y H Q
theorem mon_mulF : MonR (rMulF K) := fun x y H Q Q' ⟨p, n, vs, h1, h2, h3, h4, h5⟩ q => ⟨p, n, vs, h1, h2, h3, h4, h5.elim (fun z => .inl ⟨z.1, q _ _ z.2⟩) fun z => .inr ⟨z.1, fun l hl => q _ _ (z.2 l hl)⟩⟩
theorem we_mul5 (h : WE X ρ M a fun x M1 => WE X ρ M1 b fun y M2 => R2D X.K (rMul5 X.K) x y M2 Q) : WE X ρ M (.BinOp a .Mult b pos) Q := we_op (pe_op (((op_mul.or op_mulW).or (op_mulS.or op_mulT)).or op_mulF)) (((monI.or monI).or (mon_mulS.or mon_mulT)).or mon_mulF) h
instance (priority := 2000) : Step (WE X ρ M (.BinOp a .Mult b pos) Q) true (WE X ρ M a fun x M1 => WE X ρ M1 b fun y M2 => R2D X.K (rMul5 X.K) x y M2 Q) := ⟨fun _ => we_mul5⟩
instance {i j : Int} : Step (R2D K (rMul5 K) (.int i) (.int j) M Q) true (Side (CMul i j ∨ CMulW i j) (Q (.int (i * j)) M)) := ⟨fun _ q => R2D.l (R2D.l (v_mul_i q.a q.b))⟩
instance {x : Str} {n : Int} : Step (R2D K (rMul5 K) (.str x) (.int n) M Q) true (R2D K (rMul4 K) (.str x) (.int n) M Q) := ⟨fun _ q => R2D.l q⟩
theorem v_mul_t {ds : List DV} {n : Int} (h : 0 < ds.length ∧ ds.length ≤ 100 ∧ 0 ≤ n ∧ n ≤ 5000) (q : Q (.tup (List.replicate n.toNat ds).flatten) M) : R2D K (rMul5 K) (.tup ds) (.int n) M Q := by
  obtain ⟨h1, h2, h3, h4⟩ := h
  by_cases h5 : 2 ≤ n
  · exact R2D.l (Step.h (c := true) rfl ⟨⟨h1, h2, h5, h4⟩, q⟩)
  · refine R2D.r fun vx vy H r1 r2 m => ?_
    cases r2
    cases r1 with
    | tup s r =>
      refine ⟨_, n, _, rfl, rfl, s, by rw [← r.length]; exact h1, ?_⟩
      by_cases h6 : n = 1
      · subst h6
        rw [show (List.replicate (1 : Int).toNat ds).flatten = ds by simp] at q
        exact .inl ⟨rfl, .tup ds, M, .tup s r, m, Stay.refl, q⟩
      · have h7 : n = 0 := by omega
        subst h7
        exact .inr ⟨rfl, fun z hz => ⟨.tup [], M, .tup (SqT.of upd_same) .nil, m.new hz, Stay.new hz, q⟩⟩
instance {ds : List DV} {n : Int} : Step (R2D K (rMul5 K) (.tup ds) (.int n) M Q) true (Side (0 < ds.length ∧ ds.length ≤ 100 ∧ 0 ≤ n ∧ n ≤ 5000) (Q (.tup (List.replicate n.toNat ds).flatten) M)) := ⟨fun _ q => v_mul_t q.a q.b⟩
end
/-! ### a lambda that takes nothing from outside -/
theorem we_lam0 {X : Cy} {P : Program} {w : World} {K : Fg} {mg : Str → Option Value} {base : Heap} {sc : Scope} {N L C Gs Bs : List Str} {k : Nat} {ρ : Ro} {M : Mm} {Q : DV → Mm → Prop} {params : Arguments} {body : Expr} {scope : Scope} {lp : Pos} {c Pt : Addr} {q : Str} {ti : Nat} (F : Fx X P w K mg base sc N L C Gs Bs k) (Mk : Mkr X c Pt q) (tb : AtM M ti Pt (.tab q)) (h0 : frOf scope = []) (hp : plainArgs params = true) (h : Q (.clo ⟨q, params, body, scope, []⟩ []) M) : WE X ρ M (.Lambda params body scope lp) Q := fun σ H rs m pins s I => by
  have hn : ∀ y, (y, NameKind.free) ∉ scope.names := fun y hy => by
    have := mem_frOf.mpr hy
    rw [h0] at this
    cases this
  have hl : lamC sc scope = true := by
    unfold lamC
    refine List.all_eq_true.mpr fun y hy => ?_
    have : y.2 ≠ .free := fun e => hn y.1 (by rw [← e]; exact hy)
    simp [this]
  have no : ∀ {y : Str} {c : Addr}, (cloFrom X.env.cells scope.names []).lookup y ≠ some c := fun {y c} e => by
    rcases cloFrom_mem (PySem.mem_of_lookup e) with z | ⟨z1, z2⟩
    · cases z
    · exact hn _ z1
  refine thn (we_lam (Q := fun d M' => d = .lam ⟨q, params, body, scope, []⟩ (cloFrom X.env.cells scope.names []) ∧ M' = M) F Mk tb hl hp ⟨by rw [h0], rfl⟩ σ H rs m pins s I) fun u s1 ⟨v, H1, I1, r1, d, M1, a1, a2, a3, e1, e2⟩ => ?_
  subst e1 e2
  cases a1 with
  | lam hL => exact ⟨_, H1, I1, r1, .clo ⟨q, params, body, scope, []⟩ [], _, .clo ⟨_, hL, rfl, fun x y c e => (no e).elim, fun y c e => (no e).elim, fun i y e => by cases e⟩ .nil, a2, a3, h⟩
end G
namespace G
open PySem PySem.Spec PyProof.Rows L2
/-! ### dicts whose keys are plain values of all sorts -/
def pix (xs : List PEnt) (k : NK) : Option Nat := xs.findIdx? fun x => decide (x.1 = k)
theorem pix_some {xs : List PEnt} {k : NK} (nd : (xs.map (·.1)).Nodup) {j : Nat} {x : PEnt} (h : xs[j]? = some x) (e : x.1 = k) : pix xs k = some j := by
  unfold pix
  obtain ⟨hj, hx⟩ := List.getElem?_eq_some_iff.mp h
  rw [List.findIdx?_eq_some_iff_getElem]
  refine ⟨hj, by rw [hx]; exact decide_eq_true e, fun i hi => ?_⟩
  have hil : i < xs.length := by omega
  intro z
  have z := of_decide_eq_true z
  have a1 : (xs.map (·.1))[i]'(by rw [List.length_map]; exact hil) = (xs.map (·.1))[j]'(by rw [List.length_map]; exact hj) := by
    rw [List.getElem_map, List.getElem_map, hx, z, e]
  have := (List.getElem_inj nd).mp a1
  omega
theorem pix_at {xs : List PEnt} {k : NK} {j : Nat} (h : pix xs k = some j) : ∃ x, xs[j]? = some x ∧ x.1 = k := by
  unfold pix at h
  obtain ⟨hj, h1, _⟩ := List.findIdx?_eq_some_iff_getElem.mp h
  exact ⟨xs[j], List.getElem?_eq_getElem hj, of_decide_eq_true h1⟩
theorem pix_none {xs : List PEnt} {k : NK} (h : ∀ (j : Nat) (x : PEnt), xs[j]? = some x → x.1 ≠ k) : pix xs k = none := by
  unfold pix
  rw [List.findIdx?_eq_none_iff]
  intro x hx
  obtain ⟨j, hj⟩ := List.mem_iff_getElem?.mp hx
  exact decide_eq_false (h j x hj)
theorem find_congr {α : Type} {l : List α} {p q : α → Bool} (h : ∀ x ∈ l, p x = q x) : l.findIdx? p = l.findIdx? q := by
  induction l with
  | nil => rfl
  | cons a l ih =>
    rw [List.findIdx?_cons, List.findIdx?_cons, h a List.mem_cons_self, ih fun x hx => h x (List.mem_cons_of_mem _ hx)]
section
variable {P : Program} {w : World} {A : Around} {E : Value → Shared → Prop} {s : Shared} {d : Addr} {o : Obj} {es : Array DictEntry} {ep : Nat} {xs : List PEnt} {k : NK} {key : Value} {Q : Option Nat → Shared → Prop}
/-- what is asked of a key -/
structure KeyAt (h : Heap) (k : NK) (v : Value) : Prop where
  is : NestedIs h k v
  dp : k.depth ≤ 8
theorem ent_at (he : es.toList = xs.map (penc w)) (j : Nat) : es[j]? = (xs[j]?).map (penc w) := by rw [← Array.getElem?_toList, he, List.getElem?_map]
theorem ent_size (he : es.toList = xs.map (penc w)) : es.size = xs.length := by rw [← Array.length_toList, he, List.length_map]
theorem eq_keys (hu : A.units + 8 < cLine) {k' : NK} {v' : Value} (h1 : KeyAt s.heap k' v') (h2 : KeyAt s.heap k key) {R : Bool → Shared → Prop} (q : R (decide (k' = k)) s) : wpAny (model P w) A (eqBool v' key) R E s := by
  have := h1.dp
  have := h2.dp
  refine eqAt_key k' k A s v' key h1.is h2.is (by omega) P w E R ?_
  rw [← NestedKey.decide_eq]
  exact q
theorem tell_keys (hk : KeyAt s.heap k key) {st : List Value} (hst : ∀ v ∈ st, ∃ k', KeyAt s.heap k' v) {R : Bool → Shared → Prop} (q : R false s) : wpAny (model P w) A (tableMayTell key st) R E s := by
  unfold tableMayTell
  split
  · exact wpAny_pure q
  · refine wpAny_bind (quiet_key k key 8 s hk.is hk.dp A E _ ?_)
    rw [if_neg (by decide)]
    refine wpAny_bind ?_
    refine wpAny_forIn_list _ (fun rest r s' => s' = s ∧ r = (none, ()) ∧ ∀ v ∈ rest, ∃ k', KeyAt s.heap k' v) _ ?_ ?_ _ _ ⟨rfl, rfl, hst⟩
    · rintro v rest r s' ⟨rfl, rfl, hr⟩
      obtain ⟨k', hb⟩ := hr v List.mem_cons_self
      refine wpAny_bind (quiet_key k' v 8 _ hb.is hb.dp A E _ ?_)
      rw [if_neg (by decide)]
      exact wpAny_pure ⟨rfl, rfl, fun u hm => hr u (List.mem_cons_of_mem _ hm)⟩
    · rintro r s' ⟨rfl, rfl, _⟩
      exact wpAny_pure q
theorem find_keys (hu : A.units + 8 < cLine) (hk : KeyAt s.heap k key) (ho : s.heap.get? d = some o) (hd : o.data = .dict es ep) (he : es.toList = xs.map (penc w)) (his : ∀ x ∈ xs, KeyAt s.heap x.1 x.2.1) (nd : (xs.map (·.1)).Nodup) (q : Q (pix xs k) s) :
    wpAny (model P w) A (dictFind d key (k.hash w)) Q E s := by
  have sz : es.size = xs.length := ent_size he
  have stored_ok : ∀ v ∈ (placesWithHash es.size (fun i => es[i]?.map (·.hash)) (k.hash w)).filterMap (fun i => es[i]?.map (·.key)), ∃ k', KeyAt s.heap k' v := fun v hv => by
    obtain ⟨i, _, hi⟩ := List.mem_filterMap.mp hv
    rw [ent_at he i] at hi
    cases hx : xs[i]? with
    | none => rw [hx] at hi; cases hi
    | some x =>
      rw [hx] at hi
      cases hi
      exact ⟨x.1, his x (List.mem_of_getElem? hx)⟩
  have pl_nd : (placesWithHash es.size (fun i => es[i]?.map (·.hash)) (k.hash w)).Nodup := by
    unfold placesWithHash
    exact List.Nodup.sublist List.filter_sublist List.nodup_range
  have pl_all : ∀ (j : Nat) (x : PEnt), xs[j]? = some x → x.1 = k → j ∈ placesWithHash es.size (fun i => es[i]?.map (·.hash)) (k.hash w) := fun j x hj e => by
    unfold placesWithHash
    have hl : j < xs.length := (List.getElem?_eq_some_iff.mp hj).1
    refine List.mem_filter.mpr ⟨List.mem_range.mpr (by omega), ?_⟩
    show (es[j]?.map (·.hash) == some (k.hash w)) = true
    rw [ent_at he j, hj]
    show (some (x.1.hash w) == some (k.hash w)) = true
    rw [e]
    simp
  have pl_in : ∀ j ∈ placesWithHash es.size (fun i => es[i]?.map (·.hash)) (k.hash w), ∃ x, xs[j]? = some x ∧ x.1.hash w = k.hash w := fun j hj => by
    unfold placesWithHash at hj
    obtain ⟨h1, h2⟩ := List.mem_filter.mp hj
    have hl : j < xs.length := by have := List.mem_range.mp h1; omega
    refine ⟨xs[j], List.getElem?_eq_getElem hl, ?_⟩
    have h2 : (es[j]?.map (·.hash) == some (k.hash w)) = true := h2
    rw [ent_at he j, List.getElem?_eq_getElem hl] at h2
    simpa [penc] using h2
  have plain : wpAny (model P w) A (dictWalkPlain d key (k.hash w) es (placesWithHash es.size (fun i => es[i]?.map (·.hash)) (k.hash w))) Q E s := by
    generalize placesWithHash es.size (fun i => es[i]?.map (·.hash)) (k.hash w) = pl at pl_nd pl_all pl_in
    unfold dictWalkPlain
    refine wpAny_bind ?_
    refine wpAny_forIn_list _ (fun rest b s' => s' = s ∧ b = (none, ()) ∧ (∀ (j : Nat) (x : PEnt), xs[j]? = some x → x.1 = k → j ∈ rest) ∧ ∀ j ∈ rest, ∃ x, xs[j]? = some x ∧ x.1.hash w = k.hash w) _ ?_ ?_ _ _ ⟨rfl, rfl, pl_all, pl_in⟩
    · rintro i rest b s' ⟨rfl, rfl, h1, h2⟩
      obtain ⟨x, hx, hh⟩ := h2 i List.mem_cons_self
      rw [ent_at he i, hx]
      show wpAny _ _ (if ((penc w x).hash == k.hash w) = true then _ else _) _ _ _
      rw [if_pos (show ((penc w x).hash == k.hash w) = true by show (x.1.hash w == k.hash w) = true; rw [hh]; simp)]
      refine wpAny_bind (wpAny_dictEpoch ho hd (wpAny_bind (eq_keys hu (his x (List.mem_of_getElem? hx)) hk (wpAny_bind (wpAny_dictEpoch ho hd ?_)))))
      show wpAny _ _ (if (ep != ep) = true then _ else _) _ E _
      rw [if_neg (by simp)]
      by_cases e : x.1 = k
      · rw [decide_eq_true e]
        rw [pix_some nd hx e] at q
        exact wpAny_bind (wpAny_rule (wpAny_pure (wpAny_pure q)))
      · rw [decide_eq_false e]
        refine wpAny_bind (wpAny_rule (wpAny_pure ⟨rfl, rfl, fun j y hj ey => ?_, fun j hj => h2 j (List.mem_cons_of_mem _ hj)⟩))
        rcases List.mem_cons.mp (h1 j y hj ey) with z | z
        · subst z
          rw [hx] at hj
          cases hj
          exact absurd ey e
        · exact z
    · rintro b s' ⟨rfl, rfl, h1, _⟩
      rw [pix_none fun j x hj e => by cases h1 j x hj e] at q
      exact wpAny_pure q
  unfold dictFind
  try with_reducible refine wpAny_holding ?_
  refine wpAny_bind (wpAny_dictEntries ho hd ?_)
  dsimp only
  by_cases hall : ((key :: (placesWithHash es.size (fun i => es[i]?.map (·.hash)) (k.hash w)).filterMap (fun i => es[i]?.map (·.key))).all carriedByValue) = true
  · have hk2 := hk
    cases hk.is with
    | none => rw [if_pos hall]; exact plain
    | bool e => rw [if_pos hall]; exact plain
    | int i t => rw [if_pos hall]; exact plain
    | tup h1 h2 h3 h4 => exact absurd hall (by simp [carriedByValue])
    | text y t =>
      by_cases hex : (es.all fun e => isExactStrKey e.key) = true
      · dsimp only
        rw [if_pos hex]
        have hf : es.findIdx? (fun e => e.key.isStr y) = pix xs (.text y) := by
          rw [show es = (xs.map (penc w)).toArray by rw [← he], List.findIdx?_toArray, List.findIdx?_map]
          refine find_congr fun x hx => ?_
          have hm : penc w x ∈ es := Array.mem_toList_iff.mp (by rw [he]; exact List.mem_map_of_mem hx)
          have hs := Array.all_eq_true'.mp hex _ hm
          have hs : isExactStrKey x.2.1 = true := hs
          have ki := (his x hx).is
          obtain ⟨k1, v1, u1⟩ := x
          cases ki with
          | none => cases hs
          | bool e => cases hs
          | int i t => cases hs
          | tup _ _ _ _ => cases hs
          | text z t' =>
            show (Value.str z t').isStr y = decide (NestedKey.text z = NestedKey.text y)
            by_cases ez : z = y
            · subst ez; simp [Value.isStr]
            · have : ¬ (NestedKey.text z = NestedKey.text y) := fun e => ez (NestedKey.text.inj e)
              rw [decide_eq_false this]; simp [Value.isStr, ez]
        unfold foundByValue
        rw [hf]
        cases hp : pix xs (.text y) with
        | none => rw [hp] at q; exact wpAny_pure q
        | some j =>
          rw [hp] at q
          obtain ⟨x, hx, ex⟩ := pix_at hp
          dsimp only
          rw [ent_at he j, hx]
          refine wpAny_bind (wpAny_dictEpoch ho hd (wpAny_bind (eq_keys hu (his x (List.mem_of_getElem? hx)) hk (wpAny_bind (wpAny_dictEpoch ho hd ?_)))))
          show wpAny _ _ (if (ep != ep) = true then _ else _) _ E _
          rw [if_neg (by simp), decide_eq_true ex]
          exact wpAny_bind (wpAny_rule (wpAny_pure q))
      · dsimp only
        rw [if_neg hex, if_pos hall]
        exact plain
  · have hany : ¬ (es.any fun e => e.key == key && e.hash != k.hash w) = true := fun z => by
      rw [← Array.any_toList, List.any_eq_true, he] at z
      obtain ⟨e, hm, z⟩ := z
      obtain ⟨x, hx, rfl⟩ := List.mem_map.mp hm
      rw [Bool.and_eq_true] at z
      have z1 : x.2.1 = key := by simpa [penc] using z.1
      have kx := (his x hx).is
      rw [z1] at kx
      have z2 := z.2
      rw [show (penc w x).hash = k.hash w by show x.1.hash w = _; rw [NestedIs.inj _ _ _ kx hk.is]] at z2
      simp at z2
    have hk2 := hk
    have nex : carriedByValue key = true → ¬ (es.all fun e => isExactStrKey e.key) = true := fun hc hex => hall (by
      rw [List.all_cons, hc, Bool.true_and, List.all_eq_true]
      intro v hv
      obtain ⟨i, _, hi⟩ := List.mem_filterMap.mp hv
      cases hei : es[i]? with
      | none => rw [hei] at hi; cases hi
      | some e =>
        rw [hei] at hi
        cases hi
        have := Array.all_eq_true'.mp hex e (Array.mem_of_getElem? hei)
        show carriedByValue e.key = true
        cases hek : e.key with
        | str a b => rfl
        | _ => rw [hek] at this; cases this)
    obtain ⟨k0, hk0⟩ : ∃ k0, k0 = k := ⟨k, rfl⟩
    have pl_all0 : ∀ (j : Nat) (x : PEnt), xs[j]? = some x → x.1 = k0 → j ∈ placesWithHash es.size (fun i => es[i]?.map (·.hash)) (k.hash w) := by rw [hk0]; exact pl_all
    have pl_in0 : ∀ j ∈ placesWithHash es.size (fun i => es[i]?.map (·.hash)) (k.hash w), ∃ x, xs[j]? = some x ∧ x.1.hash w = k0.hash w := by rw [hk0]; exact pl_in
    have q0 : Q (pix xs k0) s := by rw [hk0]; exact q
    have hkey0 : KeyAt s.heap k0 key := by rw [hk0]; exact hk
    have hh0 : k0.hash w = k.hash w := by rw [hk0]
    clear pl_all pl_in q hk2 hk0 plain
    cases hk.is
    case' none => dsimp only; rw [if_neg hall]
    case' bool => dsimp only; rw [if_neg hall]
    case' int => dsimp only; rw [if_neg hall]
    case' tup => dsimp only; rw [if_neg hall, if_neg hany]
    case' text => dsimp only; rw [if_neg (nex rfl), if_neg hall]
    all_goals
      refine iteInduction (motive := fun t => wpAny (model P w) A t Q E s) (fun _ => wpAny_bind (wpAny_pure ?_)) (fun _ => wpAny_bind (tell_keys hk stored_ok ?_))
    all_goals
      rw [if_neg (by simp)]
      refine wpAny_bind ?_
      refine wpAny_forIn_list _ (fun rest b s' => s' = s ∧ rest.Nodup ∧ (∀ j ∈ rest, ∃ x, xs[j]? = some x ∧ x.1.hash w = k0.hash w) ∧ ((b = (none, none) ∧ ∀ (j : Nat) (x : PEnt), xs[j]? = some x → x.1 = k0 → j ∈ rest) ∨ ∃ j, b = (none, some j) ∧ j ∉ rest ∧ pix xs k0 = some j)) _ ?_ ?_ _ _ ⟨rfl, pl_nd, pl_in0, .inl ⟨rfl, pl_all0⟩⟩
      · rintro i rest b s' ⟨rfl, hnd, h2, h1⟩
        obtain ⟨x, hx, hh⟩ := h2 i List.mem_cons_self
        obtain ⟨hnd1, hnd2⟩ := List.nodup_cons.mp hnd
        have h2' : ∀ j ∈ rest, ∃ x, xs[j]? = some x ∧ x.1.hash w = k0.hash w := fun j hj => h2 j (List.mem_cons_of_mem _ hj)
        rw [ent_at he i, hx]
        dsimp only [Option.map_some]
        rw [if_pos (show ((penc w x).hash == _) = true by rw [← hh0]; show (x.1.hash w == k0.hash w) = true; rw [hh]; simp)]
        refine wpAny_bind (wpAny_dictEpoch ho hd (wpAny_bind (eq_keys hu (his x (List.mem_of_getElem? hx)) hkey0 (wpAny_bind (wpAny_dictEpoch ho hd ?_)))))
        show wpAny _ _ (if (ep != ep) = true then _ else _) _ E _
        rw [if_neg (by simp)]
        by_cases e : x.1 = k0
        · rw [decide_eq_true e]
          have hp := pix_some nd hx e
          rcases h1 with ⟨rfl, h1⟩ | ⟨j, rfl, h3, h4⟩
          · rw [hp] at q0
            simp only [Option.isSome_none, Bool.false_eq_true, if_false, if_true]
            refine wpAny_bind (wpAny_rule ?_)
            refine iteInduction (motive := fun t => wpAny (model P w) A t _ E _) (fun _ => wpAny_pure (wpAny_pure q0)) (fun _ => wpAny_pure ⟨rfl, hnd2, h2', .inr ⟨i, rfl, hnd1, hp⟩⟩)
          · rw [hp] at h4
            cases h4
            exact absurd List.mem_cons_self h3
        · rw [decide_eq_false e]
          simp only [Bool.false_eq_true, if_false, Bool.false_and]
          refine wpAny_bind (wpAny_rule (wpAny_pure ⟨rfl, hnd2, h2', ?_⟩))
          rcases h1 with ⟨rfl, h1⟩ | ⟨j, rfl, h3, h4⟩
          · refine .inl ⟨rfl, fun j y hj ey => ?_⟩
            rcases List.mem_cons.mp (h1 j y hj ey) with z | z
            · subst z
              rw [hx] at hj
              cases hj
              exact absurd ey e
            · exact z
          · exact .inr ⟨j, rfl, fun z => h3 (List.mem_cons_of_mem _ z), h4⟩
      · rintro b s' ⟨rfl, _, _, h1⟩
        rcases h1 with ⟨rfl, h1⟩ | ⟨j, rfl, _, h4⟩
        · rw [pix_none fun j x hj e => by cases h1 j x hj e] at q0
          exact wpAny_pure q0
        · rw [h4] at q0
          exact wpAny_pure q0
end
end G
namespace G
open PySem PySem.Spec PyProof.Rows L2
/-! ### dicts of plain keys: get, set, del, in -/
section
variable {P : Program} {w : World} {A : Around} {E : Value → Shared → Prop} {s : Shared} {d : Addr} {xs : List PEnt} {k : NK} {key v : Value}
theorem PDict.ty {s : Shared} (h : PDict w s.heap d xs) : s.TypeIs (.ref d) "dict" := let ⟨_, _, _, o, _, _, h1, h2, _⟩ := h; ⟨o, h1, h2.1⟩
theorem PDict.at_ {h h' : Heap} (x : PDict w h d xs) (e : ∀ o, h.get? d = some o → h'.get? d = some o) : PDict w h' d xs := let ⟨a, b, c, o, es, ep, h1, h2⟩ := x; ⟨a, b, c, o, es, ep, e o h1, h2⟩
def pval (xs : List PEnt) (k : NK) : Option Value := (pix xs k).bind fun j => (xs[j]?).map (·.2.2)
def pput (xs : List PEnt) (k : NK) (key v : Value) : List PEnt := match pix xs k with
  | some j => xs.modify j fun x => (x.1, x.2.1, v)
  | none => xs ++ [(k, key, v)]
def pdel (xs : List PEnt) (k : NK) : List PEnt := match pix xs k with
  | some j => xs.eraseIdx j
  | none => xs
abbrev AllK (h : Heap) (xs : List PEnt) : Prop := ∀ x ∈ xs, KeyAt h x.1 x.2.1
theorem get_keys {Q : Option Value → Shared → Prop} (hu : A.units + 8 < cLine) (hk : KeyAt s.heap k key) (hm : PDict w s.heap d xs) (his : AllK s.heap xs) (q : Q (pval xs k) { s with toks := s.toks + k.draws }) : wpAny (model P w) A (dictGet d key) Q E s := by
  obtain ⟨_, _, nd, o, es, ep, ho, hx, hd, he⟩ := hm
  unfold dictGet; try with_reducible refine wpAny_holding ?_
  refine wpAny_bind (pyHash_key k key A s _ hk.is (by have := hk.dp; omega) (wpAny_bind (find_keys (s := { s with toks := s.toks + k.draws }) hu hk ho hd he his nd ?_)))
  unfold pval at q
  cases hp : pix xs k with
  | none => rw [hp] at q; exact wpAny_pure q
  | some j =>
    rw [hp] at q
    refine wpAny_bind (wpAny_dictEntries (s := { s with toks := s.toks + k.draws }) ho hd ?_)
    rw [ent_at he j]
    obtain ⟨x, hx, _⟩ := pix_at hp
    have q : Q ((xs[j]?).map (·.2.2)) { s with toks := s.toks + k.draws } := q
    rw [hx] at q ⊢
    exact wpAny_pure q
theorem nodup_mod {j : Nat} {v : Value} (nd : (xs.map (·.1)).Nodup) : ((xs.modify j fun x => (x.1, x.2.1, v)).map (·.1)).Nodup := by
  rw [show (xs.modify j fun x => (x.1, x.2.1, v)).map (·.1) = xs.map (·.1) from ?_]
  · exact nd
  · apply List.ext_getElem?
    intro i
    rw [List.getElem?_map, List.getElem?_map, List.getElem?_modify]
    cases xs[i]? with
    | none => rfl
    | some x => by_cases e : j = i <;> simp [e]
theorem pput_nodup (nd : (xs.map (·.1)).Nodup) : ((pput xs k key v).map (·.1)).Nodup := by
  unfold pput
  cases hp : pix xs k with
  | some j => exact nodup_mod nd
  | none =>
    rw [List.map_append, List.nodup_append]
    refine ⟨nd, by simp, fun x hx y hy e => ?_⟩
    obtain ⟨z, hz, rfl⟩ := List.mem_map.mp hx
    have hy : y = k := by simpa using hy
    obtain ⟨j, hj⟩ := List.mem_iff_getElem?.mp hz
    rw [pix_some nd hj (e.trans hy)] at hp
    cases hp
theorem set_keys {Q : Unit → Shared → Prop} (hu : A.units + 8 < cLine) (hk : KeyAt s.heap k key) (hm : PDict w s.heap d xs) (his : AllK s.heap xs) (hl : xs.length < sizeLine)
    (q : ∀ h', PDict w h' d (pput xs k key v) → Heap.SameBut d s.heap h' → Q () { s with heap := h', toks := s.toks + k.draws }) : wpAny (model P w) A (dictSet d key v) Q E s := by
  obtain ⟨hs, _, nd, o, es, ep, ho, hx, hd, he⟩ := hm
  have nd' := pput_nodup (k := k) (key := key) (v := v) nd
  unfold dictSet; try with_reducible refine wpAny_holding ?_
  refine wpAny_bind (pyHash_key k key A s _ hk.is (by have := hk.dp; omega) ?_)
  unfold dictSetHashed; try with_reducible refine wpAny_holding ?_
  refine wpAny_bind (find_keys (s := { s with toks := s.toks + k.draws }) hu hk ho hd he his nd ?_)
  unfold pput at q nd'
  cases hp : pix xs k with
  | some j =>
    rw [hp] at q nd'
    refine wpAny_bind (wpAny_rule (wpAny_bind (wpAny_updateDict (s := { s with toks := s.toks + k.draws }) ho hd (wpAny_point (q _ ⟨hs, by rw [List.length_modify]; omega, nd', _, _, ep, Heap.get?_update_self _ ho (Obj.isFreed_of_dict (Obj.data_mapDict hd _)), hx.mapDict _, Obj.data_mapDict hd _, ?_⟩ (Heap.SameBut.update ..))))))
    apply List.ext_getElem?
    intro i
    rw [Array.getElem?_toList, Array.getElem?_modify, ent_at he i, List.getElem?_map, List.getElem?_modify]
    cases xs[i]? with
    | none => split <;> rfl
    | some x => split <;> rfl
  | none =>
    rw [hp] at q nd'
    refine wpAny_bind (wpAny_rule (wpAny_updateDictKeys (hz := by have e := ent_size he; omega) (s := { s with toks := s.toks + k.draws }) ho hd (q _ ⟨hs, by rw [List.length_append]; show xs.length + 1 ≤ _; omega, nd', _, _, ep + 1, Heap.get?_update_self _ ho (Obj.isFreed_of_dict (Obj.data_mapDictKeys hd _)), hx.mapDictKeys _, Obj.data_mapDictKeys hd _, ?_⟩ (Heap.SameBut.update ..))))
    simp [he, penc]
theorem del_keys {Q : Option DictEntry → Shared → Prop} (hu : A.units + 8 < cLine) (hk : KeyAt s.heap k key) (hm : PDict w s.heap d xs) (his : AllK s.heap xs) (hi : (pix xs k).isSome = true)
    (q : ∀ e h', PDict w h' d (pdel xs k) → Heap.SameBut d s.heap h' → Q (some e) { s with heap := h', toks := s.toks + k.draws }) : wpAny (model P w) A (Builtin.Dict.takeOut d key) Q E s := by
  obtain ⟨hs, hl, nd, o, es, ep, ho, hx, hd, he⟩ := hm
  unfold Builtin.Dict.takeOut; try with_reducible refine wpAny_holding ?_
  refine wpAny_bind (pyHash_key k key A s _ hk.is (by have := hk.dp; omega) (wpAny_bind (find_keys (s := { s with toks := s.toks + k.draws }) hu hk ho hd he his nd ?_)))
  unfold pdel at q
  cases hp : pix xs k with
  | none => rw [hp] at hi; cases hi
  | some j =>
    rw [hp] at q
    obtain ⟨x, hx1, _⟩ := pix_at hp
    refine wpAny_bind (wpAny_dictEntries (s := { s with toks := s.toks + k.draws }) ho hd ?_)
    rw [ent_at he j, hx1]
    have hj : j < xs.length := (List.getElem?_eq_some_iff.mp hx1).1
    refine wpAny_bind (wpAny_updateDictKeys (hz := by have e := ent_size he; omega) (s := { s with toks := s.toks + k.draws }) ho hd (wpAny_pure (q _ _ ⟨hs, by rw [List.length_eraseIdx]; split <;> omega, ?_, _, _, ep + 1, Heap.get?_update_self _ ho (Obj.isFreed_of_dict (Obj.data_mapDictKeys hd _)), hx.mapDictKeys _, Obj.data_mapDictKeys hd _, ?_⟩ (Heap.SameBut.update ..))))
    · exact ((List.eraseIdx_sublist xs j).map _).nodup nd
    · rw [map_eraseIdx, ← he]
      obtain ⟨l⟩ := es
      simp
theorem has_keys {Q : Bool → Shared → Prop} (hu : A.units + 9 < cLine) (hk : KeyAt s.heap k key) (hm : PDict w s.heap d xs) (his : AllK s.heap xs) (q : Q (pix xs k).isSome { s with toks := s.toks + k.draws }) : wpAny (model P w) A (contains (.ref d) key) Q E s := by
  have e : (pval xs k).isSome = (pix xs k).isSome := by
    unfold pval
    cases hp : pix xs k with
    | none => rfl
    | some j => obtain ⟨x, hx, _⟩ := pix_at hp; show ((xs[j]?).map (·.2.2)).isSome = true; rw [hx]; rfl
  unfold contains; try with_reducible refine wpAny_holding ?_
  refine wpAny_bind (wpAny_specialOf hm.ty slot_dict_contains.lookup ?_)
  show wpAny _ _ (if (some (Value.builtin "dict.__contains__") == some Value.none) = true then _ else _) _ E s
  rw [if_neg (by rw [beq_builtin_none]; exact Bool.false_ne_true)]
  refine wpAny_bind (wpAny_callSpecialUnlessNone?_slot (name := Str.ofString "__contains__") hm.ty slot_dict_contains (wpAny_call_entry slot_dict_contains hm.ty entry_dict_contains ?_ (args_dict_contains _ _)))
  show wpAny _ _ (dictGet d key >>= _) _ _ s
  refine wpAny_bind (get_keys (by rw [Around.in1_units]; omega) hk hm his ?_)
  cases hf : pval xs k with
  | some p =>
    rw [← e, hf] at q
    show wpAny _ _ (ret (.bool true)) _ _ _
    exact wpAny_pure ⟨_, rfl, wpAny_truthy_bool q⟩
  | none =>
    rw [← e, hf] at q
    show wpAny _ _ (Builtin.Dict.pendingKey? d key >>= _) _ _ _
    exact wpAny_bind (wpAny_pendingKey_other hm.1 (wpAny_pure ⟨_, rfl, wpAny_truthy_bool q⟩))
theorem in_keys {Q : Value → Shared → Prop} (hu : A.units + 9 < cLine) (hk : KeyAt s.heap k key) (hm : PDict w s.heap d xs) (his : AllK s.heap xs) (q : Q (.bool (pix xs k).isSome) { s with toks := s.toks + k.draws }) : wpAny (model P w) A (compareOp .In key (.ref d)) Q E s := by
  show wpAny _ _ (do return .bool (← contains (.ref d) key)) Q E s
  exact wpAny_bind (has_keys hu hk hm his (wpAny_pure q))
theorem notin_keys {Q : Value → Shared → Prop} (hu : A.units + 9 < cLine) (hk : KeyAt s.heap k key) (hm : PDict w s.heap d xs) (his : AllK s.heap xs) (q : Q (.bool (!(pix xs k).isSome)) { s with toks := s.toks + k.draws }) : wpAny (model P w) A (compareOp .NotIn key (.ref d)) Q E s := by
  show wpAny _ _ (do return .bool (!(← contains (.ref d) key))) Q E s
  exact wpAny_bind (has_keys hu hk hm his (wpAny_pure q))
theorem item_keys {Q : Value → Shared → Prop} (hu : A.units + 9 < cLine) (hk : KeyAt s.heap k key) (hm : PDict w s.heap d xs) (his : AllK s.heap xs) (hv : pval xs k = some v) (q : Q v { s with toks := s.toks + k.draws }) : wpAny (model P w) A (getItem (.ref d) key) Q E s := by
  unfold getItem; try with_reducible refine wpAny_holding ?_
  refine wpAny_bind (wpAny_sequenceKey hm.ty (by decide) (wpAny_bind (wpAny_callSpecial?_slot (name := Str.ofString "__getitem__") hm.ty slot_dict_getitem (wpAny_call_entry slot_dict_getitem hm.ty entry_dict_getitem ?_ (args_dict_getitem _ _)))))
  show wpAny _ _ (dictGet d key >>= _) _ _ s
  refine wpAny_bind (get_keys (by rw [Around.in1_units]; omega) hk hm his ?_)
  rw [hv]
  exact wpAny_pure ⟨v, rfl, wpAny_pure q⟩
theorem store_keys {Q : Unit → Shared → Prop} (hu : A.units + 9 < cLine) (hk : KeyAt s.heap k key) (hm : PDict w s.heap d xs) (his : AllK s.heap xs) (hl : xs.length < sizeLine)
    (q : ∀ h', PDict w h' d (pput xs k key v) → Heap.SameBut d s.heap h' → Q () { s with heap := h', toks := s.toks + k.draws }) : wpAny (model P w) A (setItem (.ref d) key v) Q E s := by
  unfold setItem; try with_reducible refine wpAny_holding ?_
  refine wpAny_bind (wpAny_sequenceKey hm.ty (by decide) (wpAny_bind (wpAny_callSpecial?_slot (name := Str.ofString "__setitem__") hm.ty slot_dict_setitem (wpAny_call_entry slot_dict_setitem hm.ty entry_dict_setitem ?_ (args_dict_setitem _ _ _)))))
  show wpAny _ _ (Builtin.Dict.notOrdered "__setitem__" ⟨[.ref d, key, v], []⟩ >>= _) _ _ s
  refine wpAny_bind (wpAny_notOrdered_dict hm.ty ?_)
  show wpAny _ _ (dictSet d key v >>= _) _ _ s
  exact wpAny_bind (set_keys (by rw [Around.in1_units]; omega) hk hm his hl fun h' hm' hs' => wpAny_pure ⟨.none, rfl, wpAny_pure (q h' hm' hs')⟩)
end
end G
namespace G
open PySem PySem.Spec PyProof.Rows L2
/-! ### dicts of plain keys in the calculus -/
def kix (kvs : List (DV × DV)) (k : NK) : Option Nat := kvs.findIdx? fun kv => decide (nkD kv.1 = some k)
def kget (kvs : List (DV × DV)) (k : NK) : Option DV := (kix kvs k).bind fun j => (kvs[j]?).map (·.2)
def kput (kvs : List (DV × DV)) (k : NK) (kd vd : DV) : List (DV × DV) := match kix kvs k with
  | some j => kvs.modify j fun kv => (kv.1, vd)
  | none => kvs ++ [(kd, vd)]
def kdel (kvs : List (DV × DV)) (k : NK) : List (DV × DV) := match kix kvs k with
  | some j => kvs.eraseIdx j
  | none => kvs
section
variable {K : Fg} {H : Hp} {kvs : List (DV × DV)} {xs : List PEnt} {k : NK}
theorem RKs.ix (h : RKs K H kvs xs) : pix xs k = kix kvs k := by
  unfold pix kix
  induction h with
  | nil => rfl
  | cons a b c d e f _ ih =>
    rw [List.findIdx?_cons, List.findIdx?_cons, ih, a]
    simp
theorem RKs.len (h : RKs K H kvs xs) : kvs.length = xs.length := by
  induction h with
  | nil => rfl
  | cons a b c d e f _ ih => rw [List.length_cons, List.length_cons, ih]
theorem RKs.at_ (h : RKs K H kvs xs) : ∀ {j : Nat} {kd vd : DV}, kvs[j]? = some (kd, vd) → ∃ k ku vu kv vv, xs[j]? = some (k, ku, vu) ∧ nkD kd = some k ∧ k.depth ≤ 8 ∧ RD K H kd kv ∧ RelV kv ku ∧ RD K H vd vv ∧ RelV vv vu := by
  induction h with
  | nil => intro j kd vd e; simp at e
  | cons a b c d e f _ ih =>
    intro j kd vd z
    cases j with
    | zero => simp at z; obtain ⟨rfl, rfl⟩ := z; exact ⟨_, _, _, _, _, rfl, a, b, c, d, e, f⟩
    | succ j =>
      obtain ⟨k, ku, vu, kv, vv, z1, z2⟩ := ih (j := j) (by simpa using z)
      exact ⟨k, ku, vu, kv, vv, by simpa using z1, z2⟩
theorem kget_at {vd : DV} (h : kget kvs k = some vd) : ∃ j kd, kix kvs k = some j ∧ kvs[j]? = some (kd, vd) := by
  unfold kget at h
  cases hj : kix kvs k with
  | none => rw [hj] at h; cases h
  | some j =>
    rw [hj] at h
    have h : (kvs[j]?).map (·.2) = some vd := h
    cases hx : kvs[j]? with
    | none => rw [hx] at h; cases h
    | some kv => rw [hx] at h; cases h; exact ⟨j, kv.1, rfl, hx⟩
theorem RKs.val {vd : DV} (h : RKs K H kvs xs) (hv : kget kvs k = some vd) : ∃ vv u, pval xs k = some u ∧ RD K H vd vv ∧ RelV vv u := by
  obtain ⟨j, kd, h1, h2⟩ := kget_at hv
  obtain ⟨k', ku, vu, kv, vv, z1, z2, z3, z4, z5, z6, z7⟩ := h.at_ h2
  refine ⟨vv, vu, ?_, z6, z7⟩
  unfold pval
  rw [h.ix, h1]
  show (xs[j]?).map (·.2.2) = some vu
  rw [z1]
  rfl
theorem RKs.mod {vd : DV} {vv : V} {vu : Value} (r : RD K H vd vv) (ru : RelV vv vu) (h : RKs K H kvs xs) : ∀ j : Nat, RKs K H (kvs.modify j fun kv => (kv.1, vd)) (xs.modify j fun x => (x.1, x.2.1, vu)) := by
  induction h with
  | nil => intro j; rw [List.modify_nil, List.modify_nil]; exact .nil
  | cons a b c d e f t ih =>
    intro j
    cases j with
    | zero => exact .cons a b c d r ru t
    | succ j => exact .cons a b c d e f (ih j)
theorem RKs.app {kd vd : DV} {ku vu : Value} {kv vv : V} (h1 : nkD kd = some k) (h2 : k.depth ≤ 8) (h3 : RD K H kd kv) (h4 : RelV kv ku) (h5 : RD K H vd vv) (h6 : RelV vv vu) (h : RKs K H kvs xs) : RKs K H (kvs ++ [(kd, vd)]) (xs ++ [(k, ku, vu)]) := by
  induction h with
  | nil => exact .cons h1 h2 h3 h4 h5 h6 .nil
  | cons a b c d e f _ ih => exact .cons a b c d e f ih
theorem RKs.put {kd vd : DV} {ku vu : Value} {kv vv : V} (h : RKs K H kvs xs) (h1 : nkD kd = some k) (h2 : k.depth ≤ 8) (h3 : RD K H kd kv) (h4 : RelV kv ku) (h5 : RD K H vd vv) (h6 : RelV vv vu) : RKs K H (kput kvs k kd vd) (pput xs k ku vu) := by
  unfold kput pput
  rw [h.ix]
  cases kix kvs k with
  | none => exact h.app h1 h2 h3 h4 h5 h6
  | some j => exact RKs.mod h5 h6 h j
theorem RKs.era (h : RKs K H kvs xs) : ∀ j : Nat, RKs K H (kvs.eraseIdx j) (xs.eraseIdx j) := by
  induction h with
  | nil => intro j; exact .nil
  | cons a b c d e f t ih =>
    intro j
    cases j with
    | zero => exact t
    | succ j => exact .cons a b c d e f (ih j)
theorem RKs.del (h : RKs K H kvs xs) : RKs K H (kdel kvs k) (pdel xs k) := by
  unfold kdel pdel
  rw [h.ix]
  cases kix kvs k with
  | none => exact h
  | some j => exact h.era j
end
section
variable {X : Cx} {pins : List (Addr × Obj)} {σ : L2.St} {H : Hp} {s : Shared}
mutual
theorem nk_is (I : Inv X pins σ H s) : ∀ {d : DV} {v : V} {u : Value} {k : NK}, RD X.K H d v → RelV v u → nkD d = some k → NestedIs s.heap k u
  | _, _, _, _, .non, r, h => by rw [nkD] at h; cases h; cases r; exact .none
  | _, _, _, _, .bl b, r, h => by rw [nkD] at h; cases h; cases r; exact .bool rfl
  | _, _, _, _, .int i, r, h => by rw [nkD] at h; cases h; obtain ⟨t, rfl⟩ := r; exact .int i t
  | _, _, _, _, .str x, r, h => by rw [nkD] at h; cases h; obtain ⟨t, rfl⟩ := r; exact .text x t
  | _, _, _, _, .ty _, _, h => by rw [nkD] at h; cases h
  | _, _, _, _, .ref _, _, h => by rw [nkD] at h; cases h
  | _, _, _, _, .lis _ _, _, h => by rw [nkD] at h; cases h
  | _, _, _, _, .tupA _ _, _, h => by rw [nkD] at h; cases h
  | _, _, _, _, .lam _, _, h => by rw [nkD] at h; cases h
  | _, _, _, _, .clo _ _, _, h => by rw [nkD] at h; cases h
  | _, _, _, _, .tup (ds := ds) sq rr, r, h => by
    rw [nkD] at h
    cases hk : nkDs ds with
    | none => rw [hk] at h; cases h
    | some ks =>
      rw [hk] at h
      cases h
      cases r
      obtain ⟨its, rel, ⟨o, h1, h2, n, h3⟩, hz⟩ := I.tuple sq
      exact .tup h1 h2 h3 (by simpa using nk_all I rr rel hk)
theorem nk_all (I : Inv X pins σ H s) : ∀ {ds : List DV} {vs : List V} {us : List Value} {ks : List NK}, RDs X.K H ds vs → Vals vs us → nkDs ds = some ks → NestedAll s.heap ks us
  | _, _, _, _, .nil, r, h => by rw [nkDs] at h; cases h; cases r; exact .nil
  | _, _, _, _, .cons (d := d) (ds := ds) a b, r, h => by
    rw [nkDs] at h
    cases r with
    | cons r1 r2 =>
      cases h1 : nkD d with
      | none => rw [h1] at h; cases h
      | some k =>
        cases h2 : nkDs ds with
        | none => rw [h1, h2] at h; cases h
        | some ks =>
          rw [h1, h2] at h
          cases h
          exact .cons (nk_is I a r1 h1) (nk_all I b r2 h2)
end
theorem RKs.all (I : Inv X pins σ H s) {kvs : List (DV × DV)} {xs : List PEnt} (h : RKs X.K H kvs xs) : AllK s.heap xs := by
  induction h with
  | nil => intro x hx; cases hx
  | cons a b c d e f _ ih =>
    intro x hx
    rcases List.mem_cons.mp hx with z | z
    · subst z; exact ⟨nk_is I c d a, b⟩
    · exact ih x z
variable {w : World} {p : Addr} {o : Obj} {xs : List PEnt}
theorem dn_of (I : Inv X pins σ H s) (e : H p = some (DnO w p o xs)) : s.heap.get? p = some o ∧ PDict w s.heap p xs := (I.hok p _ e).1
theorem dn_ok {P' : Program} {w' : World} {H' : Hp} {h : Heap} (e : h.get? p = some o) (d : PDict w h p xs) : ObjOk P' w' H' h p (DnO w p o xs) := ⟨⟨e, d⟩, ⟨o, e⟩, fun h1 h2 q k => ⟨k o q.1, q.2.at_ k⟩⟩
theorem wr_dn (I : Inv X pins σ H s) (e : H p = some (DnO w p o xs)) : Wr H p := ⟨by rw [e]; trivial, fun q z => by
  obtain ⟨⟨oc, vs, t, h1, h2, h3⟩, _⟩ := I.hok p _ z
  obtain ⟨e1, _, _, _, o2, es, ep, g1, g2, g3, g4⟩ := dn_of I e
  rw [h1] at g1
  cases g1
  rw [h2] at g3
  cases g3⟩
/-! k in d, k not in d -/
def rInN (w : World) (K : Fg) (neg : Bool) : R2 := fun x y H Q => ∃ p o kvs xs d k, y = .ref p ∧ RD K H d x ∧ nkD d = some k ∧ k.depth ≤ 8 ∧ H p = some (DnO w p o xs) ∧ RKs K H kvs xs ∧ Q (.bl (if neg then !(kix kvs k).isSome else (kix kvs k).isSome)) H
theorem mon_inN {w : World} {K : Fg} {neg : Bool} : MonR (rInN w K neg) := fun x y H Q Q' ⟨p, o, kvs, xs, d, k, h1, h2, h3, h4, h5, h6, h7⟩ q => ⟨p, o, kvs, xs, d, k, h1, h2, h3, h4, h5, h6, q _ _ h7⟩
theorem op_inN {X : Cx} (hu : X.A.units + 9 < cLine) : OpR X (compareOp .In) (rInN X.w X.K false) := fun pins s σ H x y v u Q I rx ry ⟨p, o, kvs, xs, d, k, h1, h2, h3, h4, h5, h6, q⟩ => by
  subst h1
  obtain rfl : u = Value.ref p := ry
  refine in_keys hu ⟨nk_is I h2 rx h3, h4⟩ (dn_of I h5).2 (h6.all I) ?_
  rw [h6.ix]
  exact ⟨.bl _, H, I.tok _, rfl, q⟩
theorem op_notinN {X : Cx} (hu : X.A.units + 9 < cLine) : OpR X (compareOp .NotIn) (rInN X.w X.K true) := fun pins s σ H x y v u Q I rx ry ⟨p, o, kvs, xs, d, k, h1, h2, h3, h4, h5, h6, q⟩ => by
  subst h1
  obtain rfl : u = Value.ref p := ry
  refine notin_keys hu ⟨nk_is I h2 rx h3, h4⟩ (dn_of I h5).2 (h6.all I) ?_
  rw [h6.ix]
  exact ⟨.bl _, H, I.tok _, rfl, q⟩
/-! d[k] -/
def rGetN (w : World) (K : Fg) : R2 := fun x y H Q => ∃ p o kvs xs d k vd, x = .ref p ∧ RD K H d y ∧ nkD d = some k ∧ k.depth ≤ 8 ∧ H p = some (DnO w p o xs) ∧ RKs K H kvs xs ∧ kget kvs k = some vd ∧ ∀ vv, RD K H vd vv → Q vv H
theorem mon_getN {w : World} {K : Fg} : MonR (rGetN w K) := fun x y H Q Q' ⟨p, o, kvs, xs, d, k, vd, h1, h2, h3, h4, h5, h6, h7, h8⟩ q => ⟨p, o, kvs, xs, d, k, vd, h1, h2, h3, h4, h5, h6, h7, fun vv r => q _ _ (h8 vv r)⟩
theorem ix_dn {X : Cx} (hu : X.A.units + 9 < cLine) : IxR X (rGetN X.w X.K) := by
  intro value slice pins s σ H x y v u Q I rx ry ⟨p, o, kvs, xs, d, k, vd, h1, h2, h3, h4, h5, h6, h7, q⟩ hs
  subst h1
  obtain rfl : v = Value.ref p := rx
  obtain ⟨vv, vu, z1, z2, z3⟩ := h6.val h7
  exact tail_any (dn_of I h5).2.ty slot_dict_getitem.lookup (item_keys hu ⟨nk_is I h2 ry h3, h4⟩ (dn_of I h5).2 (h6.all I) z1 ⟨vv, H, I.tok _, z3, q vv z2⟩) hs
/-! d[k] = v -/
def rSetN (w : World) (K : Fg) : V → V → V → Hp → (Hp → Prop) → Prop := fun ov iv v H Q => ∃ p o kvs xs d k, ov = .ref p ∧ RD K H d iv ∧ nkD d = some k ∧ k.depth ≤ 8 ∧ H p = some (DnO w p o xs) ∧ RKs K H kvs xs ∧ kvs.length < sizeLine ∧ (Wr H p → ∀ o' ku vu, RelV iv ku → RelV v vu → Q (upd H p (DnO w p o' (pput xs k ku vu))))
theorem set_dn {X : Cx} (hu : X.A.units + 9 < cLine) : PSet X (rSetN X.w X.K) := by
  intro pins s σ H ov iv v ou iu u Q I ro ri rv ⟨p, o, kvs, xs, d, k, h1, h2, h3, h4, h5, h6, h7, q⟩
  subst h1
  obtain rfl : ou = Value.ref p := ro
  refine store_keys hu ⟨nk_is I h2 ri h3, h4⟩ (dn_of I h5).2 (h6.all I) (by rw [← h6.len]; exact h7) fun h' hd hs => ?_
  obtain ⟨_, _, _, o', es, ep, g1, g2⟩ := id hd
  exact ⟨_, d_write I (wr_dn I h5).1 hs ⟨o', g1⟩ (dn_ok g1 hd), q (wr_dn I h5) o' iu u ri rv⟩
end
end G
namespace G
open PySem PySem.Spec PyProof.Rows L2
/-! ### the steps of dicts of plain keys -/
/-- what a value is as a key -/
class NKC (d : DV) (k : outParam NK) (n : outParam Nat) : Prop where
  h : nkD d = some k
  dp : k.depth ≤ n
instance {i : Int} : NKC (.int i) (.num i) 0 := ⟨by rw [nkD], Nat.le_refl _⟩
instance {b : Bool} : NKC (.bl b) (.num (if b = true then 1 else 0)) 0 := ⟨by rw [nkD], Nat.le_refl _⟩
instance {x : Str} : NKC (.str x) (.text x) 0 := ⟨by rw [nkD], Nat.le_refl _⟩
instance : NKC .non .none 0 := ⟨by rw [nkD], Nat.le_refl _⟩
instance {a b : DV} {ka kb : NK} {na nb : Nat} [A : NKC a ka na] [B : NKC b kb nb] : NKC (.tup [a, b]) (.tup [ka, kb]) (na + nb + 1) := ⟨by
  rw [nkD, nkDs, A.h, nkDs, B.h, nkDs]
  rfl, by
  have := A.dp
  have := B.dp
  rw [NestedKey.depth, NestedKey.depthAll, NestedKey.depthAll, NestedKey.depthAll]
  omega⟩
theorem MonR.or5 {r r' : R2} (a : MonR r) (b : MonR r') : MonR fun x y H Q => r x y H Q ∨ r' x y H Q := a.or b
def rIn5 (w : World) (K : Fg) (neg : Bool) : R2 := fun x y H Q => rIn3 K neg x y H Q ∨ rInN w K neg x y H Q
def rIx5 (w : World) (K : Fg) : R2 := fun x y H Q => rIx K x y H Q ∨ rGetN w K x y H Q
section
variable {X : Cy} {P : Program} {w : World} {K : Fg} {mg : Str → Option Value} {base : Heap} {sc : Scope} {N L C Gs Bs : List Str} {k j n i : Nat} {ρ ρ' : Ro} {M : Mm} {Q : DV → Mm → Prop} {R : Bool → Mm → Prop} {a b c e o : Expr} {x f : Str} {pos p p1 p2 p3 : Pos} {nx bk ct : Ro → Mm → Prop} {rt : DV → Mm → Prop} {S : Ro → Mm → Prop} {neg : Bool} {d dx dy : DV} {q : Addr} {ob : Obj} {kvs : List (DV × DV)} {kk : NK}
theorem op_in5 (F : Fx X P w K mg base sc N L C Gs Bs k) : OpR X.toCx (compareOp .In) (rIn5 w X.K false) := fun pins s σ H x y v u Q I rx ry h => by
  have hu := F.room.un
  rcases h with h | h
  · exact op_in3 (by omega) pins s σ H x y v u Q I rx ry h
  · exact op_inN (by omega) pins s σ H x y v u Q I rx ry (by rw [F.hw]; exact h)
theorem op_notin5 (F : Fx X P w K mg base sc N L C Gs Bs k) : OpR X.toCx (compareOp .NotIn) (rIn5 w X.K true) := fun pins s σ H x y v u Q I rx ry h => by
  have hu := F.room.un
  rcases h with h | h
  · exact op_notin3 (by omega) pins s σ H x y v u Q I rx ry h
  · exact op_notinN (by omega) pins s σ H x y v u Q I rx ry (by rw [F.hw]; exact h)
instance (priority := 3000) [F : Fx X P w K mg base sc N L C Gs Bs k] : Step (WE X ρ M (.Compare a [.In] [b] pos) Q) (!behindInMarks .In b) (WE X ρ M a fun x M1 => WE X ρ M1 b fun y M2 => R2D X.K (rIn5 w X.K false) x y M2 Q) := ⟨fun h q => we_op (fun ha hb => pe_cmpR (op_in5 F) ha hb (by simpa using h)) (mon_in.or mon_inN) q⟩
instance (priority := 3000) [F : Fx X P w K mg base sc N L C Gs Bs k] : Step (WE X ρ M (.Compare a [.NotIn] [b] pos) Q) (!behindInMarks .NotIn b) (WE X ρ M a fun x M1 => WE X ρ M1 b fun y M2 => R2D X.K (rIn5 w X.K true) x y M2 Q) := ⟨fun h q => we_op (fun ha hb => pe_cmpR (op_notin5 F) ha hb (by simpa using h)) (mon_in.or mon_inN) q⟩
instance (priority := 3000) [F : Fx X P w K mg base sc N L C Gs Bs k] : Step (WT X ρ M (.Compare a [.In] [b] pos) R) (!behindInMarks .In b) (WE X ρ M a fun x M1 => WE X ρ M1 b fun y M2 => R2D X.K (rIn5 w X.K false) x y M2 (QB R)) := ⟨fun h q => wt_op (fun ha hb => pt_cmpR (op_in5 F) ha hb (by simpa using h)) (mon_in.or mon_inN) q⟩
instance (priority := 3000) [F : Fx X P w K mg base sc N L C Gs Bs k] : Step (WT X ρ M (.Compare a [.NotIn] [b] pos) R) (!behindInMarks .NotIn b) (WE X ρ M a fun x M1 => WE X ρ M1 b fun y M2 => R2D X.K (rIn5 w X.K true) x y M2 (QB R)) := ⟨fun h q => wt_op (fun ha hb => pt_cmpR (op_notin5 F) ha hb (by simpa using h)) (mon_in.or mon_inN) q⟩
theorem v_in_dn (A : AtM M i q (.dn w ob kvs)) (hk : nkD d = some kk) (hd : kk.depth ≤ 8) (z : Q (.bl (if neg then !(kix kvs kk).isSome else (kix kvs kk).isSome)) M) : R2D K (rIn5 w K neg) d (.ref q) M Q := fun vx vy H h1 h2 m => by
  cases h2
  obtain ⟨xs, e, r⟩ := m.at A.ix
  exact .inr ⟨q, ob, kvs, xs, d, kk, rfl, h1, hk, hd, e, r, _, M, .bl _, m, Stay.refl, z⟩
instance [A : AtM M i q (.dn w ob kvs)] [Nk : NKC d kk n] : Step (R2D K (rIn5 w K true) d (.ref q) M Q) (Nat.ble n 8) (Q (.bl (!(kix kvs kk).isSome)) M) := ⟨fun h z => v_in_dn A Nk.h (Nat.le_trans Nk.dp (Nat.le_of_ble_eq_true h)) z⟩
instance [A : AtM M i q (.dn w ob kvs)] [Nk : NKC d kk n] : Step (R2D K (rIn5 w K false) d (.ref q) M Q) (Nat.ble n 8) (Q (.bl (kix kvs kk).isSome) M) := ⟨fun h z => v_in_dn A Nk.h (Nat.le_trans Nk.dp (Nat.le_of_ble_eq_true h)) z⟩
instance (priority := low) : Step (R2D K (rIn5 w K neg) dx dy M Q) true (R2D K (rIn3 K neg) dx dy M Q) := ⟨fun _ z => R2D.l z⟩
/-! d[k] -/
theorem ix_5 (F : Fx X P w K mg base sc N L C Gs Bs k) : IxR X.toCx (rIx5 w X.K) := by
  have hu := F.room.un
  have h := ix_seq.or (ix_dn (X := X.toCx) (by omega))
  rw [F.hw] at h
  exact h
theorem we_ix5 (F : Fx X P w K mg base sc N L C Gs Bs k) (hb : isSl b = false) (h : WE X ρ M a fun x M1 => WE X ρ M1 b fun y M2 => R2D X.K (rIx5 w X.K) x y M2 Q) : WE X ρ M (.Subscript a b pos) Q := we_op (fun ha hb' => pe_ix (ix_5 F) ha hb' (plainIx hb)) (mon_ix.or mon_getN) h
instance (priority := 3000) [F : Fx X P w K mg base sc N L C Gs Bs k] : Step (WE X ρ M (.Subscript a b pos) Q) (!isSl b) (WE X ρ M a fun x M1 => WE X ρ M1 b fun y M2 => R2D X.K (rIx5 w X.K) x y M2 Q) := ⟨fun h => we_ix5 F (by simpa using h)⟩
instance (priority := 4000) {x : Str} {j : Nat} {cp : Pos} [F : Fx X P w K mg base sc N L C Gs Bs k] : Step (WE X ρ M (.Subscript o (.Constant (.str x) j cp) pos) Q) true (WE X ρ M o fun d M1 => DgD M1 d (.inr x) Q) := ⟨fun _ q => we_dgetS F q⟩
theorem v_get_dn {vd : DV} (A : AtM M i q (.dn w ob kvs)) (hk : nkD d = some kk) (hd : kk.depth ≤ 8) (hv : kget kvs kk = some vd) (z : Q vd M) : R2D K (rIx5 w K) (.ref q) d M Q := fun vx vy H h1 h2 m => by
  cases h1
  obtain ⟨xs, e, r⟩ := m.at A.ix
  exact .inr ⟨q, ob, kvs, xs, d, kk, vd, rfl, h2, hk, hd, e, r, hv, fun vv rv => ⟨vd, M, rv, m, Stay.refl, z⟩⟩
instance [A : AtM M i q (.dn w ob kvs)] [Nk : NKC d kk n] : Step (R2D K (rIx5 w K) (.ref q) d M Q) (Nat.ble n 8) (∃ vd, kget kvs kk = some vd ∧ Q vd M) := ⟨fun h ⟨vd, h1, h2⟩ => v_get_dn A Nk.h (Nat.le_trans Nk.dp (Nat.le_of_ble_eq_true h)) h1 h2⟩
instance (priority := low) : Step (R2D K (rIx5 w K) dx dy M Q) true (R2D K (rIx K) dx dy M Q) := ⟨fun _ z => R2D.l z⟩
/-! d[k] = v -/
def SetDn (w : World) (M : Mm) (x y d : DV) (T : Mm → Prop) : Prop := ∃ (p : Addr) (n : Nat) (o : Obj) (kvs : List (DV × DV)) (k : NK), x = .ref p ∧ nkD y = some k ∧ k.depth ≤ 8 ∧ AtM M n p (.dn w o kvs) ∧ kvs.length < sizeLine ∧ ∀ o', T (M.set n (p, .dn w o' (kput kvs k y d)))
def Set5 (w : World) (M : Mm) (x y d : DV) (T : Mm → Prop) : Prop := SetIx M x y d T ∨ SetDn w M x y d T
theorem wg_ix5 {d : DV} (F : Fx X P w K mg base sc N L C Gs Bs k) (hi : isSl b = false) (h : WE X ρ M a fun x M1 => WE X ρ M1 b fun y M2 => Set5 w M2 x y d (S ρ)) : WG X ρ M (.Subscript a b pos) d S := fun σ H v rs m r => by
  have hu := F.room.un
  have st5 : PSet X.toCx (fun o i v H Q => rSetL o i v H Q ∨ rSetN w X.K o i v H Q) := fun pins s σ H o i v ov iv u Q I ro ri rv z => by
    rcases z with z | z
    · exact set_list pins s σ H o i v ov iv u Q I ro ri rv z
    · exact set_dn (by omega) pins s σ H o i v ov iv u Q I ro ri rv (by rw [F.hw]; exact z)
  refine wG.of (pg_sub pe_w pe_w st5 (fun v => by cases b <;> first | rfl | exact Bool.noConfusion hi)) ?_
  refine (h σ H rs m).mono fun va H1 ⟨x, M1, h1, h2, h3, h4⟩ => ?_
  refine (h4 σ H1 (rs.mono h3) h2).mono fun vb H2 ⟨y, M2, g1, g2, g3, z⟩ => ?_
  rcases z with ⟨p, n, xs, i, j, g4, g5, g6, g7, g8⟩ | ⟨p, n, o, kvs, kk, g4, g5, g6, g7, g8, g9⟩
  · subst g4 g5
    cases h1; cases g1
    obtain ⟨vs, e, rr⟩ := g2.at g6.ix
    have mu : Wr H2 p := wr_lst e
    refine .inl ⟨p, vs, i, j, rfl, rfl, e, by rw [← rr.length]; exact g7, ?_⟩
    have st : Stay X.K H2 (upd H2 p (.lst (vs.set j v))) := Stay.write mu
    exact ⟨ρ, _, ((rs.mono h3).mono g3).mono st, g2.write (q' := .lst (xs.set j d)) g6.ix mu ⟨_, upd_same, (rr.mono st).set (((r.mono h3).mono g3).mono st) j⟩, (h3.trans g3).trans st, g8⟩
  · subst g4
    cases h1
    obtain ⟨xs, e, rr⟩ := g2.at g7.ix
    refine .inr ⟨p, o, kvs, xs, y, kk, rfl, g1, g5, g6, e, rr, g8, fun mu o' ku vu rk rv => ?_⟩
    have st : Stay X.K H2 (upd H2 p (DnO w p o' (pput xs kk ku vu))) := Stay.write mu
    exact ⟨ρ, _, ((rs.mono h3).mono g3).mono st, g2.write (q' := .dn w o' (kput kvs kk y d)) g7.ix mu ⟨_, upd_same, (rr.put g5 g6 g1 rk ((r.mono h3).mono g3) rv).mono st⟩, (h3.trans g3).trans st, g9 o'⟩
instance (priority := 3000) [F : Fx X P w K mg base sc N L C Gs Bs k] : Step (WG X ρ M (.Subscript a b pos) d S) (!isSl b) (WE X ρ M a fun x M1 => WE X ρ M1 b fun y M2 => Set5 w M2 x y d (S ρ)) := ⟨fun h => wg_ix5 F (by simpa using h)⟩
instance {T : Mm → Prop} [A : AtM M i q (.dn w ob kvs)] [Nk : NKC dy kk n] : Step (Set5 w M (.ref q) dy d T) (Nat.ble n 8) (Side (kvs.length < sizeLine) (∀ o', T (M.set i (q, .dn w o' (kput kvs kk dy d))))) := ⟨fun h z => .inr ⟨q, i, ob, kvs, kk, rfl, Nk.h, Nat.le_trans Nk.dp (Nat.le_of_ble_eq_true h), A, z.a, z.b⟩⟩
instance (priority := low) {T : Mm → Prop} : Step (Set5 w M dx dy d T) true (SetIx M dx dy d T) := ⟨fun _ z => .inl z⟩
/-! an empty dict is one of plain keys -/
theorem toDn {pins : List (Addr × Obj)} {σ : L2.St} {H : Hp} {s : Shared} (I : Inv X.toCx pins σ H s) (e : H q = some (.dK [])) : ∃ o, Inv X.toCx pins σ (upd H q (DnO w q o [])) s := by
  obtain ⟨_, hs, vs, rel, hd⟩ := I.hok q _ e
  cases rel
  obtain ⟨o, es, ep, h1, h2, h3, h4, h5, h6⟩ := hd
  have he : es.toList = [] := by
    generalize es.toList = l at h5
    cases h5
    rfl
  exact ⟨o, I.write (x := q) (e := q) (h' := s.heap) (t' := s.toks) (by rw [e]; trivial) (.inl rfl) (fun b u _ z => z) ⟨o, h1⟩ (dn_ok h1 ⟨hs, Nat.zero_le _, List.nodup_nil, o, es, ep, h1, h2, h3, he⟩)⟩
theorem RM.toDn {H : Hp} {o : Obj} (m : RM K H M) (A : AtM M i q (.dk [])) (e : H q = some (.dK [])) : RM K (upd H q (DnO w q o [])) (M.set i (q, .dn w o [])) := m.write (q' := .dn w o []) A.ix (wr_dk e) ⟨[], upd_same, .nil⟩
/-- the value of e is an empty dict: it will have plain keys -/
theorem we_toDn (h : WE X ρ M e fun d M1 => ∃ p i, d = .ref p ∧ AtM M1 i p (.dk []) ∧ ∀ o, Q d (M1.set i (p, .dn w o []))) : WE X ρ M e Q := fun σ H rs m pins s I => by
  refine thn (h σ H rs m pins s I) fun u s1 ⟨v, H1, I1, r1, d, M1, a1, a2, a3, p, i, e1, hA, z⟩ => ?_
  subst e1
  cases a1
  obtain ⟨vs, e2, rr⟩ := a2.at hA.ix
  cases rr
  obtain ⟨o, I2⟩ := toDn (w := w) I1 e2
  exact ⟨_, _, I2, r1, .ref p, _, .ref p, a2.toDn hA e2, a3.trans (Stay.write (wr_dk e2)), z o⟩
theorem wss_toDn {sts : List Stmt} (A : AtM M i q (.dk [])) (h : ∀ o, WSs X ρ (M.set i (q, .dn w o [])) sts nx rt bk ct) : WSs X ρ M sts nx rt bk ct := fun σ H rs m pins s I => by
  obtain ⟨vs, e2, rr⟩ := m.at A.ix
  cases rr
  obtain ⟨o, I2⟩ := toDn (w := w) I e2
  have st : Stay X.K H (upd H q (DnO w q o [])) := Stay.write (wr_dk e2)
  refine thn (h o σ _ (rs.mono st) (m.toDn A e2) pins s I2) fun fl s' hq => ?_
  cases fl with
  | next => obtain ⟨σ', H', J, ρ', M', q1, q2, q3, q4⟩ := hq; exact ⟨σ', H', J, ρ', M', q1, q2, st.trans q3, q4⟩
  | brk => obtain ⟨σ', H', J, ρ', M', q1, q2, q3, q4⟩ := hq; exact ⟨σ', H', J, ρ', M', q1, q2, st.trans q3, q4⟩
  | cont => obtain ⟨σ', H', J, ρ', M', q1, q2, q3, q4⟩ := hq; exact ⟨σ', H', J, ρ', M', q1, q2, st.trans q3, q4⟩
  | ret v => obtain ⟨x, σ', H', J, rv, d, M', q1, q2, q3, q4⟩ := hq; exact ⟨x, σ', H', J, rv, d, M', q1, q2, st.trans q3, q4⟩
end
end G
namespace G
open PySem PySem.Spec PyProof.Rows L2
/-! ### dicts of plain keys are walked, listed, counted; a key is taken out -/
theorem PDict.raw {w : World} {h : Heap} {d : Addr} {o : Obj} {xs : List PEnt} (e : h.get? d = some o) (x : PDict w h d xs) : (d == sysModules) = false ∧ o.ExactDict ∧ ∃ es ep, o.data = .dict es ep ∧ es.toList = xs.map (penc w) ∧ es.size = xs.length := by
  obtain ⟨h1, _, _, o', es, ep, g1, g2, g3, g4⟩ := x
  rw [e] at g1
  cases g1
  exact ⟨h1, g2, es, ep, g3, g4, ent_size g4⟩
theorem RKs.keysV {K : Fg} {H : Hp} {kvs : List (DV × DV)} {xs : List PEnt} (h : RKs K H kvs xs) : ∃ vs, RDs K H (kvs.map (·.1)) vs ∧ Vals vs (xs.map (·.2.1)) := by
  induction h with
  | nil => exact ⟨[], .nil, .nil⟩
  | cons a b c d e f _ ih => obtain ⟨vs, h1, h2⟩ := ih; exact ⟨_ :: vs, .cons c h1, .cons d h2⟩
/-- the keys of the dict at q, in their order -/
def ItN (w : World) (K : Fg) (q : Addr) (o : Obj) (kvs : List (DV × DV)) : It :=
  ⟨fun i H => (∃ xs, H q = some (DnO w q o xs) ∧ RKs K H kvs xs) ∧ i < kvs.length, fun i H x H' => H' = H ∧ ∃ kd vd, kvs[i]? = some (kd, vd) ∧ RD K H kd x, fun i H => (∃ xs, H q = some (DnO w q o xs) ∧ RKs K H kvs xs) ∧ kvs.length ≤ i⟩
/-- its pairs, each a new tuple -/
def ItNi (w : World) (K : Fg) (q : Addr) (o : Obj) (kvs : List (DV × DV)) : It :=
  ⟨fun i H => (∃ xs, H q = some (DnO w q o xs) ∧ RKs K H kvs xs) ∧ i < kvs.length, fun i H x H' => ∃ T kd vd kv vv, kvs[i]? = some (kd, vd) ∧ x = .ref T ∧ H T = none ∧ H' = upd H T (.tup [kv, vv]) ∧ RD K H kd kv ∧ RD K H vd vv, fun i H => (∃ xs, H q = some (DnO w q o xs) ∧ RKs K H kvs xs) ∧ kvs.length ≤ i⟩
section
variable {P : Program} {w : World} {K : Fg} {tg : Expr} {q : Addr} {o : Obj} {es : Array DictEntry} {ep : Nat} {kvs : List (DV × DV)}
theorem turn_dn (it : Addr) (hod : o.data = .dict es ep) : Turn P w K tg (ItN w K q o kvs) [it] it (fun i h => h.IsKeyIter it q i kvs.length ep) where
  mem := by simp
  obj := fun i h st b hb => by
    obtain rfl : b = it := by simpa using hb
    obtain ⟨oi, e, c, dd⟩ := st
    exact ⟨oi, e, fun v z => by rw [dd] at z; cases z⟩
  keep := fun i h h' st k => st.at fun oi e => k it (by simp) oi e
  item := by
    intro X hP hw hK hc i pins s σ H E I hf st hg
    subst hP hw hK
    obtain ⟨⟨xs, hd, hr⟩, hi⟩ := hg
    obtain ⟨f0, f1, f2, f3, f4, f5⟩ := hf it (by simp)
    obtain ⟨go, pd⟩ := dn_of I hd
    obtain ⟨_, hx, es', ep', hdt, he, hsz⟩ := pd.raw go
    obtain ⟨rfl, rfl⟩ := dict_ep hod hdt
    obtain ⟨⟨kd, vd⟩, hkv⟩ : ∃ x, kvs[i]? = some x := ⟨kvs[i], List.getElem?_eq_getElem hi⟩
    obtain ⟨k, ku, vu, kv, vv, z1, z2, z3, z4, z5, z6, z7⟩ := hr.at_ hkv
    refine next_key_item (en := penc X.w (k, ku, vu)) st go hdt (by rw [hsz, hr.len]) (by rw [ent_at he i, z1]; rfl) fun h' st' sb => ?_
    have I1 : Inv X pins σ H { s with heap := h' } := I.turned (t' := s.toks) (fun b ob hb e => (sb.2 b hb).trans e) f0 f1 f3 f4 f5
    obtain ⟨oi, e, c, dd⟩ := id st'
    exact ⟨ku, rfl, go_of (s := { s with heap := h' }) e c dd (by decide) ⟨kv, H, I1, z5, ⟨rfl, kd, vd, hkv, z4⟩, st', fun b hb => (hf b hb).1⟩⟩
  done := by
    intro X hP hw hK hc i pins s σ H E I hf st hg
    subst hP hw hK
    obtain ⟨⟨xs, hd, hr⟩, hi⟩ := hg
    obtain ⟨f0, f1, f2, f3, f4, f5⟩ := hf it (by simp)
    obtain ⟨go, pd⟩ := dn_of I hd
    obtain ⟨_, hx, es', ep', hdt, he, hsz⟩ := pd.raw go
    obtain ⟨rfl, rfl⟩ := dict_ep hod hdt
    exact next_key_end (I.ok.hd hc) st go hdt (by rw [hsz, hr.len]) hi fun h' eb => ⟨rfl, I.turned (t' := s.toks) (fun b ob hb e => eb b ob hb e) f0 f1 f3 f4 f5⟩
  self := fun A i s Q E st h => wpAny_pyIter_keyiter st h
theorem turn_dni {elts : List Expr} {kk : Nat} {tpos : Pos} (it : Addr) (hod : o.data = .dict es ep) : Turn P w K (.Tuple elts kk tpos) (ItNi w K q o kvs) [it] it (fun i h => ∃ ok ov, IsItemIter h it q i kvs.length ep ok ov) where
  mem := by simp
  obj := fun i h st b hb => by
    obtain rfl : b = it := by simpa using hb
    obtain ⟨ok, ov, e⟩ := st
    exact ⟨_, e, fun v z => nomatch z⟩
  keep := fun i h h' st k => let ⟨ok, ov, e⟩ := st; ⟨ok, ov, k it (by simp) _ e⟩
  item := by
    intro X hP hw hK hc i pins s σ H E I hf st hg
    subst hP hw hK
    obtain ⟨⟨xs, hd, hr⟩, hi⟩ := hg
    obtain ⟨go, pd⟩ := dn_of I hd
    obtain ⟨_, hx, es', ep', hdt, he, hsz⟩ := pd.raw go
    obtain ⟨rfl, rfl⟩ := dict_ep hod hdt
    obtain ⟨⟨kd, vd⟩, hkv⟩ : ∃ x, kvs[i]? = some x := ⟨kvs[i], List.getElem?_eq_getElem hi⟩
    obtain ⟨k, ku, vu, kv, vv, z1, z2, z3, z4, z5, z6, z7⟩ := hr.at_ hkv
    have hl : kvs.length = es'.size := by rw [hsz, hr.len]
    obtain ⟨ok, ov, hit⟩ := st
    rw [hl] at hit
    have hlt : it < s.heap.objs.size := Heap.lt_size hit
    have hei : es'[i]? = some (penc X.w (k, ku, vu)) := by rw [ent_at he i, z1]; rfl
    have hie : i < es'.size := by omega
    have eei : es'[i] = penc X.w (k, ku, vu) := by rw [Array.getElem?_eq_getElem hie] at hei; exact Option.some.inj hei
    refine wpAny_pyNext_items_item_raw hit ⟨o, go, hx, hdt⟩ hie fun h' ho hT hz hk => ?_
    rw [eei] at ho hT
    refine ⟨_, rfl, wpAny_letOwnedTupleGo_items (s := { s with heap := h' }) ho fun h'' he' sb => ?_⟩
    have hT2 : h''.get? s.heap.objs.size = some { cls := .type "tuple", data := .seq #[ku, vu] } := (sb.2 _ (Nat.ne_of_gt hlt)).trans hT
    have new : ObjOk X.prog X.w (upd H s.heap.objs.size (.tup [kv, vv])) h'' s.heap.objs.size (.tup [kv, vv]) := ⟨by show 2 ≤ sizeLine; decide, [ku, vu], .cons z5 (.cons z7 .nil), ⟨_, hT2, rfl, _, rfl⟩⟩
    have I1 : Inv X pins σ (upd H s.heap.objs.size (.tup [kv, vv])) { s with heap := h'' } := I.turnedNew (t' := s.toks) (ch := [it]) (fun b ob hb e => (sb.2 b (by simpa using hb)).trans (hk b ob (by simpa using hb) e)) hf (Nat.le_refl _) new
    refine ⟨.ref s.heap.objs.size, _, I1, rfl, ⟨_, kd, vd, kv, vv, hkv, rfl, I.hok.fresh (Nat.le_refl _), rfl, z4, z6⟩, ⟨ku, vu, ?_⟩, fun b hb => ?_⟩
    · rw [hl]; exact he'
    · obtain rfl : b = it := by simpa using hb
      rw [upd_ne (Nat.ne_of_lt hlt)]
      exact (hf b (by simp)).1
  done := by
    intro X hP hw hK hc i pins s σ H E I hf st hg
    subst hP hw hK
    obtain ⟨⟨xs, hd, hr⟩, hi⟩ := hg
    obtain ⟨f0, f1, f2, f3, f4, f5⟩ := hf it (by simp)
    obtain ⟨go, pd⟩ := dn_of I hd
    obtain ⟨_, hx, es', ep', hdt, he, hsz⟩ := pd.raw go
    obtain ⟨rfl, rfl⟩ := dict_ep hod hdt
    obtain ⟨ok, ov, hit⟩ := st
    have hl : kvs.length = es'.size := by rw [hsz, hr.len]
    rw [hl] at hit
    exact wpAny_pyNext_items_end_raw (I.ok.hd hc) hit ⟨o, go, hx, hdt⟩ (by omega) fun h' eb => ⟨rfl, I.turned (t' := s.toks) (fun b ob hb e => eb b ob hb e) f0 f1 f3 f4 f5⟩
  self := fun A i s Q E st h => let ⟨_, _, e⟩ := st; PySem.W.kcp_self e h
end
def iDn (w : World) (K : Fg) (td : TE) : TI := fun σ H R => td σ H fun x H1 => ∃ q o kvs xs, x = .ref q ∧ H1 q = some (DnO w q o xs) ∧ RKs K H1 kvs xs ∧ R (ItN w K q o kvs) H1
def iDni (w : World) (K : Fg) (td : TE) : TI := fun σ H R => td σ H fun x H1 => ∃ q o kvs xs, x = .ref q ∧ H1 q = some (DnO w q o xs) ∧ RKs K H1 kvs xs ∧ R (ItNi w K q o kvs) H1
section
variable {X : Cx} {tg e : Expr} {td : TE} {apos cpos : Pos}
theorem pi_dn (he : PE X e td) : PI X tg e (iDn X.w X.K td) := by
  refine ⟨fun pins s σ H R I h => thn (he.run pins s σ H _ I h) fun u s1 ⟨x, H1, I1, rx, q, o, kvs, xs, ex, hd, hr, z⟩ => ?_⟩
  subst ex
  obtain rfl : u = Value.ref q := rx
  obtain ⟨go, pd⟩ := dn_of I1 hd
  obtain ⟨hs, hx, es, ep, hdt, he, hsz⟩ := pd.raw go
  refine iter_keys hs go hx hdt (pi_one (tk := s1.toks) I1 _ (turn_dn _ hdt) ⟨_, Heap.get?_push_size _ rfl, rfl, ?_⟩ z)
  rw [hr.len, ← hsz]
  rfl
theorem pi_dni {elts : List Expr} {kk : Nat} {tpos : Pos} (he : PE X e td) (hbase : attributeBase e "items" X.env (eval e X.env) = eval e X.env := by rfl) (hline : (apos.endLine == cpos.line) = true := by rfl) :
    PI X (.Tuple elts kk tpos) (.Call (.Attribute e "items" apos) [] [] cpos) (iDni X.w X.K td) := by
  refine ⟨fun pins s σ H R I h => ?_⟩
  refine wpAny_Call_method (T := "dict") (id := "dict.items") hbase rfl hline F.plainAttrs_dict F.slot_dict_items F.type_dict_items (thn (he.run pins s σ H _ I h) fun u s1 ⟨x, H1, I1, rx, q, o, kvs, xs, ex, hd, hr, z⟩ => ?_)
  subst ex
  obtain rfl : u = Value.ref q := rx
  obtain ⟨go, pd⟩ := dn_of I1 hd
  obtain ⟨hs, hx, es, ep, hdt, he, hsz⟩ := pd.raw go
  have raw : s1.heap.DictRaw q es ep := ⟨o, go, hx, hdt⟩
  have hl : kvs.length = es.size := by rw [hsz, hr.len]
  refine ⟨pd.ty, fun a ea => by cases ea; exact ⟨o, go, hx.2.1⟩, ?_⟩
  have I2 : Inv X pins σ H1 { s1 with heap := s1.heap.push { cls := .type "dict_items", data := .fields #[.ref q] } } := I1.kept (t' := s1.toks) fun b ob z => Heap.get?_push_of_some _ z
  have fin : wpAny (model X.prog X.w) X.A (pyIter (.ref s1.heap.objs.size)) (PIE X pins σ (.Tuple elts kk tpos) R) X.xe { s1 with heap := s1.heap.push { cls := .type "dict_items", data := .fields #[.ref q] } } := by
    refine wpAny_pyIter_items_raw (d := q) (es := es) (ep := ep) ⟨_, Heap.get?_push_size _ rfl, rfl, rfl⟩ (raw.at fun o z => Heap.get?_push_of_some _ z) (pi_one (tk := s1.toks) I2 _ (turn_dni _ hdt) ⟨.none, .none, ?_⟩ z)
    rw [hl]
    exact Heap.get?_push_size _ rfl
  show wpAny _ _ (callWith cpos (.builtin "dict.items") [.ref q] [] []) _ X.xe s1
  exact method_meetsIn F.slot_dict_items F.entry_dict_items rfl (PySem.evalArgs_none ⟨rfl, pd.ty, F.args_dict_items_1 _, _, meets_dict_items_raw q hs, ⟨es, ep, raw⟩, fin⟩)
end
end G
namespace G
open PySem PySem.Spec PyProof.Rows L2
theorem items_keys {w : World} {es : Array DictEntry} {xs : List PEnt} {acc : Array Value} (he : es.toList = xs.map (penc w)) (it : ItemsOf (fun i v => ∃ en : DictEntry, es[i]? = some en ∧ v = en.key) acc es.size) : acc.toList = xs.map (·.2.1) := by
  have l1 := ent_size he
  have hl : acc.toList.length = xs.length := by rw [Array.length_toList, it.1]; exact l1
  apply List.ext_getElem?
  intro j
  rw [List.getElem?_map]
  by_cases hj : j < xs.length
  · have ha : acc.toList[j]? = some (acc.toList[j]'(by omega)) := List.getElem?_eq_getElem _
    obtain ⟨en, h1, h2⟩ := it.2 j _ (by rw [← Array.getElem?_toList]; exact ha)
    rw [ent_at he j, List.getElem?_eq_getElem hj] at h1
    rw [ha, h2, List.getElem?_eq_getElem hj]
    cases h1
    rfl
  · rw [List.getElem?_eq_none (by omega), List.getElem?_eq_none (by omega)]
    rfl
section
variable {X : Cx} {pins : List (Addr × Obj)} {σ : L2.St} {H : Hp} {s : Shared} {q : Addr} {o : Obj} {kvs : List (DV × DV)} {xs : List PEnt}
/-- list(d) -/
def rListN (w : World) (K : Fg) : List V → Hp → VK → Prop := fun vs H Q => ∃ q o kvs xs, vs = [.ref q] ∧ H q = some (DnO w q o xs) ∧ RKs K H kvs xs ∧ ∀ p us, H p = none → RDs K H (kvs.map (·.1)) us → Q (.ref p) (upd H p (.lst us))
theorem call_listN (hc : X.calm = true) : CallR X (.type "list") (rListN X.w X.K) := by
  intro pins s σ H vs us Q I r ⟨q, o, kvs, xs, e, hd, hr, z⟩
  subst e
  obtain ⟨u, rfl, rx⟩ := r.one
  cases rx
  obtain ⟨go, pd⟩ := dn_of I hd
  obtain ⟨hs, hx, es, ep, hdt, he, hsz⟩ := pd.raw go
  have hz := pd.2.1
  refine PySem.W.kdl_call (kdl_raw hs hx hdt) (I.ok.hd hc) go (by omega) fun h' tk acc' c' kp e it => ?_
  obtain ⟨ws, w1, w2⟩ := hr.keysV
  have rv : Vals ws acc'.toList := by rw [items_keys he it]; exact w2
  refine ⟨.ref s.heap.objs.size, _, I.laid (t' := tk) (o := .lst ws) kp (Nat.le_refl _) ?_, rfl, z _ ws (I.hok.fresh (Nat.le_refl _)) w1⟩
  exact ⟨by rw [← w1.length, List.length_map, hr.len]; exact hz, acc'.toList, c', rv, by rw [Array.toArray_toList]; exact e⟩
/-- *d -/
theorem star_dn {E : Value → Shared → Prop} {Q : List Value → Shared → Prop} (hc : X.calm = true) (I : Inv X pins σ H s) (hd : H q = some (DnO X.w q o xs)) (hr : RKs X.K H kvs xs) (hQ : ∀ ws us s', Inv X pins σ H s' → RDs X.K H (kvs.map (·.1)) ws → Vals ws us → Q us s') : PySem.W.StarOf (model X.prog X.w) X.A E (.ref q) Q s := by
  obtain ⟨go, pd⟩ := dn_of I hd
  obtain ⟨hs, hx, es, ep, hdt, he, hsz⟩ := pd.raw go
  have hz := pd.2.1
  have hT := pd.ty
  have hql : q < s.heap.objs.size := Heap.lt_size go
  have z : wpAny (model X.prog X.w) X.A (collect (.ref q)) Q E s := by
    unfold collect
    refine wpAny_bind (wpAny_runValue (codeAny_builtin F.entry_proto_collect ?_))
    rw [Around.under_plainId F.plain_proto_collect _]
    show wpAny _ X.A.in1 (newList [] >>= fun l => again (.builtin "list.__iadd__" ⟨[l, .ref q], []⟩)) _ _ s
    refine wpAny_bind (wpAny_newObj_type ?_)
    refine wpAny_pure ⟨plainId_quiet F.plain_list_iadd _, codeAny_builtin F.entry_list_iadd ?_⟩
    rw [Around.under_plainId F.plain_list_iadd _]
    show wpAny _ X.A.in1 (Builtin.List.listExtendWith (.ref s.heap.objs.size) (.ref q) (.ref s.heap.objs.size)) _ _ _
    have fin : ∀ (h' : Heap) (tk : Nat) (acc' : Array Value) (c' : Nat), (∀ b ob, b ≠ s.heap.objs.size → (s.heap.push { cls := .type "list", data := .seq ([] : List Value).toArray }).get? b = some ob → h'.get? b = some ob) → h'.get? s.heap.objs.size = some { cls := .type "list", dict := none, data := .seq acc' c', slots := #[] } → ItemsOf (fun i v => ∃ en : DictEntry, es[i]? = some en ∧ v = en.key) acc' es.size → wpAny (model X.prog X.w) X.A (load s.heap.objs.size >>= fun ob => match ob.data with
        | .seq xs _ => pure xs.toList
        | _ => unsupported "internal:collect") Q E { s with heap := h', toks := tk } := fun h' tk acc' c' hk hS hacc => by
      refine wpAny_bind (wpAny_load hS ?_)
      obtain ⟨ws, w1, w2⟩ := hr.keysV
      refine wpAny_pure (hQ ws _ _ (I.kept (t' := tk) fun b ob eb => hk b ob (Nat.ne_of_lt (Heap.lt_size eb)) (Heap.get?_push_of_some _ eb)) w1 ?_)
      rw [items_keys he hacc]
      exact w2
    refine wpAny_mono (PySem.W.kdl_extend (R := fun r s' => r = .ok (.ret (.ref s.heap.objs.size)) ∧ ∃ h' tk acc' c', s' = { s with heap := h', toks := tk } ∧ (∀ b ob, b ≠ s.heap.objs.size → (s.heap.push { cls := .type "list", data := .seq ([] : List Value).toArray }).get? b = some ob → h'.get? b = some ob) ∧ h'.get? s.heap.objs.size = some { cls := .type "list", dict := none, data := .seq acc' c', slots := #[] } ∧ ItemsOf (fun i v => ∃ en : DictEntry, es[i]? = some en ∧ v = en.key) acc' es.size) (s := { s with heap := s.heap.push { cls := .type "list", data := .seq ([] : List Value).toArray } }) (kdl_raw hs hx hdt) (I.ok.hd hc) (Heap.get?_push_of_some _ go) s.heap.objs.size (Nat.ne_of_gt hql) (Nat.ne_of_gt hql) (.ref s.heap.objs.size) 0 (Heap.get?_push_size _ rfl) (fun h' tk acc' c' hk hS hacc => ⟨rfl, h', tk, acc', c', rfl, hk, hS, hacc⟩) (by omega)) (fun f s' hf => ?_) fun e s' he => ?_
    · cases f with
      | done f =>
        obtain ⟨e1, h', tk, acc', c', e2, h1, h2, h3⟩ := hf
        cases e1
        subst e2
        exact fin h' tk acc' c' h1 h2 h3
      | again c' =>
        refine ⟨hf.1, codeAny_mono hf.2 fun r s' hr => ?_⟩
        obtain ⟨e1, h', tk, acc', c', e2, h1, h2, h3⟩ := hr
        subst e1 e2
        exact fin h' tk acc' c' h1 h2 h3
    · obtain ⟨e1, _⟩ := he
      cases e1
  unfold PySem.W.StarOf notIterableAtAll
  exact wpAny_bind (wpAny_specialOf hT PySem.F.slot_dict_iter.lookup (wpAny_pure ⟨rfl, z⟩))
/-- len(d) -/
def rLenN (w : World) (K : Fg) : List V → Hp → VK → Prop := fun vs H Q => ∃ q o kvs xs, vs = [.ref q] ∧ H q = some (DnO w q o xs) ∧ RKs K H kvs xs ∧ Q (.int (kvs.length : Nat)) H
theorem call_lenN : CallR X (.builtin "len") (rLenN X.w X.K) := by
  intro pins s σ H vs us Q I r ⟨q, o, kvs, xs, e, hd, hr, z⟩
  subst e
  obtain ⟨u, rfl, rx⟩ := r.one
  cases rx
  obtain ⟨go, pd⟩ := dn_of I hd
  obtain ⟨hs, hx, es, ep, hdt, he, hsz⟩ := pd.raw go
  have hz := pd.2.1
  have hl : es.size = kvs.length := by rw [hsz, hr.len]
  refine PyProof.Rows.call_len_slot (n := (kvs.length : Int)) pd.ty F.slot_dict_len (fun Q' hq => call_len_raw hs ⟨o, go, hx, hdt⟩ (by rw [hl]; exact hq)) (by omega) (by rw [sizeLine_eq] at hz; rw [hr.len]; omega) ?_
  exact ⟨.int _, H, I.tok _, ⟨_, rfl⟩, z⟩
end
section
variable {P : Program} {w : World} {A : Around} {E : Value → Shared → Prop} {s : Shared} {d : Addr} {xs : List PEnt} {k : NK} {key : Value}
/-- del d[k] -/
theorem delItem_keys {Q : Unit → Shared → Prop} (hu : A.units + 9 < cLine) (hk : KeyAt s.heap k key) (hm : PDict w s.heap d xs) (his : AllK s.heap xs) (hi : (pix xs k).isSome = true)
    (z : ∀ h', PDict w h' d (pdel xs k) → Heap.SameBut d s.heap h' → Q () { s with heap := h', toks := s.toks + k.draws }) : wpAny (model P w) A (delItem (.ref d) key) Q E s := by
  have mt : MeetsIn P w (Builtin.«dict.__delitem__» ⟨[.ref d, key], []⟩) (fun A R s => A.in1.units + 8 < cLine ∧ KeyAt s.heap k key ∧ PDict w s.heap d xs ∧ AllK s.heap xs ∧ ∀ h', PDict w h' d (pdel xs k) → Heap.SameBut d s.heap h' → R (.ok (.ret .none)) { s with heap := h', toks := s.toks + k.draws }) :=
    .of_wp fun A R s ⟨h1, h2, h3, h4, h5⟩ => by
      unfold Builtin.«dict.__delitem__»
      refine wpAny_bind ?_
      unfold Builtin.Dict.dictSlotArgs
      refine wpAny_bind (wpAny_notOrdered_dict h3.ty ?_)
      show wpAny _ _ (pure (Value.ref d, key)) _ _ s
      refine wpAny_pure ?_
      show wpAny _ _ (Builtin.Dict.takeOut d key >>= _) _ _ s
      exact wpAny_bind (del_keys h1 h2 h3 h4 hi fun e h' hd' hs' => wpAny_bind (wpAny_letGo (wpAny_pure ⟨.none, rfl, h5 h' hd' hs'⟩)))
  exact wpAny_delItem_slot hm.ty (by decide) F.slot_dict_delitem (call_meetsIn F.slot_dict_delitem hm.ty F.entry_dict_delitem (F.args_dict_delitem_2 _ _) mt ⟨by rw [Around.in1_units]; omega, hk, hm, his, z⟩)
end
end G
namespace G
open PySem PySem.Spec PyProof.Rows L2
/-! ### walks, list, len, del, star of dicts of plain keys: the steps -/
section
variable {X : Cy} {P : Program} {w : World} {K : Fg} {mg : Str → Option Value} {base : Heap} {sc : Scope} {N L C Gs Bs : List Str} {k j n i : Nat} {ρ ρ' : Ro} {M : Mm} {Q : DV → Mm → Prop} {T : List DV → Mm → Prop} {a b c e o tg : Expr} {es : List Expr} {pos p p1 p2 apos : Pos} {nx bk ct : Ro → Mm → Prop} {rt : DV → Mm → Prop} {d dx : DV} {q : Addr} {ob : Obj} {kvs : List (DV × DV)} {kk : NK}
abbrev keyAt (kvs : List (DV × DV)) (i : Nat) : DV := (kvs.getD i (.non, .non)).1
abbrev valAt (kvs : List (DV × DV)) (i : Nat) : DV := (kvs.getD i (.non, .non)).2
theorem getD_kv {kvs : List (DV × DV)} {i : Nat} {kd vd : DV} (h : kvs[i]? = some (kd, vd)) : kvs.getD i (.non, .non) = (kd, vd) := by rw [List.getD_eq_getElem?_getD, h]; rfl
theorem it_dn {H0 : Hp} : ItD K H0 (ItN w K q ob kvs) kvs.length (keyAt kvs) (fun M => ∃ j, AtM M j q (.dn w ob kvs)) where
  go := fun i H M st m ⟨j, hA⟩ hi => ⟨m.at hA.ix, hi⟩
  yld := fun i H M v H' st m ⟨j, hA⟩ hi ⟨e1, kd, vd, e2, r⟩ => by
    subst e1
    refine ⟨?_, Stay.refl, m⟩
    unfold keyAt
    rw [getD_kv e2]
    exact r
  stop := fun H M st m ⟨j, hA⟩ => ⟨m.at hA.ix, Nat.le_refl _⟩
theorem it_dni {H0 : Hp} : ItD K H0 (ItNi w K q ob kvs) kvs.length (fun t => .tup [keyAt kvs t, valAt kvs t]) (fun M => ∃ j, AtM M j q (.dn w ob kvs)) where
  go := fun i H M st m ⟨j, hA⟩ hi => ⟨m.at hA.ix, hi⟩
  yld := fun i H M v H' st m ⟨j, hA⟩ hi ⟨T, kd, vd, kv, vv, e2, e3, e4, e5, r1, r2⟩ => by
    subst e3 e5
    have s1 : Stay K H (upd H T (.tup [kv, vv])) := Stay.new e4
    refine ⟨?_, s1, m.new e4⟩
    show RD K _ (.tup [(kvs.getD i (.non, .non)).1, (kvs.getD i (.non, .non)).2]) _
    rw [getD_kv e2]
    exact .tup (SqT.of upd_same) (.cons (r1.mono s1) (.cons (r2.mono s1) .nil))
  stop := fun H M st m ⟨j, hA⟩ => ⟨m.at hA.ix, Nat.le_refl _⟩
/-- for x in d -/
theorem wi_dn {R : Nat → (Nat → DV) → (Mm → Prop) → Mm → Prop} (F : Fx X P w K mg base sc N L C Gs Bs k) (h : WE X ρ M e fun d M1 => ∃ q i ob kvs, d = .ref q ∧ AtM M1 i q (.dn w ob kvs) ∧ R kvs.length (keyAt kvs) (fun M => ∃ j, AtM M j q (.dn w ob kvs)) M1) : WI X ρ M tg e R := by
  refine ⟨_, pi_dn pe_w, fun σ H rs m => ?_⟩
  refine (h σ H rs m).mono fun v H1 ⟨d, M1, h1, h2, h3, q, i, ob, kvs, e1, hA, h5⟩ => ?_
  subst e1
  cases h1
  obtain ⟨xs, g1, g2⟩ := h2.at hA.ix
  rw [F.hw]
  exact ⟨q, ob, kvs, xs, rfl, g1, g2, _, _, _, M1, it_dn, h2, h3, h5⟩
/-- for k, v in d.items() -/
theorem wi_dni {elts : List Expr} {kt : Nat} {tpos : Pos} {R : Nat → (Nat → DV) → (Mm → Prop) → Mm → Prop} (F : Fx X P w K mg base sc N L C Gs Bs k) (ho : notCall e = true) (hl : (apos.endLine == pos.line) = true) (h : WE X ρ M e fun d M1 => ∃ q i ob kvs, d = .ref q ∧ AtM M1 i q (.dn w ob kvs) ∧ R kvs.length (fun t => .tup [keyAt kvs t, valAt kvs t]) (fun M => ∃ j, AtM M j q (.dn w ob kvs)) M1) : WI X ρ M (.Tuple elts kt tpos) (.Call (.Attribute e "items" apos) [] [] pos) R := by
  refine ⟨_, pi_dni pe_w (attrBase ho) hl, fun σ H rs m => ?_⟩
  refine (h σ H rs m).mono fun v H1 ⟨d, M1, h1, h2, h3, q, i, ob, kvs, e1, hA, h5⟩ => ?_
  subst e1
  cases h1
  obtain ⟨xs, g1, g2⟩ := h2.at hA.ix
  rw [F.hw]
  exact ⟨q, ob, kvs, xs, rfl, g1, g2, _, _, _, M1, it_dni, h2, h3, h5⟩
/-! list(d) -/
def rList5 (w : World) (K : Fg) : List V → Hp → VK → Prop := fun vs H Q => rList3 K vs H Q ∨ rListN w K vs H Q
theorem we_list5 (F : Fx X P w K mg base sc N L C Gs Bs k) (hx : ("list" : Str) ∈ Gs) (hx2 : ("list" : Str) ∈ Bs) (hs : noStars [e] = true) (h : WA X ρ M [e] fun ds M1 => CD X.K (rList5 w X.K) ds M1 Q) : WE X ρ M (.Call (.Name "list" p) [e] [] pos) Q :=
  we_blty F (r := rList5 w X.K) (fun pins s σ H vs us Q I r z => z.elim (fun z => call_list_of pins s σ H vs us Q I r z) fun z => call_listN F.calm pins s σ H vs us Q I r (by rw [F.hw]; exact z))
    (fun xs H Q Q' z q => z.elim (fun ⟨i, j, a, b, c⟩ => .inl ⟨i, j, a, b, fun l hl => q _ _ (c l hl)⟩) fun ⟨a1, a2, a3, a4, a5, a6, a7, a8⟩ => .inr ⟨a1, a2, a3, a4, a5, a6, a7, fun p us z1 z2 => q _ _ (a8 p us z1 z2)⟩) (by decide +kernel) hx hx2 hs h
instance (priority := 3000) [F : Fx X P w K mg base sc N L C Gs Bs k] [m : MemC "list" Gs] [m2 : MemC "list" Bs] : Step (WE X ρ M (.Call (.Name (Str.ofString "list") p) [e] [] pos) Q) (noStars [e]) (WA X ρ M [e] fun ds M1 => CD X.K (rList5 w X.K) ds M1 Q) := ⟨fun h q => we_list5 F m.h m2.h h q⟩
instance [A : AtM M i q (.dn w ob kvs)] : Step (CD K (rList5 w K) [.ref q] M Q) true (∀ p, Q (.ref p) ((p, .lst (kvs.map (·.1))) :: M)) := ⟨fun _ z => .one fun v H r m => by
  cases r
  obtain ⟨xs, g1, g2⟩ := m.at A.ix
  exact .inr ⟨q, ob, kvs, xs, rfl, g1, g2, fun p us hp ru => ⟨.ref p, _, .ref p, m.cons (q := .lst (kvs.map (·.1))) hp ⟨us, upd_same, ru.mono (Stay.new hp)⟩, Stay.new hp, z p⟩⟩⟩
instance (priority := low) {ds : List DV} : Step (CD K (rList5 w K) ds M Q) true (CD K (rList3 K) ds M Q) := ⟨fun _ z vs H r m => .inl (z vs H r m)⟩
/-! len(d) -/
def rLen5 (w : World) (K : Fg) : List V → Hp → VK → Prop := fun vs H Q => rLen3 K vs H Q ∨ rLenN w K vs H Q
theorem we_len5 (F : Fx X P w K mg base sc N L C Gs Bs k) (hx : ("len" : Str) ∈ Gs) (hx2 : ("len" : Str) ∈ Bs) (hs : noStars [e] = true) (h : WA X ρ M [e] fun ds M1 => CD X.K (rLen5 w X.K) ds M1 Q) : WE X ρ M (.Call (.Name "len" p) [e] [] pos) Q :=
  we_blt F (r := rLen5 w X.K) (fun pins s σ H vs us Q I r z => z.elim (fun z => call_len pins s σ H vs us Q I r z) fun z => call_lenN pins s σ H vs us Q I r (by rw [F.hw]; exact z))
    (fun xs H Q Q' z q => z.elim (fun ⟨i, j, a, b, c⟩ => .inl ⟨i, j, a, b, q _ _ c⟩) fun ⟨a1, a2, a3, a4, a5, a6, a7, a8⟩ => .inr ⟨a1, a2, a3, a4, a5, a6, a7, q _ _ a8⟩) PySem.boot_len hx hx2 hs h
instance (priority := 3000) [F : Fx X P w K mg base sc N L C Gs Bs k] [m : MemC "len" Gs] [m2 : MemC "len" Bs] : Step (WE X ρ M (.Call (.Name (Str.ofString "len") p) [e] [] pos) Q) (noStars [e]) (WA X ρ M [e] fun ds M1 => CD X.K (rLen5 w X.K) ds M1 Q) := ⟨fun h q => we_len5 F m.h m2.h h q⟩
instance [A : AtM M i q (.dn w ob kvs)] : Step (CD K (rLen5 w K) [.ref q] M Q) true (Q (.int (kvs.length : Int)) M) := ⟨fun _ z => .one fun v H r m => by
  cases r
  obtain ⟨xs, g1, g2⟩ := m.at A.ix
  exact .inr ⟨q, ob, kvs, xs, rfl, g1, g2, _, M, .int _, m, Stay.refl, z⟩⟩
instance (priority := low) {ds : List DV} : Step (CD K (rLen5 w K) ds M Q) true (CD K (rLen3 K) ds M Q) := ⟨fun _ z vs H r m => .inl (z vs H r m)⟩
/-! del d[k] -/
def DelDn (w : World) (M : Mm) (x y : DV) (T : Mm → Prop) : Prop := ∃ (p : Addr) (n : Nat) (o : Obj) (kvs : List (DV × DV)) (k : NK), x = .ref p ∧ nkD y = some k ∧ k.depth ≤ 8 ∧ AtM M n p (.dn w o kvs) ∧ (kix kvs k).isSome = true ∧ ∀ o', T (M.set n (p, .dn w o' (kdel kvs k)))
theorem ws_delDn {tpos : Pos} (F : Fx X P w K mg base sc N L C Gs Bs k) (h : WE X ρ M a fun x M1 => WE X ρ M1 b fun y M2 => DelDn w M2 x y (nx ρ)) : WS X ρ M (.Delete [.Subscript a b tpos] pos) nx rt bk ct := fun σ H rs m pins s I => by
  have hu := F.room.un
  refine wpAny_Delete (wpAny_deleteEach_cons (wpAny_delete_Subscript (thn (h σ H rs m pins s I) fun u s1 ⟨v1, H1, I1, r1, x, M1, c1, c2, c3, c4⟩ => thn (c4 σ H1 (rs.mono c3) c2 pins s1 I1) fun iv s2 ⟨v2, H2, I2, r2, y, M2, d1, d2, d3, p, n, o, kvs, kk, e1, e2, e3, e4, e5, e6⟩ => ?_)))
  subst e1
  cases c1
  obtain rfl : u = Value.ref p := r1
  obtain ⟨xs, g1, g2⟩ := d2.at e4.ix
  obtain ⟨go, pd⟩ := dn_of I2 g1
  have pd2 : PDict X.w s2.heap p xs := by rw [F.hw]; exact pd
  refine delItem_keys (by omega) ⟨nk_is I2 d1 r2 e2, e3⟩ pd2 (g2.all I2) (by rw [g2.ix]; exact e5) fun h' hd hs => ?_
  have hd2 : PDict w h' p (pdel xs kk) := by rw [← F.hw]; exact hd
  obtain ⟨_, _, _, o', es', ep', k1, k2⟩ := id hd2
  have mu := wr_dn I2 g1
  have st : Stay X.K H2 (upd H2 p (DnO w p o' (pdel xs kk))) := Stay.write mu
  refine wpAny_deleteEach_nil ⟨σ, _, d_write I2 mu.1 hs ⟨o', k1⟩ (dn_ok k1 hd2), ρ, _, ((rs.mono c3).mono d3).mono st, d2.write (q' := .dn w o' (kdel kvs kk)) e4.ix mu ⟨_, upd_same, (g2.del).mono st⟩, (c3.trans d3).trans st, e6 o'⟩
instance {tpos : Pos} [F : Fx X P w K mg base sc N L C Gs Bs k] : Step (WS X ρ M (.Delete [.Subscript a b tpos] pos) nx rt bk ct) true (WE X ρ M a fun x M1 => WE X ρ M1 b fun y M2 => DelDn w M2 x y (nx ρ)) := ⟨fun _ h => ws_delDn F h⟩
instance {T : Mm → Prop} [A : AtM M i q (.dn w ob kvs)] [Nk : NKC d kk n] : Step (DelDn w M (.ref q) d T) (Nat.ble n 8) (Side ((kix kvs kk).isSome = true) (∀ o', T (M.set i (q, .dn w o' (kdel kvs kk))))) := ⟨fun h z => ⟨q, i, ob, kvs, kk, rfl, Nk.h, Nat.le_trans Nk.dp (Nat.le_of_ble_eq_true h), A, z.a, z.b⟩⟩
/-! [*d, ..] -/
theorem wa_starDn {sp : Pos} (F : Fx X P w K mg base sc N L C Gs Bs k) (h : WE X ρ M e fun x M1 => ∃ q i ob kvs, x = .ref q ∧ AtM M1 i q (.dn w ob kvs) ∧ WA X ρ M1 es fun ds M2 => T (kvs.map (·.1) ++ ds) M2) : WA X ρ M (.Starred e sp :: es) T := fun σ H rs m ps pins s I => by
  refine PySem.W.items_star (thn (h σ H rs m pins s I) fun u s1 ⟨v1, H1, I1, r1, x, M1, c1, c2, c3, q, i, ob, kvs, e1, e2, e3⟩ => ?_) rfl
  subst e1
  cases c1
  obtain rfl : u = Value.ref q := r1
  obtain ⟨xs, g1, g2⟩ := c2.at e2.ix
  refine star_dn F.calm I1 (by rw [F.hw]; exact g1) g2 fun ws us s2 I2 rw rv => ?_
  refine thn (e3 σ H1 (rs.mono c3) c2 ps pins s2 I2) fun us2 s3 ⟨vs, H3, I3, r3, ds, M3, k1, k2, k3, k4⟩ => ?_
  exact ⟨ws ++ vs, H3, I3, rv.append r3, _, M3, (rw.mono k3).append k1, k2, c3.trans k3, k4⟩
theorem we_lstS (h : WA X ρ M es fun ds M1 => Side (ds.length ≤ sizeLine) (∀ p, Q (.ref p) ((p, .lst ds) :: M1))) : WE X ρ M (.List es pos) Q := fun σ H rs m => by
  refine wE.of (pe_lst pa_w) ?_
  refine (h σ H rs m).mono fun vs H1 ⟨ds, M1, h1, h2, h3, h4⟩ => ⟨by rw [← h1.length]; exact h4.a, fun p hp => ?_⟩
  exact ⟨.ref p, (p, .lst ds) :: M1, .ref p, h2.cons hp ⟨vs, upd_same, h1.mono (Stay.new hp)⟩, h3.trans (Stay.new hp), h4.b p⟩
end
end G
namespace G
open PySem PySem.Spec PyProof.Rows L2
/-! ### min(l, key=lambda x: ..), whole numbers as keys -/
section
variable {X : Cy} {pins : List (Addr × Obj)} {σ : L2.St} {A : Around} {E : Value → Shared → Prop} {Q : VK} {f l n : Addr} {M1 : Mm} {ds : List DV} {H0 : Hp}
/-- one call of the key -/
def KeyTurn (X : Cy) (pins : List (Addr × Obj)) (σ : L2.St) (A : Around) (f : Addr) (M1 : Mm) (ds : List DV) (H0 : Hp) (kf : Nat → Int) : Prop :=
  ∀ (i : Nat) (d : DV) (x : V) (v : Value), ds[i]? = some d → RelV x v → ∀ (pins' : List (Addr × Obj)) (s' : Shared) (H1 : Hp), (∀ q ∈ pins, q ∈ pins') → Inv X.toCx pins' σ H1 s' → RD X.K H1 d x → Stay X.K H0 H1 → RM X.K H1 M1 →
    wpAny (model X.prog X.w) A (call (.ref f) [v]) (EP X.toCx pins' σ fun w H2 => w = .int (kf i) ∧ Stay X.K H1 H2 ∧ RM X.K H2 M1) (fun _ _ => False) s'
theorem list_item {H : Hp} {s : Shared} (I : Inv X.toCx pins σ H s) (m : RM X.K H M1) {t : Nat} (hA : AtM M1 t l (.lst ds)) : ∃ its : List Value, its.length = ds.length ∧ s.heap.IsList l its.toArray ∧ ∀ (i : Nat) (v : Value), its[i]? = some v → ∃ d x, ds[i]? = some d ∧ RD X.K H d x ∧ RelV x v := by
  obtain ⟨vs, e, r⟩ := m.at hA.ix
  obtain ⟨its, rel, pl, hz⟩ := I.list (SqL.of e)
  have hl : vs.length = its.length := rel.length
  have hr := r.length
  refine ⟨its, by omega, pl.isList, fun i v hv => ?_⟩
  have hi : i < its.length := (List.getElem?_eq_some_iff.mp hv).1
  obtain ⟨x, h1, h2⟩ := r.get (List.getElem?_eq_getElem (by omega : i < ds.length))
  exact ⟨_, x, List.getElem?_eq_getElem _, h2, paired_get rel h1 hv⟩
theorem min_loop {t : Nat} {R : Value → Shared → Prop} (hA : AtM M1 t l (.lst ds)) (kf : Nat → Int) (hh : A.handled = none) {Ia S : Addr} (hSI : S ≠ Ia) (turn : KeyTurn X pins σ A.in1 f M1 ds H0 kf)
    (fin : ∀ (i : Nat) (d : DV) (x : V) (v : Value) (H : Hp) (s : Shared), ds[i]? = some d → (∀ j, j < ds.length → kf i ≤ kf j ∧ (j < i → kf i < kf j)) → Inv X.toCx pins σ H s → Stay X.K H0 H → RM X.K H M1 → RD X.K H d x → RelV x v → R v s) :
    ∀ (r j i : Nat) (H : Hp) (s : Shared) (d : DV) (x : V) (vb : Value) (tb : Tok) (c : Nat), ds.length - (j + 1) = r → j + 1 ≤ ds.length → Inv X.toCx pins σ H s → Stay X.K H0 H → RM X.K H M1 → FpOk X.toCx pins H Ia → FpOk X.toCx pins H S → l ≠ Ia →
      s.heap.get? S = some (seqObj "list" #[vb, .int (kf i) tb] c) → s.heap.IsListIter Ia l (j + 1) → ds[i]? = some d → RD X.K H d x → RelV x vb → i ≤ j → (∀ j', j' ≤ j → kf i ≤ kf j' ∧ (j' < i → kf i < kf j')) →
      codeAny (model X.prog X.w) A (.builtin "min.loop" ⟨[.ref Ia, .ref f, .ref S], []⟩) (fun r s' => match r with | .ok (.ret v) => R v s' | .ok _ => False | .error e => E e s') s := by
  have hname : (toString "min" ++ toString ".loop" : String) = "min.loop" := by decide
  intro r
  induction r with
  | zero =>
    intro j i H s d x vb tb c hr hj I st m fI fS hlI nS hit hd rd rv hij hbest
    have hin : j + 1 = ds.length := by omega
    obtain ⟨its, hil, hls, _⟩ := list_item I m hA
    have W := Walks.list (prog := X.prog) (w := X.w) (A := A.in1) hh Ia l hlI its.toArray
    have hsz : its.toArray.size = ds.length := by rw [List.size_toArray, hil]
    refine codeAny_builtin PySem.F.entry_min_loop ?_
    rw [Around.under_plainId PySem.F.plain_min_loop _]
    show wpAny _ A.in1 (seqItems? (.ref S) >>= _) _ _ _
    refine wpAny_bind (wpAny_seqItems nS rfl ?_)
    show wpAny _ A.in1 (tryCatch (pyNext (.ref Ia)) _ >>= _) _ _ _
    refine wpAny_bind (wpAny_tryCatch (W.done _ _ _ ⟨by rw [hsz, ← hin]; exact hit, hls⟩ fun h' tk' hk' => ?_))
    have I1 := I.turnedL (t' := tk') (h' := h') (ch := [Ia]) (fun b o hb q => hk' b o hb q) (fun b hb => by rw [List.mem_singleton] at hb; rw [hb]; exact fI)
    have hS' := hk' S _ (by simpa using hSI) nS
    have s1 := Heap.SameBut.update h' S (Obj.mapSeq fun _ => (#[] : Array Value))
    show wpAny _ A.in1 (updateSeq S (fun _ => #[]) >>= _) _ _ _
    refine wpAny_bind ?_
    refine wpAny_updateSeq hS' rfl (wpAny_bind (wpAny_letGo (wpAny_pure ?_)))
    have I2 := I1.turnedL (t' := tk') (h' := h'.update S (Obj.mapSeq fun _ => (#[] : Array Value))) (ch := [S]) (fun b o hb q => (s1.2 b (fun z => hb (by rw [z]; simp))).trans q) (fun b hb => by rw [List.mem_singleton] at hb; rw [hb]; exact fS)
    exact fin i d x vb H _ hd (fun j' hj' => hbest j' (by omega)) I2 st m rd rv
  | succ r ih =>
    intro j i H s d x vb tb c hr hj I st m fI fS hlI nS hit hd rd rv hij hbest
    have hlt : j + 1 < ds.length := by omega
    obtain ⟨its, hil, hls, hget⟩ := list_item I m hA
    have W := Walks.list (prog := X.prog) (w := X.w) (A := A.in1) hh Ia l hlI its.toArray
    have hsz : its.toArray.size = ds.length := by rw [List.size_toArray, hil]
    refine codeAny_builtin PySem.F.entry_min_loop ?_
    rw [Around.under_plainId PySem.F.plain_min_loop _]
    show wpAny _ A.in1 (seqItems? (.ref S) >>= _) _ _ _
    refine wpAny_bind (wpAny_seqItems nS rfl ?_)
    show wpAny _ A.in1 (tryCatch (pyNext (.ref Ia)) _ >>= _) _ _ _
    refine wpAny_bind (wpAny_tryCatch (W.item (j + 1) _ _ _ (by rw [hsz]; exact hlt) ⟨hit, hls⟩ fun v h' tk' hP hst' hk' => ?_))
    have hv : its[j + 1]? = some v := by simpa using hP
    obtain ⟨d2, x2, hd2, rd2, rv2⟩ := hget _ _ hv
    obtain ⟨oI', hoI', hoc, hod⟩ := id hst'.1
    have I1 := I.turnedL (t' := tk') (h' := h') (ch := [Ia]) (fun b o hb q => hk' b o hb q) (fun b hb => by rw [List.mem_singleton] at hb; rw [hb]; exact fI)
    have hS' := hk' S _ (by simpa using hSI) nS
    have IP : Inv X.toCx ([(S, seqObj "list" #[vb, .int (kf i) tb] c), (Ia, oI')] ++ pins) σ H { s with heap := h', toks := tk' } := I1.pins_of fun p hm => by
      rcases List.mem_append.mp hm with hm | hm
      · rcases List.mem_cons.mp hm with rfl | hm
        · exact ⟨hS', fS.1, fS.2.1, fS.2.2.1, fun v z => by cases z⟩
        · rcases List.mem_cons.mp hm with rfl | hm
          · exact ⟨hoI', fI.1, fI.2.1, fI.2.2.1, fun v z => by rw [hod] at z; cases z⟩
          · cases hm
      · exact I1.pin p (List.mem_append_right _ hm)
    show wpAny _ A.in1 (tryCatch (holding [v] (call (.ref f) [v])) _ >>= _) _ _ _
    refine wpAny_bind (wpAny_tryCatch (wpAny_holding (wpAny_mono (turn (j + 1) d2 x2 v hd2 rv2 _ _ H (fun q hq => List.mem_append_right _ hq) IP rd2 st m) (fun u s2 he => ?_) fun _ _ hF => hF.elim)))
    obtain ⟨w2, H2, I2, ru, ew, st2, m2⟩ := he
    subst ew
    obtain ⟨t2, rfl⟩ := ru
    have pS := I2.pin (S, seqObj "list" #[vb, .int (kf i) tb] c) (List.mem_append_right _ (by simp))
    have pI := I2.pin (Ia, oI') (List.mem_append_right _ (by simp))
    have I3 : Inv X.toCx pins σ H2 s2 := I2.pins_of fun p hm => I2.pin p (List.mem_append_right _ (List.mem_append_right _ hm))
    have fS2 : FpOk X.toCx pins H2 S := fp_at fS pS.2.1
    have fI2 : FpOk X.toCx pins H2 Ia := fp_at fI pI.2.1
    have hit2 : s2.heap.IsListIter Ia l (j + 1 + 1) := ⟨oI', pI.1, hoc, hod⟩
    show wpAny _ A.in1 (tryCatch (holding [v, .int (kf (j + 1)) t2] (richCompare .Lt (.int (kf (j + 1)) t2) (.int (kf i) tb) >>= _)) _ >>= _) _ _ _
    refine wpAny_bind (wpAny_tryCatch (wpAny_holding (wpAny_bind (CmpOf.ints_lt (prog := X.prog) (w := X.w) (A := A.in1) (P := fun i v => ∃ t, v = .int (kf i) t) kf (fun i v h => h) (j + 1) i _ _ _ _ _ ⟨t2, rfl⟩ ⟨tb, rfl⟩ ?_))))
    refine wpAny_bind (wpAny_holding (wpAny_truthy_bool ?_))
    refine wpAny_bind (wpAny_letGo (wpAny_pure ?_))
    by_cases hb' : kf (j + 1) < kf i
    · have s1 := Heap.SameBut.update s2.heap S (Obj.mapSeq fun _ => #[v, .int (kf (j + 1)) t2])
      obtain ⟨c2, hc2⟩ : ∃ c2, (s2.heap.update S (Obj.mapSeq fun _ => #[v, .int (kf (j + 1)) t2])).get? S = some (seqObj "list" #[v, .int (kf (j + 1)) t2] c2) := ⟨_, get?_update_seq pS.1 fun _ => #[v, .int (kf (j + 1)) t2]⟩
      simp only [hb', decide_true, if_true]
      refine wpAny_bind ?_
      refine wpAny_updateSeq pS.1 rfl (wpAny_bind (wpAny_letGo ?_))
      rw [hname]
      have I4 := I3.turnedL (t' := s2.toks) (h' := s2.heap.update S (Obj.mapSeq fun _ => #[v, .int (kf (j + 1)) t2])) (ch := [S]) (fun b o hb q => (s1.2 b (fun z => hb (by rw [z]; simp))).trans q) (fun b hb => by rw [List.mem_singleton] at hb; rw [hb]; exact fS2)
      refine wpAny_pure ⟨plainId_quiet PySem.F.plain_min_loop _, ih (j + 1) (j + 1) H2 _ d2 x2 v t2 c2 (by omega) hlt I4 (st.trans st2) m2 fI2 fS2 hlI hc2 ⟨oI', (s1.2 Ia hSI.symm).trans pI.1, hoc, hod⟩ hd2 (rd2.mono st2) rv2 (Nat.le_refl _) fun j' hj' => ?_⟩
      by_cases e : j' = j + 1
      · subst e
        exact ⟨by omega, fun _ => by omega⟩
      · have hb1 := hbest j' (by omega)
        have hb2 := hb1.1
        exact ⟨by omega, fun _ => by omega⟩
    · simp only [hb', decide_false, Bool.false_eq_true, if_false]
      refine wpAny_bind (wpAny_letGo ?_)
      rw [hname]
      refine wpAny_pure ⟨plainId_quiet PySem.F.plain_min_loop _, ih (j + 1) i H2 _ d x vb tb c (by omega) hlt I3 (st.trans st2) m2 fI2 fS2 hlI pS.1 hit2 hd (rd.mono st2) rv (by omega) fun j' hj' => ?_⟩
      by_cases e : j' = j + 1
      · subst e
        exact ⟨by omega, fun _ => by omega⟩
      · exact hbest j' (by omega)
end
section
variable {X : Cy} {P : Program} {w : World} {K : Fg} {mg : Str → Option Value} {base : Heap} {sc : Scope} {N L C Gs Bs Gs' : List Str} {k : Nat} {ρ : Ro} {M : Mm} {Q : DV → Mm → Prop} {e body : Expr} {params : Arguments} {scope : Scope} {x : Str} {i : Nat} {ms : List Bool} {pos p kp lp : Pos}
def MinKQ (P : Program) (w : World) (K : Fg) (mg : Str → Option Value) (base : Heap) (scope : Scope) (N Gs' Bs : List Str) (k : Nat) (x : Str) (body : Expr) (ρm : Ro) (Pt : Addr) (q : Str) (Q : DV → Mm → Prop) (d : DV) (M1 : Mm) : Prop :=
  ∃ (l : Addr) (t : Nat) (ds : List DV) (kf : Nat → Int) (ti : Nat), d = .ref l ∧ AtM M1 t l (.lst ds) ∧ 0 < ds.length ∧ AtM M1 ti Pt (.tab q) ∧
    (∀ (j : Nat) (hj : j < ds.length), TgN N ρm x ds[j] fun ρ2 => ∀ X', Fx X' P w K mg base scope N [x] [] Gs' Bs k → WE X' ρ2 M1 body fun dk M2 => dk = .int (kf j) ∧ Sub (· = M1) M2) ∧
    ∀ (i : Nat) (d : DV), ds[i]? = some d → (∀ j, j < ds.length → kf i ≤ kf j ∧ (j < i → kf i < kf j)) → Q d M1
theorem we_minK {c Pt : Addr} {q : Str} (F : Fx X P w K mg base sc N L C Gs Bs (k + 3)) (Mk : Mkr X c Pt q) (g1 : ("min" : Str) ∈ Gs) (g2 : ("min" : Str) ∈ Bs) (hs : isStar e = false) (Lm : Lam1 N sc scope params body x i ms Gs')
    (h : WE X ρ M e (MinKQ P w K mg base scope N Gs' Bs k x body (mask ms ρ) Pt q Q)) : WE X ρ M (.Call (.Name "min" p) [e] [⟨some "key", .Lambda params body scope lp, kp⟩] pos) Q := fun σ H rs m pins s I => by
  have Lm' : Lam1 N X.env.scope scope params body x i ms Gs' := by rw [F.hsc]; exact Lm
  have LP := lamP_ok Lm'.lp
  have hname : (toString "min" ++ toString ".loop" : String) = "min.loop" := by decide
  refine wpAny_Call_Name_kw (ld_blt I (F.gl _ g1).1 (by rw [F.hmg]; exact F.bl _ g2) (show bootBuiltins "min" = some (.builtin "min") by decide +kernel) ?_ (F.gl _ g1).2.2 (F.gl _ g1).2.1)
  refine PyProof.Rows.callWith_kw (one_arg (pos := pos) (pe_w (X := X)) I (h σ H rs m) (fun v s1 xv H1 I1 r1 q1 => ?_) (starEach_cons hs)) (by rw [starEach_cons hs]; rfl) (by rw [starEach_cons hs]; rfl)
  obtain ⟨d, M1, a1, a2, a3, l, t, ds, kf, ti, ed, hA, hne, tb, turn, fin⟩ := q1
  subst ed
  cases a1
  obtain rfl : v = Value.ref l := r1
  show wpAny _ _ (evalAll [do let v ← eval (.Lambda params body scope lp) X.env; standAt pos; pure v]) _ _ _
  refine wpAny_evalAll_cons (wpAny_bind (lam_made Mk a2 I1 tb Lm' fun f c' H2 s2 I2 st2 m2 la fn nl nf hc => wpAny_bind (wpAny_standAt (wpAny_pure (wpAny_evalAll_nil ?_)))))
  show wpAny _ _ (call (.builtin "min") [.ref l] [(Str.ofString "key", .ref f)]) _ _ _
  obtain ⟨pm, ctv, hof⟩ := la
  have IP : Inv X.toCx ((f, PySem.W.kla_obj "<lambda>" (X.env.qual ++ "<lambda>") params body scope (cloFrom X.env.cells scope.names []) pm c' ctv) :: pins) σ H2 s2 := I2.pins_of fun r hm => by
    rcases List.mem_cons.mp hm with rfl | hm
    · exact ⟨hof, fn, nl, nf, fun v z => by cases z⟩
    · exact I2.pin r (List.mem_append_right _ hm)
  have hh : X.A.handled = none := I2.ok.hd F.calm
  have R1 : Room (k + 1) X.A.in1 := (Room.in1 (k := k + 2) F.room).mono (Nat.le_succ _)
  have KT : KeyTurn X ((f, PySem.W.kla_obj "<lambda>" (X.env.qual ++ "<lambda>") params body scope (cloFrom X.env.cells scope.names []) pm c' ctv) :: pins) σ X.A.in1 f M1 ds H2 kf := by
    intro j d xj v' hdj rv pins' s' H' hsub I' rj stj mj
    have hjd : j < ds.length := (List.getElem?_eq_some_iff.mp hdj).1
    obtain ⟨ρ2, hput, hb⟩ := turn j hjd
    have edj : ds[j] = d := by rw [List.getElem?_eq_getElem hjd] at hdj; exact Option.some.inj hdj
    rw [edj] at hput
    have rs' : RS X H' ρ σ := rs.mono ((a3.trans st2).trans stj)
    have hlσ : σ.length = N.length := by rw [I'.len, F.hN]
    have hpf := I'.pin _ (List.mem_append_right X.pn (hsub _ List.mem_cons_self))
    refine thn (lam_call (σ' := σ.set i (some xj)) (binds := [(x, v')]) (k := k) (Q := fun w H3 => w = .int (kf j) ∧ Stay X.K H' H3 ∧ RM X.K H3 M1) I' LP ⟨pm, ctv, hpf.1⟩ (stj.cod _ _ hc) (fun pm ctv => Lm.hb _ _ _ _ _ _) (fun y hy => ?_) R1 I'.env0.in1 (by rw [List.length_set, I'.len]) (fun t y u hN hu => ?_) (fun hr => ?_)) fun _ _ z => z
    · rw [List.mem_singleton] at hy
      subst hy
      exact LP.par x (by simp)
    · rw [List.getElem?_set] at hu
      split at hu
      · rename_i et
        subst et
        split at hu
        · cases hu
          have : y = x := by rw [F.hN, Lm.hi] at hN; exact (Option.some.inj hN).symm
          subst this
          exact .inl ⟨v', rv, by simp, LP.par y (by simp)⟩
        · cases hu
      · rename_i et
        refine .inr ⟨fun z => ?_, hu⟩
        have := LP.loc y z
        rw [List.mem_singleton] at this
        subst this
        exact et (nodup_ix F.nd Lm.hi (by rw [← F.hN]; exact hN))
    · have W := hb _ (lam_fx F Lm X.A.in1 s' H' f c' hr) (σ.set i (some xj)) H' (lam_rs F Lm hlσ rs' hput rj X.A.in1 s' f c') mj
      refine W.mono fun w H3 ⟨dk, M2, b1, b2, b3, b4, M0, b5, b6⟩ => ?_
      subst b6 b4
      cases b1
      exact ⟨rfl, b3, b2.less b5⟩
  obtain ⟨its, hil, hls, hget⟩ := list_item IP m2 hA
  obtain ⟨ol, hol, _⟩ := id hls
  have hll : l < s2.heap.objs.size := Heap.lt_size hol
  have hlI : l ≠ s2.heap.objs.size := Nat.ne_of_lt hll
  refine kmk_tree PySem.F.kind_min PySem.F.plain_min PySem.F.entry_min (kmk_min_key _ _) ?_
  show wpAny _ X.A.in1 (Builtin.Builtins.bindParams "min" ["key", "default"] 0 ⟨[], [(Str.ofString "key", .ref f)]⟩ >>= _) _ _ s2
  refine wpAny_bind (wpAny_of_eq (show Builtin.Builtins.bindParams "min" ["key", "default"] 0 ⟨[], [(Str.ofString "key", .ref f)]⟩ = pure [some (.ref f), none] from rfl) ?_)
  refine wpAny_bind (wpAny_pure (wpAny_bind (wpAny_pyIter_list hls (wpAny_bind (wpAny_newList ?_ (Nat.zero_le _))))))
  rw [hname]
  have hS : (s2.heap.push { cls := .type "list_iterator", data := .fields #[.ref l, .int 0 0] }).objs.size = s2.heap.objs.size + 1 := size_push' ..
  have hSI : (s2.heap.push { cls := .type "list_iterator", data := .fields #[.ref l, .int 0 0] }).objs.size ≠ s2.heap.objs.size := by rw [hS]; exact Nat.ne_of_gt (Nat.lt_succ_self _)
  have I3 := IP.kept (t' := s2.toks) (h' := (s2.heap.push { cls := .type "list_iterator", data := .fields #[.ref l, .int 0 0] }).push (seqObj "list" #[] 0)) fun b o z => Heap.get?_push_of_some _ (Heap.get?_push_of_some _ z)
  have fI := IP.fpOk (b := s2.heap.objs.size) (Nat.le_refl _) (IP.hok.fresh (Nat.le_refl _))
  have fS := IP.fpOk (b := (s2.heap.push { cls := .type "list_iterator", data := .fields #[.ref l, .int 0 0] }).objs.size) (by rw [hS]; exact Nat.le_succ _) (IP.hok.fresh (by rw [hS]; exact Nat.le_succ _))
  have gI : ((s2.heap.push { cls := .type "list_iterator", data := .fields #[.ref l, .int 0 0] }).push (seqObj "list" #[] 0)).get? s2.heap.objs.size = some { cls := .type "list_iterator", data := .fields #[.ref l, .int 0 0] } := Heap.get?_push_of_some _ (Heap.get?_push_size _ rfl)
  have gS : ((s2.heap.push { cls := .type "list_iterator", data := .fields #[.ref l, .int 0 0] }).push (seqObj "list" #[] 0)).get? (s2.heap.push { cls := .type "list_iterator", data := .fields #[.ref l, .int 0 0] }).objs.size = some (seqObj "list" #[] 0) := Heap.get?_push_size _ rfl
  have hls3 : ((s2.heap.push { cls := .type "list_iterator", data := .fields #[.ref l, .int 0 0] }).push (seqObj "list" #[] 0)).IsList l its.toArray := hls.at fun o z => Heap.get?_push_of_some _ (Heap.get?_push_of_some _ z)
  generalize (s2.heap.push { cls := .type "list_iterator", data := .fields #[.ref l, .int 0 0] }).objs.size = S at hSI fS gS
  generalize (s2.heap.push { cls := .type "list_iterator", data := .fields #[.ref l, .int 0 0] }).push (seqObj "list" #[] 0) = hN at I3 gI gS hls3
  have W := Walks.list (prog := X.prog) (w := X.w) (A := X.A.in1) hh s2.heap.objs.size l hlI its.toArray
  have hsz : its.toArray.size = ds.length := by rw [List.size_toArray, hil]
  refine wpAny_pure ⟨plainId_quiet PySem.F.plain_min_loop _, codeAny_builtin PySem.F.entry_min_loop ?_⟩
  rw [Around.under_plainId PySem.F.plain_min_loop _]
  show wpAny _ X.A.in1 (seqItems? (.ref S) >>= _) _ _ _
  refine wpAny_bind (wpAny_seqItems gS rfl ?_)
  show wpAny _ X.A.in1 (tryCatch (pyNext (.ref s2.heap.objs.size)) _ >>= _) _ _ _
  refine wpAny_bind (wpAny_tryCatch (W.item 0 _ _ _ (by rw [hsz]; exact hne) ⟨⟨_, gI, rfl, rfl⟩, hls3⟩ fun v h' tk' hP hst' hk' => ?_))
  have hv : its[0]? = some v := by simpa using hP
  obtain ⟨d2, x2, hd2, rd2, rv2⟩ := hget _ _ hv
  obtain ⟨oI', hoI', hoc, hod⟩ := id hst'.1
  have I4 := I3.turnedL (t' := tk') (h' := h') (ch := [s2.heap.objs.size]) (fun b o hb z => hk' b o hb z) (fun b hb => by rw [List.mem_singleton] at hb; rw [hb]; exact fI)
  have hS' := hk' S _ (by simpa using hSI) gS
  have IP2 : Inv X.toCx ([(S, seqObj "list" #[] 0), (s2.heap.objs.size, oI')] ++ ((f, PySem.W.kla_obj "<lambda>" (X.env.qual ++ "<lambda>") params body scope (cloFrom X.env.cells scope.names []) pm c' ctv) :: pins)) σ H2 { s2 with heap := h', toks := tk' } := I4.pins_of fun p hm => by
    rcases List.mem_append.mp hm with hm | hm
    · rcases List.mem_cons.mp hm with rfl | hm
      · exact ⟨hS', fS.1, fS.2.1, fS.2.2.1, fun v z => by cases z⟩
      · rcases List.mem_cons.mp hm with rfl | hm
        · exact ⟨hoI', fI.1, fI.2.1, fI.2.2.1, fun v z => by rw [hod] at z; cases z⟩
        · cases hm
    · exact I4.pin p (List.mem_append_right _ hm)
  show wpAny _ X.A.in1 (tryCatch (holding [v] (call (.ref f) [v])) _ >>= _) _ _ _
  refine wpAny_bind (wpAny_tryCatch (wpAny_holding (wpAny_mono (KT 0 d2 x2 v hd2 rv2 _ _ H2 (fun z hz => List.mem_append_right _ hz) IP2 rd2 Stay.refl m2) (fun u s3 he => ?_) fun _ _ hF => hF.elim)))
  obtain ⟨w2, H3, I5, ru, ew, st3, m3⟩ := he
  subst ew
  obtain ⟨t2, rfl⟩ := ru
  have pS := I5.pin (S, seqObj "list" #[] 0) (List.mem_append_right _ (by simp))
  have pI := I5.pin (s2.heap.objs.size, oI') (List.mem_append_right _ (by simp))
  have I6 := I5.pins_of (pins' := (f, PySem.W.kla_obj "<lambda>" (X.env.qual ++ "<lambda>") params body scope (cloFrom X.env.cells scope.names []) pm c' ctv) :: pins) fun p hm => I5.pin p (List.mem_append_right _ (List.mem_append_right _ hm))
  have s1 := Heap.SameBut.update s3.heap S (Obj.mapSeq fun _ => #[v, .int (kf 0) t2])
  obtain ⟨c2, hc2⟩ : ∃ c2, (s3.heap.update S (Obj.mapSeq fun _ => #[v, .int (kf 0) t2])).get? S = some (seqObj "list" #[v, .int (kf 0) t2] c2) := ⟨_, get?_update_seq pS.1 fun _ => #[v, .int (kf 0) t2]⟩
  show wpAny _ X.A.in1 (updateSeq S (fun _ => #[v, .int (kf 0) t2]) >>= _) _ _ _
  refine wpAny_bind (wpAny_updateSeq pS.1 rfl ?_)
  rw [hname]
  have I7 := I6.turnedL (t' := s3.toks) (h' := s3.heap.update S (Obj.mapSeq fun _ => #[v, .int (kf 0) t2])) (ch := [S]) (fun b o hb z => (s1.2 b (fun y => hb (by rw [y]; simp))).trans z) (fun b hb => by rw [List.mem_singleton] at hb; rw [hb]; exact fp_at fS pS.2.1)
  refine wpAny_pure ⟨plainId_quiet PySem.F.plain_min_loop _, min_loop hA kf hh hSI KT (fun i d x v H s hd hb I st m rd rv => ?_) _ 0 0 H3 _ d2 x2 v t2 c2 rfl hne I7 st3 m3 (fp_at fI pI.2.1) (fp_at fS pS.2.1) hlI hc2 ⟨oI', (s1.2 _ hSI.symm).trans pI.1, hoc, hod⟩ hd2 (rd2.mono st3) rv2 (Nat.le_refl _) fun j' hj' => ?_⟩
  · exact ⟨x, H, I.pins_of fun p hm => I.pin p (List.mem_append_right _ (List.mem_cons_of_mem _ hm)), rv, d, M1, rd, m, (a3.trans st2).trans st, fin i d hd hb⟩
  · have e : j' = 0 := by omega
    subst e
    exact ⟨by omega, fun h => absurd h (Nat.lt_irrefl _)⟩
end
end G
namespace G
open PySem L2
/-! ### exceptions as values: C(..) by position and by name -/
section
open PySem.HandSPX PySem.W PySem.Calls
variable {prog : Program} {w : World} {M : Model} {A : Around} {E : Value → Shared → Prop} {R : Result → Shared → Prop} {h : Heap} {g : Array GenState} {d : Drawn} {t : Nat} {os : OsState} {kw : List (Str × Value)} {rest : List Value}
variable {nm q : Str} {C N : Addr} {bs bm bmB : List Value} {hdct : Bool} {sn : List Str} {sub : List Value} {ab : Bool} {col : Option Bool} {dd : Option Addr} {k0 k1 k2 k3 k5 : Option Value} {B newId initId : String}
theorem x_check (F : ExcBaseFacts B newId initId bmB) (hT : ∀ X : String, bm.contains (.type X) = bmB.contains (.type X)) {Q : Unit → Shared → Prop} (hC : h.get? C = some (excClassObj nm q C N bs bm hdct sn sub ab col dd k0 k1 k2 k3 k5 newId)) (hq : Q () ⟨h, g, d, t, os⟩) : wpAny M A (checkBuiltinCall newId ⟨.ref C :: rest, kw⟩) Q E ⟨h, g, d, t, os⟩ := by
  have c0 : (Value.ref C :: bm).contains (.type B) = true := by rw [List.contains_cons, hT, F.hasB, Bool.or_true]
  have c1 := F.noStar
  simp only [checkBuiltinCall, F.newKind, F.newSplit, F.newRow]
  repeat (first | refine wpAny_loadPart_at hC ?_ | (refine wpAny_isSubtype_exc hC ?_; rw [c0]) | refine wpAny_staticBase_exc hC ?_ | refine wpAny_madeBy_exc hC ?_ | simp only [bne_self_eq_false, Bool.false_eq_true, if_false] | wp_step)
  exact hq
theorem x_new (F : ExcBaseFacts B newId initId bmB) (hT : ∀ X : String, bm.contains (.type X) = bmB.contains (.type X)) (hC : h.get? C = some (excClassObj nm q C N bs bm hdct sn sub ab col dd k0 k1 k2 k3 k5 newId))
    (hq : R (.ok (.ret (.ref (h.objs.size + 1)))) ⟨(h.push (W.kdv_tup rest)).push (excO C h.objs.size), g, d, t, os⟩) (hrest : rest.length ≤ sizeLine) : codeAny (model prog w) A (.builtin newId ⟨.ref C :: rest, kw⟩) R ⟨h, g, d, t, os⟩ := by
  have c0 := F.ends
  have c1 : (Value.ref C :: bm).contains (.type B) = true := by rw [List.contains_cons, hT, F.hasB, Bool.or_true]
  have c2 : (Value.ref C :: bm).contains (.type "AttributeError") = false := by rw [List.contains_cons, hT, F.noAttr]; rfl
  have c3 : (Value.ref C :: bm).contains (.type "NameError") = false := by rw [List.contains_cons, hT, F.noName]; rfl
  refine codeAny_builtinAt F.entry (?_ : PySem.wpAt _ _ _ (Builtin.«BaseException.__new__» _) _ _ _)
  unfold Builtin.«BaseException.__new__»
  refine wpAt_bind (?_ : PySem.wpAt _ _ _ (stack >>= _) _ _ _)
  refine wpAt_bind (wpAt_stack fun p below => wpAt_of_wpAny ?_)
  wp_walk
  refine wpAt_of_wpAny ?_
  rw [F.owner]
  repeat (first | with_reducible refine wpAny_madeHere_exc F.canon hC ?_ | with_reducible refine wpAny_loadPart_at hC ?_ | (with_reducible refine wpAny_isSubtype_exc hC ?_; first | rw [c1] | rw [c2] | rw [c3]) | wp_step)
  show R _ _
  rw [Heap.size_push]
  exact hq
theorem x_tcall (F : ExcBaseFacts B newId initId bmB) (hT : ∀ X : String, bm.contains (.type X) = bmB.contains (.type X)) {fI : Addr} {Q : Fin → Shared → Prop} (hC : h.get? C = some (excClassObj nm q C N bs bm hdct sn sub ab col dd k0 k1 k2 k3 k5 newId))
    (hi : W.Looks (model prog w) h (typeLookup (.ref C) "__init__") (some (.ref fI))) (hb : ∀ self, W.Looks (model prog w) h (bindSpecial (.ref fI) self) (.ref fI, [self])) (hrest : rest.length ≤ sizeLine)
    (hq : codeAny (model prog w) A (.call (.ref fI) ⟨.ref (h.objs.size + 1) :: rest, kw⟩) (fun r s' => match r with | .ok (.ret v) => v = .none ∧ Q (.done (.ret (.ref (h.objs.size + 1)))) s' | .ok _ => False | .error e => E e s') ⟨(h.push (W.kdv_tup rest)).push (excO C h.objs.size), g, d, t, os⟩) :
    wpAny (model prog w) A (Builtin.«type.__call__» ⟨.ref C :: rest, kw⟩) Q E ⟨h, g, d, t, os⟩ := by
  repeat (first | with_reducible refine wpAny_loadPart_at hC ?_ | with_reducible refine wpAny_madeBy_exc hC ?_ | wp_step)
  refine codeAny_call_builtin_code (Code.quiet_builtin _ F.quiet) (x_check F hT hC (x_new F hT hC (?_ : wpAny _ _ _ _ _ _) hrest))
  have k : ∀ b o, h.get? b = some o → ((h.push (W.kdv_tup rest)).push (excO C h.objs.size)).get? b = some o := fun b o e => Heap.get?_push_of_some _ (Heap.get?_push_of_some _ e)
  have c1 := k _ _ hC
  have c2 : ((h.push (W.kdv_tup rest)).push (excO C h.objs.size)).get? (h.objs.size + 1) = some (excO C h.objs.size) := by heap_get
  have c3 : (Value.ref C :: bm).contains (.ref C) = true := by simp
  have i1 := hi.keeps k
  have b1 := (hb (.ref (h.objs.size + 1))).keeps k
  unfold isInstance
  repeat (first | with_reducible refine wpAny_loadPart_at c2 ?_ | (with_reducible refine wpAny_isSubtype_exc c1 ?_; rw [c3]) | wp_step)
  refine (?_ : wpAny _ _ (typeLookup (.ref C) _) _ _ _)
  refine i1.at (wpAny_holding (wpAny_bind (b1.at (wpAny_bind (wpAny_call (codeAny_mono hq fun r s' z => ?_))))))
  rcases r with e | (v | _ | _ | _) <;> first | exact z | exact z.elim | skip
  obtain ⟨rfl, z⟩ := z
  first | exact wpAny_pure (wpAny_pure z) | (wp_walk; exact z)
theorem x_tcheck {Q : Unit → Shared → Prop} (hC : h.get? C = some (excClassObj nm q C N bs bm hdct sn sub ab col dd k0 k1 k2 k3 k5 newId)) (hq : Q () ⟨h, g, d, t, os⟩) : wpAny M A (checkBuiltinCall "type.__call__" ⟨.ref C :: rest, kw⟩) Q E ⟨h, g, d, t, os⟩ := by
  have f3 := tc_sub
  have c0 : (⟨h, g, d, t, os⟩ : Shared).TypeIs (.ref C) "type" := ⟨_, hC, rfl⟩
  simp only [checkBuiltinCall, tc_kind, tc_split]
  repeat (any_goals (first | assumption | with_reducible refine wpAny_loadPart_at hC ?_ | with_reducible refine wpAny_onRaise ?_ | with_reducible refine wpAny_map ?_ | wp_step))
theorem x_call (F : ExcBaseFacts B newId initId bmB) (hT : ∀ X : String, bm.contains (.type X) = bmB.contains (.type X)) {fI : Addr} (hC : h.get? C = some (excClassObj nm q C N bs bm hdct sn sub ab col dd k0 k1 k2 k3 k5 newId))
    (hi : W.Looks (model prog w) h (typeLookup (.ref C) "__init__") (some (.ref fI))) (hb : ∀ self, W.Looks (model prog w) h (bindSpecial (.ref fI) self) (.ref fI, [self])) (hrest : rest.length ≤ sizeLine)
    (hq : codeAny (model prog w) (A.under (.builtin "type.__call__" ⟨.ref C :: rest, kw⟩)) (.call (.ref fI) ⟨.ref (h.objs.size + 1) :: rest, kw⟩) (W.InitBack (h.objs.size + 1) R) ⟨(h.push (W.kdv_tup rest)).push (excO C h.objs.size), g, d, t, os⟩) : codeAny (model prog w) A (.call (.ref C) ⟨rest, kw⟩) R ⟨h, g, d, t, os⟩ := by
  have f1 := tc_lookup
  have f2 := tc_bind (.ref C)
  have c0 : (⟨h, g, d, t, os⟩ : Shared).TypeIs (.ref C) "type" := ⟨_, hC, rfl⟩
  refine codeAny_of_tree (?_ : wpAny _ _ (callAny (.ref C) _) _ _ _)
  repeat (any_goals (first | assumption | with_reducible refine wpAny_loadPart_at hC ?_ | wp_step))
  refine ⟨rfl, codeAny_call_builtin_at (Code.quiet_builtin _ (by decide +kernel)) entry_typeCall (x_tcheck hC (x_tcall F hT hC hi hb hrest (codeAny_mono hq fun r s' z => ?_)))⟩
  rcases r with e | (v | _ | _ | _) <;> exact z
end
section
variable {X : Cx} {pins : List (Addr × Obj)} {σ : L2.St} {H : Hp} {s : Shared} {a C dx : Addr} {φ : Heap → Prop} {o' : HO}
/-- the same object, known by other words -/
theorem inv_re (I : Inv X pins σ H s) (ea : H a = some (.ext φ)) (new : ObjOk X.prog X.w (upd H a o') s.heap a o') : Inv X pins σ (upd H a o') s := by
  have nn : ∀ {b : Addr}, H b = none → b ≠ a := fun {b} n z => by rw [z, ea] at n; cases n
  have nt : ∀ {b : Addr} {xs : List V}, H b = some (.tup xs) → b ≠ a := fun {b xs} n z => by rw [z, ea] at n; cases n
  have no : ∀ {b c : Addr}, H b = some (.own c) → b ≠ a := fun {b c} n z => by rw [z, ea] at n; cases n
  have nf : ∀ {b : Addr} {o : Obj} {u : HO}, H b = some (.frz o u) → b ≠ a := fun {b o u} n z => by rw [z, ea] at n; cases n
  have nb : ∀ {b : Addr} {ps : Array Value}, H b = some (.tbl ps) → b ≠ a := fun {b ps} n z => by rw [z, ea] at n; cases n
  refine I.un (t' := s.toks) ({ keep := fun b o q _ _ _ => q, slot := fun b o q _ _ _ => ⟨o.slots, q⟩, free := fun b o q n _ => by rw [upd_ne (nn n)]; exact n, there := fun b o q _ => ⟨o, q⟩, tups := fun b xs q => by rw [upd_ne (nt q)]; exact q, frzs := fun b o v q => by rw [upd_ne (nf q)]; exact q, tbls := fun b ps q => ⟨#[], by rw [upd_ne (nb q), q]; simp⟩ } : Un X.fs [] H (upd H a o') s.heap s.heap) fun b o q => ?_
  by_cases hb : b = a
  · subst hb
    rw [upd_same] at q
    cases q
    exact new
  · rw [upd_ne hb] at q
    exact (I.hok b o q).stay (fun c v _ z => z) (fun c z => by rw [upd_ne (no z)]; exact z) fun c xs z => by rw [upd_ne (nt z)]; exact z
/-- __init__ lays the fields fs, the last one first -/
def InitF (sp : Sp) (C : Addr) (fs : List Str) : Prop := ∀ (vs : List V) (H : Hp) (a : Addr) (Q : VK), vs.length = fs.length → H a = none →
  (∀ dx H2, H dx = none → dx ≠ a → H2 a = some (exo a C (some dx)) → H2 dx = some (exd dx (fs.zip vs).reverse) → (∀ b, b ≠ a → b ≠ dx → H2 b = H b) → Q .non H2) → sp (.ref a :: vs) (upd H a (exo a C none)) Q (fun _ _ _ => False)
def ExcQ (C : Addr) (fs : List Str) (vs : List V) (H : Hp) (Q : VK) : Prop := ∀ a dx oe, H a = none → H dx = none → dx ≠ a → oe.cls = .ref C → oe.dict = some dx → (∃ ws, oe.data = .fields ws) → Q (.ref a) (upd (upd H dx (.xd (fs.zip vs).reverse)) a (PinO a oe))
theorem run_exc {CX : CXT} {fI : Addr} {k : Nat} {fd : FuncData} {ps fs ks : List Str} {sp : Sp} {g : List Value → List Value → List Value} {gV : List V → List V → List V} {Q : VK} {us ws : List Value} {vs zs vz : List V} {n : Nat} (T : OexC X.K C) (iC : PySem.W.findIn X.K (.ref C) "__init__" = some (some (.ref fI))) (tI : PySem.W.typeIn X.K (.ref fI) = some (.type "function"))
    (F1 : FnOk X.prog X.w X.K X.mg X.base CX k fI fd ps sp) (hi : InitF sp C fs) (hr : Room (k + 1) X.A) (hb : KBn X.K fd ps (n + 1) ks g gV) (hx : Passes CX X (fun _ _ _ => False)) (I : Inv X pins σ H s) (r : Vals vs us) (rz : Vals zs ws) (l1 : vs.length = n) (l2 : zs.length = ks.length) (hn : n ≤ 1000) (hg : ∀ a : Addr, gV (.ref a :: vs) zs = .ref a :: vz) (hl : vz.length = fs.length)
    (h : ExcQ C fs vz H Q) : wpAny (model X.prog X.w) X.A (call (.ref C) us (ks.zip ws)) (EP X pins σ Q) X.xe s := by
  obtain ⟨nm, q, N, bs, bm, sn, sub, ab, col, dd, k0, k1, k2, k3, k5, hC, hbm⟩ := T.cls
  obtain ⟨hp, gs, dr, tk, os⟩ := s
  have hsz : hp.objs.size ≤ hp.objs.size + 1 := Nat.le_succ _
  have hn0 : H (hp.objs.size + 1) = none := I.hok.fresh hsz
  have kk : ∀ b o, hp.get? b = some o → ((hp.push (PySem.W.kdv_tup us)).push (PySem.HandSPX.excO C hp.objs.size)).get? b = some o := fun b o e => Heap.get?_push_of_some _ (Heap.get?_push_of_some _ e)
  have hget : ((hp.push (PySem.W.kdv_tup us)).push (PySem.HandSPX.excO C hp.objs.size)).get? (hp.objs.size + 1) = some (PySem.HandSPX.excO C hp.objs.size) := by heap_get
  have I2 : Inv X pins σ (upd H (hp.objs.size + 1) (exo (hp.objs.size + 1) C none)) ⟨(hp.push (PySem.W.kdv_tup us)).push (PySem.HandSPX.excO C hp.objs.size), gs, dr, tk, os⟩ := I.laid (t' := tk) (a := hp.objs.size + 1) (o := exo (hp.objs.size + 1) C none) kk hsz (exo_ok hget)
  have r1 : Vals (V.ref (hp.objs.size + 1) :: vs) (Value.ref (hp.objs.size + 1) :: us) := .cons rfl r
  have r2 := hb.rel r1 rz
  have n1 : (Value.ref (hp.objs.size + 1) :: us).length = n + 1 := by rw [List.length_cons, ← r.length, l1]
  have hus : us.length ≤ sizeLine := by rw [← r.length, sizeLine_eq]; omega
  rw [hg] at r2
  refine wpAny_call (x_call F.excBase_ValueError (fun Y => PySem.HandSPX.refsVE_contains Y bm hbm) (I.kIn _ _ hC) (PySem.W.looks_findIn I.kIn iC) (fun self => PySem.W.bind_fn I.kIn self tI) hus
    (codeAny_mono (F1.run _ X.stack _ _ ⟨Value.ref (hp.objs.size + 1) :: us, ks.zip ws⟩ (g (Value.ref (hp.objs.size + 1) :: us) ws) _ (fun v H2 => v = .non ∧ ∃ dx, H dx = none ∧ dx ≠ hp.objs.size + 1 ∧ H2 (hp.objs.size + 1) = some (exo (hp.objs.size + 1) C (some dx)) ∧ H2 dx = some (exd dx (fs.zip vz).reverse) ∧ ∀ b, b ≠ hp.objs.size + 1 → b ≠ dx → H2 b = H b) (fun _ _ _ => False) (hr.make C us (ks.zip ws))
      (I2.env0.make C us (ks.zip ws)) (hb.to _ (Value.ref (hp.objs.size + 1) :: us) ws I2.kIn n1 (rz.length.symm.trans l2)) r2 (hi vz H _ _ hl hn0 fun dx H2 e1 e2 e3 e4 e5 => ⟨rfl, dx, e1, e2, e3, e4, e5⟩)) fun r s' hq' => ?_))
  cases r with
  | error e => exact hx pins σ _ _ e s' I2 hq'
  | ok fl =>
    cases fl with
    | ret u =>
      obtain ⟨v, H2, I3, rv, ev, dx, e1, e2, e3, e4, e5⟩ := I2.after hq'
      subst ev
      obtain ⟨t1, ho⟩ := exo_at I3.hok e3
      have J := inv_re (a := dx) (o' := .xd (fs.zip vz).reverse) I3 e4 (exd_at I3.hok e4)
      have J2 := inv_re (a := hp.objs.size + 1) (o' := PinO _ _) J (by rw [upd_ne (Ne.symm e2)]; exact e3) ⟨ho, ho, ⟨_, ho⟩, fun h1 h2 z k => k _ z⟩
      have eH : upd (upd H2 dx (.xd (fs.zip vz).reverse)) (hp.objs.size + 1) (PinO (hp.objs.size + 1) { cls := .ref C, dict := some dx, data := .fields #[.ref t1, .none, .none, .none, .bool false, .none] }) = upd (upd H dx (.xd (fs.zip vz).reverse)) (hp.objs.size + 1) (PinO (hp.objs.size + 1) { cls := .ref C, dict := some dx, data := .fields #[.ref t1, .none, .none, .none, .bool false, .none] }) := by
        funext b
        by_cases hb1 : b = hp.objs.size + 1
        · subst hb1; rw [upd_same, upd_same]
        · rw [upd_ne hb1, upd_ne hb1]
          by_cases hb2 : b = dx
          · subst hb2; rw [upd_same, upd_same]
          · rw [upd_ne hb2, upd_ne hb2]; exact e5 b hb1 hb2
      rw [eH] at J2
      exact ⟨rv, ⟨V.ref (hp.objs.size + 1), _, J2, rfl, h _ _ _ hn0 e1 e2 rfl rfl ⟨_, rfl⟩⟩⟩
    | next => exact False.elim hq'
    | brk => exact False.elim hq'
    | cont => exact False.elim hq'
end
end G
namespace G
open PySem L2
/-! ### exceptions as values: what may be asked of them -/
section
open PySem.W
variable {prog : Program} {w : World} {A : Around} {E : Value → Shared → Prop} {s : Shared} {K : Frag} {x D : Addr} {ox : Obj} {od : Option Obj}
theorem x_fo {C : Addr} {name : Str} {a g : Value} (hc : (clsIn K C).isSome = true) (ha : findIn K (.ref C) name = some (some a)) (hg : specialIn K a "__get__" = some (some g)) (ht : takesIn K a = some true) : findObj K C od name = some (.bind g a) := by
  obtain ⟨cd, e⟩ := Option.isSome_iff_exists.mp hc
  unfold findObj
  rw [e, Option.bind_some, ha, Option.bind_some]
  simp [hg, ht]
theorem x_class {Q : Option Value → Shared → Prop} (T : ExcC K D) (X : K.In s.heap) (I : PySem.W.InstAt s.heap x ox D od) (h : Q (some (.ref D)) { s with toks := s.toks + 1 }) : wpAny (model prog w) A (getAttr? (.ref x) "__class__") Q E s := by
  have hf : findObj K D od "__class__" = some (.bind (.builtin "getset_descriptor.__get__") (.builtin "object.__class__")) := x_fo (by obtain ⟨cd, hc, _⟩ := any_some T.hd; rw [hc]; rfl) T.ha T.hn T.ht
  obtain ⟨hp, g, d, t, os⟩ := s
  have L0 := I.type (M := model prog w); have L1 := looks_findIn (M := model prog w) X T.hg; have L2 := looks_findIn (M := model prog w) X T.hk; have L3 := looks_find (M := model prog w) X I hf
  have sub : Looks (model prog w) hp (isInstance (.ref x) (.type "BaseException")) true := L0.andThen (looks_subIn X T.hs)
  have y0 : (false && onTheHeap (Value.builtin "BaseException.__getattribute__")) = false := rfl
  have y2 : (Value.builtin "BaseException.__getattribute__" == Value.builtin "object.__getattribute__") = false := by decide +kernel
  have y1 : (onTheHeap (Value.ref D) && Value.builtin "BaseException.__getattribute__" == Value.builtin "object.__getattribute__") = false := by rw [y2]; rfl
  unfold getAttr? getAttrBy? getAttrBy
  refine wpAny_bind (wpAny_mkText (wpAny_bind (wpAny_attempt (wpAny_holding (wpAny_bind (L0.at (wpAny_bind (L1.at (?_ : wpAny _ _ (if (onTheHeap (Value.ref D) && Value.builtin "BaseException.__getattribute__" == Value.builtin "object.__getattribute__") = true then _ else _) _ _ _)))))))))
  rw [y1, if_neg Bool.false_ne_true]
  unfold getAttrByItsOwn hookBefore
  refine wpAny_bind ?_
  rw [if_pos (show onTheHeap (Value.ref D) = true from rfl)]
  refine L2.at (wpAny_bind (wpAny_attempt (wpAny_holding ?_)))
  unfold callGetattribute
  rw [y0, if_neg Bool.false_ne_true]
  unfold boundAndCalled
  rw [PySem.F.excAttr_ValueError.ga.bind (.ref x)]
  refine wpAny_bind (wpAny_pure (?_ : wpAny _ _ (call (.builtin "BaseException.__getattribute__") [.ref x, .str "__class__" t]) _ _ _))
  refine wpAny_call (codeAny_call_builtin PySem.F.excAttr_ValueError.ga.plain PySem.F.entry_bexc_ga (@check_slot (model prog w) _ _ ⟨hp, g, d, t + 1, os⟩ "BaseException.__getattribute__" "BaseException" "__getattribute__" (.ref x) [.str "__class__" t] [] _ (by decide +kernel) (by decide +kernel) sub (PySem.F.args_bexc_ga (.ref x) (.str "__class__" t)) ?_))
  unfold Builtin.«object.__getattribute__»
  refine wpAny_bind (wpAny_of_eq (a := ((Value.ref x : Value), [Value.str "__class__" t])) (by first | rfl | (simp only [slotArgs]; rfl)) (wpAny_bind (wpAny_pure (wpAny_bind (L0.at (wpAny_bind (L3.at (?_ : wpAny _ _ (holding [Value.builtin "object.__class__"] (call (.builtin "getset_descriptor.__get__") [.builtin "object.__class__", .ref x, .ref D]) >>= ret) _ _ _))))))))
  refine wpAny_bind (wpAny_holding (wpAny_call (class_get (s := ⟨hp, g, d, t + 1, os⟩) (ox := ox) (od := od) X I T.hm (wpAny_pure (?_ : wpAny _ _ (handedOut (.ref D)) _ _ _)))))
  rw [handedOut_of (v := .ref D) rfl]
  first
    | exact wpAny_pure (wpAny_pure h)
    | exact wpAny_pure h
    | exact wpAny_pure (wpAny_bind (wpAny_pure (wpAny_pure h)))
theorem x_kit (T : ExcC K D) : KitX K (.ref x) (.ref D) (fun h => ∃ od, PySem.W.InstAt h x ox D od) where
  ty := fun _ _ _ ⟨od, I⟩ => I.type
  it := fun _ _ X _ => by
    obtain ⟨cdD, hcD, _⟩ := any_some T.hd
    unfold clsIn at hcD
    split at hcD
    · rename_i c' d' cd' sl' ho
      intro A' Q' E' s' k q
      unfold isType loadHead
      exact wpAny_bind (wpAny_loadPart (k _ _ (X _ _ ho)) (wpAny_pure q))
    · cases hcD
  ne := fun h tp dd its n sl X htp => by
    obtain ⟨cdD, hcD, _⟩ := any_some T.hd
    refine Bool.eq_false_iff.mpr fun q => ?_
    have e : D = tp := Value.ref.inj (beq_iff_eq.mp q)
    subst e
    unfold clsIn at hcD
    split at hcD
    · rename_i c' d' cd' sl' ho
      have z := (X _ _ ho).symm.trans htp
      cases z
    · cases hcD
  ca := fun X ⟨od, I⟩ k => x_class T X I k
end
/-- an exception's object, as it is held -/
def XH (H : Hp) (a C : Addr) (gs : List (Str × V)) : Prop := ∃ oe : Obj, H a = some (PinO a oe) ∧ oe.cls = .ref C ∧ (∃ vs, oe.data = .fields vs) ∧ ((oe.dict = none ∧ gs = []) ∨ ∃ dx, oe.dict = some dx ∧ H dx = some (.xd gs))
section
variable {X : Cx} {pins : List (Addr × Obj)} {σ : L2.St} {H : Hp} {s : Shared} {a C : Addr} {gs : List (Str × V)}
theorem XH.inst (I : Inv X pins σ H s) (h : XH H a C gs) : ∃ oe od, PySem.W.InstAt s.heap a oe C od ∧ ∀ f v, gs.lookup f = some v → ∃ u, RelV v u ∧ ∃ o, od = some o ∧ PySem.W.lookIn f o = some (some u) := by
  obtain ⟨oe, h1, h2, ⟨vs, h3⟩, h4⟩ := h
  obtain ⟨ha, _⟩ := I.hok a _ h1
  have no : PySem.W.notCls oe = true := by unfold PySem.W.notCls; rw [h3] <;> rfl
  rcases h4 with ⟨e1, e2⟩ | ⟨dx, e1, e2⟩
  · subst e2
    exact ⟨oe, none, ⟨ha, h2, no, by rw [e1]; trivial⟩, fun f v z => nomatch z⟩
  · obtain ⟨mA, hns, hr⟩ := (show ObjOk X.prog X.w H s.heap dx (.xd gs) from I.hok dx _ e2)
    obtain ⟨od, ho, hl⟩ := lookIn_ns hns
    refine ⟨oe, some od, ⟨ha, h2, no, by rw [e1]; exact ho⟩, fun f v z => ?_⟩
    obtain ⟨u, hu, ru⟩ := RelO.some_of (v := v) (o := mA f) (by rw [← z]; exact hr f)
    exact ⟨u, ru, od, rfl, by rw [hl, hu]⟩
/-- isinstance(e, c) -/
def rIsX (K : Fg) : List V → Hp → VK → Prop := fun xs H Q => ∃ a C gs c cv b, xs = [.ref a, c] ∧ XH H a C gs ∧ ExcC K C ∧ (∀ u, RelV c u → u = cv) ∧ PySem.W.kitOne K (.ref C) cv = some b ∧ Q (.bl b) H
theorem call_isX : CallR X (.builtin "isinstance") (rIsX X.K) := fun pins s σ H xs us Q I r h => by
  obtain ⟨a, C, gs, c, cv, b, rfl, hx, T, hcv, e, q⟩ := h
  obtain ⟨u1, u2, rfl, r1, r2⟩ := vals2 r
  cases (show u1 = Value.ref a from r1)
  have ec := hcv _ r2
  subst ec
  obtain ⟨oe, od, J, _⟩ := hx.inst I
  exact PySem.W.kia_one (x_kit T) I.kIn ⟨od, J⟩ e (fun z => nomatch z) fun tk => ⟨.bl b, H, I.tok tk, rfl, q⟩
/-- e.f -/
theorem pe_xg {e : Expr} {te : TE} {pos : Pos} {n : Str} (he : PE X e te) (hb : attributeBase e n X.env (eval e X.env) = eval e X.env) :
    PE X (.Attribute e n pos) (fun σ H Q => te σ H fun x H1 => ∃ a C gs v, x = .ref a ∧ XH H1 a C gs ∧ XfC X.K C ∧ PySem.W.findIn X.K (.ref C) n = some none ∧ gs.lookup n = some v ∧ Q v H1) := by
  refine ⟨fun pins s σ H Q I h => ?_⟩
  refine attr_of hb (thn (he.run pins s σ H _ I h) fun u s1 ⟨x, H1, I1, rx, a, C, gs, v, ex, hx, T, hno, l, q⟩ => ?_)
  subst ex
  obtain rfl : u = Value.ref a := rx
  obtain ⟨oe, od, J, hl⟩ := hx.inst I1
  obtain ⟨u, ru, o, e1, e2⟩ := hl _ _ l
  subst e1
  exact HandSPX.exc_get I1.kIn J T.ga T.gg T.exC (PySem.W.findObj_own T.hdC hno rfl e2) (handed_of ru) ⟨v, H1, I1.tok _, ru, q⟩
/-- two lists of the same values -/
def rNeS (K : Fg) : R2 := fun x y H Q => ∃ a b xs, x = .ref a ∧ y = .ref b ∧ SqL K H a xs ∧ SqL K H b xs ∧ (∀ v ∈ xs, flatB v = true ∨ ∃ c, v = .ref c) ∧ Q (.bl false) H
theorem op_neS (hu : X.A.units < cLine) : OpR X (compareOp .NotEq) (rNeS X.K) := fun pins s σ H x y v u Q I rx ry h => by
  obtain ⟨a, b, xs, rfl, rfl, ha, hb, hf, q⟩ := h
  cases (show v = Value.ref a from rx)
  cases (show u = Value.ref b from ry)
  obtain ⟨us, r1, p1, _⟩ := I.list ha
  obtain ⟨ws, r2, p2, _⟩ := I.list hb
  have hsz : us.toArray.size = ws.toArray.size := by rw [List.size_toArray, List.size_toArray, ← r1.length, ← r2.length]
  have it : ∀ (xs : List V) (us ws : List Value), Vals xs us → Vals xs ws → (∀ v ∈ xs, flatB v = true ∨ ∃ c, v = .ref c) → ∀ j (h1 : j < us.length) (h2 : j < ws.length), SeqAt.EqAt X.A.in1 s us[j] ws[j] true := by
    intro xs
    induction xs with
    | nil => intro us ws r1 r2 _ j h1; cases r1; exact absurd h1 (Nat.not_lt_zero j)
    | cons z zs ih =>
      intro us ws r1 r2 hf j h1 h2
      cases r1 with
      | cons a1 b1 =>
        cases r2 with
        | cons a2 b2 =>
          cases j with
          | zero =>
            rcases hf z List.mem_cons_self with f | ⟨c, f⟩
            · exact eqAt_same a1 a2 f
            · subst f
              cases (show _ = Value.ref c from a1)
              cases (show _ = Value.ref c from a2)
              exact SeqAt.EqAt.same _
          | succ j => exact ih _ _ b1 b2 (fun v hv => hf v (List.mem_cons_of_mem _ hv)) j (Nat.lt_of_succ_lt_succ h1) (Nat.lt_of_succ_lt_succ h2)
  refine SeqAt.RcNeAt.lists (e := fun _ => true) p1.isList p2.isList hsz hu (fun j h1 h2 => ?_) _ _ _ _ ?_
  · have k := it xs us ws r1 r2 hf j (by simpa using h1) (by simpa using h2)
    simpa using k
  · rw [show ((List.range us.toArray.size).all fun _ => true) = true from List.all_eq_true.mpr fun _ _ => rfl]
    exact ⟨.bl false, H, I, rfl, q⟩
end
end G
namespace G
open PySem L2
/-! ### exceptions as values: the rules -/
theorem RF.app {κ : Type} {K : Fg} {H : Hp} : ∀ {fs fs' : List (κ × DV)} {gs gs' : List (κ × V)}, RF K H fs gs → RF K H fs' gs' → RF K H (fs ++ fs') (gs ++ gs')
  | _, _, _, _, .nil, q => q
  | _, _, _, _, .cons r t, q => .cons r (RF.app t q)
theorem RF.rev {κ : Type} {K : Fg} {H : Hp} : ∀ {fs : List (κ × DV)} {gs : List (κ × V)}, RF K H fs gs → RF K H fs.reverse gs.reverse
  | _, _, .nil => .nil
  | _, _, .cons r t => by rw [List.reverse_cons, List.reverse_cons]; exact RF.app (RF.rev t) (.cons r .nil)
theorem RF.zip {κ : Type} {K : Fg} {H : Hp} : ∀ (ks : List κ) {ds : List DV} {vs : List V}, RDs K H ds vs → RF K H (ks.zip ds) (ks.zip vs)
  | [], _, _, _ => .nil
  | _ :: _, _, _, .nil => .nil
  | _ :: ks, _, _, .cons r t => .cons r (RF.zip ks t)
/-- an exception class x, at C, whose __init__ lays the fields fs -/
class ExF (P : Program) (w : World) (K : Fg) (mg : Str → Option Value) (base : Heap) (x : Str) (C : outParam Addr) (fs : outParam (List Str)) : Prop where
  oex : OexC K C
  gm : mg x = some (.ref C)
  fn : ∃ fI fd sp, PySem.W.findIn K (.ref C) "__init__" = some (some (.ref fI)) ∧ PySem.W.typeIn K (.ref fI) = some (.type "function") ∧ FnOk P w K mg base CX0 1 fI fd ("self" :: fs) sp ∧ InitF sp C fs ∧ Binds K fd ("self" :: fs) [] ∧ KBn K fd ("self" :: fs) 1 fs.reverse (fun us ws => us ++ ws.reverse) (fun us ws => us ++ ws.reverse)
  len : fs.length ≤ 10
/-- an exception class without an own __init__ -/
class ExN (K : Fg) (mg : Str → Option Value) (x : Str) (C : outParam Addr) : Prop where
  ex : ∃ B n i bm, ExcBaseFacts B n i bm ∧ PySem.W.excIn K C bm n = true
  gm : mg x = some (.ref C)
  kp : PySem.W.keepIn K (.ref C) = true
def ExTF (K : Fg) (mg : Str → Option Value) (x qual : Str) (fs : List Str) (C : Addr) (st : Stmt) : Prop := OexC K C ∧ mg x = some (.ref C) ∧ ∃ fI fd, PySem.W.findIn K (.ref C) "__init__" = some (some (.ref fI)) ∧ PySem.W.typeIn K (.ref fI) = some (.type "function") ∧ Fun K "__init__" qual st fI fd ∧ Binds K fd ("self" :: fs) [] ∧ KBn K fd ("self" :: fs) 1 fs.reverse (fun us ws => us ++ ws.reverse) (fun us ws => us ++ ws.reverse)
section
variable {P : Program} {w : World} {K : Fg} {mg : Str → Option Value} {base : Heap} {x f f2 qual : Str} {C : Addr} {st : Stmt}
theorem initF1 : InitF (spI f C) C [f] := fun vs H a Q hl ha h => by
  match vs, hl with
  | [v], _ =>
    refine ⟨a, v, rfl, upd_same, fun dx hdx hne => h dx _ (by rw [upd_ne hne] at hdx; exact hdx) hne upd_same (by rw [upd_ne hne, upd_same]; rfl) fun b h1 h2 => by rw [upd_ne h1, upd_ne h2, upd_ne h1]⟩
def spI2 (f f2 : Str) (C : Addr) : Sp := fun vs H Q _ => ∃ a v v2, vs = [.ref a, v, v2] ∧ H a = some (exo a C none) ∧ ∀ dx, H dx = none → dx ≠ a → Q .non (upd (upd (upd H dx (exd dx [(f, v)])) a (exo a C (some dx))) dx (exd dx [(f2, v2), (f, v)]))
theorem initF2 : InitF (spI2 f f2 C) C [f, f2] := fun vs H a Q hl ha h => by
  match vs, hl with
  | [v, v2], _ =>
    refine ⟨a, v, v2, rfl, upd_same, fun dx hdx hne => h dx _ (by rw [upd_ne hne] at hdx; exact hdx) hne (by rw [upd_ne (Ne.symm hne), upd_same]) (by rw [upd_same]; rfl) fun b h1 h2 => by rw [upd_ne h2, upd_ne h1, upd_ne h2, upd_ne h1]⟩
theorem exf_mk1 (T : ExTF K mg x qual [f] C st) (no : PySem.W.findIn K (.ref C) f = some none) (S : FnScope ["self", f] ["self", f] (defScope st)) {q1 q2 q3 q4 : Pos} (hb : defBody st = [.Assign [.Attribute (.Name "self" q1) f q2] (.Name f q3) q4]) (l1 : (defScope st).names.lookup ("self" : Str) = some .local) (l2 : (defScope st).names.lookup f = some .local)
    (n1 : (f == ("__debug__" : Str)) = false) (n2 : (f == ("__classdict__" : Str)) = false) : ExF P w K mg base x C [f] := by
  obtain ⟨t1, t4, fI, fd, t5, t6, t7, t8, t9⟩ := T
  refine ⟨t1, t4, ⟨fI, fd, spI f C, t5, t6, ?_, initF1, t8, t9⟩, by simp⟩
  refine t7.ok S (fun vs H Q E ⟨a, v, e, _⟩ => by rw [e]; rfl) fun cdv A outer s H vs Q E hr ⟨a, v, e, h1, h2⟩ => ?_
  subst e
  rw [hb]
  refine ⟨_, pss_one (ps_ost (pe_var (i := 0) rfl (.inl l1) (by decide) (by decide)) (pe_var (i := 1) rfl (.inl l2) n1 n2)), ?_⟩
  exact ⟨v, rfl, .ref a, rfl, a, C, rfl, t1, no, .inl ⟨h1, h2⟩⟩
theorem exf_mk2 (T : ExTF K mg x qual [f, f2] C st) (no : PySem.W.findIn K (.ref C) f = some none) (no2 : PySem.W.findIn K (.ref C) f2 = some none) (S : FnScope ["self", f, f2] ["self", f, f2] (defScope st)) {q1 q2 q3 q4 r1 r2 r3 r4 : Pos} (hb : defBody st = [.Assign [.Attribute (.Name "self" q1) f q2] (.Name f q3) q4, .Assign [.Attribute (.Name "self" r1) f2 r2] (.Name f2 r3) r4]) (l1 : (defScope st).names.lookup ("self" : Str) = some .local) (l2 : (defScope st).names.lookup f = some .local) (l3 : (defScope st).names.lookup f2 = some .local)
    (n1 : (f == ("__debug__" : Str)) = false) (n2 : (f == ("__classdict__" : Str)) = false) (m1 : (f2 == ("__debug__" : Str)) = false) (m2 : (f2 == ("__classdict__" : Str)) = false) : ExF P w K mg base x C [f, f2] := by
  obtain ⟨t1, t4, fI, fd, t5, t6, t7, t8, t9⟩ := T
  refine ⟨t1, t4, ⟨fI, fd, spI2 f f2 C, t5, t6, ?_, initF2, t8, t9⟩, by simp⟩
  refine t7.ok S (fun vs H Q E ⟨a, v, v2, e, _⟩ => by rw [e]; rfl) fun cdv A outer s H vs Q E hr ⟨a, v, v2, e, h1, h2⟩ => ?_
  subst e
  rw [hb]
  refine ⟨_, pss_cons (ps_ost (pe_var (i := 0) rfl (.inl l1) (by decide) (by decide)) (pe_var (i := 1) rfl (.inl l2) n1 n2)) (pss_one (ps_ost (pe_var (i := 0) rfl (.inl l1) (by decide) (by decide)) (pe_var (i := 2) rfl (.inl l3) m1 m2))), ?_⟩
  refine ⟨v, rfl, .ref a, rfl, a, C, rfl, t1, no, .inl ⟨h1, fun dx hdx hne => ⟨v2, rfl, .ref a, rfl, a, C, rfl, t1, no2, .inr ⟨dx, [(f, v)], upd_same, by rw [upd_ne hne, upd_same], by simp, ?_⟩⟩⟩⟩
  exact h2 dx hdx hne
end
section
variable {X : Cx} {C : Addr} {fs : List Str} {x : Str} {e : Expr} {es : List Expr} {kws : List Keyword} {ta tk : TA} {p pos : Pos} {k : Nat}
theorem pe_excP (G : ExF X.prog X.w X.K X.mg X.base x C fs) (hr : Room 2 X.A) (hg : Gl X x) (hdb : (x == ("__debug__" : Str)) = false) (ha : PA X (e :: es) ta) (he : starEach (e :: es) X.env = (false, eval e X.env) :: starEach es X.env) (hpl : (backTo pos (starEach es X.env)).any (·.1) = false) :
    PE X (.Call (.Name x p) (e :: es) [] pos) (fun σ H Q => ta σ H fun vs H1 => vs.length = fs.length ∧ ExcQ C fs vs H1 Q) := by
  obtain ⟨fI, fd, sp, iC, tI, F1, hi, hb, _⟩ := G.fn
  have hle := G.len
  refine ⟨fun pins s σ H Q I h => wpAny_Call_Name_kw (ld_glob I hg G.gm ?_ hdb)⟩
  refine PySem.W.callWith_K (h₀ := X.base) I.ok.mod.kin G.oex.kC (thn (ha.run pos pins s σ H _ I h) fun us s1 ⟨vs, H1, I1, r1, hz, q1⟩ => ⟨I1.kIn, ?_⟩) he hpl
  exact run_exc (n := fs.length) (ks := []) (ws := []) (zs := []) (g := fun us _ => us) (gV := fun vs _ => vs) G.oex iC tI F1 hi hr ⟨fun s us ws X l1 l2 => by
    have z := hb s us X (by rw [List.append_nil, l1]; rfl)
    rw [List.append_nil] at z
    exact z, fun r _ => r⟩ pass0 I1 r1 .nil hz rfl (by omega) (fun a => rfl) hz q1
theorem pe_excK (G : ExF X.prog X.w X.K X.mg X.base x C fs) (hr : Room 2 X.A) (hg : Gl X x) (hdb : (x == ("__debug__" : Str)) = false) (hkw : PK X kws tk)
    (hall : (backToKw pos (keywordEach kws X.env)).all (·.1.isSome) = true) (hks : (backToKw pos (keywordEach kws X.env)).filterMap (·.1) = fs.reverse) (hpl : ((backTo pos (starEach [] X.env)).any (·.1) || (backToKw pos (keywordEach kws X.env)).any (·.1.isNone)) = false) :
    PE X (.Call (.Name x p) [] kws pos) (fun σ H Q => tk σ H fun zs H1 => zs.length = fs.length ∧ ExcQ C fs zs.reverse H1 Q) := by
  obtain ⟨fI, fd, sp, iC, tI, F1, hi, _, hb⟩ := G.fn
  refine ⟨fun pins s σ H Q I h => wpAny_Call_Name_kw (ld_glob I hg G.gm ?_ hdb)⟩
  refine PySem.W.callWith_KW0 (h₀ := X.base) I.ok.mod.kin G.oex.kC hall ?_ hpl
  refine thn (hkw.run pos pins s σ H _ I h) fun ws s2 ⟨zs, H2, I2, rz, l1, q2⟩ => ⟨I2.kIn, ?_⟩
  rw [hks]
  exact run_exc (n := 0) (us := []) (vs := []) (vz := zs.reverse) G.oex iC tI F1 hi hr hb pass0 I2 .nil rz rfl (by rw [List.length_reverse]; exact l1) (by omega) (fun a => rfl) (by rw [List.length_reverse]; exact l1) q2
theorem pe_exc0 (G : ExN X.K X.mg x C) (hg : Gl X x) (hdb : (x == ("__debug__" : Str)) = false) :
    PE X (.Call (.Name x p) [] [] pos) (fun σ H Q => ∀ a oe, H a = none → oe.cls = .ref C → oe.dict = none → (∃ ws, oe.data = .fields ws) → Q (.ref a) (upd H a (PinO a oe))) := by
  obtain ⟨B, n, i, bmB, F, q⟩ := G.ex
  refine ⟨fun pins s σ H Q I h => wpAny_Call_Name_kw (ld_glob I hg G.gm ?_ hdb)⟩
  refine PySem.W.callWith_K0 I.kIn G.kp ?_
  obtain ⟨bm, N, nm, qn, bs, hdct, sn, sub, ab, col, dd, k0, k1, k2, k3, k5, mN, hC, hN, hni, T⟩ := exc_obj I.kIn q
  refine wpAny_call_exc_subT F T hC hN hni (fun h' a hm => ?_) (by show 0 ≤ sizeLine; omega)
  have hn : H a = none := I.hok.gone hm.new
  obtain ⟨t, ht, _, _⟩ := hm.there
  exact ⟨.ref a, upd H a (PinO a _), I.laidN hm.keeps hm.new hn ⟨ht, ht, ⟨_, ht⟩, fun h1 h2 z k => k _ z⟩, rfl, h a _ hn rfl rfl ⟨_, rfl⟩⟩
end
section
variable {X : Cy} {P : Program} {w : World} {K : Fg} {mg : Str → Option Value} {base : Heap} {sc : Scope} {N L C Gs Bs : List Str} {k i j n : Nat} {ρ : Ro} {M : Mm} {Q : DV → Mm → Prop} {R : Bool → Mm → Prop} {e e1 e2 a b : Expr} {es : List Expr} {pos p p1 p2 : Pos} {x y f k1 k2 : Str} {Cc : Addr} {fs : List Str}
theorem excQ_of {H H1 : Hp} {M1 : Mm} {ds : List DV} {vs : List V} (k1 : RDs X.K H1 ds vs) (k2 : RM X.K H1 M1) (k3 : Stay X.K H H1) (h : ∀ q, Q (.ref q) ((q, .exc Cc (fs.zip ds).reverse) :: M1)) : ExcQ Cc fs vs H1 (LE X.K H Q) := fun a dx oe ha hd hne h1 h2 h3 => by
  have s1 : Stay X.K H1 (upd H1 dx (.xd (fs.zip vs).reverse)) := Stay.new hd
  have ha' : upd H1 dx (.xd (fs.zip vs).reverse) a = none := by rw [upd_ne (Ne.symm hne)]; exact ha
  have s2 : Stay X.K (upd H1 dx (.xd (fs.zip vs).reverse)) (upd (upd H1 dx (.xd (fs.zip vs).reverse)) a (PinO a oe)) := Stay.new ha'
  exact ⟨.ref a, _, .ref a, (k2.new hd).cons (q := .exc Cc (fs.zip ds).reverse) ha' ⟨oe, upd_same, h1, h3, .inr ⟨dx, _, h2, by rw [upd_ne hne, upd_same], ((RF.zip fs k1).rev.mono (s1.trans s2))⟩⟩, (k3.trans s1).trans s2, h a⟩
theorem we_excP (F : Fx X P w K mg base sc N L C Gs Bs k) (G : ExF P w K mg base x Cc fs) (hj : 2 ≤ k) (hx : x ∈ Gs) (hs : noStars (e :: es) = true) (h : WA X ρ M (e :: es) fun ds M1 => ds.length = fs.length ∧ ∀ q, Q (.ref q) ((q, .exc Cc (fs.zip ds).reverse) :: M1)) : WE X ρ M (.Call (.Name x p) (e :: es) [] pos) Q := fun σ H rs m => by
  obtain ⟨g1, g2, g3⟩ := F.gl x hx
  obtain ⟨h1, h2⟩ := noStars_cons hs
  have eP := F.hP; have ew := F.hw; have eK := F.hK; have eg := F.hmg; have eb := F.hbase
  subst eP ew eK eg eb
  refine wE.of (pe_excP G (F.room.mono hj) g1 g2 pa_w (starEach_cons h1) (noStars_any h2)) ?_
  refine (h σ H rs m).mono fun ws H1 ⟨ds, M1, k1, k2, k3, k4, k5⟩ => ⟨by rw [← k1.length]; exact k4, excQ_of k1 k2 k3 k5⟩
theorem we_excK1 (F : Fx X P w K mg base sc N L C Gs Bs k) (G : ExF P w K mg base x Cc [k1]) (hj : 2 ≤ k) (hx : x ∈ Gs) (h : WE X ρ M e fun d M1 => ∀ q, Q (.ref q) ((q, .exc Cc [(k1, d)]) :: M1)) : WE X ρ M (.Call (.Name x p) [] [⟨some k1, e, p1⟩] pos) Q := fun σ H rs m => by
  obtain ⟨g1, g2, g3⟩ := F.gl x hx
  have eP := F.hP; have ew := F.hw; have eK := F.hK; have eg := F.hmg; have eb := F.hbase
  subst eP ew eK eg eb
  refine wE.of (pe_excK G (F.room.mono hj) g1 g2 (pk_cons pe_w pk_nil) rfl rfl rfl) ?_
  exact (h σ H rs m).mono fun v H1 ⟨d, M1, a1, a2, a3, a4⟩ => ⟨rfl, excQ_of (ds := [d]) (vs := [v]) (.cons a1 .nil) a2 a3 a4⟩
theorem we_excK2 (F : Fx X P w K mg base sc N L C Gs Bs k) (G : ExF P w K mg base x Cc [k2, k1]) (hj : 2 ≤ k) (hx : x ∈ Gs) (h : WE X ρ M e1 fun d1 M1 => WE X ρ M1 e2 fun d2 M2 => ∀ q, Q (.ref q) ((q, .exc Cc [(k1, d1), (k2, d2)]) :: M2)) : WE X ρ M (.Call (.Name x p) [] [⟨some k1, e1, p1⟩, ⟨some k2, e2, p2⟩] pos) Q := fun σ H rs m => by
  obtain ⟨g1, g2, g3⟩ := F.gl x hx
  have eP := F.hP; have ew := F.hw; have eK := F.hK; have eg := F.hmg; have eb := F.hbase
  subst eP ew eK eg eb
  refine wE.of (pe_excK G (F.room.mono hj) g1 g2 (pk_cons pe_w (pk_cons pe_w pk_nil)) rfl rfl rfl) ?_
  refine (h σ H rs m).mono fun v1 H1 ⟨d1, M1, a1, a2, a3, a4⟩ => ?_
  exact (a4 σ H1 (rs.mono a3) a2).mono fun v2 H2 ⟨d2, M2, b1, b2, b3, b4⟩ => ⟨rfl, excQ_of (ds := [d2, d1]) (vs := [v2, v1]) (.cons b1 (.cons (a1.mono b3) .nil)) b2 (a3.trans b3) b4⟩
theorem we_exc0 (F : Fx X P w K mg base sc N L C Gs Bs k) (G : ExN K mg x Cc) (hx : x ∈ Gs) (h : ∀ q, Q (.ref q) ((q, .exc Cc []) :: M)) : WE X ρ M (.Call (.Name x p) [] [] pos) Q := fun σ H rs m => by
  obtain ⟨g1, g2, g3⟩ := F.gl x hx
  have eP := F.hP; have ew := F.hw; have eK := F.hK; have eg := F.hmg; have eb := F.hbase
  subst eP ew eK eg eb
  refine wE.of (pe_exc0 G g1 g2) fun a oe ha h1 h2 h3 => ?_
  exact ⟨.ref a, _, .ref a, m.cons (q := .exc Cc []) ha ⟨oe, upd_same, h1, h3, .inl ⟨h2, rfl⟩⟩, Stay.new ha, h a⟩
instance [F : Fx X P w K mg base sc N L C Gs Bs k] [G : ExF P w K mg base x Cc fs] [mm : MemC x Gs] : Step (WE X ρ M (.Call (.Name x p) (e :: es) [] pos) Q) (Nat.ble 2 k && noStars (e :: es)) (WA X ρ M (e :: es) fun ds M1 => Side (ds.length = fs.length) (∀ q, Q (.ref q) ((q, .exc Cc (fs.zip ds).reverse) :: M1))) := ⟨fun h q => by
  simp only [Bool.and_eq_true] at h
  refine we_excP F G (Nat.le_of_ble_eq_true h.1) mm.h h.2 fun σ H r m => (q σ H r m).mono fun _ _ ⟨ds, M1, z1, z2, z3, z4⟩ => ⟨ds, M1, z1, z2, z3, z4.a, z4.b⟩⟩
instance [F : Fx X P w K mg base sc N L C Gs Bs k] [G : ExF P w K mg base x Cc [k1]] [mm : MemC x Gs] : Step (WE X ρ M (.Call (.Name x p) [] [⟨some k1, e, p1⟩] pos) Q) (Nat.ble 2 k) (WE X ρ M e fun d M1 => ∀ q, Q (.ref q) ((q, .exc Cc [(k1, d)]) :: M1)) := ⟨fun h q => we_excK1 F G (Nat.le_of_ble_eq_true h) mm.h q⟩
instance [F : Fx X P w K mg base sc N L C Gs Bs k] [G : ExF P w K mg base x Cc [k2, k1]] [mm : MemC x Gs] : Step (WE X ρ M (.Call (.Name x p) [] [⟨some k1, e1, p1⟩, ⟨some k2, e2, p2⟩] pos) Q) (Nat.ble 2 k) (WE X ρ M e1 fun d1 M1 => WE X ρ M1 e2 fun d2 M2 => ∀ q, Q (.ref q) ((q, .exc Cc [(k1, d1), (k2, d2)]) :: M2)) := ⟨fun h q => we_excK2 F G (Nat.le_of_ble_eq_true h) mm.h q⟩
instance [F : Fx X P w K mg base sc N L C Gs Bs k] [G : ExN K mg x Cc] [mm : MemC x Gs] : Step (WE X ρ M (.Call (.Name x p) [] [] pos) Q) true (∀ q, Q (.ref q) ((q, .exc Cc []) :: M)) := ⟨fun _ q => we_exc0 F G mm.h q⟩
end
end G
namespace G
open PySem L2
/-! ### isinstance, fields, list * int, != of lists, unpacking a list -/
theorem vals_rev : ∀ {vs : List V} {us : List Value}, Vals vs us → Vals vs.reverse us.reverse
  | _, _, .nil => .nil
  | _, _, .cons r t => by rw [List.reverse_cons, List.reverse_cons]; exact (vals_rev t).append (.cons r .nil)
class ExI (K : Fg) (C : Addr) : Prop where
  h : ExcC K C
class KitC (K : Fg) (C : Addr) (cv : Value) (b : outParam Bool) : Prop where
  h : PySem.W.kitOne K (.ref C) cv = some b
class GRef (mg : Str → Option Value) (x : Str) (C : outParam Addr) : Prop where
  h : mg x = some (.ref C)
instance : BtyC "ValueError" "ValueError" := ⟨by decide +kernel⟩
/-- a value by which the object is told -/
def Det (d : DV) : Prop := ∃ v : V, (flatB v = true ∨ ∃ c, v = .ref c) ∧ ∀ K H v', RD K H d v' → v' = v
theorem Det.tupA {a : Addr} {ds : List DV} : Det (.tupA a ds) := ⟨.ref a, .inr ⟨a, rfl⟩, fun K H v' r => by cases r; rfl⟩
theorem Det.ref {a : Addr} : Det (.ref a) := ⟨.ref a, .inr ⟨a, rfl⟩, fun K H v' r => by cases r; rfl⟩
theorem Det.int {i : Int} : Det (.int i) := ⟨.int i, .inl rfl, fun K H v' r => by cases r; rfl⟩
theorem Det.str {i : Str} : Det (.str i) := ⟨.str i, .inl rfl, fun K H v' r => by cases r; rfl⟩
theorem Det.bl {i : Bool} : Det (.bl i) := ⟨.bl i, .inl rfl, fun K H v' r => by cases r; rfl⟩
theorem Det.non : Det .non := ⟨.non, .inl rfl, fun K H v' r => by cases r; rfl⟩
theorem dets {K : Fg} {H : Hp} : ∀ {ds : List DV} {vs us : List V}, (∀ d ∈ ds, Det d) → RDs K H ds vs → RDs K H ds us → vs = us ∧ ∀ v ∈ vs, flatB v = true ∨ ∃ c, v = .ref c
  | _, _, _, _, .nil, .nil => ⟨rfl, fun _ h => nomatch h⟩
  | d :: ds, _, _, hd, .cons r1 t1, .cons r2 t2 => by
    obtain ⟨v, h1, h2⟩ := hd d List.mem_cons_self
    obtain ⟨e, h3⟩ := dets (fun x hx => hd x (List.mem_cons_of_mem _ hx)) t1 t2
    have e1 := h2 _ _ _ r1
    have e2 := h2 _ _ _ r2
    subst e1
    refine ⟨by rw [e, e2], fun u hu => ?_⟩
    rcases List.mem_cons.mp hu with z | z
    · rw [z]; exact h1
    · exact h3 u z
section
variable {X : Cy} {P : Program} {w : World} {K : Fg} {mg : Str → Option Value} {base : Heap} {sc : Scope} {N L C Gs Bs : List Str} {k i j n : Nat} {ρ : Ro} {M : Mm} {Q : DV → Mm → Prop} {R : Bool → Mm → Prop} {S nx bk ct : Ro → Mm → Prop} {rt : DV → Mm → Prop} {e e2 a b t : Expr} {es ts : List Expr} {pos p p1 p2 : Pos} {x y f : Str} {Cc q q2 : Addr} {fs : List (Str × DV)} {d : DV} {ds : List DV}
theorem xh_of {H : Hp} (m : RM K H M) (A : AtM M i q (.exc Cc fs)) : ∃ gs, XH H q Cc gs ∧ RF K H fs gs := by
  obtain ⟨oe, h1, h2, h3, h4⟩ := m.at A.ix
  rcases h4 with ⟨e1, e2⟩ | ⟨dx, gs, e1, e2, e3⟩
  · subst e2
    exact ⟨[], ⟨oe, h1, h2, h3, .inl ⟨e1, rfl⟩⟩, .nil⟩
  · exact ⟨gs, ⟨oe, h1, h2, h3, .inr ⟨dx, e1, e2⟩⟩, e3⟩
theorem we_gref (F : Fx X P w K mg base sc N L C Gs Bs k) (hx : x ∈ Gs) (hv : mg x = some (.ref Cc)) (z : Q (.ref Cc) M) : WE X ρ M (.Name x pos) Q := fun σ H rs m => by
  obtain ⟨g1, g2, g3⟩ := F.gl x hx
  exact wE.of (pe_glob (v := .ref Cc) g1 (by rw [F.hmg]; exact hv) rfl g2) ⟨.ref Cc, M, .ref Cc, m, Stay.refl, z⟩
instance (priority := low) [F : Fx X P w K mg base sc N L C Gs Bs k] [B : GRef mg x Cc] [m1 : MemC x Gs] : Step (WE X ρ M (.Name x pos) Q) true (Q (.ref Cc) M) := ⟨fun _ z => we_gref F m1.h B.h z⟩
theorem mon_isX : MonC (rIsX K) := fun xs H Q Q' ⟨a, b, c, d, f, g, h1, h2, h3, h4, h5, z⟩ q => ⟨a, b, c, d, f, g, h1, h2, h3, h4, h5, q _ _ z⟩
/-- isinstance of exceptions, and of all else -/
def rIs9 (K : Fg) : List V → Hp → VK → Prop := fun vs H Q => rIsX K vs H Q ∨ rIsi K vs H Q
theorem mon_is9 : MonC (rIs9 K) := fun xs H Q Q' z q => z.elim (fun z => .inl (mon_isX _ _ _ _ z q)) fun ⟨a, b, c, d, f, g, h, i, j, k⟩ => .inr ⟨a, b, c, d, f, g, h, i, j, q _ _ k⟩
instance (priority := 3000) [F : Fx X P w K mg base sc N L C Gs Bs k] [m : MemC "isinstance" Gs] [m2 : MemC "isinstance" Bs] : Step (WE X ρ M (.Call (.Name (Str.ofString "isinstance") p) [e, e2] [] pos) Q) (noStars [e, e2]) (WA X ρ M [e, e2] fun ds M1 => CD X.K (rIs9 X.K) ds M1 Q) := ⟨fun h z => by
  exact we_blt F (fun pins s σ H xs us Q I r z => z.elim (fun z => call_isX pins s σ H xs us Q I r z) fun z => call_isi pins s σ H xs us Q I r z) mon_is9 (by decide +kernel) m.h m2.h h z⟩
instance [A : AtM M i q (.exc Cc fs)] : Step (CD K (rIs9 K) [.ref q, d] M Q) true (CD K (rIsX K) [.ref q, d] M Q) := ⟨fun _ z vs H r m => .inl (z vs H r m)⟩
instance (priority := low) : Step (CD K (rIs9 K) ds M Q) true (CD K (rIsi K) ds M Q) := ⟨fun _ z vs H r m => .inr (z vs H r m)⟩
instance {Cd : Addr} {b : Bool} [A : AtM M i q (.exc Cc fs)] [T : ExI K Cc] [T2 : KitC K Cc (.ref Cd) b] : Step (CD K (rIsX K) [.ref q, .ref Cd] M Q) true (Q (.bl b) M) := ⟨fun _ z => .two fun v v' H r1 r2 m => by
  cases r1; cases r2
  obtain ⟨gs, h1, h2⟩ := xh_of m A
  exact ⟨q, Cc, gs, .ref Cd, .ref Cd, b, rfl, h1, T.h, fun u z => z, T2.h, .bl b, M, .bl b, m, Stay.refl, z⟩⟩
instance {T0 : String} {b : Bool} [A : AtM M i q (.exc Cc fs)] [T : ExI K Cc] [T2 : KitC K Cc (.type T0) b] : Step (CD K (rIsX K) [.ref q, .ty T0] M Q) true (Q (.bl b) M) := ⟨fun _ z => .two fun v v' H r1 r2 m => by
  cases r1; cases r2
  obtain ⟨gs, h1, h2⟩ := xh_of m A
  exact ⟨q, Cc, gs, .ty T0, .type T0, b, rfl, h1, T.h, fun u z => z, T2.h, .bl b, M, .bl b, m, Stay.refl, z⟩⟩
/-- e.f -/
instance (priority := 3000) [F : Fx X P w K mg base sc N L C Gs Bs k] [At' : At N ρ y (.ref q)] [ml : MemC y L] [A : AtM M i q (.exc Cc fs)] [T : XfF K Cc f] : Step (WE X ρ M (.Attribute (.Name y p) f pos) Q) true (∃ d, fs.lookup f = some d ∧ Q d M) := ⟨fun _ ⟨d, hl, z⟩ σ H rs m => by
  have W : WE X ρ M (.Name y p) fun x M1 => x = .ref q ∧ M1 = M := (Step.h (c := true) (by rfl) ⟨rfl, rfl⟩ : WE X ρ M (.Name y p) fun x M1 => x = .ref q ∧ M1 = M)
  refine wE.of (pe_xg pe_w (attrBase rfl)) ?_
  refine (W σ H rs m).mono fun v H1 ⟨x, M1, k1, k2, k3, k4, k5⟩ => ?_
  subst k4 k5
  cases k1
  obtain ⟨gs, h1, h2⟩ := xh_of k2 A
  obtain ⟨u, u1, u2⟩ := h2.lookup_some hl
  exact ⟨q, Cc, gs, u, rfl, h1, by rw [F.hK]; exact T.xf, by rw [F.hK]; exact T.no, u1, d, _, u2, k2, k3, z⟩⟩
/-- l * n -/
def rMul6 (K : Fg) : R2 := fun x y H Q => rMul4 K x y H Q ∨ L2.rRep x y H Q
theorem mon_rep : MonR L2.rRep := fun x y H Q Q' ⟨a, b, c, h1, h2, h3, h4, h5, h6, h7⟩ q => ⟨a, b, c, h1, h2, h3, h4, h5, h6, fun z hz => q _ _ (h7 z hz)⟩
theorem we_mul6 (h : WE X ρ M a fun x M1 => WE X ρ M1 b fun y M2 => R2D X.K (rMul6 X.K) x y M2 Q) : WE X ρ M (.BinOp a .Mult b pos) Q := we_op (pe_op (((op_mul.or op_mulW).or (op_mulS.or op_mulT)).or op_rep)) (((monI.or monI).or (mon_mulS.or mon_mulT)).or mon_rep) h
instance (priority := 3000) : Step (WE X ρ M (.BinOp a .Mult b pos) Q) true (WE X ρ M a fun x M1 => WE X ρ M1 b fun y M2 => R2D X.K (rMul6 X.K) x y M2 Q) := ⟨fun _ => we_mul6⟩
instance (priority := low) {dx dy : DV} : Step (R2D K (rMul6 K) dx dy M Q) true (R2D K (rMul4 K) dx dy M Q) := ⟨fun _ z => R2D.l z⟩
instance {z : Int} [A : AtM M i q (.lst ds)] : Step (R2D K (rMul6 K) (.ref q) (.int z) M Q) true (Side (0 ≤ z ∧ z ≤ 100 ∧ ds.length ≤ 100) (∀ p, Q (.ref p) ((p, .lst (List.replicate z.toNat ds).flatten) :: M))) := ⟨fun _ s => R2D.r fun vx vy H h1 h2 m => by
  cases h1; cases h2
  obtain ⟨⟨s1, s2, s3⟩, s4⟩ := s
  obtain ⟨vs, e1, e2⟩ := m.at A.ix
  refine ⟨q, z, vs, rfl, rfl, e1, by omega, by omega, ?_, fun p hp => ?_⟩
  · have := e2.length
    have h : vs.length * z.toNat ≤ 100 * 100 := Nat.mul_le_mul (by omega) (by omega)
    rw [sizeLine_eq]; omega
  · refine ⟨.ref p, _, .ref p, m.cons (q := .lst (List.replicate z.toNat ds).flatten) hp ⟨_, upd_same, RDs.mono (Stay.new hp) ?_⟩, Stay.new hp, s4 p⟩
    generalize z.toNat = n
    induction n with
    | zero => exact .nil
    | succ n ih => rw [List.replicate_succ, List.replicate_succ, List.flatten_cons, List.flatten_cons]; exact e2.append ih⟩
/-- l != l2 -/
def rNe6 (K : Fg) : R2 := fun x y H Q => rNe3 K x y H Q ∨ rNeS K x y H Q
theorem mon_neS : MonR (rNeS K) := fun x y H Q Q' ⟨a, b, c, h1, h2, h3, h4, h5, h6⟩ q => ⟨a, b, c, h1, h2, h3, h4, h5, q _ _ h6⟩
theorem op_ne6 (F : Fx X P w K mg base sc N L C Gs Bs k) : OpR X.toCx (compareOp .NotEq) (rNe6 X.K) := ((op_ne.or (op_neD F.room.units)).or (op_neS (by have := F.room.un; omega)))
theorem mon_ne6 : MonR (rNe6 K) := fun x y H Q Q' h q => h.elim (fun h => .inl (mon_ne _ _ _ _ _ h q)) fun h => .inr (mon_neS _ _ _ _ _ h q)
instance (priority := 3000) [F : Fx X P w K mg base sc N L C Gs Bs k] : Step (WE X ρ M (.Compare a [.NotEq] [b] pos) Q) true (WE X ρ M a fun x M1 => WE X ρ M1 b fun y M2 => R2D X.K (rNe6 X.K) x y M2 Q) := ⟨fun _ => we_op (fun ha hb => pe_cmpR (op_ne6 F) ha hb (nomark _)) mon_ne6⟩
instance (priority := 3000) [F : Fx X P w K mg base sc N L C Gs Bs k] : Step (WT X ρ M (.Compare a [.NotEq] [b] pos) R) true (WE X ρ M a fun x M1 => WE X ρ M1 b fun y M2 => R2D X.K (rNe6 X.K) x y M2 (QB R)) := ⟨fun _ => wt_op (fun ha hb => pt_cmpR (op_ne6 F) ha hb (nomark _)) mon_ne6⟩
theorem v_ne_same {es : List DV} (A : AtM M i q (.lst ds)) (A2 : AtM M j q2 (.lst es)) (e : ds = es) (hd : ∀ d ∈ ds, Det d) (z : Q (.bl false) M) : R2D K (rNe6 K) (.ref q) (.ref q2) M Q := fun vx vy H h1 h2 m => by
  cases h1; cases h2
  subst e
  obtain ⟨vs, e1, e2⟩ := m.at A.ix
  obtain ⟨us, f1, f2⟩ := m.at A2.ix
  obtain ⟨e3, e4⟩ := dets hd e2 f2
  subst e3
  exact .inr ⟨q, q2, vs, rfl, rfl, SqL.of e1, SqL.of f1, e4, _, M, .bl _, m, Stay.refl, z⟩
theorem v_ne_6d {dx dy : DV} {p p' : PyData} (h1 : Pd M dx p) (h2 : Pd M dy p') (s1 : SeqAt.shaped p = true) (s2 : SeqAt.shaped p' = true) (z : Q (.bl (!PyData.eqv p p')) M) : R2D K (rNe6 K) dx dy M Q := R2D.l (v_ne_d h1 h2 s1 s2 z)
/-- a, b, .. = l -/
def WGs (X : Cy) : Ro → Mm → List Expr → List DV → (Ro → Mm → Prop) → Prop
  | ρ, M, [], [], S => S ρ M
  | ρ, M, t :: ts, d :: ds, S => WG X ρ M t d fun ρ1 M1 => WGs X ρ1 M1 ts ds S
  | _, _, _, _, _ => False
def gW (X : Cy) : List Expr → TGs
  | [] => gNil
  | t :: ts => gCons (wG X.toCx t) (gW X ts)
theorem pgs_W : ∀ {ts : List Expr}, ts.all notStarT = true → PGs X.toCx ts (gW X ts) ∧ (assignEach ts X.env).length = ts.length ∧ (assignEach ts X.env).findIdx? (·.1) = none
  | [], _ => ⟨pgs_nil, rfl, rfl⟩
  | t :: ts, h => by
    rw [List.all_cons, Bool.and_eq_true] at h
    obtain ⟨h1, h2, h3⟩ := pgs_W h.2
    refine ⟨pgs_cons pg_w h1 (by rw [assignEach_cons h.1]; rfl), by rw [assignEach_cons h.1, List.length_cons, List.length_cons, h2], by rw [assignEach_cons h.1, List.findIdx?_cons]; simp [h3]⟩
theorem gW_of : ∀ {ts : List Expr} {ds : List DV} {ρ : Ro} {M : Mm} {σ : L2.St} {H : Hp} {vs : List V}, WGs X ρ M ts ds S → RS X H ρ σ → RM X.K H M → RDs X.K H ds vs → gW X ts vs σ H (LN X H S)
  | [], [], ρ, M, σ, H, _, h, rs, m, .nil => ⟨rfl, ρ, M, rs, m, Stay.refl, h⟩
  | [], _ :: _, _, _, _, _, _, h, _, _, _ => h.elim
  | _ :: _, [], _, _, _, _, _, h, _, _, _ => h.elim
  | t :: ts, d :: ds, ρ, M, σ, H, _, h, rs, m, .cons r rr => by
    have h : WG X ρ M t d fun ρ1 M1 => WGs X ρ1 M1 ts ds S := h
    refine ⟨_, _, rfl, (h σ H _ rs m r).mono fun σ1 H1 ⟨ρ1, M1, h1, h2, h3, h4⟩ => ?_⟩
    have z := gW_of h4 h1 h2 (rr.mono h3)
    have mono : ∀ (ts : List Expr) (vs : List V) (σ : L2.St) (H : Hp) (A B : L2.St → Hp → Prop), gW X ts vs σ H A → (∀ σ H, A σ H → B σ H) → gW X ts vs σ H B := by
      intro ts
      induction ts with
      | nil => intro vs σ H A B ⟨e, z⟩ q; exact ⟨e, q _ _ z⟩
      | cons t ts ih => intro vs σ H A B ⟨v, r, e, z⟩ q; exact ⟨v, r, e, z.mono fun σ' H' y => ih _ _ _ _ _ y q⟩
    exact mono _ _ _ _ _ _ z fun σ2 H2 ⟨ρ2, M2, y1, y2, y3, y4⟩ => ⟨ρ2, M2, y1, y2, h3.trans y3, y4⟩
theorem wg_lst {kt : Nat} (F : Fx X P w K mg base sc N L C Gs Bs k) (A : AtM M i q (.lst ds)) (hs : ts.all notStarT = true) (hl : ds.length = ts.length) (h : WGs X ρ M ts ds S) : WG X ρ M (.Tuple ts kt pos) (.ref q) S := fun σ H v rs m r => by
  cases r
  obtain ⟨vs, e1, e2⟩ := m.at A.ix
  obtain ⟨h1, h2, h3⟩ := pgs_W (X := X) hs
  refine wG.of (pg_lst F.calm h1 h2 h3) ?_
  exact ⟨q, vs, rfl, SqL.of e1, by rw [← e2.length]; exact hl, gW_of h rs m e2⟩
instance {kt : Nat} [F : Fx X P w K mg base sc N L C Gs Bs k] [A : AtM M i q (.lst ds)] : Step (WG X ρ M (.Tuple ts kt pos) (.ref q) S) (ts.all notStarT && Nat.beq ds.length ts.length) (WGs X ρ M ts ds S) := ⟨fun h z => by
  rw [Bool.and_eq_true] at h
  exact wg_lst F A h.1 (Nat.eq_of_beq_eq_true h.2) z⟩
instance : Step (WGs X ρ M (t :: ts) (d :: ds) S) true (WG X ρ M t d fun ρ1 M1 => WGs X ρ1 M1 ts ds S) := ⟨fun _ z => z⟩
instance : Step (WGs X ρ M [] [] S) true (S ρ M) := ⟨fun _ z => z⟩
/-- a value's object is told -/
inductive DetO : DV → Prop
  | det {d : DV} : Det d → DetO d
  | tup {ds : List DV} : DetO (.tup ds)
theorem wss_det {sts : List Stmt} (hi : ρ[i]? = some (some d)) (hd : DetO d) (h : ∀ d', Det d' → WSs X (ρ.set i (some d')) M sts nx rt bk ct) : WSs X ρ M sts nx rt bk ct := by
  cases hd with
  | det z =>
    have e := h d z
    have hlt0 := (List.getElem?_eq_some_iff.mp hi).1
    have e2 : ρ.set i (some d) = ρ := by
      apply List.ext_getElem?
      intro m
      rw [List.getElem?_set]
      split
      · rename_i hm
        subst hm
        have e5 := (List.getElem?_eq_some_iff.mp hi).2
        simp [hlt0, e5]
      · rfl
    rw [e2] at e
    exact e
  | tup => exact wss_open hi fun a => h _ Det.tupA
end
end G
namespace G
open PySem PySem.Spec PyProof.Rows L2
/-! ### x(e, .., k = e1) of a class with its own __init__ -/
class MkiP (P : Program) (w : World) (K : Fg) (mg : Str → Option Value) (base : Heap) (x : Str) (n : Nat) (k1 : Str) (Cc : outParam Addr) (j : outParam Nat) (sp : outParam SpD) : Prop where
  ex : ∃ (f : Addr) (fd : FuncData) (ps : List Str), Mk K Cc f ∧ FnOk P w K mg base CX0 j f fd ps (sp1 K (1 + (n + 1)) sp) ∧ mg x = some (.ref Cc) ∧ KBn K fd ps (n + 1) [k1] (fun us ws => us ++ ws) (fun vs zs => vs ++ zs)
def MkTp (K : Fg) (mg : Str → Option Value) (x : Str) (n : Nat) (k1 : Str) (Cc : Addr) (qual : Str) (st : Stmt) (ps : List Str) : Prop := ∃ f fd dV, Mk K Cc f ∧ FunD K "__init__" qual st f fd dV ∧ mg x = some (.ref Cc) ∧ KBn K fd ps (n + 1) [k1] (fun us ws => us ++ ws) (fun vs zs => vs ++ zs)
section
variable {P : Program} {w : World} {K : Fg} {mg : Str → Option Value} {base : Heap} {N L C Gs Bs : List Str} {k : Nat}
theorem mkiP_mk {x k1 qual : Str} {n : Nat} {st : Stmt} {ps : List Str} {Cc : Addr} {sp : SpD} (T : MkTp K mg x n k1 Cc qual st ps) (S : FnScope N ps (defScope st)) (hst : stat (defScope st) N L C Gs = true) (hb : ∀ x ∈ Bs, mg x = none) (hn : 1 + (n + 1) = ps.length)
    (h : ∀ X, Fx X P w K mg base (defScope st) N L C Gs Bs k → ∀ ds M Q, ds.length = ps.length → sp ds M Q → WSs X (ini N ds) M (defBody st) (fun _ M' => Sub (Q .non) M') (fun d M' => Sub (Q d) M') (fun _ _ => False) (fun _ _ => False)) :
    MkiP P w K mg base x n k1 Cc (k + 1) sp := by
  obtain ⟨f, fd, dV, h1, h2, h3, h4⟩ := T
  exact ⟨f, fd, ps, h1, by rw [hn]; exact fn_okD h2 S hst hb h, h3, h4⟩
end
section
variable {X : Cy} {P : Program} {w : World} {K : Fg} {mg : Str → Option Value} {base : Heap} {sc : Scope} {N L C Gs Bs : List Str} {k j n : Nat} {ρ : Ro} {M : Mm} {Q : DV → Mm → Prop} {e e1 : Expr} {es : List Expr} {pos p p1 : Pos} {x k1 : Str} {sp : SpD} {Cc : Addr}
theorem we_makeP (F : Fx X P w K mg base sc N L C Gs Bs k) (G : MkiP P w K mg base x n k1 Cc j sp) (hj : j + 1 ≤ k) (hx : x ∈ Gs) (hs : noStars (e :: es) = true)
    (h : WA X ρ M (e :: es) fun ds M1 => ds.length = n ∧ WE X ρ M1 e1 fun d1 M2 => ∀ q, sp (.ref q :: (ds ++ [d1])) ((q, .ins Cc []) :: M2) fun d M' => d = .non ∧ Q (.ref q) M') :
    WE X ρ M (.Call (.Name x p) (e :: es) [⟨some k1, e1, p1⟩] pos) Q := fun σ H rs m => by
  obtain ⟨f, fd, ps, Mm, G, hm, kb⟩ := G.ex
  obtain ⟨g1, g2, g3⟩ := F.gl x hx
  obtain ⟨h1, h2⟩ := noStars_cons hs
  have eP := F.hP; have ew := F.hw; have eK := F.hK; have eg := F.hmg; have eb := F.hbase
  subst eP ew eK eg eb
  refine wE.of (pe_makeK (E := E0) Mm G (F.room.mono hj) g1 hm kb pass0 pa_w (pk_cons pe_w pk_nil) rfl rfl g2 (starEach_cons h1) (by
    have z := noStars_any (pos := pos) (env := X.env) hs
    rw [z]; rfl)) ?_
  refine (h σ H rs m).mono fun vs H1 ⟨ds, M1, a1, a2, a3, a4, a5⟩ => ?_
  refine (a5 σ H1 (rs.mono a3) a2).mono fun v1 H2 ⟨d1, M2, b1, b2, b3, b4⟩ => ?_
  refine ⟨by rw [← a1.length]; exact a4, rfl, fun q dx hq hdx hne => ?_⟩
  have z := sp_made (E := E0) (ds := ds ++ [d1]) (vs := vs ++ [v1]) (Q := Q) b2 hq hdx hne ((a1.mono b3).append (.cons b1 .nil)) (b4 q) (n := 1 + (n + 1)) (by rw [List.length_append, a4]; rfl)
  obtain ⟨ds', M', Q0, z1, z2, z3, z4, z5⟩ := z
  exact ⟨ds', M', Q0, z1, z2, z3, z4, fun d M2 a v H2 b c st => let ⟨y1, y2⟩ := z5 d M2 a v H2 b c st; ⟨y1, y2.stay (a3.trans b3)⟩⟩
end
end G
namespace G
open PySem PySem.Spec PyProof.Rows L2
/-! ### defs and methods that may raise; own methods called by syntax -/
class CalX (P : Program) (w : World) (K : Fg) (mg : Str → Option Value) (base : Heap) (x : Str) (j n : outParam Nat) (sp : outParam SpX) : Prop where
  ex : ∃ (f : Addr) (fd : FuncData) (ps : List Str), FnOk P w K mg base (L2.CX P w) j f fd ps (sp1X K n sp) ∧ mg x = some (.ref f) ∧ PySem.W.keepIn K (.ref f) = true ∧ Binds K fd ps []
class McalX (P : Program) (w : World) (K : Fg) (mg : Str → Option Value) (base : Heap) (C : Addr) (m : Str) (j n : outParam Nat) (sp : outParam SpX) : Prop where
  cl : Cls K C
  nsq : PySem.W.noSeq K C = true
  ex : ∃ (f : Addr) (fd : FuncData) (ps : List Str), FnOk P w K mg base (L2.CX P w) j f fd ps (sp1X K n sp) ∧ Meth K C m f ∧ Binds K fd ps [] ∧ PySem.W.fnIn K f = true
/-- what the text says of them -/
def FnTX (K : Fg) (mg : Str → Option Value) (x : Str) (st : Stmt) (ps : List Str) : Prop := ∃ f fd dV, FunD K x x st f fd dV ∧ mg x = some (.ref f) ∧ Binds K fd ps []
def MtTX (K : Fg) (Cc : Addr) (m qual : Str) (st : Stmt) (ps : List Str) : Prop := PySem.W.noSeq K Cc = true ∧ ∃ f fd dV, FunD K m qual st f fd dV ∧ Meth K Cc m f ∧ Binds K fd ps []
theorem FunD.fnIn {K : Fg} {x qual : Str} {st : Stmt} {f : Addr} {fd : FuncData} {dV : Value} (F : FunD K x qual st f fd dV) : PySem.W.fnIn K f = true := by
  obtain ⟨oc, od, kV, doc, pm, an, cdv, ct, osl, h1, h2, h3⟩ := F.ex
  unfold PySem.W.fnIn
  rw [h2]
section
variable {P : Program} {w : World} {K : Fg} {mg : Str → Option Value} {base : Heap} {N L C Gs Bs : List Str} {k : Nat}
theorem calX_mk {x : Str} {st : Stmt} {ps : List Str} {sp : SpX} (T : FnTX K mg x st ps) (S : FnScope N ps (defScope st)) (hst : stat (defScope st) N L C Gs = true) (hb : ∀ x ∈ Bs, mg x = none)
    (h : ∀ X, Fx X P w K mg base (defScope st) N L C Gs Bs k → ∀ ds M Q E, ds.length = ps.length → sp ds M Q E → Tk X (fun Cc fs _ M' => Sub (E Cc fs) M') → WSs X (ini N ds) M (defBody st) (fun _ M' => Sub (Q .non) M') (fun d M' => Sub (Q d) M') (fun _ _ => False) (fun _ _ => False)) :
    CalX P w K mg base x (k + 1) ps.length sp := by
  obtain ⟨f, fd, dV, h1, h2, h3⟩ := T
  exact ⟨f, fd, ps, fn_okDX h1 S hst hb h, h2, h1.kp, h3⟩
theorem mcalX_mk {m qual : Str} {st : Stmt} {ps : List Str} {Cc : Addr} {sp : SpX} (cl : Cls K Cc) (T : MtTX K Cc m qual st ps) (S : FnScope N ps (defScope st)) (hst : stat (defScope st) N L C Gs = true) (hb : ∀ x ∈ Bs, mg x = none)
    (h : ∀ X, Fx X P w K mg base (defScope st) N L C Gs Bs k → ∀ ds M Q E, ds.length = ps.length → sp ds M Q E → Tk X (fun Cc fs _ M' => Sub (E Cc fs) M') → WSs X (ini N ds) M (defBody st) (fun _ M' => Sub (Q .non) M') (fun d M' => Sub (Q d) M') (fun _ _ => False) (fun _ _ => False)) :
    McalX P w K mg base Cc m (k + 1) ps.length sp := by
  obtain ⟨ns, f, fd, dV, h1, h2, h3⟩ := T
  exact ⟨cl, ns, f, fd, ps, fn_okDX h1 S hst hb h, h2, h3, h1.fnIn⟩
end
section
variable {X : Cy} {P : Program} {w : World} {K : Fg} {mg : Str → Option Value} {base : Heap} {sc : Scope} {N L C Gs Bs : List Str} {k j n : Nat} {ρ : Ro} {M : Mm} {Q : DV → Mm → Prop} {R : Bool → Mm → Prop} {a b e o : Expr} {es : List Expr} {pos p apos : Pos} {x m : Str} {sp : SpX} {Cc : Addr} {E : EX} {A : Around} {f : Addr} {fd : FuncData} {ps : List Str} {σ : L2.St} {H H0 : Hp} {pins : List (Addr × Obj)} {s : Shared}
/-- the state at a call near the body X -/
theorem env_near (I : Inv X.toCx pins σ H s) (hf : A.frames = X.A.frames) : Env0 X.prog X.w X.K X.mg X.base A X.stack s H := by
  have e := I.env0
  exact ⟨by rw [hf]; exact e.frames, e.mod, e.bs, e.bsz, e.funs, e.frf, e.hok, e.bare⟩
theorem near_run {sq : Sp} {EE : XK} {us : List Value} {vs : List V} {QQ : VK} (G1 : FnOk X.prog X.w X.K X.mg X.base (L2.CX X.prog X.w) j f fd ps sq) (hr : Room j A) (hf : A.frames = X.A.frames) (hb : Binds X.K fd ps []) (hx : PassesAt (L2.CX X.prog X.w) X.toCx σ EE)
    (I : Inv X.toCx pins σ H s) (r : Vals vs us) (h : sq vs H QQ EE) : wpAny (model X.prog X.w) A (call (.ref f) us) (EP X.toCx pins σ QQ) X.xe s := by
  have hl : us.length = ps.length := by rw [← r.length]; exact G1.len _ _ _ _ h
  have hb' := hb s us I.kIn (by simpa using hl)
  rw [List.append_nil] at hb'
  refine wpAny_call (codeAny_mono (G1.run A X.stack s H ⟨us, []⟩ us vs QQ EE hr (env_near I hf) hb' r h) fun r s' hq => ?_)
  match r, hq with
  | .error e, hq => exact hx pins H s e s' I hq
  | .ok (.ret u), hq => exact I.after hq
  | .ok .next, hq => exact False.elim hq
  | .ok .brk, hq => exact False.elim hq
  | .ok .cont, hq => exact False.elim hq
/-- the promise by values -/
theorem sp_at {ds : List DV} {vs : List V} (rs : RS X H ρ σ) (rm : RM X.K H M) (st0 : Stay X.K H0 H) (rd : RDs X.K H ds vs) (hn : ds.length = n) (h : sp ds M Q (fun C fs M' => E C fs ρ M')) : sp1X X.K n sp vs H (LE X.K H0 Q) (fun cls d H' => LX X E cls d σ H') :=
  ⟨ds, M, Q, _, rd, rm, hn, h, fun d M' q v H' r1 r2 r3 => ⟨d, M', r1, r2, st0.trans r3, q⟩, fun C fs M' q dd gs H' e1 e2 e3 st => LX.of rs st e1 e2 e3 q⟩
/-! calls by name -/
theorem we_callX (F : Fx X P w K mg base sc N L C Gs Bs k) (T : Tk X E) (G : CalX P w K mg base x j n sp) (hj : j ≤ k) (hx : x ∈ Gs) (hs : noStars (e :: es) = true) (h : WA X ρ M (e :: es) fun ds M1 => ds.length = n ∧ sp ds M1 Q (fun C fs M' => E C fs ρ M')) : WE X ρ M (.Call (.Name x p) (e :: es) [] pos) Q := fun σ H rs m pins s I => by
  obtain ⟨f, fd, ps, G, hm, hk, hb⟩ := G.ex
  obtain ⟨g1, g2, g3⟩ := F.gl x hx
  obtain ⟨h1, h2⟩ := noStars_cons hs
  have eP := F.hP; have ew := F.hw; have eK := F.hK; have eg := F.hmg; have eb := F.hbase
  subst eP ew eK eg eb
  refine wpAny_Call_Name_kw (ld_glob I g1 hm ?_ g2)
  refine PySem.W.callWith_K (h₀ := X.base) I.ok.mod.kin hk (thn (pa_w.run pos pins s σ H _ I (h σ H rs m)) fun us s1 ⟨vs, H1, I1, r, ds, M1, k1, k2, k3, k4, k5⟩ => ⟨I1.kIn, ?_⟩) (starEach_cons h1) (noStars_any h2)
  exact near_run G (F.room.mono hj) rfl hb (passAt T.tk σ) I1 r (sp_at (rs.mono k3) k2 k3 k1 k4 k5)
theorem we_callX0 (F : Fx X P w K mg base sc N L C Gs Bs k) (T : Tk X E) (G : CalX P w K mg base x j 0 sp) (hj : j ≤ k) (hx : x ∈ Gs) (h : sp [] M Q (fun C fs M' => E C fs ρ M')) : WE X ρ M (.Call (.Name x p) [] [] pos) Q := fun σ H rs m pins s I => by
  obtain ⟨f, fd, ps, G, hm, hk, hb⟩ := G.ex
  obtain ⟨g1, g2, g3⟩ := F.gl x hx
  have eP := F.hP; have ew := F.hw; have eK := F.hK; have eg := F.hmg; have eb := F.hbase
  subst eP ew eK eg eb
  refine wpAny_Call_Name_kw (ld_glob I g1 hm ?_ g2)
  exact PySem.W.callWith_K0 I.kIn hk (near_run (us := []) G (F.room.mono hj) rfl hb (passAt T.tk σ) I .nil (sp_at rs m Stay.refl .nil rfl h))
instance (priority := 500) [F : Fx X P w K mg base sc N L C Gs Bs k] [T : Tk X E] [G : CalX P w K mg base x j n sp] [mm : MemC x Gs] : Step (WE X ρ M (.Call (.Name x p) (e :: es) [] pos) Q) (Nat.ble j k && noStars (e :: es)) (WA X ρ M (e :: es) fun ds M1 => Side (ds.length = n) (sp ds M1 Q (fun C fs M' => E C fs ρ M'))) := ⟨fun h q => by
  rw [Bool.and_eq_true] at h
  exact we_callX F T G (Nat.le_of_ble_eq_true h.1) mm.h h.2 fun σ H r m => (q σ H r m).mono fun _ _ ⟨a, b, c, d, e, f⟩ => ⟨a, b, c, d, e, f.a, f.b⟩⟩
instance (priority := 500) [F : Fx X P w K mg base sc N L C Gs Bs k] [T : Tk X E] [G : CalX P w K mg base x j 0 sp] [mm : MemC x Gs] : Step (WE X ρ M (.Call (.Name x p) [] [] pos) Q) (Nat.ble j k) (sp [] M Q (fun C fs M' => E C fs ρ M')) := ⟨fun h q => we_callX0 F T G (Nat.le_of_ble_eq_true h) mm.h q⟩
/-! the class's own m -/
/-- m of x's class is called on x and ds, what is raised goes to E -/
def DunD (P : Program) (w : World) (K : Fg) (mg : Str → Option Value) (base : Heap) (k : Nat) (E : EX) (ρ : Ro) (m : Str) (x : DV) (ds : List DV) (M : Mm) (Q : DV → Mm → Prop) : Prop :=
  ∃ a i Cc fs j n sp, x = .ref a ∧ AtM M i a (.ins Cc fs) ∧ McalX P w K mg base Cc m j n sp ∧ j + 3 ≤ k ∧ ds.length + 1 = n ∧ sp (.ref a :: ds) M Q (fun C fs M' => E C fs ρ M')
/-- an instance as the library sees it -/
structure InsAt (K : Fg) (s : Shared) (a Cc f : Addr) (m : Str) : Prop where
  at_ : ∃ od dx, PySem.W.InstAt s.heap a (PySem.W.instObj Cc dx) Cc (some od)
  find : PySem.W.findIn K (.ref Cc) m = some (some (.ref f))
  fn : PySem.W.isFn K (.ref f) = true
  fnI : PySem.W.fnIn K f = true
  nsq : PySem.W.noSeq K Cc = true
theorem ins_at {dx : Addr} {gs : List (Str × V)} {aa : Addr} (I : Inv X.toCx pins σ H s) (ha : H aa = some (.ins Cc dx gs)) : ∃ od dx', PySem.W.InstAt s.heap aa (PySem.W.instObj Cc dx') Cc (some od) := by
  obtain ⟨mA, J, _⟩ := ins_get I.hok ha
  obtain ⟨od, J, _⟩ := J.look
  exact ⟨od, dx, J⟩
theorem dun_run {ds : List DV} {d : DV} (F : Fx X P w K mg base sc N L C Gs Bs k) (T : Tk X E) (I : Inv X.toCx pins σ H s) (rs : RS X H ρ σ) (rm : RM X.K H M) (st0 : Stay X.K H0 H) (z : DunD P w X.K mg base k E ρ m d ds M Q) :
    ∃ aa Cc f, d = .ref aa ∧ InsAt X.K s aa Cc f m ∧ ∀ (A : Around) (us : List Value) (vs : List V), A.frames = X.A.frames → Room (k - 3) A → RDs X.K H ds vs → Vals vs us → wpAny (model X.prog X.w) A (call (.ref f) (.ref aa :: us)) (EP X.toCx pins σ (LE X.K H0 Q)) X.xe s := by
  obtain ⟨aa, i, Cc, fs, j, n, sp, e1, hA, G, hj, hn, h⟩ := z
  obtain ⟨f, fd, ps, G1, hm, hb, hfn⟩ := G.ex
  obtain ⟨dx, gs, q1, q2⟩ := rm.at hA.ix
  have eP := F.hP; have ew := F.hw; have eg := F.hmg; have eb := F.hbase
  subst eP ew eg eb
  refine ⟨aa, Cc, f, e1, ⟨ins_at I q1, hm.at_, hm.fn, hfn, G.nsq⟩, fun A us vs hf hr rd r => ?_⟩
  exact near_run (us := .ref aa :: us) (vs := .ref aa :: vs) G1 (hr.mono (by omega)) hf hb (passAt T.tk σ) I (.cons rfl r) (sp_at rs rm st0 (.cons (.ref aa) rd) (by rw [List.length_cons]; exact hn) h)
theorem room_in1 {k : Nat} {A : Around} (r : Room k A) (h : 3 ≤ k) : Room (k - 3) A.in1 := Room.in1 (r.mono (by omega))
/-- x[y] -/
def SubD (P : Program) (w : World) (K : Fg) (mg : Str → Option Value) (base : Heap) (k : Nat) (E : EX) (ρ : Ro) (x y : DV) (M : Mm) (Q : DV → Mm → Prop) : Prop := R2D K (rIx5 w K) x y M Q ∨ DunD P w K mg base k E ρ "__getitem__" x [y] M Q
theorem subscripted_plain {b : Expr} (hb : isSl b = false) (u i : Value) : subscripted b true u i = runValue (.builtin "lifetime.subscript" ⟨[u, i], []⟩) := by
  cases b <;> first | (with_unfolding_all rfl) | exact Bool.noConfusion hb
theorem we_ix6 (F : Fx X P w K mg base sc N L C Gs Bs k) (T : Tk X E) (hb : isSl b = false) (h : WE X ρ M a fun x M1 => WE X ρ M1 b fun y M2 => SubD P w X.K mg base k E ρ x y M2 Q) : WE X ρ M (.Subscript a b pos) Q := fun σ H rs m pins s I => by
  refine Subscript_ (thn (h σ H rs m pins s I) fun v s1 ⟨vx, H1, I1, rx, x, M1, a1, a2, a3, a4⟩ => ?_)
  refine thn (a4 σ H1 (rs.mono a3) a2 pins s1 I1) fun u s2 ⟨vy, H2, I2, ry, y, M2, b1, b2, b3, z⟩ => ?_
  rcases z with z | z
  · exact thn (ix_5 F a b pins s2 σ H2 vx vy v u _ I2 rx ry (z vx vy H2 (a1.mono b3) b1 b2) (plainIx hb _ _)) fun r s3 ⟨v3, H3, I3, r3, q3⟩ => ⟨v3, H3, I3, r3, q3.stay (a3.trans b3)⟩
  · obtain ⟨aa, Cc, f, e1, D, run⟩ := dun_run F T I2 ((rs.mono a3).mono b3) b2 (a3.trans b3) z
    subst e1
    cases a1
    cases rx
    obtain ⟨od, dx, J⟩ := D.at_
    obtain ⟨mm, hF⟩ := I2.fr
    obtain ⟨_, _, _, _, _, _, _, _, _, _, hk, _⟩ := z
    exact PySem.W.sub_K hF I2.ok.mod.kin J D.find D.fnI D.fn (run _ [u] [vy] rfl (room_in1 F.room (by omega)) (.cons b1 .nil) (.cons ry .nil)) (subscripted_plain hb _ _)
instance (priority := 3500) [F : Fx X P w K mg base sc N L C Gs Bs k] [T : Tk X E] : Step (WE X ρ M (.Subscript a b pos) Q) (!isSl b) (WE X ρ M a fun x M1 => WE X ρ M1 b fun y M2 => SubD P w K mg base k E ρ x y M2 Q) := ⟨fun h q => by have e0 := F.hK; subst e0; exact we_ix6 F T (by simpa using h) q⟩
instance {aa : Addr} {i : Nat} {fs : List (Str × DV)} {y : DV} [A : AtM M i aa (.ins Cc fs)] [G : McalX P w K mg base Cc "__getitem__" j n sp] : Step (SubD P w K mg base k E ρ (.ref aa) y M Q) (Nat.ble (j + 3) k && Nat.beq 2 n) (sp [.ref aa, y] M Q (fun C fs M' => E C fs ρ M')) := ⟨fun h q => by
  rw [Bool.and_eq_true] at h
  exact .inr ⟨aa, i, Cc, fs, j, n, sp, rfl, A, G, Nat.le_of_ble_eq_true h.1, Nat.eq_of_beq_eq_true h.2, q⟩⟩
instance (priority := low) {x y : DV} : Step (SubD P w K mg base k E ρ x y M Q) true (R2D K (rIx5 w K) x y M Q) := ⟨fun _ q => .inl q⟩
end
end G
namespace G
open PySem PySem.Spec PyProof.Rows L2
/-! ### own __contains__, __len__, __bool__, __call__, __setitem__ -/
section
variable {M : Model} {A : Around} {E : Value → Shared → Prop} {s : Shared} {K : PySem.W.Frag} {x C L f : Addr} {h₀ : Heap} {m : Str → Option Value} {ox : Obj} {od : Option Obj} {i v : Value}
theorem setItem_K {Q : Unit → Shared → Prop} (F : Fr h₀ L s.heap m) (X₀ : K.In h₀) (I : PySem.W.InstAt s.heap x ox C od) (hq : PySem.W.noSeq K C = true) (hs : PySem.W.findIn K (.ref C) "__setitem__" = some (some (.ref f))) (hf : PySem.W.isFn K (.ref f) = true)
    (h : wpAny M A (call (.ref f) [.ref x, i, v]) (fun _ s' => Q () s') E s) : wpAny M A (setItem (.ref x) i v) Q E s := by
  have X := X₀.keeps F.keep
  unfold setItem sequenceKey
  refine wpAny_holding (wpAny_bind (wpAny_bind (I.type.here ?_)))
  refine wpAny_bind ((PySem.W.anyM_none X hq).here ?_)
  rw [if_pos (show (!false) = true from rfl)]
  exact wpAny_pure (wpAny_bind (PySem.W.special_fn X I hs (beq_iff_eq.mp hf) (wpAny_mono h (fun _ _ z => wpAny_pure z) fun _ _ z => z)))
end
section
variable {X : Cy} {P : Program} {w : World} {K : Fg} {mg : Str → Option Value} {base : Heap} {sc : Scope} {N L C Gs Bs : List Str} {k j n : Nat} {ρ ρ' : Ro} {M : Mm} {Q : DV → Mm → Prop} {R : Bool → Mm → Prop} {S : Ro → Mm → Prop} {a b e o : Expr} {es : List Expr} {pos p apos : Pos} {x m : Str} {sp : SpX} {Cc : Addr} {E : EX} {A : Around} {f : Addr} {fd : FuncData} {ps : List Str} {σ : L2.St} {H H0 : Hp} {pins : List (Addr × Obj)} {s : Shared} {neg : Bool}
/-! x in c -/
def InO (P : Program) (w : World) (K : Fg) (mg : Str → Option Value) (base : Heap) (k : Nat) (E : EX) (ρ : Ro) (neg : Bool) (x c : DV) (M : Mm) (Q : DV → Mm → Prop) : Prop :=
  R2D K (rIn5 w K neg) x c M Q ∨ DunD P w K mg base k E ρ "__contains__" c [x] M (fun d M' => ∃ t, d = .bl t ∧ Q (.bl (if neg then !t else t)) M')
theorem in_run {x y : DV} {vx vy : V} {v u : Value} (F : Fx X P w K mg base sc N L C Gs Bs k) (T : Tk X E) (I : Inv X.toCx pins σ H s) (rs : RS X H ρ σ) (rm : RM X.K H M) (st0 : Stay X.K H0 H) (rx : RelV vx v) (ry : RelV vy u) (dx : RD X.K H x vx) (dy : RD X.K H y vy)
    (z : InO P w X.K mg base k E ρ neg x y M Q) : wpAny (model X.prog X.w) X.A (compareOp (if neg then .NotIn else .In) v u) (EP X.toCx pins σ (LE X.K H0 Q)) X.xe s := by
  rcases z with z | z
  · have h : wpAny (model X.prog X.w) X.A (compareOp (if neg then .NotIn else .In) v u) (EP X.toCx pins σ (LE X.K H Q)) X.xe s := by
      cases neg with
      | true => exact op_notin5 F pins s σ H vx vy v u _ I rx ry (z vx vy H dx dy rm)
      | false => exact op_in5 F pins s σ H vx vy v u _ I rx ry (z vx vy H dx dy rm)
    exact thn h fun r s3 ⟨v3, H3, I3, r3, q3⟩ => ⟨v3, H3, I3, r3, q3.stay st0⟩
  · obtain ⟨aa, Cc, f, e1, D, run⟩ := dun_run F T I rs rm st0 z
    subst e1
    cases dy
    cases ry
    obtain ⟨od, dx', J⟩ := D.at_
    obtain ⟨mm, hF⟩ := I.fr
    obtain ⟨_, _, _, _, _, _, _, _, _, _, hk, _⟩ := z
    have fin := run X.A [v] [vx] rfl (F.room.mono (by omega)) (.cons dx .nil) (.cons rx .nil)
    cases neg with
    | true =>
      refine PySem.W.notIn_K hF I.ok.mod.kin J D.find D.fn (thn fin fun r s3 ⟨v3, H3, I3, r3, d3, M3, a1, a2, a3, t, e2, q⟩ => ?_)
      subst e2; cases a1; cases r3
      exact wpAny_truthy_bool ⟨.bl (!t), H3, I3, rfl, .bl (!t), M3, .bl _, a2, a3, q⟩
    | false =>
      refine PySem.W.in_K hF I.ok.mod.kin J D.find D.fn (thn fin fun r s3 ⟨v3, H3, I3, r3, d3, M3, a1, a2, a3, t, e2, q⟩ => ?_)
      subst e2; cases a1; cases r3
      exact wpAny_truthy_bool ⟨.bl t, H3, I3, rfl, .bl t, M3, .bl _, a2, a3, q⟩
theorem we_inO (F : Fx X P w K mg base sc N L C Gs Bs k) (T : Tk X E) (hm : behindInMarks (if neg then .NotIn else .In) b = false) (h : WE X ρ M a fun x M1 => WE X ρ M1 b fun y M2 => InO P w X.K mg base k E ρ neg x y M2 Q) : WE X ρ M (.Compare a [if neg then .NotIn else .In] [b] pos) Q := fun σ H rs m pins s I => by
  refine wpAny_Compare1 (thn (h σ H rs m pins s I) fun v s1 ⟨vx, H1, I1, rx, x, M1, a1, a2, a3, a4⟩ => ?_) hm
  refine thn (a4 σ H1 (rs.mono a3) a2 pins s1 I1) fun u s2 ⟨vy, H2, I2, ry, y, M2, b1, b2, b3, z⟩ => ?_
  exact in_run F T I2 ((rs.mono a3).mono b3) b2 (a3.trans b3) rx ry (a1.mono b3) b1 z
theorem wt_inO (F : Fx X P w K mg base sc N L C Gs Bs k) (T : Tk X E) (hm : behindInMarks (if neg then .NotIn else .In) b = false) (h : WE X ρ M a fun x M1 => WE X ρ M1 b fun y M2 => InO P w X.K mg base k E ρ neg x y M2 (QB R)) : WT X ρ M (.Compare a [if neg then .NotIn else .In] [b] pos) R := fun σ H rs m pins s I => by
  refine wpAny_isTrue_Compare1 (thn (h σ H rs m pins s I) fun v s1 ⟨vx, H1, I1, rx, x, M1, a1, a2, a3, a4⟩ => ?_) hm
  refine thn (a4 σ H1 (rs.mono a3) a2 pins s1 I1) fun u s2 ⟨vy, H2, I2, ry, y, M2, b1, b2, b3, z⟩ => ?_
  refine thn (in_run F T I2 ((rs.mono a3).mono b3) b2 (a3.trans b3) rx ry (a1.mono b3) b1 z) fun c s3 ⟨v3, H3, I3, r3, d3, M3, c1, c2, c3, t, e1, q⟩ => ?_
  subst e1; cases c1; cases r3
  exact wpAny_truthy_bool ⟨H3, I3, M3, c2, c3, q⟩
instance (priority := 3500) [F : Fx X P w K mg base sc N L C Gs Bs k] [T : Tk X E] : Step (WE X ρ M (.Compare a [.In] [b] pos) Q) (!behindInMarks .In b) (WE X ρ M a fun x M1 => WE X ρ M1 b fun y M2 => InO P w K mg base k E ρ false x y M2 Q) := ⟨fun h q => by have e0 := F.hK; subst e0; exact we_inO (neg := false) F T (by simpa using h) q⟩
instance (priority := 3500) [F : Fx X P w K mg base sc N L C Gs Bs k] [T : Tk X E] : Step (WE X ρ M (.Compare a [.NotIn] [b] pos) Q) (!behindInMarks .NotIn b) (WE X ρ M a fun x M1 => WE X ρ M1 b fun y M2 => InO P w K mg base k E ρ true x y M2 Q) := ⟨fun h q => by have e0 := F.hK; subst e0; exact we_inO (neg := true) F T (by simpa using h) q⟩
instance (priority := 3500) [F : Fx X P w K mg base sc N L C Gs Bs k] [T : Tk X E] : Step (WT X ρ M (.Compare a [.In] [b] pos) R) (!behindInMarks .In b) (WE X ρ M a fun x M1 => WE X ρ M1 b fun y M2 => InO P w K mg base k E ρ false x y M2 (QB R)) := ⟨fun h q => by have e0 := F.hK; subst e0; exact wt_inO (neg := false) F T (by simpa using h) q⟩
instance (priority := 3500) [F : Fx X P w K mg base sc N L C Gs Bs k] [T : Tk X E] : Step (WT X ρ M (.Compare a [.NotIn] [b] pos) R) (!behindInMarks .NotIn b) (WE X ρ M a fun x M1 => WE X ρ M1 b fun y M2 => InO P w K mg base k E ρ true x y M2 (QB R)) := ⟨fun h q => by have e0 := F.hK; subst e0; exact wt_inO (neg := true) F T (by simpa using h) q⟩
instance {aa : Addr} {i : Nat} {fs : List (Str × DV)} {y : DV} [A : AtM M i aa (.ins Cc fs)] [G : McalX P w K mg base Cc "__contains__" j n sp] : Step (InO P w K mg base k E ρ neg y (.ref aa) M Q) (Nat.ble (j + 3) k && Nat.beq 2 n) (sp [.ref aa, y] M (fun d M' => ∃ t, d = .bl t ∧ Q (.bl (if neg then !t else t)) M') (fun C fs M' => E C fs ρ M')) := ⟨fun h q => by
  rw [Bool.and_eq_true] at h
  exact .inr ⟨aa, i, Cc, fs, j, n, sp, rfl, A, G, Nat.le_of_ble_eq_true h.1, Nat.eq_of_beq_eq_true h.2, q⟩⟩
instance (priority := low) {x y : DV} : Step (InO P w K mg base k E ρ neg x y M Q) true (R2D K (rIn5 w K neg) x y M Q) := ⟨fun _ q => .inl q⟩
/-! len(x) -/
def LenO (P : Program) (w : World) (K : Fg) (mg : Str → Option Value) (base : Heap) (k : Nat) (E : EX) (ρ : Ro) (ds : List DV) (M : Mm) (Q : DV → Mm → Prop) : Prop :=
  CD K (rLen5 w K) ds M Q ∨ ∃ d, ds = [d] ∧ DunD P w K mg base k E ρ "__len__" d [] M (fun d M' => ∃ n : Int, d = .int n ∧ 0 ≤ n ∧ n < 2 ^ 63 ∧ Q (.int n) M')
theorem call_len5 (F : Fx X P w K mg base sc N L C Gs Bs k) : CallR X.toCx (.builtin "len") (rLen5 w X.K) := fun pins s σ H vs us Q I r z => z.elim (fun z => call_len pins s σ H vs us Q I r z) fun z => call_lenN pins s σ H vs us Q I r (by rw [F.hw]; exact z)
theorem we_lenO (F : Fx X P w K mg base sc N L C Gs Bs k) (T : Tk X E) (hx : ("len" : Str) ∈ Gs) (hx2 : ("len" : Str) ∈ Bs) (hs : noStars [e] = true) (h : WA X ρ M [e] fun ds M1 => LenO P w X.K mg base k E ρ ds M1 Q) : WE X ρ M (.Call (.Name "len" p) [e] [] pos) Q := fun σ H rs m pins s I => by
  obtain ⟨g1, g2, g3⟩ := F.gl "len" hx
  obtain ⟨h1, h2⟩ := noStars_cons hs
  refine wpAny_Call_Name_kw (ld_blt I g1 (by rw [F.hmg]; exact F.bl "len" hx2) PySem.boot_len ?_ g3 g2)
  refine PyProof.Rows.callWith_builtin1 (thn (pa_w.run pos pins s σ H _ I (h σ H rs m)) fun us s1 ⟨vs, H1, I1, r1, ds, M1, k1, k2, k3, z⟩ => ?_) (starEach_cons h1) (noStars_any h2)
  rcases z with z | ⟨d, e1, z⟩
  · exact thn (call_len5 F pins s1 σ H1 vs us _ I1 r1 (z vs H1 k1 k2)) fun r s3 ⟨v3, H3, I3, r3, q3⟩ => ⟨v3, H3, I3, r3, q3.stay k3⟩
  · obtain ⟨aa, Cc, f, e2, D, run⟩ := dun_run F T I1 (rs.mono k3) k2 k3 z
    subst e1 e2
    cases k1 with
    | cons q1 q2 =>
      cases q2; cases q1
      cases r1 with
      | cons r1 r2 =>
        cases r2; cases r1
        obtain ⟨od, dx', J⟩ := D.at_
        obtain ⟨mm, hF⟩ := I1.fr
        obtain ⟨_, _, _, _, _, _, _, _, _, _, hk, _⟩ := z
        refine PySem.W.len_K hF I1.ok.mod.kin J D.find D.fn (thn (run X.A.in1 [] [] rfl (room_in1 F.room (by omega)) .nil .nil) fun r s3 ⟨v3, H3, I3, r3, d3, M3, a1, a2, a3, n, e2, n1, n2, q⟩ => ?_)
        subst e2; cases a1
        obtain ⟨tk, rfl⟩ := r3
        exact ⟨⟨n1, n2⟩, .int n, H3, I3.tok _, ⟨_, rfl⟩, .int n, M3, .int n, a2, a3, q⟩
instance (priority := 3500) [F : Fx X P w K mg base sc N L C Gs Bs k] [T : Tk X E] [m : MemC "len" Gs] [m2 : MemC "len" Bs] : Step (WE X ρ M (.Call (.Name (Str.ofString "len") p) [e] [] pos) Q) (noStars [e]) (WA X ρ M [e] fun ds M1 => LenO P w K mg base k E ρ ds M1 Q) := ⟨fun h q => by have e0 := F.hK; subst e0; exact we_lenO F T m.h m2.h h q⟩
instance {aa : Addr} {i : Nat} {fs : List (Str × DV)} [A : AtM M i aa (.ins Cc fs)] [G : McalX P w K mg base Cc "__len__" j n sp] : Step (LenO P w K mg base k E ρ [.ref aa] M Q) (Nat.ble (j + 3) k && Nat.beq 1 n) (sp [.ref aa] M (fun d M' => ∃ n : Int, d = .int n ∧ 0 ≤ n ∧ n < 2 ^ 63 ∧ Q (.int n) M') (fun C fs M' => E C fs ρ M')) := ⟨fun h q => by
  rw [Bool.and_eq_true] at h
  exact .inr ⟨.ref aa, rfl, aa, i, Cc, fs, j, n, sp, rfl, A, G, Nat.le_of_ble_eq_true h.1, Nat.eq_of_beq_eq_true h.2, q⟩⟩
instance (priority := low) {ds : List DV} : Step (LenO P w K mg base k E ρ ds M Q) true (CD K (rLen5 w K) ds M Q) := ⟨fun _ q => .inl q⟩
/-! bool(x) -/
theorem bool_own {prog : Program} {w : World} {A : Around} {E : Value → Shared → Prop} {s : Shared} {x : Value} {Q : Value → Shared → Prop} (h : wpAny (model prog w) A.in1.in1 (truthy x) (fun b s' => Q (.bool b) s') E s) : wpAny (model prog w) A (call (.type "bool") [x]) Q E s := by
  have g : MeetsIn prog w (Builtin.«bool.__new__» ⟨[.type "bool", x], []⟩) (fun A R s => wpAny (model prog w) A.in1 (truthy x) (fun b s' => R (.ok (.ret (.bool b))) s') (fun e s' => R (.error e) s') s) := fun A R s h => by
    obtain ⟨hp, g, d, tk, os⟩ := s
    have f1 := F.conv_sub_bool
    repeat (any_goals (first | assumption | wp_step))
    refine wpAny_mono h (fun b s' q => ?_) fun _ _ z => z
    exact wpAny_pure q
  refine callType_meetsIn (Q₁ := fun obj s₁ => s₁.TypeIs obj "bool" ∧ Q obj s₁) F.called_bool (F.typeCall_bool_1 x) (F.newCall_bool_1 x) F.entry_bool_new F.entry_object_init g ?_ fun obj s₁ hq => ⟨hq.1, F.args_object_init_2 obj x, _, object_init_meets F.called_bool.init.lookup F.called_bool.made F.newNe_bool, hq.1, rfl, hq.2⟩
  exact wpAny_mono h (fun b s' q => ⟨PySem.typeIs_bool _ _, q⟩) fun _ _ z => z
def BoolO (P : Program) (w : World) (K : Fg) (mg : Str → Option Value) (base : Heap) (k : Nat) (E : EX) (ρ : Ro) (ds : List DV) (M : Mm) (Q : DV → Mm → Prop) : Prop :=
  ∃ d, ds = [d] ∧ DunD P w K mg base k E ρ "__bool__" d [] M (fun d M' => ∃ t, d = .bl t ∧ Q (.bl t) M')
theorem we_boolO (F : Fx X P w K mg base sc N L C Gs Bs k) (T : Tk X E) (hx : ("bool" : Str) ∈ Gs) (hx2 : ("bool" : Str) ∈ Bs) (hs : noStars [e] = true) (h : WA X ρ M [e] fun ds M1 => BoolO P w X.K mg base k E ρ ds M1 Q) : WE X ρ M (.Call (.Name "bool" p) [e] [] pos) Q := fun σ H rs m pins s I => by
  obtain ⟨g1, g2, g3⟩ := F.gl "bool" hx
  obtain ⟨h1, h2⟩ := noStars_cons hs
  refine wpAny_Call_Name_kw (ld_blt I g1 (by rw [F.hmg]; exact F.bl "bool" hx2) (show bootBuiltins "bool" = some (.type "bool") by decide +kernel) ?_ g3 g2)
  refine PyProof.Rows.callWith_type1 (thn (pa_w.run pos pins s σ H _ I (h σ H rs m)) fun us s1 ⟨vs, H1, I1, r1, ds, M1, k1, k2, k3, d, e1, z⟩ => ?_) (starEach_cons h1) (noStars_any h2)
  obtain ⟨aa, Cc, f, e2, D, run⟩ := dun_run F T I1 (rs.mono k3) k2 k3 z
  subst e1 e2
  cases k1 with
  | cons q1 q2 =>
    cases q2; cases q1
    cases r1 with
    | cons r1 r2 =>
      cases r2; cases r1
      obtain ⟨od, dx', J⟩ := D.at_
      obtain ⟨mm, hF⟩ := I1.fr
      obtain ⟨_, _, _, _, _, _, _, _, _, _, hk, _⟩ := z
      refine bool_own (PySem.W.truthy_K hF I1.ok.mod.kin J D.find D.fn (thn (run X.A.in1.in1 [] [] rfl (Room.in1 (Room.in1 (F.room.mono (by omega)))) .nil .nil) fun r s3 ⟨v3, H3, I3, r3, d3, M3, a1, a2, a3, t, e2, q⟩ => ?_))
      subst e2; cases a1; cases r3
      exact ⟨.bl t, H3, I3, rfl, .bl t, M3, .bl t, a2, a3, q⟩
instance [F : Fx X P w K mg base sc N L C Gs Bs k] [T : Tk X E] [m : MemC "bool" Gs] [m2 : MemC "bool" Bs] : Step (WE X ρ M (.Call (.Name (Str.ofString "bool") p) [e] [] pos) Q) (noStars [e]) (WA X ρ M [e] fun ds M1 => BoolO P w K mg base k E ρ ds M1 Q) := ⟨fun h q => by have e0 := F.hK; subst e0; exact we_boolO F T m.h m2.h h q⟩
instance {aa : Addr} {i : Nat} {fs : List (Str × DV)} [A : AtM M i aa (.ins Cc fs)] [G : McalX P w K mg base Cc "__bool__" j n sp] : Step (BoolO P w K mg base k E ρ [.ref aa] M Q) (Nat.ble (j + 3) k && Nat.beq 1 n) (sp [.ref aa] M (fun d M' => ∃ t, d = .bl t ∧ Q (.bl t) M') (fun C fs M' => E C fs ρ M')) := ⟨fun h q => by
  rw [Bool.and_eq_true] at h
  exact ⟨.ref aa, rfl, aa, i, Cc, fs, j, n, sp, rfl, A, G, Nat.le_of_ble_eq_true h.1, Nat.eq_of_beq_eq_true h.2, q⟩⟩
/-! x[y] = v -/
def SetO (P : Program) (w : World) (K : Fg) (mg : Str → Option Value) (base : Heap) (k : Nat) (E : EX) (ρ : Ro) (x y d : DV) (M : Mm) (T : Mm → Prop) : Prop := Set5 w M x y d T ∨ DunD P w K mg base k E ρ "__setitem__" x [y, d] M (fun _ M' => T M')
theorem wg_ixO {d : DV} (F : Fx X P w K mg base sc N L C Gs Bs k) (T : Tk X E) (hi : isSl b = false) (h : WE X ρ M a fun x M1 => WE X ρ M1 b fun y M2 => SetO P w X.K mg base k E ρ x y d M2 (S ρ)) : WG X ρ M (.Subscript a b pos) d S := fun σ H v rs m r pins s u I ru => by
  have hu := F.room.un
  have ha : assign (.Subscript a b pos) X.env u = (do
      let ov ← holding [u] (eval a X.env)
      let iv ← holding [u, ov] (eval b X.env)
      standAt pos
      holding [u, ov, iv] (setItem ov iv u)
      release [u, ov, iv] []) := by cases b <;> first | rfl | exact Bool.noConfusion hi
  rw [ha]
  refine wpAny_bind (wpAny_holding (thn (h σ H rs m pins s I) fun ov s1 ⟨va, H1, I1, r1, x, M1, h1, h2, h3, h4⟩ => ?_))
  refine wpAny_bind (wpAny_holding (thn (h4 σ H1 (rs.mono h3) h2 pins s1 I1) fun iv s2 ⟨vb, H2, I2, r2, y, M2, g1, g2, g3, z⟩ => ?_))
  refine wpAny_bind (wpAny_standAt (wpAny_bind (wpAny_holding ?_)))
  have done : ∀ s3, (∃ H', Inv X.toCx pins σ H' s3 ∧ ∃ M', RM X.K H' M' ∧ Stay X.K H2 H' ∧ S ρ M') → wpAny (model X.prog X.w) X.A (release [u, ov, iv] []) (fun _ s' => ∃ σ' H', Inv X.toCx pins σ' H' s' ∧ LN X H S σ' H') X.xe s3 := fun s3 ⟨H', I', M', q1, q2, q3⟩ => wpAny_release ⟨σ, H', I', ρ, M', (((rs.mono h3).mono g3).mono q2), q1, (h3.trans g3).trans q2, q3⟩
  rcases z with z | z
  · rcases z with ⟨p, n, xs, i, j, g4, g5, g6, g7, g8⟩ | ⟨p, n, o, kvs, kk, g4, g5, g6, g7, g8, g9⟩
    · subst g4 g5
      cases h1; cases g1
      obtain ⟨vs, e, rr⟩ := g2.at g6.ix
      have mu : Wr H2 p := wr_lst e
      have st : Stay X.K H2 (upd H2 p (.lst (vs.set j v))) := Stay.write mu
      refine thn (set_list pins s2 σ H2 (.ref p) (.int i) v ov iv u (fun H' => H' = upd H2 p (.lst (vs.set j v))) I2 r1 r2 ru ⟨p, vs, i, j, rfl, rfl, e, by rw [← rr.length]; exact g7, rfl⟩) fun _ s3 ⟨H3, I3, q3⟩ => done s3 ⟨_, I3, ?_⟩
      subst q3
      exact ⟨_, g2.write (q' := .lst (xs.set j d)) g6.ix mu ⟨_, upd_same, (rr.mono st).set (((r.mono h3).mono g3).mono st) j⟩, st, g8⟩
    · subst g4
      cases h1
      obtain ⟨xs, e, rr⟩ := g2.at g7.ix
      refine thn (set_dn (X := X.toCx) (by omega) pins s2 σ H2 (.ref p) vb v ov iv u (fun H' => ∃ M', RM X.K H' M' ∧ Stay X.K H2 H' ∧ S ρ M') I2 r1 r2 ru ⟨p, o, kvs, xs, y, kk, rfl, g1, g5, g6, by rw [F.hw]; exact e, rr, g8, fun mu o' ku vu rk rv => ?_⟩) fun _ s3 ⟨H3, I3, q3⟩ => done s3 ⟨_, I3, q3⟩
      rw [F.hw]
      have st : Stay X.K H2 (upd H2 p (DnO w p o' (pput xs kk ku vu))) := Stay.write mu
      exact ⟨_, g2.write (q' := .dn w o' (kput kvs kk y d)) g7.ix mu ⟨_, upd_same, (rr.put g5 g6 g1 rk ((r.mono h3).mono g3) rv).mono st⟩, st, g9 o'⟩
  · obtain ⟨aa, Cc, f, e1, D, run⟩ := dun_run F T I2 ((rs.mono h3).mono g3) g2 (Stay.refl) z
    subst e1
    cases h1
    cases r1
    obtain ⟨od, dx, J⟩ := D.at_
    obtain ⟨mm, hF⟩ := I2.fr
    obtain ⟨_, _, _, _, _, _, _, _, _, _, hk, _⟩ := z
    refine setItem_K hF I2.ok.mod.kin J D.nsq D.find D.fn (thn (run X.A [iv, u] [vb, v] rfl (F.room.mono (by omega)) (.cons g1 (.cons ((r.mono h3).mono g3) .nil)) (.cons r2 (.cons ru .nil))) fun _ s3 ⟨v3, H3, I3, r3, d3, M3, a1, a2, a3, q⟩ => done s3 ⟨H3, I3, M3, a2, a3, q⟩)
instance (priority := 3500) {d : DV} [F : Fx X P w K mg base sc N L C Gs Bs k] [T : Tk X E] : Step (WG X ρ M (.Subscript a b pos) d S) (!isSl b) (WE X ρ M a fun x M1 => WE X ρ M1 b fun y M2 => SetO P w K mg base k E ρ x y d M2 (S ρ)) := ⟨fun h q => by have e0 := F.hK; subst e0; exact wg_ixO F T (by simpa using h) q⟩
instance {aa : Addr} {i : Nat} {fs : List (Str × DV)} {y d : DV} {T : Mm → Prop} [A : AtM M i aa (.ins Cc fs)] [G : McalX P w K mg base Cc "__setitem__" j n sp] : Step (SetO P w K mg base k E ρ (.ref aa) y d M T) (Nat.ble (j + 3) k && Nat.beq 3 n) (sp [.ref aa, y, d] M (fun _ M' => T M') (fun C fs M' => E C fs ρ M')) := ⟨fun h q => by
  rw [Bool.and_eq_true] at h
  exact .inr ⟨aa, i, Cc, fs, j, n, sp, rfl, A, G, Nat.le_of_ble_eq_true h.1, Nat.eq_of_beq_eq_true h.2, q⟩⟩
instance (priority := low) {x y d : DV} {T : Mm → Prop} : Step (SetO P w K mg base k E ρ x y d M T) true (Set5 w M x y d T) := ⟨fun _ q => .inl q⟩
end
end G
namespace G
open PySem PySem.Spec PyProof.Rows L2
/-! ### x(..) of a local name that holds an instance; C(k = e); dicts of plain keys: get, pop, != {} -/
section
variable {M : Model} {A : Around} {E : Value → Shared → Prop} {s : Shared} {env : Env} {pos : Pos} {x : Addr} {first : List Value} {Q : Value → Shared → Prop}
theorem kco_ex {args : List (Bool × Sem Value)} {keywords : List (Option Str × Sem Value)} (hplain : (args.any (·.1) || keywords.any (·.1.isNone)) = false)
    (h : wpAny M A (evalArgs (.ref x) true args keywords) (fun a s₁ => (∃ K C ox od, PySem.W.kco_P K x C ox od s₁.heap ∧ ox.data = .plain) ∧ wpAny M A (call (.ref x) (first ++ a.pos) a.kw) Q E s₁) E s) : wpAny M A (callWith pos (.ref x) first args keywords) Q E s := by
  unfold callWith
  refine wpAny_bind (wpAny_holding (wpAny_mono h (fun a s₁ h₁ => wpAny_bind (wpAny_standAt ?_)) fun _ _ y => y))
  obtain ⟨⟨K, C, ox, od, hP, hd⟩, h₁⟩ := h₁
  have L := PySem.W.kco_keeper (M := M) hP.2 hd
  simp only [hplain]
  refine wpAny_bind (L.here ?_)
  have tail : ∀ {t : Sem Value}, wpAny M A t Q E s₁ → wpAny M A (t >>= fun r => holding [r] point >>= fun _ => pure r) Q E s₁ :=
    fun ht => wpAny_bind (wpAny_mono ht (fun r s₂ hr => wpAny_bind (wpAny_holding (wpAny_point (wpAny_pure hr)))) fun _ _ y => y)
  exact tail (wpAny_operateT h₁)
end
/-- x(k2 = .., k1 = ..) of an own __call__, the keywords' order turned about -/
class McalR (P : Program) (w : World) (K : Fg) (mg : Str → Option Value) (base : Heap) (C : Addr) (m : Str) (ks : List Str) (j : outParam Nat) (sp : outParam SpX) : Prop where
  cl : Cls K C
  ex : ∃ (f : Addr) (fd : FuncData) (ps : List Str), FnOk P w K mg base (L2.CX P w) j f fd ps (sp1X K (1 + ks.length) sp) ∧ Meth K C m f ∧ KBn K fd ps 1 ks (fun us ws => us ++ ws.reverse) (fun us ws => us ++ ws.reverse) ∧ PySem.W.fnIn K f = true
def MtTR (K : Fg) (Cc : Addr) (m qual : Str) (st : Stmt) (ps ks : List Str) : Prop := ∃ f fd dV, FunD K m qual st f fd dV ∧ Meth K Cc m f ∧ KBn K fd ps 1 ks (fun us ws => us ++ ws.reverse) (fun us ws => us ++ ws.reverse)
/-- C(k = e, ..), the rest by their defaults -/
class MkiD (P : Program) (w : World) (K : Fg) (mg : Str → Option Value) (base : Heap) (x : Str) (ks : List Str) (Cc : outParam Addr) (j : outParam Nat) (dd : outParam (List DV)) (sp : outParam SpX) : Prop where
  ex : ∃ (f : Addr) (fd : FuncData) (ps : List Str) (mv : List Value) (mz : List V), Mk K Cc f ∧ FnOk P w K mg base (L2.CX P w) j f fd ps (sp1X K (1 + ks.length + dd.length) sp) ∧ mg x = some (.ref Cc) ∧ KBn K fd ps 1 ks (fun us ws => us ++ ws ++ mv) (fun vs zs => vs ++ zs ++ mz) ∧ ∀ H, RDs K H dd mz
section
variable {P : Program} {w : World} {K : Fg} {mg : Str → Option Value} {base : Heap} {N L C Gs Bs : List Str} {k : Nat}
theorem mcalR_mk {m qual : Str} {st : Stmt} {ps ks : List Str} {Cc : Addr} {sp : SpX} (cl : Cls K Cc) (T : MtTR K Cc m qual st ps ks) (S : FnScope N ps (defScope st)) (hst : stat (defScope st) N L C Gs = true) (hb : ∀ x ∈ Bs, mg x = none) (hn : 1 + ks.length = ps.length)
    (h : ∀ X, Fx X P w K mg base (defScope st) N L C Gs Bs k → ∀ ds M Q E, ds.length = ps.length → sp ds M Q E → Tk X (fun Cc fs _ M' => Sub (E Cc fs) M') → WSs X (ini N ds) M (defBody st) (fun _ M' => Sub (Q .non) M') (fun d M' => Sub (Q d) M') (fun _ _ => False) (fun _ _ => False)) :
    McalR P w K mg base Cc m ks (k + 1) sp := by
  obtain ⟨f, fd, dV, h1, h2, h3⟩ := T
  exact ⟨cl, f, fd, ps, by rw [hn]; exact fn_okDX h1 S hst hb h, h2, h3, h1.fnIn⟩
theorem mkiD_mk {x qual : Str} {st : Stmt} {ps ks : List Str} {Cc : Addr} {dd : List DV} {sp : SpX} (T : MkTn K mg x ks Cc qual st ps dd) (S : FnScope N ps (defScope st)) (hst : stat (defScope st) N L C Gs = true) (hb : ∀ x ∈ Bs, mg x = none) (hn : 1 + ks.length + dd.length = ps.length)
    (h : ∀ X, Fx X P w K mg base (defScope st) N L C Gs Bs k → ∀ ds M Q E, ds.length = ps.length → sp ds M Q E → Tk X (fun Cc fs _ M' => Sub (E Cc fs) M') → WSs X (ini N ds) M (defBody st) (fun _ M' => Sub (Q .non) M') (fun d M' => Sub (Q d) M') (fun _ _ => False) (fun _ _ => False)) :
    MkiD P w K mg base x ks Cc (k + 1) dd sp := by
  obtain ⟨f, fd, dV, us, vs, h1, h2, h3, h4, h5⟩ := T
  exact ⟨f, fd, ps, us, vs, h1, by rw [hn]; exact fn_okDX h2 S hst hb h, h3, h4, h5⟩
end
section
variable {X : Cy} {P : Program} {w : World} {K : Fg} {mg : Str → Option Value} {base : Heap} {sc : Scope} {N L C Gs Bs : List Str} {k j n i : Nat} {ρ ρ' : Ro} {M : Mm} {Q : DV → Mm → Prop} {R : Bool → Mm → Prop} {S : Ro → Mm → Prop} {a b e e1 e2 f o : Expr} {es : List Expr} {pos p p1 p2 apos : Pos} {x m k1 k2 : Str} {sp : SpX} {Cc aa : Addr} {E : EX} {σ : L2.St} {H H0 : Hp} {pins : List (Addr × Obj)} {s : Shared} {dd : List DV} {q : Addr} {ob : Obj} {kvs : List (DV × DV)} {kk : NK} {d d2 : DV}
theorem near_code {A : Around} {ff : Addr} {fd : FuncData} {ps : List Str} {sq : Sp} {EE : XK} {us : List Value} {vs : List V} {QQ : VK} {args : Args} (G1 : FnOk X.prog X.w X.K X.mg X.base (L2.CX X.prog X.w) j ff fd ps sq) (hr : Room j A) (hf : A.frames = X.A.frames) (hb : BindsTo s fd args (ps.zip us)) (hx : PassesAt (L2.CX X.prog X.w) X.toCx σ EE)
    (I : Inv X.toCx pins σ H s) (r : Vals vs us) (h : sq vs H QQ EE) : codeAny (model X.prog X.w) A (.call (.ref ff) args) (wants (EP X.toCx pins σ QQ) X.xe) s := by
  refine codeAny_mono (G1.run A X.stack s H args us vs QQ EE hr (env_near I hf) hb r h) fun r s' hq => ?_
  match r, hq with
  | .error e, hq => exact hx pins H s e s' I hq
  | .ok (.ret u), hq => exact I.after hq
  | .ok .next, hq => exact False.elim hq
  | .ok .brk, hq => exact False.elim hq
  | .ok .cont, hq => exact False.elim hq
/-- what stands at a name -/
theorem name_at (F : Fx X P w K mg base sc N L C Gs Bs k) (A : At N ρ x d) (rs : RS X H ρ σ) (rm : RM X.K H M) (I : Inv X.toCx pins σ H s) : wpAny (model X.prog X.w) X.A (eval (.Name x p) X.env) (fun u s' => ∃ v, RelV v u ∧ ∃ H', Inv X.toCx pins σ H' s' ∧ RD X.K H' d v ∧ RM X.K H' M ∧ Stay X.K H H') X.xe s :=
  thn (we_name (Q := fun d' M' => d' = d ∧ M' = M) F A ⟨rfl, rfl⟩ σ H rs rm pins s I) fun u s' ⟨v, H', I', r, d', M', a1, a2, a3, e1, e2⟩ => by
    subst e1 e2
    exact ⟨v, r, H', I', a1, a2, a3⟩
theorem we_callO (F : Fx X P w K mg base sc N L C Gs Bs k) (T : Tk X E) (A : At N ρ x (.ref aa)) (hs : noStars (e :: es) = true) (h : WA X ρ M (e :: es) fun ds M1 => DunD P w X.K mg base k E ρ "__call__" (.ref aa) ds M1 Q) : WE X ρ M (.Call (.Name x p) (e :: es) [] pos) Q := fun σ H rs m pins s I => by
  obtain ⟨h1, h2⟩ := noStars_cons hs
  refine wpAny_Call_Name_kw (thn (name_at F A rs m I) fun u s1 ⟨v, rv, H1, I1, d1, m1, st1⟩ => ?_)
  cases d1
  obtain rfl : u = Value.ref aa := rv
  have hpl : ((backTo pos (starEach (e :: es) X.env)).any (·.1) || (backToKw pos (keywordEach [] X.env)).any (·.1.isNone)) = false := by
    rw [starEach_cons h1]
    show ((false || (backTo pos (starEach es X.env)).any (·.1)) || false) = false
    rw [noStars_any h2]; rfl
  refine kco_ex hpl ?_
  have hr := pa_w.run pos pins s1 σ H1 _ I1 (h σ H1 (rs.mono st1) m1)
  rw [starEach_cons h1] at hr ⊢
  refine Calls.evalArgs_plain (thn hr fun us s2 ⟨vs, H2, I2, r2, ds, M2, k1, k2, k3, z⟩ => ?_)
  obtain ⟨ab, i, Cc, fs, j, n, sp, e1, hA, G, hj, hn, hsp⟩ := z
  cases e1
  obtain ⟨ff, fd, ps, G1, hm, hb, hfn⟩ := G.ex
  obtain ⟨dx, gs, q1, q2⟩ := k2.at hA.ix
  obtain ⟨od, dx', J⟩ := ins_at I2 q1
  have eP := F.hP; have ew := F.hw; have eg := F.hmg; have eb := F.hbase
  subst eP ew eg eb
  refine ⟨⟨X.K, Cc, _, _, ⟨I2.kIn, J⟩, rfl⟩, wpAny_call (PySem.W.kco_code I2.kIn J rfl hm.at_ hm.fn hfn ?_)⟩
  have hz := sp_at (n := n) (H0 := H) ((rs.mono st1).mono k3) k2 (st1.trans k3) (.cons (.ref aa) k1) hn hsp
  have hl : (Value.ref aa :: us).length = ps.length := by
    have := G1.len _ _ _ _ hz
    rw [List.length_cons, ← r2.length]; exact this
  have hb' := hb s2 (Value.ref aa :: us) I2.kIn (by simpa using hl)
  rw [List.append_nil] at hb'
  exact near_code (vs := .ref aa :: vs) G1 (F.room.mono (by omega)) rfl hb' (passAt T.tk σ) I2 (.cons rfl r2) hz
instance {fs : List (Str × DV)} {ds : List DV} [A : AtM M i aa (.ins Cc fs)] [G : McalX P w K mg base Cc m j n sp] : Step (DunD P w K mg base k E ρ m (.ref aa) ds M Q) (Nat.ble (j + 3) k) (Side (ds.length + 1 = n) (sp (.ref aa :: ds) M Q (fun C fs M' => E C fs ρ M'))) := ⟨fun h q => ⟨aa, i, Cc, fs, j, n, sp, rfl, A, G, Nat.le_of_ble_eq_true h, q.a, q.b⟩⟩
instance (priority := 400) [F : Fx X P w K mg base sc N L C Gs Bs k] [T : Tk X E] [A : At N ρ x (.ref aa)] : Step (WE X ρ M (.Call (.Name x p) (e :: es) [] pos) Q) (noStars (e :: es)) (WA X ρ M (e :: es) fun ds M1 => DunD P w K mg base k E ρ "__call__" (.ref aa) ds M1 Q) := ⟨fun h q => by have e0 := F.hK; subst e0; exact we_callO F T A h q⟩
def CallR2 (P : Program) (w : World) (K : Fg) (mg : Str → Option Value) (base : Heap) (k : Nat) (E : EX) (ρ : Ro) (ks : List Str) (x : DV) (ds : List DV) (M : Mm) (Q : DV → Mm → Prop) : Prop :=
  ∃ a i Cc fs j sp, x = .ref a ∧ AtM M i a (.ins Cc fs) ∧ McalR P w K mg base Cc "__call__" ks j sp ∧ j + 3 ≤ k ∧ ds.length = ks.length ∧ sp (.ref a :: ds.reverse) M Q (fun C fs M' => E C fs ρ M')
theorem we_callO2 (F : Fx X P w K mg base sc N L C Gs Bs k) (T : Tk X E) (A : At N ρ x (.ref aa)) (h : WE X ρ M e1 fun d1 M1 => WE X ρ M1 e2 fun d2 M2 => CallR2 P w X.K mg base k E ρ [k1, k2] (.ref aa) [d1, d2] M2 Q) : WE X ρ M (.Call (.Name x p) [] [⟨some k1, e1, p1⟩, ⟨some k2, e2, p2⟩] pos) Q := fun σ H rs m pins s I => by
  refine wpAny_Call_Name_kw (thn (name_at F A rs m I) fun u s1 ⟨v, rv, H1, I1, d1, m1, st1⟩ => ?_)
  cases d1
  obtain rfl : u = Value.ref aa := rv
  refine kco_ex rfl (evalArgs_kw2_nil rfl ?_)
  have hk : PK X.toCx [⟨some k1, e1, p1⟩, ⟨some k2, e2, p2⟩] _ := pk_cons pe_w (pk_cons pe_w pk_nil)
  refine thn (hk.run pos pins s1 σ H1 (fun vs H2 => ∃ v1 v2 d1 d2 M2, vs = [v1, v2] ∧ RD X.K H2 d1 v1 ∧ RD X.K H2 d2 v2 ∧ RM X.K H2 M2 ∧ Stay X.K H1 H2 ∧ CallR2 P w X.K mg base k E ρ [k1, k2] (.ref aa) [d1, d2] M2 Q) I1 ?_) fun ws s2 ⟨vs, H2, I2, r2, v1, v2, d1, d2, M2, ev, b1, b2, b3, b4, z⟩ => ?_
  · refine (h σ H1 (rs.mono st1) m1).mono fun v1 H2 ⟨d1, M1, a1, a2, a3, a4⟩ => ?_
    refine (a4 σ H2 ((rs.mono st1).mono a3) a2).mono fun v2 H3 ⟨d2, M2, c1, c2, c3, c4⟩ => ?_
    exact ⟨v1, v2, d1, d2, M2, rfl, a1.mono c3, c1, c2, a3.trans c3, c4⟩
  obtain ⟨ab, i, Cc, fs, j, sp, e1, hA, G, hj, hn, hsp⟩ := z
  cases e1
  subst ev
  obtain ⟨ff, fd, ps, G1, hm, hb, hfn⟩ := G.ex
  obtain ⟨dx, gs, q1, q2⟩ := b3.at hA.ix
  obtain ⟨od, dx', J⟩ := ins_at I2 q1
  have eP := F.hP; have ew := F.hw; have eg := F.hmg; have eb := F.hbase
  subst eP ew eg eb
  refine ⟨⟨X.K, Cc, _, _, ⟨I2.kIn, J⟩, rfl⟩, wpAny_call (PySem.W.kco_code I2.kIn J rfl hm.at_ hm.fn hfn ?_)⟩
  have hz := sp_at (n := 1 + 2) (ds := [.ref aa, d2, d1]) (vs := [.ref aa, v2, v1]) (H0 := H) ((rs.mono st1).mono b4) b3 (st1.trans b4) (.cons (.ref aa) (.cons b2 (.cons b1 .nil))) rfl hsp
  cases r2 with
  | cons r1 r2 =>
    cases r2 with
    | cons r2 r3 =>
      cases r3
      exact near_code (us := [_, _, _]) (vs := [.ref aa, v2, v1]) G1 (F.room.mono (by omega)) rfl (hb.to s2 [.ref aa] [_, _] I2.kIn rfl rfl) (passAt T.tk σ) I2 (.cons rfl (.cons r2 (.cons r1 .nil))) hz
instance {fs : List (Str × DV)} {d1 d2 : DV} {ks : List Str} [A : AtM M i aa (.ins Cc fs)] [G : McalR P w K mg base Cc "__call__" ks j sp] : Step (CallR2 P w K mg base k E ρ ks (.ref aa) [d1, d2] M Q) (Nat.ble (j + 3) k && Nat.beq 2 ks.length) (sp [.ref aa, d2, d1] M Q (fun C fs M' => E C fs ρ M')) := ⟨fun h q => by
  rw [Bool.and_eq_true] at h
  exact ⟨aa, i, Cc, fs, j, sp, rfl, A, G, Nat.le_of_ble_eq_true h.1, Nat.eq_of_beq_eq_true h.2, q⟩⟩
instance (priority := 400) [F : Fx X P w K mg base sc N L C Gs Bs k] [T : Tk X E] [A : At N ρ x (.ref aa)] : Step (WE X ρ M (.Call (.Name x p) [] [⟨some k1, e1, p1⟩, ⟨some k2, e2, p2⟩] pos) Q) true (WE X ρ M e1 fun d1 M1 => WE X ρ M1 e2 fun d2 M2 => CallR2 P w K mg base k E ρ [k1, k2] (.ref aa) [d1, d2] M2 Q) := ⟨fun _ q => by have e0 := F.hK; subst e0; exact we_callO2 F T A q⟩
/-! C(k = e), nothing raised -/
theorem we_makeD1 (F : Fx X P w K mg base sc N L C Gs Bs k) (G : MkiD P w K mg base x [k1] Cc j dd sp) (hj : j + 1 ≤ k) (hx : x ∈ Gs)
    (h : WE X ρ M e1 fun d1 M1 => ∀ q, sp (.ref q :: ([d1] ++ dd)) ((q, .ins Cc []) :: M1) (fun d M' => d = .non ∧ Q (.ref q) M') (fun _ _ _ => False)) : WE X ρ M (.Call (.Name x p) [] [⟨some k1, e1, p1⟩] pos) Q := fun σ H rs m => by
  obtain ⟨f, fd, ps, mv, mz, Mm, G, hm, kb, hd⟩ := G.ex
  obtain ⟨g1, g2, g3⟩ := F.gl x hx
  have eP := F.hP; have ew := F.hw; have eK := F.hK; have eg := F.hmg; have eb := F.hbase
  subst eP ew eK eg eb
  refine wE.of (pe_makeK0 (E := E0) Mm G (F.room.mono hj) g1 hm kb passL (pk_cons pe_w pk_nil) rfl rfl g2 rfl) ?_
  refine (h σ H rs m).mono fun v1 H1 ⟨d1, M1, a1, a2, a3, a4⟩ => ?_
  refine ⟨rfl, rfl, fun q dx hq hdx hne => ?_⟩
  have z := sp_madeX (E' := E0) (ds := [d1] ++ dd) (vs := [v1] ++ mz) (Q := Q) a2 hq hdx hne ((RDs.cons a1 .nil).append (hd H1)) (a4 q) (n := 1 + 1 + dd.length) (by rw [List.length_append]; show 1 + (1 + dd.length) = _; omega) fun _ _ _ z => z.elim
  obtain ⟨ds', M', Q0, E1, z1, z2, z3, z4, z5, z6⟩ := z
  exact ⟨ds', M', Q0, E1, z1, z2, z3, z4, fun d M2 a v H2 b c st => let ⟨y1, y2⟩ := z5 d M2 a v H2 b c st; ⟨y1, y2.stay a3⟩, z6⟩
instance [F : Fx X P w K mg base sc N L C Gs Bs k] [G : MkiD P w K mg base x [k1] Cc j dd sp] [mm : MemC x Gs] : Step (WE X ρ M (.Call (.Name x p) [] [⟨some k1, e1, p1⟩] pos) Q) (Nat.ble (j + 1) k) (WE X ρ M e1 fun d1 M1 => ∀ q, sp (.ref q :: ([d1] ++ dd)) ((q, .ins Cc []) :: M1) (fun d M' => d = .non ∧ Q (.ref q) M') (fun _ _ _ => False)) := ⟨fun h q => we_makeD1 F G (Nat.le_of_ble_eq_true h) mm.h q⟩
end
/-! ### d.get(k, x), d.pop(k, x) -/
section
variable {P : Program} {w : World} {A : Around} {E : Value → Shared → Prop} {s : Shared} {d : Addr} {xs : List PEnt} {k : NK} {key : Value}
theorem getD_keys {Q : Value → Shared → Prop} (hu : A.units + 9 < cLine) (hk : KeyAt s.heap k key) (hm : PDict w s.heap d xs) (his : AllK s.heap xs) (dv : Value) (q : Q ((pval xs k).getD dv) { s with toks := s.toks + k.draws }) : wpAny (model P w) A (call (.builtin "dict.get") [.ref d, key, dv]) Q E s := by
  have mt : MeetsIn P w (Builtin.«dict.get» ⟨[.ref d, key, dv], []⟩) (fun A R s => A.in1.units + 8 < cLine ∧ KeyAt s.heap k key ∧ PDict w s.heap d xs ∧ AllK s.heap xs ∧ R (.ok (.ret ((pval xs k).getD dv))) { s with toks := s.toks + k.draws }) :=
    .of_wp fun A R s ⟨h1, h2, h3, h4, h5⟩ => by
      show wpAny _ _ (dictGet d key >>= _) _ _ s
      refine wpAny_bind (get_keys h1 h2 h3 h4 ?_)
      cases hf : pval xs k with
      | some v => rw [hf] at h5; exact wpAny_pure ⟨v, rfl, h5⟩
      | none =>
        rw [hf] at h5
        show wpAny _ _ (Builtin.Dict.missed d key >>= _) _ _ _
        exact wpAny_bind (wpAny_missed_other h3.1 (wpAny_pure ⟨dv, rfl, h5⟩))
  exact call_meetsIn F.slot_dict_get hm.ty F.entry_dict_get (F.args_dict_get_3 _ _ _) mt ⟨by rw [Around.in1_units]; omega, hk, hm, his, q⟩
theorem take_none {Q : Option DictEntry → Shared → Prop} (hu : A.units + 8 < cLine) (hk : KeyAt s.heap k key) (hm : PDict w s.heap d xs) (his : AllK s.heap xs) (hi : pix xs k = none) (q : Q none { s with toks := s.toks + k.draws }) : wpAny (model P w) A (Builtin.Dict.takeOut d key) Q E s := by
  obtain ⟨hs, hl, nd, o, es, ep, ho, hx, hd, he⟩ := hm
  unfold Builtin.Dict.takeOut; try with_reducible refine wpAny_holding ?_
  refine wpAny_bind (pyHash_key k key A s _ hk.is (by have := hk.dp; omega) (wpAny_bind (find_keys (s := { s with toks := s.toks + k.draws }) hu hk ho hd he his nd ?_)))
  rw [hi]
  exact wpAny_pure q
theorem take_some {Q : Option DictEntry → Shared → Prop} {v : Value} (hu : A.units + 8 < cLine) (hk : KeyAt s.heap k key) (hm : PDict w s.heap d xs) (his : AllK s.heap xs) (hi : pval xs k = some v)
    (q : ∀ e : DictEntry, e.val = v → ∀ h', PDict w h' d (pdel xs k) → Heap.SameBut d s.heap h' → Q (some e) { s with heap := h', toks := s.toks + k.draws }) : wpAny (model P w) A (Builtin.Dict.takeOut d key) Q E s := by
  obtain ⟨hs, hl, nd, o, es, ep, ho, hx, hd, he⟩ := hm
  unfold Builtin.Dict.takeOut; try with_reducible refine wpAny_holding ?_
  refine wpAny_bind (pyHash_key k key A s _ hk.is (by have := hk.dp; omega) (wpAny_bind (find_keys (s := { s with toks := s.toks + k.draws }) hu hk ho hd he his nd ?_)))
  unfold pdel at q
  unfold pval at hi
  cases hp : pix xs k with
  | none => rw [hp] at hi; cases hi
  | some j =>
    rw [hp] at q hi
    obtain ⟨x, hx1, _⟩ := pix_at hp
    have hv : x.2.2 = v := by
      have : (xs[j]?).map (·.2.2) = some v := hi
      rw [hx1] at this
      exact Option.some.inj this
    refine wpAny_bind (wpAny_dictEntries (s := { s with toks := s.toks + k.draws }) ho hd ?_)
    rw [ent_at he j, hx1]
    have hj : j < xs.length := (List.getElem?_eq_some_iff.mp hx1).1
    refine wpAny_bind (wpAny_updateDictKeys (hz := by have e := ent_size he; omega) (s := { s with toks := s.toks + k.draws }) ho hd (wpAny_pure (q (penc w x) hv _ ⟨hs, by rw [List.length_eraseIdx]; split <;> omega, ?_, _, _, ep + 1, Heap.get?_update_self _ ho (Obj.isFreed_of_dict (Obj.data_mapDictKeys hd _)), hx.mapDictKeys _, Obj.data_mapDictKeys hd _, ?_⟩ (Heap.SameBut.update ..))))
    · exact ((List.eraseIdx_sublist xs j).map _).nodup nd
    · rw [map_eraseIdx, ← he]
      obtain ⟨l⟩ := es
      simp
theorem popD_keys {Q : Value → Shared → Prop} {b : Addr} (dv : Value) (hu : A.units + 9 < cLine) (hk : KeyAt s.heap k (.ref b)) (hm : PDict w s.heap d xs) (his : AllK s.heap xs) (hn : pval xs k = none → ∀ tk, Q dv { s with toks := tk })
    (hv : ∀ v, pval xs k = some v → ∀ h', PDict w h' d (pdel xs k) → Heap.SameBut d s.heap h' → Q v { s with heap := h', toks := s.toks + k.draws }) : wpAny (model P w) A (call (.builtin "dict.pop") [.ref d, .ref b, dv]) Q E s := by
  have mt : MeetsIn P w (Builtin.«dict.pop» ⟨[.ref d, .ref b, dv], []⟩) (fun A R s => A.in1.units + 8 < cLine ∧ KeyAt s.heap k (.ref b) ∧ PDict w s.heap d xs ∧ AllK s.heap xs ∧ (pval xs k = none → ∀ tk, R (.ok (.ret dv)) { s with toks := tk }) ∧
      ∀ v, pval xs k = some v → ∀ h', PDict w h' d (pdel xs k) → Heap.SameBut d s.heap h' → R (.ok (.ret v)) { s with heap := h', toks := s.toks + k.draws }) :=
    .of_wp fun A R s ⟨h1, h2, h3, h4, h5, h6⟩ => by
      obtain ⟨hsys, hl, nd, o, es, ep, ho, hx, hdat, he⟩ := id h3
      have hes : es.size = xs.length := ent_size he
      have hpart : (keyPart (Value.ref b)).isSome = false := rfl
      unfold Builtin.«dict.pop»
      refine wpAny_bind ?_
      unfold Builtin.Dict.keyAndDefault
      refine wpAny_bind (wpAny_notOrdered_dict h3.ty ?_)
      show wpAny _ _ (pure (d, Value.ref b, some dv)) _ _ s
      refine wpAny_pure ?_
      simp only [hpart, Bool.false_eq_true, if_false]
      refine wpAny_bind (wpAny_dictEntries ho hdat (wpAny_bind (wpAny_pure ?_)))
      cases hem : es.isEmpty with
      | true =>
        have h0 : xs = [] := by
          have z : es.size = 0 := by simpa using hem
          exact List.length_eq_zero_iff.mp (by omega)
        simp only [if_true]
        refine wpAny_bind (wpAny_rule (wpAny_bind (wpAny_pure ?_)))
        simp only [Option.isNone_none, if_true]
        refine wpAny_bind (wpAny_missedRemoval_other hsys ?_)
        exact wpAny_bind (wpAny_rule (wpAny_pure ⟨dv, rfl, h5 (by rw [h0]; rfl) s.toks⟩))
      | false =>
        simp only [Bool.false_eq_true, if_false]
        cases hf : pix xs k with
        | none =>
          refine wpAny_bind (take_none h1 h2 h3 h4 hf ?_)
          simp only [Option.isNone_none, if_true]
          refine wpAny_bind (wpAny_missedRemoval_other hsys ?_)
          exact wpAny_bind (wpAny_rule (wpAny_pure ⟨dv, rfl, h5 (by unfold pval; rw [hf]; rfl) _⟩))
        | some jj =>
          obtain ⟨x, hx1, _⟩ := pix_at hf
          have hpv : pval xs k = some x.2.2 := by unfold pval; rw [hf]; show (xs[jj]?).map _ = _; rw [hx1]; rfl
          refine wpAny_bind (take_some h1 h2 h3 h4 hpv fun e hev h' hm' hs' => ?_)
          simp only [Option.isNone_some, Bool.false_eq_true, if_false]
          exact wpAny_bind (wpAny_letGo (wpAny_pure ⟨e.val, rfl, by rw [hev]; exact h6 _ hpv h' hm' hs'⟩))
  exact call_meetsIn F.slot_dict_pop hm.ty F.entry_dict_pop (F.args_dict_pop_3 _ _ _) mt ⟨by rw [Around.in1_units]; omega, hk, hm, his, hn, hv⟩
theorem PDict.obj {s : Shared} (h : PDict w s.heap d xs) : ∀ b, Value.ref d = .ref b → ∃ ob, s.heap.get? b = some ob ∧ ob.dict = none := fun b q => by
  cases q
  obtain ⟨_, _, _, o, _, _, h1, h2, _⟩ := h
  exact ⟨o, h1, h2.2.1⟩
end
end G
namespace G
open PySem PySem.Spec PyProof.Rows L2
/-! ### d.get(k, x), d.pop(k, x), l.clear(), d != {}: the steps -/
section
variable {X : Cy} {P : Program} {w : World} {K : Fg} {mg : Str → Option Value} {base : Heap} {sc : Scope} {N L C Gs Bs : List Str} {k j n i : Nat} {ρ ρ' : Ro} {M : Mm} {Q : DV → Mm → Prop} {R : Bool → Mm → Prop} {a b e f o : Expr} {es : List Expr} {pos p apos : Pos} {x m : Str} {q q2 : Addr} {ob : Obj} {kvs : List (DV × DV)} {kk : NK} {d d2 dx dy : DV} {ds : List DV}
theorem m2_of {m : Str} {env : Env} (ho : notSup o = true) (hs : noStars [e, f] = true) (hl : (apos.endLine == pos.line) = true) {X : Cx} : M2 X o m apos e f pos := by
  obtain ⟨h1, h2⟩ := noStars_cons hs
  obtain ⟨h3, h4⟩ := noStars_cons h2
  have t : backTo pos (starEach [e, f] X.env) = [(false, eval e X.env), (false, eval f X.env)] := by rw [starEach_cons h1, starEach_cons h3]; rfl
  refine ⟨attrBase' ho, ?_, hl, t⟩
  rw [t]; rfl
/-- what d.get(y, z) asks -/
def GetDn (w : World) (x y z : DV) (M : Mm) (Q : DV → Mm → Prop) : Prop := ∃ q i ob kvs kk, x = .ref q ∧ AtM M i q (.dn w ob kvs) ∧ nkD y = some kk ∧ kk.depth ≤ 8 ∧ Q ((kget kvs kk).getD z) M
def PopDn (w : World) (x y z : DV) (M : Mm) (Q : DV → Mm → Prop) : Prop := ∃ q i ob kvs ks kk, x = .ref q ∧ AtM M i q (.dn w ob kvs) ∧ y = .tup ks ∧ nkD y = some kk ∧ kk.depth ≤ 8 ∧ (kget kvs kk = none → Q z M) ∧ (∀ vd, kget kvs kk = some vd → ∀ o', Q vd (M.set i (q, .dn w o' (kdel kvs kk))))
def IsDn (w : World) (x : DV) (M : Mm) : Prop := ∃ q i ob kvs, x = .ref q ∧ AtM M i q (.dn w ob kvs)
theorem RKs.miss {K : Fg} {H : Hp} {xs : List PEnt} (h : RKs K H kvs xs) (hv : kget kvs kk = none) : pval xs kk = none := by
  unfold kget at hv
  unfold pval
  rw [h.ix]
  cases hk : kix kvs kk with
  | none => rfl
  | some jj =>
    rw [hk] at hv
    have hv : (kvs[jj]?).map (·.2) = none := hv
    show (xs[jj]?).map (·.2.2) = none
    have hl := h.len
    rw [Option.map_eq_none_iff, List.getElem?_eq_none_iff] at hv ⊢
    omega
theorem we_getDn (F : Fx X P w K mg base sc N L C Gs Bs k) (ho : notSup o = true) (hs : noStars [e, f] = true) (hl : (apos.endLine == pos.line) = true)
    (h : WE X ρ M o fun x M1 => IsDn w x M1 ∧ WE X ρ M1 e fun y M2 => WE X ρ M2 f fun z M3 => GetDn w x y z M3 Q) : WE X ρ M (.Call (.Attribute o "get" apos) [e, f] [] pos) Q := fun σ H rs m pins s I => by
  have hu := F.room.un
  have mm : M2 X.toCx o "get" apos e f pos := m2_of (env := X.env) ho hs hl
  refine wpAny_Call_method mm.base mm.few mm.line PySem.F.plainAttrs_dict PySem.F.slot_dict_get PySem.F.type_dict_get (thn (h σ H rs m pins s I) fun u s1 ⟨v1, H1, I1, r1, x, M1, c1, c2, c3, ⟨q, i, ob, kvs, e1, e2⟩, c4⟩ => ?_)
  subst e1
  cases c1
  obtain rfl : u = Value.ref q := r1
  obtain ⟨xs, g1, g2⟩ := c2.at e2.ix
  have pd := (dn_of I1 g1).2
  refine ⟨pd.ty, pd.obj, ?_⟩
  rw [mm.trees]
  refine Calls.callWith_builtin rfl (Calls.evalArgs_plain (Calls.spliced_cons (thn (c4 σ H1 (rs.mono c3) c2 pins s1 I1) fun iv s2 ⟨v2, H2, I2, r2, y, M2, d1, d2, d3, d4⟩ =>
    Calls.spliced_cons (thn (d4 σ H2 ((rs.mono c3).mono d3) d2 pins s2 I2) fun fv s3 ⟨v3, H3, I3, r3, z, M3, f1, f2, f3, q', i', ob', kvs', kk, e3, e4, e5, e6, e7⟩ => Calls.spliced_nil ?_))))
  cases e3
  obtain ⟨xs', g1', g2'⟩ := f2.at e4.ix
  have pd' : PDict X.w s3.heap q xs' := by rw [F.hw]; exact (dn_of I3 g1').2
  have ky : KeyAt s3.heap kk iv := ⟨nk_is I3 (d1.mono f3) r2 e5, e6⟩
  have st := (c3.trans d3).trans f3
  refine getD_keys (by omega) ky pd' (g2'.all I3) fv ?_
  cases hv : kget kvs' kk with
  | some vd =>
    obtain ⟨vv, vu, z1, z2, z3⟩ := g2'.val hv
    rw [hv] at e7
    rw [z1]
    exact ⟨vv, H3, I3.tok _, z3, vd, M3, z2, f2, st, e7⟩
  | none =>
    rw [hv] at e7
    rw [g2'.miss hv]
    exact ⟨v3, H3, I3.tok _, r3, z, M3, f1, f2, st, e7⟩
theorem we_popDn (F : Fx X P w K mg base sc N L C Gs Bs k) (ho : notSup o = true) (hs : noStars [e, f] = true) (hl : (apos.endLine == pos.line) = true)
    (h : WE X ρ M o fun x M1 => IsDn w x M1 ∧ WE X ρ M1 e fun y M2 => WE X ρ M2 f fun z M3 => PopDn w x y z M3 Q) : WE X ρ M (.Call (.Attribute o "pop" apos) [e, f] [] pos) Q := fun σ H rs m pins s I => by
  have hu := F.room.un
  have mm : M2 X.toCx o "pop" apos e f pos := m2_of (env := X.env) ho hs hl
  refine wpAny_Call_method mm.base mm.few mm.line PySem.F.plainAttrs_dict PySem.F.slot_dict_pop PySem.F.type_dict_pop (thn (h σ H rs m pins s I) fun u s1 ⟨v1, H1, I1, r1, x, M1, c1, c2, c3, ⟨q, i, ob, kvs, e1, e2⟩, c4⟩ => ?_)
  subst e1
  cases c1
  obtain rfl : u = Value.ref q := r1
  obtain ⟨xs, g1, g2⟩ := c2.at e2.ix
  have pd := (dn_of I1 g1).2
  refine ⟨pd.ty, pd.obj, ?_⟩
  rw [mm.trees]
  refine Calls.callWith_builtin rfl (Calls.evalArgs_plain (Calls.spliced_cons (thn (c4 σ H1 (rs.mono c3) c2 pins s1 I1) fun iv s2 ⟨v2, H2, I2, r2, y, M2, d1, d2, d3, d4⟩ =>
    Calls.spliced_cons (thn (d4 σ H2 ((rs.mono c3).mono d3) d2 pins s2 I2) fun fv s3 ⟨v3, H3, I3, r3, z, M3, f1, f2, f3, q', i', ob', kvs', ks, kk, e3, e4, ey, e5, e6, e7, e8⟩ => Calls.spliced_nil ?_))))
  cases e3
  subst ey
  have d1' := d1.mono f3
  obtain ⟨bt, rfl⟩ : ∃ bt, iv = Value.ref bt := by
    cases d1'
    cases r2
    exact ⟨_, rfl⟩
  obtain ⟨xs', g1', g2'⟩ := f2.at e4.ix
  have pd' : PDict X.w s3.heap q xs' := by rw [F.hw]; exact (dn_of I3 g1').2
  have ky : KeyAt s3.heap kk (.ref bt) := ⟨nk_is I3 d1' r2 e5, e6⟩
  have st := (c3.trans d3).trans f3
  refine popD_keys fv (by omega) ky pd' (g2'.all I3) (fun hn tk => ?_) fun v hv h' hd hs' => ?_
  · have hn' : kget kvs' kk = none := by
      cases hv : kget kvs' kk with
      | none => rfl
      | some vd => obtain ⟨vv, vu, z1, _⟩ := g2'.val hv; rw [hn] at z1; cases z1
    exact ⟨v3, H3, I3.tok _, r3, z, M3, f1, f2, st, e7 hn'⟩
  · cases hv' : kget kvs' kk with
    | none => rw [g2'.miss hv'] at hv; cases hv
    | some vd =>
      obtain ⟨vv, vu, z1, z2, z3⟩ := g2'.val hv'
      rw [hv] at z1
      cases z1
      have hd2 : PDict w h' q (pdel xs' kk) := by rw [← F.hw]; exact hd
      obtain ⟨_, _, _, o', es', ep', k1, k2⟩ := id hd2
      have mu := wr_dn I3 g1'
      have st2 : Stay X.K H3 (upd H3 q (DnO w q o' (pdel xs' kk))) := Stay.write mu
      exact ⟨vv, _, d_write I3 mu.1 hs' ⟨o', k1⟩ (dn_ok k1 hd2), z3, vd, _, z2.mono st2, f2.write (q' := .dn w o' (kdel kvs' kk)) e4.ix mu ⟨_, upd_same, (g2'.del).mono st2⟩, st.trans st2, e8 vd hv' o'⟩
instance [F : Fx X P w K mg base sc N L C Gs Bs k] : Step (WE X ρ M (.Call (.Attribute o (Str.ofString "get") apos) [e, f] [] pos) Q) (notSup o && noStars [e, f] && (apos.endLine == pos.line)) (WE X ρ M o fun x M1 => Side (IsDn w x M1) (WE X ρ M1 e fun y M2 => WE X ρ M2 f fun z M3 => GetDn w x y z M3 Q)) := ⟨fun h z => by
  simp only [Bool.and_eq_true] at h
  exact we_getDn F h.1.1 h.1.2 h.2 (z.mono fun _ _ z => ⟨z.a, z.b⟩)⟩
instance [F : Fx X P w K mg base sc N L C Gs Bs k] : Step (WE X ρ M (.Call (.Attribute o (Str.ofString "pop") apos) [e, f] [] pos) Q) (notSup o && noStars [e, f] && (apos.endLine == pos.line)) (WE X ρ M o fun x M1 => Side (IsDn w x M1) (WE X ρ M1 e fun y M2 => WE X ρ M2 f fun z M3 => PopDn w x y z M3 Q)) := ⟨fun h z => by
  simp only [Bool.and_eq_true] at h
  exact we_popDn F h.1.1 h.1.2 h.2 (z.mono fun _ _ z => ⟨z.a, z.b⟩)⟩
instance [A : AtM M i q (.dn w ob kvs)] [Nk : NKC d kk n] : Step (GetDn w (.ref q) d d2 M Q) (Nat.ble n 8) (Q ((kget kvs kk).getD d2) M) := ⟨fun h z => ⟨q, i, ob, kvs, kk, rfl, A, Nk.h, Nat.le_trans Nk.dp (Nat.le_of_ble_eq_true h), z⟩⟩
instance [A : AtM M i q (.dn w ob kvs)] [Nk : NKC (.tup ds) kk n] : Step (PopDn w (.ref q) (.tup ds) d2 M Q) (Nat.ble n 8) (Side (kget kvs kk = none → Q d2 M) (∀ vd, kget kvs kk = some vd → ∀ o', Q vd (M.set i (q, .dn w o' (kdel kvs kk))))) := ⟨fun h z => ⟨q, i, ob, kvs, ds, kk, rfl, A, rfl, Nk.h, Nat.le_trans Nk.dp (Nat.le_of_ble_eq_true h), z.a, z.b⟩⟩
/-! l.clear() -/
def ClrL (M : Mm) (x : DV) (S : Mm → Prop) : Prop := ∃ p i ds, x = .ref p ∧ AtM M i p (.lst ds) ∧ S (M.set i (p, .lst []))
theorem we_bm0' {T id : String} {name : Str} {r : V → List V → Hp → VK → Prop} (pa : PlainAttrs T) (slot : Slot T name id) (hty : typeOf (.builtin id) = pure (.type "method_descriptor")) (hm : MtR X id r) (mr : ∀ x xs H Q Q', r x xs H Q → (∀ v H', Q v H' → Q' v H') → r x xs H Q')
    (ho : notSup o = true) (hl : (apos.endLine == pos.line) = true)
    (h : WE X ρ M o fun x M1 => (∀ v H, RD X.K H x v → RM X.K H M1 → tyV X.K T v H) ∧ ∀ v H, RD X.K H x v → RM X.K H M1 → r v [] H (LE X.K H Q)) : WE X ρ M (.Call (.Attribute o name apos) [] [] pos) Q := fun σ H rs m => by
  refine wE.of (pe_bm0 pa slot hty hm pe_w (attrBase' ho) hl) ?_
  refine (h σ H rs m).mono fun v H1 ⟨x, M1, k1, k2, k3, k4, k5⟩ => ⟨k4 v H1 k1 k2, ?_⟩
  exact mr _ _ _ _ _ (k5 v H1 k1 k2) fun _ _ z => z.stay k3
theorem we_clear (ho : notSup o = true) (hl : (apos.endLine == pos.line) = true) (h : WE X ρ M o fun x M1 => ClrL M1 x (Q .non)) : WE X ρ M (.Call (.Attribute o "clear" apos) [] [] pos) Q := by
  refine we_bm0' PySem.F.plainAttrs_list PySem.F.slot_list_clear PySem.F.type_list_clear mt_clear (fun x xs H Q Q' ⟨l, ys, a, b, c, z⟩ q => ⟨l, ys, a, b, c, q _ _ z⟩) ho hl ?_
  refine h.mono fun x M1 ⟨p, i, ds, h1, h2, h4⟩ => ⟨fun v H r m => ?_, fun v H r m => ?_⟩
  · subst h1
    cases r
    obtain ⟨vs, e1, _⟩ := m.at h2.ix
    exact .inl ⟨rfl, vs, SqL.of e1⟩
  · subst h1
    cases r
    obtain ⟨vs, e1, rr⟩ := m.at h2.ix
    have mu : Wr H p := wr_lst e1
    have st : Stay X.K H (upd H p (.lst [])) := Stay.write mu
    exact ⟨p, vs, rfl, rfl, e1, .non, _, .non, m.write (q' := .lst []) h2.ix mu ⟨_, upd_same, .nil⟩, st, h4⟩
instance {p : Addr} {S : Mm → Prop} [A : AtM M i p (.lst ds)] : Step (ClrL M (.ref p) S) true (S (M.set i (p, .lst []))) := ⟨fun _ z => ⟨p, i, ds, rfl, A, z⟩⟩
instance : Step (WE X ρ M (.Call (.Attribute o (Str.ofString "clear") apos) [] [] pos) Q) (notSup o && (apos.endLine == pos.line)) (WE X ρ M o fun x M1 => ClrL M1 x (Q .non)) := ⟨fun h z => by
  simp only [Bool.and_eq_true] at h
  exact we_clear h.1 h.2 z⟩
end
/-! d != {} -/
section
variable {prog : Program} {w : World} {A : Around} {E : Value → Shared → Prop} {s : Shared} {a b : Addr} {oa oc : Obj} {es es' : Array DictEntry} {ep ep' : Nat}
theorem samePairs0 {nm : String} {Q : Bool → Shared → Prop} (ha : (a == sysModules) = false) (hb : (b == sysModules) = false) (hoa : s.heap.get? a = some oa) (hda : oa.data = .dict es ep) (hob : s.heap.get? b = some oc) (hdb : oc.data = .dict es' ep') (h0 : es'.size = 0) (h : Q (es.size == 0) s) :
    wpAny (model prog w) A (Builtin.Dict.samePairs nm a b) Q E s := by
  unfold Builtin.Dict.samePairs Builtin.Dict.showsAll
  rw [if_neg (show ¬ (a == sysModules) = true by rw [ha]; exact Bool.false_ne_true), if_neg (show ¬ (b == sysModules) = true by rw [hb]; exact Bool.false_ne_true)]
  refine wpAny_bind (wpAny_pure (wpAny_bind (wpAny_pure ?_)))
  refine wpAny_bind (wpAny_dictEntries hoa hda ?_)
  dsimp only
  refine wpAny_bind (wpAny_dictEntries hob hdb ?_)
  rw [h0]
  by_cases hsz : es.size = 0
  case neg =>
    rw [if_pos (by simpa using hsz)]
    have hbf : (es.size == 0) = false := by simpa using hsz
    rw [hbf] at h
    exact wpAny_bind (wpAny_rule (wpAny_pure h))
  case pos =>
    rw [hsz] at h ⊢
    rw [if_neg (by simp)]
    refine wpAny_bind (wpAny_dictEpoch hoa hda ?_)
    refine wpAny_bind ?_
    rw [Std.Legacy.Range.forIn_eq_forIn_range']
    simp only [Std.Legacy.Range.size, Nat.sub_zero, Nat.add_sub_cancel, Nat.div_one, List.range'_zero, List.forIn_nil]
    exact wpAny_pure (wpAny_pure h)
theorem ne_empty {Q : Value → Shared → Prop} (ta : s.TypeIs (.ref a) "dict") (tb : s.TypeIs (.ref b) "dict") (ha : (a == sysModules) = false) (hb : (b == sysModules) = false) (hoa : s.heap.get? a = some oa) (hda : oa.data = .dict es ep) (hob : s.heap.get? b = some oc) (hdb : oc.data = .dict es' ep') (h0 : es'.size = 0) (hu : A.units < cLine) (h : Q (.bool (!(es.size == 0))) s) :
    wpAny (model prog w) A (compareOp .NotEq (.ref a) (.ref b)) Q E s := by
  refine wpAny_richCompare_same_room (op := .NotEq) ta tb PySem.F.slot_dict_ne (wpAny_call_entry PySem.F.slot_dict_ne ta PySem.F.entry_dict_ne ?_ (PySem.F.args_dict_ne_2 _ _)) hu
  show wpAny _ _ (Builtin.Dict.dictSlotArgs "__ne__" ⟨[.ref a, .ref b], []⟩ >>= _) _ _ s
  refine wpAny_bind ?_
  unfold Builtin.Dict.dictSlotArgs
  refine wpAny_bind (wpAny_notOrdered_dict ta ?_)
  show wpAny _ _ (pure (Value.ref a, Value.ref b)) _ _ s
  refine wpAny_pure ?_
  refine wpAny_bind (wpAny_isInstance (T := "dict") tb PySem.F.sub_dict_dict ?_)
  simp only [Bool.not_true, Bool.false_eq_true, if_false]
  refine wpAny_bind (wpAny_pure (wpAny_bind (wpAny_pure ?_)))
  refine wpAny_bind (samePairs0 ha hb hoa hda hob hdb h0 ?_)
  refine wpAny_pure ⟨_, rfl, ?_, ?_⟩
  · exact fun x => nomatch x
  · simpa using h
end
section
variable {X : Cy} {P : Program} {w : World} {K : Fg} {mg : Str → Option Value} {base : Heap} {sc : Scope} {N L C Gs Bs : List Str} {k i j : Nat} {ρ : Ro} {M : Mm} {Q : DV → Mm → Prop} {R : Bool → Mm → Prop} {a b : Expr} {pos : Pos} {q q2 : Addr} {ob : Obj} {kvs : List (DV × DV)} {dx dy : DV}
def rNeE (w : World) (K : Fg) : R2 := fun x y H Q => ∃ p p2 o kvs xs, x = .ref p ∧ y = .ref p2 ∧ H p = some (DnO w p o xs) ∧ RKs K H kvs xs ∧ H p2 = some (.dK []) ∧ Q (.bl (!(kvs.length == 0))) H
def rNe7 (w : World) (K : Fg) : R2 := fun x y H Q => rNe6 K x y H Q ∨ rNeE w K x y H Q
theorem op_ne7 (F : Fx X P w K mg base sc N L C Gs Bs k) : OpR X.toCx (compareOp .NotEq) (rNe7 w X.K) := (op_ne6 F).or fun pins s σ H x y v u Q I rx ry ⟨p, p2, o, kvs, xs, e1, e2, h1, h2, h3, z⟩ => by
  subst e1 e2
  obtain rfl : v = Value.ref p := rx
  obtain rfl : u = Value.ref p2 := ry
  obtain ⟨go, pd⟩ := dn_of I h1
  obtain ⟨hs1, hx1, es, ep, hd1, he1, hz1⟩ := pd.raw go
  obtain ⟨_, hs2, vs, rel, hd⟩ := I.hok p2 _ h3
  cases rel
  obtain ⟨o2, es2, ep2, g1, g2, g3, g4, g5, g6⟩ := hd
  have h0 : es2.size = 0 := by
    have z := g5.length
    rw [← Array.length_toList]
    exact z
  refine ne_empty pd.ty ⟨o2, g1, g2.1⟩ hs1 hs2 go hd1 g1 g3 h0 (by have := F.room.un; omega) ?_
  rw [hz1, ← h2.len]
  exact ⟨.bl _, H, I, rfl, z⟩
theorem mon_ne7 : MonR (rNe7 w K) := mon_ne6.or fun x y H Q Q' ⟨p, p2, o, kvs, xs, e1, e2, h1, h2, h3, z⟩ q => ⟨p, p2, o, kvs, xs, e1, e2, h1, h2, h3, q _ _ z⟩
instance (priority := 3500) [F : Fx X P w K mg base sc N L C Gs Bs k] : Step (WE X ρ M (.Compare a [.NotEq] [b] pos) Q) true (WE X ρ M a fun x M1 => WE X ρ M1 b fun y M2 => R2D X.K (rNe7 w X.K) x y M2 Q) := ⟨fun _ => we_op (fun ha hb => pe_cmpR (op_ne7 F) ha hb (nomark _)) mon_ne7⟩
instance (priority := 3500) [F : Fx X P w K mg base sc N L C Gs Bs k] : Step (WT X ρ M (.Compare a [.NotEq] [b] pos) R) true (WE X ρ M a fun x M1 => WE X ρ M1 b fun y M2 => R2D X.K (rNe7 w X.K) x y M2 (QB R)) := ⟨fun _ => wt_op (fun ha hb => pt_cmpR (op_ne7 F) ha hb (nomark _)) mon_ne7⟩
instance [A : AtM M i q (.dn w ob kvs)] [B : AtM M j q2 (.dk [])] : Step (R2D K (rNe7 w K) (.ref q) (.ref q2) M Q) true (Q (.bl (!(kvs.length == 0))) M) := ⟨fun _ z vx vy H h1 h2 m => by
  cases h1; cases h2
  obtain ⟨xs, g1, g2⟩ := m.at A.ix
  obtain ⟨vs, g3, g4⟩ := m.at B.ix
  cases g4
  exact .inr ⟨q, q2, ob, kvs, xs, rfl, rfl, g1, g2, g3, .bl _, M, .bl _, m, Stay.refl, z⟩⟩
instance (priority := low) : Step (R2D K (rNe7 w K) dx dy M Q) true (R2D K (rNe3 K) dx dy M Q) := ⟨fun _ z => R2D.l (R2D.l z)⟩
theorem v_ne_7 (z : R2D K (rNe6 K) dx dy M Q) : R2D K (rNe7 w K) dx dy M Q := R2D.l z
/-! to stop a walk -/
theorem isIfE {c : Expr} (h : WE X ρ M (.IfExp c a b pos) Q) : WE X ρ M (.IfExp c a b pos) Q := h
theorem isS {st : Stmt} {nx bk ct : Ro → Mm → Prop} {rt : DV → Mm → Prop} (h : WS X ρ M st nx rt bk ct) : WS X ρ M st nx rt bk ct := h
end
end G
namespace G
open PySem PySem.Spec PyProof.Rows L2
/-! ### lambdas without parameters, called by another def while their frame runs; they may raise and may change objects -/
/-- the cells of a lambda whose frame runs, at a call: what they hold -/
def LivH (H : Hp) (h : Heap) (fs : List Addr) (L : Lamb) (cl : List (Str × Addr)) (cs : List V) : Prop :=
  cs.length = L.fr.length ∧ (∀ x y c, cl.lookup x = some c → cl.lookup y = some c → x = y) ∧ (∀ y c, cl.lookup y = some c → y ∈ L.fr) ∧
  ∀ (i : Nat) (y : Str), L.fr[i]? = some y → ∃ c oc v u, cl.lookup y = some c ∧ H c = none ∧ c ∉ fs ∧ h.get? c = some oc ∧ oc.data = .cell (some u) ∧ cs[i]? = some v ∧ RelV v u
abbrev Lvs := List (Lamb × List (Str × Addr) × List DV)
def LivS (K : Fg) (H : Hp) (h : Heap) (fs : List Addr) (LL : Lvs) : Prop := ∀ L cl cd, (L, cl, cd) ∈ LL → ∃ cs, LivH H h fs L cl cs ∧ RDs K H cd cs
/-- at a frame's entry -/
class Liv (X : Cy) (LL : outParam Lvs) : Prop where
  ex : X.ex = []
  lv : ∀ L cl cd, (L, cl, cd) ∈ LL → ∃ cs, LivH X.H_0 X.s_0.heap X.fs L cl cs ∧ RDs X.K X.anc cd cs
theorem Liv.near {X X' : Cy} {LL : Lvs} (V : Liv X LL) (n : Nrr X X') : Liv X' LL := by
  obtain ⟨Y, an⟩ := X'
  obtain ⟨e1, e2, e3, e4, e5, st⟩ := n
  refine ⟨e4.trans V.ex, fun L cl cd hm => ?_⟩
  obtain ⟨cs, h, r⟩ := V.lv L cl cd hm
  refine ⟨cs, ?_, ?_⟩
  · have e1 : Y.s_0 = X.s_0 := e1
    have e2 : Y.H_0 = X.H_0 := e2
    have e3 : Y.outer = X.outer := e3
    show LivH Y.H_0 Y.s_0.heap (frs Y.outer) L cl cs
    rw [e1, e2, e3]
    exact h
  · have e5 : Y.K = X.K := e5
    show RDs Y.K an cd cs
    rw [e5]
    exact r.mono st
/-- nothing is being shown around the frame -/
class Gq (X : Cy) : Prop where
  gd : X.A.guards = some []
theorem Gq.near {X X' : Cy} (G : Gq X) (e : X'.A.guards = X.A.guards) : Gq X' := ⟨e.trans G.gd⟩
/-- what a lambda's body does, its cells holding cd -/
def LamR (P : Program) (w : World) (K : Fg) (mg : Str → Option Value) (base : Heap) (kl : Nat) (L : Lamb) (cd : List DV) (M : Mm) (Q : DV → Mm → Prop) (E : Addr → List (Str × DV) → Mm → Prop) : Prop :=
  ∃ N Gs Bs, NdefX.NScope N [] L.fr L.scope ∧ stat L.scope N [] [] Gs = true ∧ (∀ x ∈ Bs, mg x = none) ∧
    (∀ (cl : List (Str × Addr)) (pm cv ctv : Value), bindArgs (PySem.W.kla_fn "<lambda>" L.qual L.params L.body L.scope cl pm cv ctv) ⟨[], []⟩ = pure []) ∧
    ∀ X, Fx X P w K mg base L.scope N [] [] Gs Bs kl → Gq X → Tk X (fun C fs _ M' => Sub (E C fs) M') → WE X (ini N cd) M L.body (fun d M' => Sub (Q d) M')
section
variable {P : Program} {w : World} {K : Fg} {mg : Str → Option Value} {base : Heap} {kl : Nat}
theorem lam_code {A : Around} {outer : List Env} {s : Shared} {H : Hp} {f : Addr} {L : Lamb} {cl : List (Str × Addr)} {cs : List V} {cd : List DV} {fs : List Addr} {M : Mm} {Q0 : DV → Mm → Prop} {E0 : Addr → List (Str × DV) → Mm → Prop} {Q : VK} {E : XK}
    (hr : Room (kl + 1) A) (hg : A.guards = some []) (e0 : Env0 P w K mg base A outer s H) (hf : LamH H f L cl) (hc : LivH H s.heap fs L cl cs) (rc : RDs K H cd cs) (rm : RM K H M) (R : LamR P w K mg base kl L cd M Q0 E0)
    (h5 : ∀ d M', Q0 d M' → ∀ v H', RD K H' d v → RM K H' M' → Stay K H H' → Q v H')
    (h6 : ∀ C fs M', E0 C fs M' → ∀ dd gs H', H' dd = some (.xd gs) → RF K H' fs gs → RM K H' M' → Stay K H H' → E (.ref C) (some dd) H') :
    codeAny (model P w) A (.call (.ref f) ⟨[], []⟩) (CR (L2.CX P w) outer P w H s Q E) s := by
  obtain ⟨N, Gs, Bs, S, hst, hbl, hbi, h⟩ := R
  have T := stat_ok hst
  obtain ⟨pm, c', ctv, hf, hco⟩ := hf
  obtain ⟨hl, hinj, hdom, hcell⟩ := hc
  have of1 : s.heap.get? f = some (lamObj L cl pm c' ctv) := pin_at e0.hok hf
  obtain ⟨⟨oc, vv, t, hoc, hdc, hvc⟩, _, _⟩ := e0.hok c' _ hco
  have lim : s.heap.NoLimit := e0.mod.nolimit.keeps fun b o e => (e0.bs b o e).1
  have CA : NdefX.CellsAt cl L.fr (cs.map some) s.heap H := by
    refine ⟨by rw [List.length_map]; exact hl, fun y c e => ?_, hinj, fun i y e => ?_⟩
    · obtain ⟨i, hi⟩ := List.mem_iff_getElem?.mp (hdom y c e)
      obtain ⟨c2, oc2, v2, u2, a1, a2, a3, a4, a5, a6, a7⟩ := hcell i y hi
      rw [e] at a1
      cases a1
      exact ⟨a2, _, oc2, a4, a5⟩
    · obtain ⟨c2, oc2, v2, u2, a1, a2, a3, a4, a5, a6, a7⟩ := hcell i y e
      refine ⟨c2, a1, fun v hv => ?_⟩
      rw [List.getElem?_map, a6] at hv
      cases hv
      exact ⟨u2, a7, oc2, a4, a5⟩
  have hps : L.fr.length ≤ N.length := by have q := congrArg List.length S.pre; rw [List.length_take, List.length_append] at q; simp only [List.length_nil] at q; omega
  have hcl : cd.length = L.fr.length := by rw [rc.length]; exact hl
  refine PySem.W.kla_callFunE hr.depth of1 rfl S.co S.gen rfl ⟨c', oc, vv, t, rfl, hoc, hdc, hvc⟩ ?_
  rw [hbi]
  refine wpAny_pure (wpAny_newFunctionEnv S.nocell (fun y hy => nomatch hy) (fun h₁ hns hsb => ⟨lim.fresh _ hsb, ?_⟩) S.kind)
  have kp : ∀ b o, s.heap.get? b = some o → h₁.get? b = some o := fun b o e => hsb.extBut b o (Nat.ne_of_lt (Heap.lt_size e)) (Heap.get?_push_of_some _ e)
  have J : Inv (NdefX.ncx (L2.CX P w) P w K mg base N ⟨"<lambda>", L.qual, L.params, [], L.scope, cl, c'⟩ f A outer s H E) [] (NdefX.startF N [] (cs.map some)) H { s with heap := h₁, toks := s.toks + ([] : List (Str × Value)).length } :=
    NdefX.inv_startN (F := ⟨"<lambda>", L.qual, L.params, [], L.scope, cl, c'⟩) (ps := []) (us := []) S hr.hd e0 rfl .nil CA hns kp
  rw [startF_eq] at J
  have FX : Fx ⟨NdefX.ncx (L2.CX P w) P w K mg base N ⟨"<lambda>", L.qual, L.params, [], L.scope, cl, c'⟩ f A outer s H E, H⟩ P w K mg base L.scope N [] [] Gs Bs kl :=
    ⟨rfl, rfl, rfl, rfl, rfl, rfl, rfl, T.nd, T.loc, fun z hz => (nomatch hz), T.kind, T.nob, T.gl, hbl, rfl, hr.deeper _, passes_of rfl⟩
  have TK : Tk ⟨NdefX.ncx (L2.CX P w) P w K mg base N ⟨"<lambda>", L.qual, L.params, [], L.scope, cl, c'⟩ f A outer s H E, H⟩ (fun Cc fs _ M' => Sub (E0 Cc fs) M') :=
    ⟨(takes_of (E := E) rfl rfl rfl rfl).imp fun cls d σ' H' ⟨Cc, dd, gs, fs, ρ', M', e1, e2, e3, e4, e5, e6, M0, s0, q⟩ => by
      subst e1 e2
      exact h6 Cc fs M0 q dd gs H' e3 e4 (e6.less s0) e5.st⟩
  have W := h _ FX ⟨hg⟩ TK
  rw [ini_eq N cd (by omega)] at W
  refine PySem.W.kla_codeExpr (wpAny_mono (W _ _ (RS.start (X := ⟨NdefX.ncx (L2.CX P w) P w K mg base N ⟨"<lambda>", L.qual, L.params, [], L.scope, cl, c'⟩ f A outer s H E, H⟩) Stay.refl (show _ ≤ N.length by omega) (fun i y hi hy => ?_) rc) rm [] _ J) (fun v s' hq => ?_) fun e s' hq => hq)
  · have hp : L.fr[i]? = some y := by
      have q : (N.take (([] : List Str).length + L.fr.length))[i]? = some y := by
        rw [List.getElem?_take_of_lt (by rw [List.length_nil]; omega)]
        exact hy
      rw [S.pre] at q
      exact q
    exact .inr (.inr (S.frk y (List.mem_of_getElem? hp)))
  · obtain ⟨w', H', J', rv', d, M', a1, a2, a3, M0, s0, q⟩ := hq
    exact ⟨w', H', J'.os, J'.bare, J'.base, J'.hok, rv', h5 d M0 q _ _ a1 (a2.less s0) a3⟩
end
section
variable {X : Cy} {P : Program} {w : World} {K : Fg} {mg : Str → Option Value} {base : Heap} {sc : Scope} {N L C Gs Bs : List Str} {k j n kl : Nat} {ρ : Ro} {M : Mm} {Q : DV → Mm → Prop} {E : EX} {pos p : Pos} {x : Str} {La : Lamb} {cl : List (Str × Addr)} {cd : List DV} {LL : Lvs}
/-- x(), x a lambda whose frame runs -/
theorem we_lamc (F : Fx X P w K mg base sc N L C Gs Bs k) (GX : Gq X) (T : Tk X E) (hx : At N ρ x (.lam La cl)) (V0 : Liv X LL) (hm : (La, cl, cd) ∈ LL) (hk : kl + 1 ≤ k) (R : LamR P w K mg base kl La cd M Q (fun C fs M' => E C fs ρ M')) : WE X ρ M (.Call (.Name x p) [] [] pos) Q := fun σ H rs m pins s I => by
  have eP := F.hP; have ew := F.hw; have eK := F.hK; have eg := F.hmg; have eb := F.hbase
  subst eP ew eK eg eb
  refine wpAny_Call_Name_kw (thn (name_at F hx rs m I) fun u s1 ⟨v, rv, H1, I1, d1, m1, st1⟩ => ?_)
  cases d1 with
  | @lam f _ _ hf =>
    obtain rfl : u = Value.ref f := rv
    obtain ⟨cs, ⟨c1, c2, c3, c4⟩, rc⟩ := V0.lv _ _ _ hm
    have hc : LivH H1 s1.heap X.fs La cl cs := ⟨c1, c2, c3, fun i y e => by
      obtain ⟨c, oc, v, u, a1, a2, a3, a4, a5⟩ := c4 i y e
      have nx : c ∉ X.ex := by rw [V0.ex]; simp
      exact ⟨c, oc, v, u, a1, I1.base.free c oc a4 a2 nx, a3, I1.base.keep c oc a4 a2 a3 nx, a5⟩⟩
    have fa : PySem.W.FnAt f s1.heap := by
      obtain ⟨pm, c', ctv, hf, _⟩ := hf
      exact ⟨_, _, _, _, pin_at I1.hok hf⟩
    refine PySem.W.callWith_F0 (first := []) fa ?_
    have rs1 := rs.mono st1
    refine wpAny_call (codeAny_mono (lam_code (A := X.A) (outer := X.stack) (Q := LE X.K H Q) (E := fun cls d H' => LX X E cls d σ H') (F.room.mono hk) GX.gd I1.env0 hf hc (rc.mono rs1.st) m1 R (fun d M' q v H' r1 r2 r3 => ⟨d, M', r1, r2, st1.trans r3, q⟩) fun C fs M' q dd gs H' e1 e2 e3 st => LX.of rs1 st e1 e2 e3 q) fun r s' hq => ?_)
    match r, hq with
    | .error e, hq => exact passAt T.tk σ pins H1 s1 e s' I1 hq
    | .ok (.ret u), hq => exact I1.after hq
    | .ok .next, hq => exact False.elim hq
    | .ok .brk, hq => exact False.elim hq
    | .ok .cont, hq => exact False.elim hq
end
/-! defs that are given such lambdas -/
abbrev SpL := Lvs → SpX
def RunL (P : Program) (w : World) (K : Fg) (mg : Str → Option Value) (base : Heap) (k : Nat) (f : Addr) (fd : FuncData) (ps : List Str) (sp : SpL) : Prop :=
  ∀ (A : Around) (outer : List Env) (s : Shared) (H : Hp) (args : Args) (us : List Value) (vs : List V) (LL : Lvs) (ds : List DV) (M : Mm) (Q0 : DV → Mm → Prop) (E0 : Addr → List (Str × DV) → Mm → Prop) (Q : VK) (E : XK), Room k A → A.guards = some [] → Env0 P w K mg base A outer s H → BindsTo s fd args (ps.zip us) → Vals vs us →
    LivS K H s.heap (frs outer) LL → RDs K H ds vs → RM K H M → ds.length = ps.length → sp LL ds M Q0 E0 → (∀ d M', Q0 d M' → ∀ v H', RD K H' d v → RM K H' M' → Stay K H H' → Q v H') →
    (∀ C fs M', E0 C fs M' → ∀ dd gs H', H' dd = some (.xd gs) → RF K H' fs gs → RM K H' M' → Stay K H H' → E (.ref C) (some dd) H') → codeAny (model P w) A (.call (.ref f) args) (CR (L2.CX P w) outer P w H s Q E) s
class CalL (P : Program) (w : World) (K : Fg) (mg : Str → Option Value) (base : Heap) (x : Str) (j n : outParam Nat) (sp : outParam SpL) : Prop where
  ex : ∃ (f : Addr) (fd : FuncData) (ps : List Str), ps.length = n ∧ RunL P w K mg base j f fd ps sp ∧ mg x = some (.ref f) ∧ PySem.W.keepIn K (.ref f) = true ∧ Binds K fd ps []
section
variable {P : Program} {w : World} {K : Fg} {mg : Str → Option Value} {base : Heap} {N L C Gs Bs : List Str} {k : Nat}
theorem runL_of {x qual : Str} {st : Stmt} {f : Addr} {dV kV doc pm cdv ct oc : Value} {an od : Option Addr} {osl : Array (Option Value)} {ps : List Str} {sp : SpL} (lk : K.lookup f = some ⟨oc, od, .func (PySem.W.fnOf x qual (defArgs st) (defBody st) (defScope st) dV kV doc pm an cdv ct), osl⟩) (hcd : PySem.W.codeIn K cdv qual = true)
    (S : FnScope N ps (defScope st)) (hst : stat (defScope st) N L C Gs = true) (hb : ∀ x ∈ Bs, mg x = none)
    (h : ∀ X, Fx X P w K mg base (defScope st) N L C Gs Bs k → Dfn X → Gq X → (∀ c Pt q, cdv = .ref c → LamX.TabB base mg c Pt → qual ++ ".<locals>." ++ "<lambda>" = q → Mkr X c Pt q) → ∀ LL ds M Q E, Liv X LL → ds.length = ps.length → sp LL ds M Q E → Tk X (fun Cc fs _ M' => Sub (E Cc fs) M') →
      WSs X (ini N ds) M (defBody st) (fun _ M' => Sub (Q .non) M') (fun d M' => Sub (Q d) M') (fun _ _ => False) (fun _ _ => False)) :
    RunL P w K mg base (k + 1) f (PySem.W.fnOf x qual (defArgs st) (defBody st) (defScope st) dV kV doc pm an cdv ct) ps sp := by
  intro A outer s H args us vs LL ds M Q0 E0 Q E hr hg e0 hbn r lv rd rm hn hsp h5 h6
  have TT := stat_ok hst
  have hl : vs.length = ps.length := by rw [← rd.length]; exact hn
  have KX : K.In s.heap := e0.mod.kin.keeps fun b o e => (e0.bs b o e).1
  have lim : s.heap.NoLimit := e0.mod.nolimit.keeps fun b o e => (e0.bs b o e).1
  have hkind : ∀ y ∈ ps.zip us, (defScope st).names.lookup y.1 = some .local ∨ ((defScope st).names.lookup y.1 = some .cell ∧ ((cellsFrom (s.heap.objs.size + 1) (defScope st).names []).lookup y.1).isSome = true) := fun ⟨n, v⟩ hy => by
    rcases S.par n (List.of_mem_zip hy).1 with q | q
    · exact .inl q
    · exact .inr ⟨q, PySem.W.cellsFrom_some _ _ _ (.inl q)⟩
  refine codeAny_call_function hr.depth (KX _ _ lk) rfl S.co S.gen rfl (PySem.W.codeRec_of KX hcd) (hbn _ _ _ _ ?_)
  refine wpAny_newFunctionEnv_cells S.kind hkind fun env he s1 xc => ?_
  subst he
  refine ⟨lim.keeps xc.toInCall.keep, codeAny_func ?_⟩
  have I : Inv (cxOf (L2.CX P w) P w K mg base N qual (defScope st) f cdv A outer s H E) [] (start N vs) H s1 := inv_start S hr.hd e0 hl r xc
  have hps : ps.length ≤ N.length := by have := congrArg List.length S.pre; rw [List.length_take] at this; omega
  have FX : Fx ⟨cxOf (L2.CX P w) P w K mg base N qual (defScope st) f cdv A outer s H E, H⟩ P w K mg base (defScope st) N L C Gs Bs k :=
    ⟨rfl, rfl, rfl, rfl, rfl, rfl, rfl, TT.nd, TT.loc, fun x hx => ⟨TT.cel x hx, rfl⟩, TT.kind, TT.nob, TT.gl, hb, rfl, hr.deeper _, passes_of rfl⟩
  have TK : Tk ⟨cxOf (L2.CX P w) P w K mg base N qual (defScope st) f cdv A outer s H E, H⟩ (fun Cc fs _ M' => Sub (E0 Cc fs) M') :=
    ⟨(takes_of (E := E) rfl rfl rfl rfl).imp fun cls d σ' H' ⟨Cc, dd, gs, fs, ρ', M', e1, e2, e3, e4, e5, e6, M0, s0, q⟩ => by
      subst e1 e2
      exact h6 Cc fs M0 q dd gs H' e3 e4 (e6.less s0) e5.st⟩
  have LV : Liv ⟨cxOf (L2.CX P w) P w K mg base N qual (defScope st) f cdv A outer s H E, H⟩ LL := ⟨rfl, lv⟩
  have W := h _ FX ⟨rfl, rfl⟩ ⟨hg⟩ (fun c Pt q e TB eq => ⟨e, TB, eq⟩) LL ds M Q0 E0 LV hn hsp TK
  rw [ini_eq N ds (by rw [hn]; exact hps)] at W
  refine wpAny_mono (W (start N vs) H (RS.start (X := ⟨cxOf (L2.CX P w) P w K mg base N qual (defScope st) f cdv A outer s H E, H⟩) Stay.refl (by rw [hn]; exact hps) (fun i y hi hy => ?_) rd) rm [] s1 I) (fun fl s' hs => ?_) fun e s' hs => hs
  · have hp : ps[i]? = some y := by
      rw [← S.pre, List.getElem?_take_of_lt (by rw [← hn]; exact hi)]
      exact hy
    rcases S.par y (List.mem_of_getElem? hp) with z | z
    · exact .inl z
    · exact .inr (.inl z)
  · cases fl with
    | ret u =>
      obtain ⟨v, σ', H', J, rv, d, M', q1, q2, q3, M0, q4, q5⟩ := hs
      exact ⟨v, H', J.os, J.bare, J.base, J.hok, rv, h5 _ _ q5 _ _ q1 (q2.less q4) q3⟩
    | next =>
      obtain ⟨σ', H', J, ρ', M', q1, q2, q3, M0, q4, q5⟩ := hs
      exact ⟨.non, H', J.os, J.bare, J.base, J.hok, rfl, h5 _ _ q5 _ _ .non (q2.less q4) q3⟩
    | brk => obtain ⟨_, _, _, _, _, _, _, _, q⟩ := hs; exact q.elim
    | cont => obtain ⟨_, _, _, _, _, _, _, _, q⟩ := hs; exact q.elim
/-- .. for a def of the module -/
theorem calL_mk {x : Str} {st : Stmt} {ps : List Str} {sp : SpL} (T : FnTX K mg x st ps) (S : FnScope N ps (defScope st)) (hst : stat (defScope st) N L C Gs = true) (hb : ∀ x ∈ Bs, mg x = none)
    (h : ∀ X, Fx X P w K mg base (defScope st) N L C Gs Bs k → Dfn X → Gq X → ∀ LL ds M Q E, Liv X LL → ds.length = ps.length → sp LL ds M Q E → Tk X (fun Cc fs _ M' => Sub (E Cc fs) M') →
      WSs X (ini N ds) M (defBody st) (fun _ M' => Sub (Q .non) M') (fun d M' => Sub (Q d) M') (fun _ _ => False) (fun _ _ => False)) :
    CalL P w K mg base x (k + 1) ps.length sp := by
  obtain ⟨f, fd, dV, F, h2, h3⟩ := T
  have kp := F.kp
  obtain ⟨oc, od, kV, doc, pm, an, cdv, ct, osl, rfl, lk, hcd⟩ := F.ex
  exact ⟨f, _, ps, rfl, runL_of lk hcd S hst hb fun X a b c _ => h X a b c, h2, kp, h3⟩
/-- .. that makes lambdas -/
theorem calL_mkM {x q : Str} {st : Stmt} {ps : List Str} {sp : SpL} {c Pt : Addr} (T : FnTm K mg x st ps c) (TB : LamX.TabB base mg c Pt) (eq : x ++ ".<locals>." ++ "<lambda>" = q) (S : FnScope N ps (defScope st)) (hst : stat (defScope st) N L C Gs = true) (hb : ∀ x ∈ Bs, mg x = none)
    (h : ∀ X, Fx X P w K mg base (defScope st) N L C Gs Bs k → Dfn X → Gq X → Mkr X c Pt q → ∀ LL ds M Q E, Liv X LL → ds.length = ps.length → sp LL ds M Q E → Tk X (fun Cc fs _ M' => Sub (E Cc fs) M') →
      WSs X (ini N ds) M (defBody st) (fun _ M' => Sub (Q .non) M') (fun d M' => Sub (Q d) M') (fun _ _ => False) (fun _ _ => False)) :
    CalL P w K mg base x (k + 1) ps.length sp := by
  obtain ⟨f, fd, F, h2, h3⟩ := T
  have kp := F.kp
  obtain ⟨oc, od, kV, doc, pm, an, ct, osl, rfl, lk, hcd⟩ := F.ex
  exact ⟨f, _, ps, rfl, runL_of lk hcd S hst hb fun X a b d e => h X a b d (e c Pt q rfl TB eq), h2, kp, h3⟩
end
/-- names' values -/
class inductive AtS (N : List Str) (ρ : Ro) : List Str → outParam (List DV) → Prop
  | nil : AtS N ρ [] []
  | cons {y : Str} {d : DV} {ys : List Str} {ds : List DV} : At N ρ y d → AtS N ρ ys ds → AtS N ρ (y :: ys) (d :: ds)
instance {N : List Str} {ρ : Ro} : AtS N ρ [] [] := .nil
instance {N : List Str} {ρ : Ro} {y : Str} {d : DV} {ys : List Str} {ds : List DV} [a : At N ρ y d] [b : AtS N ρ ys ds] : AtS N ρ (y :: ys) (d :: ds) := .cons a b
theorem AtS.len {N : List Str} {ρ : Ro} : ∀ {ys : List Str} {ds : List DV}, AtS N ρ ys ds → ds.length = ys.length
  | _, _, .nil => rfl
  | _, _, .cons _ b => by rw [List.length_cons, List.length_cons, b.len]
theorem AtS.ix {N : List Str} {ρ : Ro} : ∀ {ys : List Str} {ds : List DV}, AtS N ρ ys ds → ∀ (i : Nat) (y : Str), ys[i]? = some y → ∃ (j : Nat) (d : DV), N[j]? = some y ∧ ρ[j]? = some (some d) ∧ ds[i]? = some d
  | _, _, .nil, i, y, h => by simp at h
  | _, _, .cons a _, 0, y, h => by simp at h; subst h; obtain ⟨j, e1, e2⟩ := a.ix; exact ⟨j, _, e1, e2, rfl⟩
  | _, _, .cons _ b, i + 1, y, h => by obtain ⟨j, d, e⟩ := b.ix i y (by simpa using h); exact ⟨j, d, by simpa using e⟩
section
variable {X : Cy} {P : Program} {w : World} {K : Fg} {mg : Str → Option Value} {base : Heap} {sc : Scope} {N L C Gs Bs : List Str} {k j n kl : Nat} {ρ : Ro} {M : Mm} {Q : DV → Mm → Prop} {E : EX} {pos p lp : Pos} {x : Str} {La : Lamb} {cl : List (Str × Addr)} {cd : List DV} {LL : Lvs} {pins : List (Addr × Obj)} {σ : L2.St} {H : Hp} {s : Shared} {params : Arguments} {body : Expr} {scope : Scope} {fr : List Str}
/-- the cells of a lambda of the frame X -/
theorem liv_own (F : Fx X P w K mg base sc N L C Gs Bs k) (I : Inv X.toCx pins σ H s) (rs : RS X H ρ σ) (h0 : La.fr = frOf La.scope) (hc : ∀ y ∈ La.fr, y ∈ C) (h : AtS N ρ La.fr cd) : ∃ cs, LivH H s.heap (frs X.stack) La (cloFrom X.env.cells La.scope.names []) cs ∧ RDs X.K H cd cs := by
  have own : ∀ y ∈ La.scope.names, y.2 = .free → ∃ c, X.env.cells.lookup y.1 = some c := fun y hy e => by
    have hm : y.1 ∈ La.fr := by rw [h0]; exact mem_frOf.mpr (by rw [← e]; exact hy)
    exact I.ok.has _ (.inl (F.cel _ (hc _ hm)).1)
  have up : ∀ {y c}, (cloFrom X.env.cells La.scope.names []).lookup y = some c → X.env.cells.lookup y = some c ∧ (y, NameKind.free) ∈ La.scope.names := fun {y c} e => by
    rcases cloFrom_mem (PySem.mem_of_lookup e) with z | ⟨z1, z2⟩
    · cases z
    · obtain ⟨c1, q⟩ := own _ z1 rfl
      have q : X.env.cells.lookup y = some c1 := q
      rw [q] at z2
      cases z2
      exact ⟨q, z1⟩
  have get : ∀ (i : Nat) (y : Str), La.fr[i]? = some y → ∃ c oc v u, (cloFrom X.env.cells La.scope.names []).lookup y = some c ∧ H c = none ∧ c ∉ frs X.stack ∧ s.heap.get? c = some oc ∧ oc.data = .cell (some u) ∧ RelV v u ∧ ∃ d, cd[i]? = some d ∧ RD X.K H d v := fun i y e => by
    obtain ⟨j, d, a1, a2, a3⟩ := h.ix i y e
    have a4 := F.cel y (hc y (List.mem_of_getElem? e))
    obtain ⟨_, v, b1, b2⟩ := rs.get j d a2
    obtain ⟨mm, hns, hl⟩ := I.loc
    obtain ⟨u, ru, lk⟩ := hl j y v (by rw [F.hN]; exact a1) b1 (.inr (.inl a4.1))
    have hm : (y, NameKind.free) ∈ La.scope.names := mem_frOf.mp (by rw [← h0]; exact List.mem_of_getElem? e)
    obtain ⟨c, hc⟩ := mem_lookup (cloFrom_has (cells := X.env.cells) (acc := []) hm)
    have hc2 := (up hc).1
    rcases lk with ⟨z, _⟩ | ⟨_, c3, z2, o, ho, hd⟩
    · have z : X.env.scope.names.lookup y = some .local := z
      rw [a4.1] at z
      cases z
    · rw [hc2] at z2
      cases z2
      refine ⟨c, o, v, u, hc, I.freeC y c hc2, fun hb => ?_, ho, hd, ru, d, a3, b2⟩
      rcases List.mem_cons.mp (I.stkSub c hb) with z | z
      · exact I.cne y c hc2 z
      · obtain ⟨_, o', ho', _⟩ := I.ok.funs.mem z
        exact absurd (Nat.lt_of_lt_of_le (Heap.lt_size ho') (I.ok.cab y c a4.2 hc2)) (Nat.lt_irrefl _)
  have vals : ∀ (n : Nat), n ≤ La.fr.length → ∃ vs : List V, vs.length = n ∧ RDs X.K H (cd.take n) vs ∧ ∀ (i : Nat) (y : Str), i < n → La.fr[i]? = some y → ∃ c oc v u, (cloFrom X.env.cells La.scope.names []).lookup y = some c ∧ H c = none ∧ c ∉ frs X.stack ∧ s.heap.get? c = some oc ∧ oc.data = .cell (some u) ∧ vs[i]? = some v ∧ RelV v u := fun n => by
    induction n with
    | zero => exact fun _ => ⟨[], rfl, by rw [List.take_zero]; exact .nil, fun i y h => absurd h (Nat.not_lt_zero _)⟩
    | succ n ih =>
      intro hn
      obtain ⟨vs, e1, e2, e3⟩ := ih (by omega)
      have hy : La.fr[n]? = some (La.fr[n]'(by omega)) := List.getElem?_eq_getElem (by omega)
      obtain ⟨c, oc, v, u, b1, b2, b3, b4, b5, b6, d, b7, b8⟩ := get n _ hy
      refine ⟨vs ++ [v], by rw [List.length_append, e1]; rfl, ?_, fun i y hi ey => ?_⟩
      · rw [List.take_add_one, b7]
        exact e2.append (.cons b8 .nil)
      · by_cases hin : i < n
        · obtain ⟨c, oc, v', u, d1, d2, d3, d4, d5, d6, d7⟩ := e3 i y hin ey
          exact ⟨c, oc, v', u, d1, d2, d3, d4, d5, by rw [List.getElem?_append_left (by omega)]; exact d6, d7⟩
        · have : i = n := by omega
          subst this
          rw [hy] at ey
          cases ey
          exact ⟨c, oc, v, u, b1, b2, b3, b4, b5, by rw [List.getElem?_append_right (by omega), e1, Nat.sub_self]; rfl, b6⟩
  obtain ⟨vs, e1, e2, e3⟩ := vals _ (Nat.le_refl _)
  rw [List.take_of_length_le (by rw [h.len]; omega)] at e2
  exact ⟨vs, ⟨e1, fun x y c q1 q2 => I.ok.inj x y c (up q1).1 (up q2).1, fun y c q => by rw [h0]; exact mem_frOf.mpr (up q).2, fun i y e => e3 i y (List.getElem?_eq_some_iff.mp e).1 e⟩, e2⟩
/-- x(lambda: ..) -/
theorem we_call1L {c Pt : Addr} {q : Str} {ti : Nat} {sp : SpL} (F : Fx X P w K mg base sc N L C Gs Bs k) (GX : Gq X) (T : Tk X E) (Mk : Mkr X c Pt q) (tb : AtM M ti Pt (.tab q)) (G : CalL P w K mg base x j 1 sp) (hj : j ≤ k) (hx : x ∈ Gs) (hl : lamC sc scope = true) (hp : plainArgs params = true)
    (hf : frOf scope = fr) (hc : ∀ y ∈ fr, y ∈ C) (hs : AtS N ρ fr cd)
    (h : ∀ cl, sp [(⟨q, params, body, scope, fr⟩, cl, cd)] [.lam ⟨q, params, body, scope, fr⟩ cl] M Q (fun C fs M' => E C fs ρ M')) : WE X ρ M (.Call (.Name x p) [.Lambda params body scope lp] [] pos) Q := fun σ H rs m pins s I => by
  subst hf
  obtain ⟨f, fd, ps, hn, G, hm, hk, hb⟩ := G.ex
  obtain ⟨g1, g2, g3⟩ := F.gl x hx
  have eP := F.hP; have ew := F.hw; have eK := F.hK; have eg := F.hmg; have eb := F.hbase
  subst eP ew eK eg eb
  have W : WA X ρ M [.Lambda params body scope lp] fun ds M1 => ds = [.lam ⟨q, params, body, scope, frOf scope⟩ (cloFrom X.env.cells scope.names [])] ∧ M1 = M := wa_cons' rfl (we_lam F Mk tb hl hp (wa_nil ⟨rfl, rfl⟩))
  refine wpAny_Call_Name_kw (ld_glob I g1 hm ?_ g2)
  refine PySem.W.callWith_K (h₀ := X.base) I.ok.mod.kin hk (thn (pa_w.run pos pins s σ H _ I (W σ H rs m)) fun us s1 ⟨vs, H1, I1, r, ds, M1, k1, k2, k3, k4, k5⟩ => ⟨I1.kIn, ?_⟩) rfl rfl
  subst k4 k5
  have rs1 := rs.mono k3
  obtain ⟨cs, lv, rc⟩ := liv_own (La := ⟨q, params, body, scope, frOf scope⟩) F I1 rs1 rfl hc hs
  have hul : us.length = ps.length := by rw [← r.length, ← k1.length, hn]; rfl
  have hb' := hb s1 us I1.kIn (by simpa using hul)
  rw [List.append_nil] at hb'
  refine wpAny_call (codeAny_mono (G X.A X.stack s1 H1 ⟨us, []⟩ us vs [(⟨q, params, body, scope, frOf scope⟩, _, cd)] _ M1 Q _ (LE X.K H Q) (fun cls d H' => LX X E cls d σ H') (F.room.mono hj) GX.gd I1.env0 hb' r (fun L' cl' cd' hm' => ?_) k1 k2 (by rw [hn]; rfl) (h _) (fun d M' q v H' r1 r2 r3 => ⟨d, M', r1, r2, k3.trans r3, q⟩) fun C fs M' q dd gs H' e1 e2 e3 st => LX.of rs1 st e1 e2 e3 q) fun r s' hq => ?_)
  · rw [List.mem_singleton] at hm'
    cases hm'
    exact ⟨cs, lv, rc⟩
  match r, hq with
  | .error e, hq => exact passAt T.tk σ pins H1 s1 e s' I1 hq
  | .ok (.ret u), hq => exact I1.after hq
  | .ok .next, hq => exact False.elim hq
  | .ok .brk, hq => exact False.elim hq
  | .ok .cont, hq => exact False.elim hq
/-- x(..), no such lambda among the arguments -/
theorem we_callL {e : Expr} {es : List Expr} {sp : SpL} (F : Fx X P w K mg base sc N L C Gs Bs k) (GX : Gq X) (T : Tk X E) (G : CalL P w K mg base x j n sp) (hj : j ≤ k) (hx : x ∈ Gs) (hs : noStars (e :: es) = true) (h : WA X ρ M (e :: es) fun ds M1 => ds.length = n ∧ sp [] ds M1 Q (fun C fs M' => E C fs ρ M')) : WE X ρ M (.Call (.Name x p) (e :: es) [] pos) Q := fun σ H rs m pins s I => by
  obtain ⟨f, fd, ps, hn, G, hm, hk, hb⟩ := G.ex
  obtain ⟨g1, g2, g3⟩ := F.gl x hx
  obtain ⟨h1, h2⟩ := noStars_cons hs
  have eP := F.hP; have ew := F.hw; have eK := F.hK; have eg := F.hmg; have eb := F.hbase
  subst eP ew eK eg eb
  refine wpAny_Call_Name_kw (ld_glob I g1 hm ?_ g2)
  refine PySem.W.callWith_K (h₀ := X.base) I.ok.mod.kin hk (thn (pa_w.run pos pins s σ H _ I (h σ H rs m)) fun us s1 ⟨vs, H1, I1, r, ds, M1, k1, k2, k3, k4, k5⟩ => ⟨I1.kIn, ?_⟩) (starEach_cons h1) (noStars_any h2)
  have rs1 := rs.mono k3
  have hul : us.length = ps.length := by rw [← r.length, ← k1.length, hn]; exact k4
  have hb' := hb s1 us I1.kIn (by simpa using hul)
  rw [List.append_nil] at hb'
  refine wpAny_call (codeAny_mono (G X.A X.stack s1 H1 ⟨us, []⟩ us vs [] ds M1 Q _ (LE X.K H Q) (fun cls d H' => LX X E cls d σ H') (F.room.mono hj) GX.gd I1.env0 hb' r (fun L' cl' cd' hm' => nomatch hm') k1 k2 (by rw [hn]; exact k4) k5 (fun d M' q v H' r1 r2 r3 => ⟨d, M', r1, r2, k3.trans r3, q⟩) fun C fs M' q dd gs H' e1 e2 e3 st => LX.of rs1 st e1 e2 e3 q) fun r s' hq => ?_)
  match r, hq with
  | .error e, hq => exact passAt T.tk σ pins H1 s1 e s' I1 hq
  | .ok (.ret u), hq => exact I1.after hq
  | .ok .next, hq => exact False.elim hq
  | .ok .brk, hq => exact False.elim hq
  | .ok .cont, hq => exact False.elim hq
theorem we_callL0 {sp : SpL} (F : Fx X P w K mg base sc N L C Gs Bs k) (GX : Gq X) (T : Tk X E) (G : CalL P w K mg base x j 0 sp) (hj : j ≤ k) (hx : x ∈ Gs) (h : sp [] [] M Q (fun C fs M' => E C fs ρ M')) : WE X ρ M (.Call (.Name x p) [] [] pos) Q := fun σ H rs m pins s I => by
  obtain ⟨f, fd, ps, hn, G, hm, hk, hb⟩ := G.ex
  obtain ⟨g1, g2, g3⟩ := F.gl x hx
  have eP := F.hP; have ew := F.hw; have eK := F.hK; have eg := F.hmg; have eb := F.hbase
  subst eP ew eK eg eb
  refine wpAny_Call_Name_kw (ld_glob I g1 hm ?_ g2)
  refine PySem.W.callWith_K0 I.kIn hk ?_
  have hb' := hb s [] I.kIn (by simpa using hn.symm)
  rw [List.append_nil] at hb'
  refine wpAny_call (codeAny_mono (G X.A X.stack s H ⟨[], []⟩ [] [] [] [] M Q _ (LE X.K H Q) (fun cls d H' => LX X E cls d σ H') (F.room.mono hj) GX.gd I.env0 hb' .nil (fun L' cl' cd' hm' => nomatch hm') .nil m hn.symm h (fun d M' q v H' r1 r2 r3 => ⟨d, M', r1, r2, r3, q⟩) fun C fs M' q dd gs H' e1 e2 e3 st => LX.of rs st e1 e2 e3 q) fun r s' hq => ?_)
  match r, hq with
  | .error e, hq => exact passAt T.tk σ pins H s e s' I hq
  | .ok (.ret u), hq => exact I.after hq
  | .ok .next, hq => exact False.elim hq
  | .ok .brk, hq => exact False.elim hq
  | .ok .cont, hq => exact False.elim hq
def noLam (es : List Expr) : Bool := es.all fun e => match e with
  | .Lambda _ _ _ _ => false
  | _ => true
instance (priority := 500) {e : Expr} {es : List Expr} {sp : SpL} [F : Fx X P w K mg base sc N L C Gs Bs k] [GX : Gq X] [T : Tk X E] [G : CalL P w K mg base x j n sp] [mm : MemC x Gs] : Step (WE X ρ M (.Call (.Name x p) (e :: es) [] pos) Q) ((Nat.ble j k && noStars (e :: es)) && noLam (e :: es)) (WA X ρ M (e :: es) fun ds M1 => Side (ds.length = n) (sp [] ds M1 Q (fun C fs M' => E C fs ρ M'))) := ⟨fun h q => by
  rw [Bool.and_eq_true, Bool.and_eq_true] at h
  exact we_callL F GX T G (Nat.le_of_ble_eq_true h.1.1) mm.h h.1.2 fun σ H r m => (q σ H r m).mono fun _ _ ⟨a, b, c, d, e, f⟩ => ⟨a, b, c, d, e, f.a, f.b⟩⟩
instance (priority := 500) {sp : SpL} [F : Fx X P w K mg base sc N L C Gs Bs k] [GX : Gq X] [T : Tk X E] [G : CalL P w K mg base x j 0 sp] [mm : MemC x Gs] : Step (WE X ρ M (.Call (.Name x p) [] [] pos) Q) (Nat.ble j k) (sp [] [] M Q (fun C fs M' => E C fs ρ M')) := ⟨fun h q => we_callL0 F GX T G (Nat.le_of_ble_eq_true h) mm.h q⟩
instance (priority := 450) [F : Fx X P w K mg base sc N L C Gs Bs k] [GX : Gq X] [T : Tk X E] [hx : At N ρ x (.lam La cl)] [V0 : Liv X [(La, cl, cd)]] : Step (WE X ρ M (.Call (.Name x p) [] [] pos) Q) (Nat.ble 1 k) (LamR P w K mg base (k - 1) La cd M Q (fun C fs M' => E C fs ρ M')) := ⟨fun h q => we_lamc F GX T hx V0 (List.mem_singleton.mpr rfl) (by have := Nat.le_of_ble_eq_true h; omega) q⟩
theorem LamR.mono {Q' : DV → Mm → Prop} {E0 E1 : Addr → List (Str × DV) → Mm → Prop} (h : LamR P w K mg base kl La cd M Q E0) (hq : ∀ d M', Q d M' → Q' d M') (he : ∀ C fs M', E0 C fs M' → E1 C fs M') : LamR P w K mg base kl La cd M Q' E1 := by
  obtain ⟨N, Gs, Bs, h1, h2, h3, h4, h5⟩ := h
  refine ⟨N, Gs, Bs, h1, h2, h3, h4, fun X F G T => ?_⟩
  exact (h5 X F G ⟨T.tk.imp fun cls d σ' H' ⟨Cc, dd, gs, fs, ρ', M', e1, e2, e3, e4, e5, e6, e7⟩ => ⟨Cc, dd, gs, fs, ρ', M', e1, e2, e3, e4, e5, e6, e7.mono (he Cc fs)⟩⟩).mono fun d M' z => z.mono (hq d)
end
end G
namespace G
open PySem PySem.Spec PyProof.Rows L2
/-! ### the law's own call: nothing is being shown around it -/
noncomputable def lawH (K : Fg) (a : Addr) (vs : List Value) (ns : List Int) (T : List Addr) : Hp := fun b => open Classical in if b = a then (if (K.lookup a).isSome then none else some (.frz { cls := .type "list", data := .seq vs.toArray } (.lst (ns.map V.int)))) else if b ∈ T then some (.tbl #[]) else none
theorem lawH_is {K : Fg} {a b : Addr} {vs : List Value} {ns : List Int} {T : List Addr} {u : HO} (h : lawH K a vs ns T b = some u) : (b = a ∧ K.lookup a = none ∧ u = .frz { cls := .type "list", data := .seq vs.toArray } (.lst (ns.map V.int))) ∨ (b ≠ a ∧ b ∈ T ∧ u = .tbl #[]) := by
  unfold lawH at h
  split at h
  · split at h
    · cases h
    · rename_i e1 e2; cases h; exact .inl ⟨e1, Option.not_isSome_iff_eq_none.mp e2, rfl⟩
  · split at h
    · rename_i e1 e2; cases h; exact .inr ⟨e1, e2, rfl⟩
    · cases h
theorem lawH_tab {K : Fg} {a b : Addr} {vs : List Value} {ns : List Int} {T : List Addr} (h1 : b ≠ a) (h2 : b ∈ T) : lawH K a vs ns T b = some (.tbl #[]) := by
  unfold lawH; rw [if_neg h1, if_pos h2]
theorem lawH_lst {K : Fg} {a : Addr} {vs : List Value} {ns : List Int} {T : List Addr} (h : K.lookup a = none) : lawH K a vs ns T a = some (.frz { cls := .type "list", data := .seq vs.toArray } (.lst (ns.map V.int))) := by
  unfold lawH; rw [if_pos rfl, h]; rfl
theorem law_callG {P : Program} {w : World} {K : Fg} {mg mb : Str → Option Value} {k : Nat} {fa a : Addr} {cs : List (Addr × Addr × Str)} {fd : FuncData} {x : Str} {sp : SpL} {s : Shared} {vs : List Value} {ns : List Int}
    (KX : K.In s.heap) (gns : s.heap.Ns mainGlobals mg) (bns : s.heap.Ns builtinsNs mb) (bbt : ∀ x : Str, x ≠ "__name__" → mb x = bootBuiltins x) (lim : s.heap.NoLimit) (gen : s.gens = #[])
    (tb : ∀ p ∈ cs, s.heap.get? p.2.1 = some { cls := .none, data := .fields #[] }) (tbK : ∀ p ∈ cs, K.lookup p.2.1 = none) (hd : ∀ p ∈ cs, PySem.W.CodeHd s.heap p.1 p.2.1) (bm : ∃ (m : Addr) (o : Obj), mg "__builtins__" = some (.ref m) ∧ m ≠ builtinsNs ∧ s.heap.get? m = some o ∧ o.cls = .type "module" ∧ o.dict = some builtinsNs ∧ o.data = .plain)
    (nd : (cs.map (·.2.1)).Nodup) (ho : s.heap.get? a = some { cls := .type "list", data := .seq vs.toArray }) (hi : IntsAre vs ns) (hl : ns.length ≤ sizeLine) (room : Room k callerA)
    (F : ∀ base : Heap, K.In base → base.Ns mainGlobals mg → (∀ p ∈ cs, LamX.TabB base mg p.1 p.2.1) → RunL P w K mg base k fa fd [x] sp) (bind : ∀ (s : Shared) (u : Value), BindsTo s fd ⟨[u], []⟩ [(x, u)])
    (hsp : sp [] [.lis (ns.map .int)] (tabM cs) (fun d _ => d = .bl true) (fun _ _ _ => False)) :
    codeAny (model P w) callerA (.call (.ref fa) ⟨[.ref a], []⟩) (fun r s' => r = .ok (.ret (.bool true)) ∧ OldK s.heap s'.heap ∧ s'.os = s.os ∧ AllBare s'.gens) s := by
  have rv := vals_ints hi
  have ln : vs.length = ns.length := hi.length
  have isT : ∀ b ∈ cs.map (·.2.1), s.heap.get? b = some { cls := .none, data := .fields #[] } := fun b hb => by obtain ⟨p, hp, e⟩ := List.mem_map.mp hb; rw [← e]; exact tb p hp
  have aT : ∀ b ∈ cs.map (·.2.1), b ≠ a := fun b hb e => by have q := isT b hb; rw [e, ho] at q; have q := congrArg Obj.data (Option.some.inj q); cases q
  obtain ⟨H, eH⟩ : ∃ H, H = lawH K a vs ns (cs.map (·.2.1)) := ⟨_, rfl⟩
  have Hs : ∀ {b u}, H b = some u → (b = a ∧ K.lookup a = none ∧ u = .frz { cls := .type "list", data := .seq vs.toArray } (.lst (ns.map V.int))) ∨ (b ≠ a ∧ b ∈ cs.map (·.2.1) ∧ u = .tbl #[]) := fun h => lawH_is (by rw [← eH]; exact h)
  have Ht : ∀ b ∈ cs.map (·.2.1), H b = some (.tbl #[]) := fun b hb => by rw [eH]; exact lawH_tab (aT b hb) hb
  have far : ∀ {b o}, s.heap.get? b = some o → (∀ vs n, o.data ≠ .seq vs n) → o.data ≠ .fields #[] → H b = none := fun {b o} e n1 n2 => by
    cases q : H b with
    | none => rfl
    | some u =>
      rcases Hs q with ⟨z, _, _⟩ | ⟨_, z, _⟩
      · rw [z, ho] at e; cases e; exact absurd rfl (n1 _ _)
      · rw [isT b z] at e; cases e; exact absurd rfl n2
  have nsB : ∀ {b : Addr} {m : Str → Option Value}, s.heap.Ns b m → (hidT s.heap H).Ns b m := fun {b m} ⟨o, es, ep, e, d, r⟩ => ⟨o, es, ep, hidT_get e (far e (fun _ _ z => by rw [d] at z; cases z) fun z => by rw [d] at z; cases z), d, r⟩
  have KB : K.In (hidT s.heap H) := fun b o e => hidT_get (KX b o e) (by
    cases q : H b with
    | none => rfl
    | some u =>
      rcases Hs q with ⟨z, z2, _⟩ | ⟨_, z, _⟩
      · rw [z, z2] at e; cases e
      · obtain ⟨p, hp, ep⟩ := List.mem_map.mp z
        rw [← ep, tbK p hp] at e
        cases e)
  have TB : ∀ p ∈ cs, LamX.TabB (hidT s.heap H) mg p.1 p.2.1 := fun p hp => by
    refine ⟨?_, ?_, fun z => ?_⟩
    · obtain ⟨o, us, r0, tf, r1, tg, r2, r3, tt, e1, z1, z2, z3⟩ := hd p hp
      exact ⟨o, us, r0, tf, r1, tg, r2, r3, tt, hidT_get e1 (far e1 (fun _ _ z => by rw [z2] at z; cases z) fun z => by rw [z2] at z; cases z; simp at z3), z1, z2, z3⟩
    · obtain ⟨m, o, b1, b2, b3, b4, b5, b6⟩ := bm
      refine ⟨m, o, b1, b2, fun q => ?_, fun q => ?_, hidT_get b3 (far b3 (fun _ _ z => by rw [b6] at z; cases z) fun z => by rw [b6] at z; cases z), b4, b5, b6⟩
      · obtain ⟨o', es, ep, e, d, _⟩ := gns; rw [q, e] at b3; cases b3; rw [d] at b6; cases b6
      · rw [q, tb p hp] at b3; cases b3; cases b6
    · obtain ⟨o', es, ep, e, d, _⟩ := gns; rw [z, tb p hp] at e; cases e; cases d
  have hok : HOk P w H s.heap := fun b u hu => by
    rcases Hs hu with ⟨z, _, z2⟩ | ⟨_, z, z2⟩
    · subst z z2
      exact ⟨ho, by rw [List.length_map]; exact hl, vs, _, rv, ho⟩
    · subst z2
      exact isT b z
  have e0 : Env0 P w K mg (hidT s.heap H) callerA [] s H := ⟨rfl, ⟨KB, nsB gns, ⟨mb, nsB bns, bbt⟩, let ⟨c, h1, h2⟩ := lim; ⟨c, nsB h1, h2⟩⟩, fun b o e => of_hidT e, Nat.le_of_eq (hidT_size _ _), trivial, fun b hb => (nomatch hb), hok, .of_eq gen⟩
  have fz : FrzL K H a (ns.map V.int) := by
    cases q : K.lookup a with
    | none => exact .inl ⟨_, by rw [eH]; exact lawH_lst q⟩
    | some o =>
      have e := KX a o q
      rw [ho] at e
      cases e
      exact .inr ⟨_, vs.toArray, _, q, rfl, rfl, rfl, by rw [List.size_toArray, ln]; exact hl, by simpa using rv⟩
  have rm : RM K H (tabM cs) := ⟨by unfold tabM; rw [List.map_map]; exact nd, fun b o hm => by
    obtain ⟨p, hp, e⟩ := List.mem_map.mp hm
    cases e
    exact LamX.TabS.nil (Ht _ (List.mem_map.mpr ⟨p, hp, rfl⟩))⟩
  refine codeAny_mono (F _ KB (nsB gns) TB callerA [] s H ⟨[.ref a], []⟩ [.ref a] [.ref a] [] _ _ _ _ (fun v _ => v = .bl true) (fun _ _ _ => False) room rfl e0 (bind s (.ref a)) (.cons rfl .nil) (fun _ _ _ hm => nomatch hm) (.cons (.lis fz (RDs.ints ns)) .nil) rm rfl hsp (fun d M' e v H' r _ _ => by subst e; cases r; rfl) fun _ _ _ z => z.elim) fun r s' h => ?_
  match r, h with
  | .error e, ⟨_, _, _, _, _, _, _, _, _, _, _, _, z⟩ => exact False.elim z
  | .ok .next, h => exact False.elim h
  | .ok .brk, h => exact False.elim h
  | .ok .cont, h => exact False.elim h
  | .ok (.ret u), ⟨v, H', os, bare, un, hok', r', q⟩ =>
    have q : v = .bl true := q
    subst q
    obtain rfl : u = Value.bool true := r'
    have stays : ∀ b o, b ∉ cs.map (·.2.1) → s.heap.get? b = some o → s'.heap.get? b = some o := fun b o nb e => by
      cases q : H b with
      | none => exact un.keep b o e q (fun z => nomatch z) (fun z => nomatch z)
      | some u =>
        rcases Hs q with ⟨z, _, z2⟩ | ⟨_, z, _⟩
        · subst z z2
          rw [ho] at e
          cases e
          exact (hok' b _ (un.frzs b _ _ q)).1
        · exact absurd z nb
    have more : ∀ p ∈ cs, ∃ m : Array Value, s'.heap.get? p.2.1 = some { cls := .none, data := .fields m } := fun p hp => by
      obtain ⟨m, z⟩ := un.tbls p.2.1 #[] (Ht _ (List.mem_map.mpr ⟨p, hp, rfl⟩))
      exact ⟨_, hok' p.2.1 _ z⟩
    refine ⟨rfl, ⟨fun b o e => ?_, fun b o e => ?_⟩, os, bare⟩
    · by_cases hb : b ∈ cs.map (·.2.1)
      · obtain ⟨p, hp, ep⟩ := List.mem_map.mp hb
        obtain ⟨m, hm⟩ := more p hp
        subst ep
        rw [tb p hp] at e
        cases e
        exact .inr (.inl ⟨((hd p hp).tab (tb p hp)).isCodeTable, rfl, #[], m, rfl, by rw [Array.empty_append]; exact hm⟩)
      · exact .inl (stays b o hb e)
    · by_cases hb : b ∈ cs.map (·.2.1)
      · obtain ⟨p, hp, ep⟩ := List.mem_map.mp hb
        obtain ⟨m, hm⟩ := more p hp
        exact ⟨_, by rw [← ep]; exact hm⟩
      · exact ⟨o, stays b o hb e⟩
/-- the law's promise -/
def spLawG (cs : List (Addr × Addr × Str)) : SpL := fun LL ds M Q _ => ∃ ns : List Int, LL = [] ∧ ds = [.lis (ns.map .int)] ∧ M = tabM cs ∧ ns.length ≤ 63 ∧ ∀ M', Q (.bl true) M'
theorem law_okG {P : Program} {w : World} {K : Fg} {mg : Str → Option Value} {base : Heap} {N L C Gs Bs : List Str} {k : Nat} {x y : Str} {st : Stmt} {f : Addr} {fd : FuncData} {dV : Value} {cs : List (Addr × Addr × Str)} (F : FunD K x x st f fd dV) (S : FnScope N [y] (defScope st)) (hst : stat (defScope st) N L C Gs = true) (hb : ∀ x ∈ Bs, mg x = none)
    (h : ∀ X, Fx X P w K mg base (defScope st) N L C Gs Bs k → Gq X → ∀ ns : List Int, ns.length ≤ 63 → Tk X (fun _ _ _ _ => False) → WSs X (ini N [.lis (ns.map .int)]) (tabM cs) (defBody st) (fun _ _ => False) (fun d _ => d = .bl true) (fun _ _ => False) (fun _ _ => False)) :
    RunL P w K mg base (k + 1) f fd [y] (spLawG cs) := by
  obtain ⟨oc, od, kV, doc, pm, an, cdv, ct, osl, rfl, lk, hcd⟩ := F.ex
  refine runL_of lk hcd S hst hb fun X FX _ GX _ LL ds M Q E _ _ ⟨ns, _, e2, e3, e4, e5⟩ _ => ?_
  subst e2 e3
  exact (h X FX GX ns e4 Tk.none).mono (fun _ _ z => z.elim) (fun d M' z => Sub.self (by subst z; exact e5 M')) (fun _ _ z => z) fun _ _ z => z
theorem walkG {l : PySem.W.OpenLaw} {q : Program} {loose : List Str} {XP : (Str → Option Value) → Heap → Prop} {YP : World → Heap → Prop} {d : DefRec} {K : Params → PySem.W.Frag} {k : Nat} {x : Str} (hn : l.most = some 63) (hdf : d.params.defaults = []) (hr : Room k callerA)
    (hY : ∀ (w : World) (h : Heap), YP w h → (K w.params).In h)
    (F : ∀ (w : World) (mg : Str → Option Value) (fa : Addr) (h : Heap), YP w h → (K w.params).In h → h.Ns mainGlobals mg → mg d.name = some (.ref fa) →
      ∃ (fd : FuncData) (cs : List (Addr × Addr × Str)), (∀ p ∈ cs, h.get? p.2.1 = some { cls := .none, data := .fields #[] }) ∧ (∀ p ∈ cs, (K w.params).lookup p.2.1 = none) ∧ (∀ p ∈ cs, PySem.W.codeHdIn (K w.params) p.1 p.2.1 = true) ∧ (cs.map (·.2.1)).Nodup ∧ (∀ (s : Shared) (u : Value), BindsTo s fd ⟨[u], []⟩ [(x, u)]) ∧
        ∀ base : Heap, (K w.params).In base → base.Ns mainGlobals mg → (∀ p ∈ cs, LamX.TabB base mg p.1 p.2.1) → RunL l.prog w (K w.params) mg base k fa fd [x] (spLawG cs)) :
    PySem.W.WalkO q loose XP YP l.row.toRowW d [] (fun f vs => PySem.call f vs) := by
  refine Att.attach_callB hn hdf fun w s₀ s₁ mg mb fa o pm cd doc a vs ns G Y ho hd hcd hmg hobj hints hlen hbits hg => ?_
  have KX := hY w _ Y
  obtain ⟨fd, cs, c1, c2, c3, nd, c4, c5⟩ := F w mg fa _ Y KX G.T.g hmg
  exact law_callG KX G.T.g G.T.b G.T.builtins G.T.nolimit hg c1 c2 (fun p hp => PySem.W.codeHd_of_K KX (c3 p hp)) G.T.bmain nd hobj hints (Nat.le_trans hlen (by rw [sizeLine_eq]; decide)) hr c5 c4 ⟨ns, rfl, rfl, rfl, hlen, fun _ => rfl⟩
end G
namespace G
open PySem PySem.Spec PyProof.Rows L2
/-! ### repr of data, where nothing is being shown around -/
/-- repr of d is t; new objects may be laid -/
def RepG (X : Cy) (d : DV) (M : Mm) (t : Str) : Prop := ∀ (pins : List (Addr × Obj)) (s : Shared) (σ : L2.St) (H : Hp) (v : V) (u : Value) (Q : Value → Shared → Prop), Inv X.toCx pins σ H s → RD X.K H d v → RM X.K H M → RelV v u →
  (∀ h' tk tk', (∀ b o, s.heap.get? b = some o → h'.get? b = some o) → Q (.str t tk) { s with heap := h', toks := tk' }) → wpAny (model X.prog X.w) X.A (call (.builtin "repr") [u]) Q X.xe s
class RepGC (X : Cy) (d : DV) (M : Mm) (t : outParam Str) : Prop where
  h : RepG X d M t
mutual
theorem Pd.nodict {M : Mm} : ∀ {d : DV} {p : PyData}, Pd M d p → p.hasDict = false
  | _, _, .non => by simp only [PyData.hasDict]
  | _, _, .bl b => by simp only [PyData.hasDict]
  | _, _, .int b => by simp only [PyData.hasDict]
  | _, _, .str b => by simp only [PyData.hasDict]
  | _, _, .tup q => by simp only [PyData.hasDict]; exact Pds.nodict q
  | _, _, .lst _ q => by simp only [PyData.hasDict]; exact Pds.nodict q
  | _, _, .lis q => by simp only [PyData.hasDict]; exact Pds.nodict q
theorem Pds.nodict {M : Mm} : ∀ {d : List DV} {p : List PyData}, Pds M d p → PyData.hasDictAll p = false
  | _, _, .nil => by simp only [PyData.hasDictAll]
  | _, _, .cons a b => by simp only [PyData.hasDictAll, Pd.nodict a, Pds.nodict b, Bool.or_self]
end
theorem rep_data {P : Program} {w : World} {A : Around} {E : Value → Shared → Prop} {s : Shared} {u : Value} {p : PyData} {as : List Addr} {Q : Value → Shared → Prop} (r : Reads s.heap u p as) (hs : p.showable = true) (hd : p.hasDict = true → sysModules ∉ as) (hg : A.guards = some []) (hu : A.units + (p.depth + 1) < cLine) (hz : p.shown.length ≤ sizeLine)
    (h : ∀ h' tk tk', (∀ b o, s.heap.get? b = some o → h'.get? b = some o) → Q (.str p.shown tk) { s with heap := h', toks := tk' }) : wpAny (model P w) A (call (.builtin "repr") [u]) Q E s := by
  have same : ∀ b o, s.heap.get? b = some o → s.heap.get? b = some o := fun _ _ e => e
  cases r with
  | none => exact PySem.P.repr_of_none (h _ _ _ same)
  | bool b => exact PySem.P.repr_of_bool (by have := h s.heap s.toks (s.toks + 1) same; simpa [PyData.shown] using this)
  | int i t => exact PySem.P.repr_of_int (by simpa [PyData.showable] using hs) (h _ _ _ same)
  | str x t => exact PySem.P.repr_of_str (h _ _ _ same) hz
  | list a b c d => exact repr_of_reads' (.list a b c d) hs hd hg hu same (fun h' u tk k => h h' u tk k) hz
  | tuple a b c d => exact repr_of_reads' (.tuple a b c d) hs hd hg hu same (fun h' u tk k => h h' u tk k) hz
  | dict a b c d e => exact repr_of_reads' (.dict a b c d e) hs hd hg hu same (fun h' u tk k => h h' u tk k) hz
/-- the data of a dict with plain entries -/
def scRD : DV → Option PyData
  | .non => some .none
  | .bl b => some (.bool b)
  | .int i => some (.int i)
  | .str x => some (.str x)
  | _ => none
def keyRD : Key → PyData
  | .inl i => .int i
  | .inr x => .str x
def dkRD : List (Key × DV) → Option (List (PyData × PyData))
  | [] => some []
  | (k, d) :: r => match scRD d, dkRD r with
    | some p, some ps => some ((keyRD k, p) :: ps)
    | _, _ => none
theorem sc_reads {K : Fg} {H : Hp} {h : Heap} {d : DV} {p : PyData} {v : V} {u : Value} (e : scRD d = some p) (r : RD K H d v) (ru : RelV v u) : Reads h u p [] := by
  cases r <;> first | (simp [scRD] at e; done) | skip
  · cases e; cases ru; exact .none
  · cases e; cases ru; exact .bool _
  · cases e; obtain ⟨t, rfl⟩ := ru; exact .int _ t
  · cases e; obtain ⟨t, rfl⟩ := ru; exact .str _ t
theorem dk_reads {P : Program} {w : World} {K : Fg} {H : Hp} {h : Heap} : ∀ {kvs : List (Key × DV)} {ps : List (PyData × PyData)} {gs : List (Key × V)} {vs : List (Key × Value)} {es : List DictEntry}, dkRD kvs = some ps → RF K H kvs gs → KV gs vs → Pairs (mixKind P w) es vs →
    ReadsAll h (es.map (·.key)) (ps.map (·.1)) [] ∧ ReadsAll h (es.map (·.val)) (ps.map (·.2)) []
  | [], _, _, _, _, e, r, kv, pr => by
    cases e; cases r; cases kv; cases pr
    exact ⟨.nil, .nil⟩
  | (k, d) :: kvs, ps, _, _, _, e, r, kv, pr => by
    rw [dkRD] at e
    cases h1 : scRD d with
    | none => rw [h1] at e; cases e
    | some p =>
      cases h2 : dkRD kvs with
      | none => rw [h1, h2] at e; cases e
      | some qs =>
        rw [h1, h2] at e
        cases e
        cases r with
        | cons r1 r2 =>
          cases kv with
          | cons k1 k2 =>
            cases pr with
            | @cons e' kv es' kvs' p1 p2 p3 =>
              obtain ⟨a, b⟩ := dk_reads (h := h) h2 r2 k2 p3
              obtain ⟨q1, q2⟩ := k1
              have q1 : k = _ := q1
              rw [← q1] at p1
              refine ⟨?_, ?_⟩
              · have kr : ∀ {x : Value}, (mixKind P w).is k x = true → Reads h x (keyRD k) [] := fun {x} hk => by
                  rcases keyIs_shape (show keyIs k x = true from hk) with ⟨i, t, rfl, rfl⟩ | ⟨x, t, rfl, rfl⟩
                  · exact .int i t
                  · exact .str x t
                exact .cons (kr p1) a
              · have : Reads h e'.val p [] := sc_reads (h := h) h1 r1 (by rw [p2]; exact q2)
                exact .cons this b
section
variable {X : Cy} {P : Program} {w : World} {K : Fg} {mg : Str → Option Value} {base : Heap} {sc : Scope} {N L C Gs Bs : List Str} {k : Nat} {ρ : Ro} {M : Mm} {Q : DV → Mm → Prop} {e : Expr} {pos p : Pos} {d : DV} {q : PyData}
theorem rg_pd (GX : Gq X) (hu : X.A.units + 200 < cLine) (p : Pd M d q) (hs : q.showable = true) (hd : q.depth ≤ 60) (hz : q.shown.length ≤ sizeLine) : RepG X d M q.shown := fun pins s σ H v u Q I r m ru h => by
  obtain ⟨as, rr⟩ := Dp.reads I _ _ _ (p.dp m r) ru
  exact rep_data rr hs (PyData.noDict_hsm p.nodict) GX.gd (by omega) hz h
theorem rg_dk {a : Addr} {i : Nat} {kvs : List (Key × DV)} {ps : List (PyData × PyData)} (GX : Gq X) (hu : X.A.units + 200 < cLine) (A : AtM M i a (.dk kvs)) (he : dkRD kvs = some ps) (hs : (PyData.dict ps).showable = true) (hd : (PyData.dict ps).depth ≤ 60) (hz : (PyData.dict ps).shown.length ≤ sizeLine) : RepG X (.ref a) M (PyData.dict ps).shown := fun pins s σ H v u Q I r m ru h => by
  cases r
  cases ru
  obtain ⟨gs, e, rv⟩ := m.at A.ix
  obtain ⟨_, hsys, vs, hv, o, es, ep, h1, h2, h3, _, h5, _⟩ := dk_of I.hok e
  obtain ⟨r1, r2⟩ := dk_reads (h := s.heap) he rv hv h5
  have rr : Reads s.heap (.ref a) (.dict ps) (a :: [] ++ []) := .dict h1 h2.1 h3 r1 r2
  exact rep_data rr hs (fun _ hm => by simp at hm; rw [← hm] at hsys; simp at hsys) GX.gd (by omega) hz h
theorem we_reprG_of (g1 : Gl X.toCx "repr") (g2 : (("repr" : Str) == ("__debug__" : Str)) = false) (g3 : ("repr" : Str) ≠ "__name__") (gb : X.mg "repr" = none) (hs : isStar e = false) (h : WE X ρ M e fun d M1 => ∃ t, RepG X d M1 t ∧ Q (.str t) M1) : WE X ρ M (.Call (.Name "repr" p) [e] [] pos) Q := fun σ H rs m pins s I => by
  refine wpAny_Call_Name_kw (ld_blt I g1 gb (show bootBuiltins "repr" = some (.builtin "repr") by decide +kernel) ?_ g3 g2)
  have W := h σ H rs m
  refine PyProof.Rows.callWith_builtin1 (thn ((pa_cons (pe_w (X := X.toCx) (e := e)) pa_nil (starEach_cons hs)).run pos pins s σ H (fun vs H1 => ∃ d M1 v, vs = [v] ∧ RD X.K H1 d v ∧ RM X.K H1 M1 ∧ Stay X.K H H1 ∧ ∃ t, RepG X d M1 t ∧ Q (.str t) M1) I (W.mono fun v H1 ⟨d, M1, a1, a2, a3, a4⟩ => ⟨d, M1, v, rfl, a1, a2, a3, a4⟩)) fun us s1 ⟨vs, H1, I1, r1, d, M1, v, ev, a1, a2, a3, t, a4, a5⟩ => ?_) (starEach_cons hs) rfl
  subst ev
  cases r1 with
  | cons r1 r2 =>
    cases r2
    exact a4 pins s1 σ H1 v _ _ I1 a1 a2 r1 fun h' tk tk' k => ⟨.str t, H1, I1.kept fun b o e => k b o e, ⟨_, rfl⟩, .str t, M1, .str t, a2, a3, a5⟩
/-- what repr asks -/
def RepT (X : Cy) (Q : DV → Mm → Prop) (d : DV) (M : Mm) : Prop := ∃ t, RepG X d M t ∧ Q (.str t) M
instance (priority := 3000) [F : Fx X P w K mg base sc N L C Gs Bs k] [GX : Gq X] [m : MemC "repr" Gs] [m2 : MemC "repr" Bs] : Step (WE X ρ M (.Call (.Name (Str.ofString "repr") p) [e] [] pos) Q) (!isStar e) (WE X ρ M e (RepT X Q)) := ⟨fun h q =>
  we_reprG_of (F.gl _ m.h).1 (F.gl _ m.h).2.1 (F.gl _ m.h).2.2 (by rw [F.hmg]; exact F.bl _ m2.h) (by simpa using h) q⟩
instance (priority := 3000) [F : Fs X K mg sc N L Gs Bs] [GX : Gq X] [m : MemC "repr" Gs] [m2 : MemC "repr" Bs] : Step (WE X ρ M (.Call (.Name (Str.ofString "repr") p) [e] [] pos) Q) (!isStar e) (WE X ρ M e (RepT X Q)) := ⟨fun h q =>
  we_reprG_of (F.gl _ m.h).1 (F.gl _ m.h).2.1 (F.gl _ m.h).2.2 (by rw [F.hmg]; exact F.bl _ m2.h) (by simpa using h) q⟩
end
end G
namespace G
open PySem PySem.Spec PyProof.Rows L2
/-! ### lambdas without parameters, at the call that is given them -/
def noParams (a : Arguments) : Bool := match a with
  | ⟨[], [], none, [], [], none, []⟩ => true
  | _ => false
theorem noParams_bind {L : Lamb} (h : noParams L.params = true) (cl : List (Str × Addr)) (pm cv ctv : Value) : bindArgs (PySem.W.kla_fn "<lambda>" L.qual L.params L.body L.scope cl pm cv ctv) ⟨[], []⟩ = pure [] := by
  obtain ⟨q, ⟨p1, p2, p3, p4, p5, p6, p7⟩, b, s, f⟩ := L
  cases p1 <;> cases p2 <;> cases p3 <;> cases p4 <;> cases p5 <;> cases p6 <;> cases p7 <;> first | (simp [noParams] at h; done) | rfl
section
variable {X : Cy} {P : Program} {w : World} {K : Fg} {mg : Str → Option Value} {base : Heap} {sc : Scope} {N L C Gs Bs : List Str} {k j n kl : Nat} {ρ : Ro} {M : Mm} {Q : DV → Mm → Prop} {E : EX} {pos p lp : Pos} {x : Str} {La : Lamb} {cl : List (Str × Addr)} {cd : List DV} {LL : Lvs} {params : Arguments} {body : Expr} {scope : Scope} {fr : List Str}
theorem lamR_mk {E : Addr → List (Str × DV) → Mm → Prop} (N Gs Bs : List Str) (h1 : NdefX.nscB N [] La.fr La.scope = true) (h2 : stat La.scope N [] [] Gs = true) (h3 : ∀ x ∈ Bs, mg x = none) (h4 : noParams La.params = true)
    (h : ∀ X, Fx X P w K mg base La.scope N [] [] Gs Bs kl → Gq X → Tk X (fun C fs _ M' => Sub (E C fs) M') → WE X (ini N cd) M La.body (fun d M' => Sub (Q d) M')) : LamR P w K mg base kl La cd M Q E := ⟨N, Gs, Bs, NdefX.nscope_by h1, h2, h3, noParams_bind h4, h⟩
/-- repr of d is t wherever nothing is being shown -/
def RepE (K : Fg) (d : DV) (M : Mm) (t : Str) : Prop := ∀ Y : Cy, Y.K = K → Gq Y → Y.A.units + 200 < cLine → RepG Y d M t
theorem re_pd {d : DV} {q : PyData} (p : Pd M d q) (hs : q.showable = true) (hd : q.depth ≤ 60) (hz : q.shown.length ≤ sizeLine) : RepE K d M q.shown := fun Y _ G u => rg_pd G u p hs hd hz
theorem re_dk {a : Addr} {i : Nat} {kvs : List (Key × DV)} {ps : List (PyData × PyData)} (A : AtM M i a (.dk kvs)) (he : dkRD kvs = some ps) (hs : (PyData.dict ps).showable = true) (hd : (PyData.dict ps).depth ≤ 60) (hz : (PyData.dict ps).shown.length ≤ sizeLine) : RepE K (.ref a) M (PyData.dict ps).shown := fun Y _ G u => rg_dk G u A he hs hd hz
theorem rt_of (F : Fx X P w K mg base sc N L C Gs Bs k) (G : Gq X) {d : DV} {t : Str} (r : RepE K d M t) (q : Q (.str t) M) : RepT X Q d M := ⟨t, r X F.hK G (by have := F.room.un; omega), q⟩
theorem rt_ofS (F : Fs X K mg sc N L Gs Bs) (G : Gq X) {d : DV} {t : Str} (r : RepE K d M t) (q : Q (.str t) M) : RepT X Q d M := ⟨t, r X F.hK G F.un, q⟩
/-- a def that asks the one lambda that it is given: what it does with its value, and with what it raises -/
def spAsk (P : Program) (w : World) (K : Fg) (mg : Str → Option Value) (base : Heap) (kl : Nat) (onV : DV → Mm → (DV → Mm → Prop) → Prop) (onE : Addr → List (Str × DV) → Mm → (DV → Mm → Prop) → (Addr → List (Str × DV) → Mm → Prop) → Prop) : SpL := fun LL ds M Q E =>
  ∃ L cl cd, LL = [(L, cl, cd)] ∧ ds = [.lam L cl] ∧ LamR P w K mg base kl L cd M (fun d M' => onV d M' Q) (fun C fs M' => onE C fs M' Q E)
/-- x(lambda: body) -/
theorem we_ask {c Pt : Addr} {q : Str} {ti : Nat} {onV : DV → Mm → (DV → Mm → Prop) → Prop} {onE : Addr → List (Str × DV) → Mm → (DV → Mm → Prop) → (Addr → List (Str × DV) → Mm → Prop) → Prop} [F : Fx X P w K mg base sc N L C Gs Bs k] [GX : Gq X] [T : Tk X E] [Mk : Mkr X c Pt q] [tb : AtM M ti Pt (.tab q)] [G : CalL P w K mg base x j 1 (spAsk P w K mg base kl onV onE)] [hx : MemC x Gs]
    (fr : List Str) (N' Gs' Bs' : List Str) [hs : AtS N ρ fr cd] (hj : Nat.ble j k = true) (hl : (lamC sc scope && plainArgs params && noParams params) = true) (hf : frOf scope = fr) (hc : (fr.all fun y => decide (y ∈ C)) = true) (h1 : NdefX.nscB N' [] fr scope = true) (h2 : stat scope N' [] [] Gs' = true) (h3 : ∀ x ∈ Bs', mg x = none)
    (h : ∀ Y, Fx Y P w K mg base scope N' [] [] Gs' Bs' kl → Gq Y → Tk Y (fun C fs _ M' => Sub (fun M1 => onE C fs M1 Q fun C fs M' => E C fs ρ M') M') → WE Y (ini N' cd) M body (fun d M' => Sub (fun M1 => onV d M1 Q) M')) : WE X ρ M (.Call (.Name x p) [.Lambda params body scope lp] [] pos) Q := by
  simp only [Bool.and_eq_true] at hl
  refine we_call1L F GX T Mk tb G (Nat.le_of_ble_eq_true hj) hx.h hl.1.1 hl.1.2 hf (fun y hy => by simpa using List.all_eq_true.mp hc y hy) hs fun cl => ?_
  exact ⟨_, _, _, rfl, rfl, lamR_mk N' Gs' Bs' h1 h2 h3 hl.2 h⟩
end
end G
namespace G
open PySem PySem.Spec PyProof.Rows L2
/-! ### repr of a list that holds one empty dict -/
theorem re_lst_dk {K : Fg} {M : Mm} {a b : Addr} {i j : Nat} (A : AtM M i a (.lst [.ref b])) (B : AtM M j b (.dk [])) : RepE K (.ref a) M (listText [dictText []]) := fun Y hK G u pins s σ H v uu Q I r m ru h => by
  cases r
  cases ru
  obtain ⟨vs, e, rv⟩ := m.at A.ix
  cases rv with
  | cons r1 r2 =>
    cases r2
    cases r1
    obtain ⟨gs, e2, rv2⟩ := m.at B.ix
    cases rv2
    have ne : a ≠ b := fun z => by rw [z, e2] at e; cases e
    obtain ⟨_, its, n, hv, ho⟩ := I.hok a _ e
    cases hv with
    | cons v1 v2 =>
      cases v2
      cases v1
      obtain ⟨_, hsys, ws, hw, o, es, ep, h1, h2, h3, _, h5, _⟩ := dk_of I.hok e2
      cases hw
      have he : es.toList = [] := by cases h5' : es.toList with
        | nil => rfl
        | cons x l => rw [h5'] at h5; cases h5
      have R1 : ReprK Y.prog Y.w [b] s.heap 1 (.ref b) (dictText []) := ReprK.dict (as := []) h1 h2.1 h3 hsys (by simp) (by rw [he]; exact .nil)
      have hna : a ∉ [b] := by simpa using ne
      have same : ∀ b o, s.heap.get? b = some o → s.heap.get? b = some o := fun _ _ e => e
      refine call_repr_slot (by omega) ⟨_, ho, rfl⟩ F.slot_list_repr.toG (call_list_reprK (as := [b]) (d := 1) ho rfl rfl hna rfl (fun i y ey => ?_) (A := Y.A.in1) G.gd (fun b _ => Clear.nil b) (by show Y.A.units + 1 + 2 < cLine; omega) same (fun h' u tk hk => ⟨_, _, rfl, h h' u tk hk⟩) (by rw [sizeLine_eq]; decide +kernel))
      match i with
      | 0 =>
        have ey : some (Value.ref b) = some y := ey
        cases ey
        exact ⟨_, rfl, R1⟩
      | i + 1 =>
        simp at ey
end G
namespace G
open PySem PySem.Spec PyProof.Rows L2
/-! ### C(k = e), that may raise -/
section
variable {X : Cy} {P : Program} {w : World} {K : Fg} {mg : Str → Option Value} {base : Heap} {sc : Scope} {N L C Gs Bs : List Str} {k j n : Nat} {ρ : Ro} {M : Mm} {Q : DV → Mm → Prop} {E : EX} {pos p p1 : Pos} {x k1 : Str} {e1 : Expr} {sp : SpX} {Cc : Addr} {dd : List DV}
theorem run_makeKX {X : Cx} {CX : CXT} {k n : Nat} {f C : Addr} {fd : FuncData} {ps ks : List Str} {sp : Sp} {E : XK} {g : List Value → List Value → List Value} {gV : List V → List V → List V} {pins : List (Addr × Obj)} {σ : L2.St} {H : Hp} {s : Shared} {Q : VK} {us ws : List Value} {vs zs : List V} (Mc : Mk X.K C f) (F : FnOk X.prog X.w X.K X.mg X.base CX k f fd ps sp) (hr : Room (k + 1) X.A) (hb : KBn X.K fd ps (n + 1) ks g gV) (hx : PassesAt CX X σ E)
    (I : Inv X pins σ H s) (r : Vals vs us) (rz : Vals zs ws) (l1 : vs.length = n) (l2 : zs.length = ks.length)
    (h : ∀ x dx, H x = none → H dx = none → dx ≠ x → sp (gV (.ref x :: vs) zs) (upd (upd H dx (.own x)) x (.ins C dx [])) (fun v H2 => v = .non ∧ Q (.ref x) H2) E) :
    wpAny (model X.prog X.w) X.A (call (.ref C) us (ks.zip ws)) (EP X pins σ Q) X.xe s := by
  have want := h (s.heap.objs.size + 1) s.heap.objs.size (I.hok.fresh (Nat.le_succ _)) (I.hok.fresh (Nat.le_refl _)) (Nat.ne_of_lt (Nat.lt_succ_self _))
  have J := Inv.made (C := C) I
  have r1 : Vals (V.ref (s.heap.objs.size + 1) :: vs) (Value.ref (s.heap.objs.size + 1) :: us) := .cons rfl r
  have n1 : (Value.ref (s.heap.objs.size + 1) :: us).length = n + 1 := by rw [List.length_cons, ← r.length, l1]
  refine wpAny_call (make_map (f := f) I.kIn Mc.makes Mc.init (beq_iff_eq.mp Mc.fn) (codeAny_mono (F.run _ X.stack _ _ ⟨Value.ref (s.heap.objs.size + 1) :: us, ks.zip ws⟩ (g (Value.ref (s.heap.objs.size + 1) :: us) ws) _ _ E (hr.make C us (ks.zip ws)) (J.env0.make C us (ks.zip ws)) (hb.to _ (Value.ref (s.heap.objs.size + 1) :: us) ws J.kIn n1 (rz.length.symm.trans l2)) (hb.rel r1 rz) want) fun res s' end_ => ?_))
  match res, end_ with
  | .error e, z => exact hx pins _ _ e s' J z
  | .ok (.ret u), z =>
    obtain ⟨v, H', J3, rv, ev, q3⟩ := J.after z
    subst ev
    exact ⟨rv, ⟨V.ref (s.heap.objs.size + 1), H', J3, rfl, q3⟩⟩
  | .ok .next, z => exact False.elim z
  | .ok .brk, z => exact False.elim z
  | .ok .cont, z => exact False.elim z
theorem we_makeDX (F : Fx X P w K mg base sc N L C Gs Bs k) (T : Tk X E) (G : MkiD P w K mg base x [k1] Cc j dd sp) (hj : j + 1 ≤ k) (hx : x ∈ Gs)
    (h : WE X ρ M e1 fun d1 M1 => ∀ q, sp (.ref q :: ([d1] ++ dd)) ((q, .ins Cc []) :: M1) (fun d M' => d = .non ∧ Q (.ref q) M') (fun C fs M' => E C fs ρ M')) : WE X ρ M (.Call (.Name x p) [] [⟨some k1, e1, p1⟩] pos) Q := fun σ H rs m pins s I => by
  obtain ⟨f, fd, ps, mv, mz, Mc, G, hm, kb, hd⟩ := G.ex
  obtain ⟨g1, g2, g3⟩ := F.gl x hx
  have tk := T.tk
  have eP := F.hP; have ew := F.hw; have eK := F.hK; have eg := F.hmg; have eb := F.hbase
  subst eP ew eK eg eb
  refine wpAny_Call_Name_kw (ld_glob I g1 hm ?_ g2)
  refine PySem.W.callWith_KW0 (h₀ := X.base) I.ok.mod.kin Mc.kp rfl ?_ rfl
  refine thn ((pk_cons (nm := some k1) (kpos := p1) (pe_w (X := X.toCx) (e := e1)) pk_nil).run pos pins s σ H (fun zs H1 => zs.length = 1 ∧ ∃ v d1 M1, zs = [v] ∧ RD X.K H1 d1 v ∧ RM X.K H1 M1 ∧ Stay X.K H H1 ∧ ∀ q, sp (.ref q :: ([d1] ++ dd)) ((q, .ins Cc []) :: M1) (fun d M' => d = .non ∧ Q (.ref q) M') (fun C fs M' => E C fs ρ M')) I ((h σ H rs m).mono fun v H1 ⟨d, M1, a1, a2, a3, a4⟩ => ⟨rfl, v, d, M1, rfl, a1, a2, a3, a4⟩)) fun ws s2 ⟨zs, H2, I2, rz, l2, v, d1, M1, ez, k1', k2, k3, k5⟩ => ⟨I2.kIn, ?_⟩
  subst ez
  refine run_makeKX (E := fun cls d H' => LX X E cls d σ H') (n := 0) (us := []) (vs := []) (ws := ws) Mc G (F.room.mono hj) kb (passAt tk σ) I2 .nil rz rfl rfl fun q dx hq hdx hne => ?_
  have z := sp_madeX (E' := fun cls d H' => LX X E cls d σ H') (ds := [d1] ++ dd) (vs := [v] ++ mz) (Q := Q) k2 hq hdx hne ((RDs.cons k1' .nil).append (hd H2)) (k5 q) (n := 1 + 1 + dd.length) (by rw [List.length_append]; show 1 + (1 + dd.length) = _; omega) fun C fs M' z dd gs H' e1 e2 e3 st => LX.of (rs.mono k3) st e1 e2 e3 z
  obtain ⟨ds', M', Q0, E1, z1, z2, z3, z4, z5, z6⟩ := z
  exact ⟨ds', M', Q0, E1, z1, z2, z3, z4, fun d M2 a v H2 b c st => let ⟨y1, y2⟩ := z5 d M2 a v H2 b c st; ⟨y1, y2.stay k3⟩, z6⟩
/-! slices go ahead of subscripts -/
instance (priority := 4000) {e : Expr} {p2 : Pos} {lo hi : Option Expr} : Step (WE X ρ M (.Subscript e (.Slice lo hi none p2) pos) Q) true (WE X ρ M e fun x M1 => WO X ρ M1 lo fun l M2 => WO X ρ M2 hi fun u M3 => SlD X.K x l u M3 Q) := ⟨fun _ => we_slice⟩
end
end G
namespace G
open PySem PySem.Spec PyProof.Rows L2
/-! ### a value's class as the library sees it -/
/-- a class of the text, with what isinstance asks of it -/
structure InsC (K : Fg) (C : Addr) : Prop where
  cl : Cls K C
  ha : PySem.W.findIn K (.ref C) "__class__" = some (some (.builtin "object.__class__"))
  hn : PySem.W.specialIn K (.builtin "object.__class__") "__get__" = some (some (.builtin "getset_descriptor.__get__"))
  ht : PySem.W.takesIn K (.builtin "object.__class__") = some true
  hm : PySem.W.mroIn K C (.type "object") = some true
class InsI (K : Fg) (C : Addr) : Prop where
  h : InsC K C
def KtV (K : Fg) (H : Hp) (x : V) (t : Value) : Prop := TyX K H x t ∨ (t = .type "dict" ∧ ∃ w p o xs, x = .ref p ∧ H p = some (DnO w p o xs))
theorem ktv_of {X : Cx} {pins : List (Addr × Obj)} {σ : L2.St} {H : Hp} {s : Shared} {x : V} {u t : Value} (I : Inv X pins σ H s) (rx : RelV x u) (ty : KtV X.K H x t) : ∃ P : Heap → Prop, PySem.W.KitX X.K u t P ∧ P s.heap ∧ u ≠ .builtin "__main__.__loader__#opaque" := by
  rcases ty with ty | ⟨rfl, w, p, o, xs, rfl, e⟩
  · exact kit_of I rx ty
  · cases (show u = Value.ref p from rx)
    obtain ⟨_, pd⟩ : s.heap.get? p = some o ∧ PDict w s.heap p xs := (I.hok p _ e).1
    obtain ⟨o', h1, h2⟩ := pd.ty
    exact ⟨_, PySem.W.kitx_dict, ⟨o', h1, h2⟩, fun z => nomatch z⟩
class KtD (K : Fg) (M : Mm) (d : DV) (t : outParam Value) : Prop where
  h : ∀ v H, RD K H d v → RM K H M → KtV K H v t
instance {K : Fg} {M : Mm} {d : DV} {a : String} [T : TyD M d a] : KtD K M d (.type a) := ⟨fun v H r m => .inl (T.h K v H r m)⟩
instance {K : Fg} {M : Mm} {w : World} {p : Addr} {i : Nat} {o : Obj} {kvs : List (DV × DV)} [A : AtM M i p (.dn w o kvs)] : KtD K M (.ref p) (.type "dict") := ⟨fun v H r m => by
  cases r
  obtain ⟨xs, e, _⟩ := m.at A.ix
  exact .inr ⟨rfl, w, p, o, xs, rfl, e⟩⟩
instance {K : Fg} {M : Mm} {p C : Addr} {i : Nat} {fs : List (Str × DV)} [A : AtM M i p (.ins C fs)] [T : InsI K C] : KtD K M (.ref p) (.ref C) := ⟨fun v H r m => by
  cases r
  obtain ⟨dx, gs, e, _⟩ := m.at A.ix
  exact .inl (.base (.ins e T.h.cl T.h.ha T.h.hn T.h.ht T.h.hm))⟩
/-! ### isinstance(x, C), C a class of the text -/
def rIsK (K : Fg) : List V → Hp → VK → Prop := fun xs H Q => ∃ (x c : V) (t u : Value) (b : Bool), xs = [x, c] ∧ ClsV c u ∧ KtV K H x t ∧ PySem.W.kitOne K t u = some b ∧ Q (.bl b) H
theorem call_isK {X : Cx} : CallR X (.builtin "isinstance") (rIsK X.K) := by
  intro pins s σ H xs us Q I r h
  obtain ⟨x, c, t, u, b, rfl, k, ty, e, q⟩ := h
  obtain ⟨u1, u2, rfl, r1, r2⟩ := vals2 r
  have e2 := k.eq r2
  subst e2
  obtain ⟨P, Z, p, hx⟩ := ktv_of I r1 ty
  exact PySem.W.kia_one Z I.kIn p e hx fun tk => ⟨.bl b, H, I.tok tk, rfl, q⟩
def rIs10 (K : Fg) : List V → Hp → VK → Prop := fun vs H Q => rIs9 K vs H Q ∨ rIsK K vs H Q
theorem mon_is10 {K : Fg} : MonC (rIs10 K) := fun xs H Q Q' z q => z.elim (fun z => .inl (mon_is9 _ _ _ _ z q)) fun ⟨a, b, c, d, f, g, h, i, j, k⟩ => .inr ⟨a, b, c, d, f, g, h, i, j, q _ _ k⟩
/-- kitOne of a type and a class -/
class KitT (K : Fg) (t : Value) (C : Addr) (b : outParam Bool) : Prop where
  h : PySem.W.kitOne K t (.ref C) = some b
section
variable {X : Cy} {P : Program} {w : World} {K : Fg} {mg : Str → Option Value} {base : Heap} {sc : Scope} {N L C Gs Bs : List Str} {k j n i : Nat} {ρ : Ro} {M : Mm} {Q : DV → Mm → Prop} {R : Bool → Mm → Prop} {E : EX} {pos p : Pos} {x : Str} {e e2 a b : Expr} {sp : SpX} {Cc : Addr} {d d' : DV} {ds : List DV} {σ : L2.St} {H H0 : Hp} {pins : List (Addr × Obj)} {s : Shared}
instance (priority := 3500) [F : Fx X P w K mg base sc N L C Gs Bs k] [m : MemC "isinstance" Gs] [m2 : MemC "isinstance" Bs] : Step (WE X ρ M (.Call (.Name (Str.ofString "isinstance") p) [e, e2] [] pos) Q) (noStars [e, e2]) (WA X ρ M [e, e2] fun ds M1 => CD X.K (rIs10 X.K) ds M1 Q) := ⟨fun h z => by
  exact we_blt F (fun pins s σ H xs us Q I r z => z.elim (fun z => z.elim (fun z => call_isX pins s σ H xs us Q I r z) fun z => call_isi pins s σ H xs us Q I r z) fun z => call_isK pins s σ H xs us Q I r z) mon_is10 (by decide +kernel) m.h m2.h h z⟩
instance {t : Value} {Cd : Addr} {b : Bool} [T : KtD K M d t] [T2 : KitT K t Cd b] : Step (CD K (rIs10 K) [d, .ref Cd] M Q) true (Q (.bl b) M) := ⟨fun _ q vs H r m => by
  cases r with
  | cons r1 r =>
    cases r with
    | cons r2 r =>
      cases r; cases r2
      exact .inr ⟨_, .ref Cd, t, .ref Cd, b, rfl, .own Cd, T.h _ _ r1 m, T2.h, .bl b, M, .bl b, m, Stay.refl, q⟩⟩
instance (priority := low) : Step (CD K (rIs10 K) ds M Q) true (CD K (rIs9 K) ds M Q) := ⟨fun _ z vs H r m => .inl (z vs H r m)⟩
/-! ### own == -/
/-- y's class does not go ahead of C -/
def NfT (K : Fg) (M : Mm) (C : Addr) (y : DV) : Prop := ∃ t, (∀ v H, RD K H y v → RM K H M → KtV K H v t) ∧ PySem.W.notFirst K C t = true
class NfD (K : Fg) (M : Mm) (C : Addr) (y : DV) : Prop where
  h : NfT K M C y
def bty (a : String) (C : Addr) : Bool := (PySem.fastBuiltinMro a).any fun l => !l.contains (Value.ref C)
theorem nf_ty {K : Fg} {C : Addr} {a : String} (h : bty a C = true) : PySem.W.notFirst K C (.type a) = true := by
  unfold bty at h
  show (Value.type a == Value.ref C || ((PySem.fastBuiltinMro a).map (·.contains (Value.ref C)) == some false)) = true
  cases q : PySem.fastBuiltinMro a with
  | none => rw [q] at h; cases h
  | some l =>
    rw [q] at h
    simp only [Option.any_some, Bool.not_eq_true'] at h
    show (Value.type a == Value.ref C || (some (l.contains (Value.ref C)) == some false)) = true
    rw [h]
    simp
class BtyD (a : String) : Prop where
  h : ∀ C, bty a C = true
instance : BtyD "NoneType" := ⟨fun C => by kernel_rfl⟩
instance : BtyD "bool" := ⟨fun C => by kernel_rfl⟩
instance : BtyD "int" := ⟨fun C => by kernel_rfl⟩
instance : BtyD "str" := ⟨fun C => by kernel_rfl⟩
instance : BtyD "tuple" := ⟨fun C => by kernel_rfl⟩
instance : BtyD "list" := ⟨fun C => by kernel_rfl⟩
instance : BtyD "dict" := ⟨fun C => by kernel_rfl⟩
instance {a : String} [T : KtD K M d (.type a)] [B : BtyD a] : NfD K M Cc d := ⟨⟨.type a, T.h, nf_ty (B.h Cc)⟩⟩
instance {p : Addr} {fs : List (Str × DV)} [A : AtM M i p (.ins Cc fs)] [T : InsI K Cc] : NfD K M Cc (.ref p) := ⟨⟨.ref Cc, (inferInstance : KtD K M (.ref p) (.ref Cc)).h, by simp [PySem.W.notFirst]⟩⟩
end
end G
namespace G
open PySem PySem.Spec PyProof.Rows L2
/-! ### x == y and x != y by an own __eq__ -/
section
variable {prog : Program} {w : World} {A : Around} {E : Value → Shared → Prop} {s : Shared} {K : PySem.W.Frag} {x C L f : Addr} {h₀ : Heap} {m : Str → Option Value} {ox : Obj} {od : Option Obj} {b tb : Value}
open PySem.W Builtin in
theorem objNe_K (X : K.In s.heap) (I : InstAt s.heap x ox C od) (hu : A.units < cLine) (hs : findIn K (.ref C) "__eq__" = some (some (.ref f))) (hf : isFn K (.ref f) = true) {Q : Fin → Shared → Prop}
    (h : wpAny (model prog w) A (call (.ref f) [.ref x, b]) (fun v s' => ∃ t, v = .bool t ∧ Q (.done (.ret (.bool (!t)))) s') E s) : wpAny (model prog w) A (Builtin.«object.__ne__» ⟨[.ref x, b], []⟩) Q E s := by
  obtain ⟨hp, g, d, t, os⟩ := s
  unfold Builtin.«object.__ne__»
  repeat (first
    | with_reducible refine wpAny_cRoomFor hu ?_
    | (refine wpAny_bind (m := callSpecialIfBound? (.ref x) (Str.ofString "__eq__") [b])
        (ifBound_K X I hs hf (wpAny_mono h (fun r s' hr => by
          obtain ⟨b, rfl, hq⟩ := hr
          repeat (first | exact hq | exact wpAny_pure hq | exact wpAny_truthy_bool hq | (refine wpAny_bind (m := truthy (.bool _)) (wpAny_truthy_bool ?_)) | wp_step)) fun _ _ e => e)))
    | wp_step)
open PySem.W in
theorem ne_K {Q : Value → Shared → Prop} (hu : A.units + 1 < cLine) (F : Fr h₀ L s.heap m) (X₀ : K.In h₀) (I : InstAt s.heap x ox C od) (hb : Looks (model prog w) s.heap (typeOf b) tb) (hn : notFirst K C tb = true)
    (hs : findIn K (.ref C) "__eq__" = some (some (.ref f))) (hf : isFn K (.ref f) = true) (hne : findIn K (.ref C) "__ne__" = some (some (.builtin "object.__ne__"))) (ho : mroIn K C (.type "object") = some true)
    (h : wpAny (model prog w) A.in1 (call (.ref f) [.ref x, b]) (fun v s' => ∃ t, v = .bool t ∧ Q (.bool (!t)) s') E s) : wpAny (model prog w) A (richCompare .NotEq (.ref x) b) Q E s := by
  have X := X₀.keeps F.keep
  have S := PySem.F.cmp_object.ne
  have one : wpAny (model prog w) A (tryCompare (.ref x) "__ne__" b) (fun r s' => ∃ v, r = some v ∧ Q v s') E s := by
    unfold tryCompare
    refine wpAny_bind ?_
    simp only [callSpecialIfBound?, bindSpecialIfBound?]
    refine wpAny_holding (wpAny_bind (wpAny_bind (wpAny_bind (I.type.here ((looks_findIn X hne).here ?_)))))
    simp only [S.bind]
    have inst : Looks (model prog w) s.heap (isInstance (.ref x) (.type "object")) true := I.type.andThen (looks_mroIn X ho)
    have go : wpAny (model prog w) A (call (.builtin "object.__ne__") ([.ref x] ++ [b])) (fun v s' => v ≠ .notImplemented ∧ Q v s') E s := by
      refine wpAny_call (codeAny_call_builtin S.plain PySem.F.cmpEntry_ne (check_slot PySem.F.cmpKind_ne PySem.F.cmpSplit_ne inst (PySem.F.cmpArgs_ne _ _) ?_))
      refine objNe_K (A := A.in1) X I hu hs hf (wpAny_mono h (fun v s' z => ?_) fun _ _ z => z)
      obtain ⟨t, e, q⟩ := z
      exact ⟨t, e, (fun z => nomatch z), q⟩
    have fin : wpAny (model prog w) A (call (.builtin "object.__ne__") ([.ref x] ++ [b]) >>= fun v => pure (some v)) (fun o s' => wpAny (model prog w) A (match o with | some .notImplemented | none => pure none | some v => pure (some v)) (fun r s' => ∃ v, r = some v ∧ Q v s') E s') E s := wpAny_bind (wpAny_mono go (fun v s' z => wpAny_pure (by
      obtain ⟨z1, z2⟩ := z
      cases v <;> first | exact absurd rfl z1 | exact wpAny_pure ⟨_, rfl, z2⟩)) fun _ _ z => z)
    refine wpAny_bind (wpAny_askSetting (wpAny_ite ?_))
    split
    · exact wpAny_bind (wpAny_pure (wpAny_pure fin))
    · exact wpAny_tryCatch (wpAny_bind (wpAny_pure (wpAny_pure fin)))
  unfold richCompare
  simp only [oneThing_ref]
  refine wpAny_holding (wpAny_bind (wpAny_cRoomFor (Nat.lt_of_succ_lt hu) ?_))
  refine wpAny_bind (I.type.here (wpAny_bind (hb.here ?_)))
  split
  · rename_i q
    have e : subIn K tb (.ref C) = some false := by
      rcases Bool.or_eq_true_iff.mp hn with e | e
      · rw [beq_iff_eq.mp e] at q; simp at q
      · exact beq_iff_eq.mp e
    refine wpAny_bind ((looks_subIn X e).here ?_)
    simp only [Bool.false_eq_true, if_false]
    refine wpAny_bind (wpAny_mono one (fun r s' z => ?_) fun _ _ e => e)
    obtain ⟨v, rfl, hq⟩ := z
    exact wpAny_pure hq
  · refine wpAny_bind (wpAny_pure ?_)
    simp only [Bool.false_eq_true, if_false]
    refine wpAny_bind (wpAny_mono one (fun r s' z => ?_) fun _ _ e => e)
    obtain ⟨v, rfl, hq⟩ := z
    exact wpAny_pure hq
end
end G
namespace G
open PySem PySem.Spec PyProof.Rows L2
/-! ### == of two dicts with plain keys -/
section
variable {prog : Program} {w : World} {A : Around} {E : Value → Shared → Prop} {s : Shared}
inductive PHits (A : Around) (s : Shared) (ys : List PEnt) : List PEnt → Bool → Prop
  | nil : PHits A s ys [] true
  | miss {x : PEnt} {r : List PEnt} : pix ys x.1 = none → PHits A s ys (x :: r) false
  | hit {x y : PEnt} {j : Nat} {r : List PEnt} {e b : Bool} : pix ys x.1 = some j → ys[j]? = some y → SeqAt.EqAt A s x.2.2 y.2.2 e → PHits A s ys r b → PHits A s ys (x :: r) (e && b)
theorem PHits.inv {ys : List PEnt} {x : PEnt} {r : List PEnt} {b : Bool} (h : PHits A s ys (x :: r) b) :
    (pix ys x.1 = none ∧ b = false) ∨ ∃ j y e b', pix ys x.1 = some j ∧ ys[j]? = some y ∧ SeqAt.EqAt A s x.2.2 y.2.2 e ∧ PHits A s ys r b' ∧ b = (e && b') := by
  cases h with
  | miss hn => exact .inl ⟨hn, rfl⟩
  | hit hj hy he hr => exact .inr ⟨_, _, _, _, hj, hy, he, hr, rfl⟩
theorem peq_same {nm : String} {a b : Addr} {xs ys : List PEnt} {r : Bool} {Q : Bool → Shared → Prop} (hu : A.units + 8 < cLine) (da : PDict w s.heap a xs) (db : PDict w s.heap b ys) (ka : AllK s.heap xs) (kb : AllK s.heap ys) (hits : xs.length = ys.length → PHits A s ys xs r) (h : Q (xs.length == ys.length && r) s) :
    wpAny (model prog w) A (Builtin.Dict.samePairs nm a b) Q E s := by
  obtain ⟨ha, _, nda, oa, es, ep, hoa, _, hda, hea⟩ := da
  obtain ⟨hb, _, ndb, ob, es', ep', hob, _, hdb, heb⟩ := db
  have hla : xs.length = es.size := (ent_size hea).symm
  have hlb : ys.length = es'.size := (ent_size heb).symm
  rw [hla, hlb] at h
  unfold Builtin.Dict.samePairs Builtin.Dict.showsAll
  rw [if_neg (show ¬ (a == sysModules) = true by rw [ha]; exact Bool.false_ne_true), if_neg (show ¬ (b == sysModules) = true by rw [hb]; exact Bool.false_ne_true)]
  refine wpAny_bind (wpAny_pure (wpAny_bind (wpAny_pure ?_)))
  refine wpAny_bind (wpAny_dictEntries hoa hda ?_)
  dsimp only
  refine wpAny_bind (wpAny_dictEntries hob hdb ?_)
  by_cases hsz : es.size = es'.size
  case neg =>
    rw [if_pos (by simpa using hsz)]
    have hbf : (es.size == es'.size) = false := by simpa using hsz
    rw [hbf, Bool.false_and] at h
    exact wpAny_bind (wpAny_rule (wpAny_pure h))
  case pos =>
    have h' : Q r s := by simpa [hsz] using h
    have hits' := hits (by rw [hla, hlb]; exact hsz)
    rw [if_neg (by rw [hsz]; simp)]
    refine wpAny_bind (wpAny_dictEpoch hoa hda ?_)
    refine wpAny_bind ?_
    rw [Std.Legacy.Range.forIn_eq_forIn_range']
    simp only [Std.Legacy.Range.size, Nat.sub_zero, Nat.add_sub_cancel, Nat.div_one]
    refine wpAny_forIn_list _
      (fun rest q s' => s' = s ∧ q = (none, ()) ∧ ∃ i, rest = List.range' i (es.size - i) ∧ i ≤ es.size ∧ PHits A s ys (xs.drop i) r)
      _ ?_ ?_ _ _ ⟨rfl, rfl, 0, by simp, Nat.zero_le _, hits'⟩
    · rintro x rest q s' ⟨rfl, rfl, i, hr, hi, hpre⟩
      have hlt : i < es.size := by
        rcases Nat.lt_or_ge i es.size with h | h
        · exact h
        · rw [Nat.sub_eq_zero_of_le h] at hr; simp at hr
      obtain ⟨rfl, hrest⟩ : x = i ∧ rest = List.range' (i + 1) (es.size - (i + 1)) := by
        have e : es.size - i = (es.size - (i + 1)) + 1 := by omega
        rw [e, List.range'_succ] at hr
        injection hr with h1 h2
        exact ⟨h1, h2⟩
      refine wpAny_bind (wpAny_dictEntries hoa hda ?_)
      have hlt' : x < xs.length := by rw [hla]; exact hlt
      rw [ent_at hea x, List.getElem?_eq_getElem hlt']
      have hdrop : xs.drop x = xs[x] :: xs.drop (x + 1) := List.drop_eq_getElem_cons hlt'
      rw [hdrop] at hpre
      have hk := ka xs[x] (List.getElem_mem hlt')
      refine wpAny_bind (wpAny_holding (wpAny_bind (find_keys (k := xs[x].1) hu hk hob hdb heb kb ndb ?_)))
      cases hj : pix ys xs[x].1 with
      | none =>
        rcases hpre.inv with ⟨_, er⟩ | ⟨j, _, _, _, hj', _⟩
        · rw [er] at h'
          refine wpAny_pure ?_
          show wpAny _ _ (if (!false) = true then _ else _) _ _ _
          rw [if_pos (by decide)]
          exact wpAny_pure (wpAny_pure h')
        · rw [hj] at hj'; exact nomatch hj'
      | some j =>
        rcases hpre.inv with ⟨hn, _⟩ | ⟨j', y, e, b', hj', hy, he, hrr, er⟩
        · rw [hj] at hn; exact nomatch hn
        · rw [hj] at hj'
          cases hj'
          refine wpAny_bind (wpAny_dictEntries hob hdb ?_)
          rw [ent_at heb j, hy]
          refine wpAny_holding (he prog w _ _ ?_)
          cases e with
          | false =>
            rw [er, Bool.false_and] at h'
            show wpAny _ _ (if (!false) = true then _ else _) _ _ _
            rw [if_pos (by decide)]
            exact wpAny_pure (wpAny_pure h')
          | true =>
            rw [Bool.true_and] at er
            rw [← er] at hrr
            show wpAny _ _ (if (!true) = true then _ else _) _ _ _
            rw [if_neg (by decide)]
            refine wpAny_bind (wpAny_dictEpoch hoa hda ?_)
            rw [if_neg (by simp)]
            exact wpAny_pure ⟨rfl, rfl, x + 1, hrest, hlt, hrr⟩
    · rintro q s' ⟨rfl, rfl, i, hr, hi, hpre⟩
      have hin : i = es.size := by
        rcases Nat.lt_or_ge i es.size with h | h
        · have e : es.size - i = (es.size - (i + 1)) + 1 := by omega
          rw [e, List.range'_succ] at hr; exact nomatch hr
        · exact Nat.le_antisymm hi h
      refine wpAny_pure ?_
      rw [hin, ← hla, List.drop_length] at hpre
      cases hpre
      exact h'
theorem peq_eq {a b : Addr} {xs ys : List PEnt} {r : Bool} {Q : Value → Shared → Prop} (hu : A.units + 9 < cLine) (da : PDict w s.heap a xs) (db : PDict w s.heap b ys) (ka : AllK s.heap xs) (kb : AllK s.heap ys) (hits : xs.length = ys.length → PHits A.in1 s ys xs r) (h : Q (.bool (xs.length == ys.length && r)) s) :
    wpAny (model prog w) A (compareOp .Eq (.ref a) (.ref b)) Q E s := by
  refine wpAny_richCompare_same_room (op := .Eq) da.ty db.ty PySem.F.slot_dict_eq (wpAny_call_entry PySem.F.slot_dict_eq da.ty PySem.F.entry_dict_eq ?_ (PySem.F.args_dict_eq_2 _ _)) (by omega)
  show wpAny _ _ (Builtin.Dict.dictSlotArgs "__eq__" ⟨[.ref a, .ref b], []⟩ >>= _) _ _ s
  refine wpAny_bind ?_
  unfold Builtin.Dict.dictSlotArgs
  refine wpAny_bind (wpAny_notOrdered_dict da.ty ?_)
  show wpAny _ _ (pure (Value.ref a, Value.ref b)) _ _ s
  refine wpAny_pure ?_
  refine wpAny_bind (wpAny_isInstance (T := "dict") db.ty PySem.F.sub_dict_dict ?_)
  simp only [Bool.not_true, Bool.false_eq_true, if_false]
  refine wpAny_bind (wpAny_pure (wpAny_bind (wpAny_pure ?_)))
  refine wpAny_bind (peq_same (A := A.in1) (by show A.units + 1 + 8 < cLine; omega) da db ka kb hits ?_)
  refine wpAny_pure ⟨_, rfl, ?_, ?_⟩
  · exact fun x => nomatch x
  · simpa using h
end
end G
namespace G
open PySem PySem.Spec PyProof.Rows L2
/-- what == tells of two such dicts -/
def eqN (f : DV → PyData) (a b : List (DV × DV)) : Bool := a.length == b.length && a.all fun x => match (nkD x.1).bind (kget b) with | none => false | some v => PyData.eqv (f x.2) (f v)
theorem eqN_cons {f : DV → PyData} {b : List (DV × DV)} : ∀ {a : List (DV × DV)} {x : DV × DV}, (x :: a).all (fun x => match (nkD x.1).bind (kget b) with | none => false | some v => PyData.eqv (f x.2) (f v)) = ((match (nkD x.1).bind (kget b) with | none => false | some v => PyData.eqv (f x.2) (f v)) && a.all fun x => match (nkD x.1).bind (kget b) with | none => false | some v => PyData.eqv (f x.2) (f v)) := fun {a x} => by rw [List.all_cons]
/-- the values are data -/
def ValsN (K : Fg) (H : Hp) (f : DV → PyData) (kvs : List (DV × DV)) : Prop := ∀ x ∈ kvs, SeqAt.shaped (f x.2) = true ∧ ∀ v, RD K H x.2 v → Dp K H v (f x.2)
def rEqN (w : World) (K : Fg) : R2 := fun x y H Q => ∃ p q o o' kvs kvs' xs ys f, x = .ref p ∧ y = .ref q ∧ H p = some (DnO w p o xs) ∧ H q = some (DnO w q o' ys) ∧ RKs K H kvs xs ∧ RKs K H kvs' ys ∧ ValsN K H f kvs ∧ ValsN K H f kvs' ∧ Q (.bl (eqN f kvs kvs')) H
theorem phits {X : Cx} {pins : List (Addr × Obj)} {σ : L2.St} {H : Hp} {s : Shared} {A : Around} {f : DV → PyData} {kvs' : List (DV × DV)} {ys : List PEnt} (I : Inv X pins σ H s) (hu : A.units + 64 < cLine) (ry : RKs X.K H kvs' ys) (vy : ValsN X.K H f kvs') :
    ∀ {kvs : List (DV × DV)} {xs : List PEnt}, RKs X.K H kvs xs → ValsN X.K H f kvs → PHits A s ys xs (kvs.all fun x => match (nkD x.1).bind (kget kvs') with | none => false | some v => PyData.eqv (f x.2) (f v))
  | _, _, .nil, _ => .nil
  | _, _, @RKs.cons _ _ kd vd k ku vu kv vv fs xs h1 h2 h3 h4 h5 h6 t, hv => by
    have ih := phits I hu ry vy t fun x hx => hv x (List.mem_cons_of_mem _ hx)
    obtain ⟨s1, d1⟩ := hv _ List.mem_cons_self
    have e1 : (nkD kd).bind (kget kvs') = kget kvs' k := by rw [h1]; rfl
    rw [eqN_cons]
    show PHits A s ys _ ((match (nkD kd).bind (kget kvs') with | none => false | some v => PyData.eqv (f vd) (f v)) && _)
    rw [e1]
    cases hk : pix ys k with
    | none =>
      have e2 : kget kvs' k = none := by unfold kget; rw [← ry.ix, hk]; rfl
      rw [e2]
      exact .miss hk
    | some j =>
      have hk' := hk
      rw [ry.ix] at hk'
      obtain ⟨y, hy, _⟩ := pix_at hk
      have hl : j < kvs'.length := by rw [ry.len]; exact (List.getElem?_eq_some_iff.mp hy).1
      obtain ⟨kd', vd'⟩ : DV × DV := kvs'[j]
      have hj : kvs'[j]? = some kvs'[j] := List.getElem?_eq_getElem hl
      obtain ⟨k2, ku2, vu2, kv2, vv2, g1, g2, g3, g4, g5, g6, g7⟩ := ry.at_ (kd := kvs'[j].1) (vd := kvs'[j].2) hj
      have e2 : kget kvs' k = some kvs'[j].2 := by unfold kget; rw [hk']; show (kvs'[j]?).map (·.2) = _; rw [hj]; rfl
      rw [e2]
      obtain ⟨s2, d2⟩ := vy _ (List.mem_of_getElem? hj)
      obtain ⟨as, q1⟩ := Dp.reads I _ _ _ (d1 _ h5) h6
      obtain ⟨bs, q2⟩ := Dp.reads I _ _ _ (d2 _ g6) g7
      exact .hit hk g1 (SeqAt.eqAt_reads _ _ A s _ _ as bs q1 q2 (SeqAt.canLay_of_shaped s1) (SeqAt.canLay_of_shaped s2) (SeqAt.room_of_shaped s1 hu)) ih
section
variable {X : Cy} {P : Program} {w : World} {K : Fg} {mg : Str → Option Value} {base : Heap} {sc : Scope} {N L C Gs Bs : List Str} {k j n i : Nat} {ρ : Ro} {M : Mm} {Q : DV → Mm → Prop} {R : Bool → Mm → Prop} {E : EX} {pos p : Pos} {x : Str} {e e2 a b : Expr} {sp : SpX} {Cc : Addr} {d d' : DV} {ds : List DV} {σ : L2.St} {H H0 : Hp} {pins : List (Addr × Obj)} {s : Shared}
theorem op_eqN (F : Fx X P w K mg base sc N L C Gs Bs k) : OpR X.toCx (compareOp .Eq) (rEqN w X.K) := fun pins s σ H x y v u Q I rx ry ⟨p, q, o, o', kvs, kvs', xs, ys, f, e1, e2, h1, h2, r1, r2, v1, v2, z⟩ => by
  subst e1 e2
  obtain rfl : v = Value.ref p := rx
  obtain rfl : u = Value.ref q := ry
  have hu := F.room.un
  have d1 := (dn_of I h1).2
  have d2 := (dn_of I h2).2
  have ew := F.hw
  refine peq_eq (by omega) (by rw [F.hw]; exact d1) (by rw [F.hw]; exact d2) (r1.all I) (r2.all I) (fun _ => phits I (by show X.A.units + 1 + 64 < cLine; omega) r2 v2 r1 v1) ?_
  rw [← r1.len, ← r2.len]
  exact ⟨.bl _, H, I, rfl, z⟩
theorem mon_eqN : MonR (rEqN w K) := fun x y H Q Q' ⟨p, q, o, o', kvs, kvs', xs, ys, f, e1, e2, h1, h2, r1, r2, v1, v2, z⟩ g => ⟨p, q, o, o', kvs, kvs', xs, ys, f, e1, e2, h1, h2, r1, r2, v1, v2, g _ _ z⟩
def rEq8 (w : World) (K : Fg) : R2 := fun x y H Q => rEq3 K x y H Q ∨ rEqN w K x y H Q
theorem op_eq8 (F : Fx X P w K mg base sc N L C Gs Bs k) : OpR X.toCx (compareOp .Eq) (rEq8 w X.K) := (op_eq.or (op_eqD F.room.units)).or (op_eqN F)
theorem mon_eq8 : MonR (rEq8 w K) := mon_eq.or mon_eqN
theorem v_eq_dn {p q : Addr} {o o' : Obj} {kvs kvs' : List (DV × DV)} (f : DV → PyData) (A : AtM M i p (.dn w o kvs)) (B : AtM M j q (.dn w o' kvs')) (h1 : ∀ x ∈ kvs, Pd M x.2 (f x.2) ∧ SeqAt.shaped (f x.2) = true) (h2 : ∀ x ∈ kvs', Pd M x.2 (f x.2) ∧ SeqAt.shaped (f x.2) = true) (z : Q (.bl (eqN f kvs kvs')) M) : R2D K (rEq8 w K) (.ref p) (.ref q) M Q := fun vx vy H r1 r2 m => by
  cases r1; cases r2
  obtain ⟨xs, g1, g2⟩ := m.at A.ix
  obtain ⟨ys, g3, g4⟩ := m.at B.ix
  exact .inr ⟨p, q, o, o', kvs, kvs', xs, ys, f, rfl, rfl, g1, g3, g2, g4, fun x hx => ⟨(h1 x hx).2, fun v r => (h1 x hx).1.dp m r⟩, fun x hx => ⟨(h2 x hx).2, fun v r => (h2 x hx).1.dp m r⟩, .bl _, M, .bl _, m, Stay.refl, z⟩
theorem v_eq_8 {x y : DV} (z : R2D K (rEq3 K) x y M Q) : R2D K (rEq8 w K) x y M Q := R2D.l z
/-! x == y, x != y -/
/-- a class whose != is that of all objects -/
class NeC (K : Fg) (C : Addr) : Prop where
  ne : PySem.W.findIn K (.ref C) "__ne__" = some (some (.builtin "object.__ne__"))
  ob : PySem.W.mroIn K C (.type "object") = some true
def DunC (P : Program) (w : World) (K : Fg) (mg : Str → Option Value) (base : Heap) (k : Nat) (E : EX) (ρ : Ro) (Cc : Addr) (m : Str) (x : DV) (ds : List DV) (M : Mm) (Q : DV → Mm → Prop) : Prop :=
  ∃ a i fs j n sp, x = .ref a ∧ AtM M i a (.ins Cc fs) ∧ McalX P w K mg base Cc m j n sp ∧ j + 4 ≤ k ∧ ds.length + 1 = n ∧ sp (.ref a :: ds) M Q (fun C fs M' => E C fs ρ M')
theorem dunc_run {m : Str} (F : Fx X P w K mg base sc N L C Gs Bs k) (T : Tk X E) (I : Inv X.toCx pins σ H s) (rs : RS X H ρ σ) (rm : RM X.K H M) (st0 : Stay X.K H0 H) (z : DunC P w X.K mg base k E ρ Cc m d ds M Q) :
    ∃ aa f, d = .ref aa ∧ InsAt X.K s aa Cc f m ∧ ∀ (A : Around) (us : List Value) (vs : List V), A.frames = X.A.frames → Room (k - 4) A → RDs X.K H ds vs → Vals vs us → wpAny (model X.prog X.w) A (call (.ref f) (.ref aa :: us)) (EP X.toCx pins σ (LE X.K H0 Q)) X.xe s := by
  obtain ⟨aa, i, fs, j, n, sp, e1, hA, G, hj, hn, h⟩ := z
  obtain ⟨f, fd, ps, G1, hm, hb, hfn⟩ := G.ex
  obtain ⟨dx, gs, q1, q2⟩ := rm.at hA.ix
  have eP := F.hP; have ew := F.hw; have eg := F.hmg; have eb := F.hbase
  subst eP ew eg eb
  refine ⟨aa, f, e1, ⟨ins_at I q1, hm.at_, hm.fn, hfn, G.nsq⟩, fun A us vs hf hr rd r => ?_⟩
  exact near_run (us := .ref aa :: us) (vs := .ref aa :: vs) G1 (hr.mono (by omega)) hf hb (passAt T.tk σ) I (.cons rfl r) (sp_at rs rm st0 (.cons (.ref aa) rd) (by rw [List.length_cons]; exact hn) h)
def EqO (P : Program) (w : World) (K : Fg) (mg : Str → Option Value) (base : Heap) (k : Nat) (E : EX) (ρ : Ro) (neg : Bool) (x y : DV) (M : Mm) (Q : DV → Mm → Prop) : Prop :=
  R2D K (if neg then rNe7 w K else rEq8 w K) x y M Q ∨ ∃ Cc, NfT K M Cc y ∧ (neg = true → NeC K Cc) ∧ DunC P w K mg base k E ρ Cc "__eq__" x [y] M (fun d M' => ∃ t, d = .bl t ∧ Q (.bl (if neg then !t else t)) M')
theorem eq_run {x y : DV} {vx vy : V} {v u : Value} {neg : Bool} (F : Fx X P w K mg base sc N L C Gs Bs k) (T : Tk X E) (I : Inv X.toCx pins σ H s) (rs : RS X H ρ σ) (rm : RM X.K H M) (st0 : Stay X.K H0 H) (rx : RelV vx v) (ry : RelV vy u) (dx : RD X.K H x vx) (dy : RD X.K H y vy)
    (z : EqO P w X.K mg base k E ρ neg x y M Q) : wpAny (model X.prog X.w) X.A (compareOp (if neg then .NotEq else .Eq) v u) (EP X.toCx pins σ (LE X.K H0 Q)) X.xe s := by
  have hu := F.room.un
  rcases z with z | ⟨Cc, ⟨t, ht, hn⟩, hne, z⟩
  · have h : wpAny (model X.prog X.w) X.A (compareOp (if neg then .NotEq else .Eq) v u) (EP X.toCx pins σ (LE X.K H Q)) X.xe s := by
      cases neg with
      | true => exact op_ne7 F pins s σ H vx vy v u _ I rx ry (z vx vy H dx dy rm)
      | false => exact op_eq8 F pins s σ H vx vy v u _ I rx ry (z vx vy H dx dy rm)
    exact thn h fun r s3 ⟨v3, H3, I3, r3, q3⟩ => ⟨v3, H3, I3, r3, q3.stay st0⟩
  · obtain ⟨aa, f, e1, D, run⟩ := dunc_run F T I rs rm st0 z
    subst e1
    obtain ⟨P0, Z, p0, _⟩ := ktv_of I ry (ht vy H dy rm)
    cases dx
    cases rx
    obtain ⟨od, dx', J⟩ := D.at_
    obtain ⟨mm, hF⟩ := I.fr
    obtain ⟨_, _, _, _, _, _, _, _, _, hk, _⟩ := z
    have hb := Z.ty (model X.prog X.w) s.heap I.kIn p0
    cases neg with
    | true =>
      have N := hne rfl
      refine ne_K (by omega) hF I.ok.mod.kin J hb hn D.find D.fn N.ne N.ob (thn (run X.A.in1 [u] [vy] rfl (Room.in1 (F.room.mono (by omega))) (.cons dy .nil) (.cons ry .nil)) fun r s3 ⟨v3, H3, I3, r3, d3, M3, a1, a2, a3, t, e2, q⟩ => ?_)
      subst e2; cases a1; cases r3
      exact ⟨t, rfl, .bl (!t), H3, I3, rfl, .bl (!t), M3, .bl _, a2, a3, q⟩
    | false =>
      refine PySem.W.cmp_K (op := .Eq) (by omega) hF I.ok.mod.kin J hb hn D.find D.fn (thn (run X.A [u] [vy] rfl (F.room.mono (by omega)) (.cons dy .nil) (.cons ry .nil)) fun r s3 ⟨v3, H3, I3, r3, d3, M3, a1, a2, a3, t, e2, q⟩ => ?_)
      subst e2; cases a1; cases r3
      exact ⟨.bl t, H3, I3, rfl, .bl t, M3, .bl _, a2, a3, q⟩
theorem we_eqO {neg : Bool} (F : Fx X P w K mg base sc N L C Gs Bs k) (T : Tk X E) (h : WE X ρ M a fun x M1 => WE X ρ M1 b fun y M2 => EqO P w X.K mg base k E ρ neg x y M2 Q) : WE X ρ M (.Compare a [if neg then .NotEq else .Eq] [b] pos) Q := fun σ H rs m pins s I => by
  refine wpAny_Compare1 (thn (h σ H rs m pins s I) fun v s1 ⟨vx, H1, I1, rx, x, M1, a1, a2, a3, a4⟩ => ?_) (by cases neg <;> exact nomark _)
  refine thn (a4 σ H1 (rs.mono a3) a2 pins s1 I1) fun u s2 ⟨vy, H2, I2, ry, y, M2, b1, b2, b3, z⟩ => ?_
  exact eq_run F T I2 ((rs.mono a3).mono b3) b2 (a3.trans b3) rx ry (a1.mono b3) b1 z
theorem wt_eqO {neg : Bool} (F : Fx X P w K mg base sc N L C Gs Bs k) (T : Tk X E) (h : WE X ρ M a fun x M1 => WE X ρ M1 b fun y M2 => EqO P w X.K mg base k E ρ neg x y M2 (QB R)) : WT X ρ M (.Compare a [if neg then .NotEq else .Eq] [b] pos) R := fun σ H rs m pins s I => by
  refine wpAny_isTrue_Compare1 (thn (h σ H rs m pins s I) fun v s1 ⟨vx, H1, I1, rx, x, M1, a1, a2, a3, a4⟩ => ?_) (by cases neg <;> exact nomark _)
  refine thn (a4 σ H1 (rs.mono a3) a2 pins s1 I1) fun u s2 ⟨vy, H2, I2, ry, y, M2, b1, b2, b3, z⟩ => ?_
  refine thn (eq_run F T I2 ((rs.mono a3).mono b3) b2 (a3.trans b3) rx ry (a1.mono b3) b1 z) fun c s3 ⟨v3, H3, I3, r3, d3, M3, c1, c2, c3, t, e1, q⟩ => ?_
  subst e1; cases c1; cases r3
  exact wpAny_truthy_bool ⟨H3, I3, M3, c2, c3, q⟩
instance (priority := 3700) [F : Fx X P w K mg base sc N L C Gs Bs k] [T : Tk X E] : Step (WE X ρ M (.Compare a [.Eq] [b] pos) Q) true (WE X ρ M a fun x M1 => WE X ρ M1 b fun y M2 => EqO P w K mg base k E ρ false x y M2 Q) := ⟨fun _ q => by have e0 := F.hK; subst e0; exact we_eqO (neg := false) F T q⟩
instance (priority := 3700) [F : Fx X P w K mg base sc N L C Gs Bs k] [T : Tk X E] : Step (WE X ρ M (.Compare a [.NotEq] [b] pos) Q) true (WE X ρ M a fun x M1 => WE X ρ M1 b fun y M2 => EqO P w K mg base k E ρ true x y M2 Q) := ⟨fun _ q => by have e0 := F.hK; subst e0; exact we_eqO (neg := true) F T q⟩
instance (priority := 3700) [F : Fx X P w K mg base sc N L C Gs Bs k] [T : Tk X E] : Step (WT X ρ M (.Compare a [.Eq] [b] pos) R) true (WE X ρ M a fun x M1 => WE X ρ M1 b fun y M2 => EqO P w K mg base k E ρ false x y M2 (QB R)) := ⟨fun _ q => by have e0 := F.hK; subst e0; exact wt_eqO (neg := false) F T q⟩
instance (priority := 3700) [F : Fx X P w K mg base sc N L C Gs Bs k] [T : Tk X E] : Step (WT X ρ M (.Compare a [.NotEq] [b] pos) R) true (WE X ρ M a fun x M1 => WE X ρ M1 b fun y M2 => EqO P w K mg base k E ρ true x y M2 (QB R)) := ⟨fun _ q => by have e0 := F.hK; subst e0; exact wt_eqO (neg := true) F T q⟩
instance {aa : Addr} {fs : List (Str × DV)} {y : DV} [A : AtM M i aa (.ins Cc fs)] [G : McalX P w K mg base Cc "__eq__" j n sp] [Nf : NfD K M Cc y] : Step (EqO P w K mg base k E ρ false (.ref aa) y M Q) (Nat.ble (j + 4) k && Nat.beq 2 n) (sp [.ref aa, y] M (fun d M' => ∃ t, d = .bl t ∧ Q (.bl t) M') (fun C fs M' => E C fs ρ M')) := ⟨fun h q => by
  rw [Bool.and_eq_true] at h
  exact .inr ⟨Cc, Nf.h, (fun z => nomatch z), aa, i, fs, j, n, sp, rfl, A, G, Nat.le_of_ble_eq_true h.1, Nat.eq_of_beq_eq_true h.2, q⟩⟩
instance {aa : Addr} {fs : List (Str × DV)} {y : DV} [A : AtM M i aa (.ins Cc fs)] [G : McalX P w K mg base Cc "__eq__" j n sp] [Nf : NfD K M Cc y] [Ne : NeC K Cc] : Step (EqO P w K mg base k E ρ true (.ref aa) y M Q) (Nat.ble (j + 4) k && Nat.beq 2 n) (sp [.ref aa, y] M (fun d M' => ∃ t, d = .bl t ∧ Q (.bl (!t)) M') (fun C fs M' => E C fs ρ M')) := ⟨fun h q => by
  rw [Bool.and_eq_true] at h
  exact .inr ⟨Cc, Nf.h, (fun _ => Ne), aa, i, fs, j, n, sp, rfl, A, G, Nat.le_of_ble_eq_true h.1, Nat.eq_of_beq_eq_true h.2, q⟩⟩
instance (priority := low) {x y : DV} : Step (EqO P w K mg base k E ρ false x y M Q) true (R2D K (rEq3 K) x y M Q) := ⟨fun _ q => .inl (R2D.l q)⟩
instance (priority := low) {x y : DV} : Step (EqO P w K mg base k E ρ true x y M Q) true (R2D K (rNe7 w K) x y M Q) := ⟨fun _ q => .inl q⟩
instance {p q : Addr} {o o' : Obj} {kvs kvs' : List (DV × DV)} [A : AtM M i p (.dn w o kvs)] [B : AtM M j q (.dn w o' kvs')] : Step (EqO P w K mg base k E ρ false (.ref p) (.ref q) M Q) true (R2D K (rEq8 w K) (.ref p) (.ref q) M Q) := ⟨fun _ q => .inl q⟩
end
end G
namespace G
open PySem PySem.Spec PyProof.Rows L2
/-! ### x[::-1], x a list or a tuple -/
section
variable {X : Cy} {ρ : Ro} {M : Mm} {Q : DV → Mm → Prop} {e : Expr} {pos p1 p2 p3 : Pos} {k i : Nat}
theorem we_revL (h : WE X ρ M e fun x M1 => ∃ a i ds, x = .ref a ∧ AtM M1 i a (.lst ds) ∧ ∀ p, Q (.ref p) ((p, .lst ds.reverse) :: M1)) : WE X ρ M (.Subscript e (.Slice none none (some (.UnaryOp .USub (.Constant (.int 1) k p1) p2)) p3) pos) Q := fun σ H rs m pins s I => by
  refine Subscript_ (thn (h σ H rs m pins s I) fun v s1 ⟨x, H1, I1, r1, d, M1, a1, a2, a3, a, i, ds, e1, hA, q⟩ => ?_)
  subst e1
  cases a1
  obtain rfl : v = Value.ref a := r1
  have hst : PO X.toCx (some (.UnaryOp .USub (.Constant (.int 1) k p1) p2)) (tPart (tUn (rU fun i => .int (-i)) (tC (.int 1)))) := po_some (pe_un un_neg pe_int)
  refine wpAny_Slice (thn (po_none.run pins s1 σ H1 (fun o H2 => o = none ∧ H2 = H1) I1 ⟨rfl, rfl⟩) fun vl s2 ⟨l, H2, I2, pl, el, e2⟩ => ?_)
  subst el e2
  refine thn (po_none.run pins s2 σ H2 (fun o H3 => o = none ∧ H3 = H2) I2 ⟨rfl, rfl⟩) fun vu s3 ⟨u, H3, I3, pu, eu, e3⟩ => ?_
  subst eu e3
  refine thn (hst.run pins s3 σ H3 (fun o H4 => o = some (-1) ∧ H4 = H3) I3 ⟨1, rfl, -1, rfl, rfl, rfl⟩) fun vs s4 ⟨o, H4, I4, ps, eo, e4⟩ => ?_
  subst eo e4
  have I5 : Inv X.toCx pins σ H4 { s4 with heap := s4.heap.push { cls := .type "slice", data := .fields #[vl, vu, vs] } } := I4.kept (t' := s4.toks) fun b ob q => Heap.get?_push_of_some _ q
  obtain ⟨xs, hx, rd⟩ := a2.at hA.ix
  obtain ⟨its, n, r, ho, hz⟩ := I5.lst hx
  have hl : Heap.IsList _ a its.toArray := ⟨_, ho, rfl, n, rfl⟩
  have hlen := r.length
  show wpAny (model X.prog X.w) X.A (subscriptTail e (.Slice none none (some (.UnaryOp .USub (.Constant (.int 1) k p1) p2)) p3) (.ref a) (.ref s4.heap.objs.size)) (EP X.toCx pins σ _) X.xe { s4 with heap := s4.heap.push { cls := .type "slice", data := .fields #[vl, vu, vs] } }
  refine tail_any (ops := [.ref a, .ref s4.heap.objs.size]) hl.typeIs (slot_list_getitem.lookup) ?_ (by with_unfolding_all rfl)
  refine wpAny_getItem_list_slice hl (Heap.IsSliceOf.new _ vl vu vs) pl pu ps (by simp) ?_ (by rw [List.size_toArray]; omega)
  rw [PySem.W.krv_pick]
  have hf := I5.hok.fresh (Nat.le_refl _)
  refine ⟨.ref _, _, I5.laid (t' := s4.toks) (o := .lst xs.reverse) (fun b ob q => Heap.get?_push_of_some _ q) (Nat.le_refl _) ?_, rfl, .ref _, _, .ref _, a2.cons hf ?_, a3.trans (Stay.new hf), q _⟩
  · exact ⟨by rw [List.length_reverse]; exact hz, its.reverse, 0, r.reverse, Heap.get?_push_size _ rfl⟩
  · exact ⟨_, upd_same, rd.reverse.mono (Stay.new hf)⟩
def RevX (x : DV) (M : Mm) (Q : DV → Mm → Prop) : Prop := ∃ a i ds, x = .ref a ∧ AtM M i a (.lst ds) ∧ ∀ p, Q (.ref p) ((p, .lst ds.reverse) :: M)
instance (priority := 4500) : Step (WE X ρ M (.Subscript e (.Slice none none (some (.UnaryOp .USub (.Constant (.int 1) k p1) p2)) p3) pos) Q) true (WE X ρ M e fun x M1 => RevX x M1 Q) := ⟨fun _ q => we_revL q⟩
instance {a : Addr} {ds : List DV} [A : AtM M i a (.lst ds)] : Step (RevX (.ref a) M Q) true (∀ p, Q (.ref p) ((p, .lst ds.reverse) :: M)) := ⟨fun _ q => ⟨a, i, ds, rfl, A, q⟩⟩
end
end G
namespace G
open PySem L2
-- conditions
local macro_rules | `(tactic| walk_at "c") => `(tactic| first | exact rfl | decide | exact Nat.le_of_ble_eq_true rfl | assumption | omega | exact ⟨by decide, by decide⟩ | exact ⟨by decide, by decide, by decide⟩ | exact cdiv_of (by first | assumption | omega) (by first | assumption | omega) | exact Or.inl (Or.inl ⟨by decide, by decide⟩) | exact Or.inl (Or.inr ⟨by decide, by decide⟩) | exact Or.inl (Or.inl ⟨by omega, by omega⟩) | exact Or.inl (Or.inr ⟨by omega, by omega⟩) | exact ⟨_, _, _, rfl, inferInstance⟩ | exact ⟨_, _, _, _, rfl, inferInstance⟩ | exact ⟨_, rfl⟩)
local macro_rules | `(tactic| walk_at "1") => `(tactic| first | (refine Step.h ?g0 ?_; exact rfl) | (refine Side.mk (by walk_at "c") ?_) | (refine ModD.gz (by walk_at "c") ?_) | with_reducible intro _)
local macro_rules | `(tactic| walk_at "go") => `(tactic| repeat walk_at "1")
local macro_rules | `(tactic| walk_at "sub") => `(tactic| first | exact List.Sublist.refl _ | (refine List.Sublist.cons₂ _ ?_; walk_at "sub") | (refine List.Sublist.cons _ ?_; walk_at "sub") | exact List.nil_sublist _)
local macro_rules | `(tactic| walk_at "body") => `(tactic| ((conv in (defBody _) => whnf); dsimp only [ini]))
local macro_rules | `(tactic| walk_at "if") => `(tactic| first | refine And.intro (fun _ => ?_) (fun z => absurd rfl (of_decide_eq_false z)) | refine And.intro (fun z => absurd (of_decide_eq_true z) (by omega)) (fun _ => ?_) | refine And.intro (fun _ => ?_) (fun z => absurd (of_decide_eq_false z) (by omega)))
local macro_rules | `(tactic| walk_at "gi") => `(tactic| repeat (first | walk_at "1" | walk_at "if"))
local macro_rules | `(tactic| walk_at "gs") => `(tactic| repeat (first | walk_at "1" | walk_at "if" | simp only [List.set_cons_succ, List.set_cons_zero, List.set_set]))
local macro_rules | `(tactic| walk_at "ifd") => `(tactic| first | refine And.intro (fun z => absurd z (by decide)) (fun _ => ?_) | refine And.intro (fun _ => ?_) (fun z => absurd z (by decide)) | refine And.intro (fun z => absurd z (by simp)) (fun _ => ?_) | refine And.intro (fun _ => ?_) (fun z => absurd z (by simp)))
local macro_rules | `(tactic| walk_at "gj") => `(tactic| repeat (first | walk_at "1" | walk_at "if" | walk_at "ifd"))
mutual
def sizeD : DV → Nat
  | .tup ds => 1 + sizeDs ds
  | .lis _ => 1
  | .non => 1
  | .bl _ => 1
  | .int _ => 1
  | .str _ => 1
  | .ty _ => 1
  | .ref _ => 1
  | .tupA _ _ => 1
  | .lam _ _ => 1
  | .clo _ _ => 1
def sizeDs : List DV → Nat
  | [] => 0
  | d :: ds => sizeD d + sizeDs ds
end
mutual
/-- what is_plain tells of a value with so much room -/
def plainD : DV → Nat → Bool
  | .tup [], _ => true
  | .tup (_ :: _), 0 => false
  | .tup (d :: ds), r + 1 => plainD d r && plainDs ds r
  | .non, _ => true
  | .int _, _ => true
  | .str _, _ => true
  | _, _ => false
def plainDs : List DV → Nat → Bool
  | [], _ => true
  | d :: ds, r => plainD d r && plainDs ds r
end
theorem plain_tup {ds : List DV} {r : Nat} : plainD (.tup ds) (r + 1) = plainDs ds r := by
  cases ds with
  | nil => rw [plainD, plainDs]
  | cons d ds => rw [plainD, plainDs]
theorem plainDs_all {ds : List DV} {r : Nat} : plainDs ds r = ds.all fun d => plainD d r := by
  induction ds with
  | nil => rw [plainDs]; rfl
  | cons d ds ih => rw [plainDs, ih]; rfl
/-- a value of which is_plain can tell all -/
inductive Knp (K : Fg) (M : Mm) : DV → Prop
  | non : Knp K M .non
  | bl (b : Bool) : Knp K M (.bl b)
  | int (i : Int) : Knp K M (.int i)
  | str (x : Str) : Knp K M (.str x)
  | tup {ds : List DV} : (∀ d ∈ ds, Knp K M d) → Knp K M (.tup ds)
  | ref {p : Addr} : OddR K M p → Knp K M (.ref p)
theorem Knp.less {K : Fg} {M0 M : Mm} (s : M0.Sublist M) {d : DV} (h : Knp K M0 d) : Knp K M d := by
  induction h with
  | non => exact .non
  | bl b => exact .bl b
  | int i => exact .int i
  | str x => exact .str x
  | tup _ ih => exact .tup ih
  | ref h => exact .ref (h.less s)
theorem Knp.kn {K : Fg} {M : Mm} {d : DV} (h : Knp K M d) : Kn K M d := by
  induction h with
  | non => exact .non
  | bl b => exact .bl b
  | int i => exact .int i
  | str x => exact .str x
  | tup _ ih => exact .tup ih
  | ref h => exact .ref h
/-! plain values as keys and as data -/
mutual
theorem plain_nk : ∀ (d : DV) (r : Nat), plainD d r = true → ∃ k, nkD d = some k ∧ k.depth ≤ r + 1
  | .non, r, _ => ⟨_, by rw [nkD], by rw [NestedKey.depth]; omega⟩
  | .int i, r, _ => ⟨_, by rw [nkD], by rw [NestedKey.depth]; omega⟩
  | .str x, r, _ => ⟨_, by rw [nkD], by rw [NestedKey.depth]; omega⟩
  | .tup [], r, _ => ⟨.tup [], by rw [nkD, nkDs]; rfl, by rw [NestedKey.depth, NestedKey.depthAll]; omega⟩
  | .tup (d :: ds), 0, h => by rw [plainD] at h; cases h
  | .tup (d :: ds), r + 1, h => by
    rw [plain_tup] at h
    obtain ⟨ks, h1, h2⟩ := plains_nk (d :: ds) r h
    exact ⟨.tup ks, by rw [nkD, h1]; rfl, by rw [NestedKey.depth]; omega⟩
  | .bl b, r, h => by simp [plainD] at h
  | .lis _, r, h => by simp [plainD] at h
  | .ty _, r, h => by simp [plainD] at h
  | .ref _, r, h => by simp [plainD] at h
  | .tupA _ _, r, h => by simp [plainD] at h
  | .lam _ _, r, h => by simp [plainD] at h
  | .clo _ _, r, h => by simp [plainD] at h
theorem plains_nk : ∀ (ds : List DV) (r : Nat), plainDs ds r = true → ∃ ks, nkDs ds = some ks ∧ NestedKey.depthAll ks ≤ r + 1
  | [], r, _ => ⟨[], by rw [nkDs], by rw [NestedKey.depthAll]; omega⟩
  | d :: ds, r, h => by
    rw [plainDs, Bool.and_eq_true] at h
    obtain ⟨k, h1, h2⟩ := plain_nk d r h.1
    obtain ⟨ks, h3, h4⟩ := plains_nk ds r h.2
    exact ⟨k :: ks, by rw [nkDs, h1, h3], by rw [NestedKey.depthAll]; omega⟩
end
mutual
def pdD : DV → PyData
  | .bl b => .bool b
  | .int i => .int i
  | .str x => .str x
  | .tup ds => .tuple (pdDs ds)
  | .non => .none
  | .lis _ => .none
  | .ty _ => .none
  | .ref _ => .none
  | .tupA _ _ => .none
  | .lam _ _ => .none
  | .clo _ _ => .none
def pdDs : List DV → List PyData
  | [] => []
  | d :: ds => pdD d :: pdDs ds
end
mutual
theorem plain_pd : ∀ (M : Mm) (d : DV) (r : Nat), plainD d r = true → Pd M d (pdD d) ∧ (pdD d).depth ≤ r + 2
  | M, .non, r, _ => ⟨by rw [pdD]; exact .non, by rw [pdD, PyData.depth] <;> omega⟩
  | M, .int i, r, _ => ⟨by rw [pdD]; exact .int i, by rw [pdD, PyData.depth] <;> omega⟩
  | M, .str x, r, _ => ⟨by rw [pdD]; exact .str x, by rw [pdD, PyData.depth] <;> omega⟩
  | M, .tup [], r, _ => ⟨by rw [pdD, pdDs]; exact .tup .nil, by rw [pdD, pdDs, PyData.depth, PyData.depthAll] <;> omega⟩
  | M, .tup (d :: ds), 0, h => by rw [plainD] at h; cases h
  | M, .tup (d :: ds), r + 1, h => by
    rw [plain_tup] at h
    obtain ⟨h1, h3⟩ := plains_pd M (d :: ds) r h
    exact ⟨by rw [pdD]; exact .tup h1, by rw [pdD, PyData.depth]; omega⟩
  | M, .bl b, r, h => by simp [plainD] at h
  | M, .lis _, r, h => by simp [plainD] at h
  | M, .ty _, r, h => by simp [plainD] at h
  | M, .ref _, r, h => by simp [plainD] at h
  | M, .tupA _ _, r, h => by simp [plainD] at h
  | M, .lam _ _, r, h => by simp [plainD] at h
  | M, .clo _ _, r, h => by simp [plainD] at h
theorem plains_pd : ∀ (M : Mm) (ds : List DV) (r : Nat), plainDs ds r = true → Pds M ds (pdDs ds) ∧ PyData.depthAll (pdDs ds) ≤ r + 2
  | M, [], r, _ => ⟨by rw [pdDs]; exact .nil, by rw [pdDs, PyData.depthAll]; omega⟩
  | M, d :: ds, r, h => by
    rw [plainDs, Bool.and_eq_true] at h
    obtain ⟨h1, h3⟩ := plain_pd M d r h.1
    obtain ⟨h4, h6⟩ := plains_pd M ds r h.2
    exact ⟨by rw [pdDs]; exact .cons h1 h4, by rw [pdDs, PyData.depthAll]; omega⟩
end
def isB : DV → Bool
  | .bl _ => true
  | _ => false
/-- a value of a grid -/
def fitD (d : DV) : Bool := isB d || plainD d 4
/-- a value that may be compared -/
def layD (d : DV) : Bool := (pdD d).canLay0
theorem fit_pd (M : Mm) {d : DV} (h : fitD d = true) (hl : layD d = true) : Pd M d (pdD d) ∧ SeqAt.shaped (pdD d) = true := by
  unfold fitD at h
  rw [Bool.or_eq_true] at h
  rcases h with h | h
  · cases d <;> first | exact Bool.noConfusion h | skip
    rename_i b
    exact ⟨by rw [pdD]; exact .bl b, by rw [pdD]; cases b <;> decide⟩
  · obtain ⟨h1, h3⟩ := plain_pd M d 4 h
    refine ⟨h1, ?_⟩
    unfold SeqAt.shaped
    rw [Bool.and_eq_true]
    exact ⟨hl, decide_eq_true (by omega)⟩
/-- == of values of grids -/
def eqD (a b : DV) : Bool := PyData.eqv (pdD a) (pdD b)
theorem eqD_self {d : DV} (hl : layD d = true) : eqD d d = true := PySem.SeqAt.eqv_refl _ hl
/-- what is wrong with a thing as a place -/
def badP : DV → Option DV
  | .tup [x, y] => if plainD x 4 then (if plainD y 4 then none else some y) else some x
  | d => some d
/-- a place's key -/
def keyP (d : DV) : NK := (nkD d).getD .none
theorem good_place {d : DV} (h : badP d = none) : ∃ x y kx ky, d = .tup [x, y] ∧ plainD x 4 = true ∧ plainD y 4 = true ∧ nkD x = some kx ∧ kx.depth ≤ 5 ∧ nkD y = some ky ∧ ky.depth ≤ 5 ∧ keyP d = .tup [kx, ky] ∧ nkD d = some (.tup [kx, ky]) ∧ (NestedKey.tup [kx, ky]).depth ≤ 6 := by
  unfold badP at h
  split at h
  · rename_i x y
    by_cases h1 : plainD x 4 = true
    · rw [if_pos h1] at h
      by_cases h2 : plainD y 4 = true
      · obtain ⟨kx, a1, a2⟩ := plain_nk x 4 h1
        obtain ⟨ky, b1, b2⟩ := plain_nk y 4 h2
        have e : nkD (.tup [x, y]) = some (.tup [kx, ky]) := by rw [nkD, nkDs, nkDs, nkDs, a1, b1]; rfl
        exact ⟨x, y, kx, ky, rfl, h1, h2, a1, a2, b1, b2, by unfold keyP; rw [e]; rfl, e, by rw [NestedKey.depth, NestedKey.depthAll, NestedKey.depthAll, NestedKey.depthAll]; omega⟩
      · rw [if_neg h2] at h; cases h
    · rw [if_neg h1] at h; cases h
  · cases h
def top (i : Nat) : Stmt := PySem.Challenge.pw_kindgrove_k06_equal_grids.main.body.getD i (.Pass ⟨0, 0, 0, 0⟩)
-- _wall(k)
abbrev s__wall : Stmt := top 0
abbrev n__wall : List Str := ["k"]
theorem sc__wall : FnScope n__wall ["k"] (defScope s__wall) := ⟨rfl, rfl, rfl, by decide +kernel, rfl, by decide +kernel, by decide +kernel⟩
theorem st__wall : stat (defScope s__wall) n__wall ["k"] [] [] = true := by decide +kernel
-- class GroveError: top 2
-- class BadValue: top 3
-- BadValue.__init__(self, value)
abbrev s_BadValue__init__ : Stmt := inClass (top 3) 0
abbrev n_BadValue__init__ : List Str := ["self", "value"]
theorem sc_BadValue__init__ : FnScope n_BadValue__init__ ["self", "value"] (defScope s_BadValue__init__) := ⟨rfl, rfl, rfl, by decide +kernel, rfl, by decide +kernel, by decide +kernel⟩
theorem st_BadValue__init__ : stat (defScope s_BadValue__init__) n_BadValue__init__ ["self", "value"] [] [] = true := by decide +kernel
-- is_integer(thing)
abbrev s_is_integer : Stmt := top 6
abbrev n_is_integer : List Str := ["thing"]
theorem sc_is_integer : FnScope n_is_integer ["thing"] (defScope s_is_integer) := ⟨rfl, rfl, rfl, by decide +kernel, rfl, by decide +kernel, by decide +kernel⟩
theorem st_is_integer : stat (defScope s_is_integer) n_is_integer ["thing"] [] ["isinstance", "int", "bool"] = true := by decide +kernel
-- is_plain(thing)
abbrev s_is_plain : Stmt := top 7
abbrev n_is_plain : List Str := ["thing", "waiting", "one", "room", "part"]
theorem sc_is_plain : FnScope n_is_plain ["thing"] (defScope s_is_plain) := ⟨rfl, rfl, rfl, by decide +kernel, rfl, by decide +kernel, by decide +kernel⟩
theorem st_is_plain : stat (defScope s_is_plain) n_is_plain ["thing", "waiting", "one"] ["room"] ["MOST_DEEP", "len", "isinstance", "tuple", "is_integer", "str"] = true := by decide +kernel
-- comp line 22: own ['part'] at [4]; (ms := [false, false, false, true, false]) (L' := ["part"]) (C' := []) (Gs' := [])
-- want_plain(thing)
abbrev s_want_plain : Stmt := top 8
abbrev n_want_plain : List Str := ["thing"]
theorem sc_want_plain : FnScope n_want_plain ["thing"] (defScope s_want_plain) := ⟨rfl, rfl, rfl, by decide +kernel, rfl, by decide +kernel, by decide +kernel⟩
theorem st_want_plain : stat (defScope s_want_plain) n_want_plain ["thing"] [] ["is_plain", "BadValue"] = true := by decide +kernel
-- ordered(things)
abbrev s_ordered : Stmt := top 9
abbrev n_ordered : List Str := ["things", "it"]
theorem sc_ordered : FnScope n_ordered ["things"] (defScope s_ordered) := ⟨rfl, rfl, rfl, by decide +kernel, rfl, by decide +kernel, by decide +kernel⟩
theorem st_ordered : stat (defScope s_ordered) n_ordered ["things"] [] ["sorted", "list"] = true := by decide +kernel
-- lambda line 31: params ['it'] at [1]; (ms := [false, false]) (Gs' := ["repr"])
-- is_place(thing)
abbrev s_is_place : Stmt := top 11
abbrev n_is_place : List Str := ["thing"]
theorem sc_is_place : FnScope n_is_place ["thing"] (defScope s_is_place) := ⟨rfl, rfl, rfl, by decide +kernel, rfl, by decide +kernel, by decide +kernel⟩
theorem st_is_place : stat (defScope s_is_place) n_is_place ["thing"] [] ["isinstance", "tuple", "len", "is_plain"] = true := by decide +kernel
-- want_place(thing)
abbrev s_want_place : Stmt := top 12
abbrev n_want_place : List Str := ["thing"]
theorem sc_want_place : FnScope n_want_place ["thing"] (defScope s_want_place) := ⟨rfl, rfl, rfl, by decide +kernel, rfl, by decide +kernel, by decide +kernel⟩
theorem st_want_place : stat (defScope s_want_place) n_want_place ["thing"] [] ["isinstance", "tuple", "len", "BadValue", "want_plain"] = true := by decide +kernel
-- all_places(one, other)
abbrev s_all_places : Stmt := top 13
abbrev n_all_places : List Str := ["one", "other"]
theorem sc_all_places : FnScope n_all_places ["one", "other"] (defScope s_all_places) := ⟨rfl, rfl, rfl, by decide +kernel, rfl, by decide +kernel, by decide +kernel⟩
theorem st_all_places : stat (defScope s_all_places) n_all_places ["one", "other"] [] ["ordered"] = true := by decide +kernel
-- grid_of(default, cells)
abbrev s_grid_of : Stmt := top 14
abbrev n_grid_of : List Str := ["default", "cells", "place"]
theorem sc_grid_of : FnScope n_grid_of ["default", "cells"] (defScope s_grid_of) := ⟨rfl, rfl, rfl, by decide +kernel, rfl, by decide +kernel, by decide +kernel⟩
theorem st_grid_of : stat (defScope s_grid_of) n_grid_of [] ["default", "cells"] ["Grid"] = true := by decide +kernel
-- comp line 43: own ['place'] at [2]; (ms := [true, true, false]) (L' := ["place"]) (C' := []) (Gs' := [])
-- class Grid: top 15
-- Grid.__init__(self, default, cells)
abbrev s_Grid__init__ : Stmt := inClass (top 15) 0
abbrev n_Grid__init__ : List Str := ["self", "default", "cells"]
theorem sc_Grid__init__ : FnScope n_Grid__init__ ["self", "default", "cells"] (defScope s_Grid__init__) := ⟨rfl, rfl, rfl, by decide +kernel, rfl, by decide +kernel, by decide +kernel⟩
theorem st_Grid__init__ : stat (defScope s_Grid__init__) n_Grid__init__ ["self", "default", "cells"] [] ["isinstance", "bool", "want_plain"] = true := by decide +kernel
-- Grid.__setitem__(self, at, worth)
abbrev s_Grid__setitem__ : Stmt := inClass (top 15) 1
abbrev n_Grid__setitem__ : List Str := ["self", "at", "worth"]
theorem sc_Grid__setitem__ : FnScope n_Grid__setitem__ ["self", "at", "worth"] (defScope s_Grid__setitem__) := ⟨rfl, rfl, rfl, by decide +kernel, rfl, by decide +kernel, by decide +kernel⟩
theorem st_Grid__setitem__ : stat (defScope s_Grid__setitem__) n_Grid__setitem__ ["self", "at", "worth"] [] ["want_place", "isinstance", "bool", "BadValue", "want_plain"] = true := by decide +kernel
-- Grid.__getitem__(self, at)
abbrev s_Grid__getitem__ : Stmt := inClass (top 15) 2
abbrev n_Grid__getitem__ : List Str := ["self", "at"]
theorem sc_Grid__getitem__ : FnScope n_Grid__getitem__ ["self", "at"] (defScope s_Grid__getitem__) := ⟨rfl, rfl, rfl, by decide +kernel, rfl, by decide +kernel, by decide +kernel⟩
theorem st_Grid__getitem__ : stat (defScope s_Grid__getitem__) n_Grid__getitem__ ["self", "at"] [] ["want_place"] = true := by decide +kernel
-- Grid.__iter__(self)
abbrev s_Grid__iter__ : Stmt := inClass (top 15) 3
abbrev n_Grid__iter__ : List Str := ["self"]
theorem sc_Grid__iter__ : FnScope n_Grid__iter__ ["self"] (defScope s_Grid__iter__) := ⟨rfl, rfl, rfl, by decide +kernel, rfl, by decide +kernel, by decide +kernel⟩
theorem st_Grid__iter__ : stat (defScope s_Grid__iter__) n_Grid__iter__ ["self"] [] ["TypeError"] = true := by decide +kernel
-- Grid.__call__(self, one, other)
abbrev s_Grid__call__ : Stmt := inClass (top 15) 4
abbrev n_Grid__call__ : List Str := ["self", "one", "other"]
theorem sc_Grid__call__ : FnScope n_Grid__call__ ["self", "one", "other"] (defScope s_Grid__call__) := ⟨rfl, rfl, rfl, by decide +kernel, rfl, by decide +kernel, by decide +kernel⟩
theorem st_Grid__call__ : stat (defScope s_Grid__call__) n_Grid__call__ ["self", "one", "other"] [] ["want_plain"] = true := by decide +kernel
-- Grid.__contains__(self, thing)
abbrev s_Grid__contains__ : Stmt := inClass (top 15) 5
abbrev n_Grid__contains__ : List Str := ["self", "thing"]
theorem sc_Grid__contains__ : FnScope n_Grid__contains__ ["self", "thing"] (defScope s_Grid__contains__) := ⟨rfl, rfl, rfl, by decide +kernel, rfl, by decide +kernel, by decide +kernel⟩
theorem st_Grid__contains__ : stat (defScope s_Grid__contains__) n_Grid__contains__ ["self", "thing"] [] ["is_place"] = true := by decide +kernel
-- Grid.__len__(self)
abbrev s_Grid__len__ : Stmt := inClass (top 15) 6
abbrev n_Grid__len__ : List Str := ["self"]
theorem sc_Grid__len__ : FnScope n_Grid__len__ ["self"] (defScope s_Grid__len__) := ⟨rfl, rfl, rfl, by decide +kernel, rfl, by decide +kernel, by decide +kernel⟩
theorem st_Grid__len__ : stat (defScope s_Grid__len__) n_Grid__len__ ["self"] [] ["len"] = true := by decide +kernel
-- Grid.__bool__(self)
abbrev s_Grid__bool__ : Stmt := inClass (top 15) 7
abbrev n_Grid__bool__ : List Str := ["self"]
theorem sc_Grid__bool__ : FnScope n_Grid__bool__ ["self"] (defScope s_Grid__bool__) := ⟨rfl, rfl, rfl, by decide +kernel, rfl, by decide +kernel, by decide +kernel⟩
theorem st_Grid__bool__ : stat (defScope s_Grid__bool__) n_Grid__bool__ ["self"] [] ["len"] = true := by decide +kernel
-- Grid.__eq__(self, other)
abbrev s_Grid__eq__ : Stmt := inClass (top 15) 8
abbrev n_Grid__eq__ : List Str := ["self", "other"]
theorem sc_Grid__eq__ : FnScope n_Grid__eq__ ["self", "other"] (defScope s_Grid__eq__) := ⟨rfl, rfl, rfl, by decide +kernel, rfl, by decide +kernel, by decide +kernel⟩
theorem st_Grid__eq__ : stat (defScope s_Grid__eq__) n_Grid__eq__ ["self", "other"] [] ["isinstance", "Grid", "bool"] = true := by decide +kernel
-- Grid.__and__(self, other)
abbrev s_Grid__and__ : Stmt := inClass (top 15) 9
abbrev n_Grid__and__ : List Str := ["self", "other", "cells", "place"]
theorem sc_Grid__and__ : FnScope n_Grid__and__ ["self", "other"] (defScope s_Grid__and__) := ⟨rfl, rfl, rfl, by decide +kernel, rfl, by decide +kernel, by decide +kernel⟩
theorem st_Grid__and__ : stat (defScope s_Grid__and__) n_Grid__and__ ["self", "other", "cells", "place"] [] ["isinstance", "Grid", "NotImplemented", "all_places", "grid_of"] = true := by decide +kernel
-- Grid.__or__(self, other)
abbrev s_Grid__or__ : Stmt := inClass (top 15) 10
abbrev n_Grid__or__ : List Str := ["self", "other", "cells", "place"]
theorem sc_Grid__or__ : FnScope n_Grid__or__ ["self", "other"] (defScope s_Grid__or__) := ⟨rfl, rfl, rfl, by decide +kernel, rfl, by decide +kernel, by decide +kernel⟩
theorem st_Grid__or__ : stat (defScope s_Grid__or__) n_Grid__or__ ["self", "other", "cells", "place"] [] ["isinstance", "Grid", "NotImplemented", "all_places", "grid_of"] = true := by decide +kernel
-- Grid.__invert__(self)
abbrev s_Grid__invert__ : Stmt := inClass (top 15) 11
abbrev n_Grid__invert__ : List Str := ["self", "place"]
theorem sc_Grid__invert__ : FnScope n_Grid__invert__ ["self"] (defScope s_Grid__invert__) := ⟨rfl, rfl, rfl, by decide +kernel, rfl, by decide +kernel, by decide +kernel⟩
theorem st_Grid__invert__ : stat (defScope s_Grid__invert__) n_Grid__invert__ [] ["self"] ["grid_of", "ordered"] = true := by decide +kernel
-- comp line 106: own ['place'] at [1]; (ms := [true, false]) (L' := ["place"]) (C' := []) (Gs' := [])
-- Grid.__ior__(self, other)
abbrev s_Grid__ior__ : Stmt := inClass (top 15) 12
abbrev n_Grid__ior__ : List Str := ["self", "other", "made"]
theorem sc_Grid__ior__ : FnScope n_Grid__ior__ ["self", "other"] (defScope s_Grid__ior__) := ⟨rfl, rfl, rfl, by decide +kernel, rfl, by decide +kernel, by decide +kernel⟩
theorem st_Grid__ior__ : stat (defScope s_Grid__ior__) n_Grid__ior__ ["self", "other", "made"] [] ["isinstance", "Grid", "NotImplemented", "dict"] = true := by decide +kernel
-- Grid.places(self)
abbrev s_Grid_places : Stmt := inClass (top 15) 13
abbrev n_Grid_places : List Str := ["self"]
theorem sc_Grid_places : FnScope n_Grid_places ["self"] (defScope s_Grid_places) := ⟨rfl, rfl, rfl, by decide +kernel, rfl, by decide +kernel, by decide +kernel⟩
theorem st_Grid_places : stat (defScope s_Grid_places) n_Grid_places ["self"] [] ["list"] = true := by decide +kernel
-- Grid.under(self, other)
abbrev s_Grid_under : Stmt := inClass (top 15) 14
abbrev n_Grid_under : List Str := ["self", "other"]
theorem sc_Grid_under : FnScope n_Grid_under ["self", "other"] (defScope s_Grid_under) := ⟨rfl, rfl, rfl, by decide +kernel, rfl, by decide +kernel, by decide +kernel⟩
theorem st_Grid_under : stat (defScope s_Grid_under) n_Grid_under ["self", "other"] [] ["_wall"] = true := by decide +kernel
-- _law_well(_law_cell)
abbrev s_l_well : Stmt := top 17
abbrev n_l_well : List Str := ["_law_cell"]
theorem sc_l_well : FnScope n_l_well ["_law_cell"] (defScope s_l_well) := ⟨rfl, rfl, rfl, by decide +kernel, rfl, by decide +kernel, by decide +kernel⟩
theorem st_l_well : stat (defScope s_l_well) n_l_well ["_law_cell"] [] ["int"] = true := by decide +kernel
-- _law_draw(_law_well_here, _law_many)
abbrev s_l_draw : Stmt := top 18
abbrev n_l_draw : List Str := ["_law_well_here", "_law_many", "_law_digit", "_law_number", "_law_more"]
theorem sc_l_draw : FnScope n_l_draw ["_law_well_here", "_law_many"] (defScope s_l_draw) := ⟨rfl, rfl, rfl, by decide +kernel, rfl, by decide +kernel, by decide +kernel⟩
theorem st_l_draw : stat (defScope s_l_draw) n_l_draw ["_law_well_here", "_law_many", "_law_digit", "_law_number", "_law_more"] [] ["int"] = true := by decide +kernel
-- _law_one(_law_well_here, _law_some)
abbrev s_l_one : Stmt := top 19
abbrev n_l_one : List Str := ["_law_well_here", "_law_some"]
theorem sc_l_one : FnScope n_l_one ["_law_well_here", "_law_some"] (defScope s_l_one) := ⟨rfl, rfl, rfl, by decide +kernel, rfl, by decide +kernel, by decide +kernel⟩
theorem st_l_one : stat (defScope s_l_one) n_l_one ["_law_well_here", "_law_some"] [] ["_law_draw", "len"] = true := by decide +kernel
-- _law_marks(_law_well_here)
abbrev s_l_marks : Stmt := top 20
abbrev n_l_marks : List Str := ["_law_well_here", "_law_some"]
theorem sc_l_marks : FnScope n_l_marks ["_law_well_here"] (defScope s_l_marks) := ⟨rfl, rfl, rfl, by decide +kernel, rfl, by decide +kernel, by decide +kernel⟩
theorem st_l_marks : stat (defScope s_l_marks) n_l_marks ["_law_well_here", "_law_some"] [] ["_law_draw", "_law_one"] = true := by decide +kernel
-- _law_grid(_law_well_here, _law_many)
abbrev s_l_grid : Stmt := top 21
abbrev n_l_grid : List Str := ["_law_well_here", "_law_many", "_law_default", "_law_grid_here", "_law_cells", "_law_k", "_law_place", "_law_flag"]
theorem sc_l_grid : FnScope n_l_grid ["_law_well_here", "_law_many"] (defScope s_l_grid) := ⟨rfl, rfl, rfl, by decide +kernel, rfl, by decide +kernel, by decide +kernel⟩
theorem st_l_grid : stat (defScope s_l_grid) n_l_grid ["_law_well_here", "_law_many", "_law_default", "_law_grid_here", "_law_cells", "_law_k", "_law_place", "_law_flag"] [] ["_law_draw", "Grid", "range", "_law_marks"] = true := by decide +kernel
-- _law_again(_law_cells, _law_default, _law_places)
abbrev s_l_again : Stmt := top 22
abbrev n_l_again : List Str := ["_law_cells", "_law_default", "_law_places", "_law_grid_here", "_law_place"]
theorem sc_l_again : FnScope n_l_again ["_law_cells", "_law_default", "_law_places"] (defScope s_l_again) := ⟨rfl, rfl, rfl, by decide +kernel, rfl, by decide +kernel, by decide +kernel⟩
theorem st_l_again : stat (defScope s_l_again) n_l_again ["_law_cells", "_law_default", "_law_places", "_law_grid_here", "_law_place"] [] ["Grid"] = true := by decide +kernel
-- _law_right(_law_well_here)
abbrev s_l_right : Stmt := top 23
abbrev n_l_right : List Str := ["_law_well_here", "_law_grid_here", "_law_cells", "_law_default", "_law_other", "_law_place", "_law_thing"]
theorem sc_l_right : FnScope n_l_right ["_law_well_here"] (defScope s_l_right) := ⟨rfl, rfl, rfl, by decide +kernel, rfl, by decide +kernel, by decide +kernel⟩
theorem st_l_right : stat (defScope s_l_right) n_l_right ["_law_well_here", "_law_cells", "_law_default", "_law_other", "_law_place"] ["_law_grid_here"] ["_law_grid", "_law_draw", "_law_again", "list", "_law_marks", "Grid"] = true := by decide +kernel
-- comp line 169: own ['_law_thing'] at [6]; (ms := [false, true, false, false, false, false, false]) (L' := ["_law_thing"]) (C' := []) (Gs' := [])
-- law(_law_script)
abbrev s_law : Stmt := top 24
abbrev n_law : List Str := ["_law_script", "_law_cell", "_law_one_here", "_law_other", "_law_third"]
theorem sc_law : FnScope n_law ["_law_script"] (defScope s_law) := ⟨rfl, rfl, rfl, by decide +kernel, rfl, by decide +kernel, by decide +kernel⟩
theorem st_law : stat (defScope s_law) n_law ["_law_script", "_law_cell", "_law_one_here", "_law_other", "_law_third"] [] ["_law_right", "_law_well", "Grid"] = true := by decide +kernel
abbrev bs : List Str := ["NotImplemented", "TypeError", "bool", "dict", "int", "isinstance", "len", "list", "range", "repr", "sorted", "str", "tuple"]
structure Tx (K : Fg) (mg : Str → Option Value) (C_Grid C_BadValue : Addr) : Prop where
  bl : ∀ x ∈ bs, mg x = none
  gi_MOST_DEEP : GInt mg "MOST_DEEP" 4
  f_is_integer : FnT K mg "is_integer" s_is_integer ["thing"]
  f_is_plain : FnT K mg "is_plain" s_is_plain ["thing"]
  f_is_place : FnT K mg "is_place" s_is_place ["thing"]
  f_l_well : FnT K mg "_law_well" s_l_well ["_law_cell"]
  f_l_draw : FnT K mg "_law_draw" s_l_draw ["_law_well_here", "_law_many"]
  f_l_one : FnT K mg "_law_one" s_l_one ["_law_well_here", "_law_some"]
  f_l_marks : FnT K mg "_law_marks" s_l_marks ["_law_well_here"]
  f_l_grid : FnT K mg "_law_grid" s_l_grid ["_law_well_here", "_law_many"]
  f_l_again : FnT K mg "_law_again" s_l_again ["_law_cells", "_law_default", "_law_places"]
  f_l_right : FnT K mg "_law_right" s_l_right ["_law_well_here"]
  fx_want_plain : FnTX K mg "want_plain" s_want_plain ["thing"]
  fx_want_place : FnTX K mg "want_place" s_want_place ["thing"]
  mx_Grid___setitem__ : MtTX K C_Grid "__setitem__" "Grid.__setitem__" s_Grid__setitem__ ["self", "at", "worth"]
  mx_Grid___getitem__ : MtTX K C_Grid "__getitem__" "Grid.__getitem__" s_Grid__getitem__ ["self", "at"]
  mx_Grid___eq__ : MtTX K C_Grid "__eq__" "Grid.__eq__" s_Grid__eq__ ["self", "other"]
  mx_Grid___call__ : MtTX K C_Grid "__call__" "Grid.__call__" s_Grid__call__ ["self", "one", "other"]
  mr_Grid___call__ : MtTR K C_Grid "__call__" "Grid.__call__" s_Grid__call__ ["self", "one", "other"] ["other", "one"]
  mx_Grid___contains__ : MtTX K C_Grid "__contains__" "Grid.__contains__" s_Grid__contains__ ["self", "thing"]
  mx_Grid___len__ : MtTX K C_Grid "__len__" "Grid.__len__" s_Grid__len__ ["self"]
  mx_Grid___bool__ : MtTX K C_Grid "__bool__" "Grid.__bool__" s_Grid__bool__ ["self"]
  m_Grid_places : MtT K C_Grid "places" "Grid.places" s_Grid_places ["self"]
  mg_Grid : mg "Grid" = some (.ref C_Grid)
  cl_Grid : Cls K C_Grid
  mi_Grid_0 : MkT K mg "Grid" C_Grid "Grid.__init__" s_Grid__init__ ["self", "default", "cells"] [.bl false, .non]
  mi_Grid_1 : MkT K mg "Grid" C_Grid "Grid.__init__" s_Grid__init__ ["self", "default", "cells"] [.non]
  mi_Grid_2 : MkT K mg "Grid" C_Grid "Grid.__init__" s_Grid__init__ ["self", "default", "cells"] []
  md_Grid : MkTn K mg "Grid" ["default"] C_Grid "Grid.__init__" s_Grid__init__ ["self", "default", "cells"] [.non]
  fd_Grid_default : FldC K C_Grid "default"
  fd_Grid_cells : FldC K C_Grid "cells"
  ex_BadValue : ExT K mg "BadValue" "value" "BadValue.__init__" C_BadValue s_BadValue__init__
  te_BadValue_BadValue : PySem.W.exmOne K (.ref C_BadValue) (.ref C_BadValue) = some true
  gr_Grid : GRef mg "Grid" C_Grid
  in_Grid : InsI K C_Grid
  ne_Grid : NeC K C_Grid
  kb_Grid : ([.ref C_Grid, .type "NoneType", .type "bool", .type "int", .type "str", .type "tuple", .type "list", .type "dict"] : List Value).map (fun t => PySem.W.kitOne K t (.ref C_Grid)) = [some true, some false, some false, some false, some false, some false, some false, some false]
section
variable {P : Program} {w : World} {K : Fg} {mg : Str → Option Value} {base : Heap} {C_Grid C_BadValue : Addr}
abbrev Wel (n c : Int) : MO := .lst [.int n, .int c]
def spWell : SpD := fun ds M Q => ∃ n, ds = [.int n] ∧ ∀ p, Q (.ref p) ((p, Wel n 0) :: M)
theorem ok_well (T : Tx K mg C_Grid C_BadValue) : Cal P w K mg base "_law_well" 1 1 spWell :=
  cal_mk T.f_l_well sc_l_well st_l_well T.bl fun X FX ds M Q hl ⟨n, e, q⟩ => by
    subst e
    walk_at "body"
    walk_at "go"
    exact .self (q _)
instance spWell_step {n : Int} {M : Mm} {Q : DV → Mm → Prop} : Step (spWell [.int n] M Q) true (∀ p, Q (.ref p) ((p, Wel n 0) :: M)) := ⟨fun _ q => ⟨n, rfl, q⟩⟩
def spDraw : SpD := fun ds M Q => ∃ a i n c m, ds = [.ref a, .int m] ∧ AtM M i a (Wel n c) ∧ 0 < m ∧ m.natAbs < 2 ^ 8000 ∧ ∀ r n' c', 0 ≤ r → r < m → Q (.int r) (M.set i (a, Wel n' c'))
theorem ok_draw (T : Tx K mg C_Grid C_BadValue) : Cal P w K mg base "_law_draw" 1 2 spDraw :=
  cal_mk T.f_l_draw sc_l_draw st_l_draw T.bl fun X FX ds M Q hl ⟨a, i, n, c, m, e, hA, hm, hm2, q⟩ => by
    subst e
    walk_at "body"
    walk_at "go"
    refine ⟨fun h => ?_, fun h => ?_⟩
    · walk_at "go"
      exact .self (q _ _ _ (Int.emod_nonneg _ (by omega)) (Int.emod_lt_of_pos _ hm))
    · walk_at "go"
      exact .self (q _ _ _ (Int.emod_nonneg _ (by omega)) (Int.emod_lt_of_pos _ hm))
instance spDraw_step {a : Addr} {i : Nat} {n c m : Int} {M : Mm} {Q : DV → Mm → Prop} [A : AtM M i a (Wel n c)] : Step (spDraw [.ref a, .int m] M Q) true (Side (0 < m ∧ m.natAbs < 2 ^ 8000) (∀ r n' c', 0 ≤ r → r < m → Q (.int r) (M.set i (a, Wel n' c')))) := ⟨fun _ q => ⟨a, i, n, c, m, rfl, A, q.a.1, q.a.2, q.b⟩⟩
/-- one of some things -/
def spOne : SpD := fun ds M Q => ∃ a i n c b j xs, ds = [.ref a, .ref b] ∧ AtM M i a (Wel n c) ∧ AtM M j b (.lst xs) ∧ j ≠ i ∧ 0 < xs.length ∧ xs.length < 1000 ∧ ∀ r n' c', r < xs.length → Q (xs.getD r .non) (M.set i (a, Wel n' c'))
theorem ok_one (T : Tx K mg C_Grid C_BadValue) : Cal P w K mg base "_law_one" 2 2 spOne :=
  have := ok_draw (P := P) (w := w) (base := base) T
  cal_mk T.f_l_one sc_l_one st_l_one T.bl fun X FX ds M Q hl ⟨a, i, n, c, b, j, xs, e, hA, hB, hne, h0, h1, q⟩ => by
    subst e
    walk_at "body"
    walk_at "go"
    rename_i r n' c' r0 r1
    obtain ⟨t, rfl⟩ : ∃ t : Nat, r = (t : Int) := ⟨r.toNat, by omega⟩
    have ht : t < xs.length := by omega
    refine v_ix_l (hB.set_ne hne) (d := xs.getD t .non) (atI_nat ?_) (.self (q t n' c' ht))
    rw [List.getD_eq_getElem?_getD, List.getElem?_eq_getElem ht]
    rfl
def isInt : DV → Bool
  | .int _ => true
  | _ => false
def spInt : SpD := fun ds M Q => ∃ d, ds = [d] ∧ Kn K M d ∧ Q (.bl (isInt d)) M
theorem ok_isint (T : Tx K mg C_Grid C_BadValue) : Cal P w K mg base "is_integer" 1 1 (spInt (K := K)) :=
  cal_mk T.f_is_integer sc_is_integer st_is_integer T.bl fun X FX ds M Q hl ⟨d, e, hk, q⟩ => by
    subst e
    walk_at "body"
    cases hk with
    | non => walk_at "gi"; exact .self q
    | bl b => walk_at "gi"; exact .self q
    | int i => walk_at "gi"; exact .self q
    | str x => walk_at "gi"; exact .self q
    | tup h => walk_at "gi"; exact .self q
    | tupA => walk_at "gi"; exact .self q
    | ref h =>
      have : OddC X.K M _ := ⟨by rw [FX.hK]; exact h⟩
      walk_at "gi"
      exact .self q
instance spInt_step {d : DV} {M : Mm} {Q : DV → Mm → Prop} : Step (spInt (K := K) [d] M Q) true (Side (Kn K M d) (Q (.bl (isInt d)) M)) := ⟨fun _ q => ⟨d, rfl, q.a, q.b⟩⟩
/-- what waits: values with their room -/
abbrev waitD (p : DV × Nat) : DV := .tup [p.1, .int (p.2 : Int)]
def allW (ws : List (DV × Nat)) : Bool := ws.all fun p => plainD p.1 p.2
def sumW (ws : List (DV × Nat)) : Nat := (ws.map fun p => sizeD p.1).sum
theorem getLast_idx {α : Type} {l : List α} {a : α} : (l ++ [a])[(l ++ [a]).length - 1]? = some a := by simp
theorem sumW_map (ds : List DV) (r : Nat) : sumW (ds.map fun d => (d, r)) = sizeDs ds := by
  induction ds with
  | nil => rfl
  | cons d ds ih =>
    rw [sizeDs, ← ih]
    rfl
theorem sumW_app (a b : List (DV × Nat)) : sumW (a ++ b) = sumW a + sumW b := by unfold sumW; rw [List.map_append, List.sum_append]
theorem allW_app (a b : List (DV × Nat)) : allW (a ++ b) = (allW a && allW b) := by unfold allW; rw [List.all_append]
theorem allW_map (ds : List DV) (r : Nat) : allW (ds.map fun d => (d, r)) = plainDs ds r := by
  rw [plainDs_all]
  unfold allW
  rw [List.all_map]
  rfl
theorem sizeD_pos (d : DV) : 1 ≤ sizeD d := by cases d <;> rw [sizeD] <;> omega
theorem len_sumW (ws : List (DV × Nat)) : ws.length ≤ sumW ws := by
  unfold sumW
  induction ws with
  | nil => exact Nat.le_refl 0
  | cons p ws ih =>
    have := sizeD_pos p.1
    rw [List.map_cons, List.sum_cons, List.length_cons]
    omega
def spPlain : SpD := fun ds M Q => ∃ d, ds = [d] ∧ Knp K M d ∧ sizeD d ≤ 1000000 ∧ Q (.bl (plainD d 4)) M
theorem ok_plain (T : Tx K mg C_Grid C_BadValue) : Cal P w K mg base "is_plain" 2 1 (spPlain (K := K)) :=
  have := ok_isint (P := P) (w := w) (base := base) T
  have := T.gi_MOST_DEEP
  cal_mk T.f_is_plain sc_is_plain st_is_plain T.bl fun X FX ds M Q hl ⟨d, e, hk, hz, q⟩ => by
    subst e
    walk_at "body"
    walk_at "go"
    rename_i pl
    refine ws_while FX (fun n ρ1 M1 => ∃ ws o2 o3, n = sumW ws ∧ sumW ws ≤ 1000000 ∧ (∀ p ∈ ws, Knp K M p.1) ∧ plainD d 4 = allW ws ∧ ρ1 = [some d, some (.ref pl), o2, o3, none] ∧ M1 = (pl, .lst (ws.map waitD)) :: M) _ (.self ⟨[(d, 4)], _, _, rfl, ?_, ?_, ?_, rfl, rfl⟩) ?_
    · unfold sumW; simpa using hz
    · intro p hp
      rw [List.mem_singleton.mp hp]
      exact hk
    · unfold allW; simp
    rintro n ρ1 M1 ⟨ws, o2, o3, rfl, hsz, hkn, hal, rfl, rfl⟩
    have hlw := len_sumW ws
    have hl1 : (ws.map waitD).length ≤ sizeLine := by rw [List.length_map, sizeLine_eq]; omega
    walk_at "go"
    refine ⟨fun h => ?_, fun h => ?_⟩
    · have h := of_decide_eq_true h
      rw [List.length_map] at h
      obtain ⟨us, ⟨d1, r⟩, rfl⟩ : ∃ us a, ws = us ++ [a] := ⟨ws.dropLast, ws.getLast (by intro z; rw [z] at h; simp at h), (List.dropLast_concat_getLast _).symm⟩
      rw [sumW_app] at hsz
      have e1 : sumW [(d1, r)] = sizeD d1 := by unfold sumW; simp
      have k1 : Knp K M d1 := hkn (d1, r) (by simp)
      have k2 : ∀ p ∈ us, Knp K M p.1 := fun p hp => hkn p (by simp [hp])
      rw [allW_app] at hal
      have e2 : allW [(d1, r)] = plainD d1 r := by unfold allW; simp
      rw [e2] at hal
      rw [e1] at hsz
      walk_at "go"
      refine ⟨waitD (d1, r), by rw [List.map_append]; exact getLast_idx, ?_⟩
      rw [List.map_append, show List.map waitD [(d1, r)] = [waitD (d1, r)] from rfl, List.dropLast_concat]
      walk_at "gs"
      have le2 := len_sumW us
      have kup : ∀ {d : DV}, Knp K M d → Knp K ((pl, MO.lst (List.map waitD us)) :: M) d := fun h => h.less (List.Sublist.cons _ (List.Sublist.refl _))
      cases k1 with
      | non =>
        walk_at "gi"
        refine Side.mk (kup .non).kn ?_
        dsimp only [isInt]
        walk_at "gi"
        refine ⟨fun _ => ?_, fun z => Bool.noConfusion z⟩
        walk_at "gi"
        exact ⟨_, by rw [sumW_app, e1]; have := sizeD_pos .non; omega, .self ⟨us, _, _, rfl, by omega, k2, by rw [hal]; simp [plainD], rfl, rfl⟩⟩
      | bl b =>
        walk_at "gi"
        refine Side.mk (kup (.bl b)).kn ?_
        dsimp only [isInt]
        walk_at "gi"
        refine ⟨fun z => Bool.noConfusion z, fun _ => ?_⟩
        walk_at "gi"
        rw [show plainD d 4 = false by rw [hal]; simp [plainD]] at q
        exact ⟨M, List.Sublist.cons _ (List.Sublist.refl _), q⟩
      | int i =>
        walk_at "gi"
        refine Side.mk (kup (.int i)).kn ?_
        dsimp only [isInt]
        walk_at "gi"
        exact ⟨_, by rw [sumW_app, e1]; have := sizeD_pos (.int i); omega, .self ⟨us, _, _, rfl, by omega, k2, by rw [hal]; simp [plainD], rfl, rfl⟩⟩
      | str x =>
        walk_at "gi"
        refine Side.mk (kup (.str x)).kn ?_
        dsimp only [isInt]
        walk_at "gi"
        exact ⟨_, by rw [sumW_app, e1]; have := sizeD_pos (.str x); omega, .self ⟨us, _, _, rfl, by omega, k2, by rw [hal]; simp [plainD], rfl, rfl⟩⟩
      | @ref p hr =>
        have : OddC X.K M _ := ⟨by rw [FX.hK]; exact hr⟩
        walk_at "gi"
        refine Side.mk (kup (.ref hr)).kn ?_
        dsimp only [isInt]
        walk_at "gi"
        refine ⟨fun z => Bool.noConfusion z, fun _ => ?_⟩
        walk_at "gi"
        rw [show plainD d 4 = false by rw [hal]; simp [plainD]] at q
        exact ⟨M, List.Sublist.cons _ (List.Sublist.refl _), q⟩
      | @tup ds hd =>
        walk_at "gi"
        have ez : sizeD (.tup ds) = 1 + sizeDs ds := by rw [sizeD]
        have le3 : ds.length ≤ sizeDs ds := by have := len_sumW (ds.map fun d => (d, 0)); rw [List.length_map, sumW_map] at this; exact this
        have le4 : ds.length ≤ sizeLine := by rw [sizeLine_eq]; omega
        have fin : ∀ r' : Nat, (ds = [] ∨ r = r' + 1) → plainD (.tup ds) r = plainDs ds r' := by
          rintro r' (z | z)
          · rw [z, plainD, plainDs]
          · rw [z, plain_tup]
        by_cases hr : r = 0 ∧ 0 < ds.length
        · obtain ⟨rfl, hr⟩ := hr
          refine ⟨fun _ => ?_, fun z => absurd rfl (of_decide_eq_false z)⟩
          walk_at "go"
          refine ⟨fun _ => ?_, fun z => absurd (by omega) (of_decide_eq_false z)⟩
          walk_at "go"
          rw [show plainD d 4 = false by
            rw [hal]
            cases ds with
            | nil => exact absurd hr (Nat.lt_irrefl 0)
            | cons a b => simp [plainD]] at q
          exact ⟨M, List.Sublist.cons _ (List.Sublist.refl _), q⟩
        · obtain ⟨r', hr'⟩ : ∃ r' : Nat, ds = [] ∨ r = r' + 1 := by
            by_cases h1 : r = 0
            · exact ⟨0, .inl (List.eq_nil_of_length_eq_zero (by omega))⟩
            · exact ⟨r - 1, .inr (by omega)⟩
          have fin := fin r' hr'
          refine ⟨fun h0 => ?_, fun h0 => ?_⟩
          case' refine_1 =>
            have h0 : (r : Int) = 0 := of_decide_eq_true h0
            walk_at "go"
            refine ⟨fun z => absurd (of_decide_eq_true z) (by omega), fun _ => ?_⟩
          case' refine_2 =>
            refine ⟨fun z => Bool.noConfusion z, fun _ => ?_⟩
          all_goals
            walk_at "go"
            refine we_lc1 (i := 4) (ms := [false, false, false, true, false]) (L' := ["part"]) (C' := []) (Gs' := []) FX ⟨rfl, .inl MemC.h, by decide +kernel, by decide +kernel, by decide +kernel⟩ rfl (by decide) ?_
            refine wi_tup ?_
            walk_at "go"
            refine ⟨_, rfl, ?_⟩
            refine lcI1 ds id (fun x => some (.tup [x, .int ((r : Int) - 1)])) rfl (fun i h => by rw [List.getD_eq_getElem?_getD, List.getElem?_eq_getElem h]; rfl) (fun _ _ => trivial) le4 (fun D x acc hx hl2 => ?_) (fun D => ?_)
            · dsimp only [mask, id]
              walk_at "go"
              exact .self rfl
            · rw [filterMap_all]
              have em : (ds.map fun x => DV.tup [x, .int ((r : Int) - 1)]) = (ds.map fun x => (x, r')).map waitD := by
                rw [List.map_map]
                rcases hr' with z | z
                · rw [z]; rfl
                · refine List.map_congr_left fun x _ => ?_
                  show DV.tup [x, .int ((r : Int) - 1)] = DV.tup [x, .int (r' : Int)]
                  rw [show (r : Int) - 1 = (r' : Int) by omega]
              rw [em]
              walk_at "go"
              refine Side.mk (by rw [List.length_map, List.length_map, List.length_map, sizeLine_eq]; omega) ?_
              rw [← List.map_append]
              walk_at "gs"
              refine ⟨_, ?_, ⟨_, ?_, ⟨us ++ ds.map fun x => (x, r'), _, _, rfl, ?_, ?_, ?_, rfl, rfl⟩⟩⟩
              · rw [sumW_app, sumW_map, sumW_app, e1]; omega
              · walk_at "sub"
              · rw [sumW_app, sumW_map]; omega
              · intro p hp
                rcases List.mem_append.mp hp with z | z
                · exact k2 p z
                · obtain ⟨x, hx, rfl⟩ := List.mem_map.mp z
                  exact hd x hx
              · rw [hal, allW_app, allW_map, fin]
    · have h := of_decide_eq_false h
      rw [List.length_map] at h
      obtain rfl : ws = [] := List.eq_nil_of_length_eq_zero (by omega)
      walk_at "go"
      rw [show plainD d 4 = true from hal] at q
      exact ⟨M, List.Sublist.cons _ (List.Sublist.refl _), q⟩
instance spPlain_step {d : DV} {M : Mm} {Q : DV → Mm → Prop} : Step (spPlain (K := K) [d] M Q) true (Side (Knp K M d) (Side (sizeD d ≤ 1000000) (Q (.bl (plainD d 4)) M))) := ⟨fun _ q => ⟨d, rfl, q.a, q.b.a, q.b.b⟩⟩
theorem ok_exc (T : Tx K mg C_Grid C_BadValue) : ExC P w K mg base "BadValue" C_BadValue "value" := exc_mk T.ex_BadValue sc_BadValue__init__ rfl (by decide +kernel) (by decide +kernel) (by decide) (by decide)
/-- want_plain -/
def spWant : SpX := fun ds M Q E => ∃ d, ds = [d] ∧ Knp K M d ∧ sizeD d ≤ 1000000 ∧ (plainD d 4 = true → Q d M) ∧ (plainD d 4 = false → E C_BadValue [("value", d)] M)
theorem ok_want (T : Tx K mg C_Grid C_BadValue) : CalX P w K mg base "want_plain" 3 1 (spWant (K := K) (C_BadValue := C_BadValue)) :=
  have := ok_plain (P := P) (w := w) (base := base) T
  have := ok_exc (P := P) (w := w) (base := base) T
  calX_mk T.fx_want_plain sc_want_plain st_want_plain T.bl fun X FX ds M Q E hl ⟨d, e, hk, hz, h1, h2⟩ TK => by
    subst e
    walk_at "body"
    walk_at "go"
    refine ⟨fun h => ?_, fun h => ?_⟩
    · walk_at "go"
      exact .self (h1 h)
    · walk_at "go"
      exact .self (h2 h)
instance spWant_step {d : DV} {M : Mm} {Q : DV → Mm → Prop} {E : Addr → List (Str × DV) → Mm → Prop} : Step (spWant (K := K) (C_BadValue := C_BadValue) [d] M Q E) true (Side (Knp K M d) (Side (sizeD d ≤ 1000000) ((plainD d 4 = true → Q d M) ∧ (plainD d 4 = false → E C_BadValue [("value", d)] M)))) := ⟨fun _ q => ⟨d, rfl, q.a, q.b.a, q.b.b.1, q.b.b.2⟩⟩
/-- is_place -/
def spPlace : SpD := fun ds M Q => ∃ d, ds = [d] ∧ Knp K M d ∧ sizeD d ≤ 1000000 ∧ Q (.bl (badP d).isNone) M
theorem ok_place (T : Tx K mg C_Grid C_BadValue) : Cal P w K mg base "is_place" 3 1 (spPlace (K := K)) :=
  have := ok_plain (P := P) (w := w) (base := base) T
  cal_mk T.f_is_place sc_is_place st_is_place T.bl fun X FX ds M Q hl ⟨d, e, hk, hz, q⟩ => by
    subst e
    walk_at "body"
    cases hk with
    | non => walk_at "gi"; exact .self q
    | bl b => walk_at "gi"; exact .self q
    | int i => walk_at "gi"; exact .self q
    | str x => walk_at "gi"; exact .self q
    | ref h =>
      have : OddC X.K M _ := ⟨by rw [FX.hK]; exact h⟩
      walk_at "gi"
      exact .self q
    | @tup es h =>
      walk_at "gi"
      refine ⟨fun hl2 => ?_, fun hl2 => ?_⟩
      · have hl2 := of_decide_eq_true hl2
        obtain ⟨x, y, rfl⟩ : ∃ x y, es = [x, y] := by
          match es, hl2 with
          | [x, y], _ => exact ⟨x, y, rfl⟩
          | [], h => simp at h
          | [x], h => simp at h
          | _ :: _ :: _ :: _, h => simp at h; omega
        have hx := h x (by simp)
        have hy := h y (by simp)
        rw [sizeD, sizeDs, sizeDs, sizeDs] at hz
        have z1 : sizeD x ≤ 1000000 := by omega
        have z2 : sizeD y ≤ 1000000 := by omega
        walk_at "gi"
        refine ⟨fun h1 => ?_, fun h1 => ?_⟩
        · walk_at "gi"
          refine .self ?_
          rw [badP, if_pos h1] at q
          cases h2 : plainD y 4 with
          | true => rw [if_pos h2] at q; exact q
          | false => rw [if_neg (by rw [h2]; exact Bool.false_ne_true)] at q; exact q
        · refine .self ?_
          rw [badP, if_neg (by rw [h1]; exact Bool.false_ne_true)] at q
          exact q
      · have hl2 := of_decide_eq_false hl2
        refine .self ?_
        have : (badP (.tup es)).isNone = false := by
          match es, hl2 with
          | [], _ => rfl
          | [_], _ => rfl
          | [_, _], h => exact absurd rfl h
          | _ :: _ :: _ :: _, _ => rfl
        rw [this] at q
        exact q
instance spPlace_step {d : DV} {M : Mm} {Q : DV → Mm → Prop} : Step (spPlace (K := K) [d] M Q) true (Side (Knp K M d) (Side (sizeD d ≤ 1000000) (Q (.bl (badP d).isNone) M))) := ⟨fun _ q => ⟨d, rfl, q.a, q.b.a, q.b.b⟩⟩
/-- want_place -/
def spWantP : SpX := fun ds M Q E => ∃ d, ds = [d] ∧ Knp K M d ∧ sizeD d ≤ 1000000 ∧ (badP d = none → Q .non M) ∧ (∀ v, badP d = some v → E C_BadValue [("value", v)] M)
theorem ok_wantp (T : Tx K mg C_Grid C_BadValue) : CalX P w K mg base "want_place" 4 1 (spWantP (K := K) (C_BadValue := C_BadValue)) :=
  have := ok_want (P := P) (w := w) (base := base) T
  have := ok_exc (P := P) (w := w) (base := base) T
  calX_mk T.fx_want_place sc_want_place st_want_place T.bl fun X FX ds M Q E hl ⟨d, e, hk, hz, h1, h2⟩ TK => by
    subst e
    walk_at "body"
    cases hk with
    | non => walk_at "gj"; exact .self (h2 _ rfl)
    | bl b => walk_at "gj"; exact .self (h2 _ rfl)
    | int i => walk_at "gj"; exact .self (h2 _ rfl)
    | str x => walk_at "gj"; exact .self (h2 _ rfl)
    | ref h =>
      have : OddC X.K M _ := ⟨by rw [FX.hK]; exact h⟩
      walk_at "gj"
      exact .self (h2 _ rfl)
    | @tup es h =>
      by_cases hl2 : es.length = 2
      · obtain ⟨x, y, rfl⟩ : ∃ x y, es = [x, y] := by
          match es, hl2 with
          | [x, y], _ => exact ⟨x, y, rfl⟩
        have hx := h x (by simp)
        have hy := h y (by simp)
        rw [sizeD, sizeDs, sizeDs, sizeDs] at hz
        rw [badP] at h1 h2
        have z1 : sizeD x ≤ 1000000 := by omega
        have z2 : sizeD y ≤ 1000000 := by omega
        walk_at "go"
        refine ⟨fun _ => ?_, fun z => absurd rfl (of_decide_eq_false z)⟩
        walk_at "go"
        refine ⟨fun p1 => ?_, fun p1 => ?_⟩
        · rw [if_pos p1] at h1 h2
          walk_at "go"
          refine ⟨fun p2 => ?_, fun p2 => ?_⟩
          · rw [if_pos p2] at h1
            walk_at "go"
            exact .self (h1 rfl)
          · rw [if_neg (by rw [p2]; exact Bool.false_ne_true)] at h2
            exact .self (h2 _ rfl)
        · rw [if_neg (by rw [p1]; exact Bool.false_ne_true)] at h2
          exact .self (h2 _ rfl)
      · have hb : badP (.tup es) = some (.tup es) := by
          match es, hl2 with
          | [], _ => rfl
          | [_], _ => rfl
          | [_, _], h => exact absurd rfl h
          | _ :: _ :: _ :: _, _ => rfl
        walk_at "go"
        refine ⟨fun z => absurd (of_decide_eq_true z) (fun w => hl2 (by omega)), fun _ => ?_⟩
        walk_at "go"
        exact .self (h2 _ hb)
instance spWantP_step {d : DV} {M : Mm} {Q : DV → Mm → Prop} {E : Addr → List (Str × DV) → Mm → Prop} : Step (spWantP (K := K) (C_BadValue := C_BadValue) [d] M Q E) true (Side (Knp K M d) (Side (sizeD d ≤ 1000000) ((badP d = none → Q .non M) ∧ (∀ v, badP d = some v → E C_BadValue [("value", v)] M)))) := ⟨fun _ q => ⟨d, rfl, q.a, q.b.a, q.b.b.1, q.b.b.2⟩⟩
/-- a grid: its default, its dict -/
abbrev GrI (C_Grid : Addr) (d : DV) (c : Addr) : MO := .ins C_Grid [("default", d), ("cells", .ref c)]
theorem fit_bl (b : Bool) : fitD (.bl b) = true := rfl
theorem fit_not {d : DV} (h : isB d = false) : fitD d = plainD d 4 := by unfold fitD; rw [h, Bool.false_or]
def spGInit : SpX := fun ds M Q E => ∃ q i d, ds = [.ref q, d, .non] ∧ AtM M i q (.ins C_Grid []) ∧ Knp K M d ∧ sizeD d ≤ 1000000 ∧ (fitD d = true → ∀ c o, Q .non ((c, .dn w o []) :: M.set i (q, GrI C_Grid d c))) ∧ (fitD d = false → E C_BadValue [("value", d)] M)
theorem ginit_body (T : Tx K mg C_Grid C_BadValue) : ∀ X, Fx X P w K mg base (defScope s_Grid__init__) n_Grid__init__ ["self", "default", "cells"] [] ["isinstance", "bool", "want_plain"] bs 3 → ∀ ds M Q E, ds.length = ["self", "default", "cells"].length → spGInit (w := w) (K := K) (C_Grid := C_Grid) (C_BadValue := C_BadValue) ds M Q E → Tk X (fun Cc fs _ M' => Sub (E Cc fs) M') →
    WSs X (ini n_Grid__init__ ds) M (defBody s_Grid__init__) (fun _ M' => Sub (Q .non) M') (fun d M' => Sub (Q d) M') (fun _ _ => False) (fun _ _ => False) :=
  have := ok_want (P := P) (w := w) (base := base) T
  have := T.fd_Grid_default
  have := T.fd_Grid_cells
  fun X FX ds M Q E hl ⟨q, i, d, e, hA, hk, hz, h1, h2⟩ TK => by
    subst e
    walk_at "body"
    walk_at "1"
    refine ws_join (fun ρ1 M1 => ρ1 = [some (.ref q), some d, some .non] ∧ M1 = M ∧ fitD d = true) ?_ ?_
    · have hk' := hk
      cases hk with
      | bl b => walk_at "gi"; exact ⟨rfl, rfl, rfl⟩
      | non => walk_at "go"; refine ⟨fun p => ?_, fun p => absurd p (by decide)⟩; walk_at "go"; exact ⟨rfl, rfl, rfl⟩
      | int n => walk_at "go"; refine ⟨fun p => ?_, fun p => absurd p (by simp [plainD])⟩; walk_at "go"; exact ⟨rfl, rfl, by rw [fit_not rfl]; exact p⟩
      | str n => walk_at "go"; refine ⟨fun p => ?_, fun p => absurd p (by simp [plainD])⟩; walk_at "go"; exact ⟨rfl, rfl, by rw [fit_not rfl]; exact p⟩
      | @ref p h =>
        have : OddC X.K M _ := ⟨by rw [FX.hK]; exact h⟩
        walk_at "go"
        refine ⟨fun p => absurd p (by simp [plainD]), fun p => ?_⟩
        exact .self (h2 (by rw [fit_not rfl]; exact p))
      | @tup es h =>
        walk_at "go"
        refine ⟨fun p => ?_, fun p => ?_⟩
        · walk_at "go"
          exact ⟨rfl, rfl, by rw [fit_not rfl]; exact p⟩
        · exact .self (h2 (by rw [fit_not rfl]; exact p))
    · rintro ρ1 M1 ⟨rfl, rfl, hf⟩
      walk_at "gs"
      refine ⟨fun _ => ?_, fun z => Bool.noConfusion z⟩
      refine we_toDn (w := w) ?_
      walk_at "go"
      rename_i c
      refine ⟨c, 0, rfl, AtM.iH, fun o => ?_⟩
      walk_at "gs"
      exact .self (h1 hf c o)
theorem st_ginit : stat (defScope s_Grid__init__) n_Grid__init__ ["self", "default", "cells"] [] ["isinstance", "bool", "want_plain"] = true := by decide +kernel
theorem mk_grid0 (T : Tx K mg C_Grid C_BadValue) : MkiX P w K mg base "Grid" C_Grid 4 0 [.bl false, .non] (spGInit (w := w) (K := K) (C_Grid := C_Grid) (C_BadValue := C_BadValue)) := mkiX_mk T.mi_Grid_0 sc_Grid__init__ st_ginit T.bl rfl (ginit_body T)
theorem mk_grid1 (T : Tx K mg C_Grid C_BadValue) : MkiX P w K mg base "Grid" C_Grid 4 1 [.non] (spGInit (w := w) (K := K) (C_Grid := C_Grid) (C_BadValue := C_BadValue)) := mkiX_mk T.mi_Grid_1 sc_Grid__init__ st_ginit T.bl rfl (ginit_body T)
theorem mk_gridk (T : Tx K mg C_Grid C_BadValue) : MkiD P w K mg base "Grid" ["default"] C_Grid 4 [.non] (spGInit (w := w) (K := K) (C_Grid := C_Grid) (C_BadValue := C_BadValue)) := mkiD_mk T.md_Grid sc_Grid__init__ st_ginit T.bl rfl (ginit_body T)
/-! the methods -/
def spGLen : SpX := fun ds M Q _ => ∃ g i d c j o kvs, ds = [.ref g] ∧ AtM M i g (GrI C_Grid d c) ∧ AtM M j c (.dn w o kvs) ∧ Q (.int kvs.length) M
theorem ok_glen (T : Tx K mg C_Grid C_BadValue) : McalX P w K mg base C_Grid "__len__" 1 1 (spGLen (w := w) (C_Grid := C_Grid)) :=
  have := T.fd_Grid_cells
  mcalX_mk T.cl_Grid T.mx_Grid___len__ sc_Grid__len__ st_Grid__len__ T.bl fun X FX ds M Q E hl ⟨g, i, d, c, j, o, kvs, e, hA, hB, q⟩ TK => by
    subst e
    walk_at "body"
    walk_at "go"
    refine ⟨_, rfl, ?_⟩
    walk_at "go"
    exact .self q
def spGBool : SpX := fun ds M Q _ => ∃ g i d c j o kvs, ds = [.ref g] ∧ AtM M i g (GrI C_Grid d c) ∧ AtM M j c (.dn w o kvs) ∧ Q (.bl (decide (0 < (kvs.length : Int)))) M
theorem ok_gbool (T : Tx K mg C_Grid C_BadValue) : McalX P w K mg base C_Grid "__bool__" 1 1 (spGBool (w := w) (C_Grid := C_Grid)) :=
  have := T.fd_Grid_cells
  mcalX_mk T.cl_Grid T.mx_Grid___bool__ sc_Grid__bool__ st_Grid__bool__ T.bl fun X FX ds M Q E hl ⟨g, i, d, c, j, o, kvs, e, hA, hB, q⟩ TK => by
    subst e
    walk_at "body"
    walk_at "go"
    refine ⟨_, rfl, ?_⟩
    walk_at "go"
    exact .self q
def spGPlaces : SpD := fun ds M Q => ∃ g i d c j o kvs, ds = [.ref g] ∧ AtM M i g (GrI C_Grid d c) ∧ AtM M j c (.dn w o kvs) ∧ ∀ p, Q (.ref p) ((p, .lst (kvs.map (·.1))) :: M)
theorem ok_gplaces (T : Tx K mg C_Grid C_BadValue) : Mcal P w K mg base C_Grid "places" 1 1 (spGPlaces (w := w) (C_Grid := C_Grid)) :=
  have := T.fd_Grid_cells
  mcal_mk T.cl_Grid T.m_Grid_places sc_Grid_places st_Grid_places T.bl fun X FX ds M Q hl ⟨g, i, d, c, j, o, kvs, e, hA, hB, q⟩ => by
    subst e
    walk_at "body"
    walk_at "go"
    refine ⟨_, rfl, ?_⟩
    walk_at "go"
    exact .self (q _)
/-- what stands at a place -/
def inG (kvs : List (DV × DV)) (d : DV) : Bool := (badP d).isNone && (kix kvs (keyP d)).isSome
def spGIn : SpX := fun ds M Q _ => ∃ g i d c j o kvs t, ds = [.ref g, t] ∧ AtM M i g (GrI C_Grid d c) ∧ AtM M j c (.dn w o kvs) ∧ Knp K M t ∧ sizeD t ≤ 1000000 ∧ Q (.bl (inG kvs t)) M
theorem ok_gin (T : Tx K mg C_Grid C_BadValue) : McalX P w K mg base C_Grid "__contains__" 4 2 (spGIn (w := w) (K := K) (C_Grid := C_Grid)) :=
  have := T.fd_Grid_cells
  have := ok_place (P := P) (w := w) (base := base) T
  mcalX_mk T.cl_Grid T.mx_Grid___contains__ sc_Grid__contains__ st_Grid__contains__ T.bl fun X FX ds M Q E hl ⟨g, i, d, c, j, o, kvs, t, e, hA, hB, hk, hz, q⟩ TK => by
    subst e
    walk_at "body"
    walk_at "go"
    unfold inG at q
    refine ⟨fun h => ?_, fun h => ?_⟩
    · rw [h, Bool.true_and] at q
      obtain ⟨x, y, kx, ky, rfl, p1, p2, n1, l1, n2, l2, e1, e2, e3⟩ := good_place (Option.isNone_iff_eq_none.mp h)
      have : NKC (.tup [x, y]) (.tup [kx, ky]) 6 := ⟨e2, e3⟩
      walk_at "go"
      refine ⟨_, rfl, ?_⟩
      walk_at "go"
      rw [e1] at q
      exact .self q
    · rw [h, Bool.false_and] at q
      exact .self q
def valG (kvs : List (DV × DV)) (d0 t : DV) : DV := (kget kvs (keyP t)).getD d0
def spGGet : SpX := fun ds M Q E => ∃ g i d c j o kvs t, ds = [.ref g, t] ∧ AtM M i g (GrI C_Grid d c) ∧ AtM M j c (.dn w o kvs) ∧ Knp K M t ∧ sizeD t ≤ 1000000 ∧ (badP t = none → Q (valG kvs d t) M) ∧ (∀ v, badP t = some v → E C_BadValue [("value", v)] M)
theorem ok_gget (T : Tx K mg C_Grid C_BadValue) : McalX P w K mg base C_Grid "__getitem__" 5 2 (spGGet (w := w) (K := K) (C_Grid := C_Grid) (C_BadValue := C_BadValue)) :=
  have := T.fd_Grid_cells
  have := T.fd_Grid_default
  have := ok_wantp (P := P) (w := w) (base := base) T
  mcalX_mk T.cl_Grid T.mx_Grid___getitem__ sc_Grid__getitem__ st_Grid__getitem__ T.bl fun X FX ds M Q E hl ⟨g, i, d, c, j, o, kvs, t, e, hA, hB, hk, hz, h1, h2⟩ TK => by
    subst e
    walk_at "body"
    walk_at "go"
    refine ⟨fun h => ?_, fun v h => .self (h2 v h)⟩
    obtain ⟨x, y, kx, ky, rfl, p1, p2, n1, l1, n2, l2, e1, e2, e3⟩ := good_place h
    have : NKC (.tup [x, y]) (.tup [kx, ky]) 6 := ⟨e2, e3⟩
    walk_at "go"
    refine ⟨_, rfl, Side.mk ⟨_, _, _, _, rfl, hB⟩ ?_⟩
    walk_at "go"
    refine ⟨_, rfl, ?_⟩
    walk_at "go"
    have q := h1 h
    unfold valG at q
    rw [e1] at q
    exact .self q
def spGCall : SpX := fun ds M Q E => ∃ g i d c j o kvs x y, ds = [.ref g, x, y] ∧ AtM M i g (GrI C_Grid d c) ∧ AtM M j c (.dn w o kvs) ∧ Knp K M x ∧ Knp K M y ∧ sizeD x ≤ 1000000 ∧ sizeD y ≤ 1000000 ∧ (badP (.tup [x, y]) = none → Q (valG kvs d (.tup [x, y])) M) ∧ (∀ v, badP (.tup [x, y]) = some v → E C_BadValue [("value", v)] M)
theorem gcall_body (T : Tx K mg C_Grid C_BadValue) : ∀ X, Fx X P w K mg base (defScope s_Grid__call__) n_Grid__call__ ["self", "one", "other"] [] ["want_plain"] bs 3 → ∀ ds M Q E, ds.length = ["self", "one", "other"].length → spGCall (w := w) (K := K) (C_Grid := C_Grid) (C_BadValue := C_BadValue) ds M Q E → Tk X (fun Cc fs _ M' => Sub (E Cc fs) M') →
    WSs X (ini n_Grid__call__ ds) M (defBody s_Grid__call__) (fun _ M' => Sub (Q .non) M') (fun d M' => Sub (Q d) M') (fun _ _ => False) (fun _ _ => False) :=
  have := T.fd_Grid_cells
  have := T.fd_Grid_default
  have := ok_want (P := P) (w := w) (base := base) T
  fun X FX ds M Q E hl ⟨g, i, d, c, j, o, kvs, x, y, e, hA, hB, hx, hy, zx, zy, h1, h2⟩ TK => by
    subst e
    rw [badP] at h1 h2
    walk_at "body"
    walk_at "go"
    refine ⟨fun p1 => ?_, fun p1 => ?_⟩
    · rw [if_pos p1] at h1 h2
      walk_at "go"
      refine ⟨fun p2 => ?_, fun p2 => ?_⟩
      · rw [if_pos p2] at h1
        have h : badP (.tup [x, y]) = none := by rw [badP, if_pos p1, if_pos p2]
        obtain ⟨x', y', kx, ky, ee, _, _, n1, l1, n2, l2, e1, e2, e3⟩ := good_place h
        cases ee
        have : NKC (.tup [x, y]) (.tup [kx, ky]) 6 := ⟨e2, e3⟩
        walk_at "go"
        refine ⟨_, rfl, Side.mk ⟨_, _, _, _, rfl, hB⟩ ?_⟩
        walk_at "go"
        refine ⟨_, rfl, ?_⟩
        walk_at "go"
        have q := h1 rfl
        unfold valG at q
        rw [e1] at q
        exact .self q
      · rw [if_neg (by rw [p2]; exact Bool.false_ne_true)] at h2
        exact .self (h2 _ rfl)
    · rw [if_neg (by rw [p1]; exact Bool.false_ne_true)] at h2
      exact .self (h2 _ rfl)
theorem st_gcall : stat (defScope s_Grid__call__) n_Grid__call__ ["self", "one", "other"] [] ["want_plain"] = true := by decide +kernel
theorem ok_gcall (T : Tx K mg C_Grid C_BadValue) : McalX P w K mg base C_Grid "__call__" 4 3 (spGCall (w := w) (K := K) (C_Grid := C_Grid) (C_BadValue := C_BadValue)) := mcalX_mk T.cl_Grid T.mx_Grid___call__ sc_Grid__call__ st_gcall T.bl (gcall_body T)
theorem ok_gcallk (T : Tx K mg C_Grid C_BadValue) : McalR P w K mg base C_Grid "__call__" ["other", "one"] 4 (spGCall (w := w) (K := K) (C_Grid := C_Grid) (C_BadValue := C_BadValue)) := mcalR_mk T.cl_Grid T.mr_Grid___call__ sc_Grid__call__ st_gcall T.bl rfl (gcall_body T)
theorem isb_any {K : Fg} {M : Mm} {Q : DV → Mm → Prop} {d : DV} (h : Knp K M d) (q : Q (.bl (isB d)) M) : CD K (rIsi K) [d, .ty "bool"] M Q := by
  cases h with
  | non => walk_at "go"; exact q
  | bl b => walk_at "go"; exact q
  | int b => walk_at "go"; exact q
  | str b => walk_at "go"; exact q
  | tup h => walk_at "go"; exact q
  | ref h =>
    have : OddC K M _ := ⟨h⟩
    walk_at "go"
    exact q
mutual
theorem plain_knp {K : Fg} {M : Mm} : ∀ (d : DV) (r : Nat), plainD d r = true → Knp K M d
  | .non, r, _ => .non
  | .int i, r, _ => .int i
  | .str x, r, _ => .str x
  | .tup [], r, _ => .tup fun d hd => nomatch hd
  | .tup (d :: ds), 0, h => by rw [plainD] at h; cases h
  | .tup (d :: ds), r + 1, h => by
    rw [plain_tup] at h
    exact .tup (plains_knp (d :: ds) r h)
  | .bl b, r, h => by simp [plainD] at h
  | .lis _, r, h => by simp [plainD] at h
  | .ty _, r, h => by simp [plainD] at h
  | .ref _, r, h => by simp [plainD] at h
  | .tupA _ _, r, h => by simp [plainD] at h
  | .lam _ _, r, h => by simp [plainD] at h
  | .clo _ _, r, h => by simp [plainD] at h
theorem plains_knp {K : Fg} {M : Mm} : ∀ (ds : List DV) (r : Nat), plainDs ds r = true → ∀ d ∈ ds, Knp K M d
  | [], r, _ => fun d hd => nomatch hd
  | d :: ds, r, h => fun x hx => by
    rw [plainDs, Bool.and_eq_true] at h
    rcases List.mem_cons.mp hx with z | z
    · rw [z]; exact plain_knp d r h.1
    · exact plains_knp ds r h.2 x z
end
theorem fit_knp {K : Fg} {M : Mm} {d : DV} (h : fitD d = true) : Knp K M d := by
  unfold fitD at h
  rw [Bool.or_eq_true] at h
  rcases h with h | h
  · cases d <;> first | exact Bool.noConfusion h | exact .bl _
  · exact plain_knp d 4 h
/-- a value put -/
def setG (kvs : List (DV × DV)) (d t v : DV) : List (DV × DV) := if eqD v d then kdel kvs (keyP t) else kput kvs (keyP t) t v
def spGSet : SpX := fun ds M Q E => ∃ g i d c j o kvs t v, ds = [.ref g, t, v] ∧ AtM M i g (GrI C_Grid d c) ∧ AtM M j c (.dn w o kvs) ∧ (Knp K M t ∧ sizeD t ≤ 1000000 ∧ Knp K M v ∧ sizeD v ≤ 1000000 ∧ fitD d = true ∧ layD d = true ∧ kvs.length < sizeLine) ∧
  (∀ u, badP t = some u → E C_BadValue [("value", u)] M) ∧ (badP t = none → (isB v = isB d → fitD v = false) → E C_BadValue [("value", v)] M) ∧ (badP t = none → isB v = isB d → fitD v = true → layD v = true ∧ ∀ o', Q .non (M.set j (c, .dn w o' (setG kvs d t v))))
theorem ok_gset (T : Tx K mg C_Grid C_BadValue) : McalX P w K mg base C_Grid "__setitem__" 5 3 (spGSet (w := w) (K := K) (C_Grid := C_Grid) (C_BadValue := C_BadValue)) :=
  have := T.fd_Grid_cells
  have := T.fd_Grid_default
  have := ok_want (P := P) (w := w) (base := base) T
  have := ok_wantp (P := P) (w := w) (base := base) T
  have := ok_exc (P := P) (w := w) (base := base) T
  mcalX_mk T.cl_Grid T.mx_Grid___setitem__ sc_Grid__setitem__ st_Grid__setitem__ T.bl fun X FX ds M Q E hl ⟨g, i, d, c, j, o, kvs, t, v, e, hA, hB, ⟨ht, zt, hv, zv, fd, ld, hk⟩, h1, h2, h3⟩ TK => by
    subst e
    have eK := FX.hK
    subst eK
    walk_at "body"
    walk_at "go"
    refine ⟨fun hp => ?_, fun u h => .self (h1 u h)⟩
    have h2 := h2 hp
    have h3 := h3 hp
    walk_at "go"
    refine isb_any hv ?_
    walk_at "go"
    refine ⟨_, rfl, ?_⟩
    walk_at "go"
    refine isb_any (fit_knp fd) ?_
    walk_at "go"
    refine ⟨fun hb => ?_, fun hb => ?_⟩
    · have hb : isB v = isB d := of_decide_eq_true hb
      walk_at "1"
      walk_at "1"
      refine ws_join (fun ρ1 M1 => ρ1 = [some (.ref g), some t, some v] ∧ M1 = M ∧ fitD v = true) ?_ ?_
      · walk_at "go"
        refine isb_any hv ?_
        walk_at "go"
        refine ⟨fun h => ?_, fun h => ?_⟩
        · walk_at "go"
          refine ⟨rfl, rfl, ?_⟩
          unfold fitD
          rw [h, Bool.true_or]
        · walk_at "go"
          refine ⟨fun p => ?_, fun p => ?_⟩
          · walk_at "go"
            exact ⟨rfl, rfl, by rw [fit_not h]; exact p⟩
          · exact .self (h2 fun _ => by rw [fit_not h]; exact p)
      · rintro ρ1 M1 ⟨rfl, rfl, hf⟩
        obtain ⟨lv, h3⟩ := h3 hb hf
        walk_at "go"
        refine ⟨_, rfl, ?_⟩
        walk_at "go"
        refine v_ne_d (fit_pd _ hf lv).1 (fit_pd _ fd ld).1 (fit_pd [] hf lv).2 (fit_pd [] fd ld).2 ?_
        walk_at "go"
        obtain ⟨x, y, kx, ky, rfl, p1, p2, n1, l1, n2, l2, e1, e2, e3⟩ := good_place hp
        have : NKC (.tup [x, y]) (.tup [kx, ky]) 6 := ⟨e2, e3⟩
        unfold setG eqD at h3
        rw [e1] at h3
        refine ⟨fun h => ?_, fun h => ?_⟩
        · rw [if_pos h] at h3
          walk_at "go"
          refine ⟨_, rfl, ?_⟩
          walk_at "go"
          refine ⟨fun h4 => ?_, fun h4 => ?_⟩
          · walk_at "go"
            refine ⟨_, rfl, ?_⟩
            walk_at "go"
            rename_i o'
            exact .self (h3 o')
          · walk_at "go"
            have hq := h3 o
            have hd : kdel kvs (NestedKey.tup [kx, ky]) = kvs := by
              unfold kdel
              cases hx : kix kvs (NestedKey.tup [kx, ky]) with
              | none => rfl
              | some z => rw [hx] at h4; cases h4
            rw [hd, AtM.set_id hB] at hq
            exact .self hq
        · rw [if_neg (by rw [h]; exact Bool.false_ne_true)] at h3
          walk_at "go"
          refine ⟨_, rfl, ?_⟩
          walk_at "go"
          rename_i o'
          exact .self (h3 o')
    · have hb : isB v ≠ isB d := of_decide_eq_false hb
      walk_at "go"
      exact .self (h2 fun z => absurd z hb)
/-- == of grids -/
def okG (d : DV) (kvs : List (DV × DV)) : Prop := fitD d = true ∧ layD d = true ∧ ∀ x ∈ kvs, fitD x.2 = true ∧ layD x.2 = true
def eqGr (d : DV) (kvs : List (DV × DV)) (d2 : DV) (kvs2 : List (DV × DV)) : Bool := decide (isB d = isB d2) && (eqD d d2 && eqN pdD kvs kvs2)
/-- no grid -/
def NotG (K : Fg) (C_Grid : Addr) (M : Mm) (y : DV) : Prop := ∃ t, KtD K M y t ∧ KitT K t C_Grid false
def spGEq : SpX := fun ds M Q _ => ∃ g i d c j o kvs y, ds = [.ref g, y] ∧ AtM M i g (GrI C_Grid d c) ∧ AtM M j c (.dn w o kvs) ∧ okG d kvs ∧
  ((NotG K C_Grid M y ∧ Q (.bl false) M) ∨ ∃ g2 i2 d2 c2 j2 o2 kvs2, y = .ref g2 ∧ AtM M i2 g2 (GrI C_Grid d2 c2) ∧ AtM M j2 c2 (.dn w o2 kvs2) ∧ okG d2 kvs2 ∧ Q (.bl (eqGr d kvs d2 kvs2)) M)
theorem ok_geq (T : Tx K mg C_Grid C_BadValue) : McalX P w K mg base C_Grid "__eq__" 1 2 (spGEq (w := w) (K := K) (C_Grid := C_Grid)) :=
  have := T.fd_Grid_cells
  have := T.fd_Grid_default
  have := T.gr_Grid
  have := T.in_Grid
  have : KitT K (.ref C_Grid) C_Grid true := ⟨congrArg (fun l : List (Option Bool) => l.getD 0 none) T.kb_Grid⟩
  mcalX_mk T.cl_Grid T.mx_Grid___eq__ sc_Grid__eq__ st_Grid__eq__ T.bl fun X FX ds M Q E hl ⟨g, i, d, c, j, o, kvs, y, e, a1, a2, ⟨fd, ld, fv⟩, h⟩ TK => by
    subst e
    have eK := FX.hK
    subst eK
    walk_at "body"
    rcases h with ⟨⟨t, hk, hq⟩, q⟩ | ⟨g2, i2, d2, c2, j2, o2, kvs2, e, b1, b2, ⟨fd2, ld2, fv2⟩, q⟩
    · walk_at "gj"
      exact .self q
    · subst e
      walk_at "gj"
      refine ⟨_, rfl, ?_⟩
      walk_at "go"
      refine isb_any (fit_knp fd) ?_
      walk_at "go"
      refine ⟨_, rfl, ?_⟩
      walk_at "go"
      refine isb_any (fit_knp fd2) ?_
      walk_at "go"
      unfold eqGr at q
      refine ⟨fun hb => ?_, fun hb => ?_⟩
      · have hb : isB d = isB d2 := by simpa using hb
        rw [decide_eq_true hb, Bool.true_and] at q
        walk_at "go"
        refine ⟨_, rfl, ?_⟩
        walk_at "go"
        refine ⟨_, rfl, ?_⟩
        walk_at "go"
        refine v_eq_d (fit_pd _ fd ld).1 (fit_pd _ fd2 ld2).1 (fit_pd [] fd ld).2 (fit_pd [] fd2 ld2).2 ?_
        refine ⟨_, rfl, fun he => ?_, fun he => ?_⟩
        · have he : eqD d d2 = true := he
          rw [he, Bool.true_and] at q
          walk_at "go"
          refine ⟨_, rfl, ?_⟩
          walk_at "go"
          refine ⟨_, rfl, ?_⟩
          walk_at "go"
          exact v_eq_dn pdD a2 b2 (fun x hx => fit_pd _ (fv x hx).1 (fv x hx).2) (fun x hx => fit_pd _ (fv2 x hx).1 (fv2 x hx).2) (.self q)
        · have he : eqD d d2 = false := he
          rw [he, Bool.false_and] at q
          exact .self q
      · have hb : isB d ≠ isB d2 := by simpa using hb
        rw [decide_eq_false hb] at q
        walk_at "go"
        exact .self q
/-! drawn plain values -/
def goodV (d : DV) : Bool := fitD d && layD d && Nat.ble (sizeD d) 100
def goodP (d : DV) : Bool := plainD d 4 && layD d && Nat.ble (sizeD d) 100
theorem goodP_V {d : DV} (h : goodP d = true) : goodV d = true := by
  unfold goodP at h
  unfold goodV fitD
  simp only [Bool.and_eq_true, Bool.or_eq_true] at h ⊢
  exact ⟨⟨.inr h.1.1, h.1.2⟩, h.2⟩
theorem getD_mem {xs : List DV} {r : Nat} (h : r < xs.length) : xs.getD r .non ∈ xs := by
  rw [List.getD_eq_getElem?_getD, List.getElem?_eq_getElem h]
  exact List.getElem_mem h
theorem goodP_is {d : DV} (h : goodP d = true) : plainD d 4 = true ∧ layD d = true ∧ sizeD d ≤ 100 := by
  unfold goodP at h
  simp only [Bool.and_eq_true] at h
  exact ⟨h.1.1, h.1.2, Nat.le_of_ble_eq_true h.2⟩
theorem place_of {x y : DV} (hx : goodP x = true) (hy : goodP y = true) : badP (.tup [x, y]) = none ∧ layD (.tup [x, y]) = true ∧ (pdD (.tup [x, y])).depth ≤ 20 ∧ sizeD (.tup [x, y]) ≤ 1000 := by
  obtain ⟨a1, a2, a3⟩ := goodP_is hx
  obtain ⟨b1, b2, b3⟩ := goodP_is hy
  have c1 := (plain_pd [] x 4 a1).2
  have c2 := (plain_pd [] y 4 b1).2
  refine ⟨by rw [badP, if_pos a1, if_pos b1], ?_, ?_, by rw [sizeD, sizeDs, sizeDs, sizeDs]; omega⟩
  · unfold layD at *
    rw [pdD, pdDs, pdDs, pdDs, PyData.canLay0, PyData.canLayAll0, PyData.canLayAll0, PyData.canLayAll0, a2, b2]; rfl
  · rw [pdD, pdDs, pdDs, pdDs, PyData.depth, PyData.depthAll, PyData.depthAll, PyData.depthAll]; omega
theorem knp_pair {K : Fg} {M : Mm} {x y : DV} (hx : goodP x = true) (hy : goodP y = true) : Knp K M (.tup [x, y]) := .tup fun z hz => by
  rcases List.mem_cons.mp hz with e | e
  · rw [e]; exact plain_knp x 4 (goodP_is hx).1
  · rw [List.mem_singleton.mp e]; exact plain_knp y 4 (goodP_is hy).1
instance spGSet_step {g : Addr} {i : Nat} {d : DV} {c : Addr} {j : Nat} {o : Obj} {kvs : List (DV × DV)} {t v : DV} {M : Mm} {Q : DV → Mm → Prop} {E : Addr → List (Str × DV) → Mm → Prop} [A : AtM M i g (GrI C_Grid d c)] [B : AtM M j c (.dn w o kvs)] : Step (spGSet (w := w) (K := K) (C_Grid := C_Grid) (C_BadValue := C_BadValue) [.ref g, t, v] M Q E) true
    (Side (Knp K M t ∧ sizeD t ≤ 1000000 ∧ Knp K M v ∧ sizeD v ≤ 1000000 ∧ fitD d = true ∧ layD d = true ∧ kvs.length < sizeLine) ((∀ u, badP t = some u → E C_BadValue [("value", u)] M) ∧ (badP t = none → (isB v = isB d → fitD v = false) → E C_BadValue [("value", v)] M) ∧ (badP t = none → isB v = isB d → fitD v = true → layD v = true ∧ ∀ o', Q .non (M.set j (c, .dn w o' (setG kvs d t v)))))) := ⟨fun _ q => ⟨g, i, d, c, j, o, kvs, t, v, rfl, A, B, q.a, q.b.1, q.b.2.1, q.b.2.2⟩⟩
theorem at_ne {M : Mm} {i j : Nat} {a b : Addr} {o u : MO} (h1 : AtM M i a o) (h2 : AtM M j b u) (h : o ≠ u) : i ≠ j := fun e => by
  subst e
  have := h1.ix.symm.trans h2.ix
  injection this with this
  injection this with _ z
  exact h z
/-! dicts of flags: each value is the flag that is not the default -/
def keysN (kvs : List (DV × DV)) : List NK := kvs.map fun x => keyP x.1
structure Fl (b : Bool) (kvs : List (DV × DV)) : Prop where
  gk : ∀ x ∈ kvs, badP x.1 = none ∧ x.2 = .bl (!b)
  nd : (keysN kvs).Nodup
  sz : ∀ x ∈ kvs, sizeD x.1 ≤ 1000
theorem nk_good {d : DV} (h : badP d = none) : nkD d = some (keyP d) := by
  obtain ⟨x, y, kx, ky, rfl, _, _, _, _, _, _, e1, e2, _⟩ := good_place h
  rw [e1]; exact e2
theorem Fl.nil {b : Bool} : Fl b [] := ⟨fun x h => (nomatch h), List.nodup_nil, fun x h => (nomatch h)⟩
theorem Fl.at_ {b : Bool} {kvs : List (DV × DV)} (F : Fl b kvs) {x : DV × DV} (h : x ∈ kvs) : nkD x.1 = some (keyP x.1) := nk_good (F.gk x h).1
theorem Fl.kix {b : Bool} {kvs : List (DV × DV)} (F : Fl b kvs) {k : NK} {j : Nat} (h : kix kvs k = some j) : ∃ hj : j < kvs.length, keyP (kvs[j]).1 = k := by
  unfold G.kix at h
  obtain ⟨hj, h1, _⟩ := List.findIdx?_eq_some_iff_getElem.mp h
  refine ⟨hj, ?_⟩
  have h1 := of_decide_eq_true h1
  rw [F.at_ (List.getElem_mem hj)] at h1
  exact Option.some.inj h1
theorem Fl.kix_none {b : Bool} {kvs : List (DV × DV)} (F : Fl b kvs) {k : NK} (h : G.kix kvs k = none) : k ∉ keysN kvs := by
  unfold G.kix at h
  rw [List.findIdx?_eq_none_iff] at h
  intro hm
  obtain ⟨x, hx, e⟩ := List.mem_map.mp hm
  have := h x hx
  rw [F.at_ hx, e] at this
  simp at this
theorem Fl.get {b : Bool} {kvs : List (DV × DV)} (F : Fl b kvs) (k : NK) : kget kvs k = if k ∈ keysN kvs then some (.bl (!b)) else none := by
  unfold kget
  cases h : G.kix kvs k with
  | none => rw [if_neg (F.kix_none h)]; rfl
  | some j =>
    obtain ⟨hj, e⟩ := F.kix h
    have hm : k ∈ keysN kvs := List.mem_map.mpr ⟨kvs[j], List.getElem_mem hj, e⟩
    rw [if_pos hm]
    show (kvs[j]?).map (·.2) = _
    rw [List.getElem?_eq_getElem hj]
    show some (kvs[j]).2 = _
    rw [(F.gk _ (List.getElem_mem hj)).2]
theorem erase_map {α β : Type} (f : α → β) : ∀ (l : List α) (j : Nat), (l.map f).eraseIdx j = (l.eraseIdx j).map f
  | [], _ => rfl
  | _ :: _, 0 => rfl
  | a :: l, j + 1 => by rw [List.map_cons, List.eraseIdx_cons_succ, List.eraseIdx_cons_succ, List.map_cons, erase_map f l j]
/-- same keys -/
def SameK (a b : List (DV × DV)) : Prop := ∀ k, k ∈ keysN a ↔ k ∈ keysN b
theorem nodup_len {l l' : List NK} (h : l.Nodup) (s : ∀ x ∈ l, x ∈ l') : l.length ≤ l'.length := by
  induction l generalizing l' with
  | nil => simp
  | cons a l ih =>
    rw [List.nodup_cons] at h
    have ha := s a List.mem_cons_self
    have := ih h.2 (l' := l'.erase a) fun x hx => by
      have hne : x ≠ a := fun e => h.1 (e ▸ hx)
      exact (List.mem_erase_of_ne hne).mpr (s x (List.mem_cons_of_mem _ hx))
    rw [List.length_erase_of_mem ha] at this
    have hl : 0 < l'.length := List.length_pos_of_mem ha
    rw [List.length_cons]
    omega
theorem keysN_len {kvs : List (DV × DV)} : (keysN kvs).length = kvs.length := List.length_map ..
theorem SameK.len {a c : List (DV × DV)} {b : Bool} (s : SameK a c) (F : Fl b a) (G' : Fl b c) : a.length = c.length := by
  have h1 := nodup_len F.nd fun x hx => (s x).mp hx
  have h2 := nodup_len G'.nd fun x hx => (s x).mpr hx
  rw [keysN_len, keysN_len] at h1 h2
  omega
theorem eqv_bl (a b : Bool) : PyData.eqv (pdD (.bl a)) (pdD (.bl b)) = decide (a = b) := by cases a <;> cases b <;> decide +kernel
theorem SameK.eq {a c : List (DV × DV)} {b : Bool} (s : SameK a c) (F : Fl b a) (F' : Fl b c) : eqN pdD a c = true := by
  unfold eqN
  rw [Bool.and_eq_true]
  refine ⟨by simpa using s.len F F', List.all_eq_true.mpr fun x hx => ?_⟩
  rw [F.at_ hx]
  show (match kget c (keyP x.1) with | none => false | some v => PyData.eqv (pdD x.2) (pdD v)) = true
  rw [F'.get, if_pos ((s _).mp (List.mem_map.mpr ⟨x, hx, rfl⟩)), (F.gk x hx).2]
  show PyData.eqv (pdD (.bl (!b))) (pdD (.bl (!b))) = true
  rw [eqv_bl]; simp
theorem eqN_len {f : DV → PyData} {a c : List (DV × DV)} (h : a.length ≠ c.length) : eqN f a c = false := by
  unfold eqN
  rw [show (a.length == c.length) = false by simpa using h, Bool.false_and]
theorem Fl.del {b : Bool} {kvs : List (DV × DV)} (F : Fl b kvs) (k : NK) : Fl b (kdel kvs k) ∧ (∀ x, x ∈ keysN (kdel kvs k) ↔ x ∈ keysN kvs ∧ x ≠ k) ∧ (k ∈ keysN kvs → (kdel kvs k).length + 1 = kvs.length) ∧ (k ∉ keysN kvs → kdel kvs k = kvs) := by
  unfold kdel
  cases h : G.kix kvs k with
  | none =>
    have hn := F.kix_none h
    exact ⟨F, fun x => ⟨fun hx => ⟨hx, fun e => hn (e ▸ hx)⟩, fun hx => hx.1⟩, fun hm => absurd hm hn, fun _ => rfl⟩
  | some j =>
    obtain ⟨hj, e⟩ := F.kix h
    have hm : k ∈ keysN kvs := List.mem_map.mpr ⟨kvs[j], List.getElem_mem hj, e⟩
    have ek : keysN (kvs.eraseIdx j) = (keysN kvs).eraseIdx j := (erase_map _ _ _).symm
    have hj' : j < (keysN kvs).length := by rw [keysN_len]; exact hj
    have eg : (keysN kvs)[j] = k := by simp only [keysN, List.getElem_map]; exact e
    show Fl b (kvs.eraseIdx j) ∧ (∀ x, x ∈ keysN (kvs.eraseIdx j) ↔ _) ∧ (_ → (kvs.eraseIdx j).length + 1 = _) ∧ _
    refine ⟨⟨fun x hx => F.gk x (List.mem_of_mem_eraseIdx hx), by rw [ek]; exact F.nd.sublist (List.eraseIdx_sublist _ _), fun x hx => F.sz x (List.mem_of_mem_eraseIdx hx)⟩, fun x => ?_, fun _ => by rw [List.length_eraseIdx_of_lt hj]; omega, fun hn => absurd hm hn⟩
    rw [ek, List.mem_eraseIdx_iff_getElem]
    constructor
    · rintro ⟨i, hi, hne, rfl⟩
      refine ⟨List.getElem_mem hi, fun z => hne ?_⟩
      exact (List.getElem_inj F.nd).mp (z.trans eg.symm)
    · rintro ⟨hx, hne⟩
      obtain ⟨i, hi, rfl⟩ := List.mem_iff_getElem.mp hx
      exact ⟨i, hi, fun z => hne (by subst z; exact eg), rfl⟩
theorem Fl.put {b : Bool} {kvs : List (DV × DV)} {t : DV} (F : Fl b kvs) (ht : badP t = none) (hz : sizeD t ≤ 1000) : Fl b (kput kvs (keyP t) t (.bl (!b))) ∧ (∀ x, x ∈ keysN (kput kvs (keyP t) t (.bl (!b))) ↔ x ∈ keysN kvs ∨ x = keyP t) ∧ (kput kvs (keyP t) t (.bl (!b))).length ≤ kvs.length + 1 ∧ (keyP t ∉ keysN kvs → (kput kvs (keyP t) t (.bl (!b))).length = kvs.length + 1) := by
  unfold kput
  cases h : G.kix kvs (keyP t) with
  | none =>
    have hn := F.kix_none h
    show Fl b (kvs ++ [(t, .bl (!b))]) ∧ _
    have ek : keysN (kvs ++ [(t, .bl (!b))]) = keysN kvs ++ [keyP t] := by unfold keysN; rw [List.map_append]; rfl
    refine ⟨⟨fun x hx => ?_, ?_, fun x hx => ?_⟩, fun x => ?_, by simp, fun _ => by simp⟩
    · rcases List.mem_append.mp hx with z | z
      · exact F.gk x z
      · rw [List.mem_singleton.mp z]; exact ⟨ht, rfl⟩
    · rw [ek, List.nodup_append]
      refine ⟨F.nd, by simp, fun a ha b hb e => hn ?_⟩
      rw [List.mem_singleton.mp hb] at e
      rw [← e]; exact ha
    · rcases List.mem_append.mp hx with z | z
      · exact F.sz x z
      · rw [List.mem_singleton.mp z]; exact hz
    · show x ∈ keysN (kvs ++ [(t, .bl (!b))]) ↔ _
      rw [ek, List.mem_append, List.mem_singleton]
  | some j =>
    obtain ⟨hj, e⟩ := F.kix h
    have hm : keyP t ∈ keysN kvs := List.mem_map.mpr ⟨kvs[j], List.getElem_mem hj, e⟩
    have eM : kvs.modify j (fun kv => (kv.1, DV.bl (!b))) = kvs := by
      refine List.ext_getElem? fun i => ?_
      rw [List.getElem?_modify]
      by_cases hi : j = i
      · subst hi
        rw [List.getElem?_eq_getElem hj]
        have := (F.gk _ (List.getElem_mem hj)).2
        simp [← this]
      · simp [hi]
    show Fl b (kvs.modify j _) ∧ (∀ x, x ∈ keysN (kvs.modify j _) ↔ _) ∧ (kvs.modify j _).length ≤ _ ∧ (_ → (kvs.modify j _).length = _)
    rw [eM]
    exact ⟨F, fun x => ⟨fun h => .inl h, fun h => h.elim id fun e => by rw [e]; exact hm⟩, by omega, fun hn => absurd hm hn⟩
theorem setG_fl {b v : Bool} {kvs : List (DV × DV)} {t : DV} (F : Fl b kvs) (ht : badP t = none) (hz : sizeD t ≤ 1000) : Fl b (setG kvs (.bl b) t (.bl v)) ∧ (∀ x, x ∈ keysN (setG kvs (.bl b) t (.bl v)) ↔ if v = b then x ∈ keysN kvs ∧ x ≠ keyP t else x ∈ keysN kvs ∨ x = keyP t) ∧ (setG kvs (.bl b) t (.bl v)).length ≤ kvs.length + 1 := by
  unfold setG eqD
  rw [eqv_bl]
  by_cases h : v = b
  · subst h
    simp only [decide_true, if_true]
    have d := F.del (keyP t)
    refine ⟨d.1, d.2.1, ?_⟩
    by_cases hm : keyP t ∈ keysN kvs
    · have := d.2.2.1 hm; omega
    · rw [d.2.2.2 hm]; omega
  · rw [decide_eq_false h, if_neg (by simp)]
    have e : v = !b := by cases v <;> cases b <;> simp_all
    subst e
    have d := F.put ht hz
    refine ⟨d.1, fun x => ?_, d.2.2.1⟩
    rw [if_neg h]
    exact d.2.1 x
theorem valG_fl {b : Bool} {kvs : List (DV × DV)} {t : DV} (F : Fl b kvs) : valG kvs (.bl b) t = .bl (if keyP t ∈ keysN kvs then !b else b) := by
  unfold valG
  rw [F.get]
  by_cases h : keyP t ∈ keysN kvs
  · rw [if_pos h, if_pos h]; rfl
  · rw [if_neg h, if_neg h]; rfl
theorem ok_fl {b : Bool} {kvs : List (DV × DV)} (F : Fl b kvs) : okG (.bl b) kvs := ⟨rfl, by cases b <;> decide +kernel, fun x hx => by rw [(F.gk x hx).2]; exact ⟨rfl, by cases b <;> decide +kernel⟩⟩
instance spOne_step {a b : Addr} {i j : Nat} {n c : Int} {xs : List DV} {M : Mm} {Q : DV → Mm → Prop} [A : AtM M i a (Wel n c)] [B : AtM M j b (.lst xs)] : Step (spOne [.ref a, .ref b] M Q) true (Side (j ≠ i ∧ 0 < xs.length ∧ xs.length < 1000) (∀ r n' c', r < xs.length → Q (xs.getD r .non) (M.set i (a, Wel n' c')))) := ⟨fun _ q => ⟨a, i, n, c, b, j, xs, rfl, A, B, q.a.1, q.a.2.1, q.a.2.2, q.b⟩⟩
/-- _law_marks -/
def spMarks : SpD := fun ds M Q => ∃ a i n c, ds = [.ref a] ∧ AtM M i a (Wel n c) ∧ ∀ d n' c', goodP d = true → Q d (M.set i (a, Wel n' c'))
theorem int_good (n : Int) : goodP (.int n) = true := by simp [goodP, plainD, layD, pdD, PyData.canLay0, sizeD]
theorem ok_marks (T : Tx K mg C_Grid C_BadValue) : Cal P w K mg base "_law_marks" 3 1 spMarks :=
  have := ok_one (P := P) (w := w) (base := base) T
  have := ok_draw (P := P) (w := w) (base := base) T
  cal_mk T.f_l_marks sc_l_marks st_l_marks T.bl fun X FX ds M Q hl ⟨a, i, n, c, e, hA, q⟩ => by
    subst e
    walk_at "body"
    walk_at "gs"
    rename_i r0 n0 c0 q0 q1 p
    refine Side.mk ⟨by omega, by simp, by simp⟩ fun r n' c' hr => ?_
    have h : goodP (([.int 0, .int 1, .str "a", .str "b", .non, .tup [], .tup [.int 1, .str "a"], .int r0, .tup [.tup [.int 2], .str "c"]] : List DV).getD r .non) = true := by
      have hm := getD_mem hr
      generalize List.getD _ r DV.non = d at hm
      simp only [List.mem_cons, List.not_mem_nil, or_false] at hm
      rcases hm with rfl | rfl | rfl | rfl | rfl | rfl | rfl | rfl | rfl <;> first | exact int_good _ | decide +kernel
    exact ⟨_, by walk_at "sub", q _ _ _ h⟩
instance spMarks_step {a : Addr} {i : Nat} {n c : Int} {M : Mm} {Q : DV → Mm → Prop} [A : AtM M i a (Wel n c)] : Step (spMarks [.ref a] M Q) true (∀ d n' c', goodP d = true → Q d (M.set i (a, Wel n' c'))) := ⟨fun _ q => ⟨a, i, n, c, rfl, A, q⟩⟩
/-- _law_grid -/
def spLGrid : SpD := fun ds M Q => ∃ wl i n c0 m, ds = [.ref wl, .int m] ∧ AtM M i wl (Wel n c0) ∧ 0 ≤ m ∧ m < 1000 ∧ ∀ b kvs g c cc o o2 n' c', Fl b kvs → kvs.length ≤ m.toNat → Q (.tup [.ref g, .ref cc, .bl b]) ((cc, .dn w o2 kvs) :: (c, .dn w o kvs) :: (g, GrI C_Grid (.bl b) c) :: M.set i (wl, Wel n' c'))
theorem ok_lgrid (T : Tx K mg C_Grid C_BadValue) : Cal P w K mg base "_law_grid" 9 2 (spLGrid (w := w) (C_Grid := C_Grid)) :=
  have := ok_marks (P := P) (w := w) (base := base) T
  have := ok_draw (P := P) (w := w) (base := base) T
  have := ok_gset (P := P) (w := w) (base := base) T
  have MK1 := mk_grid1 (P := P) (w := w) (base := base) T
  cal_mk T.f_l_grid sc_l_grid st_l_grid T.bl fun X FX ds M Q hl ⟨wl, i, n, c0, m, e, hA, m0, m1, q⟩ => by
    subst e
    have eK := FX.hK
    subst eK
    have TK : ∀ Y : Cy, Tk Y (fun _ _ _ _ => False) := fun _ => Tk.none
    walk_at "body"
    walk_at "1"
    walk_at "1"
    walk_at "go"
    rename_i r0 n0 c1 q0 q1
    generalize decide (r0 = 0) = b
    have hj : 4 + 1 ≤ 8 := by decide
    with_reducible refine ws_join (fun ρ1 M1 => ∃ g c cc o, ρ1 = [some (.ref wl), some (.int m), some (.bl b), some (.ref g), some (.ref cc), none, none, none] ∧ M1 = (cc, .dk []) :: (c, .dn w o []) :: (g, GrI C_Grid (.bl b) c) :: M.set i (wl, Wel n0 c1)) ?_ ?_
    · refine ws_p2 rfl rfl ?_
      walk_at "1"
      refine we_makeX FX (TK X) MK1 hj MemC.h rfl ?_
      walk_at "gj"
      refine ⟨rfl, fun g => ⟨g, 0, .bl b, rfl, AtM.iH, .bl _, by simp [sizeD], fun _ c o => ⟨rfl, ?_⟩, fun z => by cases z⟩⟩
      dsimp only [List.set]
      walk_at "gj"
      exact ⟨g, c, _, o, rfl, rfl⟩
    rintro ρ1 M1 ⟨g, c, cc, o, rfl, rfl⟩
    refine wss_toDn (w := w) (i := 0) (q := cc) AtM.iH fun o2 => ?_
    dsimp only [List.set]
    walk_at "1"
    with_reducible refine ws_for FX ?gn (wi_range1 FX MemC.h MemC.h ?gn2 ?_)
    case gn => exact rfl
    case gn2 => exact rfl
    walk_at "go"
    refine ⟨by omega, by omega, fun ii ρ1 M1 => ∃ o1 o2 o3 kvs oa ob n2 c2, ρ1 = [some (.ref wl), some (.int m), some (.bl b), some (.ref g), some (.ref cc), o1, o2, o3] ∧ M1 = (cc, .dn w ob kvs) :: (c, .dn w oa kvs) :: (g, GrI C_Grid (.bl b) c) :: M.set i (wl, Wel n2 c2) ∧ Fl b kvs ∧ kvs.length ≤ ii, .self ⟨_, _, _, [], _, _, _, _, rfl, rfl, .nil, Nat.le_refl _⟩, ?_, ?_, ?_⟩
    · exact fun _ _ _ _ _ => True.intro
    · rintro ii ρ1 M1 hi ⟨o1, o2, o3, kvs, oa, ob, n2, c2, rfl, rfl, F, hk⟩
      dsimp only
      walk_at "1"
      walk_at "1"
      with_reducible refine ws_join (fun ρ1 M1 => ∃ x y n' c', ρ1 = [some (.ref wl), some (.int m), some (.bl b), some (.ref g), some (.ref cc), some (.int (0 + ii)), some (.tup [x, y]), o3] ∧ M1 = (cc, .dn w ob kvs) :: (c, .dn w oa kvs) :: (g, GrI C_Grid (.bl b) c) :: M.set i (wl, Wel n' c') ∧ goodP x = true ∧ goodP y = true) ?_ ?_
      · walk_at "go"
        rename_i x n3 c3 hx y n4 c4 hy
        dsimp only [List.set]
        rw [List.set_set, List.set_set]
        exact ⟨x, y, _, _, rfl, rfl, hx, hy⟩
      rintro ρ1 M1 ⟨x, y, n3, c3, rfl, rfl, hx, hy⟩
      obtain ⟨hp1, hp2, hp3, hp4⟩ := place_of hx hy
      walk_at "1"
      with_reducible refine ws_join (fun ρ1 M1 => ∃ v n' c', ρ1 = [some (.ref wl), some (.int m), some (.bl b), some (.ref g), some (.ref cc), some (.int (0 + ii)), some (.tup [x, y]), some (.bl v)] ∧ M1 = (cc, .dn w ob kvs) :: (c, .dn w oa kvs) :: (g, GrI C_Grid (.bl b) c) :: M.set i (wl, Wel n' c')) ?_ ?_
      · walk_at "go"
        dsimp only [List.set]
        rw [List.set_set]
        exact ⟨_, _, _, rfl, rfl⟩
      rintro ρ1 M1 ⟨v, n4, c4, rfl, rfl⟩
      obtain ⟨x', y', kx, ky, ee, _, _, n1', l1, n2', l2, e1, e2, e3⟩ := good_place hp1
      cases ee
      have : NKC (.tup [x, y]) (.tup [kx, ky]) 6 := ⟨e2, e3⟩
      have F1 := setG_fl (v := v) F hp1 hp4
      walk_at "1"
      with_reducible refine ws_join (fun ρ1 M1 => ∃ o', ρ1 = [some (.ref wl), some (.int m), some (.bl b), some (.ref g), some (.ref cc), some (.int (0 + ii)), some (.tup [x, y]), some (.bl v)] ∧ M1 = (cc, .dn w ob kvs) :: (c, .dn w o' (setG kvs (.bl b) (.tup [x, y]) (.bl v))) :: (g, GrI C_Grid (.bl b) c) :: M.set i (wl, Wel n4 c4)) ?_ ?_
      · walk_at "go"
        refine Side.mk ⟨knp_pair hx hy, by omega, .bl _, by simp [sizeD], rfl, by cases b <;> decide +kernel, by rw [sizeLine_eq]; omega⟩ ⟨fun u hu => (by rw [hp1] at hu; cases hu), fun _ hf => (by have := hf rfl; cases this), fun _ _ _ => ⟨by cases v <;> decide +kernel, fun o' => ?_⟩⟩
        dsimp only [List.set]
        exact ⟨o', rfl, rfl⟩
      rintro ρ1 M1 ⟨o', rfl, rfl⟩
      walk_at "go"
      have hset : setG kvs (.bl b) (.tup [x, y]) (.bl v) = if v = b then kdel kvs (.tup [kx, ky]) else kput kvs (.tup [kx, ky]) (.tup [x, y]) (.bl v) := by
        unfold setG eqD
        rw [eqv_bl, e1]
        simp
      have hl3 : kvs.length < sizeLine := by rw [sizeLine_eq]; omega
      rw [hset] at F1 ⊢
      refine ⟨fun h => ?_, fun h => ?_⟩
      · have h := of_decide_eq_true h
        rw [if_pos h] at F1 ⊢
        walk_at "go"
        refine Side.mk (fun hn => ?_) fun vd hn o2' => ?_
        · walk_at "go"
          have hd := (F.del (.tup [kx, ky])).2.2.2 fun hm => (by rw [F.get, if_pos hm] at hn; cases hn)
          rw [hd] at F1 ⊢
          exact .self ⟨_, _, _, kvs, _, _, _, _, rfl, rfl, F, by omega⟩
        · walk_at "go"
          exact .self ⟨_, _, _, _, _, _, _, _, rfl, rfl, F1.1, by have := F1.2.2; omega⟩
      · have h := of_decide_eq_false h
        rw [if_neg h] at F1 ⊢
        walk_at "go"
        exact .self ⟨_, _, _, _, _, _, _, _, rfl, rfl, F1.1, by have := F1.2.2; omega⟩
    · rintro ρ1 M1 ⟨o1, o2, o3, kvs, oa, ob, n2, c2, rfl, rfl, F, hk⟩
      walk_at "go"
      exact .self (q _ _ _ _ _ _ _ _ _ F hk)
/-- _law_again -/
def spAgain : SpD := fun ds M Q => ∃ cc j o2 kvs b pl i ps, ds = [.ref cc, .bl b, .ref pl] ∧ AtM M j cc (.dn w o2 kvs) ∧ AtM M i pl (.lst ps) ∧ Fl b kvs ∧ kvs.length < 1000 ∧ ps.length = kvs.length ∧ (∀ p ∈ ps, badP p = none ∧ sizeD p ≤ 1000 ∧ keyP p ∈ keysN kvs) ∧ (∀ k ∈ keysN kvs, ∃ p ∈ ps, keyP p = k) ∧
  ∀ g c o kvs', Fl b kvs' → SameK kvs kvs' → Q (.ref g) ((c, .dn w o kvs') :: (g, GrI C_Grid (.bl b) c) :: M)
theorem good_knp {K : Fg} {M : Mm} {d : DV} (h : badP d = none) : Knp K M d := by
  obtain ⟨x, y, kx, ky, rfl, p1, p2, _⟩ := good_place h
  exact .tup fun z hz => by
    rcases List.mem_cons.mp hz with e | e
    · rw [e]; exact plain_knp x 4 p1
    · rw [List.mem_singleton.mp e]; exact plain_knp y 4 p2
theorem ok_again (T : Tx K mg C_Grid C_BadValue) : Cal P w K mg base "_law_again" 9 3 (spAgain (w := w) (C_Grid := C_Grid)) :=
  have := ok_gset (P := P) (w := w) (base := base) T
  have MK1 := mk_grid1 (P := P) (w := w) (base := base) T
  cal_mk T.f_l_again sc_l_again st_l_again T.bl fun X FX ds M Q hl ⟨cc, j, o2, kvs, b, pl, i, ps, e, hA, hB, F, hk, hps, hg, hc, q⟩ => by
    subst e
    have eK := FX.hK
    subst eK
    have TK : ∀ Y : Cy, Tk Y (fun _ _ _ _ => False) := fun _ => Tk.none
    have hj : 4 + 1 ≤ 8 := by decide
    walk_at "body"
    walk_at "1"
    walk_at "1"
    refine we_makeX FX (TK X) MK1 hj MemC.h rfl ?_
    walk_at "gj"
    refine ⟨rfl, fun g => ⟨g, 0, .bl b, rfl, AtM.iH, .bl _, by simp [sizeD], fun _ c o => ⟨rfl, ?_⟩, fun z => by cases z⟩⟩
    dsimp only [List.set]
    walk_at "1"
    walk_at "1"
    with_reducible refine ws_for FX ?gn (wi_list ?_)
    case gn => exact rfl
    walk_at "go"
    refine Side.mk (by rw [List.length_reverse, sizeLine_eq]; omega) fun pL => ?_
    rename_i pr
    have hL : ∀ p ∈ ps ++ ps.reverse, badP p = none ∧ sizeD p ≤ 1000 ∧ keyP p ∈ keysN kvs := fun p hp => by
      rcases List.mem_append.mp hp with z | z
      · exact hg p z
      · exact hg p (List.mem_reverse.mp z)
    have hC : ∀ k ∈ keysN kvs, ∃ p ∈ ps ++ ps.reverse, keyP p = k := fun k hk => by
      obtain ⟨p, h1, h2⟩ := hc k hk
      exact ⟨p, List.mem_append_left _ h1, h2⟩
    have hN : (ps ++ ps.reverse).length < 2000 := by rw [List.length_append, List.length_reverse]; omega
    generalize ps ++ ps.reverse = L at hL hC hN
    refine ⟨_, _, _, rfl, inferInstance, fun ii ρ1 M1 => ∃ o5 oa kvs', ρ1 = [some (.ref cc), some (.bl b), some (.ref pl), some (.ref g), o5] ∧ M1 = (pL, .lst L) :: (c, .dn w oa kvs') :: (g, GrI C_Grid (.bl b) c) :: M ∧ Fl b kvs' ∧ (∀ k, k ∈ keysN kvs' ↔ ∃ p ∈ L.take ii, keyP p = k), ⟨_, .cons₂ _ (.cons _ (.refl _)), _, _, [], rfl, rfl, .nil, fun k => by simp [keysN]⟩, ?_, ?_, ?_⟩
    · rintro ii ρ1 M1 _ ⟨_, _, _, _, rfl, _⟩
      exact ⟨_, inferInstance⟩
    · rintro ii ρ1 M1 hi ⟨o5, oa, kvs', rfl, rfl, F', hk'⟩
      have hi : ii < L.length := hi
      dsimp only
      have hm : L[ii] ∈ L := List.getElem_mem hi
      obtain ⟨h1, h2, h3⟩ := hL _ hm
      rw [show L.getD ii .non = L[ii] by rw [List.getD_eq_getElem?_getD, List.getElem?_eq_getElem hi]; rfl]
      have hT : L.take (ii + 1) = L.take ii ++ [L[ii]] := List.take_succ_eq_append_getElem hi
      generalize L[ii] = p at h1 h2 h3 hT
      have hl : kvs'.length ≤ kvs.length := by
        have := nodup_len F'.nd (l' := keysN kvs) fun k hk1 => by
          obtain ⟨p', z1, z2⟩ := (hk' k).mp hk1
          rw [← z2]; exact (hL p' (List.mem_of_mem_take z1)).2.2
        rw [keysN_len, keysN_len] at this
        exact this
      obtain ⟨x, y, kx, ky, ee, _, _, n1', l1, n2', l2, e1, e2, e3⟩ := good_place h1
      have kp := good_knp (K := X.K) (M := (pL, .lst L) :: (c, .dn w oa kvs') :: (g, GrI C_Grid (.bl b) c) :: M) h1
      subst ee
      have : NKC (.tup [x, y]) (.tup [kx, ky]) 6 := ⟨e2, e3⟩
      have hv : kget kvs (.tup [kx, ky]) = some (.bl (!b)) := by rw [F.get, if_pos (by rw [← e1]; exact h3)]
      walk_at "1"
      walk_at "go"
      refine ⟨_, hv, _, rfl, ?_⟩
      rw [Bool.not_not]
      walk_at "go"
      have F1 := setG_fl (v := b) F' h1 h2
      refine Side.mk ⟨kp, by omega, .bl _, by simp [sizeD], rfl, by cases b <;> decide +kernel, by rw [sizeLine_eq]; omega⟩ ⟨fun u hu => (by rw [h1] at hu; cases hu), fun _ hf => (by have := hf rfl; cases this), fun _ _ _ => ⟨by cases b <;> decide +kernel, fun o' => ?_⟩⟩
      dsimp only [List.set]
      generalize hk1 : setG kvs' (.bl b) (.tup [x, y]) (.bl b) = kvs1 at F1
      have F2 := setG_fl (v := !b) F1.1 h1 h2
      walk_at "go"
      refine ⟨_, hv, ?_⟩
      walk_at "go"
      refine Side.mk ⟨good_knp h1, by omega, .bl _, by simp [sizeD], rfl, by cases b <;> decide +kernel, by rw [sizeLine_eq]; have := F1.2.2; omega⟩ ⟨fun u hu => (by rw [h1] at hu; cases hu), fun _ hf => (by have := hf rfl; cases this), fun _ _ _ => ⟨by cases b <;> decide +kernel, fun o'' => ?_⟩⟩
      dsimp only [List.set]
      walk_at "go"
      refine .self ⟨_, _, _, rfl, rfl, F2.1, fun k => ?_⟩
      rw [F2.2.1, if_neg (by cases b <;> simp), F1.2.1, if_pos rfl, hk', hT]
      simp only [List.mem_append, List.mem_singleton]
      constructor
      · rintro (⟨⟨p', z1, z2⟩, _⟩ | z)
        · exact ⟨p', .inl z1, z2⟩
        · exact ⟨_, .inr rfl, z.symm⟩
      · rintro ⟨p', z1 | z1, z2⟩
        · by_cases hkk : k = keyP (.tup [x, y])
          · exact .inr hkk
          · exact .inl ⟨⟨p', z1, z2⟩, hkk⟩
        · subst z1; exact .inr z2.symm
    · rintro ρ1 M1 ⟨o5, oa, kvs', rfl, rfl, F', hk'⟩
      walk_at "go"
      refine ⟨_, .cons _ (.refl _), q _ _ _ _ F' fun k => ?_⟩
      rw [hk', List.take_length]
      exact ⟨fun hk => hC k hk, fun ⟨p, z1, z2⟩ => by rw [← z2]; exact (hL p z1).2.2⟩
theorem eqGr_same {b : Bool} {kvs kvs2 : List (DV × DV)} (F : Fl b kvs) (F2 : Fl b kvs2) (S : SameK kvs kvs2) : eqGr (.bl b) kvs (.bl b) kvs2 = true := by
  unfold eqGr eqD
  rw [S.eq F F2, eqv_bl]
  simp
theorem eqGr_len {b b2 : Bool} {kvs kvs2 : List (DV × DV)} (h : kvs.length ≠ kvs2.length) : eqGr (.bl b) kvs (.bl b2) kvs2 = false := by
  unfold eqGr
  rw [eqN_len h]
  simp
theorem eqGr_not {b : Bool} {kvs kvs2 : List (DV × DV)} : eqGr (.bl b) kvs (.bl (!b)) kvs2 = false := by
  unfold eqGr eqD
  rw [eqv_bl]
  cases b <;> simp
theorem SameK.symm {a b : List (DV × DV)} (s : SameK a b) : SameK b a := fun k => (s k).symm
def NotT (K : Fg) (C_Grid : Addr) (M : Mm) (y : DV) : Prop := ∃ a, KtD K M y (.type a) ∧ BtyD a ∧ KitT K (.type a) C_Grid false
/-- a place changed, and changed back -/
theorem flip {b : Bool} {kvs : List (DV × DV)} {p : DV} (F : Fl b kvs) (hp : badP p = none) (hz : sizeD p ≤ 1000) : ∃ v kvs3 kvs4, valG kvs (.bl b) p = .bl v ∧ setG kvs (.bl b) p (.bl (!v)) = kvs3 ∧ Fl b kvs3 ∧ kvs3.length ≠ kvs.length ∧ kvs3.length ≤ kvs.length + 1 ∧ valG kvs3 (.bl b) p = .bl (!v) ∧ setG kvs3 (.bl b) p (.bl v) = kvs4 ∧ Fl b kvs4 ∧ SameK kvs kvs4 := by
  refine ⟨if keyP p ∈ keysN kvs then !b else b, _, setG (setG kvs (.bl b) p (.bl (!(if keyP p ∈ keysN kvs then !b else b)))) (.bl b) p (.bl (if keyP p ∈ keysN kvs then !b else b)), valG_fl F, rfl, ?_⟩
  by_cases hm : keyP p ∈ keysN kvs
  · simp only [if_pos hm, Bool.not_not]
    have F1 := setG_fl (v := b) F hp hz
    have hn : keyP p ∉ keysN (setG kvs (.bl b) p (.bl b)) := fun z => by
      have z := (F1.2.1 _).mp z
      rw [if_pos rfl] at z
      exact z.2 rfl
    have F2 := setG_fl (v := !b) F1.1 hp hz
    have hl : (setG kvs (.bl b) p (.bl b)).length + 1 = kvs.length := by
      have e : setG kvs (.bl b) p (.bl b) = kdel kvs (keyP p) := by unfold setG eqD; rw [eqv_bl]; simp
      rw [e]; exact (F.del _).2.2.1 hm
    refine ⟨F1.1, by omega, F1.2.2, by rw [valG_fl F1.1, if_neg hn], True.intro, F2.1, fun k => ?_⟩
    rw [F2.2.1, if_neg (by cases b <;> simp), F1.2.1, if_pos rfl]
    constructor
    · intro z
      by_cases e : k = keyP p
      · exact .inr e
      · exact .inl ⟨z, e⟩
    · rintro (z | z)
      · exact z.1
      · rw [z]; exact hm
  · simp only [if_neg hm]
    have F1 := setG_fl (v := !b) F hp hz
    have hi : keyP p ∈ keysN (setG kvs (.bl b) p (.bl (!b))) := by
      rw [F1.2.1, if_neg (by cases b <;> simp)]
      exact .inr rfl
    have F2 := setG_fl (v := b) F1.1 hp hz
    have hl : (setG kvs (.bl b) p (.bl (!b))).length = kvs.length + 1 := by
      have e : setG kvs (.bl b) p (.bl (!b)) = kput kvs (keyP p) p (.bl (!b)) := by unfold setG eqD; rw [eqv_bl]; cases b <;> simp
      rw [e]; exact (F.put hp hz).2.2.2 hm
    refine ⟨F1.1, by omega, F1.2.2, by rw [valG_fl F1.1, if_pos hi], True.intro, F2.1, fun k => ?_⟩
    rw [F2.2.1, if_pos rfl, F1.2.1, if_neg (by cases b <;> simp)]
    constructor
    · intro z
      exact ⟨.inl z, fun e => hm (e ▸ z)⟩
    · rintro ⟨z | z, e⟩
      · exact z
      · exact absurd z e
/-- _law_right -/
def spRight6 : SpD := fun ds M Q => ∃ wl i n c0, ds = [.ref wl] ∧ AtM M i wl (Wel n c0) ∧ ∀ n c, Q (.bl true) (M.set i (wl, Wel n c))
theorem ok_right6 (T : Tx K mg C_Grid C_BadValue) : Cal P w K mg base "_law_right" 10 1 spRight6 :=
  have := ok_marks (P := P) (w := w) (base := base) T
  have := ok_draw (P := P) (w := w) (base := base) T
  have := ok_gset (P := P) (w := w) (base := base) T
  have := ok_gget (P := P) (w := w) (base := base) T
  have := ok_geq (P := P) (w := w) (base := base) T
  have := ok_lgrid (P := P) (w := w) (base := base) T
  have := ok_again (P := P) (w := w) (base := base) T
  have := T.in_Grid
  have := T.ne_Grid
  have MK1 := mk_grid1 (P := P) (w := w) (base := base) T
  cal_mk T.f_l_right sc_l_right st_l_right T.bl fun X FX ds M Q hl ⟨wl, i, n, c0, e, hA, q⟩ => by
    subst e
    have eK := FX.hK
    subst eK
    have TK : ∀ Y : Cy, Tk Y (fun _ _ _ _ => False) := fun _ => Tk.none
    have hj : 4 + 1 ≤ 9 := by decide
    walk_at "body"
    walk_at "1"
    walk_at "1"
    walk_at "go"
    rename_i r0 n1 c1 q0 q1
    refine ⟨wl, i, _, _, r0, rfl, inferInstance, q0, by omega, fun b kvs g c cc o o2 n2 c2 F hk => ?_⟩
    rw [List.set_set]
    have hk : kvs.length < 100 := by omega
    walk_at "go"
    rename_i pl pr
    refine ⟨cc, 2, o2, kvs, b, pr, 0, _, rfl, inferInstance, AtM.iH, F, by omega, by simp, fun p hp => ?_, fun k hk => ?_, fun g2 cB oB kvs2 F2 S => ?_⟩
    · obtain ⟨x, hx, rfl⟩ := List.mem_map.mp (List.mem_reverse.mp hp)
      exact ⟨(F.gk x hx).1, F.sz x hx, List.mem_map.mpr ⟨x, hx, rfl⟩⟩
    · obtain ⟨x, hx, rfl⟩ := List.mem_map.mp hk
      exact ⟨x.1, List.mem_reverse.mpr (List.mem_map.mpr ⟨x, hx, rfl⟩), rfl⟩
    walk_at "go"
    refine ⟨g, 6, _, c, 5, o, kvs, .ref g2, rfl, inferInstance, inferInstance, ok_fl F, .inr ⟨g2, 1, _, cB, 0, oB, kvs2, rfl, inferInstance, inferInstance, ok_fl F2, ?_⟩⟩
    rw [eqGr_same F F2 S]
    refine ⟨_, rfl, ?_⟩
    walk_at "gj"
    refine ⟨g, 6, _, c, 5, o, kvs, .ref g2, rfl, inferInstance, inferInstance, ok_fl F, .inr ⟨g2, 1, _, cB, 0, oB, kvs2, rfl, inferInstance, inferInstance, ok_fl F2, ?_⟩⟩
    rw [eqGr_same F F2 S]
    refine ⟨_, rfl, ?_⟩
    walk_at "gj"
    refine ⟨g2, 1, _, cB, 0, oB, kvs2, .ref g, rfl, inferInstance, inferInstance, ok_fl F2, .inr ⟨g, 6, _, c, 5, o, kvs, rfl, inferInstance, inferInstance, ok_fl F, ?_⟩⟩
    rw [eqGr_same F2 F S.symm]
    refine ⟨_, rfl, ?_⟩
    refine ⟨_, rfl, fun z => Bool.noConfusion z, fun _ => ?_⟩
    walk_at "1"
    walk_at "1"
    with_reducible refine ws_join (fun ρ1 M1 => ∃ x y n' c', ρ1 = [some (.ref wl), some (.ref g), some (.ref cc), some (.bl b), some (.ref g2), some (.tup [x, y]), none] ∧ M1 = (cB, .dn w oB kvs2) :: (g2, GrI C_Grid (.bl b) cB) :: (pr, .lst (List.map (fun x => x.1) kvs).reverse) :: (pl, .lst (List.map (fun x => x.1) kvs)) :: (cc, .dn w o2 kvs) :: (c, .dn w o kvs) :: (g, GrI C_Grid (.bl b) c) :: M.set i (wl, Wel n' c') ∧ goodP x = true ∧ goodP y = true) ?_ ?_
    · walk_at "go"
      rename_i x n3 c3 hx y n4 c4 hy
      dsimp only [List.set]
      rw [List.set_set, List.set_set]
      exact ⟨x, y, _, _, rfl, rfl, hx, hy⟩
    rintro ρ1 M1 ⟨x, y, n3, c3, rfl, rfl, hx, hy⟩
    obtain ⟨hp1, hp2, hp3, hp4⟩ := place_of hx hy
    generalize hpl : DV.tup [x, y] = p at hp1 hp4
    walk_at "go"
    obtain ⟨v, kvs3, kvs4, v1, s1, F3, l3, l3', v3, s3, F4, S4⟩ := flip F2 hp1 hp4
    have lS := S.len F F2
    refine ⟨g2, 1, _, cB, 0, oB, kvs2, p, rfl, inferInstance, inferInstance, good_knp hp1, by omega, fun _ => ?_, fun u hu => (by rw [hp1] at hu; cases hu)⟩
    rw [v1]
    refine ⟨_, rfl, ?_⟩
    walk_at "go"
    refine Side.mk ⟨good_knp hp1, by omega, .bl _, by simp [sizeD], rfl, by cases b <;> decide +kernel, by rw [sizeLine_eq]; omega⟩ ⟨fun u hu => (by rw [hp1] at hu; cases hu), fun _ hf => (by have := hf rfl; cases this), fun _ _ _ => ⟨by cases v <;> decide +kernel, fun oC => ?_⟩⟩
    dsimp only [List.set]
    rw [s1]
    walk_at "go"
    refine ⟨g, 6, _, c, 5, o, kvs, .ref g2, rfl, inferInstance, inferInstance, ok_fl F, .inr ⟨g2, 1, _, cB, 0, oC, kvs3, rfl, inferInstance, inferInstance, ok_fl F3, ?_⟩⟩
    rw [eqGr_len (by omega)]
    refine ⟨_, rfl, ?_⟩
    walk_at "gj"
    refine ⟨g2, 1, _, cB, 0, oC, kvs3, .ref g, rfl, inferInstance, inferInstance, ok_fl F3, .inr ⟨g, 6, _, c, 5, o, kvs, rfl, inferInstance, inferInstance, ok_fl F, ?_⟩⟩
    rw [eqGr_len (by omega)]
    refine ⟨_, rfl, ?_⟩
    walk_at "gj"
    refine we_makeX FX (TK X) MK1 hj MemC.h rfl ?_
    walk_at "gj"
    refine ⟨rfl, fun g3 => ⟨g3, 0, .bl (!b), rfl, AtM.iH, .bl _, by simp [sizeD], fun _ cC oD => ⟨rfl, ?_⟩, fun z => by cases z⟩⟩
    dsimp only [List.set]
    walk_at "gj"
    refine ⟨g, 8, _, c, 7, o, kvs, .ref g3, rfl, inferInstance, inferInstance, ok_fl F, .inr ⟨g3, 1, _, cC, 0, oD, [], rfl, inferInstance, inferInstance, ok_fl Fl.nil, ?_⟩⟩
    rw [eqGr_not]
    refine ⟨_, rfl, ?_⟩
    walk_at "gj"
    refine ⟨g2, 3, _, cB, 2, oC, kvs3, p, rfl, inferInstance, inferInstance, good_knp hp1, by omega, fun _ => ?_, fun u hu => (by rw [hp1] at hu; cases hu)⟩
    rw [v3]
    refine ⟨_, rfl, ?_⟩
    rw [Bool.not_not]
    walk_at "go"
    refine Side.mk ⟨good_knp hp1, by omega, .bl _, by simp [sizeD], rfl, by cases b <;> decide +kernel, by rw [sizeLine_eq]; omega⟩ ⟨fun u hu => (by rw [hp1] at hu; cases hu), fun _ hf => (by have := hf rfl; cases this), fun _ _ _ => ⟨by cases v <;> decide +kernel, fun oE => ?_⟩⟩
    dsimp only [List.set]
    rw [s3]
    walk_at "go"
    refine ⟨g, 8, _, c, 7, o, kvs, .ref g2, rfl, inferInstance, inferInstance, ok_fl F, .inr ⟨g2, 3, _, cB, 2, oE, kvs4, rfl, inferInstance, inferInstance, ok_fl F4, ?_⟩⟩
    rw [eqGr_same F F4 (fun k => (S k).trans (S4 k))]
    refine ⟨_, rfl, ?_⟩
    walk_at "gj"
    with_reducible refine we_lc1 (i := 6) (ms := [false, true, false, false, false, false, false]) (L' := ["_law_thing"]) (C' := []) (Gs' := []) FX ?lc ?nst ?lf ?_
    case lc => exact ⟨rfl, .inl MemC.h, by decide +kernel, by decide +kernel, by decide +kernel⟩
    case nst => exact rfl
    case lf => exact Nat.le_refl 1
    with_reducible refine wi_list ?_
    walk_at "go"
    rename_i pd pe pt
    refine ⟨_, _, _, rfl, inferInstance, fun D => ⟨fun ii M2 => M2 = (D, .lst []) :: (pt, .lst [.non, .int 0, .bl false, .bl true, .ref pd, .ref cc, .ref pe, .str "grid", .tup [.ref g]]) :: (pe, .lst []) :: (pd, .dk []) :: (cC, .dn w oD []) :: (g3, GrI C_Grid (.bl (!b)) cC) :: (cB, .dn w oE kvs4) :: (g2, GrI C_Grid (.bl b) cB) :: (pr, .lst (List.map (fun x => x.1) kvs).reverse) :: (pl, .lst (List.map (fun x => x.1) kvs)) :: (cc, .dn w o2 kvs) :: (c, .dn w o kvs) :: (g, GrI C_Grid (.bl b) c) :: M.set i (wl, Wel n3 c3), .self rfl, ?_, ?_, ?_⟩⟩
    · rintro ii M2 _ rfl
      exact ⟨_, inferInstance⟩
    · rintro ii M2 hi rfl
      have hi : ii < 9 := hi
      have hN : NotT X.K C_Grid ((D, .lst []) :: (pt, .lst [.non, .int 0, .bl false, .bl true, .ref pd, .ref cc, .ref pe, .str "grid", .tup [.ref g]]) :: (pe, .lst []) :: (pd, .dk []) :: (cC, .dn w oD []) :: (g3, GrI C_Grid (.bl (!b)) cC) :: (cB, .dn w oE kvs4) :: (g2, GrI C_Grid (.bl b) cB) :: (pr, .lst (List.map (fun x => x.1) kvs).reverse) :: (pl, .lst (List.map (fun x => x.1) kvs)) :: (cc, .dn w o2 kvs) :: (c, .dn w o kvs) :: (g, GrI C_Grid (.bl b) c) :: M.set i (wl, Wel n3 c3)) (([.non, .int 0, .bl false, .bl true, .ref pd, .ref cc, .ref pe, .str "grid", .tup [.ref g]] : List DV).getD ii .non) := by
        have kb : ∀ j, ((([.ref C_Grid, .type "NoneType", .type "bool", .type "int", .type "str", .type "tuple", .type "list", .type "dict"] : List Value).map fun t => PySem.W.kitOne X.K t (.ref C_Grid)).getD j none) = [some true, some false, some false, some false, some false, some false, some false, some false].getD j none := fun j => congrArg (fun l : List (Option Bool) => l.getD j none) T.kb_Grid
        match ii, hi with
        | 0, _ => exact ⟨"NoneType", inferInstanceAs (KtD _ _ .non _), inferInstance, ⟨kb 1⟩⟩
        | 1, _ => exact ⟨"int", inferInstanceAs (KtD _ _ (.int 0) _), inferInstance, ⟨kb 3⟩⟩
        | 2, _ => exact ⟨"bool", inferInstanceAs (KtD _ _ (.bl false) _), inferInstance, ⟨kb 2⟩⟩
        | 3, _ => exact ⟨"bool", inferInstanceAs (KtD _ _ (.bl true) _), inferInstance, ⟨kb 2⟩⟩
        | 4, _ => exact ⟨"dict", inferInstanceAs (KtD _ _ (.ref pd) _), inferInstance, ⟨kb 7⟩⟩
        | 5, _ => exact ⟨"dict", inferInstanceAs (KtD _ _ (.ref cc) _), inferInstance, ⟨kb 7⟩⟩
        | 6, _ => exact ⟨"list", inferInstanceAs (KtD _ _ (.ref pe) _), inferInstance, ⟨kb 6⟩⟩
        | 7, _ => exact ⟨"str", inferInstanceAs (KtD _ _ (.str "grid") _), inferInstance, ⟨kb 4⟩⟩
        | 8, _ => exact ⟨"tuple", inferInstanceAs (KtD _ _ (.tup [.ref g]) _), inferInstance, ⟨kb 5⟩⟩
      dsimp only [mask]
      generalize ([.non, .int 0, .bl false, .bl true, .ref pd, .ref cc, .ref pe, .str "grid", .tup [.ref g]] : List DV).getD ii .non = th at hN
      obtain ⟨ta, t1, t2, t3⟩ := hN
      walk_at "1"
      walk_at "go"
      refine ⟨g, 12, _, c, 11, o, kvs, th, rfl, inferInstance, inferInstance, ok_fl F, .inl ⟨⟨_, t1, t3⟩, ?_⟩⟩
      refine ⟨_, rfl, _, rfl, fun z => Bool.noConfusion z, fun _ => ?_⟩
      exact .self rfl
    · rintro M2 rfl
      walk_at "go"
      exact ⟨M.set i (wl, Wel n3 c3), by walk_at "sub", q _ _⟩
/-- law -/
theorem cut_ints (ns : List Int) (lo hi : Option Int) : cutD (ns.map DV.int) lo hi = (cutD ns lo hi).map DV.int := by
  unfold cutD
  rw [List.length_map, List.map_take, List.map_drop]
theorem cut_len {α : Type} (ns : List α) (lo hi : Option Int) : (cutD ns lo hi).length ≤ ns.length := by
  unfold cutD
  rw [List.length_take, List.length_drop]
  omega
theorem getD_ints {ns : List Int} {i : Nat} (h : i < ns.length) : (ns.map DV.int).getD i .non = .int ns[i] := by
  rw [List.getD_eq_getElem?_getD, List.getElem?_map, List.getElem?_eq_getElem h]
  rfl
theorem ok_law (T : Tx K mg C_Grid C_BadValue) {f : Addr} {fd : FuncData} (F : Fun K "law" "law" s_law f fd) : FnOk P w K mg base CX0 11 f fd ["_law_script"] (spLawL K) :=
  have := ok_well (P := P) (w := w) (base := base) T
  have := ok_right6 (P := P) (w := w) (base := base) T
  have := ok_gset (P := P) (w := w) (base := base) T
  have := ok_geq (P := P) (w := w) (base := base) T
  have := T.in_Grid
  have := T.ne_Grid
  have MK0 := mk_grid0 (P := P) (w := w) (base := base) T
  have MK1 := mk_grid1 (P := P) (w := w) (base := base) T
  law_ok F sc_law st_law T.bl fun X FX ns hn => by
    have eK := FX.hK
    subst eK
    have TK : ∀ Y : Cy, Tk Y (fun _ _ _ _ => False) := fun _ => Tk.none
    have hj : 4 + 1 ≤ 10 := by decide
    walk_at "body"
    walk_at "1"
    with_reducible refine ws_for FX ?gns (wi_list ?_)
    case gns => exact rfl
    walk_at "go"
    rw [cut_ints, show [DV.int 0] = ([0] : List Int).map DV.int from rfl, ← List.map_append]
    have hc := cut_len ns none (some 6)
    refine Side.mk (by rw [List.length_map, List.length_map, sizeLine_eq]; simp; omega) ?_
    intro pl
    generalize hcs : cutD ns none (some 6) ++ [0] = cs
    refine ⟨_, _, _, rfl, inferInstance, fun i1 ρ1 M1 => (∃ o1, ρ1 = [some (DV.lis (List.map DV.int ns)), o1, none, none, none]) ∧ M1 = [(pl, MO.lst (cs.map DV.int))], ⟨[(pl, MO.lst (cs.map DV.int))], by walk_at "sub", ⟨_, rfl⟩, rfl⟩, ?_, ?_, ?_⟩
    · rintro i1 ρ1 M1 _ ⟨_, rfl⟩
      exact ⟨_, inferInstance⟩
    · rintro i1 ρ1 M1 hi ⟨⟨o1, rfl⟩, rfl⟩
      dsimp only
      rw [getD_ints (by simpa using hi)]
      generalize cs[i1]'(by simpa using hi) = cell
      walk_at "1"
      walk_at "1"
      walk_at "go"
      rename_i wl
      refine ⟨wl, 0, cell, 0, rfl, AtM.iH, fun n c => ?_⟩
      dsimp only [List.set]
      walk_at "gj"
      exact ⟨_, .cons _ (.refl _), ⟨_, rfl⟩, rfl⟩
    · rintro ρ1 M1 ⟨⟨o1, rfl⟩, rfl⟩
      walk_at "1"
      refine ws_p3 rfl rfl ?_
      walk_at "1"
      refine we_makeX FX (TK X) MK1 hj MemC.h rfl ?_
      walk_at "gj"
      refine ⟨rfl, fun g1 => ⟨g1, 0, .non, rfl, AtM.iH, .non, by simp [sizeD], fun _ c1 o1' => ⟨rfl, ?_⟩, fun z => by cases z⟩⟩
      dsimp only [List.set]
      walk_at "gs"
      refine we_makeX FX (TK X) MK1 hj MemC.h rfl ?_
      walk_at "gj"
      refine ⟨rfl, fun g2 => ⟨g2, 0, .non, rfl, AtM.iH, .non, by simp [sizeD], fun _ c2 o2' => ⟨rfl, ?_⟩, fun z => by cases z⟩⟩
      dsimp only [List.set]
      walk_at "gs"
      refine we_makeX FX (TK X) MK1 hj MemC.h rfl ?_
      walk_at "gj"
      refine ⟨rfl, fun g3 => ⟨g3, 0, .int 0, rfl, AtM.iH, .int 0, by simp [sizeD], fun _ c3 o3' => ⟨rfl, ?_⟩, fun z => by cases z⟩⟩
      dsimp only [List.set]
      walk_at "go"
      have tk : ∀ M, Knp X.K M (.tup [.str "a", .str "b"]) := fun M => .tup fun x hx => by simp at hx; rcases hx with rfl | rfl <;> exact .str _
      have z0 : okG .non [] := ⟨rfl, by decide +kernel, fun x hx => (nomatch hx)⟩
      have z1 : okG .non [(.tup [.str "a", .str "b"], .str "c")] := ⟨rfl, by decide +kernel, fun x hx => by rw [List.mem_singleton.mp hx]; exact ⟨rfl, by decide +kernel⟩⟩
      have z2 : okG (.int 0) [] := ⟨rfl, by decide +kernel, fun x hx => (nomatch hx)⟩
      have z3 : okG (.int 1) [] := ⟨rfl, by decide +kernel, fun x hx => (nomatch hx)⟩
      have es : setG [] .non (.tup [.str "a", .str "b"]) (.str "c") = [(.tup [.str "a", .str "b"], .str "c")] := by
        unfold setG
        rw [show eqD (.str "c") .non = false by decide +kernel]
        rfl
      refine Side.mk ⟨tk _, by simp [sizeD, sizeDs], .str _, by simp [sizeD], rfl, by decide +kernel, by show 0 < sizeLine; rw [sizeLine_eq]; decide⟩ ⟨fun u hu => (by simp [badP, plainD] at hu), fun _ hf => (by have := hf rfl; cases this), fun _ _ _ => ⟨by decide +kernel, fun oA => ?_⟩⟩
      dsimp only [List.set]
      rw [es]
      walk_at "gj"
      refine ⟨g1, 5, .non, c1, 4, oA, [(.tup [.str "a", .str "b"], .str "c")], .ref g2, rfl, inferInstance, inferInstance, z1, .inr ⟨g2, 3, .non, c2, 2, o2', [], rfl, inferInstance, inferInstance, z0, ?_⟩⟩
      rw [show eqGr .non [(.tup [.str "a", .str "b"], .str "c")] .non [] = false by decide +kernel]
      refine ⟨_, rfl, ?_⟩
      walk_at "gj"
      refine we_makeX FX (TK X) MK1 hj MemC.h rfl ?_
      walk_at "gj"
      refine ⟨rfl, fun g4 => ⟨g4, 0, .bl false, rfl, AtM.iH, .bl _, by simp [sizeD], fun _ c4 o4' => ⟨rfl, ?_⟩, fun z => by cases z⟩⟩
      dsimp only [List.set]
      walk_at "gj"
      refine ⟨g3, 3, (.int 0), c3, 2, o3', [], .ref g4, rfl, inferInstance, inferInstance, z2, .inr ⟨g4, 1, (.bl false), c4, 0, o4', [], rfl, inferInstance, inferInstance, (ok_fl Fl.nil), ?_⟩⟩
      rw [show eqGr (.int 0) [] (.bl false) [] = false by decide +kernel]
      refine ⟨_, rfl, ?_⟩
      walk_at "gj"
      refine we_makeX FX (TK X) MK1 hj MemC.h rfl ?_
      walk_at "gj"
      refine ⟨rfl, fun g5 => ⟨g5, 0, .int 0, rfl, AtM.iH, .int 0, by simp [sizeD], fun _ c5 o5' => ⟨rfl, ?_⟩, fun z => by cases z⟩⟩
      dsimp only [List.set]
      walk_at "gj"
      refine ⟨g3, 5, (.int 0), c3, 4, o3', [], .ref g5, rfl, inferInstance, inferInstance, z2, .inr ⟨g5, 1, (.int 0), c5, 0, o5', [], rfl, inferInstance, inferInstance, z2, ?_⟩⟩
      rw [show eqGr (.int 0) [] (.int 0) [] = true by decide +kernel]
      refine ⟨_, rfl, ?_⟩
      walk_at "gj"
      refine we_makeX FX (TK X) MK1 hj MemC.h rfl ?_
      walk_at "gj"
      refine ⟨rfl, fun g6 => ⟨g6, 0, .int 1, rfl, AtM.iH, .int 1, by simp [sizeD], fun _ c6 o6' => ⟨rfl, ?_⟩, fun z => by cases z⟩⟩
      dsimp only [List.set]
      walk_at "gj"
      refine we_makeX FX (TK X) MK1 hj MemC.h rfl ?_
      walk_at "gj"
      refine ⟨rfl, fun g7 => ⟨g7, 0, .bl true, rfl, AtM.iH, .bl _, by simp [sizeD], fun _ c7 o7' => ⟨rfl, ?_⟩, fun z => by cases z⟩⟩
      dsimp only [List.set]
      walk_at "gj"
      refine ⟨g6, 3, (.int 1), c6, 2, o6', [], .ref g7, rfl, inferInstance, inferInstance, z3, .inr ⟨g7, 1, (.bl true), c7, 0, o7', [], rfl, inferInstance, inferInstance, (ok_fl Fl.nil), ?_⟩⟩
      rw [show eqGr (.int 1) [] (.bl true) [] = false by decide +kernel]
      refine ⟨_, rfl, ?_⟩
      walk_at "gj"
      refine ⟨g1, 13, .non, c1, 12, oA, [(.tup [.str "a", .str "b"], .str "c")], .ref g3, rfl, inferInstance, inferInstance, z1, .inr ⟨g3, 9, (.int 0), c3, 8, o3', [], rfl, inferInstance, inferInstance, z2, ?_⟩⟩
      rw [show eqGr .non [(.tup [.str "a", .str "b"], .str "c")] (.int 0) [] = false by decide +kernel]
      refine ⟨_, rfl, ?_⟩
      walk_at "gj"
      refine Side.mk ⟨tk _, by simp [sizeD, sizeDs], .str _, by simp [sizeD], rfl, by decide +kernel, by show 0 < sizeLine; rw [sizeLine_eq]; decide⟩ ⟨fun u hu => (by simp [badP, plainD] at hu), fun _ hf => (by have := hf rfl; cases this), fun _ _ _ => ⟨by decide +kernel, fun oB => ?_⟩⟩
      dsimp only [List.set]
      rw [es]
      walk_at "gj"
      refine ⟨g1, 13, .non, c1, 12, oA, [(.tup [.str "a", .str "b"], .str "c")], .ref g2, rfl, inferInstance, inferInstance, z1, .inr ⟨g2, 11, .non, c2, 10, oB, [(.tup [.str "a", .str "b"], .str "c")], rfl, inferInstance, inferInstance, z1, ?_⟩⟩
      rw [show eqGr .non [(.tup [.str "a", .str "b"], .str "c")] .non [(.tup [.str "a", .str "b"], .str "c")] = true by decide +kernel]
      refine ⟨_, rfl, ?_⟩
      walk_at "gj"
      with_reducible refine we_makeX0 FX MK0 ?hj1 ?hx1 ?_
      case hj1 => exact (by decide)
      case hx1 => exact MemC.h
      refine fun g8 => ⟨g8, 0, .bl false, rfl, AtM.iH, .bl _, by simp [sizeD], fun _ c8 o8' => ⟨rfl, ?_⟩, fun z => by cases z⟩
      dsimp only [List.set]
      walk_at "gj"
      refine we_makeX FX (TK X) MK1 hj MemC.h rfl ?_
      walk_at "gj"
      refine ⟨rfl, fun g9 => ⟨g9, 0, .bl false, rfl, AtM.iH, .bl _, by simp [sizeD], fun _ c9 o9' => ⟨rfl, ?_⟩, fun z => by cases z⟩⟩
      dsimp only [List.set]
      walk_at "gj"
      refine ⟨g8, 3, .bl false, c8, 2, o8', [], .ref g9, rfl, inferInstance, inferInstance, ok_fl Fl.nil, .inr ⟨g9, 1, .bl false, c9, 0, o9', [], rfl, inferInstance, inferInstance, ok_fl Fl.nil, ?_⟩⟩
      rw [show eqGr (.bl false) [] (.bl false) [] = true by decide +kernel]
      exact ⟨_, rfl, rfl⟩
end
theorem all_mk {l : PySem.W.OpenLaw} {w : World} {K : PySem.W.Frag} {h : Heap} {mg : Str → Option Value} {fa C_Grid C_BadValue dt_Grid : Addr} (X : K.In h) (G : h.Ns mainGlobals mg) (hfa : mg "law" = some (.ref fa))
    {f0 f1 f2 f3 f4 f5 f6 f7 f8 f9 f10 f11 f12 f13 f14 f15 f16 f17 f18 f19 f20 f21 f22 : Addr} {od0 od1 od2 od3 od4 od5 od6 od7 od8 od9 od10 od11 od12 od13 od14 od15 od16 od17 od18 od19 od20 od21 od22 an0 an1 an2 an3 an4 an5 an6 an7 an8 an9 an10 an11 an12 an13 an14 an15 an16 an17 an18 an19 an20 an21 an22 : Option Addr} {sl0 sl1 sl2 sl3 sl4 sl5 sl6 sl7 sl8 sl9 sl10 sl11 sl12 sl13 sl14 sl15 sl16 sl17 sl18 sl19 sl20 sl21 sl22 : Array (Option Value)} {oc0 kV0 dc0 pm0 cd0 ct0 oc1 kV1 dc1 pm1 cd1 ct1 oc2 kV2 dc2 pm2 cd2 ct2 oc3 kV3 dc3 pm3 cd3 ct3 oc4 kV4 dc4 pm4 cd4 ct4 oc5 kV5 dc5 pm5 cd5 ct5 oc6 kV6 dc6 pm6 cd6 ct6 oc7 kV7 dc7 pm7 cd7 ct7 oc8 kV8 dc8 pm8 cd8 ct8 oc9 kV9 dc9 pm9 cd9 ct9 oc10 kV10 dc10 pm10 cd10 ct10 oc11 kV11 dc11 pm11 cd11 ct11 oc12 kV12 dc12 pm12 cd12 ct12 oc13 kV13 dc13 pm13 cd13 ct13 oc14 kV14 dc14 pm14 cd14 ct14 oc15 kV15 dc15 pm15 cd15 ct15 oc16 kV16 dc16 pm16 cd16 ct16 oc17 kV17 dc17 pm17 cd17 ct17 oc18 kV18 dc18 pm18 cd18 ct18 oc19 kV19 dc19 pm19 cd19 ct19 oc20 kV20 dc20 pm20 cd20 ct20 oc21 kV21 dc21 pm21 cd21 ct21 oc22 kV22 dc22 pm22 cd22 ct22 : Value}
    (a0 : PySem.W.nsIn K mainGlobals "is_integer" = some (some (.ref f0)))
    (l0 : K.lookup f0 = some ⟨oc0, od0, .func (PySem.W.fnOf "is_integer" "is_integer" (defArgs s_is_integer) (defBody s_is_integer) (defScope s_is_integer) .none kV0 dc0 pm0 an0 cd0 ct0), sl0⟩) (c0 : PySem.W.codeIn K cd0 "is_integer" = true) (k0 : PySem.W.keepIn K (.ref f0) = true)
    (a1 : PySem.W.nsIn K mainGlobals "is_plain" = some (some (.ref f1)))
    (l1 : K.lookup f1 = some ⟨oc1, od1, .func (PySem.W.fnOf "is_plain" "is_plain" (defArgs s_is_plain) (defBody s_is_plain) (defScope s_is_plain) .none kV1 dc1 pm1 an1 cd1 ct1), sl1⟩) (c1 : PySem.W.codeIn K cd1 "is_plain" = true) (k1 : PySem.W.keepIn K (.ref f1) = true)
    (a2 : PySem.W.nsIn K mainGlobals "is_place" = some (some (.ref f2)))
    (l2 : K.lookup f2 = some ⟨oc2, od2, .func (PySem.W.fnOf "is_place" "is_place" (defArgs s_is_place) (defBody s_is_place) (defScope s_is_place) .none kV2 dc2 pm2 an2 cd2 ct2), sl2⟩) (c2 : PySem.W.codeIn K cd2 "is_place" = true) (k2 : PySem.W.keepIn K (.ref f2) = true)
    (a3 : PySem.W.nsIn K mainGlobals "_law_well" = some (some (.ref f3)))
    (l3 : K.lookup f3 = some ⟨oc3, od3, .func (PySem.W.fnOf "_law_well" "_law_well" (defArgs s_l_well) (defBody s_l_well) (defScope s_l_well) .none kV3 dc3 pm3 an3 cd3 ct3), sl3⟩) (c3 : PySem.W.codeIn K cd3 "_law_well" = true) (k3 : PySem.W.keepIn K (.ref f3) = true)
    (a4 : PySem.W.nsIn K mainGlobals "_law_draw" = some (some (.ref f4)))
    (l4 : K.lookup f4 = some ⟨oc4, od4, .func (PySem.W.fnOf "_law_draw" "_law_draw" (defArgs s_l_draw) (defBody s_l_draw) (defScope s_l_draw) .none kV4 dc4 pm4 an4 cd4 ct4), sl4⟩) (c4 : PySem.W.codeIn K cd4 "_law_draw" = true) (k4 : PySem.W.keepIn K (.ref f4) = true)
    (a5 : PySem.W.nsIn K mainGlobals "_law_one" = some (some (.ref f5)))
    (l5 : K.lookup f5 = some ⟨oc5, od5, .func (PySem.W.fnOf "_law_one" "_law_one" (defArgs s_l_one) (defBody s_l_one) (defScope s_l_one) .none kV5 dc5 pm5 an5 cd5 ct5), sl5⟩) (c5 : PySem.W.codeIn K cd5 "_law_one" = true) (k5 : PySem.W.keepIn K (.ref f5) = true)
    (a6 : PySem.W.nsIn K mainGlobals "_law_marks" = some (some (.ref f6)))
    (l6 : K.lookup f6 = some ⟨oc6, od6, .func (PySem.W.fnOf "_law_marks" "_law_marks" (defArgs s_l_marks) (defBody s_l_marks) (defScope s_l_marks) .none kV6 dc6 pm6 an6 cd6 ct6), sl6⟩) (c6 : PySem.W.codeIn K cd6 "_law_marks" = true) (k6 : PySem.W.keepIn K (.ref f6) = true)
    (a7 : PySem.W.nsIn K mainGlobals "_law_grid" = some (some (.ref f7)))
    (l7 : K.lookup f7 = some ⟨oc7, od7, .func (PySem.W.fnOf "_law_grid" "_law_grid" (defArgs s_l_grid) (defBody s_l_grid) (defScope s_l_grid) .none kV7 dc7 pm7 an7 cd7 ct7), sl7⟩) (c7 : PySem.W.codeIn K cd7 "_law_grid" = true) (k7 : PySem.W.keepIn K (.ref f7) = true)
    (a8 : PySem.W.nsIn K mainGlobals "_law_again" = some (some (.ref f8)))
    (l8 : K.lookup f8 = some ⟨oc8, od8, .func (PySem.W.fnOf "_law_again" "_law_again" (defArgs s_l_again) (defBody s_l_again) (defScope s_l_again) .none kV8 dc8 pm8 an8 cd8 ct8), sl8⟩) (c8 : PySem.W.codeIn K cd8 "_law_again" = true) (k8 : PySem.W.keepIn K (.ref f8) = true)
    (a9 : PySem.W.nsIn K mainGlobals "_law_right" = some (some (.ref f9)))
    (l9 : K.lookup f9 = some ⟨oc9, od9, .func (PySem.W.fnOf "_law_right" "_law_right" (defArgs s_l_right) (defBody s_l_right) (defScope s_l_right) .none kV9 dc9 pm9 an9 cd9 ct9), sl9⟩) (c9 : PySem.W.codeIn K cd9 "_law_right" = true) (k9 : PySem.W.keepIn K (.ref f9) = true)
    (a10 : PySem.W.nsIn K mainGlobals "want_plain" = some (some (.ref f10)))
    (l10 : K.lookup f10 = some ⟨oc10, od10, .func (PySem.W.fnOf "want_plain" "want_plain" (defArgs s_want_plain) (defBody s_want_plain) (defScope s_want_plain) .none kV10 dc10 pm10 an10 cd10 ct10), sl10⟩) (c10 : PySem.W.codeIn K cd10 "want_plain" = true) (k10 : PySem.W.keepIn K (.ref f10) = true)
    (a11 : PySem.W.nsIn K mainGlobals "want_place" = some (some (.ref f11)))
    (l11 : K.lookup f11 = some ⟨oc11, od11, .func (PySem.W.fnOf "want_place" "want_place" (defArgs s_want_place) (defBody s_want_place) (defScope s_want_place) .none kV11 dc11 pm11 an11 cd11 ct11), sl11⟩) (c11 : PySem.W.codeIn K cd11 "want_place" = true) (k11 : PySem.W.keepIn K (.ref f11) = true)
    (a12 : PySem.W.findIn K (.ref C_Grid) "__setitem__" = some (some (.ref f12))) (i12 : PySem.W.isFn K (.ref f12) = true)
    (l12 : K.lookup f12 = some ⟨oc12, od12, .func (PySem.W.fnOf "__setitem__" "Grid.__setitem__" (defArgs s_Grid__setitem__) (defBody s_Grid__setitem__) (defScope s_Grid__setitem__) .none kV12 dc12 pm12 an12 cd12 ct12), sl12⟩) (c12 : PySem.W.codeIn K cd12 "Grid.__setitem__" = true) (k12 : PySem.W.keepIn K (.ref f12) = true)
    (a13 : PySem.W.findIn K (.ref C_Grid) "__getitem__" = some (some (.ref f13))) (i13 : PySem.W.isFn K (.ref f13) = true)
    (l13 : K.lookup f13 = some ⟨oc13, od13, .func (PySem.W.fnOf "__getitem__" "Grid.__getitem__" (defArgs s_Grid__getitem__) (defBody s_Grid__getitem__) (defScope s_Grid__getitem__) .none kV13 dc13 pm13 an13 cd13 ct13), sl13⟩) (c13 : PySem.W.codeIn K cd13 "Grid.__getitem__" = true) (k13 : PySem.W.keepIn K (.ref f13) = true)
    (a14 : PySem.W.findIn K (.ref C_Grid) "__eq__" = some (some (.ref f14))) (i14 : PySem.W.isFn K (.ref f14) = true)
    (l14 : K.lookup f14 = some ⟨oc14, od14, .func (PySem.W.fnOf "__eq__" "Grid.__eq__" (defArgs s_Grid__eq__) (defBody s_Grid__eq__) (defScope s_Grid__eq__) .none kV14 dc14 pm14 an14 cd14 ct14), sl14⟩) (c14 : PySem.W.codeIn K cd14 "Grid.__eq__" = true) (k14 : PySem.W.keepIn K (.ref f14) = true)
    (a15 : PySem.W.findIn K (.ref C_Grid) "__call__" = some (some (.ref f15))) (i15 : PySem.W.isFn K (.ref f15) = true)
    (l15 : K.lookup f15 = some ⟨oc15, od15, .func (PySem.W.fnOf "__call__" "Grid.__call__" (defArgs s_Grid__call__) (defBody s_Grid__call__) (defScope s_Grid__call__) .none kV15 dc15 pm15 an15 cd15 ct15), sl15⟩) (c15 : PySem.W.codeIn K cd15 "Grid.__call__" = true) (k15 : PySem.W.keepIn K (.ref f15) = true)
    (a16 : PySem.W.findIn K (.ref C_Grid) "__contains__" = some (some (.ref f16))) (i16 : PySem.W.isFn K (.ref f16) = true)
    (l16 : K.lookup f16 = some ⟨oc16, od16, .func (PySem.W.fnOf "__contains__" "Grid.__contains__" (defArgs s_Grid__contains__) (defBody s_Grid__contains__) (defScope s_Grid__contains__) .none kV16 dc16 pm16 an16 cd16 ct16), sl16⟩) (c16 : PySem.W.codeIn K cd16 "Grid.__contains__" = true) (k16 : PySem.W.keepIn K (.ref f16) = true)
    (a17 : PySem.W.findIn K (.ref C_Grid) "__len__" = some (some (.ref f17))) (i17 : PySem.W.isFn K (.ref f17) = true)
    (l17 : K.lookup f17 = some ⟨oc17, od17, .func (PySem.W.fnOf "__len__" "Grid.__len__" (defArgs s_Grid__len__) (defBody s_Grid__len__) (defScope s_Grid__len__) .none kV17 dc17 pm17 an17 cd17 ct17), sl17⟩) (c17 : PySem.W.codeIn K cd17 "Grid.__len__" = true) (k17 : PySem.W.keepIn K (.ref f17) = true)
    (a18 : PySem.W.findIn K (.ref C_Grid) "__bool__" = some (some (.ref f18))) (i18 : PySem.W.isFn K (.ref f18) = true)
    (l18 : K.lookup f18 = some ⟨oc18, od18, .func (PySem.W.fnOf "__bool__" "Grid.__bool__" (defArgs s_Grid__bool__) (defBody s_Grid__bool__) (defScope s_Grid__bool__) .none kV18 dc18 pm18 an18 cd18 ct18), sl18⟩) (c18 : PySem.W.codeIn K cd18 "Grid.__bool__" = true) (k18 : PySem.W.keepIn K (.ref f18) = true)
    (a19 : PySem.W.findIn K (.ref C_Grid) "places" = some (some (.ref f19))) (i19 : PySem.W.isFn K (.ref f19) = true)
    (l19 : K.lookup f19 = some ⟨oc19, od19, .func (PySem.W.fnOf "places" "Grid.places" (defArgs s_Grid_places) (defBody s_Grid_places) (defScope s_Grid_places) .none kV19 dc19 pm19 an19 cd19 ct19), sl19⟩) (c19 : PySem.W.codeIn K cd19 "Grid.places" = true) (k19 : PySem.W.keepIn K (.ref f19) = true)
    (a20 : PySem.W.findIn K (.ref C_Grid) "__init__" = some (some (.ref f20))) (i20 : PySem.W.isFn K (.ref f20) = true)
    (l20 : K.lookup f20 = some ⟨oc20, od20, .func (PySem.W.fnOf "__init__" "Grid.__init__" (defArgs s_Grid__init__) (defBody s_Grid__init__) (defScope s_Grid__init__) (.ref dt_Grid) kV20 dc20 pm20 an20 cd20 ct20), sl20⟩) (c20 : PySem.W.codeIn K cd20 "Grid.__init__" = true) (k20 : PySem.W.keepIn K (.ref f20) = true)
    (a21 : PySem.W.findIn K (.ref C_BadValue) "__init__" = some (some (.ref f21))) (i21 : PySem.W.typeIn K (.ref f21) = some (.type "function"))
    (l21 : K.lookup f21 = some ⟨oc21, od21, .func (PySem.W.fnOf "__init__" "BadValue.__init__" (defArgs s_BadValue__init__) (defBody s_BadValue__init__) (defScope s_BadValue__init__) .none kV21 dc21 pm21 an21 cd21 ct21), sl21⟩) (c21 : PySem.W.codeIn K cd21 "BadValue.__init__" = true) (k21 : PySem.W.keepIn K (.ref f21) = true)
    (a22 : PySem.W.nsIn K mainGlobals "law" = some (some (.ref f22)))
    (l22 : K.lookup f22 = some ⟨oc22, od22, .func (PySem.W.fnOf "law" "law" (defArgs s_law) (defBody s_law) (defScope s_law) .none kV22 dc22 pm22 an22 cd22 ct22), sl22⟩) (c22 : PySem.W.codeIn K cd22 "law" = true) (k22 : PySem.W.keepIn K (.ref f22) = true)
    (nq_Grid : PySem.W.noSeq K C_Grid = true)
    {dd_Grid : Option Addr} {dn_Grid : Nat} {ds_Grid : Array (Option Value)} (dl_Grid : K.lookup dt_Grid = some ⟨.type "tuple", dd_Grid, .seq #[.bool false, .none] dn_Grid, ds_Grid⟩)
    (g_Grid : PySem.W.nsIn K mainGlobals "Grid" = some (some (.ref C_Grid))) (pg_Grid : PySem.W.plainGet K C_Grid Str.empty = true) (hd_Grid : PySem.W.hasDictIn K C_Grid = true) (po_Grid : PySem.W.plainOver K C_Grid = true) (sa_Grid : PySem.W.findIn K (.ref C_Grid) "__setattr__" = some (some (.builtin "object.__setattr__"))) (mk_Grid : PySem.W.makesIn K C_Grid = true) (kp_Grid : PySem.W.keepIn K (.ref C_Grid) = true)
    (nf_Grid_default : PySem.W.findIn K (.ref C_Grid) "default" = some none)
    (nf_Grid_cells : PySem.W.findIn K (.ref C_Grid) "cells" = some none)
    {nm_BadValue q_BadValue : Str} {N_BadValue : Addr} {bs_BadValue bm_BadValue : List Value} {sn_BadValue : List Str} {sub_BadValue : List Value} {ab_BadValue : Bool} {col_BadValue : Option Bool} {dd_BadValue : Option Addr} {m0_BadValue m1_BadValue m2_BadValue m3_BadValue m5_BadValue : Option Value} (g_BadValue : PySem.W.nsIn K mainGlobals "BadValue" = some (some (.ref C_BadValue))) (xl_BadValue : K.lookup C_BadValue = some (excClassObj nm_BadValue q_BadValue C_BadValue N_BadValue bs_BadValue bm_BadValue true sn_BadValue sub_BadValue ab_BadValue col_BadValue dd_BadValue m0_BadValue m1_BadValue m2_BadValue m3_BadValue m5_BadValue "ValueError.__new__")) (rv_BadValue : PySem.HandSPX.refsVE bm_BadValue = true) (sa_BadValue : PySem.W.findIn K (.ref C_BadValue) "__setattr__" = some (some (.builtin "object.__setattr__"))) (ga_BadValue : PySem.W.findIn K (.ref C_BadValue) "__getattribute__" = some (some (.builtin "BaseException.__getattribute__"))) (gg_BadValue : PySem.W.findIn K (.ref C_BadValue) "__getattr__" = some none) (nf_BadValue : PySem.W.findIn K (.ref C_BadValue) "value" = some none) (eb_BadValue : PySem.W.subIn K (.ref C_BadValue) (.type "BaseException") = some true) (ty_BadValue : PySem.W.typeIn K (.ref C_BadValue) = some (.type "type")) (kp_BadValue : PySem.W.keepIn K (.ref C_BadValue) = true) (hd_BadValue : PySem.W.hasDictIn K C_BadValue = true)
    (xs_hn : PySem.W.specialIn K (.builtin "object.__class__") "__get__" = some (some (.builtin "getset_descriptor.__get__"))) (xs_ht : PySem.W.takesIn K (.builtin "object.__class__") = some true)
    (xa_Grid : PySem.W.findIn K (.ref C_Grid) "__class__" = some (some (.builtin "object.__class__"))) (xm_Grid : PySem.W.mroIn K C_Grid (.type "object") = some true) (nx_Grid : PySem.W.findIn K (.ref C_Grid) "__ne__" = some (some (.builtin "object.__ne__"))) (kb_Grid : ([.ref C_Grid, .type "NoneType", .type "bool", .type "int", .type "str", .type "tuple", .type "list", .type "dict"] : List Value).map (fun t => PySem.W.kitOne K t (.ref C_Grid)) = [some true, some false, some false, some false, some false, some false, some false, some false])
    (te_BadValue_BadValue : PySem.W.exmOne K (.ref C_BadValue) (.ref C_BadValue) = some true)
    (z_NotImplemented : PySem.W.nsIn K mainGlobals "NotImplemented" = some none)
    (z_TypeError : PySem.W.nsIn K mainGlobals "TypeError" = some none)
    (z_bool : PySem.W.nsIn K mainGlobals "bool" = some none)
    (z_dict : PySem.W.nsIn K mainGlobals "dict" = some none)
    (z_int : PySem.W.nsIn K mainGlobals "int" = some none)
    (z_isinstance : PySem.W.nsIn K mainGlobals "isinstance" = some none)
    (z_len : PySem.W.nsIn K mainGlobals "len" = some none)
    (z_list : PySem.W.nsIn K mainGlobals "list" = some none)
    (z_range : PySem.W.nsIn K mainGlobals "range" = some none)
    (z_repr : PySem.W.nsIn K mainGlobals "repr" = some none)
    (z_sorted : PySem.W.nsIn K mainGlobals "sorted" = some none)
    (z_str : PySem.W.nsIn K mainGlobals "str" = some none)
    (z_tuple : PySem.W.nsIn K mainGlobals "tuple" = some none)
    {q_MOST_DEEP : Tok} (gi_MOST_DEEP : PySem.W.nsIn K mainGlobals "MOST_DEEP" = some (some (.int 4 q_MOST_DEEP)))
    : ∃ fd : FuncData, (∀ (s : Shared) (v : Value), BindsTo s fd ⟨[v], []⟩ [("_law_script", v)]) ∧ ∀ base : Heap, K.In base → base.Ns mainGlobals mg → FnOk l.prog w K mg base CX0 11 fa fd ["_law_script"] (spLawL K) := by
  have e := hfa.symm.trans (PySem.W.mg_of X G a22)
  cases e
  have T : Tx K mg C_Grid C_BadValue := by
    constructor
    case bl =>
      intro x hx
      simp only [List.mem_cons, List.not_mem_nil, or_false] at hx
      rcases hx with rfl | rfl | rfl | rfl | rfl | rfl | rfl | rfl | rfl | rfl | rfl | rfl | rfl
      · exact PySem.W.mg_none_of X G z_NotImplemented
      · exact PySem.W.mg_none_of X G z_TypeError
      · exact PySem.W.mg_none_of X G z_bool
      · exact PySem.W.mg_none_of X G z_dict
      · exact PySem.W.mg_none_of X G z_int
      · exact PySem.W.mg_none_of X G z_isinstance
      · exact PySem.W.mg_none_of X G z_len
      · exact PySem.W.mg_none_of X G z_list
      · exact PySem.W.mg_none_of X G z_range
      · exact PySem.W.mg_none_of X G z_repr
      · exact PySem.W.mg_none_of X G z_sorted
      · exact PySem.W.mg_none_of X G z_str
      · exact PySem.W.mg_none_of X G z_tuple
    case gi_MOST_DEEP => exact ⟨_, PySem.W.mg_of X G gi_MOST_DEEP⟩
    case f_is_integer => exact ⟨_, _, fun_mk (st := s_is_integer) l0 c0 k0, PySem.W.mg_of X G a0, (fun_mk (st := s_is_integer) l0 c0 k0).binds (ps := ["thing"]) fun _ _ _ _ _ _ us hl => match us, hl with | [_], _ => rfl⟩
    case f_is_plain => exact ⟨_, _, fun_mk (st := s_is_plain) l1 c1 k1, PySem.W.mg_of X G a1, (fun_mk (st := s_is_plain) l1 c1 k1).binds (ps := ["thing"]) fun _ _ _ _ _ _ us hl => match us, hl with | [_], _ => rfl⟩
    case f_is_place => exact ⟨_, _, fun_mk (st := s_is_place) l2 c2 k2, PySem.W.mg_of X G a2, (fun_mk (st := s_is_place) l2 c2 k2).binds (ps := ["thing"]) fun _ _ _ _ _ _ us hl => match us, hl with | [_], _ => rfl⟩
    case f_l_well => exact ⟨_, _, fun_mk (st := s_l_well) l3 c3 k3, PySem.W.mg_of X G a3, (fun_mk (st := s_l_well) l3 c3 k3).binds (ps := ["_law_cell"]) fun _ _ _ _ _ _ us hl => match us, hl with | [_], _ => rfl⟩
    case f_l_draw => exact ⟨_, _, fun_mk (st := s_l_draw) l4 c4 k4, PySem.W.mg_of X G a4, (fun_mk (st := s_l_draw) l4 c4 k4).binds (ps := ["_law_well_here", "_law_many"]) fun _ _ _ _ _ _ us hl => match us, hl with | [_, _], _ => rfl⟩
    case f_l_one => exact ⟨_, _, fun_mk (st := s_l_one) l5 c5 k5, PySem.W.mg_of X G a5, (fun_mk (st := s_l_one) l5 c5 k5).binds (ps := ["_law_well_here", "_law_some"]) fun _ _ _ _ _ _ us hl => match us, hl with | [_, _], _ => rfl⟩
    case f_l_marks => exact ⟨_, _, fun_mk (st := s_l_marks) l6 c6 k6, PySem.W.mg_of X G a6, (fun_mk (st := s_l_marks) l6 c6 k6).binds (ps := ["_law_well_here"]) fun _ _ _ _ _ _ us hl => match us, hl with | [_], _ => rfl⟩
    case f_l_grid => exact ⟨_, _, fun_mk (st := s_l_grid) l7 c7 k7, PySem.W.mg_of X G a7, (fun_mk (st := s_l_grid) l7 c7 k7).binds (ps := ["_law_well_here", "_law_many"]) fun _ _ _ _ _ _ us hl => match us, hl with | [_, _], _ => rfl⟩
    case f_l_again => exact ⟨_, _, fun_mk (st := s_l_again) l8 c8 k8, PySem.W.mg_of X G a8, (fun_mk (st := s_l_again) l8 c8 k8).binds (ps := ["_law_cells", "_law_default", "_law_places"]) fun _ _ _ _ _ _ us hl => match us, hl with | [_, _, _], _ => rfl⟩
    case f_l_right => exact ⟨_, _, fun_mk (st := s_l_right) l9 c9 k9, PySem.W.mg_of X G a9, (fun_mk (st := s_l_right) l9 c9 k9).binds (ps := ["_law_well_here"]) fun _ _ _ _ _ _ us hl => match us, hl with | [_], _ => rfl⟩
    case fx_want_plain => exact ⟨f10, _, .none, fund_mk (st := s_want_plain) l10 c10 k10, PySem.W.mg_of X G a10, (fun_mk (st := s_want_plain) l10 c10 k10).binds (ps := ["thing"]) fun _ _ _ _ _ _ us hl => match us, hl with | [_], _ => rfl⟩
    case fx_want_place => exact ⟨f11, _, .none, fund_mk (st := s_want_place) l11 c11 k11, PySem.W.mg_of X G a11, (fun_mk (st := s_want_place) l11 c11 k11).binds (ps := ["thing"]) fun _ _ _ _ _ _ us hl => match us, hl with | [_], _ => rfl⟩
    case mx_Grid___setitem__ => exact ⟨nq_Grid, f12, _, .none, fund_mk (st := s_Grid__setitem__) l12 c12 k12, ⟨a12, i12, k12⟩, (fun_mk (st := s_Grid__setitem__) l12 c12 k12).binds (ps := ["self", "at", "worth"]) fun _ _ _ _ _ _ us hl => match us, hl with | [_, _, _], _ => rfl⟩
    case mx_Grid___getitem__ => exact ⟨nq_Grid, f13, _, .none, fund_mk (st := s_Grid__getitem__) l13 c13 k13, ⟨a13, i13, k13⟩, (fun_mk (st := s_Grid__getitem__) l13 c13 k13).binds (ps := ["self", "at"]) fun _ _ _ _ _ _ us hl => match us, hl with | [_, _], _ => rfl⟩
    case mx_Grid___eq__ => exact ⟨nq_Grid, f14, _, .none, fund_mk (st := s_Grid__eq__) l14 c14 k14, ⟨a14, i14, k14⟩, (fun_mk (st := s_Grid__eq__) l14 c14 k14).binds (ps := ["self", "other"]) fun _ _ _ _ _ _ us hl => match us, hl with | [_, _], _ => rfl⟩
    case mx_Grid___call__ => exact ⟨nq_Grid, f15, _, .none, fund_mk (st := s_Grid__call__) l15 c15 k15, ⟨a15, i15, k15⟩, (fun_mk (st := s_Grid__call__) l15 c15 k15).binds (ps := ["self", "one", "other"]) fun _ _ _ _ _ _ us hl => match us, hl with | [_, _, _], _ => rfl⟩
    case mr_Grid___call__ => exact ⟨f15, _, .none, fund_mk (st := s_Grid__call__) l15 c15 k15, ⟨a15, i15, k15⟩, ⟨fun s us ws hk h1 h2 => match us, ws, h1, h2 with | [_], [_, _], _, _ => .of_eq rfl, fun r1 r2 => r1.append (vals_rev r2)⟩⟩
    case mx_Grid___contains__ => exact ⟨nq_Grid, f16, _, .none, fund_mk (st := s_Grid__contains__) l16 c16 k16, ⟨a16, i16, k16⟩, (fun_mk (st := s_Grid__contains__) l16 c16 k16).binds (ps := ["self", "thing"]) fun _ _ _ _ _ _ us hl => match us, hl with | [_, _], _ => rfl⟩
    case mx_Grid___len__ => exact ⟨nq_Grid, f17, _, .none, fund_mk (st := s_Grid__len__) l17 c17 k17, ⟨a17, i17, k17⟩, (fun_mk (st := s_Grid__len__) l17 c17 k17).binds (ps := ["self"]) fun _ _ _ _ _ _ us hl => match us, hl with | [_], _ => rfl⟩
    case mx_Grid___bool__ => exact ⟨nq_Grid, f18, _, .none, fund_mk (st := s_Grid__bool__) l18 c18 k18, ⟨a18, i18, k18⟩, (fun_mk (st := s_Grid__bool__) l18 c18 k18).binds (ps := ["self"]) fun _ _ _ _ _ _ us hl => match us, hl with | [_], _ => rfl⟩
    case m_Grid_places => exact ⟨_, _, fun_mk (st := s_Grid_places) l19 c19 k19, ⟨a19, i19, k19⟩, (fun_mk (st := s_Grid_places) l19 c19 k19).binds (ps := ["self"]) fun _ _ _ _ _ _ us hl => match us, hl with | [_], _ => rfl⟩
    case mg_Grid => exact PySem.W.mg_of X G g_Grid
    case cl_Grid => exact ⟨pg_Grid, hd_Grid, po_Grid, sa_Grid⟩
    case mi_Grid_0 =>
      refine ⟨f20, _, .ref dt_Grid, [.bool false, .none], [.bl false, .non], ⟨mk_Grid, a20, i20, kp_Grid⟩, fund_mk (st := s_Grid__init__) l20 c20 k20, PySem.W.mg_of X G g_Grid, fun s us hk hl => ?_, .cons rfl (.cons rfl .nil), fun H => .cons (.bl false) (.cons .non .nil)⟩
      have hl1 : us.length = 1 := by simpa using hl
      match us, hl1 with
      | [_], _ => exact BindsTo.of_defaults (T := dt_Grid) rfl (hk _ _ dl_Grid) rfl rfl rfl
    case mi_Grid_1 =>
      refine ⟨f20, _, .ref dt_Grid, [.none], [.non], ⟨mk_Grid, a20, i20, kp_Grid⟩, fund_mk (st := s_Grid__init__) l20 c20 k20, PySem.W.mg_of X G g_Grid, fun s us hk hl => ?_, .cons rfl .nil, fun H => .cons .non .nil⟩
      have hl1 : us.length = 2 := by simpa using hl
      match us, hl1 with
      | [_, _], _ => exact BindsTo.of_defaults (T := dt_Grid) rfl (hk _ _ dl_Grid) rfl rfl rfl
    case mi_Grid_2 =>
      refine ⟨f20, _, .ref dt_Grid, [], [], ⟨mk_Grid, a20, i20, kp_Grid⟩, fund_mk (st := s_Grid__init__) l20 c20 k20, PySem.W.mg_of X G g_Grid, fun s us hk hl => ?_, .nil, fun H => .nil⟩
      have hl1 : us.length = 3 := by simpa using hl
      match us, hl1 with
      | [_, _, _], _ => exact BindsTo.of_defaults (T := dt_Grid) rfl (hk _ _ dl_Grid) rfl rfl rfl
    case md_Grid => exact ⟨f20, _, .ref dt_Grid, [.none], [.non], ⟨mk_Grid, a20, i20, kp_Grid⟩, fund_mk (st := s_Grid__init__) l20 c20 k20, PySem.W.mg_of X G g_Grid, ⟨fun s us ws hk h1 h2 => match us, ws, h1, h2 with | [_], [_], _, _ => BindsTo.of_defaults (T := dt_Grid) rfl (hk _ _ dl_Grid) rfl rfl rfl, fun r1 r2 => (r1.append r2).append (.cons rfl (.nil))⟩, fun H => .cons .non (.nil)⟩
    case ex_BadValue => exact ⟨⟨⟨nm_BadValue, q_BadValue, N_BadValue, bs_BadValue, bm_BadValue, sn_BadValue, sub_BadValue, ab_BadValue, col_BadValue, dd_BadValue, m0_BadValue, m1_BadValue, m2_BadValue, m3_BadValue, m5_BadValue, xl_BadValue, rv_BadValue⟩, sa_BadValue, eb_BadValue, ty_BadValue, kp_BadValue⟩, ⟨ga_BadValue, gg_BadValue, eb_BadValue, hd_BadValue⟩, nf_BadValue, PySem.W.mg_of X G g_BadValue, f21, _, a21, i21, fun_mk (st := s_BadValue__init__) l21 c21 k21, (fun_mk (st := s_BadValue__init__) l21 c21 k21).binds (ps := ["self", "value"]) fun _ _ _ _ _ _ us hl => match us, hl with | [_, _], _ => rfl⟩
    case fd_Grid_default => exact ⟨⟨pg_Grid, hd_Grid, po_Grid, sa_Grid⟩, nf_Grid_default⟩
    case fd_Grid_cells => exact ⟨⟨pg_Grid, hd_Grid, po_Grid, sa_Grid⟩, nf_Grid_cells⟩
    case te_BadValue_BadValue => exact te_BadValue_BadValue
    case gr_Grid => exact ⟨PySem.W.mg_of X G g_Grid⟩
    case in_Grid => exact ⟨⟨⟨pg_Grid, hd_Grid, po_Grid, sa_Grid⟩, xa_Grid, xs_hn, xs_ht, xm_Grid⟩⟩
    case ne_Grid => exact ⟨nx_Grid, xm_Grid⟩
    case kb_Grid => exact kb_Grid
  exact ⟨PySem.W.fnOf "law" "law" (defArgs s_law) (defBody s_law) (defScope s_law) .none kV22 dc22 pm22 an22 cd22 ct22, fun s v => .of_eq rfl, fun base _ _ => ok_law T (fun_mk (st := s_law) l22 c22 k22)⟩
theorem walk {l : PySem.W.OpenLaw} {q : Program} {loose : List Str} {XP : (Str → Option Value) → Heap → Prop} {YP : World → Heap → Prop} {d : DefRec} {K : Params → PySem.W.Frag} (hn : l.most = some 63) (hdf : d.params.defaults = [])
    (hY : ∀ (w : World) (h : Heap), YP w h → (K w.params).In h)
    (F : ∀ (w : World) (mg : Str → Option Value) (fa : Addr) (h : Heap), (K w.params).In h → h.Ns mainGlobals mg → mg d.name = some (.ref fa) →
      ∃ fd : FuncData, (∀ (s : Shared) (u : Value), BindsTo s fd ⟨[u], []⟩ [("_law_script", u)]) ∧ ∀ base : Heap, (K w.params).In base → base.Ns mainGlobals mg → FnOk l.prog w (K w.params) mg base CX0 11 fa fd ["_law_script"] (spLawL (K w.params))) :
    PySem.W.WalkO q loose XP YP l.row.toRowW d [] (fun f vs => PySem.call f vs) :=
  L2.walk_of (n := 63) (k := 11) (x := "_law_script") (CX := fun _ => CX0) (sp := fun w => spLawL (K w.params)) hn (by decide) hdf ⟨rfl, by decide, by decide⟩ hY F (fun _ _ a ns hl hO hS => ⟨a, ns, rfl, hO, hS, hl, fun _ => rfl⟩) fun _ _ _ _ _ z => z
end G
open PySem PySem.W PyProof.Rows in
set_option maxRecDepth 100000 in
set_option maxHeartbeats 0 in
theorem PySem.Challenge.cw_kindgrove_k06_equal_grids_holds : PySem.Challenge.rw_kindgrove_k06_equal_grids.Holds := by
  w_on; o_law; k_head; (case hw => w_witness2)
  k_fill
  refine G.walk (l := PySem.Challenge.rw_kindgrove_k06_equal_grids) rfl rfl (fun w h Y => PySem.W.km_in_of Y) ?F
  case F =>
    intro w mg fa h KX GX hmg
    have hm : mg (Str.ofString "law") = some (.ref fa) := hmg
    clear hmg
    refine' G.all_mk KX GX hm ?a0 ?l0 ?c0 ?k0 ?a1 ?l1 ?c1 ?k1 ?a2 ?l2 ?c2 ?k2 ?a3 ?l3 ?c3 ?k3 ?a4 ?l4 ?c4 ?k4 ?a5 ?l5 ?c5 ?k5 ?a6 ?l6 ?c6 ?k6 ?a7 ?l7 ?c7 ?k7 ?a8 ?l8 ?c8 ?k8 ?a9 ?l9 ?c9 ?k9 ?a10 ?l10 ?c10 ?k10 ?a11 ?l11 ?c11 ?k11 ?a12 ?i12 ?l12 ?c12 ?k12 ?a13 ?i13 ?l13 ?c13 ?k13 ?a14 ?i14 ?l14 ?c14 ?k14 ?a15 ?i15 ?l15 ?c15 ?k15 ?a16 ?i16 ?l16 ?c16 ?k16 ?a17 ?i17 ?l17 ?c17 ?k17 ?a18 ?i18 ?l18 ?c18 ?k18 ?a19 ?i19 ?l19 ?c19 ?k19 ?a20 ?i20 ?l20 ?c20 ?k20 ?a21 ?i21 ?l21 ?c21 ?k21 ?a22 ?l22 ?c22 ?k22 ?nq_Grid ?dl_Grid ?g_Grid ?pg_Grid ?hd_Grid ?po_Grid ?sa_Grid ?mk_Grid ?kp_Grid ?nf_Grid_default ?nf_Grid_cells ?g_BadValue ?xl_BadValue ?rv_BadValue ?sa_BadValue ?ga_BadValue ?gg_BadValue ?nf_BadValue ?eb_BadValue ?ty_BadValue ?kp_BadValue ?hd_BadValue ?xs_hn ?xs_ht ?xa_Grid ?xm_Grid ?nx_Grid ?kb_Grid ?te_BadValue_BadValue ?z_NotImplemented ?z_TypeError ?z_bool ?z_dict ?z_int ?z_isinstance ?z_len ?z_list ?z_range ?z_repr ?z_sorted ?z_str ?z_tuple ?gi_MOST_DEEP
    (case g_Grid => k_is)
    (case g_BadValue => k_is)
    (case a0 => k_is)
    (case a1 => k_is)
    (case a2 => k_is)
    (case a3 => k_is)
    (case a4 => k_is)
    (case a5 => k_is)
    (case a6 => k_is)
    (case a7 => k_is)
    (case a8 => k_is)
    (case a9 => k_is)
    (case a10 => k_is)
    (case a11 => k_is)
    (case a12 => k_is)
    (case a13 => k_is)
    (case a14 => k_is)
    (case a15 => k_is)
    (case a16 => k_is)
    (case a17 => k_is)
    (case a18 => k_is)
    (case a19 => k_is)
    (case a20 => k_is)
    (case a21 => k_is)
    (case a22 => k_is)
    (case xl_BadValue => k_is)
    (case l0 => k_is)
    (case c0 => k_is)
    (case k0 => k_is)
    (case l1 => k_is)
    (case c1 => k_is)
    (case k1 => k_is)
    (case l2 => k_is)
    (case c2 => k_is)
    (case k2 => k_is)
    (case l3 => k_is)
    (case c3 => k_is)
    (case k3 => k_is)
    (case l4 => k_is)
    (case c4 => k_is)
    (case k4 => k_is)
    (case l5 => k_is)
    (case c5 => k_is)
    (case k5 => k_is)
    (case l6 => k_is)
    (case c6 => k_is)
    (case k6 => k_is)
    (case l7 => k_is)
    (case c7 => k_is)
    (case k7 => k_is)
    (case l8 => k_is)
    (case c8 => k_is)
    (case k8 => k_is)
    (case l9 => k_is)
    (case c9 => k_is)
    (case k9 => k_is)
    (case l10 => k_is)
    (case c10 => k_is)
    (case k10 => k_is)
    (case l11 => k_is)
    (case c11 => k_is)
    (case k11 => k_is)
    (case i12 => k_is)
    (case l12 => k_is)
    (case c12 => k_is)
    (case k12 => k_is)
    (case i13 => k_is)
    (case l13 => k_is)
    (case c13 => k_is)
    (case k13 => k_is)
    (case i14 => k_is)
    (case l14 => k_is)
    (case c14 => k_is)
    (case k14 => k_is)
    (case i15 => k_is)
    (case l15 => k_is)
    (case c15 => k_is)
    (case k15 => k_is)
    (case i16 => k_is)
    (case l16 => k_is)
    (case c16 => k_is)
    (case k16 => k_is)
    (case i17 => k_is)
    (case l17 => k_is)
    (case c17 => k_is)
    (case k17 => k_is)
    (case i18 => k_is)
    (case l18 => k_is)
    (case c18 => k_is)
    (case k18 => k_is)
    (case i19 => k_is)
    (case l19 => k_is)
    (case c19 => k_is)
    (case k19 => k_is)
    (case i20 => k_is)
    (case l20 => k_is)
    (case c20 => k_is)
    (case k20 => k_is)
    (case i21 => k_is)
    (case l21 => k_is)
    (case c21 => k_is)
    (case k21 => k_is)
    (case l22 => k_is)
    (case c22 => k_is)
    (case k22 => k_is)
    (case nq_Grid => first | k_is | kernel_rfl)
    (case dl_Grid => first | k_is | kernel_rfl)
    (case pg_Grid => k_is)
    (case hd_Grid => k_is)
    (case po_Grid => k_is)
    (case sa_Grid => k_is)
    (case mk_Grid => k_is)
    (case kp_Grid => k_is)
    (case nf_Grid_default => first | k_is | kernel_rfl)
    (case nf_Grid_cells => first | k_is | kernel_rfl)
    (case rv_BadValue => decide +kernel)
    (case sa_BadValue => k_is)
    (case ga_BadValue => k_is)
    (case gg_BadValue => k_is)
    (case nf_BadValue => first | k_is | kernel_rfl)
    (case eb_BadValue => k_is)
    (case ty_BadValue => k_is)
    (case kp_BadValue => k_is)
    (case hd_BadValue => k_is)
    (case xs_hn => first | k_is | kernel_rfl)
    (case xs_ht => first | k_is | kernel_rfl)
    (case xa_Grid => first | k_is | kernel_rfl)
    (case xm_Grid => first | k_is | kernel_rfl)
    (case nx_Grid => first | k_is | kernel_rfl)
    (case kb_Grid => first | k_is | kernel_rfl)
    (case te_BadValue_BadValue => first | rfl | k_is | kernel_rfl)
    (case z_NotImplemented => k_is)
    (case z_TypeError => k_is)
    (case z_bool => k_is)
    (case z_dict => k_is)
    (case z_int => k_is)
    (case z_isinstance => k_is)
    (case z_len => k_is)
    (case z_list => k_is)
    (case z_range => k_is)
    (case z_repr => k_is)
    (case z_sorted => k_is)
    (case z_str => k_is)
    (case z_tuple => k_is)
    (case gi_MOST_DEEP => k_is)
#print axioms PySem.Challenge.cw_kindgrove_k06_equal_grids_holds
