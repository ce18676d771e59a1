import PyProof.Rows.All
import HandS.Head2
import KE.KStateDown
import Wide.All
import OpenK.AllK
import Wide.FinOn
import HandS.ForMost
import HandS.Wide
import HandS.Style
import HandS.Flow
import HandS.Zip
import HandS.Lambda
import KE.SortKeyHeap
import KE.KeyNested
import PyProof.DictFindH
import HandS.TupAny
import HandS.Deep
import HandS.IsInst
import KE.DataCmp
import HandS.EndTab
import HandS.Conv
import HandS.DictComp
import KE.KNestM
import HandS.Flt
import HandS.Text
import HandS.TupMul
import HandS.Exc
import HandS.ExcOwn
import HandS.WordsExc
import HandS.ExcInit
import HandS.ExcField
import HandS.TryOnly
import HandS.MakeKwOnly
import HandS.Property
import HandS.FStrTup
import HandS.RaiseMore
import PyProof.ReprDict
import KE.KRevSl
import KE.KMethU
import HandS.CallSlots
import HandS.Nested
import HandS.ListItems
import KE.GoesEnum
import PyProof.DictMoreH
import KE.KDictWalk
import HandS.Iter
import HandS.Star
import PyProof.CollectIter
import KE.KDictKeyed
import KE.KMinKey
import HandS.ExcIs
import HandS.ExcValue
import HandS.DeepEq
import OpenK.KMeth
import OpenK.KOps
import KE.KCallOwn
import PyProof.ReprRoads
import KE.KEqDict
import PyProof.InstNe
import PyProof.AutoSeq1
import HandS.ClsMeth
import HandS.TryMany
import KE.KDictItemsList
import HandS.GenList
import HandS.SortInts
import KE.KIntText
import PyProof.CallStr
import HandS.NestedK
import KE.KAssignIn
import PySem.Challenge.RW_kindgrove_k26_what_is_no_recipe_or_way
set_option Elab.async false
set_option linter.all false
set_option maxRecDepth 100000
set_option maxHeartbeats 4000000
set_option exponentiation.threshold 1000
/-! DW: a calculus over values: tuples by value, changing objects in a list of (address, content). Every rule is drawn from the hand layer's. -/
namespace G
open PySem L2
/-! the head: the top by one kernel run over the heap as a tree -/
open PySem.W PySem.Calls PyProof.Rows in
theorem km_head2 {Hk : PySem.W.Hook} {K : Params → PySem.W.Frag} {as : List Addr} {e : ∀ P, as = (K P).map (·.1)} {ts : List Addr} (hH : Hk = PySem.W.kmHook K as e ts) {r : PySem.W.OpenRow} {q : Program} {M : Nat} {loose : List PySem.Str} {d : DefRec} {kwd : List (PySem.Str × PySem.Expr)}
    (e1 : PySem.W.opening r.prog = PySem.W.plainProg r.prog.main.scope.names) (f : ∀ s, fenceModules? r.prog s = some s) (run : ∀ w, HandSHeadRun.RunEq r q (PySem.W.kmHook K as e ts) (fun s => (as.map (HandSHeadRun.getT s), ts.map (HandSHeadRun.getT s))) M loose w)
    (hdef : PySem.W.defOf q r.name = some (d, kwd)) (hp : r.prog.theDef r.name = some (d.params, d.body, d.scope)) (hk : PySem.W.kwWritten? d.params.kwonlyargs d.params.kw_defaults = some kwd)
    (hwr : (!r.writes || r.records.isEmpty) = true) (k1 : r.wellSaid = true) (ok : (PySem.W.chainsOk q && PySem.W.opensWell r.prog && (PySem.W.frees r.toRowW && r.within.isEmpty)) = true) (hb : r.prog.bare) (hw : r.toRowW.promised)
    (call : PySem.W.WalkO q loose (PySem.W.XL q []) (PySem.W.kmHook K as e ts).says r.toRowW d kwd fun f vs => PySem.call f vs) : r.Holds :=
  HandSHeadRun.head_any (H := PySem.W.kmHook K as e ts) (ob := fun s => (as.map (HandSHeadRun.getT s), ts.map (HandSHeadRun.getT s))) (fun s => by
    have z : HandSHeadRun.getT s = fun a => s.abs.heap.get? a := funext (HandSHeadRun.getT_eq s)
    show (as.map (HandSHeadRun.getT s), ts.map (HandSHeadRun.getT s)) = (as.map s.abs.heap.get?, ts.map s.abs.heap.get?)
    rw [z]) e1 f run hdef hp hk hwr k1 ok hb hw call
abbrev theRow : PySem.W.OpenRow := PySem.W.OpenLaw.row PySem.Challenge.rw_kindgrove_k26_what_is_no_recipe_or_way
abbrev theView : Program := PySem.W.view theRow.prog [52]
def theLoose : List PySem.Str := (["GroveError", "BadValue", "NotGiven", "TooLarge", "BadRecipe", "BadWay", "MOST_DEEP", "is_integer", "is_between", "is_plain", "want_plain", "MOST_STEPS", "MOST_ROWS", "MOST_HEIGHT", "is_step", "recipe_fault", "want_recipe", "values_of", "value", "rows_of", "rows", "way_end", "key_at", "raised", "shape_at", "shape_of", "Kind", "Measured", "Calls", "_law_well"] : List PySem.Str) ++ (["_law_draw", "_law_one", "_law_values", "_law_made", "_law_table", "_law_kind", "_law_recipe", "_law_rows_of", "_law_value_of", "_law_said", "_law_all_say", "_law_wrong_step", "_law_recipes_right", "_law_right_way", "_law_ways_right", "_law_unused_right", "_law_right"] : List PySem.Str)
theorem theName : (HandSHeadRun.topDef theRow.prog 52).name = Str.ofString "law" := by kernel_rfl
theorem f_he : PySem.W.opening theRow.prog = PySem.W.plainProg theRow.prog.main.scope.names := by kernel_rfl
theorem f_hf : ∀ s, fenceModules? theRow.prog s = some s := by intro s; kernel_rfl
theorem f_ka : PySem.W.namesResolve theRow.prog = true := by decide +kernel
theorem f_kl : PySem.W.looksOpen theRow.prog = true := by
  unfold PySem.W.looksOpen
  rw [f_ka]
  decide +kernel
theorem f_k1 : theRow.wellSaid = true := by
  unfold PySem.W.OpenRow.wellSaid PySem.W.OpenRow.partSaid
  rw [f_kl]
  decide +kernel
theorem f_ok : (PySem.W.chainsOk theView && PySem.W.opensWell theRow.prog && (PySem.W.frees theRow.toRowW && theRow.within.isEmpty)) = true := by decide +kernel
theorem f_hb : theRow.prog.bare := ⟨rfl, rfl, rfl, rfl, rfl, by decide +kernel⟩
theorem unp (H : PySem.W.Hook) (Z : ∀ H : PySem.W.Hook, PySem.W.OpenRow.Holds theRow) : PySem.W.OpenRow.Holds theRow := Z H
end G
section
local macro_rules | `(tactic| o_head $H:term) => `(tactic| exact G.unp $H (by assumption))
open PySem PySem.W PyProof.Rows in
set_option maxRecDepth 100000 in
set_option maxHeartbeats 0 in
theorem G.p1 (Z : ∀ H : PySem.W.Hook, PySem.W.OpenRow.Holds G.theRow) : PySem.Challenge.rw_kindgrove_k26_what_is_no_recipe_or_way.Holds := by
  w_on; o_law; k_head
end
namespace G
open PySem L2
def asL : List Addr := [2,3,15,22,23,24,25,28,35,37,38,40,41,42,43,44,47,54,56,57,59,60,61,62,63,66,73,74,75,78,85,87,88,90,91,92,93,94,97,104,106,107,109,110,111,112,113,116,118,119,121,122,123,125,126,128,129,130,133,134,135,137,138,140,141,142,144,145,147,148,149,151,152,154,155,156,158,159,161,162,163,165,166,168,169,170,172,173,175,176,177,179,180,182,183,184,186,187,189,190,191,193,194,196,197,198,200,201,203,204,205,207,208,210,211,212,214,215,217,218,219,221,222,224,225,233,235,236,238,239,240,242,243,245,246,247,249,250,252,253,254,256,257,259,260,261,263,264,266,267,268,271,272,273,274,275,276,277,287,289,290,292,293,294,296,297,299,300,301,302,303,304,305,308,311,316,317,319,320,322,323,324,326,327,329,330,331,333,334,336,337,338,340,341,343,344,345,347,348,350,351,352,353,355,356,358,359,360,361,363,364,366,367,368,370,371,373,374,375,377,378,380,381,382,383,384,387,389,390,392,393,394,396,397,399,400,401,403,404,406,407,408,411,412,413,415,416,418,419,420,423,424,425,427,428,430,431,432,434,435,437,438,453,455,456,458,459,460,462,463,465,466,467,469,470,472,473,474,476,477,479,480,481,483,484,486,487,488,490,491,493,494,495,497,498,500,501,502,504,505,507,508,509,511,512,514,515]
def tsL : List Addr := [496,489,461,475,426,503]
theorem asE : ∀ P, asL = (G.p1.heap_39 P).map (·.1) := by intro P; kernel_rfl
theorem run : ∀ w, HandSHeadRun.RunEq theRow theView (PySem.W.kmHook G.p1.heap_39 asL asE tsL) (fun s => (asL.map (HandSHeadRun.getT s), tsL.map (HandSHeadRun.getT s))) 20000 theLoose w := by intro w os; kernel_rfl
end G
namespace G
open PySem L2
/-- a lambda, by its words; fr: the names that it takes from outside -/
structure Lamb where
  qual : Str
  params : Arguments
  body : Expr
  scope : Scope
  fr : List Str
inductive DV where
  | non | bl (b : Bool) | int (i : Int) | str (x : Str) | ty (n : String) | ref (a : Addr) | tup (ds : List DV)
  /-- a list that nobody changes, by value -/
  | lis (ds : List DV)
  /-- a tuple of which we know where it stands -/
  | tupA (a : Addr) (ds : List DV)
  /-- a lambda made by a frame that may still run, with its cells -/
  | lam (L : Lamb) (cl : List (Str × Addr))
  /-- a lambda whose cells nobody changes: what they hold -/
  | clo (L : Lamb) (ds : List DV)
  /-- a dict that nobody changes: its keys and what stands at them -/
  | dic (ks : List Key) (ds : List DV)
  /-- an instance of the class at C that nobody changes: its attributes -/
  | insF (C : Addr) (ns : List Str) (ds : List DV)
/-- a thing that is known to the object, and stays -/
def PinO (a : Addr) (o : Obj) : HO := .frz o (.ext fun h => h.get? a = some o)
abbrev lamObj (L : Lamb) (cl : List (Str × Addr)) (pm : Value) (c : Addr) (ctv : Value) : Obj := PySem.W.kla_obj "<lambda>" L.qual L.params L.body L.scope cl pm c ctv
def LamH (H : Hp) (f : Addr) (L : Lamb) (cl : List (Str × Addr)) : Prop := ∃ pm c ctv, H f = some (PinO f (lamObj L cl pm c ctv)) ∧ H c = some (LamX.CodeO c L.qual)
def CloH (H : Hp) (f : Addr) (L : Lamb) (cl : List (Str × Addr)) (vs : List V) : Prop := LamH H f L cl ∧ vs.length = L.fr.length ∧ (∀ x y c, cl.lookup x = some c → cl.lookup y = some c → x = y) ∧ (∀ y c, cl.lookup y = some c → y ∈ L.fr) ∧
  ∀ (i : Nat) (y : Str), L.fr[i]? = some y → ∃ c oc v u, cl.lookup y = some c ∧ H c = some (PinO c oc) ∧ oc.data = .cell (some u) ∧ vs[i]? = some v ∧ RelV v u
open Classical in
/-- the heap without the cells of cl -/
noncomputable def hidC (cl : List (Str × Addr)) (H : Hp) : Hp := fun b => if ∃ y, cl.lookup y = some b then none else H b
theorem hidC_else {cl : List (Str × Addr)} {H : Hp} {b : Addr} (e : ∀ y, cl.lookup y ≠ some b) : hidC cl H b = H b := by unfold hidC; exact if_neg fun ⟨y, z⟩ => e y z
theorem hidC_some {cl : List (Str × Addr)} {H : Hp} {b : Addr} {u : HO} (h : hidC cl H b = some u) : H b = some u ∧ ∀ y, cl.lookup y ≠ some b := by
  unfold hidC at h
  split at h
  · cases h
  · rename_i n
    exact ⟨h, fun y z => n ⟨y, z⟩⟩
/-- an instance that nobody changes -/
def InsFH (H : Hp) (a C : Addr) (ns : List Str) (vs : List V) : Prop := ns.length = vs.length ∧ ∃ (dx : Addr) (od : Obj) (mA : Str → Option Value), H a = some (PinO a (PySem.W.instObj C dx)) ∧ H dx = some (PinO dx od) ∧ dx ≠ a ∧ (∀ h : Heap, h.get? dx = some od → h.Ns1 dx mA) ∧ ∀ f, RelO ((ns.zip vs).lookup f) (mA f)
abbrev Fg := PySem.W.Frag
/-- a list that is locked, or the module's own -/
def FrzL (K : Fg) (H : Hp) (a : Addr) (xs : List V) : Prop := (∃ o, H a = some (.frz o (.lst xs))) ∨ ∃ (o : Obj) (its : Array Value) (n : Nat), K.lookup a = some o ∧ o.cls = .type "list" ∧ o.dict = none ∧ o.data = .seq its n ∧ its.size ≤ sizeLine ∧ Vals xs its.toList
theorem FrzL.sq {K : Fg} {H : Hp} {a : Addr} {xs : List V} (h : FrzL K H a xs) : SqL K H a xs := h.elim (fun ⟨o, e⟩ => .inl (.inr ⟨o, e⟩)) .inr
/-- a dict that is locked -/
def FrzD (H : Hp) (a : Addr) (ks : List Key) (vs : List V) : Prop := ks.length = vs.length ∧ ∃ o, H a = some (.frz o (.dK (ks.zip vs)))
mutual
inductive RD (K : Fg) : Hp → DV → V → Prop
  | non {H : Hp} : RD K H .non .non
  | bl {H : Hp} (b : Bool) : RD K H (.bl b) (.bl b)
  | int {H : Hp} (i : Int) : RD K H (.int i) (.int i)
  | str {H : Hp} (x : Str) : RD K H (.str x) (.str x)
  | ty {H : Hp} (n : String) : RD K H (.ty n) (.ty n)
  | ref {H : Hp} (a : Addr) : RD K H (.ref a) (.ref a)
  | tup {H : Hp} {a : Addr} {vs : List V} {ds : List DV} : SqT K H a vs → RDs K H ds vs → RD K H (.tup ds) (.ref a)
  | lis {H : Hp} {a : Addr} {vs : List V} {ds : List DV} : FrzL K H a vs → RDs K H ds vs → RD K H (.lis ds) (.ref a)
  | tupA {H : Hp} {a : Addr} {vs : List V} {ds : List DV} : SqT K H a vs → RDs K H ds vs → RD K H (.tupA a ds) (.ref a)
  | lam {H : Hp} {f : Addr} {L : Lamb} {cl : List (Str × Addr)} : LamH H f L cl → RD K H (.lam L cl) (.ref f)
  | clo {H : Hp} {f : Addr} {L : Lamb} {cl : List (Str × Addr)} {vs : List V} {ds : List DV} : CloH H f L cl vs → RDs K (hidC cl H) ds vs → RD K H (.clo L ds) (.ref f)
  | dic {H : Hp} {a : Addr} {vs : List V} {ks : List Key} {ds : List DV} : FrzD H a ks vs → RDs K H ds vs → RD K H (.dic ks ds) (.ref a)
  | insF {H : Hp} {a C : Addr} {ns : List Str} {vs : List V} {ds : List DV} : InsFH H a C ns vs → RDs K H ds vs → RD K H (.insF C ns ds) (.ref a)
inductive RDs (K : Fg) : Hp → List DV → List V → Prop
  | nil {H : Hp} : RDs K H [] []
  | cons {H : Hp} {d : DV} {ds : List DV} {v : V} {vs : List V} : RD K H d v → RDs K H ds vs → RDs K H (d :: ds) (v :: vs)
end
/-- tuples and locked things stay -/
structure Stay (K : Fg) (H H' : Hp) : Prop where
  tup : ∀ a xs, H a = some (.tup xs) → H' a = some (.tup xs)
  frz : ∀ a o u, H a = some (.frz o u) → H' a = some (.frz o u)
  cod : ∀ a q, H a = some (LamX.CodeO a q) → H' a = some (LamX.CodeO a q)
  xd : ∀ a fs, H a = some (.xd fs) → H' a = some (.xd fs)
/-- an object that may be written -/
def Wr (H : Hp) (p : Addr) : Prop := Mut (H p) ∧ ∀ q, H p ≠ some (LamX.CodeO p q)
theorem wr_lst {H : Hp} {p : Addr} {xs : List V} (h : H p = some (.lst xs)) : Wr H p := ⟨by rw [h]; trivial, fun q z => by rw [h] at z; unfold LamX.CodeO at z; cases z⟩
theorem wr_ins {H : Hp} {p C dx : Addr} {fs : List (Str × V)} (h : H p = some (.ins C dx fs)) : Wr H p := ⟨by rw [h]; trivial, fun q z => by rw [h] at z; unfold LamX.CodeO at z; cases z⟩
theorem wr_dk {H : Hp} {p : Addr} {kvs : List (Key × V)} (h : H p = some (.dK kvs)) : Wr H p := ⟨by rw [h]; trivial, fun q z => by rw [h] at z; unfold LamX.CodeO at z; cases z⟩
theorem Stay.refl {K : Fg} {H : Hp} : Stay K H H := ⟨fun _ _ h => h, fun _ _ _ h => h, fun _ _ h => h, fun _ _ h => h⟩
theorem Stay.trans {K : Fg} {H H1 H2 : Hp} (a : Stay K H H1) (b : Stay K H1 H2) : Stay K H H2 := ⟨fun x o h => b.tup x o (a.tup x o h), fun x o u h => b.frz x o u (a.frz x o u h), fun x q h => b.cod x q (a.cod x q h), fun x q h => b.xd x q (a.xd x q h)⟩
theorem Stay.sqt {K : Fg} {H H' : Hp} (s : Stay K H H') {a : Addr} {xs : List V} (h : SqT K H a xs) : SqT K H' a xs := by
  rcases h with (h | ⟨o, h⟩) | h
  · exact .inl (.inl (s.tup _ _ h))
  · exact .inl (.inr ⟨o, s.frz _ _ _ h⟩)
  · exact .inr h
theorem Stay.new {K : Fg} {H : Hp} {p : Addr} {o : HO} (h : H p = none) : Stay K H (upd H p o) :=
  ⟨fun a xs e => by rw [upd_ne (ne_of_none e h)]; exact e, fun a o' u e => by rw [upd_ne (ne_of_none e h)]; exact e, fun a q e => by rw [upd_ne (ne_of_none e h)]; exact e, fun a q e => by rw [upd_ne (ne_of_none e h)]; exact e⟩
theorem Stay.write {K : Fg} {H : Hp} {p : Addr} {o : HO} (h : Wr H p) : Stay K H (upd H p o) :=
  ⟨fun a xs e => by rw [upd_ne (fun z => by subst z; have := h.1; rw [e] at this; exact this)]; exact e, fun a o' u e => by rw [upd_ne (fun z => by subst z; have := h.1; rw [e] at this; exact this)]; exact e,
   fun a q e => by rw [upd_ne (fun z => by subst z; exact h.2 q e)]; exact e, fun a xs e => by rw [upd_ne (fun z => by subst z; have := h.1; rw [e] at this; exact this)]; exact e⟩
theorem LamH.mono {K : Fg} {H H' : Hp} {f : Addr} {L : Lamb} {cl : List (Str × Addr)} (s : Stay K H H') (h : LamH H f L cl) : LamH H' f L cl := by
  obtain ⟨pm, c, ctv, h1, h2⟩ := h
  exact ⟨pm, c, ctv, s.frz _ _ _ h1, s.cod _ _ h2⟩
theorem CloH.mono {K : Fg} {H H' : Hp} {f : Addr} {L : Lamb} {cl : List (Str × Addr)} {vs : List V} (s : Stay K H H') (h : CloH H f L cl vs) : CloH H' f L cl vs := by
  obtain ⟨h1, h2, h3, h4, h5⟩ := h
  refine ⟨h1.mono s, h2, h3, h4, fun i y e => ?_⟩
  obtain ⟨c, oc, v, u, a1, a2, a3⟩ := h5 i y e
  exact ⟨c, oc, v, u, a1, s.frz _ _ _ a2, a3⟩
theorem Stay.hid {K : Fg} {H H' : Hp} (s : Stay K H H') (cl : List (Str × Addr)) : Stay K (hidC cl H) (hidC cl H') := by
  have go : ∀ {b u}, (H b = some u → H' b = some u) → hidC cl H b = some u → hidC cl H' b = some u := fun {b u} f e => by
    obtain ⟨e1, e2⟩ := hidC_some e
    rw [hidC_else e2]
    exact f e1
  exact ⟨fun a xs e => go (s.tup a xs) e, fun a o u e => go (s.frz a o u) e, fun a q e => go (s.cod a q) e, fun a fs e => go (s.xd a fs) e⟩
theorem InsFH.mono {K : Fg} {H H' : Hp} {a C : Addr} {ns : List Str} {vs : List V} (s : Stay K H H') (h : InsFH H a C ns vs) : InsFH H' a C ns vs := by
  obtain ⟨h0, dx, od, mA, h1, h2, h3⟩ := h
  exact ⟨h0, dx, od, mA, s.frz _ _ _ h1, s.frz _ _ _ h2, h3⟩
mutual
theorem RD.mono0 {K : Fg} : ∀ {H : Hp} {d : DV} {v : V}, RD K H d v → ∀ {H' : Hp}, Stay K H H' → RD K H' d v
  | _, _, _, .non, _, _ => .non
  | _, _, _, .bl b, _, _ => .bl b
  | _, _, _, .int b, _, _ => .int b
  | _, _, _, .str b, _, _ => .str b
  | _, _, _, .ty b, _, _ => .ty b
  | _, _, _, .ref b, _, _ => .ref b
  | _, _, _, .tup h t, _, s => .tup (s.sqt h) (RDs.mono0 t s)
  | _, _, _, .tupA h t, _, s => .tupA (s.sqt h) (RDs.mono0 t s)
  | _, _, _, .lam h, _, s => .lam (h.mono s)
  | _, _, _, .clo h t, _, s => .clo (h.mono s) (RDs.mono0 t (s.hid _))
  | _, _, _, .dic h t, _, s => .dic ⟨h.1, h.2.imp fun o e => s.frz _ _ _ e⟩ (RDs.mono0 t s)
  | _, _, _, .insF h t, _, s => .insF (h.mono s) (RDs.mono0 t s)
  | _, _, _, .lis h t, _, s => .lis (h.elim (fun ⟨o, e⟩ => .inl ⟨o, s.frz _ _ _ e⟩) .inr) (RDs.mono0 t s)
theorem RDs.mono0 {K : Fg} : ∀ {H : Hp} {d : List DV} {v : List V}, RDs K H d v → ∀ {H' : Hp}, Stay K H H' → RDs K H' d v
  | _, _, _, .nil, _, _ => .nil
  | _, _, _, .cons h t, _, s => .cons (RD.mono0 h s) (RDs.mono0 t s)
end
theorem RD.mono {K : Fg} {H H' : Hp} (s : Stay K H H') {d : DV} {v : V} (r : RD K H d v) : RD K H' d v := RD.mono0 r s
theorem RDs.mono {K : Fg} {H H' : Hp} (s : Stay K H H') {d : List DV} {v : List V} (r : RDs K H d v) : RDs K H' d v := RDs.mono0 r s
theorem RDs.length {K : Fg} {H : Hp} : ∀ {ds : List DV} {vs : List V}, RDs K H ds vs → ds.length = vs.length
  | _, _, .nil => rfl
  | _, _, .cons _ t => by rw [List.length_cons, List.length_cons, RDs.length t]
theorem RDs.get {K : Fg} {H : Hp} : ∀ {ds : List DV} {vs : List V} {i : Nat} {d : DV}, RDs K H ds vs → ds[i]? = some d → ∃ v, vs[i]? = some v ∧ RD K H d v
  | _, _, _, _, .nil, h => by simp at h
  | _, _, 0, _, .cons r _, h => by simp at h; subst h; exact ⟨_, rfl, r⟩
  | _, _, i + 1, _, .cons _ t, h => by
    obtain ⟨v, h1, h2⟩ := RDs.get (i := i) t (by simpa using h)
    exact ⟨v, by simpa using h1, h2⟩
theorem RDs.set {K : Fg} {H : Hp} {d : DV} {v : V} (r : RD K H d v) : ∀ {ds : List DV} {vs : List V} (i : Nat), RDs K H ds vs → RDs K H (ds.set i d) (vs.set i v)
  | _, _, _, .nil => .nil
  | _, _, 0, .cons _ t => .cons r t
  | _, _, i + 1, .cons q t => .cons q (RDs.set r i t)
theorem RDs.append {K : Fg} {H : Hp} : ∀ {ds es : List DV} {vs us : List V}, RDs K H ds vs → RDs K H es us → RDs K H (ds ++ es) (vs ++ us)
  | _, _, _, _, .nil, q => q
  | _, _, _, _, .cons r t, q => .cons r (RDs.append t q)
theorem RDs.take {K : Fg} {H : Hp} : ∀ {ds : List DV} {vs : List V} (n : Nat), RDs K H ds vs → RDs K H (ds.take n) (vs.take n)
  | _, _, 0, _ => .nil
  | _, _, _ + 1, .nil => .nil
  | _, _, n + 1, .cons r t => .cons r (RDs.take n t)
theorem RDs.drop {K : Fg} {H : Hp} : ∀ {ds : List DV} {vs : List V} (n : Nat), RDs K H ds vs → RDs K H (ds.drop n) (vs.drop n)
  | _, _, 0, h => h
  | _, _, _ + 1, .nil => .nil
  | _, _, n + 1, .cons r t => RDs.drop n t
theorem RDs.dropLast {K : Fg} {H : Hp} {ds : List DV} {vs : List V} (h : RDs K H ds vs) : RDs K H ds.dropLast vs.dropLast := by
  rw [List.dropLast_eq_take, List.dropLast_eq_take, ← h.length]
  exact h.take _
/-! plain values of all sorts as keys -/
abbrev NK := NestedKey
mutual
def nkD : DV → Option NK
  | .non => some .none
  | .bl b => some (.num (if b = true then 1 else 0))
  | .int i => some (.num i)
  | .str x => some (.text x)
  | .tup ds => (nkDs ds).map .tup
  | .lis _ => none
  | .ty _ => none
  | .ref _ => none
  | .tupA _ _ => none
  | .lam _ _ => none
  | .clo _ _ => none
  | .dic _ _ => none
  | .insF _ _ _ => none
def nkDs : List DV → Option (List NK)
  | [] => some []
  | d :: ds => match nkD d, nkDs ds with
    | some k, some ks => some (k :: ks)
    | _, _ => none
end
/-- an entry: what its key is, the key's own value, the value -/
abbrev PEnt := NK × Value × Value
def penc (w : World) (x : PEnt) : DictEntry := ⟨x.1.hash w, x.2.1, x.2.2⟩
def PDict (w : World) (h : Heap) (d : Addr) (xs : List PEnt) : Prop := (d == sysModules) = false ∧ xs.length ≤ sizeLine ∧ (xs.map (·.1)).Nodup ∧ ∃ o es ep, h.get? d = some o ∧ o.ExactDict ∧ o.data = .dict es ep ∧ es.toList = xs.map (penc w)
def DnO (w : World) (a : Addr) (o : Obj) (xs : List PEnt) : HO := .ext fun h => h.get? a = some o ∧ PDict w h a xs
inductive RKs (K : Fg) (H : Hp) : List (DV × DV) → List PEnt → Prop
  | nil : RKs K H [] []
  | cons {kd vd : DV} {k : NK} {ku vu : Value} {kv vv : V} {fs : List (DV × DV)} {xs : List PEnt} : nkD kd = some k → k.depth ≤ 8 → RD K H kd kv → RelV kv ku → RD K H vd vv → RelV vv vu → RKs K H fs xs → RKs K H ((kd, vd) :: fs) ((k, ku, vu) :: xs)
theorem RKs.mono {K : Fg} {H H' : Hp} (s : Stay K H H') {fs : List (DV × DV)} {xs : List PEnt} (h : RKs K H fs xs) : RKs K H' fs xs := by
  induction h with
  | nil => exact .nil
  | cons a b c d e f _ ih => exact .cons a b (c.mono s) d (e.mono s) f ih
/-- the content of a changing object -/
inductive MO where
  | lst (xs : List DV)
  | ins (C : Addr) (fs : List (Str × DV))
  /-- a dict whose keys are ints and texts -/
  | dk (kvs : List (Key × DV))
  /-- a dict whose keys are plain values of all sorts -/
  | dn (w : World) (o : Obj) (kvs : List (DV × DV))
  /-- an exception of the class at C, held as a value, its fields -/
  | exc (C : Addr) (fs : List (Str × DV))
  /-- a range object -/
  | rng (lo hi : Int)
  /-- a def's table of code objects of the name q -/
  | tab (q : Str)
abbrev Mm := List (Addr × MO)
inductive RF {κ : Type} (K : Fg) (H : Hp) : List (κ × DV) → List (κ × V) → Prop
  | nil : RF K H [] []
  | cons {x : κ} {d : DV} {v : V} {fs : List (κ × DV)} {gs : List (κ × V)} : RD K H d v → RF K H fs gs → RF K H ((x, d) :: fs) ((x, v) :: gs)
theorem RF.mono {κ : Type} {K : Fg} {H H' : Hp} (s : Stay K H H') : ∀ {d : List (κ × DV)} {v : List (κ × V)}, RF K H d v → RF K H' d v
  | _, _, .nil => .nil
  | _, _, .cons h t => .cons (h.mono s) (RF.mono s t)
def RO (K : Fg) (H : Hp) (a : Addr) : MO → Prop
  | .lst xs => ∃ vs, H a = some (.lst vs) ∧ RDs K H xs vs
  | .ins C fs => ∃ dx gs, H a = some (.ins C dx gs) ∧ RF K H fs gs
  | .dk kvs => ∃ vs, H a = some (.dK vs) ∧ RF K H kvs vs
  | .dn w o kvs => ∃ xs, H a = some (DnO w a o xs) ∧ RKs K H kvs xs
  | .exc C fs => ∃ oe, H a = some (PinO a oe) ∧ oe.cls = .ref C ∧ (∃ vs, oe.data = .fields vs) ∧ ((oe.dict = none ∧ fs = []) ∨ ∃ dx gs, oe.dict = some dx ∧ H dx = some (.xd gs) ∧ RF K H fs gs)
  | .rng lo hi => H a = some (.rng lo hi)
  | .tab q => LamX.TabS H a q
/-- the object itself is as it was -/
theorem RO.mono {K : Fg} {H H' : Hp} {a : Addr} {o : MO} (s : Stay K H H') (h : RO K H a o) (e : H' a = H a) : RO K H' a o := by
  cases o with
  | lst xs => obtain ⟨vs, h1, h2⟩ := h; exact ⟨vs, e.trans h1, h2.mono s⟩
  | ins C fs => obtain ⟨dx, gs, h1, h2⟩ := h; exact ⟨dx, gs, e.trans h1, h2.mono s⟩
  | dk kvs => obtain ⟨vs, h1, h2⟩ := h; exact ⟨vs, e.trans h1, h2.mono s⟩
  | dn w o kvs => obtain ⟨vs, h1, h2⟩ := h; exact ⟨vs, e.trans h1, h2.mono s⟩
  | exc C fs => obtain ⟨oe, h1, h2, h3, h4⟩ := h; exact ⟨oe, e.trans h1, h2, h3, h4.elim .inl fun ⟨dx, gs, a1, a2, a3⟩ => .inr ⟨dx, gs, a1, s.xd _ _ a2, a3.mono s⟩⟩
  | rng lo hi => exact e.trans h
  | tab q =>
    obtain ⟨ps, h1, h2, h3⟩ := h
    refine ⟨ps, e.trans h1, h2, fun pos cv hc => ?_⟩
    obtain ⟨c, e1, e2⟩ := h3 pos cv hc
    exact ⟨c, e1, s.cod _ _ e2⟩
theorem RO.some {K : Fg} {H : Hp} {a : Addr} {o : MO} (h : RO K H a o) : ∃ u, H a = some u := by
  cases o with
  | lst xs => obtain ⟨vs, h1, _⟩ := h; exact ⟨_, h1⟩
  | ins C fs => obtain ⟨dx, gs, h1, _⟩ := h; exact ⟨_, h1⟩
  | dk kvs => obtain ⟨vs, h1, _⟩ := h; exact ⟨_, h1⟩
  | dn w o kvs => obtain ⟨vs, h1, _⟩ := h; exact ⟨_, h1⟩
  | exc C fs => obtain ⟨oe, h1, _⟩ := h; exact ⟨_, h1⟩
  | rng lo hi => exact ⟨_, h⟩
  | tab q => obtain ⟨ps, h1, _⟩ := h; exact ⟨_, h1⟩
structure RM (K : Fg) (H : Hp) (M : Mm) : Prop where
  nd : (M.map (·.1)).Nodup
  ok : ∀ a o, (a, o) ∈ M → RO K H a o
/-- something new is laid -/
theorem RM.new {K : Fg} {H : Hp} {M : Mm} {p : Addr} {o : HO} (h : RM K H M) (hp : H p = none) : RM K (upd H p o) M :=
  ⟨h.nd, fun a q hm => by
    obtain ⟨u, hu⟩ := (h.ok a q hm).some
    exact (h.ok a q hm).mono (Stay.new hp) (upd_ne (ne_of_none hu hp))⟩
theorem RM.cons {K : Fg} {H : Hp} {M : Mm} {p : Addr} {o : HO} {q : MO} (h : RM K H M) (hp : H p = none) (hq : RO K (upd H p o) p q) : RM K (upd H p o) ((p, q) :: M) := by
  have hn := h.new (o := o) hp
  refine ⟨?_, fun a u hm => ?_⟩
  · rw [List.map_cons, List.nodup_cons]
    refine ⟨fun hm => ?_, h.nd⟩
    obtain ⟨⟨b, r⟩, hb, e⟩ := List.mem_map.mp hm
    obtain ⟨u, hu⟩ := (h.ok b r hb).some
    have e : b = p := e
    rw [e, hp] at hu
    cases hu
  · rcases List.mem_cons.mp hm with e | e
    · cases e; exact hq
    · exact hn.ok a u e
theorem RM.sub {K : Fg} {H : Hp} {M M' : Mm} (h : RM K H M) (nd : (M'.map (·.1)).Nodup) (s : ∀ x ∈ M', x ∈ M) : RM K H M' := ⟨nd, fun a o hm => h.ok a o (s _ hm)⟩
/-- an object of M is written -/
theorem RM.write {K : Fg} {H : Hp} {M : Mm} {i : Nat} {p : Addr} {q q' : MO} {o : HO} (h : RM K H M) (hi : M[i]? = some (p, q)) (mu : Wr H p) (hq : RO K (upd H p o) p q') : RM K (upd H p o) (M.set i (p, q')) := by
  have hl : i < M.length := (List.getElem?_eq_some_iff.mp hi).1
  have ek : (M.set i (p, q')).map (·.1) = M.map (·.1) := by
    apply List.ext_getElem?
    intro j
    rw [List.getElem?_map, List.getElem?_map, List.getElem?_set]
    split
    · rename_i e; subst e
      rw [hi]
      rfl
    · rfl
  refine ⟨by rw [ek]; exact h.nd, fun a u hm => ?_⟩
  obtain ⟨j, hj⟩ := List.mem_iff_getElem?.mp hm
  rw [List.getElem?_set] at hj
  split at hj
  · rename_i e; subst e
    cases hj
    exact hq
  · rename_i e
    have hne : a ≠ p := fun z => by
      subst z
      have h1 : (M.map (·.1))[j]? = some a := by rw [List.getElem?_map, hj]; rfl
      have h2 : (M.map (·.1))[i]? = some a := by rw [List.getElem?_map, hi]; rfl
      obtain ⟨l1, e1⟩ := List.getElem?_eq_some_iff.mp h1
      obtain ⟨l2, e2⟩ := List.getElem?_eq_some_iff.mp h2
      exact e ((List.getElem_inj h.nd).mp (e2.trans e1.symm))
    exact (h.ok a u (List.mem_of_getElem? hj)).mono (Stay.write mu) (upd_ne hne)
theorem RM.at {K : Fg} {H : Hp} {M : Mm} {i : Nat} {p : Addr} {q : MO} (h : RM K H M) (hi : M[i]? = some (p, q)) : RO K H p q := h.ok p q (List.mem_of_getElem? hi)
/-! ### the slots -/
abbrev Ro := List (Option DV)
/-- a context and the heap from which on tuples and locked things stay -/
structure Cy extends Cx where
  anc : Hp
instance : Coe Cy Cx := ⟨Cy.toCx⟩
structure RS (X : Cy) (H : Hp) (ρ : Ro) (σ : L2.St) : Prop where
  st : Stay X.K X.anc H
  len : ρ.length = σ.length
  get : ∀ (i : Nat) (d : DV), ρ[i]? = some (some d) → (∃ x, X.N[i]? = some x ∧ Vis X.env.scope x) ∧ ∃ v, σ[i]? = some (some v) ∧ RD X.K H d v
theorem RS.mono {X : Cy} {H H' : Hp} {ρ : Ro} {σ : L2.St} (s : Stay X.K H H') (h : RS X H ρ σ) : RS X H' ρ σ :=
  ⟨h.st.trans s, h.len, fun i d e => by obtain ⟨a, v, b, c⟩ := h.get i d e; exact ⟨a, v, b, c.mono s⟩⟩
/-- a name's value -/
class inductive At : List Str → Ro → Str → outParam DV → Prop
  | here {x : Str} {N : List Str} {d : DV} {ρ : Ro} : At (x :: N) (some d :: ρ) x d
  | there {x y : Str} {N : List Str} {o : Option DV} {d : DV} {ρ : Ro} : At N ρ x d → At (y :: N) (o :: ρ) x d
theorem At.ix : ∀ {N : List Str} {ρ : Ro} {x : Str} {d : DV}, At N ρ x d → ∃ i : Nat, N[i]? = some x ∧ ρ[i]? = some (some d)
  | _, _, _, _, .here => ⟨0, rfl, rfl⟩
  | _, _, _, _, .there h => let ⟨i, a, b⟩ := At.ix h; ⟨i + 1, by simpa using a, by simpa using b⟩
/-- a name is given a value -/
class inductive Put (d : DV) : List Str → Ro → Str → outParam Ro → Prop
  | here {x : Str} {N : List Str} {o : Option DV} {ρ : Ro} : Put d (x :: N) (o :: ρ) x (some d :: ρ)
  | there {x y : Str} {N : List Str} {o : Option DV} {ρ ρ' : Ro} : Put d N ρ x ρ' → Put d (y :: N) (o :: ρ) x (o :: ρ')
theorem Put.ix {d : DV} : ∀ {N : List Str} {ρ ρ' : Ro} {x : Str}, Put d N ρ x ρ' → ∃ i : Nat, N[i]? = some x ∧ ρ' = ρ.set i (some d)
  | _, _, _, _, .here => ⟨0, rfl, rfl⟩
  | _, _, _, _, .there h => let ⟨i, a, b⟩ := Put.ix h; ⟨i + 1, by simpa using a, by subst b; rfl⟩
/-- an object's content -/
class inductive AtM : Mm → outParam Nat → Addr → outParam MO → Prop
  | here {a : Addr} {o : MO} {M : Mm} : AtM ((a, o) :: M) 0 a o
  | there {a : Addr} {o : MO} {x : Addr × MO} {M : Mm} {i : Nat} : AtM M i a o → AtM (x :: M) (i + 1) a o
theorem AtM.ix : ∀ {M : Mm} {i : Nat} {a : Addr} {o : MO}, AtM M i a o → M[i]? = some (a, o)
  | _, _, _, _, .here => rfl
  | _, _, _, _, .there h => by simpa using AtM.ix h
/-! ### the static facts of a def's body -/
/-- L: the def's own names that may be stored; C: those that inner blocks read; N: both, then the names of its comprehensions; Gs: the global names that it reads; Bs: the built-ins' names that the module leaves alone -/
class Fx (X : Cy) (P : outParam Program) (w : outParam World) (K : outParam Fg) (mg : outParam (Str → Option Value)) (base : outParam Heap) (sc : outParam Scope) (N L C Gs Bs : outParam (List Str)) (k : outParam Nat) : Prop where
  hP : X.prog = P
  hw : X.w = w
  hK : X.K = K
  hmg : X.mg = mg
  hbase : X.base = base
  hN : X.N = N
  hsc : X.env.scope = sc
  nd : N.Nodup
  loc : ∀ x ∈ L, X.env.scope.names.lookup x = some .local
  cel : ∀ x ∈ C, X.env.scope.names.lookup x = some .cell ∧ X.fn x = true
  kind : X.env.scope.kind = .function
  nob : ∀ x ∈ N, (x == ("__debug__" : Str)) = false ∧ (x == ("__classdict__" : Str)) = false
  gl : ∀ x ∈ Gs, Gl X x ∧ (x == ("__debug__" : Str)) = false ∧ x ≠ "__name__"
  bl : ∀ x ∈ Bs, mg x = none
  calm : X.calm = true
  room : Room k X.A
  pp : PassesOwn (model X.prog X.w) X.A X.env X.xe
/-! ### the readings by meaning -/
def wE (X : Cx) (e : Expr) : TE := fun σ H Q => ∀ (pins : List (Addr × Obj)) (s : Shared), Inv X pins σ H s → wpAny (model X.prog X.w) X.A (eval e X.env) (EP X pins σ Q) X.xe s
def wT (X : Cx) (e : Expr) : TT := fun σ H Q => ∀ (pins : List (Addr × Obj)) (s : Shared), Inv X pins σ H s → wpAny (model X.prog X.w) X.A (isTrue e X.env (eval e X.env)) (TP X pins σ Q) X.xe s
def wW (X : Cx) (e : Expr) : TT := fun σ H Q => ∀ (whole : Sem Value) (pins : List (Addr × Obj)) (s : Shared), Inv X pins σ H s → wpAny (model X.prog X.w) X.A (isTrue e X.env whole) (TP X pins σ Q) X.xe s
def wA (X : Cx) (es : List Expr) : TA := fun σ H Q => ∀ (pos : Pos) (pins : List (Addr × Obj)) (s : Shared), Inv X pins σ H s → wpAny (model X.prog X.w) X.A (spliced (backTo pos (starEach es X.env))) (AP X pins σ Q) X.xe s
def wS (X : Cx) (st : Stmt) : TS := fun D σ H => ∀ (pins : List (Addr × Obj)) (s : Shared), Inv X pins σ H s → wpAny (model X.prog X.w) X.A (exec st X.env) (SP X pins D) X.xe s
def wSs (X : Cx) (st : List Stmt) : TS := fun D σ H => ∀ (pins : List (Addr × Obj)) (s : Shared), Inv X pins σ H s → wpAny (model X.prog X.w) X.A (execs st X.env) (SP X pins D) X.xe s
section
variable {X : Cx} {e : Expr} {es : List Expr} {st : Stmt} {sts : List Stmt} {σ : L2.St} {H : Hp}
theorem pe_w : PE X e (wE X e) := ⟨fun pins s _ _ _ I h => h pins s I⟩
theorem pt_w : PT X e (wT X e) := ⟨fun pins s _ _ _ I h => h pins s I⟩
theorem pw_w : PW X e (wW X e) := ⟨fun whole pins s _ _ _ I h => h whole pins s I⟩
theorem pa_w : PA X es (wA X es) := ⟨fun pos pins s _ _ _ I h => h pos pins s I⟩
theorem ps_w : PS X st (wS X st) := ⟨fun pins s _ _ _ I h => h pins s I⟩
theorem pss_w : PSs X sts (wSs X sts) := ⟨fun pins s _ _ _ I h => h pins s I⟩
theorem wE.of {t : TE} (p : PE X e t) {Q : VK} (h : t σ H Q) : wE X e σ H Q := fun pins s I => p.run pins s σ H Q I h
theorem wT.of {t : TT} (p : PT X e t) {Q : Bool → Hp → Prop} (h : t σ H Q) : wT X e σ H Q := fun pins s I => p.run pins s σ H Q I h
theorem wW.of {t : TT} (p : PW X e t) {Q : Bool → Hp → Prop} (h : t σ H Q) : wW X e σ H Q := fun wh pins s I => p.run wh pins s σ H Q I h
theorem wA.of {t : TA} (p : PA X es t) {Q : List V → Hp → Prop} (h : t σ H Q) : wA X es σ H Q := fun pos pins s I => p.run pos pins s σ H Q I h
theorem wS.of {t : TS} (p : PS X st t) {D : Ends} (h : t D σ H) : wS X st D σ H := fun pins s I => p.run pins s σ H D I h
theorem wSs.of {t : TS} (p : PSs X sts t) {D : Ends} (h : t D σ H) : wSs X sts D σ H := fun pins s I => p.run pins s σ H D I h
theorem wE.mono {Q Q' : VK} (h : wE X e σ H Q) (q : ∀ v H', Q v H' → Q' v H') : wE X e σ H Q' := fun pins s I => thn (h pins s I) fun u s' ⟨v, H', I', r, z⟩ => ⟨v, H', I', r, q v H' z⟩
theorem wT.mono {Q Q' : Bool → Hp → Prop} (h : wT X e σ H Q) (q : ∀ v H', Q v H' → Q' v H') : wT X e σ H Q' := fun pins s I => thn (h pins s I) fun u s' ⟨H', I', z⟩ => ⟨H', I', q u H' z⟩
theorem wW.mono {Q Q' : Bool → Hp → Prop} (h : wW X e σ H Q) (q : ∀ v H', Q v H' → Q' v H') : wW X e σ H Q' := fun wh pins s I => thn (h wh pins s I) fun u s' ⟨H', I', z⟩ => ⟨H', I', q u H' z⟩
theorem wA.mono {Q Q' : List V → Hp → Prop} (h : wA X es σ H Q) (q : ∀ v H', Q v H' → Q' v H') : wA X es σ H Q' := fun pos pins s I => thn (h pos pins s I) fun u s' ⟨v, H', I', r, z⟩ => ⟨v, H', I', r, q v H' z⟩
theorem SP.mono {pins : List (Addr × Obj)} {D D' : Ends} {f : Flow} {s : Shared} (h : SP X pins D f s) (h1 : ∀ σ H, D.nx σ H → D'.nx σ H) (h2 : ∀ v H, D.rt v H → D'.rt v H) (h3 : ∀ σ H, D.bk σ H → D'.bk σ H) (h4 : ∀ σ H, D.ct σ H → D'.ct σ H) : SP X pins D' f s := by
  cases f with
  | next => obtain ⟨σ', H', I, q⟩ := h; exact ⟨σ', H', I, h1 _ _ q⟩
  | brk => obtain ⟨σ', H', I, q⟩ := h; exact ⟨σ', H', I, h3 _ _ q⟩
  | cont => obtain ⟨σ', H', I, q⟩ := h; exact ⟨σ', H', I, h4 _ _ q⟩
  | ret u => obtain ⟨v, σ', H', I, r, q⟩ := h; exact ⟨v, σ', H', I, r, h2 _ _ q⟩
theorem wS.mono {D D' : Ends} (h : wS X st D σ H) (h1 : ∀ σ H, D.nx σ H → D'.nx σ H) (h2 : ∀ v H, D.rt v H → D'.rt v H) (h3 : ∀ σ H, D.bk σ H → D'.bk σ H) (h4 : ∀ σ H, D.ct σ H → D'.ct σ H) : wS X st D' σ H := fun pins s I => thn (h pins s I) fun u s' z => SP.mono z h1 h2 h3 h4
theorem wSs.mono {D D' : Ends} (h : wSs X sts D σ H) (h1 : ∀ σ H, D.nx σ H → D'.nx σ H) (h2 : ∀ v H, D.rt v H → D'.rt v H) (h3 : ∀ σ H, D.bk σ H → D'.bk σ H) (h4 : ∀ σ H, D.ct σ H → D'.ct σ H) : wSs X sts D' σ H := fun pins s I => thn (h pins s I) fun u s' z => SP.mono z h1 h2 h3 h4
end
/-! ### the judgements over values -/
def LE (K : Fg) (H : Hp) (Q : DV → Mm → Prop) : VK := fun v H' => ∃ d M', RD K H' d v ∧ RM K H' M' ∧ Stay K H H' ∧ Q d M'
def LT (K : Fg) (H : Hp) (Q : Bool → Mm → Prop) : Bool → Hp → Prop := fun b H' => ∃ M', RM K H' M' ∧ Stay K H H' ∧ Q b M'
def LA (K : Fg) (H : Hp) (Q : List DV → Mm → Prop) : List V → Hp → Prop := fun v H' => ∃ d M', RDs K H' d v ∧ RM K H' M' ∧ Stay K H H' ∧ Q d M'
structure En where
  nx : Ro → Mm → Prop
  rt : DV → Mm → Prop
  bk : Ro → Mm → Prop := fun _ _ => False
  ct : Ro → Mm → Prop := fun _ _ => False
def LN (X : Cy) (H : Hp) (Q : Ro → Mm → Prop) : L2.St → Hp → Prop := fun σ H' => ∃ ρ M', RS X H' ρ σ ∧ RM X.K H' M' ∧ Stay X.K H H' ∧ Q ρ M'
def LD (X : Cy) (H : Hp) (D : En) : Ends := { nx := LN X H D.nx, rt := LE X.K H D.rt, bk := LN X H D.bk, ct := LN X H D.ct }
def WE (X : Cy) (ρ : Ro) (M : Mm) (e : Expr) (Q : DV → Mm → Prop) : Prop := ∀ σ H, RS X H ρ σ → RM X.K H M → wE X e σ H (LE X.K H Q)
def WT (X : Cy) (ρ : Ro) (M : Mm) (e : Expr) (Q : Bool → Mm → Prop) : Prop := ∀ σ H, RS X H ρ σ → RM X.K H M → wT X e σ H (LT X.K H Q)
def WW (X : Cy) (ρ : Ro) (M : Mm) (e : Expr) (Q : Bool → Mm → Prop) : Prop := ∀ σ H, RS X H ρ σ → RM X.K H M → wW X e σ H (LT X.K H Q)
def WA (X : Cy) (ρ : Ro) (M : Mm) (es : List Expr) (Q : List DV → Mm → Prop) : Prop := ∀ σ H, RS X H ρ σ → RM X.K H M → wA X es σ H (LA X.K H Q)
def WS (X : Cy) (ρ : Ro) (M : Mm) (st : Stmt) (nx : Ro → Mm → Prop) (rt : DV → Mm → Prop) (bk ct : Ro → Mm → Prop) : Prop := ∀ σ H, RS X H ρ σ → RM X.K H M → wS X st (LD X H ⟨nx, rt, bk, ct⟩) σ H
def WSs (X : Cy) (ρ : Ro) (M : Mm) (st : List Stmt) (nx : Ro → Mm → Prop) (rt : DV → Mm → Prop) (bk ct : Ro → Mm → Prop) : Prop := ∀ σ H, RS X H ρ σ → RM X.K H M → wSs X st (LD X H ⟨nx, rt, bk, ct⟩) σ H
theorem LE.stay {K : Fg} {H H1 : Hp} {Q : DV → Mm → Prop} (s : Stay K H H1) {v : V} {H' : Hp} (h : LE K H1 Q v H') : LE K H Q v H' := let ⟨d, M', a, b, c, q⟩ := h; ⟨d, M', a, b, s.trans c, q⟩
theorem LT.stay {K : Fg} {H H1 : Hp} {Q : Bool → Mm → Prop} (s : Stay K H H1) {v : Bool} {H' : Hp} (h : LT K H1 Q v H') : LT K H Q v H' := let ⟨M', b, c, q⟩ := h; ⟨M', b, s.trans c, q⟩
theorem LN.stay {X : Cy} {H H1 : Hp} {Q : Ro → Mm → Prop} (s : Stay X.K H H1) {σ : L2.St} {H' : Hp} (h : LN X H1 Q σ H') : LN X H Q σ H' := let ⟨d, M', a, b, c, q⟩ := h; ⟨d, M', a, b, s.trans c, q⟩
/-! ### expressions -/
section
variable {X : Cy} {P : Program} {w : World} {K : Fg} {mg : Str → Option Value} {base : Heap} {sc : Scope} {N L C Gs Bs : List Str} {k : Nat} {ρ : Ro} {M : Mm} {Q : DV → Mm → Prop} {a b c e : Expr} {es : List Expr} {pos : Pos}
theorem WE.mono {Q' : DV → Mm → Prop} (h : WE X ρ M e Q) (q : ∀ d M', Q d M' → Q' d M') : WE X ρ M e Q' := fun σ H r m => (h σ H r m).mono fun v H' ⟨d, M', a, b, c, z⟩ => ⟨d, M', a, b, c, q d M' z⟩
theorem we_name {x : Str} {d : DV} (F : Fx X P w K mg base sc N L C Gs Bs k) (h : At N ρ x d) (q : Q d M) : WE X ρ M (.Name x pos) Q := fun σ H r m => by
  obtain ⟨i, h1, h2⟩ := h.ix
  obtain ⟨⟨y, n1, n2⟩, v, n3, n4⟩ := r.get i d h2
  have hx : x ∈ N := List.mem_of_getElem? h1
  have h1' : X.N[i]? = some x := by rw [F.hN]; exact h1
  have e : y = x := by rw [n1] at h1'; exact Option.some.inj h1'
  subst e
  exact wE.of (pe_var h1' n2 (F.nob y hx).1 (F.nob y hx).2) ⟨v, n3, d, M, n4, m, Stay.refl, q⟩
theorem we_int {i : Int} {j : Nat} (q : Q (.int i) M) : WE X ρ M (.Constant (.int i) j pos) Q := fun σ H r m => wE.of pe_int ⟨_, M, .int i, m, Stay.refl, q⟩
theorem we_bl {i : Bool} {j : Nat} (q : Q (.bl i) M) : WE X ρ M (.Constant (.bool i) j pos) Q := fun σ H r m => wE.of pe_bl ⟨_, M, .bl i, m, Stay.refl, q⟩
theorem we_non {j : Nat} (q : Q .non M) : WE X ρ M (.Constant .none j pos) Q := fun σ H r m => wE.of pe_non ⟨_, M, .non, m, Stay.refl, q⟩
theorem we_str {x : Str} {j : Nat} (q : Q (.str x) M) : WE X ρ M (.Constant (.str x) j pos) Q := fun σ H r m => wE.of pe_str ⟨_, M, .str x, m, Stay.refl, q⟩
/-- what a two-place operation asks, over values -/
def R2D (K : Fg) (r : R2) (x y : DV) (M : Mm) (Q : DV → Mm → Prop) : Prop := ∀ vx vy H, RD K H x vx → RD K H y vy → RM K H M → r vx vy H (LE K H Q)
theorem tOp_of {r : R2} {ta tb : TE} {σ : L2.St} {H : Hp} (ha : ∀ Q', (∀ v H1, LE X.K H (fun x M1 => ∀ H2, RS X H2 ρ σ → RM X.K H2 M1 → tb σ H2 (LE X.K H2 fun y M2 => R2D X.K r x y M2 Q)) v H1 → Q' v H1) → ta σ H Q') (rs : RS X H ρ σ)
    (mb : ∀ σ H Q Q', tb σ H Q → (∀ v H', Q v H' → Q' v H') → tb σ H Q') (mr : ∀ x y H Q Q', r x y H Q → (∀ v H', Q v H' → Q' v H') → r x y H Q') : tOp r ta tb σ H (LE X.K H Q) := by
  refine ha _ fun v H1 ⟨d, M1, h1, h2, h3, h4⟩ => ?_
  refine mb _ _ _ _ (h4 H1 (rs.mono h3) h2) fun u H2 ⟨d2, M2, g1, g2, g3, g4⟩ => ?_
  exact mr _ _ _ _ _ (g4 v u H2 (h1.mono g3) g1 g2) fun _ _ z => z.stay (h3.trans g3)
/-- an operation's reading may be weakened -/
def MonR (r : R2) : Prop := ∀ x y H Q Q', r x y H Q → (∀ v H', Q v H' → Q' v H') → r x y H Q'
theorem we_op {r : R2} (p : ∀ {ta tb : TE}, PE X a ta → PE X b tb → PE X e (tOp r ta tb)) (mr : MonR r) (h : WE X ρ M a fun x M1 => WE X ρ M1 b fun y M2 => R2D X.K r x y M2 Q) : WE X ρ M e Q := fun σ H rs m => by
  refine wE.of (p pe_w pe_w) (tOp_of (ρ := ρ) (fun Q' hq => (h σ H rs m).mono fun v H1 z => hq v H1 ?_) rs (fun _ _ _ _ h q => h.mono q) mr)
  obtain ⟨d, M1, h1, h2, h3, h4⟩ := z
  exact ⟨d, M1, h1, h2, h3, fun H2 r2 m2 => h4 σ H2 r2 m2⟩
theorem MonR.or {r r' : R2} (a : MonR r) (b : MonR r') : MonR fun x y H Q => r x y H Q ∨ r' x y H Q := fun x y H Q Q' h q => h.elim (fun h => .inl (a x y H Q Q' h q)) fun h => .inr (b x y H Q Q' h q)
theorem monI0 {g : Int → Int → V} : MonR (rI0 g) := fun x y H Q Q' h q => let ⟨i, j, a, b, c⟩ := h; ⟨i, j, a, b, q _ _ c⟩
theorem monI {C : Int → Int → Prop} {g : Int → Int → V} : MonR (rI C g) := fun x y H Q Q' h q => let ⟨i, j, a, b, d, c⟩ := h; ⟨i, j, a, b, d, q _ _ c⟩
end
end G
namespace G
open PySem L2
/-! ### arguments -/
def isStar : Expr → Bool
  | .Starred _ _ => true
  | _ => false
theorem starEach_cons {e : Expr} {es : List Expr} {env : Env} (h : isStar e = false) : starEach (e :: es) env = (false, eval e env) :: starEach es env := by
  cases e <;> first | rfl | exact Bool.noConfusion h
def noStars : List Expr → Bool
  | [] => true
  | e :: es => !isStar e && noStars es
theorem noStars_cons {e : Expr} {es : List Expr} (h : noStars (e :: es) = true) : isStar e = false ∧ noStars es = true := by
  unfold noStars at h
  cases q : isStar e with
  | true => rw [q] at h; exact Bool.noConfusion h
  | false => rw [q] at h; exact ⟨rfl, h⟩
theorem noStars_any {env : Env} {pos : Pos} : ∀ {es : List Expr}, noStars es = true → (backTo pos (starEach es env)).any (·.1) = false
  | [], _ => rfl
  | e :: es, h => by
    obtain ⟨h1, h2⟩ := noStars_cons h
    rw [starEach_cons h1]
    show (false || (backTo pos (starEach es env)).any (·.1)) = false
    rw [noStars_any h2]
    rfl
section
variable {X : Cy} {P : Program} {w : World} {K : Fg} {mg : Str → Option Value} {base : Heap} {sc : Scope} {N L C Gs Bs : List Str} {k : Nat} {ρ : Ro} {M : Mm} {Q : DV → Mm → Prop} {a b c e : Expr} {es : List Expr} {pos p p2 : Pos}
theorem wa_nil {Q : List DV → Mm → Prop} (q : Q [] M) : WA X ρ M [] Q := fun σ H rs m => wA.of pa_nil ⟨[], M, .nil, m, Stay.refl, q⟩
theorem wa_cons' {Q : List DV → Mm → Prop} (hs : isStar e = false) (h : WE X ρ M e fun d M1 => WA X ρ M1 es fun ds M2 => Q (d :: ds) M2) : WA X ρ M (e :: es) Q := fun σ H rs m => by
  refine wA.of (pa_cons pe_w pa_w (starEach_cons hs)) ?_
  refine (h σ H rs m).mono fun v H1 ⟨d, M1, h1, h2, h3, h4⟩ => ?_
  refine (h4 σ H1 (rs.mono h3) h2).mono fun vs H2 ⟨ds, M2, g1, g2, g3, g4⟩ => ?_
  exact ⟨d :: ds, M2, .cons (h1.mono g3) g1, g2, h3.trans g3, g4⟩
theorem we_tup {i : Nat} (hs : noStars es = true) (h : WA X ρ M es fun ds M1 => ds.length ≤ sizeLine ∧ Q (.tup ds) M1) : WE X ρ M (.Tuple es i pos) Q := fun σ H rs m => by
  refine wE.of (pe_tup pa_w) ?_
  refine (h σ H rs m).mono fun vs H1 ⟨ds, M1, h1, h2, h3, h4, h5⟩ => ⟨by rw [← h1.length]; exact h4, fun p hp => ?_⟩
  exact ⟨.tup ds, M1, .tup (SqT.of upd_same) (h1.mono (Stay.new hp)), h2.new hp, h3.trans (Stay.new hp), h5⟩
theorem we_lst (hs : noStars es = true) (h : WA X ρ M es fun ds M1 => ds.length ≤ sizeLine ∧ ∀ p, Q (.ref p) ((p, .lst ds) :: M1)) : WE X ρ M (.List es pos) Q := fun σ H rs m => by
  refine wE.of (pe_lst pa_w) ?_
  refine (h σ H rs m).mono fun vs H1 ⟨ds, M1, h1, h2, h3, h4, h5⟩ => ⟨by rw [← h1.length]; exact h4, fun p hp => ?_⟩
  exact ⟨.ref p, (p, .lst ds) :: M1, .ref p, h2.cons hp ⟨vs, upd_same, h1.mono (Stay.new hp)⟩, h3.trans (Stay.new hp), h5 p⟩
/-! ### operators -/
def rAdd3 (K : Fg) : R2 := fun x y H Q => rI0 (fun i j => .int (i + j)) x y H Q ∨ (∃ i j, x = .str i ∧ y = .str j ∧ i.length + j.length ≤ sizeLine ∧ Q (.str (i ++ j)) H) ∨ rCat x y H Q ∨ rCatA K x y H Q
theorem mon_add : MonR (rAdd3 K) := fun x y H Q Q' h q => by
  rcases h with h | ⟨i, j, a, b, c, d⟩ | ⟨l, b, xs, zs, h1, h2, h3, h4, h5, h6⟩ | ⟨a, b, xs, ys, h1, h2, h3, h4, h5, h6, h7, h8⟩
  · exact .inl (monI0 x y H Q Q' h q)
  · exact .inr (.inl ⟨i, j, a, b, c, q _ _ d⟩)
  · exact .inr (.inr (.inl ⟨l, b, xs, zs, h1, h2, h3, h4, h5, fun p hp => q _ _ (h6 p hp)⟩))
  · exact .inr (.inr (.inr ⟨a, b, xs, ys, h1, h2, h3, h4, h5, fun z => q _ _ (h6 z), fun z z' => q _ _ (h7 z z'), fun z z' p hp => q _ _ (h8 z z' p hp)⟩))
theorem op_add3 : OpR X (binaryOp .Add) (rAdd3 X.K) := op_add.or (op_add_str.or (op_cat.or op_catA))
theorem we_add (h : WE X ρ M a fun x M1 => WE X ρ M1 b fun y M2 => R2D X.K (rAdd3 X.K) x y M2 Q) : WE X ρ M (.BinOp a .Add b pos) Q := we_op (pe_op op_add3) mon_add h
theorem we_sub (h : WE X ρ M a fun x M1 => WE X ρ M1 b fun y M2 => R2D X.K (rI0 fun i j => .int (i - j)) x y M2 Q) : WE X ρ M (.BinOp a .Sub b pos) Q := we_op (pe_op op_sub) monI0 h
def rMul3 : R2 := fun x y H Q => rI CMul (fun i j => .int (i * j)) x y H Q ∨ rI CMulW (fun i j => .int (i * j)) x y H Q
theorem we_fdiv (h : WE X ρ M a fun x M1 => WE X ρ M1 b fun y M2 => R2D X.K (rI CDivW fun i j => .int (i / j)) x y M2 Q) : WE X ρ M (.BinOp a .FloorDiv b pos) Q := we_op (pe_op op_fdivW) monI h
theorem we_mod (h : WE X ρ M a fun x M1 => WE X ρ M1 b fun y M2 => R2D X.K (rI (fun _ j => j ≠ 0) fun i j => .int (i.fmod j)) x y M2 Q) : WE X ρ M (.BinOp a .Mod b pos) Q := we_op (pe_op op_modN) monI h
theorem we_pow (h : WE X ρ M a fun x M1 => WE X ρ M1 b fun y M2 => R2D X.K (rI CPow fun i j => .int (i ^ j.toNat)) x y M2 Q) : WE X ρ M (.BinOp a .Pow b pos) Q := we_op (pe_op op_pow) monI h
theorem v_ii {g : Int → Int → Int} {i j : Int} (q : Q (.int (g i j)) M) : R2D K (rI0 fun i j => .int (g i j)) (.int i) (.int j) M Q := fun vx vy H h1 h2 m => by
  cases h1; cases h2
  exact ⟨i, j, rfl, rfl, .int (g i j), M, .int _, m, Stay.refl, q⟩
theorem v_ib {g : Int → Int → Bool} {i j : Int} (q : Q (.bl (g i j)) M) : R2D K (rI0 fun i j => .bl (g i j)) (.int i) (.int j) M Q := fun vx vy H h1 h2 m => by
  cases h1; cases h2
  exact ⟨i, j, rfl, rfl, .bl (g i j), M, .bl _, m, Stay.refl, q⟩
theorem v_ci {C : Int → Int → Prop} {g : Int → Int → Int} {i j : Int} (hc : C i j) (q : Q (.int (g i j)) M) : R2D K (rI C fun i j => .int (g i j)) (.int i) (.int j) M Q := fun vx vy H h1 h2 m => by
  cases h1; cases h2
  exact ⟨i, j, rfl, rfl, hc, .int (g i j), M, .int _, m, Stay.refl, q⟩
theorem R2D.l {r r' : R2} {x y : DV} (h : R2D K r x y M Q) : R2D K (fun x y H Q => r x y H Q ∨ r' x y H Q) x y M Q := fun vx vy H h1 h2 m => .inl (h vx vy H h1 h2 m)
theorem R2D.r {r r' : R2} {x y : DV} (h : R2D K r' x y M Q) : R2D K (fun x y H Q => r x y H Q ∨ r' x y H Q) x y M Q := fun vx vy H h1 h2 m => .inr (h vx vy H h1 h2 m)
theorem v_mul_i {i j : Int} (hc : CMul i j ∨ CMulW i j) (q : Q (.int (i * j)) M) : R2D K rMul3 (.int i) (.int j) M Q := by
  rcases hc with hc | hc
  · exact R2D.l (v_ci (g := fun i j => i * j) hc q)
  · exact R2D.r (v_ci (g := fun i j => i * j) hc q)
theorem v_add_i {i j : Int} (q : Q (.int (i + j)) M) : R2D K (rAdd3 K) (.int i) (.int j) M Q := R2D.l (v_ii q)
theorem v_add_l {x y : Addr} {i j : Nat} {xs ys : List DV} (hx : AtM M i x (.lst xs)) (hy : AtM M j y (.lst ys)) (hl : xs.length + ys.length ≤ sizeLine) (q : ∀ p, Q (.ref p) ((p, .lst (xs ++ ys)) :: M)) : R2D K (rAdd3 K) (.ref x) (.ref y) M Q :=
  R2D.r (R2D.r (R2D.l fun vx vy H h1 h2 m => by
    cases h1; cases h2
    obtain ⟨vs, e1, r1⟩ := m.at hx.ix
    obtain ⟨us, e2, r2⟩ := m.at hy.ix
    refine ⟨x, y, vs, us, rfl, rfl, e1, e2, by rw [← r1.length, ← r2.length]; exact hl, fun p hp => ?_⟩
    exact ⟨.ref p, (p, .lst (xs ++ ys)) :: M, .ref p, m.cons hp ⟨_, upd_same, (r1.append r2).mono (Stay.new hp)⟩, Stay.new hp, q p⟩))
theorem v_add_t {xs ys : List DV} (hl : xs.length + ys.length ≤ sizeLine) (q : Q (.tup (xs ++ ys)) M) : R2D K (rAdd3 K) (.tup xs) (.tup ys) M Q :=
  R2D.r (R2D.r (R2D.r fun vx vy H h1 h2 m => by
    cases h1 with
    | tup s1 r1 =>
      cases h2 with
      | tup s2 r2 =>
        rename_i a vs b us
        refine ⟨a, b, vs, us, rfl, rfl, s1, s2, by rw [← r1.length, ← r2.length]; exact hl, fun z => ?_, fun _ z => ?_, fun _ _ p hp => ?_⟩
        · subst z
          cases r1
          exact ⟨.tup ys, M, .tup s2 r2, m, Stay.refl, q⟩
        · subst z
          cases r2
          rw [List.append_nil] at q
          exact ⟨.tup xs, M, .tup s1 r1, m, Stay.refl, q⟩
        · exact ⟨.tup (xs ++ ys), M, .tup (SqT.of upd_same) ((r1.append r2).mono (Stay.new hp)), m.new hp, Stay.new hp, q⟩))
/-! ### one-place operators -/
theorem we_neg (h : WE X ρ M a fun x M1 => ∃ i, x = .int i ∧ Q (.int (-i)) M1) : WE X ρ M (.UnaryOp .USub a pos) Q := fun σ H rs m => by
  refine wE.of (pe_un un_neg pe_w) ?_
  refine (h σ H rs m).mono fun v H1 ⟨d, M1, h1, h2, h3, i, e, q⟩ => ?_
  subst e
  cases h1
  exact ⟨i, rfl, .int (-i), M1, .int _, h2, h3, q⟩
/-! ### subscripts -/
def isSl : Expr → Bool
  | .Slice _ _ _ _ => true
  | _ => false
theorem plainIx {b : Expr} (h : isSl b = false) : PlainIx b := fun o i => by
  cases b <;> first | rfl | exact Bool.noConfusion h
theorem mon_ix : MonR (rIx K) := fun x y H Q Q' h q => by
  rcases h with ⟨p, xs, i, v, h1, h2, h3, h4, h5⟩ | ⟨p, xs, i, v, h1, h2, h3, h4, h5⟩ | ⟨z, i, c, h1, h2, h3, h4, h5⟩
  · exact .inl ⟨p, xs, i, v, h1, h2, h3, h4, q _ _ h5⟩
  · exact .inr (.inl ⟨p, xs, i, v, h1, h2, h3, h4, q _ _ h5⟩)
  · exact .inr (.inr ⟨z, i, c, h1, h2, h3, h4, q _ _ h5⟩)
theorem atI_rel {H : Hp} {ds : List DV} {vs : List V} {i : Int} {d : DV} (r : RDs K H ds vs) (h : atI ds i = some d) : ∃ v, atI vs i = some v ∧ RD K H d v := by
  unfold atI at h ⊢
  rw [← r.length]
  cases e : ixN ds.length i with
  | none => rw [e] at h; cases h
  | some j =>
    rw [e] at h
    have h : ds[j]? = some d := h
    obtain ⟨v, h1, h2⟩ := r.get h
    exact ⟨v, h1, h2⟩
theorem v_ix_t {ds : List DV} {i : Int} {d : DV} (h : atI ds i = some d) (q : Q d M) : R2D K (rIx K) (.tup ds) (.int i) M Q := fun vx vy H h1 h2 m => by
  cases h1 with
  | tup s1 r1 =>
    cases h2
    obtain ⟨v, e, r⟩ := atI_rel r1 h
    exact .inr (.inl ⟨_, _, i, v, rfl, rfl, s1, e, d, M, r, m, Stay.refl, q⟩)
theorem v_ix_l {ds : List DV} {i : Int} {d : DV} {x : Addr} {n : Nat} (hx : AtM M n x (.lst ds)) (h : atI ds i = some d) (q : Q d M) : R2D K (rIx K) (.ref x) (.int i) M Q := fun vx vy H h1 h2 m => by
  cases h1; cases h2
  obtain ⟨vs, e1, r1⟩ := m.at hx.ix
  obtain ⟨v, e, r⟩ := atI_rel r1 h
  exact .inl ⟨_, _, i, v, rfl, rfl, SqL.of e1, e, d, M, r, m, Stay.refl, q⟩
end
end G
namespace G
open PySem L2
/-! ### data: what is compared by == -/
mutual
inductive Pd (M : Mm) : DV → PyData → Prop
  | non : Pd M .non .none
  | bl (b : Bool) : Pd M (.bl b) (.bool b)
  | int (i : Int) : Pd M (.int i) (.int i)
  | str (x : Str) : Pd M (.str x) (.str x)
  | tup {ds : List DV} {ps : List PyData} : Pds M ds ps → Pd M (.tup ds) (.tuple ps)
  | lst {a : Addr} {i : Nat} {ds : List DV} {ps : List PyData} : AtM M i a (.lst ds) → Pds M ds ps → Pd M (.ref a) (.list ps)
  | lis {ds : List DV} {ps : List PyData} : Pds M ds ps → Pd M (.lis ds) (.list ps)
inductive Pds (M : Mm) : List DV → List PyData → Prop
  | nil : Pds M [] []
  | cons {d : DV} {ds : List DV} {p : PyData} {ps : List PyData} : Pd M d p → Pds M ds ps → Pds M (d :: ds) (p :: ps)
end
mutual
theorem Pd.dp {K : Fg} {H : Hp} {M : Mm} (m : RM K H M) : ∀ {d : DV} {p : PyData} {v : V}, Pd M d p → RD K H d v → Dp K H v p
  | _, _, _, .non, h => by cases h; exact .non
  | _, _, _, .bl b, h => by cases h; exact .bl b
  | _, _, _, .int b, h => by cases h; exact .int b
  | _, _, _, .str b, h => by cases h; exact .str b
  | _, _, _, .tup q, h => by
    cases h with
    | tup s r => exact .tup s (Pds.dp m q r)
  | _, _, _, .lst ha q, h => by
    cases h
    obtain ⟨vs, e, r⟩ := m.at ha.ix
    exact .lst (SqL.of e) (Pds.dp m q r)
  | _, _, _, .lis q, h => by
    cases h with
    | lis s r => exact .lst s.sq (Pds.dp m q r)
theorem Pds.dp {K : Fg} {H : Hp} {M : Mm} (m : RM K H M) : ∀ {d : List DV} {p : List PyData} {v : List V}, Pds M d p → RDs K H d v → DpAll K H v p
  | _, _, _, .nil, h => by cases h; exact .nil
  | _, _, _, .cons a b, h => by
    cases h with
    | cons r t => exact .cons (Pd.dp m a r) (Pds.dp m b t)
end
section
variable {X : Cy} {P : Program} {w : World} {K : Fg} {mg : Str → Option Value} {base : Heap} {sc : Scope} {N L C Gs Bs : List Str} {k : Nat} {ρ : Ro} {M : Mm} {Q : DV → Mm → Prop} {R : Bool → Mm → Prop} {a b c e : Expr} {es rest : List Expr} {pos p p2 apos : Pos}
/-! ### comparisons -/
def QB (R : Bool → Mm → Prop) : DV → Mm → Prop := fun d M => ∃ b, d = .bl b ∧ R b M
theorem qb {c : Bool} (h : R c M) : QB R (.bl c) M := ⟨c, rfl, h⟩
theorem wt_op {r : R2} (pt : ∀ {ta tb : TE}, PE X a ta → PE X b tb → PT X e (tTest (tOp r ta tb))) (mr : MonR r) (h : WE X ρ M a fun x M1 => WE X ρ M1 b fun y M2 => R2D X.K r x y M2 (QB R)) : WT X ρ M e R := fun σ H rs m => by
  refine wT.of (pt pe_w pe_w) ?_
  have q : tOp r (wE X a) (wE X b) σ H (LE X.K H (QB R)) := tOp_of (ρ := ρ) (fun Q' hq => (h σ H rs m).mono fun v H1 z => hq v H1 (by
    obtain ⟨d, M1, h1, h2, h3, h4⟩ := z
    exact ⟨d, M1, h1, h2, h3, fun H2 r2 m2 => h4 σ H2 r2 m2⟩)) rs (fun _ _ _ _ h q => h.mono q) mr
  show wE X a σ H fun x H1 => wE X b σ H1 fun y H2 => r x y H2 _
  refine wE.mono (show wE X a σ H fun x H1 => wE X b σ H1 fun y H2 => r x y H2 _ from q) fun x H1 z => wE.mono z fun y H2 z => mr _ _ _ _ _ z fun v H' ⟨d, M', g1, g2, g3, bb, g4, g5⟩ => ?_
  subst g4
  cases g1
  exact ⟨bb, rfl, M', g2, g3, g5⟩
def rEq3 (K : Fg) : R2 := fun x y H Q => rEq x y H Q ∨ rEqD K x y H Q
def rNe3 (K : Fg) : R2 := fun x y H Q => rNe x y H Q ∨ rNeD K x y H Q
theorem mon_eq : MonR (rEq3 K) := fun x y H Q Q' h q => by
  rcases h with ⟨h1, h2⟩ | ⟨d, e, h1, h2, h3, h4, h5⟩
  · exact .inl ⟨h1, q _ _ h2⟩
  · exact .inr ⟨d, e, h1, h2, h3, h4, q _ _ h5⟩
theorem mon_ne : MonR (rNe3 K) := fun x y H Q Q' h q => by
  rcases h with ⟨h1, h2⟩ | ⟨d, e, h1, h2, h3, h4, h5⟩
  · exact .inl ⟨h1, q _ _ h2⟩
  · exact .inr ⟨d, e, h1, h2, h3, h4, q _ _ h5⟩
theorem we_eq (F : Fx X P w K mg base sc N L C Gs Bs k) (h : WE X ρ M a fun x M1 => WE X ρ M1 b fun y M2 => R2D X.K (rEq3 X.K) x y M2 Q) : WE X ρ M (.Compare a [.Eq] [b] pos) Q :=
  we_op (fun ha hb => pe_cmpR (op_eq.or (op_eqD F.room.units)) ha hb (nomark _)) mon_eq h
theorem wt_eq (F : Fx X P w K mg base sc N L C Gs Bs k) (h : WE X ρ M a fun x M1 => WE X ρ M1 b fun y M2 => R2D X.K (rEq3 X.K) x y M2 (QB R)) : WT X ρ M (.Compare a [.Eq] [b] pos) R :=
  wt_op (fun ha hb => pt_cmpR (op_eq.or (op_eqD F.room.units)) ha hb (nomark _)) mon_eq h
theorem v_eq_i {i j : Int} (q : Q (.bl (decide (i = j))) M) : R2D K (rEq3 K) (.int i) (.int j) M Q := fun vx vy H h1 h2 m => by
  cases h1; cases h2
  refine .inl ⟨rfl, ?_⟩
  have e : decide (V.int i = V.int j) = decide (i = j) := by rw [dec_int]; rfl
  rw [e]
  exact ⟨_, M, .bl _, m, Stay.refl, q⟩
theorem v_ne_i {i j : Int} (q : Q (.bl (!decide (i = j))) M) : R2D K (rNe3 K) (.int i) (.int j) M Q := fun vx vy H h1 h2 m => by
  cases h1; cases h2
  refine .inl ⟨rfl, ?_⟩
  have e : decide (V.int i = V.int j) = decide (i = j) := by rw [dec_int]; rfl
  rw [e]
  exact ⟨_, M, .bl _, m, Stay.refl, q⟩
theorem dec_str {i j : Str} : decide (V.str i = V.str j) = decide (i = j) := by
  by_cases e : i = j
  · subst e; simp
  · rw [decide_eq_false e, decide_eq_false fun q => e (V.str.inj q)]
theorem v_eq_s {i j : Str} (q : Q (.bl (decide (i = j))) M) : R2D K (rEq3 K) (.str i) (.str j) M Q := fun vx vy H h1 h2 m => by
  cases h1; cases h2
  refine .inl ⟨rfl, ?_⟩
  rw [dec_str]
  exact ⟨_, M, .bl _, m, Stay.refl, q⟩
theorem v_ne_s {i j : Str} (q : Q (.bl (!decide (i = j))) M) : R2D K (rNe3 K) (.str i) (.str j) M Q := fun vx vy H h1 h2 m => by
  cases h1; cases h2
  refine .inl ⟨rfl, ?_⟩
  rw [dec_str]
  exact ⟨_, M, .bl _, m, Stay.refl, q⟩
theorem v_eq_d {x y : DV} {d e : PyData} (h1 : Pd M x d) (h2 : Pd M y e) (s1 : SeqAt.shaped d = true) (s2 : SeqAt.shaped e = true) (q : Q (.bl (PyData.eqv d e)) M) : R2D K (rEq3 K) x y M Q := fun vx vy H r1 r2 m =>
  .inr ⟨d, e, h1.dp m r1, h2.dp m r2, s1, s2, _, M, .bl _, m, Stay.refl, q⟩
theorem v_ne_d {x y : DV} {d e : PyData} (h1 : Pd M x d) (h2 : Pd M y e) (s1 : SeqAt.shaped d = true) (s2 : SeqAt.shaped e = true) (q : Q (.bl (!PyData.eqv d e)) M) : R2D K (rNe3 K) x y M Q := fun vx vy H r1 r2 m =>
  .inr ⟨d, e, h1.dp m r1, h2.dp m r2, s1, s2, _, M, .bl _, m, Stay.refl, q⟩
/-- data that are compared by < -/
def rLtD (K : Fg) : R2 := fun x y H Q => ∃ d e, Dp K H x d ∧ Dp K H y e ∧ PySem.W.alike d e = true ∧ d ≠ .none ∧ d.depth ≤ 40 ∧ Q (.bl (PySem.W.dataLt d e)) H
def rLt3 (K : Fg) : R2 := fun x y H Q => rI0 (fun i j => .bl (decide (i < j))) x y H Q ∨ rLtD K x y H Q
theorem op_ltD {X : Cx} (hu : X.A.units + 64 < cLine) : OpR X (compareOp .Lt) (rLtD X.K) := by
  intro pins s σ H x y u v Q I r1 r2 h
  obtain ⟨d, e, h1, h2, h3, h4, h5, h6⟩ := h
  obtain ⟨as, q1⟩ := Dp.reads I d x u h1 r1
  obtain ⟨bs, q2⟩ := Dp.reads I e y v h2 r2
  exact PySem.W.lt_data q1 q2 h3 h4 (by have := Nat.min_le_left d.depth e.depth; omega) ⟨.bl _, H, I, rfl, h6⟩
theorem mon_lt : MonR (rLt3 K) := fun x y H Q Q' h q => by
  rcases h with h | ⟨d, e, h1, h2, h3, h4, h5, h6⟩
  · exact .inl (monI0 x y H Q Q' h q)
  · exact .inr ⟨d, e, h1, h2, h3, h4, h5, q _ _ h6⟩
theorem we_gt (h : WE X ρ M a fun x M1 => WE X ρ M1 b fun y M2 => R2D X.K (rI0 fun i j => .bl (decide (j < i))) x y M2 Q) : WE X ρ M (.Compare a [.Gt] [b] pos) Q := we_op (fun ha hb => pe_cmpR op_gt ha hb (nomark _)) monI0 h
theorem wt_lt (F : Fx X P w K mg base sc N L C Gs Bs k) (h : WE X ρ M a fun x M1 => WE X ρ M1 b fun y M2 => R2D X.K (rLt3 X.K) x y M2 (QB R)) : WT X ρ M (.Compare a [.Lt] [b] pos) R := wt_op (fun ha hb => pt_cmpR (op_lt.or (op_ltD F.room.units)) ha hb (nomark _)) mon_lt h
theorem wt_gt (h : WE X ρ M a fun x M1 => WE X ρ M1 b fun y M2 => R2D X.K (rI0 fun i j => .bl (decide (j < i))) x y M2 (QB R)) : WT X ρ M (.Compare a [.Gt] [b] pos) R := wt_op (fun ha hb => pt_cmpR op_gt ha hb (nomark _)) monI0 h
theorem wt_ge (h : WE X ρ M a fun x M1 => WE X ρ M1 b fun y M2 => R2D X.K (rI0 fun i j => .bl (decide (j ≤ i))) x y M2 (QB R)) : WT X ρ M (.Compare a [.GtE] [b] pos) R := wt_op (fun ha hb => pt_cmpR op_ge ha hb (nomark _)) monI0 h
/-! is, is not: None and flags -/
def rNot3 : R2 := fun x y H Q => (y = .non ∧ Q (.bl (!decide (x = .non))) H) ∨ rNotB x y H Q
theorem mon_isnot : MonR rNot3 := fun x y H Q Q' h q => by
  rcases h with ⟨h1, h2⟩ | ⟨d, e, h1, h2, h3⟩
  · exact .inl ⟨h1, q _ _ h2⟩
  · exact .inr ⟨d, e, h1, h2, q _ _ h3⟩
theorem wt_isnot (h : WE X ρ M a fun x M1 => WE X ρ M1 b fun y M2 => R2D X.K rNot3 x y M2 (QB R)) : WT X ρ M (.Compare a [.IsNot] [b] pos) R := wt_op (fun ha hb => pt_cmpR (op_notN.or op_notBl) ha hb (nomark _)) mon_isnot h
def DV.isNon : DV → Bool
  | .non => true
  | _ => false
theorem RD.non_iff {H : Hp} {d : DV} {v : V} (h : RD K H d v) : decide (v = .non) = d.isNon := by cases h <;> rfl
theorem v_isnot_n {x : DV} (q : Q (.bl (!x.isNon)) M) : R2D K rNot3 x .non M Q := fun vx vy H h1 h2 m => by
  cases h2
  refine .inl ⟨rfl, ?_⟩
  rw [h1.non_iff]
  exact ⟨_, M, .bl _, m, Stay.refl, q⟩
/-! ### a chain of two -/
theorem wt_chain' {r r' : R2} {op op' : CmpOp} (ho : OpR X (compareOp op) r) (ho' : OpR X (compareOp op') r') (mr : MonR r) (mr' : MonR r') (hm : lastMarks [op, op'] [b, c] = false)
    (h : WE X ρ M a fun x M1 => WE X ρ M1 b fun y M2 => R2D X.K r x y M2 (QB fun t M3 => (t = true → WE X ρ M3 c fun z M4 => R2D X.K r' y z M4 (QB R)) ∧ (t = false → R false M3))) : WT X ρ M (.Compare a [op, op'] [b, c] pos) R := fun σ H rs m => by
  refine wT.of (pt_chain ho ho' pe_w pe_w pe_w hm) ?_
  refine (h σ H rs m).mono fun vx H1 ⟨x, M1, h1, h2, h3, h4⟩ => ?_
  refine (h4 σ H1 (rs.mono h3) h2).mono fun vy H2 ⟨y, M2, g1, g2, g3, g4⟩ => ?_
  refine mr _ _ _ _ _ (g4 vx vy H2 (h1.mono g3) g1 g2) fun v H3 ⟨d, M3, k1, k2, k3, t, k4, k5, k6⟩ => ?_
  subst k4
  cases k1
  refine ⟨t, rfl, ?_⟩
  cases t with
  | true =>
    rw [if_pos rfl]
    refine (k5 rfl σ H3 ((rs.mono h3).mono (g3.trans k3)) k2).mono fun vz H4 ⟨z, M4, l1, l2, l3, l4⟩ => ?_
    refine mr' _ _ _ _ _ (l4 vy vz H4 ((g1.mono k3).mono l3) l1 l2) fun _ _ ⟨d, M5, n1, n2, n3, t, n4, n5⟩ => ?_
    subst n4
    cases n1
    exact ⟨t, rfl, M5, n2, (((h3.trans g3).trans k3).trans l3).trans n3, n5⟩
  | false =>
    rw [if_neg (by decide)]
    exact ⟨false, rfl, M3, k2, (h3.trans g3).trans k3, k6 rfl⟩
/-! ### tests -/
theorem wt_ww (h : WW X ρ M e R) : WT X ρ M e R := fun σ H rs m => fun pins s I => h σ H rs m _ pins s I
theorem wt_and1 (h : WT X ρ M a R) : WW X ρ M (.BoolOp .And [a] pos) R := fun σ H rs m => wW.of (pw_and1 pt_w) (h σ H rs m)
theorem wt_or1 (h : WT X ρ M a R) : WW X ρ M (.BoolOp .Or [a] pos) R := fun σ H rs m => wW.of (pw_or1 pt_w) (h σ H rs m)
theorem wt_and (h : WT X ρ M a fun t M1 => (t = true → WW X ρ M1 (.BoolOp .And (b :: rest) pos) R) ∧ (t = false → R false M1)) : WW X ρ M (.BoolOp .And (a :: b :: rest) pos) R := fun σ H rs m => by
  refine wW.of (pw_and pt_w pw_w) ?_
  refine (h σ H rs m).mono fun t H1 ⟨M1, h1, h2, h3, h4⟩ => ?_
  cases t with
  | true => rw [if_pos rfl]; exact (h3 rfl σ H1 (rs.mono h2) h1).mono fun _ _ z => z.stay h2
  | false => rw [if_neg (by decide)]; exact ⟨M1, h1, h2, h4 rfl⟩
theorem wt_or (h : WT X ρ M a fun t M1 => (t = true → R true M1) ∧ (t = false → WW X ρ M1 (.BoolOp .Or (b :: rest) pos) R)) : WW X ρ M (.BoolOp .Or (a :: b :: rest) pos) R := fun σ H rs m => by
  refine wW.of (pw_or pt_w pw_w) ?_
  refine (h σ H rs m).mono fun t H1 ⟨M1, h1, h2, h3, h4⟩ => ?_
  cases t with
  | true => rw [if_pos rfl]; exact ⟨M1, h1, h2, h3 rfl⟩
  | false => rw [if_neg (by decide)]; exact (h4 rfl σ H1 (rs.mono h2) h1).mono fun _ _ z => z.stay h2
theorem wt_not (h : WT X ρ M a fun t M1 => R (!t) M1) : WT X ρ M (.UnaryOp .Not a pos) R := fun σ H rs m => wT.of (pt_not pt_w) ((h σ H rs m).mono fun _ _ z => z)
theorem we_if (h : WT X ρ M c fun t M1 => (t = true → WE X ρ M1 a Q) ∧ (t = false → WE X ρ M1 b Q)) : WE X ρ M (.IfExp c a b pos) Q := fun σ H rs m => by
  refine wE.of (pe_ifExp pt_w pe_w pe_w) ?_
  refine (h σ H rs m).mono fun t H1 ⟨M1, h1, h2, h3, h4⟩ => ?_
  cases t with
  | true => rw [if_pos rfl]; exact (h3 rfl σ H1 (rs.mono h2) h1).mono fun _ _ z => z.stay h2
  | false => rw [if_neg (by decide)]; exact (h4 rfl σ H1 (rs.mono h2) h1).mono fun _ _ z => z.stay h2
theorem we_one {op : BoolOp} (h : WE X ρ M a Q) : WE X ρ M (.BoolOp op [a] pos) Q := fun σ H rs m => wE.of (pe_one pe_w) (h σ H rs m)
theorem we_and (h : WE X ρ M a fun x M1 => ∃ t, x = .bl t ∧ (t = true → WE X ρ M1 (.BoolOp .And (b :: rest) pos) Q) ∧ (t = false → Q (.bl false) M1)) : WE X ρ M (.BoolOp .And (a :: b :: rest) pos) Q := fun σ H rs m => by
  refine wE.of (pe_and pe_w pe_w) ?_
  refine (h σ H rs m).mono fun v H1 ⟨d, M1, h0, h1, h2, t, e, h3, h4⟩ => ?_
  subst e
  cases h0
  refine ⟨t, rfl, ?_⟩
  cases t with
  | true => rw [if_pos rfl]; exact (h3 rfl σ H1 (rs.mono h2) h1).mono fun _ _ z => z.stay h2
  | false => rw [if_neg (by decide)]; exact ⟨_, M1, .bl false, h1, h2, h4 rfl⟩
theorem we_not (h : WE X ρ M a fun x M1 => ∃ t, x = .bl t ∧ Q (.bl (!t)) M1) : WE X ρ M (.UnaryOp .Not a pos) Q := fun σ H rs m => by
  refine wE.of (pe_not pe_w) ?_
  refine (h σ H rs m).mono fun v H1 ⟨d, M1, h0, h1, h2, t, e, h3⟩ => ?_
  subst e
  cases h0
  exact ⟨t, rfl, _, M1, .bl _, h1, h2, h3⟩
/-- a value that is a flag, as a test -/
def plainT : Expr → Bool
  | .UnaryOp .Not _ _ => false
  | .BoolOp _ _ _ => false
  | .IfExp _ _ _ _ => false
  | .Compare _ _ _ _ => false
  | _ => true
theorem plainT_ok {e : Expr} {env : Env} (h : plainT e = true) : ∀ whole, isTrue e env whole = (do let v ← whole; standAt e.pos; holding [v] (truthy v)) := fun whole => by
  cases e <;> first | rfl | exact Bool.noConfusion h | (rename_i op _ _; cases op <;> first | rfl | exact Bool.noConfusion h)
theorem wt_val (hp : plainT e = true) (h : WE X ρ M e fun x M1 => ∃ t, x = .bl t ∧ R t M1) : WT X ρ M e R := fun σ H rs m => by
  refine wT.of (pt_val pe_w (plainT_ok hp)) ?_
  refine (h σ H rs m).mono fun v H1 ⟨d, M1, h0, h1, h2, t, e, h3⟩ => ?_
  subst e
  cases h0
  exact ⟨t, rfl, M1, h1, h2, h3⟩
end
end G
namespace G
open PySem L2
/-! ### promises over values -/
abbrev SpD := List DV → Mm → (DV → Mm → Prop) → Prop
def sp1 (K : Fg) (n : Nat) (sp : SpD) : Sp := fun vs H Q _ => ∃ ds M Q0, RDs K H ds vs ∧ RM K H M ∧ ds.length = n ∧ sp ds M Q0 ∧ ∀ d M', Q0 d M' → ∀ v H', RD K H' d v → RM K H' M' → Stay K H H' → Q v H'
/-- a def of the module that keeps a promise -/
class Cal (P : Program) (w : World) (K : Fg) (mg : Str → Option Value) (base : Heap) (x : Str) (j n : outParam Nat) (sp : outParam SpD) : Prop where
  ex : ∃ (f : Addr) (fd : FuncData) (ps : List Str), FnOk P w K mg base CX0 j f fd ps (sp1 K n sp) ∧ mg x = some (.ref f) ∧ PySem.W.keepIn K (.ref f) = true ∧ Binds K fd ps []
/-- a method of the class at C -/
class Mcal (P : Program) (w : World) (K : Fg) (mg : Str → Option Value) (base : Heap) (C : outParam Addr) (m : Str) (j n : outParam Nat) (sp : outParam SpD) : Prop where
  cl : Cls K C
  ex : ∃ (f : Addr) (fd : FuncData) (ps : List Str), FnOk P w K mg base CX0 j f fd ps (sp1 K n sp) ∧ Meth K C m f ∧ Binds K fd ps []
section
variable {X : Cy} {P : Program} {w : World} {K : Fg} {mg : Str → Option Value} {base : Heap} {sc : Scope} {N L C Gs Bs : List Str} {k j n : Nat} {ρ ρ' : Ro} {M : Mm} {Q : DV → Mm → Prop} {R : Bool → Mm → Prop} {a b c e o : Expr} {es rest : List Expr} {pos p p2 apos : Pos} {x m : Str} {sp : SpD}
theorem we_call (F : Fx X P w K mg base sc N L C Gs Bs k) (G : Cal P w K mg base x j n sp) (hj : j ≤ k) (hx : x ∈ Gs) (hs : noStars (e :: es) = true) (h : WA X ρ M (e :: es) fun ds M1 => ds.length = n ∧ sp ds M1 Q) : WE X ρ M (.Call (.Name x p) (e :: es) [] pos) Q := fun σ H rs m => by
  obtain ⟨f, fd, ps, G, hm, hk, hb⟩ := G.ex
  obtain ⟨g1, g2, g3⟩ := F.gl x hx
  obtain ⟨h1, h2⟩ := noStars_cons hs
  have eP := F.hP; have ew := F.hw; have eK := F.hK; have eg := F.hmg; have eb := F.hbase
  subst eP ew eK eg eb
  refine wE.of (pe_call (E := E0) G (F.room.mono hj) g1 hm hk hb .nil pass0 pa_w g2 (starEach_cons h1) (noStars_any h2)) ?_
  refine (h σ H rs m).mono fun vs H1 ⟨ds, M1, k1, k2, k3, k4, k5⟩ => ?_
  rw [List.append_nil]
  exact ⟨ds, M1, Q, k1, k2, k4, k5, fun d M' q v H' r1 r2 r3 => ⟨d, M', r1, r2, k3.trans r3, q⟩⟩
def notCall : Expr → Bool
  | .Call _ _ _ _ => false
  | _ => true
theorem attrBase {o : Expr} {m : Str} {env : Env} {wh : Sem Value} (h : notCall o = true) : attributeBase o m env wh = wh := by
  cases o <;> first | rfl | exact Bool.noConfusion h
theorem noStars_all {env : Env} {pos : Pos} : ∀ {es : List Expr}, noStars es = true → (backTo pos (starEach es env)).all (!·.1) = true
  | [], _ => rfl
  | e :: es, h => by
    obtain ⟨h1, h2⟩ := noStars_cons h
    rw [starEach_cons h1]
    show (true && (backTo pos (starEach es env)).all (!·.1)) = true
    rw [noStars_all h2]
    rfl
theorem meth_eval {o : Expr} {m : Str} {apos pos : Pos} {es : List Expr} {env : Env} (ho : notCall o = true) (hs : noStars es = true) (hn : es.length < 30) (hl : (apos.endLine == pos.line) = true) :
    eval (.Call (.Attribute o m apos) es [] pos) env = (do
      let ov ← eval o env
      standAt apos.atName
      let (f, first) ← holding [ov] (getMethod ov m (do return (← importBound o env).getD true))
      callWith pos f first (backTo pos (starEach es env)) (backToKw pos (keywordEach [] env))) := by
  have hf : methodCallForm (es.length + ([] : List Keyword).length) (backTo pos (starEach es env)) (backToKw pos (keywordEach [] env)) = true := by
    unfold methodCallForm
    rw [noStars_all hs]
    show (true && true && decide (es.length + 0 + 0 < 30)) = true
    rw [decide_eq_true (by omega)]
    rfl
  show (do
    let ov ← attributeBase o m env (eval o env)
    standAt apos.atName
    methodCall o m apos pos env ov (es.length + ([] : List Keyword).length) (backTo pos (starEach es env)) (backToKw pos (keywordEach [] env))) = _
  rw [attrBase ho]
  unfold methodCall
  rw [hf]
  have hp : methodCallPos true o env apos pos = pure pos := by
    unfold methodCallPos
    rw [if_pos (by rw [hl]; rfl)]
  rw [hp]
  rfl
theorem RF.lookup_none {H : Hp} {f : Str} : ∀ {fs : List (Str × DV)} {gs : List (Str × V)}, RF K H fs gs → fs.lookup f = none → gs.lookup f = none
  | _, _, .nil, _ => rfl
  | _, _, .cons (x := x) r t, h => by
    rw [List.lookup_cons] at h ⊢
    cases q : (f == x) with
    | true => rw [q] at h; cases h
    | false => rw [q] at h; exact RF.lookup_none t h
theorem RF.lookup_some {H : Hp} {f : Str} {d : DV} : ∀ {fs : List (Str × DV)} {gs : List (Str × V)}, RF K H fs gs → fs.lookup f = some d → ∃ v, gs.lookup f = some v ∧ RD K H d v
  | _, _, .nil, h => by cases h
  | _, _, .cons (x := x) r t, h => by
    rw [List.lookup_cons] at h ⊢
    cases q : (f == x) with
    | true => rw [q] at h; cases h; exact ⟨_, rfl, r⟩
    | false => rw [q] at h; exact RF.lookup_some t h
/-- o.m(e, ..) -/
theorem we_meth {Cc : Addr} (F : Fx X P w K mg base sc N L C Gs Bs k) (G : Mcal P w K mg base Cc m j n sp) (hj : j ≤ k) (ho : notCall o = true) (hs : noStars (e :: es) = true) (hn : (e :: es).length < 30) (hl : (apos.endLine == pos.line) = true)
    (h : WE X ρ M o fun d M1 => ∃ a i fs, d = .ref a ∧ AtM M1 i a (.ins Cc fs) ∧ fs.lookup m = none ∧ WA X ρ M1 (e :: es) fun ds M2 => ds.length + 1 = n ∧ sp (.ref a :: ds) M2 Q) : WE X ρ M (.Call (.Attribute o m apos) (e :: es) [] pos) Q := fun σ H rs m => by
  obtain ⟨f, fd, ps, G1, hm, hb⟩ := G.ex
  have hcl := G.cl
  obtain ⟨h1, h2⟩ := noStars_cons hs
  have eP := F.hP; have ew := F.hw; have eK := F.hK; have eg := F.hmg; have eb := F.hbase
  subst eP ew eK eg eb
  refine wE.of (pe_meth (E := E0) pe_w hcl hm G1 (F.room.mono hj) hb .nil pass0 pa_w (starEach_cons h1) (noStars_any h2) (meth_eval ho hs hn hl)) ?_
  refine (h σ H rs m).mono fun v H1 ⟨d, M1, k1, k2, k3, a, i, fs, k4, k5, k6, k7⟩ => ?_
  subst k4
  cases k1
  obtain ⟨dx, gs, q1, q2⟩ := k2.at k5.ix
  refine ⟨a, dx, gs, rfl, q1, q2.lookup_none k6, ?_⟩
  refine (k7 σ H1 (rs.mono k3) k2).mono fun vs H2 ⟨ds, M2, l1, l2, l3, l4, l5⟩ => ?_
  rw [List.append_nil]
  exact ⟨.ref a :: ds, M2, Q, .cons (.ref a) l1, l2, l4, l5, fun d M' q v H' r1 r2 r3 => ⟨d, M', r1, r2, (k3.trans l3).trans r3, q⟩⟩
/-! ### built-ins -/
def CD (K : Fg) (r : List V → Hp → VK → Prop) (ds : List DV) (M : Mm) (Q : DV → Mm → Prop) : Prop := ∀ vs H, RDs K H ds vs → RM K H M → r vs H (LE K H Q)
def MonC (r : List V → Hp → VK → Prop) : Prop := ∀ xs H Q Q', r xs H Q → (∀ v H', Q v H' → Q' v H') → r xs H Q'
theorem we_blt {id : String} {r : List V → Hp → VK → Prop} (F : Fx X P w K mg base sc N L C Gs Bs k) (hc : CallR X (.builtin id) r) (mr : MonC r) (hv : bootBuiltins x = some (.builtin id)) (hx : x ∈ Gs) (hx2 : x ∈ Bs) (hs : noStars (e :: es) = true)
    (h : WA X ρ M (e :: es) fun ds M1 => CD X.K r ds M1 Q) : WE X ρ M (.Call (.Name x p) (e :: es) [] pos) Q := fun σ H rs m => by
  obtain ⟨g1, g2, g3⟩ := F.gl x hx
  obtain ⟨h1, h2⟩ := noStars_cons hs
  refine wE.of (pe_callB hc g1 (by rw [F.hmg]; exact F.bl x hx2) hv pa_w g3 g2 (starEach_cons h1) (noStars_any h2)) ?_
  refine (h σ H rs m).mono fun vs H1 ⟨ds, M1, k1, k2, k3, k4⟩ => ?_
  exact mr _ _ _ _ (k4 vs H1 k1 k2) fun _ _ z => z.stay k3
theorem we_blty {T : String} {r : List V → Hp → VK → Prop} (F : Fx X P w K mg base sc N L C Gs Bs k) (hc : CallR X (.type T) r) (mr : MonC r) (hv : bootBuiltins x = some (.type T)) (hx : x ∈ Gs) (hx2 : x ∈ Bs) (hs : noStars (e :: es) = true)
    (h : WA X ρ M (e :: es) fun ds M1 => CD X.K r ds M1 Q) : WE X ρ M (.Call (.Name x p) (e :: es) [] pos) Q := fun σ H rs m => by
  obtain ⟨g1, g2, g3⟩ := F.gl x hx
  obtain ⟨h1, h2⟩ := noStars_cons hs
  refine wE.of (pe_callTy hc g1 (by rw [F.hmg]; exact F.bl x hx2) hv pa_w g3 g2 (starEach_cons h1) (noStars_any h2)) ?_
  refine (h σ H rs m).mono fun vs H1 ⟨ds, M1, k1, k2, k3, k4⟩ => ?_
  exact mr _ _ _ _ (k4 vs H1 k1 k2) fun _ _ z => z.stay k3
theorem CD.one {r : List V → Hp → VK → Prop} {d : DV} (h : ∀ v H, RD K H d v → RM K H M → r [v] H (LE K H Q)) : CD K r [d] M Q := fun vs H rs m => by
  cases rs with
  | cons r1 r2 => cases r2; exact h _ H r1 m
theorem CD.two {r : List V → Hp → VK → Prop} {d d' : DV} (h : ∀ v v' H, RD K H d v → RD K H d' v' → RM K H M → r [v, v'] H (LE K H Q)) : CD K r [d, d'] M Q := fun vs H rs m => by
  cases rs with
  | cons r1 r2 =>
    cases r2 with
    | cons r3 r4 => cases r4; exact h _ _ H r1 r3 m
-- int
def rInt : List V → Hp → VK → Prop := fun xs H Q => (∃ i, xs = [.int i] ∧ Q (.int i) H) ∨ ∃ k, xs = [.bl k] ∧ Q (.int (if k then 1 else 0)) H
theorem v_int_i {i : Int} (q : Q (.int i) M) : CD K rInt [.int i] M Q := .one fun v H r m => by cases r; exact .inl ⟨i, rfl, _, M, .int i, m, Stay.refl, q⟩
-- abs
-- min, max of two
def rMin2 : List V → Hp → VK → Prop := fun xs H Q => ∃ i j, xs = [.int i, .int j] ∧ Q (.int (if j < i then j else i)) H
def rMax2 : List V → Hp → VK → Prop := fun xs H Q => ∃ i j, xs = [.int i, .int j] ∧ Q (.int (if j > i then j else i)) H
theorem we_min2 {e2 : Expr} (F : Fx X P w K mg base sc N L C Gs Bs k) (hx : ("min" : Str) ∈ Gs) (hx2 : ("min" : Str) ∈ Bs) (hs : noStars [e, e2] = true) (h : WA X ρ M [e, e2] fun ds M1 => CD X.K rMin2 ds M1 Q) : WE X ρ M (.Call (.Name "min" p) [e, e2] [] pos) Q :=
  we_blt F (call_min2 F.calm) (fun xs H Q Q' ⟨i, j, a, b⟩ q => ⟨i, j, a, q _ _ b⟩) (by decide +kernel) hx hx2 hs h
theorem we_max2 {e2 : Expr} (F : Fx X P w K mg base sc N L C Gs Bs k) (hx : ("max" : Str) ∈ Gs) (hx2 : ("max" : Str) ∈ Bs) (hs : noStars [e, e2] = true) (h : WA X ρ M [e, e2] fun ds M1 => CD X.K rMax2 ds M1 Q) : WE X ρ M (.Call (.Name "max" p) [e, e2] [] pos) Q :=
  we_blt F (call_max2 F.calm) (fun xs H Q Q' ⟨i, j, a, b⟩ q => ⟨i, j, a, q _ _ b⟩) (by decide +kernel) hx hx2 hs h
theorem v_min2 {i j : Int} (q : Q (.int (if j < i then j else i)) M) : CD K rMin2 [.int i, .int j] M Q := .two fun v v' H r r' m => by cases r; cases r'; exact ⟨i, j, rfl, _, M, .int _, m, Stay.refl, q⟩
theorem v_max2 {i j : Int} (q : Q (.int (if j > i then j else i)) M) : CD K rMax2 [.int i, .int j] M Q := .two fun v v' H r r' m => by cases r; cases r'; exact ⟨i, j, rfl, _, M, .int _, m, Stay.refl, q⟩
-- len
def rLen3 (K : Fg) : List V → Hp → VK → Prop := fun xs H Q => ∃ x n, xs = [x] ∧ LenV K x H n ∧ Q (.int n) H
theorem v_len_t {ds : List DV} (q : Q (.int (ds.length : Int)) M) : CD K (rLen3 K) [.tup ds] M Q := .one fun v H r m => by
  cases r with
  | tup s r => exact ⟨_, ds.length, rfl, .inr ⟨_, s, r.length⟩, _, M, .int _, m, Stay.refl, q⟩
theorem v_len_l {ds : List DV} {i : Nat} {a : Addr} (ha : AtM M i a (.lst ds)) (q : Q (.int (ds.length : Int)) M) : CD K (rLen3 K) [.ref a] M Q := .one fun v H r m => by
  cases r
  obtain ⟨vs, e, r⟩ := m.at ha.ix
  exact ⟨_, ds.length, rfl, .inl ⟨vs, SqL.of e, r.length⟩, _, M, .int _, m, Stay.refl, q⟩
-- list, tuple
def rList3 (K : Fg) : List V → Hp → VK → Prop := fun xs H Q => ∃ p ys, xs = [.ref p] ∧ (SqL K H p ys ∨ SqT K H p ys) ∧ ∀ l, H l = none → Q (.ref l) (upd H l (.lst ys))
theorem v_list_t {ds : List DV} (q : ∀ p, Q (.ref p) ((p, .lst ds) :: M)) : CD K (rList3 K) [.tup ds] M Q := .one fun v H r m => by
  cases r with
  | tup s r => exact ⟨_, _, rfl, .inr s, fun l hl => ⟨.ref l, (l, .lst ds) :: M, .ref l, m.cons hl ⟨_, upd_same, r.mono (Stay.new hl)⟩, Stay.new hl, q l⟩⟩
def rTup3 (K : Fg) : List V → Hp → VK → Prop := fun xs H Q => ∃ p ys, xs = [.ref p] ∧ ((SqL K H p ys ∧ ∀ l, H l = none → Q (.ref l) (upd H l (.tup ys))) ∨ (SqT K H p ys ∧ Q (.ref p) H))
theorem we_tuple (F : Fx X P w K mg base sc N L C Gs Bs k) (hx : ("tuple" : Str) ∈ Gs) (hx2 : ("tuple" : Str) ∈ Bs) (hs : noStars [e] = true) (h : WA X ρ M [e] fun ds M1 => CD X.K (rTup3 X.K) ds M1 Q) : WE X ρ M (.Call (.Name "tuple" p) [e] [] pos) Q :=
  we_blty F call_tuple_of (fun xs H Q Q' ⟨i, j, a, b⟩ q => ⟨i, j, a, b.elim (fun ⟨b, c⟩ => .inl ⟨b, fun l hl => q _ _ (c l hl)⟩) fun ⟨b, c⟩ => .inr ⟨b, q _ _ c⟩⟩) (by decide +kernel) hx hx2 hs h
theorem v_tuple_l {ds : List DV} {i : Nat} {a : Addr} (ha : AtM M i a (.lst ds)) (q : Q (.tup ds) M) : CD K (rTup3 K) [.ref a] M Q := .one fun v H r m => by
  cases r
  obtain ⟨vs, e, r⟩ := m.at ha.ix
  exact ⟨a, vs, rfl, .inl ⟨SqL.of e, fun l hl => ⟨.tup ds, M, .tup (SqT.of upd_same) (r.mono (Stay.new hl)), m.new hl, Stay.new hl, q⟩⟩⟩
end
/-! ### targets -/
def wG (X : Cx) (tg : Expr) : TG := fun v σ H Q => ∀ (pins : List (Addr × Obj)) (s : Shared) (u : Value), Inv X pins σ H s → RelV v u → wpAny (model X.prog X.w) X.A (assign tg X.env u) (fun _ s' => ∃ σ' H', Inv X pins σ' H' s' ∧ Q σ' H') X.xe s
theorem pg_w {X : Cx} {tg : Expr} : PG X tg (wG X tg) := ⟨fun pins s _ _ _ u _ I r h => h pins s u I r⟩
def WG (X : Cy) (ρ : Ro) (M : Mm) (tg : Expr) (d : DV) (R : Ro → Mm → Prop) : Prop := ∀ σ H v, RS X H ρ σ → RM X.K H M → RD X.K H d v → wG X tg v σ H (LN X H R)
section
variable {X : Cy} {P : Program} {w : World} {K : Fg} {mg : Str → Option Value} {base : Heap} {sc : Scope} {N L C Gs Bs : List Str} {k j n : Nat} {ρ ρ' ρ1 ρ2 ρ3 : Ro} {M : Mm} {nx : Ro → Mm → Prop} {rt : DV → Mm → Prop} {bk ct : Ro → Mm → Prop} {Q : DV → Mm → Prop} {R : Ro → Mm → Prop} {a b c e o tg : Expr} {es rest : List Expr} {pos p p2 p3 apos : Pos} {x y z m : Str} {sp : SpD} {st : Stmt} {sts sa sb : List Stmt}
theorem RS.put {H : Hp} {σ : L2.St} {d : DV} {v : V} {i : Nat} {x : Str} (h : RS X H ρ σ) (hi : X.N[i]? = some x) (hv : Vis X.env.scope x) (r : RD X.K H d v) : RS X H (ρ.set i (some d)) (σ.set i (some v)) := by
  refine ⟨h.st, by simpa using h.len, fun j e he => ?_⟩
  rw [List.getElem?_set] at he
  split at he
  · rename_i q; subst q
    split at he
    · rename_i q
      cases he
      refine ⟨⟨x, hi, hv⟩, v, ?_, r⟩
      rw [List.getElem?_set, if_pos rfl, if_pos (by rw [← h.len]; exact q)]
    · cases he
  · rename_i q
    obtain ⟨a, v', b, c⟩ := h.get j e he
    refine ⟨a, v', ?_, c⟩
    rw [List.getElem?_set, if_neg q]
    exact b
theorem wg_name {d : DV} (F : Fx X P w K mg base sc N L C Gs Bs k) (hx : x ∈ L) (h : Put d N ρ x ρ') (q : R ρ' M) : WG X ρ M (.Name x pos) d R := fun σ H v rs m r => by
  obtain ⟨i, h1, h2⟩ := h.ix
  have hi : X.N[i]? = some x := by rw [F.hN]; exact h1
  have hl := F.loc x hx
  subst h2
  intro pins s u I ru
  exact (pg_name (i := i) (by rw [F.hN]; exact F.nd) hi (.inl hl) (.inr hl)).run pins s σ H v u _ I ru ⟨_, M, rs.put hi (.inl hl) r, m, Stay.refl, q⟩
theorem wg_nameC {d : DV} (F : Fx X P w K mg base sc N L C Gs Bs k) (hx : x ∈ C) (h : Put d N ρ x ρ') (q : R ρ' M) : WG X ρ M (.Name x pos) d R := fun σ H v rs m r => by
  obtain ⟨i, h1, h2⟩ := h.ix
  have hi : X.N[i]? = some x := by rw [F.hN]; exact h1
  obtain ⟨hl, hf⟩ := F.cel x hx
  subst h2
  intro pins s u I ru
  exact (pg_name (i := i) (by rw [F.hN]; exact F.nd) hi (.inr hl) (.inl hf)).run pins s σ H v u _ I ru ⟨_, M, rs.put hi (.inr (.inl hl)) r, m, Stay.refl, q⟩
theorem wG.of {t : TG} (p : PG X tg t) {v : V} {σ : L2.St} {H : Hp} {Q : L2.St → Hp → Prop} (h : t v σ H Q) : wG X tg v σ H Q := fun pins s u I r => p.run pins s σ H v u Q I r h
theorem wG.mono {v : V} {σ : L2.St} {H : Hp} {Q Q' : L2.St → Hp → Prop} (h : wG X tg v σ H Q) (q : ∀ σ H, Q σ H → Q' σ H) : wG X tg v σ H Q' := fun pins s u I r => thn (h pins s u I r) fun _ s' ⟨σ', H', I', z⟩ => ⟨σ', H', I', q _ _ z⟩
def notStarT : Expr → Bool
  | .Starred _ _ => false
  | _ => true
theorem assignEach_cons {e : Expr} {es : List Expr} {env : Env} (h : notStarT e = true) : assignEach (e :: es) env = (false, assign e env) :: assignEach es env := by
  cases e <;> first | rfl | exact Bool.noConfusion h
/-- a, b = t: two targets -/
theorem wg_tup2 {i : Nat} {t1 t2 : Expr} {d1 d2 : DV} (F : Fx X P w K mg base sc N L C Gs Bs k) (s1 : notStarT t1 = true) (s2 : notStarT t2 = true) (h : WG X ρ M t1 d1 fun ρ1 M1 => WG X ρ1 M1 t2 d2 R) : WG X ρ M (.Tuple [t1, t2] i pos) (.tup [d1, d2]) R := fun σ H v rs m r => by
  cases r with
  | tup sq rr =>
    cases rr with
    | cons r1 rr =>
      cases rr with
      | cons r2 rr =>
        cases rr
        refine wG.of (pg_tup (n := 2) F.calm (pgs_cons pg_w (pgs_cons pg_w pgs_nil (by rw [assignEach_cons s2]; rfl)) (by rw [assignEach_cons s1]; rfl)) (by rw [assignEach_cons s1, assignEach_cons s2]; rfl) (by rw [assignEach_cons s1, assignEach_cons s2]; rfl)) ?_
        refine ⟨_, _, rfl, sq, rfl, _, _, rfl, ?_⟩
        refine (h σ H _ rs m r1).mono fun σ1 H1 ⟨ρ1, M1, h1, h2, h3, h4⟩ => ?_
        refine ⟨_, _, rfl, ?_⟩
        refine (h4 σ1 H1 _ h1 h2 (r2.mono h3)).mono fun σ2 H2 ⟨ρ2, M2, k1, k2, k3, k4⟩ => ?_
        exact ⟨rfl, ρ2, M2, k1, k2, h3.trans k3, k4⟩
theorem wg_tup3 {i : Nat} {t1 t2 t3 : Expr} {d1 d2 d3 : DV} (F : Fx X P w K mg base sc N L C Gs Bs k) (s1 : notStarT t1 = true) (s2 : notStarT t2 = true) (s3 : notStarT t3 = true) (h : WG X ρ M t1 d1 fun ρ1 M1 => WG X ρ1 M1 t2 d2 fun ρ2 M2 => WG X ρ2 M2 t3 d3 R) : WG X ρ M (.Tuple [t1, t2, t3] i pos) (.tup [d1, d2, d3]) R := fun σ H v rs m r => by
  cases r with
  | tup sq rr =>
    cases rr with
    | cons r1 rr =>
      cases rr with
      | cons r2 rr =>
        cases rr with
        | cons r3 rr =>
          cases rr
          refine wG.of (pg_tup (n := 3) F.calm (pgs_cons pg_w (pgs_cons pg_w (pgs_cons pg_w pgs_nil (by rw [assignEach_cons s3]; rfl)) (by rw [assignEach_cons s2]; rfl)) (by rw [assignEach_cons s1]; rfl)) (by rw [assignEach_cons s1, assignEach_cons s2, assignEach_cons s3]; rfl) (by rw [assignEach_cons s1, assignEach_cons s2, assignEach_cons s3]; rfl)) ?_
          refine ⟨_, _, rfl, sq, rfl, _, _, rfl, ?_⟩
          refine (h σ H _ rs m r1).mono fun σ1 H1 ⟨ρ1, M1, h1, h2, h3, h4⟩ => ?_
          refine ⟨_, _, rfl, ?_⟩
          refine (h4 σ1 H1 _ h1 h2 (r2.mono h3)).mono fun σ2 H2 ⟨ρ2, M2, k1, k2, k3, k4⟩ => ?_
          refine ⟨_, _, rfl, ?_⟩
          refine (k4 σ2 H2 _ k1 k2 ((r3.mono h3).mono k3)).mono fun σ3 H3 ⟨ρ3, M3, l1, l2, l3, l4⟩ => ?_
          exact ⟨rfl, ρ3, M3, l1, l2, (h3.trans k3).trans l3, l4⟩
/-! ### statements -/
theorem LDs.stay {H H1 : Hp} (s : Stay X.K H H1) {σ : L2.St} (h : wSs X sts (LD X H1 ⟨nx, rt, bk, ct⟩) σ H1) : wSs X sts (LD X H ⟨nx, rt, bk, ct⟩) σ H1 := h.mono (fun _ _ z => z.stay s) (fun _ _ z => z.stay s) (fun _ _ z => z.stay s) (fun _ _ z => z.stay s)
theorem wss_nil (q : nx ρ M) : WSs X ρ M [] nx rt bk ct := fun σ H rs m => wSs.of pss_nil ⟨ρ, M, rs, m, Stay.refl, q⟩
theorem wss_cons (h : WS X ρ M st (fun ρ1 M1 => WSs X ρ1 M1 sts nx rt bk ct) rt bk ct) : WSs X ρ M (st :: sts) nx rt bk ct := fun σ H rs m => by
  refine wSs.of (pss_cons ps_w pss_w) ?_
  refine (h σ H rs m).mono (fun σ1 H1 ⟨ρ1, M1, h1, h2, h3, h4⟩ => ?_) (fun _ _ z => z) (fun _ _ z => z) (fun _ _ z => z)
  exact LDs.stay h3 (h4 σ1 H1 h1 h2)
theorem WSs.mono {nx' : Ro → Mm → Prop} {rt' : DV → Mm → Prop} {bk' ct' : Ro → Mm → Prop} (h : WSs X ρ M sts nx rt bk ct) (h1 : ∀ σ H, nx σ H → nx' σ H) (h2 : ∀ v H, rt v H → rt' v H) (h3 : ∀ σ H, bk σ H → bk' σ H) (h4 : ∀ σ H, ct σ H → ct' σ H) : WSs X ρ M sts nx' rt' bk' ct' := fun σ H rs m =>
  (h σ H rs m).mono (fun _ _ ⟨a, b, c, d, e, f⟩ => ⟨a, b, c, d, e, h1 _ _ f⟩) (fun _ _ ⟨a, b, c, d, e, f⟩ => ⟨a, b, c, d, e, h2 _ _ f⟩) (fun _ _ ⟨a, b, c, d, e, f⟩ => ⟨a, b, c, d, e, h3 _ _ f⟩) (fun _ _ ⟨a, b, c, d, e, f⟩ => ⟨a, b, c, d, e, h4 _ _ f⟩)
theorem ws_ret (h : WE X ρ M e rt) : WS X ρ M (.Return (some e) pos) nx rt bk ct := fun σ H rs m => wS.of (ps_ret pe_w) (h σ H rs m)
theorem ws_if (h : WT X ρ M c fun t M1 => (t = true → WSs X ρ M1 sa nx rt bk ct) ∧ (t = false → WSs X ρ M1 sb nx rt bk ct)) : WS X ρ M (.If c sa sb pos) nx rt bk ct := fun σ H rs m => by
  refine wS.of (ps_if pt_w pss_w pss_w) ?_
  refine (h σ H rs m).mono fun t H1 ⟨M1, h1, h2, h3, h4⟩ => ?_
  cases t with
  | true => rw [if_pos rfl]; exact LDs.stay h2 (h3 rfl σ H1 (rs.mono h2) h1)
  | false => rw [if_neg (by decide)]; exact LDs.stay h2 (h4 rfl σ H1 (rs.mono h2) h1)
def notComp : Expr → Bool
  | .ListComp _ _ _ _ => false
  | .SetComp _ _ _ _ => false
  | .DictComp _ _ _ _ _ => false
  | _ => true
theorem notComp_ok {e : Expr} {t : Option Expr} {l : Nat} {env : Env} (h : notComp e = true) : swapsWith e t l env = pure false := by
  cases e <;> first | rfl | exact Bool.noConfusion h
theorem ws_expr (hn : notComp e = true) (h : WE X ρ M e fun _ M1 => nx ρ M1) : WS X ρ M (.Expr e pos) nx rt bk ct := fun σ H rs m => by
  refine wS.of (ps_expr pe_w (notComp_ok hn)) ?_
  exact (h σ H rs m).mono fun v H1 ⟨d, M1, h1, h2, h3, h4⟩ => ⟨ρ, M1, rs.mono h3, h2, h3, h4⟩
theorem swappedStores_none {tg e : Expr} {env : Env} (h : (match tg, e with | .Tuple _ _ _, .Tuple _ _ _ => false | .List _ _, .Tuple _ _ _ => false | _, _ => true) = true) : swappedStores [tg] e env = pure none := by
  cases tg <;> cases e <;> first | rfl | exact Bool.noConfusion h
def notPair (tg e : Expr) : Bool := match tg, e with
  | .Tuple _ _ _, .Tuple _ _ _ => false
  | .List _ _, .Tuple _ _ _ => false
  | _, _ => true
/-- tg = e, no pair of tuples, no comprehension -/
theorem ws_asg (hn : notComp e = true) (hp : notPair tg e = true) (ht : notStarT tg = true) (h : WE X ρ M e fun d M1 => WG X ρ M1 tg d nx) : WS X ρ M (.Assign [tg] e pos) nx rt bk ct := fun σ H rs m => by
  refine wS.of (ps_asg pe_w pg_w (notComp_ok hn) (swappedStores_none hp) (by rw [assignEach_cons ht]; rfl)) ?_
  refine (h σ H rs m).mono fun v H1 ⟨d, M1, h1, h2, h3, h4⟩ => ?_
  exact (h4 σ H1 v (rs.mono h3) h2 h1).mono fun _ _ z => z.stay h3
def envS (sc : Scope) : Env := PyProof.Rows.envOfC "" sc 0 0 .none
theorem swS {ts : List Expr} {v : Expr} {env : Env} : swappedStores ts v env = swappedStores ts v (envS env.scope) := rfl
theorem ix_ne {i j : Nat} (h1 : N[i]? = some x) (h2 : N[j]? = some y) (h : y ≠ x) : i ≠ j := fun e => by
  subst e
  rw [h1] at h2
  exact h (Option.some.inj h2).symm
/-- x, y = a, b of plain local names -/
theorem ws_par2 {px py pt pt2 : Pos} {kt k2 : Nat} (F : Fx X P w K mg base sc N L C Gs Bs k) (hx : x ∈ L) (hy : y ∈ L) (hne : y ≠ x) (hw : swappedStores [.Tuple [.Name x px, .Name y py] kt pt] (.Tuple [a, b] k2 pt2) (envS sc) = pure (some [x, y]))
    (h : WA X ρ M [a, b] fun ds M1 => ∃ d1 d2 ρ1 ρ2, ds = [d1, d2] ∧ Put d1 N ρ x ρ1 ∧ Put d2 N ρ1 y ρ2 ∧ nx ρ2 M1) (i0 j0 : Nat) (hi0 : N[i0]? = some x) (hj0 : N[j0]? = some y) : WS X ρ M (.Assign [.Tuple [.Name x px, .Name y py] kt pt] (.Tuple [a, b] k2 pt2) pos) nx rt bk ct := fun σ H rs m => by
  have lx := F.loc x hx
  have ly := F.loc y hy
  refine wS.of (ps_par (i := i0) (j := j0) F.calm (by rw [F.hN]; exact F.nd) (by rw [F.hN]; exact hi0) (by rw [F.hN]; exact hj0) (ix_ne hi0 hj0 hne) lx ly pa_w (by rw [swS, F.hsc]; exact hw) rfl) ?_
  refine (h σ H rs m).mono fun vs H1 ⟨ds, M1, k1, k2, k3, d1, d2, ρ1, ρ2, k4, k5, k6, k7⟩ => ?_
  subst k4
  cases k1 with
  | cons r1 kk =>
    cases kk with
    | cons r2 kk =>
      cases kk
      refine ⟨_, _, rfl, ?_⟩
      obtain ⟨i, q1, q2⟩ := k5.ix
      obtain ⟨j, q3, q4⟩ := k6.ix
      have ei : i = i0 := nodup_ix F.nd q1 hi0
      have ej : j = j0 := nodup_ix F.nd q3 hj0
      subst ei ej q2 q4
      exact ⟨_, M1, ((rs.mono k3).put (by rw [F.hN]; exact q1) (.inl lx) r1).put (by rw [F.hN]; exact q3) (.inl ly) r2, k2, k3, k7⟩
/-- a tuple of targets, a tuple of values that is made and taken apart -/
theorem ws_asgT {ts vs : List Expr} {kt k2 : Nat} {pt pt2 : Pos} (F : Fx X P w K mg base sc N L C Gs Bs k) (hw : swappedStores [.Tuple ts kt pt] (.Tuple vs k2 pt2) (envS sc) = pure none) (h : WE X ρ M (.Tuple vs k2 pt2) fun d M1 => WG X ρ M1 (.Tuple ts kt pt) d nx) : WS X ρ M (.Assign [.Tuple ts kt pt] (.Tuple vs k2 pt2) pos) nx rt bk ct := fun σ H rs m => by
  refine wS.of (ps_asg pe_w pg_w rfl (by rw [swS, F.hsc]; exact hw) rfl) ?_
  refine (h σ H rs m).mono fun v H1 ⟨d, M1, h1, h2, h3, h4⟩ => ?_
  exact (h4 σ H1 v (rs.mono h3) h2 h1).mono fun _ _ z => z.stay h3
/-! ### objects that are let go -/
theorem RM.less {H : Hp} {M0 M : Mm} (h : RM K H M) (s : M0.Sublist M) : RM K H M0 := h.sub (h.nd.sublist (s.map _)) fun x hx => s.subset hx
def Sub (I : Mm → Prop) (M : Mm) : Prop := ∃ M0, List.Sublist M0 M ∧ I M0
theorem Sub.self {I : Mm → Prop} (h : I M) : Sub I M := ⟨M, List.Sublist.refl M, h⟩
theorem Sub.mono {I J : Mm → Prop} (h : Sub I M) (q : ∀ M, I M → J M) : Sub J M := let ⟨M0, a, b⟩ := h; ⟨M0, a, q _ b⟩
theorem wss_less {M0 : Mm} (s : M0.Sublist M) (h : WSs X ρ M0 sts nx rt bk ct) : WSs X ρ M sts nx rt bk ct := fun σ H rs m => h σ H rs (m.less s)
/-! ### while -/
theorem ws_while {body : List Stmt} (F : Fx X P w K mg base sc N L C Gs Bs k) (I : Nat → Ro → Mm → Prop) (n0 : Nat) (h0 : Sub (I n0 ρ) M)
    (h : ∀ n ρ1 M1, I n ρ1 M1 → WT X ρ1 M1 c fun t M2 => (t = true → WSs X ρ1 M2 body (fun ρ2 M3 => ∃ n', n' < n ∧ Sub (I n' ρ2) M3) rt nx (fun ρ2 M3 => ∃ n', n' < n ∧ Sub (I n' ρ2) M3)) ∧ (t = false → nx ρ1 M2)) : WS X ρ M (.While c body [] pos) nx rt bk ct := fun σ H rs m => by
  refine wS.of (ps_while F.pp pt_w pss_w) ?_
  refine ⟨fun n σ1 H1 => ∃ ρ1 M1, RS X H1 ρ1 σ1 ∧ RM X.K H1 M1 ∧ Stay X.K H H1 ∧ I n ρ1 M1, ⟨n0, let ⟨M0, a, b⟩ := h0; ⟨ρ, M0, rs, m.less a, Stay.refl, b⟩⟩, ?_⟩
  rintro n σ1 H1 ⟨ρ1, M1, q1, q2, q3, q4⟩
  refine (h n ρ1 M1 q4 σ1 H1 q1 q2).mono fun t H2 ⟨M2, g1, g2, g3, g4⟩ => ?_
  cases t with
  | true =>
    rw [if_pos rfl]
    refine ⟨fun σ' H' => ∃ n', n' < n ∧ ∃ ρ1 M1, RS X H' ρ1 σ' ∧ RM X.K H' M1 ∧ Stay X.K H H' ∧ I n' ρ1 M1, fun _ _ ⟨n', a, b⟩ => ⟨n', a, b⟩, ?_⟩
    refine (g3 rfl σ1 H2 (q1.mono g2) g1).mono ?_ ?_ ?_ ?_
    · rintro σ' H' ⟨ρ', M', a, b, c, n', d, M0, e0, e⟩
      exact ⟨n', d, ρ', M0, a, b.less e0, (q3.trans g2).trans c, e⟩
    · intro v H' z
      exact z.stay (q3.trans g2)
    · intro v H' z
      exact z.stay (q3.trans g2)
    · rintro σ' H' ⟨ρ', M', a, b, c, n', d, M0, e0, e⟩
      exact ⟨n', d, ρ', M0, a, b.less e0, (q3.trans g2).trans c, e⟩
  | false =>
    rw [if_neg (by decide)]
    exact ⟨ρ1, M2, q1.mono g2, g1, q3.trans g2, g4 rfl⟩
/-! ### for -/
/-- an iterator that yields y 0, .., y (n - 1), as long as G holds of the objects -/
structure ItD (K : Fg) (H0 : Hp) (J : It) (n : Nat) (y : Nat → DV) (G : Mm → Prop) : Prop where
  go : ∀ i H M, Stay K H0 H → RM K H M → G M → i < n → J.go i H
  yld : ∀ i H M v H', Stay K H0 H → RM K H M → G M → i < n → J.yld i H v H' → RD K H' (y i) v ∧ Stay K H H' ∧ RM K H' M
  stop : ∀ H M, Stay K H0 H → RM K H M → G M → J.stop n H
def WI (X : Cy) (ρ : Ro) (M : Mm) (tg iter : Expr) (R : Nat → (Nat → DV) → (Mm → Prop) → Mm → Prop) : Prop :=
  ∃ wi, PI X tg iter wi ∧ ∀ σ H, RS X H ρ σ → RM X.K H M → wi σ H fun J H1 => ∃ n y G M1, ItD X.K H1 J n y G ∧ RM X.K H1 M1 ∧ Stay X.K H H1 ∧ R n y G M1
def notSet : Expr → Bool
  | .Set _ _ _ => false
  | _ => true
theorem notSet_ok {e : Expr} {env : Env} (h : notSet e = true) : ∀ x, foldedSetIterable e env x = pure x := fun x => by
  cases e <;> first | rfl | exact Bool.noConfusion h
theorem ws_for {iter : Expr} {body : List Stmt} (F : Fx X P w K mg base sc N L C Gs Bs k) (hs : notSet iter = true)
    (h : WI X ρ M tg iter fun n y G M1 => ∃ I : Nat → Ro → Mm → Prop, Sub (I 0 ρ) M1 ∧ (∀ i ρ1 M2, i ≤ n → I i ρ1 M2 → G M2) ∧
      (∀ i ρ1 M2, i < n → I i ρ1 M2 → WG X ρ1 M2 tg (y i) fun ρ2 M3 => WSs X ρ2 M3 body (fun ρ3 M4 => Sub (I (i + 1) ρ3) M4) rt nx (fun ρ3 M4 => Sub (I (i + 1) ρ3) M4)) ∧ (∀ ρ1 M2, I n ρ1 M2 → nx ρ1 M2)) : WS X ρ M (.For tg iter body [] pos) nx rt bk ct := fun σ H rs m => by
  obtain ⟨wi, pi, h⟩ := h
  refine wS.of (ps_for F.pp F.calm (show PI X tg iter (fun σ H R => ∃ R', wi σ H R' ∧ ∀ J H', R' J H' → R J H') from ⟨fun pins s σ H R I ⟨R', a, b⟩ => thn (pi.run pins s σ H R' I a) fun v s1 z => thn z fun u s2 ⟨it, fp, tn, J, H', c1, c2, c3, c4, c5, c6⟩ => ⟨it, fp, tn, J, H', c1, c2, c3, c4, c5, b J H' c6⟩⟩) pg_w pss_w (notSet_ok hs)) ?_
  refine ⟨_, h σ H rs m, fun J H1 ⟨n, y, G, M1, hJ, m1, s1, I, ⟨Mi, si, i0⟩, hG, hstep, hend⟩ => ?_⟩
  refine ⟨fun i q σ' H' => q = n - i ∧ i ≤ n ∧ ∃ ρ1 M2, RS X H' ρ1 σ' ∧ RM X.K H' M2 ∧ Stay X.K H1 H' ∧ I i ρ1 M2, ⟨n, by simp, Nat.zero_le _, ρ, Mi, rs.mono s1, m1.less si, Stay.refl, i0⟩, ?_⟩
  rintro i q σ' H' ⟨rfl, hi, ρ1, M2, a1, a2, a3, a4⟩
  have g := hG i ρ1 M2 hi a4
  by_cases hlt : i < n
  · refine .inr ⟨hJ.go i H' M2 a3 a2 g hlt, fun σ' H' => ∃ ρ1 M2, RS X H' ρ1 σ' ∧ RM X.K H' M2 ∧ Stay X.K H1 H' ∧ I (i + 1) ρ1 M2, fun σ' H' z => ⟨n - (i + 1), by omega, rfl, hlt, z⟩, fun v H2 yl => ?_⟩
    obtain ⟨b1, b2, b3⟩ := hJ.yld i H' M2 v H2 a3 a2 g hlt yl
    refine (hstep i ρ1 M2 hlt a4 σ' H2 v (a1.mono b2) b3 b1).mono fun σ3 H3 ⟨ρ3, M3, c1, c2, c3, c4⟩ => ?_
    refine (c4 σ3 H3 c1 c2).mono ?_ ?_ ?_ ?_
    · rintro σ4 H4 ⟨ρ4, M4, e1, e2, e3, M5, e5, e4⟩
      exact ⟨ρ4, M5, e1, e2.less e5, ((a3.trans b2).trans c3).trans e3, e4⟩
    · intro v H' z
      exact z.stay (((s1.trans a3).trans b2).trans c3)
    · intro v H' z
      exact z.stay (((s1.trans a3).trans b2).trans c3)
    · rintro σ4 H4 ⟨ρ4, M4, e1, e2, e3, M5, e5, e4⟩
      exact ⟨ρ4, M5, e1, e2.less e5, ((a3.trans b2).trans c3).trans e3, e4⟩
  · have e : i = n := by omega
    subst e
    exact .inl ⟨hJ.stop H' M2 a3 a2 g, ρ1, M2, a1, a2, s1.trans a3, hend ρ1 M2 a4⟩
/-! what is walked -/
theorem it_list {H0 : Hp} {a : Addr} {ds : List DV} : ItD K H0 (Itl K a) ds.length (fun i => ds.getD i .non) (fun M => ∃ i, AtM M i a (.lst ds)) where
  go := fun i H M _ m ⟨j, hj⟩ hi => by
    obtain ⟨vs, e, r⟩ := m.at hj.ix
    obtain ⟨v, h1, h2⟩ := r.get (List.getElem?_eq_getElem hi)
    exact ⟨vs, v, SqL.of e, h1⟩
  yld := fun i H M v H' _ m ⟨j, hj⟩ hi ⟨e1, e2⟩ => by
    subst e1
    obtain ⟨vs, e, r⟩ := m.at hj.ix
    obtain ⟨v', h1, h2⟩ := r.get (List.getElem?_eq_getElem hi)
    have := e2 vs (SqL.of e)
    rw [h1] at this
    cases this
    refine ⟨?_, Stay.refl, m⟩
    rw [List.getD_eq_getElem?_getD, List.getElem?_eq_getElem hi]
    exact h2
  stop := fun H M _ m ⟨j, hj⟩ => by
    obtain ⟨vs, e, r⟩ := m.at hj.ix
    exact ⟨vs, SqL.of e, by rw [r.length]; exact Nat.le_refl _⟩
theorem it_tup {H0 : Hp} {a : Addr} {ds : List DV} {vs : List V} (sq : SqT K H0 a vs) (r : RDs K H0 ds vs) : ItD K H0 (Itt K a) ds.length (fun i => ds.getD i .non) (fun _ => True) where
  go := fun i H M st m _ hi => by
    obtain ⟨v, h1, h2⟩ := r.get (List.getElem?_eq_getElem hi)
    exact ⟨vs, v, st.sqt sq, h1⟩
  yld := fun i H M v H' st m _ hi ⟨e1, e2⟩ => by
    subst e1
    obtain ⟨v', h1, h2⟩ := r.get (List.getElem?_eq_getElem hi)
    have := e2 vs (st.sqt sq)
    rw [h1] at this
    cases this
    refine ⟨?_, Stay.refl, m⟩
    rw [List.getD_eq_getElem?_getD, List.getElem?_eq_getElem hi]
    exact h2.mono st
  stop := fun H M st m _ => ⟨vs, st.sqt sq, by rw [r.length]; exact Nat.le_refl _⟩
theorem wi_list {R : Nat → (Nat → DV) → (Mm → Prop) → Mm → Prop} (h : WE X ρ M e fun d M1 => ∃ a i ds, d = .ref a ∧ AtM M1 i a (.lst ds) ∧ R ds.length (fun i => ds.getD i .non) (fun M => ∃ i, AtM M i a (.lst ds)) M1) : WI X ρ M tg e R := by
  refine ⟨_, pi_list pe_w, fun σ H rs m => ?_⟩
  refine (h σ H rs m).mono fun v H1 ⟨d, M1, h1, h2, h3, a, i, ds, e, h4, h5⟩ => ?_
  subst e
  cases h1
  obtain ⟨vs, e, r⟩ := h2.at h4.ix
  exact ⟨a, rfl, ⟨vs, SqL.of e⟩, _, _, _, M1, it_list, h2, h3, h5⟩
theorem wi_tup {R : Nat → (Nat → DV) → (Mm → Prop) → Mm → Prop} (h : WE X ρ M e fun d M1 => ∃ ds, d = .tup ds ∧ R ds.length (fun i => ds.getD i .non) (fun _ => True) M1) : WI X ρ M tg e R := by
  refine ⟨_, pi_tup pe_w, fun σ H rs m => ?_⟩
  refine (h σ H rs m).mono fun v H1 ⟨d, M1, h1, h2, h3, ds, e, h5⟩ => ?_
  subst e
  cases h1 with
  | tup sq r => exact ⟨_, rfl, ⟨_, sq⟩, _, _, _, M1, it_tup sq r, h2, h3, h5⟩
theorem it_range {H0 : Hp} {lo : Int} {n : Nat} : ItD K H0 (Itr lo n) n (fun i => .int (lo + i)) (fun _ => True) where
  go := fun i H M _ m _ hi => hi
  yld := fun i H M v H' _ m _ hi ⟨e1, e2⟩ => by subst e1 e2; exact ⟨.int _, Stay.refl, m⟩
  stop := fun H M _ m _ => Nat.le_refl _
theorem wi_range1 {R : Nat → (Nat → DV) → (Mm → Prop) → Mm → Prop} (F : Fx X P w K mg base sc N L C Gs Bs k) (hx : ("range" : Str) ∈ Gs) (hx2 : ("range" : Str) ∈ Bs) (hs : isStar e = false)
    (h : WE X ρ M e fun d M1 => ∃ j : Int, d = .int j ∧ -(2 ^ 62) ≤ j ∧ j < 2 ^ 62 ∧ R j.toNat (fun i => .int (0 + (i : Int))) (fun _ => True) M1) : WI X ρ M tg (.Call (.Name "range" p) [e] [] pos) R := by
  obtain ⟨g1, g2, g3⟩ := F.gl _ hx
  refine ⟨_, pi_range1 g1 (by rw [F.hmg]; exact F.bl _ hx2) (pa_cons pe_w pa_nil (starEach_cons hs)) (by rw [starEach_cons hs]; rfl), fun σ H rs m => ?_⟩
  refine (h σ H rs m).mono fun v H1 ⟨d, M1, h1, h2, h3, j, e, h4, h5, h6⟩ => ?_
  subst e
  cases h1
  exact ⟨j, rfl, h4, h5, _, _, _, M1, it_range, h2, h3, h6⟩
theorem wi_range2 {e2 : Expr} {R : Nat → (Nat → DV) → (Mm → Prop) → Mm → Prop} (F : Fx X P w K mg base sc N L C Gs Bs k) (hx : ("range" : Str) ∈ Gs) (hx2 : ("range" : Str) ∈ Bs) (hs : isStar e = false) (hs2 : isStar e2 = false)
    (h : WE X ρ M e fun d M1 => WE X ρ M1 e2 fun d2 M2 => ∃ i j : Int, d = .int i ∧ d2 = .int j ∧ (-(2 ^ 62) ≤ i ∧ i < 2 ^ 62 ∧ -(2 ^ 62) ≤ j ∧ j < 2 ^ 62) ∧ R (j - i).toNat (fun t => .int (i + (t : Int))) (fun _ => True) M2) : WI X ρ M tg (.Call (.Name "range" p) [e, e2] [] pos) R := by
  obtain ⟨g1, g2, g3⟩ := F.gl _ hx
  refine ⟨_, pi_range2 g1 (by rw [F.hmg]; exact F.bl _ hx2) (pa_cons pe_w (pa_cons pe_w pa_nil (starEach_cons hs2)) (starEach_cons hs)) (by rw [starEach_cons hs, starEach_cons hs2]; rfl) (by rw [starEach_cons hs2]; rfl), fun σ H rs m => ?_⟩
  refine (h σ H rs m).mono fun v H1 ⟨d, M1, h1, h2, h3, h4⟩ => ?_
  refine (h4 σ H1 (rs.mono h3) h2).mono fun v2 H2 ⟨d2, M2, k1, k2, k3, i, j, e1, e2, k4, k5⟩ => ?_
  subst e1 e2
  cases h1; cases k1
  exact ⟨i, j, rfl, k4, _, _, _, M2, it_range, k2, h3.trans k3, k5⟩
end
end G
namespace G
open PySem L2
/-! ### a def by its body -/
/-- what is looked up once for a def's names -/
def stat (sc : Scope) (N L C Gs : List Str) : Bool :=
  (match sc.kind with | .function => true | _ => false) && decide N.Nodup && (N.all fun x => !(x == ("__debug__" : Str)) && !(x == ("__classdict__" : Str))) &&
    (L.all fun x => match sc.names.lookup x with | some .local => true | _ => false) && (C.all fun x => match sc.names.lookup x with | some .cell => true | _ => false) &&
    (Gs.all fun x => (match sc.names.lookup x with | some .globalImplicit => true | _ => false) && !(x == ("__debug__" : Str)) && !(x == ("__name__" : Str)))
structure Stat (sc : Scope) (N L C Gs : List Str) : Prop where
  kind : sc.kind = .function
  nd : N.Nodup
  nob : ∀ x ∈ N, (x == ("__debug__" : Str)) = false ∧ (x == ("__classdict__" : Str)) = false
  loc : ∀ x ∈ L, sc.names.lookup x = some .local
  cel : ∀ x ∈ C, sc.names.lookup x = some .cell
  gl : ∀ x ∈ Gs, sc.names.lookup x = some .globalImplicit ∧ (x == ("__debug__" : Str)) = false ∧ x ≠ "__name__"
theorem stat_ok {sc : Scope} {N L C Gs : List Str} (h : stat sc N L C Gs = true) : Stat sc N L C Gs := by
  unfold stat at h
  simp only [Bool.and_eq_true, List.all_eq_true] at h
  obtain ⟨⟨⟨⟨⟨h1, h2⟩, h3⟩, h4⟩, h5⟩, h6⟩ := h
  refine ⟨?_, of_decide_eq_true h2, fun x hx => ?_, fun x hx => ?_, fun x hx => ?_, fun x hx => ?_⟩
  · cases q : sc.kind <;> rw [q] at h1 <;> first | rfl | exact Bool.noConfusion h1
  · have := h3 x hx
    simpa using this
  · have := h4 x hx
    cases q : sc.names.lookup x with
    | none => rw [q] at this; cases this
    | some z => rw [q] at this; cases z <;> first | rfl | exact Bool.noConfusion this
  · have := h5 x hx
    cases q : sc.names.lookup x with
    | none => rw [q] at this; cases this
    | some z => rw [q] at this; cases z <;> first | rfl | exact Bool.noConfusion this
  · have := h6 x hx
    obtain ⟨⟨a, b⟩, c⟩ := this
    refine ⟨?_, by simpa using b, by simpa using c⟩
    cases q : sc.names.lookup x with
    | none => rw [q] at a; cases a
    | some z => rw [q] at a; cases z <;> first | rfl | exact Bool.noConfusion a
section
variable {P : Program} {w : World} {K : Fg} {mg : Str → Option Value} {base : Heap} {N L C Gs Bs : List Str} {k : Nat}
theorem RS.start {X : Cy} {H : Hp} {ds : List DV} {vs : List V} (hst : Stay X.K X.anc H) (hl : ds.length ≤ X.N.length) (hv : ∀ (i : Nat) x, i < ds.length → X.N[i]? = some x → Vis X.env.scope x) (r : RDs X.K H ds vs) :
    RS X H (ds.map some ++ List.replicate (X.N.length - ds.length) none) (L2.start X.N vs) := by
  refine ⟨hst, ?_, fun i d h => ?_⟩
  · unfold L2.start
    simp [r.length]
  · have hi : i < ds.length := by
      by_cases hi : i < ds.length
      · exact hi
      · rw [List.getElem?_append_right (by simpa using hi), List.getElem?_replicate] at h
        split at h <;> cases h
    rw [List.getElem?_append_left (by simpa using hi), List.getElem?_map] at h
    have h' : ds[i]? = some d := by
      cases q : ds[i]? with
      | none => rw [q] at h; cases h
      | some z => rw [q] at h; cases h; rfl
    obtain ⟨v, e, rr⟩ := r.get h'
    have hN : i < X.N.length := Nat.lt_of_lt_of_le hi hl
    refine ⟨⟨X.N[i], List.getElem?_eq_getElem hN, hv i _ hi (List.getElem?_eq_getElem hN)⟩, v, ?_, rr⟩
    unfold L2.start
    rw [List.getElem?_append_left (by rw [List.length_map, ← r.length]; exact hi), List.getElem?_map, e]
    rfl
def ini : List Str → List DV → Ro
  | [], _ => []
  | _ :: N, [] => none :: ini N []
  | _ :: N, d :: ds => some d :: ini N ds
theorem ini_nil : ∀ N : List Str, ini N [] = List.replicate N.length none
  | [] => rfl
  | _ :: N => by rw [ini, ini_nil N]; rfl
theorem ini_eq : ∀ (N : List Str) (ds : List DV), ds.length ≤ N.length → ini N ds = ds.map some ++ List.replicate (N.length - ds.length) none
  | [], [], _ => rfl
  | [], _ :: _, h => by simp at h
  | _ :: N, [], _ => by rw [ini_nil]; rfl
  | _ :: N, d :: ds, h => by
    rw [ini, ini_eq N ds (by simpa using h)]
    simp
theorem fn_ok {x qual : Str} {st : Stmt} {f : Addr} {fd : FuncData} {ps : List Str} {sp : SpD} (F : Fun K x qual st f fd) (S : FnScope N ps (defScope st)) (hst : stat (defScope st) N L C Gs = true) (hb : ∀ x ∈ Bs, mg x = none)
    (h : ∀ X, Fx X P w K mg base (defScope st) N L C Gs Bs k → ∀ ds M Q, ds.length = ps.length → sp ds M Q → WSs X (ini N ds) M (defBody st) (fun _ M' => Sub (Q .non) M') (fun d M' => Sub (Q d) M') (fun _ _ => False) (fun _ _ => False)) :
    FnOk P w K mg base CX0 (k + 1) f fd ps (sp1 K ps.length sp) := by
  have T := stat_ok hst
  refine F.ok S (fun vs H Q E ⟨ds, M, Q0, h1, h2, h3, _⟩ => by rw [← h1.length]; exact h3) fun cdv A outer s H vs Q E hr ⟨ds, M, Q0, h1, h2, h3, h4, h5⟩ => ?_
  refine ⟨_, pss_w, ?_⟩
  have hps : ps.length ≤ N.length := by have := congrArg List.length S.pre; rw [List.length_take] at this; omega
  have FX : Fx ⟨(cxOf CX0 P w K mg base N qual (defScope st) f cdv A outer s H E).nox, H⟩ P w K mg base (defScope st) N L C Gs Bs k :=
    ⟨rfl, rfl, rfl, rfl, rfl, rfl, rfl, T.nd, T.loc, fun x hx => ⟨T.cel x hx, rfl⟩, T.kind, T.nob, T.gl, hb, rfl, hr, PassesOwn.never⟩
  have W := h _ FX ds M Q0 h3 h4
  rw [ini_eq N ds (by rw [h3]; exact hps)] at W
  refine (W (start N vs) H (RS.start (X := ⟨(cxOf CX0 P w K mg base N qual (defScope st) f cdv A outer s H E).nox, H⟩) Stay.refl (by rw [h3]; exact hps) (fun i y hi hy => ?_) h1) h2).mono (fun σ' H' ⟨ρ', M', q1, q2, q3, M0, q4, q5⟩ => ?_) (fun v H' ⟨d, M', q1, q2, q3, M0, q4, q5⟩ => ?_) (fun _ _ ⟨_, _, _, _, _, q⟩ => q) (fun _ _ ⟨_, _, _, _, _, q⟩ => q)
  · have hp : ps[i]? = some y := by
      rw [← S.pre, List.getElem?_take_of_lt (by rw [← h3]; exact hi)]
      exact hy
    rcases S.par y (List.mem_of_getElem? hp) with z | z
    · exact .inl z
    · exact .inr (.inl z)
  · exact h5 _ _ q5 _ _ .non (q2.less q4) q3
  · exact h5 _ _ q5 _ _ q1 (q2.less q4) q3
end
/-! ### C() of a class without __init__ -/
section
variable {X : Cy} {P : Program} {w : World} {K : Fg} {mg : Str → Option Value} {base : Heap} {sc : Scope} {N L C Gs Bs : List Str} {k j n : Nat} {ρ ρ' : Ro} {M : Mm} {Q : DV → Mm → Prop} {R : Bool → Mm → Prop} {a b c e o tg : Expr} {es rest : List Expr} {pos p p2 apos : Pos} {x y m : Str} {sp : SpD}
/-! ### conditions -/
theorem cdiv_of {i m : Int} (h : 0 < m) (hb : m.natAbs < 2 ^ 8000) : CDivW i m := wide_div h hb (by decide) (by decide)
theorem v_mod_p {i j : Int} (hj : 0 < j) (q : Q (.int (i % j)) M) : R2D K (rI (fun _ j => j ≠ 0) fun i j => .int (i.fmod j)) (.int i) (.int j) M Q := by
  refine v_ci (g := fun i j => i.fmod j) (by omega) ?_
  show Q (.int (i.fmod j)) M
  rw [Int.fmod_eq_emod_of_nonneg _ (by omega)]
  exact q
theorem v_mod_n {i j : Int} (hj : j ≠ 0) (q : Q (.int (i.fmod j)) M) : R2D K (rI (fun _ j => j ≠ 0) fun i j => .int (i.fmod j)) (.int i) (.int j) M Q := v_ci (g := fun i j => i.fmod j) hj q
theorem v_fdiv_p {i j : Int} (hj : CDivW i j) (q : Q (.int (i / j)) M) : R2D K (rI CDivW fun i j => .int (i / j)) (.int i) (.int j) M Q := v_ci (g := fun i j => i / j) hj q
theorem v_pow_p {i j : Int} {r : Int} (hj : CPow i j) (e : i ^ j.toNat = r) (q : Q (.int r) M) : R2D K (rI CPow fun i j => .int (i ^ j.toNat)) (.int i) (.int j) M Q := v_ci (g := fun i j => i ^ j.toNat) hj (by rw [e]; exact q)
end
end G
namespace G
open PySem L2
/-! ### the steps, found by the form of what is to be shown -/
class Step (G : Prop) (c : outParam Bool) (B : outParam Prop) : Prop where
  h : c = true → B → G
structure Side (A B : Prop) : Prop where
  a : A
  b : B
class MemC (x : Str) (l : List Str) : Prop where
  h : x ∈ l
instance {x : Str} {y : Str} {l : List Str} [m : MemC x l] : MemC x (y :: l) := ⟨List.mem_cons_of_mem _ m.h⟩
instance {x : Str} {l : List Str} : MemC x (x :: l) := ⟨List.mem_cons_self⟩
instance At.iT {x y : Str} {N : List Str} {o : Option DV} {d : DV} {ρ : Ro} [h : At N ρ x d] : At (y :: N) (o :: ρ) x d := .there h
instance At.iH {x : Str} {N : List Str} {d : DV} {ρ : Ro} : At (x :: N) (some d :: ρ) x d := .here
instance Put.iT {d : DV} {x y : Str} {N : List Str} {o : Option DV} {ρ ρ' : Ro} [h : Put d N ρ x ρ'] : Put d (y :: N) (o :: ρ) x (o :: ρ') := .there h
instance Put.iH {d : DV} {x : Str} {N : List Str} {o : Option DV} {ρ : Ro} : Put d (x :: N) (o :: ρ) x (some d :: ρ) := .here
theorem AtM.set_self {M : Mm} {i : Nat} {a : Addr} {o o' : MO} (h : AtM M i a o) : AtM (M.set i (a, o')) i a o' := by
  induction h with
  | here => exact .here
  | there _ ih => exact .there ih
theorem AtM.set_id {M : Mm} {i : Nat} {a : Addr} {o : MO} (h : AtM M i a o) : M.set i (a, o) = M := by
  induction h with
  | here => rfl
  | there _ ih => rw [List.set_cons_succ, ih]
theorem AtM.set_ne {M : Mm} {i j : Nat} {a : Addr} {o : MO} {v : Addr × MO} (h : AtM M i a o) (hn : i ≠ j) : AtM (M.set j v) i a o := by
  induction h generalizing j with
  | here =>
    cases j with
    | zero => exact absurd rfl hn
    | succ j => exact .here
  | there _ ih =>
    cases j with
    | zero => exact .there (by assumption)
    | succ j => exact .there (ih (by omega))
instance AtM.iT {a : Addr} {o : MO} {x : Addr × MO} {M : Mm} {i : Nat} [h : AtM M i a o] : AtM (x :: M) (i + 1) a o := .there h
instance AtM.iH {a : Addr} {o : MO} {M : Mm} : AtM ((a, o) :: M) 0 a o := .here
instance AtM.iS {M : Mm} {i : Nat} {a : Addr} {o o' : MO} [h : AtM M i a o] : AtM (M.set i (a, o')) i a o' := h.set_self
section
variable {X : Cy} {P : Program} {w : World} {K : Fg} {mg : Str → Option Value} {base : Heap} {sc : Scope} {N L C Gs Bs : List Str} {k j n : Nat} {ρ ρ' : Ro} {M : Mm} {Q : DV → Mm → Prop} {R : Bool → Mm → Prop} {T : List DV → Mm → Prop} {nx bk ct S : Ro → Mm → Prop} {rt : DV → Mm → Prop} {a b c e e2 o tg : Expr} {es rest : List Expr} {pos p p2 apos : Pos} {x y m : Str} {sp : SpD} {st : Stmt} {sts sa sb : List Stmt} {d : DV} {cmp cmp' : CmpOp}
-- expressions
instance [F : Fx X P w K mg base sc N L C Gs Bs k] [A : At N ρ x d] : Step (WE X ρ M (.Name x pos) Q) true (Q d M) := ⟨fun _ q => we_name F A q⟩
instance {i : Int} {j : Nat} : Step (WE X ρ M (.Constant (.int i) j pos) Q) true (Q (.int i) M) := ⟨fun _ q => we_int q⟩
instance {i : Bool} {j : Nat} : Step (WE X ρ M (.Constant (.bool i) j pos) Q) true (Q (.bl i) M) := ⟨fun _ q => we_bl q⟩
instance {j : Nat} : Step (WE X ρ M (.Constant .none j pos) Q) true (Q .non M) := ⟨fun _ q => we_non q⟩
instance {x : Str} {j : Nat} : Step (WE X ρ M (.Constant (.str x) j pos) Q) true (Q (.str x) M) := ⟨fun _ q => we_str q⟩
instance {i : Nat} : Step (WE X ρ M (.Tuple es i pos) Q) (noStars es) (WA X ρ M es fun ds M1 => Side (ds.length ≤ sizeLine) (Q (.tup ds) M1)) := ⟨fun h q => we_tup h fun σ H r m => (q σ H r m).mono fun _ _ ⟨a, b, c, d, e, f⟩ => ⟨a, b, c, d, e, f.a, f.b⟩⟩
instance : Step (WE X ρ M (.List es pos) Q) (noStars es) (WA X ρ M es fun ds M1 => Side (ds.length ≤ sizeLine) (∀ p, Q (.ref p) ((p, .lst ds) :: M1))) := ⟨fun h q => we_lst h fun σ H r m => (q σ H r m).mono fun _ _ ⟨a, b, c, d, e, f⟩ => ⟨a, b, c, d, e, f.a, f.b⟩⟩
instance : Step (WE X ρ M (.BinOp a .Add b pos) Q) true (WE X ρ M a fun x M1 => WE X ρ M1 b fun y M2 => R2D X.K (rAdd3 X.K) x y M2 Q) := ⟨fun _ => we_add⟩
instance : Step (WE X ρ M (.BinOp a .Sub b pos) Q) true (WE X ρ M a fun x M1 => WE X ρ M1 b fun y M2 => R2D X.K (rI0 fun i j => .int (i - j)) x y M2 Q) := ⟨fun _ => we_sub⟩
instance : Step (WE X ρ M (.BinOp a .FloorDiv b pos) Q) true (WE X ρ M a fun x M1 => WE X ρ M1 b fun y M2 => R2D X.K (rI CDivW fun i j => .int (i / j)) x y M2 Q) := ⟨fun _ => we_fdiv⟩
instance : Step (WE X ρ M (.BinOp a .Mod b pos) Q) true (WE X ρ M a fun x M1 => WE X ρ M1 b fun y M2 => R2D X.K (rI (fun _ j => j ≠ 0) fun i j => .int (i.fmod j)) x y M2 Q) := ⟨fun _ => we_mod⟩
instance : Step (WE X ρ M (.BinOp a .Pow b pos) Q) true (WE X ρ M a fun x M1 => WE X ρ M1 b fun y M2 => R2D X.K (rI CPow fun i j => .int (i ^ j.toNat)) x y M2 Q) := ⟨fun _ => we_pow⟩
instance : Step (WE X ρ M (.UnaryOp .USub a pos) Q) true (WE X ρ M a fun x M1 => ∃ i, x = .int i ∧ Q (.int (-i)) M1) := ⟨fun _ => we_neg⟩
instance : Step (WE X ρ M (.UnaryOp .Not a pos) Q) true (WE X ρ M a fun x M1 => ∃ t, x = .bl t ∧ Q (.bl (!t)) M1) := ⟨fun _ => we_not⟩
instance [F : Fx X P w K mg base sc N L C Gs Bs k] : Step (WE X ρ M (.Compare a [.Eq] [b] pos) Q) true (WE X ρ M a fun x M1 => WE X ρ M1 b fun y M2 => R2D X.K (rEq3 X.K) x y M2 Q) := ⟨fun _ => we_eq F⟩
instance : Step (WE X ρ M (.Compare a [.Gt] [b] pos) Q) true (WE X ρ M a fun x M1 => WE X ρ M1 b fun y M2 => R2D X.K (rI0 fun i j => .bl (decide (j < i))) x y M2 Q) := ⟨fun _ => we_gt⟩
instance : Step (WE X ρ M (.IfExp c a b pos) Q) true (WT X ρ M c fun t M1 => (t = true → WE X ρ M1 a Q) ∧ (t = false → WE X ρ M1 b Q)) := ⟨fun _ => we_if⟩
instance {op : BoolOp} : Step (WE X ρ M (.BoolOp op [a] pos) Q) true (WE X ρ M a Q) := ⟨fun _ => we_one⟩
instance : Step (WE X ρ M (.BoolOp .And (a :: b :: rest) pos) Q) true (WE X ρ M a fun x M1 => ∃ t, x = .bl t ∧ (t = true → WE X ρ M1 (.BoolOp .And (b :: rest) pos) Q) ∧ (t = false → Q (.bl false) M1)) := ⟨fun _ => we_and⟩
-- calls
instance [F : Fx X P w K mg base sc N L C Gs Bs k] [G : Cal P w K mg base x j n sp] [m : MemC x Gs] : Step (WE X ρ M (.Call (.Name x p) (e :: es) [] pos) Q) (Nat.ble j k && noStars (e :: es)) (WA X ρ M (e :: es) fun ds M1 => Side (ds.length = n) (sp ds M1 Q)) := ⟨fun h q => by
  rw [Bool.and_eq_true] at h
  exact we_call F G (Nat.le_of_ble_eq_true h.1) m.h h.2 fun σ H r m => (q σ H r m).mono fun _ _ ⟨a, b, c, d, e, f⟩ => ⟨a, b, c, d, e, f.a, f.b⟩⟩
instance {Cc : Addr} [F : Fx X P w K mg base sc N L C Gs Bs k] [G : Mcal P w K mg base Cc m j n sp] : Step (WE X ρ M (.Call (.Attribute o m apos) (e :: es) [] pos) Q) (Nat.ble j k && notCall o && noStars (e :: es) && Nat.blt (e :: es).length 30 && (apos.endLine == pos.line))
    (WE X ρ M o fun d M1 => ∃ a i fs, d = .ref a ∧ AtM M1 i a (.ins Cc fs) ∧ fs.lookup m = none ∧ WA X ρ M1 (e :: es) fun ds M2 => Side (ds.length + 1 = n) (sp (.ref a :: ds) M2 Q)) := ⟨fun h q => by
  simp only [Bool.and_eq_true] at h
  obtain ⟨⟨⟨⟨h1, h2⟩, h3⟩, h4⟩, h5⟩ := h
  exact we_meth F G (Nat.le_of_ble_eq_true h1) h2 h3 (Nat.blt_eq.mp h4) h5 (q.mono fun d M' ⟨a, i, fs, z1, z2, z3, z4⟩ => ⟨a, i, fs, z1, z2, z3, fun σ H r m => (z4 σ H r m).mono fun _ _ ⟨a, b, c, d, e, f⟩ => ⟨a, b, c, d, e, f.a, f.b⟩⟩)⟩
/-- the receiver is known -/
instance {A : Addr} {i : Nat} {Cc : Addr} {fs : List (Str × DV)} {W : Addr → Prop} [h : AtM M i A (.ins Cc fs)] : Step (∃ a i fs, DV.ref A = .ref a ∧ AtM M i a (.ins Cc fs) ∧ fs.lookup m = none ∧ W a) true (Side (fs.lookup m = none) (W A)) := ⟨fun _ q => ⟨A, i, fs, rfl, h, q.a, q.b⟩⟩
-- built-ins
instance [F : Fx X P w K mg base sc N L C Gs Bs k] [m : MemC "tuple" Gs] [m2 : MemC "tuple" Bs] : Step (WE X ρ M (.Call (.Name (Str.ofString "tuple") p) [e] [] pos) Q) (noStars [e]) (WA X ρ M [e] fun ds M1 => CD X.K (rTup3 X.K) ds M1 Q) := ⟨fun h q => we_tuple F m.h m2.h h q⟩
instance [F : Fx X P w K mg base sc N L C Gs Bs k] [m : MemC "min" Gs] [m2 : MemC "min" Bs] : Step (WE X ρ M (.Call (.Name (Str.ofString "min") p) [e, e2] [] pos) Q) (noStars [e, e2]) (WA X ρ M [e, e2] fun ds M1 => CD X.K rMin2 ds M1 Q) := ⟨fun h q => we_min2 F m.h m2.h h q⟩
instance [F : Fx X P w K mg base sc N L C Gs Bs k] [m : MemC "max" Gs] [m2 : MemC "max" Bs] : Step (WE X ρ M (.Call (.Name (Str.ofString "max") p) [e, e2] [] pos) Q) (noStars [e, e2]) (WA X ρ M [e, e2] fun ds M1 => CD X.K rMax2 ds M1 Q) := ⟨fun h q => we_max2 F m.h m2.h h q⟩
-- arguments
instance : Step (WA X ρ M [] T) true (T [] M) := ⟨fun _ => wa_nil⟩
instance : Step (WA X ρ M (e :: es) T) (!isStar e) (WE X ρ M e fun d M1 => WA X ρ M1 es fun ds M2 => T (d :: ds) M2) := ⟨fun h => wa_cons' (by simpa using h)⟩
-- tests
instance [F : Fx X P w K mg base sc N L C Gs Bs k] : Step (WT X ρ M (.Compare a [.Eq] [b] pos) R) true (WE X ρ M a fun x M1 => WE X ρ M1 b fun y M2 => R2D X.K (rEq3 X.K) x y M2 (QB R)) := ⟨fun _ => wt_eq F⟩
instance [F : Fx X P w K mg base sc N L C Gs Bs k] : Step (WT X ρ M (.Compare a [.Lt] [b] pos) R) true (WE X ρ M a fun x M1 => WE X ρ M1 b fun y M2 => R2D X.K (rLt3 X.K) x y M2 (QB R)) := ⟨fun _ => wt_lt F⟩
instance : Step (WT X ρ M (.Compare a [.Gt] [b] pos) R) true (WE X ρ M a fun x M1 => WE X ρ M1 b fun y M2 => R2D X.K (rI0 fun i j => .bl (decide (j < i))) x y M2 (QB R)) := ⟨fun _ => wt_gt⟩
instance : Step (WT X ρ M (.Compare a [.GtE] [b] pos) R) true (WE X ρ M a fun x M1 => WE X ρ M1 b fun y M2 => R2D X.K (rI0 fun i j => .bl (decide (j ≤ i))) x y M2 (QB R)) := ⟨fun _ => wt_ge⟩
instance : Step (WT X ρ M (.Compare a [.IsNot] [b] pos) R) true (WE X ρ M a fun x M1 => WE X ρ M1 b fun y M2 => R2D X.K rNot3 x y M2 (QB R)) := ⟨fun _ => wt_isnot⟩
instance : Step (WT X ρ M (.UnaryOp .Not a pos) R) true (WT X ρ M a fun t M1 => R (!t) M1) := ⟨fun _ => wt_not⟩
instance {op : BoolOp} : Step (WT X ρ M (.BoolOp op es pos) R) true (WW X ρ M (.BoolOp op es pos) R) := ⟨fun _ => wt_ww⟩
instance : Step (WW X ρ M (.BoolOp .And [a] pos) R) true (WT X ρ M a R) := ⟨fun _ => wt_and1⟩
instance : Step (WW X ρ M (.BoolOp .Or [a] pos) R) true (WT X ρ M a R) := ⟨fun _ => wt_or1⟩
instance : Step (WW X ρ M (.BoolOp .And (a :: b :: rest) pos) R) true (WT X ρ M a fun t M1 => (t = true → WW X ρ M1 (.BoolOp .And (b :: rest) pos) R) ∧ (t = false → R false M1)) := ⟨fun _ => wt_and⟩
instance : Step (WW X ρ M (.BoolOp .Or (a :: b :: rest) pos) R) true (WT X ρ M a fun t M1 => (t = true → R true M1) ∧ (t = false → WW X ρ M1 (.BoolOp .Or (b :: rest) pos) R)) := ⟨fun _ => wt_or⟩
instance (priority := low) : Step (WT X ρ M e R) (plainT e) (WE X ρ M e fun x M1 => ∃ t, x = .bl t ∧ R t M1) := ⟨fun h q => wt_val h q⟩
-- values
instance {g : Int → Int → Int} {i j : Int} : Step (R2D K (rI0 fun i j => .int (g i j)) (.int i) (.int j) M Q) true (Q (.int (g i j)) M) := ⟨fun _ q => v_ii q⟩
instance {g : Int → Int → Bool} {i j : Int} : Step (R2D K (rI0 fun i j => .bl (g i j)) (.int i) (.int j) M Q) true (Q (.bl (g i j)) M) := ⟨fun _ q => v_ib q⟩
instance {i j : Int} : Step (R2D K (rAdd3 K) (.int i) (.int j) M Q) true (Q (.int (i + j)) M) := ⟨fun _ q => v_add_i q⟩
instance {x y : Addr} {i j : Nat} {xs ys : List DV} [h : AtM M i x (.lst xs)] [h2 : AtM M j y (.lst ys)] : Step (R2D K (rAdd3 K) (.ref x) (.ref y) M Q) true (Side (xs.length + ys.length ≤ sizeLine) (∀ p, Q (.ref p) ((p, .lst (xs ++ ys)) :: M))) := ⟨fun _ q => v_add_l h h2 q.a q.b⟩
instance {xs ys : List DV} : Step (R2D K (rAdd3 K) (.tup xs) (.tup ys) M Q) true (Side (xs.length + ys.length ≤ sizeLine) (Q (.tup (xs ++ ys)) M)) := ⟨fun _ q => v_add_t q.a q.b⟩
/-- i % j: by a positive number, or by any but nought -/
def ModD (i j : Int) (M : Mm) (Q : DV → Mm → Prop) : Prop := (0 < j ∧ Q (.int (i % j)) M) ∨ (j ≠ 0 ∧ Q (.int (i.fmod j)) M)
theorem ModD.gz {i j : Int} (h : 0 < j) (q : Q (.int (i % j)) M) : ModD i j M Q := .inl ⟨h, q⟩
instance {i j : Int} : Step (R2D K (rI (fun _ j => j ≠ 0) fun i j => .int (i.fmod j)) (.int i) (.int j) M Q) true (ModD i j M Q) := ⟨fun _ q => q.elim (fun q => v_mod_p q.1 q.2) fun q => v_mod_n q.1 q.2⟩
instance {i j : Int} : Step (R2D K (rI CDivW fun i j => .int (i / j)) (.int i) (.int j) M Q) true (Side (CDivW i j) (Q (.int (i / j)) M)) := ⟨fun _ q => v_fdiv_p q.a q.b⟩
instance {i j : Int} : Step (R2D K (rI CPow fun i j => .int (i ^ j.toNat)) (.int i) (.int j) M Q) true (Side (CPow i j) (Q (.int (i ^ j.toNat)) M)) := ⟨fun _ q => v_pow_p q.a rfl q.b⟩
instance {i j : Int} : Step (R2D K (rLt3 K) (.int i) (.int j) M Q) true (Q (.bl (decide (i < j))) M) := ⟨fun _ q => R2D.l (v_ib q)⟩
instance {b : Bool} : Step (QB R (.bl b) M) true (R b M) := ⟨fun _ q => qb q⟩
instance {i j : Int} : Step (R2D K (rEq3 K) (.int i) (.int j) M Q) true (Q (.bl (decide (i = j))) M) := ⟨fun _ q => v_eq_i q⟩
instance {i j : Int} : Step (R2D K (rNe3 K) (.int i) (.int j) M Q) true (Q (.bl (!decide (i = j))) M) := ⟨fun _ q => v_ne_i q⟩
instance {i j : Str} : Step (R2D K (rEq3 K) (.str i) (.str j) M Q) true (Q (.bl (decide (i = j))) M) := ⟨fun _ q => v_eq_s q⟩
instance {i j : Str} : Step (R2D K (rNe3 K) (.str i) (.str j) M Q) true (Q (.bl (!decide (i = j))) M) := ⟨fun _ q => v_ne_s q⟩
instance : Step (R2D K rNot3 d .non M Q) true (Q (.bl (!d.isNon)) M) := ⟨fun _ q => v_isnot_n q⟩
instance {i j : Int} : Step (CD K rMin2 [.int i, .int j] M Q) true (Q (.int (if j < i then j else i)) M) := ⟨fun _ q => v_min2 q⟩
instance {i j : Int} : Step (CD K rMax2 [.int i, .int j] M Q) true (Q (.int (if j > i then j else i)) M) := ⟨fun _ q => v_max2 q⟩
instance {ds : List DV} : Step (CD K (rLen3 K) [.tup ds] M Q) true (Q (.int (ds.length : Int)) M) := ⟨fun _ q => v_len_t q⟩
instance {ds : List DV} {i : Nat} {a : Addr} [h : AtM M i a (.lst ds)] : Step (CD K (rLen3 K) [.ref a] M Q) true (Q (.int (ds.length : Int)) M) := ⟨fun _ q => v_len_l h q⟩
instance {ds : List DV} : Step (CD K (rList3 K) [.tup ds] M Q) true (∀ p, Q (.ref p) ((p, .lst ds) :: M)) := ⟨fun _ q => v_list_t q⟩
instance {ds : List DV} {i : Nat} {a : Addr} [h : AtM M i a (.lst ds)] : Step (CD K (rTup3 K) [.ref a] M Q) true (Q (.tup ds) M) := ⟨fun _ q => v_tuple_l h q⟩
/-- an item at a written place -/
class IxL (ds : List DV) (i : Int) (d : outParam DV) : Prop where
  h : atI ds i = some d
class SetL (ds : List DV) (i : Int) (d : DV) (es : outParam (List DV)) : Prop where
  h : ∃ j, ixN ds.length i = some j ∧ ds.set j d = es
theorem atI_of {ds : List DV} {d : DV} (i : Nat) (h : ds[i]? = some d) : atI ds (i : Int) = some d := atI_nat h
theorem ixN_of {n : Nat} (i : Nat) (h : i < n) : ixN n (i : Int) = some i := by
  unfold ixN
  rw [if_pos (by omega), if_pos (by omega)]
  simp
instance {r : List DV} {d0 : DV} : IxL (d0 :: r) 0 d0 := ⟨atI_of 0 rfl⟩
instance {r : List DV} {d0 d1 : DV} : IxL (d0 :: d1 :: r) 1 d1 := ⟨atI_of 1 rfl⟩
instance {r : List DV} {d0 d1 d2 : DV} : IxL (d0 :: d1 :: d2 :: r) 2 d2 := ⟨atI_of 2 rfl⟩
instance {r : List DV} {d0 e : DV} : SetL (d0 :: r) 0 e (e :: r) := ⟨0, ixN_of 0 (by simp), rfl⟩
instance {r : List DV} {d0 d1 e : DV} : SetL (d0 :: d1 :: r) 1 e (d0 :: e :: r) := ⟨1, ixN_of 1 (by simp), rfl⟩
instance {ds : List DV} {i : Int} [h : IxL ds i d] : Step (R2D K (rIx K) (.tup ds) (.int i) M Q) true (Q d M) := ⟨fun _ q => v_ix_t h.h q⟩
instance {ds : List DV} {i : Int} {n : Nat} {a : Addr} [A : AtM M n a (.lst ds)] [h : IxL ds i d] : Step (R2D K (rIx K) (.ref a) (.int i) M Q) true (Q d M) := ⟨fun _ q => v_ix_l A h.h q⟩
-- what values are
instance {b : Bool} {W : Bool → Prop} : Step (∃ t, DV.bl b = .bl t ∧ W t) true (W b) := ⟨fun _ q => ⟨b, rfl, q⟩⟩
instance {b : Int} {W : Int → Prop} : Step (∃ t, DV.int b = .int t ∧ W t) true (W b) := ⟨fun _ q => ⟨b, rfl, q⟩⟩
-- targets
instance [F : Fx X P w K mg base sc N L C Gs Bs k] [m : MemC x L] [h : Put d N ρ x ρ'] : Step (WG X ρ M (.Name x pos) d S) true (S ρ' M) := ⟨fun _ q => wg_name F m.h h q⟩
instance (priority := low) [F : Fx X P w K mg base sc N L C Gs Bs k] [m : MemC x C] [h : Put d N ρ x ρ'] : Step (WG X ρ M (.Name x pos) d S) true (S ρ' M) := ⟨fun _ q => wg_nameC F m.h h q⟩
instance {i : Nat} {t1 t2 : Expr} {d1 d2 : DV} [F : Fx X P w K mg base sc N L C Gs Bs k] : Step (WG X ρ M (.Tuple [t1, t2] i pos) (.tup [d1, d2]) S) (notStarT t1 && notStarT t2) (WG X ρ M t1 d1 fun ρ1 M1 => WG X ρ1 M1 t2 d2 S) := ⟨fun h q => by rw [Bool.and_eq_true] at h; exact wg_tup2 F h.1 h.2 q⟩
instance {i : Nat} {t1 t2 t3 : Expr} {d1 d2 d3 : DV} [F : Fx X P w K mg base sc N L C Gs Bs k] : Step (WG X ρ M (.Tuple [t1, t2, t3] i pos) (.tup [d1, d2, d3]) S) (notStarT t1 && notStarT t2 && notStarT t3) (WG X ρ M t1 d1 fun ρ1 M1 => WG X ρ1 M1 t2 d2 fun ρ2 M2 => WG X ρ2 M2 t3 d3 S) := ⟨fun h q => by simp only [Bool.and_eq_true] at h; exact wg_tup3 F h.1.1 h.1.2 h.2 q⟩
def SetIx (M : Mm) (x y d : DV) (S : Mm → Prop) : Prop := ∃ (p : Addr) (n : Nat) (xs : List DV) (i : Int) (j : Nat), x = .ref p ∧ y = .int i ∧ AtM M n p (.lst xs) ∧ ixN xs.length i = some j ∧ S (M.set n (p, .lst (xs.set j d)))
/-- l[i] = d at a written place -/
instance {A : Addr} {i : Int} {n : Nat} {ds es : List DV} {W : Mm → Prop} [h : AtM M n A (.lst ds)] [h2 : SetL ds i d es] : Step (SetIx M (.ref A) (.int i) d W) true (W (M.set n (A, .lst es))) := ⟨fun _ q => by
  obtain ⟨j, e1, e2⟩ := h2.h
  exact ⟨A, n, ds, i, j, rfl, rfl, h, e1, by rw [e2]; exact q⟩⟩
-- statements
instance : Step (WSs X ρ M [] nx rt bk ct) true (nx ρ M) := ⟨fun _ => wss_nil⟩
instance : Step (WSs X ρ M (st :: sts) nx rt bk ct) true (WS X ρ M st (fun ρ1 M1 => WSs X ρ1 M1 sts nx rt bk ct) rt bk ct) := ⟨fun _ => wss_cons⟩
instance : Step (WS X ρ M (.Return (some e) pos) nx rt bk ct) true (WE X ρ M e rt) := ⟨fun _ => ws_ret⟩
instance : Step (WS X ρ M (.If c sa sb pos) nx rt bk ct) true (WT X ρ M c fun t M1 => (t = true → WSs X ρ M1 sa nx rt bk ct) ∧ (t = false → WSs X ρ M1 sb nx rt bk ct)) := ⟨fun _ => ws_if⟩
instance : Step (WS X ρ M (.Expr e pos) nx rt bk ct) (notComp e) (WE X ρ M e fun _ M1 => nx ρ M1) := ⟨fun h => ws_expr h⟩
instance : Step (WS X ρ M (.Assign [tg] e pos) nx rt bk ct) (notComp e && notPair tg e && notStarT tg) (WE X ρ M e fun d M1 => WG X ρ M1 tg d nx) := ⟨fun h => by simp only [Bool.and_eq_true] at h; exact ws_asg h.1.1 h.1.2 h.2⟩
end
end G
namespace G
open PySem L2
/-! ### list comprehensions -/
def mask : List Bool → Ro → Ro
  | true :: ms, o :: ρ => o :: mask ms ρ
  | false :: ms, _ :: ρ => none :: mask ms ρ
  | [], _ => []
  | _, [] => []
theorem mask_get : ∀ {ms : List Bool} {ρ : Ro} {i : Nat} {d : DV}, (mask ms ρ)[i]? = some (some d) → ms[i]? = some true ∧ ρ[i]? = some (some d)
  | true :: ms, o :: ρ, 0, d, h => by simp [mask] at h; subst h; exact ⟨rfl, rfl⟩
  | true :: ms, o :: ρ, i + 1, d, h => by
    have := mask_get (ms := ms) (ρ := ρ) (i := i) (d := d) (by simpa [mask] using h)
    simpa using this
  | false :: ms, o :: ρ, 0, d, h => by simp [mask] at h
  | false :: ms, o :: ρ, i + 1, d, h => by
    have := mask_get (ms := ms) (ρ := ρ) (i := i) (d := d) (by simpa [mask] using h)
    simpa using this
  | [], ρ, i, d, h => by simp [mask] at h
  | true :: ms, [], i, d, h => by simp [mask] at h
  | false :: ms, [], i, d, h => by simp [mask] at h
theorem mask_len : ∀ {ms : List Bool} {ρ : Ro}, ms.length = ρ.length → (mask ms ρ).length = ρ.length
  | true :: ms, o :: ρ, h => by simp [mask, mask_len (ms := ms) (ρ := ρ) (by simpa using h)]
  | false :: ms, o :: ρ, h => by simp [mask, mask_len (ms := ms) (ρ := ρ) (by simpa using h)]
  | [], [], h => rfl
  | [], _ :: _, h => by simp at h
  | _ :: _, [], h => by simp at h
/-- the names that the block sees of the outer ones; its own cells -/
def maskC (N : List Str) (sc' scope : Scope) (own : List (Str × Nat)) (C' : List Str) (ms : List Bool) : Bool :=
  (ms.length == N.length) && ((List.range ms.length).all fun i => !(ms.getD i false) || (match sc'.names.lookup (N.getD i "") with | some .cell => true | some .free => true | _ => false) && !((own.map (·.2)).contains i)) && (C'.all fun x => scope.names.lookup x == some .cell)
theorem wipe_get {σ : L2.St} {i : Nat} : ∀ {vs : List Nat}, i ∉ vs → (wipe σ vs)[i]? = σ[i]?
  | [], _ => rfl
  | v :: vs, h => by
    simp only [List.mem_cons, not_or] at h
    unfold wipe
    rw [List.getElem?_set_ne (fun e => h.1 e.symm)]
    exact wipe_get h.2
theorem wipe_at {τ : L2.St} {ws : List Nat} {j : Nat} (h : j ∈ ws) : (wipe τ ws)[j]? = if j < τ.length then some none else none := by
  induction ws with
  | nil => cases h
  | cons v ws ih =>
    unfold wipe
    rw [List.getElem?_set]
    by_cases e : v = j
    · subst e
      rw [if_pos rfl, wipe_length]
    · rw [if_neg e]
      exact ih ((List.mem_cons.mp h).resolve_left fun z => e z.symm)
theorem wipe_wipe {τ : L2.St} {ws : List Nat} : wipe (wipe τ ws) ws = wipe τ ws := by
  apply List.ext_getElem?
  intro t
  by_cases ht : t ∈ ws
  · rw [wipe_at ht, wipe_at ht, wipe_length]
  · rw [wipe_get ht]
section
variable {X : Cy} {P : Program} {w : World} {K : Fg} {mg : Str → Option Value} {base : Heap} {sc : Scope} {N L C Gs Bs L' C' Gs' : List Str} {k : Nat} {ρ ρ' : Ro} {M : Mm} {Q : DV → Mm → Prop} {elt iter c : Expr} {scope : Scope} {pos px py pt : Pos} {x y : Str} {ms : List Bool} {own : List (Str × Nat)}
/-- a comprehension's block -/
abbrev Cy.blk (X : Cy) (s : Shared) (H : Hp) (scope : Scope) (env : Env) (fp : List Addr) : Cy := ⟨X.toCx.blk s H scope env fp, X.anc⟩
theorem blk_fx (F : Fx X P w K mg base sc N L C Gs Bs k) (st : stat (relS scope sc) N L' C' Gs' = true) (hm : maskC N (relS scope sc) scope own C' ms = true) (s : Shared) (H : Hp) (Ca : Addr) (cl : List (Str × Addr)) (fp : List Addr) :
    Fx (X.blk s H scope (compEnvC scope cl Ca X.env) fp) P w K mg base (relS scope sc) N L' C' Gs' Bs k := by
  have T := stat_ok st
  have hs : (compEnvC scope cl Ca X.env).scope = relS scope sc := by rw [← F.hsc]; rfl
  have hc : ∀ z ∈ C', (scope.names.lookup z == some .cell) = true := by
    unfold maskC at hm
    simp only [Bool.and_eq_true, List.all_eq_true] at hm
    exact hm.2
  exact ⟨F.hP, F.hw, F.hK, F.hmg, F.hbase, F.hN, hs, T.nd, fun z hz => by rw [hs]; exact T.loc z hz, fun z hz => ⟨by rw [hs]; exact T.cel z hz, hc z hz⟩, by rw [hs]; exact T.kind, T.nob, fun z hz => by
    obtain ⟨a, b, c⟩ := T.gl z hz
    exact ⟨by show (compEnvC scope cl Ca X.env).scope.names.lookup z = _; rw [hs]; exact a, b, c⟩, F.bl, F.calm, F.room, PassesOwn.never⟩
theorem blk_rs (F : Fx X P w K mg base sc N L C Gs Bs k) (hm : maskC N (relS scope sc) scope own C' ms = true) {σ : L2.St} {H0 : Hp} (hl : σ.length = N.length) (r : RS X H0 ρ σ) (s : Shared) (H : Hp) (Ca : Addr) (cl : List (Str × Addr)) (fp : List Addr) :
    RS (X.blk s H scope (compEnvC scope cl Ca X.env) fp) H0 (mask ms ρ) (wipe σ (own.map (·.2))) := by
  have hs : (compEnvC scope cl Ca X.env).scope = relS scope sc := by rw [← F.hsc]; rfl
  unfold maskC at hm
  simp only [Bool.and_eq_true, List.all_eq_true, beq_iff_eq] at hm
  obtain ⟨⟨h1, h2⟩, h3⟩ := hm
  have hlm : ms.length = ρ.length := by rw [h1, r.len, hl]
  refine ⟨r.st, by rw [wipe_length, mask_len hlm, r.len], fun i d h => ?_⟩
  obtain ⟨g1, g2⟩ := mask_get h
  obtain ⟨⟨z, a1, a2⟩, v, a3, a4⟩ := r.get i d g2
  have hi : i < ms.length := (List.getElem?_eq_some_iff.mp g1).1
  have q := h2 i (List.mem_range.mpr hi)
  have e1 : ms.getD i false = true := by rw [List.getD_eq_getElem?_getD, g1]; rfl
  have e2 : N.getD i "" = z := by rw [List.getD_eq_getElem?_getD, ← F.hN, a1]; rfl
  rw [e1, e2] at q
  simp only [Bool.not_true, Bool.false_or, Bool.and_eq_true] at q
  obtain ⟨q1, q2⟩ := q
  have hni : i ∉ own.map (·.2) := fun hh => by
    have : (own.map (·.2)).contains i = true := List.contains_iff_mem.mpr hh
    rw [this] at q2
    cases q2
  refine ⟨⟨z, a1, ?_⟩, v, by rw [wipe_get hni]; exact a3, a4⟩
  show Vis (compEnvC scope cl Ca X.env).scope z
  rw [hs]
  cases e : (relS scope sc).names.lookup z with
  | none => rw [e] at q1; cases q1
  | some kk => rw [e] at q1; cases kk <;> first | exact .inr (.inl e) | exact .inr (.inr e) | exact Bool.noConfusion q1
/-- a target upon values -/
abbrev TgD := DV → (Ro → Prop) → Prop
def TgN (N : List Str) (ρ : Ro) (x : Str) : TgD := fun d S => ∃ ρ2, Put d N ρ x ρ2 ∧ S ρ2
instance {d : DV} {S : Ro → Prop} [h : Put d N ρ x ρ'] : Step (TgN N ρ x d S) true (S ρ') := ⟨fun _ q => ⟨ρ', h, q⟩⟩
/-- the list at D gets one more -/
def App (D : Addr) (M : Mm) (d : DV) (S : Mm → Prop) : Prop := ∃ j acc, AtM M j D (.lst acc) ∧ acc.length < sizeLine ∧ S (M.set j (D, .lst (acc ++ [d])))
instance {D : Addr} {d : DV} {j : Nat} {acc : List DV} {S : Mm → Prop} [h : AtM M j D (.lst acc)] : Step (App D M d S) true (Side (acc.length < sizeLine) (S (M.set j (D, .lst (acc ++ [d]))))) := ⟨fun _ q => ⟨j, acc, h, q.a, q.b⟩⟩
/-- a turn's own part; FP: what is known of the block -/
def LcB (FP : Cy → Prop) (X' : Cy) (ρ : Ro) (M : Mm) (elt : Expr) (ifs : List Expr) (D : Addr) (I : Mm → Prop) : Prop := match ifs with
  | [] => WE X' ρ M elt fun d M5 => App D M5 d (Sub I)
  | [c] => WT X' ρ M c fun b M4 => (b = true → ∀ X'', FP X'' → WE X'' ρ M4 elt fun d M5 => App D M5 d (Sub I)) ∧ (b = false → Sub I M4)
  | _ => False
instance {FP : Cy → Prop} {X' : Cy} {D : Addr} {I : Mm → Prop} : Step (LcB FP X' ρ M elt [] D I) true (WE X' ρ M elt fun d M5 => App D M5 d (Sub I)) := ⟨fun _ q => q⟩
/-- what a comprehension's loop asks -/
def LcI (P : Program) (w : World) (K : Fg) (mg : Str → Option Value) (base : Heap) (sc' : Scope) (N L' C' Gs' Bs : List Str) (k : Nat) (tgd : TgD) (elt : Expr) (ifs : List Expr) (Q : DV → Mm → Prop) (n : Nat) (y : Nat → DV) (G : Mm → Prop) (M1 : Mm) : Prop :=
  ∀ D, ∃ I : Nat → Mm → Prop, Sub (I 0) ((D, .lst []) :: M1) ∧ (∀ i M2, i ≤ n → I i M2 → G M2) ∧
    (∀ i M2, i < n → I i M2 → tgd (y i) fun ρ2 => ∀ X', Fx X' P w K mg base sc' N L' C' Gs' Bs k → LcB (fun X'' => Fx X'' P w K mg base sc' N L' C' Gs' Bs k) X' ρ2 M2 elt ifs D (I (i + 1))) ∧
    (∀ M2, I n M2 → Q (.ref D) M2)
def ttOf (X : Cy) (scope : Scope) : List Expr → TT
  | [] => tYes
  | [c] => fun σ H Q => ∀ (s : Shared) (H0 : Hp) (Ca : Addr) (cl : List (Str × Addr)) (fp : List Addr), wT (X.blk s H0 scope (compEnvC scope cl Ca X.env) fp) c σ H Q
  | _ => fun _ _ _ => False
def teOf (X : Cy) (scope : Scope) (elt : Expr) : TE := fun σ H Q => ∀ (s : Shared) (H0 : Hp) (Ca : Addr) (cl : List (Str × Addr)) (fp : List Addr), wE (X.blk s H0 scope (compEnvC scope cl Ca X.env) fp) elt σ H Q
theorem lc_gen {tg : Expr} {ifs : List Expr} {g : TG} {tgd : TgD} (F : Fx X P w K mg base sc N L C Gs Bs k) (ok : blkC N sc scope own = true) (st : stat (relS scope sc) N L' C' Gs' = true) (hm : maskC N (relS scope sc) scope own C' ms = true) (hs : notSet iter = true) (hif : ifs.length ≤ 1)
    (hg : ∀ (s : Shared) (H : Hp) (Ca : Addr) (cl : List (Str × Addr)) (fp : List Addr), PG (X.blk s H scope (compEnvC scope cl Ca X.env) fp) tg g)
    (hgw : ∀ (d : DV) (S : Ro → Prop) (σ : L2.St) (H0 : Hp) (v : V) (Qg : L2.St → Hp → Prop), tgd d S → (∀ s H Ca cl fp, RS (X.blk s H scope (compEnvC scope cl Ca X.env) fp) H0 (mask ms ρ) (wipe σ (own.map (·.2)))) → RD K H0 d v →
      (∀ σ2 ρ2, wipe σ2 (own.map (·.2)) = wipe σ (own.map (·.2)) → (∀ s H Ca cl fp, RS (X.blk s H scope (compEnvC scope cl Ca X.env) fp) H0 ρ2 σ2) → S ρ2 → Qg σ2 H0) → g v (wipe σ (own.map (·.2))) H0 Qg)
    (h : WI X ρ M tg iter (LcI P w K mg base (relS scope sc) N L' C' Gs' Bs k tgd elt ifs Q)) {σ : L2.St} {H : Hp} (rs : RS X H ρ σ) (m : RM X.K H M) (hlen : σ.length = N.length) {KQ : VK} (hKQ : ∀ D H' M2, RM X.K H' M2 → Stay X.K H H' → Q (.ref D) M2 → KQ (.ref D) H') :
    ∃ wi' tt te, PI X tg iter wi' ∧ (∀ (s : Shared) (H : Hp) (Ca : Addr) (cl : List (Str × Addr)) (fp : List Addr), PTs (X.blk s H scope (compEnvC scope cl Ca X.env) fp) ifs tt) ∧ (∀ (s : Shared) (H : Hp) (Ca : Addr) (cl : List (Str × Addr)) (fp : List Addr), PE (X.blk s H scope (compEnvC scope cl Ca X.env) fp) elt te) ∧ tLc wi' g tt te (own.map (·.2)) σ H KQ := by
  obtain ⟨wi, pi, h⟩ := h
  have eK := F.hK
  have PIw : PI X tg iter (fun σ H R => ∃ R', wi σ H R' ∧ ∀ J H', R' J H' → R J H') := ⟨fun pins s σ H R I ⟨R', a, b⟩ => thn (pi.run pins s σ H R' I a) fun v s1 z => thn z fun u s2 ⟨it, fp, tn, J, H', c1, c2, c3, c4, c5, c6⟩ => ⟨it, fp, tn, J, H', c1, c2, c3, c4, c5, b J H' c6⟩⟩
  have htt : ∀ (s : Shared) (H : Hp) (Ca : Addr) (cl : List (Str × Addr)) (fp : List Addr), PTs (X.blk s H scope (compEnvC scope cl Ca X.env) fp) ifs (ttOf X scope ifs) := fun s H Ca cl fp => by
    match ifs, hif with
    | [], _ => exact pts_nil
    | [c], _ => exact ⟨fun pins s1 σ H1 Q I h => (pts_one (pt_w (X := X.blk s H scope (compEnvC scope cl Ca X.env) fp) (e := c))).run pins s1 σ H1 Q I (h s H Ca cl fp)⟩
  have hte : ∀ (s : Shared) (H : Hp) (Ca : Addr) (cl : List (Str × Addr)) (fp : List Addr), PE (X.blk s H scope (compEnvC scope cl Ca X.env) fp) elt (teOf X scope elt) := fun s H Ca cl fp => ⟨fun pins s1 σ H1 Q I h => h s H Ca cl fp pins s1 I⟩
  refine ⟨_, ttOf X scope ifs, teOf X scope elt, PIw, htt, hte, ?_⟩
  refine ⟨_, h σ H rs m, fun J H1 ⟨n, y, G, M1, hJ, m1, s1, hI⟩ D hD => ?_⟩
  obtain ⟨I, ⟨Mi, si, i0⟩, hG, hstep, hend⟩ := hI D
  have mD : RM X.K (upd H1 D (.lst [])) ((D, .lst []) :: M1) := m1.cons hD ⟨[], upd_same, .nil⟩
  refine ⟨fun i q H' => q = n - i ∧ i ≤ n ∧ ∃ M2, RM X.K H' M2 ∧ Stay X.K H1 H' ∧ I i M2, ⟨n, by simp, Nat.zero_le _, Mi, mD.less si, Stay.new hD, i0⟩, ?_⟩
  rintro i q H' ⟨rfl, hi, M2, a2, a3, a4⟩
  have gg := hG i M2 hi a4
  by_cases hlt : i < n
  · refine .inr ⟨hJ.go i H' M2 a3 a2 gg hlt, fun H' => ∃ M2, RM X.K H' M2 ∧ Stay X.K H1 H' ∧ I (i + 1) M2, fun H' z => ⟨n - (i + 1), by omega, rfl, hlt, z⟩, fun v H2 yl => ?_⟩
    obtain ⟨b1, b2, b3⟩ := hJ.yld i H' M2 v H2 a3 a2 gg hlt yl
    have rs2 : RS X H2 ρ σ := rs.mono ((s1.trans a3).trans b2)
    have FXs := fun s Hx Ca cl fp => blk_fx (X := X) F st hm s Hx Ca cl fp
    refine hgw (y i) _ σ H2 v _ (hstep i M2 hlt a4) (fun s Hx Ca cl fp => blk_rs F hm hlen rs2 s Hx Ca cl fp) (by rw [← eK]; exact b1) fun σ2 ρ2 ew rr body => ⟨ew, ?_⟩
    -- the element, put behind the list
    have fin : ∀ (H3 : Hp) (M4 : Mm), RM X.K H3 M4 → Stay X.K H1 H3 → (∀ X', Fx X' P w K mg base (relS scope sc) N L' C' Gs' Bs k → WE X' ρ2 M4 elt fun d M5 => App D M5 d (Sub (I (i + 1)))) → (∀ s Hx Ca cl fp, RS (X.blk s Hx scope (compEnvC scope cl Ca X.env) fp) H3 ρ2 σ2) →
        teOf X scope elt σ2 H3 fun y H4 => ∃ acc, H4 D = some (.lst acc) ∧ acc.length < sizeLine ∧ ∃ M2, RM X.K (upd H4 D (.lst (acc ++ [y]))) M2 ∧ Stay X.K H1 (upd H4 D (.lst (acc ++ [y]))) ∧ I (i + 1) M2 := fun H3 M4 m3 st3 hb hr s Hx Ca cl fp => by
      refine (hb _ (FXs s Hx Ca cl fp) σ2 H3 (hr s Hx Ca cl fp) m3).mono fun u H4 ⟨d, M5, c1, c2, c3, j, acc, c4, c5, M6, c6, c7⟩ => ?_
      obtain ⟨vs, e1, e2⟩ := c2.at c4.ix
      have mu : Wr H4 D := wr_lst e1
      have st4 : Stay X.K H4 (upd H4 D (.lst (vs ++ [u]))) := Stay.write mu
      refine ⟨vs, e1, by rw [← e2.length]; exact c5, M6, ?_, (st3.trans c3).trans st4, c7⟩
      exact (c2.write (q' := .lst (acc ++ [d])) c4.ix mu ⟨_, upd_same, (e2.mono st4).append (.cons (c1.mono st4) .nil)⟩).less c6
    match ifs, hif, body with
    | [], _, body =>
      simp only [ttOf, tYes, ↓reduceIte]
      exact fin H2 M2 b3 (a3.trans b2) (fun X' FX' => body X' FX') rr
    | [c], _, body =>
      intro s Hx Ca cl fp
      refine (body _ (FXs s Hx Ca cl fp) σ2 H2 (rr s Hx Ca cl fp) b3).mono fun t H3 ⟨M4, c1, c2, c3, c4⟩ => ?_
      cases t with
      | true =>
        exact L2.iteT (fin H3 M4 c1 ((a3.trans b2).trans c2) (fun X' FX' => c3 rfl X' FX') fun s Hx Ca cl fp => (rr s Hx Ca cl fp).mono c2)
      | false =>
        obtain ⟨M5, e1, e2⟩ := c4 rfl
        exact L2.iteF ⟨M5, c1.less e1, (a3.trans b2).trans c2, e2⟩
  · have e : i = n := by omega
    subst e
    exact .inl ⟨hJ.stop H' M2 a3 a2 gg, hKQ D H' M2 a2 (s1.trans a3) (hend M2 a4)⟩
theorem lc_nm {ifs : List Expr} (F : Fx X P w K mg base sc N L C Gs Bs k) {i : Nat} (hi : N[i]? = some x) (hx : x ∈ L' ∨ x ∈ C') (st : stat (relS scope sc) N L' C' Gs' = true) (hm : maskC N (relS scope sc) scope own C' ms = true) (hmem : i ∈ own.map (·.2)) :
    (∀ (s : Shared) (H : Hp) (Ca : Addr) (cl : List (Str × Addr)) (fp : List Addr), PG (X.blk s H scope (compEnvC scope cl Ca X.env) fp) (.Name x px) (gName i)) ∧
    ∀ (d : DV) (ρ1 : Ro) (S : Ro → Prop) (σ τ : L2.St) (H0 : Hp) (v : V) (Qg : L2.St → Hp → Prop), TgN N ρ1 x d S → wipe τ (own.map (·.2)) = wipe σ (own.map (·.2)) → (∀ s H Ca cl fp, RS (X.blk s H scope (compEnvC scope cl Ca X.env) fp) H0 ρ1 τ) → RD K H0 d v →
      (∀ σ2 ρ2, wipe σ2 (own.map (·.2)) = wipe σ (own.map (·.2)) → (∀ s H Ca cl fp, RS (X.blk s H scope (compEnvC scope cl Ca X.env) fp) H0 ρ2 σ2) → S ρ2 → Qg σ2 H0) → gName i v τ H0 Qg := by
  have T := stat_ok st
  have hc : ∀ z ∈ C', (scope.names.lookup z == some .cell) = true := by
    unfold maskC at hm
    simp only [Bool.and_eq_true, List.all_eq_true] at hm
    exact hm.2
  have hsc : ∀ cl Ca, (compEnvC scope cl Ca X.env).scope = relS scope sc := fun cl Ca => by rw [← F.hsc]; rfl
  have hl : (relS scope sc).names.lookup x = some .local ∨ ((relS scope sc).names.lookup x = some .cell ∧ (scope.names.lookup x == some .cell) = true) := hx.elim (fun h => .inl (T.loc x h)) fun h => .inr ⟨T.cel x h, hc x h⟩
  refine ⟨fun s H Ca cl fp => ?_, fun d ρ1 S σ τ H0 v Qg ⟨ρ2, h1, h2⟩ ew hr r q => ?_⟩
  · refine pg_name (X := X.blk s H scope (compEnvC scope cl Ca X.env) fp) (by show X.N.Nodup; rw [F.hN]; exact F.nd) (by show X.N[i]? = _; rw [F.hN]; exact hi) ?_ ?_
    · show Loc (compEnvC scope cl Ca X.env).scope x
      rw [hsc]
      exact hl.elim .inl fun z => .inr z.1
    · rcases hl with z | z
      · exact .inr (by show (compEnvC scope cl Ca X.env).scope.names.lookup x = _; rw [hsc]; exact z)
      · exact .inl z.2
  · obtain ⟨j, e1, e2⟩ := h1.ix
    have ej : j = i := nodup_ix F.nd e1 hi
    subst ej e2
    refine q _ _ ?_ (fun s H Ca cl fp => ?_) h2
    · rw [← ew]
      apply List.ext_getElem?
      intro t
      by_cases ht : t ∈ own.map (·.2)
      · rw [wipe_at ht, wipe_at ht, List.length_set]
      · rw [wipe_get ht, wipe_get ht, List.getElem?_set_ne (fun e => ht (by rw [← e]; exact hmem))]
    · refine (hr s H Ca cl fp).put (x := x) (by show X.N[j]? = _; rw [F.hN]; exact hi) ?_ (by show RD X.K H0 d v; rw [F.hK]; exact r)
      show Vis (compEnvC scope cl Ca X.env).scope x
      rw [hsc]
      exact hl.elim .inl fun z => .inr (.inl z.1)
/-- what stands static for a comprehension of one name -/
structure Lc1 (N : List Str) (sc scope : Scope) (x : Str) (i : Nat) (ms : List Bool) (L' C' Gs' : List Str) : Prop where
  hi : N[i]? = some x
  hx : x ∈ L' ∨ x ∈ C'
  ok : blkC N sc scope [(x, i)] = true
  st : stat (relS scope sc) N L' C' Gs' = true
  hm : maskC N (relS scope sc) scope [(x, i)] C' ms = true
theorem lc1_read {ifs : List Expr} {i : Nat} (F : Fx X P w K mg base sc N L C Gs Bs k) (c : Lc1 N sc scope x i ms L' C' Gs') (hs : notSet iter = true) (hif : ifs.length ≤ 1)
    (h : WI X ρ M (.Name x px) iter (LcI P w K mg base (relS scope sc) N L' C' Gs' Bs k (TgN N (mask ms ρ) x) elt ifs Q)) {σ : L2.St} {H : Hp} (rs : RS X H ρ σ) (m : RM X.K H M) (hlen : σ.length = N.length) {KQ : VK} (hKQ : ∀ D H' M2, RM X.K H' M2 → Stay X.K H H' → Q (.ref D) M2 → KQ (.ref D) H') :
    ∃ wi' tt te, PI X (.Name x px) iter wi' ∧ (∀ (s : Shared) (H : Hp) (Ca : Addr) (cl : List (Str × Addr)) (fp : List Addr), PTs (X.blk s H scope (compEnvC scope cl Ca X.env) fp) ifs tt) ∧ (∀ (s : Shared) (H : Hp) (Ca : Addr) (cl : List (Str × Addr)) (fp : List Addr), PE (X.blk s H scope (compEnvC scope cl Ca X.env) fp) elt te) ∧ tLc wi' (gName i) tt te ([(x, i)].map (·.2)) σ H KQ := by
  obtain ⟨g1, g2⟩ := lc_nm (px := px) (ifs := ifs) (own := [(x, i)]) F c.hi c.hx c.st c.hm (by simp)
  exact lc_gen (own := [(x, i)]) F c.ok c.st c.hm hs hif g1 (fun d S σ H0 v Qg t hr r q => g2 d (mask ms ρ) S σ _ H0 v Qg t (by rw [wipe_wipe]) hr r q) h rs m hlen hKQ
theorem Inv_len {pins : List (Addr × Obj)} {σ : L2.St} {H : Hp} {s : Shared} (F : Fx X P w K mg base sc N L C Gs Bs k) (I : Inv X pins σ H s) : σ.length = N.length := by rw [← F.hN]; exact I.len
/-- [elt for x in iter (if c)] -/
theorem we_lc1 {ifs : List Expr} {i : Nat} (F : Fx X P w K mg base sc N L C Gs Bs k) (c : Lc1 N sc scope x i ms L' C' Gs') (hs : notSet iter = true) (hif : ifs.length ≤ 1)
    (h : WI X ρ M (.Name x px) iter (LcI P w K mg base (relS scope sc) N L' C' Gs' Bs k (TgN N (mask ms ρ) x) elt ifs Q)) : WE X ρ M (.ListComp elt [⟨.Name x px, iter, ifs, 0⟩] scope pos) Q := by
  obtain ⟨g1, _⟩ := lc_nm (px := px) (ifs := ifs) (own := [(x, i)]) F c.hi c.hx c.st c.hm (by simp)
  intro σ H rs m pins s I
  obtain ⟨wi, tt, te, p1, p2, p3, p4⟩ := lc1_read (px := px) F c hs hif h rs m (Inv_len F I) (KQ := LE X.K H Q) fun D H' M2 r st q => ⟨_, M2, .ref D, r, st, q⟩
  exact (pe_lc (own := [(x, i)]) F.calm (by rw [F.hN]; exact F.nd) p1 (blkOk_by (by rw [F.hN, F.hsc]; exact c.ok)) g1 p2 p3 (notSet_ok hs)).run pins s σ H _ I p4
/-- y = [elt for x in iter (if c)], y a local name -/
theorem ws_setLc1 {ifs : List Expr} {i iy : Nat} {spos : Pos} {nx : Ro → Mm → Prop} {rt : DV → Mm → Prop} {bk ct : Ro → Mm → Prop} (F : Fx X P w K mg base sc N L C Gs Bs k) (c : Lc1 N sc scope x i ms L' C' Gs') (hs : notSet iter = true) (hif : ifs.length ≤ 1) (hy : y ∈ L) (hiy : N[iy]? = some y)
    (hsw : swapsWith (.ListComp elt [⟨.Name x px, iter, ifs, 0⟩] scope pos) (some (.Name y py)) spos.line (envS sc) = pure true)
    (h : WI X ρ M (.Name x px) iter (LcI P w K mg base (relS scope sc) N L' C' Gs' Bs k (TgN N (mask ms ρ) x) elt ifs fun d M1 => TgN N ρ y d fun ρ2 => nx ρ2 M1)) : WS X ρ M (.Assign [.Name y py] (.ListComp elt [⟨.Name x px, iter, ifs, 0⟩] scope pos) spos) nx rt bk ct := by
  obtain ⟨g1, _⟩ := lc_nm (px := px) (ifs := ifs) (own := [(x, i)]) F c.hi c.hx c.st c.hm (by simp)
  intro σ H rs m pins s I
  obtain ⟨wi, tt, te, p1, p2, p3, p4⟩ := lc1_read (px := px) F c hs hif h rs m (Inv_len F I) (KQ := fun v H1 => gName iy v σ H1 (LN X H nx)) fun D H' M2 r st ⟨ρ2, h1, h2⟩ => by
    obtain ⟨j, e1, e2⟩ := h1.ix
    have ej : j = iy := nodup_ix F.nd e1 hiy
    subst ej e2
    exact ⟨_, M2, (rs.mono st).put (by rw [F.hN]; exact hiy) (.inl (F.loc y hy)) (.ref D), r, st, h2⟩
  refine (ps_setLc (i := iy) (own := [(x, i)]) F.calm (by rw [F.hN]; exact F.nd) (by rw [F.hN]; exact hiy) (F.loc y hy) (by rw [show swapsWith _ _ _ X.env = swapsWith (.ListComp elt [⟨.Name x px, iter, ifs, 0⟩] scope pos) (some (.Name y py)) spos.line (envS X.env.scope) from rfl, F.hsc]; exact hsw) p1 (blkOk_by (by rw [F.hN, F.hsc]; exact c.ok)) g1 p2 p3 (notSet_ok hs)).run pins s σ H _ I p4
end
end G
namespace G
open PySem L2
/-! ### slices -/
def cutD {α : Type} (xs : List α) (lo hi : Option Int) : List α := (xs.drop (HT.sIx xs.length 0 lo)).take (HT.sIx xs.length xs.length hi - HT.sIx xs.length 0 lo)
theorem RDs.cut {K : Fg} {H : Hp} {ds : List DV} {vs : List V} (h : RDs K H ds vs) (lo hi : Option Int) : RDs K H (cutD ds lo hi) (cutV vs lo hi) := by
  unfold cutD cutV
  rw [← h.length]
  exact (h.drop _).take _
section
variable {X : Cy} {P : Program} {w : World} {K : Fg} {mg : Str → Option Value} {base : Heap} {sc : Scope} {N L C Gs Bs : List Str} {k : Nat} {ρ ρ' : Ro} {M : Mm} {Q : DV → Mm → Prop} {e el eh : Expr} {pos p2 : Pos}
/-- a part of a slice -/
def WO (X : Cy) (ρ : Ro) (M : Mm) : Option Expr → (Option Int → Mm → Prop) → Prop
  | none, T => T none M
  | some e, T => WE X ρ M e fun d M1 => ∃ i, d = .int i ∧ T (some i) M1
def SlD (K : Fg) (x : DV) (lo hi : Option Int) (M : Mm) (Q : DV → Mm → Prop) : Prop := ∀ v H, RD K H x v → RM K H M → (rSlL K v lo hi H (LE K H Q) ∨ rSlA K v lo hi H (LE K H Q)) ∨ rSlS v lo hi H (LE K H Q)
def toOf (X : Cy) : Option Expr → TO
  | none => tNoPart
  | some e => tPart (wE X e)
theorem po_w {o : Option Expr} : PO X o (toOf X o) := match o with
  | none => po_none
  | some e => po_some pe_w
theorem wo_run {o : Option Expr} {T : Option Int → Mm → Prop} {σ : L2.St} {H : Hp} (rs : RS X H ρ σ) (m : RM X.K H M) (h : WO X ρ M o T) {Q' : Option Int → Hp → Prop} (q : ∀ i H' M', RM X.K H' M' → Stay X.K H H' → T i M' → Q' i H') : toOf X o σ H Q' := by
  cases o with
  | none => exact q none H M m Stay.refl h
  | some e =>
    refine (h σ H rs m).mono fun v H1 ⟨d, M1, h1, h2, h3, i, e1, h4⟩ => ?_
    subst e1
    cases h1
    exact ⟨i, rfl, q (some i) H1 M1 h2 h3 h4⟩
theorem we_slice {lo hi : Option Expr} (h : WE X ρ M e fun x M1 => WO X ρ M1 lo fun l M2 => WO X ρ M2 hi fun u M3 => SlD X.K x l u M3 Q) : WE X ρ M (.Subscript e (.Slice lo hi none p2) pos) Q := fun σ H rs m => by
  refine wE.of (pe_slice ((sl_list.or sl_tupA).or sl_str) pe_w po_w po_w) ?_
  refine (h σ H rs m).mono fun v H1 ⟨d, M1, h1, h2, h3, h4⟩ => ?_
  refine wo_run (rs.mono h3) h2 h4 fun l H2 M2 k2 k3 k4 => ?_
  refine wo_run ((rs.mono h3).mono k3) k2 k4 fun u H3 M3 l2 l3 l4 => ?_
  have st := (h3.trans k3).trans l3
  rcases l4 v H3 ((h1.mono k3).mono l3) l2 with (⟨a, xs, q1, q2, q3⟩ | ⟨a, xs, q1, q2, q3, q4⟩) | ⟨z, q1, q2, q3⟩
  · exact .inl (.inl ⟨a, xs, q1, q2, fun p hp => (q3 p hp).stay st⟩)
  · exact .inl (.inr ⟨a, xs, q1, q2, fun z => (q3 z).stay st, fun z p hp => (q4 z p hp).stay st⟩)
  · exact .inr ⟨z, q1, q2, q3.stay st⟩
instance {T : Option Int → Mm → Prop} : Step (WO X ρ M none T) true (T none M) := ⟨fun _ q => q⟩
instance {T : Option Int → Mm → Prop} : Step (WO X ρ M (some e) T) true (WE X ρ M e fun d M1 => ∃ i, d = .int i ∧ T (some i) M1) := ⟨fun _ q => q⟩
instance {ds : List DV} {lo hi : Option Int} : Step (SlD K (.lis ds) lo hi M Q) true (∀ p, Q (.ref p) ((p, .lst (cutD ds lo hi)) :: M)) := ⟨fun _ q v H r m => by
  cases r with
  | lis sq rr => exact .inl (.inl ⟨_, _, rfl, sq.sq, fun p hp => ⟨.ref p, _, .ref p, m.cons (q := .lst (cutD ds lo hi)) hp ⟨_, upd_same, (rr.cut lo hi).mono (Stay.new hp)⟩, Stay.new hp, q p⟩⟩)⟩
instance {ds : List DV} {lo hi : Option Int} : Step (SlD K (.tup ds) lo hi M Q) true (Q (.tup (cutD ds lo hi)) M) := ⟨fun _ q v H r m => by
  cases r with
  | tup sq rr =>
    refine .inl (.inr ⟨_, _, rfl, sq, fun ⟨z1, z2⟩ => ?_, fun z p hp => ⟨_, M, .tup (SqT.of upd_same) ((rr.cut lo hi).mono (Stay.new hp)), m.new hp, Stay.new hp, q⟩⟩)
    have e : cutD ds lo hi = ds := by
      unfold cutD
      rw [rr.length, z1, z2]
      rw [List.drop_zero, Nat.sub_zero, List.take_of_length_le (by rw [rr.length]; exact Nat.le_refl _)]
    rw [e] at q
    exact ⟨_, M, .tup sq rr, m, Stay.refl, q⟩⟩
end
/-! ### the law's own def -/
section
variable {P : Program} {w : World} {K : Fg} {mg : Str → Option Value} {base : Heap} {N L C Gs Bs : List Str} {k : Nat}
theorem RDs.ints {H : Hp} : ∀ ns : List Int, RDs K H (ns.map DV.int) (ns.map V.int)
  | [] => .nil
  | n :: ns => .cons (.int n) (RDs.ints ns)
end
/-! ### a list's own methods; enumerate -/
section
variable {X : Cy} {P : Program} {w : World} {K : Fg} {mg : Str → Option Value} {base : Heap} {sc : Scope} {N L C Gs Bs : List Str} {k : Nat} {ρ ρ' : Ro} {M : Mm} {Q : DV → Mm → Prop} {e e2 o : Expr} {pos apos p : Pos} {es : List Expr}
def AppL (M : Mm) (x d : DV) (S : Mm → Prop) : Prop := ∃ D j acc, x = .ref D ∧ AtM M j D (.lst acc) ∧ acc.length < sizeLine ∧ S (M.set j (D, .lst (acc ++ [d])))
instance {D : Addr} {d : DV} {j : Nat} {acc : List DV} {S : Mm → Prop} [h : AtM M j D (.lst acc)] : Step (AppL M (.ref D) d S) true (Side (acc.length < sizeLine) (S (M.set j (D, .lst (acc ++ [d]))))) := ⟨fun _ q => ⟨D, j, acc, rfl, h, q.a, q.b⟩⟩
/-- o.name(e, ..), a built-in type's method -/
theorem we_bm {T id : String} {name : Str} {r : V → List V → Hp → VK → Prop} (pa : PlainAttrs T) (slot : Slot T name id) (hty : typeOf (.builtin id) = pure (.type "method_descriptor")) (hm : MtR X id r) (mr : ∀ x xs H Q Q', r x xs H Q → (∀ v H', Q v H' → Q' v H') → r x xs H Q')
    (ho : notCall o = true) (hs : noStars (e :: es) = true) (hn : (e :: es).length < 30) (hl : (apos.endLine == pos.line) = true)
    (h : WE X ρ M o fun x M1 => (∀ v H, RD X.K H x v → RM X.K H M1 → tyV X.K T v H) ∧ WA X ρ M1 (e :: es) fun ds M2 => ∀ v vs H, RD X.K H x v → RDs X.K H ds vs → RM X.K H M2 → r v vs H (LE X.K H Q)) : WE X ρ M (.Call (.Attribute o name apos) (e :: es) [] pos) Q := fun σ H rs m => by
  obtain ⟨h1, h2⟩ := noStars_cons hs
  refine wE.of (pe_bm pa slot hty hm pe_w pa_w (attrBase ho) (by
    rw [noStars_all hs]
    show (true && true && decide ((e :: es).length + 0 + 0 < 30)) = true
    rw [decide_eq_true (by omega)]
    rfl) hl (starEach_cons h1) (noStars_any h2)) ?_
  refine (h σ H rs m).mono fun v H1 ⟨x, M1, k1, k2, k3, k4, k5⟩ => ⟨k4 v H1 k1 k2, ?_⟩
  refine (k5 σ H1 (rs.mono k3) k2).mono fun vs H2 ⟨ds, M2, l1, l2, l3, l4⟩ => ?_
  exact mr _ _ _ _ _ (l4 v vs H2 (k1.mono l3) l1 l2) fun _ _ z => z.stay (k3.trans l3)
/-- l.append(e) -/
theorem we_append (ho : notCall o = true) (hs : noStars [e] = true) (hl : (apos.endLine == pos.line) = true)
    (h : WE X ρ M o fun x M1 => (∃ D j acc, x = .ref D ∧ AtM M1 j D (.lst acc)) ∧ WE X ρ M1 e fun d M2 => AppL M2 x d (Q .non)) : WE X ρ M (.Call (.Attribute o "append" apos) [e] [] pos) Q := by
  refine we_bm PySem.F.plainAttrs_list PySem.F.slot_list_append PySem.F.type_list_append mt_append (fun x xs H Q Q' ⟨l, ys, y, a, b, c, d, z⟩ q => ⟨l, ys, y, a, b, c, d, q _ _ z⟩) ho hs (by simp) hl ?_
  refine h.mono fun x M1 ⟨⟨D, j, acc, h1, h2⟩, h3⟩ => ⟨fun v H r m => ?_, ?_⟩
  · subst h1
    cases r
    obtain ⟨vs, e1, _⟩ := m.at h2.ix
    exact .inl ⟨rfl, vs, SqL.of e1⟩
  · refine wa_cons' (noStars_cons hs).1 (h3.mono fun d M2 q => wa_nil fun v vs H r rs m => ?_)
    obtain ⟨D', j', acc', e1, e2, e3, e4⟩ := q
    subst e1
    cases r
    cases rs with
    | cons r1 rr =>
      rename_i u _
      cases rr
      obtain ⟨us, g1, g2⟩ := m.at e2.ix
      have mu : Wr H D' := wr_lst g1
      have st : Stay X.K H (upd H D' (.lst (us ++ [u]))) := Stay.write mu
      exact ⟨D', us, u, rfl, rfl, g1, by rw [← g2.length]; exact e3, .non, _, .non, m.write (q' := .lst (acc' ++ [d])) e2.ix mu ⟨_, upd_same, (g2.mono st).append (.cons (r1.mono st) .nil)⟩, st, e4⟩
instance : Step (WE X ρ M (.Call (.Attribute o (Str.ofString "append") apos) [e] [] pos) Q) (notCall o && noStars [e] && (apos.endLine == pos.line)) (WE X ρ M o fun x M1 => Side (∃ D j acc, x = .ref D ∧ AtM M1 j D (.lst acc)) (WE X ρ M1 e fun d M2 => AppL M2 x d (Q .non))) := ⟨fun h q => by
  simp only [Bool.and_eq_true] at h
  exact we_append h.1.1 h.1.2 h.2 (q.mono fun _ _ z => ⟨z.a, z.b⟩)⟩
/-! for a, b in enumerate(l) -/
end
/-! ### defs and methods of the text -/
section
variable {P : Program} {w : World} {K : Fg} {mg : Str → Option Value} {base : Heap} {N L C Gs Bs ps : List Str} {k : Nat} {x qual m : Str} {st : Stmt} {sp : SpD} {Cc : Addr}
def FnT (K : Fg) (mg : Str → Option Value) (x : Str) (st : Stmt) (ps : List Str) : Prop := ∃ f fd, Fun K x x st f fd ∧ mg x = some (.ref f) ∧ Binds K fd ps []
def MtT (K : Fg) (Cc : Addr) (m qual : Str) (st : Stmt) (ps : List Str) : Prop := ∃ f fd, Fun K m qual st f fd ∧ Meth K Cc m f ∧ Binds K fd ps []
theorem cal_mk (hf : FnT K mg x st ps) (S : FnScope N ps (defScope st)) (hst : stat (defScope st) N L C Gs = true) (hb : ∀ x ∈ Bs, mg x = none)
    (h : ∀ X, Fx X P w K mg base (defScope st) N L C Gs Bs k → ∀ ds M Q, ds.length = ps.length → sp ds M Q → WSs X (ini N ds) M (defBody st) (fun _ M' => Sub (Q .non) M') (fun d M' => Sub (Q d) M') (fun _ _ => False) (fun _ _ => False)) :
    Cal P w K mg base x (k + 1) ps.length sp := by
  obtain ⟨f, fd, F, hm, hb'⟩ := hf
  exact ⟨⟨f, fd, ps, fn_ok F S hst hb h, hm, F.kp, hb'⟩⟩
theorem mcal_mk (cl : Cls K Cc) (hf : MtT K Cc m qual st ps) (S : FnScope N ps (defScope st)) (hst : stat (defScope st) N L C Gs = true) (hb : ∀ x ∈ Bs, mg x = none)
    (h : ∀ X, Fx X P w K mg base (defScope st) N L C Gs Bs k → ∀ ds M Q, ds.length = ps.length → sp ds M Q → WSs X (ini N ds) M (defBody st) (fun _ M' => Sub (Q .non) M') (fun d M' => Sub (Q d) M') (fun _ _ => False) (fun _ _ => False)) :
    Mcal P w K mg base Cc m (k + 1) ps.length sp := by
  obtain ⟨f, fd, F, hm, hb'⟩ := hf
  exact ⟨cl, ⟨f, fd, ps, fn_ok F S hst hb h, hm, hb'⟩⟩
end
end G
namespace G
open PySem L2
/-! ### data as PyData, found by form -/
section
variable {X : Cy} {P : Program} {w : World} {K : Fg} {mg : Str → Option Value} {base : Heap} {sc : Scope} {N L C Gs Bs : List Str} {k j n : Nat} {ρ ρ' : Ro} {M : Mm} {Q : DV → Mm → Prop} {nx bk ct S : Ro → Mm → Prop} {rt : DV → Mm → Prop} {a b c e e2 o tg : Expr} {pos p p2 apos : Pos} {x y z : Str} {R : Bool → Mm → Prop}
/-! ### names by place -/
class IxN (N : List Str) (x : Str) (i : outParam Nat) : Prop where
  h : N[i]? = some x
instance {N : List Str} {x y : Str} {i : Nat} [h : IxN N x i] : IxN (y :: N) x (i + 1) := ⟨by simpa using h.h⟩
instance {N : List Str} {x : Str} : IxN (x :: N) x 0 := ⟨rfl⟩
/-- x, y = a, b -/
theorem ws_p2 {px py pt pt2 : Pos} {kt k2 i0 j0 : Nat} [F : Fx X P w K mg base sc N L C Gs Bs k] [hx : MemC x L] [hy : MemC y L] [hi : IxN N x i0] [hj : IxN N y j0] (hne : Nat.beq i0 j0 = false) (hw : swappedStores [.Tuple [.Name x px, .Name y py] kt pt] (.Tuple [a, b] k2 pt2) (envS sc) = pure (some [x, y]))
    (h : WA X ρ M [a, b] fun ds M1 => ∃ d1 d2, ds = [d1, d2] ∧ TgN N ρ x d1 fun ρ1 => TgN N ρ1 y d2 fun ρ2 => nx ρ2 M1) : WS X ρ M (.Assign [.Tuple [.Name x px, .Name y py] kt pt] (.Tuple [a, b] k2 pt2) pos) nx rt bk ct :=
  ws_par2 F hx.h hy.h (fun e => by
    have : i0 = j0 := nodup_ix F.nd hi.h (e ▸ hj.h)
    subst this
    rw [Nat.beq_refl] at hne
    cases hne) hw (fun σ H r m => (h σ H r m).mono fun _ _ ⟨ds, M1, k1, k2, k3, d1, d2, e, ρ1, p1, ρ2, p2, q⟩ => ⟨ds, M1, k1, k2, k3, d1, d2, ρ1, ρ2, e, p1, p2, q⟩) i0 j0 hi.h hj.h
instance {d1 d2 : DV} {W : DV → DV → Prop} : Step (∃ e1 e2, [d1, d2] = [e1, e2] ∧ W e1 e2) true (W d1 d2) := ⟨fun _ q => ⟨d1, d2, rfl, q⟩⟩
/-! ### chains -/
class CmpI (op : CmpOp) (g : outParam (Int → Int → Bool)) : Prop where
  h : ∀ X : Cx, OpR X (compareOp op) (rI0 fun i j => .bl (g i j))
instance : CmpI .LtE (fun i j => decide (i ≤ j)) := ⟨fun _ => op_le⟩
instance {op op' : CmpOp} {g g' : Int → Int → Bool} [h : CmpI op g] [h' : CmpI op' g'] : Step (WT X ρ M (.Compare a [op, op'] [b, c] pos) R) (!lastMarks [op, op'] [b, c])
    (WE X ρ M a fun x M1 => WE X ρ M1 b fun y M2 => R2D X.K (rI0 fun i j => .bl (g i j)) x y M2 (QB fun t M3 => (t = true → WE X ρ M3 c fun z M4 => R2D X.K (rI0 fun i j => .bl (g' i j)) y z M4 (QB R)) ∧ (t = false → R false M3))) := ⟨fun hc q => wt_chain' (h.h X) (h'.h X) monI0 monI0 (by simpa using hc) q⟩
end
end G
namespace G
open PySem PyProof.Rows L2
/-! ### comprehensions that keep the objects as they are; len(set(ints)) -/
def rng (lo : Int) (n : Nat) : List Int := (List.range n).map fun i : Nat => lo + (i : Int)
theorem filterMap_all {α β : Type} (f : α → β) (l : List α) : l.filterMap (fun x => some (f x)) = l.map f := by
  induction l with
  | nil => rfl
  | cons a l ih => rw [List.filterMap_cons]; simp [ih]
section
variable {X : Cy} {P : Program} {w : World} {K : Fg} {mg : Str → Option Value} {base : Heap} {sc sc' : Scope} {N L C Gs Bs L' C' Gs' : List Str} {k : Nat} {ρ ρ' : Ro} {M M1 : Mm} {Q : DV → Mm → Prop} {e elt : Expr} {ifs : List Expr} {p p2 pos pos2 : Pos} {tgd : TgD} {n : Nat} {y : Nat → DV} {G : Mm → Prop}
theorem lcI_items {α : Type} (items : List α) (v : α → DV) (g : α → Option DV) (hn : n = items.length) (hy : ∀ i (h : i < items.length), y i = v items[i]) (hG : ∀ D l, G ((D, .lst l) :: M1)) (hs : n ≤ sizeLine)
    (hb : ∀ D x acc, x ∈ items → acc.length < sizeLine → tgd (v x) fun ρ2 => ∀ X', Fx X' P w K mg base sc' N L' C' Gs' Bs k → LcB (fun X'' => Fx X'' P w K mg base sc' N L' C' Gs' Bs k) X' ρ2 ((D, .lst acc) :: M1) elt ifs D fun M2 => M2 = (D, .lst (acc ++ (g x).toList)) :: M1)
    (tm : ∀ d (S S' : Ro → Prop), tgd d S → (∀ r, S r → S' r) → tgd d S')
    (bm : ∀ X' ρ2 M2 D (I I' : Mm → Prop), LcB (fun X'' => Fx X'' P w K mg base sc' N L' C' Gs' Bs k) X' ρ2 M2 elt ifs D I → (∀ m, I m → I' m) → LcB (fun X'' => Fx X'' P w K mg base sc' N L' C' Gs' Bs k) X' ρ2 M2 elt ifs D I')
    (q : ∀ D, Q (.ref D) ((D, .lst (items.filterMap g)) :: M1)) : LcI P w K mg base sc' N L' C' Gs' Bs k tgd elt ifs Q n y G M1 := fun D => by
  subst hn
  refine ⟨fun i M2 => M2 = (D, .lst ((items.take i).filterMap g)) :: M1, .self rfl, fun i M2 _ e => by subst e; exact hG D _, fun i M2 hi e => ?_, fun M2 e => ?_⟩
  · subst e
    rw [hy i hi]
    have hl : ((items.take i).filterMap g).length < sizeLine := Nat.lt_of_le_of_lt (List.length_filterMap_le _ _) (by rw [List.length_take]; omega)
    refine tm _ _ _ (hb D items[i] _ (List.getElem_mem hi) hl) fun r h X' FX => bm _ _ _ _ _ _ (h X' FX) fun m e => ?_
    show m = _
    rw [e, List.take_succ, List.filterMap_append, List.getElem?_eq_getElem hi]
    simp [List.filterMap_cons]
    cases g items[i] <;> rfl
  · subst e
    rw [List.take_length]
    exact q D
theorem TgN.mono {x : Str} {d : DV} {S S' : Ro → Prop} (h : TgN N ρ x d S) (q : ∀ r, S r → S' r) : TgN N ρ x d S' := let ⟨a, b, c⟩ := h; ⟨a, b, q _ c⟩
theorem App.mono {D : Addr} {d : DV} {I I' : Mm → Prop} (h : App D M d I) (q : ∀ m, I m → I' m) : App D M d I' := let ⟨a, b, c, d1, e⟩ := h; ⟨a, b, c, d1, q _ e⟩
theorem WT.mono {R R' : Bool → Mm → Prop} (h : WT X ρ M e R) (q : ∀ b m, R b m → R' b m) : WT X ρ M e R' := fun σ H rs m => (h σ H rs m).mono fun t H1 ⟨M1, a, b, c⟩ => ⟨M1, a, b, q _ _ c⟩
theorem LcB.mono {FP : Cy → Prop} {D : Addr} {I I' : Mm → Prop} (h : LcB FP X ρ M elt ifs D I) (q : ∀ m, I m → I' m) : LcB FP X ρ M elt ifs D I' := by
  match ifs, h with
  | [], h => exact WE.mono h fun d m z => z.mono fun m z => z.mono q
  | [c], h => exact WT.mono h fun b m z => ⟨fun hb X'' FX => (z.1 hb X'' FX).mono fun d m z => z.mono fun m z => z.mono q, fun hb => (z.2 hb).mono q⟩
/-- a comprehension of one name that alters nothing else -/
theorem lcI1 {x : Str} {α : Type} (items : List α) (v : α → DV) (g : α → Option DV) (hn : n = items.length) (hy : ∀ i (h : i < items.length), y i = v items[i]) (hG : ∀ D l, G ((D, .lst l) :: M1)) (hs : n ≤ sizeLine)
    (hb : ∀ D x1 acc, x1 ∈ items → acc.length < sizeLine → TgN N ρ x (v x1) fun ρ2 => ∀ X', Fx X' P w K mg base sc' N L' C' Gs' Bs k → LcB (fun X'' => Fx X'' P w K mg base sc' N L' C' Gs' Bs k) X' ρ2 ((D, .lst acc) :: M1) elt ifs D fun M2 => M2 = (D, .lst (acc ++ (g x1).toList)) :: M1)
    (q : ∀ D, Q (.ref D) ((D, .lst (items.filterMap g)) :: M1)) : LcI P w K mg base sc' N L' C' Gs' Bs k (TgN N ρ x) elt ifs Q n y G M1 :=
  lcI_items items v g hn hy hG hs hb (fun _ _ _ h q => h.mono q) (fun _ _ _ _ _ _ h q => h.mono q) q
/-! the count of distinct ints -/
instance {A B : Prop} : Step ((true = true → A) ∧ (true = false → B)) true A := ⟨fun _ q => ⟨fun _ => q, fun h => Bool.noConfusion h⟩⟩
instance {A B : Prop} : Step ((false = true → A) ∧ (false = false → B)) true B := ⟨fun _ q => ⟨fun h => Bool.noConfusion h, fun _ => q⟩⟩
instance {A B : Prop} {b : Bool} : Step (((!b) = true → A) ∧ ((!b) = false → B)) true ((b = true → B) ∧ (b = false → A)) := ⟨fun _ q => by cases b; exact ⟨fun _ => q.2 rfl, fun h => Bool.noConfusion h⟩; exact ⟨fun h => Bool.noConfusion h, fun _ => q.1 rfl⟩⟩
end
end G
namespace G
open PySem PySem.Spec PyProof.Rows L2
/-! ### lambdas that are made and called within one expression -/
section
variable {X : Cx} {pins : List (Addr × Obj)} {σ σ' : L2.St} {H : Hp} {s : Shared} {ps : List Str}
end
end G
namespace G
open PySem PySem.Spec PyProof.Rows L2
/-! ### sorted(xs, key=lambda ..) -/
section
variable {X : Cx} {pins : List (Addr × Obj)} {σ : L2.St} {H H' : Hp} {s : Shared} {h' : Heap}
theorem RM.none {K : Fg} {H : Hp} : RM K H [] := ⟨List.nodup_nil, fun a o h => nomatch h⟩
end
end G
namespace G
open PySem PySem.Spec PyProof.Rows L2
/-! ### makers of lambdas -/
class Mkr (X : Cy) (c P : outParam Addr) (q : outParam Str) : Prop where
  code : X.env.code = .ref c
  tb : LamX.TabB X.base X.mg c P
  qn : X.env.qual ++ "<lambda>" = q
def tabsOf : Mm → List (Addr × Str)
  | [] => []
  | (p, .tab q) :: M => (p, q) :: tabsOf M
  | _ :: M => tabsOf M
theorem mem_tabsOf : ∀ {M : Mm} {p : Addr} {q : Str}, (p, q) ∈ tabsOf M ↔ (p, MO.tab q) ∈ M
  | [], p, q => by simp [tabsOf]
  | (a, .tab r) :: M, p, q => by
    rw [tabsOf, List.mem_cons, List.mem_cons, mem_tabsOf]
    constructor
    · rintro (h | h)
      · cases h; exact .inl rfl
      · exact .inr h
    · rintro (h | h)
      · cases h; exact .inl rfl
      · exact .inr h
  | (a, .lst r) :: M, p, q => by rw [tabsOf, List.mem_cons, mem_tabsOf]; exact ⟨.inr, fun h => h.elim (fun h => by cases h) id⟩; all_goals (intros; simp_all)
  | (a, .ins r u) :: M, p, q => by rw [tabsOf, List.mem_cons, mem_tabsOf]; exact ⟨.inr, fun h => h.elim (fun h => by cases h) id⟩; all_goals (intros; simp_all)
  | (a, .dk r) :: M, p, q => by rw [tabsOf, List.mem_cons, mem_tabsOf]; exact ⟨.inr, fun h => h.elim (fun h => by cases h) id⟩; all_goals (intros; simp_all)
  | (a, .dn r u t) :: M, p, q => by rw [tabsOf, List.mem_cons, mem_tabsOf]; exact ⟨.inr, fun h => h.elim (fun h => by cases h) id⟩; all_goals (intros; simp_all)
  | (a, .exc r u) :: M, p, q => by rw [tabsOf, List.mem_cons, mem_tabsOf]; exact ⟨.inr, fun h => h.elim (fun h => by cases h) id⟩; all_goals (intros; simp_all)
  | (a, .rng r u) :: M, p, q => by rw [tabsOf, List.mem_cons, mem_tabsOf]; exact ⟨.inr, fun h => h.elim (fun h => by cases h) id⟩; all_goals (intros; simp_all)
theorem ext_stay {K : Fg} {H H1 : Hp} (e : LamX.ExtN H H1) : Stay K H H1 := ⟨fun a xs h => e a _ h fun ps z => (by cases z), fun a o u h => e a _ h fun ps z => (by cases z), fun a q h => e a _ h LamX.codeO_ne, fun a fs h => e a _ h fun ps z => (by cases z)⟩
theorem RM.tabs {K : Fg} {H H1 : Hp} {M : Mm} (h : RM K H M) (e : LamX.ExtN H H1) (t : LamX.Tabs (tabsOf M) H1) : RM K H1 M := ⟨h.nd, fun a o hm => by
  have hr := h.ok a o hm
  cases o with
  | tab q => exact t (a, q) (mem_tabsOf.mpr hm)
  | lst xs => exact hr.mono (ext_stay e) (by obtain ⟨vs, h1, _⟩ := hr; rw [h1]; exact e a _ h1 fun ps z => (by cases z))
  | ins C fs => exact hr.mono (ext_stay e) (by obtain ⟨dx, gs, h1, _⟩ := hr; rw [h1]; exact e a _ h1 fun ps z => (by cases z))
  | dk kvs => exact hr.mono (ext_stay e) (by obtain ⟨vs, h1, _⟩ := hr; rw [h1]; exact e a _ h1 fun ps z => (by cases z))
  | dn w o kvs => exact hr.mono (ext_stay e) (by obtain ⟨vs, h1, _⟩ := hr; rw [h1]; exact e a _ h1 fun ps z => (by cases z))
  | exc w o => exact hr.mono (ext_stay e) (by obtain ⟨vs, h1, _⟩ := hr; rw [h1]; exact e a _ h1 fun ps z => (by cases z))
  | rng lo hi => exact hr.mono (ext_stay e) (by have h1 : H a = some (.rng lo hi) := hr; rw [h1]; exact e a _ h1 fun ps z => (by cases z))⟩
theorem nodup_fst {M : Mm} (nd : (M.map (·.1)).Nodup) {p : Addr} {a b : MO} (h1 : (p, a) ∈ M) (h2 : (p, b) ∈ M) : a = b := by
  obtain ⟨i, hi, e1⟩ := List.getElem_of_mem h1
  obtain ⟨j, hj, e2⟩ := List.getElem_of_mem h2
  have q : (M.map (·.1))[i]'(by simpa using hi) = (M.map (·.1))[j]'(by simpa using hj) := by simp [e1, e2]
  have : i = j := (List.getElem_inj nd).mp q
  subst this
  rw [e1] at e2
  cases e2
  rfl
def plainArgs (a : Arguments) : Bool := match a with
  | ⟨_, _, _, _, [], _, []⟩ => true
  | _ => false
theorem plainArgs_ok {a : Arguments} {env : Env} (h : plainArgs a = true) : defaultsOf a env = ([], []) := by
  obtain ⟨p1, p2, p3, p4, p5, p6, p7⟩ := a
  cases p5 <;> cases p7 <;> first | rfl | exact Bool.noConfusion h
section
variable {X : Cy} {A : Around} {P : Program} {w : World} {K : Fg} {mg : Str → Option Value} {base : Heap} {sc : Scope} {N L C Gs Bs Gs' : List Str} {k : Nat} {ρ ρ' : Ro} {M : Mm} {Q : DV → Mm → Prop} {e body : Expr} {params : Arguments} {scope : Scope} {x : Str} {i : Nat} {ms : List Bool} {pos p p2 kp lp : Pos}
end
end G
namespace G
open PySem PySem.Spec PyProof.Rows L2
/-! ### data without lists stand over any objects -/
/-! ### dicts of ints and texts -/
def putD {κ : Type} [DecidableEq κ] (kvs : List (κ × DV)) (k : κ) (d : DV) : List (κ × DV) :=
  if (kvs.any fun kv => decide (kv.1 = k)) = true then kvs.map (fun kv => if kv.1 = k then (kv.1, d) else kv) else kvs ++ [(k, d)]
def getD {κ : Type} [DecidableEq κ] (kvs : List (κ × DV)) (k : κ) : Option DV := (kvs.find? fun kv => decide (kv.1 = k)).map (·.2)
section
variable {κ : Type} [DecidableEq κ] {K : Fg} {H : Hp}
theorem RF.any {p : κ → Bool} : ∀ {kvs : List (κ × DV)} {vs : List (κ × V)}, RF K H kvs vs → kvs.any (fun kv => p kv.1) = vs.any (fun kv => p kv.1)
  | _, _, .nil => rfl
  | _, _, .cons _ t => by rw [List.any_cons, List.any_cons, RF.any t]
theorem RF.len : ∀ {kvs : List (κ × DV)} {vs : List (κ × V)}, RF K H kvs vs → kvs.length = vs.length
  | _, _, .nil => rfl
  | _, _, .cons _ t => by rw [List.length_cons, List.length_cons, RF.len t]
theorem RF.snoc {k : κ} {d : DV} {v : V} (r : RD K H d v) : ∀ {kvs : List (κ × DV)} {vs : List (κ × V)}, RF K H kvs vs → RF K H (kvs ++ [(k, d)]) (vs ++ [(k, v)])
  | _, _, .nil => .cons r .nil
  | _, _, .cons q t => .cons q (RF.snoc r t)
theorem RF.over {k : κ} {d : DV} {v : V} (r : RD K H d v) : ∀ {kvs : List (κ × DV)} {vs : List (κ × V)}, RF K H kvs vs → RF K H (kvs.map fun kv => if kv.1 = k then (kv.1, d) else kv) (vs.map fun kv => if kv.1 = k then (kv.1, v) else kv)
  | _, _, .nil => .nil
  | _, _, .cons (x := x) q t => by
    rw [List.map_cons, List.map_cons]
    by_cases e : x = k
    · rw [if_pos e, if_pos e]; exact .cons r (RF.over r t)
    · rw [if_neg e, if_neg e]; exact .cons q (RF.over r t)
theorem RF.put {k : κ} {d : DV} {v : V} {kvs : List (κ × DV)} {vs : List (κ × V)} (h : RF K H kvs vs) (r : RD K H d v) : RF K H (putD kvs k d) (putK vs k v) := by
  unfold putD putK
  rw [h.any (p := fun x => decide (x = k))]
  split
  · exact h.over r
  · exact h.snoc r
theorem RF.val {k : κ} : ∀ {kvs : List (κ × DV)} {vs : List (κ × V)}, RF K H kvs vs → (getD kvs k = none ∧ valV vs k = none) ∨ ∃ d v, getD kvs k = some d ∧ valV vs k = some v ∧ RD K H d v
  | _, _, .nil => .inl ⟨rfl, rfl⟩
  | _, _, .cons (x := x) (d := d) (v := v) q t => by
    by_cases e : x = k
    · exact .inr ⟨d, v, by simp [getD, List.find?_cons, e], by simp [valV, List.find?_cons, e], q⟩
    · have e1 : ∀ fs : List (κ × DV), getD ((x, d) :: fs) k = getD fs k := fun fs => by simp [getD, List.find?_cons, e]
      have e2 : ∀ fs : List (κ × V), valV ((x, v) :: fs) k = valV fs k := fun fs => by simp [valV, List.find?_cons, e]
      rw [e1, e2]
      exact RF.val t
end
/-- an int or a text as a key -/
def keyD : Key → DV
  | .inl i => .int i
  | .inr z => .str z
section
variable {X : Cy} {P : Program} {w : World} {K : Fg} {mg : Str → Option Value} {base : Heap} {sc : Scope} {N L C Gs Bs L' C' Gs' : List Str} {k : Nat} {ρ ρ' : Ro} {M : Mm} {Q : DV → Mm → Prop} {R : Bool → Mm → Prop} {a b e kx vx iter : Expr} {scope : Scope} {x : Str} {i : Nat} {ms : List Bool} {pos px : Pos}
end
end G
namespace G
open PySem PySem.Spec PyProof.Rows L2
/-! ### defs that make lambdas -/
structure FunM (K : Fg) (x qual : Str) (st : Stmt) (f : Addr) (fd : FuncData) (c : Addr) : Prop where
  ex : ∃ (oc : Value) (od : Option Addr) (kV doc pm : Value) (an : Option Addr) (ct : Value) (osl : Array (Option Value)),
    fd = PySem.W.fnOf x qual (defArgs st) (defBody st) (defScope st) .none kV doc pm an (.ref c) ct ∧ K.lookup f = some ⟨oc, od, .func fd, osl⟩ ∧ PySem.W.codeIn K (.ref c) qual = true
  kp : PySem.W.keepIn K (.ref f) = true
theorem funm_mk {K : Fg} {x qual : Str} {st : Stmt} {f c : Addr} {oc : Value} {od an : Option Addr} {osl : Array (Option Value)} {kV doc pm ct : Value} (l : K.lookup f = some ⟨oc, od, .func (PySem.W.fnOf x qual (defArgs st) (defBody st) (defScope st) .none kV doc pm an (.ref c) ct), osl⟩)
    (hc : PySem.W.codeIn K (.ref c) qual = true) (k : PySem.W.keepIn K (.ref f) = true) : FunM K x qual st f (PySem.W.fnOf x qual (defArgs st) (defBody st) (defScope st) .none kV doc pm an (.ref c) ct) c := ⟨⟨oc, od, kV, doc, pm, an, ct, osl, rfl, l, hc⟩, k⟩
def FnTm (K : Fg) (mg : Str → Option Value) (x : Str) (st : Stmt) (ps : List Str) (c : Addr) : Prop := ∃ f fd, FunM K x x st f fd c ∧ mg x = some (.ref f) ∧ Binds K fd ps []
section
variable {P : Program} {w : World} {K : Fg} {mg : Str → Option Value} {base : Heap} {N L C Gs Bs : List Str} {k : Nat}
/-! ### the law's own def, with tables -/
/-- the tables at the law's entry: (code, table, name) -/
def tabM (cs : List (Addr × Addr × Str)) : Mm := cs.map fun p => (p.2.1, .tab p.2.2)
end
end G
namespace G
open PySem L2
/-! ### comprehensions of two names; max and min of three -/
section
variable {X : Cy} {P : Program} {w : World} {K : Fg} {mg : Str → Option Value} {base : Heap} {sc : Scope} {N L C Gs Bs L' C' Gs' : List Str} {k : Nat} {ρ ρ' : Ro} {M : Mm} {Q : DV → Mm → Prop} {elt iter e e2 e3 : Expr} {scope : Scope} {x y : Str} {i j kt : Nat} {ms : List Bool} {pos px py pt p : Pos}
end
end G
namespace G
open PySem L2
/-! ### x += e for ints; strings: startswith, join, one sign -/
section
variable {X : Cy} {P : Program} {w : World} {K : Fg} {mg : Str → Option Value} {base : Heap} {sc : Scope} {N L C Gs Bs : List Str} {k : Nat} {ρ ρ' : Ro} {M : Mm} {Q : DV → Mm → Prop} {e o : Expr} {x : Str} {pos apos p : Pos} {nx bk ct : Ro → Mm → Prop} {rt : DV → Mm → Prop}
/-! strings -/
end
end G
namespace G
open PySem L2
/-! ### names of built-in types and of whole numbers; isinstance; pop and extend of lists -/
class BtyC (x : Str) (T : outParam String) : Prop where
  h : bootBuiltins x = some (.type T)
instance : BtyC (Str.ofString "int") "int" := ⟨by decide +kernel⟩
instance : BtyC (Str.ofString "bool") "bool" := ⟨by decide +kernel⟩
instance : BtyC (Str.ofString "str") "str" := ⟨by decide +kernel⟩
instance : BtyC (Str.ofString "tuple") "tuple" := ⟨by decide +kernel⟩
/-- a name of the module that holds a whole number -/
class GInt (mg : Str → Option Value) (x : Str) (i : outParam Int) : Prop where
  h : ∃ t, mg x = some (.int i t)
class Isi (a T : String) (b : outParam Bool) : Prop where
  h : kitB a T = some b
instance : Isi "NoneType" "int" false := ⟨by decide +kernel⟩
instance : Isi "NoneType" "str" false := ⟨by decide +kernel⟩
instance : Isi "NoneType" "tuple" false := ⟨by decide +kernel⟩
instance : Isi "bool" "int" true := ⟨by decide +kernel⟩
instance : Isi "bool" "bool" true := ⟨by decide +kernel⟩
instance : Isi "bool" "str" false := ⟨by decide +kernel⟩
instance : Isi "bool" "tuple" false := ⟨by decide +kernel⟩
instance : Isi "int" "int" true := ⟨by decide +kernel⟩
instance : Isi "int" "bool" false := ⟨by decide +kernel⟩
instance : Isi "int" "str" false := ⟨by decide +kernel⟩
instance : Isi "int" "tuple" false := ⟨by decide +kernel⟩
instance : Isi "str" "int" false := ⟨by decide +kernel⟩
instance : Isi "str" "str" true := ⟨by decide +kernel⟩
instance : Isi "str" "tuple" false := ⟨by decide +kernel⟩
instance : Isi "tuple" "int" false := ⟨by decide +kernel⟩
instance : Isi "tuple" "str" false := ⟨by decide +kernel⟩
instance : Isi "tuple" "tuple" true := ⟨by decide +kernel⟩
instance : Isi "list" "int" false := ⟨by decide +kernel⟩
instance : Isi "list" "bool" false := ⟨by decide +kernel⟩
instance : Isi "list" "str" false := ⟨by decide +kernel⟩
instance : Isi "list" "tuple" false := ⟨by decide +kernel⟩
instance : Isi "dict" "int" false := ⟨by decide +kernel⟩
instance : Isi "dict" "bool" false := ⟨by decide +kernel⟩
instance : Isi "dict" "str" false := ⟨by decide +kernel⟩
instance : Isi "dict" "tuple" false := ⟨by decide +kernel⟩
/-- a value's built-in type -/
class TyD (M : Mm) (d : DV) (a : outParam String) : Prop where
  h : ∀ K v H, RD K H d v → RM K H M → TyX K H v (.type a)
instance {M : Mm} : TyD M .non "NoneType" := ⟨fun K v H r m => by cases r; exact .base .non⟩
instance {M : Mm} {b : Bool} : TyD M (.bl b) "bool" := ⟨fun K v H r m => by cases r; exact .base (.bl b)⟩
instance {M : Mm} {i : Int} : TyD M (.int i) "int" := ⟨fun K v H r m => by cases r; exact .base (.int i)⟩
instance {M : Mm} {x : Str} : TyD M (.str x) "str" := ⟨fun K v H r m => by cases r; exact .base (.str x)⟩
instance {M : Mm} {ds : List DV} : TyD M (.tup ds) "tuple" := ⟨fun K v H r m => by
  cases r with
  | tup s _ =>
    rcases s with (z | ⟨o, z⟩) | ⟨o, its, n, z, c, _⟩
    · exact .base (.tup z)
    · exact .fTuple z
    · exact .kTuple z c⟩
instance {M : Mm} {pa : Addr} {ds : List DV} : TyD M (.tupA pa ds) "tuple" := ⟨fun K v H r m => by
  cases r with
  | tupA s _ =>
    rcases s with (z | ⟨o, z⟩) | ⟨o, its, n, z, c, _⟩
    · exact .base (.tup z)
    · exact .fTuple z
    · exact .kTuple z c⟩
instance {M : Mm} {ds : List DV} {i : Nat} {p : Addr} [A : AtM M i p (.lst ds)] : TyD M (.ref p) "list" := ⟨fun K v H r m => by
  cases r
  obtain ⟨vs, e, _⟩ := m.at A.ix
  exact .base (.lst e)⟩
instance {M : Mm} {kvs : List (Key × DV)} {i : Nat} {p : Addr} [A : AtM M i p (.dk kvs)] : TyD M (.ref p) "dict" := ⟨fun K v H r m => by
  cases r
  obtain ⟨vs, e, _⟩ := m.at A.ix
  exact .base (.dK e)⟩
section
variable {X : Cy} {P : Program} {w : World} {K : Fg} {mg : Str → Option Value} {base : Heap} {sc : Scope} {N L C Gs Bs : List Str} {k : Nat} {ρ ρ' : Ro} {M : Mm} {Q : DV → Mm → Prop} {e e2 o : Expr} {x : Str} {pos apos p : Pos}
theorem we_bty {T : String} (F : Fx X P w K mg base sc N L C Gs Bs k) (hx : x ∈ Gs) (hx2 : x ∈ Bs) (hv : bootBuiltins x = some (.type T)) (q : Q (.ty T) M) : WE X ρ M (.Name x pos) Q := fun σ H rs m => by
  obtain ⟨g1, g2, g3⟩ := F.gl x hx
  exact wE.of (pe_bltn (v := .ty T) g1 (by rw [F.hmg]; exact F.bl x hx2) hv rfl g3 g2) ⟨.ty T, M, .ty T, m, Stay.refl, q⟩
theorem we_gint {i : Int} (F : Fx X P w K mg base sc N L C Gs Bs k) (hx : x ∈ Gs) (hv : ∃ t, mg x = some (.int i t)) (q : Q (.int i) M) : WE X ρ M (.Name x pos) Q := fun σ H rs m => by
  obtain ⟨g1, g2, g3⟩ := F.gl x hx
  obtain ⟨t, ht⟩ := hv
  exact wE.of (pe_glob (v := .int i) g1 (by rw [F.hmg]; exact ht) ⟨t, rfl⟩ g2) ⟨.int i, M, .int i, m, Stay.refl, q⟩
instance (priority := low) {T : String} [F : Fx X P w K mg base sc N L C Gs Bs k] [B : BtyC x T] [m1 : MemC x Gs] [m2 : MemC x Bs] : Step (WE X ρ M (.Name x pos) Q) true (Q (.ty T) M) := ⟨fun _ q => we_bty F m1.h m2.h B.h q⟩
instance (priority := low) {i : Int} [F : Fx X P w K mg base sc N L C Gs Bs k] [B : GInt mg x i] [m1 : MemC x Gs] : Step (WE X ρ M (.Name x pos) Q) true (Q (.int i) M) := ⟨fun _ q => we_gint F m1.h B.h q⟩
instance {d : DV} {a T : String} {b : Bool} [t : TyD M d a] [i : Isi a T b] : Step (CD K (rIsi K) [d, .ty T] M Q) true (Q (.bl b) M) := ⟨fun _ q vs H r m => by
  cases r with
  | cons r1 r =>
    cases r with
    | cons r2 r =>
      cases r; cases r2
      exact ⟨_, _, _, _, b, rfl, .ty T, t.h K _ H r1 m, i.h, .bl b, M, .bl b, m, Stay.refl, q⟩⟩
/-! l.pop() and l.extend(l2) -/
theorem we_bm0 {T id : String} {name : Str} {r : V → List V → Hp → VK → Prop} (pa : PlainAttrs T) (slot : Slot T name id) (hty : typeOf (.builtin id) = pure (.type "method_descriptor")) (hm : MtR X id r) (mr : ∀ x xs H Q Q', r x xs H Q → (∀ v H', Q v H' → Q' v H') → r x xs H Q')
    (ho : notCall o = true) (hl : (apos.endLine == pos.line) = true)
    (h : WE X ρ M o fun x M1 => (∀ v H, RD X.K H x v → RM X.K H M1 → tyV X.K T v H) ∧ ∀ v H, RD X.K H x v → RM X.K H M1 → r v [] H (LE X.K H Q)) : WE X ρ M (.Call (.Attribute o name apos) [] [] pos) Q := fun σ H rs m => by
  refine wE.of (pe_bm0 pa slot hty hm pe_w (attrBase ho) hl) ?_
  refine (h σ H rs m).mono fun v H1 ⟨x, M1, k1, k2, k3, k4, k5⟩ => ⟨k4 v H1 k1 k2, ?_⟩
  exact mr _ _ _ _ _ (k5 v H1 k1 k2) fun _ _ z => z.stay k3
def PopL (M : Mm) (x : DV) (S : DV → Mm → Prop) : Prop := ∃ p i ds d, x = .ref p ∧ AtM M i p (.lst ds) ∧ ds[ds.length - 1]? = some d ∧ S d (M.set i (p, .lst ds.dropLast))
theorem we_pop (ho : notCall o = true) (hl : (apos.endLine == pos.line) = true) (h : WE X ρ M o fun x M1 => PopL M1 x Q) : WE X ρ M (.Call (.Attribute o "pop" apos) [] [] pos) Q := by
  refine we_bm0 PySem.F.plainAttrs_list PySem.F.slot_list_pop PySem.F.type_list_pop mt_pop (fun x xs H Q Q' ⟨l, ys, y, a, b, c, d, z⟩ q => ⟨l, ys, y, a, b, c, d, q _ _ z⟩) ho hl ?_
  refine h.mono fun x M1 ⟨p, i, ds, d, h1, h2, h3, h4⟩ => ⟨fun v H r m => ?_, fun v H r m => ?_⟩
  · subst h1
    cases r
    obtain ⟨vs, e1, _⟩ := m.at h2.ix
    exact .inl ⟨rfl, vs, SqL.of e1⟩
  · subst h1
    cases r
    obtain ⟨vs, e1, rr⟩ := m.at h2.ix
    obtain ⟨u, eu, ru⟩ := rr.get h3
    have mu : Wr H p := wr_lst e1
    have st : Stay X.K H (upd H p (.lst vs.dropLast)) := Stay.write mu
    exact ⟨p, vs, u, rfl, rfl, e1, by rw [← rr.length]; exact eu, d, _, ru.mono st, m.write (q' := .lst ds.dropLast) h2.ix mu ⟨_, upd_same, (RDs.dropLast rr).mono st⟩, st, h4⟩
instance {p : Addr} {i : Nat} {ds : List DV} {S : DV → Mm → Prop} [A : AtM M i p (.lst ds)] : Step (PopL M (.ref p) S) true (∃ d, ds[ds.length - 1]? = some d ∧ S d (M.set i (p, .lst ds.dropLast))) := ⟨fun _ ⟨d, h1, h2⟩ => ⟨p, i, ds, d, rfl, A, h1, h2⟩⟩
instance : Step (WE X ρ M (.Call (.Attribute o (Str.ofString "pop") apos) [] [] pos) Q) (notCall o && (apos.endLine == pos.line)) (WE X ρ M o fun x M1 => PopL M1 x Q) := ⟨fun h q => by
  simp only [Bool.and_eq_true] at h
  exact we_pop h.1 h.2 q⟩
def ExtL (M : Mm) (x d : DV) (S : Mm → Prop) : Prop := ∃ p i ds q j es, x = .ref p ∧ d = .ref q ∧ AtM M i p (.lst ds) ∧ AtM M j q (.lst es) ∧ ds.length + es.length ≤ sizeLine ∧ S (M.set i (p, .lst (ds ++ es)))
theorem we_extend (ho : notCall o = true) (hs : noStars [e] = true) (hl : (apos.endLine == pos.line) = true)
    (h : WE X ρ M o fun x M1 => (∃ D j acc, x = .ref D ∧ AtM M1 j D (.lst acc)) ∧ WE X ρ M1 e fun d M2 => ExtL M2 x d (Q .non)) : WE X ρ M (.Call (.Attribute o "extend" apos) [e] [] pos) Q := by
  refine we_bm PySem.F.plainAttrs_list PySem.F.slot_list_extend PySem.F.type_list_extend mt_extend (fun x xs H Q Q' ⟨l, b, ys, y, a, b1, c, d, f, z⟩ q => ⟨l, b, ys, y, a, b1, c, d, f, q _ _ z⟩) ho hs (by simp) hl ?_
  refine h.mono fun x M1 ⟨⟨D, j, acc, h1, h2⟩, h3⟩ => ⟨fun v H r m => ?_, ?_⟩
  · subst h1
    cases r
    obtain ⟨vs, e1, _⟩ := m.at h2.ix
    exact .inl ⟨rfl, vs, SqL.of e1⟩
  · refine wa_cons' (noStars_cons hs).1 (h3.mono fun d M2 q => wa_nil fun v vs H r rs m => ?_)
    obtain ⟨p, i, ds, q, j', es, e1, e2, e3, e4, e5, e6⟩ := q
    subst e1 e2
    cases r
    cases rs with
    | cons r1 rr =>
      cases rr
      cases r1
      obtain ⟨us, g1, g2⟩ := m.at e3.ix
      obtain ⟨ws, f1, f2⟩ := m.at e4.ix
      have mu : Wr H p := wr_lst g1
      have st : Stay X.K H (upd H p (.lst (us ++ ws))) := Stay.write mu
      exact ⟨p, q, us, ws, rfl, rfl, g1, f1, by rw [← g2.length, ← f2.length]; exact e5, .non, _, .non, m.write (q' := .lst (ds ++ es)) e3.ix mu ⟨_, upd_same, (g2.append f2).mono st⟩, st, e6⟩
instance {p q : Addr} {i j : Nat} {ds es : List DV} {S : Mm → Prop} [A : AtM M i p (.lst ds)] [B : AtM M j q (.lst es)] : Step (ExtL M (.ref p) (.ref q) S) true (Side (ds.length + es.length ≤ sizeLine) (S (M.set i (p, .lst (ds ++ es))))) := ⟨fun _ h => ⟨p, i, ds, q, j, es, rfl, rfl, A, B, h.a, h.b⟩⟩
instance : Step (WE X ρ M (.Call (.Attribute o (Str.ofString "extend") apos) [e] [] pos) Q) (notCall o && noStars [e] && (apos.endLine == pos.line)) (WE X ρ M o fun x M1 => Side (∃ D j acc, x = .ref D ∧ AtM M1 j D (.lst acc)) (WE X ρ M1 e fun d M2 => ExtL M2 x d (Q .non))) := ⟨fun h q => by
  simp only [Bool.and_eq_true] at h
  exact we_extend h.1.1 h.1.2 h.2 (q.mono fun _ _ z => ⟨z.a, z.b⟩)⟩
end
end G
namespace G
open PySem L2
/-! ### things that are neither tuples nor texts nor numbers -/
def OddR (K : Fg) (M : Mm) (p : Addr) : Prop := ∀ T, T ∈ ["tuple", "int", "bool", "str"] → ∀ H, RM K H M → ∃ t, TyX K H (.ref p) t ∧ PySem.W.kitOne K t (.type T) = some false
class OddC (K : Fg) (M : Mm) (p : Addr) : Prop where
  h : OddR K M p
theorem OddR.less {K : Fg} {M0 M : Mm} {p : Addr} (h : OddR K M0 p) (s : M0.Sublist M) : OddR K M p := fun T hT H m => h T hT H (m.less s)
instance {K : Fg} {M : Mm} {p : Addr} {x : Addr × MO} [h : OddC K M p] : OddC K (x :: M) p := ⟨h.h.less (List.Sublist.cons _ (List.Sublist.refl _))⟩
theorem odd_lst {K : Fg} {M : Mm} {p : Addr} {i : Nat} {ds : List DV} (A : AtM M i p (.lst ds)) : OddR K M p := fun T hT H m => by
  refine ⟨_, TyD.h (M := M) (d := .ref p) (a := "list") K _ H (.ref p) m, ?_⟩
  rcases List.mem_cons.mp hT with rfl | hT
  · exact kit_ty (Isi.h (a := "list"))
  rcases List.mem_cons.mp hT with rfl | hT
  · exact kit_ty (Isi.h (a := "list"))
  rcases List.mem_cons.mp hT with rfl | hT
  · exact kit_ty (Isi.h (a := "list"))
  · rw [List.mem_singleton.mp hT]
    exact kit_ty (Isi.h (a := "list"))
theorem odd_dk {K : Fg} {M : Mm} {p : Addr} {i : Nat} {ds : List (Key × DV)} (A : AtM M i p (.dk ds)) : OddR K M p := fun T hT H m => by
  refine ⟨_, TyD.h (M := M) (d := .ref p) (a := "dict") K _ H (.ref p) m, ?_⟩
  rcases List.mem_cons.mp hT with rfl | hT
  · exact kit_ty (Isi.h (a := "dict"))
  rcases List.mem_cons.mp hT with rfl | hT
  · exact kit_ty (Isi.h (a := "dict"))
  rcases List.mem_cons.mp hT with rfl | hT
  · exact kit_ty (Isi.h (a := "dict"))
  · rw [List.mem_singleton.mp hT]
    exact kit_ty (Isi.h (a := "dict"))
section
variable {K : Fg} {M : Mm} {Q : DV → Mm → Prop} {p : Addr} {T : String}
theorem odd_isi (h : OddR K M p) (hT : T ∈ ["tuple", "int", "bool", "str"]) (q : Q (.bl false) M) : CD K (rIsi K) [.ref p, .ty T] M Q := fun vs H r m => by
  cases r with
  | cons r1 r =>
    cases r with
    | cons r2 r =>
      cases r; cases r2; cases r1
      obtain ⟨t, h1, h2⟩ := h T hT H m
      exact ⟨_, _, _, _, false, rfl, .ty T, h1, h2, .bl false, M, .bl false, m, Stay.refl, q⟩
instance [h : OddC K M p] : Step (CD K (rIsi K) [.ref p, .ty "tuple"] M Q) true (Q (.bl false) M) := ⟨fun _ q => odd_isi h.h (by simp) q⟩
instance [h : OddC K M p] : Step (CD K (rIsi K) [.ref p, .ty "int"] M Q) true (Q (.bl false) M) := ⟨fun _ q => odd_isi h.h (by simp) q⟩
instance [h : OddC K M p] : Step (CD K (rIsi K) [.ref p, .ty "str"] M Q) true (Q (.bl false) M) := ⟨fun _ q => odd_isi h.h (by simp) q⟩
end
/-- a value of which isinstance can tell all -/
inductive Kn (K : Fg) (M : Mm) : DV → Prop
  | non : Kn K M .non
  | bl (b : Bool) : Kn K M (.bl b)
  | int (i : Int) : Kn K M (.int i)
  | str (x : Str) : Kn K M (.str x)
  | tup {ds : List DV} : (∀ d ∈ ds, Kn K M d) → Kn K M (.tup ds)
  | ref {p : Addr} : OddR K M p → Kn K M (.ref p)
  | tupA {a : Addr} {ds : List DV} : Kn K M (.tupA a ds)
end G
namespace G
open PySem L2 PyProof.Rows
/-! ### texts and tuples times a number -/
def repS (a : Str) (n : Int) : Str := if n < 1 then Str.empty else if (n == 1 || a.length == 0) = true then a else ⟨(List.replicate n.toNat a.cps).foldl (· ++ ·) #[]⟩
def rMulS : R2 := fun x y H Q => ∃ a n, x = .str a ∧ y = .int n ∧ 0 ≤ n ∧ n ≤ 1000 ∧ a.length ≤ 1000 ∧ (repS a n).length ≤ 1000000 ∧ Q (.str (repS a n)) H
theorem op_mulS {X : Cx} : OpR X (binaryOp .Mult) rMulS := by
  intro pins s σ H x y v u Q I rx ry h
  obtain ⟨a, n, rfl, rfl, h0, h1, h2, h3, q⟩ := h
  obtain ⟨t, rfl⟩ := rx
  obtain ⟨t', rfl⟩ := ry
  have hm : a.length * n.toNat ≤ 1000 * 1000 := Nat.mul_le_mul h2 (by omega)
  refine PySem.P.mul_str ?_ (fun h4 _ => ?_) (fun _ _ => ?_) ?_
  · rw [decide_eq_false (by omega), decide_eq_false (by omega)]; rfl
  · have : 1000 ≤ (2 ^ 63 - 1) / n := Int.le_ediv_of_mul_le (by omega) (by omega)
    omega
  · unfold PySem.Builtin.Str.tooLong
    rw [sizeLine_eq]
    exact decide_eq_false (by omega)
  · unfold repS at q h3
    by_cases c1 : n < 1
    · rw [if_pos c1] at q ⊢
      exact ⟨by decide, .str _, H, I.tok _, ⟨_, rfl⟩, q⟩
    · rw [if_neg c1] at q h3 ⊢
      by_cases c2 : (n == 1 || a.length == 0) = true
      · rw [if_pos c2] at q ⊢
        exact ⟨.str _, H, I, ⟨_, rfl⟩, q⟩
      · rw [if_neg c2] at q h3 ⊢
        refine ⟨?_, .str _, H, I.tok _, ⟨_, rfl⟩, q⟩
        rw [sizeLine_eq]
        omega
/-- a tuple, some thousand times -/
def rMulT (K : Fg) : R2 := fun x y H Q => ∃ p n vs, x = .ref p ∧ y = .int n ∧ SqT K H p vs ∧ 0 < vs.length ∧ vs.length ≤ 100 ∧ 2 ≤ n ∧ n ≤ 5000 ∧ ∀ z, H z = none → Q (.ref z) (upd H z (.tup (List.replicate n.toNat vs).flatten))
theorem op_mulT {X : Cx} : OpR X (binaryOp .Mult) (rMulT X.K) := by
  intro pins s σ H x y v u Q I rx ry h
  obtain ⟨p, n, vs, rfl, rfl, sq, l0, l1, n0, n1, q⟩ := h
  cases rx
  obtain ⟨tk, rfl⟩ := ry
  obtain ⟨us, rel, ⟨⟨cl, dc, dt, slo⟩, ob, eC, m, eD⟩, hsz⟩ := I.tuple sq
  simp only at eC eD
  subst eC eD
  have le : us.length = vs.length := rel.length.symm
  have ls : us.toArray.size = vs.length := by rw [List.size_toArray, le]
  have pr : ((us.toArray.size : Nat) : Int) * n ≤ 100 * n := by
    rw [ls]
    exact Int.mul_le_mul_of_nonneg_right (by omega) (by omega)
  have pn : n.toNat * vs.length ≤ 5000 * 100 := Nat.mul_le_mul (by omega) l1
  have em : us.toArray.isEmpty = false := by
    cases us with
    | nil => exact absurd l0 (by rw [← le]; exact Nat.lt_irrefl 0)
    | cons a b => rfl
  have ll : (List.replicate n.toNat us).flatten.length ≤ sizeLine := by
    rw [PyProof.Rows.lm_len_rep_flat, le, sizeLine_eq]
    omega
  have d0 : (decide (n < -(2 ^ 63)) || decide (n ≥ 2 ^ 63)) = false := by
    rw [Bool.or_eq_false_iff]
    exact ⟨decide_eq_false (by omega), decide_eq_false (by omega)⟩
  have d1 : (us.toArray.isEmpty || n == 1) = false := by
    rw [Bool.or_eq_false_iff]
    exact ⟨em, beq_eq_false_iff_ne.mpr (by omega)⟩
  have d2 : (decide (n ≤ 0) || us.toArray.isEmpty) = false := by
    rw [Bool.or_eq_false_iff]
    exact ⟨decide_eq_false (by omega), em⟩
  have d4 : Builtin.Tuple.tupleTooMany (((us.toArray.size : Nat) : Int) * n) = false := by unfold Builtin.Tuple.tupleTooMany; rw [sizeLine_eq]; exact decide_eq_false (by omega)
  have mt := tuple_mulW p us.toArray m dc slo n tk d0 d1 d2 (by omega) d4 (by rw [size_rep, List.size_toArray]; exact ll)
  have it := int_rmul_tuple n tk p us.toArray m dc slo
  refine wpAny_binaryOp_repeat_ref (T := "tuple") (U := "int") (by decide) ⟨_, ob, rfl⟩ (fun s' => typeIs_int s' n tk) noFill_tuple_mul PySem.F.fills_int_mul PySem.F.slot_int_rmul repeat_tuple PySem.F.slot_int_index.lookup ?_
  refine call_meets PySem.F.slot_int_rmul (typeIs_int s n tk) PySem.F.entry_int_rmul (PySem.F.args_int_rmul_2 _ _) it ⟨ob, rfl, ⟨_, ob, rfl⟩, ?_⟩
  refine call_meets PySem.F.slot_tuple_mul ⟨_, ob, rfl⟩ PySem.F.entry_tuple_mul (PySem.F.args_tuple_mul_2 _ _) mt ⟨ob, ?_⟩
  rw [size_rep]
  refine ⟨.ref s.heap.objs.size, _, I.laid (t' := s.toks) (o := .tup (List.replicate n.toNat vs).flatten) (fun b ob q => Heap.get?_push_of_some _ q) (Nat.le_refl _) ?_, rfl, q _ (I.hok.fresh (Nat.le_refl _))⟩
  refine ⟨?_, _, rel.rep n.toNat, IsTup.new _ _⟩
  rw [PyProof.Rows.lm_len_rep_flat, sizeLine_eq]
  omega
section
variable {X : Cy} {P : Program} {w : World} {K : Fg} {ρ : Ro} {M : Mm} {Q : DV → Mm → Prop} {a b : Expr} {pos : Pos}
def rMul4 (K : Fg) : R2 := fun x y H Q => rMul3 x y H Q ∨ (rMulS x y H Q ∨ rMulT K x y H Q)
theorem mon_mulS : MonR rMulS := fun x y H Q Q' ⟨a, n, h1, h2, h3, h4, h5, h6, h7⟩ q => ⟨a, n, h1, h2, h3, h4, h5, h6, q _ _ h7⟩
theorem mon_mulT : MonR (rMulT K) := fun x y H Q Q' ⟨p, n, vs, h1, h2, h3, h4, h5, h6, h7, h8⟩ q => ⟨p, n, vs, h1, h2, h3, h4, h5, h6, h7, fun z hz => q _ _ (h8 z hz)⟩
instance {i j : Int} : Step (R2D K (rMul4 K) (.int i) (.int j) M Q) true (Side (CMul i j ∨ CMulW i j) (Q (.int (i * j)) M)) := ⟨fun _ q => R2D.l (v_mul_i q.a q.b)⟩
theorem RDs.rep {H : Hp} {ds : List DV} {vs : List V} (r : RDs K H ds vs) : ∀ n : Nat, RDs K H (List.replicate n ds).flatten (List.replicate n vs).flatten
  | 0 => .nil
  | n + 1 => by
    rw [List.replicate_succ, List.replicate_succ, List.flatten_cons, List.flatten_cons]
    exact r.append (RDs.rep r n)
instance {ds : List DV} {n : Int} : Step (R2D K (rMul4 K) (.tup ds) (.int n) M Q) true (Side (0 < ds.length ∧ ds.length ≤ 100 ∧ 2 ≤ n ∧ n ≤ 5000) (Q (.tup (List.replicate n.toNat ds).flatten) M)) := ⟨fun _ q => R2D.r (R2D.r fun vx vy H h1 h2 m => by
  cases h2
  cases h1 with
  | tup s r =>
    refine ⟨_, n, _, rfl, rfl, s, by rw [← r.length]; exact q.a.1, by rw [← r.length]; exact q.a.2.1, q.a.2.2.1, q.a.2.2.2, fun z hz => ?_⟩
    exact ⟨.tup _, M, .tup (SqT.of upd_same) ((RDs.rep r n.toNat).mono (Stay.new hz)), m.new hz, Stay.new hz, q.b⟩)⟩
end
end G
namespace G
open PySem L2
/-! ### fields of objects; empty dicts -/
section
variable {X : Cy} {P : Program} {w : World} {K : Fg} {mg : Str → Option Value} {base : Heap} {sc : Scope} {N L C Gs Bs : List Str} {k : Nat} {ρ ρ' : Ro} {M : Mm} {Q : DV → Mm → Prop} {e o : Expr} {f : Str} {pos apos p : Pos} {nx bk ct : Ro → Mm → Prop} {rt : DV → Mm → Prop}
/-- a class whose objects may have the field f -/
class FldC (K : Fg) (C : Addr) (f : Str) : Prop where
  cl : Cls K C
  no : NoAttr K C f
theorem we_dict0 (h : ∀ q, Q (.ref q) ((q, .dk []) :: M)) : WE X ρ M (.Dict [] [] pos) Q := fun σ H rs m => by
  refine wE.of pe_dnewK fun q hq => ?_
  exact ⟨.ref q, _, .ref q, m.cons (q := .dk []) hq ⟨[], upd_same, .nil⟩, Stay.new hq, h q⟩
instance : Step (WE X ρ M (.Dict [] [] pos) Q) true (∀ q, Q (.ref q) ((q, .dk []) :: M)) := ⟨fun _ q => we_dict0 q⟩
/-- a field put -/
def putFD (f : Str) (d : DV) : List (Str × DV) → List (Str × DV)
  | [] => [(f, d)]
  | (g, x) :: r => if g = f then (g, d) :: r else (g, x) :: putFD f d r
theorem RF.putF {H : Hp} {d : DV} {v : V} (r : RD K H d v) : ∀ {fs : List (Str × DV)} {gs : List (Str × V)}, RF K H fs gs → RF K H (putFD f d fs) (L2.putF f v gs)
  | _, _, .nil => .cons r .nil
  | _, _, .cons (x := x) r1 t => by
    show RF K H (if x = f then _ else _) (if x = f then _ else _)
    by_cases h : x = f
    · rw [if_pos h, if_pos h]
      exact .cons r t
    · rw [if_neg h, if_neg h]
      exact .cons r1 (RF.putF r t)
def SetF (K : Fg) (M : Mm) (x : DV) (f : Str) (d : DV) (S : Mm → Prop) : Prop := ∃ a i Cc fs, x = .ref a ∧ AtM M i a (.ins Cc fs) ∧ FldC K Cc f ∧ fs.length < 1000 ∧ S (M.set i (a, .ins Cc (putFD f d fs)))
theorem ws_setF (F : Fx X P w K mg base sc N L C Gs Bs k) (hn : notComp e = true) (h : WE X ρ M e fun d M1 => WE X ρ M1 o fun x M2 => SetF K M2 x f d (nx ρ)) : WS X ρ M (.Assign [.Attribute o f apos] e pos) nx rt bk ct := fun σ H rs m => by
  refine wS.of (ps_fld pe_w pe_w (by cases e <;> first | rfl | exact Bool.noConfusion hn)) ?_
  refine (h σ H rs m).mono fun v H1 ⟨d, M1, h1, h2, h3, h4⟩ => ?_
  refine (h4 σ H1 (rs.mono h3) h2).mono fun u H2 ⟨x, M2, g1, g2, g3, a, i, Cc, fs, e1, e2, e3, e4, e5⟩ => ?_
  subst e1
  cases g1
  obtain ⟨dx, gs, f1, f2⟩ := g2.at e2.ix
  have mu : Wr H2 a := wr_ins f1
  have st : Stay X.K H2 (upd H2 a (.ins Cc dx (L2.putF f v gs))) := Stay.write mu
  refine ⟨a, Cc, dx, gs, rfl, f1, by rw [F.hK]; exact e3.cl, by rw [F.hK]; exact e3.no, by rw [← f2.len]; exact e4, ?_⟩
  exact ⟨ρ, _, ((rs.mono h3).mono g3).mono st, g2.write (q' := .ins Cc (putFD f d fs)) e2.ix mu ⟨dx, _, upd_same, (f2.mono st).putF ((h1.mono g3).mono st)⟩, (h3.trans g3).trans st, e5⟩
instance {a : Addr} {i : Nat} {Cc : Addr} {fs : List (Str × DV)} {d : DV} {S : Mm → Prop} [A : AtM M i a (.ins Cc fs)] [E : FldC K Cc f] : Step (SetF K M (.ref a) f d S) true (Side (fs.length < 1000) (S (M.set i (a, .ins Cc (putFD f d fs))))) := ⟨fun _ q => ⟨a, i, Cc, fs, rfl, A, E, q.a, q.b⟩⟩
instance [F : Fx X P w K mg base sc N L C Gs Bs k] : Step (WS X ρ M (.Assign [.Attribute o f apos] e pos) nx rt bk ct) (notComp e) (WE X ρ M e fun d M1 => WE X ρ M1 o fun x M2 => SetF K M2 x f d (nx ρ)) := ⟨fun h q => ws_setF F h q⟩
end
end G
namespace G
open PySem L2
/-! ### defs with defaults; classes with their own __init__ -/
structure FunD (K : Fg) (x qual : Str) (st : Stmt) (f : Addr) (fd : FuncData) (dV : Value) : Prop where
  ex : ∃ (oc : Value) (od : Option Addr) (kV doc pm : Value) (an : Option Addr) (cdv ct : Value) (osl : Array (Option Value)),
    fd = PySem.W.fnOf x qual (defArgs st) (defBody st) (defScope st) dV kV doc pm an cdv ct ∧ K.lookup f = some ⟨oc, od, .func fd, osl⟩ ∧ PySem.W.codeIn K cdv qual = true
  kp : PySem.W.keepIn K (.ref f) = true
theorem fund_mk {K : Fg} {x qual : Str} {st : Stmt} {f : Addr} {oc : Value} {od an : Option Addr} {osl : Array (Option Value)} {dV kV doc pm cdv ct : Value} (l : K.lookup f = some ⟨oc, od, .func (PySem.W.fnOf x qual (defArgs st) (defBody st) (defScope st) dV kV doc pm an cdv ct), osl⟩)
    (hc : PySem.W.codeIn K cdv qual = true) (k : PySem.W.keepIn K (.ref f) = true) : FunD K x qual st f (PySem.W.fnOf x qual (defArgs st) (defBody st) (defScope st) dV kV doc pm an cdv ct) dV := ⟨⟨oc, od, kV, doc, pm, an, cdv, ct, osl, rfl, l, hc⟩, k⟩
section
variable {P : Program} {w : World} {K : Fg} {mg : Str → Option Value} {base : Heap} {N L C Gs Bs : List Str} {k : Nat}
theorem fn_okD {x qual : Str} {st : Stmt} {f : Addr} {fd : FuncData} {dV : Value} {ps : List Str} {sp : SpD} (F : FunD K x qual st f fd dV) (S : FnScope N ps (defScope st)) (hst : stat (defScope st) N L C Gs = true) (hb : ∀ x ∈ Bs, mg x = none)
    (h : ∀ X, Fx X P w K mg base (defScope st) N L C Gs Bs k → ∀ ds M Q, ds.length = ps.length → sp ds M Q → WSs X (ini N ds) M (defBody st) (fun _ M' => Sub (Q .non) M') (fun d M' => Sub (Q d) M') (fun _ _ => False) (fun _ _ => False)) :
    FnOk P w K mg base CX0 (k + 1) f fd ps (sp1 K ps.length sp) := by
  have T := stat_ok hst
  obtain ⟨oc, od, kV, doc, pm, an, cdv, ct, osl, rfl, lk, hcd⟩ := F.ex
  refine fn_of lk hcd S (fun vs H Q E ⟨ds, M, Q0, h1, h2, h3, _⟩ => by rw [← h1.length]; exact h3) fun A outer s H vs Q E hr ⟨ds, M, Q0, h1, h2, h3, h4, h5⟩ => ?_
  refine ⟨_, PSs.nox pss_w, ?_⟩
  have hps : ps.length ≤ N.length := by have := congrArg List.length S.pre; rw [List.length_take] at this; omega
  have FX : Fx ⟨(cxOf CX0 P w K mg base N qual (defScope st) f cdv A outer s H E).nox, H⟩ P w K mg base (defScope st) N L C Gs Bs k :=
    ⟨rfl, rfl, rfl, rfl, rfl, rfl, rfl, T.nd, T.loc, fun x hx => ⟨T.cel x hx, rfl⟩, T.kind, T.nob, T.gl, hb, rfl, hr, PassesOwn.never⟩
  have W := h _ FX ds M Q0 h3 h4
  rw [ini_eq N ds (by rw [h3]; exact hps)] at W
  refine (W (start N vs) H (RS.start (X := ⟨(cxOf CX0 P w K mg base N qual (defScope st) f cdv A outer s H E).nox, H⟩) Stay.refl (by rw [h3]; exact hps) (fun i y hi hy => ?_) h1) h2).mono (fun σ' H' ⟨ρ', M', q1, q2, q3, M0, q4, q5⟩ => ?_) (fun v H' ⟨d, M', q1, q2, q3, M0, q4, q5⟩ => ?_) (fun _ _ ⟨_, _, _, _, _, q⟩ => q) (fun _ _ ⟨_, _, _, _, _, q⟩ => q)
  · have hp : ps[i]? = some y := by
      rw [← S.pre, List.getElem?_take_of_lt (by rw [← h3]; exact hi)]
      exact hy
    rcases S.par y (List.mem_of_getElem? hp) with z | z
    · exact .inl z
    · exact .inr (.inl z)
  · exact h5 _ _ q5 _ _ .non (q2.less q4) q3
  · exact h5 _ _ q5 _ _ q1 (q2.less q4) q3
end
section
variable {X : Cy} {P : Program} {w : World} {K : Fg} {mg : Str → Option Value} {base : Heap} {sc : Scope} {N L C Gs Bs : List Str} {k j n : Nat} {ρ : Ro} {M : Mm} {Q : DV → Mm → Prop} {e : Expr} {es : List Expr} {pos p : Pos} {x : Str} {sp : SpD} {Cc : Addr} {dd : List DV}
theorem sp_made {H : Hp} {q dx : Addr} {ds : List DV} {vs : List V} (m : RM K H M) (hq : H q = none) (hd : H dx = none) (hne : dx ≠ q) (r : RDs K H ds vs) (h : sp (.ref q :: ds) ((q, .ins Cc []) :: M) fun d M' => d = .non ∧ Q (.ref q) M') (hl : 1 + ds.length = n) :
    sp1 K n sp (.ref q :: vs) (upd (upd H dx (.own q)) q (.ins Cc dx [])) (fun v H2 => v = .non ∧ LE K H Q (.ref q) H2) E := by
  have s1 : Stay K H (upd H dx (.own q)) := Stay.new hd
  have hq' : upd H dx (.own q) q = none := by rw [upd_ne (Ne.symm hne)]; exact hq
  have s2 : Stay K (upd H dx (.own q)) (upd (upd H dx (.own q)) q (.ins Cc dx [])) := Stay.new hq'
  refine ⟨.ref q :: ds, (q, .ins Cc []) :: M, _, .cons (.ref q) (r.mono (s1.trans s2)), (m.new hd).cons hq' ⟨_, [], upd_same, .nil⟩, by rw [List.length_cons]; omega, h, fun d M' z v H' r1 r2 r3 => ?_⟩
  obtain ⟨z1, z2⟩ := z
  subst z1
  cases r1
  exact ⟨rfl, .ref q, M', .ref q, r2, (s1.trans s2).trans r3, z2⟩
end
end G
namespace G
open PySem L2
/-! ### {k: v} -/
section
variable {X : Cy} {ρ : Ro} {M : Mm} {Q : DV → Mm → Prop} {kx vx : Expr} {pos : Pos}
end
end G
namespace G
open PySem L2
/-! ### exceptions: what leaves a body -/
abbrev EX := Addr → List (Str × DV) → Ro → Mm → Prop
/-- an exception of the class at C whose fields are fs, at the slots ρ -/
def XD (K : Fg) (H : Hp) (d : Option Addr) (fs : List (Str × DV)) : Prop := (d = none ∧ fs = []) ∨ ∃ dd gs, d = some dd ∧ H dd = some (.xd gs) ∧ RF K H fs gs
def LX (X : Cy) (E : EX) : WX := fun cls d σ H => ∃ C fs ρ M, cls = .ref C ∧ XD X.K H d fs ∧ RS X H ρ σ ∧ RM X.K H M ∧ E C fs ρ M
class Tk (X : Cy) (E : outParam EX) : Prop where
  tk : Takes X.toCx (LX X E)
theorem Tk.none {X : Cy} : Tk X (fun _ _ _ _ => False) := ⟨fun _ _ x => by
  obtain ⟨_, _, _, _, _, _, _, _, _, _, _, _, _, _, _, _, z⟩ := x
  obtain ⟨_, _, _, _, _, _, _, _, z⟩ := z
  exact z.elim⟩
/-- a promise with a way out -/
abbrev SpX := List DV → Mm → (DV → Mm → Prop) → (Addr → List (Str × DV) → Mm → Prop) → Prop
def sp1X (K : Fg) (n : Nat) (sp : SpX) : Sp := fun vs H Q E => ∃ ds M Q0 E0, RDs K H ds vs ∧ RM K H M ∧ ds.length = n ∧ sp ds M Q0 E0 ∧ (∀ d M', Q0 d M' → ∀ v H', RD K H' d v → RM K H' M' → Stay K H H' → Q v H') ∧
  ∀ C fs M', E0 C fs M' → ∀ de H', XD K H' de fs → RM K H' M' → Stay K H H' → E (.ref C) de H'
section
variable {P : Program} {w : World} {K : Fg} {mg : Str → Option Value} {base : Heap} {N L C Gs Bs : List Str} {k : Nat}
theorem fn_okDX {x qual : Str} {st : Stmt} {f : Addr} {fd : FuncData} {dV : Value} {ps : List Str} {sp : SpX} (F : FunD K x qual st f fd dV) (S : FnScope N ps (defScope st)) (hst : stat (defScope st) N L C Gs = true) (hb : ∀ x ∈ Bs, mg x = none)
    (h : ∀ X, Fx X P w K mg base (defScope st) N L C Gs Bs k → ∀ ds M Q E, ds.length = ps.length → sp ds M Q E → Tk X (fun Cc fs _ M' => Sub (E Cc fs) M') → WSs X (ini N ds) M (defBody st) (fun _ M' => Sub (Q .non) M') (fun d M' => Sub (Q d) M') (fun _ _ => False) (fun _ _ => False)) :
    FnOk P w K mg base (L2.CX P w) (k + 1) f fd ps (sp1X K ps.length sp) := by
  have T := stat_ok hst
  obtain ⟨oc, od, kV, doc, pm, an, cdv, ct, osl, rfl, lk, hcd⟩ := F.ex
  refine fn_of lk hcd S (fun vs H Q E ⟨ds, M, Q0, E0, h1, h2, h3, _⟩ => by rw [← h1.length]; exact h3) fun A outer s H vs Q E hr ⟨ds, M, Q0, E0, h1, h2, h3, h4, h5, h6⟩ => ?_
  refine ⟨_, pss_w, ?_⟩
  have hps : ps.length ≤ N.length := by have := congrArg List.length S.pre; rw [List.length_take] at this; omega
  have FX : Fx ⟨cxOf (L2.CX P w) P w K mg base N qual (defScope st) f cdv A outer s H E, H⟩ P w K mg base (defScope st) N L C Gs Bs k :=
    ⟨rfl, rfl, rfl, rfl, rfl, rfl, rfl, T.nd, T.loc, fun x hx => ⟨T.cel x hx, rfl⟩, T.kind, T.nob, T.gl, hb, rfl, hr, passes_of rfl⟩
  have TK : Tk ⟨cxOf (L2.CX P w) P w K mg base N qual (defScope st) f cdv A outer s H E, H⟩ (fun Cc fs _ M' => Sub (E0 Cc fs) M') :=
    ⟨(takes_of (E := E) rfl rfl rfl rfl).imp fun cls d σ' H' ⟨Cc, fs, ρ', M', e1, e3, e5, e6, M0, s0, q⟩ => by
      subst e1
      exact h6 Cc fs M0 q d H' e3 (e6.less s0) e5.st⟩
  have W := h _ FX ds M Q0 E0 h3 h4 TK
  rw [ini_eq N ds (by rw [h3]; exact hps)] at W
  refine (W (start N vs) H (RS.start (X := ⟨cxOf (L2.CX P w) P w K mg base N qual (defScope st) f cdv A outer s H E, H⟩) Stay.refl (by rw [h3]; exact hps) (fun i y hi hy => ?_) h1) h2).mono (fun σ' H' ⟨ρ', M', q1, q2, q3, M0, q4, q5⟩ => ?_) (fun v H' ⟨d, M', q1, q2, q3, M0, q4, q5⟩ => ?_) (fun _ _ ⟨_, _, _, _, _, q⟩ => q) (fun _ _ ⟨_, _, _, _, _, q⟩ => q)
  · have hp : ps[i]? = some y := by
      rw [← S.pre, List.getElem?_take_of_lt (by rw [← h3]; exact hi)]
      exact hy
    rcases S.par y (List.mem_of_getElem? hp) with z | z
    · exact .inl z
    · exact .inr (.inl z)
  · exact h5 _ _ q5 _ _ .non (q2.less q4) q3
  · exact h5 _ _ q5 _ _ q1 (q2.less q4) q3
end
/-! ### classes whose __init__ may raise -/
section
variable {X : Cy} {P : Program} {w : World} {K : Fg} {mg : Str → Option Value} {base : Heap} {sc : Scope} {N L C Gs Bs : List Str} {k j n : Nat} {ρ : Ro} {M : Mm} {Q : DV → Mm → Prop} {e : Expr} {es : List Expr} {pos p : Pos} {x : Str} {sp : SpX} {Cc : Addr} {dd : List DV} {E : EX}
theorem LX.of {H H' : Hp} {σ : L2.St} {Cx dx : Addr} {gs : List (Str × V)} {fs : List (Str × DV)} {M' : Mm} (rs : RS X H ρ σ) (st : Stay X.K H H') (e1 : H' dx = some (.xd gs)) (e2 : RF X.K H' fs gs) (e3 : RM X.K H' M') (h : E Cx fs ρ M') : LX X E (.ref Cx) (some dx) σ H' :=
  ⟨Cx, fs, ρ, M', rfl, .inr ⟨dx, gs, rfl, e1, e2⟩, rs.mono st, e3, h⟩
theorem LX.ofD {H H' : Hp} {σ : L2.St} {Cx : Addr} {de : Option Addr} {fs : List (Str × DV)} {M' : Mm} (rs : RS X H ρ σ) (st : Stay X.K H H') (e1 : XD X.K H' de fs) (e3 : RM X.K H' M') (h : E Cx fs ρ M') : LX X E (.ref Cx) de σ H' :=
  ⟨Cx, fs, ρ, M', rfl, e1, rs.mono st, e3, h⟩
end
end G
namespace G
open PySem L2
/-! ### exceptions with one field -/
def spI (f : Str) (C : Addr) : Sp := fun vs H Q _ => ∃ a v, vs = [.ref a, v] ∧ H a = some (exo a C none) ∧ ∀ dx, H dx = none → dx ≠ a → Q .non (upd (upd H dx (exd dx [(f, v)])) a (exo a C (some dx)))
section
variable {X : Cy} {P : Program} {w : World} {K : Fg} {mg : Str → Option Value} {base : Heap} {sc : Scope} {N L C Gs Bs : List Str} {k : Nat} {ρ : Ro} {M : Mm} {Q : DV → Mm → Prop} {e o : Expr} {pos p pos2 : Pos} {x f n : Str} {E : EX} {Cc : Addr} {nx bk ct : Ro → Mm → Prop} {rt : DV → Mm → Prop}
/-! ### an except clause's suite -/
/-- the static facts within a suite -/
class Fs (X : Cy) (K : outParam Fg) (mg : outParam (Str → Option Value)) (sc : outParam Scope) (N L Gs Bs : outParam (List Str)) : Prop where
  hK : X.K = K
  hmg : X.mg = mg
  hN : X.N = N
  hsc : X.env.scope = sc
  nd : N.Nodup
  loc : ∀ x ∈ L, X.env.scope.names.lookup x = some .local
  nob : ∀ x ∈ N, (x == ("__debug__" : Str)) = false ∧ (x == ("__classdict__" : Str)) = false
  gl : ∀ x ∈ Gs, Gl X x ∧ (x == ("__debug__" : Str)) = false ∧ x ≠ "__name__"
  bl : ∀ x ∈ Bs, mg x = none
  un : X.A.units + 200 < cLine
/-- the exception that a suite holds: at a, of the class at C, its fields fs -/
class Exv (X : Cy) (a : Addr) (C : outParam Addr) (fs : outParam (List (Str × DV))) : Prop where
  ex : ∃ (Y : Cx) (oe : Obj) (pn : List (Addr × Obj)) (de : Option Addr), X.toCx = Y.suite a ((a, oe) :: pn) ∧ Zc (.ref C) de oe ∧ (∃ vs, oe.data = .fields vs) ∧ XD X.K X.anc de fs
theorem we_nameS {d : DV} (F : Fs X K mg sc N L Gs Bs) (h : At N ρ x d) (q : Q d M) : WE X ρ M (.Name x pos) Q := fun σ H r m => by
  obtain ⟨i, h1, h2⟩ := h.ix
  obtain ⟨⟨y, n1, n2⟩, v, n3, n4⟩ := r.get i d h2
  have hx : x ∈ N := List.mem_of_getElem? h1
  have h1' : X.N[i]? = some x := by rw [F.hN]; exact h1
  have e : y = x := by rw [n1] at h1'; exact Option.some.inj h1'
  subst e
  exact wE.of (pe_var h1' n2 (F.nob y hx).1 (F.nob y hx).2) ⟨v, n3, d, M, n4, m, Stay.refl, q⟩
theorem we_exf {a : Addr} {fs : List (Str × DV)} (hfs : fs.isEmpty = false) (Ev : Exv X a Cc fs) (T : XfC X.K Cc) (hno : PySem.W.findIn X.K (.ref Cc) f = some none) (ho : notCall o = true) (h : WE X ρ M o fun x M1 => x = .ref a ∧ ∃ d, fs.lookup f = some d ∧ Q d M1) : WE X ρ M (.Attribute o f pos) Q := fun σ H rs m => by
  obtain ⟨Y, oe, pn, de, e1, e2, e3, e0⟩ := Ev.ex
  obtain ⟨dd, gs, rfl, e4, e5⟩ : ∃ dd gs, de = some dd ∧ X.anc dd = some (.xd gs) ∧ RF X.K X.anc fs gs := by
    rcases e0 with ⟨_, rfl⟩ | e0
    · cases hfs
    · exact e0
  have hs := rs.st
  have W := h σ H rs m
  obtain ⟨X0, anc⟩ := X
  have e1 : X0 = Y.suite a ((a, oe) :: pn) := e1
  subst e1
  have T' : XfC Y.K Cc := T
  refine wE.of (pe_xf T' hno e2 e3 pe_w (attrBase ho)) ?_
  refine W.mono fun v H1 ⟨x, M1, k1, k2, k3, k4, d, k5, k6⟩ => ?_
  subst k4
  cases k1
  have st : Stay Y.K anc H1 := hs.trans k3
  obtain ⟨u, u1, u2⟩ := (RF.mono st e5).lookup_some k5
  exact ⟨rfl, rfl, dd, gs, u, rfl, st.xd _ _ e4, u1, d, M1, u2, k2, k3, k6⟩
/-- what an exception class must have for its instances' fields to be read -/
class XfF (K : Fg) (C : Addr) (f : Str) : Prop where
  xf : XfC K C
  no : PySem.W.findIn K (.ref C) f = some none
instance {a : Addr} {fs : List (Str × DV)} [F : Fs X K mg sc N L Gs Bs] [Ev : Exv X a Cc fs] [T : XfF K Cc f] {y : Str} [A : At N ρ y (.ref a)] : Step (WE X ρ M (.Attribute (.Name y p) f pos) Q) (!fs.isEmpty) (∃ d, fs.lookup f = some d ∧ Q d M) := ⟨fun hz q =>
  we_exf (by simpa using hz) Ev (by rw [F.hK]; exact T.xf) (by rw [F.hK]; exact T.no) rfl (we_nameS F A ⟨rfl, q⟩)⟩
/-! ### try -/
/-- the context of a def's own body -/
class Dfn (X : Cy) : Prop where
  hs : X.stack = X.env :: X.outer
  hf : X.env.frame = some X.env.locals
  hn : ∀ y, X.fn y = true
theorem RS.re {Y X : Cy} {H : Hp} {ρ : Ro} {σ : L2.St} (r : RS Y H ρ σ) (st : Stay X.K X.anc H) (hN : X.N = Y.N) (he : X.env.scope = Y.env.scope) (hK : X.K = Y.K) : RS X H ρ σ := ⟨st, r.len, fun i d h => by
  obtain ⟨a, v, b, c⟩ := r.get i d h
  rw [hN, he, hK]
  exact ⟨a, v, b, c⟩⟩
theorem RS.drop {X : Cy} {H : Hp} {ρ : Ro} {σ : L2.St} (i : Nat) (r : RS X H ρ σ) : RS X H (ρ.set i none) (σ.set i none) := ⟨r.st, by rw [List.length_set, List.length_set]; exact r.len, fun j d h => by
  rw [List.getElem?_set] at h
  split at h
  · split at h <;> cases h
  · rename_i hne
    obtain ⟨a, v, b, c⟩ := r.get j d h
    exact ⟨a, v, by rw [List.getElem?_set_ne hne]; exact b, c⟩⟩
theorem Fs.of_suite {a : Addr} {pn : List (Addr × Obj)} {H : Hp} (F : Fx X P w K mg base sc N L C Gs Bs k) : Fs ⟨X.toCx.suite a pn, H⟩ K mg sc N L Gs Bs := ⟨F.hK, F.hmg, F.hN, F.hsc, F.nd, F.loc, F.nob, F.gl, F.bl, by have := F.room.un; show X.A.units + 200 < cLine; omega⟩
/-- a suite's context beside its frame's -/
structure Nrr (X X' : Cy) : Prop where
  s0 : X'.s_0 = X.s_0
  h0 : X'.H_0 = X.H_0
  ou : X'.outer = X.outer
  ex : X'.ex = X.ex
  kk : X'.K = X.K
  st : Stay X.K X.anc X'.anc
end
/-! ### whatever is being shown around a body is known within it -/
/-! ### defs with a try in them, out of which nothing comes -/
end G
namespace G
open PySem L2
/-! ### repr, whatever is being shown around -/
section
variable {prog : Program} {w : World} {A : Around} {E : Value → Shared → Prop} {s : Shared} {g : List Code} {a : Addr} {o : Obj} {n : Nat} {Q : Value → Shared → Prop}
end
section
variable {X : Cy} {P : Program} {w : World} {K : Fg} {mg : Str → Option Value} {base : Heap} {sc : Scope} {N L C Gs Bs : List Str} {k : Nat} {ρ : Ro} {M : Mm} {Q : DV → Mm → Prop} {e : Expr} {pos p : Pos} {g : List Code}
end
end G
namespace G
open PySem PySem.Spec PyProof.Rows L2
/-! ### in; chains; bits; all; properties; t[::-1] -/
def rIn3 (K : Fg) (neg : Bool) : R2 := fun x y H Q => (∃ a o, y = .ref a ∧ DGet H a x o ∧ Q (.bl (if neg then !o.isSome else o.isSome)) H) ∨ rIn K neg x y H Q
theorem op_in3 {X : Cx} (hu : X.A.units + 1 < cLine) : OpR X (compareOp .In) (rIn3 X.K false) := fun pins s σ H x y v u Q I rx ry h => by
  rcases h with ⟨a, o, e1, e2, q⟩ | h
  · subst e1
    cases ry
    exact d_in hu I e2 rx fun s3 I3 => ⟨.bl o.isSome, H, I3, rfl, q⟩
  · exact op_in_seq pins s σ H x y v u Q I rx ry h
section
variable {X : Cy} {P : Program} {w : World} {K : Fg} {mg : Str → Option Value} {base : Heap} {sc : Scope} {N L C Gs Bs : List Str} {k j : Nat} {ρ ρ' : Ro} {M : Mm} {Q : DV → Mm → Prop} {R : Bool → Mm → Prop} {a b c e o : Expr} {x f : Str} {pos p p1 p2 p3 : Pos} {nx bk ct : Ro → Mm → Prop} {rt : DV → Mm → Prop} {neg : Bool}
/-! a <= b <= c, of ints -/
theorem we_chain (hm : lastMarks [.LtE, .LtE] [b, c] = false) (h : WE X ρ M a fun x M1 => WE X ρ M1 b fun y M2 => ∃ i j, x = .int i ∧ y = .int j ∧ (i ≤ j → WE X ρ M2 c fun z M3 => ∃ l, z = .int l ∧ Q (.bl (decide (j ≤ l))) M3) ∧ (¬ i ≤ j → Q (.bl false) M2)) : WE X ρ M (.Compare a [.LtE, .LtE] [b, c] pos) Q := fun σ H rs m => by
  refine wE.of (pe_chain op_le op_le pe_w pe_w pe_w hm) ?_
  refine (h σ H rs m).mono fun v H1 ⟨x, M1, a1, a2, a3, a4⟩ => (a4 σ H1 (rs.mono a3) a2).mono fun u H2 ⟨y, M2, b1, b2, b3, i, j, e1, e2, b4, b5⟩ => ?_
  subst e1 e2
  cases a1
  cases b1
  refine ⟨i, j, rfl, rfl, _, rfl, ?_⟩
  by_cases hc : i ≤ j
  · rw [if_pos (decide_eq_true hc)]
    refine (b4 hc σ H2 ((rs.mono a3).mono b3) b2).mono fun w' H3 ⟨z, M3, c1, c2, c3, l, e3, c4⟩ => ?_
    subst e3
    cases c1
    exact ⟨j, l, rfl, rfl, _, M3, .bl _, c2, (a3.trans b3).trans c3, c4⟩
  · rw [if_neg (by rw [decide_eq_false hc]; exact Bool.false_ne_true)]
    exact ⟨_, M2, .bl false, b2, a3.trans b3, b5 hc⟩
/-! x |= e, x >>= 1 -/
/-! all(list of flags) -/
/-! properties -/
def notSup : Expr → Bool
  | .Call (.Name id _) [] [] _ => id != "super"
  | _ => true
theorem attrBase' {o : Expr} {m : Str} {env : Env} {wh : Sem Value} (h : notSup o = true) : attributeBase o m env wh = wh := by
  unfold attributeBase
  split
  · rename_i id p1 p2
    have h : (id != "super") = true := h
    rw [h, Bool.true_or, Bool.true_or, Bool.true_or, if_pos rfl]
  · rfl
end
/-! t[::-1] -/
section
variable {prog : Program} {w : World} {A : Around} {E : Value → Shared → Prop} {s : Shared}
end
section
variable {X : Cy} {ρ : Ro} {M : Mm} {Q : DV → Mm → Prop} {e : Expr} {pos p1 p2 p3 : Pos} {k : Nat}
end
/-! repr as a step; a tuple's item whose place is told -/
section
variable {X : Cy} {P : Program} {w : World} {K : Fg} {mg : Str → Option Value} {base : Heap} {sc : Scope} {N L C Gs Bs : List Str} {k : Nat} {ρ : Ro} {M : Mm} {Q : DV → Mm → Prop} {e tg : Expr} {pos p : Pos}
end
end G
namespace G
open PySem PySem.Spec PyProof.Rows L2
/-! ### zip of two tuples; (x, y), z in comprehensions; sum, max, min; staticmethods -/
section
variable {X : Cy} {P : Program} {w : World} {K : Fg} {mg : Str → Option Value} {base : Heap} {sc : Scope} {N L C Gs Bs L' C' Gs' : List Str} {k j n : Nat} {ρ ρ' : Ro} {M : Mm} {Q : DV → Mm → Prop} {R : Bool → Mm → Prop} {elt iter a b c e e2 o : Expr} {es elts : List Expr} {scope : Scope} {x y z f m : Str} {i l kt kt2 : Nat} {ms : List Bool} {pos px py pz pt pt2 p apos tpos : Pos}
/-! sum, max, min of a list of ints -/
/-! (x, y), z in a comprehension -/
end
end G
namespace G
open PySem PySem.Spec PyProof.Rows L2
/-! ### staticmethods -/
section
variable {X : Cy} {P : Program} {w : World} {K : Fg} {mg : Str → Option Value} {base : Heap} {sc : Scope} {N L C Gs Bs : List Str} {k j n : Nat} {ρ : Ro} {M : Mm} {Q : DV → Mm → Prop} {e o : Expr} {es : List Expr} {pos p apos : Pos} {x m : Str} {sp : SpX} {Cc : Addr} {E : EX}
theorem meth_eval' {o : Expr} {m : Str} {apos pos : Pos} {es : List Expr} {env : Env} (ho : notSup o = true) (hs : noStars es = true) (hn : es.length < 30) (hl : (apos.endLine == pos.line) = true) :
    eval (.Call (.Attribute o m apos) es [] pos) env = (do
      let ov ← eval o env
      standAt apos.atName
      let (f, first) ← holding [ov] (getMethod ov m (do return (← importBound o env).getD true))
      callWith pos f first (backTo pos (starEach es env)) (backToKw pos (keywordEach [] env))) := by
  have hf : methodCallForm (es.length + ([] : List Keyword).length) (backTo pos (starEach es env)) (backToKw pos (keywordEach [] env)) = true := by
    unfold methodCallForm
    rw [noStars_all hs]
    show (true && true && decide (es.length + 0 + 0 < 30)) = true
    rw [decide_eq_true (by omega)]
    rfl
  show (do
    let ov ← attributeBase o m env (eval o env)
    standAt apos.atName
    methodCall o m apos pos env ov (es.length + ([] : List Keyword).length) (backTo pos (starEach es env)) (backToKw pos (keywordEach [] env))) = _
  rw [attrBase' ho]
  unfold methodCall
  rw [hf]
  have hp : methodCallPos true o env apos pos = pure pos := by
    unfold methodCallPos
    rw [if_pos (by rw [hl]; rfl)]
  rw [hp]
  rfl
end
/-! == within a suite -/
end G
namespace G
open PySem PySem.Spec PyProof.Rows L2
/-! ### a list that nobody changes any more -/
theorem RM.lock {K : Fg} {H : Hp} {M : Mm} {j : Nat} {p : Addr} {xs : List V} {q : MO} {o : HO} (m : RM K H M) (hj : M[j]? = some (p, q)) (e : H p = some (.lst xs)) : RM K (upd H p o) (M.eraseIdx j) := by
  have sub : List.Sublist (M.eraseIdx j) M := List.eraseIdx_sublist M j
  refine ⟨(sub.map _).nodup m.nd, fun a u hm => ?_⟩
  have ha : a ≠ p := fun z => by
    subst z
    obtain ⟨i, hi⟩ := List.mem_iff_getElem?.mp hm
    rw [List.getElem?_eraseIdx] at hi
    have key : ∀ t, t ≠ j → M[t]? = some (a, u) → False := fun t ht h1 => by
      have l1 := (List.getElem?_eq_some_iff.mp h1).1
      have l2 := (List.getElem?_eq_some_iff.mp hj).1
      have e1 : (M.map (·.1))[t]? = some a := by rw [List.getElem?_map, h1]; rfl
      have e2 : (M.map (·.1))[j]? = some a := by rw [List.getElem?_map, hj]; rfl
      have q1 := (List.getElem?_eq_some_iff.mp e1).2
      have q2 := (List.getElem?_eq_some_iff.mp e2).2
      exact ht ((List.getElem_inj m.nd).mp (q1.trans q2.symm))
    split at hi
    · exact key i (by omega) hi
    · exact key (i + 1) (by omega) hi
  exact (m.ok a u (sub.subset hm)).mono (Stay.write (wr_lst e)) (upd_ne ha)
section
variable {X : Cy} {P : Program} {w : World} {K : Fg} {mg : Str → Option Value} {base : Heap} {sc : Scope} {N L C Gs Bs : List Str} {k : Nat} {ρ : Ro} {M : Mm} {Q : DV → Mm → Prop} {e : Expr}
/-- the value of e is a list that is locked from now on -/
theorem we_frz (h : WE X ρ M e fun d M1 => ∃ p j ds, d = .ref p ∧ AtM M1 j p (.lst ds) ∧ Q (.lis ds) (M1.eraseIdx j)) : WE X ρ M e Q := fun σ H rs m pins s I => by
  refine thn (h σ H rs m pins s I) fun u s1 ⟨v, H1, I1, r1, d, M1, a1, a2, a3, p, j, ds, e1, hA, q⟩ => ?_
  subst e1
  cases a1
  obtain ⟨vs, e2, rr⟩ := a2.at hA.ix
  obtain ⟨od, I2⟩ := I1.lock e2 trivial
  have st : Stay X.K H1 (upd H1 p (.frz od (.lst vs))) := Stay.write (wr_lst e2)
  exact ⟨_, _, I2, r1, .lis ds, _, .lis (.inl ⟨od, upd_same⟩) (rr.mono st), a2.lock hA.ix e2, a3.trans st, q⟩
/-- a slot holds a list that is locked from now on -/
theorem wss_frz {i j : Nat} {p : Addr} {ds : List DV} {sts : List Stmt} {nx bk ct : Ro → Mm → Prop} {rt : DV → Mm → Prop} (hi : ρ[i]? = some (some (.ref p))) (hA : AtM M j p (.lst ds)) (h : WSs X (ρ.set i (some (.lis ds))) (M.eraseIdx j) sts nx rt bk ct) : WSs X ρ M sts nx rt bk ct := fun σ H rs m pins s I => by
  obtain ⟨vs, e2, rr⟩ := m.at hA.ix
  obtain ⟨od, I2⟩ := I.lock e2 trivial
  have st : Stay X.K H (upd H p (.frz od (.lst vs))) := Stay.write (wr_lst e2)
  have rs2 := rs.mono st
  have hl : i < ρ.length := (List.getElem?_eq_some_iff.mp hi).1
  have W := h σ _ ⟨rs2.st, by rw [List.length_set]; exact rs2.len, fun t d ht => ?_⟩ (m.lock hA.ix e2) pins s I2
  · refine thn W fun fl s' hq => ?_
    cases fl with
    | next => obtain ⟨σ', H', J, ρ', M', q1, q2, q3, q4⟩ := hq; exact ⟨σ', H', J, ρ', M', q1, q2, st.trans q3, q4⟩
    | brk => obtain ⟨σ', H', J, ρ', M', q1, q2, q3, q4⟩ := hq; exact ⟨σ', H', J, ρ', M', q1, q2, st.trans q3, q4⟩
    | cont => obtain ⟨σ', H', J, ρ', M', q1, q2, q3, q4⟩ := hq; exact ⟨σ', H', J, ρ', M', q1, q2, st.trans q3, q4⟩
    | ret v => obtain ⟨x, σ', H', J, rv, d, M', q1, q2, q3, q4⟩ := hq; exact ⟨x, σ', H', J, rv, d, M', q1, q2, st.trans q3, q4⟩
  · rw [List.getElem?_set] at ht
    split at ht
    · rename_i et
      subst et
      obtain ⟨a1, v, a2, a3⟩ := rs2.get i (.ref p) hi
      cases ht
      cases a3
      exact ⟨a1, _, a2, .lis (.inl ⟨od, upd_same⟩) (rr.mono st)⟩
    · exact rs2.get t d ht
end
/-! ### a call that needs no changing object -/
/-- what nobody changes, and what is kept -/
def stillO : HO → Bool
  | .tup _ => true
  | .frz _ (.lst _) => true
  | .frz _ (.tup _) => true
  | .frz _ (.dK _) => true
  | .frz _ (.ext _) => true
  | _ => false
/-- a thing that nobody changes, or a code object's entry -/
def StilO (b : Addr) (u : HO) : Prop := stillO u = true ∨ ∃ q, u = LamX.CodeO b q
open Classical in
/-- what a lambda with the cells cl sees of the heap -/
noncomputable def showC (cl : List (Str × Addr)) (b : Addr) (u : HO) : Bool := decide ((∀ y, cl.lookup y ≠ some b) ∧ StilO b u)
open Classical in
theorem showC_of {cl : List (Str × Addr)} {b : Addr} {u : HO} (h : ∀ y, cl.lookup y ≠ some b) (hs : StilO b u) : showC cl b u = true := by unfold showC; exact decide_eq_true ⟨h, hs⟩
open Classical in
theorem of_showC {cl : List (Str × Addr)} {b : Addr} {u : HO} (h : showC cl b u = true) : (∀ y, cl.lookup y ≠ some b) ∧ StilO b u := by unfold showC at h; exact of_decide_eq_true h
open Classical in
theorem showC_not {cl : List (Str × Addr)} {b : Addr} {u : HO} (h : ¬ StilO b u) : showC cl b u = false := by unfold showC; exact decide_eq_false fun z => h z.2
open Classical in
theorem showC_cell {cl : List (Str × Addr)} {b : Addr} {u : HO} {y : Str} (h : cl.lookup y = some b) : showC cl b u = false := by unfold showC; exact decide_eq_false fun z => z.1 y h
theorem noStil_own {b x : Addr} : ¬ StilO b (.own x) := fun h => by
  rcases h with h | ⟨q, h⟩
  · cases h
  · unfold LamX.CodeO at h; cases h
theorem noStil_tbl {b : Addr} {ps : Array Value} : ¬ StilO b (.tbl ps) := fun h => by
  rcases h with h | ⟨q, h⟩
  · cases h
  · unfold LamX.CodeO at h; cases h
noncomputable def cutH (cl : List (Str × Addr)) (H : Hp) : Hp := fun b => match H b with
  | some u => if showC cl b u = true then some u else none
  | none => none
section
variable {cl : List (Str × Addr)}
theorem cutH_some {H : Hp} {b : Addr} {u : HO} (h : cutH cl H b = some u) : H b = some u ∧ showC cl b u = true := by
  unfold cutH at h
  split at h
  · rename_i v e
    split at h
    · rename_i hs
      cases h
      exact ⟨e, hs⟩
    · cases h
  · cases h
theorem cutH_of {H : Hp} {b : Addr} {u : HO} (h : H b = some u) (hs : showC cl b u = true) : cutH cl H b = some u := by
  unfold cutH
  rw [h]
  exact if_pos hs
theorem cutH_none {H : Hp} {b : Addr} (h : H b = none) : cutH cl H b = none := by
  unfold cutH
  rw [h]
theorem cutH_hid {H : Hp} {b : Addr} {u : HO} (h : H b = some u) (hs : showC cl b u = false) : cutH cl H b = none := by
  unfold cutH
  rw [h]
  exact if_neg (by rw [hs]; decide)
/-- behind the call: what was hidden is as it was -/
noncomputable def backH (cl : List (Str × Addr)) (H H1 : Hp) : Hp := fun b => match H b with
  | some u => if showC cl b u = true then H1 b else some u
  | none => H1 b
theorem backH_hid {H H1 : Hp} {b : Addr} {u : HO} (h : H b = some u) (hs : showC cl b u = false) : backH cl H H1 b = some u := by
  unfold backH
  rw [h]
  exact if_neg (by rw [hs]; decide)
theorem backH_still {H H1 : Hp} {b : Addr} {u : HO} (h : H b = some u) (hs : showC cl b u = true) : backH cl H H1 b = H1 b := by
  unfold backH
  rw [h]
  exact if_pos hs
theorem backH_new {H H1 : Hp} {b : Addr} (h : H b = none) : backH cl H H1 b = H1 b := by
  unfold backH
  rw [h]
end
theorem still_ok {P : Program} {w : World} {H H' : Hp} {h : Heap} {b : Addr} {u : HO} (hs : StilO b u) (x : ObjOk P w H h b u) : ObjOk P w H' h b u := by
  have tp : ∀ {xs : List V}, ObjOk P w H h b (.tup xs) → ObjOk P w H' h b (.tup xs) := fun {xs} q => by
    obtain ⟨q1, q2⟩ := (show xs.length ≤ sizeLine ∧ ∃ its : List Value, Vals xs its ∧ IsTup h b its.toArray from q)
    exact ⟨q1, q2⟩
  have ls : ∀ {xs : List V}, ObjOk P w H h b (.lst xs) → ObjOk P w H' h b (.lst xs) := fun {xs} q => by
    obtain ⟨q1, q2⟩ := (show xs.length ≤ sizeLine ∧ ∃ (its : List Value) (n : Nat), Vals xs its ∧ h.get? b = some { cls := .type "list", data := .seq its.toArray n } from q)
    exact ⟨q1, q2⟩
  rcases hs with hs | ⟨q, hs⟩
  · cases u with
    | tup xs => exact tp x
    | frz o v =>
      obtain ⟨x1, x2⟩ := (show h.get? b = some o ∧ ObjOk P w H h b v from x)
      cases v with
      | tup xs => exact ⟨x1, tp x2⟩
      | lst xs => exact ⟨x1, ls x2⟩
      | dK kvs => exact ⟨x1, x2⟩
      | ext φ => exact ⟨x1, x2⟩
      | _ => cases hs
    | _ => cases hs
  · subst hs
    unfold LamX.CodeO at x ⊢
    exact x
section
variable {P : Program} {w : World} {K : Fg} {mg : Str → Option Value} {base : Heap} {A : Around} {outer : List Env} {s s' : Shared} {H H1 : Hp}
theorem Env0.cut (e : Env0 P w K mg base A outer s H) (cl : List (Str × Addr)) : Env0 P w K mg base A outer s (cutH cl H) :=
  ⟨e.frames, e.mod, fun b o hb => ⟨(e.bs b o hb).1, cutH_none (e.bs b o hb).2⟩, e.bsz, e.funs, fun b hb => cutH_none (e.frf b hb), fun b u hu => by
    obtain ⟨h1, h2⟩ := cutH_some hu
    exact still_ok (of_showC h2).2 (e.hok b u h1), e.bare⟩
variable {cl : List (Str × Addr)}
theorem back_un (e : Env0 P w K mg base A outer s H) (un : Un (frs outer) [] (cutH cl H) H1 s.heap s'.heap) : Un (frs outer) [] H (backH cl H H1) s.heap s'.heap where
  keep := fun b o hb n hf hx => un.keep b o hb (cutH_none n) hf hx
  slot := fun b o hb n hf hx => un.slot b o hb (cutH_none n) hf hx
  free := fun b o hb n hx => by rw [backH_new n]; exact un.free b o hb (cutH_none n) hx
  there := un.there
  tups := fun b xs hb => by
    cases hs : showC cl b (.tup xs) with
    | true => rw [backH_still hb hs]; exact un.tups b xs (cutH_of hb hs)
    | false => rw [backH_hid hb hs]
  frzs := fun b o u hb => by
    cases hs : showC cl b (.frz o u) with
    | true => rw [backH_still hb hs]; exact un.frzs b o u (cutH_of hb hs)
    | false => rw [backH_hid hb hs]
  tbls := fun b ps hb => ⟨#[], by rw [backH_hid hb (showC_not noStil_tbl)]; simp⟩
/-- what is known ahead of the call is known behind it -/
theorem back_ext (un : Un (frs outer) [] (cutH cl H) H1 s.heap s'.heap) (sc : ∀ b q, cutH cl H b = some (LamX.CodeO b q) → H1 b = some (LamX.CodeO b q)) {b : Addr} {u : HO} (h : H b = some u) : backH cl H H1 b = some u := by
  cases hs : showC cl b u with
  | false => exact backH_hid h hs
  | true =>
    rw [backH_still h hs]
    rcases (of_showC hs).2 with z | ⟨q, z⟩
    · cases u with
      | tup xs => exact un.tups b xs (cutH_of h hs)
      | frz o v => exact un.frzs b o v (cutH_of h hs)
      | _ => cases z
    · subst z
      exact sc b q (cutH_of h hs)
theorem back_new (e : Env0 P w K mg base A outer s H) (un : Un (frs outer) [] (cutH cl H) H1 s.heap s'.heap) {b : Addr} {u : HO} (h : H1 b = some u) : backH cl H H1 b = some u := by
  cases hb : H b with
  | none => rw [backH_new hb]; exact h
  | some v =>
    cases hs : showC cl b v with
    | true => rw [backH_still hb hs]; exact h
    | false =>
      obtain ⟨o, ho⟩ := objOk_get (e.hok b _ hb)
      rw [un.free b o ho (cutH_hid hb hs) (by simp)] at h
      cases h
theorem back_hok (e : Env0 P w K mg base A outer s H) (un : Un (frs outer) [] (cutH cl H) H1 s.heap s'.heap) (sc : ∀ b q, cutH cl H b = some (LamX.CodeO b q) → H1 b = some (LamX.CodeO b q)) (hok : HOk P w H1 s'.heap) : HOk P w (backH cl H H1) s'.heap := fun b u hu => by
  have old : ∀ c v, H c = some v → showC cl c v = false → ∀ o, s.heap.get? c = some o → s'.heap.get? c = some o := fun c v hc hs o ho => un.keep c o ho (cutH_hid hc hs) (fun z => by rw [e.frf c z] at hc; cases hc) (by simp)
  cases hb : H b with
  | some v =>
    cases hs : showC cl b v with
    | false =>
      rw [backH_hid hb hs] at hu
      cases hu
      refine (e.hok b u hb).stay (fun c o hc ho => ?_) (fun c hc => back_ext un sc hc) fun c xs hc => back_ext un sc hc
      rcases hc with z | z
      · subst z
        exact old c u hb hs o ho
      · exact old c _ z (showC_not noStil_own) o ho
    | true =>
      rw [backH_still hb hs] at hu
      exact (hok b u hu).stay (fun c o _ ho => ho) (fun c hc => back_new e un hc) fun c xs hc => back_new e un hc
  | none =>
    rw [backH_new hb] at hu
    exact (hok b u hu).stay (fun c o _ ho => ho) (fun c hc => back_new e un hc) fun c xs hc => back_new e un hc
end
mutual
def Cf : DV → Bool
  | .lam _ _ => false
  | .clo _ _ => false
  | .tup ds => Cfs ds
  | .lis ds => Cfs ds
  | .tupA _ ds => Cfs ds
  | .dic _ ds => Cfs ds
  | .insF _ _ _ => false
  | _ => true
def Cfs : List DV → Bool
  | [] => true
  | d :: ds => Cf d && Cfs ds
end
/-- the cells of cl stand still -/
def PinB (cl : List (Str × Addr)) (H : Hp) : Prop := ∀ y c, cl.lookup y = some c → ∃ oc, H c = some (PinO c oc)
theorem PinB.no {cl : List (Str × Addr)} {H : Hp} {b : Addr} {u : HO} (p : PinB cl H) (h : H b = some u) (hu : ∀ o, u ≠ PinO b o) : ∀ y, cl.lookup y ≠ some b := fun y z => by
  obtain ⟨oc, e⟩ := p y b z
  rw [h] at e
  exact hu oc (Option.some.inj e)
theorem cut_of {cl : List (Str × Addr)} {H : Hp} {b : Addr} {u : HO} (p : PinB cl H) (h : H b = some u) (hu : ∀ o, u ≠ PinO b o) (hs : stillO u = true) : cutH cl H b = some u := cutH_of h (showC_of (p.no h hu) (.inl hs))
theorem sqt_cut {K : Fg} {H : Hp} {cl : List (Str × Addr)} {a : Addr} {xs : List V} (p : PinB cl H) (h : SqT K H a xs) : SqT K (cutH cl H) a xs := by
  rcases h with (h | ⟨o, h⟩) | h
  · exact .inl (.inl (cut_of p h (fun o z => by unfold PinO at z; cases z) rfl))
  · exact .inl (.inr ⟨o, cut_of p h (fun o z => by unfold PinO at z; cases z) rfl⟩)
  · exact .inr h
theorem frz_cut {K : Fg} {H : Hp} {cl : List (Str × Addr)} {a : Addr} {xs : List V} (p : PinB cl H) (h : FrzL K H a xs) : FrzL K (cutH cl H) a xs := by
  rcases h with ⟨o, h⟩ | h
  · exact .inl ⟨o, cut_of p h (fun o z => by unfold PinO at z; cases z) rfl⟩
  · exact .inr h
mutual
theorem RD.cut0 {K : Fg} {cl : List (Str × Addr)} : ∀ {H : Hp} {d : DV} {v : V}, RD K H d v → PinB cl H → Cf d = true → RD K (cutH cl H) d v
  | _, _, _, .non, _, _ => .non
  | _, _, _, .bl b, _, _ => .bl b
  | _, _, _, .int b, _, _ => .int b
  | _, _, _, .str b, _, _ => .str b
  | _, _, _, .ty b, _, _ => .ty b
  | _, _, _, .ref b, _, _ => .ref b
  | _, _, _, .tup h t, p, c => .tup (sqt_cut p h) (RDs.cut0 t p (by rw [Cf] at c; exact c))
  | _, _, _, .tupA h t, p, c => .tupA (sqt_cut p h) (RDs.cut0 t p (by rw [Cf] at c; exact c))
  | _, _, _, .lis h t, p, c => .lis (frz_cut p h) (RDs.cut0 t p (by rw [Cf] at c; exact c))
  | _, _, _, .lam _, _, c => by rw [Cf] at c; cases c
  | _, _, _, .clo _ _, _, c => by rw [Cf] at c; cases c
  | _, _, _, .insF _ _, _, c => by rw [Cf] at c; cases c
  | _, _, _, .dic h t, p, c => .dic ⟨h.1, h.2.imp fun o e => cut_of p e (fun o z => by unfold PinO at z; cases z) rfl⟩ (RDs.cut0 t p (by rw [Cf] at c; exact c))
theorem RDs.cut0 {K : Fg} {cl : List (Str × Addr)} : ∀ {H : Hp} {d : List DV} {v : List V}, RDs K H d v → PinB cl H → Cfs d = true → RDs K (cutH cl H) d v
  | _, _, _, .nil, _, _ => .nil
  | _, _, _, .cons h t, p, c => by
    rw [Cfs, Bool.and_eq_true] at c
    exact .cons (RD.cut0 h p c.1) (RDs.cut0 t p c.2)
end
theorem RDs.cutS {K : Fg} {H : Hp} {cl : List (Str × Addr)} (p : PinB cl H) {d : List DV} {v : List V} (r : RDs K H d v) (c : Cfs d = true) : RDs K (cutH cl H) d v := RDs.cut0 r p c
/-! what a value leans on: things that nobody changes, and code objects -/
def StilH (H H' : Hp) : Prop := ∀ b u, H b = some u → StilO b u → H' b = some u
theorem StilH.hid {H H' : Hp} (s : StilH H H') (cl : List (Str × Addr)) : StilH (hidC cl H) (hidC cl H') := fun b u h hs => by
  obtain ⟨e1, e2⟩ := hidC_some h
  rw [hidC_else e2]
  exact s b u e1 hs
theorem StilH.pin {H H' : Hp} (s : StilH H H') {b : Addr} {o : Obj} (h : H b = some (PinO b o)) : H' b = some (PinO b o) := s b _ h (.inl rfl)
theorem StilH.sqt {K : Fg} {H H' : Hp} (s : StilH H H') {a : Addr} {xs : List V} (h : SqT K H a xs) : SqT K H' a xs := by
  rcases h with (h | ⟨o, h⟩) | h
  · exact .inl (.inl (s _ _ h (.inl rfl)))
  · exact .inl (.inr ⟨o, s _ _ h (.inl rfl)⟩)
  · exact .inr h
theorem StilH.lamh {H H' : Hp} (s : StilH H H') {f : Addr} {L : Lamb} {cl : List (Str × Addr)} (h : LamH H f L cl) : LamH H' f L cl := by
  obtain ⟨pm, c, ctv, h1, h2⟩ := h
  exact ⟨pm, c, ctv, s.pin h1, s _ _ h2 (.inr ⟨_, rfl⟩)⟩
mutual
theorem RD.still {K : Fg} : ∀ {H : Hp} {d : DV} {v : V}, RD K H d v → ∀ {H' : Hp}, StilH H H' → RD K H' d v
  | _, _, _, .non, _, _ => .non
  | _, _, _, .bl b, _, _ => .bl b
  | _, _, _, .int b, _, _ => .int b
  | _, _, _, .str b, _, _ => .str b
  | _, _, _, .ty b, _, _ => .ty b
  | _, _, _, .ref b, _, _ => .ref b
  | _, _, _, .tup h t, _, s => .tup (s.sqt h) (RDs.still t s)
  | _, _, _, .tupA h t, _, s => .tupA (s.sqt h) (RDs.still t s)
  | _, _, _, .lis h t, _, s => .lis (h.elim (fun ⟨o, e⟩ => .inl ⟨o, s _ _ e (.inl rfl)⟩) .inr) (RDs.still t s)
  | _, _, _, .lam h, _, s => .lam (s.lamh h)
  | _, _, _, .clo ⟨h1, h2, h3, h4, h5⟩ t, _, s => .clo ⟨s.lamh h1, h2, h3, h4, fun i y e => (let ⟨c, oc, v, u, a1, a2, a3⟩ := h5 i y e; ⟨c, oc, v, u, a1, s.pin a2, a3⟩)⟩ (RDs.still t (s.hid _))
  | _, _, _, .dic h t, _, s => .dic ⟨h.1, h.2.imp fun o e => s _ _ e (.inl rfl)⟩ (RDs.still t s)
  | _, _, _, .insF ⟨h0, dx, od, mA, h1, h2, h3⟩ t, _, s => .insF ⟨h0, dx, od, mA, s.pin h1, s.pin h2, h3⟩ (RDs.still t s)
theorem RDs.still {K : Fg} : ∀ {H : Hp} {d : List DV} {v : List V}, RDs K H d v → ∀ {H' : Hp}, StilH H H' → RDs K H' d v
  | _, _, _, .nil, _, _ => .nil
  | _, _, _, .cons h t, _, s => .cons (RD.still h s) (RDs.still t s)
end
theorem stil_cut {cl : List (Str × Addr)} {H : Hp} : StilH (hidC cl H) (cutH cl H) := fun b u h hs => by
  obtain ⟨e1, e2⟩ := hidC_some h
  exact cutH_of e1 (showC_of e2 hs)
/-- no bar any more: what a kept lambda's cells hold may be anything -/
def Cpt (_ : List DV) : Bool := true
end G
namespace G
open PySem PySem.Spec PyProof.Rows L2
/-! ### lambdas that are kept -/
theorem pin_ok {P : Program} {w : World} {H : Hp} {h : Heap} {a : Addr} {o : Obj} (e : h.get? a = some o) : ObjOk P w H h a (PinO a o) := ⟨e, e, ⟨o, e⟩, fun h1 h2 q k => k o q⟩
theorem pin_at {P : Program} {w : World} {H : Hp} {h : Heap} {a : Addr} {o : Obj} (hok : HOk P w H h) (e : H a = some (PinO a o)) : h.get? a = some o := (show h.get? a = some o ∧ _ from hok a _ e).1
def frOf (scope : Scope) : List Str := scope.names.filterMap fun y => if y.2 = .free then some y.1 else none
theorem mem_frOf {scope : Scope} {y : Str} : y ∈ frOf scope ↔ (y, NameKind.free) ∈ scope.names := by
  unfold frOf
  rw [List.mem_filterMap]
  constructor
  · rintro ⟨⟨a, b⟩, h1, h2⟩
    dsimp only at h2
    split at h2
    · rename_i e
      subst e
      cases h2
      exact h1
    · cases h2
  · intro h
    exact ⟨_, h, rfl⟩
section
variable {X : Cx} {pins : List (Addr × Obj)} {σ : L2.St} {H : Hp} {s : Shared}
theorem lam_make3 {T : List (Addr × Str)} {c P : Addr} {params : Arguments} {body : Expr} {scope : Scope} {pos : Pos} {E : Value → Shared → Prop} {Q : Value → Shared → Prop} (I : Inv X pins σ H s) (TB : LamX.TabB X.base X.mg c P) (hcode : X.env.code = .ref c)
    (hm : (P, X.env.qual ++ "<lambda>") ∈ T) (hu : ∀ p ∈ T, p.1 = P → p.2 = X.env.qual ++ "<lambda>") (hT : LamX.Tabs T H) (hdef : defaultsOf params X.env = ([], [])) (hfree : ∀ y ∈ scope.names, y.2 = .free → ∃ c, X.env.cells.lookup y.1 = some c)
    (h : ∀ (f c' : Addr) (pm ctv : Value) (H1 : Hp) (s' : Shared), H1 f = none → Inv X pins σ (upd H1 f (PinO f (PySem.W.kla_obj "<lambda>" (X.env.qual ++ "<lambda>") params body scope (cloFrom X.env.cells scope.names []) pm c' ctv))) s' → LamX.ExtN H H1 → LamX.Tabs T H1 → H1 c' = some (LamX.CodeO c' (X.env.qual ++ "<lambda>")) → Q (.ref f) s') :
    wpAny (model X.prog X.w) X.A (eval (.Lambda params body scope pos) X.env) Q E s := by
  obtain ⟨ps, hP, ht, ha⟩ := hT _ hm
  refine PySem.W.kla_eval hdef ?_
  have bP : s.heap.BuiltinsAt X.mg P := TB.bm.keeps I.bk
  have hP' : s.heap.get? P = some { cls := .none, data := .fields ps } := I.hok P _ hP
  cases hc : codeAmong pos ps.toList with
  | none =>
    refine PySem.W.kla_makeFunction (mg := X.mg) (c := c) (P := P) (ps := ps) (closure_ok hfree) I.ok.glob (I.mod.glob.keeps I.bk) hcode (TB.code.keeps I.bk) hP' ht hc TB.gP bP fun c' ctv h' tk hx hge hlt hrec htb => ?_
    obtain ⟨c2, oc, vs, t, e2, hoc, hd, hv⟩ := hrec
    cases e2
    have hsz : s.heap.objs.size ≤ h'.objs.size := Nat.le_trans hge (Nat.le_of_lt hlt)
    have nC : H c' = none := I.hok.fresh hge
    have I1 := LamX.inv_table (t' := tk) (more := #[rawInt pos.line, rawInt pos.col, .ref c']) (h' := h') I hP (fun b o hb e => hx b o hb e) htb hge ⟨oc, vs, t, hoc, hd, hv⟩
    have hE : LamX.ExtN H (upd (upd H P (.tbl (ps ++ #[rawInt pos.line, rawInt pos.col, .ref c']))) c' (LamX.CodeO c' (X.env.qual ++ "<lambda>"))) := fun b o e n => by
      rw [upd_ne (ne_of_none e nC), upd_ne (fun z => n ps (Option.some.inj (e.symm.trans (by rw [z]; exact hP))))]
      exact e
    have eL : (ps ++ #[rawInt pos.line, rawInt pos.col, .ref c']).toList = ps.toList ++ [rawInt pos.line, rawInt pos.col, .ref c'] := by simp
    refine h h'.objs.size c' ((X.mg "__name__").getD .none) ctv _ _ (I1.hok.fresh (Nat.le_refl _)) (I1.laid (t' := tk) (a := h'.objs.size) (fun b u e => Heap.get?_push_of_some _ e) (Nat.le_refl _) (pin_ok (Heap.get?_push_size _ rfl))) hE (fun p hp => ?_) upd_same
    by_cases hb : p.1 = P
    · rw [hu p hp hb, hb]
      refine ⟨_, by rw [upd_ne (ne_of_none hP nC), upd_same], by rw [eL]; exact PySem.TriplesOk_snoc _ _ _ _ ht, fun p' cv hcv => ?_⟩
      rw [eL] at hcv
      rcases LamX.among_app _ ht hcv with z | z
      · obtain ⟨c0, e1, e2⟩ := ha p' cv z
        exact ⟨c0, e1, hE _ _ e2 LamX.codeO_ne⟩
      · exact ⟨c', z, upd_same⟩
    · obtain ⟨ps', a1, a2, a3⟩ := hT p hp
      refine ⟨ps', by rw [upd_ne (ne_of_none a1 nC), upd_ne hb]; exact a1, a2, fun p' cv hcv => ?_⟩
      obtain ⟨c0, e1, e2⟩ := a3 p' cv hcv
      exact ⟨c0, e1, hE _ _ e2 LamX.codeO_ne⟩
  | some cv =>
    obtain ⟨c', e, hco⟩ := ha pos cv hc
    subst e
    refine PySem.W.kla_makeFunctionHit (mg := X.mg) (c := c) (P := P) (ps := ps) (closure_ok hfree) I.ok.glob (I.mod.glob.keeps I.bk) hcode (TB.code.keeps I.bk) hP' ht hc bP fun ctv h' tk hx hsz => ?_
    have I1 : Inv X pins σ H { s with heap := h', toks := tk } := I.kept fun b o e => hx b o e
    exact h h'.objs.size c' ((X.mg "__name__").getD .none) ctv H _ (I1.hok.fresh (Nat.le_refl _)) (I1.laid (t' := tk) (a := h'.objs.size) (fun b u e => Heap.get?_push_of_some _ e) (Nat.le_refl _) (pin_ok (Heap.get?_push_size _ rfl))) (LamX.ExtN.refl H) hT hco
end
section
variable {X : Cy} {P : Program} {w : World} {K : Fg} {mg : Str → Option Value} {base : Heap} {sc : Scope} {N L C Gs Bs : List Str} {k : Nat} {ρ : Ro} {M : Mm} {Q : DV → Mm → Prop} {e : Expr} {params : Arguments} {body : Expr} {scope : Scope} {lp : Pos}
/-- its free names are the maker's own cells -/
def lamC (sc scope : Scope) : Bool := scope.names.all fun y => !decide (y.2 = .free) || decide (sc.names.lookup y.1 = some .cell)
theorem lamC_ok {sc scope : Scope} (h : lamC sc scope = true) : ∀ y, (y, NameKind.free) ∈ scope.names → sc.names.lookup y = some .cell := fun y hy => by
  unfold lamC at h
  have := List.all_eq_true.mp h _ hy
  simpa using this
theorem we_lam {c Pt : Addr} {q : Str} {ti : Nat} (F : Fx X P w K mg base sc N L C Gs Bs k) (Mk : Mkr X c Pt q) (tb : AtM M ti Pt (.tab q)) (hl : lamC sc scope = true) (hp : plainArgs params = true) (h : Q (.lam ⟨q, params, body, scope, frOf scope⟩ (cloFrom X.env.cells scope.names [])) M) : WE X ρ M (.Lambda params body scope lp) Q := fun σ H rs m pins s I => by
  have hin := List.mem_of_getElem? tb.ix
  have hfr : ∀ y ∈ scope.names, y.2 = .free → ∃ c, X.env.cells.lookup y.1 = some c := fun y hy e => I.ok.has _ (.inl (by
    have z := lamC_ok hl y.1 (by rw [← e]; exact hy)
    rw [← F.hsc] at z
    exact z))
  refine lam_make3 (T := tabsOf M) I Mk.tb Mk.code (by rw [Mk.qn]; exact mem_tabsOf.mpr hin) (fun r hr e => ?_) (fun r hr => m.ok r.1 _ (mem_tabsOf.mp hr)) (plainArgs_ok hp) hfr fun f c' pm ctv H1 s' hn I1 ext tabs hc => ?_
  · rw [Mk.qn]
    have := nodup_fst m.nd (mem_tabsOf.mp hr) (by rw [e]; exact hin)
    cases this
    rfl
  · have st : Stay X.K H1 (upd H1 f (PinO f (PySem.W.kla_obj "<lambda>" (X.env.qual ++ "<lambda>") params body scope (cloFrom X.env.cells scope.names []) pm c' ctv))) := Stay.new hn
    refine ⟨.ref f, _, I1, rfl, _, M, .lam ⟨pm, c', ctv, ?_, ?_⟩, (m.tabs ext tabs).new hn, (ext_stay ext).trans st, h⟩
    · rw [upd_same]
      show _ = some (PinO f (PySem.W.kla_obj "<lambda>" q params body scope (cloFrom X.env.cells scope.names []) pm c' ctv))
      rw [Mk.qn]
    · rw [← Mk.qn]
      exact st.cod _ _ hc
instance {c Pt : Addr} {q : Str} {ti : Nat} [F : Fx X P w K mg base sc N L C Gs Bs k] [Mk : Mkr X c Pt q] [tb : AtM M ti Pt (.tab q)] : Step (WE X ρ M (.Lambda params body scope lp) Q) (lamC sc scope && plainArgs params) (Q (.lam ⟨q, params, body, scope, frOf scope⟩ (cloFrom X.env.cells scope.names [])) M) := ⟨fun h q => by
  rw [Bool.and_eq_true] at h
  exact we_lam F Mk tb h.1 h.2 q⟩
end
end G
namespace G
open PySem PySem.Spec PyProof.Rows L2
/-! ### defs whose lambdas outlive them -/
/-- a body that ends in a return, told with the slots at its end -/
def WF (X : Cy) (ρ : Ro) (M : Mm) (ss : List Stmt) (post : Ro → DV → Mm → Prop) : Prop := ∀ σ H, RS X H ρ σ → RM X.K H M → ∀ (pins : List (Addr × Obj)) (s : Shared), Inv X.toCx pins σ H s →
  wpAny (model X.prog X.w) X.A (execs ss X.env) (fun fl s' => ∃ u v σ' H' ρ' d M', fl = .ret u ∧ Inv X.toCx pins σ' H' s' ∧ RelV v u ∧ RS X H' ρ' σ' ∧ RD X.K H' d v ∧ RM X.K H' M' ∧ Stay X.K H H' ∧ post ρ' d M') X.xe s
section
variable {X : Cy} {ρ : Ro} {M : Mm} {e : Expr} {st : Stmt} {rest : List Stmt} {pos : Pos} {post : Ro → DV → Mm → Prop}
theorem wf_ret (h : WE X ρ M e (fun d M' => post ρ d M')) : WF X ρ M [.Return (some e) pos] post := fun σ H rs m pins s I => by
  refine wpAny_execs_cons (wpAny_Return_some (thn (h σ H rs m pins s I) fun u s1 ⟨v, H1, I1, r1, d, M1, a1, a2, a3, q⟩ => ?_))
  exact ⟨u, v, σ, H1, ρ, d, M1, rfl, I1, r1, rs.mono a3, a1, a2, a3, q⟩
theorem wf_cons (h : WS X ρ M st (fun ρ1 M1 => WF X ρ1 M1 rest post) (fun _ _ => False) (fun _ _ => False) (fun _ _ => False)) : WF X ρ M (st :: rest) post := fun σ H rs m pins s I => by
  refine wpAny_execs_cons (thn (h σ H rs m pins s I) fun fl s1 hq => ?_)
  cases fl with
  | next =>
    obtain ⟨σ1, H1, J, ρ1, M1, q1, q2, q3, q4⟩ := hq
    refine thn (q4 σ1 H1 q1 q2 pins s1 J) fun fl s2 ⟨u, v, σ', H', ρ', d, M', a1, a2, a3, a4, a5, a6, a7, a8⟩ => ⟨u, v, σ', H', ρ', d, M', a1, a2, a3, a4, a5, a6, q3.trans a7, a8⟩
  | brk => obtain ⟨_, _, _, _, _, _, _, _, q4⟩ := hq; exact q4.elim
  | cont => obtain ⟨_, _, _, _, _, _, _, _, q4⟩ := hq; exact q4.elim
  | ret v => obtain ⟨_, _, _, _, _, _, _, _, _, _, q4⟩ := hq; exact q4.elim
def notRet : Stmt → Bool
  | .Return _ _ => false
  | _ => true
instance : Step (WF X ρ M (st :: rest) post) (notRet st) (WS X ρ M st (fun ρ1 M1 => WF X ρ1 M1 rest post) (fun _ _ => False) (fun _ _ => False) (fun _ _ => False)) := ⟨fun _ q => wf_cons q⟩
instance : Step (WF X ρ M [.Return (some e) pos] post) true (WE X ρ M e (fun d M' => post ρ d M')) := ⟨fun _ q => wf_ret q⟩
end
/-- the frame's cells are known from now on -/
noncomputable def pinC (h : Heap) (cl : List (Str × Addr)) (H : Hp) : Hp := fun b => open Classical in if ∃ y, cl.lookup y = some b then (h.get? b).map (PinO b) else H b
theorem pinC_cell {h : Heap} {cl : List (Str × Addr)} {H : Hp} {y : Str} {c : Addr} {o : Obj} (e : cl.lookup y = some c) (ho : h.get? c = some o) : pinC h cl H c = some (PinO c o) := by
  unfold pinC
  rw [if_pos ⟨y, e⟩, ho]
  rfl
theorem pinC_else {h : Heap} {cl : List (Str × Addr)} {H : Hp} {b : Addr} (e : ∀ y, cl.lookup y ≠ some b) : pinC h cl H b = H b := by
  unfold pinC
  exact if_neg fun ⟨y, z⟩ => e y z
section
variable {X : Cx} {pins : List (Addr × Obj)} {σ : L2.St} {H : Hp} {s : Shared}
theorem pinC_ext (J : Inv X pins σ H s) {b : Addr} {u : HO} (h : H b = some u) : pinC s.heap X.env.cells H b = some u := by
  rw [pinC_else fun y z => by rw [J.freeC y b z] at h; cases h]
  exact h
theorem pinC_un (J : Inv X pins σ H s) (own : ∀ y c, X.env.cells.lookup y = some c → X.s_0.heap.objs.size ≤ c) : Un X.fs X.ex X.H_0 (pinC s.heap X.env.cells H) X.s_0.heap s.heap where
  keep := J.base.keep
  slot := J.base.slot
  free := fun b o hb n hx => by
    rw [pinC_else fun y z => Nat.lt_irrefl _ (Nat.lt_of_lt_of_le (Heap.lt_size hb) (own y b z))]
    exact J.base.free b o hb n hx
  there := J.base.there
  tups := fun b xs hb => pinC_ext J (J.base.tups b xs hb)
  frzs := fun b o u hb => pinC_ext J (J.base.frzs b o u hb)
  tbls := fun b ps hb => by
    obtain ⟨more, z⟩ := J.base.tbls b ps hb
    exact ⟨more, pinC_ext J z⟩
theorem pinC_hok (J : Inv X pins σ H s) : HOk X.prog X.w (pinC s.heap X.env.cells H) s.heap := fun b u hu => by
  by_cases hb : ∃ y, X.env.cells.lookup y = some b
  · obtain ⟨y, hy⟩ := hb
    obtain ⟨v, o, ho, _⟩ := J.cell y b hy
    rw [pinC_cell hy ho] at hu
    cases hu
    exact pin_ok ho
  · rw [pinC_else fun y z => hb ⟨y, z⟩] at hu
    exact (J.hok b u hu).stay (fun c o _ ho => ho) (fun c hc => pinC_ext J hc) fun c xs hc => pinC_ext J hc
theorem pinC_stay {K : Fg} (J : Inv X pins σ H s) : Stay K H (pinC s.heap X.env.cells H) := ⟨fun a xs h => pinC_ext J h, fun a o u h => pinC_ext J h, fun a q h => pinC_ext J h, fun a fs h => pinC_ext J h⟩
theorem RM.ext {K : Fg} {H H' : Hp} {M : Mm} (m : RM K H M) (ex : ∀ b u, H b = some u → H' b = some u) : RM K H' M := ⟨m.nd, fun a o hm => by
  have st : Stay K H H' := ⟨fun a xs h => ex _ _ h, fun a o u h => ex _ _ h, fun a q h => ex _ _ h, fun a fs h => ex _ _ h⟩
  obtain ⟨u, hu⟩ := (m.ok a o hm).some
  exact (m.ok a o hm).mono st ((ex a u hu).trans hu.symm)⟩
end
/-- a lambda of the frame X, closed: what its cells hold -/
inductive ClD (X : Cy) (N : List Str) (ρ : Ro) : DV → DV → Prop
  | same (d : DV) : ClD X N ρ d d
  | lam {L : Lamb} {ds : List DV} (h0 : L.fr = frOf L.scope) (h1 : ds.length = L.fr.length) (h2 : ∀ (i : Nat) (y : Str), L.fr[i]? = some y → ∃ (j : Nat) (d : DV), N[j]? = some y ∧ ρ[j]? = some (some d) ∧ ds[i]? = some d ∧ X.env.scope.names.lookup y = some .cell) : ClD X N ρ (.lam L (cloFrom X.env.cells L.scope.names [])) (.clo L ds)
inductive ClF (X : Cy) (N : List Str) (ρ : Ro) : List (Str × DV) → List (Str × DV) → Prop
  | nil : ClF X N ρ [] []
  | cons {x : Str} {d d' : DV} {fs fs' : List (Str × DV)} : ClD X N ρ d d' → ClF X N ρ fs fs' → ClF X N ρ ((x, d) :: fs) ((x, d') :: fs')
inductive ClM (X : Cy) (N : List Str) (ρ : Ro) : Mm → Mm → Prop
  | nil : ClM X N ρ [] []
  | same {M M' : Mm} (x : Addr × MO) : ClM X N ρ M M' → ClM X N ρ (x :: M) (x :: M')
  | ins {M M' : Mm} {a C : Addr} {fs fs' : List (Str × DV)} : ClF X N ρ fs fs' → ClM X N ρ M M' → ClM X N ρ ((a, .ins C fs) :: M) ((a, .ins C fs') :: M')
theorem ClM.refl {X : Cy} {N : List Str} {ρ : Ro} : ∀ {M : Mm}, ClM X N ρ M M
  | [] => .nil
  | x :: M => .same x ClM.refl
theorem ClM.fst {X : Cy} {N : List Str} {ρ : Ro} : ∀ {M M' : Mm}, ClM X N ρ M M' → M'.map (·.1) = M.map (·.1)
  | _, _, .nil => rfl
  | _, _, .same x t => by rw [List.map_cons, List.map_cons, t.fst]
  | _, _, .ins _ t => by rw [List.map_cons, List.map_cons, t.fst]
section
variable {X : Cy} {N : List Str} {ρ : Ro} {pins : List (Addr × Obj)} {σ : L2.St} {H : Hp} {s : Shared}
theorem ClD.rd {d d' : DV} {v : V} (c : ClD X N ρ d d') (J : Inv X.toCx pins σ H s) (hN : X.N = N) (rs : RS X H ρ σ) (r : RD X.K H d v) : RD X.K (pinC s.heap X.env.cells H) d' v := by
  have st : Stay X.K H (pinC s.heap X.env.cells H) := pinC_stay J
  cases c with
  | same => exact r.mono st
  | @lam L ds h0 h1 h2 =>
    cases r with
    | lam h =>
      rename_i f
      have own : ∀ y ∈ L.scope.names, y.2 = .free → ∃ c, X.env.cells.lookup y.1 = some c := fun y hy e => by
        have hm : y.1 ∈ L.fr := by rw [h0]; exact mem_frOf.mpr (by rw [← e]; exact hy)
        obtain ⟨i, hi⟩ := List.mem_iff_getElem?.mp hm
        obtain ⟨_, _, _, _, _, k⟩ := h2 i _ hi
        exact J.ok.has _ (.inl k)
      have up : ∀ {y c}, (cloFrom X.env.cells L.scope.names []).lookup y = some c → X.env.cells.lookup y = some c ∧ (y, NameKind.free) ∈ L.scope.names := fun {y c} e => by
        rcases cloFrom_mem (PySem.mem_of_lookup e) with z | ⟨z1, z2⟩
        · cases z
        · obtain ⟨c1, q⟩ := own _ z1 rfl
          have q : X.env.cells.lookup y = some c1 := q
          rw [q] at z2
          cases z2
          exact ⟨q, z1⟩
      have get : ∀ (i : Nat) (y : Str), L.fr[i]? = some y → ∃ c oc v u, (cloFrom X.env.cells L.scope.names []).lookup y = some c ∧ pinC s.heap X.env.cells H c = some (PinO c oc) ∧ oc.data = .cell (some u) ∧ RelV v u ∧ ∃ d, ds[i]? = some d ∧ RD X.K H d v := fun i y e => by
        obtain ⟨j, d, a1, a2, a3, a4⟩ := h2 i y e
        obtain ⟨_, v, b1, b2⟩ := rs.get j d a2
        obtain ⟨mm, hns, hl⟩ := J.loc
        obtain ⟨u, ru, lk⟩ := hl j y v (by rw [hN]; exact a1) b1 (.inr (.inl a4))
        have hm : (y, NameKind.free) ∈ L.scope.names := mem_frOf.mp (by rw [← h0]; exact List.mem_of_getElem? e)
        obtain ⟨c, hc⟩ := mem_lookup (cloFrom_has (cells := X.env.cells) (acc := []) hm)
        have hc2 := (up hc).1
        rcases lk with ⟨z, _⟩ | ⟨_, c3, z2, o, ho, hd⟩
        · have z : X.env.scope.names.lookup y = some .local := z
          rw [a4] at z
          cases z
        · rw [hc2] at z2
          cases z2
          exact ⟨c, o, v, u, hc, pinC_cell hc2 ho, hd, ru, d, a3, b2⟩
      have vals : ∀ (n : Nat), n ≤ L.fr.length → ∃ vs : List V, vs.length = n ∧ RDs X.K H (ds.take n) vs ∧ ∀ (i : Nat) (y : Str), i < n → L.fr[i]? = some y → ∃ c oc v u, (cloFrom X.env.cells L.scope.names []).lookup y = some c ∧ pinC s.heap X.env.cells H c = some (PinO c oc) ∧ oc.data = .cell (some u) ∧ vs[i]? = some v ∧ RelV v u := fun n => by
        induction n with
        | zero => exact fun _ => ⟨[], rfl, by rw [List.take_zero]; exact .nil, fun i y h => absurd h (Nat.not_lt_zero _)⟩
        | succ n ih =>
          intro hn
          obtain ⟨vs, e1, e2, e3⟩ := ih (by omega)
          have hy : L.fr[n]? = some (L.fr[n]'(by omega)) := List.getElem?_eq_getElem (by omega)
          obtain ⟨c, oc, v, u, b1, b2, b3, b4, d, b5, b6⟩ := get n _ hy
          refine ⟨vs ++ [v], by rw [List.length_append, e1]; rfl, ?_, fun i y hi ey => ?_⟩
          · rw [List.take_add_one, b5]
            exact e2.append (.cons b6 .nil)
          · by_cases hin : i < n
            · obtain ⟨c, oc, v', u, d1, d2, d3, d4, d5⟩ := e3 i y hin ey
              exact ⟨c, oc, v', u, d1, d2, d3, by rw [List.getElem?_append_left (by omega)]; exact d4, d5⟩
            · have : i = n := by omega
              subst this
              rw [hy] at ey
              cases ey
              exact ⟨c, oc, v, u, b1, b2, b3, by rw [List.getElem?_append_right (by omega), e1, Nat.sub_self]; rfl, b4⟩
      obtain ⟨vs, e1, e2, e3⟩ := vals _ (Nat.le_refl _)
      rw [List.take_of_length_le (by omega)] at e2
      have st2 : Stay X.K H (hidC (cloFrom X.env.cells L.scope.names []) (pinC s.heap X.env.cells H)) := by
        have go : ∀ b u, H b = some u → hidC (cloFrom X.env.cells L.scope.names []) (pinC s.heap X.env.cells H) b = some u := fun b u e => by
          rw [hidC_else fun y z => by rw [J.freeC y b (up z).1] at e; cases e]
          exact pinC_ext J e
        exact ⟨fun a xs h => go _ _ h, fun a o u h => go _ _ h, fun a q h => go _ _ h, fun a fs h => go _ _ h⟩
      refine .clo ⟨h.mono st, e1, fun x y c q1 q2 => J.ok.inj x y c (up q1).1 (up q2).1, fun y c q => ?_, fun i y e => e3 i y ?_ e⟩ (e2.mono st2)
      · rw [h0]
        exact mem_frOf.mpr (up q).2
      · exact (List.getElem?_eq_some_iff.mp e).1
theorem ClF.rf {fs fs' : List (Str × DV)} {gs : List (Str × V)} (J : Inv X.toCx pins σ H s) (hN : X.N = N) (rs : RS X H ρ σ) (c : ClF X N ρ fs fs') : RF X.K H fs gs → RF X.K (pinC s.heap X.env.cells H) fs' gs := by
  induction c generalizing gs with
  | nil => intro r; cases r; exact .nil
  | cons h _ ih => intro r; cases r with | cons a b => exact .cons (h.rd J hN rs a) (ih b)
theorem ClM.rm {M M' : Mm} (J : Inv X.toCx pins σ H s) (hN : X.N = N) (rs : RS X H ρ σ) (c : ClM X N ρ M M') (m : RM X.K H M) : RM X.K (pinC s.heap X.env.cells H) M' := by
  refine ⟨by rw [c.fst]; exact m.nd, ?_⟩
  have ok := m.ok
  have st : Stay X.K H (pinC s.heap X.env.cells H) := pinC_stay J
  have keep : ∀ a o, RO X.K H a o → RO X.K (pinC s.heap X.env.cells H) a o := fun a o h => by
    obtain ⟨u, hu⟩ := h.some
    exact h.mono st ((pinC_ext J hu).trans hu.symm)
  clear m
  induction c with
  | nil => intro a o h; cases h
  | same x _ ih =>
    intro a o h
    rcases List.mem_cons.mp h with e | e
    · exact keep a o (ok a o (by rw [e]; exact List.mem_cons_self))
    · exact ih (fun a o h => ok a o (List.mem_cons_of_mem _ h)) a o e
  | @ins M M' b C fs fs' hf _ ih =>
    intro a o h
    rcases List.mem_cons.mp h with e | e
    · cases e
      obtain ⟨dx, gs, h1, h2⟩ := ok b (.ins C fs) List.mem_cons_self
      exact ⟨dx, gs, pinC_ext J h1, hf.rf J hN rs h2⟩
    · exact ih (fun a o h => ok a o (List.mem_cons_of_mem _ h)) a o e
end
section
variable {P : Program} {w : World} {K : Fg} {mg : Str → Option Value} {base : Heap} {N L C Gs Bs : List Str} {k : Nat}
theorem fn_okC {x qual q : Str} {st : Stmt} {f c Pt : Addr} {fd : FuncData} {ps : List Str} {sp : SpD} (F : FunM K x qual st f fd c) (TB : LamX.TabB base mg c Pt) (eq : qual ++ ".<locals>." ++ "<lambda>" = q) (S : FnScope N ps (defScope st)) (hst : stat (defScope st) N L C Gs = true) (hb : ∀ x ∈ Bs, mg x = none)
    (h : ∀ X, Fx X P w K mg base (defScope st) N L C Gs Bs k → Mkr X c Pt q → ∀ ds M Q, ds.length = ps.length → sp ds M Q → WF X (ini N ds) M (defBody st) (fun ρ d M' => ∃ d' M2, ClD X N ρ d d' ∧ ClM X N ρ M' M2 ∧ Sub (Q d') M2)) :
    FnOk P w K mg base CX0 (k + 1) f fd ps (sp1 K ps.length sp) := by
  have T := stat_ok hst
  obtain ⟨oc, od, kV, doc, pm, an, ct, osl, rfl, lk, hcd⟩ := F.ex
  refine ⟨fun vs H Q E ⟨ds, M, Q0, h1, h2, h3, _⟩ => by rw [← h1.length]; exact h3, fun A outer s H args us vs Q E hr e0 hbn r ⟨ds, M, Q0, h1, h2, h3, h4, h5⟩ => ?_⟩
  have hl : vs.length = ps.length := by rw [← h1.length]; exact h3
  have KX : K.In s.heap := e0.mod.kin.keeps fun b o e => (e0.bs b o e).1
  have lim : s.heap.NoLimit := e0.mod.nolimit.keeps fun b o e => (e0.bs b o e).1
  have hkind : ∀ y ∈ ps.zip us, (defScope st).names.lookup y.1 = some .local ∨ ((defScope st).names.lookup y.1 = some .cell ∧ ((cellsFrom (s.heap.objs.size + 1) (defScope st).names []).lookup y.1).isSome = true) := fun ⟨n, v⟩ hy => by
    rcases S.par n (List.of_mem_zip hy).1 with q | q
    · exact .inl q
    · exact .inr ⟨q, PySem.W.cellsFrom_some _ _ _ (.inl q)⟩
  refine codeAny_call_function hr.depth (KX _ _ lk) rfl S.co S.gen rfl (PySem.W.codeRec_of KX hcd) (hbn _ _ _ _ ?_)
  refine wpAny_newFunctionEnv_cells S.kind hkind fun env he s1 x => ?_
  subst he
  refine ⟨lim.keeps x.toInCall.keep, codeAny_func ?_⟩
  have I : Inv (cxOf CX0 P w K mg base N qual (defScope st) f (.ref c) A outer s H E) [] (start N vs) H s1 := inv_start S hr.hd e0 hl r x
  have hps : ps.length ≤ N.length := by have := congrArg List.length S.pre; rw [List.length_take] at this; omega
  have FX : Fx ⟨(cxOf CX0 P w K mg base N qual (defScope st) f (.ref c) A outer s H E).nox, H⟩ P w K mg base (defScope st) N L C Gs Bs k :=
    ⟨rfl, rfl, rfl, rfl, rfl, rfl, rfl, T.nd, T.loc, fun x hx => ⟨T.cel x hx, rfl⟩, T.kind, T.nob, T.gl, hb, rfl, hr.deeper _, PassesOwn.never⟩
  have MX : Mkr ⟨(cxOf CX0 P w K mg base N qual (defScope st) f (.ref c) A outer s H E).nox, H⟩ c Pt q := ⟨rfl, TB, eq⟩
  have W := h _ FX MX ds M Q0 h3 h4
  rw [ini_eq N ds (by rw [h3]; exact hps)] at W
  refine wpAny_mono (W (start N vs) H (RS.start (X := ⟨(cxOf CX0 P w K mg base N qual (defScope st) f (.ref c) A outer s H E).nox, H⟩) Stay.refl (by rw [h3]; exact hps) (fun i y hi hy => ?_) h1) h2 [] s1 (I.wish fun _ _ => False)) (fun fl s' hs => ?_) fun e s' hs => hs.elim
  · have hp : ps[i]? = some y := by
      rw [← S.pre, List.getElem?_take_of_lt (by rw [← h3]; exact hi)]
      exact hy
    rcases S.par y (List.mem_of_getElem? hp) with z | z
    · exact .inl z
    · exact .inr (.inl z)
  · obtain ⟨u, v, σ', H', ρ', d, M', a1, J, a3, a4, a5, a6, a7, d', M2, b1, b2, M0, b3, b4⟩ := hs
    subst a1
    refine ⟨v, pinC s'.heap (cellsFrom (s.heap.objs.size + 1) (defScope st).names []) H', J.os, J.bare, pinC_un J fun y c z => J.ok.cab y c rfl z, pinC_hok J, a3, ?_⟩
    exact h5 _ _ b4 _ _ (b1.rd J rfl a4 a5) ((b2.rm J rfl a4 a6).less b3) (a7.trans (pinC_stay J))
theorem cal_mkC {x q : Str} {st : Stmt} {ps : List Str} {sp : SpD} {c Pt : Addr} (hf : FnTm K mg x st ps c) (TB : LamX.TabB base mg c Pt) (eq : x ++ ".<locals>." ++ "<lambda>" = q) (S : FnScope N ps (defScope st)) (hst : stat (defScope st) N L C Gs = true) (hb : ∀ x ∈ Bs, mg x = none)
    (h : ∀ X, Fx X P w K mg base (defScope st) N L C Gs Bs k → Mkr X c Pt q → ∀ ds M Q, ds.length = ps.length → sp ds M Q → WF X (ini N ds) M (defBody st) (fun ρ d M' => ∃ d' M2, ClD X N ρ d d' ∧ ClM X N ρ M' M2 ∧ Sub (Q d') M2)) :
    Cal P w K mg base x (k + 1) ps.length sp := by
  obtain ⟨f, fd, F, hm, hbn⟩ := hf
  exact ⟨f, fd, ps, fn_okC F TB eq S hst hb h, hm, F.kp, hbn⟩
end
end G
namespace G
open PySem PySem.Spec PyProof.Rows L2
/-! ### calls of kept lambdas -/
/-- what a lambda does: what its cells hold, its arguments -/
abbrev SpC := List DV → List DV → (DV → Prop) → Prop
def CloOk (P : Program) (w : World) (K : Fg) (mg : Str → Option Value) (base : Heap) (k : Nat) (L : Lamb) (n : Nat) (sp : SpC) : Prop :=
  ∀ (A : Around) (outer : List Env) (s : Shared) (H : Hp) (f : Addr) (us : List Value) (vs cs : List V) (cl : List (Str × Addr)) (ds cd : List DV) (Q : DV → Prop), Room k A → Env0 P w K mg base A outer s H → CloH H f L cl cs → RDs K (hidC cl H) cd cs → Vals vs us → RDs K H ds vs → ds.length = n → Cpt cd = true → Cfs ds = true → sp cd ds Q →
    codeAny (model P w) A (.call (.ref f) ⟨us, []⟩) (CR CX0 outer P w H s (fun v H' => (∀ b u, H b = some u → H' b = some u) ∧ ∃ d, RD K H' d v ∧ Q d) E0) s
theorem startF_eq {N : List Str} {vs cs : List V} : NdefX.startF N vs (cs.map some) = L2.start N (vs ++ cs) := by
  unfold NdefX.startF L2.start
  rw [List.map_append, List.append_assoc, List.length_map, List.length_append, Nat.sub_sub]
section
variable {P : Program} {w : World} {K : Fg} {mg : Str → Option Value} {base : Heap} {N Gs Bs : List Str} {k : Nat}
theorem clo_mk {L : Lamb} {ps : List Str} {sp : SpC} (S : NdefX.NScope N ps L.fr L.scope) (hst : stat L.scope N ps [] Gs = true) (hbl : ∀ x ∈ Bs, mg x = none)
    (hbi : ∀ (cl : List (Str × Addr)) (pm cv ctv : Value) (us : List Value), us.length = ps.length → bindArgs (PySem.W.kla_fn "<lambda>" L.qual L.params L.body L.scope cl pm cv ctv) ⟨us, []⟩ = pure (ps.zip us))
    (h : ∀ X, Fx X P w K mg base L.scope N ps [] Gs Bs k → ∀ cd ds Q, cd.length = L.fr.length → ds.length = ps.length → sp cd ds Q → WE X (ini N (ds ++ cd)) [] L.body (fun d _ => Q d)) : CloOk P w K mg base (k + 1) L ps.length sp := by
  intro A outer s H f us vs cs cl ds cd Q hr e0 hc rc rv rd hn cf1 cf2 hsp
  have T := stat_ok hst
  obtain ⟨⟨pm, c', ctv, hf, hco⟩, hl, hinj, hdom, hcell⟩ := hc
  have pb : PinB cl H := fun y c e => by
    obtain ⟨i, hi⟩ := List.mem_iff_getElem?.mp (hdom y c e)
    obtain ⟨c2, oc2, v2, u2, a1, a2, _⟩ := hcell i y hi
    rw [e] at a1
    cases a1
    exact ⟨oc2, a2⟩
  have of1 : s.heap.get? f = some (lamObj L cl pm c' ctv) := pin_at e0.hok hf
  obtain ⟨⟨oc, vv, t, hoc, hdc, hvc⟩, _, _⟩ := e0.hok c' _ hco
  have e1 := Env0.cut e0 cl
  have lim : s.heap.NoLimit := e0.mod.nolimit.keeps fun b o e => (e0.bs b o e).1
  have hvl : vs.length = ps.length := by rw [← rd.length]; exact hn
  have hul : us.length = ps.length := by rw [← rv.length]; exact hvl
  have CA : NdefX.CellsAt cl L.fr (cs.map some) s.heap (cutH cl H) := by
    refine ⟨by rw [List.length_map]; exact hl, fun y c e => ?_, hinj, fun i y e => ?_⟩
    · obtain ⟨i, hi⟩ := List.mem_iff_getElem?.mp (hdom y c e)
      obtain ⟨c2, oc2, v2, u2, a1, a2, a3, a4, a5⟩ := hcell i y hi
      rw [e] at a1
      cases a1
      exact ⟨cutH_hid a2 (showC_cell e), _, oc2, pin_at e0.hok a2, a3⟩
    · obtain ⟨c2, oc2, v2, u2, a1, a2, a3, a4, a5⟩ := hcell i y e
      refine ⟨c2, a1, fun v hv => ?_⟩
      rw [List.getElem?_map, a4] at hv
      cases hv
      exact ⟨u2, a5, oc2, pin_at e0.hok a2, a3⟩
  have hps : ps.length + L.fr.length ≤ N.length := by have q := congrArg List.length S.pre; rw [List.length_take, List.length_append] at q; omega
  have hcl : cd.length = L.fr.length := by rw [rc.length]; exact hl
  refine codeAny_mono (R := CR CX0 outer P w (cutH cl H) s (fun v H' => Stay K (cutH cl H) H' ∧ ∃ d, RD K H' d v ∧ Q d) E0) ?_ fun r s' hq => ?_
  · refine PySem.W.kla_callFunE hr.depth of1 rfl S.co S.gen rfl ⟨c', oc, vv, t, rfl, hoc, hdc, hvc⟩ ?_
    rw [hbi _ _ _ _ us hul]
    refine wpAny_pure (wpAny_newFunctionEnv S.nocell (fun ⟨n, _⟩ hy => S.par n (List.of_mem_zip hy).1) (fun h₁ hns hsb => ⟨lim.fresh _ hsb, ?_⟩) S.kind)
    have kp : ∀ b o, s.heap.get? b = some o → h₁.get? b = some o := fun b o e => hsb.extBut b o (Nat.ne_of_lt (Heap.lt_size e)) (Heap.get?_push_of_some _ e)
    have J : Inv (NdefX.ncx CX0 P w K mg base N ⟨"<lambda>", L.qual, L.params, [], L.scope, cl, c'⟩ f A outer s (cutH cl H) E0) [] (NdefX.startF N vs (cs.map some)) (cutH cl H) { s with heap := h₁, toks := s.toks + (ps.zip us).length } :=
      NdefX.inv_startN (F := ⟨"<lambda>", L.qual, L.params, [], L.scope, cl, c'⟩) S hr.hd e1 hvl rv CA hns kp
    rw [startF_eq] at J
    have FX : Fx ⟨(NdefX.ncx CX0 P w K mg base N ⟨"<lambda>", L.qual, L.params, [], L.scope, cl, c'⟩ f A outer s (cutH cl H) E0).nox, cutH cl H⟩ P w K mg base L.scope N ps [] Gs Bs k :=
      ⟨rfl, rfl, rfl, rfl, rfl, rfl, rfl, T.nd, T.loc, fun z hz => (nomatch hz), T.kind, T.nob, T.gl, hbl, rfl, hr.deeper _, PassesOwn.never⟩
    have W := h _ FX cd ds Q hcl hn hsp
    rw [ini_eq N (ds ++ cd) (by rw [List.length_append]; omega)] at W
    refine PySem.W.kla_codeExpr (wpAny_mono (W _ _ (RS.start (X := ⟨(NdefX.ncx CX0 P w K mg base N ⟨"<lambda>", L.qual, L.params, [], L.scope, cl, c'⟩ f A outer s (cutH cl H) E0).nox, cutH cl H⟩) Stay.refl (by rw [List.length_append]; show _ ≤ N.length; omega) (fun i y hi hy => ?_) ((RDs.cutS pb rd cf2).append (RDs.still rc stil_cut))) RM.none [] _ (J.wish fun _ _ => False)) (fun v s' hq => ?_) fun e s' hq => hq.elim)
    · rw [List.length_append] at hi
      have hp : (ps ++ L.fr)[i]? = some y := by
        rw [← S.pre, List.getElem?_take_of_lt (by omega)]
        exact hy
      rcases List.mem_append.mp (List.mem_of_getElem? hp) with z | z
      · exact .inl (S.par y z)
      · exact .inr (.inr (S.frk y z))
    · obtain ⟨w', H', J', rv', d, M', a1, a2, a3, a4⟩ := hq
      exact ⟨w', H', J'.os, J'.bare, J'.base, J'.hok, rv', a3, d, a1, a4⟩
  · cases r with
    | error e => exact hq
    | ok fl =>
      cases fl with
      | next => exact hq
      | brk => exact hq
      | cont => exact hq
      | ret u =>
        obtain ⟨v, H1, b1, b2, un, hok, rvu, bs, d, b5, b6⟩ := hq
        have sc : ∀ b q, cutH cl H b = some (LamX.CodeO b q) → H1 b = some (LamX.CodeO b q) := bs.cod
        refine ⟨v, backH cl H H1, b1, b2, back_un e0 un, back_hok e0 un sc hok, rvu, fun b u hu => back_ext un sc hu, d, b5.mono ⟨fun a xs h => back_new e0 un h, fun a o u h => back_new e0 un h, fun a q h => back_new e0 un h, fun a fs h => back_new e0 un h⟩, b6⟩
end
/-! ### o.f(..), where the field f of the object holds a lambda -/
section
variable {X : Cy} {P : Program} {w : World} {K : Fg} {mg : Str → Option Value} {base : Heap} {sc : Scope} {N L C Gs Bs : List Str} {k j n : Nat} {ρ : Ro} {M : Mm} {Q : DV → Mm → Prop} {e o : Expr} {es : List Expr} {apos pos : Pos} {m : Str} {Cc : Addr}
theorem getfld_ok {pins : List (Addr × Obj)} {σ : L2.St} {H : Hp} {s : Shared} {A : Around} {E : Value → Shared → Prop} {pl : Sem Bool} {R : Value × List Value → Shared → Prop} {a dx : Addr} {fs : List (Str × V)} {v : V} (I : Inv X.toCx pins σ H s) (ea : H a = some (.ins Cc dx fs)) (c : Cls X.K Cc) (na : NoAttr X.K Cc m) (l : fs.lookup m = some v)
    (h : ∀ u s', Inv X.toCx pins σ H s' → RelV v u → R (u, []) s') : wpAny (model X.prog X.w) A (getMethod (.ref a) m pl) R E s := by
  obtain ⟨mA, O, r, _, _, _⟩ := ins_get I.hok ea
  obtain ⟨od, J, hl⟩ := O.look
  exact PySem.W.method_usual I.kIn J (PySem.W.plainGet_of (c.get m)).1 (PySem.W.plainGet_of (c.get m)).2 (r := none) na rfl (getattr_ok I ea c na l fun u s' I' ru => h u s' I' ru)
theorem fnAt_pin {pins : List (Addr × Obj)} {σ : L2.St} {H : Hp} {s : Shared} {f : Addr} {L' : Lamb} {cs : List V} (I : Inv X.toCx pins σ H s) {cl : List (Str × Addr)} (c : CloH H f L' cl cs) : PySem.W.FnAt f s.heap := by
  obtain ⟨⟨pm, c', ctv, hf, _⟩, _⟩ := c
  exact ⟨_, _, _, _, pin_at I.hok hf⟩
/-- the lambda at f is called, its arguments in hand -/
theorem clo_run {pins : List (Addr × Obj)} {σ : L2.St} {H : Hp} {s : Shared} {f : Addr} {L' : Lamb} {cs vs : List V} {cd ds : List DV} {us : List Value} {sp : SpC} {Hs : Hp} (F : Fx X P w K mg base sc N L C Gs Bs k) (hj : j ≤ k) (G : CloOk P w K mg base j L' n sp) (I : Inv X.toCx pins σ H s) {cl : List (Str × Addr)} (c : CloH H f L' cl cs) (rc : RDs X.K (hidC cl H) cd cs) (rv : Vals vs us) (rd : RDs X.K H ds vs) (hn : ds.length = n)
    (cf1 : Cpt cd = true) (cf2 : Cfs ds = true) (rm : RM X.K H M) (st : Stay X.K Hs H) (q : sp cd ds fun d => Q d M) : wpAny (model X.prog X.w) X.A (call (.ref f) us) (EP X.toCx pins σ (LE X.K Hs Q)) X.xe s := by
  have eP := F.hP; have ew := F.hw; have eK := F.hK; have eg := F.hmg; have eb := F.hbase
  subst eP ew eK eg eb
  refine wpAny_call (codeAny_mono (G X.A X.stack s H f us vs cs cl ds cd (fun d => Q d M) (F.room.mono hj) I.env0 c rc rv rd hn cf1 cf2 q) fun r s' hq => ?_)
  cases r with
  | error e => exact False.elim hq
  | ok fl =>
    cases fl with
    | ret u =>
      obtain ⟨v, H', I3, r3, ex, d, q1, q2⟩ := I.after hq
      exact ⟨v, H', I3, r3, d, M, q1, rm.ext ex, st.trans ⟨fun a xs h => ex _ _ h, fun a o u h => ex _ _ h, fun a q h => ex _ _ h, fun a fs h => ex _ _ h⟩, q2⟩
    | next => exact False.elim hq
    | brk => exact False.elim hq
    | cont => exact False.elim hq
theorem we_callF (F : Fx X P w K mg base sc N L C Gs Bs k) (ho : notSup o = true) (hs : noStars (e :: es) = true) (hn : (e :: es).length < 30) (hl : (apos.endLine == pos.line) = true)
    (h : WE X ρ M o fun d M1 => ∃ a i Cc fs L' cd sp j n, d = .ref a ∧ AtM M1 i a (.ins Cc fs) ∧ FldC K Cc m ∧ fs.lookup m = some (.clo L' cd) ∧ CloOk P w K mg base j L' n sp ∧ j ≤ k ∧ Cpt cd = true ∧ WA X ρ M1 (e :: es) fun ds M2 => ds.length = n ∧ Cfs ds = true ∧ sp cd ds (fun d => Q d M2)) : WE X ρ M (.Call (.Attribute o m apos) (e :: es) [] pos) Q := fun σ H rs rm pins s I => by
  obtain ⟨h1, h2⟩ := noStars_cons hs
  refine PySem.W.methodCall_KW (thn (h σ H rs rm pins s I) fun u s1 ⟨v, H1, I1, rx, d, M1, a1, a2, a3, a, i, Cc, fs, L', cd, sp, j, n, e1, e2, c, e4, G, hj, cf1, e5⟩ => ?_) (meth_eval' ho hs hn hl)
  subst e1
  cases a1
  obtain rfl : u = .ref a := rx
  obtain ⟨dx, gs, g1, g2⟩ := a2.at e2.ix
  obtain ⟨vf, l1, l2⟩ := g2.lookup_some e4
  cases l2 with
  | @clo _ f _ cl cs _ hc rc =>
    refine getfld_ok I1 g1 (by rw [F.hK]; exact c.cl) (by rw [F.hK]; exact c.no) l1 fun u s2 I2 ru => ?_
    obtain rfl : u = .ref f := ru
    refine PySem.W.callWith_F (first := []) (fnAt_pin I2 hc) (thn (pa_w.run pos pins s2 σ H1 _ I2 (e5 σ H1 (rs.mono a3) a2)) fun us s3 ⟨vs, H3, I3, r3, ds, M3, k1, k2, k3, k4, k5, k6⟩ => ⟨fnAt_pin I3 (hc.mono k3), ?_⟩) (starEach_cons h1) (noStars_any h2)
    exact clo_run F hj G I3 (hc.mono k3) (rc.mono (k3.hid cl)) r3 k1 k4 cf1 k5 k2 (a3.trans k3) k6
end
end G
namespace G
open PySem PySem.Spec PyProof.Rows L2
/-! ### x(k = e, ..) of several keywords -/
class MkiN (P : Program) (w : World) (K : Fg) (mg : Str → Option Value) (base : Heap) (x : Str) (ks : List Str) (Cc : outParam Addr) (j : outParam Nat) (dd : outParam (List DV)) (sp : outParam SpD) : Prop where
  ex : ∃ (f : Addr) (fd : FuncData) (ps : List Str) (mv : List Value) (mz : List V), Mk K Cc f ∧ FnOk P w K mg base CX0 j f fd ps (sp1 K (1 + ks.length + dd.length) sp) ∧ mg x = some (.ref Cc) ∧ KBn K fd ps 1 ks (fun us ws => us ++ ws ++ mv) (fun vs zs => vs ++ zs ++ mz) ∧ ∀ H, RDs K H dd mz
/-- what the text says of it -/
def MkTn (K : Fg) (mg : Str → Option Value) (x : Str) (ks : List Str) (Cc : Addr) (qual : Str) (st : Stmt) (ps : List Str) (dd : List DV) : Prop := ∃ f fd dV mv mz, Mk K Cc f ∧ FunD K "__init__" qual st f fd dV ∧ mg x = some (.ref Cc) ∧ KBn K fd ps 1 ks (fun us ws => us ++ ws ++ mv) (fun vs zs => vs ++ zs ++ mz) ∧ ∀ H, RDs K H dd mz
section
variable {P : Program} {w : World} {K : Fg} {mg : Str → Option Value} {base : Heap} {N L C Gs Bs : List Str} {k : Nat}
theorem mkiN_mk {x qual : Str} {st : Stmt} {ps ks : List Str} {Cc : Addr} {dd : List DV} {sp : SpD} (T : MkTn K mg x ks Cc qual st ps dd) (S : FnScope N ps (defScope st)) (hst : stat (defScope st) N L C Gs = true) (hb : ∀ x ∈ Bs, mg x = none) (hn : 1 + ks.length + dd.length = ps.length)
    (h : ∀ X, Fx X P w K mg base (defScope st) N L C Gs Bs k → ∀ ds M Q, ds.length = ps.length → sp ds M Q → WSs X (ini N ds) M (defBody st) (fun _ M' => Sub (Q .non) M') (fun d M' => Sub (Q d) M') (fun _ _ => False) (fun _ _ => False)) :
    MkiN P w K mg base x ks Cc (k + 1) dd sp := by
  obtain ⟨f, fd, dV, us, vs, h1, h2, h3, h4, h5⟩ := T
  exact ⟨f, fd, ps, us, vs, h1, by rw [hn]; exact fn_okD h2 S hst hb h, h3, h4, h5⟩
end
section
variable {X : Cy} {P : Program} {w : World} {K : Fg} {mg : Str → Option Value} {base : Heap} {sc : Scope} {N L C Gs Bs : List Str} {k j n : Nat} {ρ : Ro} {M : Mm} {Q : DV → Mm → Prop} {e1 e2 e3 e4 : Expr} {pos p p1 p2 p3 p4 : Pos} {x k1 k2 k3 k4 : Str} {sp : SpD} {Cc : Addr} {dd : List DV}
theorem we_make4 (F : Fx X P w K mg base sc N L C Gs Bs k) (G : MkiN P w K mg base x [k1, k2, k3, k4] Cc j dd sp) (hj : j + 1 ≤ k) (hx : x ∈ Gs)
    (h : WE X ρ M e1 fun d1 M1 => WE X ρ M1 e2 fun d2 M2 => WE X ρ M2 e3 fun d3 M3 => WE X ρ M3 e4 fun d4 M4 => ∀ q, sp (.ref q :: ([d1, d2, d3, d4] ++ dd)) ((q, .ins Cc []) :: M4) fun d M' => d = .non ∧ Q (.ref q) M') :
    WE X ρ M (.Call (.Name x p) [] [⟨some k1, e1, p1⟩, ⟨some k2, e2, p2⟩, ⟨some k3, e3, p3⟩, ⟨some k4, e4, p4⟩] pos) Q := fun σ H rs m => by
  obtain ⟨f, fd, ps, mv, mz, Mm, G, hm, kb, hd⟩ := G.ex
  obtain ⟨g1, g2, g3⟩ := F.gl x hx
  have eP := F.hP; have ew := F.hw; have eK := F.hK; have eg := F.hmg; have eb := F.hbase
  subst eP ew eK eg eb
  refine wE.of (pe_makeK0 (E := E0) Mm G (F.room.mono hj) g1 hm kb pass0 (pk_cons pe_w (pk_cons pe_w (pk_cons pe_w (pk_cons pe_w pk_nil)))) rfl rfl g2 rfl) ?_
  refine (h σ H rs m).mono fun v1 H1 ⟨d1, M1, a1, a2, a3, a4⟩ => ?_
  refine (a4 σ H1 (rs.mono a3) a2).mono fun v2 H2 ⟨d2, M2, b1, b2, b3, b4⟩ => ?_
  refine (b4 σ H2 (rs.mono (a3.trans b3)) b2).mono fun v3 H3 ⟨d3, M3, c1, c2, c3, c4⟩ => ?_
  refine (c4 σ H3 (rs.mono ((a3.trans b3).trans c3)) c2).mono fun v4 H4 ⟨d4, M4, f1, f2, f3, f4⟩ => ?_
  refine ⟨rfl, rfl, fun q dx hq hdx hne => ?_⟩
  have z := sp_made (E := E0) (ds := [d1, d2, d3, d4] ++ dd) (vs := [v1, v2, v3, v4] ++ mz) (Q := Q) f2 hq hdx hne ((RDs.cons (a1.mono ((b3.trans c3).trans f3)) (.cons (b1.mono (c3.trans f3)) (.cons (c1.mono f3) (.cons f1 .nil)))).append (hd H4)) (f4 q) (n := 1 + 4 + dd.length) (by rw [List.length_append]; show 1 + (4 + dd.length) = _; omega)
  obtain ⟨ds', M', Q0, z1, z2, z3, z4, z5⟩ := z
  exact ⟨ds', M', Q0, z1, z2, z3, z4, fun d M2 a v H2 b c st => let ⟨y1, y2⟩ := z5 d M2 a v H2 b c st; ⟨y1, y2.stay (((a3.trans b3).trans c3).trans f3)⟩⟩
instance [F : Fx X P w K mg base sc N L C Gs Bs k] [G : MkiN P w K mg base x [k1, k2, k3, k4] Cc j dd sp] [m : MemC x Gs] : Step (WE X ρ M (.Call (.Name x p) [] [⟨some k1, e1, p1⟩, ⟨some k2, e2, p2⟩, ⟨some k3, e3, p3⟩, ⟨some k4, e4, p4⟩] pos) Q) (Nat.ble (j + 1) k) (WE X ρ M e1 fun d1 M1 => WE X ρ M1 e2 fun d2 M2 => WE X ρ M2 e3 fun d3 M3 => WE X ρ M3 e4 fun d4 M4 => ∀ q, sp (.ref q :: ([d1, d2, d3, d4] ++ dd)) ((q, .ins Cc []) :: M4) fun d M' => d = .non ∧ Q (.ref q) M') := ⟨fun h q => we_make4 F G (Nat.le_of_ble_eq_true h) m.h q⟩
end
end G
namespace G
open PySem PySem.Spec PyProof.Rows L2
/-! ### locked lists are read -/
section
variable {K : Fg} {M : Mm} {Q : DV → Mm → Prop}
theorem v_ix_f {ds : List DV} {i : Int} {d : DV} (h : atI ds i = some d) (q : Q d M) : R2D K (rIx K) (.lis ds) (.int i) M Q := fun vx vy H h1 h2 m => by
  cases h2
  cases h1 with
  | lis sq r =>
    obtain ⟨v, e, r⟩ := atI_rel r h
    exact .inl ⟨_, _, i, v, rfl, rfl, sq.sq, e, d, M, r, m, Stay.refl, q⟩
theorem v_len_f {ds : List DV} (q : Q (.int (ds.length : Int)) M) : CD K (rLen3 K) [.lis ds] M Q := .one fun v H r m => by
  cases r with
  | lis sq rr => exact ⟨_, _, rfl, .inl ⟨_, sq.sq, rr.length⟩, .int _, M, .int _, m, Stay.refl, q⟩
instance {ds : List DV} : Step (CD K (rLen3 K) [.lis ds] M Q) true (Q (.int (ds.length : Int)) M) := ⟨fun _ q => v_len_f q⟩
theorem it_lis {H0 : Hp} {a : Addr} {ds : List DV} {vs : List V} (sq : FrzL K H0 a vs) (r : RDs K H0 ds vs) : ItD K H0 (Itl K a) ds.length (fun i => ds.getD i .non) (fun _ => True) where
  go := fun i H M st m _ hi => by
    obtain ⟨v, h1, h2⟩ := r.get (List.getElem?_eq_getElem hi)
    exact ⟨vs, v, (sq.elim (fun ⟨o, e⟩ => FrzL.sq (.inl ⟨o, st.frz _ _ _ e⟩)) fun z => FrzL.sq (.inr z)), h1⟩
  yld := fun i H M v H' st m _ hi ⟨e1, e2⟩ => by
    subst e1
    obtain ⟨v', h1, h2⟩ := r.get (List.getElem?_eq_getElem hi)
    have := e2 vs (sq.elim (fun ⟨o, e⟩ => FrzL.sq (.inl ⟨o, st.frz _ _ _ e⟩)) fun z => FrzL.sq (.inr z))
    rw [h1] at this
    cases this
    refine ⟨?_, Stay.refl, m⟩
    rw [List.getD_eq_getElem?_getD, List.getElem?_eq_getElem hi]
    exact h2.mono st
  stop := fun H M st m _ => ⟨vs, (sq.elim (fun ⟨o, e⟩ => FrzL.sq (.inl ⟨o, st.frz _ _ _ e⟩)) fun z => FrzL.sq (.inr z)), by rw [r.length]; exact Nat.le_refl _⟩
end
section
variable {X : Cy} {P : Program} {w : World} {K : Fg} {mg : Str → Option Value} {base : Heap} {sc : Scope} {N L C Gs Bs : List Str} {k : Nat} {ρ : Ro} {M : Mm} {Q : DV → Mm → Prop} {e o tg : Expr} {apos pos p : Pos}
theorem wi_lis {R : Nat → (Nat → DV) → (Mm → Prop) → Mm → Prop} (h : WE X ρ M e fun d M1 => ∃ ds, d = .lis ds ∧ R ds.length (fun i => ds.getD i .non) (fun _ => True) M1) : WI X ρ M tg e R := by
  refine ⟨_, pi_list pe_w, fun σ H rs m => ?_⟩
  refine (h σ H rs m).mono fun v H1 ⟨d, M1, h1, h2, h3, ds, e, h5⟩ => ?_
  subst e
  cases h1 with
  | lis sq r => exact ⟨_, rfl, ⟨_, sq.sq⟩, _, _, _, M1, it_lis sq r, h2, h3, h5⟩
/-! ### dicts: d['x'], d['x'] = v, {k: v, k: v}, list(d.items()), dict(pairs) -/
def DgD (M : Mm) (x : DV) (ky : Key) (Q : DV → Mm → Prop) : Prop := ∃ (q : Addr) (i : Nat) (kvs : List (Key × DV)) (d : DV), x = .ref q ∧ AtM M i q (.dk kvs) ∧ getD kvs ky = some d ∧ Q d M
theorem RF.valS {H : Hp} {ky : Key} {d : DV} {kvs : List (Key × DV)} {vs : List (Key × V)} (r : RF K H kvs vs) (h : getD kvs ky = some d) : ∃ v, valV vs ky = some v ∧ RD K H d v := by
  rcases r.val (k := ky) with ⟨z, _⟩ | ⟨d', v, z1, z2, z3⟩
  · rw [h] at z
    cases z
  · rw [h] at z1
    cases z1
    exact ⟨v, z2, z3⟩
theorem we_dgetS {x : Str} {j : Nat} {cp : Pos} (F : Fx X P w K mg base sc N L C Gs Bs k) (h : WE X ρ M o fun d M1 => DgD M1 d (.inr x) Q) : WE X ρ M (.Subscript o (.Constant (.str x) j cp) pos) Q := fun σ H rs m => by
  have hu := F.room.un
  refine wE.of (pe_dget (by omega) pe_w pe_str (fun ov iv => rfl)) ?_
  refine (h σ H rs m).mono fun v H1 ⟨d, M1, h1, h2, h3, q, i, kvs, d', e1, e2, e3, e4⟩ => ?_
  subst e1
  cases h1
  obtain ⟨vs, f1, f2⟩ := h2.at e2.ix
  obtain ⟨v', g1, g2⟩ := f2.valS e3
  exact ⟨q, v', rfl, .inl ⟨vs, .inr x, .inl f1, rfl, g1.symm⟩, d', M1, g2, h2, h3, e4⟩
instance {q : Addr} {i : Nat} {kvs : List (Key × DV)} {ky : Key} [A : AtM M i q (.dk kvs)] : Step (DgD M (.ref q) ky Q) true (∃ d, getD kvs ky = some d ∧ Q d M) := ⟨fun _ ⟨d, h1, h2⟩ => ⟨q, i, kvs, d, rfl, A, h1, h2⟩⟩
theorem ws_dputS {x : Str} {j : Nat} {cp tp : Pos} {v : Expr} {nx bk ct : Ro → Mm → Prop} {rt : DV → Mm → Prop} (F : Fx X P w K mg base sc N L C Gs Bs k) (hsw : swapsWith v (some (.Subscript o (.Constant (.str x) j cp) tp)) pos.line X.env = pure false)
    (h : WE X ρ M v fun dv M1 => WE X ρ M1 o fun d M2 => ∃ q i kvs, d = .ref q ∧ AtM M2 i q (.dk kvs) ∧ kvs.length < sizeLine ∧ nx ρ (M2.set i (q, .dk (putD kvs (.inr x) dv)))) : WS X ρ M (.Assign [.Subscript o (.Constant (.str x) j cp) tp] v pos) nx rt bk ct := fun σ H rs m => by
  have hu := F.room.un
  refine wS.of (ps_dput (by omega) pe_w pe_str pe_w hsw) ?_
  refine (h σ H rs m).mono fun vv H1 ⟨dv, M1, h1, h2, h3, h4⟩ => ?_
  refine (h4 σ H1 (rs.mono h3) h2).mono fun vd H2 ⟨d, M2, k1, k2, k3, q, i, kvs, e1, e2, e3, e4⟩ => ?_
  subst e1
  cases k1
  obtain ⟨vs, f1, f2⟩ := k2.at e2.ix
  have st : Stay X.K H2 (upd H2 q (.dK (putK vs (.inr x) vv))) := Stay.write (wr_dk f1)
  refine ⟨q, _, rfl, DPut.k (k := .inr x) f1 (by rw [← f2.len]; exact e3), ρ, _, (rs.mono (h3.trans k3)).mono st, k2.write (q' := .dk (putD kvs (.inr x) dv)) e2.ix (wr_dk f1) ⟨_, upd_same, (f2.mono st).put ((h1.mono k3).mono st)⟩, (h3.trans k3).trans st, e4⟩
theorem we_dict2 {k1 k2 v1 v2 : Expr} (h : ∀ q, WE X ρ ((q, .dk []) :: M) k1 fun a1 M1 => WE X ρ M1 v1 fun b1 M2 => WE X ρ M2 k2 fun a2 M3 => WE X ρ M3 v2 fun b2 M4 => ∃ i x1 x2, AtM M4 i q (.dk []) ∧ a1 = keyD x1 ∧ a2 = keyD x2 ∧ x1 ≠ x2 ∧ Q (.ref q) (M4.set i (q, .dk [(x1, b1), (x2, b2)]))) : WE X ρ M (.Dict [some k1, some k2] [v1, v2] pos) Q := fun σ H rs m => by
  refine wE.of (pe_disp (pps_cons pe_w pe_w (pps_cons pe_w pe_w pps_nil)) rfl rfl (by simp) (by simp)) fun q hq => ?_
  have s0 : Stay X.K H (upd H q (.dK [])) := Stay.new hq
  have m0 : RM X.K (upd H q (.dK [])) ((q, .dk []) :: M) := m.cons (q := .dk []) hq ⟨[], upd_same, .nil⟩
  show wE X k1 σ _ _
  refine (h q σ _ (rs.mono s0) m0).mono fun u1 H1 ⟨a1, M1, c1, c2, c3, c4⟩ => ?_
  show wE X v1 σ _ _
  refine (c4 σ H1 (rs.mono (s0.trans c3)) c2).mono fun w1 H2 ⟨b1, M2, d1, d2, d3, d4⟩ => ?_
  show wE X k2 σ _ _
  refine (d4 σ H2 (rs.mono ((s0.trans c3).trans d3)) d2).mono fun u2 H3 ⟨a2, M3, f1, f2, f3, f4⟩ => ?_
  show wE X v2 σ _ _
  refine (f4 σ H3 (rs.mono (((s0.trans c3).trans d3).trans f3)) f2).mono fun w2 H4 ⟨b2, M4, g1, g2, g3, i, x1, x2, g4, g5, g6, g7, g8⟩ => ?_
  subst g5 g6
  obtain ⟨vs, y1, y2⟩ := g2.at g4.ix
  cases y2
  have e1 : u1 = kV x1 := by cases x1 <;> cases c1 <;> rfl
  have e2 : u2 = kV x2 := by cases x2 <;> cases f1 <;> rfl
  subst e1 e2
  have em : mergeK [] [(x1, w1), (x2, w2)] = [(x1, w1), (x2, w2)] := by
    show putK (putK [] x1 w1) x2 w2 = _
    have p1 : putK [] x1 w1 = [(x1, w1)] := rfl
    rw [p1]
    unfold putK
    rw [if_neg (by simp [g7])]
    rfl
  have st : Stay X.K H4 (upd H4 q (.dK [(x1, w1), (x2, w2)])) := Stay.write (wr_dk y1)
  refine ⟨y1, [(x1, w1), (x2, w2)], rfl, by simp, ?_⟩
  rw [em]
  exact ⟨.ref q, _, .ref q, g2.write (q' := .dk [(x1, b1), (x2, b2)]) g4.ix (wr_dk y1) ⟨_, upd_same, .cons (((d1.mono f3).mono g3).mono st) (.cons (g1.mono st) .nil)⟩, ((((s0.trans c3).trans d3).trans f3).trans g3).trans st, g8⟩
def pairD (kv : Key × DV) : DV := .tup [keyD kv.1, kv.2]
theorem key_rd {H : Hp} {ky : Key} : RD K H (keyD ky) (kV ky) := by
  cases ky with
  | inl i => exact .int i
  | inr x => exact .str x
theorem pairs_rd {H : Hp} : ∀ {kvs : List (Key × DV)} {vs : List (Key × V)} {ts : List Addr}, RF K H kvs vs → Paired (fun (t : Addr) (q : Key × V) => H t = some (.tup [kV q.1, q.2])) ts vs → RDs K H (kvs.map pairD) (ts.map V.ref)
  | _, _, _, .nil, .nil => .nil
  | _, _, _, .cons r t, .cons h t' => .cons (.tup (SqT.of h) (.cons key_rd (.cons r .nil))) (pairs_rd t t')
theorem we_listItems {lp cp : Pos} (F : Fx X P w K mg base sc N L C Gs Bs k) (g1 : ("list" : Str) ∈ Gs) (g2 : ("list" : Str) ∈ Bs) (ho : notCall o = true) (hl : (apos.endLine == cp.line) = true)
    (h : WE X ρ M o fun d M1 => ∃ q i kvs, d = .ref q ∧ AtM M1 i q (.dk kvs) ∧ ∀ r, Q (.ref r) ((r, .lst (kvs.map pairD)) :: M1)) : WE X ρ M (.Call (.Name "list" lp) [.Call (.Attribute o "items" apos) [] [] cp] [] pos) Q := fun σ H rs m => by
  refine wE.of (LiI.pe_listItems F.calm pe_w (F.gl _ g1).1 (by rw [F.hmg]; exact F.bl _ g2) boot_list (attrBase ho) hl (starEach_cons rfl)) ?_
  refine (h σ H rs m).mono fun v H1 ⟨d, M1, h1, h2, h3, q, i, kvs, e1, e2, e3⟩ => ?_
  subst e1
  cases h1
  obtain ⟨vs, f1, f2⟩ := h2.at e2.ix
  refine ⟨q, vs, rfl, f1, fun H' r ts ex hr hts hn hl hp => ?_⟩
  have st : Stay X.K H1 H' := ⟨fun a xs h => ex _ _ h, fun a o u h => ex _ _ h, fun a q h => ex _ _ h, fun a fs h => ex _ _ h⟩
  have m' := h2.ext ex
  refine ⟨.ref r, (r, .lst (kvs.map pairD)) :: M1, .ref r, ⟨?_, fun a u hm => ?_⟩, h3.trans st, e3 r⟩
  · rw [List.map_cons, List.nodup_cons]
    refine ⟨fun hm => ?_, h2.nd⟩
    obtain ⟨⟨b, y⟩, hb, e⟩ := List.mem_map.mp hm
    obtain ⟨u, hu⟩ := (h2.ok b y hb).some
    have e : b = r := e
    rw [e, hr] at hu
    cases hu
  · rcases List.mem_cons.mp hm with e | e
    · cases e
      exact ⟨_, hl, pairs_rd (f2.mono st) hp⟩
    · exact m'.ok a u e
def mergeD (kvs more : List (Key × DV)) : List (Key × DV) := more.foldl (fun acc kv => putD acc kv.1 kv.2) kvs
theorem RF.merge {H : Hp} {more : List (Key × DV)} {ws : List (Key × V)} (h : RF K H more ws) : ∀ {kvs : List (Key × DV)} {vs : List (Key × V)}, RF K H kvs vs → RF K H (mergeD kvs more) (mergeK vs ws) := by
  induction h with
  | nil => exact fun q => q
  | cons r _ ih => exact fun q => ih (q.put r)
theorem pairs_of_rd {H : Hp} : ∀ {kvs : List (Key × DV)} {us : List V}, RDs K H (kvs.map pairD) us → ∃ (ps : List Addr) (vs : List (Key × V)), us = ps.map V.ref ∧ Paired (fun p kv => SqT K H p [kV kv.1, kv.2]) ps vs ∧ RF K H kvs vs
  | [], _, .nil => ⟨[], [], rfl, .nil, .nil⟩
  | kv :: kvs, _, .cons r t => by
    obtain ⟨ps, vs, e, h1, h2⟩ := pairs_of_rd t
    subst e
    unfold pairD at r
    cases r with
    | tup sq rr =>
      cases rr with
      | cons ra rb =>
        cases rb with
        | cons rc rd =>
          cases rd
          rename_i a vk vv
          have ek : vk = kV kv.1 := by
            obtain ⟨ky, d⟩ := kv
            cases ky <;> cases ra <;> rfl
          subst ek
          exact ⟨_ :: ps, (kv.1, vv) :: vs, rfl, .cons sq h1, .cons rc h2⟩
theorem we_dictP {lp : Pos} (F : Fx X P w K mg base sc N L C Gs Bs k) (g1 : ("dict" : Str) ∈ Gs) (g2 : ("dict" : Str) ∈ Bs) (hs : isStar e = false)
    (h : WE X ρ M e fun d M1 => ∃ q i kvs, d = .ref q ∧ AtM M1 i q (.lst (kvs.map pairD)) ∧ ∀ r, Q (.ref r) ((r, .dk (mergeD [] kvs)) :: M1)) : WE X ρ M (.Call (.Name "dict" lp) [e] [] pos) Q := fun σ H rs m pins s I => by
  refine Call_ (ld_blt I (F.gl _ g1).1 (by rw [F.hmg]; exact F.bl _ g2) boot_dict (PyProof.Rows.callWith_type1 (one_arg pe_w I (h σ H rs m) (fun v s2 x H2 I2 r q => ?_) (starEach_cons hs)) (starEach_cons hs)))
  obtain ⟨d, M1, q1, q2, q3, l, i, kvs, e1, e2, e3⟩ := q
  subst e1
  cases q1
  obtain ⟨us, f1, f2⟩ := q2.at e2.ix
  obtain ⟨ps, vs, rfl, g3, g4⟩ := pairs_of_rd f2
  refine call_dictP F.calm pins s2 σ H2 [.ref l] [v] _ I2 (.cons r .nil) ⟨l, ps, vs, rfl, SqL.of f1, g3, fun p hp => ?_⟩
  exact ⟨.ref p, _, .ref p, q2.cons (q := .dk (mergeD [] kvs)) hp ⟨_, upd_same, (RF.merge g4 .nil).mono (Stay.new hp)⟩, q3.trans (Stay.new hp), e3 p⟩
end
end G
namespace G
open PySem PySem.Spec PyProof.Rows L2
open PySem.Sem (wp)
/-! ### enumerate(t), t a tuple -/
theorem meets_enumB1 {v : Value} {o : Obj} {H : Heap → Prop} (B : Begins v o H) :
    Meets (Builtin.«enumerate.__new__» ⟨[.type "enumerate", v], []⟩) (fun _ R s => H s.heap ∧
      R (.ok (.ret (.ref (s.heap.push o).objs.size))) { s with heap := (s.heap.push o).push { cls := .type "enumerate", data := .fields #[.none, .bool false, .ref s.heap.objs.size, rawInt 0, .none, .none] } }) :=
  .of_wp fun prog w A R s h => by
    obtain ⟨hp, g, d, tk, os⟩ := s; obtain ⟨h1, h⟩ := h
    have hsub := sub_enumerate
    have q1 : ∀ {A' : Around} {E : Value → Shared → Prop} {Q : Value → Shared → Prop}, Q (.ref hp.objs.size) ⟨hp.push o, g, d, tk, os⟩ → wpAny (model prog w) A' (pyIter v) Q E ⟨hp, g, d, tk, os⟩ :=
      fun q => B.iter prog w _ _ ⟨hp, g, d, tk, os⟩ _ h1 q
    wp_walk using q1
    refine wpAny_stack_any fun st => wpAny_pure ?_
    split
    · rename_i c _ _ _ _ _
      cases (c == Value.type "enumerate")
      · wp_walk using q1
        exact ⟨_, rfl, h⟩
      · wp_walk using q1
        exact ⟨_, rfl, h⟩
    · wp_walk using q1
      exact ⟨_, rfl, h⟩
theorem enum_begins1 {prog : Program} {w : World} {A : Around} {E : Value → Shared → Prop} {s : Shared} {v : Value} {o : Obj} {H : Heap → Prop} {Q : Value → Shared → Prop} (B : Begins v o H) (h1 : H s.heap)
    (h : ∀ h', IsEnum h' (s.heap.objs.size + 1) s.heap.objs.size 0 .none → h'.get? s.heap.objs.size = some o → h'.objs.size = s.heap.objs.size + 2 →
      (∀ b o, s.heap.get? b = some o → h'.get? b = some o) → Q (.ref (s.heap.objs.size + 1)) { s with heap := h' }) :
    wpAny (model prog w) A (call (.type "enumerate") [v]) Q E s := by
  refine callType_new PySem.F.called_enumerate (by decide) (PySem.F.typeCall_enumerate_1 _) (PySem.F.newCall_enumerate_1 _) (fun obj => PySem.F.args_object_init_2 obj _) PySem.F.entry_enumerate_new (meets_enumB1 B) ⟨h1, ?_⟩
  have hz : (s.heap.push o).objs.size = s.heap.objs.size + 1 := Heap.size_push ..
  show _ ∧ _
  rw [hz]
  have he : IsEnum ((s.heap.push o).push { cls := .type "enumerate", data := .fields #[.none, .bool false, .ref s.heap.objs.size, rawInt 0, .none, .none] }) (s.heap.objs.size + 1) s.heap.objs.size 0 .none := by
    have := Heap.get?_push_size (s.heap.push o) (o := { cls := .type "enumerate", data := .fields #[.none, .bool false, .ref s.heap.objs.size, rawInt 0, .none, .none] }) rfl
    rw [hz] at this; exact this
  refine ⟨⟨_, he, rfl⟩, h _ he (Heap.get?_push_of_some _ (Heap.get?_push_size _ B.free)) (by rw [Heap.size_push, hz]) fun b o x => Heap.get?_push_of_some _ (Heap.get?_push_of_some _ x)⟩
/-- the tuple at a, each item in a new pair -/
def IteT (K : PySem.W.Frag) (a : Addr) : It :=
  ⟨fun i H => ∃ (xs : List V) (x : V), SqT K H a xs ∧ xs[i]? = some x, fun i H v H' => ∃ T x, v = .ref T ∧ H T = none ∧ H' = upd H T (.tup [.int (i : Nat), x]) ∧ ∀ xs, SqT K H a xs → xs[i]? = some x, fun i H => ∃ xs : List V, SqT K H a xs ∧ xs.length ≤ i⟩
theorem turn_enumT {P : Program} {w : World} {K : PySem.W.Frag} {elts : List Expr} {kk : Nat} {tpos : Pos} (a e it : Addr) (hai : a ≠ it) (hae : a ≠ e) :
    Turn P w K (.Tuple elts kk tpos) (IteT K a) [e, it] e (fun i h => (∃ old, IsEnum h e it ((i : Nat) : Int) old) ∧ h.IsTupleIter it a i ∧ e ≠ it) where
  mem := by simp
  obj := fun i h st b hb => by
    obtain ⟨⟨old, he⟩, ⟨o, ho, hc, hd⟩, _⟩ := st
    have e' : b = e ∨ b = it := by simpa using hb
    rcases e' with z | z
    · rw [z]; exact ⟨_, he, fun v q => nomatch q⟩
    · rw [z]; exact ⟨o, ho, fun v q => by rw [hd] at q; cases q⟩
  keep := fun i h h' st k => let ⟨⟨old, he⟩, hi, hne⟩ := st; ⟨⟨old, k e (by simp) _ he⟩, hi.at fun o q => k it (by simp) o q, hne⟩
  item := by
    intro X hP hw hK hc i pins s σ H E I hf st hg
    subst hP hw hK
    obtain ⟨⟨old, he⟩, hit, hne⟩ := st
    obtain ⟨xs, x, hq, hx⟩ := hg
    obtain ⟨its, rv, p, hz⟩ := I.tuple hq
    obtain ⟨u, hu, ru⟩ := rv.get hx
    have hel : e < s.heap.objs.size := Heap.lt_size he
    have hil : it < s.heap.objs.size := by obtain ⟨_, q, _⟩ := hit; exact Heap.lt_size q
    have D : Draws X.prog X.w X.A.in1 it [it, a] its.toArray.size _ _ := Draws.tuple (A := X.A.in1) (show X.A.handled = none from I.ok.hd hc) it a hai its.toArray
    refine wpAny_pyNext_enum_itemD D he ⟨hit, show s.heap.IsTuple a its.toArray from p⟩ (by simpa using (List.getElem?_eq_some_iff.mp hu).1) hne (by simp [hne, hae.symm]) fun u' h' tk hu' ho hit' hT hsz hk => ?_
    have eu : u' = u := by
      have hu' : its.toArray[i]? = some u' := hu'
      rw [List.getElem?_toArray, hu] at hu'
      exact (Option.some.inj hu').symm
    subst eu
    refine ⟨_, rfl, wpAny_letOwnedTupleGo_enum (s := { s with heap := h', toks := tk + 1 }) ho fun h'' he' sb => ?_⟩
    have hT2 : h''.get? s.heap.objs.size = some { cls := .type "tuple", data := .seq #[.int i tk, u'] } := (sb.2 _ (Nat.ne_of_gt hel)).trans hT
    have new : ObjOk X.prog X.w (upd H s.heap.objs.size (.tup [.int (i : Nat), x])) h'' s.heap.objs.size (.tup [.int (i : Nat), x]) :=
      ⟨by show 2 ≤ sizeLine; decide, [.int i tk, u'], .cons ⟨_, rfl⟩ (.cons ru .nil), ⟨_, hT2, rfl, _, rfl⟩⟩
    have I1 : Inv X pins σ (upd H s.heap.objs.size (.tup [.int (i : Nat), x])) { s with heap := h'', toks := tk + 1 } :=
      I.turnedNew (ch := [e, it]) (fun b ob hb q => (sb.2 b (fun z => hb (by simp [z]))).trans (hk b ob (fun z => hb (by simp [z])) (fun z => hb (by simp [z])) q)) hf (Nat.le_refl _) new
    refine ⟨.ref s.heap.objs.size, _, I1, rfl, ⟨_, x, rfl, I.hok.fresh (Nat.le_refl _), rfl, fun ys hy => by rw [I.tuple_inj hy hq]; exact hx⟩, ⟨⟨u', ?_⟩, hit'.1.at fun o q => (sb.2 it (Ne.symm hne)).trans q, hne⟩, fun b hb => ?_⟩
    · have e1 : ((i + 1 : Nat) : Int) = (i : Int) + 1 := by omega
      rw [e1]; exact he'
    · have hb' : b < s.heap.objs.size := by
        have e' : b = e ∨ b = it := by simpa using hb
        rcases e' with z | z
        · rw [z]; exact hel
        · rw [z]; exact hil
      rw [upd_ne (Nat.ne_of_lt hb')]
      exact (hf b hb).1
  done := by
    intro X hP hw hK hc i pins s σ H E I hf st hg
    subst hP hw hK
    obtain ⟨⟨old, he⟩, hit, hne⟩ := st
    obtain ⟨xs, hq, hx⟩ := hg
    obtain ⟨its, rv, p, hz⟩ := I.tuple hq
    obtain ⟨f0, f1, f2, f3, f4, f5⟩ := hf it (by simp)
    have hl := rv.length
    have D : Draws X.prog X.w X.A.in1 it [it, a] i (fun j v => its.toArray[j]? = some v ∧ False) (fun j h => h.IsTupleIter it a j ∧ h.IsTuple a its.toArray ∧ (j = i ∨ False)) := by
      refine ⟨fun _ _ st => let ⟨o, ho, _⟩ := st.1; ⟨o, ho⟩, fun _ _ _ st hk => ⟨st.1.at fun o e => hk it (by simp) o e, st.2.1.at fun o e => hk a (by simp) o e, st.2.2⟩, fun j s Q E hj st hQ => ?_, fun s Q E st hE => ?_⟩
      · rcases st.2.2 with z | z
        · exact absurd hj (by omega)
        · exact z.elim
      · exact wpAny_nextOf_tuple_end (show X.A.in1.handled = none from I.ok.hd hc) st.1 st.2.1 (by simp; omega) hE
    exact wpAny_pyNext_enum_endD D he ⟨hit, show s.heap.IsTuple a its.toArray from p, .inl rfl⟩ fun h' eb => ⟨rfl, I.turned (t' := s.toks) (fun b o hb q => eb b o hb q) f0 f1 f3 f4 f5⟩
  self := fun A i s Q E st h => let ⟨⟨_, he⟩, _⟩ := st; wpAny_pyIter_enum he h
def iEnumT (K : PySem.W.Frag) (ta : TA) : TI := fun σ H R => ta σ H fun vs H1 => ∃ a xs, vs = [.ref a] ∧ SqT K H1 a xs ∧ R (IteT K a) H1
theorem pi_enumT {X : Cx} {e : Expr} {ta : TA} {p pos tpos : Pos} {elts : List Expr} {kk : Nat} (hg : Gl X "enumerate") (hm : X.mg "enumerate" = none) (ha : PA X [e] ta) (hs : starEach [e] X.env = [(false, eval e X.env)] := by rfl) :
    PI X (.Tuple elts kk tpos) (.Call (.Name "enumerate" p) [e] [] pos) (iEnumT X.K ta) := by
  refine ⟨fun pins s σ H R I h => ?_⟩
  refine Call_ (ld_blt I hg hm boot_enumerate (PyProof.Rows.callWith_type1 (thn (ha.run pos pins s σ H _ I h) fun us s1 ⟨vs, H1, I1, r1, q1⟩ => ?_) hs rfl))
  obtain ⟨a, xs, ex, hq, q⟩ := q1
  subst ex
  cases r1 with
  | cons r rr =>
    cases rr
    cases r
    obtain ⟨its, rv, p', hz⟩ := I1.tuple hq
    have hal : a < s1.heap.objs.size := p'.lt
    refine enum_begins1 (begins_tuple a its.toArray) (show s1.heap.IsTuple a its.toArray from p') fun h' he hit hsz hk => wpAny_pyIter_enum he ?_
    have I2 : Inv X pins σ H1 { s1 with heap := h' } := I1.kept (t' := s1.toks) hk
    refine ⟨s1.heap.objs.size + 1, [s1.heap.objs.size + 1, s1.heap.objs.size], _, _, H1, rfl, I2, turn_enumT a (s1.heap.objs.size + 1) s1.heap.objs.size (Nat.ne_of_lt hal) (Nat.ne_of_lt (Nat.lt_succ_of_lt hal)), ⟨⟨.none, he⟩, ⟨_, hit, rfl, rfl⟩, Nat.succ_ne_self _⟩, fun b hb => ?_, q⟩
    have e' : b = s1.heap.objs.size + 1 ∨ b = s1.heap.objs.size := by simpa using hb
    have hle : s1.heap.objs.size ≤ b := by
      rcases e' with z | z
      · rw [z]; exact Nat.le_add_right _ _
      · rw [z]; exact Nat.le_refl _
    exact I1.fpOk hle (I1.hok.fresh hle)
section
variable {X : Cy} {P : Program} {w : World} {K : Fg} {mg : Str → Option Value} {base : Heap} {sc : Scope} {N L C Gs Bs : List Str} {k : Nat} {ρ : Ro} {M : Mm} {e : Expr} {pos p : Pos}
theorem it_enumT {H0 : Hp} {a : Addr} {ds : List DV} {vs : List V} (sq : SqT K H0 a vs) (r : RDs K H0 ds vs) : ItD K H0 (IteT K a) ds.length (fun i => .tup [.int (i : Int), ds.getD i .non]) (fun _ => True) where
  go := fun i H M st m _ hi => by
    obtain ⟨v, h1, h2⟩ := r.get (List.getElem?_eq_getElem hi)
    exact ⟨vs, v, st.sqt sq, h1⟩
  yld := fun i H M v H' st m _ hi ⟨T, x, e0, hT, e1, e2⟩ => by
    subst e0 e1
    obtain ⟨v', h1, h2⟩ := r.get (List.getElem?_eq_getElem hi)
    have := e2 vs (st.sqt sq)
    rw [h1] at this
    cases this
    refine ⟨.tup (SqT.of upd_same) (.cons (.int _) (.cons ?_ .nil)), Stay.new hT, m.new hT⟩
    rw [List.getD_eq_getElem?_getD, List.getElem?_eq_getElem hi]
    exact (h2.mono st).mono (Stay.new hT)
  stop := fun H M st m _ => ⟨vs, st.sqt sq, by rw [r.length]; exact Nat.le_refl _⟩
theorem wi_enumT {elts : List Expr} {kk : Nat} {tpos : Pos} {R : Nat → (Nat → DV) → (Mm → Prop) → Mm → Prop} (F : Fx X P w K mg base sc N L C Gs Bs k) (hx : ("enumerate" : Str) ∈ Gs) (hx2 : ("enumerate" : Str) ∈ Bs) (hs : isStar e = false)
    (h : WE X ρ M e fun d M1 => ∃ ds, d = .tup ds ∧ R ds.length (fun i => .tup [.int (i : Int), ds.getD i .non]) (fun _ => True) M1) : WI X ρ M (.Tuple elts kk tpos) (.Call (.Name "enumerate" p) [e] [] pos) R := by
  obtain ⟨g1, g2, g3⟩ := F.gl _ hx
  refine ⟨_, pi_enumT g1 (by rw [F.hmg]; exact F.bl _ hx2) (pa_cons pe_w pa_nil (starEach_cons hs)) (by rw [starEach_cons hs]; rfl), fun σ H rs m => ?_⟩
  refine (h σ H rs m).mono fun v H1 ⟨d, M1, h1, h2, h3, ds, e, h5⟩ => ?_
  subst e
  cases h1 with
  | tup sq r => exact ⟨_, _, rfl, sq, _, _, _, M1, it_enumT sq r, h2, h3, h5⟩
end
end G
namespace G
open PySem PySem.Spec PyProof.Rows L2
/-! ### list(range(n)) -/
def natsD (l : List Nat) : List DV := l.map fun x : Nat => .int (x : Int)
theorem natsD_len {l : List Nat} : (natsD l).length = l.length := by unfold natsD; rw [List.length_map]
theorem natsD_get {l : List Nat} {i : Nat} (h : i < l.length) : (natsD l).getD i .non = .int ((l[i] : Nat) : Int) := by
  unfold natsD
  rw [List.getD_eq_getElem?_getD, List.getElem?_map, List.getElem?_eq_getElem h]
  rfl
theorem natsD_at {l : List Nat} {i x : Nat} (h : l[i]? = some x) : atI (natsD l) (i : Int) = some (.int (x : Int)) := by
  refine atI_nat ?_
  unfold natsD
  rw [List.getElem?_map, h]
  rfl
theorem natsD_app {l r : List Nat} : natsD (l ++ r) = natsD l ++ natsD r := by unfold natsD; rw [List.map_append]
theorem rds_nats {K : Fg} {H : Hp} {l : List Nat} : RDs K H (natsD l) (l.map fun x : Nat => .int (x : Int)) := by
  unfold natsD
  induction l with
  | nil => exact .nil
  | cons a l ih => exact .cons (.int _) ih
section
variable {X : Cy} {P : Program} {w : World} {K : Fg} {mg : Str → Option Value} {base : Heap} {sc : Scope} {N L C Gs Bs : List Str} {k : Nat} {ρ : Ro} {M : Mm} {Q : DV → Mm → Prop} {e : Expr} {p p2 pos pos2 : Pos}
theorem we_listRg (F : Fx X P w K mg base sc N L C Gs Bs k) (g1 : ("list" : Str) ∈ Gs) (g2 : ("list" : Str) ∈ Bs) (g3 : ("range" : Str) ∈ Gs) (g4 : ("range" : Str) ∈ Bs) (hs : isStar e = false)
    (h : WE X ρ M e fun d M1 => ∃ n : Nat, d = .int (n : Int) ∧ n ≤ 16777216 ∧ ∀ q, Q (.ref q) ((q, .lst (natsD (List.range n))) :: M1)) : WE X ρ M (.Call (.Name "list" p) [.Call (.Name "range" p2) [e] [] pos2] [] pos) Q := fun σ H rs m => by
  refine wE.of (pe_listRg F.calm (F.gl _ g1).1 (by rw [F.hmg]; exact F.bl _ g2) (prg_1 (F.gl _ g3).1 (by rw [F.hmg]; exact F.bl _ g4) pe_w (starEach_cons hs)) (starEach_cons rfl)) ?_
  refine (h σ H rs m).mono fun v H1 ⟨d, M1, h1, h2, h3, n, e, hn, q⟩ => ?_
  subst e
  cases h1
  refine ⟨(n : Int), rfl, RgOk.of_le (by omega) (by omega) (by omega) (by omega), fun l hl => ⟨.ref l, _, .ref l, h2.cons (q := .lst (natsD (List.range n))) hl ⟨_, upd_same, ?_⟩, h3.trans (Stay.new hl), q l⟩⟩
  have e : rgV 0 (n : Int) = (List.range n).map fun x : Nat => .int (x : Int) := by
    unfold rgV
    rw [show ((n : Int) - 0).toNat = n by omega]
    refine List.map_congr_left fun x _ => ?_
    rw [Int.zero_add]
  rw [e]
  exact rds_nats
end
/-! ### closures by places -/
theorem ClD.mk {X : Cy} {P : Program} {w : World} {K : Fg} {mg : Str → Option Value} {base : Heap} {sc : Scope} {N L C Gs Bs : List Str} {k : Nat} {ρ : Ro} {q : Str} {params : Arguments} {body : Expr} {scope : Scope} {ds : List DV} (F : Fx X P w K mg base sc N L C Gs Bs k) (js : List Nat) (hl : lamC sc scope = true) (e1 : (frOf scope).map some = js.map fun j => N[j]?) (e2 : js.map (fun j => ρ[j]?) = ds.map fun d => some (some d)) :
    ClD X N ρ (.lam ⟨q, params, body, scope, frOf scope⟩ (cloFrom X.env.cells scope.names [])) (.clo ⟨q, params, body, scope, frOf scope⟩ ds) := by
  have l1 : (frOf scope).length = js.length := by have := congrArg List.length e1; simpa using this
  have l2 : js.length = ds.length := by have := congrArg List.length e2; simpa using this
  refine .lam rfl (by show ds.length = (frOf scope).length; omega) fun i y hy => ?_
  have hy : (frOf scope)[i]? = some y := hy
  have hi : i < (frOf scope).length := (List.getElem?_eq_some_iff.mp hy).1
  have a1 : (List.map some (frOf scope))[i]? = (js.map fun j => N[j]?)[i]? := by rw [e1]
  have a2 : (js.map fun j => ρ[j]?)[i]? = (ds.map fun d => some (some d))[i]? := by rw [e2]
  rw [List.getElem?_map, List.getElem?_map, hy, List.getElem?_eq_getElem (by omega : i < js.length)] at a1
  rw [List.getElem?_map, List.getElem?_map, List.getElem?_eq_getElem (by omega : i < js.length), List.getElem?_eq_getElem (by omega : i < ds.length)] at a2
  refine ⟨js[i], ds[i], (Option.some.inj a1).symm, Option.some.inj a2, List.getElem?_eq_getElem _, ?_⟩
  have := lamC_ok hl y (mem_frOf.mp (List.mem_of_getElem? hy))
  rw [← F.hsc] at this
  exact this
/-! ### a lambda by its place in the text -/
def stE : Stmt → Expr
  | .Return (some e) _ => e
  | .Assign _ e _ => e
  | _ => .Constant .none 0 ⟨0, 0, 0, 0⟩
def kwE : Expr → Nat → Expr
  | .Call _ _ kws _, i => match kws[i]? with
    | some k => k.value
    | none => .Constant .none 0 ⟨0, 0, 0, 0⟩
  | e, _ => e
def lamOf (q : Str) (sc : Scope) : Expr → Lamb
  | .Lambda params body scope _ => ⟨q, params, body, scope, frOf scope⟩
  | e => ⟨q, ⟨[], [], none, [], [], none, []⟩, e, sc, []⟩
/-- the lambda at the keyword i of the call that stands in the j-th statement of a def -/
def lamAt (q : Str) (st : Stmt) (j i : Nat) : Lamb := lamOf q (defScope st) (kwE (stE ((defBody st).getD j (.Pass ⟨0, 0, 0, 0⟩))) i)
/-! ### what a statement leaves, said once for all its branches -/
theorem ws_join {X : Cy} {ρ : Ro} {M : Mm} {st : Stmt} {nx bk ct : Ro → Mm → Prop} {rt : DV → Mm → Prop} (J : Ro → Mm → Prop) (h : WS X ρ M st J rt bk ct) (q : ∀ ρ' M', J ρ' M' → nx ρ' M') : WS X ρ M st nx rt bk ct := fun σ H rs m =>
  (h σ H rs m).mono (fun _ _ ⟨a, b, c, d, e, f⟩ => ⟨a, b, c, d, e, q _ _ f⟩) (fun _ _ z => z) (fun _ _ z => z) (fun _ _ z => z)
end G
namespace G
open PySem PySem.Spec PyProof.Rows L2
/-! ### a tuple once, and not at all -/
section
variable {X : Cy} {P : Program} {w : World} {K : Fg} {ρ : Ro} {M : Mm} {Q : DV → Mm → Prop} {a b : Expr} {pos : Pos}
end
/-! ### a lambda that takes nothing from outside -/
end G
namespace G
open PySem PySem.Spec PyProof.Rows L2
/-! ### dicts whose keys are plain values of all sorts -/
def pix (xs : List PEnt) (k : NK) : Option Nat := xs.findIdx? fun x => decide (x.1 = k)
theorem pix_some {xs : List PEnt} {k : NK} (nd : (xs.map (·.1)).Nodup) {j : Nat} {x : PEnt} (h : xs[j]? = some x) (e : x.1 = k) : pix xs k = some j := by
  unfold pix
  obtain ⟨hj, hx⟩ := List.getElem?_eq_some_iff.mp h
  rw [List.findIdx?_eq_some_iff_getElem]
  refine ⟨hj, by rw [hx]; exact decide_eq_true e, fun i hi => ?_⟩
  have hil : i < xs.length := by omega
  intro z
  have z := of_decide_eq_true z
  have a1 : (xs.map (·.1))[i]'(by rw [List.length_map]; exact hil) = (xs.map (·.1))[j]'(by rw [List.length_map]; exact hj) := by
    rw [List.getElem_map, List.getElem_map, hx, z, e]
  have := (List.getElem_inj nd).mp a1
  omega
theorem pix_at {xs : List PEnt} {k : NK} {j : Nat} (h : pix xs k = some j) : ∃ x, xs[j]? = some x ∧ x.1 = k := by
  unfold pix at h
  obtain ⟨hj, h1, _⟩ := List.findIdx?_eq_some_iff_getElem.mp h
  exact ⟨xs[j], List.getElem?_eq_getElem hj, of_decide_eq_true h1⟩
theorem pix_none {xs : List PEnt} {k : NK} (h : ∀ (j : Nat) (x : PEnt), xs[j]? = some x → x.1 ≠ k) : pix xs k = none := by
  unfold pix
  rw [List.findIdx?_eq_none_iff]
  intro x hx
  obtain ⟨j, hj⟩ := List.mem_iff_getElem?.mp hx
  exact decide_eq_false (h j x hj)
theorem find_congr {α : Type} {l : List α} {p q : α → Bool} (h : ∀ x ∈ l, p x = q x) : l.findIdx? p = l.findIdx? q := by
  induction l with
  | nil => rfl
  | cons a l ih =>
    rw [List.findIdx?_cons, List.findIdx?_cons, h a List.mem_cons_self, ih fun x hx => h x (List.mem_cons_of_mem _ hx)]
section
variable {P : Program} {w : World} {A : Around} {E : Value → Shared → Prop} {s : Shared} {d : Addr} {o : Obj} {es : Array DictEntry} {ep : Nat} {xs : List PEnt} {k : NK} {key : Value} {Q : Option Nat → Shared → Prop}
/-- what is asked of a key -/
structure KeyAt (h : Heap) (k : NK) (v : Value) : Prop where
  is : NestedIs h k v
  dp : k.depth ≤ 8
theorem ent_at (he : es.toList = xs.map (penc w)) (j : Nat) : es[j]? = (xs[j]?).map (penc w) := by rw [← Array.getElem?_toList, he, List.getElem?_map]
theorem ent_size (he : es.toList = xs.map (penc w)) : es.size = xs.length := by rw [← Array.length_toList, he, List.length_map]
theorem eq_keys (hu : A.units + 8 < cLine) {k' : NK} {v' : Value} (h1 : KeyAt s.heap k' v') (h2 : KeyAt s.heap k key) {R : Bool → Shared → Prop} (q : R (decide (k' = k)) s) : wpAny (model P w) A (eqBool v' key) R E s := by
  have := h1.dp
  have := h2.dp
  refine eqAt_key k' k A s v' key h1.is h2.is (by omega) P w E R ?_
  rw [← NestedKey.decide_eq]
  exact q
theorem tell_keys (hk : KeyAt s.heap k key) {st : List Value} (hst : ∀ v ∈ st, ∃ k', KeyAt s.heap k' v) {R : Bool → Shared → Prop} (q : R false s) : wpAny (model P w) A (tableMayTell key st) R E s := by
  unfold tableMayTell
  split
  · exact wpAny_pure q
  · refine wpAny_bind (quiet_key k key 8 s hk.is hk.dp A E _ ?_)
    rw [if_neg (by decide)]
    refine wpAny_bind ?_
    refine wpAny_forIn_list _ (fun rest r s' => s' = s ∧ r = (none, ()) ∧ ∀ v ∈ rest, ∃ k', KeyAt s.heap k' v) _ ?_ ?_ _ _ ⟨rfl, rfl, hst⟩
    · rintro v rest r s' ⟨rfl, rfl, hr⟩
      obtain ⟨k', hb⟩ := hr v List.mem_cons_self
      refine wpAny_bind (quiet_key k' v 8 _ hb.is hb.dp A E _ ?_)
      rw [if_neg (by decide)]
      exact wpAny_pure ⟨rfl, rfl, fun u hm => hr u (List.mem_cons_of_mem _ hm)⟩
    · rintro r s' ⟨rfl, rfl, _⟩
      exact wpAny_pure q
theorem find_keys (hu : A.units + 8 < cLine) (hk : KeyAt s.heap k key) (ho : s.heap.get? d = some o) (hd : o.data = .dict es ep) (he : es.toList = xs.map (penc w)) (his : ∀ x ∈ xs, KeyAt s.heap x.1 x.2.1) (nd : (xs.map (·.1)).Nodup) (q : Q (pix xs k) s) :
    wpAny (model P w) A (dictFind d key (k.hash w)) Q E s := by
  have sz : es.size = xs.length := ent_size he
  have stored_ok : ∀ v ∈ (placesWithHash es.size (fun i => es[i]?.map (·.hash)) (k.hash w)).filterMap (fun i => es[i]?.map (·.key)), ∃ k', KeyAt s.heap k' v := fun v hv => by
    obtain ⟨i, _, hi⟩ := List.mem_filterMap.mp hv
    rw [ent_at he i] at hi
    cases hx : xs[i]? with
    | none => rw [hx] at hi; cases hi
    | some x =>
      rw [hx] at hi
      cases hi
      exact ⟨x.1, his x (List.mem_of_getElem? hx)⟩
  have pl_nd : (placesWithHash es.size (fun i => es[i]?.map (·.hash)) (k.hash w)).Nodup := by
    unfold placesWithHash
    exact List.Nodup.sublist List.filter_sublist List.nodup_range
  have pl_all : ∀ (j : Nat) (x : PEnt), xs[j]? = some x → x.1 = k → j ∈ placesWithHash es.size (fun i => es[i]?.map (·.hash)) (k.hash w) := fun j x hj e => by
    unfold placesWithHash
    have hl : j < xs.length := (List.getElem?_eq_some_iff.mp hj).1
    refine List.mem_filter.mpr ⟨List.mem_range.mpr (by omega), ?_⟩
    show (es[j]?.map (·.hash) == some (k.hash w)) = true
    rw [ent_at he j, hj]
    show (some (x.1.hash w) == some (k.hash w)) = true
    rw [e]
    simp
  have pl_in : ∀ j ∈ placesWithHash es.size (fun i => es[i]?.map (·.hash)) (k.hash w), ∃ x, xs[j]? = some x ∧ x.1.hash w = k.hash w := fun j hj => by
    unfold placesWithHash at hj
    obtain ⟨h1, h2⟩ := List.mem_filter.mp hj
    have hl : j < xs.length := by have := List.mem_range.mp h1; omega
    refine ⟨xs[j], List.getElem?_eq_getElem hl, ?_⟩
    have h2 : (es[j]?.map (·.hash) == some (k.hash w)) = true := h2
    rw [ent_at he j, List.getElem?_eq_getElem hl] at h2
    simpa [penc] using h2
  have plain : wpAny (model P w) A (dictWalkPlain d key (k.hash w) es (placesWithHash es.size (fun i => es[i]?.map (·.hash)) (k.hash w))) Q E s := by
    generalize placesWithHash es.size (fun i => es[i]?.map (·.hash)) (k.hash w) = pl at pl_nd pl_all pl_in
    unfold dictWalkPlain
    refine wpAny_bind ?_
    refine wpAny_forIn_list _ (fun rest b s' => s' = s ∧ b = (none, ()) ∧ (∀ (j : Nat) (x : PEnt), xs[j]? = some x → x.1 = k → j ∈ rest) ∧ ∀ j ∈ rest, ∃ x, xs[j]? = some x ∧ x.1.hash w = k.hash w) _ ?_ ?_ _ _ ⟨rfl, rfl, pl_all, pl_in⟩
    · rintro i rest b s' ⟨rfl, rfl, h1, h2⟩
      obtain ⟨x, hx, hh⟩ := h2 i List.mem_cons_self
      rw [ent_at he i, hx]
      show wpAny _ _ (if ((penc w x).hash == k.hash w) = true then _ else _) _ _ _
      rw [if_pos (show ((penc w x).hash == k.hash w) = true by show (x.1.hash w == k.hash w) = true; rw [hh]; simp)]
      refine wpAny_bind (wpAny_dictEpoch ho hd (wpAny_bind (eq_keys hu (his x (List.mem_of_getElem? hx)) hk (wpAny_bind (wpAny_dictEpoch ho hd ?_)))))
      show wpAny _ _ (if (ep != ep) = true then _ else _) _ E _
      rw [if_neg (by simp)]
      by_cases e : x.1 = k
      · rw [decide_eq_true e]
        rw [pix_some nd hx e] at q
        exact wpAny_bind (wpAny_rule (wpAny_pure (wpAny_pure q)))
      · rw [decide_eq_false e]
        refine wpAny_bind (wpAny_rule (wpAny_pure ⟨rfl, rfl, fun j y hj ey => ?_, fun j hj => h2 j (List.mem_cons_of_mem _ hj)⟩))
        rcases List.mem_cons.mp (h1 j y hj ey) with z | z
        · subst z
          rw [hx] at hj
          cases hj
          exact absurd ey e
        · exact z
    · rintro b s' ⟨rfl, rfl, h1, _⟩
      rw [pix_none fun j x hj e => by cases h1 j x hj e] at q
      exact wpAny_pure q
  unfold dictFind
  try with_reducible refine wpAny_holding ?_
  refine wpAny_bind (wpAny_dictEntries ho hd ?_)
  dsimp only
  by_cases hall : ((key :: (placesWithHash es.size (fun i => es[i]?.map (·.hash)) (k.hash w)).filterMap (fun i => es[i]?.map (·.key))).all carriedByValue) = true
  · have hk2 := hk
    cases hk.is with
    | none => rw [if_pos hall]; exact plain
    | bool e => rw [if_pos hall]; exact plain
    | int i t => rw [if_pos hall]; exact plain
    | tup h1 h2 h3 h4 => exact absurd hall (by simp [carriedByValue])
    | text y t =>
      by_cases hex : (es.all fun e => isExactStrKey e.key) = true
      · dsimp only
        rw [if_pos hex]
        have hf : es.findIdx? (fun e => e.key.isStr y) = pix xs (.text y) := by
          rw [show es = (xs.map (penc w)).toArray by rw [← he], List.findIdx?_toArray, List.findIdx?_map]
          refine find_congr fun x hx => ?_
          have hm : penc w x ∈ es := Array.mem_toList_iff.mp (by rw [he]; exact List.mem_map_of_mem hx)
          have hs := Array.all_eq_true'.mp hex _ hm
          have hs : isExactStrKey x.2.1 = true := hs
          have ki := (his x hx).is
          obtain ⟨k1, v1, u1⟩ := x
          cases ki with
          | none => cases hs
          | bool e => cases hs
          | int i t => cases hs
          | tup _ _ _ _ => cases hs
          | text z t' =>
            show (Value.str z t').isStr y = decide (NestedKey.text z = NestedKey.text y)
            by_cases ez : z = y
            · subst ez; simp [Value.isStr]
            · have : ¬ (NestedKey.text z = NestedKey.text y) := fun e => ez (NestedKey.text.inj e)
              rw [decide_eq_false this]; simp [Value.isStr, ez]
        unfold foundByValue
        rw [hf]
        cases hp : pix xs (.text y) with
        | none => rw [hp] at q; exact wpAny_pure q
        | some j =>
          rw [hp] at q
          obtain ⟨x, hx, ex⟩ := pix_at hp
          dsimp only
          rw [ent_at he j, hx]
          refine wpAny_bind (wpAny_dictEpoch ho hd (wpAny_bind (eq_keys hu (his x (List.mem_of_getElem? hx)) hk (wpAny_bind (wpAny_dictEpoch ho hd ?_)))))
          show wpAny _ _ (if (ep != ep) = true then _ else _) _ E _
          rw [if_neg (by simp), decide_eq_true ex]
          exact wpAny_bind (wpAny_rule (wpAny_pure q))
      · dsimp only
        rw [if_neg hex, if_pos hall]
        exact plain
  · have hany : ¬ (es.any fun e => e.key == key && e.hash != k.hash w) = true := fun z => by
      rw [← Array.any_toList, List.any_eq_true, he] at z
      obtain ⟨e, hm, z⟩ := z
      obtain ⟨x, hx, rfl⟩ := List.mem_map.mp hm
      rw [Bool.and_eq_true] at z
      have z1 : x.2.1 = key := by simpa [penc] using z.1
      have kx := (his x hx).is
      rw [z1] at kx
      have z2 := z.2
      rw [show (penc w x).hash = k.hash w by show x.1.hash w = _; rw [NestedIs.inj _ _ _ kx hk.is]] at z2
      simp at z2
    have hk2 := hk
    have nex : carriedByValue key = true → ¬ (es.all fun e => isExactStrKey e.key) = true := fun hc hex => hall (by
      rw [List.all_cons, hc, Bool.true_and, List.all_eq_true]
      intro v hv
      obtain ⟨i, _, hi⟩ := List.mem_filterMap.mp hv
      cases hei : es[i]? with
      | none => rw [hei] at hi; cases hi
      | some e =>
        rw [hei] at hi
        cases hi
        have := Array.all_eq_true'.mp hex e (Array.mem_of_getElem? hei)
        show carriedByValue e.key = true
        cases hek : e.key with
        | str a b => rfl
        | _ => rw [hek] at this; cases this)
    obtain ⟨k0, hk0⟩ : ∃ k0, k0 = k := ⟨k, rfl⟩
    have pl_all0 : ∀ (j : Nat) (x : PEnt), xs[j]? = some x → x.1 = k0 → j ∈ placesWithHash es.size (fun i => es[i]?.map (·.hash)) (k.hash w) := by rw [hk0]; exact pl_all
    have pl_in0 : ∀ j ∈ placesWithHash es.size (fun i => es[i]?.map (·.hash)) (k.hash w), ∃ x, xs[j]? = some x ∧ x.1.hash w = k0.hash w := by rw [hk0]; exact pl_in
    have q0 : Q (pix xs k0) s := by rw [hk0]; exact q
    have hkey0 : KeyAt s.heap k0 key := by rw [hk0]; exact hk
    have hh0 : k0.hash w = k.hash w := by rw [hk0]
    clear pl_all pl_in q hk2 hk0 plain
    cases hk.is
    case' none => dsimp only; rw [if_neg hall]
    case' bool => dsimp only; rw [if_neg hall]
    case' int => dsimp only; rw [if_neg hall]
    case' tup => dsimp only; rw [if_neg hall, if_neg hany]
    case' text => dsimp only; rw [if_neg (nex rfl), if_neg hall]
    all_goals
      refine iteInduction (motive := fun t => wpAny (model P w) A t Q E s) (fun _ => wpAny_bind (wpAny_pure ?_)) (fun _ => wpAny_bind (tell_keys hk stored_ok ?_))
    all_goals
      rw [if_neg (by simp)]
      refine wpAny_bind ?_
      refine wpAny_forIn_list _ (fun rest b s' => s' = s ∧ rest.Nodup ∧ (∀ j ∈ rest, ∃ x, xs[j]? = some x ∧ x.1.hash w = k0.hash w) ∧ ((b = (none, none) ∧ ∀ (j : Nat) (x : PEnt), xs[j]? = some x → x.1 = k0 → j ∈ rest) ∨ ∃ j, b = (none, some j) ∧ j ∉ rest ∧ pix xs k0 = some j)) _ ?_ ?_ _ _ ⟨rfl, pl_nd, pl_in0, .inl ⟨rfl, pl_all0⟩⟩
      · rintro i rest b s' ⟨rfl, hnd, h2, h1⟩
        obtain ⟨x, hx, hh⟩ := h2 i List.mem_cons_self
        obtain ⟨hnd1, hnd2⟩ := List.nodup_cons.mp hnd
        have h2' : ∀ j ∈ rest, ∃ x, xs[j]? = some x ∧ x.1.hash w = k0.hash w := fun j hj => h2 j (List.mem_cons_of_mem _ hj)
        rw [ent_at he i, hx]
        dsimp only [Option.map_some]
        rw [if_pos (show ((penc w x).hash == _) = true by rw [← hh0]; show (x.1.hash w == k0.hash w) = true; rw [hh]; simp)]
        refine wpAny_bind (wpAny_dictEpoch ho hd (wpAny_bind (eq_keys hu (his x (List.mem_of_getElem? hx)) hkey0 (wpAny_bind (wpAny_dictEpoch ho hd ?_)))))
        show wpAny _ _ (if (ep != ep) = true then _ else _) _ E _
        rw [if_neg (by simp)]
        by_cases e : x.1 = k0
        · rw [decide_eq_true e]
          have hp := pix_some nd hx e
          rcases h1 with ⟨rfl, h1⟩ | ⟨j, rfl, h3, h4⟩
          · rw [hp] at q0
            simp only [Option.isSome_none, Bool.false_eq_true, if_false, if_true]
            refine wpAny_bind (wpAny_rule ?_)
            refine iteInduction (motive := fun t => wpAny (model P w) A t _ E _) (fun _ => wpAny_pure (wpAny_pure q0)) (fun _ => wpAny_pure ⟨rfl, hnd2, h2', .inr ⟨i, rfl, hnd1, hp⟩⟩)
          · rw [hp] at h4
            cases h4
            exact absurd List.mem_cons_self h3
        · rw [decide_eq_false e]
          simp only [Bool.false_eq_true, if_false, Bool.false_and]
          refine wpAny_bind (wpAny_rule (wpAny_pure ⟨rfl, hnd2, h2', ?_⟩))
          rcases h1 with ⟨rfl, h1⟩ | ⟨j, rfl, h3, h4⟩
          · refine .inl ⟨rfl, fun j y hj ey => ?_⟩
            rcases List.mem_cons.mp (h1 j y hj ey) with z | z
            · subst z
              rw [hx] at hj
              cases hj
              exact absurd ey e
            · exact z
          · exact .inr ⟨j, rfl, fun z => h3 (List.mem_cons_of_mem _ z), h4⟩
      · rintro b s' ⟨rfl, _, _, h1⟩
        rcases h1 with ⟨rfl, h1⟩ | ⟨j, rfl, _, h4⟩
        · rw [pix_none fun j x hj e => by cases h1 j x hj e] at q0
          exact wpAny_pure q0
        · rw [h4] at q0
          exact wpAny_pure q0
end
end G
namespace G
open PySem PySem.Spec PyProof.Rows L2
/-! ### dicts of plain keys: get, set, del, in -/
section
variable {P : Program} {w : World} {A : Around} {E : Value → Shared → Prop} {s : Shared} {d : Addr} {xs : List PEnt} {k : NK} {key v : Value}
theorem PDict.ty {s : Shared} (h : PDict w s.heap d xs) : s.TypeIs (.ref d) "dict" := let ⟨_, _, _, o, _, _, h1, h2, _⟩ := h; ⟨o, h1, h2.1⟩
theorem PDict.at_ {h h' : Heap} (x : PDict w h d xs) (e : ∀ o, h.get? d = some o → h'.get? d = some o) : PDict w h' d xs := let ⟨a, b, c, o, es, ep, h1, h2⟩ := x; ⟨a, b, c, o, es, ep, e o h1, h2⟩
def pval (xs : List PEnt) (k : NK) : Option Value := (pix xs k).bind fun j => (xs[j]?).map (·.2.2)
def pput (xs : List PEnt) (k : NK) (key v : Value) : List PEnt := match pix xs k with
  | some j => xs.modify j fun x => (x.1, x.2.1, v)
  | none => xs ++ [(k, key, v)]
abbrev AllK (h : Heap) (xs : List PEnt) : Prop := ∀ x ∈ xs, KeyAt h x.1 x.2.1
theorem get_keys {Q : Option Value → Shared → Prop} (hu : A.units + 8 < cLine) (hk : KeyAt s.heap k key) (hm : PDict w s.heap d xs) (his : AllK s.heap xs) (q : Q (pval xs k) { s with toks := s.toks + k.draws }) : wpAny (model P w) A (dictGet d key) Q E s := by
  obtain ⟨_, _, nd, o, es, ep, ho, hx, hd, he⟩ := hm
  unfold dictGet; try with_reducible refine wpAny_holding ?_
  refine wpAny_bind (pyHash_key k key A s _ hk.is (by have := hk.dp; omega) (wpAny_bind (find_keys (s := { s with toks := s.toks + k.draws }) hu hk ho hd he his nd ?_)))
  unfold pval at q
  cases hp : pix xs k with
  | none => rw [hp] at q; exact wpAny_pure q
  | some j =>
    rw [hp] at q
    refine wpAny_bind (wpAny_dictEntries (s := { s with toks := s.toks + k.draws }) ho hd ?_)
    rw [ent_at he j]
    obtain ⟨x, hx, _⟩ := pix_at hp
    have q : Q ((xs[j]?).map (·.2.2)) { s with toks := s.toks + k.draws } := q
    rw [hx] at q ⊢
    exact wpAny_pure q
theorem nodup_mod {j : Nat} {v : Value} (nd : (xs.map (·.1)).Nodup) : ((xs.modify j fun x => (x.1, x.2.1, v)).map (·.1)).Nodup := by
  rw [show (xs.modify j fun x => (x.1, x.2.1, v)).map (·.1) = xs.map (·.1) from ?_]
  · exact nd
  · apply List.ext_getElem?
    intro i
    rw [List.getElem?_map, List.getElem?_map, List.getElem?_modify]
    cases xs[i]? with
    | none => rfl
    | some x => by_cases e : j = i <;> simp [e]
theorem pput_nodup (nd : (xs.map (·.1)).Nodup) : ((pput xs k key v).map (·.1)).Nodup := by
  unfold pput
  cases hp : pix xs k with
  | some j => exact nodup_mod nd
  | none =>
    rw [List.map_append, List.nodup_append]
    refine ⟨nd, by simp, fun x hx y hy e => ?_⟩
    obtain ⟨z, hz, rfl⟩ := List.mem_map.mp hx
    have hy : y = k := by simpa using hy
    obtain ⟨j, hj⟩ := List.mem_iff_getElem?.mp hz
    rw [pix_some nd hj (e.trans hy)] at hp
    cases hp
theorem set_keys {Q : Unit → Shared → Prop} (hu : A.units + 8 < cLine) (hk : KeyAt s.heap k key) (hm : PDict w s.heap d xs) (his : AllK s.heap xs) (hl : xs.length < sizeLine)
    (q : ∀ h', PDict w h' d (pput xs k key v) → Heap.SameBut d s.heap h' → Q () { s with heap := h', toks := s.toks + k.draws }) : wpAny (model P w) A (dictSet d key v) Q E s := by
  obtain ⟨hs, _, nd, o, es, ep, ho, hx, hd, he⟩ := hm
  have nd' := pput_nodup (k := k) (key := key) (v := v) nd
  unfold dictSet; try with_reducible refine wpAny_holding ?_
  refine wpAny_bind (pyHash_key k key A s _ hk.is (by have := hk.dp; omega) ?_)
  unfold dictSetHashed; try with_reducible refine wpAny_holding ?_
  refine wpAny_bind (find_keys (s := { s with toks := s.toks + k.draws }) hu hk ho hd he his nd ?_)
  unfold pput at q nd'
  cases hp : pix xs k with
  | some j =>
    rw [hp] at q nd'
    refine wpAny_bind (wpAny_rule (wpAny_bind (wpAny_updateDict (s := { s with toks := s.toks + k.draws }) ho hd (wpAny_point (q _ ⟨hs, by rw [List.length_modify]; omega, nd', _, _, ep, Heap.get?_update_self _ ho (Obj.isFreed_of_dict (Obj.data_mapDict hd _)), hx.mapDict _, Obj.data_mapDict hd _, ?_⟩ (Heap.SameBut.update ..))))))
    apply List.ext_getElem?
    intro i
    rw [Array.getElem?_toList, Array.getElem?_modify, ent_at he i, List.getElem?_map, List.getElem?_modify]
    cases xs[i]? with
    | none => split <;> rfl
    | some x => split <;> rfl
  | none =>
    rw [hp] at q nd'
    refine wpAny_bind (wpAny_rule (wpAny_updateDictKeys (hz := by have e := ent_size he; omega) (s := { s with toks := s.toks + k.draws }) ho hd (q _ ⟨hs, by rw [List.length_append]; show xs.length + 1 ≤ _; omega, nd', _, _, ep + 1, Heap.get?_update_self _ ho (Obj.isFreed_of_dict (Obj.data_mapDictKeys hd _)), hx.mapDictKeys _, Obj.data_mapDictKeys hd _, ?_⟩ (Heap.SameBut.update ..))))
    simp [he, penc]
theorem has_keys {Q : Bool → Shared → Prop} (hu : A.units + 9 < cLine) (hk : KeyAt s.heap k key) (hm : PDict w s.heap d xs) (his : AllK s.heap xs) (q : Q (pix xs k).isSome { s with toks := s.toks + k.draws }) : wpAny (model P w) A (contains (.ref d) key) Q E s := by
  have e : (pval xs k).isSome = (pix xs k).isSome := by
    unfold pval
    cases hp : pix xs k with
    | none => rfl
    | some j => obtain ⟨x, hx, _⟩ := pix_at hp; show ((xs[j]?).map (·.2.2)).isSome = true; rw [hx]; rfl
  unfold contains; try with_reducible refine wpAny_holding ?_
  refine wpAny_bind (wpAny_specialOf hm.ty slot_dict_contains.lookup ?_)
  show wpAny _ _ (if (some (Value.builtin "dict.__contains__") == some Value.none) = true then _ else _) _ E s
  rw [if_neg (by rw [beq_builtin_none]; exact Bool.false_ne_true)]
  refine wpAny_bind (wpAny_callSpecialUnlessNone?_slot (name := Str.ofString "__contains__") hm.ty slot_dict_contains (wpAny_call_entry slot_dict_contains hm.ty entry_dict_contains ?_ (args_dict_contains _ _)))
  show wpAny _ _ (dictGet d key >>= _) _ _ s
  refine wpAny_bind (get_keys (by rw [Around.in1_units]; omega) hk hm his ?_)
  cases hf : pval xs k with
  | some p =>
    rw [← e, hf] at q
    show wpAny _ _ (ret (.bool true)) _ _ _
    exact wpAny_pure ⟨_, rfl, wpAny_truthy_bool q⟩
  | none =>
    rw [← e, hf] at q
    show wpAny _ _ (Builtin.Dict.pendingKey? d key >>= _) _ _ _
    exact wpAny_bind (wpAny_pendingKey_other hm.1 (wpAny_pure ⟨_, rfl, wpAny_truthy_bool q⟩))
theorem in_keys {Q : Value → Shared → Prop} (hu : A.units + 9 < cLine) (hk : KeyAt s.heap k key) (hm : PDict w s.heap d xs) (his : AllK s.heap xs) (q : Q (.bool (pix xs k).isSome) { s with toks := s.toks + k.draws }) : wpAny (model P w) A (compareOp .In key (.ref d)) Q E s := by
  show wpAny _ _ (do return .bool (← contains (.ref d) key)) Q E s
  exact wpAny_bind (has_keys hu hk hm his (wpAny_pure q))
theorem item_keys {Q : Value → Shared → Prop} (hu : A.units + 9 < cLine) (hk : KeyAt s.heap k key) (hm : PDict w s.heap d xs) (his : AllK s.heap xs) (hv : pval xs k = some v) (q : Q v { s with toks := s.toks + k.draws }) : wpAny (model P w) A (getItem (.ref d) key) Q E s := by
  unfold getItem; try with_reducible refine wpAny_holding ?_
  refine wpAny_bind (wpAny_sequenceKey hm.ty (by decide) (wpAny_bind (wpAny_callSpecial?_slot (name := Str.ofString "__getitem__") hm.ty slot_dict_getitem (wpAny_call_entry slot_dict_getitem hm.ty entry_dict_getitem ?_ (args_dict_getitem _ _)))))
  show wpAny _ _ (dictGet d key >>= _) _ _ s
  refine wpAny_bind (get_keys (by rw [Around.in1_units]; omega) hk hm his ?_)
  rw [hv]
  exact wpAny_pure ⟨v, rfl, wpAny_pure q⟩
theorem store_keys {Q : Unit → Shared → Prop} (hu : A.units + 9 < cLine) (hk : KeyAt s.heap k key) (hm : PDict w s.heap d xs) (his : AllK s.heap xs) (hl : xs.length < sizeLine)
    (q : ∀ h', PDict w h' d (pput xs k key v) → Heap.SameBut d s.heap h' → Q () { s with heap := h', toks := s.toks + k.draws }) : wpAny (model P w) A (setItem (.ref d) key v) Q E s := by
  unfold setItem; try with_reducible refine wpAny_holding ?_
  refine wpAny_bind (wpAny_sequenceKey hm.ty (by decide) (wpAny_bind (wpAny_callSpecial?_slot (name := Str.ofString "__setitem__") hm.ty slot_dict_setitem (wpAny_call_entry slot_dict_setitem hm.ty entry_dict_setitem ?_ (args_dict_setitem _ _ _)))))
  show wpAny _ _ (Builtin.Dict.notOrdered "__setitem__" ⟨[.ref d, key, v], []⟩ >>= _) _ _ s
  refine wpAny_bind (wpAny_notOrdered_dict hm.ty ?_)
  show wpAny _ _ (dictSet d key v >>= _) _ _ s
  exact wpAny_bind (set_keys (by rw [Around.in1_units]; omega) hk hm his hl fun h' hm' hs' => wpAny_pure ⟨.none, rfl, wpAny_pure (q h' hm' hs')⟩)
end
end G
namespace G
open PySem PySem.Spec PyProof.Rows L2
/-! ### dicts of plain keys in the calculus -/
def kix (kvs : List (DV × DV)) (k : NK) : Option Nat := kvs.findIdx? fun kv => decide (nkD kv.1 = some k)
def kget (kvs : List (DV × DV)) (k : NK) : Option DV := (kix kvs k).bind fun j => (kvs[j]?).map (·.2)
def kput (kvs : List (DV × DV)) (k : NK) (kd vd : DV) : List (DV × DV) := match kix kvs k with
  | some j => kvs.modify j fun kv => (kv.1, vd)
  | none => kvs ++ [(kd, vd)]
section
variable {K : Fg} {H : Hp} {kvs : List (DV × DV)} {xs : List PEnt} {k : NK}
theorem RKs.ix (h : RKs K H kvs xs) : pix xs k = kix kvs k := by
  unfold pix kix
  induction h with
  | nil => rfl
  | cons a b c d e f _ ih =>
    rw [List.findIdx?_cons, List.findIdx?_cons, ih, a]
    simp
theorem RKs.len (h : RKs K H kvs xs) : kvs.length = xs.length := by
  induction h with
  | nil => rfl
  | cons a b c d e f _ ih => rw [List.length_cons, List.length_cons, ih]
theorem RKs.at_ (h : RKs K H kvs xs) : ∀ {j : Nat} {kd vd : DV}, kvs[j]? = some (kd, vd) → ∃ k ku vu kv vv, xs[j]? = some (k, ku, vu) ∧ nkD kd = some k ∧ k.depth ≤ 8 ∧ RD K H kd kv ∧ RelV kv ku ∧ RD K H vd vv ∧ RelV vv vu := by
  induction h with
  | nil => intro j kd vd e; simp at e
  | cons a b c d e f _ ih =>
    intro j kd vd z
    cases j with
    | zero => simp at z; obtain ⟨rfl, rfl⟩ := z; exact ⟨_, _, _, _, _, rfl, a, b, c, d, e, f⟩
    | succ j =>
      obtain ⟨k, ku, vu, kv, vv, z1, z2⟩ := ih (j := j) (by simpa using z)
      exact ⟨k, ku, vu, kv, vv, by simpa using z1, z2⟩
theorem kget_at {vd : DV} (h : kget kvs k = some vd) : ∃ j kd, kix kvs k = some j ∧ kvs[j]? = some (kd, vd) := by
  unfold kget at h
  cases hj : kix kvs k with
  | none => rw [hj] at h; cases h
  | some j =>
    rw [hj] at h
    have h : (kvs[j]?).map (·.2) = some vd := h
    cases hx : kvs[j]? with
    | none => rw [hx] at h; cases h
    | some kv => rw [hx] at h; cases h; exact ⟨j, kv.1, rfl, hx⟩
theorem RKs.val {vd : DV} (h : RKs K H kvs xs) (hv : kget kvs k = some vd) : ∃ vv u, pval xs k = some u ∧ RD K H vd vv ∧ RelV vv u := by
  obtain ⟨j, kd, h1, h2⟩ := kget_at hv
  obtain ⟨k', ku, vu, kv, vv, z1, z2, z3, z4, z5, z6, z7⟩ := h.at_ h2
  refine ⟨vv, vu, ?_, z6, z7⟩
  unfold pval
  rw [h.ix, h1]
  show (xs[j]?).map (·.2.2) = some vu
  rw [z1]
  rfl
theorem RKs.mod {vd : DV} {vv : V} {vu : Value} (r : RD K H vd vv) (ru : RelV vv vu) (h : RKs K H kvs xs) : ∀ j : Nat, RKs K H (kvs.modify j fun kv => (kv.1, vd)) (xs.modify j fun x => (x.1, x.2.1, vu)) := by
  induction h with
  | nil => intro j; rw [List.modify_nil, List.modify_nil]; exact .nil
  | cons a b c d e f t ih =>
    intro j
    cases j with
    | zero => exact .cons a b c d r ru t
    | succ j => exact .cons a b c d e f (ih j)
theorem RKs.app {kd vd : DV} {ku vu : Value} {kv vv : V} (h1 : nkD kd = some k) (h2 : k.depth ≤ 8) (h3 : RD K H kd kv) (h4 : RelV kv ku) (h5 : RD K H vd vv) (h6 : RelV vv vu) (h : RKs K H kvs xs) : RKs K H (kvs ++ [(kd, vd)]) (xs ++ [(k, ku, vu)]) := by
  induction h with
  | nil => exact .cons h1 h2 h3 h4 h5 h6 .nil
  | cons a b c d e f _ ih => exact .cons a b c d e f ih
theorem RKs.put {kd vd : DV} {ku vu : Value} {kv vv : V} (h : RKs K H kvs xs) (h1 : nkD kd = some k) (h2 : k.depth ≤ 8) (h3 : RD K H kd kv) (h4 : RelV kv ku) (h5 : RD K H vd vv) (h6 : RelV vv vu) : RKs K H (kput kvs k kd vd) (pput xs k ku vu) := by
  unfold kput pput
  rw [h.ix]
  cases kix kvs k with
  | none => exact h.app h1 h2 h3 h4 h5 h6
  | some j => exact RKs.mod h5 h6 h j
end
section
variable {X : Cx} {pins : List (Addr × Obj)} {σ : L2.St} {H : Hp} {s : Shared}
mutual
theorem nk_is (I : Inv X pins σ H s) : ∀ {d : DV} {v : V} {u : Value} {k : NK}, RD X.K H d v → RelV v u → nkD d = some k → NestedIs s.heap k u
  | _, _, _, _, .non, r, h => by rw [nkD] at h; cases h; cases r; exact .none
  | _, _, _, _, .bl b, r, h => by rw [nkD] at h; cases h; cases r; exact .bool rfl
  | _, _, _, _, .int i, r, h => by rw [nkD] at h; cases h; obtain ⟨t, rfl⟩ := r; exact .int i t
  | _, _, _, _, .str x, r, h => by rw [nkD] at h; cases h; obtain ⟨t, rfl⟩ := r; exact .text x t
  | _, _, _, _, .ty _, _, h => by rw [nkD] at h; cases h
  | _, _, _, _, .ref _, _, h => by rw [nkD] at h; cases h
  | _, _, _, _, .lis _ _, _, h => by rw [nkD] at h; cases h
  | _, _, _, _, .tupA _ _, _, h => by rw [nkD] at h; cases h
  | _, _, _, _, .lam _, _, h => by rw [nkD] at h; cases h
  | _, _, _, _, .clo _ _, _, h => by rw [nkD] at h; cases h
  | _, _, _, _, .dic _ _, _, h => by rw [nkD] at h; cases h
  | _, _, _, _, .insF _ _, _, h => by rw [nkD] at h; cases h
  | _, _, _, _, .tup (ds := ds) sq rr, r, h => by
    rw [nkD] at h
    cases hk : nkDs ds with
    | none => rw [hk] at h; cases h
    | some ks =>
      rw [hk] at h
      cases h
      cases r
      obtain ⟨its, rel, ⟨o, h1, h2, n, h3⟩, hz⟩ := I.tuple sq
      exact .tup h1 h2 h3 (by simpa using nk_all I rr rel hk)
theorem nk_all (I : Inv X pins σ H s) : ∀ {ds : List DV} {vs : List V} {us : List Value} {ks : List NK}, RDs X.K H ds vs → Vals vs us → nkDs ds = some ks → NestedAll s.heap ks us
  | _, _, _, _, .nil, r, h => by rw [nkDs] at h; cases h; cases r; exact .nil
  | _, _, _, _, .cons (d := d) (ds := ds) a b, r, h => by
    rw [nkDs] at h
    cases r with
    | cons r1 r2 =>
      cases h1 : nkD d with
      | none => rw [h1] at h; cases h
      | some k =>
        cases h2 : nkDs ds with
        | none => rw [h1, h2] at h; cases h
        | some ks =>
          rw [h1, h2] at h
          cases h
          exact .cons (nk_is I a r1 h1) (nk_all I b r2 h2)
end
theorem RKs.all (I : Inv X pins σ H s) {kvs : List (DV × DV)} {xs : List PEnt} (h : RKs X.K H kvs xs) : AllK s.heap xs := by
  induction h with
  | nil => intro x hx; cases hx
  | cons a b c d e f _ ih =>
    intro x hx
    rcases List.mem_cons.mp hx with z | z
    · subst z; exact ⟨nk_is I c d a, b⟩
    · exact ih x z
variable {w : World} {p : Addr} {o : Obj} {xs : List PEnt}
theorem dn_of (I : Inv X pins σ H s) (e : H p = some (DnO w p o xs)) : s.heap.get? p = some o ∧ PDict w s.heap p xs := (I.hok p _ e).1
theorem dn_ok {P' : Program} {w' : World} {H' : Hp} {h : Heap} (e : h.get? p = some o) (d : PDict w h p xs) : ObjOk P' w' H' h p (DnO w p o xs) := ⟨⟨e, d⟩, ⟨o, e⟩, fun h1 h2 q k => ⟨k o q.1, q.2.at_ k⟩⟩
theorem wr_dn (I : Inv X pins σ H s) (e : H p = some (DnO w p o xs)) : Wr H p := ⟨by rw [e]; trivial, fun q z => by
  obtain ⟨⟨oc, vs, t, h1, h2, h3⟩, _⟩ := I.hok p _ z
  obtain ⟨e1, _, _, _, o2, es, ep, g1, g2, g3, g4⟩ := dn_of I e
  rw [h1] at g1
  cases g1
  rw [h2] at g3
  cases g3⟩
/-! k in d, k not in d -/
def rInN (w : World) (K : Fg) (neg : Bool) : R2 := fun x y H Q => ∃ p o kvs xs d k, y = .ref p ∧ RD K H d x ∧ nkD d = some k ∧ k.depth ≤ 8 ∧ H p = some (DnO w p o xs) ∧ RKs K H kvs xs ∧ Q (.bl (if neg then !(kix kvs k).isSome else (kix kvs k).isSome)) H
theorem op_inN {X : Cx} (hu : X.A.units + 9 < cLine) : OpR X (compareOp .In) (rInN X.w X.K false) := fun pins s σ H x y v u Q I rx ry ⟨p, o, kvs, xs, d, k, h1, h2, h3, h4, h5, h6, q⟩ => by
  subst h1
  obtain rfl : u = Value.ref p := ry
  refine in_keys hu ⟨nk_is I h2 rx h3, h4⟩ (dn_of I h5).2 (h6.all I) ?_
  rw [h6.ix]
  exact ⟨.bl _, H, I.tok _, rfl, q⟩
/-! d[k] -/
def rGetN (w : World) (K : Fg) : R2 := fun x y H Q => ∃ p o kvs xs d k vd, x = .ref p ∧ RD K H d y ∧ nkD d = some k ∧ k.depth ≤ 8 ∧ H p = some (DnO w p o xs) ∧ RKs K H kvs xs ∧ kget kvs k = some vd ∧ ∀ vv, RD K H vd vv → Q vv H
theorem mon_getN {w : World} {K : Fg} : MonR (rGetN w K) := fun x y H Q Q' ⟨p, o, kvs, xs, d, k, vd, h1, h2, h3, h4, h5, h6, h7, h8⟩ q => ⟨p, o, kvs, xs, d, k, vd, h1, h2, h3, h4, h5, h6, h7, fun vv r => q _ _ (h8 vv r)⟩
theorem ix_dn {X : Cx} (hu : X.A.units + 9 < cLine) : IxR X (rGetN X.w X.K) := by
  intro value slice pins s σ H x y v u Q I rx ry ⟨p, o, kvs, xs, d, k, vd, h1, h2, h3, h4, h5, h6, h7, q⟩ hs
  subst h1
  obtain rfl : v = Value.ref p := rx
  obtain ⟨vv, vu, z1, z2, z3⟩ := h6.val h7
  exact tail_any (dn_of I h5).2.ty slot_dict_getitem.lookup (item_keys hu ⟨nk_is I h2 ry h3, h4⟩ (dn_of I h5).2 (h6.all I) z1 ⟨vv, H, I.tok _, z3, q vv z2⟩) hs
/-! d[k] = v -/
def rSetN (w : World) (K : Fg) : V → V → V → Hp → (Hp → Prop) → Prop := fun ov iv v H Q => ∃ p o kvs xs d k, ov = .ref p ∧ RD K H d iv ∧ nkD d = some k ∧ k.depth ≤ 8 ∧ H p = some (DnO w p o xs) ∧ RKs K H kvs xs ∧ kvs.length < sizeLine ∧ (Wr H p → ∀ o' ku vu, RelV iv ku → RelV v vu → Q (upd H p (DnO w p o' (pput xs k ku vu))))
theorem set_dn {X : Cx} (hu : X.A.units + 9 < cLine) : PSet X (rSetN X.w X.K) := by
  intro pins s σ H ov iv v ou iu u Q I ro ri rv ⟨p, o, kvs, xs, d, k, h1, h2, h3, h4, h5, h6, h7, q⟩
  subst h1
  obtain rfl : ou = Value.ref p := ro
  refine store_keys hu ⟨nk_is I h2 ri h3, h4⟩ (dn_of I h5).2 (h6.all I) (by rw [← h6.len]; exact h7) fun h' hd hs => ?_
  obtain ⟨_, _, _, o', es, ep, g1, g2⟩ := id hd
  exact ⟨_, d_write I (wr_dn I h5).1 hs ⟨o', g1⟩ (dn_ok g1 hd), q (wr_dn I h5) o' iu u ri rv⟩
end
end G
namespace G
open PySem PySem.Spec PyProof.Rows L2
/-! ### the steps of dicts of plain keys -/
def rIn5 (w : World) (K : Fg) (neg : Bool) : R2 := fun x y H Q => rIn3 K neg x y H Q ∨ rInN w K neg x y H Q
def rIx5 (w : World) (K : Fg) : R2 := fun x y H Q => rIx K x y H Q ∨ rGetN w K x y H Q
section
variable {X : Cy} {P : Program} {w : World} {K : Fg} {mg : Str → Option Value} {base : Heap} {sc : Scope} {N L C Gs Bs : List Str} {k j n i : Nat} {ρ ρ' : Ro} {M : Mm} {Q : DV → Mm → Prop} {R : Bool → Mm → Prop} {a b c e o : Expr} {x f : Str} {pos p p1 p2 p3 : Pos} {nx bk ct : Ro → Mm → Prop} {rt : DV → Mm → Prop} {S : Ro → Mm → Prop} {neg : Bool} {d dx dy : DV} {q : Addr} {ob : Obj} {kvs : List (DV × DV)} {kk : NK}
theorem op_in5 (F : Fx X P w K mg base sc N L C Gs Bs k) : OpR X.toCx (compareOp .In) (rIn5 w X.K false) := fun pins s σ H x y v u Q I rx ry h => by
  have hu := F.room.un
  rcases h with h | h
  · exact op_in3 (by omega) pins s σ H x y v u Q I rx ry h
  · exact op_inN (by omega) pins s σ H x y v u Q I rx ry (by rw [F.hw]; exact h)
/-! d[k] -/
theorem ix_5 (F : Fx X P w K mg base sc N L C Gs Bs k) : IxR X.toCx (rIx5 w X.K) := by
  have hu := F.room.un
  have h := ix_seq.or (ix_dn (X := X.toCx) (by omega))
  rw [F.hw] at h
  exact h
theorem we_ix5 (F : Fx X P w K mg base sc N L C Gs Bs k) (hb : isSl b = false) (h : WE X ρ M a fun x M1 => WE X ρ M1 b fun y M2 => R2D X.K (rIx5 w X.K) x y M2 Q) : WE X ρ M (.Subscript a b pos) Q := we_op (fun ha hb' => pe_ix (ix_5 F) ha hb' (plainIx hb)) (mon_ix.or mon_getN) h
instance (priority := 3000) [F : Fx X P w K mg base sc N L C Gs Bs k] : Step (WE X ρ M (.Subscript a b pos) Q) (!isSl b) (WE X ρ M a fun x M1 => WE X ρ M1 b fun y M2 => R2D X.K (rIx5 w X.K) x y M2 Q) := ⟨fun h => we_ix5 F (by simpa using h)⟩
instance (priority := low) : Step (R2D K (rIx5 w K) dx dy M Q) true (R2D K (rIx K) dx dy M Q) := ⟨fun _ z => R2D.l z⟩
/-! d[k] = v -/
def SetDn (w : World) (M : Mm) (x y d : DV) (T : Mm → Prop) : Prop := ∃ (p : Addr) (n : Nat) (o : Obj) (kvs : List (DV × DV)) (k : NK), x = .ref p ∧ nkD y = some k ∧ k.depth ≤ 8 ∧ AtM M n p (.dn w o kvs) ∧ kvs.length < sizeLine ∧ ∀ o', T (M.set n (p, .dn w o' (kput kvs k y d)))
def Set5 (w : World) (M : Mm) (x y d : DV) (T : Mm → Prop) : Prop := SetIx M x y d T ∨ SetDn w M x y d T
theorem wg_ix5 {d : DV} (F : Fx X P w K mg base sc N L C Gs Bs k) (hi : isSl b = false) (h : WE X ρ M a fun x M1 => WE X ρ M1 b fun y M2 => Set5 w M2 x y d (S ρ)) : WG X ρ M (.Subscript a b pos) d S := fun σ H v rs m r => by
  have hu := F.room.un
  have st5 : PSet X.toCx (fun o i v H Q => rSetL o i v H Q ∨ rSetN w X.K o i v H Q) := fun pins s σ H o i v ov iv u Q I ro ri rv z => by
    rcases z with z | z
    · exact set_list pins s σ H o i v ov iv u Q I ro ri rv z
    · exact set_dn (by omega) pins s σ H o i v ov iv u Q I ro ri rv (by rw [F.hw]; exact z)
  refine wG.of (pg_sub pe_w pe_w st5 (fun v => by cases b <;> first | rfl | exact Bool.noConfusion hi)) ?_
  refine (h σ H rs m).mono fun va H1 ⟨x, M1, h1, h2, h3, h4⟩ => ?_
  refine (h4 σ H1 (rs.mono h3) h2).mono fun vb H2 ⟨y, M2, g1, g2, g3, z⟩ => ?_
  rcases z with ⟨p, n, xs, i, j, g4, g5, g6, g7, g8⟩ | ⟨p, n, o, kvs, kk, g4, g5, g6, g7, g8, g9⟩
  · subst g4 g5
    cases h1; cases g1
    obtain ⟨vs, e, rr⟩ := g2.at g6.ix
    have mu : Wr H2 p := wr_lst e
    refine .inl ⟨p, vs, i, j, rfl, rfl, e, by rw [← rr.length]; exact g7, ?_⟩
    have st : Stay X.K H2 (upd H2 p (.lst (vs.set j v))) := Stay.write mu
    exact ⟨ρ, _, ((rs.mono h3).mono g3).mono st, g2.write (q' := .lst (xs.set j d)) g6.ix mu ⟨_, upd_same, (rr.mono st).set (((r.mono h3).mono g3).mono st) j⟩, (h3.trans g3).trans st, g8⟩
  · subst g4
    cases h1
    obtain ⟨xs, e, rr⟩ := g2.at g7.ix
    refine .inr ⟨p, o, kvs, xs, y, kk, rfl, g1, g5, g6, e, rr, g8, fun mu o' ku vu rk rv => ?_⟩
    have st : Stay X.K H2 (upd H2 p (DnO w p o' (pput xs kk ku vu))) := Stay.write mu
    exact ⟨ρ, _, ((rs.mono h3).mono g3).mono st, g2.write (q' := .dn w o' (kput kvs kk y d)) g7.ix mu ⟨_, upd_same, (rr.put g5 g6 g1 rk ((r.mono h3).mono g3) rv).mono st⟩, (h3.trans g3).trans st, g9 o'⟩
instance (priority := 3000) [F : Fx X P w K mg base sc N L C Gs Bs k] : Step (WG X ρ M (.Subscript a b pos) d S) (!isSl b) (WE X ρ M a fun x M1 => WE X ρ M1 b fun y M2 => Set5 w M2 x y d (S ρ)) := ⟨fun h => wg_ix5 F (by simpa using h)⟩
instance (priority := low) {T : Mm → Prop} : Step (Set5 w M dx dy d T) true (SetIx M dx dy d T) := ⟨fun _ z => .inl z⟩
/-! an empty dict is one of plain keys -/
end
end G
namespace G
open PySem PySem.Spec PyProof.Rows L2
/-! ### dicts of plain keys are walked, listed, counted; a key is taken out -/
theorem PDict.raw {w : World} {h : Heap} {d : Addr} {o : Obj} {xs : List PEnt} (e : h.get? d = some o) (x : PDict w h d xs) : (d == sysModules) = false ∧ o.ExactDict ∧ ∃ es ep, o.data = .dict es ep ∧ es.toList = xs.map (penc w) ∧ es.size = xs.length := by
  obtain ⟨h1, _, _, o', es, ep, g1, g2, g3, g4⟩ := x
  rw [e] at g1
  cases g1
  exact ⟨h1, g2, es, ep, g3, g4, ent_size g4⟩
theorem RKs.keysV {K : Fg} {H : Hp} {kvs : List (DV × DV)} {xs : List PEnt} (h : RKs K H kvs xs) : ∃ vs, RDs K H (kvs.map (·.1)) vs ∧ Vals vs (xs.map (·.2.1)) := by
  induction h with
  | nil => exact ⟨[], .nil, .nil⟩
  | cons a b c d e f _ ih => obtain ⟨vs, h1, h2⟩ := ih; exact ⟨_ :: vs, .cons c h1, .cons d h2⟩
section
variable {P : Program} {w : World} {K : Fg} {tg : Expr} {q : Addr} {o : Obj} {es : Array DictEntry} {ep : Nat} {kvs : List (DV × DV)}
end
section
variable {X : Cx} {tg e : Expr} {td : TE} {apos cpos : Pos}
end
end G
namespace G
open PySem PySem.Spec PyProof.Rows L2
theorem items_keys {w : World} {es : Array DictEntry} {xs : List PEnt} {acc : Array Value} (he : es.toList = xs.map (penc w)) (it : ItemsOf (fun i v => ∃ en : DictEntry, es[i]? = some en ∧ v = en.key) acc es.size) : acc.toList = xs.map (·.2.1) := by
  have l1 := ent_size he
  have hl : acc.toList.length = xs.length := by rw [Array.length_toList, it.1]; exact l1
  apply List.ext_getElem?
  intro j
  rw [List.getElem?_map]
  by_cases hj : j < xs.length
  · have ha : acc.toList[j]? = some (acc.toList[j]'(by omega)) := List.getElem?_eq_getElem _
    obtain ⟨en, h1, h2⟩ := it.2 j _ (by rw [← Array.getElem?_toList]; exact ha)
    rw [ent_at he j, List.getElem?_eq_getElem hj] at h1
    rw [ha, h2, List.getElem?_eq_getElem hj]
    cases h1
    rfl
  · rw [List.getElem?_eq_none (by omega), List.getElem?_eq_none (by omega)]
    rfl
section
variable {X : Cx} {pins : List (Addr × Obj)} {σ : L2.St} {H : Hp} {s : Shared} {q : Addr} {o : Obj} {kvs : List (DV × DV)} {xs : List PEnt}
/-- list(d) -/
def rListN (w : World) (K : Fg) : List V → Hp → VK → Prop := fun vs H Q => ∃ q o kvs xs, vs = [.ref q] ∧ H q = some (DnO w q o xs) ∧ RKs K H kvs xs ∧ ∀ p us, H p = none → RDs K H (kvs.map (·.1)) us → Q (.ref p) (upd H p (.lst us))
theorem call_listN (hc : X.calm = true) : CallR X (.type "list") (rListN X.w X.K) := by
  intro pins s σ H vs us Q I r ⟨q, o, kvs, xs, e, hd, hr, z⟩
  subst e
  obtain ⟨u, rfl, rx⟩ := r.one
  cases rx
  obtain ⟨go, pd⟩ := dn_of I hd
  obtain ⟨hs, hx, es, ep, hdt, he, hsz⟩ := pd.raw go
  have hz := pd.2.1
  refine PySem.W.kdl_call (kdl_raw hs hx hdt) (I.ok.hd hc) go (by omega) fun h' tk acc' c' kp e it => ?_
  obtain ⟨ws, w1, w2⟩ := hr.keysV
  have rv : Vals ws acc'.toList := by rw [items_keys he it]; exact w2
  refine ⟨.ref s.heap.objs.size, _, I.laid (t' := tk) (o := .lst ws) kp (Nat.le_refl _) ?_, rfl, z _ ws (I.hok.fresh (Nat.le_refl _)) w1⟩
  exact ⟨by rw [← w1.length, List.length_map, hr.len]; exact hz, acc'.toList, c', rv, by rw [Array.toArray_toList]; exact e⟩
/-- len(d) -/
def rLenN (w : World) (K : Fg) : List V → Hp → VK → Prop := fun vs H Q => ∃ q o kvs xs, vs = [.ref q] ∧ H q = some (DnO w q o xs) ∧ RKs K H kvs xs ∧ Q (.int (kvs.length : Nat)) H
theorem call_lenN : CallR X (.builtin "len") (rLenN X.w X.K) := by
  intro pins s σ H vs us Q I r ⟨q, o, kvs, xs, e, hd, hr, z⟩
  subst e
  obtain ⟨u, rfl, rx⟩ := r.one
  cases rx
  obtain ⟨go, pd⟩ := dn_of I hd
  obtain ⟨hs, hx, es, ep, hdt, he, hsz⟩ := pd.raw go
  have hz := pd.2.1
  have hl : es.size = kvs.length := by rw [hsz, hr.len]
  refine PyProof.Rows.call_len_slot (n := (kvs.length : Int)) pd.ty F.slot_dict_len (fun Q' hq => call_len_raw hs ⟨o, go, hx, hdt⟩ (by rw [hl]; exact hq)) (by omega) (by rw [sizeLine_eq] at hz; rw [hr.len]; omega) ?_
  exact ⟨.int _, H, I.tok _, ⟨_, rfl⟩, z⟩
end
section
variable {P : Program} {w : World} {A : Around} {E : Value → Shared → Prop} {s : Shared} {d : Addr} {xs : List PEnt} {k : NK} {key : Value}
end
end G
namespace G
open PySem PySem.Spec PyProof.Rows L2
/-! ### walks, list, len, del, star of dicts of plain keys: the steps -/
section
variable {X : Cy} {P : Program} {w : World} {K : Fg} {mg : Str → Option Value} {base : Heap} {sc : Scope} {N L C Gs Bs : List Str} {k j n i : Nat} {ρ ρ' : Ro} {M : Mm} {Q : DV → Mm → Prop} {T : List DV → Mm → Prop} {a b c e o tg : Expr} {es : List Expr} {pos p p1 p2 apos : Pos} {nx bk ct : Ro → Mm → Prop} {rt : DV → Mm → Prop} {d dx : DV} {q : Addr} {ob : Obj} {kvs : List (DV × DV)} {kk : NK}
/-! list(d) -/
def rList5 (w : World) (K : Fg) : List V → Hp → VK → Prop := fun vs H Q => rList3 K vs H Q ∨ rListN w K vs H Q
theorem we_list5 (F : Fx X P w K mg base sc N L C Gs Bs k) (hx : ("list" : Str) ∈ Gs) (hx2 : ("list" : Str) ∈ Bs) (hs : noStars [e] = true) (h : WA X ρ M [e] fun ds M1 => CD X.K (rList5 w X.K) ds M1 Q) : WE X ρ M (.Call (.Name "list" p) [e] [] pos) Q :=
  we_blty F (r := rList5 w X.K) (fun pins s σ H vs us Q I r z => z.elim (fun z => call_list_of pins s σ H vs us Q I r z) fun z => call_listN F.calm pins s σ H vs us Q I r (by rw [F.hw]; exact z))
    (fun xs H Q Q' z q => z.elim (fun ⟨i, j, a, b, c⟩ => .inl ⟨i, j, a, b, fun l hl => q _ _ (c l hl)⟩) fun ⟨a1, a2, a3, a4, a5, a6, a7, a8⟩ => .inr ⟨a1, a2, a3, a4, a5, a6, a7, fun p us z1 z2 => q _ _ (a8 p us z1 z2)⟩) (by decide +kernel) hx hx2 hs h
instance (priority := 3000) [F : Fx X P w K mg base sc N L C Gs Bs k] [m : MemC "list" Gs] [m2 : MemC "list" Bs] : Step (WE X ρ M (.Call (.Name (Str.ofString "list") p) [e] [] pos) Q) (noStars [e]) (WA X ρ M [e] fun ds M1 => CD X.K (rList5 w X.K) ds M1 Q) := ⟨fun h q => we_list5 F m.h m2.h h q⟩
instance (priority := low) {ds : List DV} : Step (CD K (rList5 w K) ds M Q) true (CD K (rList3 K) ds M Q) := ⟨fun _ z vs H r m => .inl (z vs H r m)⟩
/-! len(d) -/
def rLen5 (w : World) (K : Fg) : List V → Hp → VK → Prop := fun vs H Q => rLen3 K vs H Q ∨ rLenN w K vs H Q
theorem we_len5 (F : Fx X P w K mg base sc N L C Gs Bs k) (hx : ("len" : Str) ∈ Gs) (hx2 : ("len" : Str) ∈ Bs) (hs : noStars [e] = true) (h : WA X ρ M [e] fun ds M1 => CD X.K (rLen5 w X.K) ds M1 Q) : WE X ρ M (.Call (.Name "len" p) [e] [] pos) Q :=
  we_blt F (r := rLen5 w X.K) (fun pins s σ H vs us Q I r z => z.elim (fun z => call_len pins s σ H vs us Q I r z) fun z => call_lenN pins s σ H vs us Q I r (by rw [F.hw]; exact z))
    (fun xs H Q Q' z q => z.elim (fun ⟨i, j, a, b, c⟩ => .inl ⟨i, j, a, b, q _ _ c⟩) fun ⟨a1, a2, a3, a4, a5, a6, a7, a8⟩ => .inr ⟨a1, a2, a3, a4, a5, a6, a7, q _ _ a8⟩) PySem.boot_len hx hx2 hs h
instance (priority := 3000) [F : Fx X P w K mg base sc N L C Gs Bs k] [m : MemC "len" Gs] [m2 : MemC "len" Bs] : Step (WE X ρ M (.Call (.Name (Str.ofString "len") p) [e] [] pos) Q) (noStars [e]) (WA X ρ M [e] fun ds M1 => CD X.K (rLen5 w X.K) ds M1 Q) := ⟨fun h q => we_len5 F m.h m2.h h q⟩
instance (priority := low) {ds : List DV} : Step (CD K (rLen5 w K) ds M Q) true (CD K (rLen3 K) ds M Q) := ⟨fun _ z vs H r m => .inl (z vs H r m)⟩
/-! del d[k] -/
/-! [*d, ..] -/
end
end G
namespace G
open PySem PySem.Spec PyProof.Rows L2
/-! ### min(l, key=lambda x: ..), whole numbers as keys -/
section
variable {X : Cy} {pins : List (Addr × Obj)} {σ : L2.St} {A : Around} {E : Value → Shared → Prop} {Q : VK} {f l n : Addr} {M1 : Mm} {ds : List DV} {H0 : Hp}
end
section
variable {X : Cy} {P : Program} {w : World} {K : Fg} {mg : Str → Option Value} {base : Heap} {sc : Scope} {N L C Gs Bs Gs' : List Str} {k : Nat} {ρ : Ro} {M : Mm} {Q : DV → Mm → Prop} {e body : Expr} {params : Arguments} {scope : Scope} {x : Str} {i : Nat} {ms : List Bool} {pos p kp lp : Pos}
end
end G
namespace G
open PySem L2
/-! ### exceptions as values: C(..) by position and by name -/
section
open PySem.HandSPX PySem.W PySem.Calls
variable {prog : Program} {w : World} {M : Model} {A : Around} {E : Value → Shared → Prop} {R : Result → Shared → Prop} {h : Heap} {g : Array GenState} {d : Drawn} {t : Nat} {os : OsState} {kw : List (Str × Value)} {rest : List Value}
variable {nm q : Str} {C N : Addr} {bs bm bmB : List Value} {hdct : Bool} {sn : List Str} {sub : List Value} {ab : Bool} {col : Option Bool} {dd : Option Addr} {k0 k1 k2 k3 k5 : Option Value} {B newId initId : String}
end
section
variable {X : Cx} {pins : List (Addr × Obj)} {σ : L2.St} {H : Hp} {s : Shared} {a C dx : Addr} {φ : Heap → Prop} {o' : HO}
/-- __init__ lays the fields fs, the last one first -/
def InitF (sp : Sp) (C : Addr) (fs : List Str) : Prop := ∀ (vs : List V) (H : Hp) (a : Addr) (Q : VK), vs.length = fs.length → H a = none →
  (∀ dx H2, H dx = none → dx ≠ a → H2 a = some (exo a C (some dx)) → H2 dx = some (exd dx (fs.zip vs).reverse) → (∀ b, b ≠ a → b ≠ dx → H2 b = H b) → Q .non H2) → sp (.ref a :: vs) (upd H a (exo a C none)) Q (fun _ _ _ => False)
end
end G
namespace G
open PySem L2
/-! ### exceptions as values: what may be asked of them -/
section
open PySem.W
variable {prog : Program} {w : World} {A : Around} {E : Value → Shared → Prop} {s : Shared} {K : Frag} {x D : Addr} {ox : Obj} {od : Option Obj}
theorem x_fo {C : Addr} {name : Str} {a g : Value} (hc : (clsIn K C).isSome = true) (ha : findIn K (.ref C) name = some (some a)) (hg : specialIn K a "__get__" = some (some g)) (ht : takesIn K a = some true) : findObj K C od name = some (.bind g a) := by
  obtain ⟨cd, e⟩ := Option.isSome_iff_exists.mp hc
  unfold findObj
  rw [e, Option.bind_some, ha, Option.bind_some]
  simp [hg, ht]
theorem x_class {Q : Option Value → Shared → Prop} (T : ExcC K D) (X : K.In s.heap) (I : PySem.W.InstAt s.heap x ox D od) (h : Q (some (.ref D)) { s with toks := s.toks + 1 }) : wpAny (model prog w) A (getAttr? (.ref x) "__class__") Q E s := by
  have hf : findObj K D od "__class__" = some (.bind (.builtin "getset_descriptor.__get__") (.builtin "object.__class__")) := x_fo (by obtain ⟨cd, hc, _⟩ := any_some T.hd; rw [hc]; rfl) T.ha T.hn T.ht
  obtain ⟨hp, g, d, t, os⟩ := s
  have L0 := I.type (M := model prog w); have L1 := looks_findIn (M := model prog w) X T.hg; have L2 := looks_findIn (M := model prog w) X T.hk; have L3 := looks_find (M := model prog w) X I hf
  have sub : Looks (model prog w) hp (isInstance (.ref x) (.type "BaseException")) true := L0.andThen (looks_subIn X T.hs)
  have y0 : (false && onTheHeap (Value.builtin "BaseException.__getattribute__")) = false := rfl
  have y2 : (Value.builtin "BaseException.__getattribute__" == Value.builtin "object.__getattribute__") = false := by decide +kernel
  have y1 : (onTheHeap (Value.ref D) && Value.builtin "BaseException.__getattribute__" == Value.builtin "object.__getattribute__") = false := by rw [y2]; rfl
  unfold getAttr? getAttrBy? getAttrBy
  refine wpAny_bind (wpAny_mkText (wpAny_bind (wpAny_attempt (wpAny_holding (wpAny_bind (L0.at (wpAny_bind (L1.at (?_ : wpAny _ _ (if (onTheHeap (Value.ref D) && Value.builtin "BaseException.__getattribute__" == Value.builtin "object.__getattribute__") = true then _ else _) _ _ _)))))))))
  rw [y1, if_neg Bool.false_ne_true]
  unfold getAttrByItsOwn hookBefore
  refine wpAny_bind ?_
  rw [if_pos (show onTheHeap (Value.ref D) = true from rfl)]
  refine L2.at (wpAny_bind (wpAny_attempt (wpAny_holding ?_)))
  unfold callGetattribute
  rw [y0, if_neg Bool.false_ne_true]
  unfold boundAndCalled
  rw [PySem.F.excAttr_ValueError.ga.bind (.ref x)]
  refine wpAny_bind (wpAny_pure (?_ : wpAny _ _ (call (.builtin "BaseException.__getattribute__") [.ref x, .str "__class__" t]) _ _ _))
  refine wpAny_call (codeAny_call_builtin PySem.F.excAttr_ValueError.ga.plain PySem.F.entry_bexc_ga (@check_slot (model prog w) _ _ ⟨hp, g, d, t + 1, os⟩ "BaseException.__getattribute__" "BaseException" "__getattribute__" (.ref x) [.str "__class__" t] [] _ (by decide +kernel) (by decide +kernel) sub (PySem.F.args_bexc_ga (.ref x) (.str "__class__" t)) ?_))
  unfold Builtin.«object.__getattribute__»
  refine wpAny_bind (wpAny_of_eq (a := ((Value.ref x : Value), [Value.str "__class__" t])) (by first | rfl | (simp only [slotArgs]; rfl)) (wpAny_bind (wpAny_pure (wpAny_bind (L0.at (wpAny_bind (L3.at (?_ : wpAny _ _ (holding [Value.builtin "object.__class__"] (call (.builtin "getset_descriptor.__get__") [.builtin "object.__class__", .ref x, .ref D]) >>= ret) _ _ _))))))))
  refine wpAny_bind (wpAny_holding (wpAny_call (class_get (s := ⟨hp, g, d, t + 1, os⟩) (ox := ox) (od := od) X I T.hm (wpAny_pure (?_ : wpAny _ _ (handedOut (.ref D)) _ _ _)))))
  rw [handedOut_of (v := .ref D) rfl]
  first
    | exact wpAny_pure (wpAny_pure h)
    | exact wpAny_pure h
    | exact wpAny_pure (wpAny_bind (wpAny_pure (wpAny_pure h)))
theorem x_kit (T : ExcC K D) : KitX K (.ref x) (.ref D) (fun h => ∃ od, PySem.W.InstAt h x ox D od) where
  ty := fun _ _ _ ⟨od, I⟩ => I.type
  it := fun _ _ X _ => by
    obtain ⟨cdD, hcD, _⟩ := any_some T.hd
    unfold clsIn at hcD
    split at hcD
    · rename_i c' d' cd' sl' ho
      intro A' Q' E' s' k q
      unfold isType loadHead
      exact wpAny_bind (wpAny_loadPart (k _ _ (X _ _ ho)) (wpAny_pure q))
    · cases hcD
  ne := fun h tp dd its n sl X htp => by
    obtain ⟨cdD, hcD, _⟩ := any_some T.hd
    refine Bool.eq_false_iff.mpr fun q => ?_
    have e : D = tp := Value.ref.inj (beq_iff_eq.mp q)
    subst e
    unfold clsIn at hcD
    split at hcD
    · rename_i c' d' cd' sl' ho
      have z := (X _ _ ho).symm.trans htp
      cases z
    · cases hcD
  ca := fun X ⟨od, I⟩ k => x_class T X I k
end
/-- an exception's object, as it is held -/
def XH (H : Hp) (a C : Addr) (gs : List (Str × V)) : Prop := ∃ oe : Obj, H a = some (PinO a oe) ∧ oe.cls = .ref C ∧ (∃ vs, oe.data = .fields vs) ∧ ((oe.dict = none ∧ gs = []) ∨ ∃ dx, oe.dict = some dx ∧ H dx = some (.xd gs))
section
variable {X : Cx} {pins : List (Addr × Obj)} {σ : L2.St} {H : Hp} {s : Shared} {a C : Addr} {gs : List (Str × V)}
theorem XH.inst (I : Inv X pins σ H s) (h : XH H a C gs) : ∃ oe od, PySem.W.InstAt s.heap a oe C od ∧ ∀ f v, gs.lookup f = some v → ∃ u, RelV v u ∧ ∃ o, od = some o ∧ PySem.W.lookIn f o = some (some u) := by
  obtain ⟨oe, h1, h2, ⟨vs, h3⟩, h4⟩ := h
  obtain ⟨ha, _⟩ := I.hok a _ h1
  have no : PySem.W.notCls oe = true := by unfold PySem.W.notCls; rw [h3] <;> rfl
  rcases h4 with ⟨e1, e2⟩ | ⟨dx, e1, e2⟩
  · subst e2
    exact ⟨oe, none, ⟨ha, h2, no, by rw [e1]; trivial⟩, fun f v z => nomatch z⟩
  · obtain ⟨mA, hns, hr⟩ := (show ObjOk X.prog X.w H s.heap dx (.xd gs) from I.hok dx _ e2)
    obtain ⟨od, ho, hl⟩ := lookIn_ns hns
    refine ⟨oe, some od, ⟨ha, h2, no, by rw [e1]; exact ho⟩, fun f v z => ?_⟩
    obtain ⟨u, hu, ru⟩ := RelO.some_of (v := v) (o := mA f) (by rw [← z]; exact hr f)
    exact ⟨u, ru, od, rfl, by rw [hl, hu]⟩
/-- isinstance(e, c) -/
def rIsX (K : Fg) : List V → Hp → VK → Prop := fun xs H Q => ∃ a C gs c cv b, xs = [.ref a, c] ∧ XH H a C gs ∧ ExcC K C ∧ (∀ u, RelV c u → u = cv) ∧ PySem.W.kitOne K (.ref C) cv = some b ∧ Q (.bl b) H
theorem call_isX : CallR X (.builtin "isinstance") (rIsX X.K) := fun pins s σ H xs us Q I r h => by
  obtain ⟨a, C, gs, c, cv, b, rfl, hx, T, hcv, e, q⟩ := h
  obtain ⟨u1, u2, rfl, r1, r2⟩ := vals2 r
  cases (show u1 = Value.ref a from r1)
  have ec := hcv _ r2
  subst ec
  obtain ⟨oe, od, J, _⟩ := hx.inst I
  exact PySem.W.kia_one (x_kit T) I.kIn ⟨od, J⟩ e (fun z => nomatch z) fun tk => ⟨.bl b, H, I.tok tk, rfl, q⟩
/-- two lists of the same values -/
def rNeS (K : Fg) : R2 := fun x y H Q => ∃ a b xs, x = .ref a ∧ y = .ref b ∧ SqL K H a xs ∧ SqL K H b xs ∧ (∀ v ∈ xs, flatB v = true ∨ ∃ c, v = .ref c) ∧ Q (.bl false) H
theorem op_neS (hu : X.A.units < cLine) : OpR X (compareOp .NotEq) (rNeS X.K) := fun pins s σ H x y v u Q I rx ry h => by
  obtain ⟨a, b, xs, rfl, rfl, ha, hb, hf, q⟩ := h
  cases (show v = Value.ref a from rx)
  cases (show u = Value.ref b from ry)
  obtain ⟨us, r1, p1, _⟩ := I.list ha
  obtain ⟨ws, r2, p2, _⟩ := I.list hb
  have hsz : us.toArray.size = ws.toArray.size := by rw [List.size_toArray, List.size_toArray, ← r1.length, ← r2.length]
  have it : ∀ (xs : List V) (us ws : List Value), Vals xs us → Vals xs ws → (∀ v ∈ xs, flatB v = true ∨ ∃ c, v = .ref c) → ∀ j (h1 : j < us.length) (h2 : j < ws.length), SeqAt.EqAt X.A.in1 s us[j] ws[j] true := by
    intro xs
    induction xs with
    | nil => intro us ws r1 r2 _ j h1; cases r1; exact absurd h1 (Nat.not_lt_zero j)
    | cons z zs ih =>
      intro us ws r1 r2 hf j h1 h2
      cases r1 with
      | cons a1 b1 =>
        cases r2 with
        | cons a2 b2 =>
          cases j with
          | zero =>
            rcases hf z List.mem_cons_self with f | ⟨c, f⟩
            · exact eqAt_same a1 a2 f
            · subst f
              cases (show _ = Value.ref c from a1)
              cases (show _ = Value.ref c from a2)
              exact SeqAt.EqAt.same _
          | succ j => exact ih _ _ b1 b2 (fun v hv => hf v (List.mem_cons_of_mem _ hv)) j (Nat.lt_of_succ_lt_succ h1) (Nat.lt_of_succ_lt_succ h2)
  refine SeqAt.RcNeAt.lists (e := fun _ => true) p1.isList p2.isList hsz hu (fun j h1 h2 => ?_) _ _ _ _ ?_
  · have k := it xs us ws r1 r2 hf j (by simpa using h1) (by simpa using h2)
    simpa using k
  · rw [show ((List.range us.toArray.size).all fun _ => true) = true from List.all_eq_true.mpr fun _ _ => rfl]
    exact ⟨.bl false, H, I, rfl, q⟩
end
end G
namespace G
open PySem L2
/-! ### exceptions as values: the rules -/
theorem RF.app {κ : Type} {K : Fg} {H : Hp} : ∀ {fs fs' : List (κ × DV)} {gs gs' : List (κ × V)}, RF K H fs gs → RF K H fs' gs' → RF K H (fs ++ fs') (gs ++ gs')
  | _, _, _, _, .nil, q => q
  | _, _, _, _, .cons r t, q => .cons r (RF.app t q)
theorem RF.rev {κ : Type} {K : Fg} {H : Hp} : ∀ {fs : List (κ × DV)} {gs : List (κ × V)}, RF K H fs gs → RF K H fs.reverse gs.reverse
  | _, _, .nil => .nil
  | _, _, .cons r t => by rw [List.reverse_cons, List.reverse_cons]; exact RF.app (RF.rev t) (.cons r .nil)
theorem RF.zip {κ : Type} {K : Fg} {H : Hp} : ∀ (ks : List κ) {ds : List DV} {vs : List V}, RDs K H ds vs → RF K H (ks.zip ds) (ks.zip vs)
  | [], _, _, _ => .nil
  | _ :: _, _, _, .nil => .nil
  | _ :: ks, _, _, .cons r t => .cons r (RF.zip ks t)
/-- an exception class x, at C, whose __init__ lays the fields fs -/
class ExF (P : Program) (w : World) (K : Fg) (mg : Str → Option Value) (base : Heap) (x : Str) (C : outParam Addr) (fs : outParam (List Str)) : Prop where
  oex : OexC K C
  gm : mg x = some (.ref C)
  fn : ∃ fI fd sp, PySem.W.findIn K (.ref C) "__init__" = some (some (.ref fI)) ∧ PySem.W.typeIn K (.ref fI) = some (.type "function") ∧ FnOk P w K mg base CX0 1 fI fd ("self" :: fs) sp ∧ InitF sp C fs ∧ Binds K fd ("self" :: fs) [] ∧ KBn K fd ("self" :: fs) 1 fs.reverse (fun us ws => us ++ ws.reverse) (fun us ws => us ++ ws.reverse)
  len : fs.length ≤ 10
/-- an exception class without an own __init__ -/
class ExN (K : Fg) (mg : Str → Option Value) (x : Str) (C : outParam Addr) : Prop where
  ex : ∃ B n i bm, ExcBaseFacts B n i bm ∧ PySem.W.excIn K C bm n = true
  gm : mg x = some (.ref C)
  kp : PySem.W.keepIn K (.ref C) = true
def ExTF (K : Fg) (mg : Str → Option Value) (x qual : Str) (fs : List Str) (C : Addr) (st : Stmt) : Prop := OexC K C ∧ mg x = some (.ref C) ∧ ∃ fI fd, PySem.W.findIn K (.ref C) "__init__" = some (some (.ref fI)) ∧ PySem.W.typeIn K (.ref fI) = some (.type "function") ∧ Fun K "__init__" qual st fI fd ∧ Binds K fd ("self" :: fs) [] ∧ KBn K fd ("self" :: fs) 1 fs.reverse (fun us ws => us ++ ws.reverse) (fun us ws => us ++ ws.reverse)
section
variable {P : Program} {w : World} {K : Fg} {mg : Str → Option Value} {base : Heap} {x f f2 qual : Str} {C : Addr} {st : Stmt}
theorem initF1 : InitF (spI f C) C [f] := fun vs H a Q hl ha h => by
  match vs, hl with
  | [v], _ =>
    refine ⟨a, v, rfl, upd_same, fun dx hdx hne => h dx _ (by rw [upd_ne hne] at hdx; exact hdx) hne upd_same (by rw [upd_ne hne, upd_same]; rfl) fun b h1 h2 => by rw [upd_ne h1, upd_ne h2, upd_ne h1]⟩
theorem exf_mk1 (T : ExTF K mg x qual [f] C st) (no : PySem.W.findIn K (.ref C) f = some none) (S : FnScope ["self", f] ["self", f] (defScope st)) {q1 q2 q3 q4 : Pos} (hb : defBody st = [.Assign [.Attribute (.Name "self" q1) f q2] (.Name f q3) q4]) (l1 : (defScope st).names.lookup ("self" : Str) = some .local) (l2 : (defScope st).names.lookup f = some .local)
    (n1 : (f == ("__debug__" : Str)) = false) (n2 : (f == ("__classdict__" : Str)) = false) : ExF P w K mg base x C [f] := by
  obtain ⟨t1, t4, fI, fd, t5, t6, t7, t8, t9⟩ := T
  refine ⟨t1, t4, ⟨fI, fd, spI f C, t5, t6, ?_, initF1, t8, t9⟩, by simp⟩
  refine t7.ok S (fun vs H Q E ⟨a, v, e, _⟩ => by rw [e]; rfl) fun cdv A outer s H vs Q E hr ⟨a, v, e, h1, h2⟩ => ?_
  subst e
  rw [hb]
  refine ⟨_, pss_one (ps_ost (pe_var (i := 0) rfl (.inl l1) (by decide) (by decide)) (pe_var (i := 1) rfl (.inl l2) n1 n2)), ?_⟩
  exact ⟨v, rfl, .ref a, rfl, a, C, rfl, t1, no, .inl ⟨h1, h2⟩⟩
end
section
variable {X : Cx} {C : Addr} {fs : List Str} {x : Str} {e : Expr} {es : List Expr} {kws : List Keyword} {ta tk : TA} {p pos : Pos} {k : Nat}
end
section
variable {X : Cy} {P : Program} {w : World} {K : Fg} {mg : Str → Option Value} {base : Heap} {sc : Scope} {N L C Gs Bs : List Str} {k i j n : Nat} {ρ : Ro} {M : Mm} {Q : DV → Mm → Prop} {R : Bool → Mm → Prop} {e e1 e2 a b : Expr} {es : List Expr} {pos p p1 p2 : Pos} {x y f k1 k2 : Str} {Cc : Addr} {fs : List Str}
end
end G
namespace G
open PySem L2
/-! ### isinstance, fields, list * int, != of lists, unpacking a list -/
theorem vals_rev : ∀ {vs : List V} {us : List Value}, Vals vs us → Vals vs.reverse us.reverse
  | _, _, .nil => .nil
  | _, _, .cons r t => by rw [List.reverse_cons, List.reverse_cons]; exact (vals_rev t).append (.cons r .nil)
class GRef (mg : Str → Option Value) (x : Str) (C : outParam Addr) : Prop where
  h : mg x = some (.ref C)
section
variable {X : Cy} {P : Program} {w : World} {K : Fg} {mg : Str → Option Value} {base : Heap} {sc : Scope} {N L C Gs Bs : List Str} {k i j n : Nat} {ρ : Ro} {M : Mm} {Q : DV → Mm → Prop} {R : Bool → Mm → Prop} {S nx bk ct : Ro → Mm → Prop} {rt : DV → Mm → Prop} {e e2 a b t : Expr} {es ts : List Expr} {pos p p1 p2 : Pos} {x y f : Str} {Cc q q2 : Addr} {fs : List (Str × DV)} {d : DV} {ds : List DV}
theorem mon_isX : MonC (rIsX K) := fun xs H Q Q' ⟨a, b, c, d, f, g, h1, h2, h3, h4, h5, z⟩ q => ⟨a, b, c, d, f, g, h1, h2, h3, h4, h5, q _ _ z⟩
/-- isinstance of exceptions, and of all else -/
def rIs9 (K : Fg) : List V → Hp → VK → Prop := fun vs H Q => rIsX K vs H Q ∨ rIsi K vs H Q
theorem mon_is9 : MonC (rIs9 K) := fun xs H Q Q' z q => z.elim (fun z => .inl (mon_isX _ _ _ _ z q)) fun ⟨a, b, c, d, f, g, h, i, j, k⟩ => .inr ⟨a, b, c, d, f, g, h, i, j, q _ _ k⟩
instance (priority := low) : Step (CD K (rIs9 K) ds M Q) true (CD K (rIsi K) ds M Q) := ⟨fun _ z vs H r m => .inr (z vs H r m)⟩
/-- l * n -/
def rMul6 (K : Fg) : R2 := fun x y H Q => rMul4 K x y H Q ∨ L2.rRep x y H Q
theorem mon_rep : MonR L2.rRep := fun x y H Q Q' ⟨a, b, c, h1, h2, h3, h4, h5, h6, h7⟩ q => ⟨a, b, c, h1, h2, h3, h4, h5, h6, fun z hz => q _ _ (h7 z hz)⟩
theorem we_mul6 (h : WE X ρ M a fun x M1 => WE X ρ M1 b fun y M2 => R2D X.K (rMul6 X.K) x y M2 Q) : WE X ρ M (.BinOp a .Mult b pos) Q := we_op (pe_op (((op_mul.or op_mulW).or (op_mulS.or op_mulT)).or op_rep)) (((monI.or monI).or (mon_mulS.or mon_mulT)).or mon_rep) h
instance (priority := 3000) : Step (WE X ρ M (.BinOp a .Mult b pos) Q) true (WE X ρ M a fun x M1 => WE X ρ M1 b fun y M2 => R2D X.K (rMul6 X.K) x y M2 Q) := ⟨fun _ => we_mul6⟩
instance (priority := low) {dx dy : DV} : Step (R2D K (rMul6 K) dx dy M Q) true (R2D K (rMul4 K) dx dy M Q) := ⟨fun _ z => R2D.l z⟩
/-- l != l2 -/
def rNe6 (K : Fg) : R2 := fun x y H Q => rNe3 K x y H Q ∨ rNeS K x y H Q
theorem mon_neS : MonR (rNeS K) := fun x y H Q Q' ⟨a, b, c, h1, h2, h3, h4, h5, h6⟩ q => ⟨a, b, c, h1, h2, h3, h4, h5, q _ _ h6⟩
theorem op_ne6 (F : Fx X P w K mg base sc N L C Gs Bs k) : OpR X.toCx (compareOp .NotEq) (rNe6 X.K) := ((op_ne.or (op_neD F.room.units)).or (op_neS (by have := F.room.un; omega)))
theorem mon_ne6 : MonR (rNe6 K) := fun x y H Q Q' h q => h.elim (fun h => .inl (mon_ne _ _ _ _ _ h q)) fun h => .inr (mon_neS _ _ _ _ _ h q)
end
end G
namespace G
open PySem PySem.Spec PyProof.Rows L2
/-! ### x(e, .., k = e1) of a class with its own __init__ -/
section
variable {P : Program} {w : World} {K : Fg} {mg : Str → Option Value} {base : Heap} {N L C Gs Bs : List Str} {k : Nat}
end
section
variable {X : Cy} {P : Program} {w : World} {K : Fg} {mg : Str → Option Value} {base : Heap} {sc : Scope} {N L C Gs Bs : List Str} {k j n : Nat} {ρ : Ro} {M : Mm} {Q : DV → Mm → Prop} {e e1 : Expr} {es : List Expr} {pos p p1 : Pos} {x k1 : Str} {sp : SpD} {Cc : Addr}
end
end G
namespace G
open PySem PySem.Spec PyProof.Rows L2
/-! ### defs and methods that may raise; own methods called by syntax -/
class CalX (P : Program) (w : World) (K : Fg) (mg : Str → Option Value) (base : Heap) (x : Str) (j n : outParam Nat) (sp : outParam SpX) : Prop where
  ex : ∃ (f : Addr) (fd : FuncData) (ps : List Str), FnOk P w K mg base (L2.CX P w) j f fd ps (sp1X K n sp) ∧ mg x = some (.ref f) ∧ PySem.W.keepIn K (.ref f) = true ∧ Binds K fd ps []
class McalX (P : Program) (w : World) (K : Fg) (mg : Str → Option Value) (base : Heap) (C : Addr) (m : Str) (j n : outParam Nat) (sp : outParam SpX) : Prop where
  cl : Cls K C
  nsq : PySem.W.noSeq K C = true
  ex : ∃ (f : Addr) (fd : FuncData) (ps : List Str), FnOk P w K mg base (L2.CX P w) j f fd ps (sp1X K n sp) ∧ Meth K C m f ∧ Binds K fd ps [] ∧ PySem.W.fnIn K f = true
/-- what the text says of them -/
def FnTX (K : Fg) (mg : Str → Option Value) (x : Str) (st : Stmt) (ps : List Str) : Prop := ∃ f fd dV, FunD K x x st f fd dV ∧ mg x = some (.ref f) ∧ Binds K fd ps []
section
variable {P : Program} {w : World} {K : Fg} {mg : Str → Option Value} {base : Heap} {N L C Gs Bs : List Str} {k : Nat}
theorem calX_mk {x : Str} {st : Stmt} {ps : List Str} {sp : SpX} (T : FnTX K mg x st ps) (S : FnScope N ps (defScope st)) (hst : stat (defScope st) N L C Gs = true) (hb : ∀ x ∈ Bs, mg x = none)
    (h : ∀ X, Fx X P w K mg base (defScope st) N L C Gs Bs k → ∀ ds M Q E, ds.length = ps.length → sp ds M Q E → Tk X (fun Cc fs _ M' => Sub (E Cc fs) M') → WSs X (ini N ds) M (defBody st) (fun _ M' => Sub (Q .non) M') (fun d M' => Sub (Q d) M') (fun _ _ => False) (fun _ _ => False)) :
    CalX P w K mg base x (k + 1) ps.length sp := by
  obtain ⟨f, fd, dV, h1, h2, h3⟩ := T
  exact ⟨f, fd, ps, fn_okDX h1 S hst hb h, h2, h1.kp, h3⟩
end
section
variable {X : Cy} {P : Program} {w : World} {K : Fg} {mg : Str → Option Value} {base : Heap} {sc : Scope} {N L C Gs Bs : List Str} {k j n : Nat} {ρ : Ro} {M : Mm} {Q : DV → Mm → Prop} {R : Bool → Mm → Prop} {a b e o : Expr} {es : List Expr} {pos p apos : Pos} {x m : Str} {sp : SpX} {Cc : Addr} {E : EX} {A : Around} {f : Addr} {fd : FuncData} {ps : List Str} {σ : L2.St} {H H0 : Hp} {pins : List (Addr × Obj)} {s : Shared}
/-- the state at a call near the body X -/
theorem env_near (I : Inv X.toCx pins σ H s) (hf : A.frames = X.A.frames) : Env0 X.prog X.w X.K X.mg X.base A X.stack s H := by
  have e := I.env0
  exact ⟨by rw [hf]; exact e.frames, e.mod, e.bs, e.bsz, e.funs, e.frf, e.hok, e.bare⟩
theorem near_run {sq : Sp} {EE : XK} {us : List Value} {vs : List V} {QQ : VK} (G1 : FnOk X.prog X.w X.K X.mg X.base (L2.CX X.prog X.w) j f fd ps sq) (hr : Room j A) (hf : A.frames = X.A.frames) (hb : Binds X.K fd ps []) (hx : PassesAt (L2.CX X.prog X.w) X.toCx σ EE)
    (I : Inv X.toCx pins σ H s) (r : Vals vs us) (h : sq vs H QQ EE) : wpAny (model X.prog X.w) A (call (.ref f) us) (EP X.toCx pins σ QQ) X.xe s := by
  have hl : us.length = ps.length := by rw [← r.length]; exact G1.len _ _ _ _ h
  have hb' := hb s us I.kIn (by simpa using hl)
  rw [List.append_nil] at hb'
  refine wpAny_call (codeAny_mono (G1.run A X.stack s H ⟨us, []⟩ us vs QQ EE hr (env_near I hf) hb' r h) fun r s' hq => ?_)
  match r, hq with
  | .error e, hq => exact hx pins H s e s' I hq
  | .ok (.ret u), hq => exact I.after hq
  | .ok .next, hq => exact False.elim hq
  | .ok .brk, hq => exact False.elim hq
  | .ok .cont, hq => exact False.elim hq
/-- the promise by values -/
theorem sp_at {ds : List DV} {vs : List V} (rs : RS X H ρ σ) (rm : RM X.K H M) (st0 : Stay X.K H0 H) (rd : RDs X.K H ds vs) (hn : ds.length = n) (h : sp ds M Q (fun C fs M' => E C fs ρ M')) : sp1X X.K n sp vs H (LE X.K H0 Q) (fun cls d H' => LX X E cls d σ H') :=
  ⟨ds, M, Q, _, rd, rm, hn, h, fun d M' q v H' r1 r2 r3 => ⟨d, M', r1, r2, st0.trans r3, q⟩, fun C fs M' q de H' e1 e3 st => LX.ofD rs st e1 e3 q⟩
/-! calls by name -/
theorem we_callX (F : Fx X P w K mg base sc N L C Gs Bs k) (T : Tk X E) (G : CalX P w K mg base x j n sp) (hj : j ≤ k) (hx : x ∈ Gs) (hs : noStars (e :: es) = true) (h : WA X ρ M (e :: es) fun ds M1 => ds.length = n ∧ sp ds M1 Q (fun C fs M' => E C fs ρ M')) : WE X ρ M (.Call (.Name x p) (e :: es) [] pos) Q := fun σ H rs m pins s I => by
  obtain ⟨f, fd, ps, G, hm, hk, hb⟩ := G.ex
  obtain ⟨g1, g2, g3⟩ := F.gl x hx
  obtain ⟨h1, h2⟩ := noStars_cons hs
  have eP := F.hP; have ew := F.hw; have eK := F.hK; have eg := F.hmg; have eb := F.hbase
  subst eP ew eK eg eb
  refine wpAny_Call_Name_kw (ld_glob I g1 hm ?_ g2)
  refine PySem.W.callWith_K (h₀ := X.base) I.ok.mod.kin hk (thn (pa_w.run pos pins s σ H _ I (h σ H rs m)) fun us s1 ⟨vs, H1, I1, r, ds, M1, k1, k2, k3, k4, k5⟩ => ⟨I1.kIn, ?_⟩) (starEach_cons h1) (noStars_any h2)
  exact near_run G (F.room.mono hj) rfl hb (passAt T.tk σ) I1 r (sp_at (rs.mono k3) k2 k3 k1 k4 k5)
instance (priority := 500) [F : Fx X P w K mg base sc N L C Gs Bs k] [T : Tk X E] [G : CalX P w K mg base x j n sp] [mm : MemC x Gs] : Step (WE X ρ M (.Call (.Name x p) (e :: es) [] pos) Q) (Nat.ble j k && noStars (e :: es)) (WA X ρ M (e :: es) fun ds M1 => Side (ds.length = n) (sp ds M1 Q (fun C fs M' => E C fs ρ M'))) := ⟨fun h q => by
  rw [Bool.and_eq_true] at h
  exact we_callX F T G (Nat.le_of_ble_eq_true h.1) mm.h h.2 fun σ H r m => (q σ H r m).mono fun _ _ ⟨a, b, c, d, e, f⟩ => ⟨a, b, c, d, e, f.a, f.b⟩⟩
/-! the class's own m -/
/-- m of x's class is called on x and ds, what is raised goes to E -/
def DunD (P : Program) (w : World) (K : Fg) (mg : Str → Option Value) (base : Heap) (k : Nat) (E : EX) (ρ : Ro) (m : Str) (x : DV) (ds : List DV) (M : Mm) (Q : DV → Mm → Prop) : Prop :=
  ∃ a i Cc fs j n sp, x = .ref a ∧ AtM M i a (.ins Cc fs) ∧ McalX P w K mg base Cc m j n sp ∧ j + 3 ≤ k ∧ ds.length + 1 = n ∧ sp (.ref a :: ds) M Q (fun C fs M' => E C fs ρ M')
/-- an instance as the library sees it -/
structure InsAt (K : Fg) (s : Shared) (a Cc f : Addr) (m : Str) : Prop where
  at_ : ∃ od dx, PySem.W.InstAt s.heap a (PySem.W.instObj Cc dx) Cc (some od)
  find : PySem.W.findIn K (.ref Cc) m = some (some (.ref f))
  fn : PySem.W.isFn K (.ref f) = true
  fnI : PySem.W.fnIn K f = true
  nsq : PySem.W.noSeq K Cc = true
theorem ins_at {dx : Addr} {gs : List (Str × V)} {aa : Addr} (I : Inv X.toCx pins σ H s) (ha : H aa = some (.ins Cc dx gs)) : ∃ od dx', PySem.W.InstAt s.heap aa (PySem.W.instObj Cc dx') Cc (some od) := by
  obtain ⟨mA, J, _⟩ := ins_get I.hok ha
  obtain ⟨od, J, _⟩ := J.look
  exact ⟨od, dx, J⟩
theorem dun_run {ds : List DV} {d : DV} (F : Fx X P w K mg base sc N L C Gs Bs k) (T : Tk X E) (I : Inv X.toCx pins σ H s) (rs : RS X H ρ σ) (rm : RM X.K H M) (st0 : Stay X.K H0 H) (z : DunD P w X.K mg base k E ρ m d ds M Q) :
    ∃ aa Cc f, d = .ref aa ∧ InsAt X.K s aa Cc f m ∧ ∀ (A : Around) (us : List Value) (vs : List V), A.frames = X.A.frames → Room (k - 3) A → RDs X.K H ds vs → Vals vs us → wpAny (model X.prog X.w) A (call (.ref f) (.ref aa :: us)) (EP X.toCx pins σ (LE X.K H0 Q)) X.xe s := by
  obtain ⟨aa, i, Cc, fs, j, n, sp, e1, hA, G, hj, hn, h⟩ := z
  obtain ⟨f, fd, ps, G1, hm, hb, hfn⟩ := G.ex
  obtain ⟨dx, gs, q1, q2⟩ := rm.at hA.ix
  have eP := F.hP; have ew := F.hw; have eg := F.hmg; have eb := F.hbase
  subst eP ew eg eb
  refine ⟨aa, Cc, f, e1, ⟨ins_at I q1, hm.at_, hm.fn, hfn, G.nsq⟩, fun A us vs hf hr rd r => ?_⟩
  exact near_run (us := .ref aa :: us) (vs := .ref aa :: vs) G1 (hr.mono (by omega)) hf hb (passAt T.tk σ) I (.cons rfl r) (sp_at rs rm st0 (.cons (.ref aa) rd) (by rw [List.length_cons]; exact hn) h)
theorem room_in1 {k : Nat} {A : Around} (r : Room k A) (h : 3 ≤ k) : Room (k - 3) A.in1 := Room.in1 (r.mono (by omega))
/-- x[y] -/
def SubD (P : Program) (w : World) (K : Fg) (mg : Str → Option Value) (base : Heap) (k : Nat) (E : EX) (ρ : Ro) (x y : DV) (M : Mm) (Q : DV → Mm → Prop) : Prop := R2D K (rIx5 w K) x y M Q ∨ DunD P w K mg base k E ρ "__getitem__" x [y] M Q
theorem subscripted_plain {b : Expr} (hb : isSl b = false) (u i : Value) : subscripted b true u i = runValue (.builtin "lifetime.subscript" ⟨[u, i], []⟩) := by
  cases b <;> first | (with_unfolding_all rfl) | exact Bool.noConfusion hb
theorem we_ix6 (F : Fx X P w K mg base sc N L C Gs Bs k) (T : Tk X E) (hb : isSl b = false) (h : WE X ρ M a fun x M1 => WE X ρ M1 b fun y M2 => SubD P w X.K mg base k E ρ x y M2 Q) : WE X ρ M (.Subscript a b pos) Q := fun σ H rs m pins s I => by
  refine Subscript_ (thn (h σ H rs m pins s I) fun v s1 ⟨vx, H1, I1, rx, x, M1, a1, a2, a3, a4⟩ => ?_)
  refine thn (a4 σ H1 (rs.mono a3) a2 pins s1 I1) fun u s2 ⟨vy, H2, I2, ry, y, M2, b1, b2, b3, z⟩ => ?_
  rcases z with z | z
  · exact thn (ix_5 F a b pins s2 σ H2 vx vy v u _ I2 rx ry (z vx vy H2 (a1.mono b3) b1 b2) (plainIx hb _ _)) fun r s3 ⟨v3, H3, I3, r3, q3⟩ => ⟨v3, H3, I3, r3, q3.stay (a3.trans b3)⟩
  · obtain ⟨aa, Cc, f, e1, D, run⟩ := dun_run F T I2 ((rs.mono a3).mono b3) b2 (a3.trans b3) z
    subst e1
    cases a1
    cases rx
    obtain ⟨od, dx, J⟩ := D.at_
    obtain ⟨mm, hF⟩ := I2.fr
    obtain ⟨_, _, _, _, _, _, _, _, _, _, hk, _⟩ := z
    exact PySem.W.sub_K hF I2.ok.mod.kin J D.find D.fnI D.fn (run _ [u] [vy] rfl (room_in1 F.room (by omega)) (.cons b1 .nil) (.cons ry .nil)) (subscripted_plain hb _ _)
instance (priority := 3500) [F : Fx X P w K mg base sc N L C Gs Bs k] [T : Tk X E] : Step (WE X ρ M (.Subscript a b pos) Q) (!isSl b) (WE X ρ M a fun x M1 => WE X ρ M1 b fun y M2 => SubD P w K mg base k E ρ x y M2 Q) := ⟨fun h q => by have e0 := F.hK; subst e0; exact we_ix6 F T (by simpa using h) q⟩
instance (priority := low) {x y : DV} : Step (SubD P w K mg base k E ρ x y M Q) true (R2D K (rIx5 w K) x y M Q) := ⟨fun _ q => .inl q⟩
end
end G
namespace G
open PySem PySem.Spec PyProof.Rows L2
/-! ### own __contains__, __len__, __bool__, __call__, __setitem__ -/
section
variable {M : Model} {A : Around} {E : Value → Shared → Prop} {s : Shared} {K : PySem.W.Frag} {x C L f : Addr} {h₀ : Heap} {m : Str → Option Value} {ox : Obj} {od : Option Obj} {i v : Value}
end
section
variable {X : Cy} {P : Program} {w : World} {K : Fg} {mg : Str → Option Value} {base : Heap} {sc : Scope} {N L C Gs Bs : List Str} {k j n : Nat} {ρ ρ' : Ro} {M : Mm} {Q : DV → Mm → Prop} {R : Bool → Mm → Prop} {S : Ro → Mm → Prop} {a b e o : Expr} {es : List Expr} {pos p apos : Pos} {x m : Str} {sp : SpX} {Cc : Addr} {E : EX} {A : Around} {f : Addr} {fd : FuncData} {ps : List Str} {σ : L2.St} {H H0 : Hp} {pins : List (Addr × Obj)} {s : Shared} {neg : Bool}
/-! x in c -/
/-! len(x) -/
def LenO (P : Program) (w : World) (K : Fg) (mg : Str → Option Value) (base : Heap) (k : Nat) (E : EX) (ρ : Ro) (ds : List DV) (M : Mm) (Q : DV → Mm → Prop) : Prop :=
  CD K (rLen5 w K) ds M Q ∨ ∃ d, ds = [d] ∧ DunD P w K mg base k E ρ "__len__" d [] M (fun d M' => ∃ n : Int, d = .int n ∧ 0 ≤ n ∧ n < 2 ^ 63 ∧ Q (.int n) M')
theorem call_len5 (F : Fx X P w K mg base sc N L C Gs Bs k) : CallR X.toCx (.builtin "len") (rLen5 w X.K) := fun pins s σ H vs us Q I r z => z.elim (fun z => call_len pins s σ H vs us Q I r z) fun z => call_lenN pins s σ H vs us Q I r (by rw [F.hw]; exact z)
theorem we_lenO (F : Fx X P w K mg base sc N L C Gs Bs k) (T : Tk X E) (hx : ("len" : Str) ∈ Gs) (hx2 : ("len" : Str) ∈ Bs) (hs : noStars [e] = true) (h : WA X ρ M [e] fun ds M1 => LenO P w X.K mg base k E ρ ds M1 Q) : WE X ρ M (.Call (.Name "len" p) [e] [] pos) Q := fun σ H rs m pins s I => by
  obtain ⟨g1, g2, g3⟩ := F.gl "len" hx
  obtain ⟨h1, h2⟩ := noStars_cons hs
  refine wpAny_Call_Name_kw (ld_blt I g1 (by rw [F.hmg]; exact F.bl "len" hx2) PySem.boot_len ?_ g3 g2)
  refine PyProof.Rows.callWith_builtin1 (thn (pa_w.run pos pins s σ H _ I (h σ H rs m)) fun us s1 ⟨vs, H1, I1, r1, ds, M1, k1, k2, k3, z⟩ => ?_) (starEach_cons h1) (noStars_any h2)
  rcases z with z | ⟨d, e1, z⟩
  · exact thn (call_len5 F pins s1 σ H1 vs us _ I1 r1 (z vs H1 k1 k2)) fun r s3 ⟨v3, H3, I3, r3, q3⟩ => ⟨v3, H3, I3, r3, q3.stay k3⟩
  · obtain ⟨aa, Cc, f, e2, D, run⟩ := dun_run F T I1 (rs.mono k3) k2 k3 z
    subst e1 e2
    cases k1 with
    | cons q1 q2 =>
      cases q2; cases q1
      cases r1 with
      | cons r1 r2 =>
        cases r2; cases r1
        obtain ⟨od, dx', J⟩ := D.at_
        obtain ⟨mm, hF⟩ := I1.fr
        obtain ⟨_, _, _, _, _, _, _, _, _, _, hk, _⟩ := z
        refine PySem.W.len_K hF I1.ok.mod.kin J D.find D.fn (thn (run X.A.in1 [] [] rfl (room_in1 F.room (by omega)) .nil .nil) fun r s3 ⟨v3, H3, I3, r3, d3, M3, a1, a2, a3, n, e2, n1, n2, q⟩ => ?_)
        subst e2; cases a1
        obtain ⟨tk, rfl⟩ := r3
        exact ⟨⟨n1, n2⟩, .int n, H3, I3.tok _, ⟨_, rfl⟩, .int n, M3, .int n, a2, a3, q⟩
instance (priority := 3500) [F : Fx X P w K mg base sc N L C Gs Bs k] [T : Tk X E] [m : MemC "len" Gs] [m2 : MemC "len" Bs] : Step (WE X ρ M (.Call (.Name (Str.ofString "len") p) [e] [] pos) Q) (noStars [e]) (WA X ρ M [e] fun ds M1 => LenO P w K mg base k E ρ ds M1 Q) := ⟨fun h q => by have e0 := F.hK; subst e0; exact we_lenO F T m.h m2.h h q⟩
instance (priority := low) {ds : List DV} : Step (LenO P w K mg base k E ρ ds M Q) true (CD K (rLen5 w K) ds M Q) := ⟨fun _ q => .inl q⟩
/-! bool(x) -/
/-! x[y] = v -/
end
end G
namespace G
open PySem PySem.Spec PyProof.Rows L2
/-! ### x(..) of a local name that holds an instance; C(k = e); dicts of plain keys: get, pop, != {} -/
section
variable {M : Model} {A : Around} {E : Value → Shared → Prop} {s : Shared} {env : Env} {pos : Pos} {x : Addr} {first : List Value} {Q : Value → Shared → Prop}
end
section
variable {P : Program} {w : World} {K : Fg} {mg : Str → Option Value} {base : Heap} {N L C Gs Bs : List Str} {k : Nat}
end
section
variable {X : Cy} {P : Program} {w : World} {K : Fg} {mg : Str → Option Value} {base : Heap} {sc : Scope} {N L C Gs Bs : List Str} {k j n i : Nat} {ρ ρ' : Ro} {M : Mm} {Q : DV → Mm → Prop} {R : Bool → Mm → Prop} {S : Ro → Mm → Prop} {a b e e1 e2 f o : Expr} {es : List Expr} {pos p p1 p2 apos : Pos} {x m k1 k2 : Str} {sp : SpX} {Cc aa : Addr} {E : EX} {σ : L2.St} {H H0 : Hp} {pins : List (Addr × Obj)} {s : Shared} {dd : List DV} {q : Addr} {ob : Obj} {kvs : List (DV × DV)} {kk : NK} {d d2 : DV}
/-- what stands at a name -/
theorem name_at (F : Fx X P w K mg base sc N L C Gs Bs k) (A : At N ρ x d) (rs : RS X H ρ σ) (rm : RM X.K H M) (I : Inv X.toCx pins σ H s) : wpAny (model X.prog X.w) X.A (eval (.Name x p) X.env) (fun u s' => ∃ v, RelV v u ∧ ∃ H', Inv X.toCx pins σ H' s' ∧ RD X.K H' d v ∧ RM X.K H' M ∧ Stay X.K H H') X.xe s :=
  thn (we_name (Q := fun d' M' => d' = d ∧ M' = M) F A ⟨rfl, rfl⟩ σ H rs rm pins s I) fun u s' ⟨v, H', I', r, d', M', a1, a2, a3, e1, e2⟩ => by
    subst e1 e2
    exact ⟨v, r, H', I', a1, a2, a3⟩
/-! C(k = e), nothing raised -/
end
/-! ### d.get(k, x), d.pop(k, x) -/
section
variable {P : Program} {w : World} {A : Around} {E : Value → Shared → Prop} {s : Shared} {d : Addr} {xs : List PEnt} {k : NK} {key : Value}
end
end G
namespace G
open PySem PySem.Spec PyProof.Rows L2
/-! ### d.get(k, x), d.pop(k, x), l.clear(), d != {}: the steps -/
section
variable {X : Cy} {P : Program} {w : World} {K : Fg} {mg : Str → Option Value} {base : Heap} {sc : Scope} {N L C Gs Bs : List Str} {k j n i : Nat} {ρ ρ' : Ro} {M : Mm} {Q : DV → Mm → Prop} {R : Bool → Mm → Prop} {a b e f o : Expr} {es : List Expr} {pos p apos : Pos} {x m : Str} {q q2 : Addr} {ob : Obj} {kvs : List (DV × DV)} {kk : NK} {d d2 dx dy : DV} {ds : List DV}
/-! l.clear() -/
end
/-! d != {} -/
section
variable {prog : Program} {w : World} {A : Around} {E : Value → Shared → Prop} {s : Shared} {a b : Addr} {oa oc : Obj} {es es' : Array DictEntry} {ep ep' : Nat}
theorem samePairs0 {nm : String} {Q : Bool → Shared → Prop} (ha : (a == sysModules) = false) (hb : (b == sysModules) = false) (hoa : s.heap.get? a = some oa) (hda : oa.data = .dict es ep) (hob : s.heap.get? b = some oc) (hdb : oc.data = .dict es' ep') (h0 : es'.size = 0) (h : Q (es.size == 0) s) :
    wpAny (model prog w) A (Builtin.Dict.samePairs nm a b) Q E s := by
  unfold Builtin.Dict.samePairs Builtin.Dict.showsAll
  rw [if_neg (show ¬ (a == sysModules) = true by rw [ha]; exact Bool.false_ne_true), if_neg (show ¬ (b == sysModules) = true by rw [hb]; exact Bool.false_ne_true)]
  refine wpAny_bind (wpAny_pure (wpAny_bind (wpAny_pure ?_)))
  refine wpAny_bind (wpAny_dictEntries hoa hda ?_)
  dsimp only
  refine wpAny_bind (wpAny_dictEntries hob hdb ?_)
  rw [h0]
  by_cases hsz : es.size = 0
  case neg =>
    rw [if_pos (by simpa using hsz)]
    have hbf : (es.size == 0) = false := by simpa using hsz
    rw [hbf] at h
    exact wpAny_bind (wpAny_rule (wpAny_pure h))
  case pos =>
    rw [hsz] at h ⊢
    rw [if_neg (by simp)]
    refine wpAny_bind (wpAny_dictEpoch hoa hda ?_)
    refine wpAny_bind ?_
    rw [Std.Legacy.Range.forIn_eq_forIn_range']
    simp only [Std.Legacy.Range.size, Nat.sub_zero, Nat.add_sub_cancel, Nat.div_one, List.range'_zero, List.forIn_nil]
    exact wpAny_pure (wpAny_pure h)
theorem ne_empty {Q : Value → Shared → Prop} (ta : s.TypeIs (.ref a) "dict") (tb : s.TypeIs (.ref b) "dict") (ha : (a == sysModules) = false) (hb : (b == sysModules) = false) (hoa : s.heap.get? a = some oa) (hda : oa.data = .dict es ep) (hob : s.heap.get? b = some oc) (hdb : oc.data = .dict es' ep') (h0 : es'.size = 0) (hu : A.units < cLine) (h : Q (.bool (!(es.size == 0))) s) :
    wpAny (model prog w) A (compareOp .NotEq (.ref a) (.ref b)) Q E s := by
  refine wpAny_richCompare_same_room (op := .NotEq) ta tb PySem.F.slot_dict_ne (wpAny_call_entry PySem.F.slot_dict_ne ta PySem.F.entry_dict_ne ?_ (PySem.F.args_dict_ne_2 _ _)) hu
  show wpAny _ _ (Builtin.Dict.dictSlotArgs "__ne__" ⟨[.ref a, .ref b], []⟩ >>= _) _ _ s
  refine wpAny_bind ?_
  unfold Builtin.Dict.dictSlotArgs
  refine wpAny_bind (wpAny_notOrdered_dict ta ?_)
  show wpAny _ _ (pure (Value.ref a, Value.ref b)) _ _ s
  refine wpAny_pure ?_
  refine wpAny_bind (wpAny_isInstance (T := "dict") tb PySem.F.sub_dict_dict ?_)
  simp only [Bool.not_true, Bool.false_eq_true, if_false]
  refine wpAny_bind (wpAny_pure (wpAny_bind (wpAny_pure ?_)))
  refine wpAny_bind (samePairs0 ha hb hoa hda hob hdb h0 ?_)
  refine wpAny_pure ⟨_, rfl, ?_, ?_⟩
  · exact fun x => nomatch x
  · simpa using h
end
section
variable {X : Cy} {P : Program} {w : World} {K : Fg} {mg : Str → Option Value} {base : Heap} {sc : Scope} {N L C Gs Bs : List Str} {k i j : Nat} {ρ : Ro} {M : Mm} {Q : DV → Mm → Prop} {R : Bool → Mm → Prop} {a b : Expr} {pos : Pos} {q q2 : Addr} {ob : Obj} {kvs : List (DV × DV)} {dx dy : DV}
def rNeE (w : World) (K : Fg) : R2 := fun x y H Q => ∃ p p2 o kvs xs, x = .ref p ∧ y = .ref p2 ∧ H p = some (DnO w p o xs) ∧ RKs K H kvs xs ∧ H p2 = some (.dK []) ∧ Q (.bl (!(kvs.length == 0))) H
def rNe7 (w : World) (K : Fg) : R2 := fun x y H Q => rNe6 K x y H Q ∨ rNeE w K x y H Q
theorem op_ne7 (F : Fx X P w K mg base sc N L C Gs Bs k) : OpR X.toCx (compareOp .NotEq) (rNe7 w X.K) := (op_ne6 F).or fun pins s σ H x y v u Q I rx ry ⟨p, p2, o, kvs, xs, e1, e2, h1, h2, h3, z⟩ => by
  subst e1 e2
  obtain rfl : v = Value.ref p := rx
  obtain rfl : u = Value.ref p2 := ry
  obtain ⟨go, pd⟩ := dn_of I h1
  obtain ⟨hs1, hx1, es, ep, hd1, he1, hz1⟩ := pd.raw go
  obtain ⟨_, hs2, vs, rel, hd⟩ := I.hok p2 _ h3
  cases rel
  obtain ⟨o2, es2, ep2, g1, g2, g3, g4, g5, g6⟩ := hd
  have h0 : es2.size = 0 := by
    have z := g5.length
    rw [← Array.length_toList]
    exact z
  refine ne_empty pd.ty ⟨o2, g1, g2.1⟩ hs1 hs2 go hd1 g1 g3 h0 (by have := F.room.un; omega) ?_
  rw [hz1, ← h2.len]
  exact ⟨.bl _, H, I, rfl, z⟩
theorem mon_ne7 : MonR (rNe7 w K) := mon_ne6.or fun x y H Q Q' ⟨p, p2, o, kvs, xs, e1, e2, h1, h2, h3, z⟩ q => ⟨p, p2, o, kvs, xs, e1, e2, h1, h2, h3, q _ _ z⟩
instance (priority := 3500) [F : Fx X P w K mg base sc N L C Gs Bs k] : Step (WT X ρ M (.Compare a [.NotEq] [b] pos) R) true (WE X ρ M a fun x M1 => WE X ρ M1 b fun y M2 => R2D X.K (rNe7 w X.K) x y M2 (QB R)) := ⟨fun _ => wt_op (fun ha hb => pt_cmpR (op_ne7 F) ha hb (nomark _)) mon_ne7⟩
instance (priority := low) : Step (R2D K (rNe7 w K) dx dy M Q) true (R2D K (rNe3 K) dx dy M Q) := ⟨fun _ z => R2D.l (R2D.l z)⟩
/-! to stop a walk -/
end
end G
namespace G
open PySem PySem.Spec PyProof.Rows L2
/-! ### lambdas without parameters, called by another def while their frame runs; they may raise and may change objects -/
/-- the cells of a lambda whose frame runs, at a call: what they hold -/
def LivH (H : Hp) (h : Heap) (fs : List Addr) (L : Lamb) (cl : List (Str × Addr)) (cs : List V) : Prop :=
  cs.length = L.fr.length ∧ (∀ x y c, cl.lookup x = some c → cl.lookup y = some c → x = y) ∧ (∀ y c, cl.lookup y = some c → y ∈ L.fr) ∧
  ∀ (i : Nat) (y : Str), L.fr[i]? = some y → ∃ c oc v u, cl.lookup y = some c ∧ H c = none ∧ c ∉ fs ∧ h.get? c = some oc ∧ oc.data = .cell (some u) ∧ cs[i]? = some v ∧ RelV v u
abbrev Lvs := List (Lamb × List (Str × Addr) × List DV)
def LivS (K : Fg) (H : Hp) (h : Heap) (fs : List Addr) (LL : Lvs) : Prop := ∀ L cl cd, (L, cl, cd) ∈ LL → ∃ cs, LivH H h fs L cl cs ∧ RDs K H cd cs
/-- at a frame's entry -/
class Liv (X : Cy) (LL : outParam Lvs) : Prop where
  ex : X.ex = []
  lv : ∀ L cl cd, (L, cl, cd) ∈ LL → ∃ cs, LivH X.H_0 X.s_0.heap X.fs L cl cs ∧ RDs X.K X.anc cd cs
theorem Liv.near {X X' : Cy} {LL : Lvs} (V : Liv X LL) (n : Nrr X X') : Liv X' LL := by
  obtain ⟨Y, an⟩ := X'
  obtain ⟨e1, e2, e3, e4, e5, st⟩ := n
  refine ⟨e4.trans V.ex, fun L cl cd hm => ?_⟩
  obtain ⟨cs, h, r⟩ := V.lv L cl cd hm
  refine ⟨cs, ?_, ?_⟩
  · have e1 : Y.s_0 = X.s_0 := e1
    have e2 : Y.H_0 = X.H_0 := e2
    have e3 : Y.outer = X.outer := e3
    show LivH Y.H_0 Y.s_0.heap (frs Y.outer) L cl cs
    rw [e1, e2, e3]
    exact h
  · have e5 : Y.K = X.K := e5
    show RDs Y.K an cd cs
    rw [e5]
    exact r.mono st
/-- nothing is being shown around the frame -/
class Gq (X : Cy) : Prop where
  gd : X.A.guards = some []
theorem Gq.near {X X' : Cy} (G : Gq X) (e : X'.A.guards = X.A.guards) : Gq X' := ⟨e.trans G.gd⟩
/-- what a lambda's body does, its cells holding cd -/
def LamR (P : Program) (w : World) (K : Fg) (mg : Str → Option Value) (base : Heap) (kl : Nat) (L : Lamb) (cd : List DV) (M : Mm) (Q : DV → Mm → Prop) (E : Addr → List (Str × DV) → Mm → Prop) : Prop :=
  ∃ N Gs Bs, NdefX.NScope N [] L.fr L.scope ∧ stat L.scope N [] [] Gs = true ∧ (∀ x ∈ Bs, mg x = none) ∧
    (∀ (cl : List (Str × Addr)) (pm cv ctv : Value), bindArgs (PySem.W.kla_fn "<lambda>" L.qual L.params L.body L.scope cl pm cv ctv) ⟨[], []⟩ = pure []) ∧
    ∀ X, Fx X P w K mg base L.scope N [] [] Gs Bs kl → Gq X → Tk X (fun C fs _ M' => Sub (E C fs) M') → WE X (ini N cd) M L.body (fun d M' => Sub (Q d) M')
section
variable {P : Program} {w : World} {K : Fg} {mg : Str → Option Value} {base : Heap} {kl : Nat}
theorem lam_code {A : Around} {outer : List Env} {s : Shared} {H : Hp} {f : Addr} {L : Lamb} {cl : List (Str × Addr)} {cs : List V} {cd : List DV} {fs : List Addr} {M : Mm} {Q0 : DV → Mm → Prop} {E0 : Addr → List (Str × DV) → Mm → Prop} {Q : VK} {E : XK}
    (hr : Room (kl + 1) A) (hg : A.guards = some []) (e0 : Env0 P w K mg base A outer s H) (hf : LamH H f L cl) (hc : LivH H s.heap fs L cl cs) (rc : RDs K H cd cs) (rm : RM K H M) (R : LamR P w K mg base kl L cd M Q0 E0)
    (h5 : ∀ d M', Q0 d M' → ∀ v H', RD K H' d v → RM K H' M' → Stay K H H' → Q v H')
    (h6 : ∀ C fs M', E0 C fs M' → ∀ de H', XD K H' de fs → RM K H' M' → Stay K H H' → E (.ref C) de H') :
    codeAny (model P w) A (.call (.ref f) ⟨[], []⟩) (CR (L2.CX P w) outer P w H s Q E) s := by
  obtain ⟨N, Gs, Bs, S, hst, hbl, hbi, h⟩ := R
  have T := stat_ok hst
  obtain ⟨pm, c', ctv, hf, hco⟩ := hf
  obtain ⟨hl, hinj, hdom, hcell⟩ := hc
  have of1 : s.heap.get? f = some (lamObj L cl pm c' ctv) := pin_at e0.hok hf
  obtain ⟨⟨oc, vv, t, hoc, hdc, hvc⟩, _, _⟩ := e0.hok c' _ hco
  have lim : s.heap.NoLimit := e0.mod.nolimit.keeps fun b o e => (e0.bs b o e).1
  have CA : NdefX.CellsAt cl L.fr (cs.map some) s.heap H := by
    refine ⟨by rw [List.length_map]; exact hl, fun y c e => ?_, hinj, fun i y e => ?_⟩
    · obtain ⟨i, hi⟩ := List.mem_iff_getElem?.mp (hdom y c e)
      obtain ⟨c2, oc2, v2, u2, a1, a2, a3, a4, a5, a6, a7⟩ := hcell i y hi
      rw [e] at a1
      cases a1
      exact ⟨a2, _, oc2, a4, a5⟩
    · obtain ⟨c2, oc2, v2, u2, a1, a2, a3, a4, a5, a6, a7⟩ := hcell i y e
      refine ⟨c2, a1, fun v hv => ?_⟩
      rw [List.getElem?_map, a6] at hv
      cases hv
      exact ⟨u2, a7, oc2, a4, a5⟩
  have hps : L.fr.length ≤ N.length := by have q := congrArg List.length S.pre; rw [List.length_take, List.length_append] at q; simp only [List.length_nil] at q; omega
  have hcl : cd.length = L.fr.length := by rw [rc.length]; exact hl
  refine PySem.W.kla_callFunE hr.depth of1 rfl S.co S.gen rfl ⟨c', oc, vv, t, rfl, hoc, hdc, hvc⟩ ?_
  rw [hbi]
  refine wpAny_pure (wpAny_newFunctionEnv S.nocell (fun y hy => nomatch hy) (fun h₁ hns hsb => ⟨lim.fresh _ hsb, ?_⟩) S.kind)
  have kp : ∀ b o, s.heap.get? b = some o → h₁.get? b = some o := fun b o e => hsb.extBut b o (Nat.ne_of_lt (Heap.lt_size e)) (Heap.get?_push_of_some _ e)
  have J : Inv (NdefX.ncx (L2.CX P w) P w K mg base N ⟨"<lambda>", L.qual, L.params, [], L.scope, cl, c'⟩ f A outer s H E) [] (NdefX.startF N [] (cs.map some)) H { s with heap := h₁, toks := s.toks + ([] : List (Str × Value)).length } :=
    NdefX.inv_startN (F := ⟨"<lambda>", L.qual, L.params, [], L.scope, cl, c'⟩) (ps := []) (us := []) S hr.hd e0 rfl .nil CA hns kp
  rw [startF_eq] at J
  have FX : Fx ⟨NdefX.ncx (L2.CX P w) P w K mg base N ⟨"<lambda>", L.qual, L.params, [], L.scope, cl, c'⟩ f A outer s H E, H⟩ P w K mg base L.scope N [] [] Gs Bs kl :=
    ⟨rfl, rfl, rfl, rfl, rfl, rfl, rfl, T.nd, T.loc, fun z hz => (nomatch hz), T.kind, T.nob, T.gl, hbl, rfl, hr.deeper _, passes_of rfl⟩
  have TK : Tk ⟨NdefX.ncx (L2.CX P w) P w K mg base N ⟨"<lambda>", L.qual, L.params, [], L.scope, cl, c'⟩ f A outer s H E, H⟩ (fun Cc fs _ M' => Sub (E0 Cc fs) M') :=
    ⟨(takes_of (E := E) rfl rfl rfl rfl).imp fun cls d σ' H' ⟨Cc, fs, ρ', M', e1, e3, e5, e6, M0, s0, q⟩ => by
      subst e1
      exact h6 Cc fs M0 q d H' e3 (e6.less s0) e5.st⟩
  have W := h _ FX ⟨hg⟩ TK
  rw [ini_eq N cd (by omega)] at W
  refine PySem.W.kla_codeExpr (wpAny_mono (W _ _ (RS.start (X := ⟨NdefX.ncx (L2.CX P w) P w K mg base N ⟨"<lambda>", L.qual, L.params, [], L.scope, cl, c'⟩ f A outer s H E, H⟩) Stay.refl (show _ ≤ N.length by omega) (fun i y hi hy => ?_) rc) rm [] _ J) (fun v s' hq => ?_) fun e s' hq => hq)
  · have hp : L.fr[i]? = some y := by
      have q : (N.take (([] : List Str).length + L.fr.length))[i]? = some y := by
        rw [List.getElem?_take_of_lt (by rw [List.length_nil]; omega)]
        exact hy
      rw [S.pre] at q
      exact q
    exact .inr (.inr (S.frk y (List.mem_of_getElem? hp)))
  · obtain ⟨w', H', J', rv', d, M', a1, a2, a3, M0, s0, q⟩ := hq
    exact ⟨w', H', J'.os, J'.bare, J'.base, J'.hok, rv', h5 d M0 q _ _ a1 (a2.less s0) a3⟩
end
section
variable {X : Cy} {P : Program} {w : World} {K : Fg} {mg : Str → Option Value} {base : Heap} {sc : Scope} {N L C Gs Bs : List Str} {k j n kl : Nat} {ρ : Ro} {M : Mm} {Q : DV → Mm → Prop} {E : EX} {pos p : Pos} {x : Str} {La : Lamb} {cl : List (Str × Addr)} {cd : List DV} {LL : Lvs}
/-- x(), x a lambda whose frame runs -/
theorem we_lamc (F : Fx X P w K mg base sc N L C Gs Bs k) (GX : Gq X) (T : Tk X E) (hx : At N ρ x (.lam La cl)) (V0 : Liv X LL) (hm : (La, cl, cd) ∈ LL) (hk : kl + 1 ≤ k) (R : LamR P w K mg base kl La cd M Q (fun C fs M' => E C fs ρ M')) : WE X ρ M (.Call (.Name x p) [] [] pos) Q := fun σ H rs m pins s I => by
  have eP := F.hP; have ew := F.hw; have eK := F.hK; have eg := F.hmg; have eb := F.hbase
  subst eP ew eK eg eb
  refine wpAny_Call_Name_kw (thn (name_at F hx rs m I) fun u s1 ⟨v, rv, H1, I1, d1, m1, st1⟩ => ?_)
  cases d1 with
  | @lam _ f _ _ hf =>
    obtain rfl : u = Value.ref f := rv
    obtain ⟨cs, ⟨c1, c2, c3, c4⟩, rc⟩ := V0.lv _ _ _ hm
    have hc : LivH H1 s1.heap X.fs La cl cs := ⟨c1, c2, c3, fun i y e => by
      obtain ⟨c, oc, v, u, a1, a2, a3, a4, a5⟩ := c4 i y e
      have nx : c ∉ X.ex := by rw [V0.ex]; simp
      exact ⟨c, oc, v, u, a1, I1.base.free c oc a4 a2 nx, a3, I1.base.keep c oc a4 a2 a3 nx, a5⟩⟩
    have fa : PySem.W.FnAt f s1.heap := by
      obtain ⟨pm, c', ctv, hf, _⟩ := hf
      exact ⟨_, _, _, _, pin_at I1.hok hf⟩
    refine PySem.W.callWith_F0 (first := []) fa ?_
    have rs1 := rs.mono st1
    refine wpAny_call (codeAny_mono (lam_code (A := X.A) (outer := X.stack) (Q := LE X.K H Q) (E := fun cls d H' => LX X E cls d σ H') (F.room.mono hk) GX.gd I1.env0 hf hc (rc.mono rs1.st) m1 R (fun d M' q v H' r1 r2 r3 => ⟨d, M', r1, r2, st1.trans r3, q⟩) fun C fs M' q de H' e1 e3 st => LX.ofD rs1 st e1 e3 q) fun r s' hq => ?_)
    match r, hq with
    | .error e, hq => exact passAt T.tk σ pins H1 s1 e s' I1 hq
    | .ok (.ret u), hq => exact I1.after hq
    | .ok .next, hq => exact False.elim hq
    | .ok .brk, hq => exact False.elim hq
    | .ok .cont, hq => exact False.elim hq
end
/-! defs that are given such lambdas -/
abbrev SpL := Lvs → SpX
def RunL (P : Program) (w : World) (K : Fg) (mg : Str → Option Value) (base : Heap) (k : Nat) (f : Addr) (fd : FuncData) (ps : List Str) (sp : SpL) : Prop :=
  ∀ (A : Around) (outer : List Env) (s : Shared) (H : Hp) (args : Args) (us : List Value) (vs : List V) (LL : Lvs) (ds : List DV) (M : Mm) (Q0 : DV → Mm → Prop) (E0 : Addr → List (Str × DV) → Mm → Prop) (Q : VK) (E : XK), Room k A → A.guards = some [] → Env0 P w K mg base A outer s H → BindsTo s fd args (ps.zip us) → Vals vs us →
    LivS K H s.heap (frs outer) LL → RDs K H ds vs → RM K H M → ds.length = ps.length → sp LL ds M Q0 E0 → (∀ d M', Q0 d M' → ∀ v H', RD K H' d v → RM K H' M' → Stay K H H' → Q v H') →
    (∀ C fs M', E0 C fs M' → ∀ de H', XD K H' de fs → RM K H' M' → Stay K H H' → E (.ref C) de H') → codeAny (model P w) A (.call (.ref f) args) (CR (L2.CX P w) outer P w H s Q E) s
class CalL (P : Program) (w : World) (K : Fg) (mg : Str → Option Value) (base : Heap) (x : Str) (j n : outParam Nat) (sp : outParam SpL) : Prop where
  ex : ∃ (f : Addr) (fd : FuncData) (ps : List Str), ps.length = n ∧ RunL P w K mg base j f fd ps sp ∧ mg x = some (.ref f) ∧ PySem.W.keepIn K (.ref f) = true ∧ Binds K fd ps []
section
variable {P : Program} {w : World} {K : Fg} {mg : Str → Option Value} {base : Heap} {N L C Gs Bs : List Str} {k : Nat}
theorem runL_of {x qual : Str} {st : Stmt} {f : Addr} {dV kV doc pm cdv ct oc : Value} {an od : Option Addr} {osl : Array (Option Value)} {ps : List Str} {sp : SpL} (lk : K.lookup f = some ⟨oc, od, .func (PySem.W.fnOf x qual (defArgs st) (defBody st) (defScope st) dV kV doc pm an cdv ct), osl⟩) (hcd : PySem.W.codeIn K cdv qual = true)
    (S : FnScope N ps (defScope st)) (hst : stat (defScope st) N L C Gs = true) (hb : ∀ x ∈ Bs, mg x = none)
    (h : ∀ X, Fx X P w K mg base (defScope st) N L C Gs Bs k → Dfn X → Gq X → (∀ c Pt q, cdv = .ref c → LamX.TabB base mg c Pt → qual ++ ".<locals>." ++ "<lambda>" = q → Mkr X c Pt q) → ∀ LL ds M Q E, Liv X LL → ds.length = ps.length → sp LL ds M Q E → Tk X (fun Cc fs _ M' => Sub (E Cc fs) M') →
      WSs X (ini N ds) M (defBody st) (fun _ M' => Sub (Q .non) M') (fun d M' => Sub (Q d) M') (fun _ _ => False) (fun _ _ => False)) :
    RunL P w K mg base (k + 1) f (PySem.W.fnOf x qual (defArgs st) (defBody st) (defScope st) dV kV doc pm an cdv ct) ps sp := by
  intro A outer s H args us vs LL ds M Q0 E0 Q E hr hg e0 hbn r lv rd rm hn hsp h5 h6
  have TT := stat_ok hst
  have hl : vs.length = ps.length := by rw [← rd.length]; exact hn
  have KX : K.In s.heap := e0.mod.kin.keeps fun b o e => (e0.bs b o e).1
  have lim : s.heap.NoLimit := e0.mod.nolimit.keeps fun b o e => (e0.bs b o e).1
  have hkind : ∀ y ∈ ps.zip us, (defScope st).names.lookup y.1 = some .local ∨ ((defScope st).names.lookup y.1 = some .cell ∧ ((cellsFrom (s.heap.objs.size + 1) (defScope st).names []).lookup y.1).isSome = true) := fun ⟨n, v⟩ hy => by
    rcases S.par n (List.of_mem_zip hy).1 with q | q
    · exact .inl q
    · exact .inr ⟨q, PySem.W.cellsFrom_some _ _ _ (.inl q)⟩
  refine codeAny_call_function hr.depth (KX _ _ lk) rfl S.co S.gen rfl (PySem.W.codeRec_of KX hcd) (hbn _ _ _ _ ?_)
  refine wpAny_newFunctionEnv_cells S.kind hkind fun env he s1 xc => ?_
  subst he
  refine ⟨lim.keeps xc.toInCall.keep, codeAny_func ?_⟩
  have I : Inv (cxOf (L2.CX P w) P w K mg base N qual (defScope st) f cdv A outer s H E) [] (start N vs) H s1 := inv_start S hr.hd e0 hl r xc
  have hps : ps.length ≤ N.length := by have := congrArg List.length S.pre; rw [List.length_take] at this; omega
  have FX : Fx ⟨cxOf (L2.CX P w) P w K mg base N qual (defScope st) f cdv A outer s H E, H⟩ P w K mg base (defScope st) N L C Gs Bs k :=
    ⟨rfl, rfl, rfl, rfl, rfl, rfl, rfl, TT.nd, TT.loc, fun x hx => ⟨TT.cel x hx, rfl⟩, TT.kind, TT.nob, TT.gl, hb, rfl, hr.deeper _, passes_of rfl⟩
  have TK : Tk ⟨cxOf (L2.CX P w) P w K mg base N qual (defScope st) f cdv A outer s H E, H⟩ (fun Cc fs _ M' => Sub (E0 Cc fs) M') :=
    ⟨(takes_of (E := E) rfl rfl rfl rfl).imp fun cls d σ' H' ⟨Cc, fs, ρ', M', e1, e3, e5, e6, M0, s0, q⟩ => by
      subst e1
      exact h6 Cc fs M0 q d H' e3 (e6.less s0) e5.st⟩
  have LV : Liv ⟨cxOf (L2.CX P w) P w K mg base N qual (defScope st) f cdv A outer s H E, H⟩ LL := ⟨rfl, lv⟩
  have W := h _ FX ⟨rfl, rfl, fun _ => rfl⟩ ⟨hg⟩ (fun c Pt q e TB eq => ⟨e, TB, eq⟩) LL ds M Q0 E0 LV hn hsp TK
  rw [ini_eq N ds (by rw [hn]; exact hps)] at W
  refine wpAny_mono (W (start N vs) H (RS.start (X := ⟨cxOf (L2.CX P w) P w K mg base N qual (defScope st) f cdv A outer s H E, H⟩) Stay.refl (by rw [hn]; exact hps) (fun i y hi hy => ?_) rd) rm [] s1 I) (fun fl s' hs => ?_) fun e s' hs => hs
  · have hp : ps[i]? = some y := by
      rw [← S.pre, List.getElem?_take_of_lt (by rw [← hn]; exact hi)]
      exact hy
    rcases S.par y (List.mem_of_getElem? hp) with z | z
    · exact .inl z
    · exact .inr (.inl z)
  · cases fl with
    | ret u =>
      obtain ⟨v, σ', H', J, rv, d, M', q1, q2, q3, M0, q4, q5⟩ := hs
      exact ⟨v, H', J.os, J.bare, J.base, J.hok, rv, h5 _ _ q5 _ _ q1 (q2.less q4) q3⟩
    | next =>
      obtain ⟨σ', H', J, ρ', M', q1, q2, q3, M0, q4, q5⟩ := hs
      exact ⟨.non, H', J.os, J.bare, J.base, J.hok, rfl, h5 _ _ q5 _ _ .non (q2.less q4) q3⟩
    | brk => obtain ⟨_, _, _, _, _, _, _, _, q⟩ := hs; exact q.elim
    | cont => obtain ⟨_, _, _, _, _, _, _, _, q⟩ := hs; exact q.elim
/-- .. for a def of the module -/
theorem calL_mk {x : Str} {st : Stmt} {ps : List Str} {sp : SpL} (T : FnTX K mg x st ps) (S : FnScope N ps (defScope st)) (hst : stat (defScope st) N L C Gs = true) (hb : ∀ x ∈ Bs, mg x = none)
    (h : ∀ X, Fx X P w K mg base (defScope st) N L C Gs Bs k → Dfn X → Gq X → ∀ LL ds M Q E, Liv X LL → ds.length = ps.length → sp LL ds M Q E → Tk X (fun Cc fs _ M' => Sub (E Cc fs) M') →
      WSs X (ini N ds) M (defBody st) (fun _ M' => Sub (Q .non) M') (fun d M' => Sub (Q d) M') (fun _ _ => False) (fun _ _ => False)) :
    CalL P w K mg base x (k + 1) ps.length sp := by
  obtain ⟨f, fd, dV, F, h2, h3⟩ := T
  have kp := F.kp
  obtain ⟨oc, od, kV, doc, pm, an, cdv, ct, osl, rfl, lk, hcd⟩ := F.ex
  exact ⟨f, _, ps, rfl, runL_of lk hcd S hst hb fun X a b c _ => h X a b c, h2, kp, h3⟩
/-- .. that makes lambdas -/
theorem calL_mkM {x q : Str} {st : Stmt} {ps : List Str} {sp : SpL} {c Pt : Addr} (T : FnTm K mg x st ps c) (TB : LamX.TabB base mg c Pt) (eq : x ++ ".<locals>." ++ "<lambda>" = q) (S : FnScope N ps (defScope st)) (hst : stat (defScope st) N L C Gs = true) (hb : ∀ x ∈ Bs, mg x = none)
    (h : ∀ X, Fx X P w K mg base (defScope st) N L C Gs Bs k → Dfn X → Gq X → Mkr X c Pt q → ∀ LL ds M Q E, Liv X LL → ds.length = ps.length → sp LL ds M Q E → Tk X (fun Cc fs _ M' => Sub (E Cc fs) M') →
      WSs X (ini N ds) M (defBody st) (fun _ M' => Sub (Q .non) M') (fun d M' => Sub (Q d) M') (fun _ _ => False) (fun _ _ => False)) :
    CalL P w K mg base x (k + 1) ps.length sp := by
  obtain ⟨f, fd, F, h2, h3⟩ := T
  have kp := F.kp
  obtain ⟨oc, od, kV, doc, pm, an, ct, osl, rfl, lk, hcd⟩ := F.ex
  exact ⟨f, _, ps, rfl, runL_of lk hcd S hst hb fun X a b d e => h X a b d (e c Pt q rfl TB eq), h2, kp, h3⟩
end
/-- names' values -/
class inductive AtS (N : List Str) (ρ : Ro) : List Str → outParam (List DV) → Prop
  | nil : AtS N ρ [] []
  | cons {y : Str} {d : DV} {ys : List Str} {ds : List DV} : At N ρ y d → AtS N ρ ys ds → AtS N ρ (y :: ys) (d :: ds)
instance {N : List Str} {ρ : Ro} : AtS N ρ [] [] := .nil
instance {N : List Str} {ρ : Ro} {y : Str} {d : DV} {ys : List Str} {ds : List DV} [a : At N ρ y d] [b : AtS N ρ ys ds] : AtS N ρ (y :: ys) (d :: ds) := .cons a b
theorem AtS.len {N : List Str} {ρ : Ro} : ∀ {ys : List Str} {ds : List DV}, AtS N ρ ys ds → ds.length = ys.length
  | _, _, .nil => rfl
  | _, _, .cons _ b => by rw [List.length_cons, List.length_cons, b.len]
theorem AtS.ix {N : List Str} {ρ : Ro} : ∀ {ys : List Str} {ds : List DV}, AtS N ρ ys ds → ∀ (i : Nat) (y : Str), ys[i]? = some y → ∃ (j : Nat) (d : DV), N[j]? = some y ∧ ρ[j]? = some (some d) ∧ ds[i]? = some d
  | _, _, .nil, i, y, h => by simp at h
  | _, _, .cons a _, 0, y, h => by simp at h; subst h; obtain ⟨j, e1, e2⟩ := a.ix; exact ⟨j, _, e1, e2, rfl⟩
  | _, _, .cons _ b, i + 1, y, h => by obtain ⟨j, d, e⟩ := b.ix i y (by simpa using h); exact ⟨j, d, by simpa using e⟩
section
variable {X : Cy} {P : Program} {w : World} {K : Fg} {mg : Str → Option Value} {base : Heap} {sc : Scope} {N L C Gs Bs : List Str} {k j n kl : Nat} {ρ : Ro} {M : Mm} {Q : DV → Mm → Prop} {E : EX} {pos p lp : Pos} {x : Str} {La : Lamb} {cl : List (Str × Addr)} {cd : List DV} {LL : Lvs} {pins : List (Addr × Obj)} {σ : L2.St} {H : Hp} {s : Shared} {params : Arguments} {body : Expr} {scope : Scope} {fr : List Str}
/-- the cells of a lambda of the frame X -/
theorem liv_own (F : Fx X P w K mg base sc N L C Gs Bs k) (I : Inv X.toCx pins σ H s) (rs : RS X H ρ σ) (h0 : La.fr = frOf La.scope) (hc : ∀ y ∈ La.fr, y ∈ C) (h : AtS N ρ La.fr cd) : ∃ cs, LivH H s.heap (frs X.stack) La (cloFrom X.env.cells La.scope.names []) cs ∧ RDs X.K H cd cs := by
  have own : ∀ y ∈ La.scope.names, y.2 = .free → ∃ c, X.env.cells.lookup y.1 = some c := fun y hy e => by
    have hm : y.1 ∈ La.fr := by rw [h0]; exact mem_frOf.mpr (by rw [← e]; exact hy)
    exact I.ok.has _ (.inl (F.cel _ (hc _ hm)).1)
  have up : ∀ {y c}, (cloFrom X.env.cells La.scope.names []).lookup y = some c → X.env.cells.lookup y = some c ∧ (y, NameKind.free) ∈ La.scope.names := fun {y c} e => by
    rcases cloFrom_mem (PySem.mem_of_lookup e) with z | ⟨z1, z2⟩
    · cases z
    · obtain ⟨c1, q⟩ := own _ z1 rfl
      have q : X.env.cells.lookup y = some c1 := q
      rw [q] at z2
      cases z2
      exact ⟨q, z1⟩
  have get : ∀ (i : Nat) (y : Str), La.fr[i]? = some y → ∃ c oc v u, (cloFrom X.env.cells La.scope.names []).lookup y = some c ∧ H c = none ∧ c ∉ frs X.stack ∧ s.heap.get? c = some oc ∧ oc.data = .cell (some u) ∧ RelV v u ∧ ∃ d, cd[i]? = some d ∧ RD X.K H d v := fun i y e => by
    obtain ⟨j, d, a1, a2, a3⟩ := h.ix i y e
    have a4 := F.cel y (hc y (List.mem_of_getElem? e))
    obtain ⟨_, v, b1, b2⟩ := rs.get j d a2
    obtain ⟨mm, hns, hl⟩ := I.loc
    obtain ⟨u, ru, lk⟩ := hl j y v (by rw [F.hN]; exact a1) b1 (.inr (.inl a4.1))
    have hm : (y, NameKind.free) ∈ La.scope.names := mem_frOf.mp (by rw [← h0]; exact List.mem_of_getElem? e)
    obtain ⟨c, hc⟩ := mem_lookup (cloFrom_has (cells := X.env.cells) (acc := []) hm)
    have hc2 := (up hc).1
    rcases lk with ⟨z, _⟩ | ⟨_, c3, z2, o, ho, hd⟩
    · have z : X.env.scope.names.lookup y = some .local := z
      rw [a4.1] at z
      cases z
    · rw [hc2] at z2
      cases z2
      refine ⟨c, o, v, u, hc, I.freeC y c hc2, fun hb => ?_, ho, hd, ru, d, a3, b2⟩
      rcases List.mem_cons.mp (I.stkSub c hb) with z | z
      · exact I.cne y c hc2 z
      · obtain ⟨_, o', ho', _⟩ := I.ok.funs.mem z
        exact absurd (Nat.lt_of_lt_of_le (Heap.lt_size ho') (I.ok.cab y c a4.2 hc2)) (Nat.lt_irrefl _)
  have vals : ∀ (n : Nat), n ≤ La.fr.length → ∃ vs : List V, vs.length = n ∧ RDs X.K H (cd.take n) vs ∧ ∀ (i : Nat) (y : Str), i < n → La.fr[i]? = some y → ∃ c oc v u, (cloFrom X.env.cells La.scope.names []).lookup y = some c ∧ H c = none ∧ c ∉ frs X.stack ∧ s.heap.get? c = some oc ∧ oc.data = .cell (some u) ∧ vs[i]? = some v ∧ RelV v u := fun n => by
    induction n with
    | zero => exact fun _ => ⟨[], rfl, by rw [List.take_zero]; exact .nil, fun i y h => absurd h (Nat.not_lt_zero _)⟩
    | succ n ih =>
      intro hn
      obtain ⟨vs, e1, e2, e3⟩ := ih (by omega)
      have hy : La.fr[n]? = some (La.fr[n]'(by omega)) := List.getElem?_eq_getElem (by omega)
      obtain ⟨c, oc, v, u, b1, b2, b3, b4, b5, b6, d, b7, b8⟩ := get n _ hy
      refine ⟨vs ++ [v], by rw [List.length_append, e1]; rfl, ?_, fun i y hi ey => ?_⟩
      · rw [List.take_add_one, b7]
        exact e2.append (.cons b8 .nil)
      · by_cases hin : i < n
        · obtain ⟨c, oc, v', u, d1, d2, d3, d4, d5, d6, d7⟩ := e3 i y hin ey
          exact ⟨c, oc, v', u, d1, d2, d3, d4, d5, by rw [List.getElem?_append_left (by omega)]; exact d6, d7⟩
        · have : i = n := by omega
          subst this
          rw [hy] at ey
          cases ey
          exact ⟨c, oc, v, u, b1, b2, b3, b4, b5, by rw [List.getElem?_append_right (by omega), e1, Nat.sub_self]; rfl, b6⟩
  obtain ⟨vs, e1, e2, e3⟩ := vals _ (Nat.le_refl _)
  rw [List.take_of_length_le (by rw [h.len]; omega)] at e2
  exact ⟨vs, ⟨e1, fun x y c q1 q2 => I.ok.inj x y c (up q1).1 (up q2).1, fun y c q => by rw [h0]; exact mem_frOf.mpr (up q).2, fun i y e => e3 i y (List.getElem?_eq_some_iff.mp e).1 e⟩, e2⟩
/-- x(lambda: ..) -/
theorem we_call1L {c Pt : Addr} {q : Str} {ti : Nat} {sp : SpL} (F : Fx X P w K mg base sc N L C Gs Bs k) (GX : Gq X) (T : Tk X E) (Mk : Mkr X c Pt q) (tb : AtM M ti Pt (.tab q)) (G : CalL P w K mg base x j 1 sp) (hj : j ≤ k) (hx : x ∈ Gs) (hl : lamC sc scope = true) (hp : plainArgs params = true)
    (hf : frOf scope = fr) (hc : ∀ y ∈ fr, y ∈ C) (hs : AtS N ρ fr cd)
    (h : ∀ cl, sp [(⟨q, params, body, scope, fr⟩, cl, cd)] [.lam ⟨q, params, body, scope, fr⟩ cl] M Q (fun C fs M' => E C fs ρ M')) : WE X ρ M (.Call (.Name x p) [.Lambda params body scope lp] [] pos) Q := fun σ H rs m pins s I => by
  subst hf
  obtain ⟨f, fd, ps, hn, G, hm, hk, hb⟩ := G.ex
  obtain ⟨g1, g2, g3⟩ := F.gl x hx
  have eP := F.hP; have ew := F.hw; have eK := F.hK; have eg := F.hmg; have eb := F.hbase
  subst eP ew eK eg eb
  have W : WA X ρ M [.Lambda params body scope lp] fun ds M1 => ds = [.lam ⟨q, params, body, scope, frOf scope⟩ (cloFrom X.env.cells scope.names [])] ∧ M1 = M := wa_cons' rfl (we_lam F Mk tb hl hp (wa_nil ⟨rfl, rfl⟩))
  refine wpAny_Call_Name_kw (ld_glob I g1 hm ?_ g2)
  refine PySem.W.callWith_K (h₀ := X.base) I.ok.mod.kin hk (thn (pa_w.run pos pins s σ H _ I (W σ H rs m)) fun us s1 ⟨vs, H1, I1, r, ds, M1, k1, k2, k3, k4, k5⟩ => ⟨I1.kIn, ?_⟩) rfl rfl
  subst k4 k5
  have rs1 := rs.mono k3
  obtain ⟨cs, lv, rc⟩ := liv_own (La := ⟨q, params, body, scope, frOf scope⟩) F I1 rs1 rfl hc hs
  have hul : us.length = ps.length := by rw [← r.length, ← k1.length, hn]; rfl
  have hb' := hb s1 us I1.kIn (by simpa using hul)
  rw [List.append_nil] at hb'
  refine wpAny_call (codeAny_mono (G X.A X.stack s1 H1 ⟨us, []⟩ us vs [(⟨q, params, body, scope, frOf scope⟩, _, cd)] _ M1 Q _ (LE X.K H Q) (fun cls d H' => LX X E cls d σ H') (F.room.mono hj) GX.gd I1.env0 hb' r (fun L' cl' cd' hm' => ?_) k1 k2 (by rw [hn]; rfl) (h _) (fun d M' q v H' r1 r2 r3 => ⟨d, M', r1, r2, k3.trans r3, q⟩) fun C fs M' q de H' e1 e3 st => LX.ofD rs1 st e1 e3 q) fun r s' hq => ?_)
  · rw [List.mem_singleton] at hm'
    cases hm'
    exact ⟨cs, lv, rc⟩
  match r, hq with
  | .error e, hq => exact passAt T.tk σ pins H1 s1 e s' I1 hq
  | .ok (.ret u), hq => exact I1.after hq
  | .ok .next, hq => exact False.elim hq
  | .ok .brk, hq => exact False.elim hq
  | .ok .cont, hq => exact False.elim hq
/-- x(..), no such lambda among the arguments -/
theorem we_callL {e : Expr} {es : List Expr} {sp : SpL} (F : Fx X P w K mg base sc N L C Gs Bs k) (GX : Gq X) (T : Tk X E) (G : CalL P w K mg base x j n sp) (hj : j ≤ k) (hx : x ∈ Gs) (hs : noStars (e :: es) = true) (h : WA X ρ M (e :: es) fun ds M1 => ds.length = n ∧ sp [] ds M1 Q (fun C fs M' => E C fs ρ M')) : WE X ρ M (.Call (.Name x p) (e :: es) [] pos) Q := fun σ H rs m pins s I => by
  obtain ⟨f, fd, ps, hn, G, hm, hk, hb⟩ := G.ex
  obtain ⟨g1, g2, g3⟩ := F.gl x hx
  obtain ⟨h1, h2⟩ := noStars_cons hs
  have eP := F.hP; have ew := F.hw; have eK := F.hK; have eg := F.hmg; have eb := F.hbase
  subst eP ew eK eg eb
  refine wpAny_Call_Name_kw (ld_glob I g1 hm ?_ g2)
  refine PySem.W.callWith_K (h₀ := X.base) I.ok.mod.kin hk (thn (pa_w.run pos pins s σ H _ I (h σ H rs m)) fun us s1 ⟨vs, H1, I1, r, ds, M1, k1, k2, k3, k4, k5⟩ => ⟨I1.kIn, ?_⟩) (starEach_cons h1) (noStars_any h2)
  have rs1 := rs.mono k3
  have hul : us.length = ps.length := by rw [← r.length, ← k1.length, hn]; exact k4
  have hb' := hb s1 us I1.kIn (by simpa using hul)
  rw [List.append_nil] at hb'
  refine wpAny_call (codeAny_mono (G X.A X.stack s1 H1 ⟨us, []⟩ us vs [] ds M1 Q _ (LE X.K H Q) (fun cls d H' => LX X E cls d σ H') (F.room.mono hj) GX.gd I1.env0 hb' r (fun L' cl' cd' hm' => nomatch hm') k1 k2 (by rw [hn]; exact k4) k5 (fun d M' q v H' r1 r2 r3 => ⟨d, M', r1, r2, k3.trans r3, q⟩) fun C fs M' q de H' e1 e3 st => LX.ofD rs1 st e1 e3 q) fun r s' hq => ?_)
  match r, hq with
  | .error e, hq => exact passAt T.tk σ pins H1 s1 e s' I1 hq
  | .ok (.ret u), hq => exact I1.after hq
  | .ok .next, hq => exact False.elim hq
  | .ok .brk, hq => exact False.elim hq
  | .ok .cont, hq => exact False.elim hq
def noLam (es : List Expr) : Bool := es.all fun e => match e with
  | .Lambda _ _ _ _ => false
  | _ => true
instance (priority := 500) {e : Expr} {es : List Expr} {sp : SpL} [F : Fx X P w K mg base sc N L C Gs Bs k] [GX : Gq X] [T : Tk X E] [G : CalL P w K mg base x j n sp] [mm : MemC x Gs] : Step (WE X ρ M (.Call (.Name x p) (e :: es) [] pos) Q) ((Nat.ble j k && noStars (e :: es)) && noLam (e :: es)) (WA X ρ M (e :: es) fun ds M1 => Side (ds.length = n) (sp [] ds M1 Q (fun C fs M' => E C fs ρ M'))) := ⟨fun h q => by
  rw [Bool.and_eq_true, Bool.and_eq_true] at h
  exact we_callL F GX T G (Nat.le_of_ble_eq_true h.1.1) mm.h h.1.2 fun σ H r m => (q σ H r m).mono fun _ _ ⟨a, b, c, d, e, f⟩ => ⟨a, b, c, d, e, f.a, f.b⟩⟩
instance (priority := 450) [F : Fx X P w K mg base sc N L C Gs Bs k] [GX : Gq X] [T : Tk X E] [hx : At N ρ x (.lam La cl)] [V0 : Liv X [(La, cl, cd)]] : Step (WE X ρ M (.Call (.Name x p) [] [] pos) Q) (Nat.ble 1 k) (LamR P w K mg base (k - 1) La cd M Q (fun C fs M' => E C fs ρ M')) := ⟨fun h q => we_lamc F GX T hx V0 (List.mem_singleton.mpr rfl) (by have := Nat.le_of_ble_eq_true h; omega) q⟩
theorem LamR.mono {Q' : DV → Mm → Prop} {E0 E1 : Addr → List (Str × DV) → Mm → Prop} (h : LamR P w K mg base kl La cd M Q E0) (hq : ∀ d M', Q d M' → Q' d M') (he : ∀ C fs M', E0 C fs M' → E1 C fs M') : LamR P w K mg base kl La cd M Q' E1 := by
  obtain ⟨N, Gs, Bs, h1, h2, h3, h4, h5⟩ := h
  refine ⟨N, Gs, Bs, h1, h2, h3, h4, fun X F G T => ?_⟩
  exact (h5 X F G ⟨T.tk.imp fun cls d σ' H' ⟨Cc, fs, ρ', M', e1, e3, e5, e6, e7⟩ => ⟨Cc, fs, ρ', M', e1, e3, e5, e6, e7.mono (he Cc fs)⟩⟩).mono fun d M' z => z.mono (hq d)
end
end G
namespace G
open PySem PySem.Spec PyProof.Rows L2
/-! ### the law's own call: nothing is being shown around it -/
noncomputable def lawH (K : Fg) (a : Addr) (vs : List Value) (ns : List Int) (T : List Addr) : Hp := fun b => open Classical in if b = a then (if (K.lookup a).isSome then none else some (.frz { cls := .type "list", data := .seq vs.toArray } (.lst (ns.map V.int)))) else if b ∈ T then some (.tbl #[]) else none
theorem lawH_is {K : Fg} {a b : Addr} {vs : List Value} {ns : List Int} {T : List Addr} {u : HO} (h : lawH K a vs ns T b = some u) : (b = a ∧ K.lookup a = none ∧ u = .frz { cls := .type "list", data := .seq vs.toArray } (.lst (ns.map V.int))) ∨ (b ≠ a ∧ b ∈ T ∧ u = .tbl #[]) := by
  unfold lawH at h
  split at h
  · split at h
    · cases h
    · rename_i e1 e2; cases h; exact .inl ⟨e1, Option.not_isSome_iff_eq_none.mp e2, rfl⟩
  · split at h
    · rename_i e1 e2; cases h; exact .inr ⟨e1, e2, rfl⟩
    · cases h
theorem lawH_tab {K : Fg} {a b : Addr} {vs : List Value} {ns : List Int} {T : List Addr} (h1 : b ≠ a) (h2 : b ∈ T) : lawH K a vs ns T b = some (.tbl #[]) := by
  unfold lawH; rw [if_neg h1, if_pos h2]
theorem lawH_lst {K : Fg} {a : Addr} {vs : List Value} {ns : List Int} {T : List Addr} (h : K.lookup a = none) : lawH K a vs ns T a = some (.frz { cls := .type "list", data := .seq vs.toArray } (.lst (ns.map V.int))) := by
  unfold lawH; rw [if_pos rfl, h]; rfl
theorem law_callG {P : Program} {w : World} {K : Fg} {mg mb : Str → Option Value} {k : Nat} {fa a : Addr} {cs : List (Addr × Addr × Str)} {fd : FuncData} {x : Str} {sp : SpL} {s : Shared} {vs : List Value} {ns : List Int}
    (KX : K.In s.heap) (gns : s.heap.Ns mainGlobals mg) (bns : s.heap.Ns builtinsNs mb) (bbt : ∀ x : Str, x ≠ "__name__" → mb x = bootBuiltins x) (lim : s.heap.NoLimit) (gen : s.gens = #[])
    (tb : ∀ p ∈ cs, s.heap.get? p.2.1 = some { cls := .none, data := .fields #[] }) (tbK : ∀ p ∈ cs, K.lookup p.2.1 = none) (hd : ∀ p ∈ cs, PySem.W.CodeHd s.heap p.1 p.2.1) (bm : ∃ (m : Addr) (o : Obj), mg "__builtins__" = some (.ref m) ∧ m ≠ builtinsNs ∧ s.heap.get? m = some o ∧ o.cls = .type "module" ∧ o.dict = some builtinsNs ∧ o.data = .plain)
    (nd : (cs.map (·.2.1)).Nodup) (ho : s.heap.get? a = some { cls := .type "list", data := .seq vs.toArray }) (hi : IntsAre vs ns) (hl : ns.length ≤ sizeLine) (room : Room k callerA)
    (F : ∀ base : Heap, K.In base → base.Ns mainGlobals mg → (∀ p ∈ cs, LamX.TabB base mg p.1 p.2.1) → RunL P w K mg base k fa fd [x] sp) (bind : ∀ (s : Shared) (u : Value), BindsTo s fd ⟨[u], []⟩ [(x, u)])
    (hsp : sp [] [.lis (ns.map .int)] (tabM cs) (fun d _ => d = .bl true) (fun _ _ _ => False)) :
    codeAny (model P w) callerA (.call (.ref fa) ⟨[.ref a], []⟩) (fun r s' => r = .ok (.ret (.bool true)) ∧ OldK s.heap s'.heap ∧ s'.os = s.os ∧ AllBare s'.gens) s := by
  have rv := vals_ints hi
  have ln : vs.length = ns.length := hi.length
  have isT : ∀ b ∈ cs.map (·.2.1), s.heap.get? b = some { cls := .none, data := .fields #[] } := fun b hb => by obtain ⟨p, hp, e⟩ := List.mem_map.mp hb; rw [← e]; exact tb p hp
  have aT : ∀ b ∈ cs.map (·.2.1), b ≠ a := fun b hb e => by have q := isT b hb; rw [e, ho] at q; have q := congrArg Obj.data (Option.some.inj q); cases q
  obtain ⟨H, eH⟩ : ∃ H, H = lawH K a vs ns (cs.map (·.2.1)) := ⟨_, rfl⟩
  have Hs : ∀ {b u}, H b = some u → (b = a ∧ K.lookup a = none ∧ u = .frz { cls := .type "list", data := .seq vs.toArray } (.lst (ns.map V.int))) ∨ (b ≠ a ∧ b ∈ cs.map (·.2.1) ∧ u = .tbl #[]) := fun h => lawH_is (by rw [← eH]; exact h)
  have Ht : ∀ b ∈ cs.map (·.2.1), H b = some (.tbl #[]) := fun b hb => by rw [eH]; exact lawH_tab (aT b hb) hb
  have far : ∀ {b o}, s.heap.get? b = some o → (∀ vs n, o.data ≠ .seq vs n) → o.data ≠ .fields #[] → H b = none := fun {b o} e n1 n2 => by
    cases q : H b with
    | none => rfl
    | some u =>
      rcases Hs q with ⟨z, _, _⟩ | ⟨_, z, _⟩
      · rw [z, ho] at e; cases e; exact absurd rfl (n1 _ _)
      · rw [isT b z] at e; cases e; exact absurd rfl n2
  have nsB : ∀ {b : Addr} {m : Str → Option Value}, s.heap.Ns b m → (hidT s.heap H).Ns b m := fun {b m} ⟨o, es, ep, e, d, r⟩ => ⟨o, es, ep, hidT_get e (far e (fun _ _ z => by rw [d] at z; cases z) fun z => by rw [d] at z; cases z), d, r⟩
  have KB : K.In (hidT s.heap H) := fun b o e => hidT_get (KX b o e) (by
    cases q : H b with
    | none => rfl
    | some u =>
      rcases Hs q with ⟨z, z2, _⟩ | ⟨_, z, _⟩
      · rw [z, z2] at e; cases e
      · obtain ⟨p, hp, ep⟩ := List.mem_map.mp z
        rw [← ep, tbK p hp] at e
        cases e)
  have TB : ∀ p ∈ cs, LamX.TabB (hidT s.heap H) mg p.1 p.2.1 := fun p hp => by
    refine ⟨?_, ?_, fun z => ?_⟩
    · obtain ⟨o, us, r0, tf, r1, tg, r2, r3, tt, e1, z1, z2, z3⟩ := hd p hp
      exact ⟨o, us, r0, tf, r1, tg, r2, r3, tt, hidT_get e1 (far e1 (fun _ _ z => by rw [z2] at z; cases z) fun z => by rw [z2] at z; cases z; simp at z3), z1, z2, z3⟩
    · obtain ⟨m, o, b1, b2, b3, b4, b5, b6⟩ := bm
      refine ⟨m, o, b1, b2, fun q => ?_, fun q => ?_, hidT_get b3 (far b3 (fun _ _ z => by rw [b6] at z; cases z) fun z => by rw [b6] at z; cases z), b4, b5, b6⟩
      · obtain ⟨o', es, ep, e, d, _⟩ := gns; rw [q, e] at b3; cases b3; rw [d] at b6; cases b6
      · rw [q, tb p hp] at b3; cases b3; cases b6
    · obtain ⟨o', es, ep, e, d, _⟩ := gns; rw [z, tb p hp] at e; cases e; cases d
  have hok : HOk P w H s.heap := fun b u hu => by
    rcases Hs hu with ⟨z, _, z2⟩ | ⟨_, z, z2⟩
    · subst z z2
      exact ⟨ho, by rw [List.length_map]; exact hl, vs, _, rv, ho⟩
    · subst z2
      exact isT b z
  have e0 : Env0 P w K mg (hidT s.heap H) callerA [] s H := ⟨rfl, ⟨KB, nsB gns, ⟨mb, nsB bns, bbt⟩, let ⟨c, h1, h2⟩ := lim; ⟨c, nsB h1, h2⟩⟩, fun b o e => of_hidT e, Nat.le_of_eq (hidT_size _ _), trivial, fun b hb => (nomatch hb), hok, .of_eq gen⟩
  have fz : FrzL K H a (ns.map V.int) := by
    cases q : K.lookup a with
    | none => exact .inl ⟨_, by rw [eH]; exact lawH_lst q⟩
    | some o =>
      have e := KX a o q
      rw [ho] at e
      cases e
      exact .inr ⟨_, vs.toArray, _, q, rfl, rfl, rfl, by rw [List.size_toArray, ln]; exact hl, by simpa using rv⟩
  have rm : RM K H (tabM cs) := ⟨by unfold tabM; rw [List.map_map]; exact nd, fun b o hm => by
    obtain ⟨p, hp, e⟩ := List.mem_map.mp hm
    cases e
    exact LamX.TabS.nil (Ht _ (List.mem_map.mpr ⟨p, hp, rfl⟩))⟩
  refine codeAny_mono (F _ KB (nsB gns) TB callerA [] s H ⟨[.ref a], []⟩ [.ref a] [.ref a] [] _ _ _ _ (fun v _ => v = .bl true) (fun _ _ _ => False) room rfl e0 (bind s (.ref a)) (.cons rfl .nil) (fun _ _ _ hm => nomatch hm) (.cons (.lis fz (RDs.ints ns)) .nil) rm rfl hsp (fun d M' e v H' r _ _ => by subst e; cases r; rfl) fun _ _ _ z => z.elim) fun r s' h => ?_
  match r, h with
  | .error e, ⟨_, _, _, _, _, _, _, _, _, _, _, _, z⟩ => exact False.elim z
  | .ok .next, h => exact False.elim h
  | .ok .brk, h => exact False.elim h
  | .ok .cont, h => exact False.elim h
  | .ok (.ret u), ⟨v, H', os, bare, un, hok', r', q⟩ =>
    have q : v = .bl true := q
    subst q
    obtain rfl : u = Value.bool true := r'
    have stays : ∀ b o, b ∉ cs.map (·.2.1) → s.heap.get? b = some o → s'.heap.get? b = some o := fun b o nb e => by
      cases q : H b with
      | none => exact un.keep b o e q (fun z => nomatch z) (fun z => nomatch z)
      | some u =>
        rcases Hs q with ⟨z, _, z2⟩ | ⟨_, z, _⟩
        · subst z z2
          rw [ho] at e
          cases e
          exact (hok' b _ (un.frzs b _ _ q)).1
        · exact absurd z nb
    have more : ∀ p ∈ cs, ∃ m : Array Value, s'.heap.get? p.2.1 = some { cls := .none, data := .fields m } := fun p hp => by
      obtain ⟨m, z⟩ := un.tbls p.2.1 #[] (Ht _ (List.mem_map.mpr ⟨p, hp, rfl⟩))
      exact ⟨_, hok' p.2.1 _ z⟩
    refine ⟨rfl, ⟨fun b o e => ?_, fun b o e => ?_⟩, os, bare⟩
    · by_cases hb : b ∈ cs.map (·.2.1)
      · obtain ⟨p, hp, ep⟩ := List.mem_map.mp hb
        obtain ⟨m, hm⟩ := more p hp
        subst ep
        rw [tb p hp] at e
        cases e
        exact .inr (.inl ⟨((hd p hp).tab (tb p hp)).isCodeTable, rfl, #[], m, rfl, by rw [Array.empty_append]; exact hm⟩)
      · exact .inl (stays b o hb e)
    · by_cases hb : b ∈ cs.map (·.2.1)
      · obtain ⟨p, hp, ep⟩ := List.mem_map.mp hb
        obtain ⟨m, hm⟩ := more p hp
        exact ⟨_, by rw [← ep]; exact hm⟩
      · exact ⟨o, stays b o hb e⟩
/-- the law's promise -/
def spLawG (cs : List (Addr × Addr × Str)) : SpL := fun LL ds M Q _ => ∃ ns : List Int, LL = [] ∧ ds = [.lis (ns.map .int)] ∧ M = tabM cs ∧ ns.length ≤ 63 ∧ ∀ M', Q (.bl true) M'
theorem law_okG {P : Program} {w : World} {K : Fg} {mg : Str → Option Value} {base : Heap} {N L C Gs Bs : List Str} {k : Nat} {x y : Str} {st : Stmt} {f : Addr} {fd : FuncData} {dV : Value} {cs : List (Addr × Addr × Str)} (F : FunD K x x st f fd dV) (S : FnScope N [y] (defScope st)) (hst : stat (defScope st) N L C Gs = true) (hb : ∀ x ∈ Bs, mg x = none)
    (h : ∀ X, Fx X P w K mg base (defScope st) N L C Gs Bs k → Gq X → ∀ ns : List Int, ns.length ≤ 63 → Tk X (fun _ _ _ _ => False) → WSs X (ini N [.lis (ns.map .int)]) (tabM cs) (defBody st) (fun _ _ => False) (fun d _ => d = .bl true) (fun _ _ => False) (fun _ _ => False)) :
    RunL P w K mg base (k + 1) f fd [y] (spLawG cs) := by
  obtain ⟨oc, od, kV, doc, pm, an, cdv, ct, osl, rfl, lk, hcd⟩ := F.ex
  refine runL_of lk hcd S hst hb fun X FX _ GX _ LL ds M Q E _ _ ⟨ns, _, e2, e3, e4, e5⟩ _ => ?_
  subst e2 e3
  exact (h X FX GX ns e4 Tk.none).mono (fun _ _ z => z.elim) (fun d M' z => Sub.self (by subst z; exact e5 M')) (fun _ _ z => z) fun _ _ z => z
theorem walkG {l : PySem.W.OpenLaw} {q : Program} {loose : List Str} {XP : (Str → Option Value) → Heap → Prop} {YP : World → Heap → Prop} {d : DefRec} {K : Params → PySem.W.Frag} {k : Nat} {x : Str} (hn : l.most = some 63) (hdf : d.params.defaults = []) (hr : Room k callerA)
    (hY : ∀ (w : World) (h : Heap), YP w h → (K w.params).In h)
    (F : ∀ (w : World) (mg : Str → Option Value) (fa : Addr) (h : Heap), YP w h → (K w.params).In h → h.Ns mainGlobals mg → mg d.name = some (.ref fa) →
      ∃ (fd : FuncData) (cs : List (Addr × Addr × Str)), (∀ p ∈ cs, h.get? p.2.1 = some { cls := .none, data := .fields #[] }) ∧ (∀ p ∈ cs, (K w.params).lookup p.2.1 = none) ∧ (∀ p ∈ cs, PySem.W.codeHdIn (K w.params) p.1 p.2.1 = true) ∧ (cs.map (·.2.1)).Nodup ∧ (∀ (s : Shared) (u : Value), BindsTo s fd ⟨[u], []⟩ [(x, u)]) ∧
        ∀ base : Heap, (K w.params).In base → base.Ns mainGlobals mg → (∀ p ∈ cs, LamX.TabB base mg p.1 p.2.1) → RunL l.prog w (K w.params) mg base k fa fd [x] (spLawG cs)) :
    PySem.W.WalkO q loose XP YP l.row.toRowW d [] (fun f vs => PySem.call f vs) := by
  refine Att.attach_callB hn hdf fun w s₀ s₁ mg mb fa o pm cd doc a vs ns G Y ho hd hcd hmg hobj hints hlen hbits hg => ?_
  have KX := hY w _ Y
  obtain ⟨fd, cs, c1, c2, c3, nd, c4, c5⟩ := F w mg fa _ Y KX G.T.g hmg
  exact law_callG KX G.T.g G.T.b G.T.builtins G.T.nolimit hg c1 c2 (fun p hp => PySem.W.codeHd_of_K KX (c3 p hp)) G.T.bmain nd hobj hints (Nat.le_trans hlen (by rw [sizeLine_eq]; decide)) hr c5 c4 ⟨ns, rfl, rfl, rfl, hlen, fun _ => rfl⟩
end G
namespace G
open PySem PySem.Spec PyProof.Rows L2
/-! ### repr of data, where nothing is being shown around -/
/-- repr of d is t; new objects may be laid -/
def RepG (X : Cy) (d : DV) (M : Mm) (t : Str) : Prop := ∀ (pins : List (Addr × Obj)) (s : Shared) (σ : L2.St) (H : Hp) (v : V) (u : Value) (Q : Value → Shared → Prop), Inv X.toCx pins σ H s → RD X.K H d v → RM X.K H M → RelV v u →
  (∀ h' tk tk', (∀ b o, s.heap.get? b = some o → h'.get? b = some o) → Q (.str t tk) { s with heap := h', toks := tk' }) → wpAny (model X.prog X.w) X.A (call (.builtin "repr") [u]) Q X.xe s
mutual
theorem Pd.nodict {M : Mm} : ∀ {d : DV} {p : PyData}, Pd M d p → p.hasDict = false
  | _, _, .non => by simp only [PyData.hasDict]
  | _, _, .bl b => by simp only [PyData.hasDict]
  | _, _, .int b => by simp only [PyData.hasDict]
  | _, _, .str b => by simp only [PyData.hasDict]
  | _, _, .tup q => by simp only [PyData.hasDict]; exact Pds.nodict q
  | _, _, .lst _ q => by simp only [PyData.hasDict]; exact Pds.nodict q
  | _, _, .lis q => by simp only [PyData.hasDict]; exact Pds.nodict q
theorem Pds.nodict {M : Mm} : ∀ {d : List DV} {p : List PyData}, Pds M d p → PyData.hasDictAll p = false
  | _, _, .nil => by simp only [PyData.hasDictAll]
  | _, _, .cons a b => by simp only [PyData.hasDictAll, Pd.nodict a, Pds.nodict b, Bool.or_self]
end
theorem rep_data {P : Program} {w : World} {A : Around} {E : Value → Shared → Prop} {s : Shared} {u : Value} {p : PyData} {as : List Addr} {Q : Value → Shared → Prop} (r : Reads s.heap u p as) (hs : p.showable = true) (hd : p.hasDict = true → sysModules ∉ as) (hg : A.guards = some []) (hu : A.units + (p.depth + 1) < cLine) (hz : p.shown.length ≤ sizeLine)
    (h : ∀ h' tk tk', (∀ b o, s.heap.get? b = some o → h'.get? b = some o) → Q (.str p.shown tk) { s with heap := h', toks := tk' }) : wpAny (model P w) A (call (.builtin "repr") [u]) Q E s := by
  have same : ∀ b o, s.heap.get? b = some o → s.heap.get? b = some o := fun _ _ e => e
  cases r with
  | none => exact PySem.P.repr_of_none (h _ _ _ same)
  | bool b => exact PySem.P.repr_of_bool (by have := h s.heap s.toks (s.toks + 1) same; simpa [PyData.shown] using this)
  | int i t => exact PySem.P.repr_of_int (by simpa [PyData.showable] using hs) (h _ _ _ same)
  | str x t => exact PySem.P.repr_of_str (h _ _ _ same) hz
  | list a b c d => exact repr_of_reads' (.list a b c d) hs hd hg hu same (fun h' u tk k => h h' u tk k) hz
  | tuple a b c d => exact repr_of_reads' (.tuple a b c d) hs hd hg hu same (fun h' u tk k => h h' u tk k) hz
  | dict a b c d e => exact repr_of_reads' (.dict a b c d e) hs hd hg hu same (fun h' u tk k => h h' u tk k) hz
/-- the data of a dict with plain entries -/
def scRD : DV → Option PyData
  | .non => some .none
  | .bl b => some (.bool b)
  | .int i => some (.int i)
  | .str x => some (.str x)
  | _ => none
def keyRD : Key → PyData
  | .inl i => .int i
  | .inr x => .str x
def dkRD : List (Key × DV) → Option (List (PyData × PyData))
  | [] => some []
  | (k, d) :: r => match scRD d, dkRD r with
    | some p, some ps => some ((keyRD k, p) :: ps)
    | _, _ => none
theorem sc_reads {K : Fg} {H : Hp} {h : Heap} {d : DV} {p : PyData} {v : V} {u : Value} (e : scRD d = some p) (r : RD K H d v) (ru : RelV v u) : Reads h u p [] := by
  cases r <;> first | (simp [scRD] at e; done) | skip
  · cases e; cases ru; exact .none
  · cases e; cases ru; exact .bool _
  · cases e; obtain ⟨t, rfl⟩ := ru; exact .int _ t
  · cases e; obtain ⟨t, rfl⟩ := ru; exact .str _ t
theorem dk_reads {P : Program} {w : World} {K : Fg} {H : Hp} {h : Heap} : ∀ {kvs : List (Key × DV)} {ps : List (PyData × PyData)} {gs : List (Key × V)} {vs : List (Key × Value)} {es : List DictEntry}, dkRD kvs = some ps → RF K H kvs gs → KV gs vs → Pairs (mixKind P w) es vs →
    ReadsAll h (es.map (·.key)) (ps.map (·.1)) [] ∧ ReadsAll h (es.map (·.val)) (ps.map (·.2)) []
  | [], _, _, _, _, e, r, kv, pr => by
    cases e; cases r; cases kv; cases pr
    exact ⟨.nil, .nil⟩
  | (k, d) :: kvs, ps, _, _, _, e, r, kv, pr => by
    rw [dkRD] at e
    cases h1 : scRD d with
    | none => rw [h1] at e; cases e
    | some p =>
      cases h2 : dkRD kvs with
      | none => rw [h1, h2] at e; cases e
      | some qs =>
        rw [h1, h2] at e
        cases e
        cases r with
        | cons r1 r2 =>
          cases kv with
          | cons k1 k2 =>
            cases pr with
            | @cons e' kv es' kvs' p1 p2 p3 =>
              obtain ⟨a, b⟩ := dk_reads (h := h) h2 r2 k2 p3
              obtain ⟨q1, q2⟩ := k1
              have q1 : k = _ := q1
              rw [← q1] at p1
              refine ⟨?_, ?_⟩
              · have kr : ∀ {x : Value}, (mixKind P w).is k x = true → Reads h x (keyRD k) [] := fun {x} hk => by
                  rcases keyIs_shape (show keyIs k x = true from hk) with ⟨i, t, rfl, rfl⟩ | ⟨x, t, rfl, rfl⟩
                  · exact .int i t
                  · exact .str x t
                exact .cons (kr p1) a
              · have : Reads h e'.val p [] := sc_reads (h := h) h1 r1 (by rw [p2]; exact q2)
                exact .cons this b
section
variable {X : Cy} {P : Program} {w : World} {K : Fg} {mg : Str → Option Value} {base : Heap} {sc : Scope} {N L C Gs Bs : List Str} {k : Nat} {ρ : Ro} {M : Mm} {Q : DV → Mm → Prop} {e : Expr} {pos p : Pos} {d : DV} {q : PyData}
theorem rg_pd (GX : Gq X) (hu : X.A.units + 200 < cLine) (p : Pd M d q) (hs : q.showable = true) (hd : q.depth ≤ 60) (hz : q.shown.length ≤ sizeLine) : RepG X d M q.shown := fun pins s σ H v u Q I r m ru h => by
  obtain ⟨as, rr⟩ := Dp.reads I _ _ _ (p.dp m r) ru
  exact rep_data rr hs (PyData.noDict_hsm p.nodict) GX.gd (by omega) hz h
theorem rg_dk {a : Addr} {i : Nat} {kvs : List (Key × DV)} {ps : List (PyData × PyData)} (GX : Gq X) (hu : X.A.units + 200 < cLine) (A : AtM M i a (.dk kvs)) (he : dkRD kvs = some ps) (hs : (PyData.dict ps).showable = true) (hd : (PyData.dict ps).depth ≤ 60) (hz : (PyData.dict ps).shown.length ≤ sizeLine) : RepG X (.ref a) M (PyData.dict ps).shown := fun pins s σ H v u Q I r m ru h => by
  cases r
  cases ru
  obtain ⟨gs, e, rv⟩ := m.at A.ix
  obtain ⟨_, hsys, vs, hv, o, es, ep, h1, h2, h3, _, h5, _⟩ := dk_of I.hok e
  obtain ⟨r1, r2⟩ := dk_reads (h := s.heap) he rv hv h5
  have rr : Reads s.heap (.ref a) (.dict ps) (a :: [] ++ []) := .dict h1 h2.1 h3 r1 r2
  exact rep_data rr hs (fun _ hm => by simp at hm; rw [← hm] at hsys; simp at hsys) GX.gd (by omega) hz h
theorem we_reprG_of (g1 : Gl X.toCx "repr") (g2 : (("repr" : Str) == ("__debug__" : Str)) = false) (g3 : ("repr" : Str) ≠ "__name__") (gb : X.mg "repr" = none) (hs : isStar e = false) (h : WE X ρ M e fun d M1 => ∃ t, RepG X d M1 t ∧ Q (.str t) M1) : WE X ρ M (.Call (.Name "repr" p) [e] [] pos) Q := fun σ H rs m pins s I => by
  refine wpAny_Call_Name_kw (ld_blt I g1 gb (show bootBuiltins "repr" = some (.builtin "repr") by decide +kernel) ?_ g3 g2)
  have W := h σ H rs m
  refine PyProof.Rows.callWith_builtin1 (thn ((pa_cons (pe_w (X := X.toCx) (e := e)) pa_nil (starEach_cons hs)).run pos pins s σ H (fun vs H1 => ∃ d M1 v, vs = [v] ∧ RD X.K H1 d v ∧ RM X.K H1 M1 ∧ Stay X.K H H1 ∧ ∃ t, RepG X d M1 t ∧ Q (.str t) M1) I (W.mono fun v H1 ⟨d, M1, a1, a2, a3, a4⟩ => ⟨d, M1, v, rfl, a1, a2, a3, a4⟩)) fun us s1 ⟨vs, H1, I1, r1, d, M1, v, ev, a1, a2, a3, t, a4, a5⟩ => ?_) (starEach_cons hs) rfl
  subst ev
  cases r1 with
  | cons r1 r2 =>
    cases r2
    exact a4 pins s1 σ H1 v _ _ I1 a1 a2 r1 fun h' tk tk' k => ⟨.str t, H1, I1.kept fun b o e => k b o e, ⟨_, rfl⟩, .str t, M1, .str t, a2, a3, a5⟩
/-- what repr asks -/
def RepT (X : Cy) (Q : DV → Mm → Prop) (d : DV) (M : Mm) : Prop := ∃ t, RepG X d M t ∧ Q (.str t) M
instance (priority := 3000) [F : Fx X P w K mg base sc N L C Gs Bs k] [GX : Gq X] [m : MemC "repr" Gs] [m2 : MemC "repr" Bs] : Step (WE X ρ M (.Call (.Name (Str.ofString "repr") p) [e] [] pos) Q) (!isStar e) (WE X ρ M e (RepT X Q)) := ⟨fun h q =>
  we_reprG_of (F.gl _ m.h).1 (F.gl _ m.h).2.1 (F.gl _ m.h).2.2 (by rw [F.hmg]; exact F.bl _ m2.h) (by simpa using h) q⟩
instance (priority := 3000) [F : Fs X K mg sc N L Gs Bs] [GX : Gq X] [m : MemC "repr" Gs] [m2 : MemC "repr" Bs] : Step (WE X ρ M (.Call (.Name (Str.ofString "repr") p) [e] [] pos) Q) (!isStar e) (WE X ρ M e (RepT X Q)) := ⟨fun h q =>
  we_reprG_of (F.gl _ m.h).1 (F.gl _ m.h).2.1 (F.gl _ m.h).2.2 (by rw [F.hmg]; exact F.bl _ m2.h) (by simpa using h) q⟩
end
end G
namespace G
open PySem PySem.Spec PyProof.Rows L2
/-! ### lambdas without parameters, at the call that is given them -/
def noParams (a : Arguments) : Bool := match a with
  | ⟨[], [], none, [], [], none, []⟩ => true
  | _ => false
theorem noParams_bind {L : Lamb} (h : noParams L.params = true) (cl : List (Str × Addr)) (pm cv ctv : Value) : bindArgs (PySem.W.kla_fn "<lambda>" L.qual L.params L.body L.scope cl pm cv ctv) ⟨[], []⟩ = pure [] := by
  obtain ⟨q, ⟨p1, p2, p3, p4, p5, p6, p7⟩, b, s, f⟩ := L
  cases p1 <;> cases p2 <;> cases p3 <;> cases p4 <;> cases p5 <;> cases p6 <;> cases p7 <;> first | (simp [noParams] at h; done) | rfl
section
variable {X : Cy} {P : Program} {w : World} {K : Fg} {mg : Str → Option Value} {base : Heap} {sc : Scope} {N L C Gs Bs : List Str} {k j n kl : Nat} {ρ : Ro} {M : Mm} {Q : DV → Mm → Prop} {E : EX} {pos p lp : Pos} {x : Str} {La : Lamb} {cl : List (Str × Addr)} {cd : List DV} {LL : Lvs} {params : Arguments} {body : Expr} {scope : Scope} {fr : List Str}
theorem lamR_mk {E : Addr → List (Str × DV) → Mm → Prop} (N Gs Bs : List Str) (h1 : NdefX.nscB N [] La.fr La.scope = true) (h2 : stat La.scope N [] [] Gs = true) (h3 : ∀ x ∈ Bs, mg x = none) (h4 : noParams La.params = true)
    (h : ∀ X, Fx X P w K mg base La.scope N [] [] Gs Bs kl → Gq X → Tk X (fun C fs _ M' => Sub (E C fs) M') → WE X (ini N cd) M La.body (fun d M' => Sub (Q d) M')) : LamR P w K mg base kl La cd M Q E := ⟨N, Gs, Bs, NdefX.nscope_by h1, h2, h3, noParams_bind h4, h⟩
/-- repr of d is t wherever nothing is being shown -/
def RepE (K : Fg) (d : DV) (M : Mm) (t : Str) : Prop := ∀ Y : Cy, Y.K = K → Gq Y → Y.A.units + 200 < cLine → RepG Y d M t
theorem re_pd {d : DV} {q : PyData} (p : Pd M d q) (hs : q.showable = true) (hd : q.depth ≤ 60) (hz : q.shown.length ≤ sizeLine) : RepE K d M q.shown := fun Y _ G u => rg_pd G u p hs hd hz
theorem re_dk {a : Addr} {i : Nat} {kvs : List (Key × DV)} {ps : List (PyData × PyData)} (A : AtM M i a (.dk kvs)) (he : dkRD kvs = some ps) (hs : (PyData.dict ps).showable = true) (hd : (PyData.dict ps).depth ≤ 60) (hz : (PyData.dict ps).shown.length ≤ sizeLine) : RepE K (.ref a) M (PyData.dict ps).shown := fun Y _ G u => rg_dk G u A he hs hd hz
theorem rt_of (F : Fx X P w K mg base sc N L C Gs Bs k) (G : Gq X) {d : DV} {t : Str} (r : RepE K d M t) (q : Q (.str t) M) : RepT X Q d M := ⟨t, r X F.hK G (by have := F.room.un; omega), q⟩
theorem rt_ofS (F : Fs X K mg sc N L Gs Bs) (G : Gq X) {d : DV} {t : Str} (r : RepE K d M t) (q : Q (.str t) M) : RepT X Q d M := ⟨t, r X F.hK G F.un, q⟩
/-- a def that asks the one lambda that it is given: what it does with its value, and with what it raises -/
def spAsk (P : Program) (w : World) (K : Fg) (mg : Str → Option Value) (base : Heap) (kl : Nat) (onV : DV → Mm → (DV → Mm → Prop) → Prop) (onE : Addr → List (Str × DV) → Mm → (DV → Mm → Prop) → (Addr → List (Str × DV) → Mm → Prop) → Prop) : SpL := fun LL ds M Q E =>
  ∃ L cl cd, LL = [(L, cl, cd)] ∧ ds = [.lam L cl] ∧ LamR P w K mg base kl L cd M (fun d M' => onV d M' Q) (fun C fs M' => onE C fs M' Q E)
/-- x(lambda: body) -/
theorem we_ask {c Pt : Addr} {q : Str} {ti : Nat} {onV : DV → Mm → (DV → Mm → Prop) → Prop} {onE : Addr → List (Str × DV) → Mm → (DV → Mm → Prop) → (Addr → List (Str × DV) → Mm → Prop) → Prop} [F : Fx X P w K mg base sc N L C Gs Bs k] [GX : Gq X] [T : Tk X E] [Mk : Mkr X c Pt q] [tb : AtM M ti Pt (.tab q)] [G : CalL P w K mg base x j 1 (spAsk P w K mg base kl onV onE)] [hx : MemC x Gs]
    (fr : List Str) (N' Gs' Bs' : List Str) [hs : AtS N ρ fr cd] (hj : Nat.ble j k = true) (hl : (lamC sc scope && plainArgs params && noParams params) = true) (hf : frOf scope = fr) (hc : (fr.all fun y => decide (y ∈ C)) = true) (h1 : NdefX.nscB N' [] fr scope = true) (h2 : stat scope N' [] [] Gs' = true) (h3 : ∀ x ∈ Bs', mg x = none)
    (h : ∀ Y, Fx Y P w K mg base scope N' [] [] Gs' Bs' kl → Gq Y → Tk Y (fun C fs _ M' => Sub (fun M1 => onE C fs M1 Q fun C fs M' => E C fs ρ M') M') → WE Y (ini N' cd) M body (fun d M' => Sub (fun M1 => onV d M1 Q) M')) : WE X ρ M (.Call (.Name x p) [.Lambda params body scope lp] [] pos) Q := by
  simp only [Bool.and_eq_true] at hl
  refine we_call1L F GX T Mk tb G (Nat.le_of_ble_eq_true hj) hx.h hl.1.1 hl.1.2 hf (fun y hy => by simpa using List.all_eq_true.mp hc y hy) hs fun cl => ?_
  exact ⟨_, _, _, rfl, rfl, lamR_mk N' Gs' Bs' h1 h2 h3 hl.2 h⟩
end
end G
namespace G
open PySem PySem.Spec PyProof.Rows L2
/-! ### repr of a list that holds one empty dict -/
end G
namespace G
open PySem PySem.Spec PyProof.Rows L2
/-! ### C(k = e), that may raise -/
section
variable {X : Cy} {P : Program} {w : World} {K : Fg} {mg : Str → Option Value} {base : Heap} {sc : Scope} {N L C Gs Bs : List Str} {k j n : Nat} {ρ : Ro} {M : Mm} {Q : DV → Mm → Prop} {E : EX} {pos p p1 : Pos} {x k1 : Str} {e1 : Expr} {sp : SpX} {Cc : Addr} {dd : List DV}
/-! slices go ahead of subscripts -/
instance (priority := 4000) {e : Expr} {p2 : Pos} {lo hi : Option Expr} : Step (WE X ρ M (.Subscript e (.Slice lo hi none p2) pos) Q) true (WE X ρ M e fun x M1 => WO X ρ M1 lo fun l M2 => WO X ρ M2 hi fun u M3 => SlD X.K x l u M3 Q) := ⟨fun _ => we_slice⟩
end
end G
namespace G
open PySem PySem.Spec PyProof.Rows L2
/-! ### a value's class as the library sees it -/
def KtV (K : Fg) (H : Hp) (x : V) (t : Value) : Prop := TyX K H x t ∨ (t = .type "dict" ∧ ∃ w p o xs, x = .ref p ∧ H p = some (DnO w p o xs))
theorem ktv_of {X : Cx} {pins : List (Addr × Obj)} {σ : L2.St} {H : Hp} {s : Shared} {x : V} {u t : Value} (I : Inv X pins σ H s) (rx : RelV x u) (ty : KtV X.K H x t) : ∃ P : Heap → Prop, PySem.W.KitX X.K u t P ∧ P s.heap ∧ u ≠ .builtin "__main__.__loader__#opaque" := by
  rcases ty with ty | ⟨rfl, w, p, o, xs, rfl, e⟩
  · exact kit_of I rx ty
  · cases (show u = Value.ref p from rx)
    obtain ⟨_, pd⟩ : s.heap.get? p = some o ∧ PDict w s.heap p xs := (I.hok p _ e).1
    obtain ⟨o', h1, h2⟩ := pd.ty
    exact ⟨_, PySem.W.kitx_dict, ⟨o', h1, h2⟩, fun z => nomatch z⟩
/-! ### isinstance(x, C), C a class of the text -/
def rIsK (K : Fg) : List V → Hp → VK → Prop := fun xs H Q => ∃ (x c : V) (t u : Value) (b : Bool), xs = [x, c] ∧ ClsV c u ∧ KtV K H x t ∧ PySem.W.kitOne K t u = some b ∧ Q (.bl b) H
theorem call_isK {X : Cx} : CallR X (.builtin "isinstance") (rIsK X.K) := by
  intro pins s σ H xs us Q I r h
  obtain ⟨x, c, t, u, b, rfl, k, ty, e, q⟩ := h
  obtain ⟨u1, u2, rfl, r1, r2⟩ := vals2 r
  have e2 := k.eq r2
  subst e2
  obtain ⟨P, Z, p, hx⟩ := ktv_of I r1 ty
  exact PySem.W.kia_one Z I.kIn p e hx fun tk => ⟨.bl b, H, I.tok tk, rfl, q⟩
def rIs10 (K : Fg) : List V → Hp → VK → Prop := fun vs H Q => rIs9 K vs H Q ∨ rIsK K vs H Q
theorem mon_is10 {K : Fg} : MonC (rIs10 K) := fun xs H Q Q' z q => z.elim (fun z => .inl (mon_is9 _ _ _ _ z q)) fun ⟨a, b, c, d, f, g, h, i, j, k⟩ => .inr ⟨a, b, c, d, f, g, h, i, j, q _ _ k⟩
section
variable {X : Cy} {P : Program} {w : World} {K : Fg} {mg : Str → Option Value} {base : Heap} {sc : Scope} {N L C Gs Bs : List Str} {k j n i : Nat} {ρ : Ro} {M : Mm} {Q : DV → Mm → Prop} {R : Bool → Mm → Prop} {E : EX} {pos p : Pos} {x : Str} {e e2 a b : Expr} {sp : SpX} {Cc : Addr} {d d' : DV} {ds : List DV} {σ : L2.St} {H H0 : Hp} {pins : List (Addr × Obj)} {s : Shared}
instance (priority := low) : Step (CD K (rIs10 K) ds M Q) true (CD K (rIs9 K) ds M Q) := ⟨fun _ z vs H r m => .inl (z vs H r m)⟩
/-! ### own == -/
/-- y's class does not go ahead of C -/
def NfT (K : Fg) (M : Mm) (C : Addr) (y : DV) : Prop := ∃ t, (∀ v H, RD K H y v → RM K H M → KtV K H v t) ∧ PySem.W.notFirst K C t = true
end
end G
namespace G
open PySem PySem.Spec PyProof.Rows L2
/-! ### x == y and x != y by an own __eq__ -/
section
variable {prog : Program} {w : World} {A : Around} {E : Value → Shared → Prop} {s : Shared} {K : PySem.W.Frag} {x C L f : Addr} {h₀ : Heap} {m : Str → Option Value} {ox : Obj} {od : Option Obj} {b tb : Value}
open PySem.W Builtin in
theorem objNe_K (X : K.In s.heap) (I : InstAt s.heap x ox C od) (hu : A.units < cLine) (hs : findIn K (.ref C) "__eq__" = some (some (.ref f))) (hf : isFn K (.ref f) = true) {Q : Fin → Shared → Prop}
    (h : wpAny (model prog w) A (call (.ref f) [.ref x, b]) (fun v s' => ∃ t, v = .bool t ∧ Q (.done (.ret (.bool (!t)))) s') E s) : wpAny (model prog w) A (Builtin.«object.__ne__» ⟨[.ref x, b], []⟩) Q E s := by
  obtain ⟨hp, g, d, t, os⟩ := s
  unfold Builtin.«object.__ne__»
  repeat (first
    | with_reducible refine wpAny_cRoomFor hu ?_
    | (refine wpAny_bind (m := callSpecialIfBound? (.ref x) (Str.ofString "__eq__") [b])
        (ifBound_K X I hs hf (wpAny_mono h (fun r s' hr => by
          obtain ⟨b, rfl, hq⟩ := hr
          repeat (first | exact hq | exact wpAny_pure hq | exact wpAny_truthy_bool hq | (refine wpAny_bind (m := truthy (.bool _)) (wpAny_truthy_bool ?_)) | wp_step)) fun _ _ e => e)))
    | wp_step)
open PySem.W in
theorem ne_K {Q : Value → Shared → Prop} (hu : A.units + 1 < cLine) (F : Fr h₀ L s.heap m) (X₀ : K.In h₀) (I : InstAt s.heap x ox C od) (hb : Looks (model prog w) s.heap (typeOf b) tb) (hn : notFirst K C tb = true)
    (hs : findIn K (.ref C) "__eq__" = some (some (.ref f))) (hf : isFn K (.ref f) = true) (hne : findIn K (.ref C) "__ne__" = some (some (.builtin "object.__ne__"))) (ho : mroIn K C (.type "object") = some true)
    (h : wpAny (model prog w) A.in1 (call (.ref f) [.ref x, b]) (fun v s' => ∃ t, v = .bool t ∧ Q (.bool (!t)) s') E s) : wpAny (model prog w) A (richCompare .NotEq (.ref x) b) Q E s := by
  have X := X₀.keeps F.keep
  have S := PySem.F.cmp_object.ne
  have one : wpAny (model prog w) A (tryCompare (.ref x) "__ne__" b) (fun r s' => ∃ v, r = some v ∧ Q v s') E s := by
    unfold tryCompare
    refine wpAny_bind ?_
    simp only [callSpecialIfBound?, bindSpecialIfBound?]
    refine wpAny_holding (wpAny_bind (wpAny_bind (wpAny_bind (I.type.here ((looks_findIn X hne).here ?_)))))
    simp only [S.bind]
    have inst : Looks (model prog w) s.heap (isInstance (.ref x) (.type "object")) true := I.type.andThen (looks_mroIn X ho)
    have go : wpAny (model prog w) A (call (.builtin "object.__ne__") ([.ref x] ++ [b])) (fun v s' => v ≠ .notImplemented ∧ Q v s') E s := by
      refine wpAny_call (codeAny_call_builtin S.plain PySem.F.cmpEntry_ne (check_slot PySem.F.cmpKind_ne PySem.F.cmpSplit_ne inst (PySem.F.cmpArgs_ne _ _) ?_))
      refine objNe_K (A := A.in1) X I hu hs hf (wpAny_mono h (fun v s' z => ?_) fun _ _ z => z)
      obtain ⟨t, e, q⟩ := z
      exact ⟨t, e, (fun z => nomatch z), q⟩
    have fin : wpAny (model prog w) A (call (.builtin "object.__ne__") ([.ref x] ++ [b]) >>= fun v => pure (some v)) (fun o s' => wpAny (model prog w) A (match o with | some .notImplemented | none => pure none | some v => pure (some v)) (fun r s' => ∃ v, r = some v ∧ Q v s') E s') E s := wpAny_bind (wpAny_mono go (fun v s' z => wpAny_pure (by
      obtain ⟨z1, z2⟩ := z
      cases v <;> first | exact absurd rfl z1 | exact wpAny_pure ⟨_, rfl, z2⟩)) fun _ _ z => z)
    refine wpAny_bind (wpAny_askSetting (wpAny_ite ?_))
    split
    · exact wpAny_bind (wpAny_pure (wpAny_pure fin))
    · exact wpAny_tryCatch (wpAny_bind (wpAny_pure (wpAny_pure fin)))
  unfold richCompare
  simp only [oneThing_ref]
  refine wpAny_holding (wpAny_bind (wpAny_cRoomFor (Nat.lt_of_succ_lt hu) ?_))
  refine wpAny_bind (I.type.here (wpAny_bind (hb.here ?_)))
  split
  · rename_i q
    have e : subIn K tb (.ref C) = some false := by
      rcases Bool.or_eq_true_iff.mp hn with e | e
      · rw [beq_iff_eq.mp e] at q; simp at q
      · exact beq_iff_eq.mp e
    refine wpAny_bind ((looks_subIn X e).here ?_)
    simp only [Bool.false_eq_true, if_false]
    refine wpAny_bind (wpAny_mono one (fun r s' z => ?_) fun _ _ e => e)
    obtain ⟨v, rfl, hq⟩ := z
    exact wpAny_pure hq
  · refine wpAny_bind (wpAny_pure ?_)
    simp only [Bool.false_eq_true, if_false]
    refine wpAny_bind (wpAny_mono one (fun r s' z => ?_) fun _ _ e => e)
    obtain ⟨v, rfl, hq⟩ := z
    exact wpAny_pure hq
end
end G
namespace G
open PySem PySem.Spec PyProof.Rows L2
/-! ### == of two dicts with plain keys -/
section
variable {prog : Program} {w : World} {A : Around} {E : Value → Shared → Prop} {s : Shared}
inductive PHits (A : Around) (s : Shared) (ys : List PEnt) : List PEnt → Bool → Prop
  | nil : PHits A s ys [] true
  | miss {x : PEnt} {r : List PEnt} : pix ys x.1 = none → PHits A s ys (x :: r) false
  | hit {x y : PEnt} {j : Nat} {r : List PEnt} {e b : Bool} : pix ys x.1 = some j → ys[j]? = some y → SeqAt.EqAt A s x.2.2 y.2.2 e → PHits A s ys r b → PHits A s ys (x :: r) (e && b)
theorem PHits.inv {ys : List PEnt} {x : PEnt} {r : List PEnt} {b : Bool} (h : PHits A s ys (x :: r) b) :
    (pix ys x.1 = none ∧ b = false) ∨ ∃ j y e b', pix ys x.1 = some j ∧ ys[j]? = some y ∧ SeqAt.EqAt A s x.2.2 y.2.2 e ∧ PHits A s ys r b' ∧ b = (e && b') := by
  cases h with
  | miss hn => exact .inl ⟨hn, rfl⟩
  | hit hj hy he hr => exact .inr ⟨_, _, _, _, hj, hy, he, hr, rfl⟩
theorem peq_same {nm : String} {a b : Addr} {xs ys : List PEnt} {r : Bool} {Q : Bool → Shared → Prop} (hu : A.units + 8 < cLine) (da : PDict w s.heap a xs) (db : PDict w s.heap b ys) (ka : AllK s.heap xs) (kb : AllK s.heap ys) (hits : xs.length = ys.length → PHits A s ys xs r) (h : Q (xs.length == ys.length && r) s) :
    wpAny (model prog w) A (Builtin.Dict.samePairs nm a b) Q E s := by
  obtain ⟨ha, _, nda, oa, es, ep, hoa, _, hda, hea⟩ := da
  obtain ⟨hb, _, ndb, ob, es', ep', hob, _, hdb, heb⟩ := db
  have hla : xs.length = es.size := (ent_size hea).symm
  have hlb : ys.length = es'.size := (ent_size heb).symm
  rw [hla, hlb] at h
  unfold Builtin.Dict.samePairs Builtin.Dict.showsAll
  rw [if_neg (show ¬ (a == sysModules) = true by rw [ha]; exact Bool.false_ne_true), if_neg (show ¬ (b == sysModules) = true by rw [hb]; exact Bool.false_ne_true)]
  refine wpAny_bind (wpAny_pure (wpAny_bind (wpAny_pure ?_)))
  refine wpAny_bind (wpAny_dictEntries hoa hda ?_)
  dsimp only
  refine wpAny_bind (wpAny_dictEntries hob hdb ?_)
  by_cases hsz : es.size = es'.size
  case neg =>
    rw [if_pos (by simpa using hsz)]
    have hbf : (es.size == es'.size) = false := by simpa using hsz
    rw [hbf, Bool.false_and] at h
    exact wpAny_bind (wpAny_rule (wpAny_pure h))
  case pos =>
    have h' : Q r s := by simpa [hsz] using h
    have hits' := hits (by rw [hla, hlb]; exact hsz)
    rw [if_neg (by rw [hsz]; simp)]
    refine wpAny_bind (wpAny_dictEpoch hoa hda ?_)
    refine wpAny_bind ?_
    rw [Std.Legacy.Range.forIn_eq_forIn_range']
    simp only [Std.Legacy.Range.size, Nat.sub_zero, Nat.add_sub_cancel, Nat.div_one]
    refine wpAny_forIn_list _
      (fun rest q s' => s' = s ∧ q = (none, ()) ∧ ∃ i, rest = List.range' i (es.size - i) ∧ i ≤ es.size ∧ PHits A s ys (xs.drop i) r)
      _ ?_ ?_ _ _ ⟨rfl, rfl, 0, by simp, Nat.zero_le _, hits'⟩
    · rintro x rest q s' ⟨rfl, rfl, i, hr, hi, hpre⟩
      have hlt : i < es.size := by
        rcases Nat.lt_or_ge i es.size with h | h
        · exact h
        · rw [Nat.sub_eq_zero_of_le h] at hr; simp at hr
      obtain ⟨rfl, hrest⟩ : x = i ∧ rest = List.range' (i + 1) (es.size - (i + 1)) := by
        have e : es.size - i = (es.size - (i + 1)) + 1 := by omega
        rw [e, List.range'_succ] at hr
        injection hr with h1 h2
        exact ⟨h1, h2⟩
      refine wpAny_bind (wpAny_dictEntries hoa hda ?_)
      have hlt' : x < xs.length := by rw [hla]; exact hlt
      rw [ent_at hea x, List.getElem?_eq_getElem hlt']
      have hdrop : xs.drop x = xs[x] :: xs.drop (x + 1) := List.drop_eq_getElem_cons hlt'
      rw [hdrop] at hpre
      have hk := ka xs[x] (List.getElem_mem hlt')
      refine wpAny_bind (wpAny_holding (wpAny_bind (find_keys (k := xs[x].1) hu hk hob hdb heb kb ndb ?_)))
      cases hj : pix ys xs[x].1 with
      | none =>
        rcases hpre.inv with ⟨_, er⟩ | ⟨j, _, _, _, hj', _⟩
        · rw [er] at h'
          refine wpAny_pure ?_
          show wpAny _ _ (if (!false) = true then _ else _) _ _ _
          rw [if_pos (by decide)]
          exact wpAny_pure (wpAny_pure h')
        · rw [hj] at hj'; exact nomatch hj'
      | some j =>
        rcases hpre.inv with ⟨hn, _⟩ | ⟨j', y, e, b', hj', hy, he, hrr, er⟩
        · rw [hj] at hn; exact nomatch hn
        · rw [hj] at hj'
          cases hj'
          refine wpAny_bind (wpAny_dictEntries hob hdb ?_)
          rw [ent_at heb j, hy]
          refine wpAny_holding (he prog w _ _ ?_)
          cases e with
          | false =>
            rw [er, Bool.false_and] at h'
            show wpAny _ _ (if (!false) = true then _ else _) _ _ _
            rw [if_pos (by decide)]
            exact wpAny_pure (wpAny_pure h')
          | true =>
            rw [Bool.true_and] at er
            rw [← er] at hrr
            show wpAny _ _ (if (!true) = true then _ else _) _ _ _
            rw [if_neg (by decide)]
            refine wpAny_bind (wpAny_dictEpoch hoa hda ?_)
            rw [if_neg (by simp)]
            exact wpAny_pure ⟨rfl, rfl, x + 1, hrest, hlt, hrr⟩
    · rintro q s' ⟨rfl, rfl, i, hr, hi, hpre⟩
      have hin : i = es.size := by
        rcases Nat.lt_or_ge i es.size with h | h
        · have e : es.size - i = (es.size - (i + 1)) + 1 := by omega
          rw [e, List.range'_succ] at hr; exact nomatch hr
        · exact Nat.le_antisymm hi h
      refine wpAny_pure ?_
      rw [hin, ← hla, List.drop_length] at hpre
      cases hpre
      exact h'
theorem peq_eq {a b : Addr} {xs ys : List PEnt} {r : Bool} {Q : Value → Shared → Prop} (hu : A.units + 9 < cLine) (da : PDict w s.heap a xs) (db : PDict w s.heap b ys) (ka : AllK s.heap xs) (kb : AllK s.heap ys) (hits : xs.length = ys.length → PHits A.in1 s ys xs r) (h : Q (.bool (xs.length == ys.length && r)) s) :
    wpAny (model prog w) A (compareOp .Eq (.ref a) (.ref b)) Q E s := by
  refine wpAny_richCompare_same_room (op := .Eq) da.ty db.ty PySem.F.slot_dict_eq (wpAny_call_entry PySem.F.slot_dict_eq da.ty PySem.F.entry_dict_eq ?_ (PySem.F.args_dict_eq_2 _ _)) (by omega)
  show wpAny _ _ (Builtin.Dict.dictSlotArgs "__eq__" ⟨[.ref a, .ref b], []⟩ >>= _) _ _ s
  refine wpAny_bind ?_
  unfold Builtin.Dict.dictSlotArgs
  refine wpAny_bind (wpAny_notOrdered_dict da.ty ?_)
  show wpAny _ _ (pure (Value.ref a, Value.ref b)) _ _ s
  refine wpAny_pure ?_
  refine wpAny_bind (wpAny_isInstance (T := "dict") db.ty PySem.F.sub_dict_dict ?_)
  simp only [Bool.not_true, Bool.false_eq_true, if_false]
  refine wpAny_bind (wpAny_pure (wpAny_bind (wpAny_pure ?_)))
  refine wpAny_bind (peq_same (A := A.in1) (by show A.units + 1 + 8 < cLine; omega) da db ka kb hits ?_)
  refine wpAny_pure ⟨_, rfl, ?_, ?_⟩
  · exact fun x => nomatch x
  · simpa using h
end
end G
namespace G
open PySem PySem.Spec PyProof.Rows L2
/-- what == tells of two such dicts -/
def eqN (f : DV → PyData) (a b : List (DV × DV)) : Bool := a.length == b.length && a.all fun x => match (nkD x.1).bind (kget b) with | none => false | some v => PyData.eqv (f x.2) (f v)
theorem eqN_cons {f : DV → PyData} {b : List (DV × DV)} : ∀ {a : List (DV × DV)} {x : DV × DV}, (x :: a).all (fun x => match (nkD x.1).bind (kget b) with | none => false | some v => PyData.eqv (f x.2) (f v)) = ((match (nkD x.1).bind (kget b) with | none => false | some v => PyData.eqv (f x.2) (f v)) && a.all fun x => match (nkD x.1).bind (kget b) with | none => false | some v => PyData.eqv (f x.2) (f v)) := fun {a x} => by rw [List.all_cons]
/-- the values are data -/
def ValsN (K : Fg) (H : Hp) (f : DV → PyData) (kvs : List (DV × DV)) : Prop := ∀ x ∈ kvs, SeqAt.shaped (f x.2) = true ∧ ∀ v, RD K H x.2 v → Dp K H v (f x.2)
def rEqN (w : World) (K : Fg) : R2 := fun x y H Q => ∃ p q o o' kvs kvs' xs ys f, x = .ref p ∧ y = .ref q ∧ H p = some (DnO w p o xs) ∧ H q = some (DnO w q o' ys) ∧ RKs K H kvs xs ∧ RKs K H kvs' ys ∧ ValsN K H f kvs ∧ ValsN K H f kvs' ∧ Q (.bl (eqN f kvs kvs')) H
theorem phits {X : Cx} {pins : List (Addr × Obj)} {σ : L2.St} {H : Hp} {s : Shared} {A : Around} {f : DV → PyData} {kvs' : List (DV × DV)} {ys : List PEnt} (I : Inv X pins σ H s) (hu : A.units + 64 < cLine) (ry : RKs X.K H kvs' ys) (vy : ValsN X.K H f kvs') :
    ∀ {kvs : List (DV × DV)} {xs : List PEnt}, RKs X.K H kvs xs → ValsN X.K H f kvs → PHits A s ys xs (kvs.all fun x => match (nkD x.1).bind (kget kvs') with | none => false | some v => PyData.eqv (f x.2) (f v))
  | _, _, .nil, _ => .nil
  | _, _, @RKs.cons _ _ kd vd k ku vu kv vv fs xs h1 h2 h3 h4 h5 h6 t, hv => by
    have ih := phits I hu ry vy t fun x hx => hv x (List.mem_cons_of_mem _ hx)
    obtain ⟨s1, d1⟩ := hv _ List.mem_cons_self
    have e1 : (nkD kd).bind (kget kvs') = kget kvs' k := by rw [h1]; rfl
    rw [eqN_cons]
    show PHits A s ys _ ((match (nkD kd).bind (kget kvs') with | none => false | some v => PyData.eqv (f vd) (f v)) && _)
    rw [e1]
    cases hk : pix ys k with
    | none =>
      have e2 : kget kvs' k = none := by unfold kget; rw [← ry.ix, hk]; rfl
      rw [e2]
      exact .miss hk
    | some j =>
      have hk' := hk
      rw [ry.ix] at hk'
      obtain ⟨y, hy, _⟩ := pix_at hk
      have hl : j < kvs'.length := by rw [ry.len]; exact (List.getElem?_eq_some_iff.mp hy).1
      obtain ⟨kd', vd'⟩ : DV × DV := kvs'[j]
      have hj : kvs'[j]? = some kvs'[j] := List.getElem?_eq_getElem hl
      obtain ⟨k2, ku2, vu2, kv2, vv2, g1, g2, g3, g4, g5, g6, g7⟩ := ry.at_ (kd := kvs'[j].1) (vd := kvs'[j].2) hj
      have e2 : kget kvs' k = some kvs'[j].2 := by unfold kget; rw [hk']; show (kvs'[j]?).map (·.2) = _; rw [hj]; rfl
      rw [e2]
      obtain ⟨s2, d2⟩ := vy _ (List.mem_of_getElem? hj)
      obtain ⟨as, q1⟩ := Dp.reads I _ _ _ (d1 _ h5) h6
      obtain ⟨bs, q2⟩ := Dp.reads I _ _ _ (d2 _ g6) g7
      exact .hit hk g1 (SeqAt.eqAt_reads _ _ A s _ _ as bs q1 q2 (SeqAt.canLay_of_shaped s1) (SeqAt.canLay_of_shaped s2) (SeqAt.room_of_shaped s1 hu)) ih
section
variable {X : Cy} {P : Program} {w : World} {K : Fg} {mg : Str → Option Value} {base : Heap} {sc : Scope} {N L C Gs Bs : List Str} {k j n i : Nat} {ρ : Ro} {M : Mm} {Q : DV → Mm → Prop} {R : Bool → Mm → Prop} {E : EX} {pos p : Pos} {x : Str} {e e2 a b : Expr} {sp : SpX} {Cc : Addr} {d d' : DV} {ds : List DV} {σ : L2.St} {H H0 : Hp} {pins : List (Addr × Obj)} {s : Shared}
theorem op_eqN (F : Fx X P w K mg base sc N L C Gs Bs k) : OpR X.toCx (compareOp .Eq) (rEqN w X.K) := fun pins s σ H x y v u Q I rx ry ⟨p, q, o, o', kvs, kvs', xs, ys, f, e1, e2, h1, h2, r1, r2, v1, v2, z⟩ => by
  subst e1 e2
  obtain rfl : v = Value.ref p := rx
  obtain rfl : u = Value.ref q := ry
  have hu := F.room.un
  have d1 := (dn_of I h1).2
  have d2 := (dn_of I h2).2
  have ew := F.hw
  refine peq_eq (by omega) (by rw [F.hw]; exact d1) (by rw [F.hw]; exact d2) (r1.all I) (r2.all I) (fun _ => phits I (by show X.A.units + 1 + 64 < cLine; omega) r2 v2 r1 v1) ?_
  rw [← r1.len, ← r2.len]
  exact ⟨.bl _, H, I, rfl, z⟩
def rEq8 (w : World) (K : Fg) : R2 := fun x y H Q => rEq3 K x y H Q ∨ rEqN w K x y H Q
theorem op_eq8 (F : Fx X P w K mg base sc N L C Gs Bs k) : OpR X.toCx (compareOp .Eq) (rEq8 w X.K) := (op_eq.or (op_eqD F.room.units)).or (op_eqN F)
/-! x == y, x != y -/
/-- a class whose != is that of all objects -/
class NeC (K : Fg) (C : Addr) : Prop where
  ne : PySem.W.findIn K (.ref C) "__ne__" = some (some (.builtin "object.__ne__"))
  ob : PySem.W.mroIn K C (.type "object") = some true
def DunC (P : Program) (w : World) (K : Fg) (mg : Str → Option Value) (base : Heap) (k : Nat) (E : EX) (ρ : Ro) (Cc : Addr) (m : Str) (x : DV) (ds : List DV) (M : Mm) (Q : DV → Mm → Prop) : Prop :=
  ∃ a i fs j n sp, x = .ref a ∧ AtM M i a (.ins Cc fs) ∧ McalX P w K mg base Cc m j n sp ∧ j + 4 ≤ k ∧ ds.length + 1 = n ∧ sp (.ref a :: ds) M Q (fun C fs M' => E C fs ρ M')
theorem dunc_run {m : Str} (F : Fx X P w K mg base sc N L C Gs Bs k) (T : Tk X E) (I : Inv X.toCx pins σ H s) (rs : RS X H ρ σ) (rm : RM X.K H M) (st0 : Stay X.K H0 H) (z : DunC P w X.K mg base k E ρ Cc m d ds M Q) :
    ∃ aa f, d = .ref aa ∧ InsAt X.K s aa Cc f m ∧ ∀ (A : Around) (us : List Value) (vs : List V), A.frames = X.A.frames → Room (k - 4) A → RDs X.K H ds vs → Vals vs us → wpAny (model X.prog X.w) A (call (.ref f) (.ref aa :: us)) (EP X.toCx pins σ (LE X.K H0 Q)) X.xe s := by
  obtain ⟨aa, i, fs, j, n, sp, e1, hA, G, hj, hn, h⟩ := z
  obtain ⟨f, fd, ps, G1, hm, hb, hfn⟩ := G.ex
  obtain ⟨dx, gs, q1, q2⟩ := rm.at hA.ix
  have eP := F.hP; have ew := F.hw; have eg := F.hmg; have eb := F.hbase
  subst eP ew eg eb
  refine ⟨aa, f, e1, ⟨ins_at I q1, hm.at_, hm.fn, hfn, G.nsq⟩, fun A us vs hf hr rd r => ?_⟩
  exact near_run (us := .ref aa :: us) (vs := .ref aa :: vs) G1 (hr.mono (by omega)) hf hb (passAt T.tk σ) I (.cons rfl r) (sp_at rs rm st0 (.cons (.ref aa) rd) (by rw [List.length_cons]; exact hn) h)
def EqO (P : Program) (w : World) (K : Fg) (mg : Str → Option Value) (base : Heap) (k : Nat) (E : EX) (ρ : Ro) (neg : Bool) (x y : DV) (M : Mm) (Q : DV → Mm → Prop) : Prop :=
  R2D K (if neg then rNe7 w K else rEq8 w K) x y M Q ∨ ∃ Cc, NfT K M Cc y ∧ (neg = true → NeC K Cc) ∧ DunC P w K mg base k E ρ Cc "__eq__" x [y] M (fun d M' => ∃ t, d = .bl t ∧ Q (.bl (if neg then !t else t)) M')
theorem eq_run {x y : DV} {vx vy : V} {v u : Value} {neg : Bool} (F : Fx X P w K mg base sc N L C Gs Bs k) (T : Tk X E) (I : Inv X.toCx pins σ H s) (rs : RS X H ρ σ) (rm : RM X.K H M) (st0 : Stay X.K H0 H) (rx : RelV vx v) (ry : RelV vy u) (dx : RD X.K H x vx) (dy : RD X.K H y vy)
    (z : EqO P w X.K mg base k E ρ neg x y M Q) : wpAny (model X.prog X.w) X.A (compareOp (if neg then .NotEq else .Eq) v u) (EP X.toCx pins σ (LE X.K H0 Q)) X.xe s := by
  have hu := F.room.un
  rcases z with z | ⟨Cc, ⟨t, ht, hn⟩, hne, z⟩
  · have h : wpAny (model X.prog X.w) X.A (compareOp (if neg then .NotEq else .Eq) v u) (EP X.toCx pins σ (LE X.K H Q)) X.xe s := by
      cases neg with
      | true => exact op_ne7 F pins s σ H vx vy v u _ I rx ry (z vx vy H dx dy rm)
      | false => exact op_eq8 F pins s σ H vx vy v u _ I rx ry (z vx vy H dx dy rm)
    exact thn h fun r s3 ⟨v3, H3, I3, r3, q3⟩ => ⟨v3, H3, I3, r3, q3.stay st0⟩
  · obtain ⟨aa, f, e1, D, run⟩ := dunc_run F T I rs rm st0 z
    subst e1
    obtain ⟨P0, Z, p0, _⟩ := ktv_of I ry (ht vy H dy rm)
    cases dx
    cases rx
    obtain ⟨od, dx', J⟩ := D.at_
    obtain ⟨mm, hF⟩ := I.fr
    obtain ⟨_, _, _, _, _, _, _, _, _, hk, _⟩ := z
    have hb := Z.ty (model X.prog X.w) s.heap I.kIn p0
    cases neg with
    | true =>
      have N := hne rfl
      refine ne_K (by omega) hF I.ok.mod.kin J hb hn D.find D.fn N.ne N.ob (thn (run X.A.in1 [u] [vy] rfl (Room.in1 (F.room.mono (by omega))) (.cons dy .nil) (.cons ry .nil)) fun r s3 ⟨v3, H3, I3, r3, d3, M3, a1, a2, a3, t, e2, q⟩ => ?_)
      subst e2; cases a1; cases r3
      exact ⟨t, rfl, .bl (!t), H3, I3, rfl, .bl (!t), M3, .bl _, a2, a3, q⟩
    | false =>
      refine PySem.W.cmp_K (op := .Eq) (by omega) hF I.ok.mod.kin J hb hn D.find D.fn (thn (run X.A [u] [vy] rfl (F.room.mono (by omega)) (.cons dy .nil) (.cons ry .nil)) fun r s3 ⟨v3, H3, I3, r3, d3, M3, a1, a2, a3, t, e2, q⟩ => ?_)
      subst e2; cases a1; cases r3
      exact ⟨.bl t, H3, I3, rfl, .bl t, M3, .bl _, a2, a3, q⟩
theorem we_eqO {neg : Bool} (F : Fx X P w K mg base sc N L C Gs Bs k) (T : Tk X E) (h : WE X ρ M a fun x M1 => WE X ρ M1 b fun y M2 => EqO P w X.K mg base k E ρ neg x y M2 Q) : WE X ρ M (.Compare a [if neg then .NotEq else .Eq] [b] pos) Q := fun σ H rs m pins s I => by
  refine wpAny_Compare1 (thn (h σ H rs m pins s I) fun v s1 ⟨vx, H1, I1, rx, x, M1, a1, a2, a3, a4⟩ => ?_) (by cases neg <;> exact nomark _)
  refine thn (a4 σ H1 (rs.mono a3) a2 pins s1 I1) fun u s2 ⟨vy, H2, I2, ry, y, M2, b1, b2, b3, z⟩ => ?_
  exact eq_run F T I2 ((rs.mono a3).mono b3) b2 (a3.trans b3) rx ry (a1.mono b3) b1 z
theorem wt_eqO {neg : Bool} (F : Fx X P w K mg base sc N L C Gs Bs k) (T : Tk X E) (h : WE X ρ M a fun x M1 => WE X ρ M1 b fun y M2 => EqO P w X.K mg base k E ρ neg x y M2 (QB R)) : WT X ρ M (.Compare a [if neg then .NotEq else .Eq] [b] pos) R := fun σ H rs m pins s I => by
  refine wpAny_isTrue_Compare1 (thn (h σ H rs m pins s I) fun v s1 ⟨vx, H1, I1, rx, x, M1, a1, a2, a3, a4⟩ => ?_) (by cases neg <;> exact nomark _)
  refine thn (a4 σ H1 (rs.mono a3) a2 pins s1 I1) fun u s2 ⟨vy, H2, I2, ry, y, M2, b1, b2, b3, z⟩ => ?_
  refine thn (eq_run F T I2 ((rs.mono a3).mono b3) b2 (a3.trans b3) rx ry (a1.mono b3) b1 z) fun c s3 ⟨v3, H3, I3, r3, d3, M3, c1, c2, c3, t, e1, q⟩ => ?_
  subst e1; cases c1; cases r3
  exact wpAny_truthy_bool ⟨H3, I3, M3, c2, c3, q⟩
instance (priority := 3700) [F : Fx X P w K mg base sc N L C Gs Bs k] [T : Tk X E] : Step (WE X ρ M (.Compare a [.Eq] [b] pos) Q) true (WE X ρ M a fun x M1 => WE X ρ M1 b fun y M2 => EqO P w K mg base k E ρ false x y M2 Q) := ⟨fun _ q => by have e0 := F.hK; subst e0; exact we_eqO (neg := false) F T q⟩
instance (priority := 3700) [F : Fx X P w K mg base sc N L C Gs Bs k] [T : Tk X E] : Step (WT X ρ M (.Compare a [.Eq] [b] pos) R) true (WE X ρ M a fun x M1 => WE X ρ M1 b fun y M2 => EqO P w K mg base k E ρ false x y M2 (QB R)) := ⟨fun _ q => by have e0 := F.hK; subst e0; exact wt_eqO (neg := false) F T q⟩
instance (priority := 3700) [F : Fx X P w K mg base sc N L C Gs Bs k] [T : Tk X E] : Step (WT X ρ M (.Compare a [.NotEq] [b] pos) R) true (WE X ρ M a fun x M1 => WE X ρ M1 b fun y M2 => EqO P w K mg base k E ρ true x y M2 (QB R)) := ⟨fun _ q => by have e0 := F.hK; subst e0; exact wt_eqO (neg := true) F T q⟩
instance (priority := low) {x y : DV} : Step (EqO P w K mg base k E ρ false x y M Q) true (R2D K (rEq3 K) x y M Q) := ⟨fun _ q => .inl (R2D.l q)⟩
instance (priority := low) {x y : DV} : Step (EqO P w K mg base k E ρ true x y M Q) true (R2D K (rNe7 w K) x y M Q) := ⟨fun _ q => .inl q⟩
end
end G
namespace G
open PySem PySem.Spec PyProof.Rows L2
/-! ### x[::-1], x a list or a tuple -/
section
variable {X : Cy} {ρ : Ro} {M : Mm} {Q : DV → Mm → Prop} {e : Expr} {pos p1 p2 p3 : Pos} {k i : Nat}
end
end G
namespace G
open PySem PySem.Spec PyProof.Rows L2
/-! ### sorted(xs, key=lambda), where nothing is being shown around -/
section
variable {X : Cy} {A : Around} {P : Program} {w : World} {K : Fg} {mg : Str → Option Value} {base : Heap} {sc : Scope} {N L C Gs Bs Gs' : List Str} {k : Nat} {ρ ρ' : Ro} {M : Mm} {Q : DV → Mm → Prop} {e body : Expr} {params : Arguments} {scope : Scope} {x : Str} {i : Nat} {ms : List Bool} {pos p p2 kp lp : Pos}
end
end G
namespace G
open PySem PySem.Spec PyProof.Rows L2
/-! ### methods that may raise, and methods where nothing is being shown around -/
section
variable {P : Program} {w : World} {K : Fg} {mg : Str → Option Value} {base : Heap} {N L C Gs Bs : List Str} {k : Nat}
end
section
variable {X : Cy} {P : Program} {w : World} {K : Fg} {mg : Str → Option Value} {base : Heap} {sc : Scope} {N L C Gs Bs : List Str} {k j n : Nat} {ρ : Ro} {M : Mm} {Q : DV → Mm → Prop} {o e : Expr} {es : List Expr} {pos p apos : Pos} {x m : Str} {Cc : Addr} {E : EX}
end
end G
namespace G
open PySem PySem.Spec PyProof.Rows L2
/-! ### o.m(..), that may raise -/
section
variable {X : Cy} {P : Program} {w : World} {K : Fg} {mg : Str → Option Value} {base : Heap} {sc : Scope} {N L C Gs Bs : List Str} {k j n : Nat} {ρ : Ro} {M : Mm} {Q : DV → Mm → Prop} {o e : Expr} {es : List Expr} {pos p apos : Pos} {x m : Str} {Cc : Addr} {E : EX} {sp : SpX}
end
end G
namespace G
open PySem PySem.Spec PyProof.Rows L2
/-! ### {k: v} with a plain key -/
section
variable {X : Cy} {ρ : Ro} {M : Mm} {Q : DV → Mm → Prop} {kx vx : Expr} {pos : Pos} {w : World}
variable {P : Program} {K : Fg} {mg : Str → Option Value} {base : Heap} {sc : Scope} {N L C Gs Bs : List Str} {k : Nat}
end
end G
namespace G
open PySem L2
/-! ### comprehensions with two fors -/
section
variable {X : Cy} {P : Program} {w : World} {K : Fg} {mg : Str → Option Value} {base : Heap} {sc : Scope} {N L C Gs Bs L' C' Gs' : List Str} {k : Nat} {ρ : Ro} {M : Mm} {Q : DV → Mm → Prop} {elt iter iter1 : Expr} {scope : Scope} {x y : Str} {i j : Nat} {ms : List Bool} {pos px py : Pos}
end
end G
namespace G
open PySem PySem.Spec PyProof.Rows L2
/-! ### sorted of a locked list, where nothing is being shown around -/
section
variable {X : Cy} {A : Around} {P : Program} {w : World} {K : Fg} {mg : Str → Option Value} {base : Heap} {sc : Scope} {N L C Gs Bs Gs' : List Str} {k : Nat} {ρ ρ' : Ro} {M : Mm} {Q : DV → Mm → Prop} {e body : Expr} {params : Arguments} {scope : Scope} {x : Str} {i : Nat} {ms : List Bool} {pos p p2 kp lp : Pos}
end
end G
namespace G
open PySem PySem.Spec PyProof.Rows L2
/-! ### dict(l), l a list of pairs with plain keys -/
section
variable {P : Program} {w : World} {A : Around} {E : Value → Shared → Prop}
end
end G
namespace G
open PySem PySem.Spec PyProof.Rows L2
/-! ### dict(e), e a list of pairs with plain keys -/
section
variable {X : Cy} {P : Program} {w : World} {K : Fg} {mg : Str → Option Value} {base : Heap} {sc : Scope} {N L C Gs Bs : List Str} {k : Nat} {ρ : Ro} {M : Mm} {Q : DV → Mm → Prop} {e : Expr} {pos lp : Pos} {pins : List (Addr × Obj)} {σ : L2.St} {H : Hp} {s : Shared}
end
end G
namespace G
open PySem L2
/-! ### enumerate(xs), xs a locked list -/
section
variable {X : Cy} {P : Program} {w : World} {K : Fg} {mg : Str → Option Value} {base : Heap} {sc : Scope} {N L C Gs Bs : List Str} {k : Nat} {ρ : Ro} {M : Mm} {e : Expr} {pos p : Pos}
end
end G
namespace G
open PySem PySem.Spec PyProof.Rows L2
/-! ### locked lists: +, [::-1], tuple() -/
section
variable {X : Cy} {K : Fg} {ρ : Ro} {M : Mm} {Q : DV → Mm → Prop} {a b e : Expr} {pos p1 p2 p3 : Pos} {k i : Nat}
end
end G
namespace G
open PySem PySem.Spec PyProof.Rows L2
/-! ### C(..), the cells of the frame frozen while it runs -/
noncomputable def offC (cl : List (Str × Addr)) (H : Hp) : Hp := fun b => open Classical in if ∃ y, cl.lookup y = some b then none else H b
theorem offC_cell {cl : List (Str × Addr)} {H : Hp} {y : Str} {c : Addr} (e : cl.lookup y = some c) : offC cl H c = none := by
  unfold offC
  exact if_pos ⟨y, e⟩
theorem offC_else {cl : List (Str × Addr)} {H : Hp} {b : Addr} (e : ∀ y, cl.lookup y ≠ some b) : offC cl H b = H b := by
  unfold offC
  exact if_neg fun ⟨y, z⟩ => e y z
def PinA (cl : List (Str × Addr)) (H : Hp) : Prop := ∀ y c, cl.lookup y = some c → ∃ oc v, H c = some (PinO c oc) ∧ oc.data = .cell v
theorem offC_of {cl : List (Str × Addr)} {H : Hp} {b : Addr} {u : HO} (p : PinA cl H) (h : H b = some u) (hu : ∀ o, u ≠ PinO b o) : offC cl H b = some u := by
  rw [offC_else fun y z => ?_]
  · exact h
  · obtain ⟨oc, v, e, _⟩ := p y b z
    rw [h] at e
    exact hu oc (Option.some.inj e)
section
variable {X : Cx} {pins : List (Addr × Obj)} {σ : L2.St} {H H' : Hp} {s s' : Shared}
theorem own_lt (own : ∀ y c, X.env.cells.lookup y = some c → X.s_0.heap.objs.size ≤ c) {b : Addr} (hb : b < X.s_0.heap.objs.size) : ∀ y, X.env.cells.lookup y ≠ some b := fun y z => Nat.lt_irrefl _ (Nat.lt_of_lt_of_le hb (own y b z))
theorem own_frs (J : Inv X pins σ H s) (own : ∀ y c, X.env.cells.lookup y = some c → X.s_0.heap.objs.size ≤ c) {b : Addr} (hb : b ∈ frs X.stack) : ∀ y, X.env.cells.lookup y ≠ some b := fun y z => by
  rcases List.mem_cons.mp (J.stkSub b hb) with e | e
  · exact J.cne y b z e
  · obtain ⟨_, o, ho, _⟩ := J.ok.funs.mem e
    exact own_lt own (Heap.lt_size ho) y z
end
/-! what does not lean on the cells -/
section
variable {K : Fg} {cl : List (Str × Addr)} {H : Hp}
theorem sqt_off (p : PinA cl H) {a : Addr} {xs : List V} (h : SqT K H a xs) : SqT K (offC cl H) a xs := by
  rcases h with (h | ⟨o, h⟩) | h
  · exact .inl (.inl (offC_of p h fun o z => (by unfold PinO at z; cases z)))
  · exact .inl (.inr ⟨o, offC_of p h fun o z => (by unfold PinO at z; cases z)⟩)
  · exact .inr h
theorem frz_off (p : PinA cl H) {a : Addr} {xs : List V} (h : FrzL K H a xs) : FrzL K (offC cl H) a xs := by
  rcases h with ⟨o, h⟩ | h
  · exact .inl ⟨o, offC_of p h fun o z => (by unfold PinO at z; cases z)⟩
  · exact .inr h
mutual
theorem RD.off (p : PinA cl H) : ∀ {d : DV} {v : V}, RD K H d v → Cf d = true → RD K (offC cl H) d v
  | _, _, .non, _ => .non
  | _, _, .bl b, _ => .bl b
  | _, _, .int b, _ => .int b
  | _, _, .str b, _ => .str b
  | _, _, .ty b, _ => .ty b
  | _, _, .ref b, _ => .ref b
  | _, _, .tup h t, c => .tup (sqt_off p h) (RDs.offS p t (by rw [Cf] at c; exact c))
  | _, _, .tupA h t, c => .tupA (sqt_off p h) (RDs.offS p t (by rw [Cf] at c; exact c))
  | _, _, .lis h t, c => .lis (frz_off p h) (RDs.offS p t (by rw [Cf] at c; exact c))
  | _, _, .lam _, c => by rw [Cf] at c; cases c
  | _, _, .clo _ _, c => by rw [Cf] at c; cases c
  | _, _, .insF _ _, c => by rw [Cf] at c; cases c
  | _, _, .dic h t, c => .dic ⟨h.1, h.2.imp fun o e => offC_of p e fun o z => (by unfold PinO at z; cases z)⟩ (RDs.offS p t (by rw [Cf] at c; exact c))
theorem RDs.offS (p : PinA cl H) : ∀ {d : List DV} {v : List V}, RDs K H d v → Cfs d = true → RDs K (offC cl H) d v
  | _, _, .nil, _ => .nil
  | _, _, .cons h t, c => by
    rw [Cfs, Bool.and_eq_true] at c
    exact .cons (RD.off p h c.1) (RDs.offS p t c.2)
end
theorem RF.off {κ : Type} (p : PinA cl H) {fs : List (κ × DV)} {gs : List (κ × V)} (h : RF K H fs gs) (c : (fs.all fun q => Cf q.2) = true) : RF K (offC cl H) fs gs := by
  induction h with
  | nil => exact .nil
  | cons r _ ih =>
    rw [List.all_cons, Bool.and_eq_true] at c
    exact .cons (r.off p c.1) (ih c.2)
theorem RKs.off (p : PinA cl H) {fs : List (DV × DV)} {xs : List PEnt} (h : RKs K H fs xs) (c : (fs.all fun q => Cf q.1 && Cf q.2) = true) : RKs K (offC cl H) fs xs := by
  induction h with
  | nil => exact .nil
  | cons a b r1 d r2 f _ ih =>
    rw [List.all_cons, Bool.and_eq_true, Bool.and_eq_true] at c
    exact .cons a b (r1.off p c.1.1) d (r2.off p c.1.2) f (ih c.2)
/-- no closure is within -/
def stO : MO → Bool
  | .lst xs => Cfs xs
  | .ins _ fs => fs.all fun q => Cf q.2
  | .dk kvs => kvs.all fun q => Cf q.2
  | .dn _ _ kvs => kvs.all fun q => Cf q.1 && Cf q.2
  | .exc _ _ => false
  | .rng _ _ => true
  | .tab _ => true
theorem RO.off (p : PinA cl H) {a : Addr} {o : MO} (h : RO K H a o) (c : stO o = true) : RO K (offC cl H) a o := by
  cases o with
  | lst xs => obtain ⟨vs, h1, h2⟩ := h; exact ⟨vs, offC_of p h1 fun o z => (by unfold PinO at z; cases z), h2.offS p c⟩
  | ins C fs => obtain ⟨dx, gs, h1, h2⟩ := h; exact ⟨dx, gs, offC_of p h1 fun o z => (by unfold PinO at z; cases z), h2.off p c⟩
  | dk kvs => obtain ⟨vs, h1, h2⟩ := h; exact ⟨vs, offC_of p h1 fun o z => (by unfold PinO at z; cases z), h2.off p c⟩
  | dn w o kvs => obtain ⟨xs, h1, h2⟩ := h; exact ⟨xs, offC_of p h1 fun o z => (by unfold PinO DnO at z; cases z), h2.off p c⟩
  | exc C fs => cases c
  | rng lo hi => exact offC_of p h fun o z => (by unfold PinO at z; cases z)
  | tab q =>
    obtain ⟨ps, h1, h2, h3⟩ := h
    refine ⟨ps, offC_of p h1 fun o z => (by unfold PinO at z; cases z), h2, fun pos cv hc => ?_⟩
    obtain ⟨c, e1, e2⟩ := h3 pos cv hc
    exact ⟨c, e1, offC_of p e2 fun o z => (by unfold PinO LamX.CodeO at z; cases z)⟩
/-- lambdas are forgotten -/
inductive UnF : List (Str × DV) → List (Str × DV) → Prop
  | nil : UnF [] []
  | same {x : Str} {d : DV} {fs fs' : List (Str × DV)} : UnF fs fs' → UnF ((x, d) :: fs) ((x, d) :: fs')
  | clo {x : Str} {L : Lamb} {ds : List DV} {f : Addr} {fs fs' : List (Str × DV)} : UnF fs fs' → UnF ((x, .clo L ds) :: fs) ((x, .ref f) :: fs')
inductive UnM : Mm → Mm → Prop
  | nil : UnM [] []
  | same {x : Addr × MO} {M M' : Mm} : UnM M M' → UnM (x :: M) (x :: M')
  | ins {a C : Addr} {fs fs' : List (Str × DV)} {M M' : Mm} : UnF fs fs' → UnM M M' → UnM ((a, .ins C fs) :: M) ((a, .ins C fs') :: M')
def okD : DV → Bool
  | .clo _ _ => true
  | d => Cf d
def okO : MO → Bool
  | .ins _ fs => fs.all fun q => okD q.2
  | o => stO o
theorem RF.un (p : PinA cl H) {fs : List (Str × DV)} {gs : List (Str × V)} (h : RF K H fs gs) (c : (fs.all fun q => okD q.2) = true) : ∃ fs', UnF fs fs' ∧ RF K (offC cl H) fs' gs := by
  induction h with
  | nil => exact ⟨[], .nil, .nil⟩
  | @cons x d v fs gs r _ ih =>
    rw [List.all_cons, Bool.and_eq_true] at c
    obtain ⟨fs', h1, h2⟩ := ih c.2
    by_cases hd : Cf d = true
    · exact ⟨_, .same h1, .cons (r.off p hd) h2⟩
    · have c1 : okD d = true := c.1
      cases d with
      | clo L ds =>
        cases r with
        | clo _ _ => exact ⟨_, .clo h1, .cons (.ref _) h2⟩
      | _ => exact absurd c1 hd
theorem RO.un (p : PinA cl H) {a : Addr} {o : MO} (h : RO K H a o) (c : okO o = true) : ∃ o', (o' = o ∨ ∃ C fs fs', o = .ins C fs ∧ o' = .ins C fs' ∧ UnF fs fs') ∧ RO K (offC cl H) a o' := by
  cases o with
  | ins C fs =>
    obtain ⟨dx, gs, h1, h2⟩ := h
    obtain ⟨fs', e1, e2⟩ := h2.un p c
    exact ⟨.ins C fs', .inr ⟨C, fs, fs', rfl, rfl, e1⟩, dx, gs, offC_of p h1 fun o z => (by unfold PinO at z; cases z), e2⟩
  | lst xs => exact ⟨_, .inl rfl, h.off p c⟩
  | dk xs => exact ⟨_, .inl rfl, h.off p c⟩
  | dn w o xs => exact ⟨_, .inl rfl, h.off p c⟩
  | exc C xs => exact ⟨_, .inl rfl, h.off p c⟩
  | rng lo hi => exact ⟨_, .inl rfl, h.off p c⟩
  | tab q => exact ⟨_, .inl rfl, h.off p c⟩
theorem RM.un (p : PinA cl H) {M : Mm} (h : RM K H M) (c : (M.all fun x => okO x.2) = true) : ∃ M', UnM M M' ∧ RM K (offC cl H) M' := by
  obtain ⟨nd, ok⟩ := h
  have : ∃ M', UnM M M' ∧ M'.map (·.1) = M.map (·.1) ∧ ∀ a o, (a, o) ∈ M' → RO K (offC cl H) a o := by
    clear nd
    induction M with
    | nil => exact ⟨[], .nil, rfl, fun a o h => nomatch h⟩
    | cons x M ih =>
      rw [List.all_cons, Bool.and_eq_true] at c
      obtain ⟨M', h1, h2, h3⟩ := ih c.2 fun a o h => ok a o (List.mem_cons_of_mem _ h)
      obtain ⟨a, o⟩ := x
      obtain ⟨o', e1, e2⟩ := (ok a o List.mem_cons_self).un p c.1
      refine ⟨(a, o') :: M', ?_, by rw [List.map_cons, List.map_cons, h2], fun b u hb => ?_⟩
      · rcases e1 with rfl | ⟨C, fs, fs', rfl, rfl, e1⟩
        · exact .same h1
        · exact .ins e1 h1
      · rcases List.mem_cons.mp hb with z | z
        · cases z; exact e2
        · exact h3 b u z
  obtain ⟨M', h1, h2, h3⟩ := this
  exact ⟨M', h1, by rw [h2]; exact nd, h3⟩
theorem UnM.st {M M' : Mm} (h : UnM M M') (c : (M.all fun x => stO x.2) = true) : M' = M := by
  induction h with
  | nil => rfl
  | same _ ih =>
    rw [List.all_cons, Bool.and_eq_true] at c
    rw [ih c.2]
  | @ins a C fs fs' M M' hf _ ih =>
    rw [List.all_cons, Bool.and_eq_true] at c
    have c1 : (fs.all fun q => Cf q.2) = true := c.1
    rw [ih c.2]
    have : fs' = fs := by
      clear c ih
      induction hf with
      | nil => rfl
      | same _ ih =>
        rw [List.all_cons, Bool.and_eq_true] at c1
        rw [ih c1.2]
      | clo _ _ =>
        rw [List.all_cons, Bool.and_eq_true] at c1
        cases c1.1
    rw [this]
end
section
variable {X : Cy} {P : Program} {w : World} {K : Fg} {mg : Str → Option Value} {base : Heap} {sc : Scope} {N L C Gs Bs : List Str} {k j n : Nat} {ρ : Ro} {M : Mm} {Q : DV → Mm → Prop} {e : Expr} {es : List Expr} {pos p : Pos} {x : Str} {sp : SpD} {Cc : Addr} {dd : List DV}
end
end G
namespace G
open PySem PySem.Spec PyProof.Rows L2
/-! ### dict comprehensions whose keys are plain values -/
section
variable {X : Cx}
end
section
variable {X : Cy} {P : Program} {w : World} {K : Fg} {mg : Str → Option Value} {base : Heap} {sc : Scope} {N L C Gs Bs L' C' Gs' : List Str} {k : Nat} {ρ ρ' : Ro} {M : Mm} {Q : DV → Mm → Prop} {kx vx iter : Expr} {scope : Scope} {x y : Str} {i j kt : Nat} {ms : List Bool} {pos px py pt p : Pos} {own : List (Str × Nat)}
end
end G
namespace G
open PySem PySem.Spec PyProof.Rows L2
/-! ### defs with defaults where nothing is being shown around -/
section
variable {P : Program} {w : World} {K : Fg} {mg : Str → Option Value} {base : Heap} {N L C Gs Bs : List Str} {k n : Nat}
end
section
variable {X : Cy} {P : Program} {w : World} {K : Fg} {mg : Str → Option Value} {base : Heap} {sc : Scope} {N L C Gs Bs : List Str} {k j n : Nat} {ρ : Ro} {M : Mm} {Q : DV → Mm → Prop} {R : Bool → Mm → Prop} {E : EX} {pos p apos : Pos} {x : Str} {a b e e2 o : Expr} {es : List Expr} {dd : List DV}
/-! ### x in a list of data -/
/-! ### l.insert(i, x) -/
end
end G
namespace G
open PySem PySem.Spec PyProof.Rows L2
section
variable {X : Cy} {P : Program} {w : World} {K : Fg} {mg : Str → Option Value} {base : Heap} {sc : Scope} {N L C Gs Bs L' C' Gs' : List Str} {k : Nat} {ρ ρ' : Ro} {M : Mm} {Q : DV → Mm → Prop} {elt iter e e2 e3 : Expr} {scope : Scope} {x y z : Str} {i j kt : Nat} {ms : List Bool} {pos px py pz pt p : Pos}
end
section
variable {X : Cy} {P : Program} {w : World} {K : Fg} {mg : Str → Option Value} {base : Heap} {sc : Scope} {N L C Gs Bs : List Str} {k j n : Nat} {ρ : Ro} {M : Mm} {Q : DV → Mm → Prop} {e : Expr} {es : List Expr} {pos p apos : Pos} {x m : Str} {Cc : Addr} {E : EX}
variable {g : Expr} {gpos : Pos}
end
end G
namespace G
open PySem PySem.Spec PyProof.Rows L2
/-! ### loops over a tuple, a locked list or a list -/
section
variable {X : Cy} {P : Program} {w : World} {K : Fg} {mg : Str → Option Value} {base : Heap} {sc : Scope} {N L C Gs Bs L' C' Gs' : List Str} {k : Nat} {ρ : Ro} {M : Mm} {Q : DV → Mm → Prop} {tg e elt : Expr} {scope : Scope} {x : Str} {i : Nat} {ms : List Bool} {pos px : Pos}
end
end G
namespace G
open PySem PySem.Spec PyProof.Rows L2
/-! ### l.extend(t), t a tuple -/
section
variable {X : Cx}
end
section
variable {X : Cy} {P : Program} {w : World} {K : Fg} {mg : Str → Option Value} {base : Heap} {sc : Scope} {N L C Gs Bs : List Str} {k : Nat} {ρ : Ro} {M : Mm} {Q : DV → Mm → Prop} {o e : Expr} {pos apos : Pos}
end
end G
namespace G
open PySem PySem.Spec PyProof.Rows L2
/-! ### [elt for x, y, z in iter (if c)] -/
section
variable {X : Cy} {P : Program} {w : World} {K : Fg} {mg : Str → Option Value} {base : Heap} {sc : Scope} {N L C Gs Bs L' C' Gs' : List Str} {k : Nat} {ρ ρ' : Ro} {M : Mm} {Q : DV → Mm → Prop} {elt iter e e2 e3 : Expr} {scope : Scope} {x y z : Str} {i j l kt : Nat} {ms : List Bool} {pos px py pz pt p : Pos}
end
end G
namespace G
open PySem PySem.Spec PyProof.Rows L2
/-! ### raise C(), C an exception class without an own __init__ -/
class Ex0 (K : Fg) (mg : Str → Option Value) (x : Str) (C : outParam Addr) : Prop where
  ex : ExN K mg x C
  exC : PySem.W.subIn K (.ref C) (.type "BaseException") = some true
  tyC : PySem.W.typeIn K (.ref C) = some (.type "type")
section
variable {X : Cy} {P : Program} {w : World} {K : Fg} {mg : Str → Option Value} {base : Heap} {sc : Scope} {N L C Gs Bs : List Str} {k : Nat} {ρ : Ro} {M : Mm} {pos p pos2 : Pos} {x : Str} {E : EX} {Cc : Addr} {nx bk ct : Ro → Mm → Prop} {rt : DV → Mm → Prop}
end
end G
namespace G
open PySem PySem.Spec PyProof.Rows L2
/-! ### isinstance(x, T), x a locked list -/
def rIsFL (K : Fg) : List V → Hp → VK → Prop := fun xs H Q => ∃ (a : Addr) (c : V) (u : Value) (b : Bool) (ys : List V), xs = [.ref a, c] ∧ ClsV c u ∧ FrzL K H a ys ∧ PySem.W.kitOne K (.type "list") u = some b ∧ Q (.bl b) H
theorem call_isFL {X : Cx} : CallR X (.builtin "isinstance") (rIsFL X.K) := by
  intro pins s σ H xs us Q I r h
  obtain ⟨a, c, u, b, ys, rfl, k, fz, e, q⟩ := h
  rcases fz with ⟨o, ea⟩ | ⟨o, its, n, ea, ec, _, _, _, _⟩
  · obtain ⟨u1, u2, rfl, r1, r2⟩ := vals2 r
    have e2 := k.eq r2
    subst e2
    cases (show u1 = Value.ref a from r1)
    obtain ⟨x1, _, its, n, _, x3⟩ : s.heap.get? a = some o ∧ ys.length ≤ sizeLine ∧ ∃ (its : List Value) (n : Nat), Vals ys its ∧ s.heap.get? a = some { cls := .type "list", data := .seq its.toArray n } := I.hok a _ ea
    exact PySem.W.kia_one PySem.W.kitx_list I.kIn ⟨_, x3, rfl⟩ e (fun z => nomatch z) fun tk => ⟨.bl b, H, I.tok tk, rfl, q⟩
  · exact call_isi pins s σ H _ us Q I r ⟨.ref a, c, .type "list", u, b, rfl, k, .kList ea ec, e, q⟩
def rIs11 (K : Fg) : List V → Hp → VK → Prop := fun vs H Q => rIs10 K vs H Q ∨ rIsFL K vs H Q
theorem mon_is11 {K : Fg} : MonC (rIs11 K) := fun xs H Q Q' z q => z.elim (fun z => .inl (mon_is10 _ _ _ _ z q)) fun ⟨a, b, c, d, f, g, h, i, j, k⟩ => .inr ⟨a, b, c, d, f, g, h, i, j, q _ _ k⟩
section
variable {X : Cy} {P : Program} {w : World} {K : Fg} {mg : Str → Option Value} {base : Heap} {sc : Scope} {N L C Gs Bs : List Str} {k : Nat} {ρ : Ro} {M : Mm} {Q : DV → Mm → Prop} {pos p : Pos} {e e2 : Expr} {ds : List DV}
instance (priority := 3600) [F : Fx X P w K mg base sc N L C Gs Bs k] [m : MemC "isinstance" Gs] [m2 : MemC "isinstance" Bs] : Step (WE X ρ M (.Call (.Name (Str.ofString "isinstance") p) [e, e2] [] pos) Q) (noStars [e, e2]) (WA X ρ M [e, e2] fun ds M1 => CD X.K (rIs11 X.K) ds M1 Q) := ⟨fun h z => by
  exact we_blt F (fun pins s σ H xs us Q I r z => z.elim (fun z => z.elim (fun z => z.elim (fun z => call_isX pins s σ H xs us Q I r z) fun z => call_isi pins s σ H xs us Q I r z) fun z => call_isK pins s σ H xs us Q I r z) fun z => call_isFL pins s σ H xs us Q I r z) mon_is11 (by decide +kernel) m.h m2.h h z⟩
instance (priority := low) {ds : List DV} : Step (CD K (rIs11 K) ds M Q) true (CD K (rIs10 K) ds M Q) := ⟨fun _ z vs H r m => .inl (z vs H r m)⟩
end
end G
namespace G
open PySem PySem.Spec PyProof.Rows L2
/-! ### for i in range(a, b, c) -/
section
variable {X : Cy} {P : Program} {w : World} {K : Fg} {mg : Str → Option Value} {base : Heap} {sc : Scope} {N L C Gs Bs : List Str} {k : Nat} {ρ : Ro} {M : Mm} {Q : DV → Mm → Prop} {pos p : Pos} {e e2 e3 tg : Expr}
end
end G
namespace G
open PySem PySem.Spec PyProof.Rows L2
/-! ### C.m(e, .., k = e1), m a classmethod; c(e, .., k = e1), c a local name of a class; (*t, ..); module constants that are data -/
section
variable {P : Program} {w : World} {K : Fg} {mg : Str → Option Value} {base : Heap} {N L C Gs Bs : List Str} {k : Nat}
end
section
variable {X : Cy} {P : Program} {w : World} {K : Fg} {mg : Str → Option Value} {base : Heap} {sc : Scope} {N L C Gs Bs : List Str} {k j n i : Nat} {ρ : Ro} {M : Mm} {Q : DV → Mm → Prop} {e e1 : Expr} {es : List Expr} {pos p p1 apos sp_ : Pos} {x m k1 : Str} {sp : SpD} {Cc : Addr} {d : DV}
/-! (*t, ..) -/
end
end G
namespace G
open PySem PySem.Spec PyProof.Rows L2
/-! ### tuple(range(a, b)) -/
section
variable {X : Cy} {P : Program} {w : World} {K : Fg} {mg : Str → Option Value} {base : Heap} {sc : Scope} {N L C Gs Bs : List Str} {k : Nat} {ρ : Ro} {M : Mm} {Q : DV → Mm → Prop} {a b : Expr} {p p2 pos pos2 : Pos}
end
section
variable {X : Cy} {P : Program} {w : World} {K : Fg} {mg : Str → Option Value} {base : Heap} {sc : Scope} {N L C Gs Bs : List Str} {k : Nat} {ρ : Ro} {M : Mm} {nx bk ct : Ro → Mm → Prop} {rt : DV → Mm → Prop} {e o : Expr} {f : Str} {pos apos : Pos}
end
end G
namespace G
open PySem PySem.Spec PyProof.Rows L2
/-! ### several except clauses, some with a name -/
abbrev MixL := List (Value × Option Nat × (Addr → Value → Option Addr → TS))
/-- what the clauses wish of an exception of the body, one after the other -/
def wMix (K : PySem.W.Frag) (Wout : WX) (D : Ends) : MixL → WX
  | [] => Wout
  | (c, none, ts) :: r => fun cls d σ H => ∃ b, PySem.W.exmOne K cls c = some b ∧ (b = true → ∀ a, H a = none → ts a cls d D σ H) ∧ (b = false → wMix K Wout D r cls d σ H)
  | (c, some i, ts) :: r => fun cls d σ H => ∃ b, PySem.W.exmOne K cls c = some b ∧ (b = true → ∀ a, H a = none → ts a cls d { nx := fun σ' H' => D.nx (σ'.set i none) H', rt := D.rt, bk := fun σ' H' => D.bk (σ'.set i none) H', ct := fun σ' H' => D.ct (σ'.set i none) H' } (σ.set i (some (.ref a))) H) ∧ (b = false → wMix K Wout D r cls d σ H)
inductive HdMix (X : Cx) : List ExceptHandler → MixL → Prop
  | nil : HdMix X [] []
  | only {x : Str} {c : Value} {ts : Addr → Value → Option Addr → TS} {b₀ : Stmt} {suite : List Stmt} {np pos' : Pos} {hds : List ExceptHandler} {l : MixL} (hc : Names X x c)
      (hsu : ∀ (a : Addr) (oe : Obj) (cls : Value) (d : Option Addr) (pn : List (Addr × Obj)), Zc cls d oe → (∃ vs, oe.data = .fields vs) → PSs (X.suite a ((a, oe) :: pn)) (b₀ :: suite) (ts a cls d)) (r : HdMix X hds l) :
      HdMix X (.ExceptHandler (some (.Name x np)) none (b₀ :: suite) pos' :: hds) ((c, none, ts) :: l)
  | named {x n : Str} {c : Value} {i : Nat} {ts : Addr → Value → Option Addr → TS} {b₀ : Stmt} {suite : List Stmt} {np pos' : Pos} {hds : List ExceptHandler} {l : MixL} (hi : X.N[i]? = some n) (hln : X.env.kindOf n = some .local) (hc : Names X x c)
      (hsu : ∀ (a : Addr) (oe : Obj) (cls : Value) (d : Option Addr) (pn : List (Addr × Obj)), Zc cls d oe → (∃ vs, oe.data = .fields vs) → PSs (X.suite a ((a, oe) :: pn)) (b₀ :: suite) (ts a cls d)) (r : HdMix X hds l) :
      HdMix X (.ExceptHandler (some (.Name x np)) (some n) (b₀ :: suite) pos' :: hds) ((c, some i, ts) :: l)
section
variable {X : Cx} {body : List Stmt} {h₀ : ExceptHandler} {hds : List ExceptHandler} {l : MixL} {pos : Pos} {tb : WX → TS} {Wout : WX}
theorem ps_try_mix (hs : X.stack = X.env :: X.outer) (hf : X.env.frame = some X.env.locals) (hN : X.N.Nodup) (tk : Takes X Wout)
    (hb : ∀ (W : WX) (pn : List (Addr × Obj)) (xe : Value → Shared → Prop), Takes (X.tr pn xe) W → PassesOwn (model X.prog X.w) X.A X.env xe → PSs (X.tr pn xe) body (tb W))
    (hh : HdMix X (h₀ :: hds) l) : PS X (.Try body (h₀ :: hds) [] [] pos) (fun D σ H => tb (wMix X.K Wout D l) D σ H) := by
  refine ⟨fun pins s σ H D I h => ?_⟩
  have ok := I.ok
  have hfr : X.A.frames = some (X.env :: X.outer) := by rw [ok.frames, hs]
  refine wpAny_Try_except ?_
  refine wpAny_mono ((hb (wMix X.K Wout D l) (X.pn ++ pins) (fun e s₁ => wpAny (model X.prog X.w) X.A (noteFrame e X.env) (fun _ s₂ => wpAny (model X.prog X.w) X.A (setFlight e none) (fun _ s₃ => wpAny (model X.prog X.w) X.A (handleBy e X.env (h₀ :: hds)) (SP X pins D) X.xe s₃) X.xe s₂) X.xe s₁) (fun u s' xx => ?_) PassesOwn.looking).run [] s σ H D (I.toTry _) h) (fun f s1 hsp => ?_) (fun e s1 he => he)
  · obtain ⟨a, B, sI, pins', σ', H', cls, d, rfl, J', nb, up, sky, na, os, ag, w⟩ := xx
    have J : Inv X pins σ' H' sI := J'.ofTry ok
    have sky' : Sky B (X.env :: X.outer) a (Zc cls d) X.env.locals s'.heap := by rw [← hs]; exact sky
    show wpAny (model X.prog X.w) X.A (noteFrame (.ref a) X.env) _ _ _
    refine Sky.land Zc.steady hfr hf sky' fun h3 fl3 up3 => ?_
    have J3 : Inv X pins σ' H' { s' with heap := h3 } := J.landed nb fl3.1 (up.trans up3) os ag
    obtain ⟨oe3, vs3, he3, hz3, hd3⟩ := fl3.there
    have notFr : ∀ {h : Heap} {o : Obj} {vs : Array Value}, h.FunFrames B (X.env :: X.outer) → h.get? a = some o → o.data = .fields vs → a ∉ frs (X.env :: X.outer) := fun {h o vs} ff e dd hm => by
      obtain ⟨_, o', e', hnf⟩ := ff.mem hm
      rw [e] at e'; cases e'; exact hnf _ dd
    have nfr := notFr fl3.2.2.1 he3 hd3
    have nL : a ≠ X.env.locals := fun z => nfr (List.mem_filterMap.mpr ⟨X.env, List.mem_cons_self, by rw [hf, z]⟩)
    have nF : a ∉ X.fs := fun hm => by
      obtain ⟨e, he, q⟩ := List.mem_filterMap.mp hm
      exact nfr (List.mem_filterMap.mpr ⟨e, List.mem_cons_of_mem _ he, q⟩)
    have S3 := J3.suite he3 hd3 na nL nF
    have LTs : ∀ {b : Bool} {c : Value}, PySem.W.exmOne X.K cls c = some b → _ := fun {b c} hb1 => PySem.W.exm_one (M := model X.prog X.w) (J3.kIn) (fun A Q E s k q => wpAny_typeOf_ref (k _ _ he3) (by rw [hz3.1]; exact q)) hb1
    have test : ∀ {x : Str} {c : Value} {Q : Value → Shared → Prop} {E : Value → Shared → Prop}, Names X x c → ∀ {np : Pos}, Q c { s' with heap := h3 } → wpAny (model X.prog X.w) (X.A.mark (some (.ref a))) (eval (.Name x np) X.env) Q E { s' with heap := h3 } := fun {x c Q E} hc {np} q => by
      obtain ⟨hg, hdbg, hm | ⟨hm, hv, hnn⟩⟩ := hc
      · exact ld_glob (X := X.suite a ((a, oe3) :: (X.pn ++ pins))) S3 hg hm q hdbg
      · exact ld_blt (X := X.suite a ((a, oe3) :: (X.pn ++ pins))) S3 hg hm hv q hnn hdbg
    have go : ∀ {hds' : List ExceptHandler} {l' : MixL}, HdMix X hds' l' → wMix X.K Wout D l' cls d σ' H' → wpAny (model X.prog X.w) X.A (handleBy (.ref a) X.env hds') (SP X pins D) X.xe { s' with heap := h3 } := by
      intro hds' l' hk
      induction hk with
      | nil =>
        intro w
        refine wpAny_handleBy_nil ?_
        obtain ⟨k1, k2, k3, oe, vs, T, oT, ts', he, hz, hd, h1, hr⟩ := id fl3
        unfold PySem.passOn
        refine wpAny_bind (wpAny_field he hd h1 ?_)
        rw [if_neg (show ¬ ((Value.ref T == Value.none) = true) from by simp)]
        have fin : wpAny (model X.prog X.w) X.A (setFlight (.ref a) X.env.frame) (fun _ s4 => wpAny (model X.prog X.w) X.A (throw (.ref a) : Sem Flow) (SP X pins D) X.xe s4) X.xe { s' with heap := h3 } := by
          rw [hf]
          refine HandSPX.setFlight_upZ fl3 fun h4 hh4 up4 => wpAny_throw (tk _ _ ?_)
          exact ⟨a, B, sI, pins, σ', H', cls, d, rfl, J, nb, (up.trans up3).trans up4, .inr (.inr (by rw [hs]; exact hh4)), na, os, ag, w⟩
        first | exact wpAny_bind (wpAny_pure (wpAny_bind fin)) | exact wpAny_bind fin
      | @only x c ts b₀ suite np pos' hds2 l2 hc hsu r ih =>
        intro w
        obtain ⟨b, hb1, hyes, hno⟩ := w
        refine wpAny_handleBy_cons (codeAny_handlers_test ?_) (by intro q; cases q)
        have LM := LTs hb1
        refine test hc (LM.here ?_)
        cases b with
        | true =>
          refine codeAny_handlers_suite (HandSPX.lands_againZ fl3 fun h4 fl4 up4 => ?_)
          have J4 : Inv X pins σ' H' { s' with heap := h4 } := J.landed nb fl4.1 ((up.trans up3).trans up4) os ag
          obtain ⟨oe4, vs4, he4, hz4, hd4⟩ := fl4.there
          have S4 := J4.suite he4 hd4 na nL nF
          refine wpAny_mono ((hsu a oe4 cls d (X.pn ++ pins) hz4 ⟨_, hd4⟩).run [] _ _ H' _ S4 (hyes rfl a na)) (fun f s6 hsp => ?_) (fun _ _ z => False.elim z)
          cases f with
          | next => obtain ⟨σ6, H6, S6, q6⟩ := hsp; exact ⟨_, _, S6.unsuite ok, q6⟩
          | brk => obtain ⟨σ6, H6, S6, q6⟩ := hsp; exact ⟨_, _, S6.unsuite ok, q6⟩
          | cont => obtain ⟨σ6, H6, S6, q6⟩ := hsp; exact ⟨_, _, S6.unsuite ok, q6⟩
          | ret u => obtain ⟨v6, σ6, H6, S6, r6, q6⟩ := hsp; exact ⟨_, _, _, S6.unsuite ok, r6, q6⟩
        | false =>
          show wpAny _ X.A (handleBy (.ref a) X.env hds2) _ _ _
          exact ih (hno rfl)
      | @named x n c i ts b₀ suite np pos' hds2 l2 hi hln hc hsu r ih =>
        intro w
        obtain ⟨b, hb1, hyes, hno⟩ := w
        have hloc : Loc X.env.scope n := .inl hln
        refine wpAny_handleBy_cons (codeAny_handlers_test ?_) (by intro q; cases q)
        have LM := LTs hb1
        refine test hc (LM.here ?_)
        cases b with
        | true =>
          refine codeAny_handlers_suite_as (HandSPX.lands_againZ fl3 fun h4 fl4 up4 => ?_)
          have J4 : Inv X pins σ' H' { s' with heap := h4 } := J.landed nb fl4.1 ((up.trans up3).trans up4) os ag
          obtain ⟨oe4, vs4, he4, hz4, hd4⟩ := fl4.there
          have S4 := J4.suite he4 hd4 na nL nF
          refine store_ok (X := X.suite a ((a, oe4) :: (X.pn ++ pins))) (v := .ref a) S4 hN hi hloc rfl (fun s5 S5 => ?_) (.inr hln)
          refine wpAny_mono ((hsu a oe4 cls d (X.pn ++ pins) hz4 ⟨_, hd4⟩).run [] s5 _ H' _ S5 (hyes rfl a na)) (fun f s6 hsp => ?_) (fun _ _ z => False.elim z)
          have end_ : ∀ {σ6 : L2.St} {H6 : Hp} {Q : Shared → Prop}, Inv (X.suite a ((a, oe4) :: (X.pn ++ pins))) [] σ6 H6 s6 → (∀ s7, Inv X pins (σ6.set i none) H6 s7 → Q s7) → wpAny (model X.prog X.w) X.A (do bindName X.env n .none; unbindBehindTheSuite X.env n pos') (fun _ s7 => Q s7) X.xe s6 := fun {σ6 H6 Q} S6 hq => gone_ok (S6.unsuite ok) hN hi hln hq
          cases f with
          | next => obtain ⟨σ6, H6, S6, q6⟩ := hsp; exact end_ S6 fun s7 J7 => ⟨_, _, J7, q6⟩
          | brk => obtain ⟨σ6, H6, S6, q6⟩ := hsp; exact end_ S6 fun s7 J7 => ⟨_, _, J7, q6⟩
          | cont => obtain ⟨σ6, H6, S6, q6⟩ := hsp; exact end_ S6 fun s7 J7 => ⟨_, _, J7, q6⟩
          | ret u => obtain ⟨v6, σ6, H6, S6, r6, q6⟩ := hsp; exact end_ S6 fun s7 J7 => ⟨_, _, _, J7, r6, q6⟩
        | false =>
          show wpAny _ X.A (handleBy (.ref a) X.env hds2) _ _ _
          exact ih (hno rfl)
    exact go hh w
  · cases f with
    | next => obtain ⟨σ', H', J', q⟩ := hsp; exact wpAny_execs_nil ⟨σ', H', J'.ofTry ok, q⟩
    | brk => obtain ⟨σ', H', J', q⟩ := hsp; exact ⟨σ', H', J'.ofTry ok, q⟩
    | cont => obtain ⟨σ', H', J', q⟩ := hsp; exact ⟨σ', H', J'.ofTry ok, q⟩
    | ret u => obtain ⟨v, σ', H', J', r, q⟩ := hsp; exact ⟨v, σ', H', J'.ofTry ok, r, q⟩
end
/-! the same by values -/
abbrev Hdl := List (Addr × Option Nat × List Stmt)
/-- what is asked of an exception of the body by the clauses -/
def tryMix (K : Fg) (mg : Str → Option Value) (sc : Scope) (N L Gs Bs : List Str) (gz : Option (List Code)) (nx : Ro → Mm → Prop) (rt : DV → Mm → Prop) (bk ct : Ro → Mm → Prop) (E : EX) : Hdl → EX
  | [] => E
  | (Cx, none, su) :: r => fun C fs ρ' M' => (PySem.W.exmOne K (.ref C) (.ref Cx) = some true ∧ ∀ Y, Fs Y K mg sc N L Gs Bs → Y.A.guards = gz → WSs Y ρ' M' su nx rt bk ct) ∨ (PySem.W.exmOne K (.ref C) (.ref Cx) = some false ∧ tryMix K mg sc N L Gs Bs gz nx rt bk ct E r C fs ρ' M')
  | (Cx, some i, su) :: r => fun C fs ρ' M' => (PySem.W.exmOne K (.ref C) (.ref Cx) = some true ∧ ∀ Y a, Fs Y K mg sc N L Gs Bs → Y.A.guards = gz → Exv Y a C fs → WSs Y (ρ'.set i (some (.ref a))) M' su (fun ρ2 M2 => nx (ρ2.set i none) M2) rt (fun ρ2 M2 => bk (ρ2.set i none) M2) (fun ρ2 M2 => ct (ρ2.set i none) M2)) ∨ (PySem.W.exmOne K (.ref C) (.ref Cx) = some false ∧ tryMix K mg sc N L Gs Bs gz nx rt bk ct E r C fs ρ' M')
/-- the clauses of a text, told -/
inductive HdTo (mg : Str → Option Value) (N L Gs : List Str) : List ExceptHandler → Hdl → Prop
  | nil : HdTo mg N L Gs [] []
  | only {x : Str} {Cx : Addr} {b₀ : Stmt} {suite : List Stmt} {np pos' : Pos} {hds : List ExceptHandler} {l : Hdl} (hx : x ∈ Gs) (hm : mg x = some (.ref Cx)) (r : HdTo mg N L Gs hds l) : HdTo mg N L Gs (.ExceptHandler (some (.Name x np)) none (b₀ :: suite) pos' :: hds) ((Cx, none, b₀ :: suite) :: l)
  | named {x n : Str} {Cx : Addr} {i : Nat} {b₀ : Stmt} {suite : List Stmt} {np pos' : Pos} {hds : List ExceptHandler} {l : Hdl} (hx : x ∈ Gs) (hm : mg x = some (.ref Cx)) (hn : n ∈ L) (hi : N[i]? = some n) (r : HdTo mg N L Gs hds l) : HdTo mg N L Gs (.ExceptHandler (some (.Name x np)) (some n) (b₀ :: suite) pos' :: hds) ((Cx, some i, b₀ :: suite) :: l)
section
variable {X : Cy} {P : Program} {w : World} {K : Fg} {mg : Str → Option Value} {base : Heap} {sc : Scope} {N L C Gs Bs : List Str} {k : Nat} {ρ : Ro} {M : Mm} {pos : Pos} {E : EX} {nx bk ct : Ro → Mm → Prop} {rt : DV → Mm → Prop}
/-- the clauses' wishes, as the library sees them -/
def mixOf (X : Cy) : Hdl → MixL
  | [] => []
  | (Cx, o, su) :: r => (.ref Cx, o, fun a cls d D σ H => ∀ oe pn, Zc cls d oe → (∃ vs, oe.data = .fields vs) → wSs (X.toCx.suite a ((a, oe) :: pn)) su D σ H) :: mixOf X r
theorem hdMix_of (F : Fx X P w K mg base sc N L C Gs Bs k) {hds : List ExceptHandler} {l : Hdl} (h : HdTo mg N L Gs hds l) : HdMix X.toCx hds (mixOf X l) := by
  induction h with
  | nil => exact .nil
  | only hx hm r ih =>
    obtain ⟨g1, g2, g3⟩ := F.gl _ hx
    exact .only ⟨g1, g2, .inl (by rw [F.hmg]; exact hm)⟩ (fun a oe cls d pn hz hf => ⟨fun pins s σ H D I h => h oe pn hz hf pins s I⟩) ih
  | named hx hm hn hi r ih =>
    obtain ⟨g1, g2, g3⟩ := F.gl _ hx
    exact .named (by rw [F.hN]; exact hi) (F.loc _ hn) ⟨g1, g2, .inl (by rw [F.hmg]; exact hm)⟩ (fun a oe cls d pn hz hf => ⟨fun pins s σ H D I h => h oe pn hz hf pins s I⟩) ih
theorem wMix_of (F : Fx X P w K mg base sc N L C Gs Bs k) {hds : List ExceptHandler} {l : Hdl} (h : HdTo mg N L Gs hds l) {H H' : Hp} {Cc : Addr} {d : Option Addr} {σ' : L2.St} {ρ' : Ro} {M' : Mm} {fs : List (Str × DV)} (e3 : XD X.K H' d fs) (sx : Stay X.K H H') (rx : RS X H' ρ' σ') (e6 : RM X.K H' M')
    (e7 : tryMix K mg sc N L Gs Bs X.A.guards nx rt bk ct E l Cc fs ρ' M') : wMix X.K (LX X E) (LD X H ⟨nx, rt, bk, ct⟩) (mixOf X l) (.ref Cc) d σ' H' := by
  induction h with
  | nil => exact ⟨Cc, fs, ρ', M', rfl, e3, rx, e6, e7⟩
  | only hx hm r ih =>
    rcases e7 with ⟨hex, hsu⟩ | ⟨hex, hout⟩
    · refine ⟨true, by rw [F.hK]; exact hex, fun _ a ha oe pn2 hz hfd => ?_, fun z => Bool.noConfusion z⟩
      have Fy : Fs ⟨X.toCx.suite a ((a, oe) :: pn2), H'⟩ K mg sc N L Gs Bs := Fs.of_suite F
      refine (hsu _ Fy rfl _ H' (rx.re (X := ⟨X.toCx.suite a ((a, oe) :: pn2), H'⟩) Stay.refl rfl rfl rfl) e6).mono (fun σ2 H2 ⟨ρ2, M2, a1, a2, a3, a4⟩ => ?_) (fun v H2 ⟨d2, M2, a1, a2, a3, a4⟩ => ?_) (fun σ2 H2 ⟨ρ2, M2, a1, a2, a3, a4⟩ => ?_) (fun σ2 H2 ⟨ρ2, M2, a1, a2, a3, a4⟩ => ?_)
      · exact ⟨_, M2, a1.re (X := X) (rx.st.trans a3) rfl rfl rfl, a2, sx.trans a3, a4⟩
      · exact ⟨d2, M2, a1, a2, sx.trans a3, a4⟩
      · exact ⟨_, M2, a1.re (X := X) (rx.st.trans a3) rfl rfl rfl, a2, sx.trans a3, a4⟩
      · exact ⟨_, M2, a1.re (X := X) (rx.st.trans a3) rfl rfl rfl, a2, sx.trans a3, a4⟩
    · exact ⟨false, by rw [F.hK]; exact hex, fun z => Bool.noConfusion z, fun _ => ih hout⟩
  | @named x n Cx i b₀ suite np pos' hds l hx hm hn hi r ih =>
    have hi' : X.N[i]? = some n := by rw [F.hN]; exact hi
    have hln := F.loc n hn
    rcases e7 with ⟨hex, hsu⟩ | ⟨hex, hout⟩
    · refine ⟨true, by rw [F.hK]; exact hex, fun _ a ha oe pn2 hz hfd => ?_, fun z => Bool.noConfusion z⟩
      have Fy : Fs ⟨X.toCx.suite a ((a, oe) :: pn2), H'⟩ K mg sc N L Gs Bs := Fs.of_suite F
      have Ey : Exv ⟨X.toCx.suite a ((a, oe) :: pn2), H'⟩ a Cc fs := ⟨X.toCx, oe, pn2, d, rfl, hz, hfd, e3⟩
      have ry : RS ⟨X.toCx.suite a ((a, oe) :: pn2), H'⟩ H' (ρ'.set i (some (.ref a))) (σ'.set i (some (.ref a))) := (rx.re (X := ⟨X.toCx.suite a ((a, oe) :: pn2), H'⟩) Stay.refl rfl rfl rfl).put hi' (.inl hln) (.ref a)
      refine (hsu _ a Fy rfl Ey _ H' ry e6).mono (fun σ2 H2 ⟨ρ2, M2, a1, a2, a3, a4⟩ => ?_) (fun v H2 ⟨d2, M2, a1, a2, a3, a4⟩ => ?_) (fun σ2 H2 ⟨ρ2, M2, a1, a2, a3, a4⟩ => ?_) (fun σ2 H2 ⟨ρ2, M2, a1, a2, a3, a4⟩ => ?_)
      · exact ⟨_, M2, (a1.re (X := X) (rx.st.trans a3) rfl rfl rfl).drop i, a2, sx.trans a3, a4⟩
      · exact ⟨d2, M2, a1, a2, sx.trans a3, a4⟩
      · exact ⟨_, M2, (a1.re (X := X) (rx.st.trans a3) rfl rfl rfl).drop i, a2, sx.trans a3, a4⟩
      · exact ⟨_, M2, (a1.re (X := X) (rx.st.trans a3) rfl rfl rfl).drop i, a2, sx.trans a3, a4⟩
    · exact ⟨false, by rw [F.hK]; exact hex, fun z => Bool.noConfusion z, fun _ => ih hout⟩
theorem ws_tryMix {body : List Stmt} {h₀ : ExceptHandler} {hds : List ExceptHandler} {l : Hdl} (F : Fx X P w K mg base sc N L C Gs Bs k) (D : Dfn X) (T : Tk X E) (hh : HdTo mg N L Gs (h₀ :: hds) l)
    (h : ∀ X', Fx X' P w K mg base sc N L C Gs Bs k → Nrr X X' → X'.A.guards = X.A.guards → Tk X' (tryMix K mg sc N L Gs Bs X.A.guards nx rt bk ct E l) → WSs X' ρ M body nx rt bk ct) :
    WS X ρ M (.Try body (h₀ :: hds) [] [] pos) nx rt bk ct := fun σ H rs m => by
  refine wS.of (ps_try_mix (tb := fun W D σ H => ∀ pn xe, Takes (X.toCx.tr pn xe) W → PassesOwn (model X.prog X.w) X.A X.env xe → wSs (X.toCx.tr pn xe) body D σ H) (Wout := LX X E) D.hs D.hf (by rw [F.hN]; exact F.nd) T.tk
    (fun W pn xe tk pp => ⟨fun pins s σ H D I h => h pn xe tk pp pins s I⟩) (hdMix_of F hh)) ?_
  intro pn xe tk pp
  have F' : Fx ⟨X.toCx.tr pn xe, H⟩ P w K mg base sc N L C Gs Bs k := ⟨F.hP, F.hw, F.hK, F.hmg, F.hbase, F.hN, F.hsc, F.nd, F.loc, F.cel, F.kind, F.nob, F.gl, F.bl, F.calm, F.room, pp⟩
  have T' : Tk ⟨X.toCx.tr pn xe, H⟩ (tryMix K mg sc N L Gs Bs X.A.guards nx rt bk ct E l) := ⟨tk.imp fun cls d σ' H' ⟨Cc, fs, ρ', M', e1, e3, e5, e6, e7⟩ => by
    subst e1
    have sx : Stay X.K H H' := e5.st
    exact wMix_of F hh e3 sx (e5.re (X := X) (rs.st.trans sx) rfl rfl rfl) e6 e7⟩
  have r0 : RS ⟨X.toCx.tr pn xe, H⟩ H ρ σ := rs.re (X := ⟨X.toCx.tr pn xe, H⟩) Stay.refl rfl rfl rfl
  refine (h _ F' ⟨rfl, rfl, rfl, rfl, rfl, rs.st⟩ rfl T' σ H r0 m).mono (fun σ2 H2 ⟨ρ2, M2, a1, a2, a3, a4⟩ => ?_) (fun v H2 z => z) (fun σ2 H2 ⟨ρ2, M2, a1, a2, a3, a4⟩ => ?_) (fun σ2 H2 ⟨ρ2, M2, a1, a2, a3, a4⟩ => ?_)
  · exact ⟨_, M2, a1.re (X := X) (rs.st.trans a3) rfl rfl rfl, a2, a3, a4⟩
  · exact ⟨_, M2, a1.re (X := X) (rs.st.trans a3) rfl rfl rfl, a2, a3, a4⟩
  · exact ⟨_, M2, a1.re (X := X) (rs.st.trans a3) rfl rfl rfl, a2, a3, a4⟩
end
/-! ### raise C(e, ..), C an exception with fields -/
section
variable {X : Cy} {P : Program} {w : World} {K : Fg} {mg : Str → Option Value} {base : Heap} {sc : Scope} {N L C Gs Bs : List Str} {k : Nat} {ρ : Ro} {M : Mm} {pos p pos2 : Pos} {x : Str} {e : Expr} {es : List Expr} {E : EX} {Cc : Addr} {fs : List Str} {nx bk ct : Ro → Mm → Prop} {rt : DV → Mm → Prop}
theorem ws_raiseF (F : Fx X P w K mg base sc N L C Gs Bs k) (T : Tk X E) (G : ExF P w K mg base x Cc fs) (hj : 2 ≤ k) (hx : x ∈ Gs) (hs : noStars (e :: es) = true) (h : WA X ρ M (e :: es) fun ds M1 => ds.length = fs.length ∧ E Cc (fs.zip ds).reverse ρ M1) : WS X ρ M (.Raise (some (.Call (.Name x p) (e :: es) [] pos)) none pos2) nx rt bk ct := fun σ H rs m => by
  obtain ⟨fI, fd, sp, t5, t6, t7, hi, t8, _⟩ := G.fn
  have t1 := G.oex; have t4 := G.gm
  obtain ⟨g1, g2, g3⟩ := F.gl x hx
  obtain ⟨h1, h2⟩ := noStars_cons hs
  have tk := T.tk
  have hle := G.len
  have eP := F.hP; have ew := F.hw; have eK := F.hK; have eg := F.hmg; have eb := F.hbase
  subst eP ew eK eg eb
  refine wS.of (ps_raise F.calm tk (pmk_oex t1 t5 t6 t7 (F.room.mono hj) t8 .nil pass0 g1 t4 pa_w g2 (starEach_cons h1) (noStars_any h2))) ?_
  refine (h σ H rs m).mono fun vs H1 ⟨ds, M1, k1, k2, k3, k4, k5⟩ => ?_
  have hl : vs.length = fs.length := by have := k1.length; omega
  refine ⟨by omega, fun a ha => ?_⟩
  rw [List.append_nil]
  refine hi vs H1 a _ hl ha fun dx H2 hd hne e1 e2 e3 => ⟨rfl, dx, (fs.zip vs).reverse, e1, e2, hd, ?_⟩
  have eH : upd (del H2 a) dx (.xd (fs.zip vs).reverse) = upd H1 dx (.xd (fs.zip vs).reverse) := by
    funext b
    by_cases hb : b = dx
    · subst hb; rw [upd_same, upd_same]
    · rw [upd_ne hb, upd_ne hb]
      by_cases ha2 : b = a
      · subst ha2; rw [del_same, ha]
      · rw [del_ne ha2]; exact e3 b ha2 hb
  rw [eH]
  exact LX.of (rs.mono k3) (Stay.new hd) upd_same ((RF.zip fs k1).rev.mono (Stay.new hd)) (k2.new hd) k5
instance [F : Fx X P w K mg base sc N L C Gs Bs k] [T : Tk X E] [G : ExF P w K mg base x Cc fs] [mm : MemC x Gs] : Step (WS X ρ M (.Raise (some (.Call (.Name x p) (e :: es) [] pos)) none pos2) nx rt bk ct) (Nat.ble 2 k && noStars (e :: es)) (WA X ρ M (e :: es) fun ds M1 => Side (ds.length = fs.length) (E Cc (fs.zip ds).reverse ρ M1)) := ⟨fun h q => by
  rw [Bool.and_eq_true] at h
  exact ws_raiseF F T G (Nat.le_of_ble_eq_true h.1) mm.h h.2 fun σ H r m => (q σ H r m).mono fun _ _ ⟨a, b, c, d, e, f⟩ => ⟨a, b, c, d, e, f.a, f.b⟩⟩
end
end G
namespace G
open PySem PySem.Spec PyProof.Rows L2
/-! ### a dict display of four texts -/
section
variable {X : Cy} {P : Program} {w : World} {K : Fg} {mg : Str → Option Value} {base : Heap} {sc : Scope} {N L C Gs Bs : List Str} {k : Nat} {ρ : Ro} {M : Mm} {Q : DV → Mm → Prop} {pos : Pos}
end
end G
namespace G
open PySem PySem.Spec PyProof.Rows L2
/-! ### x(e, .., k = e1) of a class with its own __init__, that may raise -/
section
variable {X : Cy} {P : Program} {w : World} {K : Fg} {mg : Str → Option Value} {base : Heap} {sc : Scope} {N L C Gs Bs : List Str} {k j n : Nat} {ρ : Ro} {M : Mm} {Q : DV → Mm → Prop} {E : EX} {e e1 : Expr} {es : List Expr} {pos p p1 : Pos} {x k1 : Str} {sp : SpX} {Cc : Addr} {dd : List DV}
end
end G
namespace G
open PySem PySem.Spec PyProof.Rows L2
/-! ### for x in d.values(), d a dict of plain keys -/
section
variable {P : Program} {w : World} {K : Fg} {tg : Expr} {q : Addr} {o : Obj} {es : Array DictEntry} {ep : Nat} {kvs : List (DV × DV)}
end
section
variable {X : Cx} {tg e : Expr} {td : TE} {apos cpos : Pos}
end
section
variable {X : Cy} {P : Program} {w : World} {K : Fg} {mg : Str → Option Value} {base : Heap} {sc : Scope} {N L C Gs Bs : List Str} {k : Nat} {ρ : Ro} {M : Mm} {e tg : Expr} {pos apos : Pos} {q : Addr} {ob : Obj} {kvs : List (DV × DV)}
end
end G
namespace G
open PySem PySem.Spec PyProof.Rows L2
/-! ### for x, y in zip(xs, ys), both locked lists of one length -/
section
variable {X : Cy} {P : Program} {w : World} {K : Fg} {mg : Str → Option Value} {base : Heap} {sc : Scope} {N L C Gs Bs : List Str} {k : Nat} {ρ : Ro} {M : Mm} {e e2 : Expr} {pos p tpos : Pos} {elts : List Expr} {kt : Nat}
end
end G
namespace G
open PySem PySem.Spec PyProof.Rows L2
/-! ### list(d.items()), d a dict of plain keys -/
section
variable {K : Fg} {H : Hp} {kvs : List (DV × DV)} {xs : List PEnt}
end
section
variable {X : Cx} {pins : List (Addr × Obj)} {σ : L2.St} {H : Hp} {s : Shared} {h' : Heap} {tk : Nat}
end
section
variable {X : Cy} {P : Program} {w : World} {K : Fg} {mg : Str → Option Value} {base : Heap} {sc : Scope} {N L C Gs Bs : List Str} {k : Nat} {ρ : Ro} {M : Mm} {Q : DV → Mm → Prop} {o : Expr} {pos apos lp cp : Pos}
end
end G
namespace G
open PySem PySem.Spec PyProof.Rows L2
/-! ### o.m(..) where m's last parameters are left out -/
section
variable {X : Cy} {P : Program} {w : World} {K : Fg} {mg : Str → Option Value} {base : Heap} {sc : Scope} {N L C Gs Bs : List Str} {k j n : Nat} {ρ : Ro} {M : Mm} {Q : DV → Mm → Prop} {o e : Expr} {es : List Expr} {pos p apos : Pos} {x m : Str} {Cc : Addr} {E : EX} {sp : SpX} {dd : List DV} {A : Around} {f : Addr} {fd : FuncData} {ps : List Str} {σ : L2.St} {H H0 : Hp} {pins : List (Addr × Obj)} {s : Shared}
end
end G
namespace G
open PySem PySem.Spec PyProof.Rows L2
/-! ### generators: whoever asks them may keep what he likes at the places Ss -/
section
variable {X : Cx} {Ss : List Addr} {ip : List (Addr × Obj)} {s₀ s s' : Shared} {σ : L2.St} {H : Hp}
end
section
variable {X : Cy} {P : Program} {w : World} {K : Fg} {mg : Str → Option Value} {base : Heap} {sc : Scope} {N L C Gs Bs : List Str} {k : Nat} {ρ : Ro} {M M0 : Mm} {zs : List DV} {j : Nat} {D : YD} {st : Stmt} {sts : List Stmt}
/-! loops -/
section
variable {Mo : Model} {A : Around} {R : GenEnd} {Y : Protocol} {n : Nat} {s₀ s : Shared} {c : Code} {fs : List Frame} {env : Env} {q : Flow → Sem PySem.Fin} {J : Value → Sem PySem.Fin} {gd : Bool → Bool} {lv : List Value → List Value}
end
end
/-! ### the def -/
/-! ### a generator that an expression gives -/
section
variable {X : Cy} {P : Program} {w : World} {K : Fg} {mg : Str → Option Value} {base : Heap} {sc : Scope} {N L C Gs Bs : List Str} {k j n : Nat} {ρ : Ro} {M : Mm} {o e : Expr} {es : List Expr} {pos p apos : Pos} {x m : Str} {Cc : Addr} {sp : SpY} {dd : List DV}
end
/-! ### {x: True for x in e}, e a generator of whole numbers -/
section
variable {X : Cy} {P : Program} {w : World} {K : Fg} {mg : Str → Option Value} {base : Heap} {sc : Scope} {N L C Gs Bs L' C' Gs' : List Str} {k j : Nat} {ρ : Ro} {M : Mm} {iter : Expr} {scope : Scope} {x : Str} {ix kk : Nat} {ms : List Bool} {pos px px1 pv cpos : Pos}
end
end G
namespace G
open PySem L2
/-! ### [e for x, y in a for z in b] -/
section
variable {X : Cy} {P : Program} {w : World} {K : Fg} {mg : Str → Option Value} {base : Heap} {sc : Scope} {N L C Gs Bs L' C' Gs' : List Str} {k : Nat} {ρ : Ro} {M : Mm} {Q : DV → Mm → Prop} {elt iter iter1 : Expr} {scope : Scope} {x y z : Str} {i j l kt : Nat} {ms : List Bool} {pos px py pz pt : Pos}
end
end G
namespace G
open PySem L2
/-! ### sorted(xs) of whole numbers -/
section
variable {X : Cy} {P : Program} {w : World} {K : Fg} {mg : Str → Option Value} {base : Heap} {sc : Scope} {N L C Gs Bs : List Str} {k : Nat} {ρ : Ro} {M : Mm} {Q : DV → Mm → Prop} {e : Expr} {pos p : Pos}
end
end G
namespace G
open PySem PySem.Spec PyProof.Rows L2
/-! ### a dict that nobody changes any more -/
theorem RF.zipK {K : Fg} {H : Hp} : ∀ {ks : List Key} {ds : List DV} {vs : List V}, RDs K H ds vs → RF K H (ks.zip ds) (ks.zip vs)
  | [], _, _, _ => .nil
  | _ :: _, _, _, .nil => .nil
  | _ :: _, _, _, .cons r t => .cons r (RF.zipK t)
section
variable {X : Cy} {P : Program} {w : World} {K : Fg} {mg : Str → Option Value} {base : Heap} {sc : Scope} {N L C Gs Bs : List Str} {k : Nat} {ρ : Ro} {M : Mm} {Q : DV → Mm → Prop} {e o : Expr} {pos : Pos}
/-! d['x'] -/
def DgF (M : Mm) (x : DV) (ky : Key) (Q : DV → Mm → Prop) : Prop := DgD M x ky Q ∨ ∃ ks ds d, x = .dic ks ds ∧ getD (ks.zip ds) ky = some d ∧ Q d M
theorem we_dgetF {x : Str} {j : Nat} {cp : Pos} (F : Fx X P w K mg base sc N L C Gs Bs k) (h : WE X ρ M o fun d M1 => DgF M1 d (.inr x) Q) : WE X ρ M (.Subscript o (.Constant (.str x) j cp) pos) Q := fun σ H rs m => by
  have hu := F.room.un
  refine wE.of (pe_dget (by omega) pe_w pe_str (fun ov iv => rfl)) ?_
  refine (h σ H rs m).mono fun v H1 ⟨d, M1, h1, h2, h3, hh⟩ => ?_
  rcases hh with ⟨q, i, kvs, d', e1, e2, e3, e4⟩ | ⟨ks, ds, d', e1, e3, e4⟩
  · subst e1
    cases h1
    obtain ⟨vs, f1, f2⟩ := h2.at e2.ix
    obtain ⟨v', g1, g2⟩ := f2.valS e3
    exact ⟨q, v', rfl, .inl ⟨vs, .inr x, .inl f1, rfl, g1.symm⟩, d', M1, g2, h2, h3, e4⟩
  · subst e1
    cases h1 with
    | dic fz rr =>
      obtain ⟨v', g1, g2⟩ := (RF.zipK rr).valS e3
      exact ⟨_, v', rfl, .inl ⟨_, .inr x, .inr fz.2, rfl, g1.symm⟩, d', M1, g2, h2, h3, e4⟩
instance (priority := 4500) {x : Str} {j : Nat} {cp : Pos} [F : Fx X P w K mg base sc N L C Gs Bs k] : Step (WE X ρ M (.Subscript o (.Constant (.str x) j cp) pos) Q) true (WE X ρ M o fun d M1 => DgF M1 d (.inr x) Q) := ⟨fun _ q => we_dgetF F q⟩
instance {q : Addr} {ky : Key} : Step (DgF M (.ref q) ky Q) true (DgD M (.ref q) ky Q) := ⟨fun _ h => .inl h⟩
end
section
variable {X : Cy} {ρ : Ro} {M : Mm}
end
end G
namespace G
open PySem PySem.Spec PyProof.Rows L2
/-! ### x(k1 = e1, .., k6 = e6), the defaults standing behind the first i of them -/
section
variable {P : Program} {w : World} {K : Fg} {mg : Str → Option Value} {base : Heap} {N L C Gs Bs : List Str} {k : Nat}
end
section
variable {X : Cy} {P : Program} {w : World} {K : Fg} {mg : Str → Option Value} {base : Heap} {sc : Scope} {N L C Gs Bs : List Str} {k j n : Nat} {ρ : Ro} {M : Mm} {Q : DV → Mm → Prop} {e1 e2 e3 e4 e5 e6 : Expr} {pos p p1 p2 p3 p4 p5 p6 : Pos} {x k1 k2 k3 k4 k5 k6 : Str} {sp : SpD} {Cc : Addr} {dd : List DV}
end
/-! a law that makes lambdas -/
end G
namespace G
open PySem PySem.Spec PyProof.Rows L2
/-! ### int(text), str(whole number) -/
def rIntT : List V → Hp → VK → Prop := fun xs H Q => ∃ x n, xs = [.str x] ∧ PySem.intText? x = some n ∧ x.length ≤ 640 ∧ Q (.int n) H
theorem call_intT {X : Cx} : CallR X (.type "int") rIntT := by
  intro pins s σ H xs us Q I r h
  obtain ⟨x, n, rfl, h1, h2, q⟩ := h
  obtain ⟨u, rfl, r1⟩ := vals1 r
  obtain ⟨t, rfl⟩ := r1
  exact PySem.W.KIN.call_text h1 h2 ⟨.int n, H, I.tok _, ⟨_, rfl⟩, q⟩
def rInt2 : List V → Hp → VK → Prop := fun xs H Q => rInt xs H Q ∨ rIntT xs H Q
section
variable {X : Cy} {P : Program} {w : World} {K : Fg} {mg : Str → Option Value} {base : Heap} {sc : Scope} {N L C Gs Bs : List Str} {k : Nat} {ρ : Ro} {M : Mm} {Q : DV → Mm → Prop} {e : Expr} {pos p : Pos}
instance (priority := 2000) [F : Fx X P w K mg base sc N L C Gs Bs k] [m : MemC "int" Gs] [m2 : MemC "int" Bs] : Step (WE X ρ M (.Call (.Name (Str.ofString "int") p) [e] [] pos) Q) (noStars [e]) (WA X ρ M [e] fun ds M1 => CD X.K rInt2 ds M1 Q) := ⟨fun h q =>
  we_blty F (fun pins s σ H xs us Q I r z => z.elim (fun z => call_int1 pins s σ H xs us Q I r z) fun z => call_intT pins s σ H xs us Q I r z) (fun xs H Q Q' h q => h.imp (fun h => h.elim (fun ⟨i, a, b⟩ => .inl ⟨i, a, q _ _ b⟩) fun ⟨i, a, b⟩ => .inr ⟨i, a, q _ _ b⟩) fun ⟨x, n, a, b, c, d⟩ => ⟨x, n, a, b, c, q _ _ d⟩) (by decide +kernel) m.h m2.h h q⟩
instance {i : Int} : Step (CD K rInt2 [.int i] M Q) true (Q (.int i) M) := ⟨fun _ q vs H r m => .inl (v_int_i q vs H r m)⟩
end
end G
namespace G
open PySem PySem.Spec PyProof.Rows L2
/-! ### isinstance(x, (list, tuple)), x a locked list or a tuple -/
section
variable {X : Cy} {P : Program} {w : World} {K : Fg} {mg : Str → Option Value} {base : Heap} {sc : Scope} {N L C Gs Bs : List Str} {k : Nat} {ρ : Ro} {M : Mm} {Q : DV → Mm → Prop} {pos p : Pos} {e e2 : Expr}
end
end G
namespace G
open PySem PySem.Spec PyProof.Rows L2 GenW
/-! ### list(e), e a generator of whole numbers -/
section
variable {P : Program} {w : World} {K : Fg} {so : Shared} {H1 : Hp} {outer : List Env} {A : Around} {R : Result → Shared → Prop} {S a : Addr} {g : Nat} {M1 : Mm} {zs : List DV} {is : List Int} {res : Value}
end
section
variable {X : Cy} {P : Program} {w : World} {K : Fg} {mg : Str → Option Value} {base : Heap} {sc : Scope} {N L C Gs Bs : List Str} {k j : Nat} {ρ : Ro} {M : Mm} {Q : DV → Mm → Prop} {e : Expr} {pos p : Pos}
end
end G
namespace G
open PySem PySem.Spec PyProof.Rows L2
/-! ### an instance that nobody changes any more -/
section
variable {X : Cx} {pins : List (Addr × Obj)} {σ : L2.St} {H : Hp} {s : Shared}
end
section
variable {X : Cy} {P : Program} {w : World} {K : Fg} {mg : Str → Option Value} {base : Heap} {sc : Scope} {N L C Gs Bs : List Str} {k j n : Nat} {ρ : Ro} {M : Mm} {Q : DV → Mm → Prop} {e o : Expr} {es : List Expr} {apos pos : Pos} {m : Str} {Cc : Addr} {sp : SpD}
end
end G
namespace G
open PySem PySem.Spec PyProof.Rows L2
section
variable {X : Cy} {P : Program} {w : World} {K : Fg} {mg : Str → Option Value} {base : Heap} {sc : Scope} {N L C Gs Bs : List Str} {k j n : Nat} {ρ : Ro} {M : Mm} {Q : DV → Mm → Prop} {e1 e2 e3 e4 e5 e6 : Expr} {pos p p1 p2 p3 p4 p5 p6 : Pos} {x k1 k2 k3 k4 k5 k6 : Str} {sp : SpD} {Cc : Addr} {dd : List DV}
end
end G
namespace G
open PySem PySem.Spec PyProof.Rows L2
/-! ### {**d, k: v}: keys that are carried by value -/
section
variable {P : Program} {w : World} {A : Around} {E : Value → Shared → Prop} {s : Shared} {d o : Addr} {xs ys : List PEnt} {k : NK} {key v : Value}
/-! {**a, kx: vx} -/
variable {X : Cy} {ρ : Ro} {M : Mm} {Q : DV → Mm → Prop} {a kx vx : Expr} {pos : Pos} {K : Fg}
variable {P : Program} {mg : Str → Option Value} {base : Heap} {sc : Scope} {N L C Gs Bs : List Str} {kf : Nat}
end
end G
namespace G
open PySem PySem.Spec PyProof.Rows L2
/-! ### a tuple beside (); (*l, ..); zip of a tuple and a locked list -/
section
variable {X : Cy} {P : Program} {w : World} {K : Fg} {mg : Str → Option Value} {base : Heap} {sc : Scope} {N L C Gs Bs : List Str} {k : Nat} {ρ : Ro} {M : Mm} {Q : DV → Mm → Prop} {R : Bool → Mm → Prop} {a b e e2 : Expr} {es elts : List Expr} {p pos tpos sp_ : Pos} {kt : Nat}
end
end G
namespace G
open PySem PySem.Spec PyProof.Rows L2
/-! ### methods with a cell for their class (super() stands in their text) -/
section
variable {P : Program} {w : World} {K : Fg} {mg : Str → Option Value} {base : Heap} {N L Gs Bs : List Str} {k : Nat}
end
end G
namespace G
open PySem PySem.Spec PyProof.Rows L2
/-! ### a field as one of several targets -/
section
variable {X : Cy} {P : Program} {w : World} {K : Fg} {mg : Str → Option Value} {base : Heap} {sc : Scope} {N L C Gs Bs : List Str} {k : Nat} {ρ : Ro} {M : Mm} {o : Expr} {f : Str} {apos : Pos} {d : DV} {nx : Ro → Mm → Prop}
end
end G
namespace G
open PySem PySem.Spec PyProof.Rows L2
/-! ### a name that holds an instance, asked whether it is true -/
section
variable {X : Cy} {P : Program} {w : World} {K : Fg} {mg : Str → Option Value} {base : Heap} {sc : Scope} {N L C Gs Bs : List Str} {k j n i : Nat} {ρ : Ro} {M : Mm} {R : Bool → Mm → Prop} {x : Str} {p : Pos} {E : EX} {Cc : Addr} {sp : SpX}
end
end G
namespace G
open PySem PySem.Spec PyProof.Rows L2
/-! ### x(lambda: ..), some cells of the frame frozen while it runs -/
def cellsS (S : List Str) (cl : List (Str × Addr)) : List (Str × Addr) := cl.filter fun p => decide (p.1 ∈ S)
theorem cellsS_in {S : List Str} : ∀ {cl : List (Str × Addr)} {y : Str} {c : Addr}, (cellsS S cl).lookup y = some c → y ∈ S ∧ cl.lookup y = some c
  | [], _, _, h => by cases h
  | (x, a) :: cl, y, c, h => by
    unfold cellsS at h
    rw [List.filter_cons] at h
    by_cases hx : x ∈ S
    · rw [if_pos (decide_eq_true hx), List.lookup_cons] at h
      rw [List.lookup_cons]
      cases e : y == x with
      | true =>
        rw [e] at h
        exact ⟨by rw [eq_of_beq e]; exact hx, h⟩
      | false =>
        rw [e] at h
        exact cellsS_in (cl := cl) h
    · rw [if_neg (by rw [decide_eq_false hx]; decide)] at h
      obtain ⟨h1, h2⟩ := cellsS_in (cl := cl) h
      refine ⟨h1, ?_⟩
      rw [List.lookup_cons]
      cases e : y == x with
      | true => exact absurd (by rw [← eq_of_beq e]; exact h1) hx
      | false => exact h2
theorem cellsS_of {S : List Str} : ∀ {cl : List (Str × Addr)} {y : Str} {c : Addr}, y ∈ S → cl.lookup y = some c → (cellsS S cl).lookup y = some c
  | [], _, _, _, h => by cases h
  | (x, a) :: cl, y, c, hy, h => by
    unfold cellsS
    rw [List.filter_cons]
    rw [List.lookup_cons] at h
    cases e : y == x with
    | true =>
      rw [e] at h
      rw [if_pos (decide_eq_true (by rw [← eq_of_beq e]; exact hy)), List.lookup_cons, e]
      exact h
    | false =>
      rw [e] at h
      have ih := cellsS_of (cl := cl) hy h
      split
      · rw [List.lookup_cons, e]; exact ih
      · exact ih
section
variable {X : Cx} {pins : List (Addr × Obj)} {σ : L2.St} {H : Hp} {s s' : Shared} {cl : List (Str × Addr)}
theorem pinC_extS (J : Inv X pins σ H s) (hs : ∀ y c, cl.lookup y = some c → X.env.cells.lookup y = some c) {b : Addr} {u : HO} (h : H b = some u) : pinC s.heap cl H b = some u := by
  rw [pinC_else fun y z => by rw [J.freeC y b (hs y b z)] at h; cases h]
  exact h
theorem pinC_hokS (J : Inv X pins σ H s) (hs : ∀ y c, cl.lookup y = some c → X.env.cells.lookup y = some c) : HOk X.prog X.w (pinC s.heap cl H) s.heap := fun b u hu => by
  by_cases hb : ∃ y, cl.lookup y = some b
  · obtain ⟨y, hy⟩ := hb
    obtain ⟨v, o, ho, _⟩ := J.cell y b (hs y b hy)
    rw [pinC_cell hy ho] at hu
    cases hu
    exact pin_ok ho
  · rw [pinC_else fun y z => hb ⟨y, z⟩] at hu
    exact (J.hok b u hu).stay (fun c o _ ho => ho) (fun c hc => pinC_extS J hs hc) fun c xs hc => pinC_extS J hs hc
theorem pinC_stayS {K : Fg} (J : Inv X pins σ H s) (hs : ∀ y c, cl.lookup y = some c → X.env.cells.lookup y = some c) : Stay K H (pinC s.heap cl H) := ⟨fun a xs h => pinC_extS J hs h, fun a o u h => pinC_extS J hs h, fun a q h => pinC_extS J hs h, fun a fs h => pinC_extS J hs h⟩
theorem pinC_env0S (J : Inv X pins σ H s) (hs : ∀ y c, cl.lookup y = some c → X.env.cells.lookup y = some c) (own : ∀ y c, X.env.cells.lookup y = some c → X.s_0.heap.objs.size ≤ c) : Env0 X.prog X.w X.K X.mg X.base X.A X.stack s (pinC s.heap cl H) where
  frames := J.ok.frames
  mod := J.ok.mod
  bs := fun b o hb => ⟨J.bk b o hb, by rw [pinC_else fun y z => own_lt own (Nat.lt_of_lt_of_le (Heap.lt_size hb) J.ok.bsz) y (hs y b z)]; exact (J.bs b o hb).2⟩
  bsz := Nat.le_trans J.ok.bsz J.sz
  funs := J.stack
  frf := fun b hb => by rw [pinC_else fun y z => own_frs J own hb y (hs y b z)]; exact J.stkFree b hb
  hok := pinC_hokS J hs
  bare := J.bare
theorem offC_ceS (J : Inv X pins σ H s) (hs : ∀ y c, cl.lookup y = some c → X.env.cells.lookup y = some c) (own : ∀ y c, X.env.cells.lookup y = some c → X.s_0.heap.objs.size ≤ c) {Q Q' : VK} {u : Value} (h : CE X.stack X.prog X.w (pinC s.heap cl H) s Q u s')
    (hq : ∀ v H', Q v H' → PinA cl H' → Q' v (offC cl H')) : CE X.stack X.prog X.w H s Q' u s' := by
  obtain ⟨v, H1, os, bare, un, hok, r, q⟩ := h
  have ff : ∀ y c, cl.lookup y = some c → ∃ oc v, s.heap.get? c = some oc ∧ H1 c = some (PinO c oc) ∧ oc.data = .cell v := fun y c e => by
    obtain ⟨v, o, ho, hd⟩ := J.cell y c (hs y c e)
    exact ⟨o, v, ho, un.frzs _ _ _ (pinC_cell e ho), hd⟩
  have pa : PinA cl H1 := fun y c e => by
    obtain ⟨o, v, _, h1, h2⟩ := ff y c e
    exact ⟨o, v, h1, h2⟩
  have cl2 : ∀ b, (∃ y, cl.lookup y = some b) ∨ ∀ y, cl.lookup y ≠ some b := fun b => by
    by_cases h : ∃ y, cl.lookup y = some b
    · exact .inl h
    · exact .inr fun y z => h ⟨y, z⟩
  have no : ∀ {b u}, H b = some u → ∀ y, cl.lookup y ≠ some b := fun {b u} h y z => by rw [J.freeC y b (hs y b z)] at h; cases h
  have keep : ∀ b o, s.heap.get? b = some o → H b = none → b ∉ frs X.stack → b ∉ ([] : List Addr) → s'.heap.get? b = some o := fun b o hb n hf hx => by
    rcases cl2 b with ⟨y, e⟩ | e
    · obtain ⟨oc, v, h1, h2, _⟩ := ff y b e
      rw [hb] at h1
      cases h1
      exact pin_at hok h2
    · exact un.keep b o hb (by rw [pinC_else e]; exact n) hf hx
  refine ⟨v, offC cl H1, os, bare, ⟨keep, fun b o hb n hf hx => ?_, fun b o hb n hx => ?_, un.there, fun b xs hb => ?_, fun b o z hb => ?_, fun b ps hb => ?_⟩, fun b z hz => ?_, r, hq v H1 q pa⟩
  · exact un.slot b o hb (by rw [pinC_else fun y z => own_frs J own hf y (hs y b z)]; exact n) hf hx
  · rcases cl2 b with ⟨y, e⟩ | e
    · exact offC_cell e
    · rw [offC_else e]
      exact un.free b o hb (by rw [pinC_else e]; exact n) hx
  · rw [offC_else (no hb)]
    exact un.tups b xs (pinC_extS J hs hb)
  · rw [offC_else (no hb)]
    exact un.frzs b o z (pinC_extS J hs hb)
  · rw [offC_else (no hb)]
    exact un.tbls b ps (pinC_extS J hs hb)
  · have e : ∀ y, cl.lookup y ≠ some b := fun y e => by rw [offC_cell e] at hz; cases hz
    rw [offC_else e] at hz
    exact (hok b z hz).stay (fun c o _ ho => ho) (fun c hc => offC_of pa hc fun o z => (by unfold PinO at z; cases z)) fun c xs hc => offC_of pa hc fun o z => (by unfold PinO at z; cases z)
end
/-- a lambda of the frame X that reads some names alone, closed -/
inductive ClZ (X : Cy) (N S : List Str) (ρ : Ro) : DV → DV → Prop
  | same (d : DV) : ClZ X N S ρ d d
  | lam {L : Lamb} {c : List (Str × Addr)} {ds : List DV} (h : ClD X N ρ (.lam L c) (.clo L ds)) (hS : (L.fr.all fun y => decide (y ∈ S)) = true) : ClZ X N S ρ (.lam L c) (.clo L ds)
inductive ClZF (X : Cy) (N S : List Str) (ρ : Ro) : List (Str × DV) → List (Str × DV) → Prop
  | nil : ClZF X N S ρ [] []
  | cons {x : Str} {d d' : DV} {fs fs' : List (Str × DV)} : ClZ X N S ρ d d' → ClZF X N S ρ fs fs' → ClZF X N S ρ ((x, d) :: fs) ((x, d') :: fs')
inductive ClZM (X : Cy) (N S : List Str) (ρ : Ro) : Mm → Mm → Prop
  | nil : ClZM X N S ρ [] []
  | same {M M' : Mm} (x : Addr × MO) : ClZM X N S ρ M M' → ClZM X N S ρ (x :: M) (x :: M')
  | ins {M M' : Mm} {a C : Addr} {fs fs' : List (Str × DV)} : ClZF X N S ρ fs fs' → ClZM X N S ρ M M' → ClZM X N S ρ ((a, .ins C fs) :: M) ((a, .ins C fs') :: M')
theorem ClZM.refl {X : Cy} {N S : List Str} {ρ : Ro} : ∀ {M : Mm}, ClZM X N S ρ M M
  | [] => .nil
  | x :: M => .same x ClZM.refl
theorem ClZM.fst {X : Cy} {N S : List Str} {ρ : Ro} : ∀ {M M' : Mm}, ClZM X N S ρ M M' → M'.map (·.1) = M.map (·.1)
  | _, _, .nil => rfl
  | _, _, .same x t => by rw [List.map_cons, List.map_cons, t.fst]
  | _, _, .ins _ t => by rw [List.map_cons, List.map_cons, t.fst]
section
variable {X : Cy} {N S : List Str} {ρ : Ro} {pins : List (Addr × Obj)} {σ : L2.St} {H : Hp} {s : Shared}
theorem ClZ.rd {d d' : DV} {v : V} (c : ClZ X N S ρ d d') (J : Inv X.toCx pins σ H s) (hN : X.N = N) (rs : RS X H ρ σ) (r : RD X.K H d v) : RD X.K (pinC s.heap (cellsS S X.env.cells) H) d' v := by
  have hs : ∀ y c, (cellsS S X.env.cells).lookup y = some c → X.env.cells.lookup y = some c := fun y c e => (cellsS_in e).2
  have st : Stay X.K H (pinC s.heap (cellsS S X.env.cells) H) := pinC_stayS J hs
  cases c with
  | same => exact r.mono st
  | @lam L c0 ds hD hS =>
    cases hD with
    | lam h0 h1 h2 =>
    cases r with
    | lam h =>
      rename_i f
      have own : ∀ y ∈ L.scope.names, y.2 = .free → ∃ c, X.env.cells.lookup y.1 = some c := fun y hy e => by
        have hm : y.1 ∈ L.fr := by rw [h0]; exact mem_frOf.mpr (by rw [← e]; exact hy)
        obtain ⟨i, hi⟩ := List.mem_iff_getElem?.mp hm
        obtain ⟨_, _, _, _, _, k⟩ := h2 i _ hi
        exact J.ok.has _ (.inl k)
      have up : ∀ {y c}, (cloFrom X.env.cells L.scope.names []).lookup y = some c → X.env.cells.lookup y = some c ∧ (y, NameKind.free) ∈ L.scope.names := fun {y c} e => by
        rcases cloFrom_mem (PySem.mem_of_lookup e) with z | ⟨z1, z2⟩
        · cases z
        · obtain ⟨c1, q⟩ := own _ z1 rfl
          have q : X.env.cells.lookup y = some c1 := q
          rw [q] at z2
          cases z2
          exact ⟨q, z1⟩
      have get : ∀ (i : Nat) (y : Str), L.fr[i]? = some y → ∃ c oc v u, (cloFrom X.env.cells L.scope.names []).lookup y = some c ∧ pinC s.heap (cellsS S X.env.cells) H c = some (PinO c oc) ∧ oc.data = .cell (some u) ∧ RelV v u ∧ ∃ d, ds[i]? = some d ∧ RD X.K H d v := fun i y e => by
        obtain ⟨j, d, a1, a2, a3, a4⟩ := h2 i y e
        obtain ⟨_, v, b1, b2⟩ := rs.get j d a2
        obtain ⟨mm, hns, hl⟩ := J.loc
        obtain ⟨u, ru, lk⟩ := hl j y v (by rw [hN]; exact a1) b1 (.inr (.inl a4))
        have hyf : y ∈ L.fr := List.mem_of_getElem? e
        have hm : (y, NameKind.free) ∈ L.scope.names := mem_frOf.mp (by rw [← h0]; exact hyf)
        obtain ⟨c, hc⟩ := mem_lookup (cloFrom_has (cells := X.env.cells) (acc := []) hm)
        have hc2 := (up hc).1
        rcases lk with ⟨z, _⟩ | ⟨_, c3, z2, o, ho, hd⟩
        · have z : X.env.scope.names.lookup y = some .local := z
          rw [a4] at z
          cases z
        · rw [hc2] at z2
          cases z2
          exact ⟨c, o, v, u, hc, pinC_cell (cellsS_of (of_decide_eq_true (List.all_eq_true.mp hS y hyf)) hc2) ho, hd, ru, d, a3, b2⟩
      have vals : ∀ (n : Nat), n ≤ L.fr.length → ∃ vs : List V, vs.length = n ∧ RDs X.K H (ds.take n) vs ∧ ∀ (i : Nat) (y : Str), i < n → L.fr[i]? = some y → ∃ c oc v u, (cloFrom X.env.cells L.scope.names []).lookup y = some c ∧ pinC s.heap (cellsS S X.env.cells) H c = some (PinO c oc) ∧ oc.data = .cell (some u) ∧ vs[i]? = some v ∧ RelV v u := fun n => by
        induction n with
        | zero => exact fun _ => ⟨[], rfl, by rw [List.take_zero]; exact .nil, fun i y h => absurd h (Nat.not_lt_zero _)⟩
        | succ n ih =>
          intro hn
          obtain ⟨vs, e1, e2, e3⟩ := ih (by omega)
          have hy : L.fr[n]? = some (L.fr[n]'(by omega)) := List.getElem?_eq_getElem (by omega)
          obtain ⟨c, oc, v, u, b1, b2, b3, b4, d, b5, b6⟩ := get n _ hy
          refine ⟨vs ++ [v], by rw [List.length_append, e1]; rfl, ?_, fun i y hi ey => ?_⟩
          · rw [List.take_add_one, b5]
            exact e2.append (.cons b6 .nil)
          · by_cases hin : i < n
            · obtain ⟨c, oc, v', u, d1, d2, d3, d4, d5⟩ := e3 i y hin ey
              exact ⟨c, oc, v', u, d1, d2, d3, by rw [List.getElem?_append_left (by omega)]; exact d4, d5⟩
            · have : i = n := by omega
              subst this
              rw [hy] at ey
              cases ey
              exact ⟨c, oc, v, u, b1, b2, b3, by rw [List.getElem?_append_right (by omega), e1, Nat.sub_self]; rfl, b4⟩
      obtain ⟨vs, e1, e2, e3⟩ := vals _ (Nat.le_refl _)
      rw [List.take_of_length_le (by omega)] at e2
      have st2 : Stay X.K H (hidC (cloFrom X.env.cells L.scope.names []) (pinC s.heap (cellsS S X.env.cells) H)) := by
        have go : ∀ b u, H b = some u → hidC (cloFrom X.env.cells L.scope.names []) (pinC s.heap (cellsS S X.env.cells) H) b = some u := fun b u e => by
          rw [hidC_else fun y z => by rw [J.freeC y b (up z).1] at e; cases e]
          exact pinC_extS J hs e
        exact ⟨fun a xs h => go _ _ h, fun a o u h => go _ _ h, fun a q h => go _ _ h, fun a fs h => go _ _ h⟩
      refine .clo ⟨h.mono st, e1, fun x y c q1 q2 => J.ok.inj x y c (up q1).1 (up q2).1, fun y c q => ?_, fun i y e => e3 i y ?_ e⟩ (e2.mono st2)
      · rw [h0]
        exact mem_frOf.mpr (up q).2
      · exact (List.getElem?_eq_some_iff.mp e).1
theorem ClZF.rf {fs fs' : List (Str × DV)} {gs : List (Str × V)} (J : Inv X.toCx pins σ H s) (hN : X.N = N) (rs : RS X H ρ σ) (c : ClZF X N S ρ fs fs') : RF X.K H fs gs → RF X.K (pinC s.heap (cellsS S X.env.cells) H) fs' gs := by
  induction c generalizing gs with
  | nil => intro r; cases r; exact .nil
  | cons h _ ih => intro r; cases r with | cons a b => exact .cons (h.rd J hN rs a) (ih b)
theorem ClZM.rm {M M' : Mm} (J : Inv X.toCx pins σ H s) (hN : X.N = N) (rs : RS X H ρ σ) (c : ClZM X N S ρ M M') (m : RM X.K H M) : RM X.K (pinC s.heap (cellsS S X.env.cells) H) M' := by
  refine ⟨by rw [c.fst]; exact m.nd, ?_⟩
  have hs : ∀ y c, (cellsS S X.env.cells).lookup y = some c → X.env.cells.lookup y = some c := fun y c e => (cellsS_in e).2
  have ok := m.ok
  have st : Stay X.K H (pinC s.heap (cellsS S X.env.cells) H) := pinC_stayS J hs
  have keep : ∀ a o, RO X.K H a o → RO X.K (pinC s.heap (cellsS S X.env.cells) H) a o := fun a o h => by
    obtain ⟨u, hu⟩ := h.some
    exact h.mono st ((pinC_extS J hs hu).trans hu.symm)
  clear m
  induction c with
  | nil => intro a o h; cases h
  | same x _ ih =>
    intro a o h
    rcases List.mem_cons.mp h with e | e
    · exact keep a o (ok a o (by rw [e]; exact List.mem_cons_self))
    · exact ih (fun a o h => ok a o (List.mem_cons_of_mem _ h)) a o e
  | @ins M M' b C fs fs' hf _ ih =>
    intro a o h
    rcases List.mem_cons.mp h with e | e
    · cases e
      obtain ⟨dx, gs, h1, h2⟩ := ok b (.ins C fs) List.mem_cons_self
      exact ⟨dx, gs, pinC_extS J hs h1, hf.rf J hN rs h2⟩
    · exact ih (fun a o h => ok a o (List.mem_cons_of_mem _ h)) a o e
end
section
variable {X : Cy} {P : Program} {w : World} {K : Fg} {mg : Str → Option Value} {base : Heap} {sc : Scope} {N L C Gs Bs : List Str} {k j n kl : Nat} {ρ : Ro} {M : Mm} {Q : DV → Mm → Prop} {pos p lp : Pos} {x : Str} {cd : List DV} {params : Arguments} {body : Expr} {scope : Scope} {fr : List Str}
/-- behind the call the frame's lambdas are forgotten -/
def AftZ (Q : DV → Mm → Prop) : DV → Mm → Prop := fun d M' => Cf d = true ∧ Sub (fun M4 => (M4.all fun x => okO x.2) = true ∧ ∀ M5, UnM M4 M5 → Q d M5) M'
theorem we_call1LZ {c Pt : Addr} {q : Str} {ti : Nat} {sp : SpL} (S : List Str) (F : Fx X P w K mg base sc N L C Gs Bs k) (D : Dfn X) (GX : Gq X) (Mk : Mkr X c Pt q) (tb : AtM M ti Pt (.tab q)) (G : CalL P w K mg base x j 1 sp) (hj : j ≤ k) (hx : x ∈ Gs) (hl : lamC sc scope = true) (hp : plainArgs params = true)
    (hf : frOf scope = fr) (hc : ∀ y ∈ fr, y ∈ C ∧ y ∉ S) (hs : AtS N ρ fr cd)
    (h : ∀ cl, ∃ M2, ClZM X N S ρ M M2 ∧ sp [(⟨q, params, body, scope, fr⟩, cl, cd)] [.lam ⟨q, params, body, scope, fr⟩ cl] M2 (AftZ Q) (fun _ _ _ => False)) : WE X ρ M (.Call (.Name x p) [.Lambda params body scope lp] [] pos) Q := fun σ H rs m pins s I => by
  subst hf
  obtain ⟨f, fd, ps, hn, G, hm, hk, hb⟩ := G.ex
  obtain ⟨g1, g2, g3⟩ := F.gl x hx
  have eP := F.hP; have ew := F.hw; have eK := F.hK; have eg := F.hmg; have eb := F.hbase
  subst eP ew eK eg eb
  have own : ∀ y c, X.env.cells.lookup y = some c → X.s_0.heap.objs.size ≤ c := fun y c z => I.ok.cab y c (D.hn y) z
  have hsb : ∀ y c, (cellsS S X.env.cells).lookup y = some c → X.env.cells.lookup y = some c := fun y c e => (cellsS_in e).2
  have W : WA X ρ M [.Lambda params body scope lp] fun ds M1 => ds = [.lam ⟨q, params, body, scope, frOf scope⟩ (cloFrom X.env.cells scope.names [])] ∧ M1 = M := wa_cons' rfl (we_lam F Mk tb hl hp (wa_nil ⟨rfl, rfl⟩))
  refine wpAny_Call_Name_kw (ld_glob I g1 hm ?_ g2)
  refine PySem.W.callWith_K (h₀ := X.base) I.ok.mod.kin hk (thn (pa_w.run pos pins s σ H _ I (W σ H rs m)) fun us s1 ⟨vs, H1, I1, r, ds, M1, k1, k2, k3, k4, k5⟩ => ⟨I1.kIn, ?_⟩) rfl rfl
  subst k4 k5
  have rs1 := rs.mono k3
  obtain ⟨M2, c2, hsp⟩ := h (cloFrom X.env.cells scope.names [])
  have sts : Stay X.K H1 (pinC s1.heap (cellsS S X.env.cells) H1) := pinC_stayS I1 hsb
  obtain ⟨cs, lv, rc⟩ := liv_own (La := ⟨q, params, body, scope, frOf scope⟩) F I1 rs1 rfl (fun y hy => (hc y hy).1) hs
  have hul : us.length = ps.length := by rw [← r.length, ← k1.length, hn]; rfl
  have hb' := hb s1 us I1.kIn (by simpa using hul)
  rw [List.append_nil] at hb'
  have zr := c2.rm I1 F.hN rs1 k2
  refine wpAny_call (codeAny_mono (G X.A X.stack s1 (pinC s1.heap (cellsS S X.env.cells) H1) ⟨us, []⟩ us vs [(⟨q, params, body, scope, frOf scope⟩, _, cd)] _ M2 (AftZ Q) (fun _ _ _ => False) (fun v H' => ∃ d M', RD X.K H' d v ∧ RM X.K H' M' ∧ Stay X.K (pinC s1.heap (cellsS S X.env.cells) H1) H' ∧ AftZ Q d M') (fun _ _ _ => False) (F.room.mono hj) GX.gd (pinC_env0S I1 hsb own) hb' r (fun L' cl' cd' hm' => ?_) (k1.mono sts) zr (by rw [hn]; rfl) hsp (fun d M' q v H' r1 r2 r3 => ⟨d, M', r1, r2, r3, q⟩) fun C fs M' q de H' e1 e3 st => q) fun r s' hq => ?_)
  · rw [List.mem_singleton] at hm'
    cases hm'
    obtain ⟨l1, l2, l3, l4⟩ := lv
    refine ⟨cs, ⟨l1, l2, l3, fun i y e => ?_⟩, rc.mono sts⟩
    obtain ⟨c, oc, v, u, a1, a2, a3⟩ := l4 i y e
    refine ⟨c, oc, v, u, a1, ?_, a3⟩
    have hy := hc y (List.mem_of_getElem? e)
    obtain ⟨c0, hc0⟩ := I1.ok.has y (.inl (F.cel y hy.1).1)
    have hc0 : X.env.cells.lookup y = some c0 := hc0
    have e0 : c0 = c := by
      rcases cloFrom_mem (PySem.mem_of_lookup a1) with z | ⟨z1, z2⟩
      · cases z
      · rw [hc0] at z2
        exact z2.symm
    subst e0
    rw [pinC_else fun y' z => ?_]
    · exact a2
    · obtain ⟨z1, z2⟩ := cellsS_in z
      have := I1.ok.inj y y' c0 hc0 z2
      exact hy.2 (this ▸ z1)
  match r, hq with
  | .error e, hq =>
    obtain ⟨a, B, H', cls, d, _, _, _, _, _, _, _, hE⟩ := hq
    exact hE.elim
  | .ok (.ret u), hq =>
    refine I1.after (offC_ceS I1 hsb own (Q' := LE X.K H Q) hq fun v H3 ⟨d, M', r1, r2, r3, cf, M4, sub4, ok4, q4⟩ pa => ?_)
    obtain ⟨M5, u5, rm5⟩ := (r2.less sub4).un pa ok4
    refine ⟨d, M5, r1.off pa cf, rm5, k3.trans ?_, q4 M5 u5⟩
    have ex : ∀ a u, H1 a = some u → offC (cellsS S X.env.cells) H3 a = H3 a := fun a u hu => offC_else fun y z => by rw [I1.freeC y a (hsb y a z)] at hu; cases hu
    exact ⟨fun a xs z => by rw [ex a _ z]; exact r3.tup a xs (pinC_extS I1 hsb z), fun a o u z => by rw [ex a _ z]; exact r3.frz a o u (pinC_extS I1 hsb z), fun a q z => by rw [ex a _ z]; exact r3.cod a q (pinC_extS I1 hsb z), fun a fs z => by rw [ex a _ z]; exact r3.xd a fs (pinC_extS I1 hsb z)⟩
  | .ok .next, hq => exact False.elim hq
  | .ok .brk, hq => exact False.elim hq
  | .ok .cont, hq => exact False.elim hq
/-- x(lambda: body), the cells of the names S frozen -/
theorem we_askZ {c Pt : Addr} {q : Str} {ti : Nat} {onV : DV → Mm → (DV → Mm → Prop) → Prop} {onE : Addr → List (Str × DV) → Mm → (DV → Mm → Prop) → (Addr → List (Str × DV) → Mm → Prop) → Prop} [F : Fx X P w K mg base sc N L C Gs Bs k] [D : Dfn X] [GX : Gq X] [Mk : Mkr X c Pt q] [tb : AtM M ti Pt (.tab q)] [G : CalL P w K mg base x j 1 (spAsk P w K mg base kl onV onE)] [hx : MemC x Gs]
    (S fr N' Gs' Bs' : List Str) [hs : AtS N ρ fr cd] (hj : Nat.ble j k = true) (hl : (lamC sc scope && plainArgs params && noParams params) = true) (hf : frOf scope = fr) (hc : (fr.all fun y => decide (y ∈ C) && decide (y ∉ S)) = true) (h1 : NdefX.nscB N' [] fr scope = true) (h2 : stat scope N' [] [] Gs' = true) (h3 : ∀ x ∈ Bs', mg x = none)
    (h : ∃ M2, ClZM X N S ρ M M2 ∧ ∀ Y, Fx Y P w K mg base scope N' [] [] Gs' Bs' kl → Gq Y → Tk Y (fun C fs _ M' => Sub (fun M1 => onE C fs M1 (AftZ Q) fun _ _ _ => False) M') → WE Y (ini N' cd) M2 body (fun d M' => Sub (fun M1 => onV d M1 (AftZ Q)) M')) : WE X ρ M (.Call (.Name x p) [.Lambda params body scope lp] [] pos) Q := by
  simp only [Bool.and_eq_true] at hl
  obtain ⟨M2, c2, h⟩ := h
  refine we_call1LZ S F D GX Mk tb G (Nat.le_of_ble_eq_true hj) hx.h hl.1.1 hl.1.2 hf (fun y hy => by simpa using List.all_eq_true.mp hc y hy) hs fun cl => ?_
  exact ⟨M2, c2, _, _, _, rfl, rfl, lamR_mk N' Gs' Bs' h1 h2 h3 hl.2 h⟩
end
end G
namespace G
open PySem L2
-- conditions
local macro_rules | `(tactic| walk_at "c") => `(tactic| first | exact rfl | decide | exact Nat.le_of_ble_eq_true rfl | assumption | omega | exact ⟨by decide, by decide⟩ | exact ⟨by decide, by decide, by decide⟩ | exact cdiv_of (by first | assumption | omega) (by first | assumption | omega) | exact Or.inl (Or.inl ⟨by decide, by decide⟩) | exact Or.inl (Or.inr ⟨by decide, by decide⟩) | exact Or.inl (Or.inl ⟨by omega, by omega⟩) | exact Or.inl (Or.inr ⟨by omega, by omega⟩) | exact ⟨_, _, _, rfl, inferInstance⟩ | exact ⟨_, _, _, _, rfl, inferInstance⟩ | exact ⟨_, rfl⟩)
local macro_rules | `(tactic| walk_at "1") => `(tactic| first | (refine Step.h ?g0 ?_; exact rfl) | (refine Side.mk (by walk_at "c") ?_) | (refine ModD.gz (by walk_at "c") ?_) | with_reducible intro _)
local macro_rules | `(tactic| walk_at "go") => `(tactic| repeat walk_at "1")
local macro_rules | `(tactic| walk_at "sub") => `(tactic| first | exact List.Sublist.refl _ | (refine List.Sublist.cons₂ _ ?_; walk_at "sub") | (refine List.Sublist.cons _ ?_; walk_at "sub") | exact List.nil_sublist _)
local macro_rules | `(tactic| walk_at "body") => `(tactic| ((conv in (defBody _) => whnf); dsimp only [ini]))
local macro_rules | `(tactic| walk_at "if") => `(tactic| first | refine And.intro (fun _ => ?_) (fun z => absurd rfl (of_decide_eq_false z)) | refine And.intro (fun z => absurd (of_decide_eq_true z) (by omega)) (fun _ => ?_) | refine And.intro (fun _ => ?_) (fun z => absurd (of_decide_eq_false z) (by omega)))
local macro_rules | `(tactic| walk_at "gi") => `(tactic| repeat (first | walk_at "1" | walk_at "if"))
local macro_rules | `(tactic| walk_at "gs") => `(tactic| repeat (first | walk_at "1" | walk_at "if" | simp only [List.set_cons_succ, List.set_cons_zero, List.set_set]))
local macro_rules | `(tactic| walk_at "ifd") => `(tactic| first | refine And.intro (fun z => absurd z (by decide)) (fun _ => ?_) | refine And.intro (fun _ => ?_) (fun z => absurd z (by decide)) | refine And.intro (fun z => absurd z (by simp)) (fun _ => ?_) | refine And.intro (fun _ => ?_) (fun z => absurd z (by simp)))
local macro_rules | `(tactic| walk_at "gj") => `(tactic| repeat (first | walk_at "1" | walk_at "if" | walk_at "ifd"))
mutual
def sizeD : DV → Nat
  | .tup ds => 1 + sizeDs ds
  | .lis _ => 1
  | .non => 1
  | .bl _ => 1
  | .int _ => 1
  | .str _ => 1
  | .ty _ => 1
  | .ref _ => 1
  | .tupA _ _ => 1
  | .lam _ _ => 1
  | .clo _ _ => 1
  | .dic _ _ => 1
  | .insF _ _ _ => 1
def sizeDs : List DV → Nat
  | [] => 0
  | d :: ds => sizeD d + sizeDs ds
end
mutual
/-- what is_plain tells of a value with so much room -/
def plainD : DV → Nat → Bool
  | .tup [], _ => true
  | .tup (_ :: _), 0 => false
  | .tup (d :: ds), r + 1 => plainD d r && plainDs ds r
  | .non, _ => true
  | .int _, _ => true
  | .str _, _ => true
  | _, _ => false
def plainDs : List DV → Nat → Bool
  | [], _ => true
  | d :: ds, r => plainD d r && plainDs ds r
end
theorem plain_tup {ds : List DV} {r : Nat} : plainD (.tup ds) (r + 1) = plainDs ds r := by
  cases ds with
  | nil => rw [plainD, plainDs]
  | cons d ds => rw [plainD, plainDs]
theorem plainDs_all {ds : List DV} {r : Nat} : plainDs ds r = ds.all fun d => plainD d r := by
  induction ds with
  | nil => rw [plainDs]; rfl
  | cons d ds ih => rw [plainDs, ih]; rfl
/-- a value of which is_plain can tell all -/
inductive Knp (K : Fg) (M : Mm) : DV → Prop
  | non : Knp K M .non
  | bl (b : Bool) : Knp K M (.bl b)
  | int (i : Int) : Knp K M (.int i)
  | str (x : Str) : Knp K M (.str x)
  | tup {ds : List DV} : (∀ d ∈ ds, Knp K M d) → Knp K M (.tup ds)
  | ref {p : Addr} : OddR K M p → Knp K M (.ref p)
theorem Knp.less {K : Fg} {M0 M : Mm} (s : M0.Sublist M) {d : DV} (h : Knp K M0 d) : Knp K M d := by
  induction h with
  | non => exact .non
  | bl b => exact .bl b
  | int i => exact .int i
  | str x => exact .str x
  | tup _ ih => exact .tup ih
  | ref h => exact .ref (h.less s)
theorem Knp.kn {K : Fg} {M : Mm} {d : DV} (h : Knp K M d) : Kn K M d := by
  induction h with
  | non => exact .non
  | bl b => exact .bl b
  | int i => exact .int i
  | str x => exact .str x
  | tup _ ih => exact .tup ih
  | ref h => exact .ref h
/-! plain values as keys and as data -/
/-! ### the values of tables -/
abbrev Ch := Nat ⊕ Int
def vS : List DV := [.int 0, .int 1, .int (-7), .str "", .str "a", .str "b c", .non, .tup [], .tup [.int 1, .str "a"], .tup [.tup [.non], .int 2], .int (10 ^ 20), .str "A", .tup [.int 0], .int 2, .str "zz", .tup [.tup [.tup [.tup [.int 1]]]]]
def svD : Ch → DV
  | .inl x => vS.getD x .non
  | .inr z => .int z
def okCh : Ch → Prop
  | .inl x => x < 16
  | .inr z => 1000 ≤ z ∧ z < 1000 + 10 ^ 9
theorem sv_plain {c : Ch} (h : okCh c) : plainD (svD c) 4 = true ∧ sizeD (svD c) ≤ 100 ∧ Cf (svD c) = true := by
  have all : ∀ x : Fin 16, plainD (vS.getD x .non) 4 = true ∧ sizeD (vS.getD x .non) ≤ 100 ∧ Cf (vS.getD x .non) = true := by decide +kernel
  cases c with
  | inl x => exact all ⟨x, h⟩
  | inr z => exact ⟨by show plainD (.int z) 4 = true; rw [plainD] <;> simp, by show sizeD (.int z) ≤ 100; rw [sizeD]; decide, by show Cf (.int z) = true; rw [Cf] <;> simp⟩
theorem knp1 {K : Fg} {M : Mm} {d : DV} (h : Knp K M d) : Knp K M (.tup [d]) := .tup fun x hx => by rw [List.mem_singleton.mp hx]; exact h
theorem knp2 {K : Fg} {M : Mm} {d e : DV} (h : Knp K M d) (g : Knp K M e) : Knp K M (.tup [d, e]) := .tup fun x hx => by
  rcases List.mem_cons.mp hx with rfl | hx
  · exact h
  · rw [List.mem_singleton.mp hx]; exact g
theorem sv_knp {c : Ch} (h : okCh c) {K : Fg} {M : Mm} : Knp K M (svD c) := by
  cases c with
  | inl x =>
    match x, h with
    | 0, _ => exact .int _
    | 1, _ => exact .int _
    | 2, _ => exact .int _
    | 3, _ => exact .str _
    | 4, _ => exact .str _
    | 5, _ => exact .str _
    | 6, _ => exact .non
    | 7, _ => exact .tup fun d h => nomatch h
    | 8, _ => exact knp2 (.int _) (.str _)
    | 9, _ => exact knp2 (knp1 .non) (.int _)
    | 10, _ => exact .int _
    | 11, _ => exact .str _
    | 12, _ => exact knp1 (.int _)
    | 13, _ => exact .int _
    | 14, _ => exact .str _
    | 15, _ => exact knp1 (knp1 (knp1 (knp1 (.int _))))
    | n + 16, h => exact absurd (show n + 16 < 16 from h) (by omega)
  | inr z => exact .int z
/-- a list of values, no two alike -/
structure VC (cs : List Ch) : Prop where
  nd : cs.Nodup
  ok : ∀ c ∈ cs, okCh c
  ln : cs.length ≤ 16
/-- the places that are drawn -/
def chs (at_ step : Int) (n : Nat) : List Ch := (List.range n).map fun (k : Nat) => .inl ((at_ + step * (k : Int)) % 16).toNat
theorem chs_ok {at_ t : Int} (h1 : 0 ≤ at_) (h2 : at_ < 16) (h3 : 0 ≤ t) (h4 : t < 8) {n : Nat} (hn : n ≤ 16) : VC (chs at_ (1 + 2 * t) n) := by
  have pos : ∀ k : Nat, 0 ≤ (at_ + (1 + 2 * t) * (k : Int)) % 16 ∧ (at_ + (1 + 2 * t) * (k : Int)) % 16 < 16 := fun k => ⟨Int.emod_nonneg _ (by decide), Int.emod_lt_of_pos _ (by decide)⟩
  refine ⟨?_, ?_, by unfold chs; rw [List.length_map, List.length_range]; exact hn⟩
  · unfold chs
    refine List.Pairwise.map _ (fun a b h => h) (List.Pairwise.imp_of_mem (R := fun a b => a ≠ b) (fun {a b} ha hb hab e => ?_) List.nodup_range)
    have ha := List.mem_range.mp ha
    have hb := List.mem_range.mp hb
    have e : ((at_ + (1 + 2 * t) * (a : Int)) % 16).toNat = ((at_ + (1 + 2 * t) * (b : Int)) % 16).toNat := Sum.inl.inj e
    have pa := pos a
    have pb := pos b
    have e : (at_ + (1 + 2 * t) * (a : Int)) % 16 = (at_ + (1 + 2 * t) * (b : Int)) % 16 := by omega
    apply hab
    obtain rfl | rfl | rfl | rfl | rfl | rfl | rfl | rfl : t = 0 ∨ t = 1 ∨ t = 2 ∨ t = 3 ∨ t = 4 ∨ t = 5 ∨ t = 6 ∨ t = 7 := by omega
    all_goals omega
  · intro c hc
    unfold chs at hc
    obtain ⟨k, _, rfl⟩ := List.mem_map.mp hc
    have := pos k
    show ((at_ + (1 + 2 * t) * (k : Int)) % 16).toNat < 16
    omega
theorem VC.put {cs : List Ch} (h : VC cs) (hs : ∀ c ∈ cs, ∃ x, c = .inl x) {i : Nat} {z : Int} (hz : 1000 ≤ z ∧ z < 1000 + 10 ^ 9) : VC (cs.set i (.inr z)) := by
  refine ⟨?_, fun c hc => ?_, by rw [List.length_set]; exact h.ln⟩
  · refine List.pairwise_iff_getElem.mpr fun a b ha hb hab => ?_
    rw [List.length_set] at ha hb
    have nd := List.pairwise_iff_getElem.mp h.nd a b ha hb hab
    have key : ∀ (j : Nat) (hj : j < cs.length), cs[j] ≠ .inr z := fun j hj e => by
      obtain ⟨x, ex⟩ := hs _ (List.getElem_mem hj)
      rw [e] at ex
      cases ex
    rw [List.getElem_set, List.getElem_set]
    split
    · split
      · omega
      · exact (key b hb).symm
    · split
      · exact key a ha
      · exact nd
  · rcases List.mem_or_eq_of_mem_set hc with z | rfl
    · exact h.ok c z
    · exact hz
/-! ### tables -/
structure Tab where
  ls : List Ch
  ks : List Ch
  qs : List Ch
  ow : List Nat
  jn : List (List Nat)
  ft : List (List Bool)
  lt : List (List Bool)
structure TabOk (t : Tab) (most : Nat) : Prop where
  ls : VC t.ls
  ks : VC t.ks
  qs : VC t.qs
  l0 : 0 < t.ls.length
  l1 : t.ls.length ≤ most
  k0 : 0 < t.ks.length
  k1 : t.ks.length ≤ 4
  q0 : 0 < t.qs.length
  q1 : t.qs.length ≤ 3
  ow : t.ow.length = t.ks.length
  ow1 : ∀ x ∈ t.ow, x < t.ls.length
  jn : t.jn.length = t.ls.length
  jn1 : ∀ r ∈ t.jn, r.length = t.ls.length ∧ ∀ x ∈ r, x < t.ls.length
  ft : t.ft.length = t.ks.length
  ft1 : ∀ r ∈ t.ft, r.length = t.qs.length
  lt : t.lt.length = t.ls.length
  lt1 : ∀ r ∈ t.lt, r.length = t.qs.length
def rowsD (l : List (List Nat)) : List DV := l.map fun r => .lis (natsD r)
def flagsD (l : List (List Bool)) : List DV := l.map fun r => .lis (r.map .bl)
def tabD (t : Tab) : List (Key × DV) := [(.inr "labels", .lis (t.ls.map svD)), (.inr "keys", .lis (t.ks.map svD)), (.inr "questions", .lis (t.qs.map svD)), (.inr "owns", .lis (natsD t.ow)), (.inr "joins", .lis (rowsD t.jn)), (.inr "fits", .lis (flagsD t.ft)), (.inr "lets", .lis (flagsD t.lt))]
theorem getD_mem {α : Type} {l : List α} {i : Nat} {z : α} (h : i < l.length) : l.getD i z ∈ l := by
  rw [List.getD_eq_getElem?_getD, List.getElem?_eq_getElem h]
  exact List.getElem_mem h
theorem getD_some {α : Type} {l : List α} {i : Nat} {z : α} (h : i < l.length) : l[i]? = some (l.getD i z) := by
  rw [List.getD_eq_getElem?_getD, List.getElem?_eq_getElem h]
  rfl
/-! dicts by the keys' own names -/
section
variable {β γ : Type} [DecidableEq β] {f : β → DV} {P : β → Prop} {l : List (β × γ)} {x y : β} {v : γ}
variable {g : γ → DV}
end
/-! dicts whose values follow from the keys -/
section
variable {β : Type} [DecidableEq β] {f g : β → DV} {P : β → Prop} {L : List β} {x y : β}
end
/-! a value as a key tells the value -/
/-! plain values are told by what repr shows of them -/
open TL in
section
open TL
end
section
open TL
end
/-! in ascending order of repr -/
def top (i : Nat) : Stmt := PySem.Challenge.pw_kindgrove_k26_what_is_no_recipe_or_way.main.body.getD i (.Pass ⟨0, 0, 0, 0⟩)
-- class GroveError: top 1
-- class BadValue: top 2
-- BadValue.__init__(self, value)
abbrev s_BadValue__init__ : Stmt := inClass (top 2) 0
abbrev n_BadValue__init__ : List Str := ["self", "value"]
theorem sc_BadValue__init__ : FnScope n_BadValue__init__ ["self", "value"] (defScope s_BadValue__init__) := ⟨rfl, rfl, rfl, by decide +kernel, rfl, by decide +kernel, by decide +kernel⟩
-- class NotGiven: top 3
-- NotGiven.__init__(self, name)
-- class TooLarge: top 4
-- class BadRecipe: top 5
-- BadRecipe.__init__(self, at)
abbrev s_BadRecipe__init__ : Stmt := inClass (top 5) 0
abbrev n_BadRecipe__init__ : List Str := ["self", "at"]
theorem sc_BadRecipe__init__ : FnScope n_BadRecipe__init__ ["self", "at"] (defScope s_BadRecipe__init__) := ⟨rfl, rfl, rfl, by decide +kernel, rfl, by decide +kernel, by decide +kernel⟩
-- class BadWay: top 6
-- BadWay.__init__(self, at)
abbrev s_BadWay__init__ : Stmt := inClass (top 6) 0
abbrev n_BadWay__init__ : List Str := ["self", "at"]
theorem sc_BadWay__init__ : FnScope n_BadWay__init__ ["self", "at"] (defScope s_BadWay__init__) := ⟨rfl, rfl, rfl, by decide +kernel, rfl, by decide +kernel, by decide +kernel⟩
-- is_integer(thing)
abbrev s_is_integer : Stmt := top 9
abbrev n_is_integer : List Str := ["thing"]
theorem sc_is_integer : FnScope n_is_integer ["thing"] (defScope s_is_integer) := ⟨rfl, rfl, rfl, by decide +kernel, rfl, by decide +kernel, by decide +kernel⟩
theorem st_is_integer : stat (defScope s_is_integer) n_is_integer ["thing"] [] ["isinstance", "int", "bool"] = true := by decide +kernel
-- is_between(thing, low, high)
abbrev s_is_between : Stmt := top 10
abbrev n_is_between : List Str := ["thing", "low", "high"]
theorem sc_is_between : FnScope n_is_between ["thing", "low", "high"] (defScope s_is_between) := ⟨rfl, rfl, rfl, by decide +kernel, rfl, by decide +kernel, by decide +kernel⟩
theorem st_is_between : stat (defScope s_is_between) n_is_between ["thing", "low", "high"] [] ["is_integer"] = true := by decide +kernel
-- is_plain(thing)
abbrev s_is_plain : Stmt := top 11
abbrev n_is_plain : List Str := ["thing", "waiting", "one", "room", "part"]
theorem sc_is_plain : FnScope n_is_plain ["thing"] (defScope s_is_plain) := ⟨rfl, rfl, rfl, by decide +kernel, rfl, by decide +kernel, by decide +kernel⟩
theorem st_is_plain : stat (defScope s_is_plain) n_is_plain ["thing", "waiting", "one"] ["room"] ["MOST_DEEP", "len", "isinstance", "tuple", "is_integer", "str"] = true := by decide +kernel
-- comp line 35: own ['part'] at [4]; (ms := [false, false, false, true, false]) (L' := ["part"]) (C' := []) (Gs' := [])
-- want_plain(thing)
abbrev s_want_plain : Stmt := top 12
abbrev n_want_plain : List Str := ["thing"]
theorem sc_want_plain : FnScope n_want_plain ["thing"] (defScope s_want_plain) := ⟨rfl, rfl, rfl, by decide +kernel, rfl, by decide +kernel, by decide +kernel⟩
theorem st_want_plain : stat (defScope s_want_plain) n_want_plain ["thing"] [] ["is_plain", "BadValue"] = true := by decide +kernel
-- is_step(thing, at)
abbrev s_is_step : Stmt := top 17
abbrev n_is_step : List Str := ["thing", "at"]
theorem sc_is_step : FnScope n_is_step ["thing", "at"] (defScope s_is_step) := ⟨rfl, rfl, rfl, by decide +kernel, rfl, by decide +kernel, by decide +kernel⟩
theorem st_is_step : stat (defScope s_is_step) n_is_step ["thing", "at"] [] ["isinstance", "tuple", "len", "str", "is_plain", "is_between"] = true := by decide +kernel
-- recipe_fault(thing)
abbrev s_recipe_fault : Stmt := top 18
abbrev n_recipe_fault : List Str := ["thing", "at", "step"]
theorem sc_recipe_fault : FnScope n_recipe_fault ["thing"] (defScope s_recipe_fault) := ⟨rfl, rfl, rfl, by decide +kernel, rfl, by decide +kernel, by decide +kernel⟩
theorem st_recipe_fault : stat (defScope s_recipe_fault) n_recipe_fault ["thing", "at", "step"] [] ["isinstance", "tuple", "len", "MOST_STEPS", "enumerate", "is_step"] = true := by decide +kernel
-- want_recipe(thing)
abbrev s_want_recipe : Stmt := top 19
abbrev n_want_recipe : List Str := ["thing", "at"]
theorem sc_want_recipe : FnScope n_want_recipe ["thing"] (defScope s_want_recipe) := ⟨rfl, rfl, rfl, by decide +kernel, rfl, by decide +kernel, by decide +kernel⟩
theorem st_want_recipe : stat (defScope s_want_recipe) n_want_recipe ["thing", "at"] [] ["recipe_fault", "BadRecipe"] = true := by decide +kernel
-- values_of(kind, recipe)
abbrev s_values_of : Stmt := top 20
abbrev n_values_of : List Str := ["kind", "recipe", "found", "step"]
theorem sc_values_of : FnScope n_values_of ["kind", "recipe"] (defScope s_values_of) := ⟨rfl, rfl, rfl, by decide +kernel, rfl, by decide +kernel, by decide +kernel⟩
theorem st_values_of : stat (defScope s_values_of) n_values_of ["kind", "recipe", "found", "step"] [] ["len", "want_plain"] = true := by decide +kernel
-- value(kind, recipe)
abbrev s_value : Stmt := top 21
abbrev n_value : List Str := ["kind", "recipe"]
theorem sc_value : FnScope n_value ["kind", "recipe"] (defScope s_value) := ⟨rfl, rfl, rfl, by decide +kernel, rfl, by decide +kernel, by decide +kernel⟩
theorem st_value : stat (defScope s_value) n_value ["kind", "recipe"] [] ["want_recipe", "values_of"] = true := by decide +kernel
-- rows_of(recipe)
abbrev s_rows_of : Stmt := top 22
abbrev n_rows_of : List Str := ["recipe", "found", "step"]
theorem sc_rows_of : FnScope n_rows_of ["recipe"] (defScope s_rows_of) := ⟨rfl, rfl, rfl, by decide +kernel, rfl, by decide +kernel, by decide +kernel⟩
theorem st_rows_of : stat (defScope s_rows_of) n_rows_of ["recipe", "found", "step"] [] ["len"] = true := by decide +kernel
-- rows(recipe)
abbrev s_rows : Stmt := top 23
abbrev n_rows : List Str := ["recipe"]
theorem sc_rows : FnScope n_rows ["recipe"] (defScope s_rows) := ⟨rfl, rfl, rfl, by decide +kernel, rfl, by decide +kernel, by decide +kernel⟩
theorem st_rows : stat (defScope s_rows) n_rows ["recipe"] [] ["want_recipe", "rows_of"] = true := by decide +kernel
-- way_end(recipe, way)
abbrev s_way_end : Stmt := top 24
abbrev n_way_end : List Str := ["recipe", "way", "step", "at", "side"]
theorem sc_way_end : FnScope n_way_end ["recipe", "way"] (defScope s_way_end) := ⟨rfl, rfl, rfl, by decide +kernel, rfl, by decide +kernel, by decide +kernel⟩
theorem st_way_end : stat (defScope s_way_end) n_way_end ["recipe", "way", "step", "at", "side"] [] ["isinstance", "tuple", "enumerate", "is_between", "len"] = true := by decide +kernel
-- key_at(recipe, way)
abbrev s_key_at : Stmt := top 25
abbrev n_key_at : List Str := ["recipe", "way", "step"]
theorem sc_key_at : FnScope n_key_at ["recipe", "way"] (defScope s_key_at) := ⟨rfl, rfl, rfl, by decide +kernel, rfl, by decide +kernel, by decide +kernel⟩
theorem st_key_at : stat (defScope s_key_at) n_key_at ["recipe", "way", "step"] [] ["want_recipe", "way_end", "len", "BadWay"] = true := by decide +kernel
-- raised(shape, height, wanted)
abbrev s_raised : Stmt := top 26
-- shape_at(recipe, heights, at)
abbrev s_shape_at : Stmt := top 27
-- shape_of(recipe)
abbrev s_shape_of : Stmt := top 28
abbrev n_shape_of : List Str := ["recipe", "heights", "step"]
theorem sc_shape_of : FnScope n_shape_of ["recipe"] (defScope s_shape_of) := ⟨rfl, rfl, rfl, by decide +kernel, rfl, by decide +kernel, by decide +kernel⟩
theorem st_shape_of : stat (defScope s_shape_of) n_shape_of ["recipe", "heights", "step"] [] ["want_recipe", "len", "max", "rows_of", "MOST_ROWS", "MOST_HEIGHT", "TooLarge", "shape_at"] = true := by decide +kernel
-- class Kind: top 30
-- Kind.own(self, key)
-- Kind.join(self, one, other)
-- Kind.consistent(self, label, question)
-- Kind.matches(self, key, question)
-- Kind.penalty(self, label, key)
-- Kind.sides(self, labels)
-- comp line 138: own ['at'] at [2]; (ms := [false, true, false]) (L' := ["at"]) (C' := []) (Gs' := ["int", "len"])
-- class Measured: top 31
-- Measured.distance(self, key, point)
-- Measured.bound(self, label, point)
-- class Calls: top 32
-- Calls.__init__(self, own, join, consistent, matches, penalty, sides, distance, bound)
abbrev s_Calls__init__ : Stmt := inClass (top 32) 0
abbrev n_Calls__init__ : List Str := ["self", "own", "join", "consistent", "matches", "penalty", "sides", "distance", "bound"]
theorem sc_Calls__init__ : FnScope n_Calls__init__ ["self", "own", "join", "consistent", "matches", "penalty", "sides", "distance", "bound"] (defScope s_Calls__init__) := ⟨rfl, rfl, rfl, by decide +kernel, rfl, by decide +kernel, by decide +kernel⟩
theorem st_Calls__init__ : stat (defScope s_Calls__init__) n_Calls__init__ ["self", "own", "join", "consistent", "matches", "penalty", "sides", "distance", "bound"] [] [] = true := by decide +kernel
-- Calls.own(self, key)
abbrev s_Calls_own : Stmt := inClass (top 32) 1
abbrev n_Calls_own : List Str := ["self", "key"]
theorem sc_Calls_own : FnScope n_Calls_own ["self", "key"] (defScope s_Calls_own) := ⟨rfl, rfl, rfl, by decide +kernel, rfl, by decide +kernel, by decide +kernel⟩
theorem st_Calls_own : stat (defScope s_Calls_own) n_Calls_own ["self", "key"] [] [] = true := by decide +kernel
-- Calls.join(self, one, other)
abbrev s_Calls_join : Stmt := inClass (top 32) 2
abbrev n_Calls_join : List Str := ["self", "one", "other"]
theorem sc_Calls_join : FnScope n_Calls_join ["self", "one", "other"] (defScope s_Calls_join) := ⟨rfl, rfl, rfl, by decide +kernel, rfl, by decide +kernel, by decide +kernel⟩
theorem st_Calls_join : stat (defScope s_Calls_join) n_Calls_join ["self", "one", "other"] [] [] = true := by decide +kernel
-- Calls.consistent(self, label, question)
-- Calls.matches(self, key, question)
-- Calls.penalty(self, label, key)
-- theorem sc_Calls_penalty : FnScope n_Calls_penalty ["self", "label", "key"] (defScope s_Calls_penalty) := ⟨rfl, rfl, rfl, by decide +kernel, rfl, by decide +kernel, by decide +kernel⟩
-- theorem st_Calls_penalty : stat (defScope s_Calls_penalty) n_Calls_penalty ["self", "label", "key"] [] ["super"] = true := by decide +kernel
-- Calls.sides(self, labels)
-- theorem sc_Calls_sides : FnScope n_Calls_sides ["self", "labels"] (defScope s_Calls_sides) := ⟨rfl, rfl, rfl, by decide +kernel, rfl, by decide +kernel, by decide +kernel⟩
-- theorem st_Calls_sides : stat (defScope s_Calls_sides) n_Calls_sides ["self", "labels"] [] ["super"] = true := by decide +kernel
-- Calls.distance(self, key, point)
-- Calls.bound(self, label, point)
-- _law_well(_law_cell)
abbrev s_l_well : Stmt := top 34
abbrev n_l_well : List Str := ["_law_cell"]
theorem sc_l_well : FnScope n_l_well ["_law_cell"] (defScope s_l_well) := ⟨rfl, rfl, rfl, by decide +kernel, rfl, by decide +kernel, by decide +kernel⟩
theorem st_l_well : stat (defScope s_l_well) n_l_well ["_law_cell"] [] ["int"] = true := by decide +kernel
-- _law_draw(_law_well_here, _law_many)
abbrev s_l_draw : Stmt := top 35
abbrev n_l_draw : List Str := ["_law_well_here", "_law_many", "_law_digit", "_law_number", "_law_more"]
theorem sc_l_draw : FnScope n_l_draw ["_law_well_here", "_law_many"] (defScope s_l_draw) := ⟨rfl, rfl, rfl, by decide +kernel, rfl, by decide +kernel, by decide +kernel⟩
theorem st_l_draw : stat (defScope s_l_draw) n_l_draw ["_law_well_here", "_law_many", "_law_digit", "_law_number", "_law_more"] [] ["int"] = true := by decide +kernel
-- _law_one(_law_well_here, _law_some)
abbrev s_l_one : Stmt := top 36
abbrev n_l_one : List Str := ["_law_well_here", "_law_some"]
theorem sc_l_one : FnScope n_l_one ["_law_well_here", "_law_some"] (defScope s_l_one) := ⟨rfl, rfl, rfl, by decide +kernel, rfl, by decide +kernel, by decide +kernel⟩
theorem st_l_one : stat (defScope s_l_one) n_l_one ["_law_well_here", "_law_some"] [] ["_law_draw", "len"] = true := by decide +kernel
-- _law_values(_law_well_here, _law_many)
abbrev s_l_values : Stmt := top 37
abbrev n_l_values : List Str := ["_law_well_here", "_law_many", "_law_some", "_law_at", "_law_step", "_law_found", "_law_k"]
theorem sc_l_values : FnScope n_l_values ["_law_well_here", "_law_many"] (defScope s_l_values) := ⟨rfl, rfl, rfl, by decide +kernel, rfl, by decide +kernel, by decide +kernel⟩
theorem st_l_values : stat (defScope s_l_values) n_l_values ["_law_well_here", "_law_many", "_law_found"] ["_law_some", "_law_at", "_law_step"] ["_law_draw", "range"] = true := by decide +kernel
-- comp line 207: own ['_law_k'] at [6]; (ms := [false, false, true, true, true, false, false]) (L' := ["_law_k"]) (C' := []) (Gs' := ["int"])
-- _law_made(_law_well_here, _law_way, _law_a, _law_b, _law_many)
abbrev s_l_made : Stmt := top 38
abbrev n_l_made : List Str := ["_law_well_here", "_law_way", "_law_a", "_law_b", "_law_many"]
theorem sc_l_made : FnScope n_l_made ["_law_well_here", "_law_way", "_law_a", "_law_b", "_law_many"] (defScope s_l_made) := ⟨rfl, rfl, rfl, by decide +kernel, rfl, by decide +kernel, by decide +kernel⟩
theorem st_l_made : stat (defScope s_l_made) n_l_made ["_law_well_here", "_law_way", "_law_a", "_law_b", "_law_many"] [] ["max", "int", "_law_draw"] = true := by decide +kernel
-- _law_table(_law_well_here, _law_most_labels)
abbrev s_l_table : Stmt := top 39
abbrev n_l_table : List Str := ["_law_well_here", "_law_most_labels", "_law_many", "_law_count", "_law_asked", "_law_way", "_law_table_here", "_law_places", "_law_joins", "_law_fits", "_law_lets", "_law_k", "_law_a", "_law_b", "_law_q"]
theorem sc_l_table : FnScope n_l_table ["_law_well_here", "_law_most_labels"] (defScope s_l_table) := ⟨rfl, rfl, rfl, by decide +kernel, rfl, by decide +kernel, by decide +kernel⟩
theorem st_l_table : stat (defScope s_l_table) n_l_table ["_law_most_labels", "_law_count", "_law_table_here", "_law_joins", "_law_fits", "_law_lets"] ["_law_well_here", "_law_many", "_law_asked", "_law_way", "_law_places"] ["_law_draw", "_law_values", "range", "list", "dict"] = true := by decide +kernel
-- comp line 228: own ['_law_k'] at [11]; (ms := [true, false, true, false, false, false, false, false, false, false, false, false, false, false, false]) (L' := ["_law_k"]) (C' := []) (Gs' := ["_law_draw"])
-- comp line 230: own ['_law_a'] at [12]; (ms := [true, false, true, false, false, true, false, true, false, false, false, false, false, false, false]) (L' := []) (C' := ["_law_a"]) (Gs' := [])
-- comp line 230: own ['_law_b'] at [13]; (ms := [true, false, true, false, false, true, false, false, false, false, false, false, true, false, false]) (L' := ["_law_b"]) (C' := []) (Gs' := ["_law_made"])
-- comp line 231: own ['_law_k'] at [11]; (ms := [true, false, false, false, true, false, false, false, false, false, false, false, false, false, false]) (L' := ["_law_k"]) (C' := []) (Gs' := ["range"])
-- comp line 231: own ['_law_q'] at [14]; (ms := [true, false, false, false, false, false, false, false, false, false, false, false, false, false, false]) (L' := ["_law_q"]) (C' := []) (Gs' := ["_law_draw"])
-- comp line 232: own ['_law_a'] at [12]; (ms := [true, false, false, false, true, false, false, false, false, false, false, false, false, false, false]) (L' := ["_law_a"]) (C' := []) (Gs' := ["range"])
-- comp line 232: own ['_law_q'] at [14]; (ms := [true, false, false, false, false, false, false, false, false, false, false, false, false, false, false]) (L' := ["_law_q"]) (C' := []) (Gs' := ["_law_draw"])
-- _law_kind(_law_table_here)
abbrev s_l_kind : Stmt := top 40
abbrev n_l_kind : List Str := ["_law_table_here", "_law_names", "_law_given", "_law_asked", "_law_owns", "_law_joins", "_law_lets", "_law_fits", "_law_x", "_law_a", "_law_b", "_law_q"]
theorem sc_l_kind : FnScope n_l_kind ["_law_table_here"] (defScope s_l_kind) := ⟨rfl, rfl, rfl, by decide +kernel, rfl, by decide +kernel, by decide +kernel⟩
theorem st_l_kind : stat (defScope s_l_kind) n_l_kind ["_law_table_here"] ["_law_names", "_law_given", "_law_asked", "_law_owns", "_law_joins", "_law_lets", "_law_fits"] ["Calls"] = true := by decide +kernel
-- lambda line 239: params ['_law_x'] at [8]; (ms := [false, true, true, false, true, false, false, false, false, false, false, false]) (Gs' := [])
-- lambda line 239: params ['_law_a', '_law_b'] at [9, 10]; (ms := [false, true, false, false, false, true, false, false, false, false, false, false]) (Gs' := [])
-- lambda line 239: params ['_law_a', '_law_q'] at [9, 11]; (ms := [false, true, false, true, false, false, true, false, false, false, false, false]) (Gs' := [])
-- lambda line 239: params ['_law_x', '_law_q'] at [8, 11]; (ms := [false, false, true, true, false, false, false, true, false, false, false, false]) (Gs' := [])
-- _law_recipe(_law_well_here, _law_given, _law_many)
abbrev s_l_recipe : Stmt := top 41
abbrev n_l_recipe : List Str := ["_law_well_here", "_law_given", "_law_many", "_law_steps", "_law_k"]
theorem sc_l_recipe : FnScope n_l_recipe ["_law_well_here", "_law_given", "_law_many"] (defScope s_l_recipe) := ⟨rfl, rfl, rfl, by decide +kernel, rfl, by decide +kernel, by decide +kernel⟩
theorem st_l_recipe : stat (defScope s_l_recipe) n_l_recipe ["_law_well_here", "_law_given", "_law_many", "_law_steps", "_law_k"] [] ["_law_one", "range", "_law_draw", "min", "tuple"] = true := by decide +kernel
-- _law_rows_of(_law_recipe_here)
-- _law_value_of(_law_table_here, _law_recipe_here)
-- _law_said(_law_ask)
abbrev s_l_said : Stmt := top 44
abbrev n_l_said : List Str := ["_law_ask", "e"]
theorem sc_l_said : FnScope n_l_said ["_law_ask"] (defScope s_l_said) := ⟨rfl, rfl, rfl, by decide +kernel, rfl, by decide +kernel, by decide +kernel⟩
theorem st_l_said : stat (defScope s_l_said) n_l_said ["_law_ask", "e"] [] ["BadRecipe", "repr", "BadWay", "BadValue", "GroveError"] = true := by decide +kernel
-- _law_all_say(_law_kind_here, _law_thing, _law_way, _law_at)
abbrev s_l_all_say : Stmt := top 45
abbrev n_l_all_say : List Str := ["_law_kind_here", "_law_thing", "_law_way", "_law_at", "_law_due"]
theorem sc_l_all_say : FnScope n_l_all_say ["_law_kind_here", "_law_thing", "_law_way", "_law_at"] (defScope s_l_all_say) := ⟨rfl, rfl, rfl, by decide +kernel, rfl, by decide +kernel, by decide +kernel⟩
theorem st_l_all_say : stat (defScope s_l_all_say) n_l_all_say ["_law_at", "_law_due"] ["_law_kind_here", "_law_thing", "_law_way"] ["repr", "_law_said"] = true := by decide +kernel
-- lambda line 275: params [] at []; (ms := [true, true, false, false, false]) (Gs' := ["value"])
-- lambda line 277: params [] at []; (ms := [false, true, false, false, false]) (Gs' := ["rows"])
-- lambda line 279: params [] at []; (ms := [false, true, true, false, false]) (Gs' := ["key_at"])
-- lambda line 281: params [] at []; (ms := [false, true, false, false, false]) (Gs' := ["shape_of"])
-- _law_wrong_step(_law_well_here, _law_at)
abbrev s_l_wrong_step : Stmt := top 46
abbrev n_l_wrong_step : List Str := ["_law_well_here", "_law_at", "_law_some"]
theorem sc_l_wrong_step : FnScope n_l_wrong_step ["_law_well_here", "_law_at"] (defScope s_l_wrong_step) := ⟨rfl, rfl, rfl, by decide +kernel, rfl, by decide +kernel, by decide +kernel⟩
theorem st_l_wrong_step : stat (defScope s_l_wrong_step) n_l_wrong_step ["_law_well_here", "_law_at", "_law_some"] [] ["_law_one"] = true := by decide +kernel
-- _law_recipes_right(_law_well_here, _law_kind_here, _law_recipe_here, _law_way)
abbrev s_l_recipes_right : Stmt := top 47
abbrev n_l_recipes_right : List Str := ["_law_well_here", "_law_kind_here", "_law_recipe_here", "_law_way", "_law_at", "_law_wrong", "_law_long", "_law_odd"]
theorem sc_l_recipes_right : FnScope n_l_recipes_right ["_law_well_here", "_law_kind_here", "_law_recipe_here", "_law_way"] (defScope s_l_recipes_right) := ⟨rfl, rfl, rfl, by decide +kernel, rfl, by decide +kernel, by decide +kernel⟩
theorem st_l_recipes_right : stat (defScope s_l_recipes_right) n_l_recipes_right ["_law_well_here", "_law_kind_here", "_law_recipe_here", "_law_way", "_law_at", "_law_wrong", "_law_odd"] ["_law_long"] ["_law_draw", "len", "_law_wrong_step", "_law_all_say", "_law_said", "_law_one", "list"] = true := by decide +kernel
-- lambda line 293: params [] at []; (ms := [false, false, false, false, false, false, true, false]) (Gs' := ["rows"])
-- _law_right_way(_law_recipe_here)
abbrev s_l_right_way : Stmt := top 48
abbrev n_l_right_way : List Str := ["_law_recipe_here", "_law_step", "_law_way", "_law_k"]
theorem sc_l_right_way : FnScope n_l_right_way ["_law_recipe_here"] (defScope s_l_right_way) := ⟨rfl, rfl, rfl, by decide +kernel, rfl, by decide +kernel, by decide +kernel⟩
theorem st_l_right_way : stat (defScope s_l_right_way) n_l_right_way ["_law_recipe_here", "_law_step", "_law_way", "_law_k"] [] ["len", "range", "tuple"] = true := by decide +kernel
-- _law_ways_right(_law_well_here, _law_recipe_here, _law_way)
abbrev s_l_ways_right : Stmt := top 49
abbrev n_l_ways_right : List Str := ["_law_well_here", "_law_recipe_here", "_law_way", "_law_cut", "_law_more", "_law_at", "_law_odd"]
theorem sc_l_ways_right : FnScope n_l_ways_right ["_law_well_here", "_law_recipe_here", "_law_way"] (defScope s_l_ways_right) := ⟨rfl, rfl, rfl, by decide +kernel, rfl, by decide +kernel, by decide +kernel⟩
theorem st_l_ways_right : stat (defScope s_l_ways_right) n_l_ways_right [] ["_law_well_here", "_law_recipe_here", "_law_way", "_law_cut", "_law_more", "_law_at", "_law_odd"] ["_law_said", "range", "len", "repr", "_law_draw", "_law_one"] = true := by decide +kernel
-- lambda line 305: params [] at []; (ms := [false, true, true, false, false, false, false]) (Gs' := ["key_at"])
-- lambda line 308: params [] at []; (ms := [false, true, true, true, false, false, false]) (Gs' := ["key_at"])
-- lambda line 311: params [] at []; (ms := [false, true, true, false, true, false, false]) (Gs' := ["key_at"])
-- lambda line 315: params [] at []; (ms := [false, true, true, false, false, true, true]) (Gs' := ["key_at"])
-- lambda line 317: params [] at []; (ms := [true, true, true, false, false, false, false]) (Gs' := ["key_at", "_law_one", "list"])
-- _law_unused_right(_law_well_here, _law_odd)
abbrev s_l_unused_right : Stmt := top 50
abbrev n_l_unused_right : List Str := ["_law_well_here", "_law_odd", "_law_other", "_law_kind_here", "_law_steps", "_law_first", "_law_x", "_law_a", "_law_b", "_law_q", "_law_k"]
theorem sc_l_unused_right : FnScope n_l_unused_right ["_law_well_here", "_law_odd"] (defScope s_l_unused_right) := ⟨rfl, rfl, rfl, by decide +kernel, rfl, by decide +kernel, by decide +kernel⟩
theorem st_l_unused_right : stat (defScope s_l_unused_right) n_l_unused_right ["_law_well_here", "_law_first"] ["_law_odd", "_law_other", "_law_kind_here", "_law_steps"] ["_law_one", "Calls", "_law_said", "repr"] = true := by decide +kernel
-- lambda line 320: params ['_law_x'] at [6]; (ms := [false, true, false, false, false, false, false, false, false, false, false]) (Gs' := [])
-- lambda line 320: params ['_law_a', '_law_b'] at [7, 8]; (ms := [false, false, true, false, false, false, false, false, false, false, false]) (Gs' := [])
-- lambda line 320: params ['_law_a', '_law_q'] at [7, 9]; (ms := [false, false, false, false, false, false, false, false, false, false, false]) (Gs' := [])
-- lambda line 320: params ['_law_k', '_law_q'] at [10, 9]; (ms := [false, false, false, false, false, false, false, false, false, false, false]) (Gs' := [])
-- lambda line 324: params [] at []; (ms := [false, false, false, true, true, false, false, false, false, false, false]) (Gs' := ["value", "tuple"])
-- _law_right(_law_well_here)
abbrev s_l_right : Stmt := top 51
abbrev n_l_right : List Str := ["_law_well_here", "_law_table_here", "_law_recipe_here", "_law_way", "_law_odd", "_law_bad", "_law_item", "_law_a", "_law_b", "_law_q", "_law_k"]
theorem sc_l_right : FnScope n_l_right ["_law_well_here"] (defScope s_l_right) := ⟨rfl, rfl, rfl, by decide +kernel, rfl, by decide +kernel, by decide +kernel⟩
theorem st_l_right : stat (defScope s_l_right) n_l_right ["_law_well_here", "_law_table_here", "_law_way"] ["_law_recipe_here", "_law_odd", "_law_bad"] ["_law_table", "_law_recipe", "_law_draw", "_law_right_way", "_law_one", "_law_recipes_right", "_law_kind", "_law_ways_right", "_law_unused_right", "Calls", "_law_said", "repr"] = true := by decide +kernel
-- lambda line 333: params ['_law_item'] at [6]; (ms := [false, false, false, false, true, false, false, false, false, false, false]) (Gs' := [])
-- lambda line 333: params ['_law_a', '_law_b'] at [7, 8]; (ms := [false, false, false, false, false, false, false, false, false, false, false]) (Gs' := [])
-- lambda line 333: params ['_law_a', '_law_q'] at [7, 9]; (ms := [false, false, false, false, false, false, false, false, false, false, false]) (Gs' := [])
-- lambda line 333: params ['_law_k', '_law_q'] at [10, 9]; (ms := [false, false, false, false, false, false, false, false, false, false, false]) (Gs' := [])
-- lambda line 334: params [] at []; (ms := [false, false, true, false, false, true, false, false, false, false, false]) (Gs' := ["value"])
-- law(_law_script)
abbrev s_law : Stmt := top 52
abbrev n_law : List Str := ["_law_script", "_law_cell"]
theorem sc_law : FnScope n_law ["_law_script"] (defScope s_law) := ⟨rfl, rfl, rfl, by decide +kernel, rfl, by decide +kernel, by decide +kernel⟩
theorem st_law : stat (defScope s_law) n_law ["_law_script", "_law_cell"] [] ["_law_right", "_law_well"] = true := by decide +kernel
abbrev bs : List Str := ["bool", "dict", "enumerate", "int", "isinstance", "len", "list", "max", "min", "range", "repr", "str", "super", "tuple"]
structure Tx (K : Fg) (mg : Str → Option Value) (C_Calls C_BadRecipe C_BadWay C_BadValue C_TooLarge C_GroveError c_l_kind c_l_all_say c_l_recipes_right c_l_ways_right c_l_unused_right c_l_right : Addr) : Prop where
  bl : ∀ x ∈ bs, mg x = none
  gi_MOST_DEEP : GInt mg "MOST_DEEP" 4
  gi_MOST_STEPS : GInt mg "MOST_STEPS" 400
  gi_MOST_ROWS : GInt mg "MOST_ROWS" 500
  gi_MOST_HEIGHT : GInt mg "MOST_HEIGHT" 60
  f_is_integer : FnT K mg "is_integer" s_is_integer ["thing"]
  f_is_between : FnT K mg "is_between" s_is_between ["thing", "low", "high"]
  f_is_plain : FnT K mg "is_plain" s_is_plain ["thing"]
  f_is_step : FnT K mg "is_step" s_is_step ["thing", "at"]
  f_recipe_fault : FnT K mg "recipe_fault" s_recipe_fault ["thing"]
  f_rows_of : FnT K mg "rows_of" s_rows_of ["recipe"]
  f_way_end : FnT K mg "way_end" s_way_end ["recipe", "way"]
  f_raised : FnT K mg "raised" s_raised ["shape", "height", "wanted"]
  f_shape_at : FnT K mg "shape_at" s_shape_at ["recipe", "heights", "at"]
  f_l_well : FnT K mg "_law_well" s_l_well ["_law_cell"]
  f_l_draw : FnT K mg "_law_draw" s_l_draw ["_law_well_here", "_law_many"]
  f_l_one : FnT K mg "_law_one" s_l_one ["_law_well_here", "_law_some"]
  f_l_values : FnT K mg "_law_values" s_l_values ["_law_well_here", "_law_many"]
  f_l_made : FnT K mg "_law_made" s_l_made ["_law_well_here", "_law_way", "_law_a", "_law_b", "_law_many"]
  f_l_table : FnT K mg "_law_table" s_l_table ["_law_well_here", "_law_most_labels"]
  f_l_kind : FnTm K mg "_law_kind" s_l_kind ["_law_table_here"] c_l_kind
  f_l_recipe : FnT K mg "_law_recipe" s_l_recipe ["_law_well_here", "_law_given", "_law_many"]
  f_l_all_say : FnTm K mg "_law_all_say" s_l_all_say ["_law_kind_here", "_law_thing", "_law_way", "_law_at"] c_l_all_say
  f_l_wrong_step : FnT K mg "_law_wrong_step" s_l_wrong_step ["_law_well_here", "_law_at"]
  f_l_recipes_right : FnTm K mg "_law_recipes_right" s_l_recipes_right ["_law_well_here", "_law_kind_here", "_law_recipe_here", "_law_way"] c_l_recipes_right
  f_l_right_way : FnT K mg "_law_right_way" s_l_right_way ["_law_recipe_here"]
  f_l_ways_right : FnTm K mg "_law_ways_right" s_l_ways_right ["_law_well_here", "_law_recipe_here", "_law_way"] c_l_ways_right
  f_l_unused_right : FnTm K mg "_law_unused_right" s_l_unused_right ["_law_well_here", "_law_odd"] c_l_unused_right
  f_l_right : FnTm K mg "_law_right" s_l_right ["_law_well_here"] c_l_right
  fx_want_plain : FnTX K mg "want_plain" s_want_plain ["thing"]
  fx_want_recipe : FnTX K mg "want_recipe" s_want_recipe ["thing"]
  fx_values_of : FnTX K mg "values_of" s_values_of ["kind", "recipe"]
  fx_value : FnTX K mg "value" s_value ["kind", "recipe"]
  fx_rows : FnTX K mg "rows" s_rows ["recipe"]
  fx_key_at : FnTX K mg "key_at" s_key_at ["recipe", "way"]
  fx_shape_of : FnTX K mg "shape_of" s_shape_of ["recipe"]
  fx_l_said : FnTX K mg "_law_said" s_l_said ["_law_ask"]
  m_Calls_own : MtT K C_Calls "own" "Calls.own" s_Calls_own ["self", "key"]
  m_Calls_join : MtT K C_Calls "join" "Calls.join" s_Calls_join ["self", "one", "other"]
  mg_Calls : mg "Calls" = some (.ref C_Calls)
  cl_Calls : Cls K C_Calls
  mn_Calls : MkTn K mg "Calls" ["own", "join", "consistent", "matches"] C_Calls "Calls.__init__" s_Calls__init__ ["self", "own", "join", "consistent", "matches", "penalty", "sides", "distance", "bound"] [.non, .non, .non, .non]
  fd_Calls_own_by : FldC K C_Calls "own_by"
  fd_Calls_join_by : FldC K C_Calls "join_by"
  fd_Calls_consistent_by : FldC K C_Calls "consistent_by"
  fd_Calls_matches_by : FldC K C_Calls "matches_by"
  fd_Calls_penalty_by : FldC K C_Calls "penalty_by"
  fd_Calls_sides_by : FldC K C_Calls "sides_by"
  fd_Calls_distance_by : FldC K C_Calls "distance_by"
  fd_Calls_bound_by : FldC K C_Calls "bound_by"
  e0_TooLarge : Ex0 K mg "TooLarge" C_TooLarge
  te_TooLarge_BadRecipe : PySem.W.exmOne K (.ref C_TooLarge) (.ref C_BadRecipe) = some false
  te_TooLarge_BadWay : PySem.W.exmOne K (.ref C_TooLarge) (.ref C_BadWay) = some false
  te_TooLarge_BadValue : PySem.W.exmOne K (.ref C_TooLarge) (.ref C_BadValue) = some false
  te_TooLarge_TooLarge : PySem.W.exmOne K (.ref C_TooLarge) (.ref C_TooLarge) = some true
  te_BadRecipe_TooLarge : PySem.W.exmOne K (.ref C_BadRecipe) (.ref C_TooLarge) = some false
  te_BadWay_TooLarge : PySem.W.exmOne K (.ref C_BadWay) (.ref C_TooLarge) = some false
  te_BadValue_TooLarge : PySem.W.exmOne K (.ref C_BadValue) (.ref C_TooLarge) = some false
  te_BadRecipe_BadRecipe : PySem.W.exmOne K (.ref C_BadRecipe) (.ref C_BadRecipe) = some true
  te_BadRecipe_BadWay : PySem.W.exmOne K (.ref C_BadRecipe) (.ref C_BadWay) = some false
  te_BadRecipe_BadValue : PySem.W.exmOne K (.ref C_BadRecipe) (.ref C_BadValue) = some false
  te_BadWay_BadRecipe : PySem.W.exmOne K (.ref C_BadWay) (.ref C_BadRecipe) = some false
  te_BadWay_BadWay : PySem.W.exmOne K (.ref C_BadWay) (.ref C_BadWay) = some true
  te_BadWay_BadValue : PySem.W.exmOne K (.ref C_BadWay) (.ref C_BadValue) = some false
  te_BadValue_BadRecipe : PySem.W.exmOne K (.ref C_BadValue) (.ref C_BadRecipe) = some false
  te_BadValue_BadWay : PySem.W.exmOne K (.ref C_BadValue) (.ref C_BadWay) = some false
  te_BadValue_BadValue : PySem.W.exmOne K (.ref C_BadValue) (.ref C_BadValue) = some true
  vx_BadRecipe : ExTF K mg "BadRecipe" "BadRecipe.__init__" ["at"] C_BadRecipe s_BadRecipe__init__
  xf_BadRecipe_at : XfF K C_BadRecipe "at"
  vx_BadWay : ExTF K mg "BadWay" "BadWay.__init__" ["at"] C_BadWay s_BadWay__init__
  xf_BadWay_at : XfF K C_BadWay "at"
  vx_BadValue : ExTF K mg "BadValue" "BadValue.__init__" ["value"] C_BadValue s_BadValue__init__
  xf_BadValue_value : XfF K C_BadValue "value"
  gr_GroveError : GRef mg "GroveError" C_GroveError
structure Tb (mg : Str → Option Value) (base : Heap) (c_l_kind P_l_kind c_l_all_say P_l_all_say c_l_recipes_right P_l_recipes_right c_l_ways_right P_l_ways_right c_l_unused_right P_l_unused_right c_l_right P_l_right : Addr) : Prop where
  tb_l_kind : LamX.TabB base mg c_l_kind P_l_kind
  tb_l_all_say : LamX.TabB base mg c_l_all_say P_l_all_say
  tb_l_recipes_right : LamX.TabB base mg c_l_recipes_right P_l_recipes_right
  tb_l_ways_right : LamX.TabB base mg c_l_ways_right P_l_ways_right
  tb_l_unused_right : LamX.TabB base mg c_l_unused_right P_l_unused_right
  tb_l_right : LamX.TabB base mg c_l_right P_l_right
abbrev cs (c_l_kind P_l_kind c_l_all_say P_l_all_say c_l_recipes_right P_l_recipes_right c_l_ways_right P_l_ways_right c_l_unused_right P_l_unused_right c_l_right P_l_right : Addr) : List (Addr × Addr × Str) := [(c_l_kind, P_l_kind, "_law_kind.<locals>.<lambda>"), (c_l_all_say, P_l_all_say, "_law_all_say.<locals>.<lambda>"), (c_l_recipes_right, P_l_recipes_right, "_law_recipes_right.<locals>.<lambda>"), (c_l_ways_right, P_l_ways_right, "_law_ways_right.<locals>.<lambda>"), (c_l_unused_right, P_l_unused_right, "_law_unused_right.<locals>.<lambda>"), (c_l_right, P_l_right, "_law_right.<locals>.<lambda>")]
abbrev AllMk : Prop := ∀ {l : PySem.W.OpenLaw} {w : World} {K : PySem.W.Frag} {h : Heap} {mg : Str → Option Value} {fa C_Calls C_BadRecipe C_BadWay C_BadValue C_TooLarge C_GroveError c_l_kind c_l_all_say c_l_recipes_right c_l_ways_right c_l_unused_right c_l_right P_l_kind P_l_all_say P_l_recipes_right P_l_ways_right P_l_unused_right P_l_right kd_Calls : Addr} (X : K.In h) (G : h.Ns mainGlobals mg) (hfa : mg "law" = some (.ref fa))
    {f0 f1 f2 f3 f4 f5 f6 f7 f8 f9 f10 f11 f12 f13 f14 f15 f16 f17 f18 f19 f20 f21 f22 f23 f24 f25 f26 f27 f28 f29 f30 f31 f32 f33 f34 f35 f36 f37 f38 : Addr} {od0 od1 od2 od3 od4 od5 od6 od7 od8 od9 od10 od11 od12 od13 od14 od15 od16 od17 od18 od19 od20 od21 od22 od23 od24 od25 od26 od27 od28 od29 od30 od31 od32 od33 od34 od35 od36 od37 od38 an0 an1 an2 an3 an4 an5 an6 an7 an8 an9 an10 an11 an12 an13 an14 an15 an16 an17 an18 an19 an20 an21 an22 an23 an24 an25 an26 an27 an28 an29 an30 an31 an32 an33 an34 an35 an36 an37 an38 : Option Addr} {sl0 sl1 sl2 sl3 sl4 sl5 sl6 sl7 sl8 sl9 sl10 sl11 sl12 sl13 sl14 sl15 sl16 sl17 sl18 sl19 sl20 sl21 sl22 sl23 sl24 sl25 sl26 sl27 sl28 sl29 sl30 sl31 sl32 sl33 sl34 sl35 sl36 sl37 sl38 : Array (Option Value)} {oc0 kV0 dc0 pm0 cd0 ct0 oc1 kV1 dc1 pm1 cd1 ct1 oc2 kV2 dc2 pm2 cd2 ct2 oc3 kV3 dc3 pm3 cd3 ct3 oc4 kV4 dc4 pm4 cd4 ct4 oc5 kV5 dc5 pm5 cd5 ct5 oc6 kV6 dc6 pm6 cd6 ct6 oc7 kV7 dc7 pm7 cd7 ct7 oc8 kV8 dc8 pm8 cd8 ct8 oc9 kV9 dc9 pm9 cd9 ct9 oc10 kV10 dc10 pm10 cd10 ct10 oc11 kV11 dc11 pm11 cd11 ct11 oc12 kV12 dc12 pm12 cd12 ct12 oc13 kV13 dc13 pm13 cd13 ct13 oc14 kV14 dc14 pm14 cd14 ct14 oc15 kV15 dc15 pm15 ct15 oc16 kV16 dc16 pm16 cd16 ct16 oc17 kV17 dc17 pm17 ct17 oc18 kV18 dc18 pm18 cd18 ct18 oc19 kV19 dc19 pm19 ct19 oc20 kV20 dc20 pm20 cd20 ct20 oc21 kV21 dc21 pm21 ct21 oc22 kV22 dc22 pm22 ct22 oc23 kV23 dc23 pm23 ct23 oc24 kV24 dc24 pm24 cd24 ct24 oc25 kV25 dc25 pm25 cd25 ct25 oc26 kV26 dc26 pm26 cd26 ct26 oc27 kV27 dc27 pm27 cd27 ct27 oc28 kV28 dc28 pm28 cd28 ct28 oc29 kV29 dc29 pm29 cd29 ct29 oc30 kV30 dc30 pm30 cd30 ct30 oc31 kV31 dc31 pm31 cd31 ct31 oc32 kV32 dc32 pm32 cd32 ct32 oc33 kV33 dc33 pm33 cd33 ct33 oc34 dc34 pm34 cd34 ct34 oc35 kV35 dc35 pm35 cd35 ct35 oc36 kV36 dc36 pm36 cd36 ct36 oc37 kV37 dc37 pm37 cd37 ct37 oc38 kV38 dc38 pm38 cd38 ct38 : Value}
    (a0 : PySem.W.nsIn K mainGlobals "is_integer" = some (some (.ref f0)))
    (l0 : K.lookup f0 = some ⟨oc0, od0, .func (PySem.W.fnOf "is_integer" "is_integer" (defArgs s_is_integer) (defBody s_is_integer) (defScope s_is_integer) .none kV0 dc0 pm0 an0 cd0 ct0), sl0⟩) (c0 : PySem.W.codeIn K cd0 "is_integer" = true) (k0 : PySem.W.keepIn K (.ref f0) = true)
    (a1 : PySem.W.nsIn K mainGlobals "is_between" = some (some (.ref f1)))
    (l1 : K.lookup f1 = some ⟨oc1, od1, .func (PySem.W.fnOf "is_between" "is_between" (defArgs s_is_between) (defBody s_is_between) (defScope s_is_between) .none kV1 dc1 pm1 an1 cd1 ct1), sl1⟩) (c1 : PySem.W.codeIn K cd1 "is_between" = true) (k1 : PySem.W.keepIn K (.ref f1) = true)
    (a2 : PySem.W.nsIn K mainGlobals "is_plain" = some (some (.ref f2)))
    (l2 : K.lookup f2 = some ⟨oc2, od2, .func (PySem.W.fnOf "is_plain" "is_plain" (defArgs s_is_plain) (defBody s_is_plain) (defScope s_is_plain) .none kV2 dc2 pm2 an2 cd2 ct2), sl2⟩) (c2 : PySem.W.codeIn K cd2 "is_plain" = true) (k2 : PySem.W.keepIn K (.ref f2) = true)
    (a3 : PySem.W.nsIn K mainGlobals "is_step" = some (some (.ref f3)))
    (l3 : K.lookup f3 = some ⟨oc3, od3, .func (PySem.W.fnOf "is_step" "is_step" (defArgs s_is_step) (defBody s_is_step) (defScope s_is_step) .none kV3 dc3 pm3 an3 cd3 ct3), sl3⟩) (c3 : PySem.W.codeIn K cd3 "is_step" = true) (k3 : PySem.W.keepIn K (.ref f3) = true)
    (a4 : PySem.W.nsIn K mainGlobals "recipe_fault" = some (some (.ref f4)))
    (l4 : K.lookup f4 = some ⟨oc4, od4, .func (PySem.W.fnOf "recipe_fault" "recipe_fault" (defArgs s_recipe_fault) (defBody s_recipe_fault) (defScope s_recipe_fault) .none kV4 dc4 pm4 an4 cd4 ct4), sl4⟩) (c4 : PySem.W.codeIn K cd4 "recipe_fault" = true) (k4 : PySem.W.keepIn K (.ref f4) = true)
    (a5 : PySem.W.nsIn K mainGlobals "rows_of" = some (some (.ref f5)))
    (l5 : K.lookup f5 = some ⟨oc5, od5, .func (PySem.W.fnOf "rows_of" "rows_of" (defArgs s_rows_of) (defBody s_rows_of) (defScope s_rows_of) .none kV5 dc5 pm5 an5 cd5 ct5), sl5⟩) (c5 : PySem.W.codeIn K cd5 "rows_of" = true) (k5 : PySem.W.keepIn K (.ref f5) = true)
    (a6 : PySem.W.nsIn K mainGlobals "way_end" = some (some (.ref f6)))
    (l6 : K.lookup f6 = some ⟨oc6, od6, .func (PySem.W.fnOf "way_end" "way_end" (defArgs s_way_end) (defBody s_way_end) (defScope s_way_end) .none kV6 dc6 pm6 an6 cd6 ct6), sl6⟩) (c6 : PySem.W.codeIn K cd6 "way_end" = true) (k6 : PySem.W.keepIn K (.ref f6) = true)
    (a7 : PySem.W.nsIn K mainGlobals "raised" = some (some (.ref f7)))
    (l7 : K.lookup f7 = some ⟨oc7, od7, .func (PySem.W.fnOf "raised" "raised" (defArgs s_raised) (defBody s_raised) (defScope s_raised) .none kV7 dc7 pm7 an7 cd7 ct7), sl7⟩) (c7 : PySem.W.codeIn K cd7 "raised" = true) (k7 : PySem.W.keepIn K (.ref f7) = true)
    (a8 : PySem.W.nsIn K mainGlobals "shape_at" = some (some (.ref f8)))
    (l8 : K.lookup f8 = some ⟨oc8, od8, .func (PySem.W.fnOf "shape_at" "shape_at" (defArgs s_shape_at) (defBody s_shape_at) (defScope s_shape_at) .none kV8 dc8 pm8 an8 cd8 ct8), sl8⟩) (c8 : PySem.W.codeIn K cd8 "shape_at" = true) (k8 : PySem.W.keepIn K (.ref f8) = true)
    (a9 : PySem.W.nsIn K mainGlobals "_law_well" = some (some (.ref f9)))
    (l9 : K.lookup f9 = some ⟨oc9, od9, .func (PySem.W.fnOf "_law_well" "_law_well" (defArgs s_l_well) (defBody s_l_well) (defScope s_l_well) .none kV9 dc9 pm9 an9 cd9 ct9), sl9⟩) (c9 : PySem.W.codeIn K cd9 "_law_well" = true) (k9 : PySem.W.keepIn K (.ref f9) = true)
    (a10 : PySem.W.nsIn K mainGlobals "_law_draw" = some (some (.ref f10)))
    (l10 : K.lookup f10 = some ⟨oc10, od10, .func (PySem.W.fnOf "_law_draw" "_law_draw" (defArgs s_l_draw) (defBody s_l_draw) (defScope s_l_draw) .none kV10 dc10 pm10 an10 cd10 ct10), sl10⟩) (c10 : PySem.W.codeIn K cd10 "_law_draw" = true) (k10 : PySem.W.keepIn K (.ref f10) = true)
    (a11 : PySem.W.nsIn K mainGlobals "_law_one" = some (some (.ref f11)))
    (l11 : K.lookup f11 = some ⟨oc11, od11, .func (PySem.W.fnOf "_law_one" "_law_one" (defArgs s_l_one) (defBody s_l_one) (defScope s_l_one) .none kV11 dc11 pm11 an11 cd11 ct11), sl11⟩) (c11 : PySem.W.codeIn K cd11 "_law_one" = true) (k11 : PySem.W.keepIn K (.ref f11) = true)
    (a12 : PySem.W.nsIn K mainGlobals "_law_values" = some (some (.ref f12)))
    (l12 : K.lookup f12 = some ⟨oc12, od12, .func (PySem.W.fnOf "_law_values" "_law_values" (defArgs s_l_values) (defBody s_l_values) (defScope s_l_values) .none kV12 dc12 pm12 an12 cd12 ct12), sl12⟩) (c12 : PySem.W.codeIn K cd12 "_law_values" = true) (k12 : PySem.W.keepIn K (.ref f12) = true)
    (a13 : PySem.W.nsIn K mainGlobals "_law_made" = some (some (.ref f13)))
    (l13 : K.lookup f13 = some ⟨oc13, od13, .func (PySem.W.fnOf "_law_made" "_law_made" (defArgs s_l_made) (defBody s_l_made) (defScope s_l_made) .none kV13 dc13 pm13 an13 cd13 ct13), sl13⟩) (c13 : PySem.W.codeIn K cd13 "_law_made" = true) (k13 : PySem.W.keepIn K (.ref f13) = true)
    (a14 : PySem.W.nsIn K mainGlobals "_law_table" = some (some (.ref f14)))
    (l14 : K.lookup f14 = some ⟨oc14, od14, .func (PySem.W.fnOf "_law_table" "_law_table" (defArgs s_l_table) (defBody s_l_table) (defScope s_l_table) .none kV14 dc14 pm14 an14 cd14 ct14), sl14⟩) (c14 : PySem.W.codeIn K cd14 "_law_table" = true) (k14 : PySem.W.keepIn K (.ref f14) = true)
    (a15 : PySem.W.nsIn K mainGlobals "_law_kind" = some (some (.ref f15)))
    (l15 : K.lookup f15 = some ⟨oc15, od15, .func (PySem.W.fnOf "_law_kind" "_law_kind" (defArgs s_l_kind) (defBody s_l_kind) (defScope s_l_kind) .none kV15 dc15 pm15 an15 (.ref c_l_kind) ct15), sl15⟩) (c15 : PySem.W.codeIn K (.ref c_l_kind) "_law_kind" = true) (k15 : PySem.W.keepIn K (.ref f15) = true)
    (a16 : PySem.W.nsIn K mainGlobals "_law_recipe" = some (some (.ref f16)))
    (l16 : K.lookup f16 = some ⟨oc16, od16, .func (PySem.W.fnOf "_law_recipe" "_law_recipe" (defArgs s_l_recipe) (defBody s_l_recipe) (defScope s_l_recipe) .none kV16 dc16 pm16 an16 cd16 ct16), sl16⟩) (c16 : PySem.W.codeIn K cd16 "_law_recipe" = true) (k16 : PySem.W.keepIn K (.ref f16) = true)
    (a17 : PySem.W.nsIn K mainGlobals "_law_all_say" = some (some (.ref f17)))
    (l17 : K.lookup f17 = some ⟨oc17, od17, .func (PySem.W.fnOf "_law_all_say" "_law_all_say" (defArgs s_l_all_say) (defBody s_l_all_say) (defScope s_l_all_say) .none kV17 dc17 pm17 an17 (.ref c_l_all_say) ct17), sl17⟩) (c17 : PySem.W.codeIn K (.ref c_l_all_say) "_law_all_say" = true) (k17 : PySem.W.keepIn K (.ref f17) = true)
    (a18 : PySem.W.nsIn K mainGlobals "_law_wrong_step" = some (some (.ref f18)))
    (l18 : K.lookup f18 = some ⟨oc18, od18, .func (PySem.W.fnOf "_law_wrong_step" "_law_wrong_step" (defArgs s_l_wrong_step) (defBody s_l_wrong_step) (defScope s_l_wrong_step) .none kV18 dc18 pm18 an18 cd18 ct18), sl18⟩) (c18 : PySem.W.codeIn K cd18 "_law_wrong_step" = true) (k18 : PySem.W.keepIn K (.ref f18) = true)
    (a19 : PySem.W.nsIn K mainGlobals "_law_recipes_right" = some (some (.ref f19)))
    (l19 : K.lookup f19 = some ⟨oc19, od19, .func (PySem.W.fnOf "_law_recipes_right" "_law_recipes_right" (defArgs s_l_recipes_right) (defBody s_l_recipes_right) (defScope s_l_recipes_right) .none kV19 dc19 pm19 an19 (.ref c_l_recipes_right) ct19), sl19⟩) (c19 : PySem.W.codeIn K (.ref c_l_recipes_right) "_law_recipes_right" = true) (k19 : PySem.W.keepIn K (.ref f19) = true)
    (a20 : PySem.W.nsIn K mainGlobals "_law_right_way" = some (some (.ref f20)))
    (l20 : K.lookup f20 = some ⟨oc20, od20, .func (PySem.W.fnOf "_law_right_way" "_law_right_way" (defArgs s_l_right_way) (defBody s_l_right_way) (defScope s_l_right_way) .none kV20 dc20 pm20 an20 cd20 ct20), sl20⟩) (c20 : PySem.W.codeIn K cd20 "_law_right_way" = true) (k20 : PySem.W.keepIn K (.ref f20) = true)
    (a21 : PySem.W.nsIn K mainGlobals "_law_ways_right" = some (some (.ref f21)))
    (l21 : K.lookup f21 = some ⟨oc21, od21, .func (PySem.W.fnOf "_law_ways_right" "_law_ways_right" (defArgs s_l_ways_right) (defBody s_l_ways_right) (defScope s_l_ways_right) .none kV21 dc21 pm21 an21 (.ref c_l_ways_right) ct21), sl21⟩) (c21 : PySem.W.codeIn K (.ref c_l_ways_right) "_law_ways_right" = true) (k21 : PySem.W.keepIn K (.ref f21) = true)
    (a22 : PySem.W.nsIn K mainGlobals "_law_unused_right" = some (some (.ref f22)))
    (l22 : K.lookup f22 = some ⟨oc22, od22, .func (PySem.W.fnOf "_law_unused_right" "_law_unused_right" (defArgs s_l_unused_right) (defBody s_l_unused_right) (defScope s_l_unused_right) .none kV22 dc22 pm22 an22 (.ref c_l_unused_right) ct22), sl22⟩) (c22 : PySem.W.codeIn K (.ref c_l_unused_right) "_law_unused_right" = true) (k22 : PySem.W.keepIn K (.ref f22) = true)
    (a23 : PySem.W.nsIn K mainGlobals "_law_right" = some (some (.ref f23)))
    (l23 : K.lookup f23 = some ⟨oc23, od23, .func (PySem.W.fnOf "_law_right" "_law_right" (defArgs s_l_right) (defBody s_l_right) (defScope s_l_right) .none kV23 dc23 pm23 an23 (.ref c_l_right) ct23), sl23⟩) (c23 : PySem.W.codeIn K (.ref c_l_right) "_law_right" = true) (k23 : PySem.W.keepIn K (.ref f23) = true)
    (a24 : PySem.W.nsIn K mainGlobals "want_plain" = some (some (.ref f24)))
    (l24 : K.lookup f24 = some ⟨oc24, od24, .func (PySem.W.fnOf "want_plain" "want_plain" (defArgs s_want_plain) (defBody s_want_plain) (defScope s_want_plain) .none kV24 dc24 pm24 an24 cd24 ct24), sl24⟩) (c24 : PySem.W.codeIn K cd24 "want_plain" = true) (k24 : PySem.W.keepIn K (.ref f24) = true)
    (a25 : PySem.W.nsIn K mainGlobals "want_recipe" = some (some (.ref f25)))
    (l25 : K.lookup f25 = some ⟨oc25, od25, .func (PySem.W.fnOf "want_recipe" "want_recipe" (defArgs s_want_recipe) (defBody s_want_recipe) (defScope s_want_recipe) .none kV25 dc25 pm25 an25 cd25 ct25), sl25⟩) (c25 : PySem.W.codeIn K cd25 "want_recipe" = true) (k25 : PySem.W.keepIn K (.ref f25) = true)
    (a26 : PySem.W.nsIn K mainGlobals "values_of" = some (some (.ref f26)))
    (l26 : K.lookup f26 = some ⟨oc26, od26, .func (PySem.W.fnOf "values_of" "values_of" (defArgs s_values_of) (defBody s_values_of) (defScope s_values_of) .none kV26 dc26 pm26 an26 cd26 ct26), sl26⟩) (c26 : PySem.W.codeIn K cd26 "values_of" = true) (k26 : PySem.W.keepIn K (.ref f26) = true)
    (a27 : PySem.W.nsIn K mainGlobals "value" = some (some (.ref f27)))
    (l27 : K.lookup f27 = some ⟨oc27, od27, .func (PySem.W.fnOf "value" "value" (defArgs s_value) (defBody s_value) (defScope s_value) .none kV27 dc27 pm27 an27 cd27 ct27), sl27⟩) (c27 : PySem.W.codeIn K cd27 "value" = true) (k27 : PySem.W.keepIn K (.ref f27) = true)
    (a28 : PySem.W.nsIn K mainGlobals "rows" = some (some (.ref f28)))
    (l28 : K.lookup f28 = some ⟨oc28, od28, .func (PySem.W.fnOf "rows" "rows" (defArgs s_rows) (defBody s_rows) (defScope s_rows) .none kV28 dc28 pm28 an28 cd28 ct28), sl28⟩) (c28 : PySem.W.codeIn K cd28 "rows" = true) (k28 : PySem.W.keepIn K (.ref f28) = true)
    (a29 : PySem.W.nsIn K mainGlobals "key_at" = some (some (.ref f29)))
    (l29 : K.lookup f29 = some ⟨oc29, od29, .func (PySem.W.fnOf "key_at" "key_at" (defArgs s_key_at) (defBody s_key_at) (defScope s_key_at) .none kV29 dc29 pm29 an29 cd29 ct29), sl29⟩) (c29 : PySem.W.codeIn K cd29 "key_at" = true) (k29 : PySem.W.keepIn K (.ref f29) = true)
    (a30 : PySem.W.nsIn K mainGlobals "shape_of" = some (some (.ref f30)))
    (l30 : K.lookup f30 = some ⟨oc30, od30, .func (PySem.W.fnOf "shape_of" "shape_of" (defArgs s_shape_of) (defBody s_shape_of) (defScope s_shape_of) .none kV30 dc30 pm30 an30 cd30 ct30), sl30⟩) (c30 : PySem.W.codeIn K cd30 "shape_of" = true) (k30 : PySem.W.keepIn K (.ref f30) = true)
    (a31 : PySem.W.nsIn K mainGlobals "_law_said" = some (some (.ref f31)))
    (l31 : K.lookup f31 = some ⟨oc31, od31, .func (PySem.W.fnOf "_law_said" "_law_said" (defArgs s_l_said) (defBody s_l_said) (defScope s_l_said) .none kV31 dc31 pm31 an31 cd31 ct31), sl31⟩) (c31 : PySem.W.codeIn K cd31 "_law_said" = true) (k31 : PySem.W.keepIn K (.ref f31) = true)
    (a32 : PySem.W.findIn K (.ref C_Calls) "own" = some (some (.ref f32))) (i32 : PySem.W.isFn K (.ref f32) = true)
    (l32 : K.lookup f32 = some ⟨oc32, od32, .func (PySem.W.fnOf "own" "Calls.own" (defArgs s_Calls_own) (defBody s_Calls_own) (defScope s_Calls_own) .none kV32 dc32 pm32 an32 cd32 ct32), sl32⟩) (c32 : PySem.W.codeIn K cd32 "Calls.own" = true) (k32 : PySem.W.keepIn K (.ref f32) = true)
    (a33 : PySem.W.findIn K (.ref C_Calls) "join" = some (some (.ref f33))) (i33 : PySem.W.isFn K (.ref f33) = true)
    (l33 : K.lookup f33 = some ⟨oc33, od33, .func (PySem.W.fnOf "join" "Calls.join" (defArgs s_Calls_join) (defBody s_Calls_join) (defScope s_Calls_join) .none kV33 dc33 pm33 an33 cd33 ct33), sl33⟩) (c33 : PySem.W.codeIn K cd33 "Calls.join" = true) (k33 : PySem.W.keepIn K (.ref f33) = true)
    (a34 : PySem.W.findIn K (.ref C_Calls) "__init__" = some (some (.ref f34))) (i34 : PySem.W.isFn K (.ref f34) = true)
    (l34 : K.lookup f34 = some ⟨oc34, od34, .func (PySem.W.fnOf "__init__" "Calls.__init__" (defArgs s_Calls__init__) (defBody s_Calls__init__) (defScope s_Calls__init__) .none (.ref kd_Calls) dc34 pm34 an34 cd34 ct34), sl34⟩) (c34 : PySem.W.codeIn K cd34 "Calls.__init__" = true) (k34 : PySem.W.keepIn K (.ref f34) = true)
    (a35 : PySem.W.findIn K (.ref C_BadRecipe) "__init__" = some (some (.ref f35))) (i35 : PySem.W.typeIn K (.ref f35) = some (.type "function"))
    (l35 : K.lookup f35 = some ⟨oc35, od35, .func (PySem.W.fnOf "__init__" "BadRecipe.__init__" (defArgs s_BadRecipe__init__) (defBody s_BadRecipe__init__) (defScope s_BadRecipe__init__) .none kV35 dc35 pm35 an35 cd35 ct35), sl35⟩) (c35 : PySem.W.codeIn K cd35 "BadRecipe.__init__" = true) (k35 : PySem.W.keepIn K (.ref f35) = true)
    (a36 : PySem.W.findIn K (.ref C_BadWay) "__init__" = some (some (.ref f36))) (i36 : PySem.W.typeIn K (.ref f36) = some (.type "function"))
    (l36 : K.lookup f36 = some ⟨oc36, od36, .func (PySem.W.fnOf "__init__" "BadWay.__init__" (defArgs s_BadWay__init__) (defBody s_BadWay__init__) (defScope s_BadWay__init__) .none kV36 dc36 pm36 an36 cd36 ct36), sl36⟩) (c36 : PySem.W.codeIn K cd36 "BadWay.__init__" = true) (k36 : PySem.W.keepIn K (.ref f36) = true)
    (a37 : PySem.W.findIn K (.ref C_BadValue) "__init__" = some (some (.ref f37))) (i37 : PySem.W.typeIn K (.ref f37) = some (.type "function"))
    (l37 : K.lookup f37 = some ⟨oc37, od37, .func (PySem.W.fnOf "__init__" "BadValue.__init__" (defArgs s_BadValue__init__) (defBody s_BadValue__init__) (defScope s_BadValue__init__) .none kV37 dc37 pm37 an37 cd37 ct37), sl37⟩) (c37 : PySem.W.codeIn K cd37 "BadValue.__init__" = true) (k37 : PySem.W.keepIn K (.ref f37) = true)
    (a38 : PySem.W.nsIn K mainGlobals "law" = some (some (.ref f38)))
    (l38 : K.lookup f38 = some ⟨oc38, od38, .func (PySem.W.fnOf "law" "law" (defArgs s_law) (defBody s_law) (defScope s_law) .none kV38 dc38 pm38 an38 cd38 ct38), sl38⟩) (c38 : PySem.W.codeIn K cd38 "law" = true) (k38 : PySem.W.keepIn K (.ref f38) = true)
    (g_Calls : PySem.W.nsIn K mainGlobals "Calls" = some (some (.ref C_Calls))) (pg_Calls : PySem.W.plainGet K C_Calls Str.empty = true) (hd_Calls : PySem.W.hasDictIn K C_Calls = true) (po_Calls : PySem.W.plainOver K C_Calls = true) (sa_Calls : PySem.W.findIn K (.ref C_Calls) "__setattr__" = some (some (.builtin "object.__setattr__"))) (mk_Calls : PySem.W.makesIn K C_Calls = true) (kp_Calls : PySem.W.keepIn K (.ref C_Calls) = true)
    (kd_Calls_penalty : PySem.W.nsIn K kd_Calls "penalty" = some (some .none))
    (kd_Calls_sides : PySem.W.nsIn K kd_Calls "sides" = some (some .none))
    (kd_Calls_distance : PySem.W.nsIn K kd_Calls "distance" = some (some .none))
    (kd_Calls_bound : PySem.W.nsIn K kd_Calls "bound" = some (some .none))
    (nf_Calls_own_by : PySem.W.findIn K (.ref C_Calls) "own_by" = some none)
    (nf_Calls_join_by : PySem.W.findIn K (.ref C_Calls) "join_by" = some none)
    (nf_Calls_consistent_by : PySem.W.findIn K (.ref C_Calls) "consistent_by" = some none)
    (nf_Calls_matches_by : PySem.W.findIn K (.ref C_Calls) "matches_by" = some none)
    (nf_Calls_penalty_by : PySem.W.findIn K (.ref C_Calls) "penalty_by" = some none)
    (nf_Calls_sides_by : PySem.W.findIn K (.ref C_Calls) "sides_by" = some none)
    (nf_Calls_distance_by : PySem.W.findIn K (.ref C_Calls) "distance_by" = some none)
    (nf_Calls_bound_by : PySem.W.findIn K (.ref C_Calls) "bound_by" = some none)
    (g_GroveError : PySem.W.nsIn K mainGlobals "GroveError" = some (some (.ref C_GroveError)))
    (g_BadRecipe : PySem.W.nsIn K mainGlobals "BadRecipe" = some (some (.ref C_BadRecipe))) (ga_BadRecipe : PySem.W.findIn K (.ref C_BadRecipe) "__getattribute__" = some (some (.builtin "BaseException.__getattribute__"))) (gg_BadRecipe : PySem.W.findIn K (.ref C_BadRecipe) "__getattr__" = some none) (eb_BadRecipe : PySem.W.subIn K (.ref C_BadRecipe) (.type "BaseException") = some true) (kp_BadRecipe : PySem.W.keepIn K (.ref C_BadRecipe) = true) (hd_BadRecipe : PySem.W.hasDictIn K C_BadRecipe = true)
    (g_BadWay : PySem.W.nsIn K mainGlobals "BadWay" = some (some (.ref C_BadWay))) (ga_BadWay : PySem.W.findIn K (.ref C_BadWay) "__getattribute__" = some (some (.builtin "BaseException.__getattribute__"))) (gg_BadWay : PySem.W.findIn K (.ref C_BadWay) "__getattr__" = some none) (eb_BadWay : PySem.W.subIn K (.ref C_BadWay) (.type "BaseException") = some true) (kp_BadWay : PySem.W.keepIn K (.ref C_BadWay) = true) (hd_BadWay : PySem.W.hasDictIn K C_BadWay = true)
    (g_BadValue : PySem.W.nsIn K mainGlobals "BadValue" = some (some (.ref C_BadValue))) (ga_BadValue : PySem.W.findIn K (.ref C_BadValue) "__getattribute__" = some (some (.builtin "BaseException.__getattribute__"))) (gg_BadValue : PySem.W.findIn K (.ref C_BadValue) "__getattr__" = some none) (eb_BadValue : PySem.W.subIn K (.ref C_BadValue) (.type "BaseException") = some true) (kp_BadValue : PySem.W.keepIn K (.ref C_BadValue) = true) (hd_BadValue : PySem.W.hasDictIn K C_BadValue = true)
    {nm_BadRecipe q_BadRecipe : Str} {N_BadRecipe : Addr} {bs_BadRecipe bm_BadRecipe : List Value} {sn_BadRecipe : List Str} {sub_BadRecipe : List Value} {ab_BadRecipe : Bool} {col_BadRecipe : Option Bool} {dd_BadRecipe : Option Addr} {m0_BadRecipe m1_BadRecipe m2_BadRecipe m3_BadRecipe m5_BadRecipe : Option Value} (xl_BadRecipe : K.lookup C_BadRecipe = some (excClassObj nm_BadRecipe q_BadRecipe C_BadRecipe N_BadRecipe bs_BadRecipe bm_BadRecipe true sn_BadRecipe sub_BadRecipe ab_BadRecipe col_BadRecipe dd_BadRecipe m0_BadRecipe m1_BadRecipe m2_BadRecipe m3_BadRecipe m5_BadRecipe "ValueError.__new__")) (rv_BadRecipe : PySem.HandSPX.refsVE bm_BadRecipe = true) (sa_BadRecipe : PySem.W.findIn K (.ref C_BadRecipe) "__setattr__" = some (some (.builtin "object.__setattr__"))) (ty_BadRecipe : PySem.W.typeIn K (.ref C_BadRecipe) = some (.type "type"))
    (nf_BadRecipe_at : PySem.W.findIn K (.ref C_BadRecipe) "at" = some none)
    {nm_BadWay q_BadWay : Str} {N_BadWay : Addr} {bs_BadWay bm_BadWay : List Value} {sn_BadWay : List Str} {sub_BadWay : List Value} {ab_BadWay : Bool} {col_BadWay : Option Bool} {dd_BadWay : Option Addr} {m0_BadWay m1_BadWay m2_BadWay m3_BadWay m5_BadWay : Option Value} (xl_BadWay : K.lookup C_BadWay = some (excClassObj nm_BadWay q_BadWay C_BadWay N_BadWay bs_BadWay bm_BadWay true sn_BadWay sub_BadWay ab_BadWay col_BadWay dd_BadWay m0_BadWay m1_BadWay m2_BadWay m3_BadWay m5_BadWay "ValueError.__new__")) (rv_BadWay : PySem.HandSPX.refsVE bm_BadWay = true) (sa_BadWay : PySem.W.findIn K (.ref C_BadWay) "__setattr__" = some (some (.builtin "object.__setattr__"))) (ty_BadWay : PySem.W.typeIn K (.ref C_BadWay) = some (.type "type"))
    (nf_BadWay_at : PySem.W.findIn K (.ref C_BadWay) "at" = some none)
    {nm_BadValue q_BadValue : Str} {N_BadValue : Addr} {bs_BadValue bm_BadValue : List Value} {sn_BadValue : List Str} {sub_BadValue : List Value} {ab_BadValue : Bool} {col_BadValue : Option Bool} {dd_BadValue : Option Addr} {m0_BadValue m1_BadValue m2_BadValue m3_BadValue m5_BadValue : Option Value} (xl_BadValue : K.lookup C_BadValue = some (excClassObj nm_BadValue q_BadValue C_BadValue N_BadValue bs_BadValue bm_BadValue true sn_BadValue sub_BadValue ab_BadValue col_BadValue dd_BadValue m0_BadValue m1_BadValue m2_BadValue m3_BadValue m5_BadValue "ValueError.__new__")) (rv_BadValue : PySem.HandSPX.refsVE bm_BadValue = true) (sa_BadValue : PySem.W.findIn K (.ref C_BadValue) "__setattr__" = some (some (.builtin "object.__setattr__"))) (ty_BadValue : PySem.W.typeIn K (.ref C_BadValue) = some (.type "type"))
    (nf_BadValue_value : PySem.W.findIn K (.ref C_BadValue) "value" = some none)
    (g_TooLarge : PySem.W.nsIn K mainGlobals "TooLarge" = some (some (.ref C_TooLarge))) (kp_TooLarge : PySem.W.keepIn K (.ref C_TooLarge) = true) (eb_TooLarge : PySem.W.subIn K (.ref C_TooLarge) (.type "BaseException") = some true) (ty_TooLarge : PySem.W.typeIn K (.ref C_TooLarge) = some (.type "type")) (xe_TooLarge : PySem.W.excIn K C_TooLarge [.type "ValueError", .type "Exception", .type "BaseException", .type "object"] "ValueError.__new__" = true)
    (te_TooLarge_BadRecipe : PySem.W.exmOne K (.ref C_TooLarge) (.ref C_BadRecipe) = some false)
    (te_TooLarge_BadWay : PySem.W.exmOne K (.ref C_TooLarge) (.ref C_BadWay) = some false)
    (te_TooLarge_BadValue : PySem.W.exmOne K (.ref C_TooLarge) (.ref C_BadValue) = some false)
    (te_TooLarge_TooLarge : PySem.W.exmOne K (.ref C_TooLarge) (.ref C_TooLarge) = some true)
    (te_BadRecipe_TooLarge : PySem.W.exmOne K (.ref C_BadRecipe) (.ref C_TooLarge) = some false)
    (te_BadWay_TooLarge : PySem.W.exmOne K (.ref C_BadWay) (.ref C_TooLarge) = some false)
    (te_BadValue_TooLarge : PySem.W.exmOne K (.ref C_BadValue) (.ref C_TooLarge) = some false)
    (te_BadRecipe_BadRecipe : PySem.W.exmOne K (.ref C_BadRecipe) (.ref C_BadRecipe) = some true)
    (te_BadRecipe_BadWay : PySem.W.exmOne K (.ref C_BadRecipe) (.ref C_BadWay) = some false)
    (te_BadRecipe_BadValue : PySem.W.exmOne K (.ref C_BadRecipe) (.ref C_BadValue) = some false)
    (te_BadWay_BadRecipe : PySem.W.exmOne K (.ref C_BadWay) (.ref C_BadRecipe) = some false)
    (te_BadWay_BadWay : PySem.W.exmOne K (.ref C_BadWay) (.ref C_BadWay) = some true)
    (te_BadWay_BadValue : PySem.W.exmOne K (.ref C_BadWay) (.ref C_BadValue) = some false)
    (te_BadValue_BadRecipe : PySem.W.exmOne K (.ref C_BadValue) (.ref C_BadRecipe) = some false)
    (te_BadValue_BadWay : PySem.W.exmOne K (.ref C_BadValue) (.ref C_BadWay) = some false)
    (te_BadValue_BadValue : PySem.W.exmOne K (.ref C_BadValue) (.ref C_BadValue) = some true)
    (z_bool : PySem.W.nsIn K mainGlobals "bool" = some none)
    (z_dict : PySem.W.nsIn K mainGlobals "dict" = some none)
    (z_enumerate : PySem.W.nsIn K mainGlobals "enumerate" = some none)
    (z_int : PySem.W.nsIn K mainGlobals "int" = some none)
    (z_isinstance : PySem.W.nsIn K mainGlobals "isinstance" = some none)
    (z_len : PySem.W.nsIn K mainGlobals "len" = some none)
    (z_list : PySem.W.nsIn K mainGlobals "list" = some none)
    (z_max : PySem.W.nsIn K mainGlobals "max" = some none)
    (z_min : PySem.W.nsIn K mainGlobals "min" = some none)
    (z_range : PySem.W.nsIn K mainGlobals "range" = some none)
    (z_repr : PySem.W.nsIn K mainGlobals "repr" = some none)
    (z_str : PySem.W.nsIn K mainGlobals "str" = some none)
    (z_super : PySem.W.nsIn K mainGlobals "super" = some none)
    (z_tuple : PySem.W.nsIn K mainGlobals "tuple" = some none)
    {q_MOST_DEEP : Tok} (gi_MOST_DEEP : PySem.W.nsIn K mainGlobals "MOST_DEEP" = some (some (.int 4 q_MOST_DEEP)))
    {q_MOST_STEPS : Tok} (gi_MOST_STEPS : PySem.W.nsIn K mainGlobals "MOST_STEPS" = some (some (.int 400 q_MOST_STEPS)))
    {q_MOST_ROWS : Tok} (gi_MOST_ROWS : PySem.W.nsIn K mainGlobals "MOST_ROWS" = some (some (.int 500 q_MOST_ROWS)))
    {q_MOST_HEIGHT : Tok} (gi_MOST_HEIGHT : PySem.W.nsIn K mainGlobals "MOST_HEIGHT" = some (some (.int 60 q_MOST_HEIGHT)))
    {u_l_kind : Value} {v_l_kind : Option Addr} {w_l_kind : Array Value} {y_l_kind : Array (Option Value)} (e_l_kind : K.lookup c_l_kind = some ⟨u_l_kind, v_l_kind, .fields w_l_kind, y_l_kind⟩) (p_l_kind : w_l_kind[11]? = some (.ref P_l_kind)) (h_l_kind : PySem.W.codeHdIn K c_l_kind P_l_kind = true) (n_l_kind : K.lookup P_l_kind = none) (t_l_kind : h.get? P_l_kind = some { cls := .none, data := .fields #[] })
    {u_l_all_say : Value} {v_l_all_say : Option Addr} {w_l_all_say : Array Value} {y_l_all_say : Array (Option Value)} (e_l_all_say : K.lookup c_l_all_say = some ⟨u_l_all_say, v_l_all_say, .fields w_l_all_say, y_l_all_say⟩) (p_l_all_say : w_l_all_say[11]? = some (.ref P_l_all_say)) (h_l_all_say : PySem.W.codeHdIn K c_l_all_say P_l_all_say = true) (n_l_all_say : K.lookup P_l_all_say = none) (t_l_all_say : h.get? P_l_all_say = some { cls := .none, data := .fields #[] })
    {u_l_recipes_right : Value} {v_l_recipes_right : Option Addr} {w_l_recipes_right : Array Value} {y_l_recipes_right : Array (Option Value)} (e_l_recipes_right : K.lookup c_l_recipes_right = some ⟨u_l_recipes_right, v_l_recipes_right, .fields w_l_recipes_right, y_l_recipes_right⟩) (p_l_recipes_right : w_l_recipes_right[11]? = some (.ref P_l_recipes_right)) (h_l_recipes_right : PySem.W.codeHdIn K c_l_recipes_right P_l_recipes_right = true) (n_l_recipes_right : K.lookup P_l_recipes_right = none) (t_l_recipes_right : h.get? P_l_recipes_right = some { cls := .none, data := .fields #[] })
    {u_l_ways_right : Value} {v_l_ways_right : Option Addr} {w_l_ways_right : Array Value} {y_l_ways_right : Array (Option Value)} (e_l_ways_right : K.lookup c_l_ways_right = some ⟨u_l_ways_right, v_l_ways_right, .fields w_l_ways_right, y_l_ways_right⟩) (p_l_ways_right : w_l_ways_right[11]? = some (.ref P_l_ways_right)) (h_l_ways_right : PySem.W.codeHdIn K c_l_ways_right P_l_ways_right = true) (n_l_ways_right : K.lookup P_l_ways_right = none) (t_l_ways_right : h.get? P_l_ways_right = some { cls := .none, data := .fields #[] })
    {u_l_unused_right : Value} {v_l_unused_right : Option Addr} {w_l_unused_right : Array Value} {y_l_unused_right : Array (Option Value)} (e_l_unused_right : K.lookup c_l_unused_right = some ⟨u_l_unused_right, v_l_unused_right, .fields w_l_unused_right, y_l_unused_right⟩) (p_l_unused_right : w_l_unused_right[11]? = some (.ref P_l_unused_right)) (h_l_unused_right : PySem.W.codeHdIn K c_l_unused_right P_l_unused_right = true) (n_l_unused_right : K.lookup P_l_unused_right = none) (t_l_unused_right : h.get? P_l_unused_right = some { cls := .none, data := .fields #[] })
    {u_l_right : Value} {v_l_right : Option Addr} {w_l_right : Array Value} {y_l_right : Array (Option Value)} (e_l_right : K.lookup c_l_right = some ⟨u_l_right, v_l_right, .fields w_l_right, y_l_right⟩) (p_l_right : w_l_right[11]? = some (.ref P_l_right)) (h_l_right : PySem.W.codeHdIn K c_l_right P_l_right = true) (n_l_right : K.lookup P_l_right = none) (t_l_right : h.get? P_l_right = some { cls := .none, data := .fields #[] })
    (hnd : ([P_l_kind, P_l_all_say, P_l_recipes_right, P_l_ways_right, P_l_unused_right, P_l_right] : List Addr).Nodup),
    ∃ (fd : FuncData) (cs : List (Addr × Addr × Str)), (∀ p ∈ cs, h.get? p.2.1 = some { cls := .none, data := .fields #[] }) ∧ (∀ p ∈ cs, K.lookup p.2.1 = none) ∧ (∀ p ∈ cs, PySem.W.codeHdIn K p.1 p.2.1 = true) ∧ (cs.map (·.2.1)).Nodup ∧ (∀ (s : Shared) (v : Value), BindsTo s fd ⟨[v], []⟩ [("_law_script", v)]) ∧ ∀ base : Heap, K.In base → base.Ns mainGlobals mg → (∀ p ∈ cs, LamX.TabB base mg p.1 p.2.1) → RunL l.prog w K mg base 17 fa fd ["_law_script"] (spLawG cs)
end G
open PySem PySem.W PyProof.Rows in
set_option maxRecDepth 100000 in
set_option maxHeartbeats 0 in
theorem G.top_of (AM : G.AllMk) : PySem.Challenge.rw_kindgrove_k26_what_is_no_recipe_or_way.Holds := by
  w_on; o_law
  refine G.km_head2 (Hk := PySem.W.kmHook G.p1.heap_39 G.asL G.asE G.tsL) rfl (r := G.theRow) (q := G.theView) (M := 20000) (loose := G.theLoose) (d := HandSHeadRun.topDef G.theRow.prog 52) (kwd := []) G.f_he G.f_hf G.run ?hd ?hp ?hk ?hwr G.f_k1 G.f_ok G.f_hb ?hw ?hc
  (case hd => kernel_rfl)
  (case hp => kernel_rfl)
  (case hk => kernel_rfl)
  (case hwr => rfl)
  (case hw => w_witness2)
  k_fill
  refine G.walkG (l := PySem.Challenge.rw_kindgrove_k26_what_is_no_recipe_or_way) (k := 17) (x := "_law_script") rfl (by kernel_rfl) ⟨rfl, by decide, by decide⟩ (fun w h Y => PySem.W.km_in_of Y) ?F
  case F =>
    intro w mg fa h Y KX GX hmg
    have hm : mg (Str.ofString "law") = some (.ref fa) := by
      rw [← G.theName]
      exact hmg
    clear hmg
    have hT := PySem.W.km_tabs_of Y
    clear Y
    refine' AM KX GX hm ?a0 ?l0 ?c0 ?k0 ?a1 ?l1 ?c1 ?k1 ?a2 ?l2 ?c2 ?k2 ?a3 ?l3 ?c3 ?k3 ?a4 ?l4 ?c4 ?k4 ?a5 ?l5 ?c5 ?k5 ?a6 ?l6 ?c6 ?k6 ?a7 ?l7 ?c7 ?k7 ?a8 ?l8 ?c8 ?k8 ?a9 ?l9 ?c9 ?k9 ?a10 ?l10 ?c10 ?k10 ?a11 ?l11 ?c11 ?k11 ?a12 ?l12 ?c12 ?k12 ?a13 ?l13 ?c13 ?k13 ?a14 ?l14 ?c14 ?k14 ?a15 ?l15 ?c15 ?k15 ?a16 ?l16 ?c16 ?k16 ?a17 ?l17 ?c17 ?k17 ?a18 ?l18 ?c18 ?k18 ?a19 ?l19 ?c19 ?k19 ?a20 ?l20 ?c20 ?k20 ?a21 ?l21 ?c21 ?k21 ?a22 ?l22 ?c22 ?k22 ?a23 ?l23 ?c23 ?k23 ?a24 ?l24 ?c24 ?k24 ?a25 ?l25 ?c25 ?k25 ?a26 ?l26 ?c26 ?k26 ?a27 ?l27 ?c27 ?k27 ?a28 ?l28 ?c28 ?k28 ?a29 ?l29 ?c29 ?k29 ?a30 ?l30 ?c30 ?k30 ?a31 ?l31 ?c31 ?k31 ?a32 ?i32 ?l32 ?c32 ?k32 ?a33 ?i33 ?l33 ?c33 ?k33 ?a34 ?i34 ?l34 ?c34 ?k34 ?a35 ?i35 ?l35 ?c35 ?k35 ?a36 ?i36 ?l36 ?c36 ?k36 ?a37 ?i37 ?l37 ?c37 ?k37 ?a38 ?l38 ?c38 ?k38 ?g_Calls ?pg_Calls ?hd_Calls ?po_Calls ?sa_Calls ?mk_Calls ?kp_Calls ?kd_Calls_penalty ?kd_Calls_sides ?kd_Calls_distance ?kd_Calls_bound ?nf_Calls_own_by ?nf_Calls_join_by ?nf_Calls_consistent_by ?nf_Calls_matches_by ?nf_Calls_penalty_by ?nf_Calls_sides_by ?nf_Calls_distance_by ?nf_Calls_bound_by ?g_GroveError ?g_BadRecipe ?ga_BadRecipe ?gg_BadRecipe ?eb_BadRecipe ?kp_BadRecipe ?hd_BadRecipe ?g_BadWay ?ga_BadWay ?gg_BadWay ?eb_BadWay ?kp_BadWay ?hd_BadWay ?g_BadValue ?ga_BadValue ?gg_BadValue ?eb_BadValue ?kp_BadValue ?hd_BadValue ?xl_BadRecipe ?rv_BadRecipe ?sa_BadRecipe ?ty_BadRecipe ?nf_BadRecipe_at ?xl_BadWay ?rv_BadWay ?sa_BadWay ?ty_BadWay ?nf_BadWay_at ?xl_BadValue ?rv_BadValue ?sa_BadValue ?ty_BadValue ?nf_BadValue_value ?g_TooLarge ?kp_TooLarge ?eb_TooLarge ?ty_TooLarge ?xe_TooLarge ?te_TooLarge_BadRecipe ?te_TooLarge_BadWay ?te_TooLarge_BadValue ?te_TooLarge_TooLarge ?te_BadRecipe_TooLarge ?te_BadWay_TooLarge ?te_BadValue_TooLarge ?te_BadRecipe_BadRecipe ?te_BadRecipe_BadWay ?te_BadRecipe_BadValue ?te_BadWay_BadRecipe ?te_BadWay_BadWay ?te_BadWay_BadValue ?te_BadValue_BadRecipe ?te_BadValue_BadWay ?te_BadValue_BadValue ?z_bool ?z_dict ?z_enumerate ?z_int ?z_isinstance ?z_len ?z_list ?z_max ?z_min ?z_range ?z_repr ?z_str ?z_super ?z_tuple ?gi_MOST_DEEP ?gi_MOST_STEPS ?gi_MOST_ROWS ?gi_MOST_HEIGHT ?e_l_kind ?p_l_kind ?h_l_kind ?n_l_kind ?t_l_kind ?e_l_all_say ?p_l_all_say ?h_l_all_say ?n_l_all_say ?t_l_all_say ?e_l_recipes_right ?p_l_recipes_right ?h_l_recipes_right ?n_l_recipes_right ?t_l_recipes_right ?e_l_ways_right ?p_l_ways_right ?h_l_ways_right ?n_l_ways_right ?t_l_ways_right ?e_l_unused_right ?p_l_unused_right ?h_l_unused_right ?n_l_unused_right ?t_l_unused_right ?e_l_right ?p_l_right ?h_l_right ?n_l_right ?t_l_right ?hnd
    (case g_Calls => k_is)
    (case g_GroveError => k_is)
    (case g_BadRecipe => k_is)
    (case g_BadWay => k_is)
    (case g_BadValue => k_is)
    (case g_TooLarge => k_is)
    (case a0 => k_is)
    (case a1 => k_is)
    (case a2 => k_is)
    (case a3 => k_is)
    (case a4 => k_is)
    (case a5 => k_is)
    (case a6 => k_is)
    (case a7 => k_is)
    (case a8 => k_is)
    (case a9 => k_is)
    (case a10 => k_is)
    (case a11 => k_is)
    (case a12 => k_is)
    (case a13 => k_is)
    (case a14 => k_is)
    (case a15 => k_is)
    (case a16 => k_is)
    (case a17 => k_is)
    (case a18 => k_is)
    (case a19 => k_is)
    (case a20 => k_is)
    (case a21 => k_is)
    (case a22 => k_is)
    (case a23 => k_is)
    (case a24 => k_is)
    (case a25 => k_is)
    (case a26 => k_is)
    (case a27 => k_is)
    (case a28 => k_is)
    (case a29 => k_is)
    (case a30 => k_is)
    (case a31 => k_is)
    (case a32 => k_is)
    (case a33 => k_is)
    (case a34 => k_is)
    (case a35 => k_is)
    (case a36 => k_is)
    (case a37 => k_is)
    (case a38 => k_is)
    (case xl_BadRecipe => k_is)
    (case xl_BadWay => k_is)
    (case xl_BadValue => k_is)
    (case l0 => k_is)
    (case c0 => k_is)
    (case k0 => k_is)
    (case l1 => k_is)
    (case c1 => k_is)
    (case k1 => k_is)
    (case l2 => k_is)
    (case c2 => k_is)
    (case k2 => k_is)
    (case l3 => k_is)
    (case c3 => k_is)
    (case k3 => k_is)
    (case l4 => k_is)
    (case c4 => k_is)
    (case k4 => k_is)
    (case l5 => k_is)
    (case c5 => k_is)
    (case k5 => k_is)
    (case l6 => k_is)
    (case c6 => k_is)
    (case k6 => k_is)
    (case l7 => k_is)
    (case c7 => k_is)
    (case k7 => k_is)
    (case l8 => k_is)
    (case c8 => k_is)
    (case k8 => k_is)
    (case l9 => k_is)
    (case c9 => k_is)
    (case k9 => k_is)
    (case l10 => k_is)
    (case c10 => k_is)
    (case k10 => k_is)
    (case l11 => k_is)
    (case c11 => k_is)
    (case k11 => k_is)
    (case l12 => k_is)
    (case c12 => k_is)
    (case k12 => k_is)
    (case l13 => k_is)
    (case c13 => k_is)
    (case k13 => k_is)
    (case l14 => k_is)
    (case c14 => k_is)
    (case k14 => k_is)
    (case l15 => k_is)
    (case c15 => k_is)
    (case k15 => k_is)
    (case l16 => k_is)
    (case c16 => k_is)
    (case k16 => k_is)
    (case l17 => k_is)
    (case c17 => k_is)
    (case k17 => k_is)
    (case l18 => k_is)
    (case c18 => k_is)
    (case k18 => k_is)
    (case l19 => k_is)
    (case c19 => k_is)
    (case k19 => k_is)
    (case l20 => k_is)
    (case c20 => k_is)
    (case k20 => k_is)
    (case l21 => k_is)
    (case c21 => k_is)
    (case k21 => k_is)
    (case l22 => k_is)
    (case c22 => k_is)
    (case k22 => k_is)
    (case l23 => k_is)
    (case c23 => k_is)
    (case k23 => k_is)
    (case l24 => k_is)
    (case c24 => k_is)
    (case k24 => k_is)
    (case l25 => k_is)
    (case c25 => k_is)
    (case k25 => k_is)
    (case l26 => k_is)
    (case c26 => k_is)
    (case k26 => k_is)
    (case l27 => k_is)
    (case c27 => k_is)
    (case k27 => k_is)
    (case l28 => k_is)
    (case c28 => k_is)
    (case k28 => k_is)
    (case l29 => k_is)
    (case c29 => k_is)
    (case k29 => k_is)
    (case l30 => k_is)
    (case c30 => k_is)
    (case k30 => k_is)
    (case l31 => k_is)
    (case c31 => k_is)
    (case k31 => k_is)
    (case i32 => k_is)
    (case l32 => k_is)
    (case c32 => k_is)
    (case k32 => k_is)
    (case i33 => k_is)
    (case l33 => k_is)
    (case c33 => k_is)
    (case k33 => k_is)
    (case i34 => k_is)
    (case l34 => k_is)
    (case c34 => k_is)
    (case k34 => k_is)
    (case i35 => k_is)
    (case l35 => k_is)
    (case c35 => k_is)
    (case k35 => k_is)
    (case i36 => k_is)
    (case l36 => k_is)
    (case c36 => k_is)
    (case k36 => k_is)
    (case i37 => k_is)
    (case l37 => k_is)
    (case c37 => k_is)
    (case k37 => k_is)
    (case l38 => k_is)
    (case c38 => k_is)
    (case k38 => k_is)
    (case pg_Calls => k_is)
    (case hd_Calls => k_is)
    (case po_Calls => k_is)
    (case sa_Calls => k_is)
    (case mk_Calls => k_is)
    (case kp_Calls => k_is)
    (case kd_Calls_penalty => k_is)
    (case kd_Calls_sides => k_is)
    (case kd_Calls_distance => k_is)
    (case kd_Calls_bound => k_is)
    (case nf_Calls_own_by => first | k_is | kernel_rfl)
    (case nf_Calls_join_by => first | k_is | kernel_rfl)
    (case nf_Calls_consistent_by => first | k_is | kernel_rfl)
    (case nf_Calls_matches_by => first | k_is | kernel_rfl)
    (case nf_Calls_penalty_by => first | k_is | kernel_rfl)
    (case nf_Calls_sides_by => first | k_is | kernel_rfl)
    (case nf_Calls_distance_by => first | k_is | kernel_rfl)
    (case nf_Calls_bound_by => first | k_is | kernel_rfl)
    (case ga_BadRecipe => k_is)
    (case gg_BadRecipe => k_is)
    (case eb_BadRecipe => k_is)
    (case kp_BadRecipe => k_is)
    (case hd_BadRecipe => k_is)
    (case ga_BadWay => k_is)
    (case gg_BadWay => k_is)
    (case eb_BadWay => k_is)
    (case kp_BadWay => k_is)
    (case hd_BadWay => k_is)
    (case ga_BadValue => k_is)
    (case gg_BadValue => k_is)
    (case eb_BadValue => k_is)
    (case kp_BadValue => k_is)
    (case hd_BadValue => k_is)
    (case rv_BadRecipe => decide +kernel)
    (case sa_BadRecipe => k_is)
    (case ty_BadRecipe => k_is)
    (case nf_BadRecipe_at => first | k_is | kernel_rfl)
    (case rv_BadWay => decide +kernel)
    (case sa_BadWay => k_is)
    (case ty_BadWay => k_is)
    (case nf_BadWay_at => first | k_is | kernel_rfl)
    (case rv_BadValue => decide +kernel)
    (case sa_BadValue => k_is)
    (case ty_BadValue => k_is)
    (case nf_BadValue_value => first | k_is | kernel_rfl)
    (case kp_TooLarge => k_is)
    (case eb_TooLarge => k_is)
    (case ty_TooLarge => k_is)
    (case xe_TooLarge => first | k_is | kernel_rfl)
    (case te_TooLarge_BadRecipe => first | rfl | k_is | kernel_rfl)
    (case te_TooLarge_BadWay => first | rfl | k_is | kernel_rfl)
    (case te_TooLarge_BadValue => first | rfl | k_is | kernel_rfl)
    (case te_TooLarge_TooLarge => first | rfl | k_is | kernel_rfl)
    (case te_BadRecipe_TooLarge => first | rfl | k_is | kernel_rfl)
    (case te_BadWay_TooLarge => first | rfl | k_is | kernel_rfl)
    (case te_BadValue_TooLarge => first | rfl | k_is | kernel_rfl)
    (case te_BadRecipe_BadRecipe => first | rfl | k_is | kernel_rfl)
    (case te_BadRecipe_BadWay => first | rfl | k_is | kernel_rfl)
    (case te_BadRecipe_BadValue => first | rfl | k_is | kernel_rfl)
    (case te_BadWay_BadRecipe => first | rfl | k_is | kernel_rfl)
    (case te_BadWay_BadWay => first | rfl | k_is | kernel_rfl)
    (case te_BadWay_BadValue => first | rfl | k_is | kernel_rfl)
    (case te_BadValue_BadRecipe => first | rfl | k_is | kernel_rfl)
    (case te_BadValue_BadWay => first | rfl | k_is | kernel_rfl)
    (case te_BadValue_BadValue => first | rfl | k_is | kernel_rfl)
    (case z_bool => k_is)
    (case z_dict => k_is)
    (case z_enumerate => k_is)
    (case z_int => k_is)
    (case z_isinstance => k_is)
    (case z_len => k_is)
    (case z_list => k_is)
    (case z_max => k_is)
    (case z_min => k_is)
    (case z_range => k_is)
    (case z_repr => k_is)
    (case z_str => k_is)
    (case z_super => k_is)
    (case z_tuple => k_is)
    (case gi_MOST_DEEP => k_is)
    (case gi_MOST_STEPS => k_is)
    (case gi_MOST_ROWS => k_is)
    (case gi_MOST_HEIGHT => k_is)
    (case e_l_kind => k_is)
    (case p_l_kind => rfl)
    (case h_l_kind => kernel_rfl)
    (case n_l_kind => kernel_rfl)
    (case t_l_kind => exact hT _ (by simp [G.tsL]))
    (case e_l_all_say => k_is)
    (case p_l_all_say => rfl)
    (case h_l_all_say => kernel_rfl)
    (case n_l_all_say => kernel_rfl)
    (case t_l_all_say => exact hT _ (by simp [G.tsL]))
    (case e_l_recipes_right => k_is)
    (case p_l_recipes_right => rfl)
    (case h_l_recipes_right => kernel_rfl)
    (case n_l_recipes_right => kernel_rfl)
    (case t_l_recipes_right => exact hT _ (by simp [G.tsL]))
    (case e_l_ways_right => k_is)
    (case p_l_ways_right => rfl)
    (case h_l_ways_right => kernel_rfl)
    (case n_l_ways_right => kernel_rfl)
    (case t_l_ways_right => exact hT _ (by simp [G.tsL]))
    (case e_l_unused_right => k_is)
    (case p_l_unused_right => rfl)
    (case h_l_unused_right => kernel_rfl)
    (case n_l_unused_right => kernel_rfl)
    (case t_l_unused_right => exact hT _ (by simp [G.tsL]))
    (case e_l_right => k_is)
    (case p_l_right => rfl)
    (case h_l_right => kernel_rfl)
    (case n_l_right => kernel_rfl)
    (case t_l_right => exact hT _ (by simp [G.tsL]))
    (case hnd => decide)
namespace G
open PySem L2
-- conditions
local macro_rules | `(tactic| walk_at "c") => `(tactic| first | exact rfl | decide | exact Nat.le_of_ble_eq_true rfl | assumption | omega | exact ⟨by decide, by decide⟩ | exact ⟨by decide, by decide, by decide⟩ | exact cdiv_of (by first | assumption | omega) (by first | assumption | omega) | exact Or.inl (Or.inl ⟨by decide, by decide⟩) | exact Or.inl (Or.inr ⟨by decide, by decide⟩) | exact Or.inl (Or.inl ⟨by omega, by omega⟩) | exact Or.inl (Or.inr ⟨by omega, by omega⟩) | exact ⟨_, _, _, rfl, inferInstance⟩ | exact ⟨_, _, _, _, rfl, inferInstance⟩ | exact ⟨_, rfl⟩)
local macro_rules | `(tactic| walk_at "1") => `(tactic| first | (refine Step.h ?g0 ?_; exact rfl) | (refine Side.mk (by walk_at "c") ?_) | (refine ModD.gz (by walk_at "c") ?_) | with_reducible intro _)
local macro_rules | `(tactic| walk_at "go") => `(tactic| repeat walk_at "1")
local macro_rules | `(tactic| walk_at "sub") => `(tactic| first | exact List.Sublist.refl _ | (refine List.Sublist.cons₂ _ ?_; walk_at "sub") | (refine List.Sublist.cons _ ?_; walk_at "sub") | exact List.nil_sublist _)
local macro_rules | `(tactic| walk_at "body") => `(tactic| ((conv in (defBody _) => whnf); dsimp only [ini]))
local macro_rules | `(tactic| walk_at "if") => `(tactic| first | refine And.intro (fun _ => ?_) (fun z => absurd rfl (of_decide_eq_false z)) | refine And.intro (fun z => absurd (of_decide_eq_true z) (by omega)) (fun _ => ?_) | refine And.intro (fun _ => ?_) (fun z => absurd (of_decide_eq_false z) (by omega)))
local macro_rules | `(tactic| walk_at "gi") => `(tactic| repeat (first | walk_at "1" | walk_at "if"))
local macro_rules | `(tactic| walk_at "gs") => `(tactic| repeat (first | walk_at "1" | walk_at "if" | simp only [List.set_cons_succ, List.set_cons_zero, List.set_set]))
local macro_rules | `(tactic| walk_at "ifd") => `(tactic| first | refine And.intro (fun z => absurd z (by decide)) (fun _ => ?_) | refine And.intro (fun _ => ?_) (fun z => absurd z (by decide)) | refine And.intro (fun z => absurd z (by simp)) (fun _ => ?_) | refine And.intro (fun _ => ?_) (fun z => absurd z (by simp)))
local macro_rules | `(tactic| walk_at "gj") => `(tactic| repeat (first | walk_at "1" | walk_at "if" | walk_at "ifd"))
section
variable {P : Program} {w : World} {K : Fg} {mg : Str → Option Value} {base : Heap} {C_Calls C_BadRecipe C_BadWay C_BadValue C_TooLarge C_GroveError c_l_kind c_l_all_say c_l_recipes_right c_l_ways_right c_l_unused_right c_l_right P_l_kind P_l_all_say P_l_recipes_right P_l_ways_right P_l_unused_right P_l_right : Addr}
abbrev Wel (n c : Int) : MO := .lst [.int n, .int c]
def spWell : SpD := fun ds M Q => ∃ n, ds = [.int n] ∧ ∀ p, Q (.ref p) ((p, Wel n 0) :: M)
theorem ok_well (T : Tx K mg C_Calls C_BadRecipe C_BadWay C_BadValue C_TooLarge C_GroveError c_l_kind c_l_all_say c_l_recipes_right c_l_ways_right c_l_unused_right c_l_right) : Cal P w K mg base "_law_well" 1 1 spWell :=
  cal_mk T.f_l_well sc_l_well st_l_well T.bl fun X FX ds M Q hl ⟨n, e, q⟩ => by
    subst e
    walk_at "body"
    walk_at "go"
    exact .self (q _)
instance spWell_step {n : Int} {M : Mm} {Q : DV → Mm → Prop} : Step (spWell [.int n] M Q) true (∀ p, Q (.ref p) ((p, Wel n 0) :: M)) := ⟨fun _ q => ⟨n, rfl, q⟩⟩
def spDraw : SpD := fun ds M Q => ∃ a i n c m, ds = [.ref a, .int m] ∧ AtM M i a (Wel n c) ∧ 0 < m ∧ m.natAbs < 2 ^ 8000 ∧ ∀ r n' c', 0 ≤ r → r < m → Q (.int r) (M.set i (a, Wel n' c'))
theorem ok_draw (T : Tx K mg C_Calls C_BadRecipe C_BadWay C_BadValue C_TooLarge C_GroveError c_l_kind c_l_all_say c_l_recipes_right c_l_ways_right c_l_unused_right c_l_right) : Cal P w K mg base "_law_draw" 1 2 spDraw :=
  cal_mk T.f_l_draw sc_l_draw st_l_draw T.bl fun X FX ds M Q hl ⟨a, i, n, c, m, e, hA, hm, hm2, q⟩ => by
    subst e
    walk_at "body"
    walk_at "go"
    refine ⟨fun h => ?_, fun h => ?_⟩
    · walk_at "go"
      exact .self (q _ _ _ (Int.emod_nonneg _ (by omega)) (Int.emod_lt_of_pos _ hm))
    · walk_at "go"
      exact .self (q _ _ _ (Int.emod_nonneg _ (by omega)) (Int.emod_lt_of_pos _ hm))
instance spDraw_step {a : Addr} {i : Nat} {n c m : Int} {M : Mm} {Q : DV → Mm → Prop} [A : AtM M i a (Wel n c)] : Step (spDraw [.ref a, .int m] M Q) true (Side (0 < m ∧ m.natAbs < 2 ^ 8000) (∀ r n' c', 0 ≤ r → r < m → Q (.int r) (M.set i (a, Wel n' c')))) := ⟨fun _ q => ⟨a, i, n, c, m, rfl, A, q.a.1, q.a.2, q.b⟩⟩
/-- one of some things -/
def spOne : SpD := fun ds M Q => ∃ a i n c d xs, ds = [.ref a, d] ∧ AtM M i a (Wel n c) ∧ ((∃ b j, d = .ref b ∧ AtM M j b (.lst xs) ∧ j ≠ i) ∨ d = .lis xs) ∧ 0 < xs.length ∧ xs.length < 1000 ∧ ∀ r n' c', r < xs.length → Q (xs.getD r .non) (M.set i (a, Wel n' c'))
theorem ok_one (T : Tx K mg C_Calls C_BadRecipe C_BadWay C_BadValue C_TooLarge C_GroveError c_l_kind c_l_all_say c_l_recipes_right c_l_ways_right c_l_unused_right c_l_right) : Cal P w K mg base "_law_one" 2 2 spOne :=
  have := ok_draw (P := P) (w := w) (base := base) T
  cal_mk T.f_l_one sc_l_one st_l_one T.bl fun X FX ds M Q hl ⟨a, i, n, c, d, xs, e, hA, hB, h0, h1, q⟩ => by
    subst e
    have at_ : ∀ t : Nat, t < xs.length → atI xs (t : Int) = some (xs.getD t .non) := fun t ht => atI_nat (by rw [List.getD_eq_getElem?_getD, List.getElem?_eq_getElem ht]; rfl)
    walk_at "body"
    rcases hB with ⟨b, j, rfl, hB, hne⟩ | rfl
    · walk_at "go"
      rename_i r n' c' r0 r1
      obtain ⟨t, rfl⟩ : ∃ t : Nat, r = (t : Int) := ⟨r.toNat, by omega⟩
      have ht : t < xs.length := by omega
      exact v_ix_l (hB.set_ne hne) (at_ t ht) (.self (q t n' c' ht))
    · walk_at "go"
      rename_i r n' c' r0 r1
      obtain ⟨t, rfl⟩ : ∃ t : Nat, r = (t : Int) := ⟨r.toNat, by omega⟩
      have ht : t < xs.length := by omega
      exact v_ix_f (at_ t ht) (.self (q t n' c' ht))
instance spOneF_step {a : Addr} {i : Nat} {n c : Int} {xs : List DV} {M : Mm} {Q : DV → Mm → Prop} [A : AtM M i a (Wel n c)] : Step (spOne [.ref a, .lis xs] M Q) true (Side (0 < xs.length ∧ xs.length < 1000) (∀ r n' c', r < xs.length → Q (xs.getD r .non) (M.set i (a, Wel n' c')))) := ⟨fun _ q => ⟨a, i, n, c, _, xs, rfl, A, .inr rfl, q.a.1, q.a.2, q.b⟩⟩
def isInt : DV → Bool
  | .int _ => true
  | _ => false
def spInt : SpD := fun ds M Q => ∃ d, ds = [d] ∧ Kn K M d ∧ Q (.bl (isInt d)) M
theorem ok_isint (T : Tx K mg C_Calls C_BadRecipe C_BadWay C_BadValue C_TooLarge C_GroveError c_l_kind c_l_all_say c_l_recipes_right c_l_ways_right c_l_unused_right c_l_right) : Cal P w K mg base "is_integer" 1 1 (spInt (K := K)) :=
  cal_mk T.f_is_integer sc_is_integer st_is_integer T.bl fun X FX ds M Q hl ⟨d, e, hk, q⟩ => by
    subst e
    walk_at "body"
    cases hk with
    | non => walk_at "gi"; exact .self q
    | bl b => walk_at "gi"; exact .self q
    | int i => walk_at "gi"; exact .self q
    | str x => walk_at "gi"; exact .self q
    | tup h => walk_at "gi"; exact .self q
    | tupA => walk_at "gi"; exact .self q
    | ref h =>
      have : OddC X.K M _ := ⟨by rw [FX.hK]; exact h⟩
      walk_at "gi"
      exact .self q
instance spInt_step {d : DV} {M : Mm} {Q : DV → Mm → Prop} : Step (spInt (K := K) [d] M Q) true (Side (Kn K M d) (Q (.bl (isInt d)) M)) := ⟨fun _ q => ⟨d, rfl, q.a, q.b⟩⟩
def btw (lo hi : Int) : DV → Bool
  | .int i => decide (lo ≤ i) && decide (i ≤ hi)
  | _ => false
def spBtw : SpD := fun ds M Q => ∃ d lo hi, ds = [d, .int lo, .int hi] ∧ Kn K M d ∧ Q (.bl (btw lo hi d)) M
theorem ok_btw (T : Tx K mg C_Calls C_BadRecipe C_BadWay C_BadValue C_TooLarge C_GroveError c_l_kind c_l_all_say c_l_recipes_right c_l_ways_right c_l_unused_right c_l_right) : Cal P w K mg base "is_between" 2 3 (spBtw (K := K)) :=
  have := ok_isint (P := P) (w := w) (base := base) T
  cal_mk T.f_is_between sc_is_between st_is_between T.bl fun X FX ds M Q hl ⟨d, lo, hi, e, hk, q⟩ => by
    subst e
    walk_at "body"
    walk_at "go"
    cases d with
    | int i =>
      refine ⟨fun _ => ?_, fun z => Bool.noConfusion z⟩
      walk_at "1"
      refine we_chain rfl ?_
      walk_at "go"
      refine ⟨_, _, rfl, rfl, fun h => ?_, fun h => ?_⟩
      · walk_at "go"
        refine .self ?_
        have e : btw lo hi (.int i) = decide (i ≤ hi) := by show (decide (lo ≤ i) && decide (i ≤ hi)) = _; rw [decide_eq_true h, Bool.true_and]
        rw [e] at q
        exact q
      · refine .self ?_
        have e : btw lo hi (.int i) = false := by show (decide (lo ≤ i) && decide (i ≤ hi)) = _; rw [decide_eq_false h, Bool.false_and]
        rw [e] at q
        exact q
    | _ => exact ⟨fun z => Bool.noConfusion z, fun _ => .self q⟩
instance spBtw_step {d : DV} {lo hi : Int} {M : Mm} {Q : DV → Mm → Prop} : Step (spBtw (K := K) [d, .int lo, .int hi] M Q) true (Side (Kn K M d) (Q (.bl (btw lo hi d)) M)) := ⟨fun _ q => ⟨d, lo, hi, rfl, q.a, q.b⟩⟩
/-- what waits: values with their room -/
abbrev waitD (p : DV × Nat) : DV := .tup [p.1, .int (p.2 : Int)]
def allW (ws : List (DV × Nat)) : Bool := ws.all fun p => plainD p.1 p.2
def sumW (ws : List (DV × Nat)) : Nat := (ws.map fun p => sizeD p.1).sum
theorem getLast_idx {α : Type} {l : List α} {a : α} : (l ++ [a])[(l ++ [a]).length - 1]? = some a := by simp
theorem sumW_map (ds : List DV) (r : Nat) : sumW (ds.map fun d => (d, r)) = sizeDs ds := by
  induction ds with
  | nil => rfl
  | cons d ds ih =>
    rw [sizeDs, ← ih]
    rfl
theorem sumW_app (a b : List (DV × Nat)) : sumW (a ++ b) = sumW a + sumW b := by unfold sumW; rw [List.map_append, List.sum_append]
theorem allW_app (a b : List (DV × Nat)) : allW (a ++ b) = (allW a && allW b) := by unfold allW; rw [List.all_append]
theorem allW_map (ds : List DV) (r : Nat) : allW (ds.map fun d => (d, r)) = plainDs ds r := by
  rw [plainDs_all]
  unfold allW
  rw [List.all_map]
  rfl
theorem sizeD_pos (d : DV) : 1 ≤ sizeD d := by cases d <;> rw [sizeD] <;> omega
theorem len_sumW (ws : List (DV × Nat)) : ws.length ≤ sumW ws := by
  unfold sumW
  induction ws with
  | nil => exact Nat.le_refl 0
  | cons p ws ih =>
    have := sizeD_pos p.1
    rw [List.map_cons, List.sum_cons, List.length_cons]
    omega
def spPlain : SpD := fun ds M Q => ∃ d, ds = [d] ∧ Knp K M d ∧ sizeD d ≤ 1000000 ∧ Q (.bl (plainD d 4)) M
theorem ok_plain (T : Tx K mg C_Calls C_BadRecipe C_BadWay C_BadValue C_TooLarge C_GroveError c_l_kind c_l_all_say c_l_recipes_right c_l_ways_right c_l_unused_right c_l_right) : Cal P w K mg base "is_plain" 2 1 (spPlain (K := K)) :=
  have := ok_isint (P := P) (w := w) (base := base) T
  have := T.gi_MOST_DEEP
  cal_mk T.f_is_plain sc_is_plain st_is_plain T.bl fun X FX ds M Q hl ⟨d, e, hk, hz, q⟩ => by
    subst e
    walk_at "body"
    walk_at "go"
    rename_i pl
    refine ws_while FX (fun n ρ1 M1 => ∃ ws o2 o3, n = sumW ws ∧ sumW ws ≤ 1000000 ∧ (∀ p ∈ ws, Knp K M p.1) ∧ plainD d 4 = allW ws ∧ ρ1 = [some d, some (.ref pl), o2, o3, none] ∧ M1 = (pl, .lst (ws.map waitD)) :: M) _ (.self ⟨[(d, 4)], _, _, rfl, ?_, ?_, ?_, rfl, rfl⟩) ?_
    · unfold sumW; simpa using hz
    · intro p hp
      rw [List.mem_singleton.mp hp]
      exact hk
    · unfold allW; simp
    rintro n ρ1 M1 ⟨ws, o2, o3, rfl, hsz, hkn, hal, rfl, rfl⟩
    have hlw := len_sumW ws
    have hl1 : (ws.map waitD).length ≤ sizeLine := by rw [List.length_map, sizeLine_eq]; omega
    walk_at "go"
    refine ⟨fun h => ?_, fun h => ?_⟩
    · have h := of_decide_eq_true h
      rw [List.length_map] at h
      obtain ⟨us, ⟨d1, r⟩, rfl⟩ : ∃ us a, ws = us ++ [a] := ⟨ws.dropLast, ws.getLast (by intro z; rw [z] at h; simp at h), (List.dropLast_concat_getLast _).symm⟩
      rw [sumW_app] at hsz
      have e1 : sumW [(d1, r)] = sizeD d1 := by unfold sumW; simp
      have k1 : Knp K M d1 := hkn (d1, r) (by simp)
      have k2 : ∀ p ∈ us, Knp K M p.1 := fun p hp => hkn p (by simp [hp])
      rw [allW_app] at hal
      have e2 : allW [(d1, r)] = plainD d1 r := by unfold allW; simp
      rw [e2] at hal
      rw [e1] at hsz
      walk_at "go"
      refine ⟨waitD (d1, r), by rw [List.map_append]; exact getLast_idx, ?_⟩
      rw [List.map_append, show List.map waitD [(d1, r)] = [waitD (d1, r)] from rfl, List.dropLast_concat]
      walk_at "gs"
      have le2 := len_sumW us
      have kup : ∀ {d : DV}, Knp K M d → Knp K ((pl, MO.lst (List.map waitD us)) :: M) d := fun h => h.less (List.Sublist.cons _ (List.Sublist.refl _))
      cases k1 with
      | non =>
        walk_at "gi"
        refine Side.mk (kup .non).kn ?_
        dsimp only [isInt]
        walk_at "gi"
        refine ⟨fun _ => ?_, fun z => Bool.noConfusion z⟩
        walk_at "gi"
        exact ⟨_, by rw [sumW_app, e1]; have := sizeD_pos .non; omega, .self ⟨us, _, _, rfl, by omega, k2, by rw [hal]; simp [plainD], rfl, rfl⟩⟩
      | bl b =>
        walk_at "gi"
        refine Side.mk (kup (.bl b)).kn ?_
        dsimp only [isInt]
        walk_at "gi"
        refine ⟨fun z => Bool.noConfusion z, fun _ => ?_⟩
        walk_at "gi"
        rw [show plainD d 4 = false by rw [hal]; simp [plainD]] at q
        exact ⟨M, List.Sublist.cons _ (List.Sublist.refl _), q⟩
      | int i =>
        walk_at "gi"
        refine Side.mk (kup (.int i)).kn ?_
        dsimp only [isInt]
        walk_at "gi"
        exact ⟨_, by rw [sumW_app, e1]; have := sizeD_pos (.int i); omega, .self ⟨us, _, _, rfl, by omega, k2, by rw [hal]; simp [plainD], rfl, rfl⟩⟩
      | str x =>
        walk_at "gi"
        refine Side.mk (kup (.str x)).kn ?_
        dsimp only [isInt]
        walk_at "gi"
        exact ⟨_, by rw [sumW_app, e1]; have := sizeD_pos (.str x); omega, .self ⟨us, _, _, rfl, by omega, k2, by rw [hal]; simp [plainD], rfl, rfl⟩⟩
      | @ref p hr =>
        have : OddC X.K M _ := ⟨by rw [FX.hK]; exact hr⟩
        walk_at "gi"
        refine Side.mk (kup (.ref hr)).kn ?_
        dsimp only [isInt]
        walk_at "gi"
        refine ⟨fun z => Bool.noConfusion z, fun _ => ?_⟩
        walk_at "gi"
        rw [show plainD d 4 = false by rw [hal]; simp [plainD]] at q
        exact ⟨M, List.Sublist.cons _ (List.Sublist.refl _), q⟩
      | @tup ds hd =>
        walk_at "gi"
        have ez : sizeD (.tup ds) = 1 + sizeDs ds := by rw [sizeD]
        have le3 : ds.length ≤ sizeDs ds := by have := len_sumW (ds.map fun d => (d, 0)); rw [List.length_map, sumW_map] at this; exact this
        have le4 : ds.length ≤ sizeLine := by rw [sizeLine_eq]; omega
        have fin : ∀ r' : Nat, (ds = [] ∨ r = r' + 1) → plainD (.tup ds) r = plainDs ds r' := by
          rintro r' (z | z)
          · rw [z, plainD, plainDs]
          · rw [z, plain_tup]
        by_cases hr : r = 0 ∧ 0 < ds.length
        · obtain ⟨rfl, hr⟩ := hr
          refine ⟨fun _ => ?_, fun z => absurd rfl (of_decide_eq_false z)⟩
          walk_at "go"
          refine ⟨fun _ => ?_, fun z => absurd (by omega) (of_decide_eq_false z)⟩
          walk_at "go"
          rw [show plainD d 4 = false by
            rw [hal]
            cases ds with
            | nil => exact absurd hr (Nat.lt_irrefl 0)
            | cons a b => simp [plainD]] at q
          exact ⟨M, List.Sublist.cons _ (List.Sublist.refl _), q⟩
        · obtain ⟨r', hr'⟩ : ∃ r' : Nat, ds = [] ∨ r = r' + 1 := by
            by_cases h1 : r = 0
            · exact ⟨0, .inl (List.eq_nil_of_length_eq_zero (by omega))⟩
            · exact ⟨r - 1, .inr (by omega)⟩
          have fin := fin r' hr'
          refine ⟨fun h0 => ?_, fun h0 => ?_⟩
          case' refine_1 =>
            have h0 : (r : Int) = 0 := of_decide_eq_true h0
            walk_at "go"
            refine ⟨fun z => absurd (of_decide_eq_true z) (by omega), fun _ => ?_⟩
          case' refine_2 =>
            refine ⟨fun z => Bool.noConfusion z, fun _ => ?_⟩
          all_goals
            walk_at "go"
            refine we_lc1 (i := 4) (ms := [false, false, false, true, false]) (L' := ["part"]) (C' := []) (Gs' := []) FX ⟨rfl, .inl MemC.h, by decide +kernel, by decide +kernel, by decide +kernel⟩ rfl (by decide) ?_
            refine wi_tup ?_
            walk_at "go"
            refine ⟨_, rfl, ?_⟩
            refine lcI1 ds id (fun x => some (.tup [x, .int ((r : Int) - 1)])) rfl (fun i h => by rw [List.getD_eq_getElem?_getD, List.getElem?_eq_getElem h]; rfl) (fun _ _ => trivial) le4 (fun D x acc hx hl2 => ?_) (fun D => ?_)
            · dsimp only [mask, id]
              walk_at "go"
              exact .self rfl
            · rw [filterMap_all]
              have em : (ds.map fun x => DV.tup [x, .int ((r : Int) - 1)]) = (ds.map fun x => (x, r')).map waitD := by
                rw [List.map_map]
                rcases hr' with z | z
                · rw [z]; rfl
                · refine List.map_congr_left fun x _ => ?_
                  show DV.tup [x, .int ((r : Int) - 1)] = DV.tup [x, .int (r' : Int)]
                  rw [show (r : Int) - 1 = (r' : Int) by omega]
              rw [em]
              walk_at "go"
              refine Side.mk (by rw [List.length_map, List.length_map, List.length_map, sizeLine_eq]; omega) ?_
              rw [← List.map_append]
              walk_at "gs"
              refine ⟨_, ?_, ⟨_, ?_, ⟨us ++ ds.map fun x => (x, r'), _, _, rfl, ?_, ?_, ?_, rfl, rfl⟩⟩⟩
              · rw [sumW_app, sumW_map, sumW_app, e1]; omega
              · walk_at "sub"
              · rw [sumW_app, sumW_map]; omega
              · intro p hp
                rcases List.mem_append.mp hp with z | z
                · exact k2 p z
                · obtain ⟨x, hx, rfl⟩ := List.mem_map.mp z
                  exact hd x hx
              · rw [hal, allW_app, allW_map, fin]
    · have h := of_decide_eq_false h
      rw [List.length_map] at h
      obtain rfl : ws = [] := List.eq_nil_of_length_eq_zero (by omega)
      walk_at "go"
      rw [show plainD d 4 = true from hal] at q
      exact ⟨M, List.Sublist.cons _ (List.Sublist.refl _), q⟩
instance spPlain_step {d : DV} {M : Mm} {Q : DV → Mm → Prop} : Step (spPlain (K := K) [d] M Q) true (Side (Knp K M d) (Side (sizeD d ≤ 1000000) (Q (.bl (plainD d 4)) M))) := ⟨fun _ q => ⟨d, rfl, q.a, q.b.a, q.b.b⟩⟩
/-! what recipes are: is_step, recipe_fault, of any thing -/
theorem ok_exc (T : Tx K mg C_Calls C_BadRecipe C_BadWay C_BadValue C_TooLarge C_GroveError c_l_kind c_l_all_say c_l_recipes_right c_l_ways_right c_l_unused_right c_l_right) : ExF P w K mg base "BadValue" C_BadValue ["value"] :=
  exf_mk1 T.vx_BadValue T.xf_BadValue_value.no sc_BadValue__init__ rfl rfl rfl rfl rfl
/-- want_plain -/
def spWant : SpX := fun ds M Q E => ∃ d, ds = [d] ∧ Knp K M d ∧ sizeD d ≤ 1000000 ∧ (plainD d 4 = true → Q d M) ∧ (plainD d 4 = false → E C_BadValue [("value", d)] M)
theorem ok_want (T : Tx K mg C_Calls C_BadRecipe C_BadWay C_BadValue C_TooLarge C_GroveError c_l_kind c_l_all_say c_l_recipes_right c_l_ways_right c_l_unused_right c_l_right) : CalX P w K mg base "want_plain" 3 1 (spWant (K := K) (C_BadValue := C_BadValue)) :=
  have := ok_plain (P := P) (w := w) (base := base) T
  have := ok_exc (P := P) (w := w) (base := base) T
  calX_mk T.fx_want_plain sc_want_plain st_want_plain T.bl fun X FX ds M Q E hl ⟨d, e, hk, hz, h1, h2⟩ TK => by
    subst e
    walk_at "body"
    walk_at "go"
    refine ⟨fun h => ?_, fun h => ?_⟩
    · walk_at "go"
      exact .self (h1 h)
    · walk_at "go"
      exact .self (h2 h)
instance spWant_step {d : DV} {M : Mm} {Q : DV → Mm → Prop} {E : Addr → List (Str × DV) → Mm → Prop} : Step (spWant (K := K) (C_BadValue := C_BadValue) [d] M Q E) true (Side (Knp K M d) (Side (sizeD d ≤ 1000000) ((plainD d 4 = true → Q d M) ∧ (plainD d 4 = false → E C_BadValue [("value", d)] M)))) := ⟨fun _ q => ⟨d, rfl, q.a, q.b.a, q.b.b.1, q.b.b.2⟩⟩
def isTx (x : DV) (y : Str) : Bool := match x with
  | .str z => decide (z = y)
  | _ => false
def stepB (t : Nat) : DV → Bool
  | .tup [x, y] => isTx x "own" && plainD y 4
  | .tup [x, y, z] => isTx x "join" && btw 0 ((t : Int) - 1) y && btw 0 ((t : Int) - 1) z
  | _ => false
theorem step2 {t : Nat} {x y : DV} : stepB t (.tup [x, y]) = (isTx x "own" && plainD y 4) := by simp only [stepB]
theorem step3 {t : Nat} {x y z : DV} : stepB t (.tup [x, y, z]) = (isTx x "join" && btw 0 ((t : Int) - 1) y && btw 0 ((t : Int) - 1) z) := by simp only [stepB]
theorem step4 {t : Nat} {x y z u : DV} {l : List DV} : stepB t (.tup (x :: y :: z :: u :: l)) = false := by simp only [stepB]
def spStepB : SpD := fun ds M Q => ∃ d, ∃ t : Nat, ds = [d, .int (t : Int)] ∧ Knp K M d ∧ sizeD d ≤ 1000000 ∧ Q (.bl (stepB t d)) M
theorem ok_step (T : Tx K mg C_Calls C_BadRecipe C_BadWay C_BadValue C_TooLarge C_GroveError c_l_kind c_l_all_say c_l_recipes_right c_l_ways_right c_l_unused_right c_l_right) : Cal P w K mg base "is_step" 3 2 (spStepB (K := K)) :=
  have := ok_plain (P := P) (w := w) (base := base) T
  have := ok_btw (P := P) (w := w) (base := base) T
  cal_mk T.f_is_step sc_is_step st_is_step T.bl fun X FX ds M Q hl ⟨d, t, e, hk, hz, q⟩ => by
    subst e
    have eK := FX.hK
    subst eK
    walk_at "body"
    cases hk with
    | non => walk_at "gi"; exact .self q
    | bl b => walk_at "gi"; exact .self q
    | int i => walk_at "gi"; exact .self q
    | str x => walk_at "gi"; exact .self q
    | ref h =>
      have : OddC X.K M _ := ⟨h⟩
      walk_at "gi"
      exact .self q
    | @tup ds hds =>
      match ds, hds, hz with
      | [], _, _ => walk_at "gj"; exact .self q
      | [x], _, _ => walk_at "gj"; exact .self q
      | [x, y], hds, hz =>
        have hx := hds x (by simp)
        have hy := hds y (by simp)
        have zy : sizeD y ≤ 1000000 := by rw [sizeD, sizeDs, sizeDs, sizeDs] at hz; omega
        rw [step2] at q
        walk_at "gj"
        cases hx with
        | str z =>
          walk_at "go"
          refine ⟨fun h => ?_, fun h => ?_⟩
          · rw [show isTx (.str z) "own" = true from h, Bool.true_and] at q
            walk_at "go"
            exact .self q
          · rw [show isTx (.str z) "own" = false from h, Bool.false_and] at q
            walk_at "go"
            exact .self q
        | ref h =>
          have : OddC X.K M _ := ⟨h⟩
          rw [show isTx (.ref _) "own" = false from rfl, Bool.false_and] at q
          walk_at "gj"
          exact .self q
        | non => rw [show isTx .non "own" = false from rfl, Bool.false_and] at q; walk_at "gj"; exact .self q
        | bl b => rw [show isTx (.bl b) "own" = false from rfl, Bool.false_and] at q; walk_at "gj"; exact .self q
        | int i => rw [show isTx (.int i) "own" = false from rfl, Bool.false_and] at q; walk_at "gj"; exact .self q
        | @tup l _ => rw [show isTx (.tup l) "own" = false from rfl, Bool.false_and] at q; walk_at "gj"; exact .self q
      | [x, y, z], hds, hz =>
        have hx := hds x (by simp)
        have hy := (hds y (by simp)).kn
        have hzz := (hds z (by simp)).kn
        rw [step3] at q
        walk_at "gj"
        cases hx with
        | str s =>
          walk_at "go"
          refine ⟨fun h => ?_, fun h => ?_⟩
          · rw [show isTx (.str s) "join" = true from h, Bool.true_and] at q
            walk_at "go"
            refine ⟨fun h1 => ?_, fun h1 => ?_⟩
            · rw [h1, Bool.true_and] at q
              walk_at "go"
              exact .self q
            · rw [h1, Bool.false_and] at q
              exact .self q
          · rw [show isTx (.str s) "join" = false from h, Bool.false_and, Bool.false_and] at q
            walk_at "go"
            exact .self q
        | ref h =>
          have : OddC X.K M _ := ⟨h⟩
          rw [show isTx (.ref _) "join" = false from rfl, Bool.false_and, Bool.false_and] at q
          walk_at "gj"
          exact .self q
        | non => rw [show isTx .non "join" = false from rfl, Bool.false_and, Bool.false_and] at q; walk_at "gj"; exact .self q
        | bl b => rw [show isTx (.bl b) "join" = false from rfl, Bool.false_and, Bool.false_and] at q; walk_at "gj"; exact .self q
        | int i => rw [show isTx (.int i) "join" = false from rfl, Bool.false_and, Bool.false_and] at q; walk_at "gj"; exact .self q
        | @tup l _ => rw [show isTx (.tup l) "join" = false from rfl, Bool.false_and, Bool.false_and] at q; walk_at "gj"; exact .self q
      | x :: y :: z :: u :: l, _, _ =>
        rw [step4] at q
        walk_at "go"
        refine ⟨fun h => absurd (of_decide_eq_true h) (by simp only [List.length_cons]; omega), fun _ => ?_⟩
        walk_at "go"
        refine ⟨fun h => absurd (of_decide_eq_true h) (by simp only [List.length_cons]; omega), fun _ => ?_⟩
        walk_at "go"
        exact .self q
/-! recipe_fault, want_recipe, of any thing -/
instance spStepB_step {d : DV} {t : Nat} {M : Mm} {Q : DV → Mm → Prop} : Step (spStepB (K := K) [d, .int (t : Int)] M Q) true (Side (Knp K M d) (Side (sizeD d ≤ 1000000) (Q (.bl (stepB t d)) M))) := ⟨fun _ q => ⟨d, t, rfl, q.a, q.b.a, q.b.b⟩⟩
def LenR (ds : List DV) : Prop := 1 ≤ ds.length ∧ ds.length ≤ 400
def GoodR (d : DV) : Prop := ∃ ds, d = .tup ds ∧ LenR ds ∧ ∀ (i : Nat) x, ds[i]? = some x → stepB i x = true
def FaultAt (d : DV) (a : Int) : Prop := ((∀ ds, d = .tup ds → ¬ LenR ds) ∧ a = -1) ∨ ∃ ds, ∃ (i : Nat) (x : DV), d = .tup ds ∧ LenR ds ∧ a = (i : Int) ∧ ds[i]? = some x ∧ stepB i x = false ∧ ∀ (k : Nat) y, k < i → ds[k]? = some y → stepB k y = true
theorem size_mem {ds : List DV} {x : DV} (h : x ∈ ds) : sizeD x ≤ sizeDs ds := by
  induction ds with
  | nil => cases h
  | cons a l ih =>
    rw [sizeDs]
    rcases List.mem_cons.mp h with rfl | h
    · omega
    · have := ih h; omega
theorem good_no {d : DV} (h : GoodR d) {a : Int} (h2 : FaultAt d a) : False := by
  obtain ⟨ds, rfl, hL, hg⟩ := h
  rcases h2 with ⟨h, _⟩ | ⟨ds', i, x, e, _, _, hx, hb, _⟩
  · exact h ds rfl hL
  · injection e with e
    subst e
    rw [hg i x hx] at hb
    cases hb
theorem fault_uniq {d : DV} {a b : Int} (h : FaultAt d a) (h2 : FaultAt d b) : a = b := by
  rcases h with ⟨h, e1⟩ | ⟨ds, i, x, rfl, hL, e1, hx, hb, hf⟩
  · rcases h2 with ⟨_, e2⟩ | ⟨ds, i, x, e, hL, _⟩
    · rw [e1, e2]
    · exact absurd hL (h ds e)
  · rcases h2 with ⟨h, _⟩ | ⟨ds', k, y, e, _, e2, hy, hb2, hf2⟩
    · exact absurd hL (h ds rfl)
    · injection e with e
      subst e
      rcases Nat.lt_trichotomy i k with z | rfl | z
      · rw [hf2 i x z hx] at hb; cases hb
      · rw [e1, e2]
      · rw [hf k y z hy] at hb2; cases hb2
def spFaultB : SpD := fun ds M Q => ∃ d, ds = [d] ∧ Knp K M d ∧ sizeD d ≤ 1000000 ∧ (GoodR d → Q .non M) ∧ ∀ a, FaultAt d a → Q (.int a) M
theorem ok_fault (T : Tx K mg C_Calls C_BadRecipe C_BadWay C_BadValue C_TooLarge C_GroveError c_l_kind c_l_all_say c_l_recipes_right c_l_ways_right c_l_unused_right c_l_right) : Cal P w K mg base "recipe_fault" 4 1 (spFaultB (K := K)) :=
  have := ok_step (P := P) (w := w) (base := base) T
  have := T.gi_MOST_STEPS
  cal_mk T.f_recipe_fault sc_recipe_fault st_recipe_fault T.bl fun X FX ds M Q hl ⟨d, e, hk, hz, q1, q2⟩ => by
    subst e
    have eK := FX.hK
    subst eK
    have no : (∀ ds, d = .tup ds → ¬ LenR ds) → Q (.int (-1)) M := fun h => q2 _ (.inl ⟨h, rfl⟩)
    walk_at "body"
    cases hk with
    | non => walk_at "gi"; exact .self (no fun ds h => nomatch h)
    | bl b => walk_at "gi"; exact .self (no fun ds h => nomatch h)
    | int i => walk_at "gi"; exact .self (no fun ds h => nomatch h)
    | str x => walk_at "gi"; exact .self (no fun ds h => nomatch h)
    | ref h =>
      have : OddC X.K M _ := ⟨h⟩
      walk_at "gi"
      exact .self (no fun ds h => nomatch h)
    | @tup l hds =>
      have noL : ¬ LenR l → Q (.int (-1)) M := fun h => no fun ds e => by injection e with e; exact e ▸ h
      walk_at "go"
      refine ⟨fun h1 => ?_, fun h1 => ?_⟩
      · have h1 := of_decide_eq_true h1
        walk_at "go"
        refine ⟨fun h2 => ?_, fun h2 => ?_⟩
        · have h2 := of_decide_eq_true h2
          have hL : LenR l := ⟨by omega, by omega⟩
          walk_at "go"
          with_reducible refine ws_for FX ?gn (wi_enumT FX MemC.h MemC.h rfl ?_)
          case gn => exact rfl
          walk_at "go"
          refine ⟨_, rfl, fun t ρ1 M1 => ∃ o1 o2, ρ1 = [some (.tup l), o1, o2] ∧ M1 = M ∧ ∀ (k : Nat) y, k < t → l[k]? = some y → stepB k y = true, .self ⟨_, _, rfl, rfl, fun _ _ h => absurd h (Nat.not_lt_zero _)⟩, fun _ _ _ _ _ => trivial, ?_, ?_⟩
          · rintro t ρ1 M1 ht ⟨o1, o2, rfl, rfl, hb⟩
            have hm := List.getElem_mem ht
            have he : l[t]? = some l[t] := List.getElem?_eq_getElem ht
            have kx := hds _ hm
            have zx : sizeD l[t] ≤ 1000000 := by
              have := size_mem hm
              rw [sizeD] at hz
              omega
            dsimp only
            rw [show l.getD t .non = l[t] by rw [List.getD_eq_getElem?_getD, he]; rfl]
            generalize l[t] = x at he kx zx
            walk_at "go"
            refine ⟨fun h3 => ?_, fun h3 => ?_⟩
            · walk_at "go"
              refine .self ⟨_, _, rfl, rfl, fun k y hk hy => ?_⟩
              rcases Nat.lt_succ_iff_lt_or_eq.mp hk with hk | rfl
              · exact hb k y hk hy
              · rw [he] at hy
                cases hy
                exact h3
            · walk_at "go"
              exact .self (q2 _ (.inr ⟨l, t, x, rfl, hL, rfl, he, h3, hb⟩))
          · rintro ρ1 M1 ⟨o1, o2, rfl, rfl, hb⟩
            walk_at "go"
            exact .self (q1 ⟨l, rfl, hL, fun i x hx => hb i x (List.getElem?_eq_some_iff.mp hx).1 hx⟩)
        · have h2 := of_decide_eq_false h2
          walk_at "go"
          exact .self (noL fun h => by have := h.2; omega)
      · have h1 := of_decide_eq_false h1
        walk_at "go"
        exact .self (noL fun h => by have := h.1; omega)
/-- want_recipe -/
theorem ok_badR (T : Tx K mg C_Calls C_BadRecipe C_BadWay C_BadValue C_TooLarge C_GroveError c_l_kind c_l_all_say c_l_recipes_right c_l_ways_right c_l_unused_right c_l_right) : ExF P w K mg base "BadRecipe" C_BadRecipe ["at"] :=
  exf_mk1 T.vx_BadRecipe T.xf_BadRecipe_at.no sc_BadRecipe__init__ rfl rfl rfl rfl rfl
def spWantR : SpX := fun ds M Q E => ∃ d, ds = [d] ∧ Knp K M d ∧ sizeD d ≤ 1000000 ∧ ((GoodR d ∧ Q .non M) ∨ ∃ a, FaultAt d a ∧ E C_BadRecipe [("at", .int a)] M)
theorem ok_wantR (T : Tx K mg C_Calls C_BadRecipe C_BadWay C_BadValue C_TooLarge C_GroveError c_l_kind c_l_all_say c_l_recipes_right c_l_ways_right c_l_unused_right c_l_right) : CalX P w K mg base "want_recipe" 5 1 (spWantR (K := K) (C_BadRecipe := C_BadRecipe)) :=
  have := ok_fault (P := P) (w := w) (base := base) T
  have := ok_badR (P := P) (w := w) (base := base) T
  calX_mk T.fx_want_recipe sc_want_recipe st_want_recipe T.bl fun X FX ds M Q E hl ⟨d, e, hk, hz, q⟩ TK => by
    subst e
    walk_at "body"
    walk_at "go"
    rcases q with ⟨hg, q⟩ | ⟨b, hb, q⟩
    · refine ⟨d, rfl, hk, hz, fun h => ?_, fun a h => (good_no hg h).elim⟩
      walk_at "gj"
      exact .self q
    · refine ⟨d, rfl, hk, hz, fun h => (good_no h hb).elim, fun a h => ?_⟩
      cases fault_uniq h hb
      walk_at "go"
      refine ⟨fun z => Bool.noConfusion z, fun _ => ?_⟩
      walk_at "go"
      exact .self q
/-! a kind by what its own and join tell -/
structure PlainV (d : DV) : Prop where
  cf : Cf d = true
  pl : plainD d 4 = true
  sz : sizeD d ≤ 100000
  kn : ∀ (K : Fg) (M : Mm), Knp K M d
/-! a kind that nobody changes -/
/-- Calls(own=, join=, consistent=, matches=) -/
def spCInit : SpD := fun ds M Q => ∃ q i d1 d2 d3 d4 d5 d6 d7 d8, ds = [.ref q, d1, d2, d3, d4, d5, d6, d7, d8] ∧ AtM M i q (.ins C_Calls []) ∧ Q .non (M.set i (q, .ins C_Calls [("own_by", d1), ("join_by", d2), ("consistent_by", d3), ("matches_by", d4), ("penalty_by", d5), ("sides_by", d6), ("distance_by", d7), ("bound_by", d8)]))
theorem mk_calls (T : Tx K mg C_Calls C_BadRecipe C_BadWay C_BadValue C_TooLarge C_GroveError c_l_kind c_l_all_say c_l_recipes_right c_l_ways_right c_l_unused_right c_l_right) : MkiN P w K mg base "Calls" ["own", "join", "consistent", "matches"] C_Calls 1 [.non, .non, .non, .non] (spCInit (C_Calls := C_Calls)) :=
  have := T.fd_Calls_own_by
  have := T.fd_Calls_join_by
  have := T.fd_Calls_consistent_by
  have := T.fd_Calls_matches_by
  have := T.fd_Calls_penalty_by
  have := T.fd_Calls_sides_by
  have := T.fd_Calls_distance_by
  have := T.fd_Calls_bound_by
  mkiN_mk T.mn_Calls sc_Calls__init__ st_Calls__init__ T.bl rfl fun X FX ds M Q hl ⟨q, i, d1, d2, d3, d4, d5, d6, d7, d8, e, hA, h⟩ => by
    subst e
    walk_at "body"
    walk_at "gs"
    exact .self h
/-! ### recipes -/
abbrev RStep := DV ⊕ (Nat × Nat)
def stD : RStep → DV
  | .inl d => .tup [.str "own", d]
  | .inr (i, j) => .tup [.str "join", .int (i : Int), .int (j : Int)]
abbrev GStep (κ : Type) := κ ⊕ (Nat × Nat)
def ev {κ α : Type} (o : κ → α) (jn : α → α → α) (z : α) (acc : List α) : GStep κ → α
  | .inl d => o d
  | .inr (a, b) => jn (acc.getD a z) (acc.getD b z)
def evs {κ α : Type} (o : κ → α) (jn : α → α → α) (z : α) (r : List (GStep κ)) : List α := r.foldl (fun acc s => acc ++ [ev o jn z acc s]) []
section
variable {κ α : Type} {o : κ → α} {jn : α → α → α} {z : α} {r : List (GStep κ)}
theorem evs_snoc {s : GStep κ} : evs o jn z (r ++ [s]) = evs o jn z r ++ [ev o jn z (evs o jn z r) s] := by
  unfold evs
  rw [List.foldl_append]
  rfl
theorem take_snoc {β : Type} {l : List β} {t : Nat} {s : β} (h : l[t]? = some s) : l.take (t + 1) = l.take t ++ [s] := by rw [List.take_add_one, h]; rfl
theorem evs_take {t : Nat} {s : GStep κ} (h : r[t]? = some s) : evs o jn z (r.take (t + 1)) = evs o jn z (r.take t) ++ [ev o jn z (evs o jn z (r.take t)) s] := by
  rw [take_snoc h, evs_snoc]
theorem evs_len : ∀ n, n ≤ r.length → (evs o jn z (r.take n)).length = n := by
  intro n
  induction n with
  | zero => intro _; rfl
  | succ n ih =>
    intro h
    rw [evs_take (List.getElem?_eq_getElem (by omega : n < r.length)), List.length_append, ih (by omega)]
    rfl
theorem evs_length : (evs o jn z r).length = r.length := by
  have := evs_len (o := o) (jn := jn) (z := z) (r := r) r.length (Nat.le_refl _)
  rwa [List.take_length] at this
end
structure RecOk {κ : Type} (kp : κ → Prop) (r : List (GStep κ)) : Prop where
  n0 : 0 < r.length
  n1 : r.length ≤ 400
  ow : ∀ (t : Nat) (d : κ), r[t]? = some (Sum.inl d) → kp d
  jn : ∀ (t a b : Nat), r[t]? = some (Sum.inr (a, b)) → a < t ∧ b < t
/-! ways -/
/-! the recipe that doubles -/
/-! keys by their indexes -/
def toK {ι κ : Type} (g : ι → κ) : GStep ι → GStep κ
  | .inl k => .inl (g k)
  | .inr ab => .inr ab
theorem RecOk.toK {ι κ : Type} {kp : κ → Prop} {g : ι → κ} {r : List (GStep ι)} (h : RecOk (fun k => kp (g k)) r) : RecOk kp (r.map (toK g)) := by
  refine ⟨by rw [List.length_map]; exact h.n0, by rw [List.length_map]; exact h.n1, fun t d e => ?_, fun t a b e => ?_⟩
  · rw [List.getElem?_map] at e
    cases hs : r[t]? with
    | none => rw [hs] at e; cases e
    | some s =>
      rw [hs] at e
      cases s with
      | inl k => cases e; exact h.ow t k hs
      | inr ab => cases e
  · rw [List.getElem?_map] at e
    cases hs : r[t]? with
    | none => rw [hs] at e; cases e
    | some s =>
      rw [hs] at e
      cases s with
      | inl k => cases e
      | inr ab => cases e; exact h.jn t a b hs
structure IRec (nk m : Nat) (r : List (GStep Nat)) : Prop where
  len : r.length = m
  ow : ∀ (t k : Nat), r[t]? = some (Sum.inl k) → k < nk
  jn : ∀ (t a b : Nat), r[t]? = some (Sum.inr (a, b)) → a < t ∧ b < t
theorem IRec.own {nk m k : Nat} {r : List (GStep Nat)} (h : IRec nk m r) (hk : k < nk) : IRec nk (m + 1) (r ++ [.inl k]) := by
  refine ⟨by rw [List.length_append, h.len]; rfl, fun t j e => ?_, fun t a b e => ?_⟩
  · rw [List.getElem?_append] at e
    split at e
    · exact h.ow t j e
    · have := (List.getElem?_eq_some_iff.mp e).1
      have : t - r.length = 0 := by simpa using this
      rw [this] at e
      cases e
      exact hk
  · rw [List.getElem?_append] at e
    split at e
    · exact h.jn t a b e
    · have := (List.getElem?_eq_some_iff.mp e).1
      have : t - r.length = 0 := by simpa using this
      rw [this] at e
      cases e
theorem IRec.join {nk m c d : Nat} {r : List (GStep Nat)} (h : IRec nk m r) (hc : c < m) (hd : d < m) : IRec nk (m + 1) (r ++ [.inr (c, d)]) := by
  refine ⟨by rw [List.length_append, h.len]; rfl, fun t j e => ?_, fun t a b e => ?_⟩
  · rw [List.getElem?_append] at e
    split at e
    · exact h.ow t j e
    · have := (List.getElem?_eq_some_iff.mp e).1
      have : t - r.length = 0 := by simpa using this
      rw [this] at e
      cases e
  · rw [List.getElem?_append] at e
    split at e
    · exact h.jn t a b e
    · have h1 := (List.getElem?_eq_some_iff.mp e).1
      have h1 : t - r.length = 0 := by simpa using h1
      rw [h1] at e
      cases e
      have := h.len
      omega
theorem IRec.ok {nk m : Nat} {r : List (GStep Nat)} (h : IRec nk m r) (h0 : 0 < m) (h1 : m ≤ 400) : RecOk (fun k => k < nk) r := ⟨by rw [h.len]; exact h0, by rw [h.len]; exact h1, h.ow, h.jn⟩
theorem RecOk.mono {κ : Type} {kp kp' : κ → Prop} {r : List (GStep κ)} (h : RecOk kp r) (q : ∀ k, kp k → kp' k) : RecOk kp' r := ⟨h.n0, h.n1, fun t d e => q d (h.ow t d e), h.jn⟩
def recD (r : List RStep) : DV := .tup (r.map stD)
theorem rec_at {r : List RStep} {i : Nat} {s : RStep} (h : r[i]? = some s) : atI (r.map stD) (i : Int) = some (stD s) := atI_nat (by rw [List.getElem?_map, h]; rfl)
/-! right recipes are right things -/
theorem btw_true {lo hi i : Int} (h1 : lo ≤ i) (h2 : i ≤ hi) : btw lo hi (.int i) = true := by
  show (decide (lo ≤ i) && decide (i ≤ hi)) = true
  rw [decide_eq_true h1, decide_eq_true h2]
  rfl
def StOk (t : Nat) : RStep → Prop
  | .inl d => PlainV d
  | .inr (a, b) => a < t ∧ b < t
theorem rec_get {r : List RStep} {i : Nat} (h : i < r.length) : (r.map stD).getD i .non = stD r[i] := by
  rw [List.getD_eq_getElem?_getD, List.getElem?_map, List.getElem?_eq_getElem h]
  rfl
theorem RecOk.st {r : List RStep} (h : RecOk PlainV r) {t : Nat} {s : RStep} (hs : r[t]? = some s) : StOk t s := by
  cases s with
  | inl d => exact h.ow t d hs
  | inr ab => exact h.jn t ab.1 ab.2 hs
theorem stepB_st {t : Nat} {s : RStep} (h : StOk t s) : stepB t (stD s) = true := by
  cases s with
  | inl d =>
    have hp : PlainV d := h
    show stepB t (.tup [.str "own", d]) = true
    rw [step2, hp.pl, show isTx (.str "own") "own" = true from rfl]
    rfl
  | inr ab =>
    obtain ⟨a, b⟩ := ab
    obtain ⟨h1, h2⟩ : a < t ∧ b < t := h
    show stepB t (.tup [.str "join", .int (a : Int), .int (b : Int)]) = true
    rw [step3, btw_true (by omega) (by omega), btw_true (by omega) (by omega), show isTx (.str "join") "join" = true from rfl]
    rfl
theorem RecOk.good {r : List RStep} (h : RecOk PlainV r) : GoodR (recD r) := ⟨r.map stD, rfl, ⟨by rw [List.length_map]; exact h.n0, by rw [List.length_map]; exact h.n1⟩, fun i x hx => by
  rw [List.getElem?_map] at hx
  obtain ⟨s, hs, rfl⟩ := Option.map_eq_some_iff.mp hx
  exact stepB_st (h.st hs)⟩
theorem knp_st {K : Fg} {M : Mm} {t : Nat} {s : RStep} (h : StOk t s) : Knp K M (stD s) := by
  cases s with
  | inl d =>
    refine .tup fun x hx => ?_
    · rcases List.mem_cons.mp hx with rfl | hx
      · exact .str _
      · rw [List.mem_singleton.mp hx]; exact (show PlainV d from h).kn K M
  | inr ab =>
    refine .tup fun x hx => ?_
    · rcases List.mem_cons.mp hx with rfl | hx
      · exact .str _
      · rcases List.mem_cons.mp hx with rfl | hx
        · exact .int _
        · rw [List.mem_singleton.mp hx]; exact .int _
theorem RecOk.knp {K : Fg} {M : Mm} {r : List RStep} (h : RecOk PlainV r) : Knp K M (recD r) := .tup fun x hx => by
  obtain ⟨s, hs, rfl⟩ := List.mem_map.mp hx
  obtain ⟨t, ht⟩ := List.getElem?_of_mem hs
  exact knp_st (h.st ht)
theorem atI_last {ds : List DV} {d : DV} (h0 : 0 < ds.length) (h : ds[ds.length - 1]? = some d) : atI ds (-1) = some d := by
  unfold atI ixN
  rw [if_neg (by omega), if_pos (by omega)]
  show ds[((ds.length : Int) + -1).toNat]? = some d
  rw [show ((ds.length : Int) + -1).toNat = ds.length - 1 by omega]
  exact h
def lastE {α : Type} (l : List α) (z : α) : α := l.getD (l.length - 1) z
theorem lastE_at {α : Type} {l : List α} {z : α} (h : 0 < l.length) : l[l.length - 1]? = some (lastE l z) := getD_some (by omega)
def rowsE {κ : Type} (r : List (GStep κ)) : List Nat := evs (fun _ => 1) (· + ·) 0 r
def spRowsOf : SpD := fun ds M Q => ∃ r, ds = [recD r] ∧ RecOk PlainV r ∧ ∀ D, Q (.ref D) ((D, .lst (natsD (rowsE r))) :: M)
theorem rows_step {r : List RStep} {t : Nat} {s : RStep} (h : r[t]? = some s) : rowsE (r.take (t + 1)) = rowsE (r.take t) ++ [ev (fun _ => 1) (· + ·) 0 (rowsE (r.take t)) s] := evs_take h
theorem rows_len {r : List RStep} {t : Nat} (h : t ≤ r.length) : (rowsE (r.take t)).length = t := evs_len t h
theorem ok_rows_of (T : Tx K mg C_Calls C_BadRecipe C_BadWay C_BadValue C_TooLarge C_GroveError c_l_kind c_l_all_say c_l_recipes_right c_l_ways_right c_l_unused_right c_l_right) : Cal P w K mg base "rows_of" 1 1 spRowsOf :=
  cal_mk T.f_rows_of sc_rows_of st_rows_of T.bl fun X FX ds M Q hl ⟨r, e, hr, q⟩ => by
    subst e
    walk_at "body"
    unfold recD
    walk_at "go"
    rename_i D
    refine ws_for FX rfl (wi_tup ?_)
    walk_at "go"
    have hn : (r.map stD).length = r.length := List.length_map _
    refine ⟨_, rfl, fun t ρ1 M1 => ∃ o2, ρ1 = [some (.tup (r.map stD)), some (.ref D), o2] ∧ M1 = (D, .lst (natsD (rowsE (r.take t)))) :: M, .self ⟨_, rfl, rfl⟩, fun _ _ _ _ _ => trivial, ?_, ?_⟩
    · rintro t ρ1 M1 ht ⟨o2, rfl, rfl⟩
      rw [hn] at ht
      dsimp only
      rw [rec_get ht]
      have hs := List.getElem?_eq_getElem ht
      have ln := rows_len (r := r) (t := t) (by omega)
      have h4 := hr.n1
      cases hst : r[t] with
      | inl d =>
        rw [hst] at hs
        dsimp only [stD]
        walk_at "gj"
        refine Side.mk (by rw [natsD_len, ln, sizeLine_eq]; omega) ?_
        walk_at "gs"
        exact .self ⟨_, rfl, by rw [rows_step hs, natsD_app]; rfl⟩
      | inr ab =>
        obtain ⟨x, y⟩ := ab
        rw [hst] at hs
        obtain ⟨hx, hy⟩ := hr.jn t x y hs
        dsimp only [stD]
        walk_at "gj"
        refine v_ix_l inferInstance (natsD_at (getD_some (z := 0) (by omega : x < (rowsE (r.take t)).length))) ?_
        walk_at "gj"
        refine v_ix_l inferInstance (natsD_at (getD_some (z := 0) (by omega : y < (rowsE (r.take t)).length))) ?_
        walk_at "gj"
        refine Side.mk (by rw [natsD_len, ln, sizeLine_eq]; omega) ?_
        walk_at "gs"
        exact .self ⟨_, rfl, by rw [rows_step hs, natsD_app]; rfl⟩
    · rintro ρ1 M1 ⟨o2, rfl, rfl⟩
      rw [hn, List.take_length]
      walk_at "go"
      exact .self (q _)
instance spRowsOf_step {r : List RStep} {M : Mm} {Q : DV → Mm → Prop} : Step (spRowsOf [recD r] M Q) true (Side (RecOk PlainV r) (∀ D, Q (.ref D) ((D, .lst (natsD (rowsE r))) :: M))) := ⟨fun _ q => ⟨r, rfl, q.a, q.b⟩⟩
/-! the tables -/
theorem chs_get {a t : Int} {n : Nat} : ((List.range n).filterMap fun k : Nat => some (svD (.inl ((a + t * (k : Int)) % 16).toNat))) = (chs a t n).map svD := by
  rw [filterMap_all]
  unfold chs
  rw [List.map_map]
  rfl
theorem vS_at {z : Int} (h0 : 0 ≤ z) (h1 : z < 16) : atI vS z = some (svD (.inl z.toNat)) := by
  obtain ⟨t, rfl⟩ : ∃ t : Nat, z = (t : Int) := ⟨z.toNat, by omega⟩
  have ht : t < vS.length := by show t < 16; omega
  refine atI_nat ?_
  rw [Int.toNat_natCast, List.getElem?_eq_getElem ht]
  show _ = some (vS.getD t .non)
  rw [List.getD_eq_getElem?_getD, List.getElem?_eq_getElem ht]
  rfl
theorem chs_len {a t : Int} {n : Nat} : (chs a t n).length = n := by unfold chs; rw [List.length_map, List.length_range]
theorem chs_inl {a t : Int} {n : Nat} : ∀ c ∈ chs a t n, ∃ x, c = .inl x := fun c hc => by
  unfold chs at hc
  obtain ⟨k, _, rfl⟩ := List.mem_map.mp hc
  exact ⟨_, rfl⟩
def spVals : SpD := fun ds M Q => ∃ wl i n c, ∃ m : Nat, ds = [.ref wl, .int (m : Int)] ∧ AtM M i wl (Wel n c) ∧ m ≤ 16 ∧ ∀ cs n' c', VC cs → cs.length = m → Q (.lis (cs.map svD)) (M.set i (wl, Wel n' c'))
theorem ok_vals (T : Tx K mg C_Calls C_BadRecipe C_BadWay C_BadValue C_TooLarge C_GroveError c_l_kind c_l_all_say c_l_recipes_right c_l_ways_right c_l_unused_right c_l_right) : Cal P w K mg base "_law_values" 2 2 spVals :=
  have := ok_draw (P := P) (w := w) (base := base) T
  cal_mk T.f_l_values sc_l_values st_l_values T.bl fun X FX ds M Q hl ⟨wl, i, n, c, m, e, hA, hm, q⟩ => by
    subst e
    walk_at "body"
    walk_at "go"
    rename_i p0
    change WS X _ ((p0, MO.lst vS) :: M) _ _ _ _ _
    refine ws_asgT FX rfl ?_
    walk_at "gs"
    rename_i a n1 c1 a0 a1 t n2 c2 t0 t1
    refine ws_setLc1 (i := 6) (iy := 5) (ms := [false, false, true, true, true, false, false]) (L' := ["_law_k"]) (C' := []) (Gs' := ["int"]) FX ⟨rfl, .inl MemC.h, by decide +kernel, by decide +kernel, by decide +kernel⟩ rfl (by decide) MemC.h rfl (by rfl) ?_
    refine wi_range1 FX MemC.h MemC.h rfl ?_
    walk_at "go"
    refine ⟨by omega, by omega, ?_⟩
    refine lcI1 (List.range m) (fun k => .int (k : Int)) (fun k => some (svD (.inl ((a + (1 + 2 * t) * (k : Int)) % 16).toNat))) (by simp) (fun i h => by simp) (fun _ _ => trivial) (by rw [sizeLine_eq]; omega) (fun D x acc hx hl2 => ?_) (fun D => ?_)
    · dsimp only [mask]
      walk_at "go"
      refine v_ix_l inferInstance (vS_at (Int.emod_nonneg _ (by decide)) (Int.emod_lt_of_pos _ (by decide))) ?_
      walk_at "go"
      refine .self ?_
      simp
    · rw [chs_get]
      have V := chs_ok a0 a1 t0 t1 hm
      have VI := chs_inl (a := a) (t := 1 + 2 * t) (n := m)
      have VL := chs_len (a := a) (t := 1 + 2 * t) (n := m)
      generalize chs a (1 + 2 * t) m = cs at V VI VL
      have fin : ∀ (pos : Pos) (cs : List Ch) (n c : Int), VC cs → cs.length = m → WE X [some (.ref wl), some (.int (m : Int)), some (.ref p0), some (.int a), some (.int (1 + 2 * t)), some (.ref D), none] ((D, MO.lst (cs.map svD)) :: (p0, MO.lst vS) :: List.set M i (wl, Wel n c)) (.Name "_law_found" pos) fun d M' => Sub (Q d) M' := fun pos cs n c v l => by
        refine we_frz ?_
        walk_at "go"
        exact ⟨_, _, _, rfl, inferInstance, _, by show List.Sublist _ (_ :: _); exact List.Sublist.cons _ (List.Sublist.refl _), q cs n c v l⟩
      walk_at "go"
      refine ⟨fun h => ?_, fun h => ⟨fun z => Bool.noConfusion z, fun _ => ?_⟩⟩
      · have h := of_decide_eq_true h
        walk_at "gs"
        refine ⟨fun h2 => ?_, fun h2 => ?_⟩
        · walk_at "gs"
          rename_i y n4 c4 y0 y1 z n5 c5 z0 z1
          obtain ⟨j, rfl⟩ : ∃ j : Nat, z = (j : Int) := ⟨z.toNat, by omega⟩
          refine ⟨D, _, _, _, j, rfl, rfl, inferInstance, ixN_of j (by rw [List.length_map]; omega), ?_⟩
          rw [show (cs.map svD).set j (.int (1000 + y)) = (cs.set j (.inr (1000 + y))).map svD by rw [List.map_set]; rfl]
          simp only [List.set_cons_succ, List.set_cons_zero, List.set_set]
          walk_at "1"
          walk_at "1"
          walk_at "1"
          exact fin _ _ _ _ (V.put VI ⟨by omega, by have : y < 10 ^ 9 := y1; omega⟩) (by rw [List.length_set]; exact VL)
        · walk_at "1"
          walk_at "1"
          walk_at "1"
          exact fin _ _ _ _ V VL
      · walk_at "1"
        walk_at "1"
        walk_at "1"
        exact fin _ _ _ _ V VL
instance spVals_step {wl : Addr} {i : Nat} {n c : Int} {m : Nat} {M : Mm} {Q : DV → Mm → Prop} [A : AtM M i wl (Wel n c)] : Step (spVals [.ref wl, .int (m : Int)] M Q) true (Side (m ≤ 16) (∀ cs n' c', VC cs → cs.length = m → Q (.lis (cs.map svD)) (M.set i (wl, Wel n' c')))) := ⟨fun _ q => ⟨wl, i, n, c, m, rfl, A, q.a, q.b⟩⟩
def spMade : SpD := fun ds M Q => ∃ wl i n c, ∃ (way : Int) (a b m : Nat), ds = [.ref wl, .int way, .int (a : Int), .int (b : Int), .int (m : Int)] ∧ AtM M i wl (Wel n c) ∧ (a < m ∧ b < m ∧ m ≤ 16) ∧ ∀ (r : Nat) n' c', r < m → Q (.int (r : Int)) (M.set i (wl, Wel n' c'))
theorem ok_made (T : Tx K mg C_Calls C_BadRecipe C_BadWay C_BadValue C_TooLarge C_GroveError c_l_kind c_l_all_say c_l_recipes_right c_l_ways_right c_l_unused_right c_l_right) : Cal P w K mg base "_law_made" 2 5 spMade :=
  have := ok_draw (P := P) (w := w) (base := base) T
  cal_mk T.f_l_made sc_l_made st_l_made T.bl fun X FX ds M Q hl ⟨wl, i, n, c, way, a, b, m, e, hA, ⟨h1, h2, h3⟩, q⟩ => by
    subst e
    have q1 : ∀ z : Int, 0 ≤ z → z < m → Sub (Q (.int z)) M := fun z z0 z1 => by
      obtain ⟨t, rfl⟩ : ∃ t : Nat, z = (t : Int) := ⟨z.toNat, by omega⟩
      have := q t n c (by omega)
      rw [hA.set_id] at this
      exact .self this
    walk_at "body"
    walk_at "go"
    refine ⟨fun h => ?_, fun h => ?_⟩
    · walk_at "go"
      exact q1 _ (by split <;> omega) (by split <;> omega)
    walk_at "go"
    refine ⟨fun h => ?_, fun h => ?_⟩
    · walk_at "go"
      exact q1 _ (Int.emod_nonneg _ (by omega)) (Int.emod_lt_of_pos _ (by omega))
    walk_at "go"
    refine ⟨fun h => ?_, fun h => ?_⟩
    · walk_at "go"
      refine ⟨fun h => ?_, fun h => ⟨fun z => Bool.noConfusion z, fun _ => ?_⟩⟩
      · walk_at "go"
        refine ⟨fun h => ?_, fun h => ?_⟩
        · walk_at "go"
          exact q1 _ (by omega) (of_decide_eq_true h)
        · walk_at "go"
          exact q1 _ (by omega) (by omega)
      · walk_at "go"
        exact q1 _ (by omega) (by omega)
    walk_at "go"
    refine ⟨fun h => ?_, fun h => ?_⟩
    · walk_at "go"
      refine ⟨fun h => ?_, fun h => ?_⟩
      · walk_at "go"
        exact q1 _ (Int.emod_nonneg _ (by omega)) (Int.emod_lt_of_pos _ (by omega))
      · walk_at "go"
        exact q1 _ (by omega) (by omega)
    walk_at "go"
    rename_i r n1 c1 r0 r1
    obtain ⟨t, rfl⟩ : ∃ t : Nat, r = (t : Int) := ⟨r.toNat, by omega⟩
    exact .self (q t _ _ (by omega))
instance spMade_step {wl : Addr} {i : Nat} {n c way : Int} {a b m : Nat} {M : Mm} {Q : DV → Mm → Prop} [A : AtM M i wl (Wel n c)] : Step (spMade [.ref wl, .int way, .int (a : Int), .int (b : Int), .int (m : Int)] M Q) true (Side (a < m ∧ b < m ∧ m ≤ 16) (∀ (r : Nat) n' c', r < m → Q (.int (r : Int)) (M.set i (wl, Wel n' c')))) := ⟨fun _ q => ⟨wl, i, n, c, way, a, b, m, rfl, A, q.a, q.b⟩⟩
theorem putD_new {kvs : List (Key × DV)} {k : Key} {d : DV} (h : (kvs.any fun kv => decide (kv.1 = k)) = false) : putD kvs k d = kvs ++ [(k, d)] := by
  unfold putD
  rw [h]
  rfl
theorem tab_merge (t : Tab) : mergeD [] (tabD t) = tabD t := by rfl
def spTable : SpD := fun ds M Q => ∃ wl i n c, ∃ m : Nat, ds = [.ref wl, .int (m : Int)] ∧ AtM M i wl (Wel n c) ∧ (0 < m ∧ m ≤ 16) ∧ ∀ p t n' c', TabOk t m → Q (.ref p) ((p, .dk (tabD t)) :: M.set i (wl, Wel n' c'))
theorem ok_table (T : Tx K mg C_Calls C_BadRecipe C_BadWay C_BadValue C_TooLarge C_GroveError c_l_kind c_l_all_say c_l_recipes_right c_l_ways_right c_l_unused_right c_l_right) : Cal P w K mg base "_law_table" 3 2 spTable :=
  have := ok_draw (P := P) (w := w) (base := base) T
  have := ok_vals (P := P) (w := w) (base := base) T
  have := ok_made (P := P) (w := w) (base := base) T
  cal_mk T.f_l_table sc_l_table st_l_table T.bl fun X FX ds M Q hl ⟨wl, i, n, c, m, e, hA, ⟨hm0, hm⟩, q⟩ => by
    subst e
    walk_at "body"
    walk_at "1"
    refine ws_asgT FX rfl ?_
    walk_at "gs"
    rename_i ra n1 c1 ra0 ra1 rb n2 c2 rb0 rb1
    obtain ⟨nl, hnl, nl0, nl1⟩ : ∃ nl : Nat, 1 + ra = (nl : Int) ∧ 0 < nl ∧ nl ≤ m := ⟨(1 + ra).toNat, by omega, by omega, by omega⟩
    obtain ⟨nk, hnk, nk0, nk1⟩ : ∃ nk : Nat, 1 + rb = (nk : Int) ∧ 0 < nk ∧ nk ≤ 4 := ⟨(1 + rb).toNat, by omega, by omega, by omega⟩
    rw [hnl, hnk]
    clear hnl hnk ra0 ra1 rb0 rb1
    refine ws_asgT FX rfl ?_
    refine WE.mono (Q := fun d M' => ∃ (nq : Nat) (n c : Int), 0 < nq ∧ nq ≤ 3 ∧ d = .tup [.int (nq : Int), .int 0] ∧ M' = List.set M i (wl, Wel n c)) ?_ ?_
    · walk_at "gs"
      rename_i rc n0 c0 rc0 rc1
      exact ⟨(1 + rc).toNat, _, _, by omega, by omega, by rw [show ((1 + rc).toNat : Int) = 1 + rc by omega], rfl⟩
    rintro d1 M1 ⟨nq, n3, c3, nq0, nq1, rfl, rfl⟩
    walk_at "1"
    walk_at "1"
    walk_at "1"
    walk_at "1"
    refine ws_join (fun ρ' M' => ∃ wy n c : Int, ρ' = [some (.ref wl), some (.int (m : Int)), some (.int (nl : Int)), some (.int (nk : Int)), some (.int (nq : Int)), some (.int wy), none, none, none, none, none, none, none, none, none] ∧ M' = List.set M i (wl, Wel n c)) ?_ ?_
    · walk_at "gs"
      refine ⟨fun h => ?_, fun h => ?_⟩
      · walk_at "gs"
        exact ⟨_, _, _, rfl, rfl⟩
      · walk_at "gs"
        exact ⟨_, _, _, rfl, rfl⟩
    rintro ρ1 M1 ⟨wy, n4, c4, rfl, rfl⟩
    walk_at "1"
    walk_at "1"
    refine we_dict2 fun tb => ?_
    walk_at "gs"
    rename_i ls n5 c5 vls lls ks n6 c6 vks lks
    refine ⟨_, .inr "labels", .inr "keys", inferInstance, rfl, rfl, by decide, ?_⟩
    simp only [List.set_cons_succ, List.set_cons_zero, List.set_set]
    walk_at "1"
    walk_at "1"
    refine ws_dputS FX (by rfl) ?_
    walk_at "gs"
    rename_i qs n7 c7 vqs lqs
    refine ⟨tb, _, _, rfl, inferInstance, by simp [sizeLine_eq], ?_⟩
    rw [putD_new rfl]
    simp only [List.set_cons_succ, List.set_cons_zero, List.set_set, List.cons_append, List.nil_append]
    walk_at "1"
    refine ws_dputS FX (by rfl) ?_
    refine we_frz ?_
    refine we_lc1 (i := 11) (ms := [true, false, true, false, false, false, false, false, false, false, false, false, false, false, false]) (L' := ["_law_k"]) (C' := []) (Gs' := ["_law_draw"]) FX ⟨rfl, .inl MemC.h, by decide +kernel, by decide +kernel, by decide +kernel⟩ rfl (by decide) ?_
    refine wi_range1 FX MemC.h MemC.h rfl ?_
    walk_at "go"
    refine ⟨by omega, by omega, fun D => ⟨fun k M2 => ∃ (ys : List Nat) (n c : Int), ys.length = k ∧ (∀ y ∈ ys, y < nl) ∧ M2 = (D, .lst (natsD ys)) :: (tb, .dk [(.inr "labels", .lis (ls.map svD)), (.inr "keys", .lis (ks.map svD)), (.inr "questions", .lis (qs.map svD))]) :: List.set M i (wl, Wel n c), .self ⟨[], _, _, rfl, fun _ h => (nomatch h), rfl⟩, fun _ _ _ _ => trivial, ?_, ?_⟩⟩
    · rintro k M2 hk ⟨ys, n, c, yl, ya, rfl⟩
      dsimp only [mask]
      walk_at "gs"
      rename_i X2 F2 z n8 c8 z0 z1
      refine Side.mk (by rw [natsD_len, sizeLine_eq]; omega) ?_
      obtain ⟨j, rfl⟩ : ∃ j : Nat, z = (j : Int) := ⟨z.toNat, by omega⟩
      exact .self ⟨ys ++ [j], _, _, by rw [List.length_append, yl]; rfl, fun y hy => (List.mem_append.mp hy).elim (ya y) fun h => by rw [List.mem_singleton.mp h]; omega, by rw [natsD_app]; rfl⟩
    rintro M2 ⟨ow, n8, c8, owl, owa, rfl⟩
    refine ⟨D, 0, _, rfl, inferInstance, ?_⟩
    dsimp only [List.eraseIdx]
    walk_at "gs"
    refine ⟨tb, _, _, rfl, inferInstance, by simp [sizeLine_eq], ?_⟩
    rw [putD_new rfl]
    simp only [List.set_cons_succ, List.set_cons_zero, List.set_set, List.cons_append, List.nil_append]
    walk_at "1"
    walk_at "1"
    refine we_frz ?_
    refine we_listRg FX MemC.h MemC.h MemC.h MemC.h rfl ?_
    walk_at "go"
    refine ⟨nl, rfl, by omega, fun pl => ⟨pl, 0, _, rfl, inferInstance, ?_⟩⟩
    dsimp only [List.eraseIdx]
    walk_at "1"
    walk_at "1"
    refine ws_setLc1 (i := 12) (iy := 8) (ms := [true, false, true, false, false, true, false, true, false, false, false, false, false, false, false]) (L' := []) (C' := ["_law_a"]) (Gs' := []) FX ⟨rfl, .inr MemC.h, by decide +kernel, by decide +kernel, by decide +kernel⟩ rfl (by decide) MemC.h rfl (by rfl) ?_
    refine wi_lis ?_
    walk_at "go"
    refine ⟨_, rfl, ?_⟩
    rw [natsD_len, List.length_range]
    refine fun D1 => ⟨fun k M2 => ∃ (rs : List (List Nat)) (n c : Int), rs.length = k ∧ (∀ r ∈ rs, r.length = nl ∧ ∀ x ∈ r, x < nl) ∧ M2 = (D1, .lst (rowsD rs)) :: (tb, .dk [(.inr "labels", .lis (ls.map svD)), (.inr "keys", .lis (ks.map svD)), (.inr "questions", .lis (qs.map svD)), (.inr "owns", .lis (natsD ow))]) :: List.set M i (wl, Wel n c), .self ⟨[], _, _, rfl, fun _ h => (nomatch h), rfl⟩, fun _ _ _ _ => trivial, ?_, ?_⟩
    · rintro k M2 hk ⟨rs, n, c, rl, ra, rfl⟩
      dsimp only [mask]
      rw [natsD_get (by rw [List.length_range]; exact hk), List.getElem_range]
      walk_at "go"
      rename_i X2 F2
      refine we_frz ?_
      refine we_lc1 (i := 13) (ms := [true, false, true, false, false, true, false, false, false, false, false, false, true, false, false]) (L' := ["_law_b"]) (C' := []) (Gs' := ["_law_made"]) F2 ⟨rfl, .inl MemC.h, by decide +kernel, by decide +kernel, by decide +kernel⟩ rfl (by decide) ?_
      refine wi_lis ?_
      walk_at "go"
      refine ⟨_, rfl, ?_⟩
      rw [natsD_len, List.length_range]
      refine fun D2 => ⟨fun k2 M2 => ∃ (ys : List Nat) (n c : Int), ys.length = k2 ∧ (∀ y ∈ ys, y < nl) ∧ M2 = (D2, .lst (natsD ys)) :: (D1, .lst (rowsD rs)) :: (tb, .dk [(.inr "labels", .lis (ls.map svD)), (.inr "keys", .lis (ks.map svD)), (.inr "questions", .lis (qs.map svD)), (.inr "owns", .lis (natsD ow))]) :: List.set M i (wl, Wel n c), .self ⟨[], _, _, rfl, fun _ h => (nomatch h), rfl⟩, fun _ _ _ _ => trivial, ?_, ?_⟩
      · rintro k2 M2 hk2 ⟨ys, n, c, yl, ya, rfl⟩
        dsimp only [mask]
        rw [natsD_get (by rw [List.length_range]; exact hk2), List.getElem_range]
        walk_at "gs"
        rename_i X3 F3 z n9 c9 z1
        refine Side.mk (by rw [natsD_len, sizeLine_eq]; omega) ?_
        exact .self ⟨ys ++ [z], _, _, by rw [List.length_append, yl]; rfl, fun y hy => (List.mem_append.mp hy).elim (ya y) fun h => by rw [List.mem_singleton.mp h]; omega, by rw [natsD_app]; rfl⟩
      · rintro M2 ⟨ys, n, c, yl, ya, rfl⟩
        refine ⟨D2, 0, _, rfl, inferInstance, ?_⟩
        dsimp only [List.eraseIdx]
        walk_at "gs"
        refine Side.mk (by unfold rowsD; rw [List.length_map, sizeLine_eq]; omega) ?_
        exact .self ⟨rs ++ [ys], _, _, by rw [List.length_append, rl]; rfl, fun r hr => (List.mem_append.mp hr).elim (ra r) fun h => by rw [List.mem_singleton.mp h]; exact ⟨yl, ya⟩, by unfold rowsD; rw [List.map_append]; rfl⟩
    rintro M2 ⟨jn, n9, c9, jnl, jna, rfl⟩
    walk_at "1"
    refine wss_frz (i := 8) (p := D1) rfl inferInstance ?_
    dsimp only [List.set, List.eraseIdx]
    walk_at "1"
    refine ws_setLc1 (i := 11) (iy := 9) (ms := [true, false, false, false, true, false, false, false, false, false, false, false, false, false, false]) (L' := ["_law_k"]) (C' := []) (Gs' := ["range"]) FX ⟨rfl, .inl MemC.h, by decide +kernel, by decide +kernel, by decide +kernel⟩ rfl (by decide) MemC.h rfl (by rfl) ?_
    refine wi_range1 FX MemC.h MemC.h rfl ?_
    walk_at "go"
    refine ⟨by omega, by omega, ?_⟩
    rw [Int.toNat_natCast]
    refine fun Dft => ⟨fun k M2 => ∃ (rs : List (List Bool)) (n c : Int), rs.length = k ∧ (∀ r ∈ rs, r.length = nq) ∧ M2 = (Dft, .lst (flagsD rs)) :: (tb, .dk [(.inr "labels", .lis (ls.map svD)), (.inr "keys", .lis (ks.map svD)), (.inr "questions", .lis (qs.map svD)), (.inr "owns", .lis (natsD ow))]) :: List.set M i (wl, Wel n c), .self ⟨[], _, _, rfl, fun _ h => (nomatch h), rfl⟩, fun _ _ _ _ => trivial, ?_, ?_⟩
    · rintro k M2 hk ⟨rs, n, c, rl, ra, rfl⟩
      dsimp only [mask]
      walk_at "go"
      rename_i X2 F2
      refine we_frz ?_
      refine we_lc1 (i := 14) (ms := [true, false, false, false, false, false, false, false, false, false, false, false, false, false, false]) (L' := ["_law_q"]) (C' := []) (Gs' := ["_law_draw"]) F2 ⟨rfl, .inl MemC.h, by decide +kernel, by decide +kernel, by decide +kernel⟩ rfl (by decide) ?_
      refine wi_range1 F2 MemC.h MemC.h rfl ?_
      walk_at "go"
      refine ⟨by omega, by omega, ?_⟩
      rw [Int.toNat_natCast]
      refine fun D2 => ⟨fun k2 M2 => ∃ (ys : List Bool) (n c : Int), ys.length = k2 ∧ M2 = (D2, .lst (ys.map .bl)) :: (Dft, .lst (flagsD rs)) :: (tb, .dk [(.inr "labels", .lis (ls.map svD)), (.inr "keys", .lis (ks.map svD)), (.inr "questions", .lis (qs.map svD)), (.inr "owns", .lis (natsD ow))]) :: List.set M i (wl, Wel n c), .self ⟨[], _, _, rfl, rfl⟩, fun _ _ _ _ => trivial, ?_, ?_⟩
      · rintro k2 M2 hk2 ⟨ys, n, c, yl, rfl⟩
        dsimp only [mask]
        walk_at "gs"
        rename_i X3 F3 z n9 c9 z0 z1
        refine Side.mk (by rw [List.length_map, sizeLine_eq]; omega) ?_
        exact .self ⟨ys ++ [_], _, _, by rw [List.length_append, yl]; rfl, by rw [List.map_append]; rfl⟩
      · rintro M2 ⟨ys, n, c, yl, rfl⟩
        refine ⟨D2, 0, _, rfl, inferInstance, ?_⟩
        dsimp only [List.eraseIdx]
        walk_at "gs"
        refine Side.mk (by unfold flagsD; rw [List.length_map, sizeLine_eq]; omega) ?_
        exact .self ⟨rs ++ [ys], _, _, by rw [List.length_append, rl]; rfl, fun r hr => (List.mem_append.mp hr).elim (ra r) fun h => by rw [List.mem_singleton.mp h]; exact yl, by unfold flagsD; rw [List.map_append]; rfl⟩
    rintro M2 ⟨ft, n9, c9, ftl, fta, rfl⟩
    walk_at "1"
    refine wss_frz (i := 9) (p := Dft) rfl inferInstance ?_
    dsimp only [List.set, List.eraseIdx]
    walk_at "1"
    refine ws_setLc1 (i := 12) (iy := 10) (ms := [true, false, false, false, true, false, false, false, false, false, false, false, false, false, false]) (L' := ["_law_a"]) (C' := []) (Gs' := ["range"]) FX ⟨rfl, .inl MemC.h, by decide +kernel, by decide +kernel, by decide +kernel⟩ rfl (by decide) MemC.h rfl (by rfl) ?_
    refine wi_lis ?_
    walk_at "go"
    refine ⟨_, rfl, ?_⟩
    rw [natsD_len, List.length_range]
    refine fun Dlt => ⟨fun k M2 => ∃ (rs : List (List Bool)) (n c : Int), rs.length = k ∧ (∀ r ∈ rs, r.length = nq) ∧ M2 = (Dlt, .lst (flagsD rs)) :: (tb, .dk [(.inr "labels", .lis (ls.map svD)), (.inr "keys", .lis (ks.map svD)), (.inr "questions", .lis (qs.map svD)), (.inr "owns", .lis (natsD ow))]) :: List.set M i (wl, Wel n c), .self ⟨[], _, _, rfl, fun _ h => (nomatch h), rfl⟩, fun _ _ _ _ => trivial, ?_, ?_⟩
    · rintro k M2 hk ⟨rs, n, c, rl, ra, rfl⟩
      dsimp only [mask]
      rw [natsD_get (by rw [List.length_range]; exact hk), List.getElem_range]
      walk_at "go"
      rename_i X2 F2
      refine we_frz ?_
      refine we_lc1 (i := 14) (ms := [true, false, false, false, false, false, false, false, false, false, false, false, false, false, false]) (L' := ["_law_q"]) (C' := []) (Gs' := ["_law_draw"]) F2 ⟨rfl, .inl MemC.h, by decide +kernel, by decide +kernel, by decide +kernel⟩ rfl (by decide) ?_
      refine wi_range1 F2 MemC.h MemC.h rfl ?_
      walk_at "go"
      refine ⟨by omega, by omega, ?_⟩
      rw [Int.toNat_natCast]
      refine fun D2 => ⟨fun k2 M2 => ∃ (ys : List Bool) (n c : Int), ys.length = k2 ∧ M2 = (D2, .lst (ys.map .bl)) :: (Dlt, .lst (flagsD rs)) :: (tb, .dk [(.inr "labels", .lis (ls.map svD)), (.inr "keys", .lis (ks.map svD)), (.inr "questions", .lis (qs.map svD)), (.inr "owns", .lis (natsD ow))]) :: List.set M i (wl, Wel n c), .self ⟨[], _, _, rfl, rfl⟩, fun _ _ _ _ => trivial, ?_, ?_⟩
      · rintro k2 M2 hk2 ⟨ys, n, c, yl, rfl⟩
        dsimp only [mask]
        walk_at "gs"
        rename_i X3 F3 z n9 c9 z0 z1
        refine Side.mk (by rw [List.length_map, sizeLine_eq]; omega) ?_
        exact .self ⟨ys ++ [_], _, _, by rw [List.length_append, yl]; rfl, by rw [List.map_append]; rfl⟩
      · rintro M2 ⟨ys, n, c, yl, rfl⟩
        refine ⟨D2, 0, _, rfl, inferInstance, ?_⟩
        dsimp only [List.eraseIdx]
        walk_at "gs"
        refine Side.mk (by unfold flagsD; rw [List.length_map, sizeLine_eq]; omega) ?_
        exact .self ⟨rs ++ [ys], _, _, by rw [List.length_append, rl]; rfl, fun r hr => (List.mem_append.mp hr).elim (ra r) fun h => by rw [List.mem_singleton.mp h]; exact yl, by unfold flagsD; rw [List.map_append]; rfl⟩
    rintro M2 ⟨lt, n9, c9, ltl, lta, rfl⟩
    walk_at "1"
    refine wss_frz (i := 10) (p := Dlt) rfl inferInstance ?_
    dsimp only [List.set, List.eraseIdx]
    walk_at "1"
    walk_at "1"
    refine we_dictP FX MemC.h MemC.h rfl ?_
    walk_at "1"
    refine we_listItems FX MemC.h MemC.h rfl rfl ?_
    walk_at "go"
    refine ⟨tb, _, _, rfl, inferInstance, fun r1 => ?_⟩
    walk_at "go"
    rename_i r2 r3
    refine ⟨r3, 0, tabD ⟨ls, ks, qs, ow, jn, ft, lt⟩, rfl, AtM.here, fun r4 => ?_⟩
    rw [tab_merge]
    refine ⟨_, ?_, q r4 ⟨ls, ks, qs, ow, jn, ft, lt⟩ n9 c9 ⟨vls, vks, vqs, by show 0 < ls.length; omega, by show ls.length ≤ m; omega, by show 0 < ks.length; omega, by show ks.length ≤ 4; omega, by show 0 < qs.length; omega, by show qs.length ≤ 3; omega, by show ow.length = ks.length; omega, fun x hx => by show x < ls.length; rw [lls]; exact owa x hx, by show jn.length = ls.length; omega, fun r hr => by show r.length = ls.length ∧ ∀ x ∈ r, x < ls.length; rw [lls]; exact jna r hr, by show ft.length = ks.length; omega, fun r hr => by show r.length = qs.length; rw [lqs]; exact fta r hr, by show lt.length = ls.length; omega, fun r hr => by show r.length = qs.length; rw [lqs]; exact lta r hr⟩⟩
    walk_at "sub"
/-! the kind of a table -/
abbrev qK : Str := "_law_kind.<locals>.<lambda>"
def L_own : Lamb := lamAt qK s_l_kind 4 0
def L_join : Lamb := lamAt qK s_l_kind 4 1
def L_cons : Lamb := lamAt qK s_l_kind 4 2
def L_mat : Lamb := lamAt qK s_l_kind 4 3
def kindF (t : Tab) : List (Str × DV) := [("own_by", .clo L_own [.lis (t.ks.map svD), .lis (t.ls.map svD), .lis (natsD t.ow)]), ("join_by", .clo L_join [.lis (rowsD t.jn), .lis (t.ls.map svD)]), ("consistent_by", .clo L_cons [.lis (t.qs.map svD), .lis (flagsD t.lt), .lis (t.ls.map svD)]), ("matches_by", .clo L_mat [.lis (t.qs.map svD), .lis (flagsD t.ft), .lis (t.ks.map svD)]), ("penalty_by", .non), ("sides_by", .non), ("distance_by", .non), ("bound_by", .non)]
theorem plainV_sv {c : Ch} (h : okCh c) : PlainV (svD c) := by
  obtain ⟨h1, h2, h3⟩ := sv_plain h
  exact ⟨h3, h1, by omega, fun K M => sv_knp h⟩
def spKind : SpD := fun ds M Q => ∃ p i t ti, ds = [.ref p] ∧ AtM M i p (.dk (tabD t)) ∧ AtM M ti P_l_kind (.tab qK) ∧ ∀ q, Q (.ref q) ((q, .ins C_Calls (kindF t)) :: M)
theorem ok_kind (T : Tx K mg C_Calls C_BadRecipe C_BadWay C_BadValue C_TooLarge C_GroveError c_l_kind c_l_all_say c_l_recipes_right c_l_ways_right c_l_unused_right c_l_right) (B : Tb mg base c_l_kind P_l_kind c_l_all_say P_l_all_say c_l_recipes_right P_l_recipes_right c_l_ways_right P_l_ways_right c_l_unused_right P_l_unused_right c_l_right P_l_right) : Cal P w K mg base "_law_kind" 3 1 (spKind (C_Calls := C_Calls) (P_l_kind := P_l_kind)) :=
  have := mk_calls (P := P) (w := w) (base := base) T
  cal_mkC (q := qK) T.f_l_kind B.tb_l_kind (by decide +kernel) sc_l_kind st_l_kind T.bl fun X FX MX ds M Q hl ⟨p, i, t, ti, e, hA, hB, q⟩ => by
    subst e
    unfold tabD at hA
    walk_at "body"
    walk_at "1"
    refine ws_asgT FX rfl ?_
    walk_at "go"
    refine ⟨_, rfl, ?_⟩
    walk_at "go"
    refine ⟨_, rfl, ?_⟩
    walk_at "go"
    refine ⟨_, rfl, ?_⟩
    walk_at "go"
    refine ws_asgT FX rfl ?_
    walk_at "go"
    refine ⟨_, rfl, ?_⟩
    walk_at "go"
    refine ⟨_, rfl, ?_⟩
    walk_at "go"
    refine ⟨_, rfl, ?_⟩
    walk_at "go"
    refine ⟨_, rfl, ?_⟩
    walk_at "go"
    rename_i qq
    refine ⟨qq, 0, _, _, _, _, _, _, _, _, rfl, inferInstance, rfl, ?_⟩
    refine ⟨.ref qq, _, .same _, .ins (.cons (ClD.mk (ds := [.lis (t.ks.map svD), .lis (t.ls.map svD), .lis (natsD t.ow)]) FX [2, 1, 4] (by decide +kernel) (by decide +kernel) rfl) (.cons (ClD.mk (ds := [.lis (rowsD t.jn), .lis (t.ls.map svD)]) FX [5, 1] (by decide +kernel) (by decide +kernel) rfl) (.cons (ClD.mk (ds := [.lis (t.qs.map svD), .lis (flagsD t.lt), .lis (t.ls.map svD)]) FX [3, 6, 1] (by decide +kernel) (by decide +kernel) rfl) (.cons (ClD.mk (ds := [.lis (t.qs.map svD), .lis (flagsD t.ft), .lis (t.ks.map svD)]) FX [3, 7, 2] (by decide +kernel) (by decide +kernel) rfl) (.cons (.same _) (.cons (.same _) (.cons (.same _) (.cons (.same _) .nil)))))))) .refl, ?_⟩
    exact .self (q qq)
instance spKind_step {p : Addr} {i ti : Nat} {t : Tab} {M : Mm} {Q : DV → Mm → Prop} [A : AtM M i p (.dk (tabD t))] [B : AtM M ti P_l_kind (.tab qK)] : Step (spKind (C_Calls := C_Calls) (P_l_kind := P_l_kind) [.ref p] M Q) true (∀ q, Q (.ref q) ((q, .ins C_Calls (kindF t)) :: M)) := ⟨fun _ q => ⟨p, i, t, ti, rfl, A, B, q⟩⟩
/-! the law's own readings -/
theorem sv_getD {cs : List Ch} {j : Nat} (h : j < (cs.map svD).length) : (cs.map svD).getD j .non = svD (cs.getD j (.inl 0)) := by
  have h : j < cs.length := by rwa [List.length_map] at h
  rw [List.getD_eq_getElem?_getD, List.getElem?_map, getD_some (z := .inl 0) h]
  rfl
def kyD (ks : List Ch) (k : Nat) : DV := svD (ks.getD k (.inl 0))
abbrev irD (ks : List Ch) (r : List (GStep Nat)) : List RStep := r.map (toK (kyD ks))
def spRecipe : SpD := fun ds M Q => ∃ wl i n c, ∃ (ks : List Ch) (m : Nat), ds = [.ref wl, .lis (ks.map svD), .int (m : Int)] ∧ AtM M i wl (Wel n c) ∧ (0 < ks.length ∧ ks.length ≤ 16 ∧ 0 < m ∧ m ≤ 400) ∧ ∀ r n' c', IRec ks.length m r → Q (recD (irD ks r)) (M.set i (wl, Wel n' c'))
theorem ok_recipe (T : Tx K mg C_Calls C_BadRecipe C_BadWay C_BadValue C_TooLarge C_GroveError c_l_kind c_l_all_say c_l_recipes_right c_l_ways_right c_l_unused_right c_l_right) : Cal P w K mg base "_law_recipe" 3 3 spRecipe :=
  have := ok_draw (P := P) (w := w) (base := base) T
  have := ok_one (P := P) (w := w) (base := base) T
  cal_mk T.f_l_recipe sc_l_recipe st_l_recipe T.bl fun X FX ds M Q hl ⟨wl, i, n, c, ks, m, e, hA, ⟨k0, k1, m0, m1⟩, q⟩ => by
    subst e
    have hk : 0 < (ks.map svD).length ∧ (ks.map svD).length < 1000 := by rw [List.length_map]; omega
    walk_at "body"
    walk_at "go"
    rename_i j n1 c1 hj D
    rw [sv_getD hj]
    rw [List.length_map] at hj
    refine ws_for FX rfl (wi_range2 FX MemC.h MemC.h rfl rfl ?_)
    walk_at "go"
    refine ⟨_, _, rfl, rfl, ⟨by decide, by decide, by omega, by omega⟩, fun t ρ1 M1 => ∃ o4 r n c, IRec ks.length (t + 1) r ∧ ρ1 = [some (.ref wl), some (.lis (ks.map svD)), some (.int (m : Int)), some (.ref D), o4] ∧ M1 = (D, .lst ((irD ks r).map stD)) :: List.set M i (wl, Wel n c), .self ⟨none, [.inl j], n1, c1, ⟨rfl, fun t k e => ?_, fun t a b e => ?_⟩, rfl, rfl⟩, fun _ _ _ _ _ => trivial, ?_, ?_⟩
    · cases t with
      | zero => cases e; exact hj
      | succ t => cases e
    · cases t with
      | zero => cases e
      | succ t => cases e
    · rintro t ρ1 M1 ht ⟨o4, r, n, c, hr, rfl, rfl⟩
      have hn : ((irD ks r).map stD).length = t + 1 := by rw [List.length_map, List.length_map, hr.len]
      have ht2 : t + 1 < m := by omega
      have hsz : ((irD ks r).map stD).length < sizeLine := by rw [hn, sizeLine_eq]; omega
      dsimp only
      walk_at "gs"
      refine ⟨fun h => ?_, fun h => ?_⟩
      · walk_at "gs"
        rename_i j2 n2 c2 hj2
        rw [sv_getD hj2]
        rw [List.length_map] at hj2
        exact .self ⟨_, r ++ [.inl j2], _, _, hr.own hj2, rfl, by unfold irD; rw [List.map_append, List.map_append]; rfl⟩
      · walk_at "gs"
        rename_i y1 n2 c2 y10 y11 y2 n3 c3 y20 y21
        obtain ⟨x, hx, hx2⟩ : ∃ x : Nat, (1 + (t : Int) - 1 - y1) = (x : Int) ∧ x < t + 1 := ⟨(1 + (t : Int) - 1 - y1).toNat, by (split at y11 <;> omega), by (split at y11 <;> omega)⟩
        obtain ⟨y, rfl⟩ : ∃ y : Nat, y2 = (y : Int) := ⟨y2.toNat, by omega⟩
        rw [hx]
        exact .self ⟨_, r ++ [.inr (x, y)], _, _, hr.join hx2 (by omega), rfl, by unfold irD; rw [List.map_append, List.map_append]; rfl⟩
    · rintro ρ1 M1 ⟨o4, r, n, c, hr, rfl, rfl⟩
      rw [show ((m : Int) - 1).toNat + 1 = m by omega] at hr
      walk_at "gs"
      exact ⟨_, by walk_at "sub", q r _ _ hr⟩
/-! rows, values_of, value, key_at, shape_of: what they refuse -/
/-- rows -/
def spRowsX : SpX := fun ds M Q E => ∃ d, ds = [d] ∧ Knp K M d ∧ sizeD d ≤ 1000000 ∧ ((∃ r, d = recD r ∧ RecOk PlainV r ∧ ∀ n : Nat, Q (.int (n : Int)) M) ∨ ∃ a, FaultAt d a ∧ E C_BadRecipe [("at", .int a)] M)
theorem ok_rowsX (T : Tx K mg C_Calls C_BadRecipe C_BadWay C_BadValue C_TooLarge C_GroveError c_l_kind c_l_all_say c_l_recipes_right c_l_ways_right c_l_unused_right c_l_right) : CalX P w K mg base "rows" 6 1 (spRowsX (K := K) (C_BadRecipe := C_BadRecipe)) :=
  have := ok_wantR (P := P) (w := w) (base := base) T
  have := ok_rows_of (P := P) (w := w) (base := base) T
  calX_mk T.fx_rows sc_rows st_rows T.bl fun X FX ds M Q E hl ⟨d, e, hk, hz, h⟩ TK => by
    subst e
    have eK := FX.hK
    subst eK
    walk_at "body"
    walk_at "go"
    rcases h with ⟨r, rfl, hr, q⟩ | ⟨a, ha, q⟩
    · refine ⟨_, rfl, hk, hz, .inl ⟨hr.good, ?_⟩⟩
      walk_at "go"
      have hl0 : (natsD (rowsE r)).length = r.length := by rw [natsD_len]; exact evs_length
      obtain ⟨n, hn⟩ : ∃ n : Nat, (natsD (rowsE r))[(natsD (rowsE r)).length - 1]? = some (.int (n : Int)) := by
        have h0 := hr.n0
        rw [natsD_len] at hl0
        refine ⟨lastE (rowsE r) 0, ?_⟩
        rw [natsD_len, natsD, List.getElem?_map, lastE_at (z := 0) (by omega)]
        rfl
      refine v_ix_l .here (atI_last (by have := hr.n0; omega) hn) ?_
      exact ⟨_, .cons _ (.refl _), q n⟩
    · exact ⟨_, rfl, hk, hz, .inr ⟨a, ha, .self q⟩⟩
/-- the run of values -/
structure KindB (kl : Nat) (P : Program) (w : World) (K : Fg) (mg : Str → Option Value) (base : Heap) (fs : List (Str × DV)) (o : DV → DV) (j : DV → DV → DV) (Do : DV → Prop) (Dj : DV → DV → Prop) : Prop where
  n1 : fs.lookup ("own" : Str) = none
  n2 : fs.lookup ("join" : Str) = none
  ow : ∃ L cd sp, fs.lookup ("own_by" : Str) = some (DV.clo L cd) ∧ CloOk P w K mg base kl L 1 sp ∧ Cpt cd = true ∧ ∀ x (Q : DV → Prop), Do x → Q (o x) → sp cd [x] Q
  jn : ∃ L cd sp, fs.lookup ("join_by" : Str) = some (DV.clo L cd) ∧ CloOk P w K mg base kl L 2 sp ∧ Cpt cd = true ∧ ∀ a b (Q : DV → Prop), Dj a b → Q (j a b) → sp cd [a, b] Q
  co : ∀ x, Do x → Cf x = true
  cj : ∀ a b, Dj a b → Cf a = true ∧ Cf b = true
def spCOwnB : SpD := fun ds M Q => ∃ a i fs o j Do Dj x, ds = [.ref a, x] ∧ AtM M i a (.ins C_Calls fs) ∧ KindB 1 P w K mg base fs o j Do Dj ∧ Do x ∧ Q (o x) M
theorem ok_cownB (T : Tx K mg C_Calls C_BadRecipe C_BadWay C_BadValue C_TooLarge C_GroveError c_l_kind c_l_all_say c_l_recipes_right c_l_ways_right c_l_unused_right c_l_right) : Mcal P w K mg base C_Calls "own" 2 2 (spCOwnB (P := P) (w := w) (K := K) (mg := mg) (base := base) (C_Calls := C_Calls)) :=
  mcal_mk T.cl_Calls T.m_Calls_own sc_Calls_own st_Calls_own T.bl fun X FX ds M Q hl ⟨a, i, fs, o, j, Do, Dj, x, e, hA, hK, hx, q⟩ => by
    subst e
    walk_at "body"
    walk_at "1"
    walk_at "1"
    refine we_callF FX rfl rfl (by decide) rfl ?_
    walk_at "go"
    obtain ⟨L, cd, sp, h1, h2, h3, h4⟩ := hK.ow
    refine ⟨a, i, C_Calls, fs, L, cd, sp, 1, 1, rfl, hA, T.fd_Calls_own_by, h1, h2, Nat.le_refl _, h3, ?_⟩
    walk_at "go"
    exact ⟨rfl, by rw [Cfs, hK.co x hx]; rfl, h4 x _ hx (.self q)⟩
def spCJoinB : SpD := fun ds M Q => ∃ a i fs o j Do Dj x y, ds = [.ref a, x, y] ∧ AtM M i a (.ins C_Calls fs) ∧ KindB 1 P w K mg base fs o j Do Dj ∧ Dj x y ∧ Q (j x y) M
theorem ok_cjoinB (T : Tx K mg C_Calls C_BadRecipe C_BadWay C_BadValue C_TooLarge C_GroveError c_l_kind c_l_all_say c_l_recipes_right c_l_ways_right c_l_unused_right c_l_right) : Mcal P w K mg base C_Calls "join" 2 3 (spCJoinB (P := P) (w := w) (K := K) (mg := mg) (base := base) (C_Calls := C_Calls)) :=
  mcal_mk T.cl_Calls T.m_Calls_join sc_Calls_join st_Calls_join T.bl fun X FX ds M Q hl ⟨a, i, fs, o, j, Do, Dj, x, y, e, hA, hK, hx, q⟩ => by
    subst e
    walk_at "body"
    walk_at "1"
    walk_at "1"
    refine we_callF FX rfl rfl (by decide) rfl ?_
    walk_at "go"
    obtain ⟨L, cd, sp, h1, h2, h3, h4⟩ := hK.jn
    refine ⟨a, i, C_Calls, fs, L, cd, sp, 1, 2, rfl, hA, T.fd_Calls_join_by, h1, h2, Nat.le_refl _, h3, ?_⟩
    walk_at "go"
    exact ⟨rfl, by rw [Cfs, Cfs, (hK.cj x y hx).1, (hK.cj x y hx).2]; rfl, h4 x y _ hx (.self q)⟩
/-! values_of, value: a value that is none -/
def StepV (o : DV → DV) (j : DV → DV → DV) (Do : DV → Prop) (Dj : DV → DV → Prop) (acc : List DV) : RStep → DV → Prop
  | .inl d, v => Do d ∧ v = o d
  | .inr (a, b), v => Dj (acc.getD a .non) (acc.getD b .non) ∧ v = j (acc.getD a .non) (acc.getD b .non)
structure RunB (o : DV → DV) (j : DV → DV → DV) (Do : DV → Prop) (Dj : DV → DV → Prop) (r : List RStep) (acc : List DV) (t : Nat) (s : RStep) (v : DV) : Prop where
  len : acc.length = t
  at_ : r[t]? = some s
  bef : ∀ (k : Nat) s', k < t → r[k]? = some s' → StepV o j Do Dj acc s' (acc.getD k .non) ∧ PlainV (acc.getD k .non)
  bad : StepV o j Do Dj acc s v
def spValsB : SpX := fun ds M Q E => ∃ kd ki fs o j Do Dj r acc t s v, ds = [.ref kd, recD r] ∧ AtM M ki kd (.ins C_Calls fs) ∧ KindB 1 P w K mg base fs o j Do Dj ∧ RecOk PlainV r ∧ RunB o j Do Dj r acc t s v ∧ Knp K M v ∧ sizeD v ≤ 1000 ∧ plainD v 4 = false ∧ E C_BadValue [("value", v)] M
theorem ok_valsB (T : Tx K mg C_Calls C_BadRecipe C_BadWay C_BadValue C_TooLarge C_GroveError c_l_kind c_l_all_say c_l_recipes_right c_l_ways_right c_l_unused_right c_l_right) : CalX P w K mg base "values_of" 4 2 (spValsB (P := P) (w := w) (K := K) (mg := mg) (base := base) (C_Calls := C_Calls) (C_BadValue := C_BadValue)) :=
  have := ok_want (P := P) (w := w) (base := base) T
  have := ok_cownB (P := P) (w := w) (base := base) T
  have := ok_cjoinB (P := P) (w := w) (base := base) T
  calX_mk T.fx_values_of sc_values_of st_values_of T.bl fun X FX ds M Q E hl ⟨kd, ki, fs, o, j, Do, Dj, r, acc, t, s, v, e, hA, hK, hr, hR, kn, kz, kp, q⟩ TK => by
    subst e
    have eK := FX.hK
    subst eK
    have r4 := hr.n1
    have htl : t < r.length := (List.getElem?_eq_some_iff.mp hR.at_).1
    walk_at "body"
    walk_at "go"
    rename_i p
    with_reducible refine ws_for FX ?gn (wi_tup ?_)
    case gn => exact rfl
    unfold recD
    walk_at "go"
    refine ⟨_, rfl, fun ii ρ1 M1 => ∃ o4, ρ1 = [some (.ref kd), some (.tup (r.map stD)), some (.ref p), o4] ∧ M1 = (p, .lst (acc.take ii)) :: M ∧ ii ≤ t, .self ⟨_, rfl, rfl, Nat.zero_le _⟩, fun _ _ _ _ _ => trivial, ?_, ?_⟩
    · rintro ii ρ1 M1 hi ⟨o4, rfl, rfl, hit⟩
      have hi : ii < r.length := by rw [List.length_map] at hi; exact hi
      have hs := List.getElem?_eq_getElem hi
      have hst := hr.st hs
      dsimp only
      rw [rec_get hi]
      have hlen : (acc.take ii).length = ii := by rw [List.length_take, hR.len]; omega
      have hget : ∀ a, a < ii → (acc.take ii)[a]? = some (acc.getD a .non) := fun a ha => by
        rw [List.getElem?_take, if_pos ha, List.getD_eq_getElem?_getD, List.getElem?_eq_getElem (by rw [hR.len]; omega)]
        rfl
      rcases Nat.lt_or_eq_of_le hit with hlt | rfl
      · obtain ⟨b1, b2⟩ := hR.bef ii _ hlt hs
        have htk : acc.take (ii + 1) = acc.take ii ++ [acc.getD ii .non] := by
          rw [List.take_add_one, List.getElem?_eq_getElem (by rw [hR.len]; omega), List.getD_eq_getElem?_getD, List.getElem?_eq_getElem (by rw [hR.len]; omega)]
          rfl
        rw [htk]
        generalize r[ii] = s2 at hst b1
        generalize acc.getD ii .non = v2 at b1 b2
        cases s2 with
        | inl d =>
          obtain ⟨c1, rfl⟩ := b1
          dsimp only [stD]
          walk_at "gj"
          refine Side.mk hK.n1 ?_
          walk_at "go"
          refine ⟨kd, ki + 1, fs, o, j, Do, Dj, d, rfl, .there hA, hK, c1, ?_⟩
          walk_at "go"
          refine Side.mk (b2.kn _ _) (Side.mk (Nat.le_trans b2.sz (by decide)) ⟨fun _ => ?_, fun z => absurd (z.symm.trans b2.pl) (by decide)⟩)
          walk_at "go"
          refine Side.mk (by rw [hlen, sizeLine_eq]; omega) ?_
          dsimp only [List.set]
          walk_at "go"
          exact .self ⟨_, rfl, rfl, by omega⟩
        | inr ab =>
          obtain ⟨a, b⟩ := ab
          obtain ⟨g1, g2⟩ : a < ii ∧ b < ii := hst
          obtain ⟨c1, rfl⟩ := b1
          dsimp only [stD]
          walk_at "gj"
          refine Side.mk hK.n2 ?_
          walk_at "go"
          refine v_ix_l .here (atI_nat (hget a g1)) ?_
          walk_at "go"
          refine v_ix_l .here (atI_nat (hget b g2)) ?_
          walk_at "go"
          refine ⟨kd, ki + 1, fs, o, j, Do, Dj, _, _, rfl, .there hA, hK, c1, ?_⟩
          walk_at "go"
          refine Side.mk (b2.kn _ _) (Side.mk (Nat.le_trans b2.sz (by decide)) ⟨fun _ => ?_, fun z => absurd (z.symm.trans b2.pl) (by decide)⟩)
          walk_at "go"
          refine Side.mk (by rw [hlen, sizeLine_eq]; omega) ?_
          dsimp only [List.set]
          walk_at "go"
          exact .self ⟨_, rfl, rfl, by omega⟩
      · have hb := hR.bad
        have es : r[ii] = s := Option.some.inj (hs.symm.trans hR.at_)
        rw [es]
        rw [es] at hst
        cases s with
        | inl d =>
          obtain ⟨c1, rfl⟩ := hb
          dsimp only [stD]
          walk_at "gj"
          refine Side.mk hK.n1 ?_
          walk_at "go"
          refine ⟨kd, ki + 1, fs, o, j, Do, Dj, d, rfl, .there hA, hK, c1, ?_⟩
          walk_at "go"
          refine Side.mk (kn.less (.cons _ (.refl _))) (Side.mk (Nat.le_trans kz (by decide)) ⟨fun z => absurd (z.symm.trans kp) (by decide), fun _ => ?_⟩)
          exact ⟨_, .cons _ (.refl _), q⟩
        | inr ab =>
          obtain ⟨a, b⟩ := ab
          obtain ⟨g1, g2⟩ : a < ii ∧ b < ii := hst
          obtain ⟨c1, rfl⟩ := hb
          dsimp only [stD]
          walk_at "gj"
          refine Side.mk hK.n2 ?_
          walk_at "go"
          refine v_ix_l .here (atI_nat (hget a g1)) ?_
          walk_at "go"
          refine v_ix_l .here (atI_nat (hget b g2)) ?_
          walk_at "go"
          refine ⟨kd, ki + 1, fs, o, j, Do, Dj, _, _, rfl, .there hA, hK, c1, ?_⟩
          walk_at "go"
          refine Side.mk (kn.less (.cons _ (.refl _))) (Side.mk (Nat.le_trans kz (by decide)) ⟨fun z => absurd (z.symm.trans kp) (by decide), fun _ => ?_⟩)
          exact ⟨_, .cons _ (.refl _), q⟩
    · rintro ρ1 M1 ⟨o4, rfl, rfl, hit⟩
      rw [List.length_map] at hit
      omega
/-- value -/
def spValX : SpX := fun ds M Q E => ∃ k d, ds = [k, d] ∧ Knp K M d ∧ sizeD d ≤ 1000000 ∧ ((∃ a, FaultAt d a ∧ E C_BadRecipe [("at", .int a)] M) ∨ ∃ kd ki fs o j Do Dj r acc t s v, k = .ref kd ∧ d = recD r ∧ AtM M ki kd (.ins C_Calls fs) ∧ KindB 1 P w K mg base fs o j Do Dj ∧ RecOk PlainV r ∧ RunB o j Do Dj r acc t s v ∧ Knp K M v ∧ sizeD v ≤ 1000 ∧ plainD v 4 = false ∧ E C_BadValue [("value", v)] M)
theorem ok_valX (T : Tx K mg C_Calls C_BadRecipe C_BadWay C_BadValue C_TooLarge C_GroveError c_l_kind c_l_all_say c_l_recipes_right c_l_ways_right c_l_unused_right c_l_right) : CalX P w K mg base "value" 6 2 (spValX (P := P) (w := w) (K := K) (mg := mg) (base := base) (C_Calls := C_Calls) (C_BadValue := C_BadValue) (C_BadRecipe := C_BadRecipe)) :=
  have := ok_wantR (P := P) (w := w) (base := base) T
  have := ok_valsB (P := P) (w := w) (base := base) T
  calX_mk T.fx_value sc_value st_value T.bl fun X FX ds M Q E hl ⟨k, d, e, hk, hz, h⟩ TK => by
    subst e
    have eK := FX.hK
    subst eK
    walk_at "body"
    walk_at "go"
    rcases h with ⟨a, ha, q⟩ | ⟨kd, ki, fs, o, j, Do, Dj, r, acc, t, s, v, rfl, rfl, hA, hK, hr, hR, kn, kz, kp, q⟩
    · exact ⟨_, rfl, hk, hz, .inr ⟨a, ha, .self q⟩⟩
    · refine ⟨_, rfl, hk, hz, .inl ⟨hr.good, ?_⟩⟩
      walk_at "go"
      exact ⟨kd, ki, fs, o, j, Do, Dj, r, acc, t, s, v, rfl, hA, hK, hr, hR, kn, kz, kp, .self q⟩
/-- shape_of: a faulty thing alone -/
def spShapeX : SpX := fun ds M Q E => ∃ d, ds = [d] ∧ Knp K M d ∧ sizeD d ≤ 1000000 ∧ ∃ a, FaultAt d a ∧ E C_BadRecipe [("at", .int a)] M
theorem ok_shapeX (T : Tx K mg C_Calls C_BadRecipe C_BadWay C_BadValue C_TooLarge C_GroveError c_l_kind c_l_all_say c_l_recipes_right c_l_ways_right c_l_unused_right c_l_right) : CalX P w K mg base "shape_of" 6 1 (spShapeX (K := K) (C_BadRecipe := C_BadRecipe)) :=
  have := ok_wantR (P := P) (w := w) (base := base) T
  calX_mk T.fx_shape_of sc_shape_of st_shape_of T.bl fun X FX ds M Q E hl ⟨d, e, hk, hz, a, ha, q⟩ TK => by
    subst e
    have eK := FX.hK
    subst eK
    walk_at "body"
    walk_at "go"
    exact ⟨_, rfl, hk, hz, .inr ⟨a, ha, .self q⟩⟩
/-! way_end, key_at: of any way -/
def wayF (r : List RStep) : RStep → Nat → List DV → DV
  | .inl d, _, [] => stD (.inl d)
  | .inr _, t, [] => .tup [.int (t : Int)]
  | .inl _, t, _ :: _ => .tup [.int (t : Int)]
  | .inr (a, b), t, x :: ds => if btw 0 1 x = true then wayF r (r.getD (if btw 0 0 x = true then a else b) (.inl .non)) (t + 1) ds else .tup [.int (t : Int)]
def wayE (r : List RStep) : DV → DV
  | .tup ds => wayF r (r.getD (r.length - 1) (.inl .non)) 0 ds
  | _ => .tup [.int (-1)]
theorem btw_form {x : DV} (h : btw 0 1 x = true) : x = .int 0 ∨ x = .int 1 := by
  cases x with
  | int i =>
    have h : (decide ((0 : Int) ≤ i) && decide (i ≤ 1)) = true := h
    rw [Bool.and_eq_true] at h
    have h1 := of_decide_eq_true h.1
    have h2 := of_decide_eq_true h.2
    rcases (by omega : i = 0 ∨ i = 1) with rfl | rfl
    · exact .inl rfl
    · exact .inr rfl
  | _ => exact absurd h (by simp [btw])
def spWayX : SpD := fun ds M Q => ∃ r wy, ds = [recD r, wy] ∧ RecOk PlainV r ∧ Knp K M wy ∧ Q (wayE r wy) M
theorem ok_wayX (T : Tx K mg C_Calls C_BadRecipe C_BadWay C_BadValue C_TooLarge C_GroveError c_l_kind c_l_all_say c_l_recipes_right c_l_ways_right c_l_unused_right c_l_right) : Cal P w K mg base "way_end" 3 2 (spWayX (K := K)) :=
  have := ok_btw (P := P) (w := w) (base := base) T
  cal_mk T.f_way_end sc_way_end st_way_end T.bl fun X FX ds M Q hl ⟨r, wy, e, hr, hk, q⟩ => by
    subst e
    have eK := FX.hK
    subst eK
    have hn : (r.map stD).length = r.length := List.length_map _
    have h0 := hr.n0
    walk_at "body"
    unfold recD
    cases hk with
    | non => walk_at "gi"; exact .self q
    | bl b => walk_at "gi"; exact .self q
    | int i => walk_at "gi"; exact .self q
    | str x => walk_at "gi"; exact .self q
    | ref h =>
      have : OddC X.K M _ := ⟨h⟩
      walk_at "gi"
      exact .self q
    | @tup l hds =>
      have hs : r[r.length - 1]? = some (r.getD (r.length - 1) (.inl .non)) := getD_some (by omega)
      have q : Q (wayF r (r.getD (r.length - 1) (.inl .non)) 0 l) M := q
      walk_at "gj"
      refine v_ix_t (atI_last (by rw [hn]; exact hr.n0) (by rw [hn, List.getElem?_map, hs]; rfl)) ?_
      walk_at "gj"
      with_reducible refine ws_for FX ?gn (wi_enumT FX MemC.h MemC.h rfl ?_)
      case gn => exact rfl
      walk_at "go"
      refine ⟨_, rfl, fun t ρ1 M1 => ∃ o3 o4 s k, r[k]? = some s ∧ wayF r (r.getD (r.length - 1) (.inl .non)) 0 l = wayF r s t (l.drop t) ∧ ρ1 = [some (.tup (r.map stD)), some (.tup l), some (stD s), o3, o4] ∧ M1 = M, .self ⟨_, _, _, _, hs, rfl, rfl, rfl⟩, fun _ _ _ _ _ => trivial, ?_, ?_⟩
      · rintro t ρ1 M1 ht ⟨o3, o4, s, k, hs, hg, rfl, rfl⟩
        have kx := hds _ (List.getElem_mem ht)
        have he : l[t]? = some l[t] := List.getElem?_eq_getElem ht
        dsimp only
        rw [show l.getD t .non = l[t] by rw [List.getD_eq_getElem?_getD, he]; rfl]
        rw [List.drop_eq_getElem_cons ht] at hg
        generalize l[t] = x at kx hg
        have kk := kx.kn
        cases s with
        | inl d =>
          rw [hg, wayF] at q
          dsimp only [stD]
          walk_at "go"
          refine ⟨fun hb => ?_, fun hb => ?_⟩
          · walk_at "gj"
            exact .self q
          · walk_at "gj"
            exact .self q
        | inr ab =>
          obtain ⟨a, b⟩ := ab
          obtain ⟨g1, g2⟩ : a < k ∧ b < k := hr.st hs
          have hkl := (List.getElem?_eq_some_iff.mp hs).1
          rw [wayF] at hg
          dsimp only [stD]
          walk_at "go"
          refine ⟨fun hb => ?_, fun hb => ?_⟩
          · rw [if_pos hb] at hg
            have ha : r[a]? = some (r.getD a (.inl .non)) := getD_some (by omega)
            have hbb : r[b]? = some (r.getD b (.inl .non)) := getD_some (by omega)
            walk_at "gj"
            rcases btw_form hb with rfl | rfl
            · rw [if_pos (by decide)] at hg
              walk_at "gj"
              refine v_ix_t (show atI [DV.str "join", .int (a : Int), .int (b : Int)] (1 + 0) = some (.int (a : Int)) from rfl) ?_
              walk_at "gj"
              refine v_ix_t (rec_at ha) ?_
              walk_at "gj"
              exact .self ⟨_, _, _, a, ha, hg, rfl, rfl⟩
            · rw [if_neg (by decide)] at hg
              walk_at "gj"
              refine v_ix_t (show atI [DV.str "join", .int (a : Int), .int (b : Int)] (1 + 1) = some (.int (b : Int)) from rfl) ?_
              walk_at "gj"
              refine v_ix_t (rec_at hbb) ?_
              walk_at "gj"
              exact .self ⟨_, _, _, b, hbb, hg, rfl, rfl⟩
          · rw [if_neg (by rw [hb]; decide)] at hg
            rw [hg] at q
            walk_at "gj"
            exact .self q
      · rintro ρ1 M1 ⟨o3, o4, s, k, hs, hg, rfl, rfl⟩
        rw [List.drop_length] at hg
        rw [hg] at q
        cases s with
        | inl d =>
          dsimp only [stD]
          walk_at "gj"
          exact .self q
        | inr ab =>
          obtain ⟨a, b⟩ := ab
          dsimp only [stD]
          walk_at "gj"
          exact .self q
theorem ok_badW (T : Tx K mg C_Calls C_BadRecipe C_BadWay C_BadValue C_TooLarge C_GroveError c_l_kind c_l_all_say c_l_recipes_right c_l_ways_right c_l_unused_right c_l_right) : ExF P w K mg base "BadWay" C_BadWay ["at"] :=
  exf_mk1 T.vx_BadWay T.xf_BadWay_at.no sc_BadWay__init__ rfl rfl rfl rfl rfl
/-- key_at -/
def spKeyX : SpX := fun ds M Q E => ∃ d wy, ds = [d, wy] ∧ Knp K M d ∧ sizeD d ≤ 1000000 ∧ ((∃ a, FaultAt d a ∧ E C_BadRecipe [("at", .int a)] M) ∨ ∃ r, d = recD r ∧ RecOk PlainV r ∧ Knp K M wy ∧ ((∃ a : Int, wayE r wy = .tup [.int a] ∧ E C_BadWay [("at", .int a)] M) ∨ ∃ x, wayE r wy = stD (.inl x) ∧ Q x M))
theorem ok_keyX (T : Tx K mg C_Calls C_BadRecipe C_BadWay C_BadValue C_TooLarge C_GroveError c_l_kind c_l_all_say c_l_recipes_right c_l_ways_right c_l_unused_right c_l_right) : CalX P w K mg base "key_at" 6 2 (spKeyX (K := K) (C_BadRecipe := C_BadRecipe) (C_BadWay := C_BadWay)) :=
  have := ok_wantR (P := P) (w := w) (base := base) T
  have := ok_wayX (P := P) (w := w) (base := base) T
  have := ok_badW (P := P) (w := w) (base := base) T
  calX_mk T.fx_key_at sc_key_at st_key_at T.bl fun X FX ds M Q E hl ⟨d, wy, e, hk, hz, h⟩ TK => by
    subst e
    have eK := FX.hK
    subst eK
    walk_at "body"
    walk_at "go"
    rcases h with ⟨a, ha, q⟩ | ⟨r, rfl, hr, hw, q⟩
    · exact ⟨_, rfl, hk, hz, .inr ⟨a, ha, .self q⟩⟩
    · refine ⟨_, rfl, hk, hz, .inl ⟨hr.good, ?_⟩⟩
      walk_at "go"
      refine ⟨r, wy, rfl, hr, hw, ?_⟩
      rcases q with ⟨a, he, q⟩ | ⟨x, he, q⟩
      · rw [he]
        walk_at "gj"
        exact .self q
      · rw [he]
        dsimp only [stD]
        walk_at "gj"
        exact .self q
/-- _law_said -/
abbrev saidV : DV → Mm → (DV → Mm → Prop) → Prop := fun _ M' Q => Q (.tup [.str "none", .str ""]) M'
abbrev saidE (K : Fg) (C_BadRecipe C_BadWay C_BadValue : Addr) : Addr → List (Str × DV) → Mm → (DV → Mm → Prop) → (Addr → List (Str × DV) → Mm → Prop) → Prop := fun C fs M' Q _ =>
  (C = C_BadRecipe ∧ ∃ d t, fs = [(("at" : Str), d)] ∧ RepE K d M' t ∧ Q (.tup [.str "recipe", .str t]) M') ∨
  (C = C_BadWay ∧ ∃ d t, fs = [(("at" : Str), d)] ∧ RepE K d M' t ∧ Q (.tup [.str "way", .str t]) M') ∨
  (C = C_BadValue ∧ ∃ d t, fs = [(("value" : Str), d)] ∧ RepE K d M' t ∧ Q (.tup [.str "value", .str t]) M')
theorem ok_said (T : Tx K mg C_Calls C_BadRecipe C_BadWay C_BadValue C_TooLarge C_GroveError c_l_kind c_l_all_say c_l_recipes_right c_l_ways_right c_l_unused_right c_l_right) : CalL P w K mg base "_law_said" 10 1 (spAsk P w K mg base 8 saidV (saidE K C_BadRecipe C_BadWay C_BadValue)) :=
  calL_mk T.fx_l_said sc_l_said st_l_said T.bl fun X FX DX GX LL ds M Q E V hl ⟨L, cl, cd, e1, e2, R⟩ TX => by
    subst e1 e2
    have := T.xf_BadRecipe_at
    have := T.xf_BadWay_at
    have := T.xf_BadValue_value
    walk_at "body"
    walk_at "1"
    refine ws_tryMix FX DX TX (.named MemC.h (ok_badR (P := P) (w := w) (base := base) T).gm MemC.h (i := 1) rfl (.named MemC.h (ok_badW (P := P) (w := w) (base := base) T).gm MemC.h (i := 1) rfl (.named MemC.h (ok_exc (P := P) (w := w) (base := base) T).gm MemC.h (i := 1) rfl (.only MemC.h T.gr_GroveError.h .nil)))) fun X' FX' NR hg TX' => ?_
    have GX' : Gq X' := GX.near hg
    have V' := V.near NR
    walk_at "go"
    refine R.mono (fun d M' q => ?_) fun C fs M' z => ?_
    · walk_at "go"
      exact .self q
    · rcases z with ⟨rfl, d, t, rfl, hr, q⟩ | ⟨rfl, d, t, rfl, hr, q⟩ | ⟨rfl, d, t, rfl, hr, q⟩
      · refine Or.inl ⟨T.te_BadRecipe_BadRecipe, fun Y ae FY hgY EY => ?_⟩
        have GY : Gq Y := ⟨hgY.trans GX.gd⟩
        dsimp only [List.set]
        walk_at "go"
        refine ⟨d, rfl, ?_⟩
        refine rt_ofS FY GY hr ?_
        walk_at "go"
        exact .self q
      · refine Or.inr ⟨T.te_BadWay_BadRecipe, Or.inl ⟨T.te_BadWay_BadWay, fun Y ae FY hgY EY => ?_⟩⟩
        have GY : Gq Y := ⟨hgY.trans GX.gd⟩
        dsimp only [List.set]
        walk_at "go"
        refine ⟨d, rfl, ?_⟩
        refine rt_ofS FY GY hr ?_
        walk_at "go"
        exact .self q
      · refine Or.inr ⟨T.te_BadValue_BadRecipe, Or.inr ⟨T.te_BadValue_BadWay, Or.inl ⟨T.te_BadValue_BadValue, fun Y ae FY hgY EY => ?_⟩⟩⟩
        have GY : Gq Y := ⟨hgY.trans GX.gd⟩
        dsimp only [List.set]
        walk_at "go"
        refine ⟨d, rfl, ?_⟩
        refine rt_ofS FY GY hr ?_
        walk_at "go"
        exact .self q
theorem said2_shaped {a b : Str} (h1 : PyData.strOk a = true) (h2 : PyData.strOk b = true) : SeqAt.shaped (.tuple [.str a, .str b]) = true := by simp [SeqAt.shaped, PyData.canLay0, PyData.canLayAll0, PyData.depth, PyData.depthAll, h1, h2]
theorem said2_ne {X : Cy} {M : Mm} {Q : DV → Mm → Prop} {a b : Str} (h1 : PyData.strOk a = true) (h2 : PyData.strOk b = true) (q : Q (.bl false) M) : R2D X.K (rNe3 X.K) (.tup [.str a, .str b]) (.tup [.str a, .str b]) M Q :=
  v_ne_d (.tup (.cons (.str _) (.cons (.str _) .nil))) (.tup (.cons (.str _) (.cons (.str _) .nil))) (said2_shaped h1 h2) (said2_shaped h1 h2) (by rw [show PyData.eqv (.tuple [.str a, .str b]) (.tuple [.str a, .str b]) = true from PySem.SeqAt.eqv_refl _ (by simp [PyData.canLay0, PyData.canLayAll0, h1, h2])]; exact q)
/-! _law_all_say -/
abbrev qAS : Str := "_law_all_say.<locals>.<lambda>"
theorem rep_all : ∀ x : Fin 402, ((PyData.int ((x.val : Int) - 1)).showable && decide ((PyData.int ((x.val : Int) - 1)).depth ≤ 60) && decide ((PyData.int ((x.val : Int) - 1)).shown.length ≤ 1000) && PyData.strOk (PyData.int ((x.val : Int) - 1)).shown) = true := by decide +kernel
theorem rep_int {K : Fg} {i : Int} (h1 : -1 ≤ i) (h2 : i ≤ 400) : ∃ t, (∀ M, RepE K (.int i) M t) ∧ PyData.strOk t = true := by
  obtain ⟨n, rfl⟩ : ∃ n : Nat, i = (n : Int) - 1 := ⟨(i + 1).toNat, by omega⟩
  have h := rep_all ⟨n, by omega⟩
  simp only [Bool.and_eq_true] at h
  obtain ⟨⟨⟨a, b⟩, c⟩, d⟩ := h
  exact ⟨_, fun M => re_pd (.int _) a (of_decide_eq_true b) (Nat.le_trans (of_decide_eq_true c) (by rw [sizeLine_eq]; decide)), d⟩
theorem said2_eq {X : Cy} {M : Mm} {Q : DV → Mm → Prop} {a b : Str} (h1 : PyData.strOk a = true) (h2 : PyData.strOk b = true) (q : Q (.bl true) M) : R2D X.K (rEq3 X.K) (.tup [.str a, .str b]) (.tup [.str a, .str b]) M Q :=
  v_eq_d (.tup (.cons (.str _) (.cons (.str _) .nil))) (.tup (.cons (.str _) (.cons (.str _) .nil))) (said2_shaped h1 h2) (said2_shaped h1 h2) (by rw [show PyData.eqv (.tuple [.str a, .str b]) (.tuple [.str a, .str b]) = true from PySem.SeqAt.eqv_refl _ (by simp [PyData.canLay0, PyData.canLayAll0, h1, h2])]; exact q)
def spAS : SpL := fun LL ds M Q _ => LL = [] ∧ ∃ k d wy a ti, ds = [k, d, wy, .int a] ∧ Knp K M d ∧ sizeD d ≤ 1000000 ∧ FaultAt d a ∧ (-1 ≤ a ∧ a ≤ 400) ∧ AtM M ti P_l_all_say (.tab qAS) ∧ Q (.bl true) M
theorem ok_as (T : Tx K mg C_Calls C_BadRecipe C_BadWay C_BadValue C_TooLarge C_GroveError c_l_kind c_l_all_say c_l_recipes_right c_l_ways_right c_l_unused_right c_l_right) (TB : Tb mg base c_l_kind P_l_kind c_l_all_say P_l_all_say c_l_recipes_right P_l_recipes_right c_l_ways_right P_l_ways_right c_l_unused_right P_l_unused_right c_l_right P_l_right) : CalL P w K mg base "_law_all_say" 12 4 (spAS (K := K) (P_l_all_say := P_l_all_say)) :=
  have := ok_said (P := P) (w := w) (base := base) T
  have := ok_valX (P := P) (w := w) (base := base) T
  have := ok_rowsX (P := P) (w := w) (base := base) T
  have := ok_keyX (P := P) (w := w) (base := base) T
  have := ok_shapeX (P := P) (w := w) (base := base) T
  calL_mkM (q := qAS) T.f_l_all_say TB.tb_l_all_say (by decide +kernel) sc_l_all_say st_l_all_say T.bl fun X FX DX GX MX LL ds M Q E V hl z TX => by
    obtain ⟨_, k, d, wy, a, ti, e, hk, hz, hf, ⟨ha, ha2⟩, ht, q⟩ := z
    subst e
    have eK := FX.hK
    subst eK
    obtain ⟨t, rt0, st⟩ := rep_int (K := X.K) ha ha2
    have rt := rt0 M
    walk_at "body"
    walk_at "go"
    refine rt_of FX GX rt ?_
    walk_at "go"
    refine we_ask ["_law_kind_here", "_law_thing"] ["_law_kind_here", "_law_thing"] ["value"] [] rfl rfl rfl rfl rfl rfl (fun _ h => nomatch h) fun Y FY GY TY => ?_
    dsimp only [ini]
    walk_at "go"
    refine ⟨k, d, rfl, hk, hz, .inl ⟨a, hf, .self (.inl ⟨rfl, _, _, rfl, rt, ?_⟩)⟩⟩
    walk_at "go"
    refine said2_ne (by decide +kernel) st ⟨_, rfl, fun h => Bool.noConfusion h, fun _ => ?_⟩
    walk_at "go"
    refine we_ask ["_law_thing"] ["_law_thing"] ["rows"] [] rfl rfl rfl rfl rfl rfl (fun _ h => nomatch h) fun Y FY GY TY => ?_
    dsimp only [ini]
    walk_at "go"
    refine ⟨d, rfl, hk, hz, .inr ⟨a, hf, .self (.inl ⟨rfl, _, _, rfl, rt, ?_⟩)⟩⟩
    walk_at "go"
    refine said2_ne (by decide +kernel) st ⟨_, rfl, fun h => Bool.noConfusion h, fun _ => ?_⟩
    walk_at "go"
    refine we_ask ["_law_thing", "_law_way"] ["_law_thing", "_law_way"] ["key_at"] [] rfl rfl rfl rfl rfl rfl (fun _ h => nomatch h) fun Y FY GY TY => ?_
    dsimp only [ini]
    walk_at "go"
    refine ⟨d, wy, rfl, hk, hz, .inl ⟨a, hf, .self (.inl ⟨rfl, _, _, rfl, rt, ?_⟩)⟩⟩
    walk_at "go"
    refine said2_ne (by decide +kernel) st ⟨_, rfl, fun h => Bool.noConfusion h, fun _ => ?_⟩
    walk_at "go"
    refine we_ask ["_law_thing"] ["_law_thing"] ["shape_of"] [] rfl rfl rfl rfl rfl rfl (fun _ h => nomatch h) fun Y FY GY TY => ?_
    dsimp only [ini]
    walk_at "go"
    refine ⟨d, rfl, hk, hz, a, hf, .self (.inl ⟨rfl, _, _, rfl, rt, ?_⟩)⟩
    walk_at "go"
    exact said2_eq (by decide +kernel) st (.self q)
/-! the way that is left at every join -/
def zst (r : List RStep) : Nat → RStep
  | 0 => r.getD (r.length - 1) (.inl .non)
  | k + 1 => match zst r k with
    | .inl d => .inl d
    | .inr (a, _) => r.getD a (.inl .non)
/-- n left turns lead to a key, no fewer -/
structure LedZ (r : List RStep) (n : Nat) : Prop where
  jn : ∀ k, k < n → ∃ a b, zst r k = .inr (a, b)
  ow : ∃ d, zst r n = .inl d
theorem way_zero {r : List RStep} {n : Nat} (h : LedZ r n) {rest : List DV} : ∀ m k, k + m ≤ n → wayF r (zst r k) k (List.replicate m (DV.int 0) ++ rest) = wayF r (zst r (k + m)) (k + m) rest
  | 0, k, _ => rfl
  | m + 1, k, hk => by
    obtain ⟨a, b, e⟩ := h.jn k (by omega)
    rw [List.replicate_succ, List.cons_append, e, wayF, if_pos (by decide), if_pos (by decide)]
    have e2 : r.getD a (.inl .non) = zst r (k + 1) := by rw [zst, e]
    rw [e2, way_zero h m (k + 1) (by omega), show k + 1 + m = k + (m + 1) by omega]
theorem way_full {r : List RStep} {n : Nat} (h : LedZ r n) : ∃ x, wayE r (.tup (List.replicate n (DV.int 0))) = stD (.inl x) := by
  obtain ⟨d, e⟩ := h.ow
  have := way_zero h (rest := []) n 0 (by omega)
  rw [List.append_nil, Nat.zero_add, e, wayF] at this
  exact ⟨d, this⟩
theorem way_cut {r : List RStep} {n c : Nat} (h : LedZ r n) (hc : c < n) : wayE r (.tup (List.replicate c (DV.int 0))) = .tup [.int (c : Int)] := by
  obtain ⟨a, b, e⟩ := h.jn c hc
  have := way_zero h (rest := []) c 0 (by omega)
  rw [List.append_nil, Nat.zero_add, e, wayF] at this
  exact this
theorem way_more {r : List RStep} {n : Nat} (h : LedZ r n) (x : DV) (l : List DV) : wayE r (.tup (List.replicate n (DV.int 0) ++ x :: l)) = .tup [.int (n : Int)] := by
  obtain ⟨d, e⟩ := h.ow
  have := way_zero h (rest := x :: l) n 0 (by omega)
  rw [Nat.zero_add, e, wayF] at this
  exact this
theorem way_odd {r : List RStep} {n c : Nat} (h : LedZ r n) (hc : c ≤ n) {x : DV} (hx : btw 0 1 x = false) (l : List DV) : wayE r (.tup (List.replicate c (DV.int 0) ++ x :: l)) = .tup [.int (c : Int)] := by
  rcases Nat.lt_or_eq_of_le hc with hc | rfl
  · obtain ⟨a, b, e⟩ := h.jn c hc
    have := way_zero h (rest := x :: l) c 0 (by omega)
    rw [Nat.zero_add, e, wayF, if_neg (by rw [hx]; decide)] at this
    exact this
  · exact way_more h x l
/-- the index falls at every turn -/
theorem zst_ok {r : List RStep} (hr : RecOk PlainV r) : ∀ k, ∃ i, r[i]? = some (zst r k) ∧ ((∀ j, j < k → ∃ a b, zst r j = .inr (a, b)) → i + k < r.length)
  | 0 => ⟨r.length - 1, getD_some (by have := hr.n0; omega), fun _ => by have := hr.n0; omega⟩
  | k + 1 => by
    obtain ⟨i, h1, h2⟩ := zst_ok hr k
    rw [zst]
    cases e : zst r k with
    | inl d =>
      rw [e] at h1
      exact ⟨i, h1, fun h => by obtain ⟨a, b, z⟩ := h k (by omega); rw [e] at z; cases z⟩
    | inr ab =>
      obtain ⟨a, b⟩ := ab
      rw [e] at h1
      obtain ⟨g1, g2⟩ : a < i ∧ b < i := hr.st h1
      have hl := (List.getElem?_eq_some_iff.mp h1).1
      exact ⟨a, getD_some (by omega), fun h => by have := h2 fun j hj => h j (by omega); omega⟩
/-! _law_right_way -/
def spRW : SpD := fun ds M Q => ∃ r, ds = [recD r] ∧ RecOk PlainV r ∧ ∀ n, n ≤ r.length → LedZ r n → Q (.tup (List.replicate n (DV.int 0))) M
theorem ok_rw (T : Tx K mg C_Calls C_BadRecipe C_BadWay C_BadValue C_TooLarge C_GroveError c_l_kind c_l_all_say c_l_recipes_right c_l_ways_right c_l_unused_right c_l_right) : Cal P w K mg base "_law_right_way" 1 1 spRW :=
  cal_mk T.f_l_right_way sc_l_right_way st_l_right_way T.bl fun X FX ds M Q hl ⟨r, e, hr, q⟩ => by
    subst e
    have h0 := hr.n0
    have h1 := hr.n1
    have hn : (r.map stD).length = r.length := List.length_map _
    walk_at "body"
    unfold recD
    walk_at "go"
    refine ws_p2 rfl rfl ?_
    have hz : r[r.length - 1]? = some (zst r 0) := getD_some (by omega)
    walk_at "go"
    rw [hn]
    refine v_ix_t (show atI (r.map stD) ((r.length : Int) - 1) = some (stD (zst r 0)) by rw [show ((r.length : Int) - 1) = ((r.length - 1 : Nat) : Int) by omega]; exact rec_at hz) ?_
    walk_at "go"
    rename_i p
    with_reducible refine ws_for FX ?gn (wi_range1 FX MemC.h MemC.h ?gn2 ?_)
    case gn => exact rfl
    case gn2 => exact rfl
    walk_at "go"
    rw [hn]
    refine ⟨by omega, by rw [show (2 : Int) ^ 62 = 4611686018427387904 by decide]; omega, ?_⟩
    rw [show ((r.length : Int)).toNat = r.length by omega]
    refine ⟨fun ii ρ1 M1 => ∃ o4 n, n ≤ ii ∧ (∀ k, k < n → ∃ a b, zst r k = .inr (a, b)) ∧ (n < ii → ∃ d, zst r n = .inl d) ∧ ρ1 = [some (.tup (r.map stD)), some (stD (zst r n)), some (.ref p), o4] ∧ M1 = (p, .lst (List.replicate n (DV.int 0))) :: M, .self ⟨_, 0, Nat.le_refl _, fun _ h => absurd h (Nat.not_lt_zero _), fun h => absurd h (Nat.not_lt_zero _), rfl, rfl⟩, fun _ _ _ _ _ => trivial, ?_, ?_⟩
    · rintro ii ρ1 M1 hi ⟨o4, n, hni, hj, ho, rfl, rfl⟩
      obtain ⟨i, hs, hlt⟩ := zst_ok hr n
      dsimp only
      cases e : zst r n with
      | inl d =>
        dsimp only [stD]
        walk_at "gj"
        exact .self ⟨_, n, by omega, hj, fun _ => ⟨d, e⟩, by rw [e], rfl⟩
      | inr ab =>
        obtain ⟨a, b⟩ := ab
        have hn2 : n = ii := by
          rcases Nat.lt_or_eq_of_le hni with h | h
          · obtain ⟨d, z⟩ := ho h
            rw [e] at z
            cases z
          · exact h
        have e2 : zst r (n + 1) = r.getD a (.inl .non) := by rw [zst, e]
        rw [e] at hs
        obtain ⟨g1, g2⟩ : a < i ∧ b < i := hr.st hs
        have hil := (List.getElem?_eq_some_iff.mp hs).1
        have ha : r[a]? = some (r.getD a (.inl .non)) := getD_some (by omega)
        dsimp only [stD]
        walk_at "gj"
        refine Side.mk (by rw [List.length_replicate, sizeLine_eq]; omega) ?_
        rw [← List.replicate_succ']
        dsimp only [List.set]
        walk_at "gj"
        refine v_ix_t (rec_at ha) ?_
        walk_at "gj"
        refine .self ⟨_, n + 1, by omega, fun k hk => ?_, fun h => absurd h (by omega), by rw [e2]; rfl, rfl⟩
        rcases Nat.lt_succ_iff_lt_or_eq.mp hk with hk | rfl
        · exact hj k hk
        · exact ⟨a, b, e⟩
    · rintro ρ1 M1 ⟨o4, n, hni, hj, ho, rfl, rfl⟩
      obtain ⟨i, hs, hlt⟩ := zst_ok hr n
      have hlt := hlt hj
      have hnr : n < r.length := by omega
      walk_at "go"
      exact ⟨_, .cons _ (.refl _), q n (by omega) ⟨hj, ho (by simpa using hnr)⟩⟩
/-! _law_ways_right -/
abbrev qWR : Str := "_law_ways_right.<locals>.<lambda>"
def zeros (n : Nat) : List DV := List.replicate n (DV.int 0)
def spWR : SpL := fun LL ds M Q _ => LL = [] ∧ ∃ wl i nn cc r n ti, ds = [.ref wl, recD r, .tup (zeros n)] ∧ AtM M i wl (Wel nn cc) ∧ RecOk PlainV r ∧ n ≤ r.length ∧ LedZ r n ∧ sizeD (recD r) ≤ 1000000 ∧ AtM M ti P_l_ways_right (.tab qWR) ∧ ∀ n' c', Q (.bl true) (M.set i (wl, Wel n' c'))
theorem knp_ints {K : Fg} {M : Mm} {l : List DV} (h : ∀ x ∈ l, ∃ i : Int, x = .int i) : Knp K M (.tup l) := .tup fun x hx => by
  obtain ⟨i, rfl⟩ := h x hx
  exact .int i
theorem zeros_int {n : Nat} : ∀ x ∈ zeros n, ∃ i : Int, x = .int i := fun x hx => ⟨0, (List.mem_replicate.mp hx).2⟩
theorem knp_app {K : Fg} {M : Mm} {n : Nat} {l : List DV} (h : ∀ x ∈ l, Knp K M x) : Knp K M (.tup (zeros n ++ l)) := .tup fun x hx => by
  rcases List.mem_append.mp hx with hx | hx
  · obtain ⟨i, rfl⟩ := zeros_int x hx
    exact .int i
  · exact h x hx
theorem zeros_cut {n c : Nat} (h : c ≤ n) : cutD (zeros n) none (some (c : Int)) = zeros c := by
  unfold cutD zeros
  rw [HT.sIx_none, List.drop_zero, Nat.sub_zero, HT.sIx_nat, List.length_replicate, Nat.min_eq_left h, List.take_replicate, Nat.min_eq_left h]
theorem at_neR {M : Mm} {i j : Nat} {a b : Addr} {x y : MO} (h1 : AtM M i a x) (h2 : AtM M j b y) (h : x ≠ y) : i ≠ j := fun e => by
  subst e
  have z := h1.ix.symm.trans h2.ix
  injection z with z
  injection z with z1 z2
  exact h z2
theorem cut_mem {l : List DV} {lo hi : Option Int} {x : DV} (h : x ∈ cutD l lo hi) : x ∈ l := by
  unfold cutD at h
  exact List.mem_of_mem_drop (List.mem_of_mem_take h)
theorem ok_wr (T : Tx K mg C_Calls C_BadRecipe C_BadWay C_BadValue C_TooLarge C_GroveError c_l_kind c_l_all_say c_l_recipes_right c_l_ways_right c_l_unused_right c_l_right) (TB : Tb mg base c_l_kind P_l_kind c_l_all_say P_l_all_say c_l_recipes_right P_l_recipes_right c_l_ways_right P_l_ways_right c_l_unused_right P_l_unused_right c_l_right P_l_right) : CalL P w K mg base "_law_ways_right" 12 3 (spWR (P_l_ways_right := P_l_ways_right)) :=
  have := ok_said (P := P) (w := w) (base := base) T
  have := ok_keyX (P := P) (w := w) (base := base) T
  have := ok_draw (P := P) (w := w) (base := base) T
  have := ok_one (P := P) (w := w) (base := base) T
  calL_mkM (q := qWR) T.f_l_ways_right TB.tb_l_ways_right (by decide +kernel) sc_l_ways_right st_l_ways_right T.bl fun X FX DX GX MX LL ds M Q E V hl z TX => by
    obtain ⟨_, wl, i, nn, cc, r, n, ti, e, hA, hr, hn, hL, hz, ht, q⟩ := z
    subst e
    have eK := FX.hK
    subst eK
    have h1 := hr.n1
    have hk : ∀ M, Knp X.K M (recD r) := fun M => hr.knp
    obtain ⟨x0, hx0⟩ := way_full hL
    walk_at "body"
    walk_at "go"
    refine we_ask ["_law_recipe_here", "_law_way"] ["_law_recipe_here", "_law_way"] ["key_at"] [] rfl rfl rfl rfl rfl rfl (fun _ h => nomatch h) fun Y FY GY TY => ?_
    dsimp only [ini]
    walk_at "go"
    refine ⟨recD r, _, rfl, hk _, hz, .inr ⟨r, rfl, hr, knp_ints zeros_int, .inr ⟨x0, hx0, ?_⟩⟩⟩
    refine .self ?_
    walk_at "go"
    refine said2_ne (by decide +kernel) (by decide +kernel) ⟨_, rfl, fun h => Bool.noConfusion h, fun _ => ?_⟩
    walk_at "go"
    with_reducible refine ws_join (fun ρ1 M1 => ∃ o3, ρ1 = [some (.ref wl), some (recD r), some (.tup (zeros n)), o3, none, none, none] ∧ M = M1) ?_ ?_
    · with_reducible refine ws_for FX ?gn (wi_range1 FX MemC.h MemC.h ?gn2 ?_)
      case gn => exact rfl
      case gn2 => exact rfl
      walk_at "go"
      have hzl : (zeros n).length = n := List.length_replicate
      rw [hzl]
      refine ⟨by omega, by rw [show (2 : Int) ^ 62 = 4611686018427387904 by decide]; omega, ?_⟩
      rw [show ((n : Int)).toNat = n by omega]
      refine ⟨fun ii ρ1 M1 => ∃ o3, ρ1 = [some (.ref wl), some (recD r), some (.tup (zeros n)), o3, none, none, none] ∧ M1 = M, .self ⟨_, rfl, rfl⟩, fun _ _ _ _ _ => trivial, ?_, ?_⟩
      · rintro c ρ1 M1 hc ⟨o3, rfl, rfl⟩
        dsimp only
        rw [show (0 : Int) + (c : Int) = (c : Int) by omega]
        obtain ⟨t, rt, st⟩ := rep_int (K := X.K) (i := (c : Int)) (by omega) (by omega)
        walk_at "go"
        refine we_ask ["_law_cut", "_law_recipe_here", "_law_way"] ["_law_cut", "_law_recipe_here", "_law_way"] ["key_at"] [] rfl rfl rfl rfl rfl rfl (fun _ h => nomatch h) fun Y FY GY TY => ?_
        dsimp only [ini]
        walk_at "go"
        rw [zeros_cut (by omega)]
        refine ⟨recD r, _, rfl, hk _, hz, .inr ⟨r, rfl, hr, knp_ints zeros_int, .inl ⟨_, way_cut hL hc, .self (.inr (.inl ⟨rfl, _, _, rfl, rt _, ?_⟩))⟩⟩⟩
        walk_at "go"
        refine rt_of FX GX (rt _) ?_
        walk_at "go"
        refine said2_ne (by decide +kernel) st ⟨_, rfl, fun h => Bool.noConfusion h, fun _ => ?_⟩
        walk_at "go"
        exact .self ⟨_, rfl, rfl⟩
      · rintro ρ1 M1 ⟨o3, rfl, rfl⟩
        walk_at "go"
        exact ⟨_, rfl, rfl⟩
    rintro ρ1 M1 ⟨o3, rfl, rfl⟩
    walk_at "go"
    with_reducible refine ws_join (fun ρ1 M1 => ∃ o4 p l, ρ1 = [some (.ref wl), some (recD r), some (.tup (zeros n)), o3, o4, none, none] ∧ (p, MO.lst l) :: M = M1) ?_ ?_
    · with_reducible refine ws_for FX ?gn (wi_list ?_)
      case gn => exact rfl
      walk_at "go"
      rename_i p
      have hml : ∀ d ∈ [DV.tup [DV.int 0], DV.tup [DV.int 1, DV.int 1], DV.tup [DV.bl true], DV.tup [DV.non, DV.int 0]], ∃ x l, d = .tup (x :: l) ∧ l.length ≤ 1 ∧ ∀ M, ∀ y ∈ x :: l, Knp X.K M y := fun d hd => by
        simp only [List.mem_cons, List.not_mem_nil, or_false] at hd
        rcases hd with rfl | rfl | rfl | rfl
        · exact ⟨_, _, rfl, by decide, fun M y hy => by simp only [List.mem_cons, List.not_mem_nil, or_false] at hy; subst hy; exact .int _⟩
        · exact ⟨_, _, rfl, by decide, fun M y hy => by simp only [List.mem_cons, List.not_mem_nil, or_false] at hy; rcases hy with rfl | rfl <;> exact .int _⟩
        · exact ⟨_, _, rfl, by decide, fun M y hy => by simp only [List.mem_cons, List.not_mem_nil, or_false] at hy; subst hy; exact .bl _⟩
        · exact ⟨_, _, rfl, by decide, fun M y hy => by
            simp only [List.mem_cons, List.not_mem_nil, or_false] at hy
            rcases hy with rfl | rfl
            · exact .non
            · exact .int _⟩
      generalize [DV.tup [DV.int 0], DV.tup [DV.int 1, DV.int 1], DV.tup [DV.bl true], DV.tup [DV.non, DV.int 0]] = ml at hml
      refine ⟨p, 0, ml, rfl, .here, fun ii ρ1 M1 => ∃ o4, ρ1 = [some (.ref wl), some (recD r), some (.tup (zeros n)), o3, o4, none, none] ∧ M1 = (p, .lst ml) :: M, .self ⟨_, rfl, rfl⟩, ?_, ?_, ?_⟩
      · rintro ii ρ1 M1 _ ⟨o4, rfl, rfl⟩
        exact ⟨0, .here⟩
      · rintro ii ρ1 M1 hi ⟨o4, rfl, rfl⟩
        dsimp only
        rw [show ml.getD ii .non = ml[ii] by rw [List.getD_eq_getElem?_getD, List.getElem?_eq_getElem hi]; rfl]
        obtain ⟨x, l, e, hll, hx⟩ := hml _ (List.getElem_mem hi)
        rw [e]
        obtain ⟨t, rt, st⟩ := rep_int (K := X.K) (i := (n : Int)) (by omega) (by omega)
        walk_at "go"
        refine we_ask ["_law_more", "_law_recipe_here", "_law_way"] ["_law_more", "_law_recipe_here", "_law_way"] ["key_at"] [] rfl rfl rfl rfl rfl rfl (fun _ h => nomatch h) fun Y FY GY TY => ?_
        dsimp only [ini]
        walk_at "go"
        have hzl : (zeros n).length = n := List.length_replicate
        refine Side.mk (by rw [hzl, List.length_cons, sizeLine_eq]; omega) ?_
        walk_at "go"
        refine ⟨recD r, _, rfl, hk _, hz, .inr ⟨r, rfl, hr, knp_app (hx _), .inl ⟨_, way_more hL x l, .self (.inr (.inl ⟨rfl, _, _, rfl, rt _, ?_⟩))⟩⟩⟩
        walk_at "go"
        rw [hzl]
        refine rt_of FX GX (rt _) ?_
        walk_at "go"
        refine said2_ne (by decide +kernel) st ⟨_, rfl, fun h => Bool.noConfusion h, fun _ => ?_⟩
        walk_at "go"
        exact .self ⟨_, rfl, rfl⟩
      · rintro ρ1 M1 ⟨o4, rfl, rfl⟩
        walk_at "go"
        exact ⟨_, _, _, rfl, rfl⟩
    rintro ρ1 M1 ⟨o4, p, l, rfl, rfl⟩
    have hzl : (zeros n).length = n := List.length_replicate
    walk_at "go"
    rename_i at_ n1 c1 a0 a1 p1 p2
    obtain ⟨at_, rfl⟩ : ∃ z : Nat, at_ = (z : Int) := ⟨at_.toNat, by omega⟩
    have han : at_ ≤ n := by omega
    rw [List.set_cons_succ]
    refine ⟨wl, i + 3, n1, c1, _, _, rfl, .there (.there (.there hA.set_self)), .inl ⟨p2, 0, rfl, .here, by omega⟩, by simp, by simp, fun r2 n2 c2 hr2 => ?_⟩
    simp only [List.set_cons_succ, List.set_set]
    obtain ⟨od, hod⟩ : ∃ od, od = [DV.int 2, DV.int (-1), DV.bl true, DV.bl false, DV.non, DV.str (Str.ofString "0"), DV.tup [DV.int 0], DV.ref p1, DV.int (10 ^ Int.toNat 20)].getD r2 .non := ⟨_, rfl⟩
    have hodd : btw 0 1 od = false ∧ ∀ M, (∃ j, AtM M j p1 (.lst [DV.int 1])) → Knp X.K M od := by
      rw [hod]
      match r2, hr2 with
      | 0, _ => exact ⟨show btw 0 1 (.int 2) = false by decide, fun M _ => .int _⟩
      | 1, _ => exact ⟨show btw 0 1 (.int (-1)) = false by decide, fun M _ => .int _⟩
      | 2, _ => exact ⟨rfl, fun M _ => .bl _⟩
      | 3, _ => exact ⟨rfl, fun M _ => .bl _⟩
      | 4, _ => exact ⟨rfl, fun M _ => .non⟩
      | 5, _ => exact ⟨rfl, fun M _ => .str _⟩
      | 6, _ => exact ⟨rfl, fun M _ => .tup fun x hx => by rw [List.mem_singleton.mp hx]; exact .int _⟩
      | 7, _ => exact ⟨rfl, fun M ⟨j, A⟩ => .ref (odd_lst A)⟩
      | 8, _ => exact ⟨show btw 0 1 (.int (10 ^ Int.toNat 20)) = false by decide +kernel, fun M _ => .int _⟩
      | k + 9, h => exact absurd h (by simp)
    rw [← hod]
    clear hod
    walk_at "go"
    obtain ⟨t, rt, st⟩ := rep_int (K := X.K) (i := (at_ : Int)) (by omega) (by omega)
    have ht' : AtM (M.set i (wl, Wel n2 c2)) ti P_l_ways_right (.tab qWR) := ht.set_ne (at_neR ht hA (by simp))
    have hA' : AtM (M.set i (wl, Wel n2 c2)) i wl (Wel n2 c2) := hA.set_self
    refine we_ask ["_law_at", "_law_odd", "_law_recipe_here", "_law_way"] ["_law_at", "_law_odd", "_law_recipe_here", "_law_way"] ["key_at"] [] rfl rfl rfl rfl rfl rfl (fun _ h => nomatch h) fun Y FY GY TY => ?_
    dsimp only [ini]
    walk_at "go"
    rw [zeros_cut han]
    have hza : (zeros at_).length = at_ := List.length_replicate
    refine Side.mk (by rw [hza, sizeLine_eq]; simp; omega) ?_
    walk_at "go"
    have hcl : (cutD (zeros n) (some ((at_ : Int) + 1)) none).length ≤ 400 := by
      unfold cutD
      rw [List.length_take, List.length_drop, hzl]
      omega
    have hcm : ∀ x ∈ cutD (zeros n) (some ((at_ : Int) + 1)) none, ∃ i : Int, x = .int i := fun x hx => zeros_int x (cut_mem hx)
    generalize cutD (zeros n) (some ((at_ : Int) + 1)) none = l2 at hcl hcm
    refine Side.mk (by rw [List.length_append, hza, sizeLine_eq]; simp; omega) ?_
    walk_at "go"
    have el : zeros at_ ++ [od] ++ l2 = zeros at_ ++ od :: l2 := by rw [List.append_assoc]; rfl
    rw [el]
    refine ⟨recD r, _, rfl, hk _, hz, .inr ⟨r, rfl, hr, knp_app (fun x hx => ?_), .inl ⟨_, way_odd hL han hodd.1 l2, .self (.inr (.inl ⟨rfl, _, _, rfl, rt _, ?_⟩))⟩⟩⟩
    · rcases List.mem_cons.mp hx with rfl | hx
      · exact hodd.2 _ ⟨1, .there .here⟩
      · obtain ⟨i, rfl⟩ := hcm x hx
        exact .int i
    walk_at "go"
    refine rt_of FX GX (rt _) ?_
    walk_at "go"
    refine said2_ne (by decide +kernel) st ⟨_, rfl, fun h => Bool.noConfusion h, fun _ => ?_⟩
    walk_at "go"
    refine we_ask ["_law_recipe_here", "_law_way", "_law_well_here"] ["_law_recipe_here", "_law_way", "_law_well_here"] ["key_at", "_law_one", "list"] ["list"] rfl rfl rfl rfl rfl rfl (fun x hx => T.bl x (by rw [List.mem_singleton.mp hx]; decide +kernel)) fun Y FY GY TY => ?_
    dsimp only [ini]
    walk_at "go"
    rename_i p3 q3 p4
    have rt9 : ∀ M, RepE X.K (.int (-1)) M "-1" := fun M => by
      have := re_pd (K := X.K) (M := M) (.int (-1)) (by decide +kernel) (by decide +kernel) (by rw [sizeLine_eq]; decide +kernel)
      rwa [show (PyData.int (-1)).shown = "-1" by decide +kernel] at this
    refine ⟨wl, i + 6, n2, c2, _, _, rfl, .there (.there (.there (.there (.there (.there hA'))))), .inl ⟨p4, 0, rfl, .here, by omega⟩, by simp, by simp, fun r3 n3 c3 hr3 => ?_⟩
    simp only [List.set_cons_succ, List.set_set]
    obtain ⟨od2, hod⟩ : ∃ od, od = [DV.ref p3, DV.non, DV.int 0, DV.str (Str.ofString ""), DV.ref q3].getD r3 .non := ⟨_, rfl⟩
    have hodd2 : wayE r od2 = .tup [.int (-1)] ∧ ∀ M, (∃ j, AtM M j p3 (.lst (zeros n))) → (∃ j, AtM M j q3 (.dk [])) → Knp X.K M od2 := by
      rw [hod]
      match r3, hr3 with
      | 0, _ => exact ⟨rfl, fun M ⟨j, A⟩ _ => .ref (odd_lst A)⟩
      | 1, _ => exact ⟨rfl, fun M _ _ => .non⟩
      | 2, _ => exact ⟨rfl, fun M _ _ => .int _⟩
      | 3, _ => exact ⟨rfl, fun M _ _ => .str _⟩
      | 4, _ => exact ⟨rfl, fun M _ ⟨j, A⟩ => .ref (odd_dk A)⟩
      | k + 5, h => exact absurd h (by simp)
    rw [← hod]
    clear hod
    walk_at "go"
    refine ⟨recD r, _, rfl, hk _, hz, .inr ⟨r, rfl, hr, hodd2.2 _ ⟨2, .there (.there .here)⟩ ⟨1, .there .here⟩, .inl ⟨_, hodd2.1, .self (.inr (.inl ⟨rfl, _, _, rfl, rt9 _, ?_⟩))⟩⟩⟩
    walk_at "go"
    refine said2_eq (by decide +kernel) (by decide +kernel) ?_
    exact ⟨_, .cons _ (.cons _ (.cons _ (.cons _ (.cons _ (.cons _ (.refl _)))))), q n3 c3⟩
/-! _law_wrong_step -/
def BadAt (K : Fg) (M : Mm) (t : Nat) (d : DV) : Prop := Knp K M d ∧ sizeD d ≤ 100 ∧ stepB t d = false
def spWS : SpD := fun ds M Q => ∃ (wl : Addr) (i : Nat) (nn cc : Int) (t : Nat), ds = [.ref wl, .int (t : Int)] ∧ AtM M i wl (Wel nn cc) ∧ ∀ N d n' c', BadAt K (N ++ M.set i (wl, Wel n' c')) t d → Q d (N ++ M.set i (wl, Wel n' c'))
theorem ok_ws (T : Tx K mg C_Calls C_BadRecipe C_BadWay C_BadValue C_TooLarge C_GroveError c_l_kind c_l_all_say c_l_recipes_right c_l_ways_right c_l_unused_right c_l_right) : Cal P w K mg base "_law_wrong_step" 3 2 (spWS (K := K)) :=
  have := ok_one (P := P) (w := w) (base := base) T
  cal_mk T.f_l_wrong_step sc_l_wrong_step st_l_wrong_step T.bl fun X FX ds M Q hl ⟨wl, i, nn, cc, t, e, hA, q⟩ => by
    subst e
    have eK := FX.hK
    subst eK
    walk_at "body"
    walk_at "go"
    rename_i b1 b2 b3 p2 p3 p4 p5
    refine ⟨wl, i + 7, nn, cc, _, _, rfl, .there (.there (.there (.there (.there (.there (.there hA)))))), .inl ⟨p5, 0, rfl, .here, by omega⟩, by simp, by simp, fun r n' c' hr => ?_⟩
    simp only [List.set_cons_succ]
    have key : ∀ N : Mm, (∃ j, AtM N j p2 (.lst [DV.int 1])) → (∃ j, AtM N j p3 (.lst [DV.str "own", DV.str "a"])) → ∀ d ∈ ([DV.tup [DV.str "join", DV.int t, DV.int 0], DV.tup [DV.str "join", DV.int 0, DV.int t], DV.tup [DV.str "join", DV.int (-1), DV.int 0], DV.tup [DV.str "join", DV.int 0, DV.int (-1)], DV.tup [DV.str "join", DV.int 0, DV.bl true], DV.tup [DV.str "join", DV.bl false, DV.int 0]] ++ [DV.tup [DV.str "join", DV.str "0", DV.int 0], DV.tup [DV.str "join", DV.int 0], DV.tup [DV.str "join", DV.int 0, DV.int 0, DV.int 0], DV.tup [DV.str "own"], DV.tup [DV.str "own", DV.str "a", DV.str "b"], DV.tup [DV.str "own", DV.bl true]] ++ [DV.tup [DV.str "own", DV.ref p2], DV.tup [DV.str "Own", DV.str "a"], DV.tup [DV.str "join", DV.int 0, DV.non], DV.ref p3, DV.non, DV.int 0, DV.tup [], DV.str "own", DV.tup [DV.str "join", DV.int 0, DV.int (t + 7)]]), BadAt X.K N t d := by
      rintro N ⟨j1, A1⟩ ⟨j2, A2⟩ d hd
      simp only [List.mem_append, List.mem_cons, List.not_mem_nil, or_false, or_assoc] at hd
      rcases hd with rfl | rfl | rfl | rfl | rfl | rfl | rfl | rfl | rfl | rfl | rfl | rfl | rfl | rfl | rfl | rfl | rfl | rfl | rfl | rfl | rfl <;> refine ⟨?_, ?_, ?_⟩
      all_goals first
        | exact .non
        | exact .int _
        | exact .str _
        | exact .ref (odd_lst A2)
        | (refine .tup fun x hx => ?_
           simp only [List.mem_cons, List.not_mem_nil, or_false] at hx
           first
             | (rcases hx with rfl | rfl | rfl | rfl <;> first | exact .str _ | exact .int _ | exact .bl _ | exact .non | exact .ref (odd_lst A1))
             | (rcases hx with rfl | rfl | rfl <;> first | exact .str _ | exact .int _ | exact .bl _ | exact .non | exact .ref (odd_lst A1))
             | (rcases hx with rfl | rfl <;> first | exact .str _ | exact .int _ | exact .bl _ | exact .non | exact .ref (odd_lst A1))
             | (subst hx; exact .str _))
        | (simp only [sizeD, sizeDs]; decide)
        | (simp [stepB, isTx, btw, plainD]; done)
        | (simp [stepB, isTx, btw, plainD]; omega)
        | (rw [step2]; decide)
        | exact .tup fun x hx => nomatch hx
    rw [show ∀ l : List DV, ∀ h : r < l.length, l.getD r .non = l[r] from fun l h => by rw [List.getD_eq_getElem?_getD, List.getElem?_eq_getElem h]; rfl]
    · exact .self (q [(p5, _), (p4, _), (p3, _), (p2, _), (b3, _), (b2, _), (b1, _)] _ n' c' (key _ ⟨3, .there (.there (.there .here))⟩ ⟨2, .there (.there .here)⟩ _ (List.getElem_mem hr)))
    · exact hr
theorem atm_app {N M : Mm} {i : Nat} {p : Addr} {o : MO} (h : AtM M i p o) : AtM (N ++ M) (N.length + i) p o := by
  induction N with
  | nil => simpa using h
  | cons a t ih => rw [List.length_cons, show t.length + 1 + i = (t.length + i) + 1 by omega]; exact .there ih
/-! recipes with one thing changed, and long ones -/
theorem fault_mid {r : List RStep} (hr : RecOk PlainV r) {t : Nat} (ht : t < r.length) {d : DV} (hd : stepB t d = false) {l2 : List DV} (hl : t + 1 + l2.length ≤ 400) : FaultAt (.tup ((r.take t).map stD ++ d :: l2)) (t : Int) := by
  have hlen : ((r.take t).map stD).length = t := by rw [List.length_map, List.length_take]; omega
  refine .inr ⟨_, t, d, rfl, ⟨?_, ?_⟩, rfl, ?_, hd, fun k y hk hy => ?_⟩
  · rw [List.length_append, List.length_cons]; omega
  · rw [List.length_append, hlen, List.length_cons]; omega
  · rw [List.getElem?_append_right (by omega), hlen, Nat.sub_self]; rfl
  · rw [List.getElem?_append_left (by omega), List.getElem?_map, List.getElem?_take, if_pos hk] at hy
    obtain ⟨s, hs, rfl⟩ := Option.map_eq_some_iff.mp hy
    exact stepB_st (hr.st hs)
theorem fault_not {d : DV} (h : ∀ ds, d = .tup ds → ¬ LenR ds) : FaultAt d (-1) := .inl ⟨h, rfl⟩
/-- the first step names a key -/
theorem rec_first {r : List RStep} (hr : RecOk PlainV r) : ∃ x, r[0]? = some (.inl x) ∧ PlainV x := by
  have h := List.getElem?_eq_getElem hr.n0
  cases e : r[0]'hr.n0 with
  | inl x => rw [e] at h; exact ⟨x, h, hr.ow 0 x h⟩
  | inr ab => rw [e] at h; have := (hr.jn 0 ab.1 ab.2 h).1; omega
theorem long_ok {r : List RStep} (hr : RecOk PlainV r) {x : DV} (hx : PlainV x) {n : Nat} (hn : r.length + n ≤ 400) : RecOk PlainV (r ++ List.replicate n (.inl x)) := by
  have at_ : ∀ (t : Nat) s, (r ++ List.replicate n (Sum.inl x : RStep))[t]? = some s → r[t]? = some s ∨ s = .inl x := fun t s h => by
    rcases Nat.lt_or_ge t r.length with ht | ht
    · rw [List.getElem?_append_left ht] at h
      exact .inl h
    · rw [List.getElem?_append_right ht] at h
      exact .inr (List.mem_replicate.mp (List.mem_of_getElem? h)).2
  refine ⟨by rw [List.length_append]; have := hr.n0; omega, by rw [List.length_append, List.length_replicate]; exact hn, fun t d h => ?_, fun t a b h => ?_⟩
  · rcases at_ t _ h with h | h
    · exact hr.ow t d h
    · cases h; exact hx
  · rcases at_ t _ h with h | h
    · exact hr.jn t a b h
    · cases h
theorem sizeDs_app : ∀ a b : List DV, sizeDs (a ++ b) = sizeDs a + sizeDs b
  | [], b => by rw [List.nil_append, sizeDs, Nat.zero_add]
  | x :: a, b => by rw [List.cons_append, sizeDs, sizeDs, sizeDs_app a b, Nat.add_assoc]
theorem sizeDs_cut (l : List DV) (n m : Nat) (h : n ≤ m) : sizeDs (l.take n) + sizeDs (l.drop m) ≤ sizeDs l := by
  have h1 := sizeDs_app (l.take n) (l.drop n)
  have h2 := sizeDs_app ((l.drop n).take (m - n)) ((l.drop n).drop (m - n))
  rw [List.take_append_drop] at h1 h2
  rw [List.drop_drop, show n + (m - n) = m by omega] at h2
  omega
/-! _law_recipes_right -/
abbrev qRR : Str := "_law_recipes_right.<locals>.<lambda>"
def spRR : SpL := fun LL ds M Q _ => LL = [] ∧ ∃ wl i nn cc k r n ti tj, ds = [.ref wl, k, recD r, .tup (zeros n)] ∧ AtM M i wl (Wel nn cc) ∧ RecOk PlainV r ∧ r.length ≤ 12 ∧ n ≤ r.length ∧ sizeD (recD r) ≤ 2000 ∧ AtM M ti P_l_recipes_right (.tab qRR) ∧ AtM M tj P_l_all_say (.tab qAS) ∧ ∀ n' c', Q (.bl true) (M.set i (wl, Wel n' c'))
theorem cut_take {l : List DV} {c : Nat} (h : c ≤ l.length) : cutD l none (some (c : Int)) = l.take c := by
  unfold cutD
  rw [HT.sIx_none, List.drop_zero, Nat.sub_zero, HT.sIx_nat, Nat.min_eq_left h]
theorem flat_one {n : Nat} {x : DV} : (List.replicate n [x]).flatten = List.replicate n x := by
  induction n with
  | zero => rfl
  | succ n ih => rw [List.replicate_succ, List.flatten_cons, ih]; rfl
theorem long_eq {r : List RStep} {n : Nat} {x : DV} : r.map stD ++ List.replicate n (DV.tup [DV.str (Str.ofString "own"), x]) = (r ++ List.replicate n (Sum.inl x : RStep)).map stD := by
  rw [List.map_append, List.map_replicate]; rfl
theorem size_long {r : List RStep} {n : Nat} {x : DV} (h0 : 0 < r.length) (hx : r[0]? = some (.inl x)) (hn : n ≤ 400) (hz : sizeD (.tup (r.map stD)) ≤ 2000) : sizeD (recD (r ++ List.replicate n (Sum.inl x : RStep))) ≤ 1000000 := by
  have hm : stD (.inl x) ∈ r.map stD := List.mem_map.mpr ⟨_, List.mem_of_getElem? hx, rfl⟩
  have h1 := size_mem hm
  rw [sizeD] at hz
  have h2 : ∀ n, sizeDs (List.replicate n (stD (Sum.inl x))) = n * sizeD (stD (Sum.inl x)) := fun n => by
    induction n with
    | zero => rw [List.replicate_zero, Nat.zero_mul]; rfl
    | succ n ih => rw [List.replicate_succ, sizeDs, ih, Nat.succ_mul, Nat.add_comm]
  unfold recD
  rw [sizeD, List.map_append, sizeDs_app, List.map_replicate, h2]
  have h3 : n * sizeD (stD (Sum.inl x)) ≤ 400 * 2000 := Nat.mul_le_mul hn (by omega)
  omega
theorem set_appR {α : Type} {N M : List α} {i : Nat} {x : α} : (N ++ M).set (N.length + i) x = N ++ M.set i x := by
  induction N with
  | nil => simp
  | cons a t ih => rw [List.length_cons, show t.length + 1 + i = (t.length + i) + 1 by omega, List.cons_append, List.set_cons_succ, ih]; rfl
theorem cut_le {l : List DV} {lo hi : Option Int} : (cutD l lo hi).length ≤ l.length := by
  unfold cutD
  rw [List.length_take, List.length_drop]
  omega
theorem cut_drop {l : List DV} {c : Nat} (h : c ≤ l.length) : cutD l (some (c : Int)) none = l.drop c := by
  unfold cutD
  rw [HT.sIx_none, HT.sIx_nat, Nat.min_eq_left h, List.take_of_length_le (by rw [List.length_drop]; omega)]
theorem ok_rr (T : Tx K mg C_Calls C_BadRecipe C_BadWay C_BadValue C_TooLarge C_GroveError c_l_kind c_l_all_say c_l_recipes_right c_l_ways_right c_l_unused_right c_l_right) (TB : Tb mg base c_l_kind P_l_kind c_l_all_say P_l_all_say c_l_recipes_right P_l_recipes_right c_l_ways_right P_l_ways_right c_l_unused_right P_l_unused_right c_l_right P_l_right) : CalL P w K mg base "_law_recipes_right" 14 4 (spRR (P_l_recipes_right := P_l_recipes_right) (P_l_all_say := P_l_all_say)) :=
  have := ok_said (P := P) (w := w) (base := base) T
  have := ok_as (P := P) (w := w) (base := base) T TB
  have := ok_ws (P := P) (w := w) (base := base) T
  have := ok_rowsX (P := P) (w := w) (base := base) T
  have := ok_draw (P := P) (w := w) (base := base) T
  have := ok_one (P := P) (w := w) (base := base) T
  calL_mkM (q := qRR) T.f_l_recipes_right TB.tb_l_recipes_right (by decide +kernel) sc_l_recipes_right st_l_recipes_right T.bl fun X FX DX GX MX LL ds M Q E V hl z TX => by
    obtain ⟨_, wl, i, nn, cc, k, r, n, ti, tj, e, hA, hr, hr12, hn, hz, ht, hts, q⟩ := z
    subst e
    have eK := FX.hK
    subst eK
    have h0 := hr.n0
    have hlm : (r.map stD).length = r.length := List.length_map _
    unfold recD at hz ⊢
    walk_at "body"
    walk_at "go"
    rename_i at_ n1 c1 a0 a1
    obtain ⟨at_, rfl⟩ : ∃ z : Nat, at_ = (z : Int) := ⟨at_.toNat, by omega⟩
    have hat : at_ < r.length := by omega
    refine ⟨wl, i, n1, c1, at_, rfl, hA.set_self, fun N d n2 c2 hb => ?_⟩
    rw [List.set_set] at hb ⊢
    walk_at "go"
    refine Side.mk (by rw [sizeLine_eq]; have := cut_le (l := r.map stD) (lo := none) (hi := some (at_ : Int)); simp only [List.length_cons, List.length_nil]; omega) ?_
    rw [cut_take (by omega)]
    walk_at "go"
    rw [show ((at_ : Int) + 1) = ((at_ + 1 : Nat) : Int) by omega, cut_drop (by omega)]
    refine Side.mk (by rw [sizeLine_eq, List.length_append, List.length_take, List.length_drop]; simp only [List.length_cons, List.length_nil]; omega) ?_
    have ew : (r.map stD).take at_ ++ [d] ++ (r.map stD).drop (at_ + 1) = (r.take at_).map stD ++ d :: (r.drop (at_ + 1)).map stD := by rw [List.map_take, List.map_drop, List.append_assoc]; rfl
    rw [ew]
    have hf : ∀ l3 : List DV, l3.length ≤ 1 → FaultAt (.tup ((r.take at_).map stD ++ d :: ((r.drop (at_ + 1)).map stD ++ l3))) (at_ : Int) := fun l3 h3 => fault_mid hr hat hb.2.2 (by rw [List.length_append, List.length_map, List.length_drop]; omega)
    have ht' : AtM (N ++ M.set i (wl, Wel n2 c2)) (N.length + ti) P_l_recipes_right (.tab qRR) := atm_app (ht.set_ne (at_neR ht hA (by simp)))
    have hts' : AtM (N ++ M.set i (wl, Wel n2 c2)) (N.length + tj) P_l_all_say (.tab qAS) := atm_app (hts.set_ne (at_neR hts hA (by simp)))
    have hA' : AtM (N ++ M.set i (wl, Wel n2 c2)) (N.length + i) wl (Wel n2 c2) := atm_app hA.set_self
    walk_at "go"
    have kall : ∀ (M9 : Mm), (∀ j a o, AtM (N ++ M.set i (wl, Wel n2 c2)) j a o → ∃ j2, AtM M9 j2 a o) → True := fun _ _ => trivial
    have ksz : ∀ l3 : List DV, (∀ x ∈ l3, x = .non) → l3.length ≤ 1 → Knp X.K (N ++ M.set i (wl, Wel n2 c2)) (.tup ((r.take at_).map stD ++ d :: ((r.drop (at_ + 1)).map stD ++ l3))) ∧ sizeD (.tup ((r.take at_).map stD ++ d :: ((r.drop (at_ + 1)).map stD ++ l3))) ≤ 1000000 := fun l3 h3 h31 => by
      refine ⟨.tup fun x hx => ?_, ?_⟩
      · rcases List.mem_append.mp hx with hx | hx
        · obtain ⟨s, hs, rfl⟩ := List.mem_map.mp hx
          obtain ⟨t, ht⟩ := List.getElem?_of_mem (List.mem_of_mem_take hs)
          exact knp_st (hr.st ht)
        · rcases List.mem_cons.mp hx with rfl | hx
          · exact hb.1
          · rcases List.mem_append.mp hx with hx | hx
            · obtain ⟨s, hs, rfl⟩ := List.mem_map.mp hx
              obtain ⟨t, ht⟩ := List.getElem?_of_mem (List.mem_of_mem_drop hs)
              exact knp_st (hr.st ht)
            · rw [h3 x hx]; exact .non
      · have h1 := sizeDs_cut (r.map stD) at_ (at_ + 1) (by omega)
        have h2 : sizeDs l3 ≤ 1 := by
          match l3, h3, h31 with
          | [], _, _ => rw [sizeDs]; omega
          | [x], h3, _ => rw [h3 x (by simp), sizeDs, sizeDs, sizeD]; exact Nat.le_refl _
        have h4 := hb.2.1
        rw [List.map_take, List.map_drop, sizeD, sizeDs_app, sizeDs, sizeDs_app]
        rw [sizeD] at hz
        omega
    refine ⟨rfl, k, _, _, _, _, rfl, by simpa using (ksz [] (fun _ h => nomatch h) (by simp)).1, by simpa using (ksz [] (fun _ h => nomatch h) (by simp)).2, by simpa using hf [] (by simp), ⟨by omega, by omega⟩, hts', ?_⟩
    walk_at "go"
    refine Side.mk (by rw [sizeLine_eq, List.length_append, List.length_map, List.length_take, List.length_cons, List.length_map, List.length_drop]; simp only [List.length_cons, List.length_nil]; omega) ?_
    rw [show (r.take at_).map stD ++ d :: (r.drop (at_ + 1)).map stD ++ [DV.non] = (r.take at_).map stD ++ d :: ((r.drop (at_ + 1)).map stD ++ [DV.non]) by rw [List.append_assoc]; rfl]
    walk_at "go"
    refine ⟨rfl, k, _, _, _, _, rfl, (ksz [.non] (fun x h => List.mem_singleton.mp h) (by simp)).1.less (.cons _ (.refl _)), (ksz [.non] (fun x h => List.mem_singleton.mp h) (by simp)).2, hf [.non] (by simp), ⟨by omega, by omega⟩, .there hts', ?_⟩
    walk_at "go"
    obtain ⟨x0, hx0, px0⟩ := rec_first hr
    refine v_ix_t (show atI (r.map stD) 0 = some (stD (.inl x0)) from rec_at (i := 0) hx0) ?_
    dsimp only [stD]
    walk_at "go"
    refine Side.mk ⟨by simp, by simp, by omega, by omega⟩ ?_
    rw [show (401 - ((r.map stD).length : Int)).toNat = 401 - r.length by rw [hlm]; omega, flat_one]
    walk_at "go"
    refine Side.mk (by rw [hlm, List.length_replicate, sizeLine_eq]; omega) ?_
    rw [long_eq]
    generalize hlg : r ++ List.replicate (401 - r.length) (Sum.inl x0 : RStep) = lg
    have hll : lg.length = 401 := by rw [← hlg, List.length_append, List.length_replicate]; omega
    have hls : sizeD (recD lg) ≤ 1000000 := by
      rw [← hlg]
      exact size_long h0 hx0 (by omega) hz
    have hlk : ∀ M, Knp X.K M (recD lg) := fun M => by
      rw [← hlg]
      refine .tup fun x hx => ?_
      obtain ⟨s, hs, rfl⟩ := List.mem_map.mp hx
      rcases List.mem_append.mp hs with hs | hs
      · obtain ⟨t, ht⟩ := List.getElem?_of_mem hs
        exact knp_st (hr.st ht)
      · rw [(List.mem_replicate.mp hs).2]
        exact knp_st (t := 0) (show StOk 0 (.inl x0) from px0)
    have hlr : RecOk PlainV (lg.take 400) := by
      rw [← hlg, List.take_append, List.take_replicate, List.take_of_length_le (by omega), show min (400 - r.length) (401 - r.length) = 400 - r.length by omega]
      exact long_ok hr px0 (by omega)
    walk_at "go"
    refine we_ask ["_law_long"] ["_law_long"] ["rows"] [] rfl rfl rfl rfl rfl rfl (fun _ h => nomatch h) fun Y FY GY TY => ?_
    dsimp only [ini]
    walk_at "go"
    rw [show (some (400 : Int)) = some ((400 : Nat) : Int) from rfl, cut_take (c := 400) (by rw [List.length_map]; omega), ← List.map_take]
    refine ⟨_, rfl, hlr.knp, ?_, .inl ⟨_, rfl, hlr, fun n9 => .self ?_⟩⟩
    · rw [← hlg, List.take_append, List.take_replicate, List.take_of_length_le (by omega)]
      exact size_long hr.n0 hx0 (by omega) hz
    walk_at "go"
    refine said2_ne (by decide +kernel) (by decide +kernel) ⟨_, rfl, fun h => Bool.noConfusion h, fun _ => ?_⟩
    walk_at "go"
    refine v_ix_t (show atI (r.map stD) 0 = some (stD (.inl x0)) from rec_at (i := 0) hx0) ?_
    dsimp only [stD]
    walk_at "go"
    rename_i pw pl qd po pm
    refine ⟨wl, N.length + i + 5, n2, c2, _, _, rfl, .there (.there (.there (.there (.there hA')))), .inl ⟨pm, 0, rfl, .here, by omega⟩, by simp, by simp, fun r2 n3 c3 hr2 => ?_⟩
    simp only [List.set_cons_succ]
    rw [set_appR, List.set_set]
    obtain ⟨od, hod⟩ : ∃ od, od = [DV.ref pl, DV.tup [], DV.non, DV.int 5, DV.str (Str.ofString "own"), DV.ref qd, DV.tup (List.map stD lg), DV.ref po].getD r2 .non := ⟨_, rfl⟩
    have hodd : FaultAt od (-1) ∧ sizeD od ≤ 1000000 ∧ ∀ M, (∃ j l, AtM M j pl (.lst l)) → (∃ j l, AtM M j po (.lst l)) → (∃ j, AtM M j qd (.dk [])) → Knp X.K M od := by
      rw [hod]
      match r2, hr2 with
      | 0, _ => exact ⟨fault_not (fun _ h => nomatch h), by simp [sizeD], fun M ⟨j, l, A⟩ _ _ => .ref (odd_lst A)⟩
      | 1, _ => exact ⟨fault_not (fun ds h hL => by cases h; exact absurd hL.1 (by simp)), by simp [sizeD, sizeDs], fun M _ _ _ => .tup fun x hx => nomatch hx⟩
      | 2, _ => exact ⟨fault_not (fun _ h => nomatch h), by simp [sizeD], fun M _ _ _ => .non⟩
      | 3, _ => exact ⟨fault_not (fun _ h => nomatch h), by simp [sizeD], fun M _ _ _ => .int _⟩
      | 4, _ => exact ⟨fault_not (fun _ h => nomatch h), by simp [sizeD], fun M _ _ _ => .str _⟩
      | 5, _ => exact ⟨fault_not (fun _ h => nomatch h), by simp [sizeD], fun M _ _ ⟨j, A⟩ => .ref (odd_dk A)⟩
      | 6, _ => exact ⟨fault_not (fun ds h hL => by cases h; exact absurd hL.2 (by rw [List.length_map]; omega)), hls, fun M _ _ _ => hlk M⟩
      | 7, _ => exact ⟨fault_not (fun _ h => nomatch h), by simp [sizeD], fun M _ ⟨j, l, A⟩ _ => .ref (odd_lst A)⟩
      | k + 8, h => exact absurd h (by simp)
    rw [← hod]
    clear hod
    walk_at "go"
    refine ⟨rfl, k, _, _, _, _, rfl, hodd.2.2 _ ⟨3, _, .there (.there (.there .here))⟩ ⟨1, _, .there .here⟩ ⟨2, .there (.there .here)⟩, hodd.2.1, hodd.1, ⟨by omega, by omega⟩, .there (.there (.there (.there (.there (atm_app (hts.set_ne (at_neR hts hA (by simp)))))))), ⟨_, .cons _ (.cons _ (.cons _ (.cons _ (.cons _ (List.sublist_append_right _ _))))), q n3 c3⟩⟩
/-! _law_unused_right -/
abbrev qUR : Str := "_law_unused_right.<locals>.<lambda>"
def U_own : Lamb := lamAt qUR s_l_unused_right 1 0
def U_join : Lamb := lamAt qUR s_l_unused_right 1 1
def U_cons : Lamb := lamAt qUR s_l_unused_right 1 2
def U_mat : Lamb := lamAt qUR s_l_unused_right 1 3
def unusF (od ot : DV) : List (Str × DV) := [("own_by", .clo U_own [od]), ("join_by", .clo U_join [ot]), ("consistent_by", .clo U_cons []), ("matches_by", .clo U_mat []), ("penalty_by", .non), ("sides_by", .non), ("distance_by", .non), ("bound_by", .non)]
def spUOwn : SpC := fun cd ds Q => ∃ od, ∃ s : Str, cd = [od] ∧ ds = [.str s] ∧ Q (if s = ("odd" : Str) then od else .int 0)
theorem clo_uown (T : Tx K mg C_Calls C_BadRecipe C_BadWay C_BadValue C_TooLarge C_GroveError c_l_kind c_l_all_say c_l_recipes_right c_l_ways_right c_l_unused_right c_l_right) : CloOk P w K mg base 1 U_own 1 spUOwn :=
  clo_mk (N := ["_law_x", "_law_odd"]) (ps := ["_law_x"]) (Gs := []) (k := 0) (NdefX.nscope_by (by decide +kernel)) (by decide +kernel) T.bl (fun cl pm cv ctv us hu => match us, hu with | [u], _ => rfl) fun X FX cd ds Q h1 h2 ⟨od, s, e1, e2, q⟩ => by
    subst e1 e2
    conv in (Lamb.body _) => whnf
    dsimp only [ini, List.cons_append, List.nil_append]
    walk_at "go"
    refine ⟨fun h => ?_, fun h => ?_⟩
    · rw [if_pos (of_decide_eq_true h)] at q
      walk_at "go"
      exact q
    · rw [if_neg (of_decide_eq_false h)] at q
      walk_at "go"
      exact q
def spUJoin : SpC := fun cd ds Q => ∃ ot, ∃ a b : Int, cd = [ot] ∧ ds = [.int a, .int b] ∧ Q (if a = b then ot else .int (a - b))
theorem clo_ujoin (T : Tx K mg C_Calls C_BadRecipe C_BadWay C_BadValue C_TooLarge C_GroveError c_l_kind c_l_all_say c_l_recipes_right c_l_ways_right c_l_unused_right c_l_right) : CloOk P w K mg base 1 U_join 2 spUJoin :=
  clo_mk (N := ["_law_a", "_law_b", "_law_other"]) (ps := ["_law_a", "_law_b"]) (Gs := []) (k := 0) (NdefX.nscope_by (by decide +kernel)) (by decide +kernel) T.bl (fun cl pm cv ctv us hu => match us, hu with | [u1, u2], _ => rfl) fun X FX cd ds Q h1 h2 ⟨ot, a, b, e1, e2, q⟩ => by
    subst e1 e2
    conv in (Lamb.body _) => whnf
    dsimp only [ini, List.cons_append, List.nil_append]
    walk_at "go"
    refine ⟨fun h => ?_, fun h => ?_⟩
    · rw [if_pos (of_decide_eq_true h)] at q
      walk_at "go"
      exact q
    · rw [if_neg (of_decide_eq_false h)] at q
      walk_at "go"
      exact q
def uoF (od : DV) (x : DV) : DV := match x with
  | .str s => if s = ("odd" : Str) then od else .int 0
  | _ => .non
def ujF (ot : DV) (a b : DV) : DV := match a, b with
  | .int x, .int y => if x = y then ot else .int (x - y)
  | _, _ => .non
def uoD (x : DV) : Prop := ∃ s : Str, x = .str s
def ujD (a b : DV) : Prop := ∃ x y : Int, a = .int x ∧ b = .int y
theorem unus_ok (T : Tx K mg C_Calls C_BadRecipe C_BadWay C_BadValue C_TooLarge C_GroveError c_l_kind c_l_all_say c_l_recipes_right c_l_ways_right c_l_unused_right c_l_right) (od ot : DV) : KindB 1 P w K mg base (unusF od ot) (uoF od) (ujF ot) uoD ujD where
  n1 := rfl
  n2 := rfl
  ow := ⟨_, _, _, rfl, clo_uown T, rfl, fun x Q ⟨s, e⟩ q => ⟨od, s, rfl, by rw [e], by subst e; exact q⟩⟩
  jn := ⟨_, _, _, rfl, clo_ujoin T, rfl, fun a b Q ⟨x, y, e1, e2⟩ q => ⟨ot, x, y, rfl, by rw [e1, e2], by subst e1 e2; exact q⟩⟩
  co := fun x ⟨s, e⟩ => by subst e; rfl
  cj := fun a b ⟨x, y, e1, e2⟩ => by subst e1 e2; exact ⟨rfl, rfl⟩
def r6 (s : RStep) : List RStep := [.inl (.str (Str.ofString "a")), .inl (.str (Str.ofString "b")), s, .inr (1, 0), .inl (.str (Str.ofString "odd")), .inl (.str (Str.ofString "a"))]
theorem st_ok {o : MO} (h : stO o = true) : okO o = true := by
  cases o with
  | ins C fs =>
    have h : (fs.all fun q => Cf q.2) = true := h
    show (fs.all fun q => okD q.2) = true
    rw [List.all_eq_true] at h ⊢
    intro x hx
    have := h x hx
    generalize x.2 = d at this
    cases d <;> first | rfl | exact this
  | _ => exact h
theorem plain_int (x : Int) : PlainV (.int x) := ⟨rfl, rfl, by simp [sizeD], fun K M => .int x⟩
theorem plain_str (x : Str) : PlainV (.str x) := ⟨rfl, rfl, by simp [sizeD], fun K M => .str x⟩
theorem r6_ok {s : RStep} (hs : s = .inl (.str (Str.ofString "odd")) ∨ s = .inr (0, 1)) : RecOk PlainV (r6 s) := by
  refine ⟨by simp [r6], by simp [r6], fun t d h => ?_, fun t a b h => ?_⟩
  · rcases hs with rfl | rfl
    · match t, h with
      | 0, h | 1, h | 2, h | 4, h | 5, h => cases h; exact plain_str _
      | 3, h => cases h
      | t + 6, h => simp [r6] at h
    · match t, h with
      | 0, h | 1, h | 4, h | 5, h => cases h; exact plain_str _
      | 2, h | 3, h => cases h
      | t + 6, h => simp [r6] at h
  · rcases hs with rfl | rfl
    · match t, h with
      | 3, h => cases h; exact ⟨by decide, by decide⟩
      | 0, h | 1, h | 2, h | 4, h | 5, h => cases h
      | t + 6, h => simp [r6] at h
    · match t, h with
      | 2, h | 3, h => cases h; exact ⟨by decide, by decide⟩
      | 0, h | 1, h | 4, h | 5, h => cases h
      | t + 6, h => simp [r6] at h
theorem r6_run {s : RStep} {od ot : DV} (hs : s = .inl (.str (Str.ofString "odd")) ∨ s = .inr (0, 1)) : RunB (uoF od) (ujF ot) uoD ujD (r6 s) [.int 0, .int 0] 2 s (if s.isLeft = true then od else ot) := by
  refine ⟨rfl, rfl, fun k s' hk h => ?_, ?_⟩
  · match k, hk, h with
    | 0, _, h => cases h; exact ⟨⟨⟨_, rfl⟩, rfl⟩, plain_int _⟩
    | 1, _, h => cases h; exact ⟨⟨⟨_, rfl⟩, rfl⟩, plain_int _⟩
  · rcases hs with rfl | rfl
    · exact ⟨⟨_, rfl⟩, rfl⟩
    · exact ⟨⟨0, 0, rfl, rfl⟩, rfl⟩
theorem all_ok {M : Mm} (h : (M.all fun x => stO x.2) = true) : (M.all fun x => okO x.2) = true := List.all_eq_true.mpr fun x hx => st_ok (List.all_eq_true.mp h x hx)
theorem st_set {M : Mm} {i : Nat} {x : Addr × MO} (h : (M.all fun x => stO x.2) = true) (hx : stO x.2 = true) : ((M.set i x).all fun x => stO x.2) = true := List.all_eq_true.mpr fun y hy => by
  rcases List.mem_or_eq_of_mem_set hy with h2 | h2
  · exact List.all_eq_true.mp h y h2
  · rw [h2]; exact hx
/-- an object that is no plain value, and what repr shows of it -/
structure OddT (K : Fg) (M : Mm) (d : DV) (t : Str) : Prop where
  kn : Knp K M d
  sz : sizeD d ≤ 1000
  pl : plainD d 4 = false
  rp : RepE K d M t
  ok : PyData.strOk t = true
def spUR : SpL := fun LL ds M Q _ => LL = [] ∧ ∃ wl i nn cc od t ti M0, ds = [.ref wl, od] ∧ List.Sublist M0 M ∧ AtM M0 i wl (Wel nn cc) ∧ AtM M0 ti P_l_unused_right (.tab qUR) ∧ (M0.all fun x => stO x.2) = true ∧ (∀ N n' c', OddT K (N ++ M0.set i (wl, Wel n' c')) od t) ∧ ∀ n' c', Q (.bl true) (M0.set i (wl, Wel n' c'))
theorem ok_ur (T : Tx K mg C_Calls C_BadRecipe C_BadWay C_BadValue C_TooLarge C_GroveError c_l_kind c_l_all_say c_l_recipes_right c_l_ways_right c_l_unused_right c_l_right) (TB : Tb mg base c_l_kind P_l_kind c_l_all_say P_l_all_say c_l_recipes_right P_l_recipes_right c_l_ways_right P_l_ways_right c_l_unused_right P_l_unused_right c_l_right P_l_right) : CalL P w K mg base "_law_unused_right" 14 2 (spUR (K := K) (P_l_unused_right := P_l_unused_right)) :=
  have := ok_said (P := P) (w := w) (base := base) T
  have := ok_valX (P := P) (w := w) (base := base) T
  have := ok_one (P := P) (w := w) (base := base) T
  have := mk_calls (P := P) (w := w) (base := base) T
  calL_mkM (q := qUR) T.f_l_unused_right TB.tb_l_unused_right (by decide +kernel) sc_l_unused_right st_l_unused_right T.bl fun X FX DX GX MX LL ds M Q E V hl z TX => by
    obtain ⟨_, wl, i, nn, cc, od, t, ti, M0, e, sub0, hA, ht, hst, ho, q⟩ := z
    subst e
    have eK := FX.hK
    subst eK
    refine wss_less sub0 ?_
    clear sub0
    clear M
    rename Mm => M
    walk_at "body"
    walk_at "go"
    rename_i pe qd po
    refine ⟨wl, i + 3, nn, cc, _, _, rfl, .there (.there (.there hA)), .inl ⟨po, 0, rfl, .here, by omega⟩, by simp, by simp, fun r2 n2 c2 hr2 => ?_⟩
    simp only [List.set_cons_succ]
    obtain ⟨ot, hot⟩ : ∃ ot, ot = [DV.ref pe, DV.ref qd, DV.tup [DV.bl true]].getD r2 .non := ⟨_, rfl⟩
    have hodd : ∃ u, ∀ N N1 M2, OddT X.K (N ++ (po, MO.lst N1) :: (qd, MO.dk []) :: (pe, MO.lst []) :: M2) ot u := by
      match r2, hr2 with
      | 0, _ =>
        refine ⟨(PyData.list []).shown, fun N N1 M2 => ?_⟩
        rw [hot]
        have A : AtM (N ++ (po, MO.lst N1) :: (qd, MO.dk []) :: (pe, MO.lst []) :: M2) (N.length + 2) pe (.lst []) := atm_app (.there (.there .here))
        exact ⟨.ref (odd_lst A), by simp [sizeD], rfl, re_pd (.lst A .nil) (by decide +kernel) (by decide +kernel) (by rw [sizeLine_eq]; decide +kernel), by decide +kernel⟩
      | 1, _ =>
        refine ⟨(PyData.dict []).shown, fun N N1 M2 => ?_⟩
        rw [hot]
        have A : AtM (N ++ (po, MO.lst N1) :: (qd, MO.dk []) :: (pe, MO.lst []) :: M2) (N.length + 1) qd (.dk []) := atm_app (.there .here)
        exact ⟨.ref (odd_dk A), by simp [sizeD], rfl, re_dk A (ps := []) rfl (by decide +kernel) (by decide +kernel) (by rw [sizeLine_eq]; decide +kernel), by decide +kernel⟩
      | 2, _ =>
        refine ⟨(PyData.tuple [.bool true]).shown, fun N N1 M2 => ?_⟩
        rw [hot]
        exact ⟨.tup fun x hx => by rw [List.mem_singleton.mp hx]; exact .bl _, by simp [sizeD, sizeDs], rfl, re_pd (.tup (.cons (.bl _) .nil)) (by decide +kernel) (by decide +kernel) (by rw [sizeLine_eq]; decide +kernel), by decide +kernel⟩
      | k + 3, h => exact absurd h (by simp)
    obtain ⟨u, hu⟩ := hodd
    rw [← hot]
    clear hot
    have ht' : AtM (M.set i (wl, Wel n2 c2)) ti P_l_unused_right (.tab qUR) := ht.set_ne (at_neR ht hA (by simp))
    have hA' : AtM (M.set i (wl, Wel n2 c2)) i wl (Wel n2 c2) := hA.set_self
    walk_at "go"
    rename_i qq
    refine ⟨qq, 0, _, _, _, _, _, _, _, _, rfl, inferInstance, rfl, ?_⟩
    walk_at "go"
    rename_i ps0 pf
    rw [List.set_cons_zero]
    refine ⟨wl, i + 6, n2, c2, _, _, rfl, .there (.there (.there (.there (.there (.there hA'))))), .inl ⟨pf, 0, rfl, .here, by omega⟩, by simp, by simp, fun r3 n3 c3 hr3 => ?_⟩
    simp only [List.set_cons_succ, List.set_set]
    obtain ⟨s, hs, hs2⟩ : ∃ s : RStep, [DV.tup [DV.str (Str.ofString "own"), DV.str (Str.ofString "odd")], DV.tup [DV.str (Str.ofString "join"), DV.int 0, DV.int 1]].getD r3 .non = stD s ∧ (s = .inl (.str (Str.ofString "odd")) ∨ s = .inr (0, 1)) := by
      match r3, hr3 with
      | 0, _ => exact ⟨_, rfl, .inl rfl⟩
      | 1, _ => exact ⟨_, rfl, .inr rfl⟩
      | k + 2, h => exact absurd h (by simp)
    rw [hs]
    clear hs
    have ht3 : AtM (M.set i (wl, Wel n3 c3)) ti P_l_unused_right (.tab qUR) := ht.set_ne (at_neR ht hA (by simp))
    walk_at "go"
    refine we_askZ ["_law_odd", "_law_other"] ["_law_kind_here", "_law_steps"] ["_law_kind_here", "_law_steps"] ["value", "tuple"] ["tuple"] rfl rfl rfl rfl rfl rfl (fun x hx => T.bl x (by rw [List.mem_singleton.mp hx]; decide +kernel)) ⟨_, .same _ (.same _ (.same _ (.same _ (.ins (.cons (.lam (ClD.mk (ds := [od]) FX [1] (by decide +kernel) (by decide +kernel) rfl) (by decide +kernel)) (.cons (.lam (ClD.mk (ds := [ot]) FX [2] (by decide +kernel) (by decide +kernel) rfl) (by decide +kernel)) (.cons (.lam (ClD.mk (ds := []) FX [] (by decide +kernel) (by decide +kernel) rfl) (by decide +kernel)) (.cons (.lam (ClD.mk (ds := []) FX [] (by decide +kernel) (by decide +kernel) rfl) (by decide +kernel)) (.cons (.same _) (.cons (.same _) (.cons (.same _) (.cons (.same _) .nil)))))))) .refl)))), fun Y FY GY TY => ?_⟩
    dsimp only [ini]
    walk_at "go"
    obtain ⟨u9, v9, hv9, hr9, hR9⟩ : ∃ u9 v9, (v9 = if s.isLeft = true then od else ot) ∧ (u9 = if s.isLeft = true then t else u) ∧ RunB (uoF od) (ujF ot) uoD ujD (r6 s) [.int 0, .int 0] 2 s v9 := ⟨_, _, rfl, rfl, r6_run hs2⟩
    have hO9 : ∀ (N5 : Mm) (N1 : List DV), OddT X.K (N5 ++ (po, MO.lst N1) :: (qd, MO.dk []) :: (pe, MO.lst []) :: M.set i (wl, Wel n3 c3)) v9 u9 := fun N5 N1 => by
      rw [hv9, hr9]
      split
      · have := ho (N5 ++ (po, MO.lst N1) :: (qd, MO.dk []) :: [(pe, MO.lst [])]) n3 c3
        rw [List.append_assoc] at this
        exact this
      · exact hu N5 N1 _
    have hall : (((po, MO.lst [DV.ref pe, DV.ref qd, DV.tup [DV.bl true]]) :: (qd, MO.dk []) :: (pe, MO.lst []) :: M.set i (wl, Wel n3 c3)).all fun x => stO x.2) = true := by
      rw [List.all_cons, List.all_cons, List.all_cons, st_set hst rfl]
      rfl
    refine ⟨_, _, rfl, (r6_ok hs2).knp, by rcases hs2 with rfl | rfl <;> simp [sizeD, sizeDs, stD], .inr ⟨qq, 4, _, _, _, _, _, r6 s, _, _, s, v9, rfl, rfl, .there (.there (.there (.there .here))), unus_ok T od ot, r6_ok hs2, hR9, (hO9 [_, _, _, _, _] _).kn, (hO9 [] []).sz, (hO9 [] []).pl, ?_⟩⟩
    refine .self (.inr (.inr ⟨rfl, _, _, rfl, (hO9 [_, _, _, _, _] _).rp, rfl, ?_⟩))
    refine ⟨_, .cons _ (.cons _ (.cons _ (.cons _ (.cons _ (.refl _))))), all_ok hall, fun M5 u5 => ?_⟩
    rw [u5.st hall]
    clear u5
    rcases hs2 with rfl | rfl
    · dsimp only [stD]
      walk_at "gj"
      cases hv9
      cases hr9
      refine rt_of FX GX (hO9 [] _).rp ?_
      walk_at "go"
      exact said2_eq (by decide +kernel) (hO9 [] []).ok ⟨_, .cons _ (.cons _ (.cons _ (.refl _))), q n3 c3⟩
    · dsimp only [stD]
      walk_at "gj"
      cases hv9
      cases hr9
      refine rt_of FX GX (hO9 [] _).rp ?_
      walk_at "go"
      exact said2_eq (by decide +kernel) (hO9 [] []).ok ⟨_, .cons _ (.cons _ (.cons _ (.refl _))), q n3 c3⟩
/-! _law_right -/
abbrev qRt : Str := "_law_right.<locals>.<lambda>"
def B_own : Lamb := lamAt qRt s_l_right 5 0
def B_join : Lamb := lamAt qRt s_l_right 5 1
def B_cons : Lamb := lamAt qRt s_l_right 5 2
def B_mat : Lamb := lamAt qRt s_l_right 5 3
def badF (od : DV) : List (Str × DV) := [("own_by", .clo B_own [od]), ("join_by", .clo B_join []), ("consistent_by", .clo B_cons []), ("matches_by", .clo B_mat []), ("penalty_by", .non), ("sides_by", .non), ("distance_by", .non), ("bound_by", .non)]
def spBOwn : SpC := fun cd ds Q => ∃ od x, cd = [od] ∧ ds = [x] ∧ Q od
theorem clo_bown (T : Tx K mg C_Calls C_BadRecipe C_BadWay C_BadValue C_TooLarge C_GroveError c_l_kind c_l_all_say c_l_recipes_right c_l_ways_right c_l_unused_right c_l_right) : CloOk P w K mg base 1 B_own 1 spBOwn :=
  clo_mk (N := ["_law_item", "_law_odd"]) (ps := ["_law_item"]) (Gs := []) (k := 0) (NdefX.nscope_by (by decide +kernel)) (by decide +kernel) T.bl (fun cl pm cv ctv us hu => match us, hu with | [u], _ => rfl) fun X FX cd ds Q h1 h2 ⟨od, x, e1, e2, q⟩ => by
    subst e1 e2
    conv in (Lamb.body _) => whnf
    dsimp only [ini, List.cons_append, List.nil_append]
    walk_at "go"
    exact q
def spBJoin : SpC := fun cd ds Q => ∃ a b, cd = [] ∧ ds = [a, b] ∧ Q (.int 0)
theorem clo_bjoin (T : Tx K mg C_Calls C_BadRecipe C_BadWay C_BadValue C_TooLarge C_GroveError c_l_kind c_l_all_say c_l_recipes_right c_l_ways_right c_l_unused_right c_l_right) : CloOk P w K mg base 1 B_join 2 spBJoin :=
  clo_mk (N := ["_law_a", "_law_b"]) (ps := ["_law_a", "_law_b"]) (Gs := []) (k := 0) (NdefX.nscope_by (by decide +kernel)) (by decide +kernel) T.bl (fun cl pm cv ctv us hu => match us, hu with | [u1, u2], _ => rfl) fun X FX cd ds Q h1 h2 ⟨a, b, e1, e2, q⟩ => by
    subst e1 e2
    conv in (Lamb.body _) => whnf
    dsimp only [ini, List.cons_append, List.nil_append]
    walk_at "go"
    exact q
theorem bad_ok (T : Tx K mg C_Calls C_BadRecipe C_BadWay C_BadValue C_TooLarge C_GroveError c_l_kind c_l_all_say c_l_recipes_right c_l_ways_right c_l_unused_right c_l_right) (od : DV) : KindB 1 P w K mg base (badF od) (fun _ => od) (fun _ _ => .int 0) PlainV (fun a b => PlainV a ∧ PlainV b) where
  n1 := rfl
  n2 := rfl
  ow := ⟨_, _, _, rfl, clo_bown T, rfl, fun x Q _ q => ⟨od, x, rfl, rfl, q⟩⟩
  jn := ⟨_, _, _, rfl, clo_bjoin T, rfl, fun a b Q _ q => ⟨a, b, rfl, rfl, q⟩⟩
  co := fun x h => h.cf
  cj := fun a b h => ⟨h.1.cf, h.2.cf⟩
theorem bad_run {r : List RStep} (hr : RecOk PlainV r) {od x : DV} (hx : r[0]? = some (.inl x)) (px : PlainV x) : RunB (fun _ => od) (fun _ _ => .int 0) PlainV (fun a b => PlainV a ∧ PlainV b) r [] 0 (.inl x) od :=
  ⟨rfl, hx, fun k s' hk _ => absurd hk (Nat.not_lt_zero _), px, rfl⟩
theorem ir_ok {ks : List Ch} {m : Nat} {r : List (GStep Nat)} (hk : ∀ c ∈ ks, okCh c) (h : IRec ks.length m r) (h0 : 0 < m) (h1 : m ≤ 400) : RecOk PlainV (irD ks r) := RecOk.toK ((h.ok h0 h1).mono fun k hk2 => plainV_sv (hk _ (getD_mem hk2)))
theorem ir_size {ks : List Ch} {m : Nat} {r : List (GStep Nat)} (hk : ∀ c ∈ ks, okCh c) (h : IRec ks.length m r) (h1 : m ≤ 12) : sizeD (recD (irD ks r)) ≤ 2000 := by
  have hb : ∀ d ∈ (irD ks r).map stD, sizeD d ≤ 110 := fun d hd => by
    obtain ⟨s, hs, rfl⟩ := List.mem_map.mp hd
    obtain ⟨g, hg, rfl⟩ := List.mem_map.mp hs
    obtain ⟨t, ht⟩ := List.getElem?_of_mem hg
    cases g with
    | inl k =>
      have := (sv_plain (hk _ (getD_mem (z := .inl 0) (h.ow t k ht)))).2.1
      show sizeD (.tup [.str (Str.ofString "own"), kyD ks k]) ≤ 110
      unfold kyD
      simp only [sizeD, sizeDs]
      omega
    | inr ab =>
      obtain ⟨a, b⟩ := ab
      show sizeD (.tup [.str (Str.ofString "join"), .int (a : Int), .int (b : Int)]) ≤ 110
      simp only [sizeD, sizeDs]
      omega
  have hl : ((irD ks r).map stD).length ≤ 12 := by rw [List.length_map, List.length_map, h.len]; exact h1
  have go : ∀ l : List DV, (∀ d ∈ l, sizeD d ≤ 110) → sizeDs l ≤ l.length * 110 := fun l => by
    induction l with
    | nil => exact fun _ => Nat.zero_le _
    | cons a l ih =>
      intro h
      have h1 := h a List.mem_cons_self
      have h2 := ih fun d hd => h d (List.mem_cons_of_mem _ hd)
      rw [sizeDs, List.length_cons]
      omega
  have := go _ hb
  unfold recD
  rw [sizeD]
  omega
def spRt : SpL := fun LL ds M Q _ => LL = [] ∧ ∃ wl i nn cc t1 t2 t3 t4 t5 t6, ds = [.ref wl] ∧ AtM M i wl (Wel nn cc) ∧ AtM M t1 P_l_kind (.tab qK) ∧ AtM M t2 P_l_all_say (.tab qAS) ∧ AtM M t3 P_l_recipes_right (.tab qRR) ∧ AtM M t4 P_l_ways_right (.tab qWR) ∧ AtM M t5 P_l_unused_right (.tab qUR) ∧ AtM M t6 P_l_right (.tab qRt) ∧ (M.all fun x => stO x.2) = true ∧ ∀ n' c', Q (.bl true) (M.set i (wl, Wel n' c'))
theorem ok_right (T : Tx K mg C_Calls C_BadRecipe C_BadWay C_BadValue C_TooLarge C_GroveError c_l_kind c_l_all_say c_l_recipes_right c_l_ways_right c_l_unused_right c_l_right) (TB : Tb mg base c_l_kind P_l_kind c_l_all_say P_l_all_say c_l_recipes_right P_l_recipes_right c_l_ways_right P_l_ways_right c_l_unused_right P_l_unused_right c_l_right P_l_right) : CalL P w K mg base "_law_right" 16 1 (spRt (P_l_kind := P_l_kind) (P_l_all_say := P_l_all_say) (P_l_recipes_right := P_l_recipes_right) (P_l_ways_right := P_l_ways_right) (P_l_unused_right := P_l_unused_right) (P_l_right := P_l_right)) :=
  have := ok_table (P := P) (w := w) (base := base) T
  have := ok_recipe (P := P) (w := w) (base := base) T
  have := ok_draw (P := P) (w := w) (base := base) T
  have := ok_one (P := P) (w := w) (base := base) T
  have := ok_rw (P := P) (w := w) (base := base) T
  have := ok_kind (P := P) (w := w) T TB
  have := ok_rr (P := P) (w := w) (base := base) T TB
  have := ok_wr (P := P) (w := w) (base := base) T TB
  have := ok_ur (P := P) (w := w) (base := base) T TB
  have := ok_said (P := P) (w := w) (base := base) T
  have := ok_valX (P := P) (w := w) (base := base) T
  have := mk_calls (P := P) (w := w) (base := base) T
  calL_mkM (q := qRt) T.f_l_right TB.tb_l_right (by decide +kernel) sc_l_right st_l_right T.bl fun X FX DX GX MX LL ds M Q E V hl z TX => by
    obtain ⟨_, wl, i, nn, cc, t1, t2, t3, t4, t5, t6, e, hA, b1, b2, b3, b4, b5, b6, hst, q⟩ := z
    subst e
    have eK := FX.hK
    subst eK
    walk_at "body"
    walk_at "go"
    refine ⟨wl, i, nn, cc, 6, rfl, hA, by omega, fun p t n1 c1 ht => ?_⟩
    have hA1 : ∀ n c, AtM (M.set i (wl, Wel n c)) i wl (Wel n c) := fun n c => hA.set_self
    have ne : ∀ {j : Nat} {a : Addr} {s : Str}, AtM M j a (.tab s) → ∀ n c, AtM (M.set i (wl, Wel n c)) j a (.tab s) := fun h n c => h.set_ne (at_neR h hA (by simp))
    have a1 := ne b1
    have a2 := ne b2
    have a3 := ne b3
    have a4 := ne b4
    have a5 := ne b5
    have a6 := ne b6
    walk_at "go"
    refine ⟨_, rfl, ?_⟩
    walk_at "go"
    rename_i m9 n2 c2 m0 m1
    obtain ⟨m9, rfl⟩ : ∃ z : Nat, m9 = (z : Int) := ⟨m9.toNat, by omega⟩
    rw [show ((1 : Int) + (m9 : Int)) = ((1 + m9 : Nat) : Int) by omega]
    simp only [List.set_cons_succ, List.set_set]
    refine ⟨wl, i + 1, n2, c2, t.ks, 1 + m9, rfl, .there (hA1 _ _), ⟨ht.k0, by have := ht.k1; omega, by omega, by omega⟩, fun r n3 c3 hr => ?_⟩
    have hrp := ir_ok ht.ks.ok hr (by omega) (by omega)
    have hrz := ir_size ht.ks.ok hr (by omega)
    have hrl : (irD t.ks r).length = 1 + m9 := by rw [List.length_map, hr.len]
    generalize irD t.ks r = rr at hrp hrz hrl
    rw [List.set_cons_succ, List.set_set]
    walk_at "go"
    refine ws_asgT FX rfl ?_
    walk_at "go"
    refine ⟨rr, rfl, hrp, fun nz hnz hLz => ?_⟩
    walk_at "go"
    rename_i pl qd po
    refine ⟨wl, i + 4, n3, c3, _, _, rfl, .there (.there (.there (.there (hA1 _ _)))), .inl ⟨po, 0, rfl, .here, by omega⟩, by simp, by simp, fun r2 n4 c4 hr2 => ?_⟩
    simp only [List.set_cons_succ, List.set_set]
    obtain ⟨od, hod⟩ : ∃ od, od = [DV.bl true, DV.ref pl, DV.ref qd, DV.tup [DV.bl false, DV.int 1]].getD r2 .non := ⟨_, rfl⟩
    have hodd : ∃ u, ∀ N N1 M2, OddT X.K (N ++ (po, MO.lst N1) :: (qd, MO.dk []) :: (pl, MO.lst [DV.int 1]) :: M2) od u := by
      match r2, hr2 with
      | 0, _ =>
        refine ⟨(PyData.bool true).shown, fun N N1 M2 => ?_⟩
        rw [hod]
        exact ⟨.bl _, by simp [sizeD], rfl, re_pd (.bl _) (by decide +kernel) (by decide +kernel) (by rw [sizeLine_eq]; decide +kernel), by decide +kernel⟩
      | 1, _ =>
        refine ⟨(PyData.list [.int 1]).shown, fun N N1 M2 => ?_⟩
        rw [hod]
        have A : AtM (N ++ (po, MO.lst N1) :: (qd, MO.dk []) :: (pl, MO.lst [DV.int 1]) :: M2) (N.length + 2) pl (.lst [DV.int 1]) := atm_app (.there (.there .here))
        exact ⟨.ref (odd_lst A), by simp [sizeD], rfl, re_pd (.lst A (.cons (.int _) .nil)) (by decide +kernel) (by decide +kernel) (by rw [sizeLine_eq]; decide +kernel), by decide +kernel⟩
      | 2, _ =>
        refine ⟨(PyData.dict []).shown, fun N N1 M2 => ?_⟩
        rw [hod]
        have A : AtM (N ++ (po, MO.lst N1) :: (qd, MO.dk []) :: (pl, MO.lst [DV.int 1]) :: M2) (N.length + 1) qd (.dk []) := atm_app (.there .here)
        exact ⟨.ref (odd_dk A), by simp [sizeD], rfl, re_dk A (ps := []) rfl (by decide +kernel) (by decide +kernel) (by rw [sizeLine_eq]; decide +kernel), by decide +kernel⟩
      | 3, _ =>
        refine ⟨(PyData.tuple [.bool false, .int 1]).shown, fun N N1 M2 => ?_⟩
        rw [hod]
        exact ⟨.tup fun x hx => by
            rcases List.mem_cons.mp hx with rfl | hx
            · exact .bl _
            · rw [List.mem_singleton.mp hx]; exact .int _, by simp [sizeD, sizeDs], rfl, re_pd (.tup (.cons (.bl _) (.cons (.int _) .nil))) (by decide +kernel) (by decide +kernel) (by rw [sizeLine_eq]; decide +kernel), by decide +kernel⟩
      | k + 4, h => exact absurd h (by simp)
    obtain ⟨u, hu⟩ := hodd
    rw [← hod]
    clear hod
    walk_at "go"
    refine ⟨rfl, wl, i + 5, n4, c4, _, rr, nz, t3 + 5, t2 + 5, rfl, .there (.there (.there (.there (.there (hA1 _ _))))), hrp, by rw [hrl]; omega, hnz, hrz, .there (.there (.there (.there (.there (a3 _ _))))), .there (.there (.there (.there (.there (a2 _ _))))), fun n5 c5 => ⟨true, rfl, ?_⟩⟩
    simp only [List.set_cons_succ, List.set_set]
    walk_at "gj"
    refine ⟨rfl, wl, i + 5, n5, c5, rr, nz, t4 + 5, rfl, .there (.there (.there (.there (.there (hA1 _ _))))), hrp, hnz, hLz, Nat.le_trans hrz (by decide), .there (.there (.there (.there (.there (a4 _ _))))), fun n6 c6 => ⟨true, rfl, ?_⟩⟩
    simp only [List.set_cons_succ, List.set_set]
    walk_at "gj"
    refine ⟨rfl, wl, i + 3, n6, c6, od, u, t5 + 3, _, rfl, .cons _ (.cons₂ _ (.cons₂ _ (.cons₂ _ (.cons _ (.refl _))))), .there (.there (.there (hA1 _ _))), .there (.there (.there (a5 _ _))), ?_, fun N n' c' => ?_, fun n7 c7 => ?_⟩
    · rw [List.all_cons, List.all_cons, List.all_cons, st_set hst rfl]
      rfl
    · simp only [List.set_cons_succ, List.set_set]
      exact hu _ _ _
    simp only [List.set_cons_succ, List.set_set]
    walk_at "gj"
    rename_i qb
    refine ⟨qb, 0, _, _, _, _, _, _, _, _, rfl, inferInstance, rfl, ?_⟩
    rw [List.set_cons_zero]
    walk_at "go"
    obtain ⟨x0, hx0, px0⟩ := rec_first hrp
    refine we_askZ ["_law_odd"] ["_law_bad", "_law_recipe_here"] ["_law_bad", "_law_recipe_here"] ["value"] [] rfl rfl rfl rfl rfl rfl (fun _ h => nomatch h) ⟨_, .ins (.cons (.lam (ClD.mk (ds := [od]) FX [4] (by decide +kernel) (by decide +kernel) rfl) (by decide +kernel)) (.cons (.lam (ClD.mk (ds := []) FX [] (by decide +kernel) (by decide +kernel) rfl) (by decide +kernel)) (.cons (.lam (ClD.mk (ds := []) FX [] (by decide +kernel) (by decide +kernel) rfl) (by decide +kernel)) (.cons (.lam (ClD.mk (ds := []) FX [] (by decide +kernel) (by decide +kernel) rfl) (by decide +kernel)) (.cons (.same _) (.cons (.same _) (.cons (.same _) (.cons (.same _) .nil)))))))) .refl, fun Y FY GY TY => ?_⟩
    dsimp only [ini]
    walk_at "go"
    have hall : (((po, MO.lst [DV.bl true, DV.ref pl, DV.ref qd, DV.tup [DV.bl false, DV.int 1]]) :: (qd, MO.dk []) :: (pl, MO.lst [DV.int 1]) :: M.set i (wl, Wel n7 c7)).all fun x => stO x.2) = true := by
      rw [List.all_cons, List.all_cons, List.all_cons, st_set hst rfl]
      rfl
    refine ⟨_, _, rfl, hrp.knp, Nat.le_trans hrz (by decide), .inr ⟨qb, 0, _, _, _, _, _, rr, _, _, _, od, rfl, rfl, .here, bad_ok T od, hrp, bad_run hrp hx0 px0, (hu [_] _ _).kn, (hu [] [] []).sz, (hu [] [] []).pl, ?_⟩⟩
    refine .self (.inr (.inr ⟨rfl, _, _, rfl, (hu [_] _ _).rp, rfl, ?_⟩))
    refine ⟨_, .cons _ (.refl _), all_ok hall, fun M5 u5 => ?_⟩
    rw [u5.st hall]
    clear u5
    walk_at "go"
    refine rt_of FX GX (hu [] _ _).rp ?_
    walk_at "go"
    exact said2_eq (by decide +kernel) (hu [] [] []).ok ⟨_, .cons _ (.cons _ (.cons _ (.refl _))), q n7 c7⟩
/-! the law -/
theorem cutn_map {α : Type} (S : List α) (f : α → DV) (lo hi : Option Int) : cutD (S.map f) lo hi = (cutD S lo hi).map f := by
  unfold cutD
  rw [List.length_map, List.map_take, List.map_drop]
theorem cutn_len {α : Type} (ns : List α) (lo hi : Option Int) : (cutD ns lo hi).length ≤ ns.length := by
  unfold cutD
  rw [List.length_take, List.length_drop]
  omega
theorem cut_ints (ns : List Int) (lo hi : Option Int) : cutD (ns.map DV.int) lo hi = (cutD ns lo hi).map DV.int := cutn_map _ _ _ _
theorem getD_ints {ns : List Int} {i : Nat} (h : i < ns.length) : (ns.map DV.int).getD i .non = .int ns[i] := by
  rw [List.getD_eq_getElem?_getD, List.getElem?_map, List.getElem?_eq_getElem h]
  rfl
theorem all_ints (l : List Int) : Cfs (l.map DV.int) = true := by
  induction l with
  | nil => rfl
  | cons a l ih => rw [List.map_cons, Cfs, ih]; rfl
def tabs26 (P_l_kind P_l_all_say P_l_recipes_right P_l_ways_right P_l_unused_right P_l_right : Addr) : Mm := [(P_l_kind, .tab qK), (P_l_all_say, .tab qAS), (P_l_recipes_right, .tab qRR), (P_l_ways_right, .tab qWR), (P_l_unused_right, .tab qUR), (P_l_right, .tab qRt)]
theorem ok_law (T : Tx K mg C_Calls C_BadRecipe C_BadWay C_BadValue C_TooLarge C_GroveError c_l_kind c_l_all_say c_l_recipes_right c_l_ways_right c_l_unused_right c_l_right) (TB : Tb mg base c_l_kind P_l_kind c_l_all_say P_l_all_say c_l_recipes_right P_l_recipes_right c_l_ways_right P_l_ways_right c_l_unused_right P_l_unused_right c_l_right P_l_right) {f : Addr} {fd : FuncData} {dV : Value} (F : FunD K "law" "law" s_law f fd dV) : RunL P w K mg base 17 f fd ["_law_script"] (spLawG (cs c_l_kind P_l_kind c_l_all_say P_l_all_say c_l_recipes_right P_l_recipes_right c_l_ways_right P_l_ways_right c_l_unused_right P_l_unused_right c_l_right P_l_right)) :=
  have := ok_well (P := P) (w := w) (base := base) T
  have := ok_right (P := P) (w := w) (base := base) T TB
  law_okG (k := 16) F sc_law st_law T.bl fun X FX GX ns hn TX => by
    rw [show tabM (cs c_l_kind P_l_kind c_l_all_say P_l_all_say c_l_recipes_right P_l_recipes_right c_l_ways_right P_l_ways_right c_l_unused_right P_l_unused_right c_l_right P_l_right) = tabs26 P_l_kind P_l_all_say P_l_recipes_right P_l_ways_right P_l_unused_right P_l_right from rfl]
    walk_at "body"
    walk_at "1"
    with_reducible refine ws_for FX ?gns (wi_list ?_)
    case gns => exact rfl
    walk_at "go"
    rw [cut_ints, show [DV.int 0] = ([0] : List Int).map DV.int from rfl, ← List.map_append]
    have hc := cutn_len ns none (some 4)
    refine Side.mk (by rw [List.length_map, List.length_map, sizeLine_eq]; simp; omega) ?_
    intro pl
    generalize hcs : cutD ns none (some 4) ++ [0] = cs
    refine ⟨_, _, _, rfl, inferInstance, fun i1 ρ1 M1 => (∃ o1, ρ1 = [some (DV.lis (List.map DV.int ns)), o1]) ∧ M1 = (pl, MO.lst (cs.map DV.int)) :: tabs26 P_l_kind P_l_all_say P_l_recipes_right P_l_ways_right P_l_unused_right P_l_right, ⟨(pl, MO.lst (cs.map DV.int)) :: tabs26 P_l_kind P_l_all_say P_l_recipes_right P_l_ways_right P_l_unused_right P_l_right, by walk_at "sub", ⟨_, rfl⟩, rfl⟩, ?_, ?_, ?_⟩
    · rintro i1 ρ1 M1 _ ⟨_, rfl⟩
      exact ⟨_, inferInstance⟩
    · rintro i1 ρ1 M1 hi ⟨⟨o1, rfl⟩, rfl⟩
      dsimp only
      rw [getD_ints (by simpa using hi)]
      generalize cs[i1]'(by simpa using hi) = cell
      walk_at "1"
      walk_at "1"
      walk_at "go"
      rename_i wl
      refine ⟨rfl, wl, 0, _, _, 2, 3, 4, 5, 6, 7, rfl, .here, .there (.there .here), .there (.there (.there .here)), .there (.there (.there (.there .here))), .there (.there (.there (.there (.there .here)))), .there (.there (.there (.there (.there (.there .here))))), .there (.there (.there (.there (.there (.there (.there .here)))))), ?_, fun n1 c1 => ?_⟩
      · rw [List.all_cons, List.all_cons, show stO (pl, MO.lst (cs.map DV.int)).2 = true from all_ints _]
        rfl
      rw [List.set_cons_zero]
      walk_at "gj"
      exact ⟨_, .cons _ (.refl _), ⟨_, rfl⟩, rfl⟩
    · rintro ρ1 M1 ⟨⟨o1, rfl⟩, rfl⟩
      walk_at "go"
      exact rfl
end
theorem all_mk : AllMk := by
  intro l w K h mg fa C_Calls C_BadRecipe C_BadWay C_BadValue C_TooLarge C_GroveError c_l_kind c_l_all_say c_l_recipes_right c_l_ways_right c_l_unused_right c_l_right P_l_kind P_l_all_say P_l_recipes_right P_l_ways_right P_l_unused_right P_l_right kd_Calls X G hfa f0 f1 f2 f3 f4 f5 f6 f7 f8 f9 f10 f11 f12 f13 f14 f15 f16 f17 f18 f19 f20 f21 f22 f23 f24 f25 f26 f27 f28 f29 f30 f31 f32 f33 f34 f35 f36 f37 f38 od0 od1 od2 od3 od4 od5 od6 od7 od8 od9 od10 od11 od12 od13 od14 od15 od16 od17 od18 od19 od20 od21 od22 od23 od24 od25 od26 od27 od28 od29 od30 od31 od32 od33 od34 od35 od36 od37 od38 an0 an1 an2 an3 an4 an5 an6 an7 an8 an9 an10 an11 an12 an13 an14 an15 an16 an17 an18 an19 an20 an21 an22 an23 an24 an25 an26 an27 an28 an29 an30 an31 an32 an33 an34 an35 an36 an37 an38 sl0 sl1 sl2 sl3 sl4 sl5 sl6 sl7 sl8 sl9 sl10 sl11 sl12 sl13 sl14 sl15 sl16 sl17 sl18 sl19 sl20 sl21 sl22 sl23 sl24 sl25 sl26 sl27 sl28 sl29 sl30 sl31 sl32 sl33 sl34 sl35 sl36 sl37 sl38 oc0 kV0 dc0 pm0 cd0 ct0 oc1 kV1 dc1 pm1 cd1 ct1 oc2 kV2 dc2 pm2 cd2 ct2 oc3 kV3 dc3 pm3 cd3 ct3 oc4 kV4 dc4 pm4 cd4 ct4 oc5 kV5 dc5 pm5 cd5 ct5 oc6 kV6 dc6 pm6 cd6 ct6 oc7 kV7 dc7 pm7 cd7 ct7 oc8 kV8 dc8 pm8 cd8 ct8 oc9 kV9 dc9 pm9 cd9 ct9 oc10 kV10 dc10 pm10 cd10 ct10 oc11 kV11 dc11 pm11 cd11 ct11 oc12 kV12 dc12 pm12 cd12 ct12 oc13 kV13 dc13 pm13 cd13 ct13 oc14 kV14 dc14 pm14 cd14 ct14 oc15 kV15 dc15 pm15 ct15 oc16 kV16 dc16 pm16 cd16 ct16 oc17 kV17 dc17 pm17 ct17 oc18 kV18 dc18 pm18 cd18 ct18 oc19 kV19 dc19 pm19 ct19 oc20 kV20 dc20 pm20 cd20 ct20 oc21 kV21 dc21 pm21 ct21 oc22 kV22 dc22 pm22 ct22 oc23 kV23 dc23 pm23 ct23 oc24 kV24 dc24 pm24 cd24 ct24 oc25 kV25 dc25 pm25 cd25 ct25 oc26 kV26 dc26 pm26 cd26 ct26 oc27 kV27 dc27 pm27 cd27 ct27 oc28 kV28 dc28 pm28 cd28 ct28 oc29 kV29 dc29 pm29 cd29 ct29 oc30 kV30 dc30 pm30 cd30 ct30 oc31 kV31 dc31 pm31 cd31 ct31 oc32 kV32 dc32 pm32 cd32 ct32 oc33 kV33 dc33 pm33 cd33 ct33 oc34 dc34 pm34 cd34 ct34 oc35 kV35 dc35 pm35 cd35 ct35 oc36 kV36 dc36 pm36 cd36 ct36 oc37 kV37 dc37 pm37 cd37 ct37 oc38 kV38 dc38 pm38 cd38 ct38 a0 l0 c0 k0 a1 l1 c1 k1 a2 l2 c2 k2 a3 l3 c3 k3 a4 l4 c4 k4 a5 l5 c5 k5 a6 l6 c6 k6 a7 l7 c7 k7 a8 l8 c8 k8 a9 l9 c9 k9 a10 l10 c10 k10 a11 l11 c11 k11 a12 l12 c12 k12 a13 l13 c13 k13 a14 l14 c14 k14 a15 l15 c15 k15 a16 l16 c16 k16 a17 l17 c17 k17 a18 l18 c18 k18 a19 l19 c19 k19 a20 l20 c20 k20 a21 l21 c21 k21 a22 l22 c22 k22 a23 l23 c23 k23 a24 l24 c24 k24 a25 l25 c25 k25 a26 l26 c26 k26 a27 l27 c27 k27 a28 l28 c28 k28 a29 l29 c29 k29 a30 l30 c30 k30 a31 l31 c31 k31 a32 i32 l32 c32 k32 a33 i33 l33 c33 k33 a34 i34 l34 c34 k34 a35 i35 l35 c35 k35 a36 i36 l36 c36 k36 a37 i37 l37 c37 k37 a38 l38 c38 k38 g_Calls pg_Calls hd_Calls po_Calls sa_Calls mk_Calls kp_Calls kd_Calls_penalty kd_Calls_sides kd_Calls_distance kd_Calls_bound nf_Calls_own_by nf_Calls_join_by nf_Calls_consistent_by nf_Calls_matches_by nf_Calls_penalty_by nf_Calls_sides_by nf_Calls_distance_by nf_Calls_bound_by g_GroveError g_BadRecipe ga_BadRecipe gg_BadRecipe eb_BadRecipe kp_BadRecipe hd_BadRecipe g_BadWay ga_BadWay gg_BadWay eb_BadWay kp_BadWay hd_BadWay g_BadValue ga_BadValue gg_BadValue eb_BadValue kp_BadValue hd_BadValue nm_BadRecipe q_BadRecipe N_BadRecipe bs_BadRecipe bm_BadRecipe sn_BadRecipe sub_BadRecipe ab_BadRecipe col_BadRecipe dd_BadRecipe m0_BadRecipe m1_BadRecipe m2_BadRecipe m3_BadRecipe m5_BadRecipe xl_BadRecipe rv_BadRecipe sa_BadRecipe ty_BadRecipe nf_BadRecipe_at nm_BadWay q_BadWay N_BadWay bs_BadWay bm_BadWay sn_BadWay sub_BadWay ab_BadWay col_BadWay dd_BadWay m0_BadWay m1_BadWay m2_BadWay m3_BadWay m5_BadWay xl_BadWay rv_BadWay sa_BadWay ty_BadWay nf_BadWay_at nm_BadValue q_BadValue N_BadValue bs_BadValue bm_BadValue sn_BadValue sub_BadValue ab_BadValue col_BadValue dd_BadValue m0_BadValue m1_BadValue m2_BadValue m3_BadValue m5_BadValue xl_BadValue rv_BadValue sa_BadValue ty_BadValue nf_BadValue_value g_TooLarge kp_TooLarge eb_TooLarge ty_TooLarge xe_TooLarge te_TooLarge_BadRecipe te_TooLarge_BadWay te_TooLarge_BadValue te_TooLarge_TooLarge te_BadRecipe_TooLarge te_BadWay_TooLarge te_BadValue_TooLarge te_BadRecipe_BadRecipe te_BadRecipe_BadWay te_BadRecipe_BadValue te_BadWay_BadRecipe te_BadWay_BadWay te_BadWay_BadValue te_BadValue_BadRecipe te_BadValue_BadWay te_BadValue_BadValue z_bool z_dict z_enumerate z_int z_isinstance z_len z_list z_max z_min z_range z_repr z_str z_super z_tuple q_MOST_DEEP gi_MOST_DEEP q_MOST_STEPS gi_MOST_STEPS q_MOST_ROWS gi_MOST_ROWS q_MOST_HEIGHT gi_MOST_HEIGHT u_l_kind v_l_kind w_l_kind y_l_kind e_l_kind p_l_kind h_l_kind n_l_kind t_l_kind u_l_all_say v_l_all_say w_l_all_say y_l_all_say e_l_all_say p_l_all_say h_l_all_say n_l_all_say t_l_all_say u_l_recipes_right v_l_recipes_right w_l_recipes_right y_l_recipes_right e_l_recipes_right p_l_recipes_right h_l_recipes_right n_l_recipes_right t_l_recipes_right u_l_ways_right v_l_ways_right w_l_ways_right y_l_ways_right e_l_ways_right p_l_ways_right h_l_ways_right n_l_ways_right t_l_ways_right u_l_unused_right v_l_unused_right w_l_unused_right y_l_unused_right e_l_unused_right p_l_unused_right h_l_unused_right n_l_unused_right t_l_unused_right u_l_right v_l_right w_l_right y_l_right e_l_right p_l_right h_l_right n_l_right t_l_right hnd
  have e := hfa.symm.trans (PySem.W.mg_of X G a38)
  cases e
  have T : Tx K mg C_Calls C_BadRecipe C_BadWay C_BadValue C_TooLarge C_GroveError c_l_kind c_l_all_say c_l_recipes_right c_l_ways_right c_l_unused_right c_l_right := by
    constructor
    case bl =>
      intro x hx
      simp only [List.mem_cons, List.not_mem_nil, or_false] at hx
      rcases hx with rfl | rfl | rfl | rfl | rfl | rfl | rfl | rfl | rfl | rfl | rfl | rfl | rfl | rfl
      · exact PySem.W.mg_none_of X G z_bool
      · exact PySem.W.mg_none_of X G z_dict
      · exact PySem.W.mg_none_of X G z_enumerate
      · exact PySem.W.mg_none_of X G z_int
      · exact PySem.W.mg_none_of X G z_isinstance
      · exact PySem.W.mg_none_of X G z_len
      · exact PySem.W.mg_none_of X G z_list
      · exact PySem.W.mg_none_of X G z_max
      · exact PySem.W.mg_none_of X G z_min
      · exact PySem.W.mg_none_of X G z_range
      · exact PySem.W.mg_none_of X G z_repr
      · exact PySem.W.mg_none_of X G z_str
      · exact PySem.W.mg_none_of X G z_super
      · exact PySem.W.mg_none_of X G z_tuple
    case gi_MOST_DEEP => exact ⟨_, PySem.W.mg_of X G gi_MOST_DEEP⟩
    case gi_MOST_STEPS => exact ⟨_, PySem.W.mg_of X G gi_MOST_STEPS⟩
    case gi_MOST_ROWS => exact ⟨_, PySem.W.mg_of X G gi_MOST_ROWS⟩
    case gi_MOST_HEIGHT => exact ⟨_, PySem.W.mg_of X G gi_MOST_HEIGHT⟩
    case f_is_integer => exact ⟨_, _, fun_mk (st := s_is_integer) l0 c0 k0, PySem.W.mg_of X G a0, (fun_mk (st := s_is_integer) l0 c0 k0).binds (ps := ["thing"]) fun _ _ _ _ _ _ us hl => match us, hl with | [_], _ => rfl⟩
    case f_is_between => exact ⟨_, _, fun_mk (st := s_is_between) l1 c1 k1, PySem.W.mg_of X G a1, (fun_mk (st := s_is_between) l1 c1 k1).binds (ps := ["thing", "low", "high"]) fun _ _ _ _ _ _ us hl => match us, hl with | [_, _, _], _ => rfl⟩
    case f_is_plain => exact ⟨_, _, fun_mk (st := s_is_plain) l2 c2 k2, PySem.W.mg_of X G a2, (fun_mk (st := s_is_plain) l2 c2 k2).binds (ps := ["thing"]) fun _ _ _ _ _ _ us hl => match us, hl with | [_], _ => rfl⟩
    case f_is_step => exact ⟨_, _, fun_mk (st := s_is_step) l3 c3 k3, PySem.W.mg_of X G a3, (fun_mk (st := s_is_step) l3 c3 k3).binds (ps := ["thing", "at"]) fun _ _ _ _ _ _ us hl => match us, hl with | [_, _], _ => rfl⟩
    case f_recipe_fault => exact ⟨_, _, fun_mk (st := s_recipe_fault) l4 c4 k4, PySem.W.mg_of X G a4, (fun_mk (st := s_recipe_fault) l4 c4 k4).binds (ps := ["thing"]) fun _ _ _ _ _ _ us hl => match us, hl with | [_], _ => rfl⟩
    case f_rows_of => exact ⟨_, _, fun_mk (st := s_rows_of) l5 c5 k5, PySem.W.mg_of X G a5, (fun_mk (st := s_rows_of) l5 c5 k5).binds (ps := ["recipe"]) fun _ _ _ _ _ _ us hl => match us, hl with | [_], _ => rfl⟩
    case f_way_end => exact ⟨_, _, fun_mk (st := s_way_end) l6 c6 k6, PySem.W.mg_of X G a6, (fun_mk (st := s_way_end) l6 c6 k6).binds (ps := ["recipe", "way"]) fun _ _ _ _ _ _ us hl => match us, hl with | [_, _], _ => rfl⟩
    case f_raised => exact ⟨_, _, fun_mk (st := s_raised) l7 c7 k7, PySem.W.mg_of X G a7, (fun_mk (st := s_raised) l7 c7 k7).binds (ps := ["shape", "height", "wanted"]) fun _ _ _ _ _ _ us hl => match us, hl with | [_, _, _], _ => rfl⟩
    case f_shape_at => exact ⟨_, _, fun_mk (st := s_shape_at) l8 c8 k8, PySem.W.mg_of X G a8, (fun_mk (st := s_shape_at) l8 c8 k8).binds (ps := ["recipe", "heights", "at"]) fun _ _ _ _ _ _ us hl => match us, hl with | [_, _, _], _ => rfl⟩
    case f_l_well => exact ⟨_, _, fun_mk (st := s_l_well) l9 c9 k9, PySem.W.mg_of X G a9, (fun_mk (st := s_l_well) l9 c9 k9).binds (ps := ["_law_cell"]) fun _ _ _ _ _ _ us hl => match us, hl with | [_], _ => rfl⟩
    case f_l_draw => exact ⟨_, _, fun_mk (st := s_l_draw) l10 c10 k10, PySem.W.mg_of X G a10, (fun_mk (st := s_l_draw) l10 c10 k10).binds (ps := ["_law_well_here", "_law_many"]) fun _ _ _ _ _ _ us hl => match us, hl with | [_, _], _ => rfl⟩
    case f_l_one => exact ⟨_, _, fun_mk (st := s_l_one) l11 c11 k11, PySem.W.mg_of X G a11, (fun_mk (st := s_l_one) l11 c11 k11).binds (ps := ["_law_well_here", "_law_some"]) fun _ _ _ _ _ _ us hl => match us, hl with | [_, _], _ => rfl⟩
    case f_l_values => exact ⟨_, _, fun_mk (st := s_l_values) l12 c12 k12, PySem.W.mg_of X G a12, (fun_mk (st := s_l_values) l12 c12 k12).binds (ps := ["_law_well_here", "_law_many"]) fun _ _ _ _ _ _ us hl => match us, hl with | [_, _], _ => rfl⟩
    case f_l_made => exact ⟨_, _, fun_mk (st := s_l_made) l13 c13 k13, PySem.W.mg_of X G a13, (fun_mk (st := s_l_made) l13 c13 k13).binds (ps := ["_law_well_here", "_law_way", "_law_a", "_law_b", "_law_many"]) fun _ _ _ _ _ _ us hl => match us, hl with | [_, _, _, _, _], _ => rfl⟩
    case f_l_table => exact ⟨_, _, fun_mk (st := s_l_table) l14 c14 k14, PySem.W.mg_of X G a14, (fun_mk (st := s_l_table) l14 c14 k14).binds (ps := ["_law_well_here", "_law_most_labels"]) fun _ _ _ _ _ _ us hl => match us, hl with | [_, _], _ => rfl⟩
    case f_l_kind => exact ⟨_, _, funm_mk (st := s_l_kind) l15 c15 k15, PySem.W.mg_of X G a15, (fun_mk (st := s_l_kind) l15 c15 k15).binds (ps := ["_law_table_here"]) fun _ _ _ _ _ _ us hl => match us, hl with | [_], _ => rfl⟩
    case f_l_recipe => exact ⟨_, _, fun_mk (st := s_l_recipe) l16 c16 k16, PySem.W.mg_of X G a16, (fun_mk (st := s_l_recipe) l16 c16 k16).binds (ps := ["_law_well_here", "_law_given", "_law_many"]) fun _ _ _ _ _ _ us hl => match us, hl with | [_, _, _], _ => rfl⟩
    case f_l_all_say => exact ⟨_, _, funm_mk (st := s_l_all_say) l17 c17 k17, PySem.W.mg_of X G a17, (fun_mk (st := s_l_all_say) l17 c17 k17).binds (ps := ["_law_kind_here", "_law_thing", "_law_way", "_law_at"]) fun _ _ _ _ _ _ us hl => match us, hl with | [_, _, _, _], _ => rfl⟩
    case f_l_wrong_step => exact ⟨_, _, fun_mk (st := s_l_wrong_step) l18 c18 k18, PySem.W.mg_of X G a18, (fun_mk (st := s_l_wrong_step) l18 c18 k18).binds (ps := ["_law_well_here", "_law_at"]) fun _ _ _ _ _ _ us hl => match us, hl with | [_, _], _ => rfl⟩
    case f_l_recipes_right => exact ⟨_, _, funm_mk (st := s_l_recipes_right) l19 c19 k19, PySem.W.mg_of X G a19, (fun_mk (st := s_l_recipes_right) l19 c19 k19).binds (ps := ["_law_well_here", "_law_kind_here", "_law_recipe_here", "_law_way"]) fun _ _ _ _ _ _ us hl => match us, hl with | [_, _, _, _], _ => rfl⟩
    case f_l_right_way => exact ⟨_, _, fun_mk (st := s_l_right_way) l20 c20 k20, PySem.W.mg_of X G a20, (fun_mk (st := s_l_right_way) l20 c20 k20).binds (ps := ["_law_recipe_here"]) fun _ _ _ _ _ _ us hl => match us, hl with | [_], _ => rfl⟩
    case f_l_ways_right => exact ⟨_, _, funm_mk (st := s_l_ways_right) l21 c21 k21, PySem.W.mg_of X G a21, (fun_mk (st := s_l_ways_right) l21 c21 k21).binds (ps := ["_law_well_here", "_law_recipe_here", "_law_way"]) fun _ _ _ _ _ _ us hl => match us, hl with | [_, _, _], _ => rfl⟩
    case f_l_unused_right => exact ⟨_, _, funm_mk (st := s_l_unused_right) l22 c22 k22, PySem.W.mg_of X G a22, (fun_mk (st := s_l_unused_right) l22 c22 k22).binds (ps := ["_law_well_here", "_law_odd"]) fun _ _ _ _ _ _ us hl => match us, hl with | [_, _], _ => rfl⟩
    case f_l_right => exact ⟨_, _, funm_mk (st := s_l_right) l23 c23 k23, PySem.W.mg_of X G a23, (fun_mk (st := s_l_right) l23 c23 k23).binds (ps := ["_law_well_here"]) fun _ _ _ _ _ _ us hl => match us, hl with | [_], _ => rfl⟩
    case fx_want_plain => exact ⟨f24, _, .none, fund_mk (st := s_want_plain) l24 c24 k24, PySem.W.mg_of X G a24, (fun_mk (st := s_want_plain) l24 c24 k24).binds (ps := ["thing"]) fun _ _ _ _ _ _ us hl => match us, hl with | [_], _ => rfl⟩
    case fx_want_recipe => exact ⟨f25, _, .none, fund_mk (st := s_want_recipe) l25 c25 k25, PySem.W.mg_of X G a25, (fun_mk (st := s_want_recipe) l25 c25 k25).binds (ps := ["thing"]) fun _ _ _ _ _ _ us hl => match us, hl with | [_], _ => rfl⟩
    case fx_values_of => exact ⟨f26, _, .none, fund_mk (st := s_values_of) l26 c26 k26, PySem.W.mg_of X G a26, (fun_mk (st := s_values_of) l26 c26 k26).binds (ps := ["kind", "recipe"]) fun _ _ _ _ _ _ us hl => match us, hl with | [_, _], _ => rfl⟩
    case fx_value => exact ⟨f27, _, .none, fund_mk (st := s_value) l27 c27 k27, PySem.W.mg_of X G a27, (fun_mk (st := s_value) l27 c27 k27).binds (ps := ["kind", "recipe"]) fun _ _ _ _ _ _ us hl => match us, hl with | [_, _], _ => rfl⟩
    case fx_rows => exact ⟨f28, _, .none, fund_mk (st := s_rows) l28 c28 k28, PySem.W.mg_of X G a28, (fun_mk (st := s_rows) l28 c28 k28).binds (ps := ["recipe"]) fun _ _ _ _ _ _ us hl => match us, hl with | [_], _ => rfl⟩
    case fx_key_at => exact ⟨f29, _, .none, fund_mk (st := s_key_at) l29 c29 k29, PySem.W.mg_of X G a29, (fun_mk (st := s_key_at) l29 c29 k29).binds (ps := ["recipe", "way"]) fun _ _ _ _ _ _ us hl => match us, hl with | [_, _], _ => rfl⟩
    case fx_shape_of => exact ⟨f30, _, .none, fund_mk (st := s_shape_of) l30 c30 k30, PySem.W.mg_of X G a30, (fun_mk (st := s_shape_of) l30 c30 k30).binds (ps := ["recipe"]) fun _ _ _ _ _ _ us hl => match us, hl with | [_], _ => rfl⟩
    case fx_l_said => exact ⟨f31, _, .none, fund_mk (st := s_l_said) l31 c31 k31, PySem.W.mg_of X G a31, (fun_mk (st := s_l_said) l31 c31 k31).binds (ps := ["_law_ask"]) fun _ _ _ _ _ _ us hl => match us, hl with | [_], _ => rfl⟩
    case m_Calls_own => exact ⟨_, _, fun_mk (st := s_Calls_own) l32 c32 k32, ⟨a32, i32, k32⟩, (fun_mk (st := s_Calls_own) l32 c32 k32).binds (ps := ["self", "key"]) fun _ _ _ _ _ _ us hl => match us, hl with | [_, _], _ => rfl⟩
    case m_Calls_join => exact ⟨_, _, fun_mk (st := s_Calls_join) l33 c33 k33, ⟨a33, i33, k33⟩, (fun_mk (st := s_Calls_join) l33 c33 k33).binds (ps := ["self", "one", "other"]) fun _ _ _ _ _ _ us hl => match us, hl with | [_, _, _], _ => rfl⟩
    case mg_Calls => exact PySem.W.mg_of X G g_Calls
    case cl_Calls => exact ⟨pg_Calls, hd_Calls, po_Calls, sa_Calls⟩
    case mn_Calls =>
      have KD : L2.FunD K "__init__" "Calls.__init__" (defArgs s_Calls__init__) (defBody s_Calls__init__) (defScope s_Calls__init__) [] [("penalty", V.non), ("sides", V.non), ("distance", V.non), ("bound", V.non)] f34 _ := ⟨⟨_, _, _, _, _, _, _, _, _, _, rfl, l34, c34, .inl ⟨rfl, rfl⟩, .inr ⟨kd_Calls, rfl, fun q hq => by
        simp only [List.mem_cons, List.not_mem_nil, or_false] at hq
        rcases hq with rfl | rfl | rfl | rfl
        · exact ⟨_, kd_Calls_penalty, rfl⟩
        · exact ⟨_, kd_Calls_sides, rfl⟩
        · exact ⟨_, kd_Calls_distance, rfl⟩
        · exact ⟨_, kd_Calls_bound, rfl⟩
        ⟩⟩, k34⟩
      obtain ⟨mv, kb⟩ := KD.kbinds0 (ps := ["self", "own", "join", "consistent", "matches", "penalty", "sides", "distance", "bound"]) 1 ["own", "join", "consistent", "matches"] [("penalty", V.non), ("sides", V.non), ("distance", V.non), ("bound", V.non)] (fun us mv ws => us ++ ws ++ mv) (by simp) (fun q hq => hq) (fun r1 r2 r3 => (r1.append r3).append r2) (fun D doc pm an cdv ct us mv ws h1 h2 h3 => by
        match us, mv, ws, h1, h2, h3 with
        | [_], [_, _, _, _], [_, _, _, _], _, _, _ => exact ⟨_, _, _, _, _, _, rfl, rfl, ⟨_, _, _, _, _, _, rfl, rfl, ⟨_, _, _, _, _, _, rfl, rfl, ⟨_, _, _, _, _, _, rfl, rfl, rfl⟩⟩⟩⟩)
      exact ⟨f34, _, .none, mv, [.non, .non, .non, .non], ⟨mk_Calls, a34, i34, kp_Calls⟩, fund_mk (st := s_Calls__init__) l34 c34 k34, PySem.W.mg_of X G g_Calls, kb, fun H => .cons .non (.cons .non (.cons .non (.cons .non (.nil))))⟩
    case vx_BadRecipe => exact ⟨⟨⟨nm_BadRecipe, q_BadRecipe, N_BadRecipe, bs_BadRecipe, bm_BadRecipe, sn_BadRecipe, sub_BadRecipe, ab_BadRecipe, col_BadRecipe, dd_BadRecipe, m0_BadRecipe, m1_BadRecipe, m2_BadRecipe, m3_BadRecipe, m5_BadRecipe, xl_BadRecipe, rv_BadRecipe⟩, sa_BadRecipe, eb_BadRecipe, ty_BadRecipe, kp_BadRecipe⟩, PySem.W.mg_of X G g_BadRecipe, f35, _, a35, i35, fun_mk (st := s_BadRecipe__init__) l35 c35 k35, (fun_mk (st := s_BadRecipe__init__) l35 c35 k35).binds (ps := ["self", "at"]) fun _ _ _ _ _ _ us hl => match us, hl with | [_, _], _ => rfl, ⟨fun s us ws hk h1 h2 => match us, ws, h1, h2 with | [_], [_], _, _ => .of_eq rfl, fun r1 r2 => r1.append (vals_rev r2)⟩⟩
    case xf_BadRecipe_at => exact ⟨⟨ga_BadRecipe, gg_BadRecipe, eb_BadRecipe, hd_BadRecipe⟩, nf_BadRecipe_at⟩
    case vx_BadWay => exact ⟨⟨⟨nm_BadWay, q_BadWay, N_BadWay, bs_BadWay, bm_BadWay, sn_BadWay, sub_BadWay, ab_BadWay, col_BadWay, dd_BadWay, m0_BadWay, m1_BadWay, m2_BadWay, m3_BadWay, m5_BadWay, xl_BadWay, rv_BadWay⟩, sa_BadWay, eb_BadWay, ty_BadWay, kp_BadWay⟩, PySem.W.mg_of X G g_BadWay, f36, _, a36, i36, fun_mk (st := s_BadWay__init__) l36 c36 k36, (fun_mk (st := s_BadWay__init__) l36 c36 k36).binds (ps := ["self", "at"]) fun _ _ _ _ _ _ us hl => match us, hl with | [_, _], _ => rfl, ⟨fun s us ws hk h1 h2 => match us, ws, h1, h2 with | [_], [_], _, _ => .of_eq rfl, fun r1 r2 => r1.append (vals_rev r2)⟩⟩
    case xf_BadWay_at => exact ⟨⟨ga_BadWay, gg_BadWay, eb_BadWay, hd_BadWay⟩, nf_BadWay_at⟩
    case vx_BadValue => exact ⟨⟨⟨nm_BadValue, q_BadValue, N_BadValue, bs_BadValue, bm_BadValue, sn_BadValue, sub_BadValue, ab_BadValue, col_BadValue, dd_BadValue, m0_BadValue, m1_BadValue, m2_BadValue, m3_BadValue, m5_BadValue, xl_BadValue, rv_BadValue⟩, sa_BadValue, eb_BadValue, ty_BadValue, kp_BadValue⟩, PySem.W.mg_of X G g_BadValue, f37, _, a37, i37, fun_mk (st := s_BadValue__init__) l37 c37 k37, (fun_mk (st := s_BadValue__init__) l37 c37 k37).binds (ps := ["self", "value"]) fun _ _ _ _ _ _ us hl => match us, hl with | [_, _], _ => rfl, ⟨fun s us ws hk h1 h2 => match us, ws, h1, h2 with | [_], [_], _, _ => .of_eq rfl, fun r1 r2 => r1.append (vals_rev r2)⟩⟩
    case xf_BadValue_value => exact ⟨⟨ga_BadValue, gg_BadValue, eb_BadValue, hd_BadValue⟩, nf_BadValue_value⟩
    case fd_Calls_own_by => exact ⟨⟨pg_Calls, hd_Calls, po_Calls, sa_Calls⟩, nf_Calls_own_by⟩
    case fd_Calls_join_by => exact ⟨⟨pg_Calls, hd_Calls, po_Calls, sa_Calls⟩, nf_Calls_join_by⟩
    case fd_Calls_consistent_by => exact ⟨⟨pg_Calls, hd_Calls, po_Calls, sa_Calls⟩, nf_Calls_consistent_by⟩
    case fd_Calls_matches_by => exact ⟨⟨pg_Calls, hd_Calls, po_Calls, sa_Calls⟩, nf_Calls_matches_by⟩
    case fd_Calls_penalty_by => exact ⟨⟨pg_Calls, hd_Calls, po_Calls, sa_Calls⟩, nf_Calls_penalty_by⟩
    case fd_Calls_sides_by => exact ⟨⟨pg_Calls, hd_Calls, po_Calls, sa_Calls⟩, nf_Calls_sides_by⟩
    case fd_Calls_distance_by => exact ⟨⟨pg_Calls, hd_Calls, po_Calls, sa_Calls⟩, nf_Calls_distance_by⟩
    case fd_Calls_bound_by => exact ⟨⟨pg_Calls, hd_Calls, po_Calls, sa_Calls⟩, nf_Calls_bound_by⟩
    case te_BadRecipe_BadRecipe => exact te_BadRecipe_BadRecipe
    case te_BadRecipe_BadWay => exact te_BadRecipe_BadWay
    case te_BadRecipe_BadValue => exact te_BadRecipe_BadValue
    case te_BadWay_BadRecipe => exact te_BadWay_BadRecipe
    case te_BadWay_BadWay => exact te_BadWay_BadWay
    case te_BadWay_BadValue => exact te_BadWay_BadValue
    case te_BadValue_BadRecipe => exact te_BadValue_BadRecipe
    case te_BadValue_BadWay => exact te_BadValue_BadWay
    case te_BadValue_BadValue => exact te_BadValue_BadValue
    case e0_TooLarge => exact ⟨⟨⟨_, _, _, _, PySem.F.excBase_ValueError, xe_TooLarge⟩, PySem.W.mg_of X G g_TooLarge, kp_TooLarge⟩, eb_TooLarge, ty_TooLarge⟩
    case te_TooLarge_BadRecipe => exact te_TooLarge_BadRecipe
    case te_TooLarge_BadWay => exact te_TooLarge_BadWay
    case te_TooLarge_BadValue => exact te_TooLarge_BadValue
    case te_TooLarge_TooLarge => exact te_TooLarge_TooLarge
    case te_BadRecipe_TooLarge => exact te_BadRecipe_TooLarge
    case te_BadWay_TooLarge => exact te_BadWay_TooLarge
    case te_BadValue_TooLarge => exact te_BadValue_TooLarge
    case gr_GroveError => exact ⟨PySem.W.mg_of X G g_GroveError⟩
  refine ⟨PySem.W.fnOf "law" "law" (defArgs s_law) (defBody s_law) (defScope s_law) .none kV38 dc38 pm38 an38 cd38 ct38, (cs c_l_kind P_l_kind c_l_all_say P_l_all_say c_l_recipes_right P_l_recipes_right c_l_ways_right P_l_ways_right c_l_unused_right P_l_unused_right c_l_right P_l_right), ?_, ?_, ?_, hnd, fun s v => .of_eq rfl, fun base _ _ TB => ok_law T ⟨TB (c_l_kind, P_l_kind, "_law_kind.<locals>.<lambda>") (by simp [cs]), TB (c_l_all_say, P_l_all_say, "_law_all_say.<locals>.<lambda>") (by simp [cs]), TB (c_l_recipes_right, P_l_recipes_right, "_law_recipes_right.<locals>.<lambda>") (by simp [cs]), TB (c_l_ways_right, P_l_ways_right, "_law_ways_right.<locals>.<lambda>") (by simp [cs]), TB (c_l_unused_right, P_l_unused_right, "_law_unused_right.<locals>.<lambda>") (by simp [cs]), TB (c_l_right, P_l_right, "_law_right.<locals>.<lambda>") (by simp [cs])⟩ (fund_mk (st := s_law) l38 c38 k38)⟩
  · intro p hp
    simp only [cs, List.mem_cons, List.not_mem_nil, or_false] at hp
    rcases hp with rfl | rfl | rfl | rfl | rfl | rfl
    · exact t_l_kind
    · exact t_l_all_say
    · exact t_l_recipes_right
    · exact t_l_ways_right
    · exact t_l_unused_right
    · exact t_l_right
  · intro p hp
    simp only [cs, List.mem_cons, List.not_mem_nil, or_false] at hp
    rcases hp with rfl | rfl | rfl | rfl | rfl | rfl
    · exact n_l_kind
    · exact n_l_all_say
    · exact n_l_recipes_right
    · exact n_l_ways_right
    · exact n_l_unused_right
    · exact n_l_right
  · intro p hp
    simp only [cs, List.mem_cons, List.not_mem_nil, or_false] at hp
    rcases hp with rfl | rfl | rfl | rfl | rfl | rfl
    · exact h_l_kind
    · exact h_l_all_say
    · exact h_l_recipes_right
    · exact h_l_ways_right
    · exact h_l_unused_right
    · exact h_l_right
end G
theorem PySem.Challenge.cw_kindgrove_k26_what_is_no_recipe_or_way_holds : PySem.Challenge.rw_kindgrove_k26_what_is_no_recipe_or_way.Holds :=
  G.top_of @G.all_mk
#print axioms PySem.Challenge.cw_kindgrove_k26_what_is_no_recipe_or_way_holds
