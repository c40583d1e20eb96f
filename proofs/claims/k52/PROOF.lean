import PyProof.Rows.All
import PyProof.Rows.All
import HandS.HeadHook2
import HandS.HeadWalk
import HandS.Lambda
import HandS.ExcIs
import HandS.ForMost
import HandS.ForExc
import HandS.Defaults
import HandS.HeadHook1
import KE.SortData
import HandS.TupAny
import HandS.Deep
import HandS.IsInst
import HandS.Conv
import HandS.SortRule
import KE.DataEq
import KE.DataCmp
import KE.DataFind
import KE.DataMinMax
import HandS.CallSlots
import HandS.TupLen
import HandS.DictTup
import HandS.HeadEnd
import HandS.TupMul
import HandS.Zip
import KE.GoesMore
import KE.KDictZip
import PyProof.ListNew
import HandS.TupLe
import PyProof.DictMoreH
import HandS.SetKeys
import KE.KDictSum
import KE.SortCalls
import HandS.RaiseMore
import PyProof.ExcBaseAll.ValueError
import HandS.SetFor
import HandS.Strs
import HandS.Style
import HandS.List
import KE.KDictPairs
import HandS.TupSets
import KE.KStateDown
import Lean
import HandS.Head0
import HandS.Head1
import HandS.Head2
import PySem.Challenge.RW_partstore_k52_whole_sets_of_questions
set_option Elab.async false
set_option linter.all false
set_option maxRecDepth 100000
set_option maxHeartbeats 1000000
set_option maxHeartbeats 4000000
set_option maxHeartbeats 0
namespace Mi
open PySem PySem.Spec L2
/-- the tables of code objects of those defs that may make lambdas: code object, table, the lambdas' name -/
def fnTab (K : PySem.W.Frag) (x : Str) : Option (Addr × Addr × Str) := match K.lookup (He.ga K x) with
  | some ⟨_, _, .func fd, _⟩ => (match fd.code with
    | .ref c => (match K.lookup c with
      | some ⟨_, _, .fields vs, _⟩ => (match vs.getD 11 Value.none with
        | .ref P => some (c, P, (x ++ ".<locals>.") ++ "<lambda>")
        | _ => none)
      | _ => none)
    | _ => none)
  | _ => none
def lamNames : List Str := ["law", "_law_parts_asked", "_law_links_asked", "_law_once"]
def tblC (K : PySem.W.Frag) : List (Addr × Addr × Str) := lamNames.filterMap (fnTab K)
def tbl (K : PySem.W.Frag) : List (Addr × Str) := (tblC K).map (·.2)
def isTab (o : Option Obj) : Bool := match o with
  | some ⟨.none, _, .fields _, _⟩ => true
  | _ => false
/-- what the module's names reach, but for tables of code objects -/
def frT (g : Addr → Option Obj) : PySem.W.Frag := He.frG g ((He.asD g 5).filter fun a => !isTab (g a))
def isNilTab (o : Option Obj) : Bool := match o with
  | some ⟨.none, none, .fields vs, sl⟩ => vs.toList.isEmpty && sl.toList.isEmpty
  | _ => false
def codeB (o : Option Obj) (P : Addr) : Bool := match o with
  | some ⟨.type tn, _, .fields vs, _⟩ => decide (tn = "code") && (match vs.getD 11 Value.none with
      | .ref Q => decide (Q = P)
      | _ => false) && (match vs.getD 18 Value.none with
      | .str _ _ => true
      | _ => false) && (match vs.getD 7 Value.none with
      | .int _ _ => true
      | _ => false) && (match vs.getD 9 Value.none with
      | .bool _ => true
      | _ => false) && (match vs.getD 10 Value.none with
      | .int _ _ => true
      | _ => false)
  | _ => false
def tabB (g : Addr → Option Obj) (K : PySem.W.Frag) : Bool := (tblC K).all fun t => isNilTab (g t.2.1) && (K.lookup t.2.1).isNone && codeB (g t.1) t.2.1 && decide (t.1 ≠ t.2.1)
def TabsAt (h : Heap) (K : PySem.W.Frag) : Prop := ∀ t ∈ tblC K, h.get? t.2.1 = some { cls := .none, data := .fields #[] } ∧ K.lookup t.2.1 = none ∧ PySem.W.CodeHd h t.1 t.2.1
theorem TabsAt.keeps {h h' : Heap} {K : PySem.W.Frag} (t : TabsAt h K) (k : ∀ b o, h.get? b = some o → h'.get? b = some o) : TabsAt h' K := fun x hx => by
  obtain ⟨h1, h2, h3⟩ := t x hx
  exact ⟨k _ _ h1, h2, h3.keeps k⟩
theorem nilTab_ok {o : Option Obj} (e : isNilTab o = true) : o = some { cls := .none, data := .fields #[] } := by
  unfold isNilTab at e
  split at e
  · rename_i vs sl
    rw [Bool.and_eq_true] at e
    obtain ⟨e1, e2⟩ := e
    have h1 : vs = #[] := by cases vs with | mk l => cases l with | nil => rfl | cons _ _ => cases e1
    have h2 : sl = #[] := by cases sl with | mk l => cases l with | nil => rfl | cons _ _ => cases e2
    rw [h1, h2]
  · cases e
theorem getD_some {vs : Array Value} {i : Nat} {v : Value} (e : vs.getD i Value.none = v) (n : v ≠ .none) : vs[i]? = some v := by
  rw [Array.getD_eq_getD_getElem?] at e
  cases z : vs[i]? with
  | none => rw [z] at e; exact absurd e.symm n
  | some u => rw [z] at e; exact congrArg some e
theorem codeB_ok {h : Heap} {c P : Addr} (e : codeB (h.get? c) P = true) (ne : c ≠ P) : PySem.W.CodeHd h c P := by
  unfold codeB at e
  split at e
  · rename_i tn dd vs sl hg
    simp only [Bool.and_eq_true, decide_eq_true_eq] at e
    obtain ⟨⟨⟨⟨⟨e1, e2⟩, e3⟩, e4⟩, e5⟩, e6⟩ := e
    cases h11 : vs.getD 11 Value.none <;> rw [h11] at e2 <;> try cases e2
    rename_i Q
    have hQ : Q = P := of_decide_eq_true e2
    subst hQ
    cases h18 : vs.getD 18 Value.none <;> rw [h18] at e3 <;> try cases e3
    cases h7 : vs.getD 7 Value.none <;> rw [h7] at e4 <;> try cases e4
    cases h9 : vs.getD 9 Value.none <;> rw [h9] at e5 <;> try cases e5
    cases h10 : vs.getD 10 Value.none <;> rw [h10] at e6 <;> try cases e6
    exact ⟨_, vs, _, _, _, _, _, _, _, hg, by rw [e1], rfl, getD_some h11 (fun z => by cases z), h11, h18, h7, h9, h10, ne⟩
  · cases e
theorem tabB_ok {h : Heap} {K : PySem.W.Frag} (e : tabB h.get? K = true) : TabsAt h K := fun t ht => by
  unfold tabB at e
  rw [List.all_eq_true] at e
  have := e t ht
  simp only [Bool.and_eq_true, decide_eq_true_eq, Option.isNone_iff_eq_none] at this
  obtain ⟨⟨⟨h1, h2⟩, h3⟩, h4⟩ := this
  exact ⟨nilTab_ok h1, h2, codeB_ok h3 h4⟩
/-! ### the classes of refusals -/
def errs : List Str := ["NoThing", "NoKind", "BadWorth", "Ring", "NoPart", "NotLink", "NoMark", "BadLog", "BadOrder", "NoText"]
def exc1B (K : PySem.W.Frag) (x : Str) : Bool := (He.Fa.exc x).ok K && (He.Fa.glo x).ok K && decide (PySem.W.exmOne K (.ref (He.ga K x)) (.ref (He.ga K "StoreError")) = some true) && decide (PySem.W.kitOne K (.ref (He.ga K x)) (.type "ValueError") = some true)
  && He.eqO (PySem.W.findIn K (.ref (He.ga K x)) "__getattribute__") (some (some (.builtin "BaseException.__getattribute__"))) && He.eqO (PySem.W.findIn K (.ref (He.ga K x)) "__getattr__") (some none) && PySem.W.hasDictIn K (He.ga K x)
  && He.eqO (PySem.W.findIn K (.ref (He.ga K x)) "__class__") (some (some (.builtin "object.__class__"))) && decide (PySem.W.mroIn K (He.ga K x) (.type "object") = some true)
def excsB (K : PySem.W.Frag) : Bool := (He.Fa.glo "StoreError").ok K && He.eqO (PySem.W.specialIn K (.builtin "object.__class__") "__get__") (some (some (.builtin "getset_descriptor.__get__"))) && decide (PySem.W.takesIn K (.builtin "object.__class__") = some true) && errs.all fun x => exc1B K x && errs.all fun y => decide (PySem.W.kitOne K (.ref (He.ga K x)) (.ref (He.ga K y)) = some (decide (x = y)))
def lamB (K : PySem.W.Frag) (x : Str) : Bool := match fnTab K x with
  | some t => decide (t ∈ tblC K) && (tbl K).all fun p => !decide (p.1 = t.2.1) || decide (p.2 = t.2.2)
  | none => false
end Mi
namespace L52
open PySem PySem.Spec L2 Mi
def top (i : Nat) : Stmt := PySem.Challenge.pw_partstore_k52_whole_sets_of_questions.main.body.getD i (.Pass ⟨0, 0, 0, 0⟩)
abbrev stm_names_of : Stmt := top 1
abbrev stm_holds : Stmt := top 10
abbrev stm_all_sets : Stmt := top 12
abbrev stm_sets_for : Stmt := top 13
abbrev stm_must_have : Stmt := top 14
abbrev stm_can_not_have : Stmt := top 15
abbrev stm_is_never : Stmt := top 16
abbrev stm_parting : Stmt := top 17
abbrev stm_alike : Stmt := top 18
abbrev stm_is_within : Stmt := top 19
abbrev stm__law_cell_at : Stmt := top 21
abbrev stm__law_mixed : Stmt := top 22
abbrev stm__law_drawn : Stmt := top 23
abbrev stm__law_scheme : Stmt := top 24
abbrev stm__law_plain : Stmt := top 27
abbrev stm__law_sets : Stmt := top 29
abbrev stm__law_never_right : Stmt := top 30
abbrev stm_law : Stmt := top 31
def fn0 : List He.DefD := [⟨("names_of", none), "names_of", "names_of", defArgs stm_names_of, defBody stm_names_of, defScope stm_names_of, [], []⟩, ⟨("holds", none), "holds", "holds", defArgs stm_holds, defBody stm_holds, defScope stm_holds, [], []⟩, ⟨("all_sets", none), "all_sets", "all_sets", defArgs stm_all_sets, defBody stm_all_sets, defScope stm_all_sets, [], []⟩, ⟨("sets_for", none), "sets_for", "sets_for", defArgs stm_sets_for, defBody stm_sets_for, defScope stm_sets_for, [], []⟩, ⟨("must_have", none), "must_have", "must_have", defArgs stm_must_have, defBody stm_must_have, defScope stm_must_have, [], []⟩, ⟨("can_not_have", none), "can_not_have", "can_not_have", defArgs stm_can_not_have, defBody stm_can_not_have, defScope stm_can_not_have, [], []⟩, ⟨("is_never", none), "is_never", "is_never", defArgs stm_is_never, defBody stm_is_never, defScope stm_is_never, [], []⟩, ⟨("parting", none), "parting", "parting", defArgs stm_parting, defBody stm_parting, defScope stm_parting, [], []⟩, ⟨("alike", none), "alike", "alike", defArgs stm_alike, defBody stm_alike, defScope stm_alike, [], []⟩, ⟨("is_within", none), "is_within", "is_within", defArgs stm_is_within, defBody stm_is_within, defScope stm_is_within, [], []⟩, ⟨("_law_cell_at", none), "_law_cell_at", "_law_cell_at", defArgs stm__law_cell_at, defBody stm__law_cell_at, defScope stm__law_cell_at, [], []⟩, ⟨("_law_mixed", none), "_law_mixed", "_law_mixed", defArgs stm__law_mixed, defBody stm__law_mixed, defScope stm__law_mixed, [], []⟩, ⟨("_law_drawn", none), "_law_drawn", "_law_drawn", defArgs stm__law_drawn, defBody stm__law_drawn, defScope stm__law_drawn, [], []⟩, ⟨("_law_scheme", none), "_law_scheme", "_law_scheme", defArgs stm__law_scheme, defBody stm__law_scheme, defScope stm__law_scheme, [], []⟩, ⟨("_law_plain", none), "_law_plain", "_law_plain", defArgs stm__law_plain, defBody stm__law_plain, defScope stm__law_plain, [], []⟩]
def fn1 : List He.DefD := [⟨("_law_sets", none), "_law_sets", "_law_sets", defArgs stm__law_sets, defBody stm__law_sets, defScope stm__law_sets, [], []⟩, ⟨("_law_never_right", none), "_law_never_right", "_law_never_right", defArgs stm__law_never_right, defBody stm__law_never_right, defScope stm__law_never_right, [], []⟩, ⟨("law", none), "law", "law", defArgs stm_law, defBody stm_law, defScope stm_law, [], []⟩]
def fn : List He.DefD := fn0 ++ fn1
def fa0 : List He.Fa := [.glo "names_of", .glo "holds", .glo "all_sets", .glo "sets_for", .glo "must_have", .glo "can_not_have", .glo "is_never", .glo "parting", .glo "alike", .glo "is_within", .glo "_law_cell_at", .glo "_law_mixed", .glo "_law_drawn", .glo "_law_scheme", .glo "_law_plain", .glo "_law_sets", .glo "_law_never_right", .glo "law", .str "ALL" "all", .str "IS" "is", .str "OVER" "over", .str "LEADS" "leads", .str "NOT" "not", .str "AND" "and", .str "OR" "or", .free "all", .free "any", .free "dict", .free "len", .free "list"]
def fa1 : List He.Fa := [.free "range", .free "set", .free "sorted", .free "tuple"]
def fa : List He.Fa := fa0 ++ fa1
def nms0 : List PySem.Str := ["names_of", "ALL", "IS", "OVER", "LEADS", "NOT", "AND", "OR", "holds", "all_sets", "sets_for", "must_have", "can_not_have", "is_never", "parting", "alike", "is_within", "_law_cell_at", "_law_mixed", "_law_drawn", "_law_scheme", "_law_letters", "_law_worth", "_law_plain", "_law_lets", "_law_sets", "_law_never_right"]
def nms : List PySem.Str := nms0
abbrev R : PySem.W.OpenRow := PySem.W.OpenLaw.row PySem.Challenge.rw_partstore_k52_whole_sets_of_questions
def okX (K : PySem.W.Frag) : Bool := true
def okEx (K : PySem.W.Frag) : Bool := true
def obK (g : Addr → Option Obj) : He.AlD × Bool := (He.obsD fa fn (frT g), okX (frT g) && okEx (frT g) && tabB g (frT g))
noncomputable def hk : PySem.W.Hook where
  α := He.AlD × Bool
  obs := fun s => obK s.heap.get?
  val := fun _ => (He.valD fn, true)
  says := fun _ h => ∃ K : PySem.W.Frag, K.In h ∧ He.SaysD fa fn K ∧ okX K = true ∧ okEx K = true ∧ TabsAt h K
  of := fun _ s e => by
    have e3 : (okX (frT s.heap.get?) && okEx (frT s.heap.get?) && tabB s.heap.get? (frT s.heap.get?)) = true := congrArg Prod.snd e
    rw [Bool.and_eq_true, Bool.and_eq_true] at e3
    exact ⟨frT s.heap.get?, He.frG_in, congrArg Prod.fst e, e3.1.1, e3.1.2, tabB_ok e3.2⟩
  keeps := fun _ _ _ ⟨K, hK, c, d, e, t⟩ k => ⟨K, PySem.W.Frag.In.keeps hK k, c, d, e, t.keeps k⟩
def ob (s : PySem.W.SharedT) : He.AlD × Bool := obK (HandSHeadRun.getT s)
theorem ob_eq (s : PySem.W.SharedT) : ob s = hk.obs s.abs := by
  have e : HandSHeadRun.getT s = s.abs.heap.get? := funext (HandSHeadRun.getT_eq s)
  show obK (HandSHeadRun.getT s) = obK s.abs.heap.get?
  rw [e]
theorem headRun (w : World) : HandSHeadRun.RunEq R (PySem.W.view R.prog [31]) hk ob 12000 nms w := by
  intro os
  kernel_rfl
end L52
namespace Mi
open PySem PySem.Spec PyProof.Rows L2
/-! ### values and objects of the small interpreter -/
inductive D where
  | non | bl (b : Bool) | int (i : Int) | str (x : Str)
  | tup (xs : List D) | lst (xs : List D) | dic (kvs : List (D × D)) | set (xs : List D)
  | ktup (xs : List D) | klst (xs : List D)
  | ref (l : Nat) | ty (n : String) | adr (a : Addr) | ftup (xs : List D)
inductive O where
  | lst (xs : List D) | dic (kvs : List (D × D)) | ins (c : Str) (fs : List (Str × D)) | hid
abbrev Hq := List O
abbrev Env' := List (Option D)
/-- where the places lie; what must not stand for a thing by value (the places among it) -/
structure Wd where
  pl : List Addr
  bn : List Addr
def Wd.add (m : Wd) (p : Addr) : Wd := ⟨m.pl ++ [p], p :: m.bn⟩
/-- an address kept for oneself -/
def Wd.ban (m : Wd) (p : Addr) : Wd := ⟨m.pl, p :: m.bn⟩
def kD : Key → D
  | .inl i => .int i
  | .inr x => .str x
/-- a written or frozen list -/
def KLs (K : PySem.W.Frag) (bn : List Addr) (H : Hp) (a : Addr) (vs : List V) : Prop := (Rd H a (.lst vs) ∧ a ∉ bn) ∨ SqL K (fun _ => none) a vs
/-- a tuple whose object is known -/
def FTp (bn : List Addr) (H : Hp) (a : Addr) (vs : List V) : Prop := (∃ o : Obj, H a = some (.frz o (.tup vs)) ∧ o.dict = none) ∧ a ∉ bn
/-! ### what stands for what -/
mutual
inductive Rp (K : PySem.W.Frag) (mp : Wd) (H : Hp) : D → V → Prop
  | non : Rp K mp H .non .non
  | bl (b : Bool) : Rp K mp H (.bl b) (.bl b)
  | int (i : Int) : Rp K mp H (.int i) (.int i)
  | str (x : Str) : Rp K mp H (.str x) (.str x)
  | ty (n : String) : Rp K mp H (.ty n) (.ty n)
  | adr (a : Addr) : Rp K mp H (.adr a) (.ref a)
  | tup {a : Addr} {vs : List V} {ds : List D} : H a = some (.tup vs) → a ∉ mp.bn → RpAll K mp H ds vs → Rp K mp H (.tup ds) (.ref a)
  | lst {a : Addr} {vs : List V} {ds : List D} : H a = some (.lst vs) → a ∉ mp.bn → RpAll K mp H ds vs → Rp K mp H (.lst ds) (.ref a)
  | ktup {a : Addr} {vs : List V} {ds : List D} : SqT K (fun _ => none) a vs → RpAll K mp H ds vs → Rp K mp H (.ktup ds) (.ref a)
  | klst {a : Addr} {vs : List V} {ds : List D} : KLs K mp.bn H a vs → RpAll K mp H ds vs → Rp K mp H (.klst ds) (.ref a)
  | dicK {a : Addr} {kvs : List (D × D)} {ks : List Key} {vs : List V} : H a = some (.dK (ks.zip vs)) → ks.length = vs.length → a ∉ mp.bn → kvs.map (·.1) = ks.map kD → RpAll K mp H (kvs.map (·.2)) vs → Rp K mp H (.dic kvs) (.ref a)
  | dicT {a : Addr} {kvs : List (D × D)} {ks : List (List Key)} {vs : List V} : kvs ≠ [] → H a = some (.dT (ks.zip vs)) → ks.length = vs.length → a ∉ mp.bn → kvs.map (·.1) = ks.map (fun k => .tup (k.map kD)) → RpAll K mp H (kvs.map (·.2)) vs → Rp K mp H (.dic kvs) (.ref a)
  | ref {l : Nat} {a : Addr} : mp.pl[l]? = some a → Rp K mp H (.ref l) (.ref a)
  | ftup {a : Addr} {vs : List V} {ds : List D} : FTp mp.bn H a vs → RpAll K mp H ds vs → Rp K mp H (.ftup ds) (.ref a)
inductive RpAll (K : PySem.W.Frag) (mp : Wd) (H : Hp) : List D → List V → Prop
  | nil : RpAll K mp H [] []
  | cons {d : D} {v : V} {ds : List D} {vs : List V} : Rp K mp H d v → RpAll K mp H ds vs → RpAll K mp H (d :: ds) (v :: vs)
end
/-- no table of code objects -/
def NTb (o : HO) : Prop := ∀ ps, o ≠ .tbl ps
/-- the heap has gone on: what is not changeable stays -/
structure Lk (mp : Wd) (H : Hp) (mp' : Wd) (H' : Hp) : Prop where
  pre : ∃ more, mp'.pl = mp.pl ++ more
  keep : ∀ a o, H a = some o → a ∉ mp.bn → (nb : NTb o := by exact fun _ z => by cases z) → H' a = some o ∧ a ∉ mp'.bn
/-- .. and what one keeps for oneself -/
structure Le (mp : Wd) (H : Hp) (mp' : Wd) (H' : Hp) : Prop where
  pre : ∃ more, mp'.pl = mp.pl ++ more
  keep : ∀ a o, H a = some o → a ∉ mp.bn → (nb : NTb o := by exact fun _ z => by cases z) → H' a = some o ∧ a ∉ mp'.bn
  own : ∀ a, a ∈ mp.bn → a ∉ mp.pl → H' a = H a ∧ a ∈ mp'.bn ∧ a ∉ mp'.pl
theorem Le.refl {mp : Wd} {H : Hp} : Le mp H mp H := ⟨⟨[], by simp⟩, fun _ _ h n _ => ⟨h, n⟩, fun _ h n => ⟨rfl, h, n⟩⟩
theorem Le.trans {mp mp1 mp2 : Wd} {H H1 H2 : Hp} (a : Le mp H mp1 H1) (b : Le mp1 H1 mp2 H2) : Le mp H mp2 H2 := by
  obtain ⟨m1, e1⟩ := a.pre
  obtain ⟨m2, e2⟩ := b.pre
  refine ⟨⟨m1 ++ m2, by rw [e2, e1, List.append_assoc]⟩, fun c o h n nb => ?_, fun c h n => ?_⟩
  · obtain ⟨h1, n1⟩ := a.keep c o h n nb
    exact b.keep c o h1 n1 nb
  · obtain ⟨h1, h2, h3⟩ := a.own c h n
    obtain ⟨g1, g2, g3⟩ := b.own c h2 h3
    exact ⟨g1.trans h1, g2, g3⟩
theorem Le.k {mp mp' : Wd} {H H' : Hp} (a : Le mp H mp' H') : Lk mp H mp' H' := ⟨a.pre, fun b o h n nb => a.keep b o h n nb⟩
theorem Lk.get {mp mp' : Wd} {H H' : Hp} (a : Lk mp H mp' H') {l : Nat} {b : Addr} (h : mp.pl[l]? = some b) : mp'.pl[l]? = some b := by
  obtain ⟨m, e⟩ := a.pre
  rw [e, List.getElem?_append_left (by obtain ⟨h1, _⟩ := List.getElem?_eq_some_iff.mp h; exact h1)]
  exact h
theorem sqL_none {K : PySem.W.Frag} {H : Hp} {a : Addr} {vs : List V} (h : SqL K (fun _ => none) a vs) : SqL K H a vs := by
  rcases h with (h | ⟨o, h⟩) | h
  · cases h
  · cases h
  · exact .inr h
theorem KLs.sq {K : PySem.W.Frag} {bn : List Addr} {H : Hp} {a : Addr} {vs : List V} (h : KLs K bn H a vs) : SqL K H a vs := by
  rcases h with ⟨h, _⟩ | h
  · exact .inl h
  · exact sqL_none h
theorem FTp.sq {K : PySem.W.Frag} {bn : List Addr} {H : Hp} {a : Addr} {vs : List V} (h : FTp bn H a vs) : SqT K H a vs := by
  obtain ⟨⟨o, h, _⟩, _⟩ := h
  exact .inl (.inr ⟨o, h⟩)
theorem FTp.mono {mp mp' : Wd} {H H' : Hp} (le : Lk mp H mp' H') {a : Addr} {vs : List V} (h : FTp mp.bn H a vs) : FTp mp'.bn H' a vs := by
  obtain ⟨⟨o, h, d⟩, n⟩ := h
  exact ⟨⟨o, (le.keep _ _ h n).1, d⟩, (le.keep _ _ h n).2⟩
section
variable {K : PySem.W.Frag} {mp mp' : Wd} {H H' : Hp}
mutual
theorem Rp.monoK (le : Lk mp H mp' H') : ∀ {d : D} {v : V}, Rp K mp H d v → Rp K mp' H' d v
  | _, _, .non => .non
  | _, _, .bl b => .bl b
  | _, _, .int i => .int i
  | _, _, .str x => .str x
  | _, _, .ty n => .ty n
  | _, _, .adr a => .adr a
  | _, _, .tup h n r => .tup (le.keep _ _ h n).1 (le.keep _ _ h n).2 (r.monoK le)
  | _, _, .lst h n r => .lst (le.keep _ _ h n).1 (le.keep _ _ h n).2 (r.monoK le)
  | _, _, .ktup h r => .ktup h (r.monoK le)
  | _, _, .klst h r => by
    rcases h with ⟨h | ⟨o, h⟩, n⟩ | h
    · exact .klst (.inl ⟨.inl (le.keep _ _ h n).1, (le.keep _ _ h n).2⟩) (r.monoK le)
    · exact .klst (.inl ⟨.inr ⟨o, (le.keep _ _ h n).1⟩, (le.keep _ _ h n).2⟩) (r.monoK le)
    · exact .klst (.inr h) (r.monoK le)
  | _, _, .dicK h l n e r => .dicK (le.keep _ _ h n).1 l (le.keep _ _ h n).2 e (r.monoK le)
  | _, _, .dicT z h l n e r => .dicT z (le.keep _ _ h n).1 l (le.keep _ _ h n).2 e (r.monoK le)
  | _, _, .ref h => .ref (le.get h)
  | _, _, .ftup h r => .ftup (h.mono le) (r.monoK le)
theorem RpAll.monoK (le : Lk mp H mp' H') : ∀ {ds : List D} {vs : List V}, RpAll K mp H ds vs → RpAll K mp' H' ds vs
  | _, _, .nil => .nil
  | _, _, .cons h t => .cons (h.monoK le) (t.monoK le)
end
theorem Rp.mono {d : D} {v : V} (le : Le mp H mp' H') (a : Rp K mp H d v) : Rp K mp' H' d v := a.monoK le.k
theorem RpAll.mono {ds : List D} {vs : List V} (le : Le mp H mp' H') (a : RpAll K mp H ds vs) : RpAll K mp' H' ds vs := a.monoK le.k
theorem Le.get (a : Le mp H mp' H') {l : Nat} {b : Addr} (h : mp.pl[l]? = some b) : mp'.pl[l]? = some b := a.k.get h
end
end Mi
namespace Mi
open PySem PySem.Spec PyProof.Rows L2
section
variable {K : PySem.W.Frag} {mp mp' : Wd} {H H' : Hp}
theorem RpAll.length : ∀ {ds : List D} {vs : List V}, RpAll K mp H ds vs → ds.length = vs.length
  | _, _, .nil => rfl
  | _, _, .cons _ t => by simp [RpAll.length t]
theorem RpAll.get : ∀ {ds : List D} {vs : List V} {i : Nat} {d : D}, RpAll K mp H ds vs → ds[i]? = some d → ∃ v, vs[i]? = some v ∧ Rp K mp H d v
  | _, _, _, _, .nil, e => by simp at e
  | _, _, 0, _, .cons r _, e => by simp at e; subst e; exact ⟨_, rfl, r⟩
  | _, _, i + 1, d, .cons _ t, e => by
    obtain ⟨v, h1, h2⟩ := RpAll.get (i := i) (d := d) t (by simpa using e)
    exact ⟨v, by simpa using h1, h2⟩
theorem RpAll.getV : ∀ {ds : List D} {vs : List V} {i : Nat} {v : V}, RpAll K mp H ds vs → vs[i]? = some v → ∃ d, ds[i]? = some d ∧ Rp K mp H d v
  | _, _, _, _, .nil, e => by simp at e
  | _, _, 0, _, .cons r _, e => by simp at e; subst e; exact ⟨_, rfl, r⟩
  | _, _, i + 1, v, .cons _ t, e => by
    obtain ⟨d, h1, h2⟩ := RpAll.getV (i := i) (v := v) t (by simpa using e)
    exact ⟨d, by simpa using h1, h2⟩
theorem RpAll.append : ∀ {ds es : List D} {vs ws : List V}, RpAll K mp H ds vs → RpAll K mp H es ws → RpAll K mp H (ds ++ es) (vs ++ ws)
  | _, _, _, _, .nil, s => s
  | _, _, _, _, .cons r t, s => .cons r (RpAll.append t s)
theorem RpAll.take : ∀ {ds : List D} {vs : List V} (n : Nat), RpAll K mp H ds vs → RpAll K mp H (ds.take n) (vs.take n)
  | _, _, 0, _ => by simpa using .nil
  | _, _, _ + 1, .nil => .nil
  | _, _, n + 1, .cons r t => .cons r (RpAll.take n t)
theorem RpAll.drop : ∀ {ds : List D} {vs : List V} (n : Nat), RpAll K mp H ds vs → RpAll K mp H (ds.drop n) (vs.drop n)
  | _, _, 0, r => r
  | _, _, _ + 1, .nil => .nil
  | _, _, n + 1, .cons _ t => RpAll.drop n t
theorem RpAll.set {d : D} {v : V} (r : Rp K mp H d v) : ∀ {ds : List D} {vs : List V} (i : Nat), RpAll K mp H ds vs → RpAll K mp H (ds.set i d) (vs.set i v)
  | _, _, _, .nil => .nil
  | _, _, 0, .cons _ t => .cons r t
  | _, _, i + 1, .cons q t => .cons q (RpAll.set r i t)
theorem RpAll.dropLast {ds : List D} {vs : List V} (h : RpAll K mp H ds vs) : RpAll K mp H ds.dropLast vs.dropLast := by
  rw [List.dropLast_eq_take, List.dropLast_eq_take, h.length]
  exact h.take _
theorem RpAll.one {d : D} {vs : List V} (h : RpAll K mp H [d] vs) : ∃ v, vs = [v] ∧ Rp K mp H d v := by
  cases h with
  | cons r t => cases t; exact ⟨_, rfl, r⟩
theorem RpAll.two {d e : D} {vs : List V} (h : RpAll K mp H [d, e] vs) : ∃ v w, vs = [v, w] ∧ Rp K mp H d v ∧ Rp K mp H e w := by
  cases h with
  | cons r t =>
    obtain ⟨w, rfl, q⟩ := t.one
    exact ⟨_, w, rfl, r, q⟩
end
/-! ### objects -/
/-- attributes by name -/
inductive RpF (K : PySem.W.Frag) (mp : Wd) (H : Hp) : List (Str × D) → List (Str × V) → Prop
  | nil : RpF K mp H [] []
  | cons {x : Str} {d : D} {v : V} {ds : List (Str × D)} {vs : List (Str × V)} : Rp K mp H d v → RpF K mp H ds vs → RpF K mp H ((x, d) :: ds) ((x, v) :: vs)
/-- no tuple, no table, no code -/
def NT (u : HO) : Prop := (∀ vs, u ≠ .tup vs) ∧ NTb u ∧ ∀ f, u ≠ .ext f
theorem tab_new {H : Hp} {p : Addr} {o : HO} (hp : H p = none) : ∀ P q, LamX.TabS H P q → LamX.TabS (upd H p o) P q := fun P q t => t.ext fun b u e => by rw [upd_ne (ne_of_none e hp)]; exact e
theorem tab_set {H : Hp} {a : Addr} {u o : HO} (ha : H a = some u) (nt : NT u) : ∀ P q, LamX.TabS H P q → LamX.TabS (upd H a o) P q := fun P q ⟨ps, h1, h2, h3⟩ => by
  refine ⟨ps, by rw [upd_ne fun z => nt.2.1 ps (Option.some.inj (by rw [← ha, ← z]; exact h1))]; exact h1, h2, fun pos cv hc => ?_⟩
  obtain ⟨c, e1, e2⟩ := h3 pos cv hc
  exact ⟨c, e1, by rw [upd_ne fun z => nt.2.2 _ (Option.some.inj (by rw [← ha, ← z]; exact e2))]; exact e2⟩
def ORel (K : PySem.W.Frag) (mp : Wd) (H : Hp) (o : O) (a : Addr) : Prop := match o with
  | .lst ds => ∃ vs, H a = some (.lst vs) ∧ RpAll K mp H ds vs
  | .dic kvs => (∃ (ks : List Key) (vs : List V), H a = some (.dK (ks.zip vs)) ∧ ks.length = vs.length ∧ kvs.map (·.1) = ks.map kD ∧ RpAll K mp H (kvs.map (·.2)) vs) ∨
      (∃ (ks : List (List Key)) (vs : List V), kvs ≠ [] ∧ H a = some (.dT (ks.zip vs)) ∧ ks.length = vs.length ∧ kvs.map (·.1) = ks.map (fun k => .tup (k.map kD)) ∧ RpAll K mp H (kvs.map (·.2)) vs)
  | .ins c fs => ∃ dx vs, H a = some (.ins (He.ga K c) dx vs) ∧ RpF K mp H fs vs
  | .hid => ∃ o, H a = some o ∧ NT o
structure HRel (K : PySem.W.Frag) (mp : Wd) (h : Hq) (H : Hp) : Prop where
  len : mp.pl.length = h.length
  nd : mp.pl.Nodup
  sub : ∀ a ∈ mp.pl, a ∈ mp.bn
  there : ∀ a ∈ mp.bn, ∃ u, H a = some u ∧ NT u
  obj : ∀ (l : Nat) (o : O) (a : Addr), h[l]? = some o → mp.pl[l]? = some a → ORel K mp H o a
  tabs : LamX.Tabs (tbl K) H
section
variable {K : PySem.W.Frag} {mp mp' : Wd} {H H' : Hp} {h h' : Hq}
theorem RpF.monoK (le : Lk mp H mp' H') : ∀ {ds : List (Str × D)} {vs : List (Str × V)}, RpF K mp H ds vs → RpF K mp' H' ds vs
  | _, _, .nil => .nil
  | _, _, .cons h t => .cons (h.monoK le) (t.monoK le)
theorem RpF.lookup {x : Str} : ∀ {ds : List (Str × D)} {vs : List (Str × V)} {d : D}, RpF K mp H ds vs → ds.lookup x = some d → ∃ v, vs.lookup x = some v ∧ Rp K mp H d v
  | _, _, _, .nil, e => by simp at e
  | _, _, d, .cons (x := y) r t, e => by
    rw [List.lookup_cons] at e ⊢
    cases q : (x == y) with
    | true => simp only [q] at e ⊢; cases e; exact ⟨_, rfl, r⟩
    | false => simp only [q] at e ⊢; exact RpF.lookup t e
theorem RpF.lookup_none {x : Str} : ∀ {ds : List (Str × D)} {vs : List (Str × V)}, RpF K mp H ds vs → ds.lookup x = none → vs.lookup x = none
  | _, _, .nil, _ => rfl
  | _, _, .cons (x := y) r t, e => by
    rw [List.lookup_cons] at e ⊢
    cases q : (x == y) with
    | true => simp only [q] at e; cases e
    | false => simp only [q] at e ⊢; exact RpF.lookup_none t e
theorem RpF.length : ∀ {ds : List (Str × D)} {vs : List (Str × V)}, RpF K mp H ds vs → ds.length = vs.length
  | _, _, .nil => rfl
  | _, _, .cons _ t => by simp [RpF.length t]
/-- a field stored -/
def putD (f : Str) (v : D) : List (Str × D) → List (Str × D)
  | [] => [(f, v)]
  | (g, w) :: r => if g = f then (f, v) :: r else (g, w) :: putD f v r
theorem ORel.some {o : O} {a : Addr} (r : ORel K mp H o a) : ∃ u, H a = some u ∧ NT u := by
  cases o with
  | lst ds => obtain ⟨_, e, _⟩ := r; exact ⟨_, e, by refine ⟨fun _ z => ?_, fun _ z => ?_, fun _ z => ?_⟩ <;> cases z⟩
  | dic kvs =>
    rcases r with ⟨_, _, e, _⟩ | ⟨_, _, _, e, _⟩
    · exact ⟨_, e, by refine ⟨fun _ z => ?_, fun _ z => ?_, fun _ z => ?_⟩ <;> cases z⟩
    · exact ⟨_, e, by refine ⟨fun _ z => ?_, fun _ z => ?_, fun _ z => ?_⟩ <;> cases z⟩
  | ins c fs => obtain ⟨_, _, e, _⟩ := r; exact ⟨_, e, by refine ⟨fun _ z => ?_, fun _ z => ?_, fun _ z => ?_⟩ <;> cases z⟩
  | hid => exact r
theorem ORel.monoK {o : O} {a : Addr} (le : Lk mp H mp' H') (e : H' a = H a) (r : ORel K mp H o a) : ORel K mp' H' o a := by
  cases o with
  | lst ds => obtain ⟨vs, e1, q⟩ := r; exact ⟨vs, e.trans e1, q.monoK le⟩
  | dic kvs =>
    rcases r with ⟨ks, vs, e1, l, k, q⟩ | ⟨ks, vs, z, e1, l, k, q⟩
    · exact .inl ⟨ks, vs, e.trans e1, l, k, q.monoK le⟩
    · exact .inr ⟨ks, vs, z, e.trans e1, l, k, q.monoK le⟩
  | ins c fs => obtain ⟨dx, vs, e1, q⟩ := r; exact ⟨dx, vs, e.trans e1, q.monoK le⟩
  | hid => obtain ⟨o, e1, n⟩ := r; exact ⟨o, e.trans e1, n⟩
theorem ORel.mono {o : O} {a : Addr} (le : Le mp H mp' H') (e : H' a = H a) (r : ORel K mp H o a) : ORel K mp' H' o a := r.monoK le.k e
/-- an address of one's own is written -/
theorem lk_own {p : Addr} {o : HO} (hp : p ∈ mp.bn) : Lk mp H mp (upd H p o) := ⟨⟨[], by simp⟩, fun a u e n _ => ⟨by rw [upd_ne (show a ≠ p from fun z => n (by rw [z]; exact hp))]; exact e, n⟩⟩
theorem HRel.ownW (r : HRel K mp h H) {p : Addr} {o : HO} (hp : p ∈ mp.bn) (np : p ∉ mp.pl) (nt : NT o := by refine ⟨fun _ z => ?_, fun _ z => ?_, fun _ z => ?_⟩ <;> cases z) : HRel K mp h (upd H p o) :=
  ⟨r.len, r.nd, r.sub, fun a ha => by
    by_cases z : a = p
    · subst z; exact ⟨_, upd_same, nt⟩
    · rw [upd_ne z]; exact r.there a ha, fun l u a h1 h2 => (r.obj l u a h1 h2).monoK (lk_own hp) (upd_ne fun z => np (z ▸ List.mem_of_getElem? h2)), fun q hq => by
      obtain ⟨u, e, nu⟩ := r.there p hp
      exact tab_set e nu _ _ (r.tabs q hq)⟩
theorem HRel.at_ (r : HRel K mp h H) {l : Nat} {o : O} (e : h[l]? = some o) : ∃ a, mp.pl[l]? = some a ∧ ORel K mp H o a := by
  have hl : l < mp.pl.length := by rw [r.len]; exact (List.getElem?_eq_some_iff.mp e).1
  exact ⟨mp.pl[l], List.getElem?_eq_getElem hl, r.obj l o _ e (List.getElem?_eq_getElem hl)⟩
theorem HRel.fresh (r : HRel K mp h H) {p : Addr} (hp : H p = none) : p ∉ mp.bn := fun z => by
  obtain ⟨u, e, nu⟩ := r.there p z
  rw [hp] at e; cases e
theorem le_new (r : HRel K mp h H) {p : Addr} {o : HO} (hp : H p = none) : Le mp H mp (upd H p o) :=
  ⟨⟨[], by simp⟩, fun a u e n _ => ⟨by rw [upd_ne (ne_of_none e hp)]; exact e, n⟩, fun a ha n => ⟨upd_ne fun z => r.fresh hp (z ▸ ha), ha, n⟩⟩
theorem HRel.mono (le : Le mp H mp H') (e : ∀ a ∈ mp.bn, H' a = H a) (tb : ∀ P q, LamX.TabS H P q → LamX.TabS H' P q) (r : HRel K mp h H) : HRel K mp h H' :=
  ⟨r.len, r.nd, r.sub, fun a ha => by rw [e a ha]; exact r.there a ha, fun l o a h1 h2 => (r.obj l o a h1 h2).mono le (e a (r.sub a (List.mem_of_getElem? h2))), fun q hq => tb _ _ (r.tabs q hq)⟩
/-- a new thing that never changes -/
theorem HRel.new (r : HRel K mp h H) {p : Addr} {o : HO} (hp : H p = none) : HRel K mp h (upd H p o) :=
  r.mono (le_new r hp) (fun a ha => upd_ne fun z => by subst z; obtain ⟨u, e, nu⟩ := r.there _ ha; rw [hp] at e; cases e) (tab_new hp)
/-- a new place -/
theorem le_place (r : HRel K mp h H) {p : Addr} {o : HO} (hp : H p = none) : Le mp H (mp.add p) (upd H p o) :=
  ⟨⟨[p], rfl⟩, fun a u e n _ => ⟨by rw [upd_ne (ne_of_none e hp)]; exact e, by
    intro z
    rcases List.mem_cons.mp z with z | z
    · exact ne_of_none e hp z
    · exact n z⟩, fun a ha n => ⟨upd_ne fun z => r.fresh hp (z ▸ ha), List.mem_cons_of_mem _ ha, fun z => by
      rcases List.mem_append.mp z with z | z
      · exact n z
      · exact r.fresh hp (by have : a = p := by simpa using z
                             exact this ▸ ha)⟩⟩
theorem HRel.place (r : HRel K mp h H) {p : Addr} {o : HO} {ob : O} (hp : H p = none) (new : ORel K (mp.add p) (upd H p o) ob p) : HRel K (mp.add p) (h ++ [ob]) (upd H p o) := by
  refine ⟨by simp [Wd.add, r.len], List.nodup_append.mpr ⟨r.nd, by simp, fun a ha b hb z => ?_⟩, fun a ha => ?_, fun a ha => ?_, fun l u a h1 h2 => ?_, fun q hq => tab_new hp _ _ (r.tabs q hq)⟩
  · have : b = p := by simpa using hb
    subst this; subst z
    exact r.fresh hp (r.sub _ ha)
  · rcases List.mem_append.mp ha with z | z
    · exact List.mem_cons_of_mem _ (r.sub a z)
    · have : a = p := by simpa using z
      subst this; exact List.mem_cons_self
  · rcases List.mem_cons.mp ha with z | z
    · subst z; exact new.some
    · obtain ⟨u, e, nu⟩ := r.there a z
      exact ⟨u, by rw [upd_ne (ne_of_none e hp)]; exact e, nu⟩
  · by_cases hl : l < h.length
    · rw [List.getElem?_append_left hl] at h1
      rw [show (mp.add p).pl = mp.pl ++ [p] from rfl, List.getElem?_append_left (by rw [r.len]; exact hl)] at h2
      exact (r.obj l u a h1 h2).mono (le_place r hp) (upd_ne fun z => by subst z; exact r.fresh hp (r.sub _ (List.mem_of_getElem? h2)))
    · rw [List.getElem?_append_right (by omega)] at h1
      rw [show (mp.add p).pl = mp.pl ++ [p] from rfl, List.getElem?_append_right (by rw [r.len]; omega)] at h2
      rw [r.len] at h2
      cases hn : l - h.length with
      | zero =>
        rw [hn] at h1 h2
        simp at h1 h2
        subst h1; subst h2
        exact new
      | succ n => rw [hn] at h1; simp at h1
/-- an address of one's own -/
theorem le_ban (r : HRel K mp h H) {p : Addr} {o : HO} (hp : H p = none) : Le mp H (mp.ban p) (upd H p o) :=
  ⟨⟨[], by simp [Wd.ban]⟩, fun a u e n _ => ⟨by rw [upd_ne (ne_of_none e hp)]; exact e, by
    intro z
    rcases List.mem_cons.mp z with z | z
    · exact ne_of_none e hp z
    · exact n z⟩, fun a ha n => ⟨upd_ne fun z => r.fresh hp (z ▸ ha), List.mem_cons_of_mem _ ha, n⟩⟩
theorem HRel.ban (r : HRel K mp h H) {p : Addr} {o : HO} (hp : H p = none) (nt : NT o := by refine ⟨fun _ z => ?_, fun _ z => ?_, fun _ z => ?_⟩ <;> cases z) : HRel K (mp.ban p) h (upd H p o) := by
  refine ⟨r.len, r.nd, fun a ha => List.mem_cons_of_mem _ (r.sub a ha), fun a ha => ?_, fun l u a h1 h2 => ?_, fun q hq => tab_new hp _ _ (r.tabs q hq)⟩
  · rcases List.mem_cons.mp ha with z | z
    · subst z; exact ⟨_, upd_same, nt⟩
    · obtain ⟨u, e, nu⟩ := r.there a z
      exact ⟨u, by rw [upd_ne (ne_of_none e hp)]; exact e, nu⟩
  · exact (r.obj l u a h1 h2).mono (le_ban r hp) (upd_ne fun z => by subst z; exact r.fresh hp (r.sub _ (List.mem_of_getElem? h2)))
/-- a place is changed -/
theorem le_set (r : HRel K mp h H) {l : Nat} {a : Addr} {o : HO} (ha : mp.pl[l]? = some a) : Le mp H mp (upd H a o) :=
  ⟨⟨[], by simp⟩, fun b u e n _ => ⟨by rw [upd_ne fun z => n (by rw [z]; exact r.sub _ (List.mem_of_getElem? ha))]; exact e, n⟩, fun b hb n => ⟨upd_ne fun z => n (by rw [z]; exact List.mem_of_getElem? ha), hb, n⟩⟩
theorem HRel.set (r : HRel K mp h H) {l : Nat} {a : Addr} {o : HO} {ob : O} (ha : mp.pl[l]? = some a) (new : ORel K mp (upd H a o) ob a) : HRel K mp (h.set l ob) (upd H a o) := by
  refine ⟨by simp [r.len], r.nd, r.sub, fun b hb => ?_, fun j u b h1 h2 => ?_, fun q hq => by
    obtain ⟨u, e, nu⟩ := r.there a (r.sub a (List.mem_of_getElem? ha))
    exact tab_set e nu _ _ (r.tabs q hq)⟩
  · by_cases z : b = a
    · subst z; exact new.some
    · rw [upd_ne z]; exact r.there b hb
  · by_cases hj : j = l
    · subst hj
      rw [ha] at h2; cases h2
      rw [List.getElem?_set_self (by rw [← r.len]; exact (List.getElem?_eq_some_iff.mp ha).1)] at h1
      cases h1
      exact new
    · rw [List.getElem?_set_ne (Ne.symm hj)] at h1
      refine (r.obj j u b h1 h2).mono (le_set r ha) (upd_ne fun z => ?_)
      subst z
      exact hj (by
        obtain ⟨q1, e1⟩ := List.getElem?_eq_some_iff.mp h2
        obtain ⟨q2, e2⟩ := List.getElem?_eq_some_iff.mp ha
        exact (List.getElem_inj r.nd).mp (e1.trans e2.symm))
end
/-! ### less is kept for oneself -/
def Wd.unban (m : Wd) (p : Addr) : Wd := ⟨m.pl, m.bn.filter (fun a => decide (a ≠ p))⟩
section
variable {K : PySem.W.Frag} {mp mp' : Wd} {H : Hp}
mutual
theorem Rp.less (e : mp'.pl = mp.pl) (l : ∀ a, a ∉ mp.bn → a ∉ mp'.bn) : ∀ {d : D} {v : V}, Rp K mp H d v → Rp K mp' H d v
  | _, _, .non => .non
  | _, _, .bl b => .bl b
  | _, _, .int i => .int i
  | _, _, .str x => .str x
  | _, _, .ty n => .ty n
  | _, _, .adr a => .adr a
  | _, _, .tup h n r => .tup h (l _ n) (r.less e l)
  | _, _, .lst h n r => .lst h (l _ n) (r.less e l)
  | _, _, .ktup h r => .ktup h (r.less e l)
  | _, _, .klst h r => .klst (h.imp (fun z => ⟨z.1, l _ z.2⟩) id) (r.less e l)
  | _, _, .dicK h k n q r => .dicK h k (l _ n) q (r.less e l)
  | _, _, .dicT z h k n q r => .dicT z h k (l _ n) q (r.less e l)
  | _, _, .ref h => .ref (by rw [e]; exact h)
  | _, _, .ftup h r => .ftup ⟨h.1, l _ h.2⟩ (r.less e l)
theorem RpAll.less (e : mp'.pl = mp.pl) (l : ∀ a, a ∉ mp.bn → a ∉ mp'.bn) : ∀ {ds : List D} {vs : List V}, RpAll K mp H ds vs → RpAll K mp' H ds vs
  | _, _, .nil => .nil
  | _, _, .cons h t => .cons (h.less e l) (t.less e l)
end
theorem RpF.less (e : mp'.pl = mp.pl) (l : ∀ a, a ∉ mp.bn → a ∉ mp'.bn) : ∀ {ds : List (Str × D)} {vs : List (Str × V)}, RpF K mp H ds vs → RpF K mp' H ds vs
  | _, _, .nil => .nil
  | _, _, .cons h t => .cons (h.less e l) (t.less e l)
theorem ORel.less {o : O} {a : Addr} (e : mp'.pl = mp.pl) (l : ∀ a, a ∉ mp.bn → a ∉ mp'.bn) (r : ORel K mp H o a) : ORel K mp' H o a := by
  cases o with
  | lst ds => obtain ⟨vs, e1, q⟩ := r; exact ⟨vs, e1, q.less e l⟩
  | dic kvs =>
    rcases r with ⟨ks, vs, e1, c, k, q⟩ | ⟨ks, vs, z, e1, c, k, q⟩
    · exact .inl ⟨ks, vs, e1, c, k, q.less e l⟩
    · exact .inr ⟨ks, vs, z, e1, c, k, q.less e l⟩
  | ins c fs => obtain ⟨dx, vs, e1, q⟩ := r; exact ⟨dx, vs, e1, q.less e l⟩
  | hid => exact r
theorem unban_less (p : Addr) : ∀ a, a ∉ mp.bn → a ∉ (mp.unban p).bn := fun a n z => n (List.mem_filter.mp z).1
theorem HRel.unban {h : Hq} (r : HRel K mp h H) {p : Addr} (hp : p ∉ mp.pl) : HRel K (mp.unban p) h H :=
  ⟨r.len, r.nd, fun a ha => List.mem_filter.mpr ⟨r.sub a ha, by simpa using fun z : a = p => hp (z ▸ ha)⟩, fun a ha => r.there a (List.mem_filter.mp ha).1, fun l o a h1 h2 => ORel.less (mp := mp) (mp' := mp.unban p) rfl (unban_less p) (r.obj l o a h1 h2), r.tabs⟩
end
/-! ### results -/
inductive Res (α : Type) where
  | ok (a : α) (h : Hq) | exc (c : Str) (h : Hq) | bad
def Res.bind {α β : Type} (r : Res α) (g : α → Hq → Res β) : Res β := match r with
  | .ok a h => g a h
  | .exc c h => .exc c h
  | .bad => .bad
def Res.of {α : Type} : Option (α × Hq) → Res α
  | some (a, h) => .ok a h
  | none => .bad
@[simp] theorem Res.bind_ok {α β : Type} (a : α) (h : Hq) (g : α → Hq → Res β) : (Res.ok a h).bind g = g a h := rfl
@[simp] theorem Res.bind_exc {α β : Type} (c : Str) (h : Hq) (g : α → Hq → Res β) : (Res.exc c h).bind g = .exc c h := rfl
@[simp] theorem Res.bind_bad {α β : Type} (g : α → Hq → Res β) : (Res.bad : Res α).bind g = .bad := rfl
@[simp] theorem Res.of_some {α : Type} (a : α) (h : Hq) : Res.of (some (a, h)) = .ok a h := rfl
@[simp] theorem Res.of_none {α : Type} : Res.of (none : Option (α × Hq)) = .bad := rfl
abbrev Ev (α : Type) := Env' → Hq → Res α
def Post {α β : Type} (K : PySem.W.Frag) (R : Wd → Hp → α → β → Prop) (mp : Wd) (H : Hp) (r : Res α) (Q : β → Hp → Prop) (E : Str → Hp → Prop) : Prop := match r with
  | .ok d h' => ∀ v mp' H', Le mp H mp' H' → HRel K mp' h' H' → R mp' H' d v → Q v H'
  | .exc c h' => ∀ mp' H', Le mp H mp' H' → HRel K mp' h' H' → E c H'
  | .bad => False
section
variable {K : PySem.W.Frag} {mp mp1 : Wd} {H H1 : Hp} {α β γ δ : Type} {R : Wd → Hp → α → β → Prop} {R' : Wd → Hp → γ → δ → Prop} {r : Res α} {Q Q' : β → Hp → Prop} {E : Str → Hp → Prop}
theorem Post.le (le : Le mp H mp1 H1) (p : Post K R mp H r Q E) : Post K R mp1 H1 r Q E := by
  cases r with
  | ok d h => exact fun v mp' H' l => p v mp' H' (le.trans l)
  | exc c h => exact fun mp' H' l => p mp' H' (le.trans l)
  | bad => exact p
theorem Post.mono (p : Post K R mp H r Q E) (h : ∀ v H', Q v H' → Q' v H') : Post K R mp H r Q' E := by
  cases r with
  | ok d h' => exact fun v mp' H' l a b => h _ _ (p v mp' H' l a b)
  | exc c h' => exact p
  | bad => exact p
/-- what is known behind a step -/
def Aft (K : PySem.W.Frag) (R : Wd → Hp → α → β → Prop) (R' : Wd → Hp → γ → δ → Prop) (mp : Wd) (H : Hp) (g : α → Hq → Res γ) (Q : δ → Hp → Prop) (E : Str → Hp → Prop) (v : β) (H1 : Hp) : Prop :=
  ∃ mp1 h1 d, Le mp H mp1 H1 ∧ HRel K mp1 h1 H1 ∧ R mp1 H1 d v ∧ Post K R' mp1 H1 (g d h1) Q E
theorem Post.bind {g : α → Hq → Res γ} {Q : δ → Hp → Prop} (p : Post K R' mp H (r.bind g) Q E) : Post K R mp H r (Aft K R R' mp H g Q E) E := by
  cases r with
  | ok d h => exact fun v mp' H' l a b => ⟨mp', h, d, l, a, b, Post.le l p⟩
  | exc c h => exact p
  | bad => exact p
theorem Post.ok {d : α} {h : Hq} {v : β} (p : Post K R mp H (.ok d h) Q E) (hr : HRel K mp h H) (b : R mp H d v) : Q v H := p v mp H .refl hr b
end
/-- of an operation that does not raise -/
def PostO {α β : Type} (K : PySem.W.Frag) (R : Wd → Hp → α → β → Prop) (mp : Wd) (H : Hp) (r : Option (α × Hq)) (Q : β → Hp → Prop) : Prop := match r with
  | some (d, h') => ∀ v mp' H', Le mp H mp' H' → HRel K mp' h' H' → R mp' H' d v → Q v H'
  | none => False
theorem Post.o {α β : Type} {K : PySem.W.Frag} {R : Wd → Hp → α → β → Prop} {mp : Wd} {H : Hp} {r : Option (α × Hq)} {Q : β → Hp → Prop} {E : Str → Hp → Prop} (p : Post K R mp H (.of r) Q E) : PostO K R mp H r Q := by
  cases r with
  | none => exact p
  | some q => exact p
/-! ### the frame's values -/
structure EnvRel (K : PySem.W.Frag) (mp : Wd) (H : Hp) (ρ : Env') (σ : L2.St) : Prop where
  len : ρ.length = σ.length
  val : ∀ (i : Nat) (d : D), ρ[i]? = some (some d) → ∃ v, σ[i]? = some (some v) ∧ Rp K mp H d v
section
variable {K : PySem.W.Frag} {mp mp' : Wd} {H H' : Hp} {ρ : Env'} {σ : L2.St}
theorem EnvRel.mono (le : Le mp H mp' H') (e : EnvRel K mp H ρ σ) : EnvRel K mp' H' ρ σ :=
  ⟨e.len, fun i d h => let ⟨v, a, b⟩ := e.val i d h; ⟨v, a, b.mono le⟩⟩
theorem EnvRel.set (e : EnvRel K mp H ρ σ) {i : Nat} {d : D} {v : V} (r : Rp K mp H d v) : EnvRel K mp H (ρ.set i (some d)) (σ.set i (some v)) := by
  refine ⟨by simp [e.len], fun j d' h => ?_⟩
  by_cases hj : j = i
  · subst hj
    rw [List.getElem?_set] at h
    rw [List.getElem?_set, ← e.len]
    simp only [if_true] at h ⊢
    split at h
    · rename_i q
      simp only [Option.some.injEq] at h
      subst h
      rw [if_pos q]
      exact ⟨v, rfl, r⟩
    · cases h
  · rw [List.getElem?_set_ne (Ne.symm hj)] at h ⊢
    exact e.val j d' h
def wipeD (ρ : Env') : List Nat → Env'
  | [] => ρ
  | v :: vs => (wipeD ρ vs).set v none
theorem EnvRel.none (e : EnvRel K mp H ρ σ) (i : Nat) : EnvRel K mp H (ρ.set i none) (σ.set i none) := by
  refine ⟨by simp [e.len], fun j d' h => ?_⟩
  by_cases hj : j = i
  · subst hj
    rw [List.getElem?_set] at h
    simp only [if_true] at h
    split at h <;> cases h
  · rw [List.getElem?_set_ne (Ne.symm hj)] at h ⊢
    exact e.val j d' h
theorem EnvRel.wipe (e : EnvRel K mp H ρ σ) : ∀ vs : List Nat, EnvRel K mp H (wipeD ρ vs) (wipe σ vs)
  | [] => e
  | v :: vs => (e.wipe vs).none v
end
/-! ### readings -/
abbrev rD (K : PySem.W.Frag) : Wd → Hp → D → V → Prop := fun mp H d v => Rp K mp H d v
abbrev rB : Wd → Hp → Bool → Bool → Prop := fun _ _ a b => a = b
abbrev rA (K : PySem.W.Frag) : Wd → Hp → List D → List V → Prop := fun mp H d v => RpAll K mp H d v
def wE (K : PySem.W.Frag) (W : WX) (σ : L2.St) : Str → Hp → Prop := fun c H' => W (.ref (He.ga K c)) none σ H'
def tE (K : PySem.W.Frag) (W : WX) (f : Ev D) : TE := fun σ H Q => ∃ ρ h mp, HRel K mp h H ∧ EnvRel K mp H ρ σ ∧ Post K (rD K) mp H (f ρ h) Q (wE K W σ)
def tT (K : PySem.W.Frag) (W : WX) (f : Ev Bool) : TT := fun σ H Q => ∃ ρ h mp, HRel K mp h H ∧ EnvRel K mp H ρ σ ∧ Post K rB mp H (f ρ h) Q (wE K W σ)
def tA (K : PySem.W.Frag) (W : WX) (f : Ev (List D)) : TA := fun σ H Q => ∃ ρ h mp, HRel K mp h H ∧ EnvRel K mp H ρ σ ∧ Post K (rA K) mp H (f ρ h) Q (wE K W σ)
abbrev SE (X : Cx) (W : WX) (e : Expr) (f : Ev D) : Prop := PE X e (tE X.K W f)
abbrev ST (X : Cx) (W : WX) (e : Expr) (f : Ev Bool) : Prop := PT X e (tT X.K W f)
abbrev SA (X : Cx) (W : WX) (es : List Expr) (f : Ev (List D)) : Prop := PA X es (tA X.K W f)
inductive SR where
  | nx (ρ : Env') (h : Hq) | rt (d : D) (h : Hq) | bk (ρ : Env') (h : Hq) | ct (ρ : Env') (h : Hq) | exc (c : Str) (ρ : Env') (h : Hq) | bad
abbrev Ex := Env' → Hq → SR
def PostS (K : PySem.W.Frag) (mp : Wd) (H : Hp) (r : SR) (D : Ends) (W : WX) : Prop := match r with
  | .nx ρ h => ∀ σ' mp' H', Le mp H mp' H' → HRel K mp' h H' → EnvRel K mp' H' ρ σ' → D.nx σ' H'
  | .bk ρ h => ∀ σ' mp' H', Le mp H mp' H' → HRel K mp' h H' → EnvRel K mp' H' ρ σ' → D.bk σ' H'
  | .ct ρ h => ∀ σ' mp' H', Le mp H mp' H' → HRel K mp' h H' → EnvRel K mp' H' ρ σ' → D.ct σ' H'
  | .rt d h => ∀ v mp' H', Le mp H mp' H' → HRel K mp' h H' → Rp K mp' H' d v → D.rt v H'
  | .exc c ρ h => ∀ σ' mp' H', Le mp H mp' H' → HRel K mp' h H' → EnvRel K mp' H' ρ σ' → W (.ref (He.ga K c)) none σ' H'
  | .bad => False
def tS (K : PySem.W.Frag) (W : WX) (f : Ex) : TS := fun D σ H => ∃ ρ h mp, HRel K mp h H ∧ EnvRel K mp H ρ σ ∧ PostS K mp H (f ρ h) D W
abbrev SS (X : Cx) (W : WX) (st : Stmt) (f : Ex) : Prop := PS X st (tS X.K W f)
abbrev SSs (X : Cx) (W : WX) (st : List Stmt) (f : Ex) : Prop := PSs X st (tS X.K W f)
theorem PostS.le {K : PySem.W.Frag} {mp mp1 : Wd} {H H1 : Hp} {r : SR} {D : Ends} {W : WX} (le : Le mp H mp1 H1) (p : PostS K mp H r D W) : PostS K mp1 H1 r D W := by
  cases r with
  | nx ρ h => exact fun σ mp' H' l => p σ mp' H' (le.trans l)
  | bk ρ h => exact fun σ mp' H' l => p σ mp' H' (le.trans l)
  | ct ρ h => exact fun σ mp' H' l => p σ mp' H' (le.trans l)
  | rt d h => exact fun σ mp' H' l => p σ mp' H' (le.trans l)
  | exc c ρ h => exact fun σ mp' H' l => p σ mp' H' (le.trans l)
  | bad => exact p
theorem PE.imp {X : Cx} {e : Expr} {t t' : TE} (h : PE X e t) (i : ∀ σ H Q, t' σ H Q → t σ H Q) : PE X e t' := ⟨fun pins s σ H Q I q => h.run pins s σ H Q I (i σ H Q q)⟩
theorem PT.imp {X : Cx} {e : Expr} {t t' : TT} (h : PT X e t) (i : ∀ σ H Q, t' σ H Q → t σ H Q) : PT X e t' := ⟨fun pins s σ H Q I q => h.run pins s σ H Q I (i σ H Q q)⟩
theorem PA.imp {X : Cx} {e : List Expr} {t t' : TA} (h : PA X e t) (i : ∀ σ H Q, t' σ H Q → t σ H Q) : PA X e t' := ⟨fun pos pins s σ H Q I q => h.run pos pins s σ H Q I (i σ H Q q)⟩
theorem PS.imp {X : Cx} {e : Stmt} {t t' : TS} (h : PS X e t) (i : ∀ D σ H, t' D σ H → t D σ H) : PS X e t' := ⟨fun pins s σ H D I q => h.run pins s σ H D I (i D σ H q)⟩
theorem PSs.imp {X : Cx} {e : List Stmt} {t t' : TS} (h : PSs X e t) (i : ∀ D σ H, t' D σ H → t D σ H) : PSs X e t' := ⟨fun pins s σ H D I q => h.run pins s σ H D I (i D σ H q)⟩
/-- lists and tuples that stand are not too long -/
def SzOk (K : PySem.W.Frag) (H : Hp) : Prop := ∀ a vs, (SqL K H a vs ∨ SqT K H a vs) → vs.length ≤ sizeLine
theorem sz_of {X : Cx} {pins : List (Addr × Obj)} {σ : L2.St} {H : Hp} {s : Shared} (I : Inv X pins σ H s) : SzOk X.K H := fun a vs h => by
  rcases h with h | h
  · obtain ⟨_, _, _, z⟩ := I.list h; exact z
  · obtain ⟨_, _, _, z⟩ := I.tuple h; exact z
theorem PE.post {X : Cx} {e : Expr} {t : TE} (h : PE X e t) : PE X e (fun σ H Q => t σ H fun v H' => SzOk X.K H' → Q v H') := ⟨fun pins s σ H Q I q =>
  thn (h.run pins s σ H _ I q) fun u s' ⟨v, H', I', r, z⟩ => ⟨v, H', I', r, z (sz_of I')⟩⟩
end Mi
namespace Mi
open PySem PySem.Spec L2
/-! ### values as plain data -/
mutual
def D.py : D → Option PyData
  | .non => some .none
  | .bl b => some (.bool b)
  | .int i => some (.int i)
  | .str x => some (.str x)
  | .tup xs => (D.pys xs).map .tuple
  | .lst xs => (D.pys xs).map .list
  | .ktup xs => (D.pys xs).map .tuple
  | .klst xs => (D.pys xs).map .list
  | .ftup xs => (D.pys xs).map .tuple
  | _ => none
def D.pys : List D → Option (List PyData)
  | [] => some []
  | x :: xs => match D.py x, D.pys xs with
    | some a, some b => some (a :: b)
    | _, _ => none
end
/-- a list of the heap read as a list by value -/
def nz (h : Hq) (d : D) : D := match d with
  | .ref l => (match h[l]? with
    | some (.lst xs) => .lst xs
    | _ => d)
  | d => d
section
variable {K : PySem.W.Frag} {mp : Wd} {H : Hp} {h : Hq}
theorem sqT_none {a : Addr} {vs : List V} (h : SqT K (fun _ => none) a vs) : SqT K H a vs := by
  rcases h with (h | ⟨o, h⟩) | h
  · cases h
  · cases h
  · exact .inr h
mutual
theorem Rp.dp : ∀ {d : D} {v : V} {p : PyData}, Rp K mp H d v → d.py = some p → Dp K H v p
  | _, _, _, .non, e => by simp [D.py] at e; subst e; exact .non
  | _, _, _, .bl b, e => by simp [D.py] at e; subst e; exact .bl b
  | _, _, _, .int i, e => by simp [D.py] at e; subst e; exact .int i
  | _, _, _, .str x, e => by simp [D.py] at e; subst e; exact .str x
  | _, _, _, .ty n, e => by simp [D.py] at e
  | _, _, _, .adr a, e => by simp [D.py] at e
  | _, _, _, .tup a n r, e => by
    simp only [D.py, Option.map_eq_some_iff] at e
    obtain ⟨ps, e1, rfl⟩ := e
    exact .tup (SqT.of a) (r.dp e1)
  | _, _, _, .lst a n r, e => by
    simp only [D.py, Option.map_eq_some_iff] at e
    obtain ⟨ps, e1, rfl⟩ := e
    exact .lst (SqL.of a) (r.dp e1)
  | _, _, _, .ktup a r, e => by
    simp only [D.py, Option.map_eq_some_iff] at e
    obtain ⟨ps, e1, rfl⟩ := e
    exact .tup (sqT_none a) (r.dp e1)
  | _, _, _, .klst a r, e => by
    simp only [D.py, Option.map_eq_some_iff] at e
    obtain ⟨ps, e1, rfl⟩ := e
    exact .lst a.sq (r.dp e1)
  | _, _, _, .dicK .., e => by simp [D.py] at e
  | _, _, _, .dicT .., e => by simp [D.py] at e
  | _, _, _, .ref _, e => by simp [D.py] at e
  | _, _, _, .ftup a r, e => by
    simp only [D.py, Option.map_eq_some_iff] at e
    obtain ⟨ps, e1, rfl⟩ := e
    exact .tup a.sq (r.dp e1)
theorem RpAll.dp : ∀ {ds : List D} {vs : List V} {ps : List PyData}, RpAll K mp H ds vs → D.pys ds = some ps → DpAll K H vs ps
  | _, _, _, .nil, e => by simp [D.pys] at e; subst e; exact .nil
  | _, _, _, .cons (d := d) (ds := ds) r t, e => by
    simp only [D.pys] at e
    cases q : D.py d with
    | none => rw [q] at e; cases e
    | some a =>
      cases q2 : D.pys ds with
      | none => rw [q, q2] at e; cases e
      | some b =>
        rw [q, q2] at e
        cases e
        exact .cons (r.dp q) (t.dp q2)
end
theorem Rp.nz (r : HRel K mp h H) {d : D} {v : V} {p : PyData} (a : Rp K mp H d v) (e : (Mi.nz h d).py = some p) : Dp K H v p := by
  unfold Mi.nz at e
  split at e
  · rename_i l
    split at e
    · rename_i xs q
      cases a with
      | ref m =>
        obtain ⟨vs, e1, e2⟩ := r.obj _ _ _ q m
        simp only [D.py, Option.map_eq_some_iff] at e
        obtain ⟨ps, e3, rfl⟩ := e
        exact .lst (SqL.of e1) (e2.dp e3)
    · simp [D.py] at e
  · exact a.dp e
mutual
theorem py_plain : ∀ {d : D} {p : PyData}, d.py = some p → p.plain = true
  | .non, _, e => by simp [D.py] at e; subst e; rfl
  | .bl _, _, e => by simp [D.py] at e; subst e; rfl
  | .int _, _, e => by simp [D.py] at e; subst e; rfl
  | .str _, _, e => by simp [D.py] at e; subst e; rfl
  | .tup xs, _, e => by
    simp only [D.py, Option.map_eq_some_iff] at e
    obtain ⟨ps, e1, rfl⟩ := e
    simp only [PyData.plain]; exact pys_plain e1
  | .lst xs, _, e => by
    simp only [D.py, Option.map_eq_some_iff] at e
    obtain ⟨ps, e1, rfl⟩ := e
    simp only [PyData.plain]; exact pys_plain e1
  | .ktup xs, _, e => by
    simp only [D.py, Option.map_eq_some_iff] at e
    obtain ⟨ps, e1, rfl⟩ := e
    simp only [PyData.plain]; exact pys_plain e1
  | .klst xs, _, e => by
    simp only [D.py, Option.map_eq_some_iff] at e
    obtain ⟨ps, e1, rfl⟩ := e
    simp only [PyData.plain]; exact pys_plain e1
  | .dic _, _, e => by simp [D.py] at e
  | .set _, _, e => by simp [D.py] at e
  | .ref _, _, e => by simp [D.py] at e
  | .ty _, _, e => by simp [D.py] at e
  | .adr _, _, e => by simp [D.py] at e
  | .ftup xs, _, e => by
    simp only [D.py, Option.map_eq_some_iff] at e
    obtain ⟨ps, e1, rfl⟩ := e
    simp only [PyData.plain]; exact pys_plain e1
theorem pys_plain : ∀ {ds : List D} {ps : List PyData}, D.pys ds = some ps → PyData.plainAll ps = true
  | [], _, e => by simp [D.pys] at e; subst e; rfl
  | d :: ds, _, e => by
    simp only [D.pys] at e
    cases q : D.py d with
    | none => rw [q] at e; cases e
    | some a =>
      cases q2 : D.pys ds with
      | none => rw [q, q2] at e; cases e
      | some b =>
        rw [q, q2] at e
        cases e
        simp only [PyData.plainAll, py_plain q, pys_plain q2, Bool.and_self]
end
end
/-! ### what is read as a list, as a tuple -/
def asL (h : Hq) : D → Option (List D)
  | .lst xs => some xs
  | .ref l => (match h[l]? with
    | some (.lst xs) => some xs
    | _ => none)
  | _ => none
def asLk (h : Hq) : D → Option (List D)
  | .klst xs => some xs
  | d => asL h d
def asT : D → Option (List D)
  | .tup xs => some xs
  | .ktup xs => some xs
  | .ftup xs => some xs
  | _ => none
section
variable {K : PySem.W.Frag} {mp : Wd} {H : Hp} {h : Hq} {d : D} {v : V} {xs : List D}
theorem asL_ok (r : HRel K mp h H) (a : Rp K mp H d v) (e : asL h d = some xs) : ∃ p vs, v = .ref p ∧ H p = some (.lst vs) ∧ RpAll K mp H xs vs := by
  unfold asL at e
  split at e
  · cases e
    cases a with
    | lst h1 h2 h3 => exact ⟨_, _, rfl, h1, h3⟩
  · split at e
    · rename_i q
      cases e
      cases a with
      | ref m =>
        obtain ⟨vs, e1, e2⟩ := r.obj _ _ _ q m
        exact ⟨_, _, rfl, e1, e2⟩
    · cases e
  · cases e
theorem asLk_ok (r : HRel K mp h H) (a : Rp K mp H d v) (e : asLk h d = some xs) : ∃ p vs, v = .ref p ∧ SqL K H p vs ∧ RpAll K mp H xs vs := by
  unfold asLk at e
  split at e
  · cases e
    cases a with
    | klst h1 h3 => exact ⟨_, _, rfl, h1.sq, h3⟩
  · obtain ⟨p, vs, e1, e2, e3⟩ := asL_ok r a e
    exact ⟨p, vs, e1, SqL.of e2, e3⟩
theorem asT_ok (a : Rp K mp H d v) (e : asT d = some xs) : ∃ p vs, v = .ref p ∧ SqT K H p vs ∧ RpAll K mp H xs vs := by
  unfold asT at e
  split at e
  · cases e
    cases a with
    | tup h1 h2 h3 => exact ⟨_, _, rfl, SqT.of h1, h3⟩
  · cases e
    cases a with
    | ktup h1 h3 => exact ⟨_, _, rfl, sqT_none h1, h3⟩
  · cases e
    cases a with
    | ftup h1 h3 => exact ⟨_, _, rfl, h1.sq, h3⟩
  · cases e
/-- a tuple just made -/
theorem newT (r : HRel K mp h H) {ds : List D} {vs : List V} {p : Addr} (hp : H p = none) (a : RpAll K mp H ds vs) : Le mp H mp (upd H p (.tup vs)) ∧ HRel K mp h (upd H p (.tup vs)) ∧ Rp K mp (upd H p (.tup vs)) (.tup ds) (.ref p) :=
  ⟨le_new r hp, r.new hp, .tup upd_same (r.fresh hp) (a.mono (le_new r hp))⟩
theorem newL (r : HRel K mp h H) {ds : List D} {vs : List V} {p : Addr} (hp : H p = none) (a : RpAll K mp H ds vs) : Le mp H mp (upd H p (.lst vs)) ∧ HRel K mp h (upd H p (.lst vs)) ∧ Rp K mp (upd H p (.lst vs)) (.lst ds) (.ref p) :=
  ⟨le_new r hp, r.new hp, .lst upd_same (r.fresh hp) (a.mono (le_new r hp))⟩
/-- a list just made, to be changed -/
theorem newLR (r : HRel K mp h H) {ds : List D} {vs : List V} {p : Addr} (hp : H p = none) (a : RpAll K mp H ds vs) : Le mp H (mp.add p) (upd H p (.lst vs)) ∧ HRel K (mp.add p) (h ++ [.lst ds]) (upd H p (.lst vs)) ∧ Rp K (mp.add p) (upd H p (.lst vs)) (.ref h.length) (.ref p) := by
  refine ⟨le_place r hp, r.place hp ⟨vs, upd_same, a.mono (le_place r hp)⟩, .ref ?_⟩
  rw [← r.len]
  simp [Wd.add]
end
/-! ### names and constants -/
def mVar (i : Nat) : Ev D := fun ρ h => match ρ[i]? with
  | some (some d) => .ok d h
  | _ => .bad
def mC (d : D) : Ev D := fun _ h => .ok d h
section
variable {X : Cx} {W : WX} {pos : Pos}
theorem se_var (i : Nat) {x : Str} (hN : X.N[i]? = some x := by rfl) (hv : Vis X.env.scope x := by first | exact Or.inl rfl | exact Or.inr (Or.inl rfl) | exact Or.inr (Or.inr rfl)) (hd : (x == ("__debug__" : Str)) = false := by decide)
    (hcd : (x == ("__classdict__" : Str)) = false := by decide) : SE X W (.Name x pos) (mVar i) := PE.imp (pe_var hN hv hd hcd) fun σ H Q ⟨ρ, h, mp, r, e, p⟩ => by
  unfold mVar at p
  split at p
  · rename_i d q
    obtain ⟨v, e1, e2⟩ := e.val i d q
    exact ⟨v, e1, p.ok r e2⟩
  · exact p.elim
theorem se_c {e : Expr} {d : D} {v : V} (h : PE X e (tC v)) (r : ∀ mp H, Rp X.K mp H d v) : SE X W e (mC d) := PE.imp h fun σ H Q ⟨ρ, h, mp, hr, e, p⟩ => Post.ok (v := v) p hr (r mp H)
theorem se_int {i : Int} {j : Nat} : SE X W (.Constant (.int i) j pos) (mC (.int i)) := se_c pe_int fun _ _ => .int i
theorem se_bl {i : Bool} {j : Nat} : SE X W (.Constant (.bool i) j pos) (mC (.bl i)) := se_c pe_bl fun _ _ => .bl i
theorem se_non {j : Nat} : SE X W (.Constant .none j pos) (mC .non) := se_c pe_non fun _ _ => .non
theorem se_str {x : Str} {j : Nat} : SE X W (.Constant (.str x) j pos) (mC (.str x)) := se_c pe_str fun _ _ => .str x
theorem se_gstr {x z : Str} (hm : ∃ t, X.mg x = some (.str z t)) (hg : Gl X x := by rfl) (hd : (x == ("__debug__" : Str)) = false := by decide) : SE X W (.Name x pos) (mC (.str z)) := by
  obtain ⟨t, hm⟩ := hm
  exact se_c (v := .str z) (pe_glob hg hm ⟨t, rfl⟩ hd) fun _ _ => .str z
theorem se_gint {x : Str} {z : Int} (hm : ∃ t, X.mg x = some (.int z t)) (hg : Gl X x := by rfl) (hd : (x == ("__debug__" : Str)) = false := by decide) : SE X W (.Name x pos) (mC (.int z)) := by
  obtain ⟨t, hm⟩ := hm
  exact se_c (v := .int z) (pe_glob hg hm ⟨t, rfl⟩ hd) fun _ _ => .int z
theorem se_bty {x : Str} {n : String} (hm : X.mg x = none) (hv : bootBuiltins x = some (.type n)) (hg : Gl X x := by rfl) (hn : x ≠ "__name__" := by decide) (hd : (x == ("__debug__" : Str)) = false := by decide) : SE X W (.Name x pos) (mC (.ty n)) :=
  se_c (v := .ty n) (pe_bltn hg hm hv rfl hn hd) fun _ _ => .ty n
/-- a tuple of texts of the module's own -/
theorem rp_strs {K : PySem.W.Frag} {mp : Wd} {H : Hp} : ∀ zs : List Str, RpAll K mp H (zs.map .str) (zs.map V.str)
  | [] => .nil
  | z :: zs => .cons (.str z) (rp_strs zs)
theorem se_gtup {x : Str} {zs : List Str} (hm : X.mg x = some (.ref (He.ga X.K x))) (hk : SqT X.K (fun _ => none) (He.ga X.K x) (zs.map V.str)) (hg : Gl X x := by rfl) (hd : (x == ("__debug__" : Str)) = false := by decide) : SE X W (.Name x pos) (mC (.ktup (zs.map .str))) :=
  se_c (v := .ref (He.ga X.K x)) (pe_glob hg hm rfl hd) fun _ _ => .ktup hk (rp_strs zs)
end
/-! ### operators -/
def O2 (X : Cx) (f : Value → Value → Sem Value) (g : D → D → Hq → Option (D × Hq)) : Prop :=
  OpR X f fun x y H Q => ∃ mp h dx dy, HRel X.K mp h H ∧ Rp X.K mp H dx x ∧ Rp X.K mp H dy y ∧ PostO X.K (rD X.K) mp H (g dx dy h) Q
def mBin (g : D → D → Hq → Option (D × Hq)) (fa fb : Ev D) : Ev D := fun ρ h => (fa ρ h).bind fun x h1 => (fb ρ h1).bind fun y h2 => .of (g x y h2)
section
variable {X : Cx} {W : WX} {pos : Pos} {a b : Expr} {fa fb : Ev D} {g : D → D → Hq → Option (D × Hq)}
theorem t_bin {σ : L2.St} {H : Hp} {Q : VK} (t : tE X.K W (mBin g fa fb) σ H Q) :
    tOp (fun x y H Q => ∃ mp h dx dy, HRel X.K mp h H ∧ Rp X.K mp H dx x ∧ Rp X.K mp H dy y ∧ PostO X.K (rD X.K) mp H (g dx dy h) Q) (tE X.K W fa) (tE X.K W fb) σ H Q := by
  obtain ⟨ρ, h, mp, r, e, p⟩ := t
  refine ⟨ρ, h, mp, r, e, Post.mono (Post.bind p) fun x H1 ⟨mp1, h1, d1, le1, r1, q1, p1⟩ => ?_⟩
  refine ⟨ρ, h1, mp1, r1, e.mono le1, Post.mono (Post.bind p1) fun y H2 ⟨mp2, h2, d2, le2, r2, q2, p2⟩ => ?_⟩
  exact ⟨mp2, h2, d1, d2, r2, q1.mono le2, q2, p2.o⟩
theorem se_bin {op : Operator} (ho : O2 X (binaryOp op) g) (ha : SE X W a fa) (hb : SE X W b fb) : SE X W (.BinOp a op b pos) (mBin g fa fb) :=
  PE.imp (pe_op ho ha hb) fun σ H Q t => t_bin t
theorem se_cmp {op : CmpOp} (ho : O2 X (compareOp op) g) (ha : SE X W a fa) (hb : SE X W b fb) (hm : behindInMarks op b = false) : SE X W (.Compare a [op] [b] pos) (mBin g fa fb) :=
  PE.imp (pe_cmpR ho ha hb hm) fun σ H Q t => t_bin t
/-- a value that is a truth -/
def mTru (f : Ev D) : Ev Bool := fun ρ h => (f ρ h).bind fun d h1 => match d with
  | .bl b => .ok b h1
  | _ => .bad
theorem t_tru {f : Ev D} {σ : L2.St} {H : Hp} {Q : Bool → Hp → Prop} (t : tT X.K W (mTru f) σ H Q) : tTest (tE X.K W f) σ H Q := by
  obtain ⟨ρ, h, mp, r, e, p⟩ := t
  refine ⟨ρ, h, mp, r, e, Post.mono (Post.bind p) fun x H1 ⟨mp1, h1, d1, le1, r1, q1, p1⟩ => ?_⟩
  cases d1 with
  | bl b => cases q1; exact ⟨b, rfl, Post.ok p1 r1 rfl⟩
  | _ => exact p1.elim
theorem st_cmp {op : CmpOp} (ho : O2 X (compareOp op) g) (ha : SE X W a fa) (hb : SE X W b fb) (hm : behindInMarks op b = false) : ST X W (.Compare a [op] [b] pos) (mTru (mBin g fa fb)) :=
  PT.imp (pt_cmpR ho ha hb hm) fun σ H Q t => by
    obtain ⟨ρ, h, mp, r, e, p⟩ := t_tru t
    exact t_bin ⟨ρ, h, mp, r, e, p⟩
theorem st_val {f : Ev D} (he : SE X W a f) (hp : ∀ whole, isTrue a X.env whole = (do let v ← whole; standAt a.pos; holding [v] (truthy v)) := by intro _; rfl) : ST X W a (mTru f) :=
  PT.imp (pt_val he hp) fun σ H Q t => t_tru t
end
/-- a < b < c -/
def mChain (g g' : D → D → Hq → Option (D × Hq)) (fa fb fc : Ev D) : Ev D := fun ρ h => (fa ρ h).bind fun x h1 => (fb ρ h1).bind fun y h2 => match g x y h2 with
  | some (.bl true, h3) => (fc ρ h3).bind fun z h4 => .of (g' y z h4)
  | some (.bl false, h3) => .ok (.bl false) h3
  | _ => .bad
section
variable {X : Cx} {W : WX} {pos : Pos} {a b c : Expr} {fa fb fc : Ev D} {g g' : D → D → Hq → Option (D × Hq)}
theorem t_chain {σ : L2.St} {H : Hp} {Q : VK} (t : tE X.K W (mChain g g' fa fb fc) σ H Q) :
    tChain (fun x y H Q => ∃ mp h dx dy, HRel X.K mp h H ∧ Rp X.K mp H dx x ∧ Rp X.K mp H dy y ∧ PostO X.K (rD X.K) mp H (g dx dy h) Q)
      (fun x y H Q => ∃ mp h dx dy, HRel X.K mp h H ∧ Rp X.K mp H dx x ∧ Rp X.K mp H dy y ∧ PostO X.K (rD X.K) mp H (g' dx dy h) Q) (tE X.K W fa) (tE X.K W fb) (tE X.K W fc) σ H Q := by
  obtain ⟨ρ, h, mp, r, e, p⟩ := t
  refine ⟨ρ, h, mp, r, e, Post.mono (Post.bind p) fun x H1 ⟨mp1, h1, d1, le1, r1, q1, p1⟩ => ?_⟩
  refine ⟨ρ, h1, mp1, r1, e.mono le1, Post.mono (Post.bind p1) fun y H2 ⟨mp2, h2, d2, le2, r2, q2, p2⟩ => ?_⟩
  refine ⟨mp2, h2, d1, d2, r2, q1.mono le2, q2, ?_⟩
  cases eg : g d1 d2 h2 with
  | none => simp only [eg] at p2; exact p2.elim
  | some w =>
    obtain ⟨dw, h3⟩ := w
    cases dw with
    | bl k =>
      intro v mp3 H3 le3 r3 q3
      cases q3
      refine ⟨k, rfl, ?_⟩
      cases k with
      | true =>
        simp only [eg] at p2
        rw [if_pos rfl]
        refine ⟨ρ, h3, mp3, r3, (e.mono le1).mono (le2.trans le3), Post.mono (Post.bind (p2.le le3)) fun z H4 ⟨mp4, h4, d4, le4, r4, q4, p4⟩ => ?_⟩
        exact ⟨mp4, h4, d2, d4, r4, q2.mono (le3.trans le4), q4, p4.o⟩
      | false =>
        simp only [eg] at p2
        rw [if_neg (by decide)]
        exact Post.ok (p2.le le3) r3 (.bl false)
    | _ => simp only [eg] at p2; exact p2.elim
theorem se_chain {op op' : CmpOp} (ho : O2 X (compareOp op) g) (ho' : O2 X (compareOp op') g') (ha : SE X W a fa) (hb : SE X W b fb) (hc : SE X W c fc) (hm : lastMarks [op, op'] [b, c] = false) :
    SE X W (.Compare a [op, op'] [b, c] pos) (mChain g g' fa fb fc) := PE.imp (pe_chain ho ho' ha hb hc hm) fun σ H Q t => t_chain t
theorem st_chain {op op' : CmpOp} (ho : O2 X (compareOp op) g) (ho' : O2 X (compareOp op') g') (ha : SE X W a fa) (hb : SE X W b fb) (hc : SE X W c fc) (hm : lastMarks [op, op'] [b, c] = false) :
    ST X W (.Compare a [op, op'] [b, c] pos) (mTru (mChain g g' fa fb fc)) := PT.imp (pt_chain ho ho' ha hb hc hm) fun σ H Q t => by
  obtain ⟨ρ, h, mp, r, e, p⟩ := t_tru t
  exact t_chain ⟨ρ, h, mp, r, e, p⟩
end
end Mi
namespace Mi
open PySem PySem.Spec L2
/-! ### the operators -/
def okI (i : Int) : Prop := -(2 ^ 64) < i ∧ i < 2 ^ 64
instance (i : Int) : Decidable (okI i) := by unfold okI; infer_instance
def gAdd (x y : D) (h : Hq) : Option (D × Hq) := match x, y with
  | .int i, .int j => some (.int (i + j), h)
  | .str i, .str j => if i.length + j.length ≤ sizeLine then some (.str (i ++ j), h) else none
  | .tup i, .tup j => if i.length + j.length ≤ sizeLine then some (.tup (i ++ j), h) else none
  | x, y => match asL h x, asL h y with
    | some i, some j => if i.length + j.length ≤ sizeLine then some (.lst (i ++ j), h) else none
    | _, _ => none
def gSub (x y : D) (h : Hq) : Option (D × Hq) := match x, y with
  | .int i, .int j => some (.int (i - j), h)
  | _, _ => none
def gMul (x y : D) (h : Hq) : Option (D × Hq) := match x, y with
  | .int i, .int j => if okI i ∨ okI j then some (.int (i * j), h) else none
  | _, _ => none
def gMod (x y : D) (h : Hq) : Option (D × Hq) := match x, y with
  | .int i, .int j => if 0 < j then some (.int (i % j), h) else none
  | _, _ => none
def gDiv (x y : D) (h : Hq) : Option (D × Hq) := match x, y with
  | .int i, .int j => if 0 < j ∧ j < 1073741824 then some (.int (i / j), h) else none
  | _, _ => none
/-- == of data -/
def eqH (h : Hq) (x y : D) : Option Bool := match (nz h x).py, (nz h y).py with
  | some a, some b => if min a.depth b.depth ≤ 64 then some (PyData.eqv a b) else none
  | _, _ => none
def gEq (x y : D) (h : Hq) : Option (D × Hq) := (eqH h x y).map fun b => (.bl b, h)
def gNe (x y : D) (h : Hq) : Option (D × Hq) := (eqH h x y).map fun b => (.bl (!b), h)
def gLt (x y : D) (h : Hq) : Option (D × Hq) := match x, y with
  | .int i, .int j => some (.bl (decide (i < j)), h)
  | .str i, .str j => some (.bl (decide (i.cps.toList < j.cps.toList)), h)
  | x, y => match (nz h x).py, (nz h y).py with
    | some a, some b => if PySem.W.alike a b = true ∧ a.depth ≤ 64 ∧ 0 < a.depth then some (.bl (PySem.W.dataLt a b), h) else none
    | _, _ => none
def gLe (x y : D) (h : Hq) : Option (D × Hq) := match x, y with
  | .int i, .int j => some (.bl (decide (i ≤ j)), h)
  | .str i, .str j => some (.bl (!decide (j.cps.toList < i.cps.toList)), h)
  | _, _ => none
def gGt (x y : D) (h : Hq) : Option (D × Hq) := match x, y with
  | .int i, .int j => some (.bl (decide (j < i)), h)
  | .str i, .str j => some (.bl (decide (j.cps.toList < i.cps.toList)), h)
  | _, _ => none
def gGe (x y : D) (h : Hq) : Option (D × Hq) := match x, y with
  | .int i, .int j => some (.bl (decide (j ≤ i)), h)
  | .str i, .str j => some (.bl (!decide (i.cps.toList < j.cps.toList)), h)
  | _, _ => none
def isNon : D → Bool
  | .non => true
  | _ => false
def gIs (x y : D) (h : Hq) : Option (D × Hq) := match y with
  | .non => some (.bl (isNon x), h)
  | _ => none
def gIsNot (x y : D) (h : Hq) : Option (D × Hq) := match y with
  | .non => some (.bl (!isNon x), h)
  | _ => none
/-- the pairs of a dict -/
def asD (h : Hq) : D → Option (List (D × D))
  | .dic kvs => some kvs
  | .ref l => (match h[l]? with
    | some (.dic kvs) => some kvs
    | _ => none)
  | _ => none
/-- a key: an int, a text, or a tuple of these -/
def isK : D → Option Key
  | .int i => some (.inl i)
  | .str x => some (.inr x)
  | _ => none
def isKs : List D → Option (List Key)
  | [] => some []
  | d :: ds => match isK d, isKs ds with
    | some a, some b => some (a :: b)
    | _, _ => none
def keyEq : D → D → Bool
  | .int i, .int j => decide (i = j)
  | .str i, .str j => decide (i = j)
  | .tup xs, .tup ys => (match isKs xs, isKs ys with
    | some a, some b => decide (a = b)
    | _, _ => false)
  | _, _ => false
def getD (kvs : List (D × D)) (k : D) : Option D := (kvs.find? fun p => keyEq p.1 k).map (·.2)
/-- which keys a dict takes: 1 ints and texts, 2 tuples -/
def keyKind : D → Nat
  | .int _ => 1
  | .str _ => 1
  | .tup xs => if (isKs xs).isSome then 2 else 0
  | _ => 0
def kindsOk (kvs : List (D × D)) (k : D) : Bool := keyKind k != 0 && kvs.all fun p => keyKind p.1 == keyKind k
def inH (h : Hq) (x y : D) : Option Bool := match y with
  | .str z => (match x with
    | .str w => (match w.cps.toList with
      | [c] => some (decide (c ∈ z.cps.toList))
      | _ => none)
    | _ => none)
  | y => match asD h y with
    | some kvs => if kindsOk kvs x = true then some (getD kvs x).isSome else none
    | none => match (nz h x).py, (nz h y).py with
      | some d, some (.list ds) => if min (PyData.depthAll ds) d.depth ≤ 64 then some (ds.any fun z => PyData.eqv z d) else none
      | some d, some (.tuple ds) => if min (PyData.depthAll ds) d.depth ≤ 64 then some (ds.any fun z => PyData.eqv z d) else none
      | _, _ => none
def gIn (x y : D) (h : Hq) : Option (D × Hq) := (inH h x y).map fun b => (.bl b, h)
def gNotIn (x y : D) (h : Hq) : Option (D × Hq) := (inH h x y).map fun b => (.bl (!b), h)
section
variable {X : Cx}
theorem o2_add : O2 X (binaryOp .Add) gAdd := by
  intro pins s σ H x y v u Q I rx ry ⟨mp, h, dx, dy, r, ax, ay, p⟩
  unfold gAdd at p
  split at p
  · cases ax; cases ay
    exact op_add pins s σ H _ _ v u Q I rx ry ⟨_, _, rfl, rfl, p _ mp H .refl r (.int _)⟩
  · split at p
    · rename_i hz
      cases ax; cases ay
      exact op_add_str pins s σ H _ _ v u Q I rx ry ⟨_, _, rfl, rfl, hz, p _ mp H .refl r (.str _)⟩
    · exact p.elim
  · split at p
    · rename_i i j hz
      cases ax with
      | @tup a vs _ h1 n1 q1 =>
        cases ay with
        | @tup b ws _ h2 n2 q2 =>
          refine op_catA pins s σ H _ _ v u Q I rx ry ⟨a, b, vs, ws, rfl, rfl, SqT.of h1, SqT.of h2, by rw [← q1.length, ← q2.length]; exact hz, fun e => ?_, fun _ e => ?_, fun _ _ p' hp => ?_⟩
          · subst e
            cases q1
            exact p _ mp H .refl r (.tup h2 n2 q2)
          · subst e
            cases q2
            exact p _ mp H .refl r (by rw [List.append_nil]; exact .tup h1 n1 q1)
          · obtain ⟨l1, l2, l3⟩ := newT r hp (q1.append q2)
            exact p _ mp _ l1 l2 l3
    · exact p.elim
  · split at p
    · rename_i i j e1 e2
      split at p
      · rename_i hz
        obtain ⟨pa, vs, rfl, h1, q1⟩ := asL_ok r ax e1
        obtain ⟨pb, ws, rfl, h2, q2⟩ := asL_ok r ay e2
        refine op_cat pins s σ H _ _ v u Q I rx ry ⟨pa, pb, vs, ws, rfl, rfl, h1, h2, by rw [← q1.length, ← q2.length]; exact hz, fun p' hp => ?_⟩
        obtain ⟨l1, l2, l3⟩ := newL r hp (q1.append q2)
        exact p _ mp _ l1 l2 l3
      · exact p.elim
    · exact p.elim
theorem o2_sub : O2 X (binaryOp .Sub) gSub := by
  intro pins s σ H x y v u Q I rx ry ⟨mp, h, dx, dy, r, ax, ay, p⟩
  unfold gSub at p
  split at p
  · cases ax; cases ay
    exact op_sub pins s σ H _ _ v u Q I rx ry ⟨_, _, rfl, rfl, p _ mp H .refl r (.int _)⟩
  · exact p.elim
theorem o2_mul : O2 X (binaryOp .Mult) gMul := by
  intro pins s σ H x y v u Q I rx ry ⟨mp, h, dx, dy, r, ax, ay, p⟩
  unfold gMul at p
  split at p
  · split at p
    · rename_i hz
      cases ax; cases ay
      exact op_mul pins s σ H _ _ v u Q I rx ry ⟨_, _, rfl, rfl, hz, p _ mp H .refl r (.int _)⟩
    · exact p.elim
  · exact p.elim
theorem o2_mod : O2 X (binaryOp .Mod) gMod := by
  intro pins s σ H x y v u Q I rx ry ⟨mp, h, dx, dy, r, ax, ay, p⟩
  unfold gMod at p
  split at p
  · split at p
    · rename_i hz
      cases ax; cases ay
      exact op_mod pins s σ H _ _ v u Q I rx ry ⟨_, _, rfl, rfl, hz, p _ mp H .refl r (.int _)⟩
    · exact p.elim
  · exact p.elim
theorem o2_div : O2 X (binaryOp .FloorDiv) gDiv := by
  intro pins s σ H x y v u Q I rx ry ⟨mp, h, dx, dy, r, ax, ay, p⟩
  unfold gDiv at p
  split at p
  · split at p
    · rename_i hz
      cases ax; cases ay
      exact op_fdiv pins s σ H _ _ v u Q I rx ry ⟨_, _, rfl, rfl, hz, p _ mp H .refl r (.int _)⟩
    · exact p.elim
  · exact p.elim
theorem o2_eq (hu : X.A.units + 64 < cLine) : O2 X (compareOp .Eq) gEq := by
  intro pins s σ H x y v u Q I rx ry ⟨mp, h, dx, dy, r, ax, ay, p⟩
  unfold gEq eqH at p
  split at p
  · rename_i a b e1 e2
    split at p
    · rename_i hz
      obtain ⟨as, r1⟩ := Dp.reads I _ _ _ (ax.nz r e1) rx
      obtain ⟨bs, r2⟩ := Dp.reads I _ _ _ (ay.nz r e2) ry
      exact PySem.SeqAt.eq_plain r1 r2 (py_plain e1) (py_plain e2) (by omega) ⟨.bl _, H, I, rfl, p _ mp H .refl r (.bl _)⟩
    · exact p.elim
  · exact p.elim
theorem o2_ne (hu : X.A.units + 64 < cLine) : O2 X (compareOp .NotEq) gNe := by
  intro pins s σ H x y v u Q I rx ry ⟨mp, h, dx, dy, r, ax, ay, p⟩
  unfold gNe eqH at p
  split at p
  · rename_i a b e1 e2
    split at p
    · rename_i hz
      obtain ⟨as, r1⟩ := Dp.reads I _ _ _ (ax.nz r e1) rx
      obtain ⟨bs, r2⟩ := Dp.reads I _ _ _ (ay.nz r e2) ry
      exact PySem.SeqAt.ne_plain r1 r2 (py_plain e1) (py_plain e2) (by omega) ⟨.bl _, H, I, rfl, p _ mp H .refl r (.bl _)⟩
    · exact p.elim
  · exact p.elim
theorem o2_lt (hu : X.A.units + 64 < cLine) : O2 X (compareOp .Lt) gLt := by
  intro pins s σ H x y v u Q I rx ry ⟨mp, h, dx, dy, r, ax, ay, p⟩
  unfold gLt at p
  split at p
  · cases ax; cases ay
    exact op_lt pins s σ H _ _ v u Q I rx ry ⟨_, _, rfl, rfl, p _ mp H .refl r (.bl _)⟩
  · cases ax; cases ay
    exact op_lt_str pins s σ H _ _ v u Q I rx ry ⟨_, _, rfl, rfl, p _ mp H .refl r (.bl _)⟩
  · split at p
    · rename_i a b e1 e2
      split at p
      · rename_i hz
        obtain ⟨as, r1⟩ := Dp.reads I _ _ _ (ax.nz r e1) rx
        obtain ⟨bs, r2⟩ := Dp.reads I _ _ _ (ay.nz r e2) ry
        exact PySem.W.lt_data r1 r2 hz.1 (fun z => by rw [z] at hz; simp [PyData.depth] at hz) (by omega) ⟨.bl _, H, I, rfl, p _ mp H .refl r (.bl _)⟩
      · exact p.elim
    · exact p.elim
theorem o2_le : O2 X (compareOp .LtE) gLe := by
  intro pins s σ H x y v u Q I rx ry ⟨mp, h, dx, dy, r, ax, ay, p⟩
  unfold gLe at p
  split at p
  · cases ax; cases ay
    exact op_le pins s σ H _ _ v u Q I rx ry ⟨_, _, rfl, rfl, p _ mp H .refl r (.bl _)⟩
  · cases ax; cases ay
    exact op_le_str pins s σ H _ _ v u Q I rx ry ⟨_, _, rfl, rfl, p _ mp H .refl r (.bl _)⟩
  · exact p.elim
theorem o2_gt : O2 X (compareOp .Gt) gGt := by
  intro pins s σ H x y v u Q I rx ry ⟨mp, h, dx, dy, r, ax, ay, p⟩
  unfold gGt at p
  split at p
  · cases ax; cases ay
    exact op_gt pins s σ H _ _ v u Q I rx ry ⟨_, _, rfl, rfl, p _ mp H .refl r (.bl _)⟩
  · cases ax; cases ay
    exact op_gt_str pins s σ H _ _ v u Q I rx ry ⟨_, _, rfl, rfl, p _ mp H .refl r (.bl _)⟩
  · exact p.elim
theorem o2_ge : O2 X (compareOp .GtE) gGe := by
  intro pins s σ H x y v u Q I rx ry ⟨mp, h, dx, dy, r, ax, ay, p⟩
  unfold gGe at p
  split at p
  · cases ax; cases ay
    exact op_ge pins s σ H _ _ v u Q I rx ry ⟨_, _, rfl, rfl, p _ mp H .refl r (.bl _)⟩
  · cases ax; cases ay
    exact op_ge_str pins s σ H _ _ v u Q I rx ry ⟨_, _, rfl, rfl, p _ mp H .refl r (.bl _)⟩
  · exact p.elim
theorem rp_none {K : PySem.W.Frag} {mp : Wd} {H : Hp} {d : D} {v : V} (a : Rp K mp H d v) : decide (v = .non) = isNon d := by
  cases a <;> simp [isNon]
theorem o2_is : O2 X (compareOp .Is) gIs := by
  intro pins s σ H x y v u Q I rx ry ⟨mp, h, dx, dy, r, ax, ay, p⟩
  unfold gIs at p
  split at p
  · cases ay
    refine op_isN pins s σ H _ _ v u Q I rx ry ⟨rfl, ?_⟩
    rw [rp_none ax]
    exact p _ mp H .refl r (.bl _)
  · exact p.elim
theorem o2_isnot : O2 X (compareOp .IsNot) gIsNot := by
  intro pins s σ H x y v u Q I rx ry ⟨mp, h, dx, dy, r, ax, ay, p⟩
  unfold gIsNot at p
  split at p
  · cases ay
    refine op_notN pins s σ H _ _ v u Q I rx ry ⟨rfl, ?_⟩
    rw [rp_none ax]
    exact p _ mp H .refl r (.bl _)
  · exact p.elim
end
end Mi
namespace Mi
open PySem PySem.Spec L2
/-! ### dicts -/
def kT (k : List Key) : D := .tup (k.map kD)
theorem isK_kD (k : Key) : isK (kD k) = some k := by cases k <;> rfl
theorem isK_eq {d : D} {k : Key} (h : isK d = some k) : d = kD k := by
  cases d <;> simp [isK] at h <;> subst h <;> rfl
theorem isKs_kD : ∀ k : List Key, isKs (k.map kD) = some k
  | [] => rfl
  | a :: r => by simp [isKs, isK_kD, isKs_kD r]
theorem isKs_eq : ∀ {ds : List D} {k : List Key}, isKs ds = some k → ds = k.map kD
  | [], _, h => by simp [isKs] at h; subst h; rfl
  | d :: ds, _, h => by
    simp only [isKs] at h
    cases q : isK d with
    | none => rw [q] at h; cases h
    | some a =>
      cases q2 : isKs ds with
      | none => rw [q, q2] at h; cases h
      | some b =>
        rw [q, q2] at h
        cases h
        rw [isK_eq q, isKs_eq q2]; rfl
theorem keyEq_k (a b : Key) : keyEq (kD a) (kD b) = decide (a = b) := by
  cases a <;> cases b <;> simp [kD, keyEq]
theorem keyEq_t (a b : List Key) : keyEq (kT a) (kT b) = decide (a = b) := by
  simp only [kT, keyEq, isKs_kD]
theorem keyKind_k (a : Key) : keyKind (kD a) = 1 := by cases a <;> rfl
theorem keyKind_t (a : List Key) : keyKind (kT a) = 2 := by simp [kT, keyKind, isKs_kD]
/-- a key is one of two kinds -/
theorem key_cases {d : D} (h : keyKind d ≠ 0) : (∃ k, d = kD k ∧ keyKind d = 1) ∨ ∃ k, d = kT k ∧ keyKind d = 2 := by
  cases d with
  | int i => exact .inl ⟨.inl i, rfl, rfl⟩
  | str x => exact .inl ⟨.inr x, rfl, rfl⟩
  | tup xs =>
    simp only [keyKind] at h ⊢
    cases q : isKs xs with
    | none => simp [q] at h
    | some k => exact .inr ⟨k, by rw [isKs_eq q]; rfl, by simp [q]⟩
  | _ => simp [keyKind] at h
section
variable {K : PySem.W.Frag} {mp : Wd} {H : Hp} {h : Hq}
theorem getD_k (k : Key) : ∀ {kvs : List (D × D)} {ks : List Key} {vs : List V}, ks.length = vs.length → kvs.map (·.1) = ks.map kD → RpAll K mp H (kvs.map (·.2)) vs →
    (getD kvs (kD k) = none ∧ valV (ks.zip vs) k = none) ∨ ∃ d v, getD kvs (kD k) = some d ∧ valV (ks.zip vs) k = some v ∧ Rp K mp H d v
  | [], [], _, _, _, _ => .inl ⟨rfl, rfl⟩
  | [], _ :: _, _, _, e, _ => by simp at e
  | _ :: _, [], _, _, e, _ => by simp at e
  | (k1, d1) :: kvs, k2 :: ks, vs, l, e, r => by
    cases vs with
    | nil => simp at l
    | cons v1 vs =>
      simp only [List.map_cons, List.cons.injEq] at e
      obtain ⟨e1, e2⟩ := e
      subst e1
      cases r with
      | cons q t =>
        by_cases hk : k2 = k
        · subst hk
          refine .inr ⟨d1, v1, ?_, ?_, q⟩
          · simp [getD, List.find?_cons, keyEq_k]
          · exact valV_pos (p := (k2, v1)) rfl
        · have h1 : getD ((kD k2, d1) :: kvs) (kD k) = getD kvs (kD k) := by simp [getD, List.find?_cons, keyEq_k, hk]
          have h2 : valV ((k2 :: ks).zip (v1 :: vs)) k = valV (ks.zip vs) k := valV_neg (p := (k2, v1)) hk
          rw [h1, h2]
          exact getD_k k (by simpa using l) e2 t
theorem getD_t (k : List Key) : ∀ {kvs : List (D × D)} {ks : List (List Key)} {vs : List V}, ks.length = vs.length → kvs.map (·.1) = ks.map (fun k => .tup (k.map kD)) → RpAll K mp H (kvs.map (·.2)) vs →
    (getD kvs (kT k) = none ∧ valV (ks.zip vs) k = none) ∨ ∃ d v, getD kvs (kT k) = some d ∧ valV (ks.zip vs) k = some v ∧ Rp K mp H d v
  | [], [], _, _, _, _ => .inl ⟨rfl, rfl⟩
  | [], _ :: _, _, _, e, _ => by simp at e
  | _ :: _, [], _, _, e, _ => by simp at e
  | (k1, d1) :: kvs, k2 :: ks, vs, l, e, r => by
    cases vs with
    | nil => simp at l
    | cons v1 vs =>
      simp only [List.map_cons, List.cons.injEq] at e
      obtain ⟨e1, e2⟩ := e
      have e1 : k1 = kT k2 := e1
      subst e1
      cases r with
      | cons q t =>
        by_cases hk : k2 = k
        · subst hk
          refine .inr ⟨d1, v1, ?_, ?_, q⟩
          · simp [getD, List.find?_cons, keyEq_t]
          · exact valV_pos (p := (k2, v1)) rfl
        · have h1 : getD ((kT k2, d1) :: kvs) (kT k) = getD kvs (kT k) := by simp [getD, List.find?_cons, keyEq_t, hk]
          have h2 : valV ((k2 :: ks).zip (v1 :: vs)) k = valV (ks.zip vs) k := valV_neg (p := (k2, v1)) hk
          rw [h1, h2]
          exact getD_t k (by simpa using l) e2 t
/-- how a dict lies in the heap -/
def DicAt (K : PySem.W.Frag) (mp : Wd) (H : Hp) (kvs : List (D × D)) (a : Addr) : Prop :=
  (∃ (ks : List Key) (vs : List V), H a = some (.dK (ks.zip vs)) ∧ ks.length = vs.length ∧ kvs.map (·.1) = ks.map kD ∧ RpAll K mp H (kvs.map (·.2)) vs) ∨
  (∃ (ks : List (List Key)) (vs : List V), kvs ≠ [] ∧ H a = some (.dT (ks.zip vs)) ∧ ks.length = vs.length ∧ kvs.map (·.1) = ks.map (fun k => .tup (k.map kD)) ∧ RpAll K mp H (kvs.map (·.2)) vs)
theorem asD_ok (r : HRel K mp h H) {d : D} {v : V} {kvs : List (D × D)} (a : Rp K mp H d v) (e : asD h d = some kvs) : ∃ p, v = .ref p ∧ DicAt K mp H kvs p := by
  unfold asD at e
  split at e
  · cases e
    cases a with
    | dicK h1 h2 h3 h4 h5 => exact ⟨_, rfl, .inl ⟨_, _, h1, h2, h4, h5⟩⟩
    | dicT z h1 h2 h3 h4 h5 => exact ⟨_, rfl, .inr ⟨_, _, z, h1, h2, h4, h5⟩⟩
  · split at e
    · rename_i q
      cases e
      cases a with
      | ref m => exact ⟨_, rfl, r.obj _ _ _ q m⟩
    · cases e
  · cases e
theorem rp_key {k : Key} {v : V} (a : Rp K mp H (kD k) v) : v = kV k := by
  cases k <;> cases a <;> rfl
theorem rp_keys : ∀ {k : List Key} {vs : List V}, RpAll K mp H (k.map kD) vs → vs = k.map kV
  | [], _, a => by cases a; rfl
  | k :: ks, _, a => by
    cases a with
    | cons h t => rw [rp_key h, rp_keys t]; rfl
theorem rp_tkey {k : List Key} {v : V} (a : Rp K mp H (kT k) v) : ∃ b, v = .ref b ∧ H b = some (.tup (k.map kV)) ∧ b ∉ mp.bn := by
  cases a with
  | tup h1 h2 h3 => exact ⟨_, rfl, by rw [h1, rp_keys h3], h2⟩
end
/-! the empty dict is of both kinds -/
section
variable {X : Cx} {pins : List (Addr × Obj)} {σ : L2.St} {H : Hp} {s : Shared} {a : Addr}
theorem inv_KT (I : Inv X pins σ H s) (h : H a = some (.dK [])) : Inv X pins σ (upd H a (.dT [])) s := by
  obtain ⟨z, ne, vs, kv, o, es, ep, e, ed, ed2, _, pr, _⟩ := I.hok a _ h
  have vn : vs = [] := by cases kv; rfl
  subst vn
  have en : es.toList = [] := by
    have := pr
    cases hq : es.toList with
    | nil => rfl
    | cons x r => rw [hq] at this; cases this
  have new : ObjOk X.prog X.w (upd H a (.dT [])) s.heap a (.dT []) := ⟨by simp, ne, [], .nil, o, es, ep, e, ed, ed2, by rw [en]; rfl, List.nodup_nil⟩
  exact I.write (x := a) (e := a) (t' := s.toks) (h' := s.heap) (by rw [h]; trivial) (.inl rfl) (fun b v _ q => q) ⟨o, e⟩ new
theorem inv_TK (I : Inv X pins σ H s) (h : H a = some (.dT [])) : Inv X pins σ (upd H a (.dK [])) s := by
  obtain ⟨z, ne, xs, kv, o, es, ep, e, ed, ed2, pr, _⟩ := I.hok a _ h
  have vn : xs = [] := by cases kv; rfl
  subst vn
  have en : es = #[] := by
    have h1 : es.toList = [] := pr
    exact Array.toList_eq_nil_iff.mp h1
  subst en
  have new : ObjOk X.prog X.w (upd H a (.dK [])) s.heap a (.dK []) := ⟨by simp, ne, [], .nil, o, #[], ep, e, ed, ed2, fun x hx => by simp at hx, .nil, List.nodup_nil⟩
  exact I.write (x := a) (e := a) (t' := s.toks) (h' := s.heap) (by rw [h]; trivial) (.inl rfl) (fun b v _ q => q) ⟨o, e⟩ new
theorem upd_back {o : HO} (h : H a = some o) (u : HO) : upd (upd H a u) a o = H := by
  rw [upd_upd]
  funext b
  by_cases hb : b = a
  · subst hb; rw [upd_same, h]
  · rw [upd_ne hb]
end
/-- what a dict holds at a key, the same over a heap H' that differs only in which empty dict it is -/
theorem kinds_mem {kvs : List (D × D)} {x : D} (h : kindsOk kvs x = true) : keyKind x ≠ 0 ∧ ∀ p ∈ kvs, keyKind p.1 = keyKind x := by
  unfold kindsOk at h
  simp only [Bool.and_eq_true, bne_iff_ne, ne_eq, List.all_eq_true, beq_iff_eq] at h
  exact h
theorem DicAt.get {K : PySem.W.Frag} {mp : Wd} {H : Hp} {kvs : List (D × D)} {a : Addr} {x : D} {y : V} (c : DicAt K mp H kvs a) (k : kindsOk kvs x = true) (ax : Rp K mp H x y) :
    (∃ o, DGet H a y o ∧ ((getD kvs x = none ∧ o = none) ∨ ∃ d v, getD kvs x = some d ∧ o = some v ∧ Rp K mp H d v)) ∨
    (kvs = [] ∧ H a = some (.dK []) ∧ ∃ k, x = kT k) := by
  obtain ⟨k0, km⟩ := kinds_mem k
  rcases c with ⟨ks, vs, e, l, ek, rv⟩ | ⟨ks, vs, ne, e, l, ek, rv⟩
  · rcases key_cases k0 with ⟨kk, rfl, q⟩ | ⟨kk, rfl, q⟩
    · rw [rp_key ax]
      exact .inl ⟨_, DGet.k e, by
        rcases getD_k kk l ek rv with ⟨h1, h2⟩ | ⟨d, v, h1, h2, h3⟩
        · exact .inl ⟨h1, h2⟩
        · exact .inr ⟨d, v, h1, h2, h3⟩⟩
    · right
      cases kvs with
      | nil =>
        cases ks with
        | nil => exact ⟨rfl, e, kk, rfl⟩
        | cons _ _ => simp at ek
      | cons p r =>
        cases ks with
        | nil => simp at ek
        | cons k1 ks =>
          simp only [List.map_cons, List.cons.injEq] at ek
          have := km p (by simp)
          rw [ek.1, keyKind_k, keyKind_t] at this
          cases this
  · rcases key_cases k0 with ⟨kk, rfl, q⟩ | ⟨kk, rfl, q⟩
    · right
      cases kvs with
      | nil =>
        cases ks with
        | nil => exact absurd rfl ne
        | cons _ _ => simp at ek
      | cons p r =>
        cases ks with
        | nil => simp at ek
        | cons k1 ks =>
          simp only [List.map_cons, List.cons.injEq] at ek
          have := km p (by simp)
          rw [show p.1 = kT k1 from ek.1, keyKind_k, keyKind_t] at this
          cases this
    · obtain ⟨b, rfl, hb, nb⟩ := rp_tkey ax
      exact .inl ⟨_, DGet.t e hb, by
        rcases getD_t kk l ek rv with ⟨h1, h2⟩ | ⟨d, v, h1, h2, h3⟩
        · exact .inl ⟨h1, h2⟩
        · exact .inr ⟨d, v, h1, h2, h3⟩⟩
section
variable {X : Cx} {pins : List (Addr × Obj)} {σ : L2.St} {H : Hp} {s : Shared}
/-- a question to a dict, at whichever kind the empty one is -/
theorem dic_ask {mp : Wd} {kvs : List (D × D)} {a : Addr} {x : D} {y : V} (I : Inv X pins σ H s) (c : DicAt X.K mp H kvs a) (k : kindsOk kvs x = true) (ax : Rp X.K mp H x y) :
    ∃ H1 o, Inv X pins σ H1 s ∧ DGet H1 a y o ∧ (∀ s', Inv X pins σ H1 s' → Inv X pins σ H s') ∧ ((getD kvs x = none ∧ o = none) ∨ ∃ d v, getD kvs x = some d ∧ o = some v ∧ Rp X.K mp H d v) := by
  rcases c.get k ax with ⟨o, g, h⟩ | ⟨e, e1, kk, e2⟩
  · exact ⟨H, o, I, g, fun _ z => z, h⟩
  · subst e e2
    obtain ⟨b, rfl, hb, nb⟩ := rp_tkey ax
    have hba : b ≠ a := fun z => by rw [z, e1] at hb; cases hb
    refine ⟨upd H a (.dT []), none, inv_KT I e1, DGet.t (kvs := []) (k := kk) upd_same (by rw [upd_ne hba]; exact hb), fun s' I' => ?_, .inl ⟨rfl, rfl⟩⟩
    have := inv_TK I' upd_same
    rw [upd_back e1] at this
    exact this
theorem str_one {w : Str} {c : Nat} (h : w.cps.toList = [c]) : w = ⟨#[c]⟩ := by
  cases w with
  | mk a => cases a with
    | mk l => simp at h; subst h; rfl
theorem o2_in (hu : X.A.units + 65 < cLine) : O2 X (compareOp .In) gIn := by
  intro pins s σ H x y v u Q I rx ry ⟨mp, h, dx, dy, r, ax, ay, p⟩
  unfold gIn inH at p
  split at p
  · split at p
    · split at p
      · rename_i z w c e
        cases ax; cases ay
        rw [str_one e] at rx
        exact op_in_sign pins s σ H _ _ v u Q I rx ry ⟨c, _, rfl, rfl, p _ mp H .refl r (.bl _)⟩
      · exact p.elim
    · exact p.elim
  · split at p
    · rename_i kvs e
      split at p
      · rename_i hk
        obtain ⟨a, rfl, c⟩ := asD_ok r ay e
        cases ry
        obtain ⟨H1, o, I1, g, back, q⟩ := dic_ask I c hk ax
        refine d_in (by omega) I1 g rx fun s' I2 => ⟨.bl _, H, back s' I2, rfl, ?_⟩
        have e2 : o.isSome = (getD kvs dx).isSome := by rcases q with ⟨h1, h2⟩ | ⟨d, w, h1, h2, _⟩ <;> rw [h1, h2] <;> rfl
        rw [e2]
        exact p _ mp H .refl r (.bl _)
      · exact p.elim
    · split at p
      · rename_i d ds e1 e2
        split at p
        · rename_i hz
          obtain ⟨as, r1⟩ := Dp.reads I _ _ _ (ax.nz r e1) rx
          obtain ⟨bs, r2⟩ := Dp.reads I _ _ _ (ay.nz r e2) ry
          exact PySem.SeqAt.in_list_data r2 r1 (by have := py_plain e2; simpa [PyData.plain] using this) (py_plain e1) (by omega) ⟨.bl _, H, I, rfl, p _ mp H .refl r (.bl _)⟩
        · exact p.elim
      · rename_i d ds e1 e2
        split at p
        · rename_i hz
          obtain ⟨as, r1⟩ := Dp.reads I _ _ _ (ax.nz r e1) rx
          obtain ⟨bs, r2⟩ := Dp.reads I _ _ _ (ay.nz r e2) ry
          exact PySem.SeqAt.in_tuple_data r2 r1 (by have := py_plain e2; simpa [PyData.plain] using this) (py_plain e1) (by omega) ⟨.bl _, H, I, rfl, p _ mp H .refl r (.bl _)⟩
        · exact p.elim
      · exact p.elim
theorem o2_notIn (hu : X.A.units + 65 < cLine) : O2 X (compareOp .NotIn) gNotIn := by
  intro pins s σ H x y v u Q I rx ry ⟨mp, h, dx, dy, r, ax, ay, p⟩
  unfold gNotIn inH at p
  split at p
  · split at p
    · split at p
      · rename_i z w c e
        cases ax; cases ay
        rw [str_one e] at rx
        exact op_notIn_sign pins s σ H _ _ v u Q I rx ry ⟨c, _, rfl, rfl, p _ mp H .refl r (.bl _)⟩
      · exact p.elim
    · exact p.elim
  · split at p
    · rename_i kvs e
      split at p
      · rename_i hk
        obtain ⟨a, rfl, c⟩ := asD_ok r ay e
        cases ry
        obtain ⟨H1, o, I1, g, back, q⟩ := dic_ask I c hk ax
        refine d_notIn (by omega) I1 g rx fun s' I2 => ⟨.bl _, H, back s' I2, rfl, ?_⟩
        have e2 : o.isSome = (getD kvs dx).isSome := by rcases q with ⟨h1, h2⟩ | ⟨d, w, h1, h2, _⟩ <;> rw [h1, h2] <;> rfl
        rw [e2]
        exact p _ mp H .refl r (.bl _)
      · exact p.elim
    · split at p
      · rename_i d ds e1 e2
        split at p
        · rename_i hz
          obtain ⟨as, r1⟩ := Dp.reads I _ _ _ (ax.nz r e1) rx
          obtain ⟨bs, r2⟩ := Dp.reads I _ _ _ (ay.nz r e2) ry
          exact PySem.SeqAt.notIn_list_data r2 r1 (by have := py_plain e2; simpa [PyData.plain] using this) (py_plain e1) (by omega) ⟨.bl _, H, I, rfl, p _ mp H .refl r (.bl _)⟩
        · exact p.elim
      · rename_i d ds e1 e2
        split at p
        · rename_i hz
          obtain ⟨as, r1⟩ := Dp.reads I _ _ _ (ax.nz r e1) rx
          obtain ⟨bs, r2⟩ := Dp.reads I _ _ _ (ay.nz r e2) ry
          exact PySem.SeqAt.notIn_tuple_data r2 r1 (by have := py_plain e2; simpa [PyData.plain] using this) (py_plain e1) (by omega) ⟨.bl _, H, I, rfl, p _ mp H .refl r (.bl _)⟩
        · exact p.elim
      · exact p.elim
end
end Mi
namespace Mi
open PySem PySem.Spec L2
/-! ### and, or, not -/
def mAnd (fa fb : Ev D) : Ev D := fun ρ h => (fa ρ h).bind fun x h1 => match x with
  | .bl true => fb ρ h1
  | .bl false => .ok (.bl false) h1
  | _ => .bad
def mOr (fa fb : Ev D) : Ev D := fun ρ h => (fa ρ h).bind fun x h1 => match x with
  | .bl true => .ok (.bl true) h1
  | .bl false => fb ρ h1
  | _ => .bad
def mNot (fa : Ev D) : Ev D := fun ρ h => (fa ρ h).bind fun x h1 => match x with
  | .bl b => .ok (.bl (!b)) h1
  | _ => .bad
def mNeg (fa : Ev D) : Ev D := fun ρ h => (fa ρ h).bind fun x h1 => match x with
  | .int i => .ok (.int (-i)) h1
  | _ => .bad
def mAndT (fa fb : Ev Bool) : Ev Bool := fun ρ h => (fa ρ h).bind fun x h1 => match x with
  | true => fb ρ h1
  | false => .ok false h1
def mOrT (fa fb : Ev Bool) : Ev Bool := fun ρ h => (fa ρ h).bind fun x h1 => match x with
  | true => .ok true h1
  | false => fb ρ h1
def mNotT (fa : Ev Bool) : Ev Bool := fun ρ h => (fa ρ h).bind fun x h1 => .ok (!x) h1
abbrev SW (X : Cx) (W : WX) (e : Expr) (f : Ev Bool) : Prop := PW X e (tT X.K W f)
theorem PW.imp {X : Cx} {e : Expr} {t t' : TT} (h : PW X e t) (i : ∀ σ H Q, t' σ H Q → t σ H Q) : PW X e t' := ⟨fun wh pins s σ H Q I q => h.run wh pins s σ H Q I (i σ H Q q)⟩
section
variable {X : Cx} {W : WX} {pos : Pos} {a b : Expr} {rest : List Expr} {fa fb : Ev D} {ga gb : Ev Bool}
theorem se_one {op : BoolOp} (ha : SE X W a fa) : SE X W (.BoolOp op [a] pos) fa := pe_one ha
theorem se_and (ha : SE X W a fa) (hb : SE X W (.BoolOp .And (b :: rest) pos) fb) : SE X W (.BoolOp .And (a :: b :: rest) pos) (mAnd fa fb) := PE.imp (pe_and ha hb) fun σ H Q ⟨ρ, h, mp, r, e, p⟩ => by
  refine ⟨ρ, h, mp, r, e, Post.mono (Post.bind p) fun x H1 ⟨mp1, h1, d1, le1, r1, q1, p1⟩ => ?_⟩
  cases d1 with
  | bl c =>
    cases q1
    refine ⟨c, rfl, ?_⟩
    cases c with
    | true => rw [if_pos rfl]; exact ⟨ρ, h1, mp1, r1, e.mono le1, p1⟩
    | false => rw [if_neg (by decide)]; exact Post.ok p1 r1 (.bl false)
  | _ => exact p1.elim
theorem se_or (ha : SE X W a fa) (hb : SE X W (.BoolOp .Or (b :: rest) pos) fb) : SE X W (.BoolOp .Or (a :: b :: rest) pos) (mOr fa fb) := PE.imp (pe_or ha hb) fun σ H Q ⟨ρ, h, mp, r, e, p⟩ => by
  refine ⟨ρ, h, mp, r, e, Post.mono (Post.bind p) fun x H1 ⟨mp1, h1, d1, le1, r1, q1, p1⟩ => ?_⟩
  cases d1 with
  | bl c =>
    cases q1
    refine ⟨c, rfl, ?_⟩
    cases c with
    | true => rw [if_pos rfl]; exact Post.ok p1 r1 (.bl true)
    | false => rw [if_neg (by decide)]; exact ⟨ρ, h1, mp1, r1, e.mono le1, p1⟩
  | _ => exact p1.elim
theorem se_not (ha : SE X W a fa) : SE X W (.UnaryOp .Not a pos) (mNot fa) := PE.imp (pe_not ha) fun σ H Q ⟨ρ, h, mp, r, e, p⟩ => by
  refine ⟨ρ, h, mp, r, e, Post.mono (Post.bind p) fun x H1 ⟨mp1, h1, d1, le1, r1, q1, p1⟩ => ?_⟩
  cases d1 with
  | bl c => cases q1; exact ⟨c, rfl, Post.ok p1 r1 (.bl _)⟩
  | _ => exact p1.elim
theorem se_neg (ha : SE X W a fa) : SE X W (.UnaryOp .USub a pos) (mNeg fa) := PE.imp (pe_un un_neg ha) fun σ H Q ⟨ρ, h, mp, r, e, p⟩ => by
  refine ⟨ρ, h, mp, r, e, Post.mono (Post.bind p) fun x H1 ⟨mp1, h1, d1, le1, r1, q1, p1⟩ => ?_⟩
  cases d1 with
  | int c => cases q1; exact ⟨c, rfl, Post.ok p1 r1 (.int _)⟩
  | _ => exact p1.elim
theorem sw_and1 (ha : ST X W a ga) : SW X W (.BoolOp .And [a] pos) ga := pw_and1 ha
theorem sw_or1 (ha : ST X W a ga) : SW X W (.BoolOp .Or [a] pos) ga := pw_or1 ha
theorem sw_and (ha : ST X W a ga) (hb : SW X W (.BoolOp .And (b :: rest) pos) gb) : SW X W (.BoolOp .And (a :: b :: rest) pos) (mAndT ga gb) := PW.imp (pw_and ha hb) fun σ H Q ⟨ρ, h, mp, r, e, p⟩ => by
  refine ⟨ρ, h, mp, r, e, Post.mono (Post.bind (R := rB) p) fun x H1 ⟨mp1, h1, d1, le1, r1, q1, p1⟩ => ?_⟩
  obtain rfl : d1 = x := q1
  cases d1 with
  | true => rw [if_pos rfl]; exact ⟨ρ, h1, mp1, r1, e.mono le1, p1⟩
  | false => rw [if_neg (by decide)]; exact Post.ok p1 r1 rfl
theorem sw_or (ha : ST X W a ga) (hb : SW X W (.BoolOp .Or (b :: rest) pos) gb) : SW X W (.BoolOp .Or (a :: b :: rest) pos) (mOrT ga gb) := PW.imp (pw_or ha hb) fun σ H Q ⟨ρ, h, mp, r, e, p⟩ => by
  refine ⟨ρ, h, mp, r, e, Post.mono (Post.bind (R := rB) p) fun x H1 ⟨mp1, h1, d1, le1, r1, q1, p1⟩ => ?_⟩
  obtain rfl : d1 = x := q1
  cases d1 with
  | true => rw [if_pos rfl]; exact Post.ok p1 r1 rfl
  | false => rw [if_neg (by decide)]; exact ⟨ρ, h1, mp1, r1, e.mono le1, p1⟩
theorem st_w (ha : SW X W a ga) : ST X W a ga := ha.pt
theorem st_not (ha : ST X W a ga) : ST X W (.UnaryOp .Not a pos) (mNotT ga) := PT.imp (pt_not ha) fun σ H Q ⟨ρ, h, mp, r, e, p⟩ => by
  refine ⟨ρ, h, mp, r, e, Post.mono (Post.bind (R := rB) p) fun x H1 ⟨mp1, h1, d1, le1, r1, q1, p1⟩ => ?_⟩
  obtain rfl : d1 = x := q1
  exact Post.ok p1 r1 rfl
end
/-! ### arguments, displays -/
def mNil : Ev (List D) := fun _ h => .ok [] h
def mCons (fe : Ev D) (fs : Ev (List D)) : Ev (List D) := fun ρ h => (fe ρ h).bind fun d h1 => (fs ρ h1).bind fun ds h2 => .ok (d :: ds) h2
def mTup (f : Ev (List D)) : Ev D := fun ρ h => (f ρ h).bind fun ds h1 => if ds.length ≤ 100 then .ok (.tup ds) h1 else .bad
def mLst (f : Ev (List D)) : Ev D := fun ρ h => (f ρ h).bind fun ds h1 => if ds.length ≤ 100 then .ok (.lst ds) h1 else .bad
def mLstR (f : Ev (List D)) : Ev D := fun ρ h => (f ρ h).bind fun ds h1 => if ds.length ≤ 100 then .ok (.ref h1.length) (h1 ++ [.lst ds]) else .bad
theorem hundred {n : Nat} (h : n ≤ 100) : n ≤ sizeLine := Nat.le_trans h (by decide)
section
variable {X : Cx} {W : WX} {pos : Pos} {a b : Expr} {es : List Expr} {fa fb : Ev D} {fs : Ev (List D)}
theorem sa_nil : SA X W [] mNil := PA.imp pa_nil fun σ H Q ⟨ρ, h, mp, r, e, p⟩ => Post.ok (v := []) p r .nil
theorem sa_cons (ha : SE X W a fa) (hs : SA X W es fs) (he : starEach (a :: es) X.env = (false, eval a X.env) :: starEach es X.env := by rfl) : SA X W (a :: es) (mCons fa fs) := PA.imp (pa_cons ha hs he) fun σ H Q ⟨ρ, h, mp, r, e, p⟩ => by
  refine ⟨ρ, h, mp, r, e, Post.mono (Post.bind p) fun x H1 ⟨mp1, h1, d1, le1, r1, q1, p1⟩ => ?_⟩
  refine ⟨ρ, h1, mp1, r1, e.mono le1, Post.mono (Post.bind (R := rA X.K) p1) fun y H2 ⟨mp2, h2, d2, le2, r2, q2, p2⟩ => ?_⟩
  exact Post.ok p2 r2 (.cons (q1.mono le2) q2)
theorem se_tup {k : Nat} (hs : SA X W es fs) : SE X W (.Tuple es k pos) (mTup fs) := PE.imp (pe_tup hs) fun σ H Q ⟨ρ, h, mp, r, e, p⟩ => by
  refine ⟨ρ, h, mp, r, e, Post.mono (Post.bind (R := rA X.K) p) fun x H1 ⟨mp1, h1, d1, le1, r1, q1, p1⟩ => ?_⟩
  dsimp only at p1
  split at p1
  · rename_i hz
    refine ⟨by rw [← q1.length]; exact hundred hz, fun a ha => ?_⟩
    obtain ⟨l1, l2, l3⟩ := newT r1 ha q1
    exact p1 _ mp1 _ l1 l2 l3
  · exact p1.elim
theorem se_lst (hs : SA X W es fs) : SE X W (.List es pos) (mLst fs) := PE.imp (pe_lst hs) fun σ H Q ⟨ρ, h, mp, r, e, p⟩ => by
  refine ⟨ρ, h, mp, r, e, Post.mono (Post.bind (R := rA X.K) p) fun x H1 ⟨mp1, h1, d1, le1, r1, q1, p1⟩ => ?_⟩
  dsimp only at p1
  split at p1
  · rename_i hz
    refine ⟨by rw [← q1.length]; exact hundred hz, fun a ha => ?_⟩
    obtain ⟨l1, l2, l3⟩ := newL r1 ha q1
    exact p1 _ mp1 _ l1 l2 l3
  · exact p1.elim
theorem se_lstR (hs : SA X W es fs) : SE X W (.List es pos) (mLstR fs) := PE.imp (pe_lst hs) fun σ H Q ⟨ρ, h, mp, r, e, p⟩ => by
  refine ⟨ρ, h, mp, r, e, Post.mono (Post.bind (R := rA X.K) p) fun x H1 ⟨mp1, h1, d1, le1, r1, q1, p1⟩ => ?_⟩
  dsimp only at p1
  split at p1
  · rename_i hz
    refine ⟨by rw [← q1.length]; exact hundred hz, fun a ha => ?_⟩
    obtain ⟨l1, l2, l3⟩ := newLR r1 ha q1
    exact p1 _ _ _ l1 l2 l3
  · exact p1.elim
end
/-! ### subscripts -/
def gIx (x y : D) (h : Hq) : Option (D × Hq) := match x, y with
  | .str z, .int i => if z.length ≤ sizeLine then (atI z.cps.toList i).map fun c => (.str ⟨#[c]⟩, h) else none
  | x, y => match asD h x with
    | some kvs => if kindsOk kvs y = true then (getD kvs y).map fun d => (d, h) else none
    | none => match y with
      | .int i => (match asT x with
        | some xs => (atI xs i).map fun d => (d, h)
        | none => match asLk h x with
          | some xs => (atI xs i).map fun d => (d, h)
          | none => none)
      | _ => none
section
variable {K : PySem.W.Frag} {mp : Wd} {H : Hp}
theorem rp_at {xs : List D} {vs : List V} {i : Int} {d : D} (a : RpAll K mp H xs vs) (e : atI xs i = some d) : ∃ v, atI vs i = some v ∧ Rp K mp H d v := by
  unfold atI at e ⊢
  rw [← a.length]
  cases q : ixN xs.length i with
  | none => rw [q] at e; cases e
  | some j =>
    rw [q] at e
    obtain ⟨v, h1, h2⟩ := a.get e
    exact ⟨v, h1, h2⟩
end
section
variable {X : Cx} {W : WX} {pos : Pos}
theorem ix_dic (hu : X.A.units + 1 < cLine) : IxR X (fun x y H Q => ∃ mp kvs kd d a, x = .ref a ∧ DicAt X.K mp H kvs a ∧ Rp X.K mp H kd y ∧ kindsOk kvs kd = true ∧ getD kvs kd = some d ∧ ∀ v, Rp X.K mp H d v → Q v H) := by
  intro value slice pins s σ H x y v u Q I rx ry ⟨mp, kvs, kd, d, a, ex, c, ak, kk, eg, q⟩ hs
  subst ex
  obtain rfl : v = Value.ref a := rx
  obtain ⟨H1, o, I1, g, back, z⟩ := dic_ask I c kk ak
  rcases z with ⟨e1, _⟩ | ⟨d', w, e1, rfl, rw'⟩
  · rw [eg] at e1; cases e1
  rw [eg] at e1; cases e1
  have hT := dict_typeIs I1 g
  unfold PyProof.Rows.subscriptTail
  refine wpAny_bind ?_
  rw [getitemInPython_of_ne hT.not_modules]
  refine wpAny_bind (wpAny_specialOf hT PySem.F.slot_dict_getitem.lookup ?_)
  have fin : wpAny (model X.prog X.w) X.A (subscripted slice false (.ref a) u) (fun r s₃ => wpAny (model X.prog X.w) X.A (letTemporaryGo value (.ref a) r >>= fun _ => pure r) (EP X pins σ Q) X.xe s₃) X.xe s := by
    rw [hs]
    refine wpAny_operating (d_getItem hu I1 g ry fun w' s3 I3 rw2 => ?_)
    exact wpAny_bind (wpAny_letTemporaryGo (wpAny_pure ⟨w, H, back s3 I3, rw2, q w rw'⟩))
  first
    | exact wpAny_pure (wpAny_bind fin)
    | exact wpAny_pure fin
    | exact wpAny_bind fin
    | exact fin
theorem ix_ok (hu : X.A.units + 1 < cLine) : IxR X fun x y H Q => ∃ mp h dx dy, HRel X.K mp h H ∧ Rp X.K mp H dx x ∧ Rp X.K mp H dy y ∧ PostO X.K (rD X.K) mp H (gIx dx dy h) Q := by
  intro value slice pins s σ H x y v u Q I rx ry ⟨mp, h, dx, dy, r, ax, ay, p⟩ hs
  unfold gIx at p
  split at p
  · rename_i z i
    split at p
    · rename_i hz
      cases e : atI z.cps.toList i with
      | none => rw [e] at p; exact p.elim
      | some c =>
        rw [e] at p
        cases ax; cases ay
        exact ix_str value slice pins s σ H _ _ v u Q I rx ry ⟨z, i, c, rfl, rfl, hz, e, p _ mp H .refl r (.str _)⟩ hs
    · exact p.elim
  · split at p
    · rename_i kvs e
      split at p
      · rename_i hk
        obtain ⟨a, rfl, c⟩ := asD_ok r ax e
        cases eg : getD kvs dy with
        | none => rw [eg] at p; exact p.elim
        | some d =>
          rw [eg] at p
          exact ix_dic hu value slice pins s σ H _ _ v u Q I rx ry ⟨mp, kvs, dy, d, a, rfl, c, ay, hk, eg, fun w rw' => p _ mp H .refl r rw'⟩ hs
      · exact p.elim
    · split at p
      · rename_i i _
        cases ay
        split at p
        · rename_i xs e
          cases ea : atI xs i with
          | none => rw [ea] at p; exact p.elim
          | some d =>
            rw [ea] at p
            obtain ⟨q, vs, rfl, hq, rv⟩ := asT_ok ax e
            obtain ⟨w, e1, e2⟩ := rp_at rv ea
            exact ix_tup value slice pins s σ H _ _ v u Q I rx ry ⟨q, vs, i, w, rfl, rfl, hq, e1, p _ mp H .refl r e2⟩ hs
        · split at p
          · rename_i xs e
            cases ea : atI xs i with
            | none => rw [ea] at p; exact p.elim
            | some d =>
              rw [ea] at p
              obtain ⟨q, vs, rfl, hq, rv⟩ := asLk_ok r ax e
              obtain ⟨w, e1, e2⟩ := rp_at rv ea
              exact ix_list value slice pins s σ H _ _ v u Q I rx ry ⟨q, vs, i, w, rfl, rfl, hq, e1, p _ mp H .refl r e2⟩ hs
          · exact p.elim
      · exact p.elim
theorem se_ix {a b : Expr} {fa fb : Ev D} (hu : X.A.units + 1 < cLine) (ha : SE X W a fa) (hb : SE X W b fb) (hs : PlainIx b := by exact fun _ _ => rfl) : SE X W (.Subscript a b pos) (mBin gIx fa fb) :=
  PE.imp (pe_ix (ix_ok hu) ha hb hs) fun σ H Q t => t_bin t
end
end Mi
namespace Mi
open PySem PySem.Spec L2
/-! ### targets -/
inductive Tg where
  | nm (i : Nat) | tp (is : List Nat)
def Tg.slots : Tg → List Nat
  | .nm i => [i]
  | .tp is => is
def setMany : List Nat → List D → Env' → Env'
  | i :: is, d :: ds, ρ => setMany is ds (ρ.set i (some d))
  | _, _, ρ => ρ
def setT : Tg → D → Env' → Option Env'
  | .nm i, d, ρ => some (ρ.set i (some d))
  | .tp is, .tup ds, ρ => if is.length = ds.length then some (setMany is ds ρ) else none
  | _, _, _ => none
def tGm (K : PySem.W.Frag) (T : Tg) : TG := fun v σ H Q => ∃ ρ h mp d ρ', HRel K mp h H ∧ EnvRel K mp H ρ σ ∧ Rp K mp H d v ∧ setT T d ρ = some ρ' ∧
  ∀ σ' : L2.St, σ'.length = σ.length → (∀ j, j ∉ T.slots → σ'[j]? = σ[j]?) → EnvRel K mp H ρ' σ' → Q σ' H
abbrev SG (X : Cx) (tg : Expr) (T : Tg) : Prop := PG X tg (tGm X.K T)
def tGs (K : PySem.W.Frag) (is : List Nat) : TGs := fun vs σ H Q => ∃ ρ h mp ds, HRel K mp h H ∧ EnvRel K mp H ρ σ ∧ RpAll K mp H ds vs ∧ is.length = ds.length ∧
  ∀ σ' : L2.St, σ'.length = σ.length → (∀ j, j ∉ is → σ'[j]? = σ[j]?) → EnvRel K mp H (setMany is ds ρ) σ' → Q σ' H
abbrev SGs (X : Cx) (tg : List Expr) (is : List Nat) : Prop := PGs X tg (tGs X.K is)
theorem PG.imp {X : Cx} {e : Expr} {t t' : TG} (h : PG X e t) (i : ∀ v σ H Q, t' v σ H Q → t v σ H Q) : PG X e t' := ⟨fun pins s σ H v u Q I r q => h.run pins s σ H v u Q I r (i v σ H Q q)⟩
theorem PGs.imp {X : Cx} {e : List Expr} {t t' : TGs} (h : PGs X e t) (i : ∀ v σ H Q, t' v σ H Q → t v σ H Q) : PGs X e t' := ⟨fun pins s σ H v u Q I r q => h.run pins s σ H v u Q I r (i v σ H Q q)⟩
section
variable {X : Cx} {pos : Pos}
theorem sg_nm (i : Nat) {x : Str} (hN : X.N.Nodup) (hi : X.N[i]? = some x := by rfl) (hx : Loc X.env.scope x := by first | exact Or.inl rfl | exact Or.inr rfl) (hf : X.fn x = true ∨ X.env.scope.names.lookup x = some .local := by first | exact .inl rfl | exact .inr rfl) : SG X (.Name x pos) (.nm i) :=
  PG.imp (pg_name hN hi hx hf) fun v σ H Q ⟨ρ, h, mp, d, ρ', r, e, a, es, q⟩ => by
    cases es
    exact q _ (by simp) (fun j hj => List.getElem?_set_ne (fun z => hj (by simp [Tg.slots, z]))) (e.set a)
theorem sgs_nil : SGs X [] [] := PGs.imp pgs_nil fun v σ H Q ⟨ρ, h, mp, d, r, e, a, el, q⟩ => by
  cases d with
  | nil => cases a; exact ⟨rfl, q σ rfl (fun _ _ => rfl) e⟩
  | cons _ _ => simp at el
theorem sgs_cons {i : Nat} {is : List Nat} {a : Expr} {es : List Expr} (h1 : SG X a (.nm i)) (h2 : SGs X es is) (hs : (assignEach (a :: es) X.env).map (·.2) = assign a X.env :: (assignEach es X.env).map (·.2) := by rfl) : SGs X (a :: es) (i :: is) :=
  PGs.imp (pgs_cons h1 h2 hs) fun vs σ H Q ⟨ρ, h, mp, ds, r, e, ra, el, q⟩ => by
    cases ra with
    | nil => simp at el
    | @cons d v ds vs r1 r2 =>
      refine ⟨v, vs, rfl, ρ, h, mp, d, _, r, e, r1, rfl, fun σ1 l1 k1 e1 => ?_⟩
      refine ⟨ρ.set i (some d), h, mp, ds, r, e1, r2, by simpa using el, fun σ2 l2 k2 e2 => q σ2 (l2.trans l1) (fun j hj => ?_) e2⟩
      rw [List.mem_cons, not_or] at hj
      exact (k2 j hj.2).trans (k1 j (by simpa [Tg.slots] using hj.1))
theorem sg_tp {es : List Expr} {k : Nat} {is : List Nat} (hc : X.calm = true) (h : SGs X es is) (hn : (assignEach es X.env).length = is.length := by rfl) (hst : (assignEach es X.env).findIdx? (·.1) = none := by rfl) : SG X (.Tuple es k pos) (.tp is) :=
  PG.imp (pg_tup hc h hn hst) fun v σ H Q ⟨ρ, h, mp, d, ρ', r, e, a, es, q⟩ => by
    cases d with
    | tup ds =>
      simp only [setT] at es
      split at es
      · rename_i hl
        cases es
        cases a with
        | @tup p vs _ e1 n1 q1 => exact ⟨p, vs, rfl, SqT.of e1, by rw [← q1.length, hl], ρ, h, mp, ds, r, e, q1, hl, q⟩
      · cases es
    | _ => simp [setT] at es
end
/-! ### what is walked -/
def chkOk (c : Option (Nat × O)) (ds : List D) (h : Hq) : Prop := match c with
  | none => True
  | some p => h[p.1]? = some p.2
structure ItIs (K : PySem.W.Frag) (mp : Wd) (H : Hp) (p : List D × Option (Nat × O)) (J : It) : Prop where
  sz : p.1.length ≤ sizeLine
  item : ∀ mp' h' H', Le mp H mp' H' → HRel K mp' h' H' → chkOk p.2 p.1 h' → ∀ (i : Nat) (d : D), p.1[i]? = some d → J.go i H' ∧ ∀ x H2, J.yld i H' x H2 → Le mp' H' mp' H2 ∧ HRel K mp' h' H2 ∧ Rp K mp' H2 d x ∧ Same H' H2
  stop : ∀ mp' h' H', Le mp H mp' H' → HRel K mp' h' H' → chkOk p.2 p.1 h' → ∀ i : Nat, p.1.length ≤ i → J.stop i H'
theorem ItIs.mono {K : PySem.W.Frag} {mp mp' : Wd} {H H' : Hp} {p : List D × Option (Nat × O)} {J : It} (le : Le mp H mp' H') (t : ItIs K mp H p J) : ItIs K mp' H' p J :=
  ⟨t.sz, fun m1 h1 H1 l => t.item m1 h1 H1 (le.trans l), fun m1 h1 H1 l => t.stop m1 h1 H1 (le.trans l)⟩
abbrev rIt (K : PySem.W.Frag) : Wd → Hp → (List D × Option (Nat × O)) → It → Prop := fun mp H p J => ItIs K mp H p J
def tIm (K : PySem.W.Frag) (W : WX) (f : Ev (List D × Option (Nat × O))) : TI := fun σ H Q => ∃ ρ h mp, HRel K mp h H ∧ EnvRel K mp H ρ σ ∧ Post K (rIt K) mp H (f ρ h) Q (wE K W σ)
abbrev SI (X : Cx) (W : WX) (tg iter : Expr) (f : Ev (List D × Option (Nat × O))) : Prop := PI X tg iter (tIm X.K W f)
theorem PI.imp {X : Cx} {tg e : Expr} {t t' : TI} (h : PI X tg e t) (i : ∀ σ H Q, t' σ H Q → t σ H Q) : PI X tg e t' := ⟨fun pins s σ H Q I q => h.run pins s σ H Q I (i σ H Q q)⟩
/-- two ways of walking, chosen by the value -/
theorem PI.or {X : Cx} {tg e : Expr} {t t' : TI} (h : PI X tg e t) (h' : PI X tg e t') : PI X tg e (fun σ H Q => t σ H Q ∨ t' σ H Q) := ⟨fun pins s σ H Q I q => q.elim (h.run pins s σ H Q I) (h'.run pins s σ H Q I)⟩
def signs (z : Str) : List D := z.cps.toList.map fun c => .str ⟨#[c]⟩
def iterD (h : Hq) (d : D) : Option (List D × Option (Nat × O)) := match d with
  | .lst xs => some (xs, none)
  | .klst xs => some (xs, none)
  | .tup xs => some (xs, none)
  | .ktup xs => some (xs, none)
  | .ftup xs => some (xs, none)
  | .str z => if z.cps.size ≤ sizeLine then some (signs z, none) else none
  | .ref l => (match h[l]? with
    | some (.lst xs) => some (xs, some (l, .lst xs))
    | _ => none)
  | _ => none
def mIter (f : Ev D) : Ev (List D × Option (Nat × O)) := fun ρ h => (f ρ h).bind fun d h1 => .of ((iterD h1 d).map fun p => (p, h1))
section
variable {X : Cx} {W : WX} {tg e : Expr} {f : Ev D}
theorem it_list {K : PySem.W.Frag} {mp : Wd} {H : Hp} {a : Addr} {ds : List D} {c : Option (Nat × O)} (sz : ds.length ≤ sizeLine)
    (q : ∀ mp' h' H', Le mp H mp' H' → HRel K mp' h' H' → chkOk c ds h' → ∃ vs, SqL K H' a vs ∧ RpAll K mp' H' ds vs) : ItIs K mp H (ds, c) (Itl K a) := by
  refine ⟨sz, fun mp' h' H' le r ck i d e => ?_, fun mp' h' H' le r ck i hi => ?_⟩
  · obtain ⟨vs, s, ra⟩ := q mp' h' H' le r ck
    obtain ⟨v, e1, e2⟩ := ra.get e
    refine ⟨⟨vs, v, s, e1⟩, fun x H2 ⟨e3, y⟩ => ?_⟩
    subst e3
    have := y vs s
    rw [e1] at this; cases this
    exact ⟨.refl, r, e2, .refl _⟩
  · obtain ⟨vs, s, ra⟩ := q mp' h' H' le r ck
    exact ⟨vs, s, by rw [← ra.length]; exact hi⟩
theorem it_tup {K : PySem.W.Frag} {mp : Wd} {H : Hp} {a : Addr} {ds : List D} (sz : ds.length ≤ sizeLine)
    (q : ∀ mp' H', Le mp H mp' H' → ∃ vs, SqT K H' a vs ∧ RpAll K mp' H' ds vs) : ItIs K mp H (ds, none) (Itt K a) := by
  refine ⟨sz, fun mp' h' H' le r ck i d e => ?_, fun mp' h' H' le r ck i hi => ?_⟩
  · obtain ⟨vs, s, ra⟩ := q mp' H' le
    obtain ⟨v, e1, e2⟩ := ra.get e
    refine ⟨⟨vs, v, s, e1⟩, fun x H2 ⟨e3, y⟩ => ?_⟩
    subst e3
    have := y vs s
    rw [e1] at this; cases this
    exact ⟨.refl, r, e2, .refl _⟩
  · obtain ⟨vs, s, ra⟩ := q mp' H' le
    exact ⟨vs, s, by rw [← ra.length]; exact hi⟩
/-- the value's own way of being walked -/
def tPo (K : PySem.W.Frag) (W : WX) (f : Ev D) : TE := fun σ H Q => tE K W f σ H fun v H' => SzOk K H' → Q v H'
theorem si_val (he : SE X W e f) : SI X W tg e (mIter f) := by
  have hp : PE X e (tPo X.K W f) := PE.post he
  refine PI.imp (PI.or (pi_list hp) (PI.or (pi_tup hp) (pi_str hp))) fun σ H Q ⟨ρ, h, mp, r, en, p⟩ => ?_
  unfold mIter at p
  cases ef : f ρ h with
  | bad => rw [ef] at p; exact p.elim
  | exc c h1 =>
    rw [ef] at p
    exact .inl ⟨ρ, h, mp, r, en, by rw [ef]; exact p⟩
  | ok d h1 =>
    rw [ef] at p
    dsimp only [Res.bind] at p
    cases d with
    | lst xs =>
      refine .inl ⟨ρ, h, mp, r, en, ?_⟩
      rw [ef]
      intro v mp' H' le r' a sz
      cases a with
      | @lst a vs _ h1 n1 q1 =>
        refine ⟨a, rfl, ⟨vs, SqL.of h1⟩, p _ mp' H' le r' (it_list (by rw [q1.length]; exact sz a vs (.inl (SqL.of h1))) fun m2 h2 H2 l2 _ _ => ?_)⟩
        exact ⟨vs, SqL.of (l2.keep _ _ h1 n1).1, q1.mono l2⟩
    | klst xs =>
      refine .inl ⟨ρ, h, mp, r, en, ?_⟩
      rw [ef]
      intro v mp' H' le r' a sz
      cases a with
      | @klst a vs _ h1 q1 =>
        refine ⟨a, rfl, ⟨vs, h1.sq⟩, p _ mp' H' le r' (it_list (by rw [q1.length]; exact sz a vs (.inl h1.sq)) fun m2 h2 H2 l2 _ _ => ?_)⟩
        refine ⟨vs, ?_, q1.mono l2⟩
        rcases h1 with ⟨h1 | ⟨o, h1⟩, n1⟩ | h1
        · exact .inl (.inl (l2.keep _ _ h1 n1).1)
        · exact .inl (.inr ⟨o, (l2.keep _ _ h1 n1).1⟩)
        · exact sqL_none h1
    | tup xs =>
      refine .inr (.inl ⟨ρ, h, mp, r, en, ?_⟩)
      rw [ef]
      intro v mp' H' le r' a sz
      cases a with
      | @tup a vs _ h1 n1 q1 =>
        refine ⟨a, rfl, ⟨vs, SqT.of h1⟩, p _ mp' H' le r' (it_tup (by rw [q1.length]; exact sz a vs (.inr (SqT.of h1))) fun m2 H2 l2 => ?_)⟩
        exact ⟨vs, SqT.of (l2.keep _ _ h1 n1).1, q1.mono l2⟩
    | ktup xs =>
      refine .inr (.inl ⟨ρ, h, mp, r, en, ?_⟩)
      rw [ef]
      intro v mp' H' le r' a sz
      cases a with
      | @ktup a vs _ h1 q1 =>
        refine ⟨a, rfl, ⟨vs, sqT_none h1⟩, p _ mp' H' le r' (it_tup (by rw [q1.length]; exact sz a vs (.inr (sqT_none h1))) fun m2 H2 l2 => ?_)⟩
        exact ⟨vs, sqT_none h1, q1.mono l2⟩
    | ftup xs =>
      refine .inr (.inl ⟨ρ, h, mp, r, en, ?_⟩)
      rw [ef]
      intro v mp' H' le r' a sz
      cases a with
      | @ftup a vs _ h1 q1 =>
        refine ⟨a, rfl, ⟨vs, h1.sq⟩, p _ mp' H' le r' (it_tup (by rw [q1.length]; exact sz a vs (.inr h1.sq)) fun m2 H2 l2 => ?_)⟩
        exact ⟨vs, (h1.mono l2.k).sq, q1.mono l2⟩
    | str z =>
      simp only [iterD] at p
      split at p
      · rename_i hz
        refine .inr (.inr ⟨ρ, h, mp, r, en, ?_⟩)
        rw [ef]
        intro v mp' H' le r' a sz
        cases a
        refine ⟨z, rfl, p _ mp' H' le r' ⟨by simpa [signs] using hz, fun m2 h2 H2 l2 r2 _ i d ei => ?_, fun m2 h2 H2 l2 r2 _ i hi => ?_⟩⟩
        · simp only [signs, List.getElem?_map, Option.map_eq_some_iff] at ei
          obtain ⟨c, e1, rfl⟩ := ei
          refine ⟨by
            obtain ⟨h3, _⟩ := List.getElem?_eq_some_iff.mp e1
            show i < z.cps.size
            simpa using h3, fun x H3 ⟨e3, c', e4, e5⟩ => ?_⟩
          subst e3 e5
          have : z.cps[i]? = some c := by simpa using e1
          rw [this] at e4; cases e4
          exact ⟨.refl, r2, .str _, .refl _⟩
        · show z.cps.size ≤ i
          simpa [signs] using hi
      · exact p.elim
    | ref l =>
      simp only [iterD] at p
      split at p
      · rename_i xs e2
        · refine .inl ⟨ρ, h, mp, r, en, ?_⟩
          rw [ef]
          intro v mp' H' le r' a sz
          cases a with
          | @ref _ a m =>
            obtain ⟨vs, h2, q2⟩ := r'.obj _ _ _ e2 m
            refine ⟨a, rfl, ⟨vs, SqL.of h2⟩, p _ mp' H' le r' (it_list (by rw [q2.length]; exact sz a vs (.inl (SqL.of h2))) fun m3 h3 H3 l3 r3 ck => ?_)⟩
            obtain ⟨vs3, e3, q3⟩ := r3.obj _ _ _ ck (l3.get m)
            exact ⟨vs3, SqL.of e3, q3⟩
      · exact p.elim
    | _ => exact p.elim
end
end Mi
namespace Mi
open PySem PySem.Spec L2
/-! ### range -/
def upto (n : Nat) : List D := (List.range n).map fun i => .int (i : Nat)
def mRange (f : Ev (List D)) : Ev (List D × Option (Nat × O)) := fun ρ h => (f ρ h).bind fun ds h1 => match ds with
  | [.int j] => if -1000000 ≤ j ∧ j ≤ 1000000 then .ok (upto j.toNat, none) h1 else .bad
  | _ => .bad
section
variable {X : Cx} {W : WX} {tg : Expr} {pos p : Pos}
theorem si_range {a : Expr} {f : Ev (List D)} (ha : SA X W [a] f) (hm : X.mg "range" = none) (hg : Gl X "range" := by rfl) (hs : starEach [a] X.env = [(false, eval a X.env)] := by rfl) : SI X W tg (.Call (.Name "range" p) [a] [] pos) (mRange f) :=
  PI.imp (pi_range1 hg hm ha hs) fun σ H Q ⟨ρ, h, mp, r, en, q⟩ => by
    refine ⟨ρ, h, mp, r, en, Post.mono (Post.bind (R := rA X.K) q) fun x H1 ⟨mp1, h1, d1, le1, r1, q1, p1⟩ => ?_⟩
    dsimp only at p1
    split at p1
    · rename_i j
      split at p1
      · rename_i hj
        obtain ⟨v, rfl, rv⟩ := q1.one
        cases rv
        refine ⟨j, rfl, by omega, by omega, p1 _ mp1 H1 .refl r1 ⟨?_, fun m2 h2 H2 l2 r2 _ i d ei => ?_, fun m2 h2 H2 l2 r2 _ i hi => ?_⟩⟩
        · have : j.toNat ≤ 1000000 := by omega
          exact Nat.le_trans (by show (upto j.toNat).length ≤ 1000000; rw [upto, List.length_map, List.length_range]; exact this) (by decide)
        · simp only [upto, List.getElem?_map, Option.map_eq_some_iff] at ei
          obtain ⟨k, e1, rfl⟩ := ei
          obtain ⟨hk, e1⟩ := List.getElem?_eq_some_iff.mp e1
          rw [List.length_range] at hk
          rw [List.getElem_range] at e1
          subst e1
          refine ⟨hk, fun y H3 ⟨e3, e4⟩ => ?_⟩
          subst e3 e4
          rw [Int.zero_add]
          exact ⟨.refl, r2, .int _, .refl _⟩
        · show j.toNat ≤ i
          simpa [upto] using hi
      · exact p1.elim
    · exact p1.elim
end
/-! ### comprehensions -/
/-- as bind, where nothing may be raised -/
def Res.bindN {α β : Type} (r : Res α) (g : α → Hq → Res β) : Res β := match r with
  | .ok a h => g a h
  | _ => .bad
@[simp] theorem Res.bindN_ok {α β : Type} (a : α) (h : Hq) (g : α → Hq → Res β) : (Res.ok a h).bindN g = g a h := rfl
@[simp] theorem Res.bindN_exc {α β : Type} (c : Str) (h : Hq) (g : α → Hq → Res β) : (Res.exc c h).bindN g = .bad := rfl
@[simp] theorem Res.bindN_bad {α β : Type} (g : α → Hq → Res β) : (Res.bad : Res α).bindN g = .bad := rfl
open Classical in
noncomputable def lcGo (T : Tg) (ft : Ev Bool) (fe : Ev D) (c : Option (Nat × O)) (all : List D) (ρ : Env') : List D → Hq → Res (List D)
  | [], h => if chkOk c all h then .ok [] h else .bad
  | d :: ds, h => if chkOk c all h then (match setT T d ρ with
    | none => .bad
    | some ρ1 => (ft ρ1 h).bindN fun b h1 => match b with
      | true => (fe ρ1 h1).bindN fun y h2 => (lcGo T ft fe c all ρ ds h2).bind fun ys h3 => .ok (y :: ys) h3
      | false => lcGo T ft fe c all ρ ds h1) else .bad
noncomputable def mLc (T : Tg) (vs : List Nat) (fi : Ev (List D × Option (Nat × O))) (ft : Ev Bool) (fe : Ev D) : Ev D := fun ρ h => (fi ρ h).bind fun p h1 => (lcGo T ft fe p.2 p.1 (wipeD ρ vs) p.1 h1).bind fun ys h2 => .ok (.lst ys) h2
noncomputable def mLcR (T : Tg) (vs : List Nat) (fi : Ev (List D × Option (Nat × O))) (ft : Ev Bool) (fe : Ev D) : Ev D := fun ρ h => (fi ρ h).bind fun p h1 => (lcGo T ft fe p.2 p.1 (wipeD ρ vs) p.1 h1).bind fun ys h2 => .ok (.ref h2.length) (h2 ++ [.lst ys])
def mYes : Ev Bool := fun _ h => .ok true h
abbrev W0 : WX := fun _ _ _ _ => False
theorem wipe_at (σ : L2.St) : ∀ (vs : List Nat) (j : Nat), (wipe σ vs)[j]? = if j ∈ vs then (if j < σ.length then some none else none) else σ[j]?
  | [], j => by simp [wipe]
  | v :: vs, j => by
    rw [wipe, List.getElem?_set, wipe_at σ vs j]
    by_cases hv : v = j
    · subst hv
      simp [wipe_length]
    · simp only [hv, if_false, List.mem_cons]
      have : ¬ j = v := fun z => hv z.symm
      simp [this]
theorem wipe_same {σ σ' : L2.St} {vs : List Nat} (hl : σ'.length = σ.length) (h : ∀ j, j ∉ vs → σ'[j]? = (wipe σ vs)[j]?) : wipe σ' vs = wipe σ vs := by
  refine List.ext_getElem? fun j => ?_
  rw [wipe_at, hl]
  by_cases hj : j ∈ vs
  · rw [if_pos hj, wipe_at, if_pos hj]
  · rw [if_neg hj, h j hj]
theorem Post.noexc {α β γ δ : Type} {K : PySem.W.Frag} {R : Wd → Hp → α → β → Prop} {R' : Wd → Hp → γ → δ → Prop} {mp : Wd} {H : Hp} {r : Res α} {g : α → Hq → Res γ} {Q : δ → Hp → Prop} {E E' : Str → Hp → Prop} (p : Post K R' mp H (r.bindN g) Q E) : Post K R mp H r (Aft K R R' mp H g Q E) E' := by
  cases r with
  | ok d h => exact fun v mp' H' l a b => ⟨mp', h, d, l, a, b, Post.le l p⟩
  | exc c h => exact p.elim
  | bad => exact p.elim
/-- [e for t in xs if c] -/
theorem lc_run {K : PySem.W.Frag} {T : Tg} {vs : List Nat} {ft : Ev Bool} {fe : Ev D} {ds : List D} {c : Option (Nat × O)} {ρ : Env'} {σ : L2.St} {J : It} {mp1 : Wd} {h1 : Hq} {H1 : Hp} {D0 : Addr} {Qd : Hp → Prop} (hT : ∀ i ∈ T.slots, i ∈ vs)
    (en : EnvRel K mp1 H1 ρ σ) (r1 : HRel K mp1 h1 H1) (it : ItIs K mp1 H1 (ds, c) J) (hD : H1 D0 = none) (res : Res (List D)) (hres : lcGo T ft fe c ds (wipeD ρ vs) ds h1 = res)
    (fin : ∀ ys h2 mp H ysV, res = .ok ys h2 → Le mp1 H1 mp H → HRel K mp h2 H → D0 ∈ mp.bn → D0 ∉ mp.pl → H D0 = some (.lst ysV) → RpAll K mp H ys ysV → Qd H) (nb : res ≠ .bad) :
    ∃ W : Nat → Nat → Hp → Prop, (∃ m, W 0 m (upd H1 D0 (.lst []))) ∧ ∀ i m H, W i m H →
      (J.stop i H ∧ Qd H) ∨ (J.go i H ∧ ∃ Nx : Hp → Prop, (∀ H', Nx H' → ∃ m', m' < m ∧ W (i + 1) m' H') ∧ ∀ x H', J.yld i H x H' → tGm K T x (wipe σ vs) H' fun σ2 H2 => wipe σ2 vs = wipe σ vs ∧ tT K W0 ft σ2 H2 fun b H3 =>
        if b = true then tE K W0 fe σ2 H3 fun y H4 => ∃ acc, H4 D0 = some (.lst acc) ∧ acc.length < sizeLine ∧ Nx (upd H4 D0 (.lst (acc ++ [y]))) else Nx H3) := by
  refine ⟨fun i m H => m = ds.length - i ∧ i ≤ ds.length ∧ ∃ mp h acc accV, Le mp1 H1 mp H ∧ HRel K mp h H ∧ D0 ∈ mp.bn ∧ D0 ∉ mp.pl ∧ H D0 = some (.lst accV) ∧ RpAll K mp H acc accV ∧ acc.length ≤ i ∧
    ((lcGo T ft fe c ds (wipeD ρ vs) (ds.drop i) h).bind fun ys h2 => .ok (acc ++ ys) h2) = res, ?_, ?_⟩
  · refine ⟨ds.length, by simp, Nat.zero_le _, mp1.ban D0, h1, [], [], le_ban r1 hD, r1.ban hD, List.mem_cons_self, fun z => r1.fresh hD (r1.sub _ z), upd_same, .nil, Nat.le_refl _, ?_⟩
    rw [List.drop_zero, hres]
    cases res <;> rfl
  · rintro i m H ⟨rfl, hi, mp, h, acc, accV, le, r, hb1, hb2, hD1, ra, hacc, e⟩
    have le1 : Le mp1 H1 mp H := le
    by_cases hlt : i < ds.length
    · right
      have hdrop : ds.drop i = ds[i] :: ds.drop (i + 1) := List.drop_eq_getElem_cons hlt
      have hget : ds[i]? = some ds[i] := List.getElem?_eq_getElem hlt
      rw [hdrop, lcGo] at e
      by_cases ck : chkOk c ds h
      · rw [if_pos ck] at e
        obtain ⟨go, yl⟩ := it.item mp h H le1 r ck i ds[i] hget
        refine ⟨go, fun H' => ∃ mp' h' acc' accV', Le mp1 H1 mp' H' ∧ HRel K mp' h' H' ∧ D0 ∈ mp'.bn ∧ D0 ∉ mp'.pl ∧ H' D0 = some (.lst accV') ∧ RpAll K mp' H' acc' accV' ∧ acc'.length ≤ i + 1 ∧
          ((lcGo T ft fe c ds (wipeD ρ vs) (ds.drop (i + 1)) h').bind fun ys h2 => .ok (acc' ++ ys) h2) = res, fun H' ⟨mp', h', acc', accV', a1, a2, a3, a4, a5, a6, a7, a8⟩ => ⟨ds.length - (i + 1), by omega, rfl, hlt, mp', h', acc', accV', a1, a2, a3, a4, a5, a6, a7, a8⟩, fun x H2 y => ?_⟩
        obtain ⟨le2, r2, rx, sm⟩ := yl x H2 y
        cases es : setT T ds[i] (wipeD ρ vs) with
        | none => rw [es] at e; exact absurd e.symm nb
        | some ρ1 =>
          rw [es] at e
          have enw : EnvRel K mp H2 (wipeD ρ vs) (wipe σ vs) := ((en.mono (le1.trans le2)).wipe vs)
          refine ⟨wipeD ρ vs, h, mp, ds[i], ρ1, r2, enw, rx, es, fun σ2 l2 k2 en2 => ⟨wipe_same (by rw [l2, wipe_length]) fun j hj => k2 j fun z => hj (hT j z), ?_⟩⟩
          have hD2 : H2 D0 = some (.lst accV) := sm _ _ hD1
          have ra2 := ra.mono le2
          dsimp only at e
          cases eft : ft ρ1 h with
          | bad => rw [eft] at e; exact absurd e.symm nb
          | exc cc hh => rw [eft] at e; exact absurd e.symm nb
          | ok b h3 =>
            rw [eft, Res.bindN_ok] at e
            refine ⟨ρ1, h, mp, r2, en2, ?_⟩
            rw [eft]
            intro b' mp3 H3 le3 r3 eb
            obtain rfl : b = b' := eb
            obtain ⟨o1, o2, o3⟩ := le3.own D0 hb1 hb2
            cases b with
            | false =>
              rw [if_neg (by decide)]
              exact ⟨mp3, h3, acc, accV, le.trans (le2.trans le3), r3, o2, o3, by rw [o1]; exact hD2, ra2.mono le3, by omega, e⟩
            | true =>
              rw [if_pos rfl]
              dsimp only at e
              cases efe : fe ρ1 h3 with
              | bad => rw [efe] at e; exact absurd e.symm nb
              | exc cc hh => rw [efe] at e; exact absurd e.symm nb
              | ok dy h4 =>
                rw [efe, Res.bindN_ok] at e
                refine ⟨ρ1, h3, mp3, r3, en2.mono le3, ?_⟩
                rw [efe]
                intro yv mp4 H4 le4 r4 ry
                obtain ⟨u1, u2, u3⟩ := le4.own D0 o2 o3
                have hD4 : H4 D0 = some (.lst accV) := by rw [u1, o1]; exact hD2
                refine ⟨accV, hD4, ?_, ?_⟩
                · have := it.sz
                  rw [← ra.length]
                  dsimp only at this
                  omega
                · have le5 := le.trans (le2.trans (le3.trans le4))
                  refine ⟨mp4, h4, acc ++ [dy], accV ++ [yv], ⟨le5.pre, fun a o ea na nb => ?_, fun a ea na => ?_⟩, r4.ownW u2 u3, u2, u3, upd_same, ((ra2.mono (le3.trans le4)).append (.cons ry .nil)).monoK (lk_own u2), by simp; omega, ?_⟩
                  · rw [upd_ne (ne_of_none ea hD)]; exact le5.keep a o ea na nb
                  · rw [upd_ne (show a ≠ D0 from fun z => r1.fresh hD (by rw [← z]; exact ea))]; exact le5.own a ea na
                  · rw [← e]
                    cases lcGo T ft fe c ds (wipeD ρ vs) (ds.drop (i + 1)) h4 <;> simp [Res.bind]
      · rw [if_neg ck] at e
        exact absurd e.symm nb
    · left
      have hie : i = ds.length := by omega
      subst hie
      rw [List.drop_length, lcGo] at e
      by_cases ck : chkOk c ds h
      · rw [if_pos ck] at e
        refine ⟨it.stop mp h H le1 r ck _ (Nat.le_refl _), ?_⟩
        exact fin _ _ mp H accV e.symm le r hb1 hb2 hD1 (by rw [List.append_nil]; exact ra)
      · rw [if_neg ck] at e
        exact absurd e.symm nb
end Mi
namespace Mi
open PySem PySem.Spec L2
theorem le_unban {mp1 mp : Wd} {H1 H : Hp} {h1 : Hq} {K : PySem.W.Frag} {D0 : Addr} (r1 : HRel K mp1 h1 H1) (hD : H1 D0 = none) (le : Le mp1 H1 mp H) : Le mp1 H1 (mp.unban D0) H :=
  ⟨le.pre, fun a o e n nb => ⟨(le.keep a o e n nb).1, unban_less D0 a (le.keep a o e n nb).2⟩, fun a ha n => ⟨(le.own a ha n).1, List.mem_filter.mpr ⟨(le.own a ha n).2.1, by
    have : a ≠ D0 := fun z => r1.fresh hD (by rw [← z]; exact ha)
    simpa using this⟩, (le.own a ha n).2.2⟩⟩
section
variable {X : Cx} {W : WX} {pos : Pos} {elt tg iter : Expr} {ifs : List Expr} {scope : Scope} {own : List (Str × Nat)} {fi : Ev (List D × Option (Nat × O))} {ft : Ev Bool} {fe : Ev D} {T : Tg}
theorem lc_read {σ : L2.St} {H : Hp} {Q : VK} (hT : ∀ i ∈ T.slots, i ∈ own.map (·.2)) (t : tE X.K W (mLc T (own.map (·.2)) fi ft fe) σ H Q) : tLc (tIm X.K W fi) (tGm X.K T) (tT X.K W0 ft) (tE X.K W0 fe) (own.map (·.2)) σ H Q := by
  obtain ⟨ρ, h, mp, r, en, p⟩ := t
  refine ⟨ρ, h, mp, r, en, Post.mono (Post.bind p) fun J H1 ⟨mp1, h1, d1, le1, r1, it, p1⟩ => fun D0 hD => ?_⟩
  obtain ⟨ds, c⟩ := d1
  refine lc_run (Qd := fun H' => Q (.ref D0) H') hT (en.mono le1) r1 it hD _ rfl (fun ys h2 mp2 H2 ysV e le2 r2 b1 b2 e2 ra => ?_) (fun z => ?_)
  · dsimp only at p1
    rw [e] at p1
    exact p1 (.ref D0) (mp2.unban D0) H2 (le_unban r1 hD le2) (r2.unban b2) (.lst e2 (fun z => by have := (List.mem_filter.mp z).2; simp at this) (RpAll.less (mp := mp2) (mp' := mp2.unban D0) rfl (unban_less D0) ra))
  · dsimp only at p1
    rw [z] at p1
    exact p1
theorem lc_readR {σ : L2.St} {H : Hp} {Q : VK} (hT : ∀ i ∈ T.slots, i ∈ own.map (·.2)) (t : tE X.K W (mLcR T (own.map (·.2)) fi ft fe) σ H Q) : tLc (tIm X.K W fi) (tGm X.K T) (tT X.K W0 ft) (tE X.K W0 fe) (own.map (·.2)) σ H Q := by
  obtain ⟨ρ, h, mp, r, en, p⟩ := t
  refine ⟨ρ, h, mp, r, en, Post.mono (Post.bind p) fun J H1 ⟨mp1, h1, d1, le1, r1, it, p1⟩ => fun D0 hD => ?_⟩
  obtain ⟨ds, c⟩ := d1
  refine lc_run (Qd := fun H' => Q (.ref D0) H') hT (en.mono le1) r1 it hD _ rfl (fun ys h2 mp2 H2 ysV e le2 r2 b1 b2 e2 ra => ?_) (fun z => ?_)
  · dsimp only at p1
    rw [e] at p1
    have lk : Lk mp2 H2 ⟨mp2.pl ++ [D0], mp2.bn⟩ H2 := ⟨⟨[D0], rfl⟩, fun a o e n _ => ⟨e, n⟩⟩
    have r3 : HRel X.K ⟨mp2.pl ++ [D0], mp2.bn⟩ (h2 ++ [.lst ys]) H2 := by
      refine ⟨by simp [r2.len], List.nodup_append.mpr ⟨r2.nd, by simp, fun a ha b hb z => ?_⟩, fun a ha => ?_, r2.there, fun l u a h3 h4 => ?_, r2.tabs⟩
      · have : b = D0 := by simpa using hb
        exact b2 (by rw [← this, ← z]; exact ha)
      · rcases List.mem_append.mp ha with z | z
        · exact r2.sub a z
        · have : a = D0 := by simpa using z
          rw [this]; exact b1
      · by_cases hl : l < h2.length
        · rw [List.getElem?_append_left hl] at h3
          rw [List.getElem?_append_left (by rw [r2.len]; exact hl)] at h4
          exact (r2.obj l u a h3 h4).monoK lk rfl
        · rw [List.getElem?_append_right (by omega)] at h3
          rw [List.getElem?_append_right (by rw [r2.len]; omega)] at h4
          rw [r2.len] at h4
          cases hn : l - h2.length with
          | zero =>
            rw [hn] at h3 h4
            simp at h3 h4
            subst h3; subst h4
            exact ⟨ysV, e2, ra.monoK lk⟩
          | succ n => rw [hn] at h3; simp at h3
    refine p1 (.ref D0) ⟨mp2.pl ++ [D0], mp2.bn⟩ H2 ⟨?_, fun a o e n nb => le2.keep a o e n nb, fun a ha n => ?_⟩ r3 (.ref ?_)
    · obtain ⟨m, e3⟩ := le2.pre
      exact ⟨m ++ [D0], by simp [e3]⟩
    · obtain ⟨o1, o2, o3⟩ := le2.own a ha n
      refine ⟨o1, o2, fun z => ?_⟩
      rcases List.mem_append.mp z with z | z
      · exact o3 z
      · have e4 : a = D0 := by simpa using z
        exact r1.fresh hD (by rw [← e4]; exact ha)
    · rw [← r2.len]; simp
  · dsimp only at p1
    rw [z] at p1
    exact p1
theorem se_lc (hc : X.calm = true) (hN : X.N.Nodup) (hi : SI X W tg iter fi) (ok : BlkOk X.N X.env.scope scope own) (hT : ∀ i ∈ T.slots, i ∈ own.map (·.2))
    (hg : ∀ (s : Shared) (H : Hp) (C : Addr) (cl : List (Str × Addr)) (fp : List Addr), SG (X.blk s H scope (compEnvC scope cl C X.env) fp) tg T)
    (ht : ∀ (s : Shared) (H : Hp) (C : Addr) (cl : List (Str × Addr)) (fp : List Addr), PTs (X.blk s H scope (compEnvC scope cl C X.env) fp) ifs (tT X.K W0 ft))
    (he : ∀ (s : Shared) (H : Hp) (C : Addr) (cl : List (Str × Addr)) (fp : List Addr), SE (X.blk s H scope (compEnvC scope cl C X.env) fp) W0 elt fe)
    (hs : ∀ x, foldedSetIterable iter X.env x = pure x := by intro _; rfl) : SE X W (.ListComp elt [⟨tg, iter, ifs, 0⟩] scope pos) (mLc T (own.map (·.2)) fi ft fe) :=
  PE.imp (pe_lc hc hN hi ok hg ht he hs) fun σ H Q t => lc_read hT t
theorem se_lcR (hc : X.calm = true) (hN : X.N.Nodup) (hi : SI X W tg iter fi) (ok : BlkOk X.N X.env.scope scope own) (hT : ∀ i ∈ T.slots, i ∈ own.map (·.2))
    (hg : ∀ (s : Shared) (H : Hp) (C : Addr) (cl : List (Str × Addr)) (fp : List Addr), SG (X.blk s H scope (compEnvC scope cl C X.env) fp) tg T)
    (ht : ∀ (s : Shared) (H : Hp) (C : Addr) (cl : List (Str × Addr)) (fp : List Addr), PTs (X.blk s H scope (compEnvC scope cl C X.env) fp) ifs (tT X.K W0 ft))
    (he : ∀ (s : Shared) (H : Hp) (C : Addr) (cl : List (Str × Addr)) (fp : List Addr), SE (X.blk s H scope (compEnvC scope cl C X.env) fp) W0 elt fe)
    (hs : ∀ x, foldedSetIterable iter X.env x = pure x := by intro _; rfl) : SE X W (.ListComp elt [⟨tg, iter, ifs, 0⟩] scope pos) (mLcR T (own.map (·.2)) fi ft fe) :=
  PE.imp (pe_lc hc hN hi ok hg ht he hs) fun σ H Q t => lc_readR hT t
end
theorem sts_nil {X : Cx} {W : WX} : PTs X [] (tT X.K W mYes) := ⟨fun pins s σ H Q I ⟨ρ, h, mp, r, en, p⟩ => pts_nil.run pins s σ H Q I (Post.ok (v := true) p r rfl)⟩
theorem sts_one {X : Cx} {W : WX} {c : Expr} {f : Ev Bool} (h : ST X W c f) : PTs X [c] (tT X.K W f) := pts_one h
/-! ### statements -/
def Res.bindS {α : Type} (r : Res α) (ρ : Env') (g : α → Hq → SR) : SR := match r with
  | .ok a h => g a h
  | .exc c h => .exc c ρ h
  | .bad => .bad
@[simp] theorem Res.bindS_ok {α : Type} (a : α) (h : Hq) (ρ : Env') (g : α → Hq → SR) : (Res.ok a h).bindS ρ g = g a h := rfl
@[simp] theorem Res.bindS_exc {α : Type} (c : Str) (h : Hq) (ρ : Env') (g : α → Hq → SR) : (Res.exc c h).bindS ρ g = .exc c ρ h := rfl
@[simp] theorem Res.bindS_bad {α : Type} (ρ : Env') (g : α → Hq → SR) : (Res.bad : Res α).bindS ρ g = .bad := rfl
def AftS {α β : Type} (K : PySem.W.Frag) (R : Wd → Hp → α → β → Prop) (mp : Wd) (H : Hp) (g : α → Hq → SR) (D : Ends) (W : WX) (v : β) (H1 : Hp) : Prop :=
  ∃ mp1 h1 d, Le mp H mp1 H1 ∧ HRel K mp1 h1 H1 ∧ R mp1 H1 d v ∧ PostS K mp1 H1 (g d h1) D W
theorem PostS.bind {α β : Type} {K : PySem.W.Frag} {R : Wd → Hp → α → β → Prop} {mp : Wd} {H : Hp} {r : Res α} {ρ : Env'} {σ : L2.St} {g : α → Hq → SR} {D : Ends} {W : WX} (en : EnvRel K mp H ρ σ) (p : PostS K mp H (r.bindS ρ g) D W) : Post K R mp H r (AftS K R mp H g D W) (wE K W σ) := by
  cases r with
  | ok d h => exact fun v mp' H' l a b => ⟨mp', h, d, l, a, b, PostS.le l p⟩
  | exc c h => exact fun mp' H' l a => p σ mp' H' l a (en.mono l)
  | bad => exact p
def mSkip : Ex := fun ρ h => .nx ρ h
def mSeq (f g : Ex) : Ex := fun ρ h => match f ρ h with
  | .nx ρ1 h1 => g ρ1 h1
  | r => r
def mSet (T : Tg) (f : Ev D) : Ex := fun ρ h => (f ρ h).bindS ρ fun d h1 => match setT T d ρ with
  | some ρ1 => .nx ρ1 h1
  | none => .bad
def mExpr (f : Ev D) : Ex := fun ρ h => (f ρ h).bindS ρ fun _ h1 => .nx ρ h1
def mRet (f : Ev D) : Ex := fun ρ h => (f ρ h).bindS ρ fun d h1 => .rt d h1
def mIf (c : Ev Bool) (f g : Ex) : Ex := fun ρ h => (c ρ h).bindS ρ fun b h1 => match b with
  | true => f ρ h1
  | false => g ρ h1
section
variable {X : Cx} {W : WX} {pos : Pos} {e : Expr} {st : Stmt} {rest a b : List Stmt} {f : Ev D} {fs gs : Ex} {c : Ev Bool}
theorem ss_nil : SSs X W [] mSkip := PSs.imp pss_nil fun D σ H ⟨ρ, h, mp, r, en, p⟩ => p σ mp H .refl r en
theorem ss_cons (h1 : SS X W st fs) (h2 : SSs X W rest gs) : SSs X W (st :: rest) (mSeq fs gs) := PSs.imp (pss_cons h1 h2) fun D σ H ⟨ρ, h, mp, r, en, p⟩ => by
  refine ⟨ρ, h, mp, r, en, ?_⟩
  unfold mSeq at p
  cases e : fs ρ h with
  | nx ρ1 h1 =>
    rw [e] at p
    exact fun σ' mp' H' l a b => ⟨ρ1, h1, mp', a, b, PostS.le l p⟩
  | rt d h1 => rw [e] at p; exact p
  | bk ρ1 h1 => rw [e] at p; exact p
  | ct ρ1 h1 => rw [e] at p; exact p
  | exc c ρ1 h1 => rw [e] at p; exact p
  | bad => rw [e] at p; exact p
theorem ss_one (h1 : SS X W st fs) : SSs X W [st] fs := pss_one h1
theorem ss_expr (he : SE X W e f) (hs : swapsWith e none pos.line X.env = pure false := by rfl) : SS X W (.Expr e pos) (mExpr f) := PS.imp (ps_expr he hs) fun D σ H ⟨ρ, h, mp, r, en, p⟩ =>
  ⟨ρ, h, mp, r, en, Post.mono (PostS.bind en p) fun v H1 ⟨mp1, h1, d, le, r1, _, p1⟩ => p1 σ mp1 H1 .refl r1 (en.mono le)⟩
theorem ss_pass : SS X W (.Pass pos) mSkip := PS.imp ps_pass fun D σ H ⟨ρ, h, mp, r, en, p⟩ => p σ mp H .refl r en
theorem ss_ret (he : SE X W e f) : SS X W (.Return (some e) pos) (mRet f) := PS.imp (ps_ret he) fun D σ H ⟨ρ, h, mp, r, en, p⟩ =>
  ⟨ρ, h, mp, r, en, Post.mono (PostS.bind en p) fun v H1 ⟨mp1, h1, d, le, r1, q, p1⟩ => p1 v mp1 H1 .refl r1 q⟩
theorem ss_if {t : Expr} (hc : ST X W t c) (ha : SSs X W a fs) (hb : SSs X W b gs) : SS X W (.If t a b pos) (mIf c fs gs) := PS.imp (ps_if hc ha hb) fun D σ H ⟨ρ, h, mp, r, en, p⟩ => by
  refine ⟨ρ, h, mp, r, en, Post.mono (PostS.bind (R := rB) en p) fun v H1 ⟨mp1, h1, d, le, r1, q, p1⟩ => ?_⟩
  obtain rfl : d = v := q
  cases d with
  | true => rw [if_pos rfl]; exact ⟨ρ, h1, mp1, r1, en.mono le, p1⟩
  | false => rw [if_neg (by decide)]; exact ⟨ρ, h1, mp1, r1, en.mono le, p1⟩
/-- name = e -/
theorem ss_set (i : Nat) {x : Str} {pos' : Pos} (hN : X.N.Nodup) (he : SE X W e f) (hi : X.N[i]? = some x := by rfl) (hx : Loc X.env.scope x := by first | exact Or.inl rfl | exact Or.inr rfl) (hs : swapsWith e (some (.Name x pos')) pos.line X.env = pure false := by rfl)
    (hf : X.fn x = true ∨ X.env.scope.names.lookup x = some .local := by first | exact .inl rfl | exact .inr rfl) : SS X W (.Assign [.Name x pos'] e pos) (mSet (.nm i) f) := PS.imp (ps_set hN hi hx he hs hf) fun D σ H ⟨ρ, h, mp, r, en, p⟩ =>
  ⟨ρ, h, mp, r, en, Post.mono (PostS.bind en p) fun v H1 ⟨mp1, h1, d, le, r1, q, p1⟩ => p1 _ mp1 H1 .refl r1 ((en.mono le).set q)⟩
/-- a, b = e -/
theorem ss_asg {tg : Expr} {T : Tg} (he : SE X W e f) (hg : SG X tg T) (hs : swapsWithSole [tg] e pos.line X.env = pure false := by rfl) (hw : swappedStores [tg] e X.env = pure none := by rfl) (h1 : (assignEach [tg] X.env).map (·.2) = [assign tg X.env] := by rfl) :
    SS X W (.Assign [tg] e pos) (mSet T f) := PS.imp (ps_asg he hg hs hw h1) fun D σ H ⟨ρ, h, mp, r, en, p⟩ => by
  refine ⟨ρ, h, mp, r, en, Post.mono (PostS.bind en p) fun v H1 ⟨mp1, h1, d, le, r1, q, p1⟩ => ?_⟩
  dsimp only at p1
  cases es : setT T d ρ with
  | none => rw [es] at p1; exact p1.elim
  | some ρ1 =>
    rw [es] at p1
    exact ⟨ρ, h1, mp1, d, ρ1, r1, en.mono le, q, es, fun σ' _ _ en' => p1 σ' mp1 H1 .refl r1 en'⟩
/-- name = [e for ..] -/
theorem ss_setLc (i : Nat) {y : Str} {py : Pos} {elt tg iter : Expr} {ifs : List Expr} {scope : Scope} {own : List (Str × Nat)} {spos : Pos} {fi : Ev (List D × Option (Nat × O))} {ft : Ev Bool} {fe : Ev D} {T : Tg} (hc : X.calm = true) (hN : X.N.Nodup) (hi : SI X W tg iter fi) (ok : BlkOk X.N X.env.scope scope own)
    (hT : ∀ i ∈ T.slots, i ∈ own.map (·.2))
    (hg : ∀ (s : Shared) (H : Hp) (C : Addr) (cl : List (Str × Addr)) (fp : List Addr), SG (X.blk s H scope (compEnvC scope cl C X.env) fp) tg T)
    (ht : ∀ (s : Shared) (H : Hp) (C : Addr) (cl : List (Str × Addr)) (fp : List Addr), PTs (X.blk s H scope (compEnvC scope cl C X.env) fp) ifs (tT X.K W0 ft))
    (he : ∀ (s : Shared) (H : Hp) (C : Addr) (cl : List (Str × Addr)) (fp : List Addr), SE (X.blk s H scope (compEnvC scope cl C X.env) fp) W0 elt fe)
    (hsw : swapsWith (.ListComp elt [⟨tg, iter, ifs, 0⟩] scope pos) (some (.Name y py)) spos.line X.env = pure true)
    (hy : X.N[i]? = some y := by rfl) (hyl : X.env.scope.names.lookup y = some .local := by rfl) (hs : ∀ x, foldedSetIterable iter X.env x = pure x := by intro _; rfl) :
    SS X W (.Assign [.Name y py] (.ListComp elt [⟨tg, iter, ifs, 0⟩] scope pos) spos) (mSet (.nm i) (mLc T (own.map (·.2)) fi ft fe)) :=
  PS.imp (ps_setLc hc hN hy hyl hsw hi ok hg ht he hs) fun D σ H ⟨ρ, h, mp, r, en, p⟩ => lc_read hT ⟨ρ, h, mp, r, en, Post.mono (PostS.bind en p) fun v H1 ⟨mp1, h1, d, le, r1, q, p1⟩ => p1 _ mp1 H1 .refl r1 ((en.mono le).set q)⟩
end
end Mi
namespace Mi
open PySem PySem.Spec L2
/-! ### loops -/
open Classical in
noncomputable def forGo (T : Tg) (c : Option (Nat × O)) (all : List D) (body : Ex) : List D → Ex
  | [], ρ, h => if chkOk c all h then .nx ρ h else .bad
  | d :: ds, ρ, h => if chkOk c all h then (match setT T d ρ with
    | none => .bad
    | some ρ1 => match body ρ1 h with
      | .nx ρ2 h2 => forGo T c all body ds ρ2 h2
      | .ct ρ2 h2 => forGo T c all body ds ρ2 h2
      | .bk ρ2 h2 => .nx ρ2 h2
      | .rt v h2 => .rt v h2
      | .exc x ρ2 h2 => .exc x ρ2 h2
      | .bad => .bad) else .bad
noncomputable def mFor (T : Tg) (fi : Ev (List D × Option (Nat × O))) (body : Ex) : Ex := fun ρ h => (fi ρ h).bindS ρ fun p h1 => forGo T p.2 p.1 body p.1 ρ h1
def whGo (c : Ev Bool) (body : Ex) : Nat → Ex
  | 0, _, _ => .bad
  | n + 1, ρ, h => (c ρ h).bindS ρ fun b h1 => match b with
    | false => .nx ρ h1
    | true => match body ρ h1 with
      | .nx ρ2 h2 => whGo c body n ρ2 h2
      | .ct ρ2 h2 => whGo c body n ρ2 h2
      | .bk ρ2 h2 => .nx ρ2 h2
      | .rt v h2 => .rt v h2
      | .exc x ρ2 h2 => .exc x ρ2 h2
      | .bad => .bad
def mWhile (n : Nat) (c : Ev Bool) (body : Ex) : Ex := whGo c body n
section
variable {X : Cx} {W : WX} {pos : Pos} {tg iter : Expr} {body : List Stmt} {fi : Ev (List D × Option (Nat × O))} {fb : Ex} {T : Tg}
theorem ss_for (hp : PassesOwn (model X.prog X.w) X.A X.env X.xe) (hc : X.calm = true) (hi : SI X W tg iter fi) (hg : SG X tg T) (hb : SSs X W body fb) (hs : ∀ x, foldedSetIterable iter X.env x = pure x := by intro _; rfl) : SS X W (.For tg iter body [] pos) (mFor T fi fb) :=
  PS.imp (ps_for hp hc hi hg hb hs) fun D σ H ⟨ρ, h, mp, r, en, p⟩ => by
    refine ⟨ρ, h, mp, r, en, Post.mono (PostS.bind en p) fun J H1 ⟨mp1, h1, d1, le1, r1, it, p1⟩ => ?_⟩
    obtain ⟨ds, c⟩ := d1
    dsimp only at p1
    refine ⟨fun i m σ' H' => m = ds.length - i ∧ i ≤ ds.length ∧ ∃ ρ' h' mp', Le mp1 H1 mp' H' ∧ HRel X.K mp' h' H' ∧ EnvRel X.K mp' H' ρ' σ' ∧ PostS X.K mp' H' (forGo T c ds fb (ds.drop i) ρ' h') D W, ⟨ds.length, by simp, Nat.zero_le _, ρ, h1, mp1, .refl, r1, en.mono le1, p1⟩, ?_⟩
    rintro i m σ' H' ⟨rfl, hi', ρ', h', mp', le, r', en', q⟩
    by_cases hlt : i < ds.length
    · right
      have hdrop : ds.drop i = ds[i] :: ds.drop (i + 1) := List.drop_eq_getElem_cons hlt
      rw [hdrop, forGo] at q
      by_cases ck : chkOk c ds h'
      · rw [if_pos ck] at q
        obtain ⟨go, yl⟩ := it.item mp' h' H' le r' ck i ds[i] (List.getElem?_eq_getElem hlt)
        refine ⟨go, fun σ2 H2 => ∃ ρ' h' mp', Le mp1 H1 mp' H2 ∧ HRel X.K mp' h' H2 ∧ EnvRel X.K mp' H2 ρ' σ2 ∧ PostS X.K mp' H2 (forGo T c ds fb (ds.drop (i + 1)) ρ' h') D W, fun σ2 H2 z => ⟨ds.length - (i + 1), by omega, rfl, hlt, z⟩, fun x H2 y => ?_⟩
        obtain ⟨le2, r2, rx, sm⟩ := yl x H2 y
        cases es : setT T ds[i] ρ' with
        | none => rw [es] at q; exact q.elim
        | some ρ1 =>
          rw [es] at q
          refine ⟨ρ', h', mp', ds[i], ρ1, r2, en'.mono le2, rx, es, fun σ2 _ _ en2 => ?_⟩
          refine ⟨ρ1, h', mp', r2, en2, ?_⟩
          dsimp only at q
          cases eb : fb ρ1 h' with
          | nx ρ2 h2 =>
            rw [eb] at q
            exact fun σ3 mp3 H3 le3 r3 en3 => ⟨ρ2, h2, mp3, le.trans (le2.trans le3), r3, en3, PostS.le (le2.trans le3) q⟩
          | ct ρ2 h2 =>
            rw [eb] at q
            exact fun σ3 mp3 H3 le3 r3 en3 => ⟨ρ2, h2, mp3, le.trans (le2.trans le3), r3, en3, PostS.le (le2.trans le3) q⟩
          | bk ρ2 h2 => rw [eb] at q; exact fun σ3 mp3 H3 le3 r3 en3 => q σ3 mp3 H3 (le2.trans le3) r3 en3
          | rt v h2 => rw [eb] at q; exact fun v3 mp3 H3 le3 r3 en3 => q v3 mp3 H3 (le2.trans le3) r3 en3
          | exc x ρ2 h2 => rw [eb] at q; exact fun σ3 mp3 H3 le3 r3 en3 => q σ3 mp3 H3 (le2.trans le3) r3 en3
          | bad => rw [eb] at q; exact q.elim
      · rw [if_neg ck] at q; exact q.elim
    · left
      have hie : i = ds.length := by omega
      subst hie
      rw [List.drop_length, forGo] at q
      by_cases ck : chkOk c ds h'
      · rw [if_pos ck] at q
        exact ⟨it.stop mp' h' H' le r' ck _ (Nat.le_refl _), q σ' mp' H' .refl r' en'⟩
      · rw [if_neg ck] at q; exact q.elim
theorem ss_while (n : Nat) {t : Expr} {c : Ev Bool} (hp : PassesOwn (model X.prog X.w) X.A X.env X.xe) (hc : ST X W t c) (hb : SSs X W body fb) : SS X W (.While t body [] pos) (mWhile n c fb) :=
  PS.imp (ps_while hp hc hb) fun D σ H ⟨ρ, h, mp, r, en, p⟩ => by
    refine ⟨fun m σ' H' => ∃ ρ' h' mp', HRel X.K mp' h' H' ∧ EnvRel X.K mp' H' ρ' σ' ∧ PostS X.K mp' H' (whGo c fb m ρ' h') D W, ⟨n, ρ, h, mp, r, en, p⟩, ?_⟩
    rintro m σ' H' ⟨ρ', h', mp', r', en', q⟩
    cases m with
    | zero => exact q.elim
    | succ m =>
      rw [whGo] at q
      refine ⟨ρ', h', mp', r', en', Post.mono (PostS.bind (R := rB) en' q) fun b H1 ⟨mp1, h1, d, le, r1, eb, p1⟩ => ?_⟩
      obtain rfl : d = b := eb
      cases d with
      | false => rw [if_neg (by decide)]; exact p1 σ' mp1 H1 .refl r1 (en'.mono le)
      | true =>
        rw [if_pos rfl]
        dsimp only at p1
        refine ⟨fun σ2 H2 => ∃ ρ' h' mp', HRel X.K mp' h' H2 ∧ EnvRel X.K mp' H2 ρ' σ2 ∧ PostS X.K mp' H2 (whGo c fb m ρ' h') D W, fun σ2 H2 z => ⟨m, Nat.lt_succ_self _, z⟩, ρ', h1, mp1, r1, en'.mono le, ?_⟩
        cases ef : fb ρ' h1 with
        | nx ρ2 h2 => rw [ef] at p1; exact fun σ3 mp3 H3 le3 r3 en3 => ⟨ρ2, h2, mp3, r3, en3, PostS.le le3 p1⟩
        | ct ρ2 h2 => rw [ef] at p1; exact fun σ3 mp3 H3 le3 r3 en3 => ⟨ρ2, h2, mp3, r3, en3, PostS.le le3 p1⟩
        | bk ρ2 h2 => rw [ef] at p1; exact p1
        | rt v h2 => rw [ef] at p1; exact p1
        | exc x ρ2 h2 => rw [ef] at p1; exact p1
        | bad => rw [ef] at p1; exact p1.elim
end
/-! ### calls of own defs -/
abbrev Calls (F : Type) := F → List D → Hq → Res D
def eX (K : PySem.W.Frag) (E : XK) : Str → Hp → Prop := fun c H' => E (.ref (He.ga K c)) none H'
/-- what is promised of a def: it does what C says -/
def spM {F : Type} (K : PySem.W.Frag) (C : Calls F) (f : F) (n : Nat) : Sp := fun vs H Q E => vs.length = n ∧ ∃ mp h ds, HRel K mp h H ∧ RpAll K mp H ds vs ∧ Post K (rD K) mp H (C f ds h) Q (eX K E)
/-- a def of the module -/
structure FnA {F : Type} (P : Program) (w : World) (K : PySem.W.Frag) (mg : Str → Option Value) (base : Heap) (C : Calls F) (k : Nat) (f : F) (x : Str) (ps : List Str) : Prop where
  ok : ∃ fd, FnOk P w K mg base (L2.CX P w) k (He.ga K x) fd ps (spM K C f ps.length) ∧ Binds K fd ps []
  mg : mg x = some (.ref (He.ga K x))
  kp : PySem.W.keepIn K (.ref (He.ga K x)) = true
def mCall {F : Type} (C : Calls F) (f : F) (n : Nat) (fa : Ev (List D)) : Ev D := fun ρ h => (fa ρ h).bind fun ds h1 => if ds.length = n then C f ds h1 else .bad
section
variable {F : Type} {X : Cx} {W : WX} {pos p : Pos} {e : Expr} {es : List Expr} {C : Calls F} {k : Nat} {f : F} {x : Str} {ps : List Str} {fa : Ev (List D)}
theorem se_call (A : FnA X.prog X.w X.K X.mg X.base C k f x ps) (hr : Room k X.A) (tk : Takes X W) (ha : SA X W (e :: es) fa) (hg : Gl X x := by rfl) (hdb : (x == ("__debug__" : Str)) = false := by decide) (he : starEach (e :: es) X.env = (false, eval e X.env) :: starEach es X.env := by rfl)
    (hpl : (backTo pos (starEach es X.env)).any (·.1) = false := by rfl) : SE X W (.Call (.Name x p) (e :: es) [] pos) (mCall C f ps.length fa) := by
  obtain ⟨fd, ok, b⟩ := A.ok
  refine PE.imp (pe_callS ok hr hg A.mg A.kp b (fun σ => passAt tk σ) ha hdb he hpl) fun σ H Q ⟨ρ, h, mp, r, en, q⟩ => ?_
  refine ⟨ρ, h, mp, r, en, Post.mono (Post.bind (R := rA X.K) q) fun v H1 ⟨mp1, h1, ds, le1, r1, q1, p1⟩ => ?_⟩
  dsimp only at p1
  split at p1
  · rename_i hl
    exact ⟨by rw [← q1.length, hl], mp1, h1, ds, r1, q1, p1⟩
  · exact p1.elim
end
/-- what a def's body comes to -/
def SR.res : SR → Res D
  | .nx _ h => .ok .non h
  | .rt d h => .ok d h
  | .exc c _ h => .exc c h
  | _ => .bad
def startD (n : Nat) (ds : List D) : Env' := ds.map some ++ List.replicate (n - ds.length) none
theorem start_rel {K : PySem.W.Frag} {mp : Wd} {H : Hp} {ds : List D} {vs : List V} {N : List Str} (a : RpAll K mp H ds vs) : EnvRel K mp H (startD N.length ds) (L2.start N vs) := by
  refine ⟨by simp [startD, L2.start, a.length], fun i d e => ?_⟩
  unfold startD at e
  have hi : i < ds.length := by
    by_cases hi : i < ds.length
    · exact hi
    · rw [List.getElem?_append_right (by simpa using hi), List.getElem?_replicate] at e
      split at e <;> cases e
  rw [List.getElem?_append_left (by simpa using hi), List.getElem?_map, Option.map_eq_some_iff] at e
  obtain ⟨d', e1, e2⟩ := e
  cases e2
  obtain ⟨v, h1, h2⟩ := a.get e1
  refine ⟨v, ?_, h2⟩
  unfold L2.start
  rw [List.getElem?_append_left (by rw [List.length_map, ← a.length]; exact hi), List.getElem?_map, h1]
  rfl
/-- a def of the text does what its body's reading says -/
theorem fn_mi {F : Type} {fx : F} {P : Program} {w : World} {K : PySem.W.Frag} {mg : Str → Option Value} {base : Heap} {nm qual : Str} {params : Arguments} {body : List Stmt} {scope : Scope} {f : Addr} {fd : FuncData} {N ps : List Str} {k : Nat} {C : Calls F} {b : Ex}
    (FD : FunD K nm qual params body scope [] [] f fd) (S : FnScope N ps scope) (hC : ∀ ds h, ds.length = ps.length → C fx ds h = (b (startD N.length ds) h).res)
    (hb : ∀ (cdv : Value) (A : Around) (outer : List Env) (s : Shared) (H : Hp) (E : XK), Room k (A.deeper (PyProof.Rows.envOfC qual scope s.heap.objs.size f cdv)) →
      SSs (cxOf (L2.CX P w) P w K mg base N qual scope f cdv A outer s H E) (fun c d _ H' => E c d H') body b) :
    FnOk P w K mg base (L2.CX P w) (k + 1) f fd ps (spM K C fx ps.length) := by
  refine FD.ok S (fun vs H Q E h => h.1) fun cdv A outer s H vs Q E hr ⟨hl, mp, h, ds, r, a, q⟩ => ⟨_, hb cdv A outer s H E hr, startD N.length ds, h, mp, r, start_rel a, ?_⟩
  rw [hC ds h (by rw [a.length, hl])] at q
  show PostS K mp H (b (startD N.length ds) h) _ _
  cases e : b (startD N.length ds) h with
  | nx ρ1 h1 => rw [e] at q; exact fun σ' mp' H' le r' _ => q .non mp' H' le r' .non
  | rt d h1 => rw [e] at q; exact q
  | bk ρ1 h1 => rw [e] at q; exact q.elim
  | ct ρ1 h1 => rw [e] at q; exact q.elim
  | exc c ρ1 h1 => rw [e] at q; exact fun σ' mp' H' le r' _ => q mp' H' le r'
  | bad => rw [e] at q; exact q.elim
end Mi
namespace Mi
open PySem PySem.W PySem.Calls PyProof.Rows
section
variable {prog : Program} {w : World} {A : Around} {E : Value → Shared → Prop} {s : Shared}
/-- whether a tuple has an item -/
def hasItem : PyData → Bool
  | .tuple (_ :: _) => true
  | _ => false
theorem firsts_mix {M : Model} : ∀ {vs : List Value} {ds : List PyData}, EachIs (fun v d => ∃ as, Reads s.heap v d as) vs ds → (∀ d, d ∈ ds → ∃ xs, d = .tuple xs) →
    ∃ fs : List (Option Value), fs.map (·.isSome) = ds.map hasItem ∧ ∀ (E : Value → Shared → Prop) (Q : List (Option Value) → Shared → Prop), Q fs s → wpAny M A (vs.mapM firstOfTuple') Q E s
  | _, _, .nil, _ => ⟨[], rfl, fun E Q h => by rw [List.mapM_nil]; exact wpAny_pure h⟩
  | _, _, .cons (b := d) ⟨as, r⟩ t, ht => by
    obtain ⟨fs, h1, h2⟩ := firsts_mix (M := M) t fun d hd => ht d (List.mem_cons_of_mem _ hd)
    obtain ⟨ys, rfl⟩ := ht d (List.mem_cons_self ..)
    cases r with
    | @tuple a o xs n _ _ ho hc hd hr =>
      have go : ∀ (E : Value → Shared → Prop) (Q : Option Value → Shared → Prop), Q xs[0]? s → wpAny M A (firstOfTuple' (.ref a)) Q E s := fun E Q hq => by
        rw [kas_first_eq]
        refine wpAny_bind (Looks.here (show Looks M s.heap (typeOf (.ref a)) o.cls from (Looks.ld ho).andThen .now) ?_)
        rw [hc, if_neg (by first | decide | simp)]
        exact wpAny_bind (listItems_at ho hd (wpAny_pure hq))
      refine ⟨xs[0]? :: fs, ?_, fun E Q hq => ?_⟩
      · rw [List.map_cons, List.map_cons, h1]
        congr 1
        cases q : xs.toList with
        | nil =>
          rw [q] at hr
          cases hr
          have : xs = #[] := Array.toList_eq_nil_iff.mp q
          subst this
          rfl
        | cons f fr =>
          rw [q] at hr
          cases hr
          have hf : xs[0]? = some f := by rw [← Array.getElem?_toList, q]; rfl
          rw [hf]; rfl
      · rw [List.mapM_cons]
        exact wpAny_bind (go E _ (wpAny_bind (h2 E (fun bs s' => wpAny M A (pure (xs[0]? :: bs)) Q E s') (wpAny_pure hq))))
theorem kind_mix {M : Model} {vs : List Value} {ds : List PyData} (e : EachIs (fun v d => ∃ as, Reads s.heap v d as) vs ds) (ht : ∀ d, d ∈ ds → ∃ xs, d = .tuple xs) (hne : ds.all hasItem = false) :
    ∃ kd : SortKind, (kd = general' ∨ kd = oneType') ∧ ∀ (E : Value → Shared → Prop) (Q : SortKind → Shared → Prop), Q kd s → wpAny M A (keyKind' vs.toArray) Q E s := by
  obtain ⟨fs, h1, h2⟩ := firsts_mix (A := A) (M := M) e ht
  have hall : (fs.toArray.all fun x => x.isSome) = false := by
    rw [List.all_toArray, ← hne]
    have : fs.all (fun x => x.isSome) = (fs.map (·.isSome)).all id := by rw [List.all_map]; rfl
    rw [this, h1, List.all_map]; rfl
  refine ⟨if (fs.toArray[0]?.bind id).isSome then general' else oneType', ?_, fun E Q hq => ?_⟩
  · split
    · exact .inl rfl
    · exact .inr rfl
  · rw [keyKind'_eq, List.mapM_toArray, map_eq_pure_bind]
    refine wpAny_bind (wpAny_bind (h2 E _ (wpAny_pure ?_)))
    rw [if_neg (by rw [hall]; decide)]
    by_cases hf : (fs.toArray[0]?.bind id).isSome = true
    · rw [if_pos hf] at hq ⊢
      exact wpAny_pure hq
    · rw [if_neg hf] at hq ⊢
      rw [oneTypeOnly'_eq, List.mapM_toArray, map_eq_pure_bind]
      refine wpAny_bind (wpAny_bind (wpAny_bind (kas_mapM (r := Value.type "tuple") _ (fun v hv Q' hq' => ?_) (wpAny_pure ?_))))
      · obtain ⟨d, hd, as, r⟩ := e.left v hv
        obtain ⟨xs, rfl⟩ := ht d hd
        exact (looks_reads r).here hq'
      · have hv : vs ≠ [] := by
          rintro rfl
          cases e
          simp at hne
        obtain ⟨v0, vr, rfl⟩ : ∃ a b, vs = a :: b := by cases vs with
          | nil => exact absurd rfl hv
          | cons a b => exact ⟨a, b, rfl⟩
        have h0 : (List.map (fun _ => Value.type "tuple") (v0 :: vr)).toArray[0]? = some (Value.type "tuple") := by simp
        rw [h0]
        have h3 : ((List.map (fun _ => Value.type "tuple") (v0 :: vr)).toArray.all fun x => x == Value.type "tuple") = true := by
          simp only [List.all_toArray, List.all_map, List.all_eq_true]
          intro _ _
          exact beq_self_eq_true _
        simp only [h3, if_true]
        exact wpAny_pure (wpAny_pure hq)
theorem lt_general (x y : Value) : keyLt' general' x y = oneLt' false x y := rfl
/-- tuples compared where all keys are tuples, some without an item -/
theorem oneLt_tup {xs ys : List PyData} {a b : Value} {as bs : List Addr} {Q : Bool → Shared → Prop} (ra : Reads s.heap a (.tuple xs) as) (rb : Reads s.heap b (.tuple ys) bs) (h : alike (.tuple xs) (.tuple ys) = true)
    (hu : A.units + min (PyData.depth (.tuple xs)) (PyData.depth (.tuple ys)) < cLine) (hq : Q (dataLt (.tuple xs) (.tuple ys)) s) : wpAny (model prog w) A (oneLt' true a b) Q E s := by
  have hal : alikeAll xs ys = true := by simpa [alike] using h
  cases ra with
  | @tuple l o vs n _ as₁ h1 h2 h3 h4 =>
    cases rb with
    | @tuple l' o' vs' n' _ bs₁ k1 k2 k3 k4 =>
      obtain ⟨c1, d1, t1, l1⟩ := o
      obtain ⟨c2, d2, t2, l2⟩ := o'
      simp only at h2 h3 k2 k3
      subst h2 h3 k2 k3
      have n1 : vs.size = xs.length := by simpa using SeqAt.ReadsAll.length _ _ _ h4
      have n2 : vs'.size = ys.length := by simpa using SeqAt.ReadsAll.length _ _ _ k4
      rw [dataLt_tuple, ← firstLt_toks xs ys hal, ← n1, ← n2] at hq
      rw [oneLt'_eq]
      simp only [if_true]
      refine wpAny_bind (wpAny_cRoomFor (SeqAt.room_here hu) ?_)
      refine wpAny_bind (wpAny_callSpecialIfBound?_slot (T := "tuple") ⟨_, h1, rfl⟩ F.slot_tuple_lt (call_meets F.slot_tuple_lt ⟨_, h1, rfl⟩ F.entry_tuple_lt (F.args_tuple_lt_2 _ _)
        (SeqAt.tuple_ltAt l l' vs vs' n n' d1 d2 l1 l2 (SeqAt.pairEq xs ys) fun j => dataLt (xs.getD j .none) (ys.getD j .none)) ⟨h1, k1, fun j j1 j2 => ?_, fun j j1 j2 hj => ?_, wpAny_truthy_bool hq⟩))
      · have := eqAt_alikeAll xs ys A.in1 s vs.toList vs'.toList _ _ h4 k4 hal (SeqAt.room_in hu) j (by simpa using j1) (by simpa using j2)
        simpa using this
      · have := rcLt_alikeAll xs ys A.in1 s vs.toList vs'.toList _ _ h4 k4 hal (SeqAt.room_in hu) j (by simpa using j1) (by simpa using j2) hj
        simpa using this
/-- lists of tuples, with or without items, can be sorted -/
theorem sorts_tups {vs : List Value} {ds : List PyData} (e : EachIs (fun v d => ∃ as, Reads s.heap v d as) vs ds) (hal : AllAlike ds) (ht : ∀ d, d ∈ ds → ∃ xs, d = .tuple xs) (hu : ∀ d, d ∈ ds → A.units + d.depth < cLine) : SortsAt prog w A s (dataKind s.heap ds) vs := by
  cases hne : ds.all hasItem with
  | true =>
    refine SortsAt.data e hal (.inl fun d hd => ?_) hu
    have := List.all_eq_true.mp hne d hd
    obtain ⟨xs, rfl⟩ := ht d hd
    cases xs with
    | nil => cases this
    | cons x r => exact ⟨x, r, rfl⟩
  | false =>
    have room : ∀ {d d' : PyData}, d ∈ ds → A.units + min d.depth d'.depth < cLine := fun {d d'} hd => Nat.lt_of_le_of_lt (Nat.add_le_add_left (Nat.min_le_left _ _) _) (hu d hd)
    refine ⟨fun v hv => ?_, ?_⟩
    · obtain ⟨d, hd, as, r⟩ := e.left v hv
      exact ⟨_, dataKind_some hal hd r⟩
    · obtain ⟨kd, hkd, hkk⟩ := kind_mix (A := A) (M := model prog w) e ht hne
      refine ⟨kd, fun E x y a b Q ha hb hq => ?_, fun _ E Q hq => hkk E Q hq⟩
      obtain ⟨d, as, hd, ra, rfl⟩ := dataKind_inv ha
      obtain ⟨d', as', hd', rb, rfl⟩ := dataKind_inv hb
      have hdd := hal d hd d' hd'
      obtain ⟨xs, rfl⟩ := ht d hd
      obtain ⟨ys, rfl⟩ := ht d' hd'
      rcases hkd with rfl | rfl
      · rw [lt_general]
        exact oneLt_alike (f := false) (fun z => by cases z) ra rb hdd (fun z => by cases z) (room hd) hq
      · rw [keyLt'_oneType]
        exact oneLt_tup ra rb hdd (room hd) hq
end
end Mi
namespace Mi
open PySem PySem.Spec L2
/-! ### calls of built-ins by values -/
def C1 (X : Cx) (f : Value) (g : List D → Hq → Option (D × Hq)) : Prop :=
  CallR X f fun vs H Q => ∃ mp h ds, HRel X.K mp h H ∧ RpAll X.K mp H ds vs ∧ PostO X.K (rD X.K) mp H (g ds h) Q
def mBlt (g : List D → Hq → Option (D × Hq)) (fa : Ev (List D)) : Ev D := fun ρ h => (fa ρ h).bind fun ds h1 => .of (g ds h1)
section
variable {X : Cx} {W : WX} {pos p : Pos} {e : Expr} {es : List Expr} {x : Str} {id : String} {g : List D → Hq → Option (D × Hq)} {fa : Ev (List D)}
theorem t_blt {σ : L2.St} {H : Hp} {Q : VK} (t : tE X.K W (mBlt g fa) σ H Q) : tCB (fun vs H Q => ∃ mp h ds, HRel X.K mp h H ∧ RpAll X.K mp H ds vs ∧ PostO X.K (rD X.K) mp H (g ds h) Q) (tA X.K W fa) σ H Q := by
  obtain ⟨ρ, h, mp, r, en, q⟩ := t
  exact ⟨ρ, h, mp, r, en, Post.mono (Post.bind (R := rA X.K) q) fun v H1 ⟨mp1, h1, ds, le1, r1, q1, p1⟩ => ⟨mp1, h1, ds, r1, q1, p1.o⟩⟩
theorem se_callB (hc : C1 X (.builtin id) g) (hm : X.mg x = none) (hv : bootBuiltins x = some (.builtin id)) (ha : SA X W (e :: es) fa) (hg : Gl X x := by rfl) (hn : x ≠ "__name__" := by decide) (hdb : (x == ("__debug__" : Str)) = false := by decide)
    (he : starEach (e :: es) X.env = (false, eval e X.env) :: starEach es X.env := by rfl) (hpl : (backTo pos (starEach es X.env)).any (·.1) = false := by rfl) : SE X W (.Call (.Name x p) (e :: es) [] pos) (mBlt g fa) :=
  PE.imp (pe_callB hc hg hm hv ha hn hdb he hpl) fun σ H Q t => t_blt t
theorem se_callTy (hc : C1 X (.type id) g) (hm : X.mg x = none) (hv : bootBuiltins x = some (.type id)) (ha : SA X W (e :: es) fa) (hg : Gl X x := by rfl) (hn : x ≠ "__name__" := by decide) (hdb : (x == ("__debug__" : Str)) = false := by decide)
    (he : starEach (e :: es) X.env = (false, eval e X.env) :: starEach es X.env := by rfl) (hpl : (backTo pos (starEach es X.env)).any (·.1) = false := by rfl) : SE X W (.Call (.Name x p) (e :: es) [] pos) (mBlt g fa) :=
  PE.imp (pe_callTy hc hg hm hv ha hn hdb he hpl) fun σ H Q t => t_blt t
end
def gTuple (ds : List D) (h : Hq) : Option (D × Hq) := match ds with
  | [.tup xs] => some (.tup xs, h)
  | [.ktup xs] => some (.ktup xs, h)
  | [d] => (asLk h d).map fun xs => (.tup xs, h)
  | _ => none
def gList (ds : List D) (h : Hq) : Option (D × Hq) := match ds with
  | [d] => (match asT d with
    | some xs => some (.lst xs, h)
    | none => (asLk h d).map fun xs => (.lst xs, h))
  | _ => none
def gListR (ds : List D) (h : Hq) : Option (D × Hq) := match ds with
  | [d] => (match asT d with
    | some xs => some (.ref h.length, h ++ [.lst xs])
    | none => (asLk h d).map fun xs => (.ref h.length, h ++ [.lst xs]))
  | _ => none
def gLen (ds : List D) (h : Hq) : Option (D × Hq) := match ds with
  | [.str z] => if z.length ≤ sizeLine then some (.int z.length, h) else none
  | [d] => (match asT d with
    | some xs => some (.int xs.length, h)
    | none => match asLk h d with
      | some xs => some (.int xs.length, h)
      | none => (asD h d).map fun kvs => (.int kvs.length, h))
  | _ => none
def isBls : List D → Option (List Bool)
  | [] => some []
  | .bl b :: ds => (isBls ds).map (b :: ·)
  | _ => none
def gAll (ds : List D) (h : Hq) : Option (D × Hq) := match ds with
  | [d] => (asLk h d).bind fun xs => (isBls xs).map fun bs => (.bl (bs.all id), h)
  | _ => none
def gAny (ds : List D) (h : Hq) : Option (D × Hq) := match ds with
  | [d] => (asLk h d).bind fun xs => (isBls xs).map fun bs => (.bl (bs.any id), h)
  | _ => none
def gInt (ds : List D) (h : Hq) : Option (D × Hq) := match ds with
  | [.int i] => some (.int i, h)
  | [.bl b] => some (.int (if b then 1 else 0), h)
  | _ => none
/-- what the data's order needs -/
def encD (d : D) : PyData := d.py.getD .none
def isTup : PyData → Bool
  | .tuple _ => true
  | _ => false
def isNo : PyData → Bool
  | .none => true
  | _ => false
def sortOk (ds : List D) : Bool := (ds.all fun d => d.py.isSome) && (ds.all fun a => ds.all fun b => PySem.W.alike (encD a) (encD b)) && (ds.all fun a => decide ((encD a).depth ≤ 60)) && ((ds.all fun a => isTup (encD a)) || ds.all fun a => !isTup (encD a) && !isNo (encD a))
def leD (a b : D) : Bool := !PySem.W.dataLt (encD b) (encD a)
def gSorted (ds : List D) (h : Hq) : Option (D × Hq) := match ds with
  | [d] => (asLk h d).bind fun xs => if sortOk xs = true then some (.lst (xs.mergeSort leD), h) else none
  | _ => none
section
variable {X : Cx}
theorem c1_tuple : C1 X (.type "tuple") gTuple := by
  intro pins s σ H xs us Q I rv ⟨mp, h, ds, r, a, p⟩
  unfold gTuple at p
  split at p
  · obtain ⟨v, rfl, q⟩ := a.one
    cases q with
    | tup h1 n1 q1 => exact call_tuple_of pins s σ H _ us Q I rv ⟨_, _, rfl, .inr ⟨SqT.of h1, p _ mp H .refl r (.tup h1 n1 q1)⟩⟩
  · obtain ⟨v, rfl, q⟩ := a.one
    cases q with
    | ktup h1 q1 => exact call_tuple_of pins s σ H _ us Q I rv ⟨_, _, rfl, .inr ⟨sqT_none h1, p _ mp H .refl r (.ktup h1 q1)⟩⟩
  · rename_i d _ _
    obtain ⟨v, rfl, q⟩ := a.one
    cases e : asLk h d with
    | none => rw [e] at p; exact p.elim
    | some ys =>
      rw [e] at p
      obtain ⟨pa, vs, rfl, hs, ra⟩ := asLk_ok r q e
      refine call_tuple_of pins s σ H _ us Q I rv ⟨pa, vs, rfl, .inl ⟨hs, fun l hl => ?_⟩⟩
      obtain ⟨l1, l2, l3⟩ := newT r hl ra
      exact p _ mp _ l1 l2 l3
  · exact p.elim
theorem c1_list : C1 X (.type "list") gList := by
  intro pins s σ H xs us Q I rv ⟨mp, h, ds, r, a, p⟩
  unfold gList at p
  split at p
  · rename_i d
    obtain ⟨v, rfl, q⟩ := a.one
    split at p
    · rename_i ys e
      obtain ⟨pa, vs, rfl, hs, ra⟩ := asT_ok q e
      refine call_list_of pins s σ H _ us Q I rv ⟨pa, vs, rfl, .inr hs, fun l hl => ?_⟩
      obtain ⟨l1, l2, l3⟩ := newL r hl ra
      exact p _ mp _ l1 l2 l3
    · cases e : asLk h d with
      | none => rw [e] at p; exact p.elim
      | some ys =>
        rw [e] at p
        obtain ⟨pa, vs, rfl, hs, ra⟩ := asLk_ok r q e
        refine call_list_of pins s σ H _ us Q I rv ⟨pa, vs, rfl, .inl hs, fun l hl => ?_⟩
        obtain ⟨l1, l2, l3⟩ := newL r hl ra
        exact p _ mp _ l1 l2 l3
  · exact p.elim
theorem c1_listR : C1 X (.type "list") gListR := by
  intro pins s σ H xs us Q I rv ⟨mp, h, ds, r, a, p⟩
  unfold gListR at p
  split at p
  · rename_i d
    obtain ⟨v, rfl, q⟩ := a.one
    split at p
    · rename_i ys e
      obtain ⟨pa, vs, rfl, hs, ra⟩ := asT_ok q e
      refine call_list_of pins s σ H _ us Q I rv ⟨pa, vs, rfl, .inr hs, fun l hl => ?_⟩
      obtain ⟨l1, l2, l3⟩ := newLR r hl ra
      exact p _ _ _ l1 l2 l3
    · cases e : asLk h d with
      | none => rw [e] at p; exact p.elim
      | some ys =>
        rw [e] at p
        obtain ⟨pa, vs, rfl, hs, ra⟩ := asLk_ok r q e
        refine call_list_of pins s σ H _ us Q I rv ⟨pa, vs, rfl, .inl hs, fun l hl => ?_⟩
        obtain ⟨l1, l2, l3⟩ := newLR r hl ra
        exact p _ _ _ l1 l2 l3
  · exact p.elim
theorem bls_ok {K : PySem.W.Frag} {mp : Wd} {H : Hp} : ∀ {ds : List D} {vs : List V} {bs : List Bool}, RpAll K mp H ds vs → isBls ds = some bs → vs = bs.map V.bl
  | _, _, _, .nil, e => by simp [isBls] at e; subst e; rfl
  | _, _, _, .cons (d := d) r t, e => by
    cases d with
    | bl b =>
      simp only [isBls, Option.map_eq_some_iff] at e
      obtain ⟨bs, e1, rfl⟩ := e
      cases r
      rw [bls_ok t e1]; rfl
    | _ => simp [isBls] at e
theorem c1_all (hc : X.calm = true) : C1 X (.builtin "all") gAll := by
  intro pins s σ H xs us Q I rv ⟨mp, h, ds, r, a, p⟩
  unfold gAll at p
  split at p
  · rename_i d
    obtain ⟨v, rfl, q⟩ := a.one
    cases e : asLk h d with
    | none => rw [e] at p; exact p.elim
    | some ys =>
      rw [e, Option.bind_some] at p
      cases e2 : isBls ys with
      | none => rw [e2] at p; exact p.elim
      | some bs =>
        rw [e2] at p
        obtain ⟨pa, vs, rfl, hs, ra⟩ := asLk_ok r q e
        rw [bls_ok ra e2] at hs
        exact cr_all hc pins s σ H _ us Q I rv ⟨pa, bs, rfl, hs, p _ mp H .refl r (.bl _)⟩
  · exact p.elim
theorem c1_any (hc : X.calm = true) : C1 X (.builtin "any") gAny := by
  intro pins s σ H xs us Q I rv ⟨mp, h, ds, r, a, p⟩
  unfold gAny at p
  split at p
  · rename_i d
    obtain ⟨v, rfl, q⟩ := a.one
    cases e : asLk h d with
    | none => rw [e] at p; exact p.elim
    | some ys =>
      rw [e, Option.bind_some] at p
      cases e2 : isBls ys with
      | none => rw [e2] at p; exact p.elim
      | some bs =>
        rw [e2] at p
        obtain ⟨pa, vs, rfl, hs, ra⟩ := asLk_ok r q e
        rw [bls_ok ra e2] at hs
        exact cr_any hc pins s σ H _ us Q I rv ⟨pa, bs, rfl, hs, p _ mp H .refl r (.bl _)⟩
  · exact p.elim
theorem c1_int : C1 X (.type "int") gInt := by
  intro pins s σ H xs us Q I rv ⟨mp, h, ds, r, a, p⟩
  unfold gInt at p
  split at p
  · obtain ⟨v, rfl, q⟩ := a.one
    cases q
    exact call_int1 pins s σ H _ us Q I rv (.inl ⟨_, rfl, p _ mp H .refl r (.int _)⟩)
  · obtain ⟨v, rfl, q⟩ := a.one
    cases q
    exact call_int1 pins s σ H _ us Q I rv (.inr ⟨_, rfl, p _ mp H .refl r (.int _)⟩)
  · exact p.elim
theorem c1_len : C1 X (.builtin "len") gLen := by
  intro pins s σ H xs us Q I rv ⟨mp, h, ds, r, a, p⟩
  unfold gLen at p
  split at p
  · split at p
    · rename_i hz
      obtain ⟨v, rfl, q⟩ := a.one
      cases q
      exact call_len pins s σ H _ us Q I rv ⟨_, _, rfl, ⟨hz, rfl⟩, p _ mp H .refl r (.int _)⟩
    · exact p.elim
  · rename_i d _
    obtain ⟨v, rfl, q⟩ := a.one
    split at p
    · rename_i ys e
      obtain ⟨pa, vs, rfl, hs, ra⟩ := asT_ok q e
      exact call_len pins s σ H _ us Q I rv ⟨_, _, rfl, .inr ⟨vs, hs, rfl⟩, by rw [← ra.length]; exact p _ mp H .refl r (.int _)⟩
    · split at p
      · rename_i ys e
        obtain ⟨pa, vs, rfl, hs, ra⟩ := asLk_ok r q e
        exact call_len pins s σ H _ us Q I rv ⟨_, _, rfl, .inl ⟨vs, hs, rfl⟩, by rw [← ra.length]; exact p _ mp H .refl r (.int _)⟩
      · cases e : asD h d with
        | none => rw [e] at p; exact p.elim
        | some kvs =>
          rw [e] at p
          obtain ⟨pa, rfl, c⟩ := asD_ok r q e
          rcases c with ⟨ks, vs, e1, l, ek, rv'⟩ | ⟨ks, vs, _, e1, l, ek, rv'⟩
          · refine call_lenD pins s σ H _ us Q I rv ⟨pa, _, rfl, e1, ?_⟩
            have : (ks.zip vs).length = kvs.length := by
              have := congrArg List.length ek
              simp at this
              rw [List.length_zip, ← l, Nat.min_self, ← this]
            rw [this]
            exact p _ mp H .refl r (.int _)
          · refine call_len_dT pins s σ H _ us Q I rv ⟨pa, _, rfl, e1, ?_⟩
            have : (ks.zip vs).length = kvs.length := by
              have := congrArg List.length ek
              simp at this
              rw [List.length_zip, ← l, Nat.min_self, ← this]
            rw [this]
            exact p _ mp H .refl r (.int _)
  · exact p.elim
/-- items of a list, by values and what they stand for -/
theorem each_of {K : PySem.W.Frag} {mp : Wd} {H : Hp} : ∀ {ds : List D} {vs : List V} {us : List Value}, RpAll K mp H ds vs → Vals vs us → PySem.W.EachIs (fun u d => ∃ x, RelV x u ∧ Rp K mp H d x) us ds
  | _, _, _, .nil, .nil => .nil
  | _, _, _, .cons r t, .cons q u => .cons ⟨_, q, r⟩ (each_of t u)
theorem of_each {K : PySem.W.Frag} {mp : Wd} {H : Hp} : ∀ {ds : List D} {us : List Value}, PySem.W.EachIs (fun u d => ∃ x, RelV x u ∧ Rp K mp H d x) us ds → ∃ vs, Vals vs us ∧ RpAll K mp H ds vs
  | _, _, .nil => ⟨[], .nil, .nil⟩
  | _, _, .cons ⟨x, q, r⟩ t => let ⟨vs, a, b⟩ := of_each t; ⟨x :: vs, .cons q a, .cons r b⟩
theorem each_reads {pins : List (Addr × Obj)} {σ : L2.St} {H : Hp} {s : Shared} {mp : Wd} (I : Inv X pins σ H s) : ∀ {ds : List D} {vs : List V} {us : List Value}, RpAll X.K mp H ds vs → Vals vs us → (∀ d ∈ ds, d.py.isSome = true) → PySem.W.EachIs (fun u d => ∃ as, Reads s.heap u (encD d) as) us ds
  | _, _, _, .nil, .nil, _ => .nil
  | d :: ds, _, _, .cons r t, .cons q u, h => by
    refine .cons ?_ (each_reads I t u fun d hd => h d (List.mem_cons_of_mem _ hd))
    obtain ⟨pd, e⟩ := Option.isSome_iff_exists.mp (h d List.mem_cons_self)
    obtain ⟨as, z⟩ := Dp.reads I _ _ _ (r.dp e) q
    exact ⟨as, by unfold encD; rw [e]; exact z⟩
theorem leD_eq : PySem.W.dataLe false encD = leD := by
  funext a b
  rw [PySem.W.dataLe_eq]
  rfl
theorem sort_parts {ds : List D} (h : sortOk ds = true) : (∀ d ∈ ds, d.py.isSome = true) ∧ PySem.W.AllAlike (ds.map encD) ∧ (∀ d ∈ ds, (encD d).depth ≤ 60) ∧ ((∀ d, d ∈ ds.map encD → ∃ xs, d = .tuple xs) ∨ ∀ d, d ∈ ds.map encD → d ≠ .none ∧ ∀ xs, d ≠ .tuple xs) := by
  unfold sortOk at h
  simp only [Bool.and_eq_true, Bool.or_eq_true, List.all_eq_true, decide_eq_true_eq] at h
  obtain ⟨⟨⟨h1, h2⟩, h3⟩, h4⟩ := h
  refine ⟨h1, fun d hd d' hd' => ?_, h3, ?_⟩
  · obtain ⟨a, ha, rfl⟩ := List.mem_map.mp hd
    obtain ⟨b, hb, rfl⟩ := List.mem_map.mp hd'
    exact h2 a ha b hb
  · rcases h4 with h4 | h4
    · refine .inl fun d hd => ?_
      obtain ⟨a, ha, rfl⟩ := List.mem_map.mp hd
      have := h4 a ha
      cases q : encD a with
      | tuple xs => exact ⟨xs, rfl⟩
      | _ => rw [q] at this; cases this
    · refine .inr fun d hd => ?_
      obtain ⟨a, ha, rfl⟩ := List.mem_map.mp hd
      have := h4 a ha
      simp only [Bool.not_eq_true'] at this
      refine ⟨fun z => ?_, fun xs z => ?_⟩
      · rw [z] at this; cases this.2
      · rw [z] at this; cases this.1
/-- where a list's items may be sorted, in any later heap -/
theorem sorts_at {prog : Program} {w : World} {A : Around} {s : Shared} {us : List Value} {ds : List D} (e : PySem.W.EachIs (fun u d => ∃ as, Reads s.heap u (encD d) as) us ds) (h : sortOk ds = true) (hu : A.units + 60 < cLine) : PySem.W.SortsAt prog w A s (PySem.W.dataKind s.heap (ds.map encD)) us := by
  obtain ⟨h1, h2, h3, h4⟩ := sort_parts h
  have e2 := PySem.W.each_map (R := fun u d => ∃ as, Reads s.heap u d as) encD e
  have hu2 : ∀ d, d ∈ ds.map encD → A.units + d.depth < cLine := fun d hd => by
    obtain ⟨a, ha, rfl⟩ := List.mem_map.mp hd
    have := h3 a ha
    omega
  rcases h4 with h4 | h4
  · exact sorts_tups e2 h2 h4 hu2
  · exact PySem.W.SortsAt.data e2 h2 (.inr h4) hu2
theorem each_mono {s s' : Shared} (k : ∀ b o, s.heap.get? b = some o → s'.heap.get? b = some o) {us : List Value} {ds : List D} (e : PySem.W.EachIs (fun u d => ∃ as, Reads s.heap u (encD d) as) us ds) : PySem.W.EachIs (fun u d => ∃ as, Reads s'.heap u (encD d) as) us ds :=
  e.mono fun u d ⟨as, z⟩ => ⟨as, PyProof.Rows.Reads.keeps k z⟩
theorem c1_sorted (hu : X.A.units + 64 < cLine) : C1 X (.builtin "sorted") gSorted := by
  intro pins s σ H xs us Q I rv ⟨mp, h, ds, r, a, p⟩
  unfold gSorted at p
  split at p
  · rename_i d
    obtain ⟨v, rfl, q⟩ := a.one
    cases e : asLk h d with
    | none => rw [e] at p; exact p.elim
    | some ys =>
      rw [e, Option.bind_some] at p
      split at p
      · rename_i hk
        obtain ⟨pa, vs, rfl, hs, ra⟩ := asLk_ok r q e
        obtain ⟨u, rfl, ru⟩ := vals1 rv
        obtain rfl : u = Value.ref pa := ru
        obtain ⟨its, rel, hl, hz⟩ := I.list hs
        obtain ⟨h1, h2, h3, h4⟩ := sort_parts hk
        have er := each_reads I ra rel h1
        have ev := each_of ra rel
        have hzi : its.length ≤ sizeLine := by rw [← rel.length]; exact hz
        have er2 := each_mono (s' := { s with heap := PySem.W.sortingHeap (PySem.W.copyHeap s.heap its) (s.heap.objs.size + 1) its }) (fun b o z => PySem.W.sorting_copy_old z) er
        refine PySem.W.sorted_vals (κ := PySem.W.dataKind _ (ys.map encD)) hl.isList (sorts_at er2 hk (by show X.A.in1.in1.units + 60 < cLine; have : X.A.in1.in1.units = X.A.units + 1 + 1 := rfl; omega)) hzi ?_
        have eo := PySem.W.sortVals_data false ev er2 h2
        rw [leD_eq] at eo
        obtain ⟨ovs, o1, o2⟩ := of_each eo
        obtain ⟨c, hc⟩ := PyProof.Rows.sortedAll_at s.heap its (PySem.W.sortVals (PySem.W.dataKind (PySem.W.sortingHeap (PySem.W.copyHeap s.heap its) (s.heap.objs.size + 1) its) (ys.map encD)) false its its).toArray
        have hf : s.heap.objs.size ≤ s.heap.objs.size + 1 := Nat.le_succ _
        have hp := I.hok.fresh hf
        obtain ⟨l1, l2, l3⟩ := newL r hp o2
        refine ⟨.ref (s.heap.objs.size + 1), upd H (s.heap.objs.size + 1) (.lst ovs), I.laid (t' := s.toks) (fun _ _ z => PyProof.Rows.sortedAll_old z) hf ⟨?_, _, c, o1, hc⟩, rfl, p _ mp _ l1 l2 l3⟩
        rw [← o2.length, List.length_mergeSort, ra.length]
        exact hz
      · exact p.elim
  · exact p.elim
end
end Mi
namespace Mi
open PySem PySem.Spec L2
/-! ### methods of built-in types -/
def tyOk (T : String) (d : D) (h : Hq) : Bool := match T with
  | "list" => (asLk h d).isSome
  | "dict" => (asD h d).isSome
  | "str" => (match d with
    | .str _ => true
    | _ => false)
  | _ => false
def M2 (X : Cx) (id : String) (g : D → List D → Hq → Option (D × Hq)) : Prop :=
  MtR X id fun x vs H Q => ∃ mp h dx ds, HRel X.K mp h H ∧ Rp X.K mp H dx x ∧ RpAll X.K mp H ds vs ∧ PostO X.K (rD X.K) mp H (g dx ds h) Q
def mMth (T : String) (g : D → List D → Hq → Option (D × Hq)) (fo : Ev D) (fa : Ev (List D)) : Ev D := fun ρ h => (fo ρ h).bind fun o h1 => if tyOk T o h1 = true then (fa ρ h1).bind fun ds h2 => .of (g o ds h2) else .bad
theorem ty_ok {K : PySem.W.Frag} {mp : Wd} {H : Hp} {h : Hq} {T : String} {d : D} {v : V} (r : HRel K mp h H) (a : Rp K mp H d v) (e : tyOk T d h = true) : tyV K T v H := by
  unfold tyOk at e
  split at e
  · obtain ⟨xs, e⟩ := Option.isSome_iff_exists.mp e
    obtain ⟨p, vs, rfl, hs, _⟩ := asLk_ok r a e
    exact .inl ⟨rfl, vs, hs⟩
  · obtain ⟨xs, e⟩ := Option.isSome_iff_exists.mp e
    obtain ⟨p, rfl, c⟩ := asD_ok r a e
    rcases c with ⟨ks, vs, e1, _⟩ | ⟨ks, vs, _, e1, _⟩
    · exact .inr (.inr (.inl ⟨rfl, .inl ⟨_, e1⟩⟩))
    · exact .inr (.inr (.inl ⟨rfl, .inr ⟨_, e1⟩⟩))
  · split at e
    · cases a; rfl
    · cases e
  · cases e
section
variable {X : Cx} {W : WX} {o e : Expr} {es : List Expr} {fo : Ev D} {fa : Ev (List D)} {T id : String} {name : Str} {g : D → List D → Hq → Option (D × Hq)} {apos cpos : Pos}
theorem se_mth (hm : M2 X id g) (pa : PlainAttrs T) (slot : Slot T name id) (hty : typeOf (.builtin id) = pure (.type "method_descriptor")) (ho : SE X W o fo) (ha : SA X W (e :: es) fa) (hbase : attributeBase o name X.env (eval o X.env) = eval o X.env := by rfl)
    (hfew : ((backTo cpos (starEach (e :: es) X.env)).all (fun x => !x.1) && (backToKw cpos (keywordEach [] X.env)).all (fun x => x.1.isSome) && decide ((e :: es).length + ([] : List Keyword).length + (if ([] : List Keyword).isEmpty then 0 else 1) < 30)) = true := by rfl)
    (hline : (apos.endLine == cpos.line) = true := by rfl) (hs : starEach (e :: es) X.env = (false, eval e X.env) :: starEach es X.env := by rfl) (hplain : (backTo cpos (starEach es X.env)).any (·.1) = false := by rfl) :
    SE X W (.Call (.Attribute o name apos) (e :: es) [] cpos) (mMth T g fo fa) := PE.imp (pe_bm pa slot hty hm ho ha hbase hfew hline hs hplain) fun σ H Q ⟨ρ, h, mp, r, en, p⟩ => by
  refine ⟨ρ, h, mp, r, en, Post.mono (Post.bind p) fun x H1 ⟨mp1, h1, d1, le1, r1, q1, p1⟩ => ?_⟩
  dsimp only at p1
  split at p1
  · rename_i ht
    refine ⟨ty_ok r1 q1 ht, ρ, h1, mp1, r1, en.mono le1, Post.mono (Post.bind (R := rA X.K) p1) fun y H2 ⟨mp2, h2, d2, le2, r2, q2, p2⟩ => ?_⟩
    exact ⟨mp2, h2, d1, d2, r2, q1.mono le2, q2, p2.o⟩
  · exact p1.elim
theorem se_mth0 (hm : M2 X id g) (pa : PlainAttrs T) (slot : Slot T name id) (hty : typeOf (.builtin id) = pure (.type "method_descriptor")) (ho : SE X W o fo) (hbase : attributeBase o name X.env (eval o X.env) = eval o X.env := by rfl)
    (hline : (apos.endLine == cpos.line) = true := by rfl) : SE X W (.Call (.Attribute o name apos) [] [] cpos) (mMth T g fo mNil) := PE.imp (pe_bm0 pa slot hty hm ho hbase hline) fun σ H Q ⟨ρ, h, mp, r, en, p⟩ => by
  refine ⟨ρ, h, mp, r, en, Post.mono (Post.bind p) fun x H1 ⟨mp1, h1, d1, le1, r1, q1, p1⟩ => ?_⟩
  dsimp only at p1
  split at p1
  · rename_i ht
    exact ⟨ty_ok r1 q1 ht, mp1, h1, d1, [], r1, q1, .nil, Post.o (K := X.K) p1⟩
  · exact p1.elim
end
def gAppend (o : D) (ds : List D) (h : Hq) : Option (D × Hq) := match o, ds with
  | .ref l, [y] => (match h[l]? with
    | some (.lst xs) => if xs.length < sizeLine then some (.non, h.set l (.lst (xs ++ [y]))) else none
    | _ => none)
  | _, _ => none
def gExtend (o : D) (ds : List D) (h : Hq) : Option (D × Hq) := match o, ds with
  | .ref l, [y] => (match h[l]?, asL h y with
    | some (.lst xs), some ys => if xs.length + ys.length ≤ sizeLine then some (.non, h.set l (.lst (xs ++ ys))) else none
    | _, _ => none)
  | _, _ => none
def gPop (o : D) (ds : List D) (h : Hq) : Option (D × Hq) := match o, ds with
  | .ref l, [] => (match h[l]? with
    | some (.lst xs) => (xs[xs.length - 1]?).map fun y => (y, h.set l (.lst xs.dropLast))
    | _ => none)
  | _, _ => none
def isStrs : List D → Option (List Str)
  | [] => some []
  | .str x :: ds => (isStrs ds).map (x :: ·)
  | _ => none
def gJoin (o : D) (ds : List D) (h : Hq) : Option (D × Hq) := match o, ds with
  | .str a, [d] => (match (match asT d with
      | some xs => some xs
      | none => asLk h d) with
    | some xs => (match isStrs xs with
      | some ys => if (ys.map (·.length)).sum + ys.length * a.length ≤ 16777216 then some (.str (Txt.join a ys), h) else none
      | none => none)
    | none => none)
  | _, _ => none
section
variable {X : Cx}
theorem m2_append : M2 X "list.append" gAppend := by
  intro pins s σ H x xs v us Q I rx rv ⟨mp, h, dx, ds, r, ax, a, p⟩
  unfold gAppend at p
  split at p
  · rename_i l y
    split at p
    · rename_i zs e
      split at p
      · rename_i hz
        obtain ⟨w, rfl, ry⟩ := a.one
        cases ax with
        | @ref _ b m =>
          obtain ⟨vs, e1, ra⟩ := r.obj _ _ _ e m
          refine mt_append pins s σ H _ _ v us Q I rx rv ⟨b, vs, w, rfl, rfl, e1, by rw [← ra.length]; exact hz, ?_⟩
          have le := le_set r (o := .lst (vs ++ [w])) m
          exact p _ mp _ le (r.set m ⟨_, upd_same, (ra.append (.cons ry .nil)).mono le⟩) .non
      · exact p.elim
    · exact p.elim
  · exact p.elim
theorem m2_extend : M2 X "list.extend" gExtend := by
  intro pins s σ H x xs v us Q I rx rv ⟨mp, h, dx, ds, r, ax, a, p⟩
  unfold gExtend at p
  split at p
  · rename_i l y
    split at p
    · rename_i zs ys e e2
      split at p
      · rename_i hz
        obtain ⟨w, rfl, ry⟩ := a.one
        cases ax with
        | @ref _ b m =>
          obtain ⟨vs, e1, ra⟩ := r.obj _ _ _ e m
          obtain ⟨pb, ws, rfl, h2, q2⟩ := asL_ok r ry e2
          refine mt_extend pins s σ H _ _ v us Q I rx rv ⟨b, pb, vs, ws, rfl, rfl, e1, h2, by rw [← ra.length, ← q2.length]; exact hz, ?_⟩
          have le := le_set r (o := .lst (vs ++ ws)) m
          exact p _ mp _ le (r.set m ⟨_, upd_same, (ra.append q2).mono le⟩) .non
      · exact p.elim
    · exact p.elim
  · exact p.elim
theorem m2_pop : M2 X "list.pop" gPop := by
  intro pins s σ H x xs v us Q I rx rv ⟨mp, h, dx, ds, r, ax, a, p⟩
  unfold gPop at p
  split at p
  · rename_i l
    split at p
    · rename_i zs e
      cases ey : zs[zs.length - 1]? with
      | none => rw [ey] at p; exact p.elim
      | some y =>
        rw [ey] at p
        cases a
        cases ax with
        | @ref _ b m =>
          obtain ⟨vs, e1, ra⟩ := r.obj _ _ _ e m
          obtain ⟨w, hw, rw'⟩ := ra.get ey
          rw [ra.length] at hw
          refine mt_pop pins s σ H _ _ v us Q I rx rv ⟨b, vs, w, rfl, rfl, e1, hw, ?_⟩
          have le := le_set r (o := .lst vs.dropLast) m
          exact p _ mp _ le (r.set m ⟨_, upd_same, ra.dropLast.mono le⟩) (rw'.mono le)
    · exact p.elim
  · exact p.elim
theorem strs_ok {K : PySem.W.Frag} {mp : Wd} {H : Hp} : ∀ {ds : List D} {vs : List V} {bs : List Str}, RpAll K mp H ds vs → isStrs ds = some bs → vs = bs.map V.str
  | _, _, _, .nil, e => by simp [isStrs] at e; subst e; rfl
  | _, _, _, .cons (d := d) r t, e => by
    cases d with
    | str b =>
      simp only [isStrs, Option.map_eq_some_iff] at e
      obtain ⟨bs, e1, rfl⟩ := e
      cases r
      rw [strs_ok t e1]; rfl
    | _ => simp [isStrs] at e
theorem m2_join : M2 X "str.join" gJoin := by
  intro pins s σ H x xs v us Q I rx rv ⟨mp, h, dx, ds, r, ax, a, p⟩
  unfold gJoin at p
  split at p
  · rename_i z d
    split at p
    · rename_i zs e
      split at p
      · rename_i ys e2
        split at p
        · rename_i hz
          obtain ⟨w, rfl, ry⟩ := a.one
          cases ax
          cases eT : asT d with
          | some ts =>
            rw [eT] at e; cases e
            obtain ⟨pa, vs, rfl, hs, ra⟩ := asT_ok ry eT
            rw [strs_ok ra e2] at hs
            exact mt_join pins s σ H _ _ v us Q I rx rv ⟨z, pa, ys, rfl, rfl, .inr hs, hz, p _ mp H .refl r (.str _)⟩
          | none =>
            rw [eT] at e
            obtain ⟨pa, vs, rfl, hs, ra⟩ := asLk_ok r ry e
            rw [strs_ok ra e2] at hs
            exact mt_join pins s σ H _ _ v us Q I rx rv ⟨z, pa, ys, rfl, rfl, .inl hs, hz, p _ mp H .refl r (.str _)⟩
        · exact p.elim
      · exact p.elim
    · exact p.elim
  · exact p.elim
end
/-! ### dicts: made, stored to -/
def mDicR : Ev D := fun _ h => .ok (.ref h.length) (h ++ [.dic []])
def putKV (kvs : List (D × D)) (k v : D) : List (D × D) := if (kvs.any fun p => keyEq p.1 k) = true then kvs.map (fun p => if keyEq p.1 k = true then (p.1, v) else p) else kvs ++ [(k, v)]
theorem se_dicR {X : Cx} {W : WX} {pos : Pos} : SE X W (.Dict [] [] pos) mDicR := PE.imp pe_dnewK fun σ H Q ⟨ρ, h, mp, r, en, p⟩ => fun a ha => by
  refine p _ (mp.add a) _ (le_place r ha) (r.place ha (.inl ⟨[], [], upd_same, rfl, rfl, .nil⟩)) (.ref ?_)
  rw [← r.len]; simp [Wd.add]
section
variable {K : PySem.W.Frag} {mp : Wd} {H : Hp}
theorem putKV_g {κ : Type} [DecidableEq κ] {emb : κ → D} (ke : ∀ a b, keyEq (emb a) (emb b) = decide (a = b)) {k : κ} {d : D} {v : V} (rv : Rp K mp H d v) {kvs : List (D × D)} {ks : List κ} {vs : List V} (l : ks.length = vs.length) (e : kvs.map (·.1) = ks.map emb) (r : RpAll K mp H (kvs.map (·.2)) vs) :
    ∃ (ks' : List κ) (vs' : List V), putK (ks.zip vs) k v = ks'.zip vs' ∧ ks'.length = vs'.length ∧ (putKV kvs (emb k) d).map (·.1) = ks'.map emb ∧ RpAll K mp H ((putKV kvs (emb k) d).map (·.2)) vs' := by
  have hany : ∀ {kvs : List (D × D)} {ks : List κ} {vs : List V}, ks.length = vs.length → kvs.map (·.1) = ks.map emb → (kvs.any fun p => keyEq p.1 (emb k)) = (ks.zip vs).any fun kv => decide (kv.1 = k) := by
    intro kvs
    induction kvs with
    | nil => intro ks vs l e; cases ks with
      | nil => rfl
      | cons _ _ => simp at e
    | cons q kvs ih =>
      intro ks vs l e
      cases ks with
      | nil => simp at e
      | cons k1 ks =>
        cases vs with
        | nil => simp at l
        | cons v1 vs =>
          simp only [List.map_cons, List.cons.injEq] at e
          rw [List.any_cons, List.zip_cons_cons, List.any_cons, e.1, ke, ih (by simpa using l) e.2]
  have hmap : ∀ {kvs : List (D × D)} {ks : List κ} {vs : List V}, ks.length = vs.length → kvs.map (·.1) = ks.map emb → RpAll K mp H (kvs.map (·.2)) vs →
      ∃ vs' : List V, (ks.zip vs).map (fun kv => if kv.1 = k then (kv.1, v) else kv) = ks.zip vs' ∧ ks.length = vs'.length ∧ (kvs.map fun p => if keyEq p.1 (emb k) = true then (p.1, d) else p).map (·.1) = ks.map emb ∧ RpAll K mp H ((kvs.map fun p => if keyEq p.1 (emb k) = true then (p.1, d) else p).map (·.2)) vs' := by
    intro kvs
    induction kvs with
    | nil => intro ks vs l e r; cases ks with
      | nil => exact ⟨[], rfl, rfl, rfl, .nil⟩
      | cons _ _ => simp at e
    | cons q kvs ih =>
      intro ks vs l e r
      cases ks with
      | nil => simp at e
      | cons k1 ks =>
        cases vs with
        | nil => simp at l
        | cons v1 vs =>
          simp only [List.map_cons, List.cons.injEq] at e
          cases r with
          | cons r1 r2 =>
            obtain ⟨vs', a1, a2, a3, a4⟩ := ih (ks := ks) (vs := vs) (by simpa using l) e.2 r2
            obtain ⟨q1, q2⟩ := q
            obtain ⟨e1, e2⟩ := e
            dsimp only at e1
            subst e1
            by_cases hk : k1 = k
            · subst hk
              refine ⟨v :: vs', by simp [a1], by simp [a2], ?_, ?_⟩
              · simp only [List.map_cons, ke, decide_true, if_true, a3]
              · simp only [List.map_cons, ke, decide_true, if_true]; exact .cons rv a4
            · refine ⟨v1 :: vs', by simp [hk, a1], by simp [a2], ?_, ?_⟩
              · simp only [List.map_cons, ke, hk, decide_false, Bool.false_eq_true, if_false, a3]
              · simp only [List.map_cons, ke, hk, decide_false, Bool.false_eq_true, if_false]; exact .cons r1 a4
  unfold putKV putK
  rw [hany l e]
  split
  · obtain ⟨vs', a1, a2, a3, a4⟩ := hmap l e r
    exact ⟨ks, vs', a1, a2, a3, a4⟩
  · refine ⟨ks ++ [k], vs ++ [v], ?_, by simp [l], by simp [e], ?_⟩
    · rw [List.zip_append l]; rfl
    · rw [List.map_append]; exact r.append (.cons rv .nil)
end
theorem putKV_ne (kvs : List (D × D)) (k v : D) : putKV kvs k v ≠ [] := by
  unfold putKV
  split
  · rename_i h
    cases kvs with
    | nil => cases h
    | cons _ _ => simp
  · simp
/-! ### o[i] = v -/
def gSetI (o i v : D) (h : Hq) : Option Hq := match o with
  | .ref l => (match h[l]? with
    | some (.lst xs) => (match i with
      | .int k => (ixN xs.length k).map fun j => h.set l (.lst (xs.set j v))
      | _ => none)
    | some (.dic kvs) => if kindsOk kvs i = true ∧ kvs.length < sizeLine then some (h.set l (.dic (putKV kvs i v))) else none
    | _ => none)
  | _ => none
def mSetI (fo fi fv : Ev D) : Ex := fun ρ h => (fv ρ h).bindS ρ fun v h1 => (fo ρ h1).bindS ρ fun o h2 => (fi ρ h2).bindS ρ fun i h3 => match gSetI o i v h3 with
  | some h4 => .nx ρ h4
  | none => .bad
section
variable {X : Cx} {W : WX} {pos pos' : Pos} {o i e : Expr} {fo fi fv : Ev D}
theorem set_ok (hu : X.A.units + 1 < cLine) : PSet X fun ov iv v H Q => ∃ mp h dob di dv h', HRel X.K mp h H ∧ Rp X.K mp H dob ov ∧ Rp X.K mp H di iv ∧ Rp X.K mp H dv v ∧ gSetI dob di dv h = some h' ∧ ∀ H', Le mp H mp H' → HRel X.K mp h' H' → Q H' := by
  intro pins s σ H ov iv v ou iu u Q I ro ri rv ⟨mp, h, dob, di, dv, h', r, ao, ai, av, eg, q⟩
  unfold gSetI at eg
  split at eg
  · rename_i l
    cases ao with
    | @ref _ a m =>
      split at eg
      · rename_i xs el
        split at eg
        · rename_i k
          cases ej : ixN xs.length k with
          | none => rw [ej] at eg; cases eg
          | some j =>
            rw [ej] at eg
            cases eg
            cases ai
            obtain ⟨vs, e1, ra⟩ := r.obj _ _ _ el m
            have le := le_set r (o := .lst (vs.set j v)) m
            exact set_list pins s σ H _ _ v ou iu u Q I ro ri rv ⟨a, vs, k, j, rfl, rfl, e1, by rw [← ra.length]; exact ej, q _ le (r.set m ⟨_, upd_same, (RpAll.set av j ra).mono le⟩)⟩
        · cases eg
      · rename_i kvs el
        split at eg
        · rename_i hk
          cases eg
          obtain ⟨hk, hz⟩ := hk
          obtain rfl : ou = Value.ref a := ro
          have c : DicAt X.K mp H kvs a := r.obj _ _ _ el m
          obtain ⟨k0, km⟩ := kinds_mem hk
          have zl : ∀ {α : Type} {ks : List α} {vs : List V} {f : α → D}, ks.length = vs.length → kvs.map (·.1) = ks.map f → (ks.zip vs).length < sizeLine := by
            intro α ks vs f l ek
            have := congrArg List.length ek
            simp only [List.length_map] at this
            rw [List.length_zip, ← l, Nat.min_self, ← this]; exact hz
          rcases key_cases k0 with ⟨kk, rfl, qk⟩ | ⟨kk, rfl, qk⟩
          · have e3 := rp_key ai
            subst e3
            rcases c with ⟨ks, vs, e1, l, ek, ra⟩ | ⟨ks, vs, ne, e1, l, ek, ra⟩
            · obtain ⟨ks', vs', b1, b2, b3, b4⟩ := putKV_g keyEq_k (k := kk) av l ek ra
              have le := le_set r (o := .dK (putK (ks.zip vs) kk v)) m
              refine d_setItem hu I (DPut.k (k := kk) e1 (zl l ek)) ri rv fun s' I' => ⟨_, I', q _ le (r.set m (.inl ⟨ks', vs', ?_, b2, b3, b4.mono le⟩))⟩
              rw [upd_same, b1]
            · exfalso
              cases kvs with
              | nil => exact ne rfl
              | cons p t => cases ks with
                | nil => simp at ek
                | cons k1 ks =>
                  simp only [List.map_cons, List.cons.injEq] at ek
                  have := km p (by simp)
                  rw [show p.1 = kT k1 from ek.1, keyKind_k, keyKind_t] at this
                  cases this
          · obtain ⟨b, rfl, hb, nb⟩ := rp_tkey ai
            have hba : b ≠ a := fun z => nb (by rw [z]; exact r.sub _ (List.mem_of_getElem? m))
            rcases c with ⟨ks, vs, e1, l, ek, ra⟩ | ⟨ks, vs, ne, e1, l, ek, ra⟩
            · have hn : kvs = [] ∧ ks = [] := by
                cases kvs with
                | nil => cases ks with
                  | nil => exact ⟨rfl, rfl⟩
                  | cons _ _ => simp at ek
                | cons p t => cases ks with
                  | nil => simp at ek
                  | cons k1 ks =>
                    simp only [List.map_cons, List.cons.injEq] at ek
                    have := km p (by simp)
                    rw [ek.1, keyKind_k, keyKind_t] at this
                    cases this
              obtain ⟨rfl, rfl⟩ := hn
              have e1' : H a = some (.dK []) := e1
              have I1 := inv_KT I e1'
              refine d_setItem hu I1 (DPut.t (kvs := []) (k := kk) upd_same (by rw [upd_ne hba]; exact hb) (by rw [sizeLine_eq]; decide)) ri rv fun s' I' => ?_
              rw [upd_upd] at I'
              have le := le_set r (o := .dT (putK [] kk v)) m
              refine ⟨_, I', q _ le (r.set m (.inr ⟨[kk], [v], by simp [putKV], ?_, rfl, rfl, RpAll.mono le (.cons av .nil)⟩))⟩
              rw [upd_same]; rfl
            · obtain ⟨ks', vs', b1, b2, b3, b4⟩ := putKV_g keyEq_t (k := kk) av l ek ra
              have le := le_set r (o := .dT (putK (ks.zip vs) kk v)) m
              refine d_setItem hu I (DPut.t (k := kk) e1 hb (zl l ek)) ri rv fun s' I' => ⟨_, I', q _ le (r.set m (.inr ⟨ks', vs', putKV_ne _ _ _, ?_, b2, b3, b4.mono le⟩))⟩
              rw [upd_same, b1]
        · cases eg
      · cases eg
  · cases eg
theorem ss_setI (hu : X.A.units + 1 < cLine) (ho : SE X W o fo) (hi : SE X W i fi) (hv : SE X W e fv) (hs : swapsWithSole [.Subscript o i pos'] e pos.line X.env = pure false := by rfl) (hw : swappedStores [.Subscript o i pos'] e X.env = pure none := by rfl)
    (h1 : (assignEach [.Subscript o i pos'] X.env).map (·.2) = [assign (.Subscript o i pos') X.env] := by rfl)
    (ha : ∀ v, assign (.Subscript o i pos') X.env v = (do
      let ov ← holding [v] (eval o X.env)
      let iv ← holding [v, ov] (eval i X.env)
      standAt pos'
      holding [v, ov, iv] (setItem ov iv v)
      release [v, ov, iv] []) := by intro _; rfl) : SS X W (.Assign [.Subscript o i pos'] e pos) (mSetI fo fi fv) :=
  PS.imp (ps_asg hv (pg_sub ho hi (set_ok hu) ha) hs hw h1) fun D σ H ⟨ρ, h, mp, r, en, p⟩ => by
    refine ⟨ρ, h, mp, r, en, Post.mono (PostS.bind en p) fun v H1 ⟨mp1, h1, dv, le1, r1, q1, p1⟩ => ?_⟩
    refine ⟨ρ, h1, mp1, r1, en.mono le1, Post.mono (PostS.bind (en.mono le1) p1) fun ov H2 ⟨mp2, h2, d2, le2, r2, q2, p2⟩ => ?_⟩
    refine ⟨ρ, h2, mp2, r2, (en.mono le1).mono le2, Post.mono (PostS.bind ((en.mono le1).mono le2) p2) fun iv H3 ⟨mp3, h3, d3, le3, r3, q3, p3⟩ => ?_⟩
    dsimp only at p3
    cases eg : gSetI d2 d3 dv h3 with
    | none => rw [eg] at p3; exact p3.elim
    | some h4 =>
      rw [eg] at p3
      exact ⟨mp3, h3, d2, d3, dv, h4, r3, q2.mono le3, q3, q1.mono (le2.trans le3), eg, fun H4 le4 r4 => p3 σ mp3 H4 le4 r4 (((en.mono le1).mono le2).mono (le3.trans le4))⟩
end
end Mi
namespace Mi
open PySem PySem.W PySem.Calls PyProof.Rows
/-- a pair of a text and a datum -/
def IsPr (h : Heap) (u : Value) (p : Str × PyData) : Prop := ∃ a o n tok val as, u = .ref a ∧ h.get? a = some o ∧ o.cls = .type "tuple" ∧ o.data = .seq #[.str p.1 tok, val] n ∧ Reads h val p.2 as
noncomputable def prKind (h : Heap) (us : List Value) : PyProof.Rows.KeyKind where
  toKeyOrd := PyProof.Rows.strKind.toKeyOrd
  keyOf v := open Classical in if q : v ∈ us ∧ ∃ p, IsPr h v p then some (q.2.choose.1.cps.toList) else none
  dflt := ([] : List Nat)
theorem isPr_name {h : Heap} {u : Value} {p q : Str × PyData} (a : IsPr h u p) (b : IsPr h u q) : p.1 = q.1 := by
  obtain ⟨x, o, n, t, v, as, rfl, h1, _, h2, _⟩ := a
  obtain ⟨y, o', n', t', v', as', e, h1', _, h2', _⟩ := b
  cases e
  rw [h1] at h1'; cases h1'
  rw [h2] at h2'
  simp at h2'
  exact h2'.1.1.1
theorem prKind_some {h : Heap} {us : List Value} {u : Value} {p : Str × PyData} (hm : u ∈ us) (a : IsPr h u p) : (prKind h us).keyOf u = some p.1.cps.toList := by
  have q : u ∈ us ∧ ∃ p, IsPr h u p := ⟨hm, p, a⟩
  have e : (prKind h us).keyOf u = some (q.2.choose.1.cps.toList) := by
    show (open Classical in if q : u ∈ us ∧ ∃ p, IsPr h u p then some (q.2.choose.1.cps.toList) else none) = _
    rw [dif_pos q]
  rw [e, isPr_name q.2.choose_spec a]
theorem prKind_inv {h : Heap} {us : List Value} {u : Value} {k : List Nat} (e : (prKind h us).keyOf u = some k) : u ∈ us ∧ ∃ p, IsPr h u p ∧ k = p.1.cps.toList := by
  by_cases q : u ∈ us ∧ ∃ p, IsPr h u p
  · have e' : (prKind h us).keyOf u = some (q.2.choose.1.cps.toList) := by
      show (open Classical in if q : u ∈ us ∧ ∃ p, IsPr h u p then some (q.2.choose.1.cps.toList) else none) = _
      rw [dif_pos q]
    rw [e'] at e
    exact ⟨q.1, _, q.2.choose_spec, (Option.some.inj e).symm⟩
  · have e' : (prKind h us).keyOf u = none := by
      show (open Classical in if q : u ∈ us ∧ ∃ p, IsPr h u p then some (q.2.choose.1.cps.toList) else none) = _
      rw [dif_neg q]; rfl
    rw [e'] at e
    exact absurd e (by simp)
theorem pr_same {h : Heap} : ∀ {us : List Value} {ps : List (Str × PyData)}, EachIs (IsPr h) us ps → (ps.map (·.1)).Nodup → ∀ {u v : Value} {p q : Str × PyData}, u ∈ us → v ∈ us → IsPr h u p → IsPr h v q → p.1 = q.1 → u = v
  | _, _, .nil, _, u, v, p, q, hu, _, _, _, _ => by simp at hu
  | _, _, .cons (a := u0) (b := p0) r t, nd, u, v, p, q, hu, hv, a, b, e => by
    rw [List.map_cons, List.nodup_cons] at nd
    have not : ∀ w z, w ∈ _ → IsPr h w z → z.1 ≠ p0.1 := fun w z hw hz en => by
      obtain ⟨z', hz', hp⟩ := t.left w hw
      exact nd.1 (by rw [← en, isPr_name hz hp]; exact List.mem_map.mpr ⟨z', hz', rfl⟩)
    rcases List.mem_cons.mp hu with eu | hu2
    · rcases List.mem_cons.mp hv with ev | hv2
      · rw [eu, ev]
      · subst eu
        exact absurd (by rw [← isPr_name a r]; exact e.symm) (not v q hv2 b)
    · rcases List.mem_cons.mp hv with ev | hv2
      · subst ev
        exact absurd (by rw [e]; exact isPr_name b r) (not u p hu2 a)
      · exact pr_same t nd.2 hu2 hv2 a b e
section
variable {prog : Program} {w : World} {A : Around} {s : Shared}
theorem each_pr_tups {h : Heap} : ∀ {us : List Value} {ps : List (Str × PyData)}, EachIs (IsPr h) us ps → ∃ fs, KatTups h us fs ∧ fs.length = us.length ∧ ∀ f ∈ fs, ∃ x t, f = Value.str x t
  | _, _, .nil => ⟨[], KatTups.nil, rfl, fun f hf => by simp at hf⟩
  | _, _, .cons ⟨a, o, n, t, v, as, e, h1, h2, h3, _⟩ r => by
    obtain ⟨fs, k1, k2, k3⟩ := each_pr_tups r
    subst e
    refine ⟨_ :: fs, KatTups.cons h1 h2 h3 rfl k1, by simp [k2], fun f hf => ?_⟩
    rcases List.mem_cons.mp hf with e | hf
    · exact ⟨_, t, e⟩
    · exact k3 f hf
/-- pairs with unlike texts ahead can be sorted -/
theorem sorts_prs {us : List Value} {ps : List (Str × PyData)} (e : EachIs (IsPr s.heap) us ps) (nd : (ps.map (·.1)).Nodup) (pl : ∀ (u : Value) (p : Str × PyData), u ∈ us → IsPr s.heap u p → p.2.plain = true ∧ A.units + p.2.depth < cLine) : SortsAt prog w A s (prKind s.heap us) us := by
  refine ⟨fun v hv => ?_, tuples' true, ?_, fun h2 E Q hq => ?_⟩
  · obtain ⟨p, _, hp⟩ := e.left v hv
    exact ⟨_, prKind_some hv hp⟩
  · intro E x y a b Q ha hb hq
    obtain ⟨mx, p, hp, rfl⟩ := prKind_inv ha
    obtain ⟨my, q, hq', rfl⟩ := prKind_inv hb
    obtain ⟨ax, ox, nx, tx, vx, asx, rfl, hx1, hx2, hx3, hx4⟩ := id hp
    obtain ⟨ay, oy, ny, ty, vy, asy, rfl, hy1, hy2, hy3, hy4⟩ := id hq'
    have hq2 : Q (decide (p.1.cps.toList < q.1.cps.toList)) s := hq
    refine kat_lt hx1 hx3 hy1 hy3 ?_
    show KatLex prog w A true _ Q [(Value.str p.1 tx, Value.str q.1 ty), (vx, vy)] 0 s
    by_cases en : p.1 = q.1
    · have ex := pr_same e nd mx my hp hq' en
      cases ex
      rw [hx1] at hy1; cases hy1
      rw [hx3] at hy3
      simp at hy3
      obtain ⟨⟨⟨e1, e2⟩, e3⟩, _⟩ := hy3
      subst e3
      refine kat_cons (wpAny_eqBool_str ?_)
      rw [decide_eq_true en]
      refine kat_yes (kat_cons ?_)
      have pl1 := pl _ _ mx hp
      refine SeqAt.eqAt_plain _ _ A s _ _ _ _ hx4 hx4 pl1.1 pl1.1 (by have := Nat.min_self p.2.depth; omega) prog w _ _ ?_
      rw [SeqAt.eqv_refl_plain _ pl1.1]
      refine kat_yes (kat_nil ?_)
      rw [en] at hq2
      have : decide (q.1.cps.toList < q.1.cps.toList) = false := decide_eq_false (List.lt_irrefl _)
      rw [this] at hq2
      simpa using hq2
    · refine kat_cons (wpAny_eqBool_str ?_)
      rw [decide_eq_false en]
      refine kat_no ?_
      exact oneLt_str hq2
  · obtain ⟨fs, k1, k2, k3⟩ := each_pr_tups e
    refine kat_kind (T := Value.type "str") k1 (by omega) (fun f hf => ?_) (beq_self_eq_true _) (by
      have : (Value.type "str" != Value.type "tuple") = true := by decide
      rw [this]; exact hq)
    obtain ⟨x, t, rfl⟩ := k3 f hf
    exact Looks.of_pure rfl
end
end Mi
namespace Mi
open PySem PySem.Spec L2
/-! ### many tuples laid at once -/
def putTs : Hp → List (Addr × List V) → Hp
  | H, [] => H
  | H, p :: ps => putTs (upd H p.1 (.tup p.2)) ps
theorem putTs_off {b : Addr} : ∀ (ps : List (Addr × List V)) (H : Hp), b ∉ ps.map (·.1) → putTs H ps b = H b
  | [], _, _ => rfl
  | p :: ps, H, h => by
    rw [List.map_cons, List.mem_cons, not_or] at h
    show putTs (upd H p.1 (.tup p.2)) ps b = H b
    rw [putTs_off ps _ h.2, upd_ne h.1]
theorem putTs_at : ∀ (ps : List (Addr × List V)) (H : Hp), (ps.map (·.1)).Nodup → ∀ p ∈ ps, putTs H ps p.1 = some (.tup p.2)
  | [], _, _, p, hp => by simp at hp
  | q :: ps, H, nd, p, hp => by
    rw [List.map_cons, List.nodup_cons] at nd
    rcases List.mem_cons.mp hp with e | hp
    · subst e
      show putTs (upd H p.1 (.tup p.2)) ps p.1 = _
      rw [putTs_off ps _ nd.1, upd_same]
    · exact putTs_at ps _ nd.2 p hp
theorem le_same {K : PySem.W.Frag} {mp : Wd} {h : Hq} {H H' : Hp} (r : HRel K mp h H) (s : Same H H') : Le mp H mp H' :=
  ⟨⟨[], by simp⟩, fun a o e n _ => ⟨s a o e, n⟩, fun a ha n => ⟨by obtain ⟨u, e, _⟩ := r.there a ha; rw [s a u e, e], ha, n⟩⟩
theorem HRel.same {K : PySem.W.Frag} {mp : Wd} {h : Hq} {H H' : Hp} (r : HRel K mp h H) (s : Same H H') : HRel K mp h H' :=
  r.mono (le_same r s) (fun a ha => by obtain ⟨u, e, _⟩ := r.there a ha; rw [s a u e, e]) fun _ _ t => t.ext s
/-- new tuples and one new list of them (or of anything) -/
theorem laid_tups {X : Cx} {pins : List (Addr × Obj)} {σ : L2.St} {H : Hp} {s : Shared} {h' : Heap} {tk : Nat} (I : Inv X pins σ H s) (hk : ∀ b o, s.heap.get? b = some o → h'.get? b = some o) (ps : List (Addr × List V)) (nd : (ps.map (·.1)).Nodup)
    (new : ∀ p ∈ ps, s.heap.objs.size ≤ p.1 ∧ p.2.length ≤ sizeLine ∧ ∃ us : List Value, Vals p.2 us ∧ PyProof.Rows.IsTup h' p.1 us.toArray) {L : Addr} {out : List V} {its : List Value} {n : Nat} (hL : s.heap.objs.size ≤ L) (nL : L ∉ ps.map (·.1))
    (eL : h'.get? L = some { cls := .type "list", data := .seq its.toArray n }) (rv : Vals out its) (hz : out.length ≤ sizeLine) :
    Inv X pins σ (putTs (upd H L (.lst out)) ps) { s with heap := h', toks := tk } ∧ Same H (putTs (upd H L (.lst out)) ps) := by
  have fr : ∀ p ∈ ps, H p.1 = none := fun p hp => I.hok.fresh (new p hp).1
  have frL : H L = none := I.hok.fresh hL
  have off : ∀ b, b ∉ ps.map (·.1) → b ≠ L → putTs (upd H L (.lst out)) ps b = H b := fun b h1 h2 => by rw [putTs_off ps _ h1, upd_ne h2]
  have kp : Same H (putTs (upd H L (.lst out)) ps) := fun b u e => by
    rw [off b (fun z => ?_) (ne_of_none e frL)]
    · exact e
    · obtain ⟨p, hp, rfl⟩ := List.mem_map.mp z
      rw [fr p hp] at e; cases e
  have low : ∀ b o, s.heap.get? b = some o → b ∉ ps.map (·.1) ∧ b ≠ L := fun b o e => ⟨fun z => by
    obtain ⟨p, hp, rfl⟩ := List.mem_map.mp z
    exact absurd (Heap.lt_size e) (Nat.not_lt.mpr (new p hp).1), fun z => absurd (Heap.lt_size e) (Nat.not_lt.mpr (by rw [z]; exact hL))⟩
  refine ⟨?_, kp⟩
  refine I.call' (ch := []) rfl ⟨fun b o q _ _ _ => hk b o q, fun b o q _ _ _ => ⟨o.slots, hk b o q⟩, fun b o q nn _ => ?_, fun b o q _ => ⟨o, hk b o q⟩, fun b xs q => kp b _ q, fun b o u q => kp b _ q, fun b qs q => ⟨#[], by rw [kp b _ q]; simp⟩⟩ (fun b u q => ?_) I.bare fun b z => by simp at z
  · obtain ⟨z1, z2⟩ := low b o q
    rw [off b z1 z2]; exact nn
  · by_cases hb : b ∈ ps.map (·.1)
    · obtain ⟨p, hp, rfl⟩ := List.mem_map.mp hb
      rw [putTs_at ps _ nd p hp] at q
      cases q
      obtain ⟨_, z1, us, z2, z3⟩ := new p hp
      exact ⟨z1, us, z2, z3⟩
    · by_cases hb2 : b = L
      · subst hb2
        rw [putTs_off ps _ hb, upd_same] at q
        cases q
        exact ⟨hz, its, n, rv, eL⟩
      · rw [off b hb hb2] at q
        exact (I.hok b u q).stay (fun d v _ y => hk d v y) (fun d y => kp d _ y) fun d xs y => kp d _ y
/-! ### sorted(d.items()), the keys texts -/
def strOf : D → List Nat
  | .str x => x.cps.toList
  | _ => []
def isStr : D → Bool
  | .str _ => true
  | _ => false
def leKV (p q : D × D) : Bool := !decide (strOf q.1 < strOf p.1)
def pairD (p : D × D) : D := .tup [p.1, p.2]
def mSortItems (f : Ev D) : Ev D := fun ρ h => (f ρ h).bind fun d h1 => match asD h1 d with
  | some kvs => if (kvs.all fun p => isStr p.1 && (p.2.py.isSome && decide ((encD p.2).depth ≤ 60))) = true then .ok (.lst ((kvs.mergeSort leKV).map pairD)) h1 else .bad
  | none => .bad
section
variable {X : Cx}
theorem mt_itemsK : MtR X "dict.items" fun x xs H Q => ∃ (a : Addr) (kvs : List (Key × V)), x = .ref a ∧ xs = [] ∧ H a = some (.dK kvs) ∧ ∀ p, H p = none → Q (.ref p) (upd H p (L2.DX.itemsO p a)) := by
  intro pins s σ H x xs v us Q I rx rxs h
  obtain ⟨a, kvs, rfl, rfl, ha, q⟩ := h
  cases rx
  cases rxs
  obtain ⟨z, hd, vs, rel, o, es, ep, ho, hx, hdat, _⟩ := dk_of I.hok ha
  refine DT.callItems (es := es) (ep := ep) hd ⟨o, ho, hx, hdat⟩ ?_
  have hf : H s.heap.objs.size = none := I.hok.fresh (Nat.le_refl _)
  exact ⟨.ref s.heap.objs.size, upd H s.heap.objs.size (L2.DX.itemsO s.heap.objs.size a), I.laid (t' := s.toks) (fun b u e => Heap.get?_push_of_some _ e) (Nat.le_refl _) (L2.DX.itemsO_ok (Heap.get?_push_size _ rfl)), rfl, q _ hf⟩
theorem pairs_size {κ : Type} [DecidableEq κ] {knd : PySem.KeyKind X.prog X.w κ} : ∀ {es : List DictEntry} {kvs : List (κ × Value)}, Pairs knd es kvs → ∀ (j : Nat) (e : DictEntry), es[j]? = some e → ∃ k v, kvs[j]? = some (k, v) ∧ knd.is k e.key = true ∧ e.val = v
  | _, _, .nil, j, e, h => by simp at h
  | _, _, .cons (kv := kv) h1 h2 t, 0, e, h => by simp at h; subst h; exact ⟨kv.1, kv.2, rfl, h1, h2⟩
  | _, _, .cons h1 h2 t, j + 1, e, h => by
    obtain ⟨k, v, z⟩ := pairs_size t j e (by simpa using h)
    exact ⟨k, v, by simpa using z.1, z.2⟩
/-- the pairs by their places -/
theorem each_ix {α β : Type} {R : α → β → Prop} : ∀ {as : List α} {bs : List β}, as.length = bs.length → (∀ (j : Nat) (a : α) (b : β), as[j]? = some a → bs[j]? = some b → R a b) → PySem.W.EachIs R as bs
  | [], [], _, _ => .nil
  | [], _ :: _, h, _ => by simp at h
  | _ :: _, [], h, _ => by simp at h
  | a :: as, b :: bs, h, f => .cons (f 0 a b rfl rfl) (each_ix (by simpa using h) fun j x y h1 h2 => f (j + 1) x y (by simpa using h1) (by simpa using h2))
theorem each_at {α β : Type} {R : α → β → Prop} : ∀ {as : List α} {bs : List β}, PySem.W.EachIs R as bs → ∀ (j : Nat) {a : α} {b : β}, as[j]? = some a → bs[j]? = some b → R a b
  | _, _, .nil, j, a, b, h1, h2 => by simp at h1
  | _, _, .cons h t, 0, a, b, h1, h2 => by simp at h1 h2; subst h1 h2; exact h
  | _, _, .cons h t, j + 1, a, b, h1, h2 => each_at t j (by simpa using h1) (by simpa using h2)
theorem cr_sortItems (hc : X.calm = true) (hu : X.A.units + 64 < cLine) : CallR X (.builtin "sorted") fun vs H Q => ∃ (p a : Addr) (mp : Wd) (h : Hq) (kvs : List (D × D)) (ks : List Key) (ws : List V), vs = [.ref p] ∧ H p = some (L2.DX.itemsO p a) ∧ HRel X.K mp h H ∧ H a = some (.dK (ks.zip ws)) ∧ ks.length = ws.length ∧
    kvs.map (·.1) = ks.map kD ∧ RpAll X.K mp H (kvs.map (·.2)) ws ∧ (kvs.all fun p => isStr p.1 && (p.2.py.isSome && decide ((encD p.2).depth ≤ 60))) = true ∧ ∀ v mp' H', Le mp H mp' H' → HRel X.K mp' h H' → Rp X.K mp' H' (.lst ((kvs.mergeSort leKV).map pairD)) v → Q v H' := by
  intro pins s σ H xs us Q I r ⟨p, a, mp, h, kvs, ks, ws, exs, hp, rel, ha, lkw, ek, rw', hall, q⟩
  subst exs
  obtain ⟨u, rfl, ru⟩ := vals1 r
  obtain rfl : u = Value.ref p := ru
  have view : s.heap.IsItemsView p a := (show ObjOk X.prog X.w H s.heap p (L2.DX.itemsO p a) from I.hok p _ hp).1
  obtain ⟨z, hd, vs, kv, o, es, ep, ho, hx, hdat, _, prs, nd⟩ := dk_of I.hok ha
  have lk : kvs.length = ks.length := by have := congrArg List.length ek; simpa using this
  have lz : (ks.zip ws).length = kvs.length := by rw [List.length_zip, ← lkw, Nat.min_self, lk]
  have l1 : vs.length = kvs.length := by rw [← kv.length, lz]
  have l2 : es.size = kvs.length := by rw [← l1, ← prs.length, Array.length_toList]
  have hh : X.A.handled = none := I.ok.hd hc
  have hzl : kvs.length ≤ sizeLine := by rw [← lz]; exact z
  refine DT.sortedI (es := es) (ep := ep) hh view ⟨o, ho, hx, hdat⟩ (by rw [l2]; exact hzl) fun h' tk as hk hlt hl hG => ?_
  have lak : as.length = kvs.length := by rw [hl, l2]
  have ndas : as.Nodup := List.Pairwise.imp (fun h => Nat.ne_of_lt h) hG.rise
  -- what stands at each new pair
  have at_ : ∀ (j : Nat) (b : Addr), as[j]? = some b → ∃ (x : Str) (tok : Tok) (val : Value) (d : D) (w : V), kvs[j]? = some (.str x, d) ∧ ks[j]? = some (.inr x) ∧ ws[j]? = some w ∧ RelV w val ∧ Rp X.K mp H d w ∧ h'.get? b = some { cls := .type "tuple", data := .seq #[.str x tok, val] } := by
    intro j b hj
    obtain ⟨en, he, hg⟩ := hG.pairs j b hj
    obtain ⟨k, v, e1, e2, e3⟩ := pairs_size prs j en (by simpa using he)
    have hjk : j < kvs.length := by rw [← lak]; exact (List.getElem?_eq_some_iff.mp hj).1
    obtain ⟨pp, epp⟩ : ∃ pp, kvs[j]? = some pp := ⟨kvs[j], List.getElem?_eq_getElem hjk⟩
    obtain ⟨k1, d⟩ := pp
    have hin : (k1, d) ∈ kvs := List.mem_of_getElem? epp
    have hcond := List.all_eq_true.mp hall (k1, d) hin
    have hst : isStr k1 = true := (Bool.and_eq_true_iff.mp hcond).1
    obtain ⟨x, rfl⟩ : ∃ x, k1 = .str x := by cases k1 <;> first | exact ⟨_, rfl⟩ | cases hst
    have ekj : ks[j]? = some (.inr x) := by
      have h1 : (kvs.map (·.1))[j]? = some (.str x) := by rw [List.getElem?_map, epp]; rfl
      rw [ek, List.getElem?_map, Option.map_eq_some_iff] at h1
      obtain ⟨kk, h2, h3⟩ := h1
      cases kk with
      | inl i => cases h3
      | inr y => cases h3; exact h2
    obtain ⟨w, ew, rd⟩ := rw'.get (i := j) (d := d) (by rw [List.getElem?_map, epp]; rfl)
    have ez : (ks.zip ws)[j]? = some (.inr x, w) := by rw [List.getElem?_zip_eq_some]; exact ⟨ekj, ew⟩
    obtain ⟨u2, eu, ru2⟩ := kv_get kv ez
    rw [e1] at eu
    cases eu
    obtain ⟨t, et⟩ := Value.isStrOf_shape (show Value.isStrOf x en.key = true from e2)
    subst e3
    exact ⟨x, t, en.val, d, w, epp, ekj, ew, ru2, rd, by rw [hg, et]⟩
  -- the sort
  have hob : (h'.push { cls := .type "list", data := .seq (as.map Value.ref).toArray }).get? h'.objs.size = some (PyProof.Rows.seqObj "list" (as.map Value.ref).toArray 0) := Heap.get?_push_size _ rfl
  have keep2 : ∀ b o, h'.get? b = some o → (PySem.W.sortingHeap (h'.push { cls := .type "list", data := .seq (as.map Value.ref).toArray }) h'.objs.size (as.map Value.ref)).get? b = some o := fun b o e => PySem.W.sortingHeap_old (Nat.ne_of_lt (Heap.lt_size e)) (Heap.get?_push_of_some _ e)
  have epr : PySem.W.EachIs (IsPr (PySem.W.sortingHeap (h'.push { cls := .type "list", data := .seq (as.map Value.ref).toArray }) h'.objs.size (as.map Value.ref))) (as.map Value.ref) (kvs.map fun p => (⟨(strOf p.1).toArray⟩, encD p.2)) := by
    refine each_ix (by simp [lak]) fun j u b h1 h2 => ?_
    rw [List.getElem?_map, Option.map_eq_some_iff] at h1 h2
    obtain ⟨t, ht, rfl⟩ := h1
    obtain ⟨pp, hpp, rfl⟩ := h2
    obtain ⟨x, tok, val, d, w, e1, e2, e3, e4, e5, e6⟩ := at_ j t ht
    rw [e1] at hpp; cases hpp
    have hcond := List.all_eq_true.mp hall (.str x, d) (List.mem_of_getElem? e1)
    have hpy : d.py.isSome = true := (Bool.and_eq_true_iff.mp (Bool.and_eq_true_iff.mp hcond).2).1
    obtain ⟨pd, epd⟩ := Option.isSome_iff_exists.mp hpy
    obtain ⟨rs, hr⟩ := Dp.reads I _ _ _ (e5.dp epd) e4
    refine ⟨t, _, _, tok, val, rs, rfl, keep2 _ _ e6, rfl, rfl, ?_⟩
    have : encD d = pd := by unfold encD; rw [epd]; rfl
    show Reads _ val (encD d) rs
    rw [this]
    exact PyProof.Rows.Reads.keeps (fun b o e => keep2 b o (hk b o e)) hr
  have ndn : ((kvs.map fun p => ((⟨(strOf p.1).toArray⟩ : Str), encD p.2)).map (·.1)).Nodup := by
    rw [List.map_map]
    have hnk : (ks.map fun k => (match k with
        | .inr x => x
        | .inl _ => (⟨#[]⟩ : Str))) = kvs.map ((·.1) ∘ fun p => ((⟨(strOf p.1).toArray⟩ : Str), encD p.2)) := by
      refine List.ext_getElem? fun j => ?_
      rw [List.getElem?_map, List.getElem?_map]
      cases ej : kvs[j]? with
      | none =>
        have : ks[j]? = none := by rw [List.getElem?_eq_none_iff] at ej ⊢; omega
        rw [this]; rfl
      | some pp =>
        obtain ⟨t, ht⟩ : ∃ t, as[j]? = some t := by
          have := (List.getElem?_eq_some_iff.mp ej).1
          exact ⟨as[j]'(by omega), List.getElem?_eq_getElem (by omega)⟩
        obtain ⟨x, tok, val, d, w, e1, e2, _⟩ := at_ j t ht
        rw [e1] at ej; cases ej
        rw [e2]
        simp [strOf]
    rw [← hnk]
    have ndk : ks.Nodup := by
      have : vs.map (·.1) = ks := by
        rw [← kv.keys, List.map_fst_zip]; omega
      rw [← this]; exact nd
    refine List.pairwise_map.mpr (List.Pairwise.imp_of_mem (fun {x y} hx hy hne exy => hne ?_) ndk)
    have str_of : ∀ k ∈ ks, ∃ z, k = Sum.inr z := fun k hk => by
      obtain ⟨j, hj⟩ := List.mem_iff_getElem?.mp hk
      obtain ⟨t, ht⟩ : ∃ t, as[j]? = some t := by
        have := (List.getElem?_eq_some_iff.mp hj).1
        exact ⟨as[j]'(by omega), List.getElem?_eq_getElem (by omega)⟩
      obtain ⟨x, _, _, _, _, _, e2, _⟩ := at_ j t ht
      rw [e2] at hj; cases hj
      exact ⟨x, rfl⟩
    obtain ⟨x', rfl⟩ := str_of x hx
    obtain ⟨y', rfl⟩ := str_of y hy
    simp only at exy
    rw [exy]
  have S : PySem.W.SortsAt X.prog X.w X.A.in1.in1 { s with heap := PySem.W.sortingHeap (h'.push { cls := .type "list", data := .seq (as.map Value.ref).toArray }) h'.objs.size (as.map Value.ref), toks := tk } (prKind (PySem.W.sortingHeap (h'.push { cls := .type "list", data := .seq (as.map Value.ref).toArray }) h'.objs.size (as.map Value.ref)) (as.map Value.ref)) (as.map Value.ref) := by
    refine sorts_prs (s := { s with heap := PySem.W.sortingHeap (h'.push { cls := .type "list", data := .seq (as.map Value.ref).toArray }) h'.objs.size (as.map Value.ref), toks := tk }) epr ndn fun v p hv hp' => ?_
    obtain ⟨p0, hp0, i0⟩ := epr.left v hv
    obtain ⟨pp, hpp, rfl⟩ := List.mem_map.mp hp0
    have hcond := List.all_eq_true.mp hall pp hpp
    have h2 := Bool.and_eq_true_iff.mp (Bool.and_eq_true_iff.mp hcond).2
    obtain ⟨pd, epd⟩ := Option.isSome_iff_exists.mp h2.1
    have hen : encD pp.2 = pd := by unfold encD; rw [epd]; rfl
    have hpl : pd.plain = true := py_plain epd
    have heq : p.2 = pd := by
      obtain ⟨a1, o1, n1, t1, v1, as1, ee1, g1, _, g2, g3⟩ := hp'
      obtain ⟨a2, o2, n2, t2, v2, as2, ee2, k1, _, k2, k3⟩ := i0
      rw [ee1] at ee2; cases ee2
      rw [g1] at k1; cases k1
      rw [g2] at k2
      simp at k2
      have k3' := k3
      dsimp only at k3'
      rw [hen] at k3'
      rw [k2.1.2] at g3
      exact (PySem.SeqAt.plain_unique pd p.2 v2 as2 as1 hpl k3' g3).symm
    rw [heq]
    refine ⟨hpl, ?_⟩
    have := of_decide_eq_true h2.2
    rw [hen] at this
    show X.A.units + 1 + 1 + pd.depth < cLine
    omega
  have lTP : as.length = ((ks.zip ws).map fun q => [kV q.1, q.2]).length := by rw [List.length_map, lz, lak]
  have atTP : ∀ (j : Nat) (b : Addr), as[j]? = some b → ∃ (x : Str) (tok : Tok) (val : Value) (d : D) (w : V), kvs[j]? = some (.str x, d) ∧ (b, [V.str x, w]) ∈ as.zip ((ks.zip ws).map fun q => [kV q.1, q.2]) ∧ RelV w val ∧ Rp X.K mp H d w ∧ h'.get? b = some { cls := .type "tuple", data := .seq #[.str x tok, val] } := by
    intro j b hj
    obtain ⟨x, tok, val, d, w, e1, e2, e3, e4, e5, e6⟩ := at_ j b hj
    refine ⟨x, tok, val, d, w, e1, ?_, e4, e5, e6⟩
    refine List.mem_of_getElem? (i := j) ?_
    rw [List.getElem?_zip_eq_some]
    refine ⟨hj, ?_⟩
    rw [List.getElem?_map]
    have : (ks.zip ws)[j]? = some (.inr x, w) := by rw [List.getElem?_zip_eq_some]; exact ⟨e2, e3⟩
    rw [this]; rfl
  refine wpAny_call_entry PyProof.Rows.slot_list_sort ⟨_, hob, rfl⟩ PyProof.Rows.entry_list_sort (PySem.W.list_sort_vals hob S (by rw [List.length_map, lak]; exact hzl) ⟨.none, rfl, ?_⟩) (PyProof.Rows.args_list_sort _)
  have eR : PySem.W.EachIs (fun (v : Value) (p : D × D) => ∃ b x w, v = .ref b ∧ p.1 = .str x ∧ (b, [V.str x, w]) ∈ as.zip ((ks.zip ws).map fun q => [kV q.1, q.2]) ∧ Rp X.K mp H p.2 w) (as.map Value.ref) kvs := by
    refine each_ix (by simp [lak]) fun j u b h1 h2 => ?_
    rw [List.getElem?_map, Option.map_eq_some_iff] at h1
    obtain ⟨t, ht, rfl⟩ := h1
    obtain ⟨x, tok, val, d, w, e1, e2, e3, e4, e5⟩ := atTP j t ht
    rw [e1] at h2; cases h2
    exact ⟨t, x, w, rfl, rfl, e2, e4⟩
  have eK : PySem.W.EachIs (fun (v : Value) (p : D × D) => (prKind (PySem.W.sortingHeap (h'.push { cls := .type "list", data := .seq (as.map Value.ref).toArray }) h'.objs.size (as.map Value.ref)) (as.map Value.ref)).keyOf v = some (strOf p.1)) (as.map Value.ref) kvs := by
    refine each_ix (by simp [lak]) fun j u b h1 h2 => ?_
    have hm : u ∈ as.map Value.ref := List.mem_of_getElem? h1
    have hpr : IsPr (PySem.W.sortingHeap (h'.push { cls := .type "list", data := .seq (as.map Value.ref).toArray }) h'.objs.size (as.map Value.ref)) u ((⟨(strOf b.1).toArray⟩ : Str), encD b.2) := each_at epr j h1 (by rw [List.getElem?_map, h2]; rfl)
    rw [prKind_some hm hpr]
  have eo := PySem.W.sortVals_each (κ := prKind (PySem.W.sortingHeap (h'.push { cls := .type "list", data := .seq (as.map Value.ref).toArray }) h'.objs.size (as.map Value.ref)) (as.map Value.ref)) (rev := false) (fun p : D × D => strOf p.1) eR eK
  have ele : PySem.W.sortLe (prKind (PySem.W.sortingHeap (h'.push { cls := .type "list", data := .seq (as.map Value.ref).toArray }) h'.objs.size (as.map Value.ref)) (as.map Value.ref)).toKeyOrd false (fun p : D × D => strOf p.1) = leKV := by
    funext x y
    rfl
  rw [ele] at eo
  generalize PySem.W.sortVals (prKind (PySem.W.sortingHeap (h'.push { cls := .type "list", data := .seq (as.map Value.ref).toArray }) h'.objs.size (as.map Value.ref)) (as.map Value.ref)) false (as.map Value.ref) (as.map Value.ref) = out at eo ⊢
  -- the new heap
  obtain ⟨c, hL⟩ := PyProof.Rows.sortedHeap_at (out := out.toArray) hob
  have keep3 : ∀ b o, h'.get? b = some o → (PyProof.Rows.sortedHeap (h'.push { cls := .type "list", data := .seq (as.map Value.ref).toArray }) h'.objs.size (as.map Value.ref) out.toArray).get? b = some o := fun b o e => by
    rw [PyProof.Rows.sortedHeap_old (Nat.ne_of_lt (Heap.lt_size e)) (by rw [PyProof.Rows.size_push']; exact Nat.lt_succ_of_lt (Heap.lt_size e))]
    exact Heap.get?_push_of_some _ e
  have mapTP : (as.zip ((ks.zip ws).map fun q => [kV q.1, q.2])).map (·.1) = as := List.map_fst_zip (by rw [lTP]; exact Nat.le_refl _)
  have outV : ∃ ov : List V, Vals ov out ∧ ov.length = kvs.length ∧ ∀ (H' : Hp), Same H H' → (∀ p ∈ as.zip ((ks.zip ws).map fun q => [kV q.1, q.2]), H' p.1 = some (.tup p.2)) → RpAll X.K mp H' ((kvs.mergeSort leKV).map pairD) ov := by
    have go : ∀ {out : List Value} {bs : List (D × D)}, PySem.W.EachIs (fun (v : Value) (p : D × D) => ∃ b x w, v = .ref b ∧ p.1 = .str x ∧ (b, [V.str x, w]) ∈ as.zip ((ks.zip ws).map fun q => [kV q.1, q.2]) ∧ Rp X.K mp H p.2 w) out bs →
        ∃ ov : List V, Vals ov out ∧ ov.length = bs.length ∧ ∀ (H' : Hp), Same H H' → (∀ p ∈ as.zip ((ks.zip ws).map fun q => [kV q.1, q.2]), H' p.1 = some (.tup p.2)) → RpAll X.K mp H' (bs.map pairD) ov := by
      intro out bs e
      induction e with
      | nil => exact ⟨[], .nil, rfl, fun _ _ _ => .nil⟩
      | @cons v pq _ _ h1 _ ih =>
        obtain ⟨ov, i1, i2, i3⟩ := ih
        obtain ⟨b, x, w, rfl, e2, e3, e4⟩ := h1
        refine ⟨.ref b :: ov, .cons rfl i1, by simp [i2], fun H' sm ht => ?_⟩
        refine .cons ?_ (i3 H' sm ht)
        have le := le_same rel sm
        have hb : b ∉ mp.bn := fun zz => by
          obtain ⟨uu, eu, _⟩ := rel.there b zz
          have hbm : b ∈ as := by rw [← mapTP]; exact List.mem_map.mpr ⟨_, e3, rfl⟩
          have := hG.above b hbm
          have h5 := I.hok.lt eu
          exact absurd (Nat.lt_trans this h5) (Nat.lt_irrefl _)
        obtain ⟨k1, d1⟩ := pq
        dsimp only at e2
        subst e2
        exact .tup (ht _ e3) hb (.cons (.str x) (.cons (e4.mono le) .nil))
    obtain ⟨ov, o1, o2, o3⟩ := go eo
    exact ⟨ov, o1, by rw [o2, List.length_mergeSort], o3⟩
  obtain ⟨ov, o1, o2, o3⟩ := outV
  have nL : h'.objs.size ∉ (as.zip ((ks.zip ws).map fun q => [kV q.1, q.2])).map (·.1) := by
    rw [mapTP]
    intro zz
    exact absurd (hG.there zz) (Nat.lt_irrefl _)
  have hnew : ∀ pq ∈ as.zip ((ks.zip ws).map fun q => [kV q.1, q.2]), s.heap.objs.size ≤ pq.1 ∧ pq.2.length ≤ sizeLine ∧ ∃ us : List Value, Vals pq.2 us ∧ PyProof.Rows.IsTup (PyProof.Rows.sortedHeap (h'.push { cls := .type "list", data := .seq (as.map Value.ref).toArray }) h'.objs.size (as.map Value.ref) out.toArray) pq.1 us.toArray := by
    intro pq hpq
    obtain ⟨j, hj⟩ := List.mem_iff_getElem?.mp hpq
    obtain ⟨b, vl⟩ := pq
    rw [List.getElem?_zip_eq_some] at hj
    obtain ⟨x, tok, val, d, w, e1, e2, e3, e4, e5⟩ := atTP j b hj.1
    obtain ⟨x', tok', val', d', w', f1, f2, f3, f4, f5, f6⟩ := at_ j b hj.1
    have hv : vl = [V.str x', w'] := by
      have h1 := hj.2
      rw [List.getElem?_map] at h1
      have : (ks.zip ws)[j]? = some (.inr x', w') := by rw [List.getElem?_zip_eq_some]; exact ⟨f2, f3⟩
      rw [this] at h1
      exact (Option.some.inj h1).symm
    subst hv
    exact ⟨Nat.le_of_lt (hG.above b (List.mem_of_getElem? hj.1)), by show 2 ≤ sizeLine; rw [sizeLine_eq]; decide, [.str x' tok', val'], .cons ⟨tok', rfl⟩ (.cons f4 .nil), ⟨_, keep3 _ _ f6, rfl, 0, rfl⟩⟩
  obtain ⟨J, sm⟩ := laid_tups (tk := tk) I (fun b o e => keep3 b o (hk b o e)) (as.zip ((ks.zip ws).map fun q => [kV q.1, q.2])) (by rw [mapTP]; exact ndas) hnew (L := h'.objs.size) (out := ov) (its := out) (n := c) (Nat.le_of_lt hlt) nL hL o1 (by rw [o2]; exact hzl)
  have hpL : H h'.objs.size = none := I.hok.fresh (Nat.le_of_lt hlt)
  have ht := putTs_at (as.zip ((ks.zip ws).map fun q => [kV q.1, q.2])) (upd H h'.objs.size (.lst ov)) (by rw [mapTP]; exact ndas)
  refine ⟨.ref h'.objs.size, _, J, rfl, q _ mp _ (le_same rel sm) (rel.same sm) (.lst ?_ (rel.fresh hpL) (o3 _ sm ht))⟩
  rw [putTs_off _ _ nL, upd_same]
end
section
variable {X : Cx} {W : WX} {e : Expr} {f : Ev D} {p pos apos cpos : Pos}
theorem se_sortItems (hc : X.calm = true) (hu : X.A.units + 64 < cLine) (he : SE X W e f) (hm : X.mg "sorted" = none) (hg : Gl X "sorted" := by rfl) (hbase : attributeBase e "items" X.env (eval e X.env) = eval e X.env := by rfl) (hline : (apos.endLine == cpos.line) = true := by rfl)
    (hs : starEach [.Call (.Attribute e "items" apos) [] [] cpos] X.env = (false, eval (.Call (.Attribute e "items" apos) [] [] cpos) X.env) :: starEach [] X.env := by rfl) (hpl : (backTo pos (starEach [] X.env)).any (·.1) = false := by rfl) (hv : bootBuiltins "sorted" = some (.builtin "sorted") := by decide +kernel) :
    SE X W (.Call (.Name "sorted" p) [.Call (.Attribute e "items" apos) [] [] cpos] [] pos) (mSortItems f) :=
  PE.imp (pe_callB (cr_sortItems hc hu) hg hm hv (pa_cons (pe_bm0 PySem.F.plainAttrs_dict PySem.F.slot_dict_items PySem.F.type_dict_items mt_itemsK he hbase hline) pa_nil hs) (by decide) (by decide) hs hpl) fun σ H Q ⟨ρ, h, mp, r, en, q⟩ => by
    refine ⟨ρ, h, mp, r, en, Post.mono (Post.bind q) fun x H1 ⟨mp1, h1, d1, le1, r1, q1, p1⟩ => ?_⟩
    dsimp only at p1
    cases ed : asD h1 d1 with
    | none => rw [ed] at p1; exact p1.elim
    | some kvs =>
      rw [ed] at p1
      dsimp only at p1
      split at p1
      · rename_i hall
        obtain ⟨a, rfl, c⟩ := asD_ok r1 q1 ed
        have hty : tyV X.K "dict" (.ref a) H1 := ty_ok r1 q1 (T := "dict") (by simp only [tyOk, ed]; rfl)
        rcases c with ⟨ks, vs, e1, l, ek, rv⟩ | ⟨ks, vs, ne, e1, l, ek, rv⟩
        · refine ⟨hty, a, _, rfl, rfl, e1, fun b hb => ?_⟩
          have le := le_new r1 (o := L2.DX.itemsO b a) hb
          refine ⟨b, a, mp1, h1, kvs, ks, vs, rfl, upd_same, r1.new hb, by rw [upd_ne (ne_of_none e1 hb)]; exact e1, l, ek, rv.mono le, hall, fun v mp' H' le' r' rp => p1 v mp' H' (le.trans le') r' rp⟩
        · exfalso
          cases kvs with
          | nil => exact ne rfl
          | cons pp t => cases ks with
            | nil => simp at ek
            | cons k1 ks =>
              simp only [List.map_cons, List.cons.injEq] at ek
              have := List.all_eq_true.mp hall pp (by simp)
              rw [ek.1] at this
              cases this
      · exact p1.elim
end
/-! ### isinstance with a built-in class -/
def tyName (h : Hq) : D → Option String
  | .non => some "NoneType"
  | .bl _ => some "bool"
  | .int _ => some "int"
  | .str _ => some "str"
  | .tup _ => some "tuple"
  | .ktup _ => some "tuple"
  | .ftup _ => some "tuple"
  | .lst _ => some "list"
  | .klst _ => some "list"
  | .dic _ => some "dict"
  | .ref l => (match h[l]? with
    | some (.lst _) => some "list"
    | some (.dic _) => some "dict"
    | _ => none)
  | _ => none
def isiB (t T : String) : Bool := t == T || (t == "bool" && T == "int")
def isiTs : List String := ["int", "bool", "str", "tuple", "list", "dict"]
theorem kit_tab : ∀ t ∈ ["NoneType", "bool", "int", "str", "tuple", "list", "dict"], ∀ T ∈ isiTs, kitB t T = some (isiB t T) := by decide +kernel
def gIsi (ds : List D) (h : Hq) : Option (D × Hq) := match ds with
  | [d, .ty T] => if T ∈ isiTs then (tyName h d).map fun t => (.bl (isiB t T), h) else none
  | _ => none
theorem ty_of {K : PySem.W.Frag} {mp : Wd} {H : Hp} {h : Hq} {d : D} {v : V} {t : String} (r : HRel K mp h H) (a : Rp K mp H d v) (e : tyName h d = some t) : TyX K H v (.type t) ∧ t ∈ ["NoneType", "bool", "int", "str", "tuple", "list", "dict"] := by
  cases a with
  | non => cases e; exact ⟨.base .non, by decide⟩
  | bl b => cases e; exact ⟨.base (.bl b), by decide⟩
  | int b => cases e; exact ⟨.base (.int b), by decide⟩
  | str b => cases e; exact ⟨.base (.str b), by decide⟩
  | ty n => cases e
  | adr n => cases e
  | tup h1 _ _ => cases e; exact ⟨.base (.tup h1), by decide⟩
  | lst h1 _ _ => cases e; exact ⟨.base (.lst h1), by decide⟩
  | ktup h1 _ =>
    cases e
    rcases h1 with (h1 | ⟨o, h1⟩) | ⟨o, its, n, h1, h2, _⟩
    · cases h1
    · cases h1
    · exact ⟨.kTuple h1 h2, by decide⟩
  | ftup h1 _ =>
    cases e
    obtain ⟨⟨o, h1, _⟩, _⟩ := h1
    exact ⟨.fTuple h1, by decide⟩
  | klst h1 _ =>
    cases e
    rcases h1 with ⟨h1 | ⟨o, h1⟩, _⟩ | ((h1 | ⟨o, h1⟩) | ⟨o, its, n, h1, h2, _⟩)
    · exact ⟨.base (.lst h1), by decide⟩
    · exact ⟨.base (.frz h1), by decide⟩
    · cases h1
    · cases h1
    · exact ⟨.kList h1 h2, by decide⟩
  | dicK h1 => cases e; exact ⟨.base (.dK h1), by decide⟩
  | dicT _ h1 => cases e; exact ⟨.base (.dT h1), by decide⟩
  | @ref l a m =>
    simp only [tyName] at e
    split at e
    · rename_i xs q
      cases e
      obtain ⟨vs, e1, _⟩ := r.obj _ _ _ q m
      exact ⟨.base (.lst e1), by decide⟩
    · rename_i xs q
      cases e
      rcases (r.obj _ _ _ q m : DicAt K mp H xs a) with ⟨_, _, e1, _⟩ | ⟨_, _, _, e1, _⟩
      · exact ⟨.base (.dK e1), by decide⟩
      · exact ⟨.base (.dT e1), by decide⟩
    · cases e
theorem c1_isi {X : Cx} : C1 X (.builtin "isinstance") gIsi := by
  intro pins s σ H xs us Q I rv ⟨mp, h, ds, r, a, p⟩
  unfold gIsi at p
  split at p
  · rename_i d T
    split at p
    · rename_i hT
      obtain ⟨x, c, rfl, r1, r2⟩ := a.two
      cases r2
      cases e : tyName h d with
      | none => rw [e] at p; exact p.elim
      | some t =>
        rw [e] at p
        obtain ⟨h1, h2⟩ := ty_of r r1 e
        exact call_isi pins s σ H _ us Q I rv ⟨x, .ty T, .type t, .type T, isiB t T, rfl, .ty T, h1, kit_ty (kit_tab t h2 T hT), p _ mp H .refl r (.bl _)⟩
    · exact p.elim
  · exact p.elim
/-! ### dict(pairs), the keys ints and texts -/
def isPrs : List D → Option (List (D × D))
  | [] => some []
  | .tup [k, v] :: ds => (isPrs ds).map ((k, v) :: ·)
  | _ => none
def mergeKV (kvs more : List (D × D)) : List (D × D) := more.foldl (fun acc p => putKV acc p.1 p.2) kvs
def gDict (ds : List D) (h : Hq) : Option (D × Hq) := match ds with
  | [d] => (match asLk h d with
    | some xs => (match isPrs xs with
      | some ps => if (ps.all fun p => (isK p.1).isSome) = true then some (.dic (mergeKV [] ps), h) else none
      | none => none)
    | none => none)
  | _ => none
section
variable {K : PySem.W.Frag} {mp : Wd} {H : Hp}
theorem prs_ok : ∀ {ds : List D} {vs : List V} {ps : List (D × D)}, RpAll K mp H ds vs → isPrs ds = some ps → (ps.all fun p => (isK p.1).isSome) = true →
    ∃ (as : List Addr) (ks : List Key) (ws : List V), vs = as.map V.ref ∧ ks.length = ws.length ∧ Paired (fun p kv => SqT K H p [kV kv.1, kv.2]) as (ks.zip ws) ∧ ps.map (·.1) = ks.map kD ∧ RpAll K mp H (ps.map (·.2)) ws
  | _, _, _, .nil, e, _ => by simp [isPrs] at e; subst e; exact ⟨[], [], [], rfl, rfl, .nil, rfl, .nil⟩
  | _, _, _, .cons (d := d) r t, e, ha => by
    unfold isPrs at e
    split at e
    · rename_i h1; cases h1
    · rename_i k v ds' h1
      cases h1
      rw [Option.map_eq_some_iff] at e
      obtain ⟨ps, e1, rfl⟩ := e
      rw [List.all_cons, Bool.and_eq_true] at ha
      obtain ⟨as, ks, ws, a1, a2, a3, a4, a5⟩ := prs_ok t e1 ha.2
      obtain ⟨kk, hk⟩ := Option.isSome_iff_exists.mp ha.1
      have ek := isK_eq hk
      dsimp only at ek
      subst ek
      cases r with
      | @tup b vs _ h2 n2 q2 =>
        obtain ⟨x, y, rfl, rx, ry⟩ := q2.two
        have ex := rp_key rx
        subst ex
        exact ⟨b :: as, kk :: ks, y :: ws, by rw [a1]; rfl, by simp [a2], .cons (SqT.of h2) a3, by simp [a4], .cons ry a5⟩
    · cases e
theorem merge_ok : ∀ (more : List (D × D)) {kvs : List (D × D)} {ks ms : List Key} {vs ws : List V}, ks.length = vs.length → kvs.map (·.1) = ks.map kD → RpAll K mp H (kvs.map (·.2)) vs → ms.length = ws.length → more.map (·.1) = ms.map kD → RpAll K mp H (more.map (·.2)) ws →
    ∃ (ks' : List Key) (vs' : List V), mergeK (ks.zip vs) (ms.zip ws) = ks'.zip vs' ∧ ks'.length = vs'.length ∧ (mergeKV kvs more).map (·.1) = ks'.map kD ∧ RpAll K mp H ((mergeKV kvs more).map (·.2)) vs'
  | [], kvs, ks, ms, vs, ws, l, e, r, l2, e2, r2 => by
    cases ms with
    | nil => exact ⟨ks, vs, by simp [mergeK], l, e, r⟩
    | cons _ _ => simp at e2
  | p :: more, kvs, ks, ms, vs, ws, l, e, r, l2, e2, r2 => by
    cases ms with
    | nil => simp at e2
    | cons m ms =>
      cases ws with
      | nil => simp at l2
      | cons w ws =>
        simp only [List.map_cons, List.cons.injEq] at e2
        cases r2 with
        | cons q1 q2 =>
          obtain ⟨ks1, vs1, b1, b2, b3, b4⟩ := putKV_g keyEq_k (k := m) q1 l e r
          rw [← e2.1] at b3 b4
          obtain ⟨ks2, vs2, c1, c2, c3, c4⟩ := merge_ok more b2 b3 b4 (by simpa using l2) e2.2 q2
          refine ⟨ks2, vs2, ?_, c2, c3, c4⟩
          rw [← c1, ← b1]
          rfl
end
theorem c1_dict {X : Cx} (hc : X.calm = true) : C1 X (.type "dict") gDict := by
  intro pins s σ H xs us Q I rv ⟨mp, h, ds, r, a, p⟩
  unfold gDict at p
  split at p
  · rename_i d
    obtain ⟨v, rfl, q⟩ := a.one
    split at p
    · rename_i ys e
      split at p
      · rename_i ps e2
        split at p
        · rename_i hk
          obtain ⟨pa, vs, rfl, hs, ra⟩ := asLk_ok r q e
          obtain ⟨as, ks, ws, a1, a2, a3, a4, a5⟩ := prs_ok ra e2 hk
          obtain ⟨ks', vs', b1, b2, b3, b4⟩ := merge_ok ps (kvs := []) (ks := []) (vs := []) rfl rfl .nil a2 a4 a5
          refine call_dictP hc pins s σ H _ us Q I rv ⟨pa, as, ks.zip ws, rfl, by rw [← a1]; exact hs, a3, fun b hb => ?_⟩
          have le := le_new r (o := .dK (mergeK [] (ks.zip ws))) hb
          refine p _ mp _ le (r.new hb) (.dicK ?_ b2 (r.fresh hb) b3 (b4.mono le))
          rw [upd_same]
          exact congrArg (fun z => some (HO.dK z)) b1
        · exact p.elim
      · exact p.elim
    · exact p.elim
  · exact p.elim
end Mi
namespace Mi
open PySem PySem.Spec L2
/-! ### a def's own places forgotten behind it -/
mutual
def D.nr : D → Bool
  | .tup xs => D.nrs xs
  | .lst xs => D.nrs xs
  | .ktup xs => D.nrs xs
  | .ftup xs => D.nrs xs
  | .klst xs => D.nrs xs
  | .dic _ => false
  | .set _ => false
  | .ref _ => false
  | _ => true
def D.nrs : List D → Bool
  | [] => true
  | x :: xs => D.nr x && D.nrs xs
end
section
variable {K : PySem.W.Frag} {mp mp' : Wd} {H H' : Hp}
mutual
theorem Rp.nr (m2 : Wd) (e : m2.bn = mp.bn) : ∀ {d : D} {v : V}, Rp K mp H d v → d.nr = true → Rp K m2 H d v
  | _, _, .non, _ => .non
  | _, _, .bl b, _ => .bl b
  | _, _, .int i, _ => .int i
  | _, _, .str x, _ => .str x
  | _, _, .ty n, _ => .ty n
  | _, _, .adr a, _ => .adr a
  | _, _, .tup h n r, z => .tup h (by rw [e]; exact n) (r.nr m2 e (by simpa [D.nr] using z))
  | _, _, .lst h n r, z => .lst h (by rw [e]; exact n) (r.nr m2 e (by simpa [D.nr] using z))
  | _, _, .ktup h r, z => .ktup h (r.nr m2 e (by simpa [D.nr] using z))
  | _, _, .klst h r, z => .klst (by rw [e]; exact h) (r.nr m2 e (by simpa [D.nr] using z))
  | _, _, .dicK .., z => by simp [D.nr] at z
  | _, _, .dicT .., z => by simp [D.nr] at z
  | _, _, .ref h, z => by simp [D.nr] at z
  | _, _, .ftup h r, z => .ftup (by rw [e]; exact h) (r.nr m2 e (by simpa [D.nr] using z))
theorem RpAll.nr (m2 : Wd) (e : m2.bn = mp.bn) : ∀ {ds : List D} {vs : List V}, RpAll K mp H ds vs → D.nrs ds = true → RpAll K m2 H ds vs
  | _, _, .nil, _ => .nil
  | _, _, .cons h t, z => by
    simp only [D.nrs, Bool.and_eq_true] at z
    exact .cons (h.nr m2 e z.1) (t.nr m2 e z.2)
end
mutual
/-- what stood ahead already, over the places that were there -/
theorem Rp.cut (le : Le mp H mp' H') : ∀ {d : D} {v0 v : V}, Rp K mp H d v0 → Rp K mp' H' d v → Rp K ⟨mp.pl, mp'.bn⟩ H' d v
  | _, _, _, .non, .non => .non
  | _, _, _, .bl b, .bl _ => .bl b
  | _, _, _, .int i, .int _ => .int i
  | _, _, _, .str x, .str _ => .str x
  | _, _, _, .ty n, .ty _ => .ty n
  | _, _, _, .adr a, .adr _ => .adr a
  | _, _, _, .tup _ _ r0, .tup h n r => .tup h n (r0.cut le r)
  | _, _, _, .lst _ _ r0, .lst h n r => .lst h n (r0.cut le r)
  | _, _, _, .ktup _ r0, .ktup h r => .ktup h (r0.cut le r)
  | _, _, _, .klst _ r0, .klst h r => .klst h (r0.cut le r)
  | _, _, _, .ftup _ r0, .ftup h r => .ftup h (r0.cut le r)
  | _, _, _, .dicK _ _ _ _ r0, .dicK h k n q r => .dicK h k n q (r0.cut le r)
  | _, _, _, .dicK _ _ _ _ r0, .dicT z h k n q r => .dicT z h k n q (r0.cut le r)
  | _, _, _, .dicT _ _ _ _ _ r0, .dicK h k n q r => .dicK h k n q (r0.cut le r)
  | _, _, _, .dicT _ _ _ _ _ r0, .dicT z h k n q r => .dicT z h k n q (r0.cut le r)
  | _, _, _, .ref h0, .ref h => .ref (by
      have := le.get h0
      rw [h] at this; cases this; exact h0)
theorem RpAll.cut (le : Le mp H mp' H') : ∀ {ds : List D} {vs0 vs : List V}, RpAll K mp H ds vs0 → RpAll K mp' H' ds vs → RpAll K ⟨mp.pl, mp'.bn⟩ H' ds vs
  | _, _, _, .nil, .nil => .nil
  | _, _, _, .cons h0 t0, .cons h t => .cons (h0.cut le h) (t0.cut le t)
end
theorem RpF.cut (le : Le mp H mp' H') : ∀ {ds : List (Str × D)} {vs0 vs : List (Str × V)}, RpF K mp H ds vs0 → RpF K mp' H' ds vs → RpF K ⟨mp.pl, mp'.bn⟩ H' ds vs
  | _, _, _, .nil, .nil => .nil
  | _, _, _, .cons h0 t0, .cons h t => .cons (h0.cut le h) (t0.cut le t)
theorem ORel.cut (le : Le mp H mp' H') {o : O} {a0 a : Addr} (r0 : ORel K mp H o a0) (r : ORel K mp' H' o a) : ORel K ⟨mp.pl, mp'.bn⟩ H' o a := by
  cases o with
  | lst ds =>
    obtain ⟨_, _, q0⟩ := r0
    obtain ⟨vs, e1, q⟩ := r
    exact ⟨vs, e1, q0.cut le q⟩
  | dic kvs =>
    obtain ⟨vs0, q0⟩ : ∃ vs, RpAll K mp H (kvs.map (·.2)) vs := by
      rcases r0 with ⟨_, vs, _, _, _, q⟩ | ⟨_, vs, _, _, _, _, q⟩
      · exact ⟨vs, q⟩
      · exact ⟨vs, q⟩
    rcases r with ⟨ks, vs, e1, l, k, q⟩ | ⟨ks, vs, z, e1, l, k, q⟩
    · exact .inl ⟨ks, vs, e1, l, k, q0.cut le q⟩
    · exact .inr ⟨ks, vs, z, e1, l, k, q0.cut le q⟩
  | ins c fs =>
    obtain ⟨_, _, _, q0⟩ := r0
    obtain ⟨dx, vs, e1, q⟩ := r
    exact ⟨dx, vs, e1, q0.cut le q⟩
  | hid => exact r
theorem HRel.cut {h h' : Hq} (r0 : HRel K mp h H) (le : Le mp H mp' H') (r : HRel K mp' h' H') (e : h'.take h.length = h) : Le mp H ⟨mp.pl, mp'.bn⟩ H' ∧ HRel K ⟨mp.pl, mp'.bn⟩ h H' := by
  refine ⟨⟨⟨[], by simp⟩, fun a o e n nb => le.keep a o e n nb, fun a ha n => ⟨(le.own a ha n).1, (le.own a ha n).2.1, n⟩⟩, r0.len, r0.nd, fun a ha => ?_, r.there, fun l o a h1 h2 => ?_, r.tabs⟩
  · obtain ⟨l, hl⟩ := List.mem_iff_getElem?.mp ha
    exact r.sub a (List.mem_of_getElem? (le.get hl))
  · have hl : l < h.length := (List.getElem?_eq_some_iff.mp h1).1
    have h3 : h'[l]? = some o := by
      rw [← e, List.getElem?_take_of_lt hl] at h1
      exact h1
    exact ORel.cut le (r0.obj l o a h1 h2) (r.obj l o a h3 (le.get h2))
end
open Classical in
noncomputable def gcR (h : Hq) (r : Res D) : Res D := match r with
  | .ok d h' => if d.nr = true ∧ h'.take h.length = h then .ok d h else .bad
  | .exc c h' => if h'.take h.length = h then .exc c h else .bad
  | .bad => .bad
theorem post_gc {K : PySem.W.Frag} {mp : Wd} {h : Hq} {H : Hp} {r : Res D} {Q : VK} {E : Str → Hp → Prop} (rel : HRel K mp h H) (p : Post K (rD K) mp H (gcR h r) Q E) : Post K (rD K) mp H r Q E := by
  cases r with
  | bad => exact p
  | ok d h' =>
    unfold gcR at p
    dsimp only at p
    split at p
    · rename_i hz
      intro v mp' H' le r' rp
      obtain ⟨le2, r2⟩ := rel.cut le r' hz.2
      exact p v ⟨mp.pl, mp'.bn⟩ H' le2 r2 (Rp.nr (mp := mp') ⟨mp.pl, mp'.bn⟩ rfl rp hz.1)
    · exact p.elim
  | exc c h' =>
    unfold gcR at p
    dsimp only at p
    split at p
    · rename_i hz
      intro mp' H' le r'
      obtain ⟨le2, r2⟩ := rel.cut le r' hz
      exact p ⟨mp.pl, mp'.bn⟩ H' le2 r2
    · exact p.elim
/-- a def's entry in the table: how many slots, whether its own places are forgotten, its body -/
structure Df (F : Type) where
  n : Nat
  gc : Bool
  b : Calls F → Ex
noncomputable def run {F : Type} (T : F → Df F) : Nat → Calls F
  | 0 => fun _ _ _ => .bad
  | k + 1 => fun f ds h => match (T f).gc with
    | false => ((T f).b (run T k) (startD (T f).n ds) h).res
    | true => gcR h ((T f).b (run T k) (startD (T f).n ds) h).res
theorem fn_run {F : Type} (T : F → Df F) {fx : F} {P : Program} {w : World} {K : PySem.W.Frag} {mg : Str → Option Value} {base : Heap} {nm qual : Str} {params : Arguments} {body : List Stmt} {scope : Scope} {f : Addr} {fd : FuncData} {N ps : List Str} {k : Nat}
    (FD : FunD K nm qual params body scope [] [] f fd) (S : FnScope N ps scope) (hn : (T fx).n = N.length)
    (hb : ∀ (cdv : Value) (A : Around) (outer : List Env) (s : Shared) (H : Hp) (E : XK), Room k (A.deeper (PyProof.Rows.envOfC qual scope s.heap.objs.size f cdv)) →
      SSs (cxOf (L2.CX P w) P w K mg base N qual scope f cdv A outer s H E) (fun c d _ H' => E c d H') body ((T fx).b (run T k))) :
    FnOk P w K mg base (L2.CX P w) (k + 1) f fd ps (spM K (run T (k + 1)) fx ps.length) := by
  have h1 : FnOk P w K mg base (L2.CX P w) (k + 1) f fd ps (spM K (fun (_ : F) ds h => ((T fx).b (run T k) (startD (T fx).n ds) h).res) fx ps.length) :=
    fn_mi (fx := fx) FD S (fun ds h _ => by rw [hn]) hb
  refine h1.imp fun vs H Q E ⟨hl, mp, h, ds, r, a, q⟩ => ⟨hl, mp, h, ds, r, a, ?_⟩
  unfold run at q
  cases e : (T fx).gc with
  | false => rw [e] at q; exact q
  | true => rw [e] at q; exact post_gc r q
end Mi
namespace Mi
open PySem PySem.Spec L2
def mBad : Ev D := fun _ _ => .bad
theorem se_bad {X : Cx} {W : WX} {e : Expr} : SE X W e mBad := ⟨fun pins s σ H Q I ⟨ρ, h, mp, r, en, p⟩ => p.elim⟩
theorem ss_bad {X : Cx} {W : WX} {e : Stmt} : SS X W e (fun _ _ => .bad) := ⟨fun pins s σ H Q I ⟨ρ, h, mp, r, en, p⟩ => p.elim⟩
theorem se_callA {F : Type} {X : Cx} {W : WX} {pos p : Pos} {e : Expr} {es : List Expr} {C : Calls F} {k : Nat} {f : F} {x : Str} {ps : List Str} {fa : Ev (List D)} {P : Program} {w : World} {K : PySem.W.Frag} {mg : Str → Option Value} {base : Heap} {A0 : Around}
    (A : FnA P w K mg base C k f x ps) (hr : Room k A0) (ha : SA X W (e :: es) fa) (tk : Takes X W) (hX : X.prog = P ∧ X.w = w ∧ X.K = K ∧ X.mg = mg ∧ X.base = base ∧ X.A = A0 := by exact ⟨rfl, rfl, rfl, rfl, rfl, rfl⟩) (hg : Gl X x := by rfl) (hdb : (x == ("__debug__" : Str)) = false := by decide) (he : starEach (e :: es) X.env = (false, eval e X.env) :: starEach es X.env := by rfl)
    (hpl : (backTo pos (starEach es X.env)).any (·.1) = false := by rfl) : SE X W (.Call (.Name x p) (e :: es) [] pos) (mCall C f ps.length fa) := by
  obtain ⟨rfl, rfl, rfl, rfl, rfl, rfl⟩ := hX
  exact se_call A hr tk ha hg hdb he hpl
theorem fn_zero {F : Type} {T : F → Df F} {fx : F} {P : Program} {w : World} {K : PySem.W.Frag} {mg : Str → Option Value} {base : Heap} {f : Addr} {fd : FuncData} {n : Nat} (ps : List Str) (hn : n = ps.length) :
    FnOk P w K mg base (L2.CX P w) 0 f fd ps (spM K (run T 0) fx n) :=
  ⟨fun vs H Q E h => h.1.trans hn, fun A outer s H args us vs Q E _ _ _ _ ⟨_, mp, h, ds, _, _, z⟩ => z.elim⟩
theorem map_strs (K : PySem.W.Frag) (z : List Str) : (z.map He.Dv.str).map (He.Dv.v K) = z.map V.str := by
  rw [List.map_map]; rfl
theorem tup_strs {K : PySem.W.Frag} {x : Str} {z : List Str} (h : He.tupB K x (z.map He.Dv.str) = true) : SqT K (fun _ => none) (He.ga K x) (z.map V.str) := by
  have := He.tupB_ok h (fun _ => none)
  rw [map_strs] at this
  exact this
theorem room_of {k : Nat} (h : k ≤ 150) : Room k callerA := by
  have r : Room 150 callerA := ⟨rfl, by decide, by decide⟩
  exact r.mono h
theorem RpAll.nums {K : PySem.W.Frag} {mp : Wd} {H : Hp} : ∀ ns : List Int, RpAll K mp H (ns.map D.int) (ns.map V.int)
  | [] => .nil
  | n :: ns => .cons (.int n) (RpAll.nums ns)
/-- a law's def, its script by value -/
theorem sp_law {F : Type} {K : PySem.W.Frag} {C : Calls F} {fx : F} {ns : List Int} {h' : Hq} {H : Hp} {a : Addr} (e : C fx [.klst (ns.map .int)] [] = .ok (.bl true) h') (tb : ∀ t ∈ tblC K, H t.2.1 = some (.tbl #[])) (s : SqL K H a (ns.map V.int)) : spM K C fx 1 [.ref a] H (fun v _ => v = .bl true) fun _ _ _ => False := by
  refine ⟨rfl, ⟨[], []⟩, [], [.klst (ns.map .int)], ⟨rfl, .nil, fun a h => (by cases h), fun a h => (by cases h), fun l o a e => by simp at e, fun p hp => ?_⟩, .cons (.klst ?_ (RpAll.nums ns)) .nil, ?_⟩
  · obtain ⟨t, ht, et⟩ := List.mem_map.mp hp
    rw [← et]
    exact LamX.TabS.nil (tb t ht)
  · rcases s with s | s
    · exact .inl ⟨s, by simp⟩
    · exact .inr (.inr s)
  · rw [e]
    intro v mp' H' _ _ r
    cases r
    rfl
theorem walk_mi {l : PySem.W.OpenLaw} {n k : Nat} {q : Program} {loose : List Str} {XP : (Str → Option Value) → Heap → Prop} {YP : World → Heap → Prop} {d : DefRec} {x : Str}
    (hm : l.most = some n) (hm2 : n ≤ sizeLine) (hdd : d.params.defaults = []) (hroom : Room k callerA)
    (F : ∀ (w : World) (mg : Str → Option Value) (fa : Addr) (h : Heap), YP w h → h.Ns mainGlobals mg → mg d.name = some (.ref fa) →
      ∃ (K : PySem.W.Frag) (fd : FuncData) (sp : Sp), K.In h ∧ TabsAt h K ∧ (∀ (s : Shared) (u : Value), BindsTo s fd ⟨[u], []⟩ [(x, u)]) ∧
        (∀ (H : Hp) (a : Addr) (ns : List Int), ns.length ≤ n → (∀ t ∈ tblC K, H t.2.1 = some (.tbl #[])) → SqL K H a (ns.map V.int) → sp [.ref a] H (fun v _ => v = .bl true) fun _ _ _ => False) ∧
        ∀ bs : Heap, K.In bs → bs.Ns mainGlobals mg → (∀ t ∈ tblC K, LamX.TabB bs mg t.1 t.2.1) → FnOk l.prog w K mg bs (L2.CX l.prog w) k fa fd [x] sp) :
    PySem.W.WalkO q loose XP YP l.row.toRowW d [] (fun f vs => PySem.call f vs) := by
  refine Att.attach_callB hm hdd fun wd t₀ t₁ g b fadr ob p1 p2 p3 ad vals nums Gr Ysay _ _ _ hgl hob hin hle _ hge => ?_
  obtain ⟨K, fd, sp, KIn, TA, hbd, hspec, hFn⟩ := F wd g fadr _ Ysay Gr.T.g hgl
  have mem : ∀ p ∈ (tblC K).map (fun t => (t.1, t.2.1)), ∃ t ∈ tblC K, (t.1, t.2.1) = p := fun p hp => List.mem_map.mp hp
  refine LamX.law_callTs (CX := L2.CX l.prog wd) (cs := (tblC K).map fun t => (t.1, t.2.1)) KIn Gr.T.g Gr.T.b Gr.T.builtins Gr.T.nolimit hge (fun p hp => ?_) (fun p hp => ?_) (fun p hp => ?_) Gr.T.bmain hob hin (Nat.le_trans hle hm2) hroom (fun bs b1 b2 b3 => hFn bs b1 b2 fun t ht => ?_) hbd (fun H hH hS => hspec H ad nums hle (fun t ht => ?_) hS) fun H e s' z => ?_
  · obtain ⟨t, ht, rfl⟩ := mem p hp; exact (TA t ht).1
  · obtain ⟨t, ht, rfl⟩ := mem p hp; exact (TA t ht).2.1
  · obtain ⟨t, ht, rfl⟩ := mem p hp; exact (TA t ht).2.2
  · exact b3 (t.1, t.2.1) (List.mem_map_of_mem (f := fun t : Addr × Addr × Str => (t.1, t.2.1)) ht)
  · exact hH (t.1, t.2.1) (List.mem_map_of_mem (f := fun t : Addr × Addr × Str => (t.1, t.2.1)) ht)
  · obtain ⟨_, _, _, _, _, _, _, _, _, _, _, _, z⟩ := z
    exact z
end Mi
namespace Mi
open PySem L2
section
variable {ρ : Env'} {h : Hq}
@[simp] theorem e_var (i : Nat) : mVar i ρ h = match ρ[i]? with
  | some (some d) => .ok d h
  | _ => .bad := rfl
@[simp] theorem e_c (d : D) : mC d ρ h = .ok d h := rfl
@[simp] theorem e_bin {g} {fa fb : Ev D} : mBin g fa fb ρ h = (fa ρ h).bind fun x h1 => (fb ρ h1).bind fun y h2 => .of (g x y h2) := rfl
@[simp] theorem e_tru {f : Ev D} : mTru f ρ h = (f ρ h).bind fun d h1 => match d with
  | .bl b => .ok b h1
  | _ => .bad := rfl
@[simp] theorem e_chain {g g'} {fa fb fc : Ev D} : mChain g g' fa fb fc ρ h = (fa ρ h).bind fun x h1 => (fb ρ h1).bind fun y h2 => match g x y h2 with
  | some (.bl true, h3) => (fc ρ h3).bind fun z h4 => .of (g' y z h4)
  | some (.bl false, h3) => .ok (.bl false) h3
  | _ => .bad := rfl
@[simp] theorem e_and {fa fb : Ev D} : mAnd fa fb ρ h = (fa ρ h).bind fun x h1 => match x with
  | .bl true => fb ρ h1
  | .bl false => .ok (.bl false) h1
  | _ => .bad := rfl
@[simp] theorem e_or {fa fb : Ev D} : mOr fa fb ρ h = (fa ρ h).bind fun x h1 => match x with
  | .bl true => .ok (.bl true) h1
  | .bl false => fb ρ h1
  | _ => .bad := rfl
@[simp] theorem e_not {fa : Ev D} : mNot fa ρ h = (fa ρ h).bind fun x h1 => match x with
  | .bl b => .ok (.bl (!b)) h1
  | _ => .bad := rfl
@[simp] theorem e_neg {fa : Ev D} : mNeg fa ρ h = (fa ρ h).bind fun x h1 => match x with
  | .int i => .ok (.int (-i)) h1
  | _ => .bad := rfl
@[simp] theorem e_andT {fa fb : Ev Bool} : mAndT fa fb ρ h = (fa ρ h).bind fun x h1 => match x with
  | true => fb ρ h1
  | false => .ok false h1 := rfl
@[simp] theorem e_orT {fa fb : Ev Bool} : mOrT fa fb ρ h = (fa ρ h).bind fun x h1 => match x with
  | true => .ok true h1
  | false => fb ρ h1 := rfl
@[simp] theorem e_notT {fa : Ev Bool} : mNotT fa ρ h = (fa ρ h).bind fun x h1 => .ok (!x) h1 := rfl
@[simp] theorem e_nil : mNil ρ h = .ok [] h := rfl
@[simp] theorem e_cons {fe : Ev D} {fs : Ev (List D)} : mCons fe fs ρ h = (fe ρ h).bind fun d h1 => (fs ρ h1).bind fun ds h2 => .ok (d :: ds) h2 := rfl
@[simp] theorem e_tup {f : Ev (List D)} : mTup f ρ h = (f ρ h).bind fun ds h1 => if ds.length ≤ 100 then .ok (.tup ds) h1 else .bad := rfl
@[simp] theorem e_lst {f : Ev (List D)} : mLst f ρ h = (f ρ h).bind fun ds h1 => if ds.length ≤ 100 then .ok (.lst ds) h1 else .bad := rfl
@[simp] theorem e_lstR {f : Ev (List D)} : mLstR f ρ h = (f ρ h).bind fun ds h1 => if ds.length ≤ 100 then .ok (.ref h1.length) (h1 ++ [.lst ds]) else .bad := rfl
@[simp] theorem e_dicR : mDicR ρ h = .ok (.ref h.length) (h ++ [.dic []]) := rfl
@[simp] theorem e_yes : mYes ρ h = .ok true h := rfl
@[simp] theorem e_blt {g} {fa : Ev (List D)} : mBlt g fa ρ h = (fa ρ h).bind fun ds h1 => .of (g ds h1) := rfl
@[simp] theorem e_mth {T g} {fo : Ev D} {fa : Ev (List D)} : mMth T g fo fa ρ h = (fo ρ h).bind fun o h1 => if tyOk T o h1 = true then (fa ρ h1).bind fun ds h2 => .of (g o ds h2) else .bad := rfl
@[simp] theorem e_call {F : Type} {C : Calls F} {f : F} {n : Nat} {fa : Ev (List D)} : mCall C f n fa ρ h = (fa ρ h).bind fun ds h1 => if ds.length = n then C f ds h1 else .bad := rfl
@[simp] theorem e_iter {f : Ev D} : mIter f ρ h = (f ρ h).bind fun d h1 => .of ((iterD h1 d).map fun p => (p, h1)) := rfl
@[simp] theorem e_range {f : Ev (List D)} : mRange f ρ h = (f ρ h).bind fun ds h1 => match ds with
  | [.int j] => if -1000000 ≤ j ∧ j ≤ 1000000 then .ok (upto j.toNat, none) h1 else .bad
  | _ => .bad := rfl
@[simp] theorem e_skip : mSkip ρ h = .nx ρ h := rfl
@[simp] theorem e_seq {f g : Ex} : mSeq f g ρ h = match f ρ h with
  | .nx ρ1 h1 => g ρ1 h1
  | r => r := rfl
@[simp] theorem e_set {T : Tg} {f : Ev D} : mSet T f ρ h = (f ρ h).bindS ρ fun d h1 => match setT T d ρ with
  | some ρ1 => .nx ρ1 h1
  | none => .bad := rfl
@[simp] theorem e_expr {f : Ev D} : mExpr f ρ h = (f ρ h).bindS ρ fun _ h1 => .nx ρ h1 := rfl
@[simp] theorem e_ret {f : Ev D} : mRet f ρ h = (f ρ h).bindS ρ fun d h1 => .rt d h1 := rfl
@[simp] theorem e_if {c : Ev Bool} {f g : Ex} : mIf c f g ρ h = (c ρ h).bindS ρ fun b h1 => match b with
  | true => f ρ h1
  | false => g ρ h1 := rfl
@[simp] theorem e_setI {fo fi fv : Ev D} : mSetI fo fi fv ρ h = (fv ρ h).bindS ρ fun v h1 => (fo ρ h1).bindS ρ fun o h2 => (fi ρ h2).bindS ρ fun i h3 => match gSetI o i v h3 with
  | some h4 => .nx ρ h4
  | none => .bad := rfl
@[simp] theorem bindS_ok {α : Type} (a : α) (g : α → Hq → SR) : (Res.ok a h).bindS ρ g = g a h := rfl
@[simp] theorem bindS_exc {α : Type} (c : Str) (g : α → Hq → SR) : (Res.exc c h : Res α).bindS ρ g = .exc c ρ h := rfl
@[simp] theorem bindN_ok {α β : Type} (a : α) (g : α → Hq → Res β) : (Res.ok a h).bindN g = g a h := rfl
@[simp] theorem setT_nm {i : Nat} {d : D} : setT (.nm i) d ρ = some (ρ.set i (some d)) := rfl
@[simp] theorem res_nx : (SR.nx ρ h).res = .ok .non h := rfl
@[simp] theorem res_rt {d : D} : (SR.rt d h).res = .ok d h := rfl
@[simp] theorem res_exc {c : Str} : (SR.exc c ρ h).res = .exc c h := rfl
end
section
variable {h : Hq}
@[simp] theorem g_add {i j : Int} : gAdd (.int i) (.int j) h = some (.int (i + j), h) := rfl
@[simp] theorem g_sub {i j : Int} : gSub (.int i) (.int j) h = some (.int (i - j), h) := rfl
@[simp] theorem g_lt {i j : Int} : gLt (.int i) (.int j) h = some (.bl (decide (i < j)), h) := rfl
@[simp] theorem g_le {i j : Int} : gLe (.int i) (.int j) h = some (.bl (decide (i ≤ j)), h) := rfl
@[simp] theorem g_gt {i j : Int} : gGt (.int i) (.int j) h = some (.bl (decide (j < i)), h) := rfl
@[simp] theorem g_ge {i j : Int} : gGe (.int i) (.int j) h = some (.bl (decide (j ≤ i)), h) := rfl
theorem okI_mod (x : Int) : okI (x % 2147483647) := by unfold okI; omega
@[simp] theorem okI_nat (k : Int) (h0 : 0 ≤ k) (h1 : k < 18446744073709551616) : okI k := by unfold okI; omega
theorem g_mul {i j : Int} (k : okI i ∨ okI j) : gMul (.int i) (.int j) h = some (.int (i * j), h) := by
  show (if okI i ∨ okI j then some (D.int (i * j), h) else none) = _
  rw [if_pos k]
theorem g_mod {i j : Int} (k : 0 < j) : gMod (.int i) (.int j) h = some (.int (i % j), h) := by
  show (if 0 < j then some (D.int (i % j), h) else none) = _
  rw [if_pos k]
theorem g_div {i j : Int} (k : 0 < j ∧ j < 1073741824) : gDiv (.int i) (.int j) h = some (.int (i / j), h) := by
  show (if 0 < j ∧ j < 1073741824 then some (D.int (i / j), h) else none) = _
  rw [if_pos k]
theorem atI_nat {α : Type} {xs : List α} {i : Nat} {d : α} (e : xs[i]? = some d) : atI xs (i : Int) = some d := by
  have hi := (List.getElem?_eq_some_iff.mp e).1
  unfold atI ixN
  rw [if_pos (by omega), if_pos (by omega)]
  simpa using e
theorem g_ixT {xs : List D} {i : Nat} {d : D} (e : xs[i]? = some d) : gIx (.tup xs) (.int i) h = some (d, h) := by
  show ((atI xs i).map fun d => (d, h)) = _
  rw [atI_nat e]; rfl
theorem g_ixL {xs : List D} {i : Nat} {d : D} (e : xs[i]? = some d) : gIx (.lst xs) (.int i) h = some (d, h) := by
  show ((atI xs i).map fun d => (d, h)) = _
  rw [atI_nat e]; rfl
theorem g_ixK {xs : List D} {i : Nat} {d : D} (e : xs[i]? = some d) : gIx (.klst xs) (.int i) h = some (d, h) := by
  show ((atI xs i).map fun d => (d, h)) = _
  rw [atI_nat e]; rfl
@[simp] theorem g_lenT {xs : List D} : gLen [.tup xs] h = some (.int xs.length, h) := rfl
@[simp] theorem g_lenL {xs : List D} : gLen [.lst xs] h = some (.int xs.length, h) := rfl
@[simp] theorem g_lenK {xs : List D} : gLen [.klst xs] h = some (.int xs.length, h) := rfl
@[simp] theorem g_tupL {xs : List D} : gTuple [.lst xs] h = some (.tup xs, h) := rfl
@[simp] theorem g_tupT {xs : List D} : gTuple [.tup xs] h = some (.tup xs, h) := rfl
@[simp] theorem iterL {xs : List D} : iterD h (.lst xs) = some (xs, none) := rfl
@[simp] theorem iterT {xs : List D} : iterD h (.tup xs) = some (xs, none) := rfl
@[simp] theorem g_is {x : D} : gIs x .non h = some (.bl (isNon x), h) := rfl
end
open Classical in
theorem gcR_ok {h h' : Hq} {d : D} (a : d.nr = true) (b : h'.take h.length = h) : gcR h (.ok d h') = .ok d h := by
  show (if d.nr = true ∧ h'.take h.length = h then Res.ok d h else .bad) = _
  rw [if_pos ⟨a, b⟩]
/-- a comprehension over things of a type -/
theorem lcGo_eq {α : Type} {T : Tg} {ft : Ev Bool} {fe : Ev D} {c : Option (Nat × O)} {all : List D} {ρ : Env'} {h : Hq} (enc : α → D) (p : α → Bool) (g : α → D) (ck : chkOk c all h) : ∀ xs : List α,
    (∀ x ∈ xs, ∃ ρ1, setT T (enc x) ρ = some ρ1 ∧ ft ρ1 h = .ok (p x) h ∧ (p x = true → fe ρ1 h = .ok (g x) h)) → lcGo T ft fe c all ρ (xs.map enc) h = .ok ((xs.filter p).map g) h
  | [], _ => by simp only [List.map_nil, lcGo]; rw [if_pos ck]; rfl
  | x :: xs, k => by
    obtain ⟨ρ1, e1, e2, e3⟩ := k x List.mem_cons_self
    have ih := lcGo_eq enc p g ck xs fun y hy => k y (List.mem_cons_of_mem _ hy)
    simp only [List.map_cons, lcGo]
    rw [if_pos ck, e1]
    dsimp only
    rw [e2]
    cases hp : p x with
    | true => simp only [bindN_ok]; rw [e3 hp]; simp only [bindN_ok, ih, Res.bind_ok, List.filter_cons, hp, if_true, List.map_cons]
    | false => simp only [bindN_ok, ih, List.filter_cons, hp]; rfl
theorem lc_eq {α : Type} {T : Tg} {vs : List Nat} {fi : Ev (List D × Option (Nat × O))} {ft : Ev Bool} {fe : Ev D} {ρ : Env'} {h h1 : Hq} {c : Option (Nat × O)} (enc : α → D) (p : α → Bool) (g : α → D) (xs : List α)
    (ei : fi ρ h = .ok (xs.map enc, c) h1) (ck : chkOk c (xs.map enc) h1) (k : ∀ x ∈ xs, ∃ ρ1, setT T (enc x) (wipeD ρ vs) = some ρ1 ∧ ft ρ1 h1 = .ok (p x) h1 ∧ (p x = true → fe ρ1 h1 = .ok (g x) h1)) :
    mLc T vs fi ft fe ρ h = .ok (.lst ((xs.filter p).map g)) h1 := by
  unfold mLc
  rw [ei]
  simp only [Res.bind_ok, lcGo_eq enc p g ck xs k]
/-- .. without a test -/
theorem lc_map {α : Type} {T : Tg} {vs : List Nat} {fi : Ev (List D × Option (Nat × O))} {fe : Ev D} {ρ : Env'} {h h1 : Hq} {c : Option (Nat × O)} (enc : α → D) (g : α → D) (xs : List α)
    (ei : fi ρ h = .ok (xs.map enc, c) h1) (ck : chkOk c (xs.map enc) h1) (k : ∀ x ∈ xs, ∃ ρ1, setT T (enc x) (wipeD ρ vs) = some ρ1 ∧ fe ρ1 h1 = .ok (g x) h1) :
    mLc T vs fi mYes fe ρ h = .ok (.lst (xs.map g)) h1 := by
  rw [lc_eq (ft := mYes) enc (fun _ => true) g xs ei ck fun x hx => let ⟨ρ1, a, b⟩ := k x hx; ⟨ρ1, a, rfl, fun _ => b⟩]
  rw [List.filter_eq_self.mpr (by simp)]
/-- a loop that goes to its end -/
theorem forGo_inv {α : Type} {T : Tg} {c : Option (Nat × O)} {all : List D} {body : Ex} (enc : α → D) (I : List α → Env' → Hq → Prop) (ck : ∀ d ρ h, I d ρ h → chkOk c all h) : ∀ (xs done : List α) (ρ : Env') (h : Hq),
    (∀ d x t ρ h, xs = d ++ x :: t → I (done ++ d) ρ h → ∃ ρ1, setT T (enc x) ρ = some ρ1 ∧ ∃ ρ2 h2, (body ρ1 h = .nx ρ2 h2 ∨ body ρ1 h = .ct ρ2 h2) ∧ I (done ++ d ++ [x]) ρ2 h2) → I done ρ h →
    ∃ ρ' h', forGo T c all body (xs.map enc) ρ h = .nx ρ' h' ∧ I (done ++ xs) ρ' h'
  | [], done, ρ, h, _, i => ⟨ρ, h, by simp only [List.map_nil, forGo]; rw [if_pos (ck _ _ _ i)], by simpa using i⟩
  | x :: xs, done, ρ, h, k, i => by
    obtain ⟨ρ1, e1, ρ2, h2, e2, i2⟩ := k [] x xs ρ h rfl (by simpa using i)
    obtain ⟨ρ', h', e3, i3⟩ := forGo_inv enc I ck xs (done ++ [x]) ρ2 h2 (fun d y t ρ h e j => by
      obtain ⟨r1, a1, r2, g2, a2, j2⟩ := k (x :: d) y t ρ h (by rw [e]; rfl) (by simpa using j)
      exact ⟨r1, a1, r2, g2, a2, by simpa using j2⟩) (by simpa using i2)
    refine ⟨ρ', h', ?_, by simpa using i3⟩
    simp only [List.map_cons, forGo]
    rw [if_pos (ck _ _ _ i), e1]
    rcases e2 with e2 | e2
    · dsimp only; rw [e2]; exact e3
    · dsimp only; rw [e2]; exact e3
theorem for_inv {α : Type} {T : Tg} {fi : Ev (List D × Option (Nat × O))} {body : Ex} {ρ : Env'} {h h1 : Hq} {c : Option (Nat × O)} (enc : α → D) (xs : List α) (I : List α → Env' → Hq → Prop) (ei : fi ρ h = .ok (xs.map enc, c) h1) (i : I [] ρ h1) (ck : ∀ d ρ h, I d ρ h → chkOk c (xs.map enc) h)
    (k : ∀ d x t ρ h, xs = d ++ x :: t → I d ρ h → ∃ ρ1, setT T (enc x) ρ = some ρ1 ∧ ∃ ρ2 h2, (body ρ1 h = .nx ρ2 h2 ∨ body ρ1 h = .ct ρ2 h2) ∧ I (d ++ [x]) ρ2 h2) :
    ∃ ρ' h', mFor T fi body ρ h = .nx ρ' h' ∧ I xs ρ' h' := by
  unfold mFor
  rw [ei]
  simp only [bindS_ok]
  have := forGo_inv enc I ck xs [] ρ h1 (fun d x t ρ h e j => by simpa using k d x t ρ h e (by simpa using j)) i
  simpa using this
end Mi
namespace Mi
open PySem L2
/-! ### data without truth values: equal just if the same -/
mutual
def D.tx : D → Bool
  | .non => true
  | .int _ => true
  | .str _ => true
  | .tup xs => D.txs xs
  | .lst xs => D.txs xs
  | _ => false
def D.txs : List D → Bool
  | [] => true
  | x :: xs => D.tx x && D.txs xs
end
mutual
def D.dp : D → Nat
  | .tup xs => D.dps xs + 1
  | .lst xs => D.dps xs + 1
  | .ktup xs => D.dps xs + 1
  | .klst xs => D.dps xs + 1
  | .ftup xs => D.dps xs + 1
  | _ => 0
def D.dps : List D → Nat
  | [] => 0
  | x :: xs => max (D.dp x) (D.dps xs)
end
theorem txs_all : ∀ {xs : List D}, D.txs xs = true ↔ ∀ x ∈ xs, x.tx = true
  | [] => by simp [D.txs]
  | x :: xs => by simp [D.txs, txs_all (xs := xs)]
theorem dps_le {n : Nat} : ∀ {xs : List D}, D.dps xs ≤ n ↔ ∀ x ∈ xs, x.dp ≤ n
  | [] => by simp [D.dps]
  | x :: xs => by simp [D.dps, dps_le (xs := xs), Nat.max_le]
mutual
theorem tx_py : ∀ {d : D}, d.tx = true → ∃ p, d.py = some p
  | .non, _ => ⟨_, rfl⟩
  | .int _, _ => ⟨_, rfl⟩
  | .str _, _ => ⟨_, rfl⟩
  | .tup xs, h => by
    obtain ⟨p, e⟩ := txs_py (ds := xs) (by simpa [D.tx] using h)
    exact ⟨_, by rw [D.py, e]; rfl⟩
  | .lst xs, h => by
    obtain ⟨p, e⟩ := txs_py (ds := xs) (by simpa [D.tx] using h)
    exact ⟨_, by rw [D.py, e]; rfl⟩
  | .bl _, h => by simp [D.tx] at h
  | .dic _, h => by simp [D.tx] at h
  | .set _, h => by simp [D.tx] at h
  | .ktup _, h => by simp [D.tx] at h
  | .klst _, h => by simp [D.tx] at h
  | .ref _, h => by simp [D.tx] at h
  | .ty _, h => by simp [D.tx] at h
  | .adr _, h => by simp [D.tx] at h
  | .ftup _, h => by simp [D.tx] at h
theorem txs_py : ∀ {ds : List D}, D.txs ds = true → ∃ p, D.pys ds = some p
  | [], _ => ⟨_, rfl⟩
  | d :: ds, h => by
    simp only [D.txs, Bool.and_eq_true] at h
    obtain ⟨p, e⟩ := tx_py h.1
    obtain ⟨q, f⟩ := txs_py h.2
    exact ⟨_, by rw [D.pys, e, f]⟩
end
mutual
theorem py_depth : ∀ {d : D} {p : PyData}, d.py = some p → p.depth = d.dp
  | .non, _, e => by simp [D.py] at e; subst e; rfl
  | .bl _, _, e => by simp [D.py] at e; subst e; rfl
  | .int _, _, e => by simp [D.py] at e; subst e; rfl
  | .str _, _, e => by simp [D.py] at e; subst e; rfl
  | .tup xs, _, e => by
    simp only [D.py, Option.map_eq_some_iff] at e
    obtain ⟨ps, e1, rfl⟩ := e
    simp only [PyData.depth, D.dp, pys_depth e1]
  | .lst xs, _, e => by
    simp only [D.py, Option.map_eq_some_iff] at e
    obtain ⟨ps, e1, rfl⟩ := e
    simp only [PyData.depth, D.dp, pys_depth e1]
  | .ktup xs, _, e => by
    simp only [D.py, Option.map_eq_some_iff] at e
    obtain ⟨ps, e1, rfl⟩ := e
    simp only [PyData.depth, D.dp, pys_depth e1]
  | .klst xs, _, e => by
    simp only [D.py, Option.map_eq_some_iff] at e
    obtain ⟨ps, e1, rfl⟩ := e
    simp only [PyData.depth, D.dp, pys_depth e1]
  | .dic _, _, e => by simp [D.py] at e
  | .set _, _, e => by simp [D.py] at e
  | .ref _, _, e => by simp [D.py] at e
  | .ty _, _, e => by simp [D.py] at e
  | .adr _, _, e => by simp [D.py] at e
  | .ftup xs, _, e => by
    simp only [D.py, Option.map_eq_some_iff] at e
    obtain ⟨ps, e1, rfl⟩ := e
    simp only [PyData.depth, D.dp, pys_depth e1]
theorem pys_depth : ∀ {ds : List D} {ps : List PyData}, D.pys ds = some ps → PyData.depthAll ps = D.dps ds
  | [], _, e => by simp [D.pys] at e; subst e; rfl
  | d :: ds, _, e => by
    simp only [D.pys] at e
    cases q : D.py d with
    | none => rw [q] at e; cases e
    | some a =>
      cases q2 : D.pys ds with
      | none => rw [q, q2] at e; cases e
      | some b =>
        rw [q, q2] at e
        cases e
        simp only [PyData.depthAll, D.dps, py_depth q, pys_depth q2]
end
mutual
theorem tx_eqv : ∀ {a b : D} {p q : PyData}, a.tx = true → b.tx = true → a.py = some p → b.py = some q → (PyData.eqv p q = true ↔ a = b) := by
  intro a b p q ta tb ea eb
  cases a <;> simp only [D.tx, Bool.false_eq_true] at ta
  all_goals cases b <;> simp only [D.tx, Bool.false_eq_true] at tb
  all_goals simp only [D.py, Option.map_eq_some_iff, Option.some.injEq] at ea eb
  case tup.tup xs ys => obtain ⟨ps, e1, rfl⟩ := ea; obtain ⟨qs, e2, rfl⟩ := eb; simp only [PyData.eqv, D.tup.injEq]; exact txs_eqv ta tb e1 e2
  case lst.lst xs ys => obtain ⟨ps, e1, rfl⟩ := ea; obtain ⟨qs, e2, rfl⟩ := eb; simp only [PyData.eqv, D.lst.injEq]; exact txs_eqv ta tb e1 e2
  all_goals (try obtain ⟨ps, e1, rfl⟩ := ea)
  all_goals (try obtain ⟨qs, e2, rfl⟩ := eb)
  all_goals (try subst ea)
  all_goals (try subst eb)
  all_goals simp [PyData.eqv]
theorem txs_eqv : ∀ {a b : List D} {p q : List PyData}, D.txs a = true → D.txs b = true → D.pys a = some p → D.pys b = some q → (PyData.eqvAll p q = true ↔ a = b) := by
  intro a b p q ta tb ea eb
  match a, b with
  | [], [] => simp only [D.pys, Option.some.injEq] at ea eb; subst ea; subst eb; simp [PyData.eqvAll]
  | [], y :: ys =>
    simp only [D.txs, Bool.and_eq_true] at tb
    obtain ⟨u, hu⟩ := tx_py tb.1
    obtain ⟨us, hus⟩ := txs_py tb.2
    simp only [D.pys, hu, hus, Option.some.injEq] at ea eb; subst ea; subst eb; simp [PyData.eqvAll]
  | x :: xs, [] =>
    simp only [D.txs, Bool.and_eq_true] at ta
    obtain ⟨u, hu⟩ := tx_py ta.1
    obtain ⟨us, hus⟩ := txs_py ta.2
    simp only [D.pys, hu, hus, Option.some.injEq] at ea eb; subst ea; subst eb; simp [PyData.eqvAll]
  | x :: xs, y :: ys =>
    simp only [D.txs, Bool.and_eq_true] at ta tb
    obtain ⟨u, hu⟩ := tx_py ta.1
    obtain ⟨us, hus⟩ := txs_py ta.2
    obtain ⟨v, hv⟩ := tx_py tb.1
    obtain ⟨vs, hvs⟩ := txs_py tb.2
    simp only [D.pys, hu, hus, hv, hvs, Option.some.injEq] at ea eb
    subst ea; subst eb
    simp only [PyData.eqvAll, Bool.and_eq_true, List.cons.injEq, tx_eqv ta.1 tb.1 hu hv, txs_eqv ta.2 tb.2 hus hvs]
end
/-- == of data, as a function -/
def eqB (a b : D) : Bool := PyData.eqv (encD a) (encD b)
theorem encD_of {d : D} {p : PyData} (e : d.py = some p) : encD d = p := by unfold encD; rw [e]; rfl
theorem eqB_iff {a b : D} (ta : a.tx = true) (tb : b.tx = true) : eqB a b = true ↔ a = b := by
  obtain ⟨p, ep⟩ := tx_py ta
  obtain ⟨q, eq⟩ := tx_py tb
  unfold eqB
  rw [encD_of ep, encD_of eq]
  exact tx_eqv ta tb ep eq
theorem eqB_refl {a : D} (h : a.py.isSome = true) : eqB a a = true := by
  obtain ⟨p, e⟩ := Option.isSome_iff_exists.mp h
  unfold eqB
  rw [encD_of e]
  exact PySem.SeqAt.eqv_refl_plain _ (py_plain e)
theorem eqB_dec {a b : D} [Decidable (a = b)] (ta : a.tx = true) (tb : b.tx = true) : eqB a b = decide (a = b) := by
  by_cases h : a = b
  · rw [decide_eq_true h]; exact (eqB_iff ta tb).mpr h
  · rw [decide_eq_false h]
    cases e : eqB a b with
    | false => rfl
    | true => exact absurd ((eqB_iff ta tb).mp e) h
@[simp] theorem eqB_str {x y : Str} : eqB (.str x) (.str y) = decide (x = y) := by
  show (x == y) = _
  rfl
@[simp] theorem eqB_int {x y : Int} : eqB (.int x) (.int y) = decide (x = y) := rfl
theorem nz_of {h : Hq} {d : D} (e : d.py.isSome = true) : nz h d = d := by
  cases d <;> first | rfl | (simp [D.py] at e)
theorem eqH_of {h : Hq} {a b : D} (ea : a.py.isSome = true) (eb : b.py.isSome = true) (k : min a.dp b.dp ≤ 64) : eqH h a b = some (eqB a b) := by
  unfold eqH
  rw [nz_of ea, nz_of eb]
  obtain ⟨p, e⟩ := Option.isSome_iff_exists.mp ea
  obtain ⟨q, f⟩ := Option.isSome_iff_exists.mp eb
  rw [e, f]
  dsimp only
  rw [py_depth e, py_depth f, if_pos k]
  unfold eqB
  rw [encD_of e, encD_of f]
theorem tx_isSome {d : D} (h : d.tx = true) : d.py.isSome = true := Option.isSome_iff_exists.mpr (tx_py h)
theorem g_eq {h : Hq} {a b : D} (ea : a.py.isSome = true) (eb : b.py.isSome = true) (k : min a.dp b.dp ≤ 64) : gEq a b h = some (.bl (eqB a b), h) := by
  unfold gEq; rw [eqH_of ea eb k]; rfl
theorem g_ne {h : Hq} {a b : D} (ea : a.py.isSome = true) (eb : b.py.isSome = true) (k : min a.dp b.dp ≤ 64) : gNe a b h = some (.bl (!eqB a b), h) := by
  unfold gNe; rw [eqH_of ea eb k]; rfl
@[simp] theorem g_eqS {h : Hq} {x y : Str} : gEq (.str x) (.str y) h = some (.bl (decide (x = y)), h) := by rw [g_eq rfl rfl (by simp [D.dp]), eqB_str]
@[simp] theorem g_neS {h : Hq} {x y : Str} : gNe (.str x) (.str y) h = some (.bl (!decide (x = y)), h) := by rw [g_ne rfl rfl (by simp [D.dp]), eqB_str]
@[simp] theorem g_eqI {h : Hq} {x y : Int} : gEq (.int x) (.int y) h = some (.bl (decide (x = y)), h) := by rw [g_eq rfl rfl (by simp [D.dp]), eqB_int]
@[simp] theorem g_neI {h : Hq} {x y : Int} : gNe (.int x) (.int y) h = some (.bl (!decide (x = y)), h) := by rw [g_ne rfl rfl (by simp [D.dp]), eqB_int]
@[simp] theorem g_eqBl {h : Hq} {x y : Bool} : gEq (.bl x) (.bl y) h = some (.bl (x == y), h) := by rw [g_eq rfl rfl (by simp [D.dp])]; rfl
@[simp] theorem g_neBl {h : Hq} {x y : Bool} : gNe (.bl x) (.bl y) h = some (.bl (!(x == y)), h) := by rw [g_ne rfl rfl (by simp [D.dp])]; rfl
theorem pys_map : ∀ {ds : List D}, D.txs ds = true → D.pys ds = some (ds.map encD)
  | [], _ => rfl
  | d :: ds, h => by
    simp only [D.txs, Bool.and_eq_true] at h
    obtain ⟨p, e⟩ := tx_py h.1
    rw [D.pys, e, pys_map h.2, List.map_cons, encD_of e]
theorem in_tup {h : Hq} {x : D} {ys : List D} (tx : x.tx = true) (ty : D.txs ys = true) (k : x.dp ≤ 64) : inH h x (.tup ys) = some (ys.any fun y => eqB y x) := by
  obtain ⟨p, ep⟩ := tx_py tx
  unfold inH
  dsimp only [asD]
  rw [nz_of (tx_isSome tx), nz_of (d := .tup ys) (tx_isSome (by simpa [D.tx] using ty)), D.py, pys_map ty, ep]
  dsimp only [Option.map_some]
  rw [py_depth ep, if_pos (by omega), List.any_map]
  unfold eqB
  rw [encD_of ep]
  rfl
theorem in_lst {h : Hq} {x : D} {ys : List D} (tx : x.tx = true) (ty : D.txs ys = true) (k : x.dp ≤ 64) : inH h x (.lst ys) = some (ys.any fun y => eqB y x) := by
  obtain ⟨p, ep⟩ := tx_py tx
  unfold inH
  dsimp only [asD]
  rw [nz_of (tx_isSome tx), nz_of (d := .lst ys) (tx_isSome (by simpa [D.tx] using ty)), D.py, pys_map ty, ep]
  dsimp only [Option.map_some]
  rw [py_depth ep, if_pos (by omega), List.any_map]
  unfold eqB
  rw [encD_of ep]
  rfl
theorem any_enc {α : Type} {enc : α → D} (hx : ∀ a, (enc a).tx = true) (inj : ∀ a b, enc a = enc b → a = b) (L : List α) (a : α) [Decidable (a ∈ L)] : ((L.map enc).any fun y => eqB y (enc a)) = decide (a ∈ L) := by
  rw [List.any_map]
  by_cases hm : a ∈ L
  · rw [decide_eq_true hm]
    exact List.any_eq_true.mpr ⟨a, hm, (eqB_iff (hx a) (hx a)).mpr rfl⟩
  · rw [decide_eq_false hm]
    cases e : (L.any ((fun y => eqB y (enc a)) ∘ enc)) with
    | false => rfl
    | true =>
      obtain ⟨b, hb, q⟩ := List.any_eq_true.mp e
      exact absurd ((inj b a ((eqB_iff (hx b) (hx a)).mp q)) ▸ hb) hm
theorem txs_map {α : Type} {enc : α → D} (hx : ∀ a, (enc a).tx = true) (L : List α) : D.txs (L.map enc) = true := txs_all.mpr fun x hx' => by
  obtain ⟨a, _, rfl⟩ := List.mem_map.mp hx'
  exact hx a
theorem g_inT {α : Type} {enc : α → D} (hx : ∀ a, (enc a).tx = true) (inj : ∀ a b, enc a = enc b → a = b) {h : Hq} {L : List α} {a : α} [Decidable (a ∈ L)] (k : (enc a).dp ≤ 64) : gIn (enc a) (.tup (L.map enc)) h = some (.bl (decide (a ∈ L)), h) := by
  unfold gIn; rw [in_tup (hx a) (txs_map hx L) k, any_enc hx inj]; rfl
theorem g_inL {α : Type} {enc : α → D} (hx : ∀ a, (enc a).tx = true) (inj : ∀ a b, enc a = enc b → a = b) {h : Hq} {L : List α} {a : α} [Decidable (a ∈ L)] (k : (enc a).dp ≤ 64) : gIn (enc a) (.lst (L.map enc)) h = some (.bl (decide (a ∈ L)), h) := by
  unfold gIn; rw [in_lst (hx a) (txs_map hx L) k, any_enc hx inj]; rfl
theorem g_notInT {α : Type} {enc : α → D} (hx : ∀ a, (enc a).tx = true) (inj : ∀ a b, enc a = enc b → a = b) {h : Hq} {L : List α} {a : α} [Decidable (a ∈ L)] (k : (enc a).dp ≤ 64) : gNotIn (enc a) (.tup (L.map enc)) h = some (.bl (!decide (a ∈ L)), h) := by
  unfold gNotIn; rw [in_tup (hx a) (txs_map hx L) k, any_enc hx inj]; rfl
theorem g_notInL {α : Type} {enc : α → D} (hx : ∀ a, (enc a).tx = true) (inj : ∀ a b, enc a = enc b → a = b) {h : Hq} {L : List α} {a : α} [Decidable (a ∈ L)] (k : (enc a).dp ≤ 64) : gNotIn (enc a) (.lst (L.map enc)) h = some (.bl (!decide (a ∈ L)), h) := by
  unfold gNotIn; rw [in_lst (hx a) (txs_map hx L) k, any_enc hx inj]; rfl
@[simp] theorem g_inS {h : Hq} {x : Str} {L : List Str} : gIn (.str x) (.tup (L.map .str)) h = some (.bl (decide (x ∈ L)), h) := g_inT (enc := D.str) (fun _ => rfl) (fun _ _ e => by cases e; rfl) (by simp [D.dp])
@[simp] theorem g_notInS {h : Hq} {x : Str} {L : List Str} : gNotIn (.str x) (.tup (L.map .str)) h = some (.bl (!decide (x ∈ L)), h) := g_notInT (enc := D.str) (fun _ => rfl) (fun _ _ e => by cases e; rfl) (by simp [D.dp])
/-- a list of whole data compared with the empty one -/
theorem eqB_nil {ds : List D} (h : D.txs ds = true) : eqB (.lst ds) (.lst []) = decide (ds = []) := by
  cases ds with
  | nil => rfl
  | cons d ds => 
    cases e : eqB (.lst (d :: ds)) (.lst []) with
    | false => simp
    | true => 
      have := (eqB_iff (a := .lst (d :: ds)) (b := .lst []) (by simpa [D.tx] using h) rfl).mp e
      cases this
/-- texts in a row -/
def encS (ks : List Str) : D := .tup (ks.map .str)
theorem txs_strs (ks : List Str) : D.txs (ks.map D.str) = true := txs_map (fun _ => rfl) ks
theorem encS_tx (ks : List Str) : (encS ks).tx = true := by simp [encS, D.tx, txs_strs]
theorem map_str_inj {a b : List Str} (h : a.map D.str = b.map D.str) : a = b := by
  induction a generalizing b with
  | nil => cases b with
    | nil => rfl
    | cons => cases h
  | cons x a ih => cases b with
    | nil => cases h
    | cons y b =>
      simp only [List.map_cons, List.cons.injEq, D.str.injEq] at h
      rw [h.1, ih h.2]
theorem encS_inj (a b : List Str) (h : encS a = encS b) : a = b := by
  simp only [encS, D.tup.injEq] at h
  exact map_str_inj h
theorem dps_strs (ks : List Str) : D.dps (ks.map D.str) = 0 := Nat.le_zero.mp (dps_le.mpr fun x hx => by
  obtain ⟨a, _, rfl⟩ := List.mem_map.mp hx
  exact Nat.le_refl _)
theorem encS_dp (ks : List Str) : (encS ks).dp = 1 := by simp [encS, D.dp, dps_strs]
end Mi
namespace Mi
open PySem L2
/-! ### sorted rows of texts -/
theorem alike_strs : ∀ a b : List Str, PySem.W.alikeAll (a.map PyData.str) (b.map PyData.str) = true
  | [], _ => by simp [PySem.W.alikeAll]
  | _ :: _, [] => by simp [PySem.W.alikeAll]
  | x :: a, y :: b => by simp [PySem.W.alikeAll, PySem.W.alike, alike_strs a b]
theorem enc_strs (a : List Str) : encD (encS a) = .tuple (a.map PyData.str) := by
  apply encD_of
  simp only [encS, D.py, pys_map (txs_strs a), Option.map_some, List.map_map]
  rfl
theorem sortOk_sets (L : List (List Str)) : sortOk (L.map encS) = true := by
  have h1 : ((L.map encS).all fun d => d.py.isSome) = true := by
    rw [List.all_eq_true]; intro d hd
    obtain ⟨a, _, rfl⟩ := List.mem_map.mp hd
    exact tx_isSome (encS_tx a)
  have h2 : ((L.map encS).all fun a => (L.map encS).all fun b => PySem.W.alike (encD a) (encD b)) = true := by
    rw [List.all_eq_true]; intro d hd
    rw [List.all_eq_true]; intro d' hd'
    obtain ⟨a, _, rfl⟩ := List.mem_map.mp hd
    obtain ⟨b, _, rfl⟩ := List.mem_map.mp hd'
    rw [enc_strs, enc_strs, PySem.W.alike]
    exact alike_strs a b
  have h3 : ((L.map encS).all fun a => decide ((encD a).depth ≤ 60)) = true := by
    rw [List.all_eq_true]; intro d hd
    obtain ⟨a, _, rfl⟩ := List.mem_map.mp hd
    obtain ⟨p, e⟩ := tx_py (encS_tx a)
    rw [encD_of e, py_depth e, encS_dp]
    decide
  have h4 : ((L.map encS).all fun a => isTup (encD a)) = true := by
    rw [List.all_eq_true]; intro d hd
    obtain ⟨a, _, rfl⟩ := List.mem_map.mp hd
    rw [enc_strs]; rfl
  unfold sortOk
  rw [h1, h2, h3, h4]; rfl
def leS (a b : List Str) : Bool := leD (encS a) (encS b)
theorem g_sortS {h : Hq} (L : List (List Str)) : gSorted [.lst (L.map encS)] h = some (.lst ((L.mergeSort leS).map encS), h) := by
  show ((some (L.map encS)).bind fun xs => if sortOk xs = true then some (D.lst (xs.mergeSort leD), h) else none) = _
  rw [Option.bind_some, if_pos (sortOk_sets L), List.map_mergeSort (r := leS) (s := leD) (f := encS) (fun a _ b _ => rfl)]
/-! ### dicts of texts -/
def e2 (p : Str × Str) : D × D := (.str p.1, .str p.2)
def encP (p : Str × Str) : D := .tup [.str p.1, .str p.2]
def put (b : List (Str × Str)) (n s : Str) : List (Str × Str) := if n ∈ b.map (·.1) then b.map (fun p => if p.1 = n then (n, s) else p) else b ++ [(n, s)]
theorem kinds_e2 (b : List (Str × Str)) (n : Str) : kindsOk (b.map e2) (.str n) = true := by
  unfold kindsOk
  simp [e2, keyKind]
theorem putKV_e2 (b : List (Str × Str)) (n s : Str) : putKV (b.map e2) (.str n) (.str s) = (put b n s).map e2 := by
  unfold putKV put
  have e : ((b.map e2).any fun p => keyEq p.1 (.str n)) = decide (n ∈ b.map (·.1)) := by
    rw [List.any_map]
    by_cases hm : n ∈ b.map (·.1)
    · rw [decide_eq_true hm]
      obtain ⟨p, hp, rfl⟩ := List.mem_map.mp hm
      exact List.any_eq_true.mpr ⟨p, hp, by simp [e2, keyEq]⟩
    · rw [decide_eq_false hm]
      cases q : b.any ((fun p => keyEq p.1 (.str n)) ∘ e2) with
      | false => rfl
      | true =>
        obtain ⟨p, hp, k⟩ := List.any_eq_true.mp q
        have k2 : p.1 = n := by simpa [e2, keyEq] using k
        exact absurd (List.mem_map.mpr ⟨p, hp, k2⟩) hm
  rw [e]
  by_cases hm : n ∈ b.map (·.1)
  · rw [if_pos (by simpa using hm), if_pos hm, List.map_map, List.map_map]
    apply List.map_congr_left
    intro p hp
    by_cases z : p.1 = n
    · simp [e2, keyEq, z]
    · simp [e2, keyEq, z]
  · rw [if_neg (by simpa using hm), if_neg hm]
    simp [e2]
theorem put_keys (b : List (Str × Str)) (n s : Str) : (put b n s).map (·.1) = if n ∈ b.map (·.1) then b.map (·.1) else b.map (·.1) ++ [n] := by
  unfold put
  by_cases hm : n ∈ b.map (·.1)
  · rw [if_pos hm, if_pos hm, List.map_map]
    apply List.map_congr_left
    intro p hp
    by_cases z : p.1 = n
    · simp [z]
    · simp [z]
  · rw [if_neg hm, if_neg hm]; simp
theorem put_nodup {b : List (Str × Str)} (h : (b.map (·.1)).Nodup) (n s : Str) : ((put b n s).map (·.1)).Nodup := by
  rw [put_keys]
  split
  · exact h
  · rename_i hm
    rw [List.nodup_append]
    exact ⟨h, by simp, fun a ha c hc z => hm (by have : c = n := by simpa using hc
                                                 rw [← this, ← z]; exact ha)⟩
theorem put_len (b : List (Str × Str)) (n s : Str) : (put b n s).length ≤ b.length + 1 ∧ 0 < (put b n s).length := by
  have e := congrArg List.length (put_keys b n s)
  rw [List.length_map] at e
  rw [e]
  split
  · rename_i hm
    rw [List.length_map]
    obtain ⟨p, hp, _⟩ := List.mem_map.mp hm
    exact ⟨by omega, List.length_pos_of_mem hp⟩
  · simp
theorem isStrs_map : ∀ ys : List Str, isStrs (ys.map .str) = some ys
  | [] => rfl
  | y :: ys => by simp [isStrs, isStrs_map ys]
theorem g_join {h : Hq} (ys : List Str) (k : (ys.map (fun x : Str => x.length)).sum ≤ 16777216) : gJoin (.str "") [.lst (ys.map .str)] h = some (.str (Txt.join "" ys), h) := by
  have e0 : (("" : Str).length) = 0 := rfl
  simp only [gJoin, asT, asLk, asL, isStrs_map]
  rw [e0, Nat.mul_zero, Nat.add_zero, if_pos k]
def abc : Str := "abcdefghijklmnopqrstuvwxyz"
def lett (i : Int) : Str := ⟨#[abc.cps.toList.getD i.toNat 0]⟩
theorem abc_len : abc.cps.toList.length = 26 := by decide +kernel
theorem g_abc {h : Hq} {i : Int} (h0 : 0 ≤ i) (h1 : i < 26) : gIx (.str abc) (.int i) h = some (.str (lett i), h) := by
  have hl : abc.length ≤ sizeLine := by decide +kernel
  show (if abc.length ≤ sizeLine then (atI abc.cps.toList i).map fun c => (D.str ⟨#[c]⟩, h) else none) = _
  rw [if_pos hl]
  have e : abc.cps.toList[i.toNat]? = some (abc.cps.toList.getD i.toNat 0) := by
    rw [List.getD_eq_getElem?_getD, List.getElem?_eq_getElem (by rw [abc_len]; omega)]; rfl
  have := atI_nat e
  rw [Int.toNat_of_nonneg h0] at this
  rw [this]; rfl
theorem lett_len (i : Int) : (lett i).length = 1 := rfl
def leB (p q : Str × Str) : Bool := !decide (q.1.cps.toList < p.1.cps.toList)
theorem sort_e2 (b : List (Str × Str)) : ((b.map e2).mergeSort leKV).map pairD = (b.mergeSort leB).map encP := by
  rw [← List.map_mergeSort (r := leB) (s := leKV) (f := e2) (fun a _ c _ => rfl), List.map_map]
  rfl
theorem getL_last {h : Hq} {o : O} : (h ++ [o])[h.length]? = some o := by simp
theorem setL_last {h : Hq} {o o' : O} : (h ++ [o]).set h.length o' = h ++ [o'] := by simp
theorem g_setLast {h : Hq} (b : List (Str × Str)) (n s : Str) (k : b.length < sizeLine) : gSetI (.ref h.length) (.str n) (.str s) (h ++ [.dic (b.map e2)]) = some (h ++ [.dic ((put b n s).map e2)]) := by
  unfold gSetI
  dsimp only
  rw [getL_last]
  dsimp only
  rw [if_pos ⟨kinds_e2 b n, by simpa using k⟩, setL_last, putKV_e2]
theorem all_e2 (b : List (Str × Str)) : ((b.map e2).all fun p => isStr p.1 && (p.2.py.isSome && decide ((encD p.2).depth ≤ 60))) = true := by
  rw [List.all_eq_true]; intro p hp
  obtain ⟨q, _, rfl⟩ := List.mem_map.mp hp
  rfl
theorem sortItems_e2 {f : Ev D} {ρ : Env'} {h h1 : Hq} {l : Nat} {b : List (Str × Str)} (e : f ρ h = .ok (.ref l) h1) (e' : h1[l]? = some (.dic (b.map e2))) : mSortItems f ρ h = .ok (.lst ((b.mergeSort leB).map encP)) h1 := by
  unfold mSortItems
  rw [e, Res.bind_ok]
  simp only [asD, e']
  rw [if_pos (all_e2 b), sort_e2]
theorem encP_nr (b : List (Str × Str)) : D.nrs (b.map encP) = true := by
  induction b with
  | nil => rfl
  | cons p b ih => simp [D.nrs, encP, D.nr, ih]
theorem upto_map (n : Nat) : upto n = (List.range n).map fun i => .int (i : Nat) := rfl
/-- a loop that looks for the first -/
theorem forGo_find {α : Type} {T : Tg} {c : Option (Nat × O)} {all : List D} {body : Ex} {h : Hq} (enc : α → D) (p : α → Bool) (r : α → D) (I : Env' → Prop) (ck : chkOk c all h) : ∀ (xs : List α) (ρ : Env'),
    (∀ x ∈ xs, ∀ ρ, I ρ → ∃ ρ1, setT T (enc x) ρ = some ρ1 ∧ (p x = true → body ρ1 h = .rt (r x) h) ∧ (p x = false → ∃ ρ2, body ρ1 h = .nx ρ2 h ∧ I ρ2)) → I ρ →
    (match xs.find? p with
      | some x => forGo T c all body (xs.map enc) ρ h = .rt (r x) h
      | none => ∃ ρ', forGo T c all body (xs.map enc) ρ h = .nx ρ' h ∧ I ρ')
  | [], ρ, _, i => ⟨ρ, by simp only [List.map_nil, forGo]; rw [if_pos ck], i⟩
  | x :: xs, ρ, k, i => by
    obtain ⟨ρ1, e1, t1, f1⟩ := k x List.mem_cons_self ρ i
    cases hp : p x with
    | true =>
      rw [List.find?_cons_of_pos hp]
      simp only [List.map_cons, forGo]
      rw [if_pos ck, e1]
      dsimp only
      rw [t1 hp]
    | false =>
      rw [List.find?_cons_of_neg (by rw [hp]; decide)]
      obtain ⟨ρ2, e2, i2⟩ := f1 hp
      have ih := forGo_find enc p r I ck xs ρ2 (fun y hy => k y (List.mem_cons_of_mem _ hy)) i2
      have e3 : forGo T c all body ((x :: xs).map enc) ρ h = forGo T c all body (xs.map enc) ρ2 h := by
        rw [List.map_cons]
        rw [forGo]
        rw [if_pos ck, e1]
        dsimp only
        rw [e2]
      rw [e3]
      exact ih
theorem for_find {α : Type} {T : Tg} {fi : Ev (List D × Option (Nat × O))} {body : Ex} {ρ : Env'} {h h1 : Hq} {c : Option (Nat × O)} (enc : α → D) (xs : List α) (p : α → Bool) (r : α → D) (I : Env' → Prop) (ei : fi ρ h = .ok (xs.map enc, c) h1) (ck : chkOk c (xs.map enc) h1) (i : I ρ)
    (k : ∀ x ∈ xs, ∀ ρ, I ρ → ∃ ρ1, setT T (enc x) ρ = some ρ1 ∧ (p x = true → body ρ1 h1 = .rt (r x) h1) ∧ (p x = false → ∃ ρ2, body ρ1 h1 = .nx ρ2 h1 ∧ I ρ2)) :
    (match xs.find? p with
      | some x => mFor T fi body ρ h = .rt (r x) h1
      | none => ∃ ρ', mFor T fi body ρ h = .nx ρ' h1 ∧ I ρ') := by
  unfold mFor
  rw [ei]
  simp only [bindS_ok]
  exact forGo_find enc p r I ck xs ρ k i
theorem g_addL {h : Hq} {a b : List D} (k : a.length + b.length ≤ sizeLine) : gAdd (.lst a) (.lst b) h = some (.lst (a ++ b), h) := by
  show (if a.length + b.length ≤ sizeLine then some (D.lst (a ++ b), h) else none) = _
  rw [if_pos k]
theorem g_addT {h : Hq} {a b : List D} (k : a.length + b.length ≤ sizeLine) : gAdd (.tup a) (.tup b) h = some (.tup (a ++ b), h) := by
  show (if a.length + b.length ≤ sizeLine then some (D.tup (a ++ b), h) else none) = _
  rw [if_pos k]
theorem szL : sizeLine = 16777216 := rfl
/-- all sets of kinds, in the order they are made -/
def subsS (f : List (List Str)) (n : Str) : List (List Str) := f ++ f.map fun s => s ++ [n]
def subs (ns : List Str) : List (List Str) := ns.foldl subsS [[]]
theorem subs_snoc (ns : List Str) (n : Str) : subs (ns ++ [n]) = subsS (subs ns) n := by unfold subs; rw [List.foldl_append]; rfl
theorem subs_len (ns : List Str) : (subs ns).length = 2 ^ ns.length := by
  suffices h : ∀ (ns : List Str) (f : List (List Str)), (ns.foldl subsS f).length = f.length * 2 ^ ns.length by
    have := h ns [[]]
    unfold subs
    simpa using this
  intro ns
  induction ns with
  | nil => intro f; simp
  | cons n ns ih =>
    intro f
    rw [List.foldl_cons, ih, List.length_cons, Nat.pow_succ]
    simp [subsS]
    rw [Nat.mul_comm (2 ^ ns.length) 2, ← Nat.mul_assoc]
    congr 1
    omega
theorem subs_sub (ns : List Str) : ∀ s ∈ subs ns, s.Sublist ns := by
  suffices h : ∀ (ns pre : List Str) (f : List (List Str)), (∀ s ∈ f, s.Sublist pre) → ∀ s ∈ ns.foldl subsS f, s.Sublist (pre ++ ns) by
    have := h ns [] [[]] (by simp)
    unfold subs
    simpa using this
  intro ns
  induction ns with
  | nil => intro pre f hf; simpa using hf
  | cons n ns ih =>
    intro pre f hf
    have := ih (pre ++ [n]) (subsS f n) fun s hs => by
      rcases List.mem_append.mp hs with hs | hs
      · exact (hf s hs).trans (List.sublist_append_left _ _)
      · obtain ⟨t, ht, rfl⟩ := List.mem_map.mp hs
        exact (hf t ht).append (List.Sublist.refl _)
    simpa using this
def every (ns : List Str) : List (List Str) := (subs ns).mergeSort leS
theorem every_perm (ns : List Str) : (every ns).Perm (subs ns) := List.mergeSort_perm _ _
theorem every_sub {ns s : List Str} (h : s ∈ every ns) : s.Sublist ns := subs_sub ns s ((every_perm ns).mem_iff.mp h)
theorem every_len (ns : List Str) : (every ns).length = 2 ^ ns.length := by rw [(every_perm ns).length_eq, subs_len]
/-! ### a dict of kinds without worths -/
def e0 (n : Str) : D × D := (.str n, .non)
def encN (n : Str) : D := .tup [.str n, .non]
theorem isPrs_N : ∀ ks : List Str, isPrs (ks.map encN) = some (ks.map e0)
  | [] => rfl
  | k :: ks => by simp [isPrs, encN, isPrs_N ks, e0]
theorem any_e0 (ks : List Str) (n : Str) : ((ks.map e0).any fun p => keyEq p.1 (.str n)) = decide (n ∈ ks) := by
  rw [List.any_map]
  by_cases hm : n ∈ ks
  · rw [decide_eq_true hm]
    exact List.any_eq_true.mpr ⟨n, hm, by simp [e0, keyEq]⟩
  · rw [decide_eq_false hm]
    cases q : ks.any ((fun p => keyEq p.1 (.str n)) ∘ e0) with
    | false => rfl
    | true =>
      obtain ⟨p, hp, k⟩ := List.any_eq_true.mp q
      have k2 : p = n := by simpa [e0, keyEq] using k
      exact absurd (k2 ▸ hp) hm
theorem merge_e0 : ∀ (ks pre : List Str), (pre ++ ks).Nodup → mergeKV (pre.map e0) (ks.map e0) = (pre ++ ks).map e0
  | [], pre, _ => by simp [mergeKV]
  | k :: ks, pre, h => by
    have hk : k ∉ pre := fun z => by
      rw [List.nodup_append] at h
      exact h.2.2 k z k List.mem_cons_self rfl
    have e1 : putKV (pre.map e0) (.str k) .non = (pre ++ [k]).map e0 := by
      unfold putKV
      rw [any_e0, if_neg (by simpa using hk)]
      simp [e0]
    have ih := merge_e0 ks (pre ++ [k]) (by simpa using h)
    unfold mergeKV at ih ⊢
    rw [List.map_cons, List.foldl_cons]
    show (ks.map e0).foldl _ (putKV (pre.map e0) (.str k) .non) = _
    rw [e1, ih]
    simp
theorem g_dictN {h : Hq} {ks : List Str} (nd : ks.Nodup) : gDict [.lst (ks.map encN)] h = some (.dic (ks.map e0), h) := by
  simp only [gDict, asLk, asL, isPrs_N]
  rw [if_pos (by rw [List.all_map]; exact List.all_eq_true.mpr fun x _ => rfl)]
  have := merge_e0 ks [] (by simpa using nd)
  simp only [List.map_nil, List.nil_append] at this
  rw [this]
theorem kinds_e0 (ks : List Str) (n : Str) : kindsOk (ks.map e0) (.str n) = true := by
  unfold kindsOk
  simp [e0, keyKind]
theorem getD_e0 (ks : List Str) (n : Str) : getD (ks.map e0) (.str n) = if n ∈ ks then some .non else none := by
  unfold getD
  induction ks with
  | nil => rfl
  | cons k ks ih =>
    rw [List.map_cons, List.find?_cons]
    by_cases hk : k = n
    · subst hk
      simp [e0, keyEq]
    · have : keyEq (e0 k).1 (.str n) = false := by simp [e0, keyEq, hk]
      rw [this]
      simp only [ih, List.mem_cons]
      have : (n = k ∨ n ∈ ks) = (n ∈ ks) := by simp [Ne.symm hk]
      simp only [this]
@[simp] theorem g_notInN {h : Hq} {ks : List Str} {n : Str} : gNotIn (.str n) (.dic (ks.map e0)) h = some (.bl (!decide (n ∈ ks)), h) := by
  unfold gNotIn inH
  simp only [asD]
  rw [if_pos (kinds_e0 ks n), getD_e0]
  by_cases z : n ∈ ks <;> simp [z]
theorem g_ixN {h : Hq} {ks : List Str} {n : Str} (k : n ∈ ks) : gIx (.dic (ks.map e0)) (.str n) h = some (.non, h) := by
  show (if kindsOk (ks.map e0) (.str n) = true then (getD (ks.map e0) (.str n)).map fun d => (d, h) else none) = _
  rw [if_pos (kinds_e0 ks n), getD_e0, if_pos k]; rfl
theorem isBls_map {α : Type} (f : α → Bool) : ∀ L : List α, isBls (L.map fun x => .bl (f x)) = some (L.map f)
  | [] => rfl
  | x :: L => by simp [isBls, isBls_map f L]
theorem g_all {α : Type} {h : Hq} (f : α → Bool) (L : List α) : gAll [.lst (L.map fun x => .bl (f x))] h = some (.bl (L.all f), h) := by
  simp only [gAll, asLk, asL, Option.bind_some, isBls_map, Option.map_some, List.all_map]
  rfl
theorem g_any {α : Type} {h : Hq} (f : α → Bool) (L : List α) : gAny [.lst (L.map fun x => .bl (f x))] h = some (.bl (L.any f), h) := by
  simp only [gAny, asLk, asL, Option.bind_some, isBls_map, Option.map_some, List.any_map]
  rfl
theorem g_appL {h : Hq} {L : List D} {d : D} (k : L.length < sizeLine) : gAppend (.ref h.length) [d] (h ++ [.lst L]) = some (.non, h ++ [.lst (L ++ [d])]) := by
  simp only [gAppend, getL_last]
  rw [if_pos k, setL_last]
theorem encS_nrs (L : List (List Str)) : D.nrs (L.map encS) = true := by
  have a : ∀ ks : List Str, D.nrs (ks.map D.str) = true := fun ks => by
    induction ks with
    | nil => rfl
    | cons k ks ih => simp [D.nrs, D.nr, ih]
  induction L with
  | nil => rfl
  | cons p b ih => simp [D.nrs, encS, D.nr, ih, a]
end Mi
namespace Mi
open PySem PySem.Spec L2
/-! ### slices -/
def cutD (xs : List D) (lo hi : Option Int) : List D := (xs.drop (HT.sIx xs.length 0 lo)).take (HT.sIx xs.length xs.length hi - HT.sIx xs.length 0 lo)
open Classical in
noncomputable def gSl (x : D) (lo hi : Option Int) (h : Hq) : Option (D × Hq) := match asT x with
  | some xs => if HT.sIx xs.length 0 lo = 0 ∧ HT.sIx xs.length xs.length hi = xs.length then some (x, h) else some (.tup (cutD xs lo hi), h)
  | none => (asLk h x).map fun xs => (.lst (cutD xs lo hi), h)
def mPart : Option (Ev D) → Ev (Option Int)
  | none => fun _ h => .ok none h
  | some f => fun ρ h => (f ρ h).bind fun d h1 => match d with
    | .int i => .ok (some i) h1
    | _ => .bad
noncomputable def mSl (fe : Ev D) (lo hi : Option (Ev D)) : Ev D := fun ρ h => (fe ρ h).bind fun x h1 => (mPart lo ρ h1).bind fun l h2 => (mPart hi ρ h2).bind fun u h3 => .of (gSl x l u h3)
abbrev rO : Wd → Hp → Option Int → Option Int → Prop := fun _ _ a b => a = b
def tPt (K : PySem.W.Frag) (W : WX) (f : Ev (Option Int)) : TO := fun σ H Q => ∃ ρ h mp, HRel K mp h H ∧ EnvRel K mp H ρ σ ∧ Post K rO mp H (f ρ h) Q (wE K W σ)
abbrev SP (X : Cx) (W : WX) (e : Option Expr) (f : Option (Ev D)) : Prop := PO X e (tPt X.K W (mPart f))
theorem PO.imp {X : Cx} {e : Option Expr} {t t' : TO} (h : PO X e t) (i : ∀ σ H Q, t' σ H Q → t σ H Q) : PO X e t' := ⟨fun pins s σ H Q I q => h.run pins s σ H Q I (i σ H Q q)⟩
theorem SlR.imp {X : Cx} {r r' : V → Option Int → Option Int → Hp → VK → Prop} (h : SlR X r) (i : ∀ x lo hi H Q, r' x lo hi H Q → r x lo hi H Q) : SlR X r' := fun pins s σ H x v vl vu lo hi sl Q I rx hs pl pu q => h pins s σ H x v vl vu lo hi sl Q I rx hs pl pu (i _ _ _ _ _ q)
section
variable {X : Cx} {W : WX} {e : Expr} {f : Ev D} {pos p2 : Pos}
theorem sp_none : SP X W none none := PO.imp po_none fun σ H Q ⟨ρ, h, mp, r, en, p⟩ => Post.ok (v := none) p r rfl
theorem sp_some (he : SE X W e f) : SP X W (some e) (some f) := PO.imp (po_some he) fun σ H Q ⟨ρ, h, mp, r, en, p⟩ => by
  refine ⟨ρ, h, mp, r, en, Post.mono (Post.bind (R := rD X.K) p) fun v H1 ⟨mp1, h1, d, le1, r1, q1, p1⟩ => ?_⟩
  cases d with
  | int i => cases q1; exact ⟨i, rfl, Post.ok (v := some i) p1 r1 rfl⟩
  | _ => exact p1.elim
theorem cut_rel {K : PySem.W.Frag} {mp : Wd} {H : Hp} {xs : List D} {vs : List V} (a : RpAll K mp H xs vs) (lo hi : Option Int) : RpAll K mp H (cutD xs lo hi) (cutV vs lo hi) := by
  unfold cutD cutV
  rw [a.length]
  exact (a.drop _).take _
theorem sl_ok : SlR X (fun x lo hi H Q => ∃ mp h d, HRel X.K mp h H ∧ Rp X.K mp H d x ∧ PostO X.K (rD X.K) mp H (gSl d lo hi h) Q) :=
  SlR.imp (SlR.or sl_tupA sl_list) fun x lo hi H Q ⟨mp, h, d, r, a, p⟩ => by
    unfold gSl at p
    split at p
    · rename_i xs e
      obtain ⟨pa, vs, rfl, hs, ra⟩ := asT_ok a e
      refine .inl ⟨pa, vs, rfl, hs, fun hw => ?_, fun hw q hq => ?_⟩
      · rw [if_pos (by rw [ra.length]; exact hw)] at p
        exact p _ mp H .refl r a
      · rw [if_neg (by rw [ra.length]; exact hw)] at p
        obtain ⟨l1, l2, l3⟩ := newT r hq (cut_rel ra lo hi)
        exact p _ mp _ l1 l2 l3
    · cases e : asLk h d with
      | none => rw [e] at p; exact p.elim
      | some xs =>
        rw [e] at p
        obtain ⟨pa, vs, rfl, hs, ra⟩ := asLk_ok r a e
        refine .inr ⟨pa, vs, rfl, hs, fun q hq => ?_⟩
        obtain ⟨l1, l2, l3⟩ := newL r hq (cut_rel ra lo hi)
        exact p _ mp _ l1 l2 l3
theorem se_sl {lo hi : Option Expr} {fl fh : Option (Ev D)} (he : SE X W e f) (hl : SP X W lo fl) (hh : SP X W hi fh) : SE X W (.Subscript e (.Slice lo hi none p2) pos) (mSl f fl fh) :=
  PE.imp (pe_slice sl_ok he hl hh) fun σ H Q ⟨ρ, h, mp, r, en, p⟩ => by
    refine ⟨ρ, h, mp, r, en, Post.mono (Post.bind (R := rD X.K) p) fun v H1 ⟨mp1, h1, d, le1, r1, q1, p1⟩ => ?_⟩
    refine ⟨ρ, h1, mp1, r1, en.mono le1, Post.mono (Post.bind (R := rO) p1) fun l H2 ⟨mp2, h2, l', le2, r2, q2, p2⟩ => ?_⟩
    obtain rfl : l' = l := q2
    refine ⟨ρ, h2, mp2, r2, (en.mono le1).mono le2, Post.mono (Post.bind (R := rO) p2) fun u H3 ⟨mp3, h3, u', le3, r3, q3, p3⟩ => ?_⟩
    obtain rfl : u' = u := q3
    exact ⟨mp3, h3, d, r3, (q1.mono le2).mono le3, Post.o p3⟩
end
/-! ### max, min -/
def isInts : List D → Option (List Int)
  | [] => some []
  | .int i :: ds => (isInts ds).map (i :: ·)
  | _ => none
def maxI : Int → List Int → Int
  | m, [] => m
  | m, x :: xs => maxI (if m < x then x else m) xs
theorem maxI_ge : ∀ (m : Int) (xs : List Int), m ≤ maxI m xs ∧ ∀ y ∈ xs, y ≤ maxI m xs
  | m, [] => ⟨Int.le_refl _, by simp⟩
  | m, x :: xs => by
    obtain ⟨h1, h2⟩ := maxI_ge (if m < x then x else m) xs
    unfold maxI
    split at h1 <;> rename_i hz
    · rw [if_pos hz] at h2 ⊢
      exact ⟨by omega, fun y hy => by rcases List.mem_cons.mp hy with rfl | hy; exact h1; exact h2 y hy⟩
    · rw [if_neg hz] at h2 ⊢
      exact ⟨h1, fun y hy => by rcases List.mem_cons.mp hy with rfl | hy; omega; exact h2 y hy⟩
theorem maxI_mem : ∀ (m : Int) (xs : List Int), maxI m xs = m ∨ maxI m xs ∈ xs
  | m, [] => .inl rfl
  | m, x :: xs => by
    unfold maxI
    rcases maxI_mem (if m < x then x else m) xs with h | h
    · rw [h]
      split
      · exact .inr List.mem_cons_self
      · exact .inl rfl
    · exact .inr (List.mem_cons_of_mem _ h)
theorem isInts_ok {K : PySem.W.Frag} {mp : Wd} {H : Hp} : ∀ {ds : List D} {vs : List V} {ns : List Int}, RpAll K mp H ds vs → isInts ds = some ns → vs = ns.map V.int
  | _, _, _, .nil, e => by simp [isInts] at e; subst e; rfl
  | d :: ds, _, ns, .cons r t, e => by
    cases d with
    | int i =>
      simp only [isInts, Option.map_eq_some_iff] at e
      obtain ⟨ms, e1, rfl⟩ := e
      cases r
      rw [isInts_ok t e1]; rfl
    | _ => simp [isInts] at e
def gMax (ds : List D) (h : Hq) : Option (D × Hq) := match ds with
  | [.int i, .int j] => some (.int (if j > i then j else i), h)
  | [d] => (match asLk h d with
    | some xs => (match isInts xs with
      | some (n :: ns) => some (.int (maxI n ns), h)
      | _ => none)
    | none => none)
  | _ => none
def minF (b : D) : List D → D
  | [] => b
  | y :: ys => minF (if PySem.W.dataLt (encD y) (encD b) = true then y else b) ys
def minOk (ds : List D) : Bool := (ds.all fun d => d.tx) && (ds.all fun a => ds.all fun b => PySem.W.alike (encD a) (encD b)) && (ds.all fun a => decide ((encD a).depth ≤ 60)) && (ds.all fun a => !isNo (encD a))
def gMin (ds : List D) (h : Hq) : Option (D × Hq) := match ds with
  | [.int i, .int j] => some (.int (if j < i then j else i), h)
  | [d] => (match asLk h d with
    | some (y :: ys) => if minOk (y :: ys) = true then some (minF y ys, h) else none
    | _ => none)
  | _ => none
section
variable {X : Cx}
theorem c1_max (hc : X.calm = true) : C1 X (.builtin "max") gMax := by
  intro pins s σ H xs us Q I rv ⟨mp, h, ds, r, a, p⟩
  unfold gMax at p
  split at p
  · obtain ⟨v, w, rfl, q1, q2⟩ := a.two
    cases q1; cases q2
    exact call_max2 hc pins s σ H _ us Q I rv ⟨_, _, rfl, p _ mp H .refl r (.int _)⟩
  · rename_i d
    obtain ⟨v, rfl, q⟩ := a.one
    cases e : asLk h d with
    | none => rw [e] at p; exact p.elim
    | some ys =>
      rw [e] at p
      dsimp only at p
      split at p
      · rename_i n ns e2
        obtain ⟨pa, vs, rfl, hs, ra⟩ := asLk_ok r q e
        rw [isInts_ok ra e2] at hs
        refine cr_max hc pins s σ H _ us Q I rv ⟨pa, n :: ns, rfl, hs, by simp, fun m hm hy => ?_⟩
        have h1 := maxI_ge n ns
        have h2 : maxI n ns ∈ n :: ns := by
          rcases maxI_mem n ns with z | z
          · rw [z]; exact List.mem_cons_self
          · exact List.mem_cons_of_mem _ z
        have h3 : m = maxI n ns := by
          have h4 := hy _ h2
          have h5 : m ≤ maxI n ns := by
            rcases List.mem_cons.mp hm with rfl | hm
            · exact h1.1
            · exact h1.2 m hm
          omega
        rw [h3]
        exact p _ mp H .refl r (.int _)
      · exact p.elim
  · exact p.elim
theorem vals_at : ∀ {vs : List V} {us : List Value} {i : Nat} {u : Value}, Vals vs us → us[i]? = some u → ∃ v, vs[i]? = some v ∧ RelV v u
  | _, _, _, _, .nil, e => by simp at e
  | _, _, 0, _, .cons r _, e => by simp at e; subst e; exact ⟨_, rfl, r⟩
  | _, _, i + 1, u, .cons _ t, e => by
    obtain ⟨v, h1, h2⟩ := vals_at (i := i) (u := u) t (by simpa using e)
    exact ⟨v, by simpa using h1, h2⟩
theorem tx_enc_inj {a b : D} (ta : a.tx = true) (tb : b.tx = true) (e : encD a = encD b) : a = b := by
  apply (eqB_iff ta tb).mp
  unfold eqB
  rw [e]
  obtain ⟨p, ep⟩ := tx_py tb
  rw [encD_of ep]
  exact PySem.SeqAt.eqv_refl_plain _ (py_plain ep)
theorem minF_enc : ∀ (ys : List D) (b : D), encD (minF b ys) = PySem.W.minD (encD b) (ys.map encD)
  | [], b => rfl
  | y :: ys, b => by
    have ih := minF_enc ys (if PySem.W.dataLt (encD y) (encD b) = true then y else b)
    unfold PySem.W.minD at ih ⊢
    rw [minF, ih, List.map_cons, List.foldl_cons]
    congr 1
    split <;> rfl
theorem minF_mem : ∀ (ys : List D) (b : D), minF b ys = b ∨ minF b ys ∈ ys
  | [], b => .inl rfl
  | y :: ys, b => by
    rw [minF]
    rcases minF_mem ys (if PySem.W.dataLt (encD y) (encD b) = true then y else b) with z | z
    · rw [z]
      split
      · exact .inr List.mem_cons_self
      · exact .inl rfl
    · exact .inr (List.mem_cons_of_mem _ z)
theorem c1_min (hc : X.calm = true) (hu : X.A.units + 64 < cLine) : C1 X (.builtin "min") gMin := by
  intro pins s σ H xs us Q I rv ⟨mp, h, ds, r, a, p⟩
  unfold gMin at p
  split at p
  · obtain ⟨v, w, rfl, q1, q2⟩ := a.two
    cases q1; cases q2
    exact call_min2 hc pins s σ H _ us Q I rv ⟨_, _, rfl, p _ mp H .refl r (.int _)⟩
  · rename_i d _
    obtain ⟨v, rfl, q⟩ := a.one
    split at p
    · rename_i y ys e
      split at p
      · rename_i hk
        unfold minOk at hk
        simp only [Bool.and_eq_true, List.all_eq_true, decide_eq_true_eq] at hk
        obtain ⟨⟨⟨k1, k2⟩, k3⟩, k4⟩ := hk
        obtain ⟨pa, vs, rfl, hs, ra⟩ := asLk_ok r q e
        rw [Vals.ref1 rv]
        obtain ⟨its, rel, hl, hz⟩ := I.list hs
        have tx : D.txs (y :: ys) = true := txs_all.mpr k1
        obtain ⟨as, rd⟩ := Dp.readsAll I _ _ _ (ra.dp (pys_map tx)) rel
        refine PySem.W.min_list_data (I.ok.hd hc) hl.isList (x := encD y) (xs := ys.map encD) rd ⟨?_, ?_⟩ ?_ fun i u h' tk bs hi hr hk' => ?_
        · intro x hx z hz
          obtain ⟨a1, m1, rfl⟩ := List.mem_map.mp (show x ∈ (y :: ys).map encD from hx)
          obtain ⟨a2, m2, rfl⟩ := List.mem_map.mp (show z ∈ (y :: ys).map encD from hz)
          exact k2 a1 m1 a2 m2
        · intro x hx
          obtain ⟨a1, m1, rfl⟩ := List.mem_map.mp (show x ∈ (y :: ys).map encD from hx)
          have := k4 a1 m1
          intro z
          rw [z] at this
          simp [isNo] at this
        · have : PyData.depthAll (encD y :: ys.map encD) ≤ 60 := by
            have e1 := pys_depth (pys_map tx)
            rw [show encD y :: ys.map encD = (y :: ys).map encD from rfl, e1]
            refine dps_le.mpr fun x hx => ?_
            have := k3 x hx
            obtain ⟨px, ex⟩ := tx_py (k1 x hx)
            rw [encD_of ex, py_depth ex] at this
            exact this
          omega
        · have hi' : its[i]? = some u := by simpa using hi
          obtain ⟨vx, e1, e2⟩ := vals_at rel hi'
          obtain ⟨dx, e3, e4⟩ := ra.getV e1
          have hm : dx ∈ y :: ys := List.mem_of_getElem? e3
          have I' : Inv X pins σ H { s with heap := h', toks := tk } := I.kept hk'
          obtain ⟨px, ex⟩ := tx_py (k1 dx hm)
          obtain ⟨as2, r2⟩ := Dp.reads I' _ _ _ (e4.dp ex) e2
          have e5 : px = PySem.W.minD (encD y) (ys.map encD) := PySem.SeqAt.plain_unique _ _ _ _ _ (py_plain ex) r2 hr
          have e6 : dx = minF y ys := by
            apply tx_enc_inj (k1 dx hm)
            · rcases minF_mem ys y with z | z
              · rw [z]; exact k1 y List.mem_cons_self
              · exact k1 _ (List.mem_cons_of_mem _ z)
            · rw [encD_of ex, e5, minF_enc]
          subst e6
          exact ⟨vx, H, I', e2, p _ mp H .refl r e4⟩
      · exact p.elim
    · exact p.elim
  · exact p.elim
end
end Mi
namespace Mi
open PySem PySem.Spec L2
/-! ### enumerate of a tuple -/
set_option maxHeartbeats 1000000 in
theorem meets_enumT (l : Addr) (its : Array Value) (n : Nat) (dd : Option Addr) (sl : Array (Option Value)) :
    Meets (Builtin.«enumerate.__new__» ⟨[.type "enumerate", .ref l], []⟩) (fun _ R s => s.heap.get? l = some { cls := .type "tuple", dict := dd, data := .seq its n, slots := sl } ∧
      R (.ok (.ret (.ref (s.heap.push { cls := .type "tuple_iterator", data := .fields #[.ref l, .int 0 0] }).objs.size)))
        { s with heap := (s.heap.push { cls := .type "tuple_iterator", data := .fields #[.ref l, .int 0 0] }).push { cls := .type "enumerate", data := .fields #[.none, .bool false, .ref s.heap.objs.size, rawInt 0, .none, .none] } }) :=
  .of_wp fun prog w A R s h => by
    obtain ⟨hp, g, d, tk, os⟩ := s; obtain ⟨hl, h⟩ := h
    have hsub := sub_enumerate
    have hL : Heap.IsTuple (Shared.heap ⟨hp, g, d, tk, os⟩) l its := ⟨_, hl, rfl, n, rfl⟩
    wp_walk using AutoSeq1.wpAny_loadPart' hl
    refine wpAny_stack_any fun st => wpAny_pure ?_
    split
    · rename_i cc _ _ _ _ _
      cases (cc == Value.type "enumerate")
      · wp_walk using AutoSeq1.wpAny_loadPart' hl, wpAny_pyIter_tuple hL
        exact ⟨_, rfl, h⟩
      · wp_walk using AutoSeq1.wpAny_loadPart' hl, wpAny_pyIter_tuple hL
        exact ⟨_, rfl, h⟩
    · wp_walk using AutoSeq1.wpAny_loadPart' hl, wpAny_pyIter_tuple hL
      exact ⟨_, rfl, h⟩
theorem call_enumT {prog : Program} {w : World} {A : Around} {E : Value → Shared → Prop} {s : Shared} {l : Addr} {its : Array Value} {Q : Value → Shared → Prop} (hL : s.heap.IsTuple l its)
    (h : ∀ h', IsEnum h' (s.heap.objs.size + 1) s.heap.objs.size 0 .none → h'.IsTupleIter s.heap.objs.size l 0 → h'.objs.size = s.heap.objs.size + 2 →
      (∀ b o, s.heap.get? b = some o → h'.get? b = some o) → Q (.ref (s.heap.objs.size + 1)) { s with heap := h' }) :
    wpAny (model prog w) A (call (.type "enumerate") [.ref l]) Q E s := by
  obtain ⟨⟨c, dd, dt, sl⟩, hl, hc, n, hd⟩ := hL
  replace hc : c = .type "tuple" := hc
  replace hd : dt = .seq its n := hd
  subst hc hd
  refine callType_new F.called_enumerate (by decide) (F.typeCall_enumerate_1 _) (F.newCall_enumerate_1 _) (fun ob => F.args_object_init_2 ob _) F.entry_enumerate_new (meets_enumT l its n dd sl) ⟨hl, ?_⟩
  have hz : (s.heap.push { cls := .type "tuple_iterator", data := .fields #[.ref l, .int 0 0] }).objs.size = s.heap.objs.size + 1 := Heap.size_push ..
  show _ ∧ _
  rw [hz]
  have he : IsEnum ((s.heap.push { cls := .type "tuple_iterator", data := .fields #[.ref l, .int 0 0] }).push
      { cls := .type "enumerate", data := .fields #[.none, .bool false, .ref s.heap.objs.size, rawInt 0, .none, .none] }) (s.heap.objs.size + 1) s.heap.objs.size 0 .none := by
    have z := Heap.get?_push_size (s.heap.push { cls := .type "tuple_iterator", data := .fields #[.ref l, .int 0 0] })
      (o := { cls := .type "enumerate", data := .fields #[.none, .bool false, .ref s.heap.objs.size, rawInt 0, .none, .none] }) rfl
    rw [hz] at z; exact z
  refine ⟨⟨_, he, rfl⟩, h _ he ⟨_, Heap.get?_push_of_some _ (Heap.get?_push_size _ rfl), rfl, rfl⟩ (by rw [Heap.size_push, hz]) fun b o y => Heap.get?_push_of_some _ (Heap.get?_push_of_some _ y)⟩
theorem enumT_end {prog : Program} {w : World} {A : Around} {E : Value → Shared → Prop} {s : Shared} {e it l : Addr} {i : Int} {k : Nat} {its : Array Value} {old : Value} {Q : Option Value → Shared → Prop} (hh : A.handled = none)
    (he : IsEnum s.heap e it i old) (hit : s.heap.IsTupleIter it l k) (ht : s.heap.IsTuple l its) (hx : its[k]? = none) (hQ : ∀ h', Heap.ExtBut it s.heap h' → Q none { s with heap := h' }) : wpAny (model prog w) A (pyNext (.ref e)) Q E s := by
  have hT : s.TypeIs (.ref e) "enumerate" := ⟨_, he, rfl⟩
  unfold pyNext
  refine wpAny_bind (wpAny_attempt (wpAny_callSpecial?_slot (name := Str.ofString "__next__") hT F.slot_enumerate_next (wpAny_call_entry F.slot_enumerate_next hT F.entry_enumerate_next ?_ (F.args_enumerate_next_1 _))))
  show wpAny _ _ (field (.ref e) 2 >>= _) _ _ _
  refine wpAny_bind (wpAny_field he rfl (x := .ref it) rfl ?_)
  refine wpAny_bind (wpAny_nextOf_tuple_end (A := A.in1) hh hit ht hx fun h' y eb ⟨o, ho, hc⟩ => ?_)
  exact wpAny_bind (wpAny_isInstance (T := "StopIteration") (b := true) ⟨o, ho, hc⟩ isSubtype_stop (wpAny_pure (hQ _ eb)))
/-- the tuple at a, each item in a new pair -/
def IteT (K : PySem.W.Frag) (a : Addr) : It :=
  ⟨fun i H => ∃ (xs : List V) (x : V), SqT K H a xs ∧ xs[i]? = some x, fun i H v H' => ∃ T x, v = .ref T ∧ H T = none ∧ H' = upd H T (.tup [.int (i : Nat), x]) ∧ ∀ xs, SqT K H a xs → xs[i]? = some x, fun i H => ∃ xs : List V, SqT K H a xs ∧ xs.length ≤ i⟩
theorem turn_enumT {P : Program} {w : World} {K : PySem.W.Frag} {elts : List Expr} {kk : Nat} {tpos : Pos} (a e it : Addr) :
    Turn P w K (.Tuple elts kk tpos) (IteT K a) [e, it] e (fun i h => (∃ old, IsEnum h e it ((i : Nat) : Int) old) ∧ h.IsTupleIter it a i ∧ e ≠ it ∧ a ≠ it ∧ e ≠ a) where
  mem := by simp
  obj := fun i h st b hb => by
    obtain ⟨⟨old, he⟩, ⟨o, ho, hc, hd⟩, _⟩ := st
    have e2 : b = e ∨ b = it := by simpa using hb
    rcases e2 with y | y
    · rw [y]; exact ⟨_, he, fun v q => nomatch q⟩
    · rw [y]; exact ⟨o, ho, fun v q => by rw [hd] at q; cases q⟩
  keep := fun i h h' st k => let ⟨⟨old, he⟩, hi, hne⟩ := st; ⟨⟨old, k e (by simp) _ he⟩, hi.at fun o q => k it (by simp) o q, hne⟩
  item := by
    intro X hP hw hK hc i pins s σ H E I hf st hg
    subst hP hw hK
    obtain ⟨⟨old, he⟩, hit, hne, hat, hea⟩ := st
    obtain ⟨xs, x, hq, hx⟩ := hg
    obtain ⟨its, rv, p, hz⟩ := I.tuple hq
    obtain ⟨u, hu, ru⟩ := rv.get hx
    have hel : e < s.heap.objs.size := Heap.lt_size he
    have hil : it < s.heap.objs.size := by obtain ⟨_, q, _⟩ := hit; exact Heap.lt_size q
    have hlt : i < its.toArray.size := by
      have := (List.getElem?_eq_some_iff.mp hu).1
      simpa using this
    refine wpAny_pyNext_enum_itemD (Draws.tuple (A := X.A.in1) (I.ok.hd hc) it a hat its.toArray) he ⟨hit, (show s.heap.IsTuple a its.toArray from p)⟩ hlt hne (by simp [hne, hea]) fun u' h' tk hu' ho st' hT hsz hk => ?_
    have eu : u' = u := by
      have : its.toArray[i]? = some u := by simpa using hu
      rw [this] at hu'; cases hu'; rfl
    subst eu
    refine ⟨_, rfl, wpAny_letOwnedTupleGo_enum (s := { s with heap := h', toks := tk + 1 }) ho fun h2 he' sb => ?_⟩
    have hT2 : h2.get? s.heap.objs.size = some { cls := .type "tuple", data := .seq #[.int i tk, u'] } := (sb.2 _ (Nat.ne_of_gt hel)).trans hT
    have new : ObjOk X.prog X.w (upd H s.heap.objs.size (.tup [.int (i : Nat), x])) h2 s.heap.objs.size (.tup [.int (i : Nat), x]) :=
      ⟨by show 2 ≤ sizeLine; decide, [.int i tk, u'], .cons ⟨_, rfl⟩ (.cons ru .nil), ⟨_, hT2, rfl, _, rfl⟩⟩
    have I1 : Inv X pins σ (upd H s.heap.objs.size (.tup [.int (i : Nat), x])) { s with heap := h2, toks := tk + 1 } :=
      I.turnedNew (ch := [e, it]) (fun b ob hb q => (sb.2 b (fun z => hb (by simp [z]))).trans (hk b ob (fun z => hb (by simp [z])) (fun z => hb (by simp [z])) q)) hf (Nat.le_refl _) new
    refine ⟨.ref s.heap.objs.size, _, I1, rfl, ⟨_, x, rfl, I.hok.fresh (Nat.le_refl _), rfl, fun ys hy => by rw [I.tuple_inj hy hq]; exact hx⟩, ⟨⟨u', ?_⟩, st'.1.at fun o q => (sb.2 it (Ne.symm hne)).trans q, hne, hat, hea⟩, fun b hb => ?_⟩
    · have e1 : ((i + 1 : Nat) : Int) = (i : Int) + 1 := by omega
      rw [e1]; exact he'
    · have hb' : b < s.heap.objs.size := by
        have e2 : b = e ∨ b = it := by simpa using hb
        rcases e2 with y | y
        · rw [y]; exact hel
        · rw [y]; exact hil
      rw [upd_ne (Nat.ne_of_lt hb')]
      exact (hf b hb).1
  done := by
    intro X hP hw hK hc i pins s σ H E I hf st hg
    subst hP hw hK
    obtain ⟨⟨old, he⟩, hit, hne, hat, hea⟩ := st
    obtain ⟨xs, hq, hx⟩ := hg
    obtain ⟨its, rv, p, hz⟩ := I.tuple hq
    obtain ⟨f0, f1, f2, f3, f4, f5⟩ := hf it (by simp)
    have hl := rv.length
    exact enumT_end (I.ok.hd hc) he hit (show s.heap.IsTuple a its.toArray from p) (by simp; omega) fun h' eb => ⟨rfl, I.turned (t' := s.toks) (fun b o hb q => eb b o hb q) f0 f1 f3 f4 f5⟩
  self := fun A i s Q E st h => let ⟨⟨_, he⟩, _⟩ := st; wpAny_pyIter_enum he h
def iEnumT (K : PySem.W.Frag) (ta : TA) : TI := fun σ H R => ta σ H fun vs H1 => ∃ a xs, vs = [.ref a] ∧ SqT K H1 a xs ∧ R (IteT K a) H1
theorem pi_enumT {X : Cx} {e : Expr} {ta : TA} {p pos tpos : Pos} {elts : List Expr} {kk : Nat} (hg : Gl X "enumerate") (hm : X.mg "enumerate" = none) (ha : PA X [e] ta) (hs : starEach [e] X.env = [(false, eval e X.env)] := by rfl) :
    PI X (.Tuple elts kk tpos) (.Call (.Name "enumerate" p) [e] [] pos) (iEnumT X.K ta) := by
  refine ⟨fun pins s σ H R I h => ?_⟩
  refine PyProof.Rows.Call_ (ld_blt I hg hm PyProof.Rows.boot_enumerate (PyProof.Rows.callWith_type1 (thn (ha.run pos pins s σ H _ I h) fun us t ⟨vs, H1, J, r1, q1⟩ => ?_) hs rfl))
  obtain ⟨a, xs, ex, hq, q⟩ := q1
  subst ex
  obtain rfl := Vals.ref1 r1
  obtain ⟨its, rv, pt, hz⟩ := J.tuple hq
  have hal : a < t.heap.objs.size := by obtain ⟨o, ho, _⟩ := id pt; exact Heap.lt_size ho
  refine call_enumT (show t.heap.IsTuple a its.toArray from pt) fun h' he hit hsz hk => wpAny_pyIter_enum he ?_
  have J2 : Inv X pins σ H1 { t with heap := h' } := J.kept (t' := t.toks) hk
  refine ⟨t.heap.objs.size + 1, [t.heap.objs.size + 1, t.heap.objs.size], _, _, H1, rfl, J2, turn_enumT a (t.heap.objs.size + 1) t.heap.objs.size, ⟨⟨.none, he⟩, hit, Nat.succ_ne_self _, Nat.ne_of_lt hal, Ne.symm (Nat.ne_of_lt (Nat.lt_succ_of_lt hal))⟩, fun b hb => ?_, q⟩
  have hle : t.heap.objs.size ≤ b := by
    have e2 : b = t.heap.objs.size + 1 ∨ b = t.heap.objs.size := by simpa using hb
    rcases e2 with y | y
    · rw [y]; exact Nat.le_add_right _ _
    · rw [y]; exact Nat.le_refl _
  exact J.fpOk hle (J.hok.fresh hle)
theorem same_new {H : Hp} {p : Addr} {o : HO} (h : H p = none) : Same H (upd H p o) := fun b u e => by rw [upd_ne (ne_of_none e h)]; exact e
/-! ### enumerate, zip in loops -/
def enumD (xs : List D) : List D := xs.zipIdx.map fun p => .tup [.int (p.2 : Nat), p.1]
theorem enumD_at {xs : List D} {i : Nat} {d : D} (e : (enumD xs)[i]? = some d) : ∃ x, xs[i]? = some x ∧ d = .tup [.int (i : Nat), x] := by
  unfold enumD at e
  rw [List.getElem?_map, Option.map_eq_some_iff] at e
  obtain ⟨⟨x, j⟩, e1, rfl⟩ := e
  rw [List.getElem?_zipIdx, Option.map_eq_some_iff] at e1
  obtain ⟨y, e2, e3⟩ := e1
  cases e3
  exact ⟨_, e2, by simp⟩
theorem enumD_len (xs : List D) : (enumD xs).length = xs.length := by simp [enumD]
/-- what enumerate takes -/
def seqD (h : Hq) (d : D) : Option (List D × Option (Nat × O)) := match d with
  | .lst xs => some (xs, none)
  | .klst xs => some (xs, none)
  | .tup xs => some (xs, none)
  | .ktup xs => some (xs, none)
  | .ref l => (match h[l]? with
    | some (.lst xs) => some (xs, some (l, .lst xs))
    | _ => none)
  | _ => none
def mEnum (f : Ev (List D)) : Ev (List D × Option (Nat × O)) := fun ρ h => (f ρ h).bind fun ds h1 => match ds with
  | [d] => .of ((seqD h1 d).map fun p => ((enumD p.1, p.2), h1))
  | _ => .bad
section
variable {X : Cx} {W : WX} {tg e : Expr}
theorem it_enumL {K : PySem.W.Frag} {mp : Wd} {H : Hp} {a : Addr} {ds : List D} {c : Option (Nat × O)} (sz : ds.length ≤ sizeLine)
    (q : ∀ mp' h' H', Le mp H mp' H' → HRel K mp' h' H' → chkOk c ds h' → ∃ vs, SqL K H' a vs ∧ RpAll K mp' H' ds vs) : ItIs K mp H (enumD ds, c) (Ite K a) := by
  refine ⟨by show (enumD ds).length ≤ _; rw [enumD_len]; exact sz, fun mp' h' H' le r ck i d e => ?_, fun mp' h' H' le r ck i hi => ?_⟩
  · obtain ⟨x, e0, rfl⟩ := enumD_at e
    obtain ⟨vs, s, ra⟩ := q mp' h' H' le r ck
    obtain ⟨v, e1, e2⟩ := ra.get e0
    refine ⟨⟨vs, v, s, e1⟩, fun x' H2 ⟨T, y, e3, hT, e4, hy⟩ => ?_⟩
    have := hy vs s
    rw [e1] at this; cases this
    subst e3; subst e4
    obtain ⟨l1, l2, l3⟩ := newT r hT (.cons (.int (i : Nat)) (.cons e2 .nil))
    exact ⟨l1, l2, l3, same_new hT⟩
  · obtain ⟨vs, s, ra⟩ := q mp' h' H' le r ck
    exact ⟨vs, s, by rw [← ra.length]; rw [enumD_len] at hi; exact hi⟩
theorem it_enumT {K : PySem.W.Frag} {mp : Wd} {H : Hp} {a : Addr} {ds : List D} (sz : ds.length ≤ sizeLine)
    (q : ∀ mp' H', Le mp H mp' H' → ∃ vs, SqT K H' a vs ∧ RpAll K mp' H' ds vs) : ItIs K mp H (enumD ds, none) (IteT K a) := by
  refine ⟨by show (enumD ds).length ≤ _; rw [enumD_len]; exact sz, fun mp' h' H' le r ck i d e => ?_, fun mp' h' H' le r ck i hi => ?_⟩
  · obtain ⟨x, e0, rfl⟩ := enumD_at e
    obtain ⟨vs, s, ra⟩ := q mp' H' le
    obtain ⟨v, e1, e2⟩ := ra.get e0
    refine ⟨⟨vs, v, s, e1⟩, fun x' H2 ⟨T, y, e3, hT, e4, hy⟩ => ?_⟩
    have := hy vs s
    rw [e1] at this; cases this
    subst e3; subst e4
    obtain ⟨l1, l2, l3⟩ := newT r hT (.cons (.int (i : Nat)) (.cons e2 .nil))
    exact ⟨l1, l2, l3, same_new hT⟩
  · obtain ⟨vs, s, ra⟩ := q mp' H' le
    exact ⟨vs, s, by rw [← ra.length]; rw [enumD_len] at hi; exact hi⟩
theorem PA.post {X : Cx} {es : List Expr} {t : TA} (h : PA X es t) : PA X es (fun σ H Q => t σ H fun v H' => SzOk X.K H' → Q v H') := ⟨fun pos pins s σ H Q I q =>
  thn (h.run pos pins s σ H _ I q) fun u s' ⟨v, H', J, r, z⟩ => ⟨v, H', J, r, z (sz_of J)⟩⟩
def tPa (K : PySem.W.Frag) (W : WX) (f : Ev (List D)) : TA := fun σ H Q => tA K W f σ H fun v H' => SzOk K H' → Q v H'
theorem KLs.mono {K : PySem.W.Frag} {mp mp' : Wd} {H H' : Hp} {a : Addr} {vs : List V} (h1 : KLs K mp.bn H a vs) (l2 : Le mp H mp' H') : SqL K H' a vs := by
  rcases h1 with ⟨h1 | ⟨o, h1⟩, n1⟩ | h1
  · exact .inl (.inl (l2.keep _ _ h1 n1).1)
  · exact .inl (.inr ⟨o, (l2.keep _ _ h1 n1).1⟩)
  · exact sqL_none h1
theorem si_enum {elts : List Expr} {kk : Nat} {tpos p pos : Pos} {f : Ev (List D)} (ha : SA X W [e] f) (hm : X.mg "enumerate" = none) (hg : Gl X "enumerate" := by rfl) (hs : starEach [e] X.env = [(false, eval e X.env)] := by rfl) :
    SI X W (.Tuple elts kk tpos) (.Call (.Name "enumerate" p) [e] [] pos) (mEnum f) := by
  have hp : PA X [e] (tPa X.K W f) := PA.post ha
  refine PI.imp (PI.or (pi_enum hg hm hp hs) (pi_enumT hg hm hp hs)) fun σ H Q ⟨ρ, h, mp, r, en, p⟩ => ?_
  unfold mEnum at p
  cases ef : f ρ h with
  | bad => rw [ef] at p; exact p.elim
  | exc c h1 =>
    rw [ef] at p
    exact .inl ⟨ρ, h, mp, r, en, by rw [ef]; exact p⟩
  | ok ds h1 =>
    rw [ef] at p
    dsimp only [Res.bind] at p
    split at p
    · rename_i d
      cases d with
      | lst xs =>
        refine .inl ⟨ρ, h, mp, r, en, ?_⟩
        rw [ef]
        intro v mp' H' le r' az sz
        obtain ⟨v, rfl, a2⟩ := az.one
        cases a2 with
        | @lst a vs _ h1 n1 q1 =>
          exact ⟨a, vs, rfl, SqL.of h1, p _ mp' H' le r' (it_enumL (by rw [q1.length]; exact sz a vs (.inl (SqL.of h1))) fun m2 h2 H2 l2 _ _ => ⟨vs, SqL.of (l2.keep _ _ h1 n1).1, q1.mono l2⟩)⟩
      | klst xs =>
        refine .inl ⟨ρ, h, mp, r, en, ?_⟩
        rw [ef]
        intro v mp' H' le r' az sz
        obtain ⟨v, rfl, a2⟩ := az.one
        cases a2 with
        | @klst a vs _ h1 q1 =>
          exact ⟨a, vs, rfl, h1.sq, p _ mp' H' le r' (it_enumL (by rw [q1.length]; exact sz a vs (.inl h1.sq)) fun m2 h2 H2 l2 _ _ => ⟨vs, h1.mono l2, q1.mono l2⟩)⟩
      | tup xs =>
        refine .inr ⟨ρ, h, mp, r, en, ?_⟩
        rw [ef]
        intro v mp' H' le r' az sz
        obtain ⟨v, rfl, a2⟩ := az.one
        cases a2 with
        | @tup a vs _ h1 n1 q1 =>
          exact ⟨a, vs, rfl, SqT.of h1, p _ mp' H' le r' (it_enumT (by rw [q1.length]; exact sz a vs (.inr (SqT.of h1))) fun m2 H2 l2 => ⟨vs, SqT.of (l2.keep _ _ h1 n1).1, q1.mono l2⟩)⟩
      | ktup xs =>
        refine .inr ⟨ρ, h, mp, r, en, ?_⟩
        rw [ef]
        intro v mp' H' le r' az sz
        obtain ⟨v, rfl, a2⟩ := az.one
        cases a2 with
        | @ktup a vs _ h1 q1 =>
          exact ⟨a, vs, rfl, sqT_none h1, p _ mp' H' le r' (it_enumT (by rw [q1.length]; exact sz a vs (.inr (sqT_none h1))) fun m2 H2 l2 => ⟨vs, sqT_none h1, q1.mono l2⟩)⟩
      | ref l =>
        simp only [seqD] at p
        split at p
        · rename_i xs e2
          refine .inl ⟨ρ, h, mp, r, en, ?_⟩
          rw [ef]
          intro v mp' H' le r' az sz
          obtain ⟨v, rfl, a2⟩ := az.one
          cases a2 with
          | @ref _ a m =>
            obtain ⟨vs, h2, q2⟩ := r'.obj _ _ _ e2 m
            refine ⟨a, vs, rfl, SqL.of h2, p _ mp' H' le r' (it_enumL (by rw [q2.length]; exact sz a vs (.inl (SqL.of h2))) fun m3 h3 H3 l3 r3 ck => ?_)⟩
            obtain ⟨vs3, e3, q3⟩ := r3.obj _ _ _ ck (l3.get m)
            exact ⟨vs3, SqL.of e3, q3⟩
        · exact p.elim
      | _ => exact p.elim
    · exact p.elim
/-- zip of two tuples -/
def zipD (xs ys : List D) : List D := (xs.zip ys).map fun p => .tup [p.1, p.2]
theorem zipD_at {xs ys : List D} {i : Nat} {d : D} (e : (zipD xs ys)[i]? = some d) : ∃ x y, xs[i]? = some x ∧ ys[i]? = some y ∧ d = .tup [x, y] := by
  unfold zipD at e
  rw [List.getElem?_map, Option.map_eq_some_iff] at e
  obtain ⟨⟨x, y⟩, e1, rfl⟩ := e
  rw [List.getElem?_zip_eq_some] at e1
  exact ⟨x, y, e1.1, e1.2, rfl⟩
theorem zipD_len (xs ys : List D) : (zipD xs ys).length = min xs.length ys.length := by simp [zipD]
def mZip (f : Ev (List D)) : Ev (List D × Option (Nat × O)) := fun ρ h => (f ρ h).bind fun ds h1 => match ds with
  | [d, d'] => (match asT d, asT d' with
    | some xs, some ys => .ok (zipD xs ys, none) h1
    | _, _ => .bad)
  | _ => .bad
theorem asT_stay {K : PySem.W.Frag} {mp : Wd} {H : Hp} {d : D} {v : V} {xs : List D} (a : Rp K mp H d v) (e : asT d = some xs) : ∃ p vs, v = .ref p ∧ ∀ mp' H', Le mp H mp' H' → SqT K H' p vs ∧ RpAll K mp' H' xs vs := by
  unfold asT at e
  split at e
  · cases e
    cases a with
    | tup h1 h2 h3 => exact ⟨_, _, rfl, fun mp' H' le => ⟨SqT.of (le.keep _ _ h1 h2).1, h3.mono le⟩⟩
  · cases e
    cases a with
    | ktup h1 h3 => exact ⟨_, _, rfl, fun mp' H' le => ⟨sqT_none h1, h3.mono le⟩⟩
  · cases e
    cases a with
    | ftup h1 h3 => exact ⟨_, _, rfl, fun mp' H' le => ⟨(h1.mono le.k).sq, h3.mono le⟩⟩
  · cases e
theorem it_zip {K : PySem.W.Frag} {mp : Wd} {H : Hp} {a b : Addr} {xs ys : List D} {vs ws : List V} (sz : xs.length ≤ sizeLine)
    (qa : ∀ mp' H', Le mp H mp' H' → SqT K H' a vs ∧ RpAll K mp' H' xs vs) (qb : ∀ mp' H', Le mp H mp' H' → SqT K H' b ws ∧ RpAll K mp' H' ys ws) : ItIs K mp H (zipD xs ys, none) (RZ.ItzT K a b) := by
  refine ⟨by show (zipD xs ys).length ≤ _; rw [zipD_len]; omega, fun mp' h' H' le r ck i d e => ?_, fun mp' h' H' le r ck i hi => ?_⟩
  · obtain ⟨x, y, ex, ey, rfl⟩ := zipD_at e
    obtain ⟨s1, r1⟩ := qa mp' H' le
    obtain ⟨s2, r2⟩ := qb mp' H' le
    obtain ⟨v, e1, e2⟩ := r1.get ex
    obtain ⟨w, e3, e4⟩ := r2.get ey
    refine ⟨⟨vs, ws, v, w, s1, s2, e1, e3⟩, fun x' H2 ⟨T, y1, y2, e5, hT, e6, hy1, hy2⟩ => ?_⟩
    have z1 := hy1 vs s1
    rw [e1] at z1; cases z1
    have z2 := hy2 ws s2
    rw [e3] at z2; cases z2
    subst e5; subst e6
    obtain ⟨l1, l2, l3⟩ := newT r hT (.cons e2 (.cons e4 .nil))
    exact ⟨l1, l2, l3, same_new hT⟩
  · obtain ⟨s1, r1⟩ := qa mp' H' le
    obtain ⟨s2, r2⟩ := qb mp' H' le
    refine ⟨vs, ws, s1, s2, ?_⟩
    have : (zipD xs ys).length ≤ i := hi
    rw [zipD_len] at this
    rw [← r1.length, ← r2.length]
    omega
theorem si_zip {e2 : Expr} {elts : List Expr} {kk : Nat} {tpos p pos : Pos} {f : Ev (List D)} (ha : SA X W [e, e2] f) (hm : X.mg "zip" = none) (hg : Gl X "zip" := by rfl)
    (hs : starEach [e, e2] X.env = (false, eval e X.env) :: starEach [e2] X.env := by rfl) (hpl : (backTo pos (starEach [e2] X.env)).any (·.1) = false := by rfl) :
    SI X W (.Tuple elts kk tpos) (.Call (.Name "zip" p) [e, e2] [] pos) (mZip f) := by
  have hp : PA X [e, e2] (tPa X.K W f) := PA.post ha
  refine PI.imp (RZ.pi_zipA hg hm hp hs hpl) fun σ H Q ⟨ρ, h, mp, r, en, p⟩ => ?_
  refine ⟨ρ, h, mp, r, en, Post.mono (Post.bind (R := rA X.K) p) fun v H1 ⟨mp1, h1, ds, le1, r1, q1, p1⟩ => fun sz => ?_⟩
  dsimp only at p1
  split at p1
  · rename_i d d'
    split at p1
    · rename_i xs ys ex ey
      obtain ⟨v, w, rfl, a1, a2⟩ := q1.two
      obtain ⟨pa, vs, rfl, qa⟩ := asT_stay a1 ex
      obtain ⟨pb, ws, rfl, qb⟩ := asT_stay a2 ey
      refine ⟨pa, pb, vs, ws, rfl, .inr ⟨(qa mp1 H1 .refl).1, (qb mp1 H1 .refl).1, p1 _ mp1 H1 .refl r1 (it_zip ?_ qa qb)⟩⟩
      rw [(qa mp1 H1 .refl).2.length]
      exact sz pa vs (.inr (qa mp1 H1 .refl).1)
    · exact p1.elim
  · exact p1.elim
end
end Mi
namespace Mi
open PySem PySem.Spec L2
/-! ### list(zip(t, u)) of two tuples: the zip's tuple is held by the list -/
section
variable {prog : Program} {w : World} {A : Around} {E : Value → Shared → Prop} {s : Shared} {z TI TO T i1 i2 l1 l2 : Addr}
theorem zipH_item {f : Bool} {oT : Obj} {k1 k2 : Nat} {xs ys : Array Value} {x y : Value} {Q : Option Value → Shared → Prop} (Z : ZipApart z TI TO i1 i2 l1 l2)
    (hz : PySem.IsZipHeld s.heap z TI TO T f) (hT : s.heap.get? T = some oT) (hTI : IsPair s.heap TI (.ref i1) (.ref i2))
    (a1 : s.heap.IsTupleIter i1 l1 k1) (a2 : s.heap.IsTupleIter i2 l2 k2) (t1 : s.heap.IsTuple l1 xs) (t2 : s.heap.IsTuple l2 ys) (hx : xs[k1]? = some x) (hy : ys[k2]? = some y)
    (hQ : ∀ h', PySem.IsZipHeld h' z TI TO T true → h'.IsTupleIter i1 l1 (k1 + 1) → h'.IsTupleIter i2 l2 (k2 + 1) → IsPair h' s.heap.objs.size x y → h'.objs.size = s.heap.objs.size + 1 →
      (∀ c o, c ≠ z → c ≠ i1 → c ≠ i2 → s.heap.get? c = some o → h'.get? c = some o) → Q (some (.ref s.heap.objs.size)) { s with heap := h' }) :
    wpAny (model prog w) A (pyNext (.ref z)) Q E s := by
  have hTy : s.TypeIs (.ref z) "zip" := ⟨_, hz, rfl⟩
  unfold pyNext
  refine wpAny_bind (wpAny_attempt (wpAny_callSpecial?_slot (name := Str.ofString "__next__") hTy F.slot_zip_next (wpAny_call_entry F.slot_zip_next hTy F.entry_zip_next ?_ (F.args_zip_next_1 _))))
  show wpAny _ _ (field (.ref z) 2 >>= _) _ _ _
  refine wpAny_bind (wpAny_field hz rfl (x := .bool false) rfl ?_)
  show wpAny _ _ (field (.ref z) 3 >>= _) _ _ _
  refine wpAny_bind (wpAny_field hz rfl (x := .ref TI) rfl ?_)
  refine wpAny_bind (wpAny_seqItems hTI rfl ?_)
  show wpAny _ _ (Builtin.SmallTypes.ownedTupleIsFree (.ref z) >>= _) _ _ _
  refine wpAny_bind (PySem.wpAny_tupleHeld_zip hz hT fun g1 hz1 s1 => ?_)
  simp only [Bool.false_eq_true, if_false]
  refine wpAny_bind ?_
  rw [← Array.forIn_toList]
  simp only [List.forIn_cons, List.forIn_nil]
  refine wpAny_bind (wpAny_bind (wpAny_holding ?_))
  show wpAny _ _ (Builtin.SmallTypes.nextOf (.ref i1) >>= _) _ _ _
  refine wpAny_bind (wpAny_nextOf_tuple_item (s := { s with heap := g1 }) (a1.extBut s1.extBut Z.i1z) (t1.extBut s1.extBut Z.l1z) hx fun g2 b1 s2 => wpAny_pure ?_)
  refine wpAny_pure ?_
  refine wpAny_bind (wpAny_bind (wpAny_holding ?_))
  show wpAny _ _ (Builtin.SmallTypes.nextOf (.ref i2) >>= _) _ _ _
  refine wpAny_bind (wpAny_nextOf_tuple_item (s := { s with heap := g2 }) ((a2.extBut s1.extBut Z.i2z).extBut s2.extBut Z.i12.symm) ((t2.extBut s1.extBut Z.l2z).extBut s2.extBut Z.l2i1) hy fun g3 b2 s3 => wpAny_pure ?_)
  refine wpAny_pure (wpAny_pure ?_)
  show wpAny _ _ (newTuple [x, y] >>= _) _ _ _
  refine wpAny_bind (wpAny_newTuple ?_)
  have hsz : g3.objs.size = s.heap.objs.size := by rw [s3.1, s2.1, s1.1]
  have hz3 : PySem.IsZipHeld g3 z TI TO T true := s3.extBut _ _ Z.i2z.symm (s2.extBut _ _ Z.i1z.symm hz1)
  have hk : ∀ c o, c ≠ z → c ≠ i1 → c ≠ i2 → s.heap.get? c = some o → g3.get? c = some o := fun c o c1 c2 c3 e => s3.extBut _ _ c3 (s2.extBut _ _ c2 (s1.extBut _ _ c1 e))
  have b1' : g3.IsTupleIter i1 l1 (k1 + 1) := b1.extBut s3.extBut Z.i12
  refine wpAny_pure ⟨_, rfl, wpAny_pure ?_⟩
  show Q (some (.ref g3.objs.size)) _
  have hp : IsPair (g3.push { cls := .type "tuple", data := .seq #[x, y] }) g3.objs.size x y := Heap.get?_push_size _ rfl
  have hz4 : (g3.push { cls := .type "tuple", data := .seq #[x, y] }).objs.size = g3.objs.size + 1 := Heap.size_push ..
  rw [hsz] at hp hz4 ⊢
  exact hQ _ (Heap.get?_push_of_some _ hz3) (b1'.at fun o e => Heap.get?_push_of_some _ e) (b2.at fun o e => Heap.get?_push_of_some _ e) hp hz4 fun c o c1 c2 c3 e => Heap.get?_push_of_some _ (hk c o c1 c2 c3 e)
theorem zipH_end {f : Bool} {oT : Obj} {k1 k2 : Nat} {xs ys : Array Value} {Q : Option Value → Shared → Prop} (hh : A.handled = none) (Z : ZipApart z TI TO i1 i2 l1 l2)
    (hz : PySem.IsZipHeld s.heap z TI TO T f) (hT : s.heap.get? T = some oT) (hTI : IsPair s.heap TI (.ref i1) (.ref i2))
    (a1 : s.heap.IsTupleIter i1 l1 k1) (a2 : s.heap.IsTupleIter i2 l2 k2) (t1 : s.heap.IsTuple l1 xs) (t2 : s.heap.IsTuple l2 ys) (hend : xs[k1]? = none ∨ ys[k2]? = none)
    (hQ : ∀ h', (∀ c o, c ≠ z → c ≠ i1 → c ≠ i2 → s.heap.get? c = some o → h'.get? c = some o) → Q none { s with heap := h' }) : wpAny (model prog w) A (pyNext (.ref z)) Q E s := by
  have hTy : s.TypeIs (.ref z) "zip" := ⟨_, hz, rfl⟩
  unfold pyNext
  refine wpAny_bind (wpAny_attempt (wpAny_callSpecial?_slot (name := Str.ofString "__next__") hTy F.slot_zip_next (wpAny_call_entry F.slot_zip_next hTy F.entry_zip_next ?_ (F.args_zip_next_1 _))))
  show wpAny _ _ (field (.ref z) 2 >>= _) _ _ _
  refine wpAny_bind (wpAny_field hz rfl (x := .bool false) rfl ?_)
  show wpAny _ _ (field (.ref z) 3 >>= _) _ _ _
  refine wpAny_bind (wpAny_field hz rfl (x := .ref TI) rfl ?_)
  refine wpAny_bind (wpAny_seqItems hTI rfl ?_)
  show wpAny _ _ (Builtin.SmallTypes.ownedTupleIsFree (.ref z) >>= _) _ _ _
  refine wpAny_bind (PySem.wpAny_tupleHeld_zip hz hT fun g1 hz1 s1 => ?_)
  simp only [Bool.false_eq_true, if_false]
  refine wpAny_bind ?_
  rw [← Array.forIn_toList]
  simp only [List.forIn_cons, List.forIn_nil]
  refine wpAny_bind (wpAny_bind (wpAny_holding ?_))
  show wpAny _ _ (Builtin.SmallTypes.nextOf (.ref i1) >>= _) _ _ _
  cases hx : xs[k1]? with
  | none =>
    refine wpAny_bind (wpAny_nextOf_tuple_end (s := { s with heap := g1 }) hh (a1.extBut s1.extBut Z.i1z) (t1.extBut s1.extBut Z.l1z) hx fun g2 e s2 he => ?_)
    obtain ⟨o, ho, hc⟩ := he
    exact wpAny_bind (wpAny_isInstance (T := "StopIteration") (b := true) ⟨o, ho, hc⟩ isSubtype_stop (wpAny_pure (hQ _ fun c o c1 c2 _ x => s2 _ _ c2 (s1.extBut _ _ c1 x))))
  | some x =>
    have hy : ys[k2]? = none := by
      rcases hend with q | q
      · rw [hx] at q; cases q
      · exact q
    refine wpAny_bind (wpAny_nextOf_tuple_item (s := { s with heap := g1 }) (a1.extBut s1.extBut Z.i1z) (t1.extBut s1.extBut Z.l1z) hx fun g2 b1 s2 => wpAny_pure ?_)
    refine wpAny_pure ?_
    refine wpAny_bind (wpAny_bind (wpAny_holding ?_))
    show wpAny _ _ (Builtin.SmallTypes.nextOf (.ref i2) >>= _) _ _ _
    refine wpAny_bind (wpAny_nextOf_tuple_end (s := { s with heap := g2 }) hh ((a2.extBut s1.extBut Z.i2z).extBut s2.extBut Z.i12.symm) ((t2.extBut s1.extBut Z.l2z).extBut s2.extBut Z.l2i1) hy fun g3 e s3 he => ?_)
    obtain ⟨o, ho, hc⟩ := he
    exact wpAny_bind (wpAny_isInstance (T := "StopIteration") (b := true) ⟨o, ho, hc⟩ isSubtype_stop (wpAny_pure (hQ _ fun c o c1 c2 c3 x => s3 _ _ c3 (s2.extBut _ _ c2 (s1.extBut _ _ c1 x)))))
end
theorem farA {a b B : Addr} (h1 : a < B) (h2 : B ≤ b) : b ≠ a := fun e => Nat.lt_irrefl _ (Nat.lt_of_lt_of_le h1 (e ▸ h2))
/-- where the walk stands behind i items -/
structure ZS (h0 : Heap) (B z TI TO i1 i2 l1 l2 : Addr) (xs ys : Array Value) (i : Nat) (acc : Array Value) (h : Heap) : Prop where
  zp : (IsZip h z TI TO .none ∧ ∃ a b, IsPair h TO a b) ∨ ∃ T f oT, PySem.IsZipHeld h z TI TO T f ∧ h.get? T = some oT ∧ B ≤ T
  ti : IsPair h TI (.ref i1) (.ref i2)
  a1 : h.IsTupleIter i1 l1 i
  a2 : h.IsTupleIter i2 l2 i
  t1 : h.IsTuple l1 xs
  t2 : h.IsTuple l2 ys
  big : B ≤ h.objs.size
  new : ∃ Ts : List Addr, acc.toList = Ts.map Value.ref ∧ Ts.length = i ∧ Ts.Nodup ∧ (∀ T ∈ Ts, B ≤ T ∧ T < h.objs.size) ∧ ∀ (j : Nat) (T : Addr), Ts[j]? = some T → ∃ x y, xs[j]? = some x ∧ ys[j]? = some y ∧ IsPair h T x y
  keep : ∀ b o, h0.get? b = some o → h.get? b = some o
/-- what is left of it -/
def ZE (h0 : Heap) (B : Addr) (xs ys : Array Value) (acc : Array Value) (h : Heap) : Prop :=
  (∃ Ts : List Addr, acc.toList = Ts.map Value.ref ∧ Ts.length = min xs.size ys.size ∧ Ts.Nodup ∧ (∀ T ∈ Ts, B ≤ T) ∧ ∀ (j : Nat) (T : Addr), Ts[j]? = some T → ∃ x y, xs[j]? = some x ∧ ys[j]? = some y ∧ IsPair h T x y) ∧ ∀ b o, h0.get? b = some o → h.get? b = some o
section
variable {prog : Program} {w : World} {A : Around} {R : Result → Shared → Prop} {h0 : Heap} {B z TI TO i1 i2 l1 l2 S : Addr} {xs ys : Array Value} {res : Value}
theorem ZS.push {h : Heap} {i : Nat} {acc : Array Value} {x y : Value} {h' : Heap} (Z : ZS h0 B z TI TO i1 i2 l1 l2 xs ys i acc h) (lz : z < B) (lTO : TO < B) (li1 : i1 < B) (li2 : i2 < B) (o1 : ∀ b o, h0.get? b = some o → b ≠ z ∧ b ≠ TO ∧ b ≠ i1 ∧ b ≠ i2)
    (zp : (∃ T f oT, PySem.IsZipHeld h' z TI TO T f ∧ h'.get? T = some oT ∧ B ≤ T)) (D : ZipApart z TI TO i1 i2 l1 l2) (a1 : h'.IsTupleIter i1 l1 (i + 1)) (a2 : h'.IsTupleIter i2 l2 (i + 1)) (hx : xs[i]? = some x) (hy : ys[i]? = some y)
    (hp : IsPair h' h.objs.size x y) (hs : h'.objs.size = h.objs.size + 1) (hk : ∀ c o, c ≠ z → c ≠ TO → c ≠ i1 → c ≠ i2 → h.get? c = some o → h'.get? c = some o) : ZS h0 B z TI TO i1 i2 l1 l2 xs ys (i + 1) (acc.push (.ref h.objs.size)) h' := by
  obtain ⟨Ts, e1, e2, e3, e4, e5⟩ := Z.new
  have big := Z.big
  refine ⟨.inr zp, hk _ _ D.TIz D.TITO D.TIi1 D.TIi2 Z.ti, a1, a2, Z.t1.at fun o e => hk _ _ D.l1z D.l1TO D.l1i1 D.l1i2 e, Z.t2.at fun o e => hk _ _ D.l2z D.l2TO D.l2i1 D.l2i2 e, by rw [hs]; exact Nat.le_succ_of_le big, ⟨Ts ++ [h.objs.size], ?_, by simp [e2], ?_, ?_, ?_⟩, fun b o e => ?_⟩
  · rw [Array.toList_push, e1, List.map_append]; rfl
  · rw [List.nodup_append]
    refine ⟨e3, by simp, fun a ha b hb q => ?_⟩
    have := (e4 a ha).2
    have hb' : b = h.objs.size := by simpa using hb
    rw [q, hb'] at this
    exact Nat.lt_irrefl _ this
  · intro T hT
    rcases List.mem_append.mp hT with hT | hT
    · have := e4 T hT
      exact ⟨this.1, by rw [hs]; exact Nat.lt_succ_of_lt this.2⟩
    · have hb' : T = h.objs.size := by simpa using hT
      exact ⟨by rw [hb']; exact big, by rw [hb', hs]; exact Nat.lt_succ_self _⟩
  · intro j T hj
    by_cases hlt : j < Ts.length
    · rw [List.getElem?_append_left hlt] at hj
      obtain ⟨x', y', q1, q2, q3⟩ := e5 j T hj
      have := (e4 T (List.mem_of_getElem? hj)).1
      exact ⟨x', y', q1, q2, hk _ _ (farA lz this) (farA lTO this) (farA li1 this) (farA li2 this) q3⟩
    · have hj2 := (List.getElem?_eq_some_iff.mp hj).1
      rw [List.length_append, List.length_singleton] at hj2
      have hji : j = Ts.length := by omega
      subst hji
      rw [List.getElem?_append_right (Nat.le_refl _), Nat.sub_self] at hj
      have hT : h.objs.size = T := by simpa using hj
      subst hT
      rw [e2]
      exact ⟨x, y, hx, hy, hp⟩
  · obtain ⟨q1, q2, q3, q4⟩ := o1 b o e
    exact hk b o q1 q2 q3 q4 (Z.keep b o e)
theorem loopZ (hh : A.handled = none) (D : ZipApart z TI TO i1 i2 l1 l2) (lz : z < B) (lTO : TO < B) (li1 : i1 < B) (li2 : i2 < B) (lS : S < B) (sS : S ≠ z ∧ S ≠ TO ∧ S ≠ i1 ∧ S ≠ i2 ∧ S ≠ TI ∧ S ≠ l1 ∧ S ≠ l2) (o1 : ∀ b o, h0.get? b = some o → b ≠ z ∧ b ≠ TO ∧ b ≠ i1 ∧ b ≠ i2 ∧ b ≠ S) (hn : min xs.size ys.size ≤ sizeLine) :
    ∀ (k i : Nat) (s : Shared) (acc : Array Value) (c : Nat), min xs.size ys.size - i = k → i ≤ min xs.size ys.size → ZS h0 B z TI TO i1 i2 l1 l2 xs ys i acc s.heap → s.heap.get? S = some { cls := .type "list", dict := none, data := .seq acc c, slots := #[] } →
    (∀ h' acc' c', ZE h0 B xs ys acc' h' → h'.get? S = some { cls := .type "list", dict := none, data := .seq acc' c', slots := #[] } → R (.ok (.ret res)) { s with heap := h' }) →
    codeAny (model prog w) A (.builtin "list.extend.loop" ⟨[.ref S, .ref z, res], []⟩) R s := by
  intro k
  induction k with
  | zero =>
    intro i s acc c hk hi Z hS hR
    have hin : i = min xs.size ys.size := by omega
    refine codeAny_builtin F.entry_extend_loop ?_
    rw [Around.under_plainId F.plain_extend_loop _]
    show wpAny _ A.in1 (pyNext (.ref z) >>= _) _ _ s
    have hend : xs[i]? = none ∨ ys[i]? = none := by
      rw [Array.getElem?_eq_none_iff, Array.getElem?_eq_none_iff]
      omega
    have fin : ∀ h', (∀ c o, c ≠ z → c ≠ TO → c ≠ i1 → c ≠ i2 → s.heap.get? c = some o → h'.get? c = some o) → R (.ok (.ret res)) { s with heap := h' } := fun h' kp => by
      obtain ⟨Ts, e1, e2, e3, e4, e5⟩ := Z.new
      refine hR h' acc c ⟨⟨Ts, e1, by omega, e3, fun T hT => (e4 T hT).1, fun j T hj => ?_⟩, fun b o e => ?_⟩ (kp _ _ sS.1 sS.2.1 sS.2.2.1 sS.2.2.2.1 hS)
      · obtain ⟨x, y, q1, q2, q3⟩ := e5 j T hj
        have := (e4 T (List.mem_of_getElem? hj)).1
        exact ⟨x, y, q1, q2, kp _ _ (farA lz this) (farA lTO this) (farA li1 this) (farA li2 this) q3⟩
      · obtain ⟨q1, q2, q3, q4, _⟩ := o1 b o e
        exact kp b o q1 q2 q3 q4 (Z.keep b o e)
    refine wpAny_bind ?_
    rcases Z.zp with ⟨zf, a, b, po⟩ | ⟨T, f, oT, zh, hT, _⟩
    · exact RZ.pyNext_zipT_end (A := A.in1) hh D zf Z.ti po Z.a1 Z.a2 Z.t1 Z.t2 hend fun h' kp => wpAny_pure (fin h' kp)
    · exact zipH_end (A := A.in1) hh D zh hT Z.ti Z.a1 Z.a2 Z.t1 Z.t2 hend fun h' kp => wpAny_pure (fin h' fun c o c1 _ c3 c4 => kp c o c1 c3 c4)
  | succ k ih =>
    intro i s acc c hk hi Z hS hR
    have hlt : i < min xs.size ys.size := by omega
    have hx : xs[i]? = some (xs[i]'(by omega)) := Array.getElem?_eq_getElem _
    have hy : ys[i]? = some (ys[i]'(by omega)) := Array.getElem?_eq_getElem _
    refine codeAny_builtin F.entry_extend_loop ?_
    rw [Around.under_plainId F.plain_extend_loop _]
    show wpAny _ A.in1 (pyNext (.ref z) >>= _) _ _ s
    have hasz : acc.size = i := by
      obtain ⟨Ts, e1, e2, _⟩ := Z.new
      rw [← Array.length_toList, e1, List.length_map, e2]
    have big := Z.big
    have go : ∀ h', (∃ T f oT, PySem.IsZipHeld h' z TI TO T f ∧ h'.get? T = some oT ∧ B ≤ T) → h'.IsTupleIter i1 l1 (i + 1) → h'.IsTupleIter i2 l2 (i + 1) → IsPair h' s.heap.objs.size (xs[i]'(by omega)) (ys[i]'(by omega)) → h'.objs.size = s.heap.objs.size + 1 →
        (∀ c o, c ≠ z → c ≠ TO → c ≠ i1 → c ≠ i2 → s.heap.get? c = some o → h'.get? c = some o) →
        wpAny (model prog w) A.in1 (updateSeq S (·.push (.ref s.heap.objs.size)) >>= fun _ => again (.builtin "list.extend.loop" ⟨[.ref S, .ref z, res], []⟩)) (fun fin s' => match fin with | .done f => R (.ok f) s' | .again c' => c'.quiet = true ∧ codeAny (model prog w) A c' R s') (fun e s' => R (.error e) s') { s with heap := h' } := by
      intro h' zp b1 b2 hp hs kp
      have Z2 := Z.push lz lTO li1 li2 (fun b o e => ⟨(o1 b o e).1, (o1 b o e).2.1, (o1 b o e).2.2.1, (o1 b o e).2.2.2.1⟩) zp D b1 b2 hx hy hp hs kp
      have hS' := kp _ _ sS.1 sS.2.1 sS.2.2.1 sS.2.2.2.1 hS
      refine wpAny_bind ?_
      have oth : ∀ b o, b ≠ S → h'.get? b = some o → (h'.update S (Obj.mapSeq (·.push (.ref s.heap.objs.size)))).get? b = some o := fun b o hb e => (Heap.get?_update_other _ _ (Ne.symm hb)).trans e
      refine wpAny_updateSeq (s := { s with heap := h' }) hS' rfl (wpAny_pure ⟨plainId_quiet F.plain_extend_loop _, ih (i + 1) _ (acc.push (.ref s.heap.objs.size)) _ (by omega) (by omega) ?_ (Heap.get?_update_self _ hS' rfl) fun h2 acc2 c2 z1 z2 => hR h2 acc2 c2 z1 z2⟩)
        (by rw [hasz]; omega) (by show (acc.push _).size ≤ sizeLine + 1; rw [Array.size_push, hasz]; omega)
      obtain ⟨Ts, e1, e2, e3, e4, e5⟩ := Z2.new
      refine ⟨Z2.zp.imp (fun ⟨q1, a, b, q2⟩ => ⟨oth _ _ (Ne.symm sS.1) q1, a, b, oth _ _ (Ne.symm sS.2.1) q2⟩) (fun ⟨T, f, oT, q1, q2, q3⟩ => ⟨T, f, oT, oth _ _ (Ne.symm sS.1) q1, oth _ _ (farA lS q3) q2, q3⟩), oth _ _ (Ne.symm sS.2.2.2.2.1) Z2.ti, Z2.a1.at fun o e => oth _ _ (Ne.symm sS.2.2.1) e, Z2.a2.at fun o e => oth _ _ (Ne.symm sS.2.2.2.1) e,
        Z2.t1.at fun o e => oth _ _ (Ne.symm sS.2.2.2.2.2.1) e, Z2.t2.at fun o e => oth _ _ (Ne.symm sS.2.2.2.2.2.2) e, ?_, ⟨Ts, e1, e2, e3, fun T hT => ⟨(e4 T hT).1, ?_⟩, fun j T hj => ?_⟩, fun b o e => oth _ _ (o1 b o e).2.2.2.2 (Z2.keep b o e)⟩
      · show B ≤ (h'.update S _).objs.size
        rw [Heap.size_update]; exact Z2.big
      · show T < (h'.update S _).objs.size
        rw [Heap.size_update]; exact (e4 T hT).2
      · obtain ⟨x, y, q1, q2, q3⟩ := e5 j T hj
        have := (e4 T (List.mem_of_getElem? hj)).1
        exact ⟨x, y, q1, q2, oth _ _ (farA lS this) q3⟩
    refine wpAny_bind ?_
    rcases Z.zp with ⟨zf, a, b, po⟩ | ⟨T, f, oT, zh, hT, hB⟩
    · refine RZ.pyNext_zipT_item (A := A.in1) D zf Z.ti po Z.a1 Z.a2 Z.t1 Z.t2 hx hy fun h' g1 g2 g3 g4 g5 g6 g7 => ?_
      exact go h' ⟨s.heap.objs.size, false, _, g1, g5, big⟩ g3 g4 g5 g6 g7
    · refine zipH_item (A := A.in1) D zh hT Z.ti Z.a1 Z.a2 Z.t1 Z.t2 hx hy fun h' g1 g3 g4 g5 g6 g7 => ?_
      exact go h' ⟨T, true, oT, g1, g7 _ _ (farA lz hB) (farA li1 hB) (farA li2 hB) hT, hB⟩ g3 g4 g5 g6 fun c o c1 _ c3 c4 => g7 c o c1 c3 c4
end
theorem zip_no_len : typeLookup (.type "zip") "__len__" = pure none := by rw [typeLookup_type, builtinLookup_eq_fast]; kernel_rfl
theorem zip_no_hint : typeLookup (.type "zip") "__length_hint__" = pure none := by rw [typeLookup_type, builtinLookup_eq_fast]; kernel_rfl
theorem ZS.upd {h0 : Heap} {B z TI TO i1 i2 l1 l2 S : Addr} {xs ys : Array Value} {h h' : Heap} (Z : ZS h0 B z TI TO i1 i2 l1 l2 xs ys 0 #[] h) (zf : IsZip h z TI TO .none ∧ ∃ a b, IsPair h TO a b) (sS : S ≠ z ∧ S ≠ TO ∧ S ≠ i1 ∧ S ≠ i2 ∧ S ≠ TI ∧ S ≠ l1 ∧ S ≠ l2) (o1 : ∀ b o, h0.get? b = some o → b ≠ S)
    (oth : ∀ b o, b ≠ S → h.get? b = some o → h'.get? b = some o) (hs : h'.objs.size = h.objs.size) : ZS h0 B z TI TO i1 i2 l1 l2 xs ys 0 #[] h' ∧ (IsZip h' z TI TO .none ∧ ∃ a b, IsPair h' TO a b) := by
  obtain ⟨q1, a, b, q2⟩ := zf
  have zf' : IsZip h' z TI TO .none ∧ ∃ a b, IsPair h' TO a b := ⟨oth _ _ (Ne.symm sS.1) q1, a, b, oth _ _ (Ne.symm sS.2.1) q2⟩
  refine ⟨⟨.inl zf', oth _ _ (Ne.symm sS.2.2.2.2.1) Z.ti, Z.a1.at fun o e => oth _ _ (Ne.symm sS.2.2.1) e, Z.a2.at fun o e => oth _ _ (Ne.symm sS.2.2.2.1) e, Z.t1.at fun o e => oth _ _ (Ne.symm sS.2.2.2.2.2.1) e, Z.t2.at fun o e => oth _ _ (Ne.symm sS.2.2.2.2.2.2) e, by rw [hs]; exact Z.big,
    ⟨[], rfl, rfl, List.nodup_nil, by simp, by simp⟩, fun b o e => oth _ _ (o1 b o e) (Z.keep b o e)⟩, zf'⟩
section
variable {prog : Program} {w : World} {A : Around} {E : Value → Shared → Prop} {s : Shared} {h0 : Heap} {z TI TO i1 i2 l1 l2 : Addr} {xs ys : Array Value}
theorem call_list_zip {Q : Value → Shared → Prop} {a b : Value} (hh : A.handled = none) (D : ZipApart z TI TO i1 i2 l1 l2) (hz : IsZip s.heap z TI TO .none) (hTO : IsPair s.heap TO a b) (hTI : IsPair s.heap TI (.ref i1) (.ref i2))
    (a1 : s.heap.IsTupleIter i1 l1 0) (a2 : s.heap.IsTupleIter i2 l2 0) (t1 : s.heap.IsTuple l1 xs) (t2 : s.heap.IsTuple l2 ys) (keep : ∀ b o, h0.get? b = some o → s.heap.get? b = some o) (o1 : ∀ b o, h0.get? b = some o → b ≠ z ∧ b ≠ TO ∧ b ≠ i1 ∧ b ≠ i2) (hn : min xs.size ys.size ≤ sizeLine)
    (hQ : ∀ h' acc c, ZE h0 (s.heap.objs.size + 1) xs ys acc h' → h'.get? s.heap.objs.size = some { cls := .type "list", dict := none, data := .seq acc c, slots := #[] } → Q (.ref s.heap.objs.size) { s with heap := h' }) :
    wpAny (model prog w) A (call (.type "list") [.ref z]) Q E s := by
  have lt : ∀ {b : Addr} {o : Obj}, s.heap.get? b = some o → s.heap.objs.size ≠ b := fun e => Ne.symm (Nat.ne_of_lt (Heap.lt_size e))
  have lt1 : ∀ {b : Addr} {o : Obj}, s.heap.get? b = some o → b < s.heap.objs.size + 1 := fun e => Nat.lt_succ_of_lt (Heap.lt_size e)
  obtain ⟨u1, v1, _⟩ := id a1
  obtain ⟨u2, v2, _⟩ := id a2
  obtain ⟨u3, v3, _⟩ := id t1
  obtain ⟨u4, v4, _⟩ := id t2
  have sS : s.heap.objs.size ≠ z ∧ s.heap.objs.size ≠ TO ∧ s.heap.objs.size ≠ i1 ∧ s.heap.objs.size ≠ i2 ∧ s.heap.objs.size ≠ TI ∧ s.heap.objs.size ≠ l1 ∧ s.heap.objs.size ≠ l2 := ⟨lt hz, lt hTO, lt v1, lt v2, lt hTI, lt v3, lt v4⟩
  have o2 : ∀ b o, h0.get? b = some o → b ≠ s.heap.objs.size := fun b o e => Ne.symm (lt (keep b o e))
  refine callType_codes (Q₁ := fun obj s₁ => obj = .ref s.heap.objs.size ∧ s₁ = { s with heap := s.heap.push { cls := .type "list", data := .seq #[] } }) F.called_list (F.typeCall_list_1 _) F.entry_list_init (code_list_new _ ⟨rfl, rfl⟩) fun obj s₁ q => ?_
  obtain ⟨rfl, rfl⟩ := q
  have hS : (s.heap.push { cls := .type "list", data := .seq #[] }).get? s.heap.objs.size = some { cls := .type "list", data := .seq #[] } := Heap.get?_push_size _ rfl
  have zf : IsZip (s.heap.push { cls := .type "list", data := .seq #[] }) z TI TO .none ∧ ∃ a b, IsPair (s.heap.push { cls := .type "list", data := .seq #[] }) TO a b := ⟨Heap.get?_push_of_some _ hz, a, b, Heap.get?_push_of_some _ hTO⟩
  have Z : ZS h0 (s.heap.objs.size + 1) z TI TO i1 i2 l1 l2 xs ys 0 #[] (s.heap.push { cls := .type "list", data := .seq #[] }) := ⟨.inl zf, Heap.get?_push_of_some _ hTI, a1.at fun o e => Heap.get?_push_of_some _ e, a2.at fun o e => Heap.get?_push_of_some _ e, t1.at fun o e => Heap.get?_push_of_some _ e, t2.at fun o e => Heap.get?_push_of_some _ e, by rw [Heap.size_push]; exact Nat.le_refl _, ⟨[], rfl, rfl, List.nodup_nil, by simp, by simp⟩, fun b o e => Heap.get?_push_of_some _ (keep b o e)⟩
  refine ⟨⟨_, hS, rfl⟩, F.args_list_init_2 _ _, ?_⟩
  show wpAny _ A.in1.in1 (do let old ← Builtin.List.listItems (.ref s.heap.objs.size); Builtin.List.listUpdate (.ref s.heap.objs.size) (fun _ => #[]); letGo old.toList.reverse; Builtin.List.listExtendWith (.ref s.heap.objs.size) (.ref z) .none) _ _ _
  refine wpAny_bind ?_
  unfold Builtin.List.listItems
  refine wpAny_bind (wpAny_seqItems hS rfl (wpAny_pure ?_))
  show wpAny _ A.in1.in1 (updateSeq s.heap.objs.size (fun _ => #[]) >>= fun _ => letGo (#[] : Array Value).toList.reverse >>= fun _ => Builtin.List.listExtendWith (.ref s.heap.objs.size) (.ref z) .none) _ _ _
  refine wpAny_bind (wpAny_updateSeq hS rfl ?_)
  have hS2 := Heap.get?_update_self (Obj.mapSeq (fun _ => (#[] : Array Value))) hS rfl
  obtain ⟨Z2, zf2⟩ := Z.upd zf sS o2 (h' := (s.heap.push { cls := .type "list", data := .seq #[] }).update s.heap.objs.size (Obj.mapSeq (fun _ => (#[] : Array Value)))) (fun b o hb e => (Heap.get?_update_other _ _ (Ne.symm hb)).trans e) (Heap.size_update ..)
  refine wpAny_bind (wpAny_letGo ?_)
  unfold Builtin.List.listExtendWith
  have hT : ∀ h : Heap, IsZip h z TI TO .none → ({ s with heap := h } : Shared).TypeIs (.ref z) "zip" := fun h e => ⟨_, e, rfl⟩
  refine wpAny_bind (wpAny_typeOf (hT _ zf2.1) ?_)
  have h1 : Builtin.List.listSameRef (.ref s.heap.objs.size) (.ref z) = false := by simp [Builtin.List.listSameRef, sS.1]
  have h2 : (Value.type "zip" == Value.type "list") = false := by decide
  have h3 : (Value.type "zip" == Value.type "tuple") = false := by decide
  simp only [h1, h2, h3, Bool.or_false, Bool.false_eq_true, if_false]
  refine wpAny_bind (wpAny_pyIter_zip zf2.1 ?_)
  refine wpAny_bind (wpAny_holding ?_)
  unfold Builtin.List.listLengthHint
  refine wpAny_bind (wpAny_specialOf (hT _ zf2.1) zip_no_len ?_)
  show wpAny _ A.in1.in1 (specialOf (Value.ref z) (Str.ofString "__length_hint__") >>= _) _ _ _
  refine wpAny_bind (wpAny_specialOf (hT _ zf2.1) zip_no_hint ?_)
  refine wpAny_pure ?_
  show wpAny _ A.in1.in1 (rule "list.extend.makes-room" >>= fun _ => Builtin.List.listTouch (.ref s.heap.objs.size) >>= fun _ => again (.builtin "list.extend.loop" ⟨[.ref s.heap.objs.size, .ref z, .none], []⟩)) _ _ _
  refine wpAny_bind (wpAny_rule ?_)
  refine wpAny_bind ?_
  show wpAny _ A.in1.in1 (updateSeq s.heap.objs.size (·.push .none) >>= fun _ => updateSeq s.heap.objs.size (·.pop)) _ _ _
  refine wpAny_bind (wpAny_updateSeq hS2 rfl ?_)
  have hS3 := Heap.get?_update_self (Obj.mapSeq (·.push Value.none)) hS2 rfl
  obtain ⟨Z3, zf3⟩ := Z2.upd zf2 sS o2 (h' := Heap.update _ s.heap.objs.size (Obj.mapSeq (·.push Value.none))) (fun b o hb e => (Heap.get?_update_other _ _ (Ne.symm hb)).trans e) (Heap.size_update ..)
  refine wpAny_updateSeq (hz := by seq_fits) hS3 rfl ?_
  have hS4 := Heap.get?_update_self (Obj.mapSeq (·.pop)) hS3 rfl
  obtain ⟨Z4, zf4⟩ := Z3.upd zf3 sS o2 (h' := Heap.update _ s.heap.objs.size (Obj.mapSeq (·.pop))) (fun b o hb e => (Heap.get?_update_other _ _ (Ne.symm hb)).trans e) (Heap.size_update ..)
  refine wpAny_pure ⟨plainId_quiet F.plain_extend_loop _, loopZ (A := A.in1) (S := s.heap.objs.size) (B := s.heap.objs.size + 1) hh D (lt1 hz) (lt1 hTO) (lt1 v1) (lt1 v2) (Nat.lt_succ_self _) sS (fun b o e => ⟨(o1 b o e).1, (o1 b o e).2.1, (o1 b o e).2.2.1, (o1 b o e).2.2.2, o2 b o e⟩) hn _ 0 _ _ _ rfl (Nat.zero_le _) Z4 hS4 fun h' acc c ze hS' => ?_⟩
  exact ⟨rfl, hQ h' acc c ze hS'⟩
end
end Mi
namespace Mi
open PySem PySem.Spec L2
theorem RpAll.of_get {K : PySem.W.Frag} {mp : Wd} {H : Hp} : ∀ {ds : List D} {vs : List V}, ds.length = vs.length → (∀ (j : Nat) (d : D) (v : V), ds[j]? = some d → vs[j]? = some v → Rp K mp H d v) → RpAll K mp H ds vs
  | [], [], _, _ => .nil
  | d :: ds, v :: vs, l, k => .cons (k 0 d v rfl rfl) (RpAll.of_get (by simpa using l) fun j d' v' a b => k (j + 1) d' v' (by simpa using a) (by simpa using b))
  | [], _ :: _, l, _ => by simp at l
  | _ :: _, [], l, _ => by simp at l
noncomputable def mListZip (f : Ev (List D)) : Ev D := fun ρ h => (f ρ h).bind fun ds h1 => match ds with
  | [d, d'] => (match asT d, asT d' with
    | some xs, some ys => .ok (.lst (zipD xs ys)) h1
    | _, _ => .bad)
  | _ => .bad
section
variable {X : Cx} {W : WX} {e e2 : Expr} {p p2 pos pos2 : Pos} {f : Ev (List D)}
theorem se_listZip (hc : X.calm = true) (ha : SA X W [e, e2] f) (hmz : X.mg "zip" = none) (hml : X.mg "list" = none) (hgz : Gl X "zip" := by rfl) (hgl : Gl X "list" := by rfl)
    (hs : starEach [e, e2] X.env = (false, eval e X.env) :: starEach [e2] X.env := by rfl) (hpl : (backTo pos2 (starEach [e2] X.env)).any (·.1) = false := by rfl)
    (na : starEach [.Call (.Name "zip" p2) [e, e2] [] pos2] X.env = (false, eval (.Call (.Name "zip" p2) [e, e2] [] pos2) X.env) :: starEach [] X.env := by rfl) :
    SE X W (.Call (.Name "list" p) [.Call (.Name "zip" p2) [e, e2] [] pos2] [] pos) (mListZip f) := by
  refine ⟨fun pins s σ H Q I ⟨ρ, h, mp, r, en, t⟩ => ?_⟩
  refine PyProof.Rows.Call_ (ld_blt I hgl hml PyProof.Rows.boot_list (PyProof.Rows.callWith_type1 (PyProof.Rows.args_cons ?_ na) na))
  refine PyProof.Rows.Call_ (ld_blt I hgz hmz PyProof.Rows.boot_zip (PyProof.Rows.callWith_type1 (thn (ha.run pos2 pins s σ H _ I ⟨ρ, h, mp, r, en, Post.bind (R := rA X.K) t⟩) fun us s1 ⟨vs, H1, I1, r1, ⟨mp1, h1, ds, le1, rel1, q1, p1⟩⟩ => ?_) hs hpl))
  dsimp only at p1
  split at p1
  · rename_i d d'
    split at p1
    · rename_i xs ys ex ey
      obtain ⟨v, w, rfl, b1, b2⟩ := q1.two
      obtain ⟨pa, va, rfl, hsa, ra⟩ := asT_ok b1 ex
      obtain ⟨pb, vb, rfl, hsb, rb⟩ := asT_ok b2 ey
      obtain ⟨u1, u2, rfl, e1, e3⟩ := Vals.two r1
      cases e1; cases e3
      obtain ⟨ia, rva, pla, hza⟩ := I1.tuple hsa
      obtain ⟨ib, rvb, plb, hzb⟩ := I1.tuple hsb
      refine RZ.call_zipT (show s1.heap.IsTuple pa ia.toArray from pla) (show s1.heap.IsTuple pb ib.toArray from plb) fun h' hz hTI hTO a1 a2 hsz hk => PyProof.Rows.args_nil ?_
      obtain ⟨oa, hoa, _⟩ := id pla
      obtain ⟨ob, hob, _⟩ := id plb
      have lt5 : ∀ (b : Addr) (o : Obj) (k : Nat), s1.heap.get? b = some o → b ≠ s1.heap.objs.size + k := fun b o k e => Nat.ne_of_lt (Nat.lt_of_lt_of_le (Heap.lt_size e) (Nat.le_add_right _ _))
      refine call_list_zip (s := { s1 with heap := h' }) (h0 := s1.heap) (A := X.A) (I1.ok.hd hc) (PySem.W.ktu_apart s1.heap.objs.size pa pb (Heap.lt_size hoa) (Heap.lt_size hob)) hz hTO hTI a1 a2
        ((show s1.heap.IsTuple pa ia.toArray from pla).at fun o e => hk _ _ e) ((show s1.heap.IsTuple pb ib.toArray from plb).at fun o e => hk _ _ e) hk (fun b o e => ⟨lt5 b o 4 e, lt5 b o 3 e, lt5 b o 0 e, lt5 b o 1 e⟩) ?_ fun h2 acc c ze hL => ?_
      · have : ia.toArray.size = va.length := by rw [List.size_toArray]; exact rva.length.symm
        rw [this]; omega
      · obtain ⟨⟨Ts, g1, g2, g3, g4, g5⟩, kp⟩ := ze
        have hla : ia.length = va.length := rva.length.symm
        have hlb : ib.length = vb.length := rvb.length.symm
        have g2' : Ts.length = min va.length vb.length := by rw [g2, List.size_toArray, List.size_toArray, hla, hlb]
        have lz : ((va.zip vb).map fun q : V × V => [q.1, q.2]).length = Ts.length := by rw [List.length_map, List.length_zip, g2']
        have fst : (Ts.zip ((va.zip vb).map fun q : V × V => [q.1, q.2])).map (·.1) = Ts := List.map_fst_zip (by rw [lz]; exact Nat.le_refl _)
        have hb5 : ∀ T ∈ Ts, s1.heap.objs.size ≤ T := fun T hT => Nat.le_trans (by show s1.heap.objs.size ≤ h'.objs.size + 1; rw [hsz]; omega) (g4 T hT)
        have at_ : ∀ (j : Nat) (T : Addr), Ts[j]? = some T → ∃ x y u w, va[j]? = some x ∧ vb[j]? = some y ∧ RelV x u ∧ RelV y w ∧ IsPair h2 T u w := fun j T hj => by
          obtain ⟨u, w, k1, k2, k3⟩ := g5 j T hj
          obtain ⟨x, k4, k5⟩ := vals_at rva (show ia[j]? = some u by simpa using k1)
          obtain ⟨y, k6, k7⟩ := vals_at rvb (show ib[j]? = some w by simpa using k2)
          exact ⟨x, y, u, w, k4, k6, k5, k7, k3⟩
        have hL0 : s1.heap.objs.size ≤ h'.objs.size := by rw [hsz]; exact Nat.le_add_right _ _
        have eL : acc = (Ts.map Value.ref).toArray := by rw [← g1]
        have vr : Vals (Ts.map V.ref) (Ts.map Value.ref) := by
          clear g1 g2 g3 g4 g5 g2' lz fst hb5 at_ eL
          induction Ts with
          | nil => exact .nil
          | cons T Ts ih => exact .cons rfl ih
        obtain ⟨J, sm⟩ := laid_tups (tk := s1.toks) I1 kp (Ts.zip ((va.zip vb).map fun q : V × V => [q.1, q.2])) (by rw [fst]; exact g3) (fun q hq => by
          obtain ⟨j, hj⟩ := List.mem_iff_getElem?.mp hq
          rw [List.getElem?_zip_eq_some] at hj
          obtain ⟨x, y, u, w, k1, k2, k3, k4, k5⟩ := at_ j q.1 hj.1
          have : ((va.zip vb).map fun q : V × V => [q.1, q.2])[j]? = some [x, y] := by
            rw [List.getElem?_map, Option.map_eq_some_iff]
            exact ⟨(x, y), List.getElem?_zip_eq_some.mpr ⟨k1, k2⟩, rfl⟩
          rw [this] at hj
          have e5 : [x, y] = q.2 := Option.some.inj hj.2
          refine ⟨hb5 _ (List.mem_of_getElem? hj.1), by rw [← e5]; show 2 ≤ sizeLine; decide, [u, w], by rw [← e5]; exact .cons k3 (.cons k4 .nil), ⟨_, k5, rfl, _, rfl⟩⟩)
          (L := h'.objs.size) (out := Ts.map V.ref) (its := Ts.map Value.ref) (n := c) hL0 (by
            rw [fst]
            exact fun q => Nat.lt_irrefl _ (Nat.lt_of_lt_of_le (Nat.lt_succ_self _) (g4 _ q))) (by rw [← eL]; exact hL) vr (by rw [List.length_map, g2']; omega)
        refine ⟨.ref h'.objs.size, _, J, rfl, p1 _ mp1 _ (le_same rel1 sm) (rel1.same sm) ?_⟩
        have frL : H1 h'.objs.size = none := I1.hok.fresh hL0
        have nL : h'.objs.size ∉ Ts := fun q => Nat.lt_irrefl _ (Nat.lt_of_lt_of_le (Nat.lt_succ_self _) (g4 _ q))
        refine .lst (vs := Ts.map V.ref) ?_ (rel1.fresh frL) (RpAll.of_get ?_ fun j dd vv q1 q2 => ?_)
        · rw [putTs_off _ _ (by rw [fst]; exact nL), upd_same]
        · rw [zipD_len, List.length_map, g2', ra.length, rb.length]
        · obtain ⟨x, y, z1, z2, rfl⟩ := zipD_at q1
          rw [List.getElem?_map, Option.map_eq_some_iff] at q2
          obtain ⟨T, hT, rfl⟩ := q2
          obtain ⟨vx, vy, u, w, k1, k2, k3, k4, k5⟩ := at_ j T hT
          obtain ⟨vx', m1, m2⟩ := ra.get z1
          rw [k1] at m1; cases m1
          obtain ⟨vy', m3, m4⟩ := rb.get z2
          rw [k2] at m3; cases m3
          have le := le_same rel1 sm
          refine .tup (vs := [vx, vy]) ?_ (rel1.fresh (I1.hok.fresh (hb5 T (List.mem_of_getElem? hT)))) (.cons (m2.mono le) (.cons (m4.mono le) .nil))
          refine putTs_at _ _ (by rw [fst]; exact g3) (T, [vx, vy]) (List.mem_iff_getElem?.mpr ⟨j, List.getElem?_zip_eq_some.mpr ⟨hT, ?_⟩⟩)
          rw [List.getElem?_map, Option.map_eq_some_iff]
          exact ⟨(vx, vy), List.getElem?_zip_eq_some.mpr ⟨k1, k2⟩, rfl⟩
    · exact p1.elim
  · exact p1.elim
end
end Mi
namespace Mi
open PySem PySem.Spec L2
def gMulA (x y : D) (h : Hq) : Option (D × Hq) := match x, y with
  | .tup xs, .int k => if xs ≠ [] ∧ 2 ≤ k ∧ k ≤ 1000 ∧ xs.length ≤ 1000 then some (.tup (List.replicate k.toNat xs).flatten, h) else none
  | x, y => gMul x y h
/-- list + list, to be changed -/
def gAddR (x y : D) (h : Hq) : Option (D × Hq) := match asL h x, asL h y with
  | some i, some j => if i.length + j.length ≤ sizeLine then some (.ref h.length, h ++ [.lst (i ++ j)]) else none
  | _, _ => none
def gIs2 (x y : D) (h : Hq) : Option (D × Hq) := match x, y with
  | .bl a, .bl b => some (.bl (decide (a = b)), h)
  | x, y => gIs x y h
def gIsNot2 (x y : D) (h : Hq) : Option (D × Hq) := match x, y with
  | .bl a, .bl b => some (.bl (!decide (a = b)), h)
  | x, y => gIsNot x y h
theorem RpAll.rep {K : PySem.W.Frag} {mp : Wd} {H : Hp} {xs : List D} {vs : List V} (a : RpAll K mp H xs vs) : ∀ k : Nat, RpAll K mp H (List.replicate k xs).flatten (List.replicate k vs).flatten
  | 0 => .nil
  | k + 1 => by
    rw [List.replicate_succ, List.replicate_succ, List.flatten_cons, List.flatten_cons]
    exact a.append (a.rep k)
section
variable {X : Cx}
theorem o2_mulA : O2 X (binaryOp .Mult) gMulA := by
  intro pins s σ H x y v u Q I rx ry ⟨mp, h, dx, dy, r, ax, ay, p⟩
  unfold gMulA at p
  split at p
  · split at p
    · rename_i xs k hz
      obtain ⟨z1, z2, z3, z4⟩ := hz
      cases ax with
      | @tup a vs _ h1 n1 q1 =>
        cases ay
        refine op_repT pins s σ H _ _ v u Q I rx ry ⟨a, k, vs, rfl, rfl, SqT.of h1, fun e => z1 ?_, z2, z3, by rw [← q1.length]; exact z4, fun q hq => ?_⟩
        · subst e; cases q1; rfl
        · obtain ⟨l1, l2, l3⟩ := newT r hq (q1.rep k.toNat)
          exact p _ mp _ l1 l2 l3
    · exact p.elim
  · exact o2_mul pins s σ H x y v u Q I rx ry ⟨mp, h, _, _, r, ax, ay, p⟩
theorem o2_addR : O2 X (binaryOp .Add) gAddR := by
  intro pins s σ H x y v u Q I rx ry ⟨mp, h, dx, dy, r, ax, ay, p⟩
  unfold gAddR at p
  split at p
  · rename_i i j e1 e2
    split at p
    · rename_i hz
      obtain ⟨pa, vs, rfl, h1, q1⟩ := asL_ok r ax e1
      obtain ⟨pb, ws, rfl, h2, q2⟩ := asL_ok r ay e2
      refine op_cat pins s σ H _ _ v u Q I rx ry ⟨pa, pb, vs, ws, rfl, rfl, h1, h2, by rw [← q1.length, ← q2.length]; exact hz, fun p' hp => ?_⟩
      obtain ⟨l1, l2, l3⟩ := newLR r hp (q1.append q2)
      exact p _ _ _ l1 l2 l3
    · exact p.elim
  · exact p.elim
theorem o2_is2 : O2 X (compareOp .Is) gIs2 := by
  intro pins s σ H x y v u Q I rx ry ⟨mp, h, dx, dy, r, ax, ay, p⟩
  unfold gIs2 at p
  split at p
  · cases ax; cases ay
    exact op_is_bl pins s σ H _ _ v u Q I rx ry ⟨_, _, rfl, rfl, p _ mp H .refl r (.bl _)⟩
  · exact o2_is pins s σ H x y v u Q I rx ry ⟨mp, h, _, _, r, ax, ay, p⟩
theorem o2_isnot2 : O2 X (compareOp .IsNot) gIsNot2 := by
  intro pins s σ H x y v u Q I rx ry ⟨mp, h, dx, dy, r, ax, ay, p⟩
  unfold gIsNot2 at p
  split at p
  · cases ax; cases ay
    exact op_isnot_bl pins s σ H _ _ v u Q I rx ry ⟨_, _, rfl, rfl, p _ mp H .refl r (.bl _)⟩
  · exact o2_isnot pins s σ H x y v u Q I rx ry ⟨mp, h, _, _, r, ax, ay, p⟩
end
section
variable {X : Cx} {W : WX} {pos : Pos} {e : Expr} {st : Stmt} {rest a b : List Stmt} {f : Ev D} {fs gs : Ex} {c : Ev Bool}
theorem ss_setLcR (i : Nat) {y : Str} {py : Pos} {elt tg iter : Expr} {ifs : List Expr} {scope : Scope} {own : List (Str × Nat)} {spos : Pos} {fi : Ev (List D × Option (Nat × O))} {ft : Ev Bool} {fe : Ev D} {T : Tg} (hc : X.calm = true) (hN : X.N.Nodup) (hi : SI X W tg iter fi) (ok : BlkOk X.N X.env.scope scope own)
    (hT : ∀ i ∈ T.slots, i ∈ own.map (·.2))
    (hg : ∀ (s : Shared) (H : Hp) (C : Addr) (cl : List (Str × Addr)) (fp : List Addr), SG (X.blk s H scope (compEnvC scope cl C X.env) fp) tg T)
    (ht : ∀ (s : Shared) (H : Hp) (C : Addr) (cl : List (Str × Addr)) (fp : List Addr), PTs (X.blk s H scope (compEnvC scope cl C X.env) fp) ifs (tT X.K W0 ft))
    (he : ∀ (s : Shared) (H : Hp) (C : Addr) (cl : List (Str × Addr)) (fp : List Addr), SE (X.blk s H scope (compEnvC scope cl C X.env) fp) W0 elt fe)
    (hsw : swapsWith (.ListComp elt [⟨tg, iter, ifs, 0⟩] scope pos) (some (.Name y py)) spos.line X.env = pure true)
    (hy : X.N[i]? = some y := by rfl) (hyl : X.env.scope.names.lookup y = some .local := by rfl) (hs : ∀ x, foldedSetIterable iter X.env x = pure x := by intro _; rfl) :
    SS X W (.Assign [.Name y py] (.ListComp elt [⟨tg, iter, ifs, 0⟩] scope pos) spos) (mSet (.nm i) (mLcR T (own.map (·.2)) fi ft fe)) :=
  PS.imp (ps_setLc hc hN hy hyl hsw hi ok hg ht he hs) fun D σ H ⟨ρ, h, mp, r, en, p⟩ => lc_readR hT ⟨ρ, h, mp, r, en, Post.mono (PostS.bind en p) fun v H1 ⟨mp1, h1, d, le, r1, q, p1⟩ => p1 _ mp1 H1 .refl r1 ((en.mono le).set q)⟩
end
end Mi
namespace Mi
open PySem L2
section
variable {ρ : Env'} {h : Hq}
@[simp] theorem e_sl {fe : Ev D} {lo hi : Option (Ev D)} : mSl fe lo hi ρ h = (fe ρ h).bind fun x h1 => (mPart lo ρ h1).bind fun l h2 => (mPart hi ρ h2).bind fun u h3 => .of (gSl x l u h3) := rfl
@[simp] theorem e_part0 : mPart none ρ h = .ok none h := rfl
@[simp] theorem e_part1 {f : Ev D} : mPart (some f) ρ h = (f ρ h).bind fun d h1 => match d with
  | .int i => .ok (some i) h1
  | _ => .bad := rfl
@[simp] theorem e_enum {f : Ev (List D)} : mEnum f ρ h = (f ρ h).bind fun ds h1 => match ds with
  | [d] => .of ((seqD h1 d).map fun p => ((enumD p.1, p.2), h1))
  | _ => .bad := rfl
@[simp] theorem e_zip {f : Ev (List D)} : mZip f ρ h = (f ρ h).bind fun ds h1 => match ds with
  | [d, d'] => (match asT d, asT d' with
    | some xs, some ys => .ok (zipD xs ys, none) h1
    | _, _ => .bad)
  | _ => .bad := rfl
@[simp] theorem e_listZip {f : Ev (List D)} : mListZip f ρ h = (f ρ h).bind fun ds h1 => match ds with
  | [d, d'] => (match asT d, asT d' with
    | some xs, some ys => .ok (.lst (zipD xs ys)) h1
    | _, _ => .bad)
  | _ => .bad := rfl
@[simp] theorem g_mulA {i j : Int} : gMulA (.int i) (.int j) h = gMul (.int i) (.int j) h := rfl
@[simp] theorem g_is2n {x : D} : gIs2 x .non h = some (.bl (isNon x), h) := by cases x <;> rfl
@[simp] theorem seqT {xs : List D} : seqD h (.tup xs) = some (xs, none) := rfl
@[simp] theorem seqL {xs : List D} : seqD h (.lst xs) = some (xs, none) := rfl
@[simp] theorem asT_tup {xs : List D} : asT (.tup xs) = some xs := rfl
@[simp] theorem setT_tp2 {i j : Nat} {a b : D} : setT (.tp [i, j]) (.tup [a, b]) ρ = some ((ρ.set i (some a)).set j (some b)) := rfl
end
/-- t[1:] -/
theorem sl_tail {h : Hq} {x : D} {xs : List D} : gSl (.tup (x :: xs)) (some 1) none h = some (.tup xs, h) := by
  simp only [gSl, asT]
  have e1 : HT.sIx (x :: xs).length 0 (some 1) = 1 := by
    have := HT.sIx_nat (x :: xs).length 0 1
    rw [show (((1 : Nat) : Int)) = 1 from rfl] at this
    rw [this]; simp
  have e2 : HT.sIx (x :: xs).length (x :: xs).length none = (x :: xs).length := rfl
  unfold cutD
  rw [e1, e2, if_neg (by simp)]
  simp
/-- t[:-1] -/
theorem sl_init {h : Hq} {x : D} {xs : List D} : gSl (.tup (xs ++ [x])) none (some (-1)) h = some (.tup xs, h) := by
  simp only [gSl, asT]
  have e1 : HT.sIx (xs ++ [x]).length (xs ++ [x]).length (some (-1)) = xs.length := by
    unfold HT.sIx
    dsimp only
    rw [if_pos (by decide), List.length_append, List.length_singleton]
    omega
  have e2 : HT.sIx (xs ++ [x]).length 0 none = 0 := rfl
  unfold cutD
  rw [e1, e2, if_neg (by simp)]
  simp
theorem inH_ref {h : Hq} {l : Nat} {x : D} {ys : List D} (e : h[l]? = some (.lst ys)) : inH h x (.ref l) = inH h x (.lst ys) := by
  unfold inH
  simp only [asD, e, nz]
theorem g_inR {h : Hq} {l : Nat} {x : D} {ys : List D} (e : h[l]? = some (.lst ys)) : gIn x (.ref l) h = gIn x (.lst ys) h := by
  unfold gIn; rw [inH_ref e]
theorem g_inSL {h : Hq} {x : Str} {L : List Str} : gIn (.str x) (.lst (L.map .str)) h = some (.bl (decide (x ∈ L)), h) := g_inL (enc := D.str) (fun _ => rfl) (fun _ _ e => by cases e; rfl) (by simp [D.dp])
/-- a comprehension whose items are only known to be of a kind -/
theorem lcGo_ex {α β : Type} {T : Tg} {fe : Ev D} {c : Option (Nat × O)} {all : List D} {ρ : Env'} {h : Hq} (enc : α → D) (enc' : β → D) (P : α → β → Prop) (ck : chkOk c all h) : ∀ xs : List α,
    (∀ x ∈ xs, ∃ ρ1, setT T (enc x) ρ = some ρ1 ∧ ∃ y, fe ρ1 h = .ok (enc' y) h ∧ P x y) → ∃ ys : List β, lcGo T mYes fe c all ρ (xs.map enc) h = .ok (ys.map enc') h ∧ ys.length = xs.length ∧ ∀ y ∈ ys, ∃ x ∈ xs, P x y
  | [], _ => ⟨[], by simp only [List.map_nil, lcGo]; rw [if_pos ck], rfl, by simp⟩
  | x :: xs, k => by
    obtain ⟨ρ1, e1, y, e2, p⟩ := k x List.mem_cons_self
    obtain ⟨ys, e3, e4, e5⟩ := lcGo_ex enc enc' P ck xs fun z hz => k z (List.mem_cons_of_mem _ hz)
    refine ⟨y :: ys, ?_, by simp [e4], fun z hz => ?_⟩
    · simp only [List.map_cons, lcGo]
      rw [if_pos ck, e1]
      dsimp only
      rw [e_yes]
      simp only [bindN_ok, e2, e3, Res.bind_ok]
    · rcases List.mem_cons.mp hz with rfl | hz
      · exact ⟨x, List.mem_cons_self, p⟩
      · obtain ⟨a, ha, pa⟩ := e5 z hz
        exact ⟨a, List.mem_cons_of_mem _ ha, pa⟩
theorem lc_ex {α β : Type} {T : Tg} {vs : List Nat} {fi : Ev (List D × Option (Nat × O))} {fe : Ev D} {ρ : Env'} {h h1 : Hq} {c : Option (Nat × O)} (enc : α → D) (enc' : β → D) (P : α → β → Prop) (xs : List α)
    (ei : fi ρ h = .ok (xs.map enc, c) h1) (ck : chkOk c (xs.map enc) h1) (k : ∀ x ∈ xs, ∃ ρ1, setT T (enc x) (wipeD ρ vs) = some ρ1 ∧ ∃ y, fe ρ1 h1 = .ok (enc' y) h1 ∧ P x y) :
    ∃ ys : List β, mLc T vs fi mYes fe ρ h = .ok (.lst (ys.map enc')) h1 ∧ ys.length = xs.length ∧ ∀ y ∈ ys, ∃ x ∈ xs, P x y := by
  obtain ⟨ys, e1, e2, e3⟩ := lcGo_ex enc enc' P ck xs k
  refine ⟨ys, ?_, e2, e3⟩
  unfold mLc
  rw [ei]
  simp only [Res.bind_ok, e1]
theorem lcR_eq {α : Type} {T : Tg} {vs : List Nat} {fi : Ev (List D × Option (Nat × O))} {ft : Ev Bool} {fe : Ev D} {ρ : Env'} {h h1 : Hq} {c : Option (Nat × O)} (enc : α → D) (p : α → Bool) (g : α → D) (xs : List α)
    (ei : fi ρ h = .ok (xs.map enc, c) h1) (ck : chkOk c (xs.map enc) h1) (k : ∀ x ∈ xs, ∃ ρ1, setT T (enc x) (wipeD ρ vs) = some ρ1 ∧ ft ρ1 h1 = .ok (p x) h1 ∧ (p x = true → fe ρ1 h1 = .ok (g x) h1)) :
    mLcR T vs fi ft fe ρ h = .ok (.ref h1.length) (h1 ++ [.lst ((xs.filter p).map g)]) := by
  unfold mLcR
  rw [ei]
  simp only [Res.bind_ok, lcGo_eq enc p g ck xs k]
theorem enumD_map {α : Type} (enc : α → D) (xs : List α) : enumD (xs.map enc) = xs.zipIdx.map fun p => .tup [.int (p.2 : Nat), enc p.1] := by
  unfold enumD
  rw [List.zipIdx_map, List.map_map]
  rfl
theorem g_extL {h : Hq} {L ys : List D} (k : L.length + ys.length ≤ sizeLine) : gExtend (.ref h.length) [.lst ys] (h ++ [.lst L]) = some (.non, h ++ [.lst (L ++ ys)]) := by
  simp only [gExtend, getL_last, asL]
  rw [if_pos k, setL_last]
theorem isInts_map {α : Type} (f : α → Int) : ∀ L : List α, isInts (L.map fun x => .int (f x)) = some (L.map f)
  | [] => rfl
  | x :: L => by simp [isInts, isInts_map f L]
end Mi
namespace Mi
open PySem PySem.Spec L2
/-! ### instances of the program's classes -/
def asI (c : Str) (h : Hq) (d : D) : Option (Nat × List (Str × D)) := match d with
  | .ref l => (match h[l]? with
    | some (.ins c' fs) => if c' = c then some (l, fs) else none
    | _ => none)
  | _ => none
theorem asI_ok {K : PySem.W.Frag} {mp : Wd} {H : Hp} {h : Hq} {c : Str} {d : D} {v : V} {l : Nat} {fs : List (Str × D)} (r : HRel K mp h H) (a : Rp K mp H d v) (e : asI c h d = some (l, fs)) :
    d = .ref l ∧ ∃ p dx vs, v = .ref p ∧ mp.pl[l]? = some p ∧ h[l]? = some (.ins c fs) ∧ H p = some (.ins (He.ga K c) dx vs) ∧ RpF K mp H fs vs := by
  unfold asI at e
  split at e
  · rename_i l'
    split at e
    · rename_i c' fs' q
      split at e
      · rename_i hc
        cases e
        subst hc
        cases a with
        | ref m =>
          obtain ⟨dx, vs, e1, e2⟩ := r.obj _ _ _ q m
          exact ⟨rfl, _, dx, vs, rfl, m, q, e1, e2⟩
      · cases e
    · cases e
  · cases e
/-- e.f -/
def mFld (c f : Str) (fe : Ev D) : Ev D := fun ρ h => (fe ρ h).bind fun d h1 => match asI c h1 d with
  | some (_, fs) => (match fs.lookup f with
    | some v => .ok v h1
    | none => .bad)
  | none => .bad
/-- o.f = v -/
def mFldSet (c f : Str) (fo fv : Ev D) : Ex := fun ρ h => (fv ρ h).bindS ρ fun v h1 => (fo ρ h1).bindS ρ fun o h2 => match asI c h2 o with
  | some (l, fs) => if fs.length < 1000 then .nx ρ (h2.set l (.ins c (putD f v fs))) else .bad
  | none => .bad
theorem RpF.put {K : PySem.W.Frag} {mp : Wd} {H : Hp} {f : Str} {d : D} {v : V} (r : Rp K mp H d v) : ∀ {fs : List (Str × D)} {vs : List (Str × V)}, RpF K mp H fs vs → RpF K mp H (putD f d fs) (putF f v vs)
  | _, _, .nil => .cons r .nil
  | _, _, .cons (x := x) q t => by
    unfold putD putF
    by_cases hx : x = f
    · subst hx; rw [if_pos rfl, if_pos rfl]; exact .cons r t
    · rw [if_neg hx, if_neg hx]; exact .cons q (RpF.put r t)
section
variable {X : Cx} {W : WX} {o e value : Expr} {f : Str} {pos pos' apos p : Pos} {fe fo fv : Ev D}
theorem se_fld {c : Str} (hc : Cls X.K (He.ga X.K c) ∧ NoAttr X.K (He.ga X.K c) f) (he : SE X W e fe) (hb : attributeBase e f X.env (eval e X.env) = eval e X.env := by rfl) : SE X W (.Attribute e f pos) (mFld c f fe) :=
  PE.imp (pe_fld he hb) fun σ H Q ⟨ρ, h, mp, r, en, q⟩ => by
    refine ⟨ρ, h, mp, r, en, Post.mono (Post.bind (R := rD X.K) q) fun v H1 ⟨mp1, h1, d, le1, r1, q1, p1⟩ => ?_⟩
    dsimp only at p1
    split at p1
    · rename_i l fs e1
      obtain ⟨_, pa, dx, vs, rfl, e2, e3, e4, e5⟩ := asI_ok r1 q1 e1
      split at p1
      · rename_i dv ev
        obtain ⟨vv, l1, l2⟩ := e5.lookup ev
        exact ⟨pa, _, dx, vs, vv, rfl, e4, hc.1, hc.2, l1, Post.ok p1 r1 l2⟩
      · exact p1.elim
    · exact p1.elim
theorem ss_fld {c : Str} (hc : Cls X.K (He.ga X.K c) ∧ NoAttr X.K (He.ga X.K c) f) (ho : SE X W o fo) (hv : SE X W value fv) (hs : swapsWith value (some (.Attribute o f pos')) pos.line X.env = pure false := by rfl) : SS X W (.Assign [.Attribute o f pos'] value pos) (mFldSet c f fo fv) :=
  PS.imp (ps_fld ho hv hs) fun D σ H ⟨ρ, h, mp, r, en, q⟩ => by
    refine ⟨ρ, h, mp, r, en, Post.mono (PostS.bind (R := rD X.K) en q) fun v H1 ⟨mp1, h1, dv, le1, r1, q1, p1⟩ => ?_⟩
    refine ⟨ρ, h1, mp1, r1, en.mono le1, Post.mono (PostS.bind (R := rD X.K) (en.mono le1) p1) fun x H2 ⟨mp2, h2, dx', le2, r2, q2, p2⟩ => ?_⟩
    dsimp only at p2
    split at p2
    · rename_i l fs e1
      split at p2
      · rename_i hz
        obtain ⟨_, pa, dx, vs, rfl, e2, e3, e4, e5⟩ := asI_ok r2 q2 e1
        refine ⟨pa, _, dx, vs, rfl, e4, hc.1, hc.2, by rw [← e5.length]; exact hz, ?_⟩
        have le := le_set r2 (o := .ins (He.ga X.K c) dx (putF f v vs)) e2
        exact p2 σ mp2 _ le (r2.set e2 ⟨dx, putF f v vs, upd_same, (e5.put (q1.mono le2)).monoK le.k⟩) (((en.mono le1).mono le2).mono le)
      · exact p2.elim
    · exact p2.elim
/-- a method of a class -/
structure FnM {F : Type} (P : Program) (w : World) (K : PySem.W.Frag) (mg : Str → Option Value) (base : Heap) (C : Calls F) (k : Nat) (f : F) (c m : Str) (ps : List Str) : Prop where
  ok : ∃ fd, FnOk P w K mg base (L2.CX P w) k (He.ma K (He.ga K c) m) fd ps (spM K C f ps.length) ∧ Binds K fd ps []
  meth : Meth K (He.ga K c) m (He.ma K (He.ga K c) m)
  cls : Cls K (He.ga K c)
/-- o.m(args) -/
def mMeth {F : Type} (C : Calls F) (f : F) (c m : Str) (n : Nat) (fo : Ev D) (fa : Ev (List D)) : Ev D := fun ρ h => (fo ρ h).bind fun o h1 => match asI c h1 o with
  | some (_, fs) => (match fs.lookup m with
    | none => (fa ρ h1).bind fun ds h2 => if (o :: ds).length = n then C f (o :: ds) h2 else .bad
    | some _ => .bad)
  | none => .bad
section
variable {F : Type} {es : List Expr} {C : Calls F} {k : Nat} {g : F} {c m : Str} {ps : List Str} {fa : Ev (List D)} {P : Program} {w : World} {K : PySem.W.Frag} {mg : Str → Option Value} {base : Heap} {A0 : Around}
theorem t_meth {tk : Takes X W} {σ : L2.St} {H : Hp} {Q : VK} {n : Nat} (t : tE X.K W (mMeth C g c m n fo fa) σ H Q) :
    tMeth (He.ga X.K c) m (spM X.K C g n) [] (fun cc d H' => W cc d σ H') (tE X.K W fo) (tA X.K W fa) σ H Q := by
  obtain ⟨ρ, h, mp, r, en, q⟩ := t
  refine ⟨ρ, h, mp, r, en, Post.mono (Post.bind (R := rD X.K) q) fun v H1 ⟨mp1, h1, d, le1, r1, q1, p1⟩ => ?_⟩
  dsimp only at p1
  split at p1
  · rename_i l fs e1
    obtain ⟨rfl, pa, dx, vs, rfl, e2, e3, e4, e5⟩ := asI_ok r1 q1 e1
    split at p1
    · rename_i e6
      refine ⟨pa, dx, vs, rfl, e4, e5.lookup_none e6, ρ, h1, mp1, r1, en.mono le1, Post.mono (Post.bind (R := rA X.K) p1) fun ws H2 ⟨mp2, h2, ds, le2, r2, q2, p2⟩ => ?_⟩
      dsimp only at p2
      rw [List.append_nil]
      split at p2
      · rename_i hl
        exact ⟨by rw [← hl]; simp [q2.length], mp2, h2, .ref l :: ds, r2, .cons (q1.mono le2) q2, p2⟩
      · exact p2.elim
    · exact p1.elim
  · exact p1.elim
end
end
end Mi
namespace Mi
open PySem PySem.Spec L2
section
variable {X : Cx} {W : WX} {o e : Expr} {es : List Expr} {pos apos p : Pos} {fo : Ev D} {F : Type} {C : Calls F} {k : Nat} {g : F} {c m : Str} {ps : List Str} {fa : Ev (List D)} {P : Program} {w : World} {K : PySem.W.Frag} {mg : Str → Option Value} {base : Heap} {A0 : Around}
theorem se_meth {pl : Sem Bool} (A : FnM P w K mg base C k g c m ps) (hr : Room k A0) (ho : SE X W o fo) (ha : SA X W (e :: es) fa) (tk : Takes X W) (hX : X.prog = P ∧ X.w = w ∧ X.K = K ∧ X.mg = mg ∧ X.base = base ∧ X.A = A0 := by exact ⟨rfl, rfl, rfl, rfl, rfl, rfl⟩)
    (hst : starEach (e :: es) X.env = (false, eval e X.env) :: starEach es X.env := by rfl) (hpl : (backTo pos (starEach es X.env)).any (·.1) = false := by rfl)
    (ht : eval (.Call (.Attribute o m apos) (e :: es) [] pos) X.env = (do
      let rv ← eval o X.env
      standAt apos.atName
      let (cal, fst) ← holding [rv] (getMethod rv m pl)
      callWith pos cal fst (backTo pos (starEach (e :: es) X.env)) (backToKw pos (keywordEach [] X.env))) := by rfl) :
    SE X W (.Call (.Attribute o m apos) (e :: es) [] pos) (mMeth C g c m ps.length fo fa) := by
  obtain ⟨rfl, rfl, rfl, rfl, rfl, rfl⟩ := hX
  obtain ⟨fd, ok, b⟩ := A.ok
  refine ⟨fun pins s σ H Q I t => ?_⟩
  refine PySem.W.methodCall_KW (pl := pl) (thn (ho.run pins s σ H _ I (t_meth (tk := tk) t)) fun u s1 ⟨x, H1, I1, rx, a, dx, fs, ex, ea, l, q⟩ => ?_) ht
  subst ex
  obtain rfl : u = Value.ref a := rx
  refine getmeth_ok I1 ea A.cls A.meth l ?_
  refine PySem.W.callWith_K (first := [.ref a]) (h₀ := X.base) I.ok.mod.kin A.meth.kp (thn (ha.run pos pins s1 σ H1 _ I1 q) fun us s2 ⟨vs, H2, I2, r, q2⟩ => ⟨I2.kIn, ?_⟩) hst hpl
  dsimp only at q2
  rw [List.append_nil] at q2
  exact run_fnS (E := WE W) (us := .ref a :: us) (vs := .ref a :: vs) ok hr b (passAt tk σ) I2 (.cons rfl r) q2
theorem se_meth0 {pl : Sem Bool} (A : FnM P w K mg base C k g c m ps) (hr : Room k A0) (ho : SE X W o fo) (tk : Takes X W) (hX : X.prog = P ∧ X.w = w ∧ X.K = K ∧ X.mg = mg ∧ X.base = base ∧ X.A = A0 := by exact ⟨rfl, rfl, rfl, rfl, rfl, rfl⟩)
    (ht : eval (.Call (.Attribute o m apos) [] [] pos) X.env = (do
      let rv ← eval o X.env
      standAt apos.atName
      let (cal, fst) ← holding [rv] (getMethod rv m pl)
      callWith pos cal fst (backTo pos (starEach [] X.env)) (backToKw pos (keywordEach [] X.env))) := by rfl) :
    SE X W (.Call (.Attribute o m apos) [] [] pos) (mMeth C g c m ps.length fo mNil) := by
  obtain ⟨rfl, rfl, rfl, rfl, rfl, rfl⟩ := hX
  obtain ⟨fd, ok, b⟩ := A.ok
  refine ⟨fun pins s σ H Q I t => ?_⟩
  refine PySem.W.methodCall_KW (pl := pl) (thn (ho.run pins s σ H _ I (t_meth (tk := tk) t)) fun u s1 ⟨x, H1, I1, rx, a, dx, fs, ex, ea, l, q⟩ => ?_) ht
  subst ex
  obtain rfl : u = Value.ref a := rx
  refine getmeth_ok I1 ea A.cls A.meth l ?_
  obtain ⟨ρ, h, mp, r, en, q⟩ := q
  have q2 := Post.ok (v := []) q r RpAll.nil
  rw [List.append_nil] at q2
  exact PySem.W.callWith_K0 (first := [.ref a]) I1.kIn A.meth.kp (run_fnS (E := WE W) (us := [.ref a]) (vs := [.ref a]) ok hr b (passAt tk σ) I1 (.cons rfl .nil) q2)
/-! ### a new instance -/
/-- a class with its __init__ -/
structure FnK {F : Type} (P : Program) (w : World) (K : PySem.W.Frag) (mg : Str → Option Value) (base : Heap) (C : Calls F) (k : Nat) (f : F) (c : Str) (ps : List Str) : Prop where
  ok : ∃ fd, FnOk P w K mg base (L2.CX P w) k (He.ma K (He.ga K c) "__init__") fd ps (spM K C f ps.length) ∧ Binds K fd ps []
  mkc : Mk K (He.ga K c) (He.ma K (He.ga K c) "__init__")
  mg : mg c = some (.ref (He.ga K c))
def mMake {F : Type} (C : Calls F) (f : F) (c : Str) (n : Nat) (fa : Ev (List D)) : Ev D := fun ρ h => (fa ρ h).bind fun ds h1 => if ds.length + 1 = n then (match C f (.ref h1.length :: ds) (h1 ++ [.ins c []]) with
  | .ok .non h2 => .ok (.ref h1.length) h2
  | .exc x h2 => .exc x h2
  | _ => .bad) else .bad
theorem run_makeS {cc f : Addr} {fd : FuncData} {sp : Sp} {E : L2.St → XK} {pins : List (Addr × Obj)} {σ : L2.St} {H : Hp} {s : Shared} {Q : VK} {us : List Value} {vs : List V} (M : Mk X.K cc f) (Fk : FnOk X.prog X.w X.K X.mg X.base (L2.CX X.prog X.w) k f fd ps sp) (hr : Room (k + 1) X.A) (hb : Binds X.K fd ps [])
    (hx : PassesAt (L2.CX X.prog X.w) X σ (E σ)) (I : Inv X pins σ H s) (r : Vals vs us)
    (h : ∀ x dx, H x = none → H dx = none → dx ≠ x → sp (.ref x :: vs) (upd (upd H dx (.own x)) x (.ins cc dx [])) (fun v H2 => v = .non ∧ Q (.ref x) H2) (E σ)) :
    wpAny (model X.prog X.w) X.A (call (.ref cc) us) (EP X pins σ Q) X.xe s := by
  have hq := h (s.heap.objs.size + 1) s.heap.objs.size (I.hok.fresh (Nat.le_succ _)) (I.hok.fresh (Nat.le_refl _)) (Nat.ne_of_lt (Nat.lt_succ_self _))
  have I2 := Inv.made (C := cc) I
  have r2 : Vals (V.ref (s.heap.objs.size + 1) :: vs) (Value.ref (s.heap.objs.size + 1) :: us) := .cons rfl r
  have hl : (Value.ref (s.heap.objs.size + 1) :: us).length = ps.length := by
    have z := r2.length
    rw [Fk.len _ _ _ _ hq] at z
    exact z.symm
  have bb := hb { s with heap := (s.heap.push PySem.W.emptyDict).push (PySem.W.instObj cc s.heap.objs.size) } (Value.ref (s.heap.objs.size + 1) :: us) I2.kIn (by rw [List.append_nil]; exact hl)
  rw [List.append_nil] at bb
  refine wpAny_call (make_map (f := f) I.kIn M.makes M.init (beq_iff_eq.mp M.fn) (codeAny_mono (Fk.run _ X.stack _ _ ⟨Value.ref (s.heap.objs.size + 1) :: us, []⟩ (Value.ref (s.heap.objs.size + 1) :: us) _ _ (E σ) (hr.make cc us []) (I2.env0.make cc us []) bb r2 hq) fun rr s' z => ?_))
  cases rr with
  | error e => exact hx pins _ _ e s' I2 z
  | ok fl =>
    cases fl with
    | ret u =>
      obtain ⟨v, H', I3, rv, ev, q3⟩ := I2.after z
      subst ev
      exact ⟨rv, ⟨V.ref (s.heap.objs.size + 1), H', I3, rfl, q3⟩⟩
    | next => exact False.elim z
    | brk => exact False.elim z
    | cont => exact False.elim z
theorem new_ins {K : PySem.W.Frag} {mp : Wd} {h : Hq} {H : Hp} {x dx : Addr} {c : Str} (r : HRel K mp h H) (hx : H x = none) (hd : H dx = none) (ne : dx ≠ x) :
    Le mp H (mp.add x) (upd (upd H dx (.own x)) x (.ins (He.ga K c) dx [])) ∧ HRel K (mp.add x) (h ++ [.ins c []]) (upd (upd H dx (.own x)) x (.ins (He.ga K c) dx [])) ∧ Rp K (mp.add x) (upd (upd H dx (.own x)) x (.ins (He.ga K c) dx [])) (.ref h.length) (.ref x) := by
  have l1 := le_new r (o := .own x) hd
  have r1 := r.new (o := .own x) hd
  have hx1 : upd H dx (.own x) x = none := by rw [upd_ne (Ne.symm ne)]; exact hx
  refine ⟨l1.trans (le_place r1 hx1), r1.place hx1 ⟨dx, [], upd_same, .nil⟩, .ref ?_⟩
  rw [← r.len]
  simp [Wd.add]
theorem t_make {σ : L2.St} {H : Hp} {Q : VK} {n : Nat} (t : tE X.K W (mMake C g c n fa) σ H Q) :
    tA X.K W fa σ H fun vs H1 => ∀ x dx, H1 x = none → H1 dx = none → dx ≠ x → spM X.K C g n (.ref x :: vs) (upd (upd H1 dx (.own x)) x (.ins (He.ga X.K c) dx [])) (fun v H2 => v = .non ∧ Q (.ref x) H2) (WE W σ) := by
  obtain ⟨ρ, h, mp, r, en, q⟩ := t
  refine ⟨ρ, h, mp, r, en, Post.mono (Post.bind (R := rA X.K) q) fun vs H1 ⟨mp1, h1, ds, le1, r1, q1, p1⟩ x dx hx hd ne => ?_⟩
  dsimp only at p1
  split at p1
  · rename_i hl
    obtain ⟨n1, n2, n3⟩ := new_ins (c := c) r1 hx hd ne
    refine ⟨by rw [List.length_cons, ← q1.length]; exact hl, mp1.add x, h1 ++ [.ins c []], .ref h1.length :: ds, n2, .cons n3 (q1.mono n1), ?_⟩
    cases e : C g (.ref h1.length :: ds) (h1 ++ [.ins c []]) with
    | bad => rw [e] at p1; exact p1.elim
    | exc xc h2 =>
      rw [e] at p1
      exact fun mp' H' le r' => p1 mp' H' (n1.trans le) r'
    | ok d h2 =>
      rw [e] at p1
      cases d with
      | non =>
        intro v mp' H' le r' rv
        cases rv
        exact ⟨rfl, p1 _ mp' H' (n1.trans le) r' (n3.mono le)⟩
      | _ => exact p1.elim
  · exact p1.elim
theorem se_make (A : FnK P w K mg base C k g c ps) (hr : Room (k + 1) A0) (ha : SA X W (e :: es) fa) (tk : Takes X W) (hX : X.prog = P ∧ X.w = w ∧ X.K = K ∧ X.mg = mg ∧ X.base = base ∧ X.A = A0 := by exact ⟨rfl, rfl, rfl, rfl, rfl, rfl⟩) (hg : Gl X c := by rfl)
    (hdb : (c == ("__debug__" : Str)) = false := by decide) (he : starEach (e :: es) X.env = (false, eval e X.env) :: starEach es X.env := by rfl) (hpl : (backTo pos (starEach es X.env)).any (·.1) = false := by rfl) :
    SE X W (.Call (.Name c p) (e :: es) [] pos) (mMake C g c ps.length fa) := by
  obtain ⟨rfl, rfl, rfl, rfl, rfl, rfl⟩ := hX
  obtain ⟨fd, ok, b⟩ := A.ok
  refine ⟨fun pins s σ H Q I t => ?_⟩
  refine wpAny_Call_Name_kw (ld_glob I hg A.mg ?_ hdb)
  refine PySem.W.callWith_K (h₀ := X.base) I.ok.mod.kin A.mkc.kp (thn (ha.run pos pins s σ H _ I (t_make t)) fun us s1 ⟨vs, H1, I1, r, q⟩ => ⟨I1.kIn, ?_⟩) he hpl
  exact run_makeS A.mkc ok hr b (passAt tk σ) I1 r q
theorem se_make0 (A : FnK P w K mg base C k g c ps) (hr : Room (k + 1) A0) (tk : Takes X W) (hX : X.prog = P ∧ X.w = w ∧ X.K = K ∧ X.mg = mg ∧ X.base = base ∧ X.A = A0 := by exact ⟨rfl, rfl, rfl, rfl, rfl, rfl⟩) (hg : Gl X c := by rfl)
    (hdb : (c == ("__debug__" : Str)) = false := by decide) :
    SE X W (.Call (.Name c p) [] [] pos) (mMake C g c ps.length mNil) := by
  obtain ⟨rfl, rfl, rfl, rfl, rfl, rfl⟩ := hX
  obtain ⟨fd, ok, b⟩ := A.ok
  refine ⟨fun pins s σ H Q I t => ?_⟩
  refine wpAny_Call_Name_kw (ld_glob I hg A.mg ?_ hdb)
  obtain ⟨ρ, h, mp, r, en, q⟩ := t_make t
  have q2 := Post.ok (v := []) q r RpAll.nil
  exact PySem.W.callWith_K0 I.kIn A.mkc.kp (run_makeS (us := []) A.mkc ok hr b (passAt tk σ) I .nil q2)
end
end Mi
namespace Mi
open PySem PySem.Spec L2
/-! ### dict.get, dict.pop, dict.setdefault -/
def gDGet (o : D) (ds : List D) (h : Hq) : Option (D × Hq) := match ds with
  | [k, d] => (asD h o).bind fun kvs => if kindsOk kvs k = true then some ((getD kvs k).getD d, h) else none
  | _ => none
def dropKV (kvs : List (D × D)) (k : D) : List (D × D) := kvs.filter fun p => !keyEq p.1 k
def gDPop (o : D) (ds : List D) (h : Hq) : Option (D × Hq) := match o, ds with
  | .ref l, [k] => (match h[l]? with
    | some (.dic kvs) => if kindsOk kvs k = true then (getD kvs k).map fun v => (v, h.set l (.dic (dropKV kvs k))) else none
    | _ => none)
  | _, _ => none
def gDSetd (o : D) (ds : List D) (h : Hq) : Option (D × Hq) := match o, ds with
  | .ref l, [k, d] => (match h[l]? with
    | some (.dic kvs) => if kindsOk kvs k = true ∧ kvs.length < sizeLine then (match getD kvs k with
      | some v => some (v, h)
      | none => some (d, h.set l (.dic (putKV kvs k d)))) else none
    | _ => none)
  | _, _ => none
section
variable {K : PySem.W.Frag} {mp : Wd} {H : Hp}
theorem dropKV_g {κ : Type} [DecidableEq κ] {emb : κ → D} (ke : ∀ a b, keyEq (emb a) (emb b) = decide (a = b)) {k : κ} : ∀ {kvs : List (D × D)} {ks : List κ} {vs : List V}, ks.length = vs.length → kvs.map (·.1) = ks.map emb → RpAll K mp H (kvs.map (·.2)) vs →
    ∃ (ks' : List κ) (vs' : List V), dropK (ks.zip vs) k = ks'.zip vs' ∧ ks'.length = vs'.length ∧ (dropKV kvs (emb k)).map (·.1) = ks'.map emb ∧ RpAll K mp H ((dropKV kvs (emb k)).map (·.2)) vs'
  | [], [], vs, l, _, r => ⟨[], [], by cases vs <;> rfl, rfl, rfl, .nil⟩
  | [], _ :: _, _, _, e, _ => by simp at e
  | _ :: _, [], _, _, e, _ => by simp at e
  | q :: kvs, k1 :: ks, vs, l, e, r => by
    cases vs with
    | nil => simp at l
    | cons v1 vs =>
      simp only [List.map_cons, List.cons.injEq] at e
      cases r with
      | cons r1 r2 =>
        obtain ⟨ks', vs', a1, a2, a3, a4⟩ := dropKV_g ke (k := k) (by simpa using l) e.2 r2
        by_cases hk : k1 = k
        · subst hk
          refine ⟨ks', vs', ?_, a2, ?_, ?_⟩
          · rw [List.zip_cons_cons, ← a1]; exact List.filter_cons_of_neg (by simp)
          · rw [← a3]; unfold dropKV; rw [List.filter_cons_of_neg (by rw [e.1, ke]; simp)]
          · unfold dropKV; rw [List.filter_cons_of_neg (by rw [e.1, ke]; simp)]; exact a4
        · refine ⟨k1 :: ks', v1 :: vs', ?_, by simp [a2], ?_, ?_⟩
          · rw [List.zip_cons_cons, List.zip_cons_cons, ← a1]; exact List.filter_cons_of_pos (by simp [hk])
          · unfold dropKV at a3 ⊢; rw [List.filter_cons_of_pos (by rw [e.1, ke]; simp [hk]), List.map_cons, a3, e.1]; rfl
          · unfold dropKV at a4 ⊢; rw [List.filter_cons_of_pos (by rw [e.1, ke]; simp [hk]), List.map_cons]; exact .cons r1 a4
/-- of which kind a dict is that takes a key -/
theorem kk_kind {kvs : List (D × D)} {k : Key} (h : kindsOk kvs (kD k) = true) {ks : List (List Key)} (ne : kvs ≠ []) (ek : kvs.map (·.1) = ks.map (fun k => .tup (k.map kD))) : False := by
  obtain ⟨k0, km⟩ := kinds_mem h
  cases kvs with
  | nil => exact ne rfl
  | cons p t => cases ks with
    | nil => simp at ek
    | cons k1 ks =>
      simp only [List.map_cons, List.cons.injEq] at ek
      have := km p (by simp)
      rw [show p.1 = kT k1 from ek.1, keyKind_k, keyKind_t] at this
      cases this
theorem kt_kind {kvs : List (D × D)} {k : List Key} (h : kindsOk kvs (kT k) = true) {ks : List Key} (ek : kvs.map (·.1) = ks.map kD) : kvs = [] ∧ ks = [] := by
  obtain ⟨k0, km⟩ := kinds_mem h
  cases kvs with
  | nil => cases ks with
    | nil => exact ⟨rfl, rfl⟩
    | cons _ _ => simp at ek
  | cons p t => cases ks with
    | nil => simp at ek
    | cons k1 ks =>
      simp only [List.map_cons, List.cons.injEq] at ek
      have := km p (by simp)
      rw [ek.1, keyKind_k, keyKind_t] at this
      cases this
end
section
variable {X : Cx}
theorem m2_dget (hu : X.A.units + 1 < cLine) : M2 X "dict.get" gDGet := by
  intro pins s σ H x xs v us Q I rx rv ⟨mp, h, dx, ds, r, ax, a, p⟩
  unfold gDGet at p
  split at p
  · rename_i k d
    cases ed : asD h dx with
    | none => rw [ed] at p; exact p.elim
    | some kvs =>
      rw [ed, Option.bind_some] at p
      split at p
      · rename_i hk
        obtain ⟨w1, w2, rfl, rk, rd⟩ := a.two
        obtain ⟨u1, u2, rfl, ru1, ru2⟩ := L2.vals2 rv
        obtain ⟨pa, rfl, c⟩ := asD_ok r ax ed
        obtain rfl : v = Value.ref pa := rx
        obtain ⟨H1, o, I1, g, back, z⟩ := dic_ask I c hk rk
        refine d_get2 hu I1 g ru1 ru2 fun w' s' I' rw' => ?_
        rcases z with ⟨e1, rfl⟩ | ⟨d', v', e1, rfl, rd'⟩
        · rw [e1] at p
          exact ⟨w2, H, back s' I', rw', p _ mp H .refl r rd⟩
        · rw [e1] at p
          exact ⟨v', H, back s' I', rw', p _ mp H .refl r rd'⟩
      · exact p.elim
  · exact p.elim
theorem m2_dpop (hu : X.A.units + 1 < cLine) : M2 X "dict.pop" gDPop := by
  intro pins s σ H x xs v us Q I rx rv ⟨mp, h, dx, ds, r, ax, a, p⟩
  unfold gDPop at p
  split at p
  · rename_i l k
    split at p
    · rename_i kvs el
      split at p
      · rename_i hk
        cases eg : getD kvs k with
        | none => rw [eg] at p; exact p.elim
        | some d =>
          rw [eg, Option.map_some] at p
          cases ax with
          | @ref _ b m =>
            obtain ⟨w, rfl, rk⟩ := a.one
            obtain ⟨u1, rfl, ru⟩ := vals1 rv
            obtain rfl : v = Value.ref b := rx
            have c : DicAt X.K mp H kvs b := r.obj _ _ _ el m
            rcases key_cases (kinds_mem hk).1 with ⟨kk, rfl, qk⟩ | ⟨kk, rfl, qk⟩
            · have e3 := rp_key rk
              subst e3
              rcases c with ⟨ks, vs, e1, l', ek, ra⟩ | ⟨ks, vs, ne, e1, l', ek, ra⟩
              · rcases getD_k kk l' ek ra with ⟨h1, _⟩ | ⟨d', v', h1, h2, h3⟩
                · rw [eg] at h1; cases h1
                · rw [eg] at h1; cases h1
                  obtain ⟨ks', vs', b1, b2, b3, b4⟩ := dropKV_g keyEq_k (k := kk) l' ek ra
                  have le := le_set r (o := .dK (dropK (ks.zip vs) kk)) m
                  refine d_pop I e1 ru h2 (.inl rfl) fun w' s' I' rw' => ⟨v', _, I', rw', p _ mp _ le (r.set m (.inl ⟨ks', vs', ?_, b2, b3, b4.mono le⟩)) (h3.mono le)⟩
                  rw [upd_same, b1]
              · exact (kk_kind hk ne ek).elim
            · obtain ⟨bk, rfl, hb, nb⟩ := rp_tkey rk
              rcases c with ⟨ks, vs, e1, l', ek, ra⟩ | ⟨ks, vs, ne, e1, l', ek, ra⟩
              · obtain ⟨rfl, rfl⟩ := kt_kind hk ek
                cases eg
              · rcases getD_t kk l' ek ra with ⟨h1, _⟩ | ⟨d', v', h1, h2, h3⟩
                · rw [eg] at h1; cases h1
                · rw [eg] at h1; cases h1
                  obtain ⟨ks', vs', b1, b2, b3, b4⟩ := dropKV_g keyEq_t (k := kk) l' ek ra
                  obtain rfl : u1 = Value.ref bk := ru
                  obtain ⟨z, hd, xs', rel, dd⟩ := dt_of I.hok e1
                  have hz : xs'.length ≤ sizeLine := by rw [← Paired.length rel]; exact z
                  have q := rel.val kk
                  rw [h2] at q
                  cases hp : atKey xs' kk with
                  | none => rw [hp] at q; exact (show False from q).elim
                  | some pp =>
                    rw [hp] at q
                    refine call_pop_heap (k := kk) (p := pp) (more := []) (.inl rfl) (PySem.F.args_dict_pop_2 _ _) (tupleKind_room_in1 hu) (key_of I.hok hb) hd dd hp (fun h' dd' hs => ?_) hz
                    obtain ⟨q0, es, ep, hq, h2', h3', h4', _, h5'⟩ := dd'
                    have I2 : Inv X pins σ (upd H b (.dT (dropK (ks.zip vs) kk))) { s with heap := h', toks := s.toks + (tupleKind (mixKind X.prog X.w)).draws kk } :=
                      d_write I (by rw [e1]; exact True.intro) hs ⟨q0, hq⟩ ⟨Nat.le_trans (dropK_le _ kk) z, hd, _, (DX.KT_drop kk rel).keeps (fun c ys ec => (by rw [upd_ne (ne_of ec e1 (fun z => nomatch z))]; exact ec)), q0, es, ep, hq, h2', h3', h4', h5'⟩
                    by_cases hn : dropKV kvs (kT kk) = []
                    · have hz2 : ks' = [] := by
                        have b3' := b3
                        rw [hn] at b3'
                        cases ks' with
                        | nil => rfl
                        | cons _ _ => simp at b3'
                      subst hz2
                      have hv : vs' = [] := by cases vs' with
                        | nil => rfl
                        | cons _ _ => simp at b2
                      subst hv
                      rw [b1] at I2
                      have I3 := inv_TK I2 upd_same
                      rw [upd_upd] at I3
                      have le := le_set r (o := .dK []) m
                      refine ⟨v', _, I3, q, p _ mp _ le (r.set m (.inl ⟨[], [], upd_same, rfl, by rw [hn]; rfl, by rw [hn]; exact .nil⟩)) (h3.mono le)⟩
                    · have le := le_set r (o := .dT (dropK (ks.zip vs) kk)) m
                      refine ⟨v', _, I2, q, p _ mp _ le (r.set m (.inr ⟨ks', vs', hn, ?_, b2, b3, b4.mono le⟩)) (h3.mono le)⟩
                      rw [upd_same, b1]
      · exact p.elim
    · exact p.elim
  · exact p.elim
theorem m2_dsetd (hu : X.A.units + 1 < cLine) : M2 X "dict.setdefault" gDSetd := by
  intro pins s σ H x xs v us Q I rx rv ⟨mp, h, dx, ds, r, ax, a, p⟩
  unfold gDSetd at p
  split at p
  · rename_i l k d
    split at p
    · rename_i kvs el
      split at p
      · rename_i hk
        obtain ⟨hk, hsz⟩ := hk
        cases ax with
        | @ref _ b m =>
          obtain ⟨w, w2, rfl, rk, rd⟩ := a.two
          obtain ⟨u1, u2, rfl, ru, ru2⟩ := L2.vals2 rv
          obtain rfl : v = Value.ref b := rx
          have c : DicAt X.K mp H kvs b := r.obj _ _ _ el m
          have zl : ∀ {α : Type} {ks : List α} {vs : List V} {f : α → D}, ks.length = vs.length → kvs.map (·.1) = ks.map f → (ks.zip vs).length < sizeLine := by
            intro α ks vs f l ek
            have := congrArg List.length ek
            simp only [List.length_map] at this
            rw [List.length_zip, ← l, Nat.min_self, ← this]; exact hsz
          rcases key_cases (kinds_mem hk).1 with ⟨kk, rfl, qk⟩ | ⟨kk, rfl, qk⟩
          · have e3 := rp_key rk
            subst e3
            rcases c with ⟨ks, vs, e1, l', ek, ra⟩ | ⟨ks, vs, ne, e1, l', ek, ra⟩
            · refine d_setd I e1 ru ru2 (zl l' ek) (fun v1 hv w' s' I' rw' => ?_) fun hn w' s' I' rw' => ?_
              · rcases getD_k kk l' ek ra with ⟨h1, h2⟩ | ⟨d', v', h1, h2, h3⟩
                · rw [hv] at h2; cases h2
                · rw [hv] at h2; cases h2
                  rw [h1] at p
                  exact ⟨v1, H, I', rw', p _ mp H .refl r h3⟩
              · rcases getD_k kk l' ek ra with ⟨h1, h2⟩ | ⟨d', v', h1, h2, h3⟩
                · rw [h1] at p
                  obtain ⟨ks', vs', b1, b2, b3, b4⟩ := putKV_g keyEq_k (k := kk) rd l' ek ra
                  have le := le_set r (o := .dK (putK (ks.zip vs) kk w2)) m
                  refine ⟨w2, _, I', rw', p _ mp _ le (r.set m (.inl ⟨ks', vs', ?_, b2, b3, b4.mono le⟩)) (rd.mono le)⟩
                  rw [upd_same, b1]
                · rw [hn] at h2; cases h2
            · exact (kk_kind hk ne ek).elim
          · obtain ⟨bk, rfl, hb, nb⟩ := rp_tkey rk
            have hba : bk ≠ b := fun z => nb (by rw [z]; exact r.sub _ (List.mem_of_getElem? m))
            obtain rfl : u1 = Value.ref bk := ru
            rcases c with ⟨ks, vs, e1, l', ek, ra⟩ | ⟨ks, vs, ne, e1, l', ek, ra⟩
            · obtain ⟨rfl, rfl⟩ := kt_kind hk ek
              have e1' : H b = some (.dK []) := e1
              have I1 := inv_KT I e1'
              have hb1 : upd H b (.dT []) bk = some (.tup (kk.map kV)) := by rw [upd_ne hba]; exact hb
              obtain ⟨z, hd, xs', rel, dd⟩ := dt_of I1.hok upd_same
              have hz : xs'.length ≤ sizeLine := by rw [← Paired.length rel]; exact z
              have xn : xs' = [] := by cases rel; rfl
              subst xn
              refine call_setdefault_heap (k := kk) (tupleKind_room_in1 hu) (key_of I1.hok hb1) hd dd (fun pp hp => nomatch hp) (fun _ h' dd' hs => ?_) hz
              obtain ⟨q0, es, ep, hq, h2', h3', h4', _, h5'⟩ := dd'
              have I2 : Inv X pins σ (upd (upd H b (.dT [])) b (.dT (putK [] kk w2))) { s with heap := h', toks := s.toks + (tupleKind (mixKind X.prog X.w)).draws kk } :=
                d_write I1 (by rw [upd_same]; exact True.intro) hs ⟨q0, hq⟩ ⟨by rw [sizeLine_eq]; simp [putK], hd, _, (KT.put rel kk hb1 ru2).keeps (fun c ys ec => (by rw [upd_ne (ne_of ec upd_same (fun z => nomatch z))]; exact ec)), q0, es, ep, hq, h2', h3', h4', h5'⟩
              rw [upd_upd] at I2
              have le := le_set r (o := .dT (putK [] kk w2)) m
              refine ⟨w2, _, I2, ru2, p _ mp _ le (r.set m (.inr ⟨[kk], [w2], by simp [putKV], ?_, rfl, rfl, RpAll.mono le (.cons rd .nil)⟩)) (rd.mono le)⟩
              rw [upd_same]; rfl
            · obtain ⟨z, hd, xs', rel, dd⟩ := dt_of I.hok e1
              have hz : xs'.length ≤ sizeLine := by rw [← Paired.length rel]; exact z
              refine call_setdefault_heap (k := kk) (tupleKind_room_in1 hu) (key_of I.hok hb) hd dd (fun pp hp => ?_) (fun hn h' dd' hs => ?_) hz
              · have q := rel.val kk
                rw [hp] at q
                rcases getD_t kk l' ek ra with ⟨h1, h2⟩ | ⟨d', v', h1, h2, h3⟩
                · rw [h2] at q; exact (show False from q).elim
                · rw [h2] at q
                  rw [h1] at p
                  exact ⟨v', H, I.tok _, q, p _ mp H .refl r h3⟩
              · have q := rel.val kk
                rw [hn] at q
                rcases getD_t kk l' ek ra with ⟨h1, h2⟩ | ⟨d', v', h1, h2, h3⟩
                · rw [h1] at p
                  obtain ⟨q0, es, ep, hq, h2', h3', h4', _, h5'⟩ := dd'
                  have hl2 : (putK (ks.zip vs) kk w2).length ≤ sizeLine := by
                    have := length_putK (ks.zip vs) kk w2
                    have := zl l' ek
                    omega
                  have I2 : Inv X pins σ (upd H b (.dT (putK (ks.zip vs) kk w2))) { s with heap := h', toks := s.toks + (tupleKind (mixKind X.prog X.w)).draws kk } :=
                    d_write I (by rw [e1]; exact True.intro) hs ⟨q0, hq⟩ ⟨hl2, hd, _, (KT.put rel kk hb ru2).keeps (fun c ys ec => (by rw [upd_ne (ne_of ec e1 (fun z => nomatch z))]; exact ec)), q0, es, ep, hq, h2', h3', h4', h5'⟩
                  obtain ⟨ks', vs', b1, b2, b3, b4⟩ := putKV_g keyEq_t (k := kk) rd l' ek ra
                  have le := le_set r (o := .dT (putK (ks.zip vs) kk w2)) m
                  refine ⟨w2, _, I2, ru2, p _ mp _ le (r.set m (.inr ⟨ks', vs', putKV_ne _ _ _, ?_, b2, b3, b4.mono le⟩)) (rd.mono le)⟩
                  rw [upd_same, b1]
                · rw [h2] at q; exact (show False from q).elim
      · exact p.elim
    · exact p.elim
  · exact p.elim
end
end Mi
namespace Mi
open PySem PySem.Spec PyProof.Rows L2
/-! ### the keys of a dict, as values -/
theorem rel_keys {K : PySem.W.Frag} {mp : Wd} {H : Hp} : ∀ ks : List Key, RpAll K mp H (ks.map kD) (ks.map kV)
  | [] => .nil
  | k :: ks => .cons (match k with
    | .inl i => .int i
    | .inr x => .str x) (rel_keys ks)
theorem pairs_keys {P : Program} {w : World} : ∀ {es : List DictEntry} {ws : List (Key × Value)}, Pairs (mixKind P w) es ws → es.length = ws.length ∧ Vals ((ws.map (·.1)).map kV) (es.map (·.key))
  | _, _, .nil => ⟨rfl, .nil⟩
  | _, _, .cons h1 h2 t => ⟨by simp [(pairs_keys t).1], .cons (keyIs_rel h1) (pairs_keys t).2⟩
theorem keys_rel {K : PySem.W.Frag} {mp : Wd} {h : Hq} {H : Hp} (r : HRel K mp h H) : ∀ {kv : List (List Key × V)} {bs : List Addr}, Paired (fun p b => H b = some (.tup (p.1.map kV))) kv bs → RpAll K mp H (kv.map fun p => .tup (p.1.map kD)) (bs.map V.ref)
  | _, _, .nil => .nil
  | _, _, .cons (a := p) (b := b) h1 t => .cons (.tup h1 (fun hb => by
      obtain ⟨u, hu, nt⟩ := r.there _ hb
      rw [h1] at hu
      exact nt.1 _ (Option.some.inj hu).symm) (rel_keys p.1)) (keys_rel r t)
/-- the entries of the dict at a: keys us, which stand for xs -/
theorem dic_keys {X : Cx} {pins : List (Addr × Obj)} {σ : L2.St} {H : Hp} {s : Shared} {mp : Wd} {h : Hq} {kvs : List (D × D)} {a : Addr} (I : Inv X pins σ H s) (r : HRel X.K mp h H) (c : DicAt X.K mp H kvs a) :
    ∃ (o : Obj) (es : Array DictEntry) (ep : Nat) (xs : List V), (a == sysModules) = false ∧ s.heap.get? a = some o ∧ o.ExactDict ∧ o.data = .dict es ep ∧ es.size ≤ sizeLine ∧ Vals xs (es.toList.map (·.key)) ∧ RpAll X.K mp H (kvs.map (·.1)) xs := by
  rcases c with ⟨ks, vs, e1, l, ek, ra⟩ | ⟨ks, vs, ne, e1, l, ek, ra⟩
  · obtain ⟨z, lo, ws, rel, o, es, ep, ho, hx, hd, _, pr, _⟩ := dk_of I.hok e1
    have lk : (ks.zip vs).map (·.1) = ks := List.map_fst_zip (by omega)
    have hks : ws.map (·.1) = ks := by rw [← rel.keys]; exact lk
    obtain ⟨p1, p2⟩ := pairs_keys pr
    rw [hks] at p2
    refine ⟨o, es, ep, ks.map kV, lo, ho, hx, hd, ?_, p2, ?_⟩
    · rw [Array.length_toList] at p1
      rw [p1, ← rel.length]; exact z
    · rw [ek]; exact rel_keys ks
  · obtain ⟨z, lo, xs', rel, o, es, ep, ho, hx, hd, he, _, _⟩ := dt_of I.hok e1
    have lk : (ks.zip vs).map (·.1) = ks := List.map_fst_zip (by omega)
    refine ⟨o, es, ep, (xs'.map fun x => x.2.1).map V.ref, lo, ho, hx, hd, ?_, ?_, ?_⟩
    · rw [size_of_entries he, ← Paired.length rel]; exact z
    · rw [he]
      have e0 : (xs'.map (entryOfKey (tupleKind (mixKind X.prog X.w)))).map (·.key) = (xs'.map fun x => x.2.1).map Value.ref := by rw [List.map_map, List.map_map]; rfl
      rw [e0]
      exact vals_refs (xs'.map fun x => x.2.1)
    · rw [ek]
      have pk := keys_rel r (isKeys_of rel)
      rw [show (ks.zip vs).map (fun p => D.tup (p.1.map kD)) = ((ks.zip vs).map (·.1)).map (fun k => D.tup (k.map kD)) by rw [List.map_map]; rfl, lk] at pk
      exact pk
/-! ### sorted(d) -/
def gSortedD (ds : List D) (h : Hq) : Option (D × Hq) := match ds with
  | [d] => (match asD h d with
    | some kvs => if sortOk (kvs.map (·.1)) = true then some (.lst ((kvs.map (·.1)).mergeSort leD), h) else none
    | none => gSorted [d] h)
  | _ => none
theorem c1_sortedD {X : Cx} (hc : X.calm = true) (hu : X.A.units + 64 < cLine) : C1 X (.builtin "sorted") gSortedD := by
  intro pins s σ H xs us Q I rv ⟨mp, h, ds, r, a, p⟩
  unfold gSortedD at p
  split at p
  · rename_i d
    split at p
    · rename_i kvs e
      obtain ⟨v, rfl, q⟩ := a.one
      split at p
      · rename_i hk
        obtain ⟨pa, rfl, c⟩ := asD_ok r q e
        obtain ⟨u, rfl, ru⟩ := vals1 rv
        obtain rfl : u = Value.ref pa := ru
        obtain ⟨o, es, ep, xs, lo, ho, hx, hd, hz, rel, ra⟩ := dic_keys I r c
        refine Calls.call_function_entry kind_sorted plain_sorted entry_sorted (args_sorted1 _) ?_
        unfold Builtin.«sorted»
        refine wpAny_bind (m := checkCount "sorted" 1 1 _) (wpAny_pure ?_)
        refine wpAny_bind (PySem.W.kdu_collect (A := X.A.in1) (kdl_raw lo hx hd) (I.ok.hd hc) ho hz fun h' tk acc hkp hacc => ?_)
        have ea : acc.toList = es.toList.map (·.key) := by
          apply List.ext_getElem?
          intro j
          rw [List.getElem?_map]
          cases hj : acc.toList[j]? with
          | none =>
            have h1 := List.getElem?_eq_none_iff.mp hj
            rw [Array.length_toList, hacc.1] at h1
            rw [List.getElem?_eq_none (by rw [Array.length_toList]; exact h1)]; rfl
          | some v =>
            obtain ⟨en, hen, hv⟩ := hacc.2 j v (by rw [← Array.getElem?_toList]; exact hj)
            rw [Array.getElem?_toList, hen, hv]; rfl
        rw [ea]
        obtain ⟨ks, hks⟩ : ∃ ks, ks = es.toList.map (·.key) := ⟨_, rfl⟩
        rw [← hks] at rel ⊢
        have hzi : ks.length ≤ sizeLine := by rw [hks, List.length_map, Array.length_toList]; exact hz
        have I1 : Inv X pins σ H { s with heap := h', toks := tk } := I.kept hkp
        refine wpAny_bind (wpAny_newList ?_ hzi)
        have hoL : (h'.push (seqObj "list" ks.toArray 0)).get? h'.objs.size = some (seqObj "list" ks.toArray 0) := Heap.get?_push_size _ rfl
        show wpAny _ _ _ _ _ { s with heap := h'.push (seqObj "list" ks.toArray 0), toks := tk }
        obtain ⟨h1, h2, h3, h4⟩ := sort_parts hk
        have er := each_reads I1 ra rel h1
        have ev := each_of ra rel
        have old : ∀ b ob, h'.get? b = some ob → (PySem.W.sortingHeap (h'.push (seqObj "list" ks.toArray 0)) h'.objs.size ks).get? b = some ob := fun b ob z => PySem.W.sortingHeap_old (Nat.ne_of_lt (Heap.lt_size z)) (Heap.get?_push_of_some _ z)
        have er2 := each_mono (s' := { s with heap := PySem.W.sortingHeap (h'.push (seqObj "list" ks.toArray 0)) h'.objs.size ks, toks := tk }) old er
        refine wpAny_bind (wpAny_holding (wpAny_call_entry slot_list_sort ⟨_, hoL, rfl⟩ entry_list_sort
          (PySem.W.list_sort_vals (κ := PySem.W.dataKind (PySem.W.sortingHeap (h'.push (seqObj "list" ks.toArray 0)) h'.objs.size ks) ((kvs.map (·.1)).map encD)) (s := { s with heap := h'.push (seqObj "list" ks.toArray 0), toks := tk }) hoL (sorts_at er2 hk (by show X.A.in1.in1.units + 60 < cLine; have : X.A.in1.in1.units = X.A.units + 1 + 1 := rfl; omega)) hzi ⟨_, rfl, ?_⟩)
          (args_list_sort _)))
        have eo := PySem.W.sortVals_data false ev er2 h2
        rw [leD_eq] at eo
        obtain ⟨ovs, o1, o2⟩ := of_each eo
        obtain ⟨c', hc'⟩ := PyProof.Rows.sortedHeap_at (vs := ks) (out := (PySem.W.sortVals (PySem.W.dataKind (PySem.W.sortingHeap (h'.push (seqObj "list" ks.toArray 0)) h'.objs.size ks) ((kvs.map (·.1)).map encD)) false ks ks).toArray) hoL
        have hp := I1.hok.fresh (Nat.le_refl _)
        obtain ⟨l1, l2, l3⟩ := newL r hp o2
        refine wpAny_pure ⟨_, rfl, .ref h'.objs.size, upd H h'.objs.size (.lst ovs), I1.laid (t' := tk) (fun b ob z => ?_) (Nat.le_refl _) ⟨?_, _, c', o1, hc'⟩, rfl, p _ mp _ l1 l2 l3⟩
        · have hb : b < h'.objs.size := Heap.lt_size z
          rw [PyProof.Rows.sortedHeap_old (Nat.ne_of_lt hb) (by rw [size_push']; exact Nat.lt_succ_of_lt hb)]
          exact Heap.get?_push_of_some _ z
        · rw [← o2.length, List.length_mergeSort, ra.length, rel.length]
          exact hzi
      · exact p.elim
    · exact c1_sorted hu pins s σ H xs us Q I rv ⟨mp, h, _, r, a, p⟩
  · exact p.elim
end Mi
namespace Mi
open PySem PySem.Spec PyProof.Rows L2
/-! ### [k[0] for k in d] -/
def iKeysL (td : TE) : TI := fun σ H R => td σ H fun x H1 => ∃ d u, x = .ref d ∧ H1 d = some u ∧ ((∃ kvs, u = .dK kvs ∧ ∀ o, R (Itk d o kvs) (upd H1 d (.frz o u))) ∨ ∃ kvs, u = .dT kvs ∧ ∀ o, R (Itkt d o kvs) (upd H1 d (.frz o u)))
def tUnl (t : TE) : TE := fun σ H Q => ∃ d u, H d = some u ∧ Mut (some u) ∧ t σ H fun v H' => ∃ o u', H' d = some (.frz o u') ∧ Q v (upd H' d u')
section
variable {X : Cx} {tg e : Expr} {td : TE}
theorem pi_keysL (he : PE X e td) : PI X tg e (iKeysL td) := by
  refine ⟨fun pins s σ H R I h => ?_⟩
  refine thn (he.run pins s σ H _ I h) fun u s1 ⟨x, H1, I1, rx, d, w, ex, hd, q⟩ => ?_
  subst ex
  obtain rfl : u = Value.ref d := rx
  rcases q with ⟨kvs, rfl, q⟩ | ⟨kvs, rfl, q⟩
  · obtain ⟨od, I2⟩ := I1.lock hd trivial
    obtain ⟨hs, hgd, hx, es, ep, vs, hdt, hsz, kv, hm⟩ := I2.frzK upd_same
    refine iter_keys hs hgd hx hdt (pi_one (tk := s1.toks) I2 _ (turn_keys _ hdt) ⟨_, Heap.get?_push_size _ rfl, rfl, ?_⟩ (q od))
    rw [hsz] <;> rfl
  · obtain ⟨od, I2⟩ := I1.lock hd trivial
    obtain ⟨hs, hgd, hx, es, ep, hdt, hsz, ent⟩ := I2.frzT upd_same
    refine iter_keys hs hgd hx hdt (pi_one (tk := s1.toks) I2 _ (turn_keysT _ hdt) ⟨_, Heap.get?_push_size _ rfl, rfl, ?_⟩ (q od))
    rw [hsz] <;> rfl
theorem pe_unl {t : TE} (h : PE X e t) : PE X e (tUnl t) := by
  refine ⟨fun pins s σ H Q I hw => ?_⟩
  obtain ⟨d, u, hd, mu, hw⟩ := hw
  refine thn (h.run pins s σ _ _ I hw) fun v s1 ⟨x, H1, I2, r, o, u', e2, q⟩ => ?_
  exact ⟨x, _, I2.unlock e2 (I.nofrz hd mu), r, q⟩
end
def first1 : D → Option D
  | .tup (x :: _) => some x
  | _ => none
def firsts : List (D × D) → Option (List D)
  | [] => some []
  | p :: kvs => match first1 p.1, firsts kvs with
    | some a, some b => some (a :: b)
    | _, _ => none
def mKeys0 (i : Nat) (f : Ev D) : Ev D := fun ρ h => match f ρ h with
  | .ok (.ref l) h1 => (match h[l]?, h1[l]? with
    | some (.dic _), some (.dic kvs) => (match firsts kvs with
      | some ys => if i < ρ.length ∧ kvs.length ≤ 1000000 then .ok (.lst ys) h1 else .bad
      | none => .bad)
    | _, _ => .bad)
  | _ => .bad
theorem firsts_t {K : PySem.W.Frag} {mp : Wd} {H : Hp} : ∀ {kvs : List (D × D)} {ks : List (List Key)} {ys : List D}, kvs.map (·.1) = ks.map (fun k => .tup (k.map kD)) → firsts kvs = some ys → ∃ fs : List Key, ks.map (·.head?) = fs.map some ∧ ys = fs.map kD
  | [], [], _, _, e => by cases e; exact ⟨[], rfl, rfl⟩
  | [], _ :: _, _, e, _ => by simp at e
  | _ :: _, [], _, e, _ => by simp at e
  | p :: kvs, k :: ks, ys, e, h => by
    simp only [List.map_cons, List.cons.injEq] at e
    simp only [firsts] at h
    rw [e.1] at h
    cases k with
    | nil => simp [first1] at h
    | cons k0 k =>
      simp only [List.map_cons, first1] at h
      split at h
      · rename_i a b e1 e2
        cases h; cases e1
        obtain ⟨fs, h1, h2⟩ := firsts_t (K := K) (mp := mp) (H := H) e.2 e2
        exact ⟨k0 :: fs, by simp [h1], by simp [h2]⟩
      · cases h
theorem mut_dic {K : PySem.W.Frag} {mp : Wd} {H : Hp} {kvs : List (D × D)} {a : Addr} (c : DicAt K mp H kvs a) : ∃ u, H a = some u ∧ Mut (some u) := by
  rcases c with ⟨ks, vs, e1, _⟩ | ⟨ks, vs, _, e1, _⟩
  · exact ⟨_, e1, trivial⟩
  · exact ⟨_, e1, trivial⟩
section
variable {X : Cx} {W : WX} {iter : Expr} {scope : Scope} {f : Ev D} {x : Str} {i k : Nat} {p1 p2 p3 p4 pos : Pos}
theorem upd_mid {H : Hp} {d D0 : Addr} {u v w : HO} (h : H d = some u) (ne : D0 ≠ d) : upd (upd (upd H d v) D0 w) d u = upd H D0 w := by
  funext b
  by_cases hb : b = d
  · subst hb; rw [upd_same, upd_ne (Ne.symm ne), h]
  · rw [upd_ne hb]
    by_cases hd : b = D0
    · subst hd; rw [upd_same, upd_same]
    · rw [upd_ne hd, upd_ne hd, upd_ne hb]
theorem se_keys0 (hc : X.calm = true) (hN : X.N.Nodup) (he : SE X W iter f) (ok : BlkOk X.N X.env.scope scope [(x, i)])
    (hg : ∀ (s : Shared) (H : Hp) (C : Addr) (cl : List (Str × Addr)) (fp : List Addr), PG (X.blk s H scope (compEnvC scope cl C X.env) fp) (.Name x p4) (gName i))
    (hv : ∀ (s : Shared) (H : Hp) (C : Addr) (cl : List (Str × Addr)) (fp : List Addr), PE (X.blk s H scope (compEnvC scope cl C X.env) fp) (.Name x p1) (tVar i))
    (hs : ∀ z, foldedSetIterable iter X.env z = pure z := by intro _; rfl) :
    SE X W (.ListComp (.Subscript (.Name x p1) (.Constant (.int 0) k p2) p3) [⟨.Name x p4, iter, [], 0⟩] scope pos) (mKeys0 i f) :=
  PE.imp (pe_unl (pe_lc hc hN (pi_keysL he) ok hg (fun _ _ _ _ _ => pts_nil) (fun s H C cl fp => pe_ix (r := rIxT X.K) (ix_tup (X := X.blk s H scope (compEnvC scope cl C X.env) fp)) (hv s H C cl fp) pe_int (fun _ _ => rfl)) hs)) fun σ H Q ⟨ρ, h, mp, r, en, p⟩ => by
    unfold mKeys0 at p
    cases ef : f ρ h with
    | bad => rw [ef] at p; exact p.elim
    | exc c h1 => rw [ef] at p; exact p.elim
    | ok dd h1 =>
      rw [ef] at p
      cases dd with
      | ref l =>
        dsimp only at p
        split at p
        · rename_i kv0 kvs e0 e1
          split at p
          · rename_i ys ey
            split at p
            · rename_i hil
              obtain ⟨hil, hsz⟩ := hil
              obtain ⟨d, hd⟩ : ∃ d, mp.pl[l]? = some d := by
                have : l < mp.pl.length := by rw [r.len]; exact (List.getElem?_eq_some_iff.mp e0).1
                exact ⟨_, List.getElem?_eq_getElem this⟩
              obtain ⟨u0, hu0, mu0⟩ := mut_dic (K := X.K) (mp := mp) (r.obj _ _ _ e0 hd)
              refine ⟨d, u0, hu0, mu0, ρ, h, mp, r, en, ?_⟩
              rw [ef]
              intro v mp1 H1 le1 r1 a1
              cases a1 with
              | @ref _ d' m1 =>
                have hdd : d' = d := by
                  have := le1.get hd
                  rw [this] at m1
                  exact (Option.some.inj m1).symm
                subst hdd
                have c : DicAt X.K mp1 H1 kvs d' := r1.obj _ _ _ e1 m1
                rcases c with ⟨ks, vs, e2, l2, ek, ra⟩ | ⟨ks, vs, ne, e2, l2, ek, ra⟩
                · have kn : kvs = [] ∧ ks = [] := by
                    cases kvs with
                    | nil => cases ks with
                      | nil => exact ⟨rfl, rfl⟩
                      | cons _ _ => simp at ek
                    | cons q kvs => cases ks with
                      | nil => simp at ek
                      | cons k1 ks =>
                        simp only [List.map_cons, List.cons.injEq] at ek
                        simp only [firsts] at ey
                        rw [ek.1] at ey
                        cases k1 <;> simp [kD, first1] at ey
                  obtain ⟨rfl, rfl⟩ := kn
                  cases ey
                  refine ⟨d', _, rfl, e2, .inl ⟨_, rfl, fun o D0 hD => ?_⟩⟩
                  have ne : D0 ≠ d' := fun z => by rw [z, upd_same] at hD; cases hD
                  have hD1 : H1 D0 = none := by rw [upd_ne ne] at hD; exact hD
                  refine ⟨fun j m Hj => j = 0 ∧ Hj = upd (upd H1 d' (.frz o (.dK ([].zip vs)))) D0 (.lst []), ⟨0, rfl, rfl⟩, fun j m Hj ⟨e3, e4⟩ => .inl ⟨⟨?_, ?_⟩, o, .dK ([].zip vs), ?_, ?_⟩⟩
                  · rw [e4, upd_ne (Ne.symm ne), upd_same]
                  · exact Nat.zero_le _
                  · rw [e4, upd_ne (Ne.symm ne), upd_same]
                  · rw [e4, upd_mid e2 ne]
                    obtain ⟨l1, l3, l4⟩ := newL r1 hD1 (RpAll.nil (K := X.K) (mp := mp1) (H := H1))
                    exact p _ mp1 _ (le1.trans l1) l3 l4
                · obtain ⟨fs, ef1, ef2⟩ := firsts_t (K := X.K) (mp := mp1) (H := H1) ek ey
                  have lk : (ks.zip vs).map (·.1) = ks := List.map_fst_zip (by omega)
                  have lz : (ks.zip vs).length = ks.length := by rw [List.length_zip]; omega
                  have lf : fs.length = ks.length := by
                    have := congrArg List.length ef1
                    simpa using this.symm
                  have hzz : ks.length ≤ sizeLine := by
                    have := congrArg List.length ek
                    simp only [List.length_map] at this
                    rw [← this, sizeLine_eq]; omega
                  refine ⟨d', _, rfl, e2, .inr ⟨_, rfl, fun o D0 hD => ?_⟩⟩
                  have ne : D0 ≠ d' := fun z => by rw [z, upd_same] at hD; cases hD
                  have hD1 : H1 D0 = none := by rw [upd_ne ne] at hD; exact hD
                  have atd : ∀ w, upd (upd H1 d' (.frz o (.dT (ks.zip vs)))) D0 w d' = some (.frz o (.dT (ks.zip vs))) := fun w => by rw [upd_ne (Ne.symm ne), upd_same]
                  refine ⟨fun j m Hj => j ≤ ks.length ∧ m = ks.length - j ∧ Hj = upd (upd H1 d' (.frz o (.dT (ks.zip vs)))) D0 (.lst ((fs.take j).map kV)), ⟨ks.length, Nat.zero_le _, rfl, rfl⟩, fun j m Hj ⟨e3, e4, e5⟩ => ?_⟩
                  by_cases hj : j < ks.length
                  · refine .inr ⟨⟨by rw [e5]; exact atd _, by rw [lz]; exact hj⟩, fun Hn => Hn = upd (upd H1 d' (.frz o (.dT (ks.zip vs)))) D0 (.lst ((fs.take (j + 1)).map kV)), fun Hn hHn => ⟨ks.length - (j + 1), by omega, by omega, rfl, hHn⟩, fun y Hy hy => ?_⟩
                    obtain ⟨eH, kk, vv, q, g1, rfl, g2⟩ := hy
                    subst eH
                    have gk : ks[j]? = some kk := by rw [← lk, List.getElem?_map, g1]; rfl
                    obtain ⟨k0, gk0, hk0⟩ : ∃ k0, fs[j]? = some k0 ∧ kk.head? = some k0 := by
                      have := congrArg (·[j]?) ef1
                      simp only [List.getElem?_map, gk, Option.map_some] at this
                      cases hf : fs[j]? with
                      | none => rw [hf] at this; cases this
                      | some k0 => rw [hf] at this; exact ⟨k0, rfl, by simpa using this⟩
                    have hsl : i < (wipe σ [i]).length := by rw [wipe_length, ← en.len]; exact hil
                    simp only [gName, tYes, List.map_cons, List.map_nil]
                    refine ⟨wipe_same (by rw [List.length_set, wipe_length]) fun jj hjj => by rw [List.getElem?_set_ne (fun z => hjj (by simp [z]))], ?_⟩
                    simp only [if_true]
                    refine ⟨.ref q, by rw [List.getElem?_set_self hsl], q, kk.map kV, 0, kV k0, rfl, rfl, SqT.of g2, ?_, (fs.take j).map kV, ?_, ?_, ?_⟩
                    · cases kk with
                      | nil => cases hk0
                      | cons a b => cases hk0; exact atI_nat (i := 0) rfl
                    · rw [e5, upd_same]
                    · rw [List.length_map, List.length_take]; omega
                    · rw [e5, upd_upd]
                      congr 3
                      rw [List.take_succ, gk0, List.map_append]; rfl
                  · have hje : j = ks.length := by omega
                    subst hje
                    refine .inl ⟨⟨by rw [e5]; exact atd _, by rw [lz]; exact Nat.le_refl _⟩, o, .dT (ks.zip vs), by rw [e5]; exact atd _, ?_⟩
                    rw [e5, upd_mid e2 ne, List.take_of_length_le (by omega)]
                    rw [ef2] at p
                    obtain ⟨l1, l3, l4⟩ := newL r1 hD1 (rel_keys (K := X.K) (mp := mp1) (H := H1) fs)
                    exact p _ mp1 _ (le1.trans l1) l3 l4
            · exact p.elim
          · exact p.elim
        · exact p.elim
      | _ => exact p.elim
end
end Mi
namespace Mi
open PySem PySem.Spec L2
/-! ### what is not gone into -/
/-! ### l.index(x) -/
def gIndex (o : D) (ds : List D) (h : Hq) : Option (D × Hq) := match ds with
  | [y] => (match (nz h o).py, (nz h y).py with
    | some (.list zs), some d => if SeqAt.shaped (.list zs) = true ∧ SeqAt.shaped d = true then (zs.findIdx? fun z => PyData.eqv z d).map fun j => (.int (j : Nat), h) else none
    | _, _ => none)
  | _ => none
theorem m2_index {X : Cx} (hu : X.A.units + 65 < cLine) : M2 X "list.index" gIndex := by
  intro pins s σ H x xs v us Q I rx rv ⟨mp, h, dx, ds, r, ax, a, p⟩
  unfold gIndex at p
  split at p
  · rename_i y
    split at p
    · rename_i zs d e1 e2
      split at p
      · rename_i hs
        cases ej : zs.findIdx? fun z => PyData.eqv z d with
        | none => rw [ej] at p; exact p.elim
        | some j =>
          rw [ej, Option.map_some] at p
          obtain ⟨w, rfl, rk⟩ := a.one
          have d1 := ax.nz r e1
          have d2 := rk.nz r e2
          obtain ⟨hj, h1, h2⟩ := List.findIdx?_eq_some_iff_getElem.mp ej
          obtain ⟨pa, rfl⟩ : ∃ pa, x = .ref pa := by cases d1 with | lst _ _ => exact ⟨_, rfl⟩
          refine mt_indexD hu pins s σ H _ _ v us Q I rx rv ⟨pa, w, d, zs, j, zs[j], rfl, rfl, d1, d2, hs.1, hs.2, List.getElem?_eq_getElem hj, h1, fun m z' hm hz => ?_, p _ mp H .refl r (.int _)⟩
          have hml : m < zs.length := by omega
          rw [List.getElem?_eq_getElem hml] at hz
          cases hz
          simpa using h2 m hm
      · exact p.elim
    · exact p.elim
  · exact p.elim
/-! ### {"a": x, ..} -/
/-- the pairs of a display whose keys are texts -/
def SD (X : Cx) (W : WX) (pos : Pos) (keys : List (Option Expr)) (values : List Expr) (ks : List Str) (fa : Ev (List D)) : Prop :=
  keys.length = ks.length ∧ keys.all (·.isSome) = true ∧ keys.length = values.length ∧ ∃ trs, PPs X pos keys values trs ∧ ∀ ρ h mp σ H Q, HRel X.K mp h H → EnvRel X.K mp H ρ σ → Post X.K (rA X.K) mp H (fa ρ h) (fun vs H' => Q ((ks.map V.str).zip vs) H') (wE X.K W σ) → tPairs trs σ H Q
section
variable {X : Cx} {W : WX} {pos : Pos}
theorem sd_nil : SD X W pos [] [] [] mNil := ⟨rfl, rfl, rfl, [], pps_nil, fun ρ h mp σ H Q r en p => Post.ok (K := X.K) (R := rA X.K) (v := []) p r .nil⟩
theorem sd_cons {x : Str} {j : Nat} {p1 : Pos} {v : Expr} {fv : Ev D} {ks : List (Option Expr)} {vs : List Expr} {ns : List Str} {fs : Ev (List D)} (hv : SE X W v fv) (hr : SD X W pos ks vs ns fs) : SD X W pos (some (.Constant (.str x) j p1) :: ks) (v :: vs) (x :: ns) (mCons fv fs) := by
  obtain ⟨l1, l2, l3, trs, pp, rd⟩ := hr
  refine ⟨by simp [l1], by simp [l2], by simp [l3], _, pps_cons pe_str hv pp, fun ρ h mp σ H Q r en p => ?_⟩
  show tE X.K W fv σ H fun y H2 => tPairs trs σ H2 fun ps H3 => Q ((.str x, y) :: ps) H3
  refine ⟨ρ, h, mp, r, en, Post.mono (Post.bind p) fun y H1 ⟨mp1, h1, d1, le1, r1, q1, p1⟩ => ?_⟩
  refine rd ρ h1 mp1 σ H1 _ r1 (en.mono le1) (Post.mono (Post.bind (R := rA X.K) p1) fun ys H2 ⟨mp2, h2, d2, le2, r2, q2, p2⟩ => ?_)
  exact p2 _ mp2 H2 .refl r2 (RpAll.cons (q1.mono le2) q2)
/-- an address kept for oneself becomes a place -/
theorem HRel.place2 {K : PySem.W.Frag} {mp1 mp2 : Wd} {h1 h2 : Hq} {H1 H2 : Hp} {D0 : Addr} {o : O} (r1 : HRel K mp1 h1 H1) (hD : H1 D0 = none) (le2 : Le mp1 H1 mp2 H2) (r2 : HRel K mp2 h2 H2) (b1 : D0 ∈ mp2.bn) (b2 : D0 ∉ mp2.pl) (ro : ORel K mp2 H2 o D0) :
    Le mp1 H1 ⟨mp2.pl ++ [D0], mp2.bn⟩ H2 ∧ HRel K ⟨mp2.pl ++ [D0], mp2.bn⟩ (h2 ++ [o]) H2 ∧ Rp K ⟨mp2.pl ++ [D0], mp2.bn⟩ H2 (.ref h2.length) (.ref D0) := by
  have lk : Lk mp2 H2 ⟨mp2.pl ++ [D0], mp2.bn⟩ H2 := ⟨⟨[D0], rfl⟩, fun a o e n _ => ⟨e, n⟩⟩
  refine ⟨⟨?_, fun a o e n nb => le2.keep a o e n nb, fun a ha n => ?_⟩, ?_, .ref ?_⟩
  · obtain ⟨m, e3⟩ := le2.pre
    exact ⟨m ++ [D0], by simp [e3]⟩
  · obtain ⟨o1, o2, o3⟩ := le2.own a ha n
    refine ⟨o1, o2, fun z => ?_⟩
    rcases List.mem_append.mp z with z | z
    · exact o3 z
    · have e4 : a = D0 := by simpa using z
      exact r1.fresh hD (by rw [← e4]; exact ha)
  · refine ⟨by simp [r2.len], List.nodup_append.mpr ⟨r2.nd, by simp, fun a ha b hb z => ?_⟩, fun a ha => ?_, r2.there, fun l u a h3 h4 => ?_, r2.tabs⟩
    · have : b = D0 := by simpa using hb
      exact b2 (by rw [← this, ← z]; exact ha)
    · rcases List.mem_append.mp ha with z | z
      · exact r2.sub a z
      · have : a = D0 := by simpa using z
        rw [this]; exact b1
    · by_cases hl : l < h2.length
      · rw [List.getElem?_append_left hl] at h3
        rw [List.getElem?_append_left (by rw [r2.len]; exact hl)] at h4
        exact (r2.obj l u a h3 h4).monoK lk rfl
      · rw [List.getElem?_append_right (by omega)] at h3
        rw [List.getElem?_append_right (by rw [r2.len]; omega)] at h4
        rw [r2.len] at h4
        cases hn : l - h2.length with
        | zero =>
          rw [hn] at h3 h4
          simp at h3 h4
          subst h3; subst h4
          exact ro.monoK lk rfl
        | succ n => rw [hn] at h3; simp at h3
  · rw [← r2.len]; simp
def mDisp (ks : List Str) (fa : Ev (List D)) : Ev D := fun ρ h => (fa ρ h).bind fun ds h1 => if ds.length = ks.length ∧ ks.length ≤ 15 ∧ ks.Nodup then .ok (.ref h1.length) (h1 ++ [.dic ((ks.map D.str).zip ds)]) else .bad
theorem merge_new : ∀ (more kvs : List (Key × V)), (∀ p ∈ more, ∀ q ∈ kvs, q.1 ≠ p.1) → (more.map (·.1)).Nodup → mergeK kvs more = kvs ++ more
  | [], kvs, _, _ => by simp [mergeK]
  | p :: more, kvs, h, nd => by
    rw [List.map_cons, List.nodup_cons] at nd
    have e : putK kvs p.1 p.2 = kvs ++ [p] := by
      unfold putK
      rw [if_neg]
      intro z
      obtain ⟨q, hq, e⟩ := List.any_eq_true.mp z
      exact h p (by simp) q hq (by simpa using e)
    show mergeK (putK kvs p.1 p.2) more = _
    rw [e, merge_new more (kvs ++ [p]) (fun a ha q hq => ?_) nd.2]
    · simp
    · rcases List.mem_append.mp hq with hq | hq
      · exact h a (List.mem_cons_of_mem _ ha) q hq
      · have : q = p := by simpa using hq
        subst this
        exact fun z => nd.1 (by rw [z]; exact List.mem_map.mpr ⟨a, ha, rfl⟩)
theorem rpall_own {K : PySem.W.Frag} {mp : Wd} {H : Hp} {p : Addr} {o : HO} (hp : p ∈ mp.bn) {ds : List D} {vs : List V} (a : RpAll K mp H ds vs) : RpAll K mp (upd H p o) ds vs := a.monoK (lk_own hp)
theorem se_disp {keys : List (Option Expr)} {values : List Expr} {ks : List Str} {fa : Ev (List D)} (hs : SD X W pos keys values ks fa) (h0 : keys ≠ []) (h15 : ks.length ≤ 15 := by decide) : SE X W (.Dict keys values pos) (mDisp ks fa) := by
  obtain ⟨l1, l2, l3, trs, pp, rd⟩ := hs
  refine PE.imp (pe_disp pp l2 l3 h0 (by omega)) fun σ H Q ⟨ρ, h, mp, r, en, p⟩ => fun D0 hD => ?_
  have le0 := le_ban (o := .dK []) r hD
  refine rd ρ h (mp.ban D0) σ _ _ (r.ban hD) (en.mono le0) ?_
  unfold mDisp at p
  cases ef : fa ρ h with
  | bad => rw [ef] at p; exact p.elim
  | exc c h1 => rw [ef] at p; exact fun mp' H' le => p mp' H' (le0.trans le)
  | ok ds h1 =>
    rw [ef, Res.bind_ok] at p
    intro vs mp1 H1 le1 r1 q1
    split at p
    · rename_i hk
      obtain ⟨k1, k2, k3⟩ := hk
      have np : D0 ∉ mp.pl := fun z => r.fresh hD (r.sub _ z)
      obtain ⟨o1, o2, o3⟩ := le1.own D0 List.mem_cons_self np
      have lv : vs.length = ks.length := by rw [← q1.length]; exact k1
      have lz : (ks.map (fun k : Str => (Sum.inr k : Key))).length = vs.length := by rw [List.length_map, lv]
      refine ⟨by rw [o1, upd_same], (ks.map Sum.inr).zip vs, ?_, ?_, ?_⟩
      · rw [List.zip_map_left, List.zip_map_left, List.map_map]
        rfl
      · rw [List.length_zip, List.length_map]; omega
      · have em : mergeK [] ((ks.map Sum.inr).zip vs) = (ks.map Sum.inr).zip vs := by
          rw [merge_new _ _ (fun _ _ q hq => by simp at hq) (by rw [List.map_fst_zip (by rw [lz]; exact Nat.le_refl _)]; exact List.Pairwise.map _ (fun a b hab z => hab (Sum.inr.inj z)) k3)]
          rfl
        rw [em]
        have r2 : HRel X.K mp1 h1 (upd H1 D0 (.dK ((ks.map Sum.inr).zip vs))) := r1.ownW o2 o3
        have le2 : Le mp H mp1 (upd H1 D0 (.dK ((ks.map Sum.inr).zip vs))) := by
          have le := le0.trans le1
          refine ⟨le.pre, fun a o e n nb => ?_, fun a ha n => ?_⟩
          · rw [upd_ne (ne_of_none e hD)]; exact le.keep a o e n nb
          · rw [upd_ne (fun z => r.fresh hD (by rw [← z]; exact ha))]; exact le.own a ha n
        obtain ⟨a1, a2, a3⟩ := HRel.place2 (o := .dic ((ks.map D.str).zip ds)) r hD le2 r2 o2 o3 (.inl ⟨ks.map Sum.inr, vs, upd_same, lz, by
          rw [List.map_fst_zip (by rw [List.length_map]; omega), List.map_map]; rfl, by
          rw [List.map_snd_zip (by rw [List.length_map]; omega)]; exact rpall_own o2 q1⟩)
        exact p _ _ _ a1 a2 a3
    · exact p.elim
end
end Mi
namespace Mi
open PySem PySem.Spec L2
/-! ### a class called, as a function of its own -/
def mkRes {F : Type} (C : Calls F) (f : F) (c : Str) (n : Nat) (ds : List D) (h : Hq) : Res D := if ds.length + 1 = n then (match C f (.ref h.length :: ds) (h ++ [.ins c []]) with
  | .ok .non h2 => .ok (.ref h.length) h2
  | .exc x h2 => .exc x h2
  | _ => .bad) else .bad
theorem mk_ret {F : Type} {C : Calls F} {f : F} {c : Str} {n : Nat} {fa : Ev (List D)} {ρ : Env'} {h : Hq} {ds : List D} (e : fa ρ h = .ok ds h) : (mRet (mMake C f c n fa) ρ h).res = mkRes C f c n ds h := by
  unfold mRet mMake mkRes
  rw [e, Res.bind_ok]
  by_cases hl : ds.length + 1 = n
  · repeat rw [if_pos hl]
    cases C f (.ref h.length :: ds) (h ++ [.ins c []]) with
    | ok d h2 => cases d <;> rfl
    | exc x h2 => rfl
    | bad => rfl
  · repeat rw [if_neg hl]
    rfl
structure FnC {F : Type} (P : Program) (w : World) (K : PySem.W.Frag) (mg : Str → Option Value) (base : Heap) (C : Calls F) (k : Nat) (f : F) (c : Str) (n : Nat) : Prop where
  run : ∀ (X : Cx) (W : WX) (pins : List (Addr × Obj)) (σ : L2.St) (H : Hp) (s : Shared) (us : List Value) (vs : List V) (Q : VK), X.prog = P → X.w = w → X.K = K → X.mg = mg → X.base = base → Takes X W → Room k X.A → Inv X pins σ H s → Vals vs us →
    spM K C f n vs H Q (WE W σ) → wpAny (model X.prog X.w) X.A (call (.ref (He.ga K c)) us) (EP X pins σ Q) X.xe s
  mkc : Mk K (He.ga K c) (He.ma K (He.ga K c) "__init__")
  mg : mg c = some (.ref (He.ga K c))
section
variable {F : Type} {P : Program} {w : World} {K : PySem.W.Frag} {mg : Str → Option Value} {base : Heap} {C C' : Calls F} {k n : Nat} {f g : F} {c : Str} {ps : List Str}
theorem fnC_zero (h0 : ∀ ds h, C f ds h = .bad) (mkc : Mk K (He.ga K c) (He.ma K (He.ga K c) "__init__")) (hm : mg c = some (.ref (He.ga K c))) : FnC P w K mg base C k f c n :=
  ⟨fun X W pins σ H s us vs Q _ _ _ _ _ _ _ _ _ ⟨_, mp, h, ds, _, _, p⟩ => by rw [h0] at p; exact p.elim, mkc, hm⟩
theorem fnC_succ (A : FnK P w K mg base C k g c ps) (e : ∀ ds h, ds.length = n → C' f ds h = mkRes C g c ps.length ds h) : FnC P w K mg base C' (k + 1) f c n := by
  refine ⟨fun X W pins σ H s us vs Q e1 e2 e3 e4 e5 tk hr I r ⟨hn, mp, h, ds, r1, q1, p1⟩ => ?_, A.mkc, A.mg⟩
  subst e1 e2 e3 e4 e5
  obtain ⟨fd, ok, b⟩ := A.ok
  refine run_makeS A.mkc ok hr b (passAt tk σ) I r fun x dx hx hd ne => ?_
  rw [e ds h (by rw [q1.length]; exact hn)] at p1
  unfold mkRes at p1
  split at p1
  · rename_i hl
    obtain ⟨n1, n2, n3⟩ := new_ins (c := c) r1 hx hd ne
    refine ⟨by rw [List.length_cons, ← q1.length]; exact hl, mp.add x, h ++ [.ins c []], .ref h.length :: ds, n2, .cons n3 (q1.mono n1), ?_⟩
    cases e : C g (.ref h.length :: ds) (h ++ [.ins c []]) with
    | bad => rw [e] at p1; exact p1.elim
    | exc xc h2 =>
      rw [e] at p1
      exact fun mp' H' le r' => p1 mp' H' (n1.trans le) r'
    | ok d h2 =>
      rw [e] at p1
      cases d with
      | non =>
        intro v mp' H' le r' rv
        cases rv
        exact ⟨rfl, p1 _ mp' H' (n1.trans le) r' (n3.mono le)⟩
      | _ => exact p1.elim
  · exact p1.elim
variable {X : Cx} {W : WX} {e : Expr} {es : List Expr} {fa : Ev (List D)} {p pos : Pos} {A0 : Around}
theorem t_callC {σ : L2.St} {H : Hp} {Q : VK} (t : tE X.K W (mCall C f n fa) σ H Q) : tA X.K W fa σ H fun vs H1 => spM X.K C f n vs H1 Q (WE W σ) := by
  obtain ⟨ρ, h, mp, r, en, q⟩ := t
  refine ⟨ρ, h, mp, r, en, Post.mono (Post.bind (R := rA X.K) q) fun vs H1 ⟨mp1, h1, ds, le1, r1, q1, p1⟩ => ?_⟩
  dsimp only at p1
  split at p1
  · rename_i hl
    exact ⟨by rw [← q1.length]; exact hl, mp1, h1, ds, r1, q1, p1⟩
  · exact p1.elim
theorem se_callC (A : FnC P w K mg base C k f c n) (hr : Room k A0) (ha : SA X W (e :: es) fa) (tk : Takes X W) (hX : X.prog = P ∧ X.w = w ∧ X.K = K ∧ X.mg = mg ∧ X.base = base ∧ X.A = A0 := by exact ⟨rfl, rfl, rfl, rfl, rfl, rfl⟩) (hg : Gl X c := by rfl)
    (hdb : (c == ("__debug__" : Str)) = false := by decide) (he : starEach (e :: es) X.env = (false, eval e X.env) :: starEach es X.env := by rfl) (hpl : (backTo pos (starEach es X.env)).any (·.1) = false := by rfl) :
    SE X W (.Call (.Name c p) (e :: es) [] pos) (mCall C f n fa) := by
  obtain ⟨rfl, rfl, rfl, rfl, rfl, rfl⟩ := hX
  refine ⟨fun pins s σ H Q I t => ?_⟩
  refine wpAny_Call_Name_kw (ld_glob I hg A.mg ?_ hdb)
  refine PySem.W.callWith_K (h₀ := X.base) I.ok.mod.kin A.mkc.kp (thn (ha.run pos pins s σ H _ I (t_callC t)) fun us s1 ⟨vs, H1, I1, r, q⟩ => ⟨I1.kIn, ?_⟩) he hpl
  exact A.run X W pins σ H1 s1 us vs Q rfl rfl rfl rfl rfl tk hr I1 r q
theorem se_callC0 (A : FnC P w K mg base C k f c n) (hr : Room k A0) (tk : Takes X W) (hX : X.prog = P ∧ X.w = w ∧ X.K = K ∧ X.mg = mg ∧ X.base = base ∧ X.A = A0 := by exact ⟨rfl, rfl, rfl, rfl, rfl, rfl⟩) (hg : Gl X c := by rfl)
    (hdb : (c == ("__debug__" : Str)) = false := by decide) : SE X W (.Call (.Name c p) [] [] pos) (mCall C f n mNil) := by
  obtain ⟨rfl, rfl, rfl, rfl, rfl, rfl⟩ := hX
  refine ⟨fun pins s σ H Q I t => ?_⟩
  refine wpAny_Call_Name_kw (ld_glob I hg A.mg ?_ hdb)
  obtain ⟨ρ, h, mp, r, en, q⟩ := t_callC t
  have q2 := Post.ok (v := []) q r RpAll.nil
  exact PySem.W.callWith_K0 I.kIn A.mkc.kp (A.run X W pins σ H s [] [] Q rfl rfl rfl rfl rfl tk hr I .nil q2)
theorem se_callA0 {x : Str} (A : FnA P w K mg base C k f x ps) (hr : Room k A0) (tk : Takes X W) (hX : X.prog = P ∧ X.w = w ∧ X.K = K ∧ X.mg = mg ∧ X.base = base ∧ X.A = A0 := by exact ⟨rfl, rfl, rfl, rfl, rfl, rfl⟩) (hg : Gl X x := by rfl)
    (hdb : (x == ("__debug__" : Str)) = false := by decide) : SE X W (.Call (.Name x p) [] [] pos) (mCall C f ps.length mNil) := by
  obtain ⟨rfl, rfl, rfl, rfl, rfl, rfl⟩ := hX
  obtain ⟨fd, ok, b⟩ := A.ok
  refine ⟨fun pins s σ H Q I t => ?_⟩
  refine wpAny_Call_Name_kw (ld_glob I hg A.mg ?_ hdb)
  obtain ⟨ρ, h, mp, r, en, q⟩ := t_callC t
  have q2 := Post.ok (v := []) q r RpAll.nil
  exact PySem.W.callWith_K0 I.kIn A.kp (run_fnS (E := WE W) (us := []) (vs := []) ok hr b (passAt tk σ) I .nil q2)
end
end Mi
namespace Mi
open PySem PySem.Spec PyProof.Rows L2
/-! ### raise -/
/-- a class of refusals of the program's own, by its global name -/
structure ExcA (K : PySem.W.Frag) (mg : Str → Option Value) (x : Str) : Prop where
  e : PySem.W.excIn K (He.ga K x) He.veBase "ValueError.__new__" = true
  k : PySem.W.keepIn K (.ref (He.ga K x)) = true
  s : PySem.W.subIn K (.ref (He.ga K x)) (.type "BaseException") = some true
  t : PySem.W.typeIn K (.ref (He.ga K x)) = some (.type "type")
  g : mg x = some (.ref (He.ga K x))
def mRaise (x : Str) (f : Ev D) : Ex := fun ρ h => (f ρ h).bindS ρ fun _ h1 => .exc x ρ h1
theorem ss_raise {X : Cx} {W : WX} {K : PySem.W.Frag} {mg : Str → Option Value} {x : Str} {e : Expr} {p pos pos' : Pos} {f : Ev D} (A : ExcA K mg x) (tk : Takes X W) (he : SE X W e f) (hX : X.K = K ∧ X.mg = mg := by exact ⟨rfl, rfl⟩) (hc : X.calm = true := by rfl) (hg : Gl X x := by rfl)
    (hs : starEach [e] X.env = (false, eval e X.env) :: starEach [] X.env := by rfl) (hdb : (x == ("__debug__" : Str)) = false := by decide) : SS X W (.Raise (some (.Call (.Name x p) [e] [] pos)) none pos') (mRaise x f) := by
  obtain ⟨rfl, rfl⟩ := hX
  refine PS.imp (ps_raise hc tk (SkE.pmk_own1 PySem.F.excBase_ValueError A.e A.g A.k (raises_own A.s A.t) hg he hs hdb)) fun D σ H ⟨ρ, h, mp, r, en, p⟩ => ?_
  exact ⟨ρ, h, mp, r, en, Post.mono (PostS.bind en p) fun v H1 ⟨mp1, h1, d, le, r1, _, p1⟩ => p1 σ mp1 H1 .refl r1 (en.mono le)⟩
/-! ### a def's promise, its room told apart from its level -/
theorem fn_run3 {F : Type} (T : F → Df F) {fx : F} {P : Program} {w : World} {K : PySem.W.Frag} {mg : Str → Option Value} {base : Heap} {nm qual : Str} {params : Arguments} {body : List Stmt} {scope : Scope} {f : Addr} {fd : FuncData} {N ps : List Str} {k r : Nat}
    (FD : FunD K nm qual params body scope [] [] f fd) (S : FnScope N ps scope) (hn : (T fx).n = N.length)
    (hb : ∀ (cdv : Value) (A : Around) (outer : List Env) (s : Shared) (H : Hp) (E : XK), Room r (A.deeper (PyProof.Rows.envOfC qual scope s.heap.objs.size f cdv)) →
      SSs (cxOf (L2.CX P w) P w K mg base N qual scope f cdv A outer s H E) (fun c d _ H' => E c d H') body ((T fx).b (run T k))) :
    FnOk P w K mg base (L2.CX P w) (r + 1) f fd ps (spM K (run T (k + 1)) fx ps.length) := by
  have q1 : FnOk P w K mg base (L2.CX P w) (r + 1) f fd ps (spM K (fun (_ : F) ds h => ((T fx).b (run T k) (startD (T fx).n ds) h).res) fx ps.length) :=
    fn_mi (fx := fx) FD S (fun ds h _ => by rw [hn]) hb
  refine q1.imp fun vs H Q E ⟨hl, mp, h, ds, r, a, q⟩ => ⟨hl, mp, h, ds, r, a, ?_⟩
  unfold run at q
  cases e : (T fx).gc with
  | false => rw [e] at q; exact q
  | true => rw [e] at q; exact post_gc r q
end Mi
namespace Mi
open PySem L2
/-! ### association lists -/
section
variable {κ ν : Type} [DecidableEq κ]
def aget (l : List (κ × ν)) (k : κ) : Option ν := (l.find? fun p => decide (p.1 = k)).map (·.2)
def aput (l : List (κ × ν)) (k : κ) (v : ν) : List (κ × ν) := if (l.any fun p => decide (p.1 = k)) = true then l.map (fun p => if p.1 = k then (p.1, v) else p) else l ++ [(k, v)]
def adel (l : List (κ × ν)) (k : κ) : List (κ × ν) := l.filter fun p => !decide (p.1 = k)
def keys (l : List (κ × ν)) : List κ := l.map (·.1)
theorem aget_nil (k : κ) : aget ([] : List (κ × ν)) k = none := rfl
theorem aget_cons (p : κ × ν) (l : List (κ × ν)) (k : κ) : aget (p :: l) k = if p.1 = k then some p.2 else aget l k := by
  unfold aget
  rw [List.find?_cons]
  by_cases h : p.1 = k <;> simp [h]
theorem aget_mem {l : List (κ × ν)} {k : κ} {v : ν} (h : aget l k = some v) : (k, v) ∈ l := by
  induction l with
  | nil => cases h
  | cons p l ih =>
    rw [aget_cons] at h
    split at h
    · rename_i e; cases h; rw [← e]; exact List.mem_cons_self
    · exact List.mem_cons_of_mem _ (ih h)
theorem aget_of_mem {l : List (κ × ν)} {k : κ} {v : ν} (nd : (keys l).Nodup) (h : (k, v) ∈ l) : aget l k = some v := by
  induction l with
  | nil => cases h
  | cons p l ih =>
    rw [keys, List.map_cons, List.nodup_cons] at nd
    rw [aget_cons]
    rcases List.mem_cons.mp h with e | e
    · subst e; simp
    · rw [if_neg fun z => nd.1 (by rw [z]; exact List.mem_map.mpr ⟨(k, v), e, rfl⟩)]
      exact ih nd.2 e
theorem aget_none {l : List (κ × ν)} {k : κ} : aget l k = none ↔ k ∉ keys l := by
  induction l with
  | nil => simp [aget, keys]
  | cons p l ih =>
    rw [aget_cons, keys, List.map_cons, List.mem_cons, not_or]
    by_cases h : p.1 = k
    · simp [h]
    · rw [if_neg h, ih]
      exact ⟨fun z => ⟨fun e => h e.symm, z⟩, fun z => z.2⟩
theorem aget_some {l : List (κ × ν)} {k : κ} : (∃ v, aget l k = some v) ↔ k ∈ keys l := by
  cases e : aget l k with
  | none => simp [aget_none.mp e]
  | some v => simp; exact List.mem_map.mpr ⟨_, aget_mem e, rfl⟩
theorem any_keys {l : List (κ × ν)} {k : κ} : (l.any fun p => decide (p.1 = k)) = decide (k ∈ keys l) := by
  induction l with
  | nil => simp [keys]
  | cons p l ih =>
    rw [List.any_cons, ih]
    show (decide (p.1 = k) || decide (k ∈ keys l)) = decide (k ∈ p.1 :: keys l)
    by_cases h : p.1 = k
    · simp [h]
    · have h' : ¬ k = p.1 := fun e => h e.symm
      rw [decide_eq_false h, Bool.false_or]
      apply decide_eq_decide.mpr
      rw [List.mem_cons]
      exact ⟨fun z => .inr z, fun z => z.resolve_left h'⟩
theorem aget_aput (l : List (κ × ν)) (k k' : κ) (v : ν) : aget (aput l k v) k' = if k = k' then some v else aget l k' := by
  unfold aput
  rw [any_keys]
  by_cases hm : k ∈ keys l
  · simp only [hm, decide_true, if_true]
    have key : ∀ l : List (κ × ν), k ∈ keys l → aget (l.map fun p => if p.1 = k then (p.1, v) else p) k' = if k = k' then some v else aget l k' := by
      intro l
      induction l with
      | nil => intro h; cases h
      | cons p l ih =>
        intro h
        rw [List.map_cons, aget_cons, aget_cons]
        by_cases hp : p.1 = k
        · simp only [hp, if_true]
          by_cases hk : k = k'
          · simp [hk]
          · simp only [hk, if_false]
            by_cases hl : k ∈ keys l
            · rw [ih hl, if_neg hk]
            · have : (l.map fun p => if p.1 = k then (p.1, v) else p) = l := by
                conv => rhs; rw [← List.map_id l]
                apply List.map_congr_left
                intro q hq
                rw [if_neg fun e => hl (by rw [← e]; exact List.mem_map.mpr ⟨q, hq, rfl⟩)]; rfl
              rw [this]
        · have hl : k ∈ keys l := by
            rw [keys, List.map_cons] at h
            rcases List.mem_cons.mp h with e | e
            · exact absurd e.symm hp
            · exact e
          simp only [hp, if_false]
          by_cases hk : p.1 = k'
          · have : ¬ k = k' := fun e => hp (by rw [hk, e])
            simp [hk, this]
          · simp only [hk, if_false]; exact ih hl
    exact key l hm
  · simp only [hm, decide_false, Bool.false_eq_true, if_false]
    have key : ∀ l : List (κ × ν), k ∉ keys l → aget (l ++ [(k, v)]) k' = if k = k' then some v else aget l k' := by
      intro l
      induction l with
      | nil => intro _; rw [List.nil_append, aget_cons]
      | cons p l ih =>
        intro h
        rw [keys, List.map_cons, List.mem_cons, not_or] at h
        rw [List.cons_append, aget_cons, aget_cons, ih h.2]
        by_cases hk : p.1 = k'
        · have : ¬ k = k' := fun e => h.1 (by rw [hk, e])
          simp [hk, this]
        · simp [hk]
    exact key l hm
theorem aget_adel (l : List (κ × ν)) (k k' : κ) : aget (adel l k) k' = if k = k' then none else aget l k' := by
  induction l with
  | nil => simp [adel, aget]
  | cons p l ih =>
    unfold adel at ih ⊢
    rw [List.filter_cons]
    by_cases hp : p.1 = k
    · simp only [hp, decide_true, Bool.not_true, Bool.false_eq_true, if_false]
      rw [ih, aget_cons]
      by_cases hk : k = k'
      · simp [hk]
      · simp [hk, hp]
    · simp only [hp, decide_false, Bool.not_false, if_true]
      rw [aget_cons, aget_cons, ih]
      by_cases hk : p.1 = k'
      · have : ¬ k = k' := fun e => hp (by rw [hk, e])
        simp [hk, this]
      · simp [hk]
theorem keys_aput (l : List (κ × ν)) (k : κ) (v : ν) : keys (aput l k v) = if k ∈ keys l then keys l else keys l ++ [k] := by
  unfold aput
  rw [any_keys]
  by_cases hm : k ∈ keys l
  · simp only [hm, decide_true, if_true]
    unfold keys
    rw [List.map_map]
    apply List.map_congr_left
    intro p _
    simp only [Function.comp]
    split <;> rfl
  · simp only [hm, decide_false, Bool.false_eq_true, if_false]
    simp [keys]
theorem nodup_aput {l : List (κ × ν)} (k : κ) (v : ν) (nd : (keys l).Nodup) : (keys (aput l k v)).Nodup := by
  rw [keys_aput]
  split
  · exact nd
  · rename_i h
    exact List.nodup_append.mpr ⟨nd, by simp, fun a ha b hb e => h ((show b = k by simpa using hb) ▸ e ▸ ha)⟩
theorem keys_adel (l : List (κ × ν)) (k : κ) : keys (adel l k) = (keys l).filter fun x => !decide (x = k) := by
  unfold keys adel
  rw [List.filter_map]; rfl
theorem nodup_adel {l : List (κ × ν)} (k : κ) (nd : (keys l).Nodup) : (keys (adel l k)).Nodup := by
  rw [keys_adel]; exact List.filter_sublist.nodup nd
theorem len_aput (l : List (κ × ν)) (k : κ) (v : ν) : (aput l k v).length ≤ l.length + 1 := by
  unfold aput
  split <;> simp
theorem len_adel (l : List (κ × ν)) (k : κ) : (adel l k).length ≤ l.length := List.length_filter_le _ _
theorem aput_in {l : List (κ × ν)} {k : κ} (hm : k ∈ keys l) (v : ν) : aput l k v = l.map (fun p => if p.1 = k then (p.1, v) else p) := by
  unfold aput; rw [if_pos (by rw [any_keys]; simpa using hm)]
theorem aput_new {l : List (κ × ν)} {k : κ} (hm : k ∉ keys l) (v : ν) : aput l k v = l ++ [(k, v)] := by
  unfold aput; rw [if_neg (by rw [any_keys]; simpa using hm)]
/-- as a dict's pairs -/
def eD (ek : κ → D) (ev : ν → D) (l : List (κ × ν)) : List (D × D) := l.map fun p => (ek p.1, ev p.2)
variable {ek : κ → D} {ev : ν → D}
theorem getD_e (ke : ∀ a b, keyEq (ek a) (ek b) = decide (a = b)) (l : List (κ × ν)) (k : κ) : getD (eD ek ev l) (ek k) = (aget l k).map ev := by
  induction l with
  | nil => rfl
  | cons p l ih =>
    unfold getD eD at ih ⊢
    rw [List.map_cons, List.find?_cons, aget_cons, ke]
    by_cases h : p.1 = k
    · simp [h]
    · simp only [h, decide_false, if_false]; exact ih
theorem put_e (ke : ∀ a b, keyEq (ek a) (ek b) = decide (a = b)) (l : List (κ × ν)) (k : κ) (v : ν) : putKV (eD ek ev l) (ek k) (ev v) = eD ek ev (aput l k v) := by
  have e1 : ((eD ek ev l).any fun p => keyEq p.1 (ek k)) = l.any fun p => decide (p.1 = k) := by
    unfold eD; rw [List.any_map]; congr 1; funext p; exact ke _ _
  unfold putKV aput
  rw [e1]
  split
  · unfold eD
    rw [List.map_map, List.map_map]
    apply List.map_congr_left
    intro p _
    simp only [Function.comp, ke]
    by_cases h : p.1 = k <;> simp [h]
  · unfold eD; simp
theorem drop_e (ke : ∀ a b, keyEq (ek a) (ek b) = decide (a = b)) (l : List (κ × ν)) (k : κ) : dropKV (eD ek ev l) (ek k) = eD ek ev (adel l k) := by
  unfold dropKV adel eD
  rw [List.filter_map]
  congr 1
  apply List.filter_congr
  intro p _
  simp [ke]
theorem kinds_e {n : Nat} (kk : ∀ a, keyKind (ek a) = n) (hn : n ≠ 0) (l : List (κ × ν)) (k : κ) : kindsOk (eD ek ev l) (ek k) = true := by
  unfold kindsOk eD
  rw [kk]
  simp [hn, kk]
end
/-! ### keys -/
abbrev Hd := Int × Int
def encH (x : Hd) : D := .tup [.int x.1, .int x.2]
theorem ke_H (a b : Hd) : keyEq (encH a) (encH b) = decide (a = b) := by
  obtain ⟨a1, a2⟩ := a; obtain ⟨b1, b2⟩ := b
  simp only [encH, keyEq, isKs, isK]
  apply decide_eq_decide.mpr
  simp [Prod.ext_iff]
theorem kk_H (a : Hd) : keyKind (encH a) = 2 := rfl
theorem ke_I (a b : Int) : keyEq (.int a) (.int b) = decide (a = b) := rfl
theorem kk_I (a : Int) : keyKind (.int a) = 1 := rfl
theorem ke_T (a b : Str) : keyEq (.str a) (.str b) = decide (a = b) := rfl
theorem kk_T (a : Str) : keyKind (.str a) = 1 := rfl
theorem isKs_strs : ∀ ks : List Str, isKs (ks.map .str) = some (ks.map Sum.inr)
  | [] => rfl
  | k :: ks => by simp [isKs, isK, isKs_strs ks]
theorem ke_S (a b : List Str) : keyEq (encS a) (encS b) = decide (a = b) := by
  simp only [encS, keyEq, isKs_strs]
  apply decide_eq_decide.mpr
  exact ⟨fun h => by
    have := congrArg (List.map fun x : Key => match x with | .inr s => s | .inl _ => "") h
    simpa [List.map_map, Function.comp_def] using this, fun h => by rw [h]⟩
theorem kk_S (a : List Str) : keyKind (encS a) = 2 := by simp [encS, keyKind, isKs_strs]
theorem encH_inj (a b : Hd) (h : encH a = encH b) : a = b := by
  obtain ⟨a1, a2⟩ := a; obtain ⟨b1, b2⟩ := b
  simp only [encH, D.tup.injEq, List.cons.injEq, D.int.injEq, and_true] at h
  rw [h.1, h.2]
theorem encH_tx (a : Hd) : (encH a).tx = true := rfl
theorem encH_dp (a : Hd) : (encH a).dp = 1 := rfl
/-! ### what one owns of the heap -/
def Own (h : Hq) (L : List (Nat × O)) : Prop := (L.map (·.1)).Nodup ∧ ∀ p ∈ L, h[p.1]? = some p.2
theorem Own.at {h : Hq} {L : List (Nat × O)} (w : Own h L) {a : Nat} {o : O} (m : (a, o) ∈ L) : h[a]? = some o := w.2 _ m
theorem Own.lt {h : Hq} {L : List (Nat × O)} (w : Own h L) {p : Nat × O} (m : p ∈ L) : p.1 < h.length := (List.getElem?_eq_some_iff.mp (w.2 _ m)).1
theorem Own.perm {h : Hq} {L L' : List (Nat × O)} (w : Own h L) (p : L.Perm L') : Own h L' := ⟨(p.map _).nodup_iff.mp w.1, fun q hq => w.2 q (p.mem_iff.mpr hq)⟩
theorem Own.sub {h : Hq} {L L' : List (Nat × O)} (w : Own h L) (p : L'.Sublist L) : Own h L' := ⟨(p.map _).nodup w.1, fun q hq => w.2 q (p.subset hq)⟩
theorem Own.new {h : Hq} {L : List (Nat × O)} (w : Own h L) (o : O) : Own (h ++ [o]) ((h.length, o) :: L) := by
  refine ⟨List.nodup_cons.mpr ⟨fun z => ?_, w.1⟩, fun p hp => ?_⟩
  · obtain ⟨q, hq, e⟩ := List.mem_map.mp z
    have h1 := w.lt hq
    rw [e] at h1
    exact Nat.lt_irrefl _ h1
  · rcases List.mem_cons.mp hp with rfl | hp
    · simp
    · rw [List.getElem?_append_left (w.lt hp)]; exact w.2 p hp
theorem Own.grow {h : Hq} {L : List (Nat × O)} (w : Own h L) (g : Hq) : Own (h ++ g) L := ⟨w.1, fun p hp => by rw [List.getElem?_append_left (w.lt hp)]; exact w.2 p hp⟩
/-- one cell is written -/
theorem Own.write {h : Hq} {L L' : List (Nat × O)} (w : Own h L) {a : Nat} {o : O} (e : L'.map (·.1) = L.map (·.1)) (ha : a ∈ L.map (·.1)) (h1 : ∀ p ∈ L', p.1 = a → p.2 = o) (h2 : ∀ p ∈ L', p.1 ≠ a → p ∈ L) : Own (h.set a o) L' := by
  refine ⟨by rw [e]; exact w.1, fun p hp => ?_⟩
  by_cases z : p.1 = a
  · obtain ⟨q, hq, eq⟩ := List.mem_map.mp ha
    have := w.lt hq
    rw [z, h1 p hp z, List.getElem?_set_self (by rw [← eq]; exact this)]
  · rw [List.getElem?_set_ne (Ne.symm z)]; exact w.2 p (h2 p hp z)
end Mi
namespace Mi
open PySem PySem.Spec PyProof.Rows L2
/-! ### l.count(x) -/
def gCount (o : D) (ds : List D) (h : Hq) : Option (D × Hq) := match ds with
  | [y] => (match (nz h o).py, (nz h y).py with
    | some (.list zs), some d => if SeqAt.shaped (.list zs) = true ∧ SeqAt.shaped d = true then some (.int ((zs.countP fun z => PyData.eqv z d : Nat) : Int), h) else none
    | _, _ => none)
  | _ => none
theorem m2_count {X : Cx} (hu : X.A.units + 65 < cLine) : M2 X "list.count" gCount := by
  intro pins s σ H x xs v us Q I rx rv ⟨mp, h, dx, ds, r, ax, a, p⟩
  unfold gCount at p
  split at p
  · rename_i y
    split at p
    · rename_i zs d e1 e2
      split at p
      · rename_i hs
        obtain ⟨w, rfl, rk⟩ := a.one
        have d1 := ax.nz r e1
        have d2 := rk.nz r e2
        obtain ⟨pa, rfl⟩ : ∃ pa, x = .ref pa := by cases d1 with | lst _ _ => exact ⟨_, rfl⟩
        cases rx
        cases rv with
        | cons ry rt =>
          rename_i uy ut
          cases rt
          obtain ⟨bs, r1⟩ := Dp.reads I d _ uy d2 ry
          have hxs : PyData.canLayAll0 zs = true := SeqAt.canLay_of_shaped hs.1
          have hroom : X.A.units + 1 + min (PyData.depthAll zs) d.depth < cLine := room_in_shaped hs.2 hu
          cases d1 with
          | lst hl ha =>
            obtain ⟨its, rv, ⟨⟨cls, dd, data, sls⟩, n, ho, hc, hdn, hdt⟩, hlen⟩ := I.list hl
            simp only at hc hdt
            subst hc hdt
            obtain ⟨as, h4⟩ := Dp.readsAll I zs _ its ha rv
            have hmap : its.map (SeqAt.readOf s.heap) = zs := SeqAt.readsAll_map zs its as hxs h4
            refine call_meets PySem.F.slot_list_count ⟨_, ho, rfl⟩ PySem.F.entry_list_count (PySem.F.args_list_count_2 _ _)
              (SeqAt.list_countAt pa its.toArray n dd sls uy (fun u => PyData.eqv (SeqAt.readOf s.heap u) d)) ⟨ho, SeqAt.items_eqAt (vs := its.toArray) (show ReadsAll s.heap its.toArray.toList zs as from h4) r1 hxs (SeqAt.canLay_of_shaped hs.2) hroom, ?_⟩
            have ec : its.toArray.toList.countP (fun u => PyData.eqv (SeqAt.readOf s.heap u) d) = zs.countP (fun z => PyData.eqv z d) := by
              rw [← hmap, List.countP_map]; rfl
            refine ⟨.int ((zs.countP fun z => PyData.eqv z d : Nat) : Int), H, I.tok _, ⟨s.toks, ?_⟩, p _ mp H .refl r (.int _)⟩
            rw [ec]
      · exact p.elim
    · exact p.elim
  · exact p.elim
/-! ### classes of refusals -/
structure Excs (K : PySem.W.Frag) (mg : Str → Option Value) : Prop where
  a : ∀ x ∈ errs, ExcA K mg x
  c : ∀ x ∈ errs, ExcC K (He.ga K x)
  m : ∀ x ∈ errs, PySem.W.exmOne K (.ref (He.ga K x)) (.ref (He.ga K "StoreError")) = some true
  v : ∀ x ∈ errs, PySem.W.kitOne K (.ref (He.ga K x)) (.type "ValueError") = some true
  k : ∀ x ∈ errs, ∀ y ∈ errs, PySem.W.kitOne K (.ref (He.ga K x)) (.ref (He.ga K y)) = some (decide (x = y))
  s : mg "StoreError" = some (.ref (He.ga K "StoreError"))
theorem excs_of {K : PySem.W.Frag} {h : Heap} {mg : Str → Option Value} (X : K.In h) (G : h.Ns mainGlobals mg) (e : excsB K = true) : Excs K mg := by
  unfold excsB at e
  simp only [Bool.and_eq_true, List.all_eq_true, decide_eq_true_eq] at e
  obtain ⟨⟨⟨e1, e2⟩, e3⟩, e4⟩ := e
  have f : ∀ x ∈ errs, exc1B K x = true := fun x hx => (e4 x hx).1
  have g : ∀ x ∈ errs, (He.Fa.exc x).ok K = true ∧ (He.Fa.glo x).ok K = true ∧ PySem.W.exmOne K (.ref (He.ga K x)) (.ref (He.ga K "StoreError")) = some true ∧ PySem.W.kitOne K (.ref (He.ga K x)) (.type "ValueError") = some true
      ∧ PySem.W.findIn K (.ref (He.ga K x)) "__getattribute__" = some (some (.builtin "BaseException.__getattribute__")) ∧ PySem.W.findIn K (.ref (He.ga K x)) "__getattr__" = some none ∧ PySem.W.hasDictIn K (He.ga K x) = true
      ∧ PySem.W.findIn K (.ref (He.ga K x)) "__class__" = some (some (.builtin "object.__class__")) ∧ PySem.W.mroIn K (He.ga K x) (.type "object") = some true := fun x hx => by
    have := f x hx
    unfold exc1B at this
    simp only [Bool.and_eq_true, decide_eq_true_eq] at this
    obtain ⟨⟨⟨⟨⟨⟨⟨⟨c1, c2⟩, c3⟩, c4⟩, c5⟩, c6⟩, c7⟩, c8⟩, c9⟩ := this
    exact ⟨c1, c2, c3, c4, He.eqO_ok c5, He.eqO_ok c6, c7, He.eqO_ok c8, c9⟩
  refine ⟨fun x hx => ?_, fun x hx => ?_, fun x hx => (g x hx).2.2.1, fun x hx => (g x hx).2.2.2.1, fun x hx y hy => (e4 x hx).2 y hy, He.glo_ok X G e1⟩
  · obtain ⟨c1, c2, _⟩ := g x hx
    obtain ⟨d1, d2, d3, d4⟩ := He.exc_ok c1
    exact ⟨d1, d2, d3, d4, He.glo_ok X G c2⟩
  · obtain ⟨c1, c2, _, _, c5, c6, c7, c8, c9⟩ := g x hx
    obtain ⟨d1, d2, d3, d4⟩ := He.exc_ok c1
    exact ⟨c5, c6, d3, c7, c8, He.eqO_ok e2, e3, c9⟩
theorem se_gadr {X : Cx} {W : WX} {K : PySem.W.Frag} {x : Str} {pos : Pos} (hm : X.mg x = some (.ref (He.ga K x))) (hg : Gl X x := by rfl) (hd : (x == ("__debug__" : Str)) = false := by decide) : SE X W (.Name x pos) (mC (.adr (He.ga K x))) :=
  se_c (v := .ref (He.ga K x)) (pe_glob hg hm rfl hd) fun _ _ => .adr _
/-- isinstance(e, c) of the refusal at a, of the class D0 -/
def gIsE (K : PySem.W.Frag) (D0 a : Addr) (ds : List D) (h : Hq) : Option (D × Hq) := match ds with
  | [.adr x, .adr c] => if x = a then (PySem.W.kitOne K (.ref D0) (.ref c)).map fun b => (.bl b, h) else none
  | [.adr x, .ty n] => if x = a then (PySem.W.kitOne K (.ref D0) (.type n)).map fun b => (.bl b, h) else none
  | _ => none
theorem c1_isE {X : Cx} {a D0 : Addr} {oe : Obj} {pn : List (Addr × Obj)} (C : ExcC X.K D0) (hz : Zc (.ref D0) none oe) (hf : ∃ vs, oe.data = .fields vs) : C1 (X.suite a ((a, oe) :: pn)) (.builtin "isinstance") (gIsE X.K D0 a) := by
  intro pins s σ H xs us Q I rv ⟨mp, h, ds, r, al, p⟩
  have fin : ∀ (c : V) (cv : Value), xs = [.ref a, c] → (∀ u, RelV c u → u = cv) → PostO X.K (rD X.K) mp H ((PySem.W.kitOne X.K (.ref D0) cv).map fun b => (D.bl b, h)) Q → CallR (X.suite a ((a, oe) :: pn)) (.builtin "isinstance") (rIsE X.K D0 a) → _ := fun c cv e1 e2 p cl => by
    cases ek : PySem.W.kitOne X.K (.ref D0) cv with
    | none => rw [ek] at p; exact p.elim
    | some b =>
      rw [ek] at p
      exact cl pins s σ H xs us Q I rv ⟨c, cv, b, e1, e2, ek, p _ mp H .refl r (.bl b)⟩
  unfold gIsE at p
  split at p
  · split at p
    · rename_i x c hx
      subst hx
      obtain ⟨x1, x2, rfl, r1, r2⟩ := al.two
      cases r1
      cases r2
      exact fin _ _ rfl (fun u ru => ru) p (call_isE C hz hf)
    · exact p.elim
  · split at p
    · rename_i x c hx
      subst hx
      obtain ⟨x1, x2, rfl, r1, r2⟩ := al.two
      cases r1
      cases r2
      exact fin _ _ rfl (fun u ru => ru) p (call_isE C hz hf)
    · exact p.elim
  · exact p.elim
/-! ### told(lambda: ..) -/
def toldR (r : Res D) : Res D := match r with
  | .ok d h => .ok (.tup [.str "told", d]) h
  | .exc c h => if c ∈ errs then .ok (.tup [.str "refused", .int (errs.idxOf c : Nat)]) h else .bad
  | .bad => .bad
def mTold (f : Ev D) : Ev D := fun ρ h => toldR (f ρ h)
def TTK (K : PySem.W.Frag) : (XK → Hp → VK → Prop) → Hp → VK → Prop := fun tl H Q =>
  ∃ mp h r, HRel K mp h H ∧ (∀ mp' H' E Q', Le mp H mp' H' → HRel K mp' h H' → Post K (rD K) mp' H' r Q' (eX K E) → tl E H' Q') ∧ Post K (rD K) mp H (toldR r) Q (fun _ _ => False)
theorem se_told {X : Cx} {W : WX} {K : PySem.W.Frag} {k : Nat} {fd : FuncData} {pg : Arguments} {bg : List Stmt} {sg : Scope} {Ng : List Str} {c P : Addr} {params : Arguments} {body : Expr} {scope : Scope} {p lpos pos : Pos} {f : Ev D} (hX : X.K = K)
    (Ft : FunD K "_law_told" "_law_told" pg bg sg [] [] (He.ga K "_law_told") fd) (bt : Binds K fd ["deed"] []) (hm : X.mg "_law_told" = some (.ref (He.ga K "_law_told"))) (Sg : FnScope Ng ["deed"] sg) (hNg : Ng[0]? = some ("deed" : Str)) (hva : Vis sg "deed")
    (hG : ∀ cdg, LamX.GivesTo X Ng "_law_told" sg (He.ga K "_law_told") cdg bg "deed" (X.env.qual ++ "<lambda>") (TTK K)) (TB : LamX.TabB X.base X.mg c P) (hcode : X.env.code = .ref c) (hmT : (P, X.env.qual ++ "<lambda>") ∈ tbl K) (hu : ∀ p ∈ tbl K, p.1 = P → p.2 = X.env.qual ++ "<lambda>")
    (hr : Room (k + 2) X.A) (L : LamX.LamS X.env.scope scope) (hbody : ∀ (A : Around) (outer : List Env) (s : Shared) (H : Hp) (E : XK) (f1 c1 : Addr), Room k (A.deeper (LamX.lamEnv X scope s.heap.objs.size f1 c1)) → SE (LamX.lamCx X A outer s H E scope f1 c1) (fun c d _ H' => E c d H') body f)
    (hg : Gl X "_law_told" := by rfl) (hdef : defaultsOf params X.env = ([], []) := by rfl)
    (hbind : ∀ (q : Str) (cl : List (Str × Addr)) (pm cv ctv : Value), bindArgs (PySem.W.kla_fn "<lambda>" q params body scope cl pm cv ctv) ⟨[], []⟩ = pure [] := by intros; rfl) :
    SE X W (.Call (.Name "_law_told" p) [.Lambda params body scope lpos] [] pos) (mTold f) := by
  subst hX
  obtain ⟨oc, od, dV, kV, doc, pm, an, cdv, ct, osl, hfd, lk, hcd, _, _⟩ := Ft.ex
  subst hfd
  refine PE.imp (LamX.pe_lamcall (T := tbl X.K) (TT := TTK X.K) (t := fun E => tE X.K (fun c d _ H' => E c d H') f) hg hm Ft.kp lk hcd bt Sg hNg hva (hG cdv) TB hcode hmT hu hr L hdef hbind hbody) fun σ H Q ⟨ρ, h, mp, r, en, q⟩ => ?_
  refine ⟨r.tabs, fun H1 eN T1 => ?_⟩
  have st : ∀ a ∈ mp.bn, H1 a = H a := fun a ha => by
    obtain ⟨u, e, nu⟩ := r.there a ha
    rw [eN a u e nu.2.1, e]
  have le : Le mp H mp H1 := ⟨⟨[], by simp⟩, fun a o e n nb => ⟨eN a o e nb, n⟩, fun a ha n => ⟨st a ha, ha, n⟩⟩
  have r1 : HRel X.K mp h H1 := ⟨r.len, r.nd, r.sub, fun a ha => by rw [st a ha]; exact r.there a ha, fun l o a h1 h2 => (r.obj l o a h1 h2).mono le (st a (r.sub a (List.mem_of_getElem? h2))), T1⟩
  refine ⟨mp, h, f ρ h, r1, fun mp' H' E Q' le' r' post => ?_, ?_⟩
  · exact ⟨ρ, h, mp', r', (en.mono le).mono le', post⟩
  · have q1 := q.le le
    unfold mTold at q1
    cases e : f ρ h with
    | ok d h' => rw [e] at q1; exact q1
    | bad => rw [e] at q1; exact q1
    | exc c h' =>
      rw [e] at q1
      unfold toldR at q1 ⊢
      dsimp only at q1 ⊢
      split at q1
      · rename_i hc; rw [if_pos hc]; exact q1
      · exact q1.elim
end Mi
namespace Mi
open PySem PySem.Spec PyProof.Rows L2
def isE (K : PySem.W.Frag) (c : Str) (a : Addr) (x : Str) : Ev D := mBlt (gIsE K (He.ga K c) a) (mCons (mVar 2) (mCons (mC (.adr (He.ga K x))) mNil))
/-- the suite of told's except clause, for a refusal of the class c at a -/
def hand (K : PySem.W.Frag) (c : Str) (a : Addr) : Ex :=
  mSeq (mSet (.nm 3) (mLst (mCons (isE K c a "NoThing") (mCons (isE K c a "NoKind") (mCons (isE K c a "BadWorth") (mCons (isE K c a "Ring") mNil))))))
  (mSeq (mSet (.nm 3) (mBin gAdd (mVar 3) (mLst (mCons (isE K c a "NoPart") (mCons (isE K c a "NotLink") (mCons (isE K c a "NoMark") (mCons (isE K c a "BadLog") mNil)))))))
  (mSeq (mSet (.nm 3) (mBin gAdd (mVar 3) (mLst (mCons (isE K c a "BadOrder") (mCons (isE K c a "NoText") mNil)))))
  (mSeq (mSet (.nm 1) (mTup (mCons (mC (.str "refused")) (mCons (mNeg (mC (.int 1))) mNil))))
    (mIf (mAndT (mTru (mBlt (gIsE K (He.ga K c) a) (mCons (mVar 2) (mCons (mC (.ty "ValueError")) mNil)))) (mTru (mBin gEq (mMth "list" gCount (mVar 3) (mCons (mC (.bl true)) mNil)) (mC (.int 1)))))
      (mSet (.nm 1) (mTup (mCons (mC (.str "refused")) (mCons (mMth "list" gIndex (mVar 3) (mCons (mC (.bl true)) mNil)) mNil)))) mSkip))))
theorem isE_ev {K : PySem.W.Frag} {mg : Str → Option Value} (EX : Excs K mg) {c x : Str} (hc : c ∈ errs) (hx : x ∈ errs) {a : Addr} {ρ : Env'} {h : Hq} (e : ρ[2]? = some (some (.adr a))) : isE K c a x ρ h = .ok (.bl (decide (c = x))) h := by
  unfold isE
  simp [e, gIsE, EX.k c hc x hx]
def bs (c : Str) : List D := errs.map fun x => .bl (decide (c = x))
theorem errs_ind {p : Str → Prop} (h0 : p "NoThing") (h1 : p "NoKind") (h2 : p "BadWorth") (h3 : p "Ring") (h4 : p "NoPart") (h5 : p "NotLink") (h6 : p "NoMark") (h7 : p "BadLog") (h8 : p "BadOrder") (h9 : p "NoText") : ∀ c ∈ errs, p c := by
  intro c hc
  simp only [errs, List.mem_cons, List.not_mem_nil, or_false] at hc
  rcases hc with rfl | rfl | rfl | rfl | rfl | rfl | rfl | rfl | rfl | rfl <;> assumption
theorem bs_ix (h : Hq) : ∀ c ∈ errs, bs c = (List.range 10).map fun i => .bl (decide (i = errs.idxOf c)) := by
  refine errs_ind ?_ ?_ ?_ ?_ ?_ ?_ ?_ ?_ ?_ ?_ <;> rfl
theorem ix_lt : ∀ c ∈ errs, errs.idxOf c < 10 := by decide
theorem cnt_ev (h : Hq) : ∀ c ∈ errs, gCount (.lst (bs c)) [.bl true] h = some (.int 1, h) := by
  refine errs_ind ?_ ?_ ?_ ?_ ?_ ?_ ?_ ?_ ?_ ?_ <;> rfl
theorem ind_ev (h : Hq) : ∀ c ∈ errs, gIndex (.lst (bs c)) [.bl true] h = some (.int (errs.idxOf c : Nat), h) := by
  refine errs_ind ?_ ?_ ?_ ?_ ?_ ?_ ?_ ?_ ?_ ?_ <;> rfl
theorem hand_x {K : PySem.W.Frag} {c : Str} {a : Addr} {h : Hq} {b0 b1 b2 b3 b4 b5 b6 b7 b8 b9 : D} {j : Int}
    (e0 : ∀ ρ : Env', ρ[2]? = some (some (.adr a)) → isE K c a "NoThing" ρ h = .ok b0 h)
    (e1 : ∀ ρ : Env', ρ[2]? = some (some (.adr a)) → isE K c a "NoKind" ρ h = .ok b1 h)
    (e2 : ∀ ρ : Env', ρ[2]? = some (some (.adr a)) → isE K c a "BadWorth" ρ h = .ok b2 h)
    (e3 : ∀ ρ : Env', ρ[2]? = some (some (.adr a)) → isE K c a "Ring" ρ h = .ok b3 h)
    (e4 : ∀ ρ : Env', ρ[2]? = some (some (.adr a)) → isE K c a "NoPart" ρ h = .ok b4 h)
    (e5 : ∀ ρ : Env', ρ[2]? = some (some (.adr a)) → isE K c a "NotLink" ρ h = .ok b5 h)
    (e6 : ∀ ρ : Env', ρ[2]? = some (some (.adr a)) → isE K c a "NoMark" ρ h = .ok b6 h)
    (e7 : ∀ ρ : Env', ρ[2]? = some (some (.adr a)) → isE K c a "BadLog" ρ h = .ok b7 h)
    (e8 : ∀ ρ : Env', ρ[2]? = some (some (.adr a)) → isE K c a "BadOrder" ρ h = .ok b8 h)
    (e9 : ∀ ρ : Env', ρ[2]? = some (some (.adr a)) → isE K c a "NoText" ρ h = .ok b9 h)
    (v : PySem.W.kitOne K (.ref (He.ga K c)) (.type "ValueError") = some true) (c1 : gCount (.lst [b0, b1, b2, b3, b4, b5, b6, b7, b8, b9]) [.bl true] h = some (.int 1, h)) (c2 : gIndex (.lst [b0, b1, b2, b3, b4, b5, b6, b7, b8, b9]) [.bl true] h = some (.int j, h)) :
    hand K c a [none, none, some (.adr a), none] h = .nx [none, some (.tup [.str "refused", .int j]), some (.adr a), some (.lst [b0, b1, b2, b3, b4, b5, b6, b7, b8, b9])] h := by
  have a1 := g_addL (h := h) (a := [b0, b1, b2, b3]) (b := [b4, b5, b6, b7]) (by simp [sizeLine])
  have a2 := g_addL (h := h) (a := [b0, b1, b2, b3, b4, b5, b6, b7]) (b := [b8, b9]) (by simp [sizeLine])
  have ty : tyOk "list" (.lst [b0, b1, b2, b3, b4, b5, b6, b7, b8, b9]) h = true := rfl
  unfold hand
  simp [e0, e1, e2, e3, e4, e5, e6, e7, e8, e9, a1, a2, gIsE, v, c1, c2, ty, mNeg, mAndT]
theorem hand_ev {K : PySem.W.Frag} {mg : Str → Option Value} (EX : Excs K mg) {c : Str} (hc : c ∈ errs) (a : Addr) (h : Hq) : ∃ ρ', hand K c a [none, none, some (.adr a), none] h = .nx ρ' h ∧ ρ'[1]? = some (some (.tup [.str "refused", .int (errs.idxOf c : Nat)])) :=
  ⟨_, hand_x (fun ρ e => isE_ev EX hc (by decide) e) (fun ρ e => isE_ev EX hc (by decide) e) (fun ρ e => isE_ev EX hc (by decide) e) (fun ρ e => isE_ev EX hc (by decide) e) (fun ρ e => isE_ev EX hc (by decide) e) (fun ρ e => isE_ev EX hc (by decide) e) (fun ρ e => isE_ev EX hc (by decide) e) (fun ρ e => isE_ev EX hc (by decide) e) (fun ρ e => isE_ev EX hc (by decide) e) (fun ρ e => isE_ev EX hc (by decide) e) (EX.v c hc) (cnt_ev h c hc) (ind_ev h c hc), rfl⟩
end Mi
namespace Mi
open PySem PySem.Spec PyProof.Rows L2
def tN : List Str := ["deed", "found", "e", "kinds"]
abbrev tZ (X : Cx) (sg : Scope) (g : Addr) (cdg : Value) (s : Shared) (H : Hp) : Cx := (cxOf C8.CX0 X.prog X.w X.K X.mg X.base tN "_law_told" sg g cdg X.A X.stack s H C8.E0).nox
/-- try: found = ("told", deed()) / except StoreError as e: .. / return found -/
theorem told_gives {X : Cx} (EX : Excs X.K X.mg) {sg : Scope} {g : Addr} {cdg : Value} {b0 : Stmt} {suite : List Stmt} {q : Str} {j kk : Nat} {p1 p2 q1 q2 q3 q4 q5 q6 q7 q8 q9 : Pos}
    (hse : sg.names.lookup ("StoreError" : Str) = some .globalImplicit) (hlf : sg.names.lookup ("found" : Str) = some .local) (hle : sg.names.lookup ("e" : Str) = some .local)
    (hsw : ∀ (s : Shared) (H : Hp), swapsWith (.Tuple [.Constant (.str "told") j q2, .Call (.Name "deed" p1) [] [] p2] kk q3) (some (.Name "found" q1)) q4.line (tZ X sg g cdg s H).env = pure false)
    (hh : ∀ (s : Shared) (H : Hp) (a : Addr) (oe : Obj) (pn : List (Addr × Obj)) (c : Str), c ∈ errs → Zc (.ref (He.ga X.K c)) none oe → (∃ vs, oe.data = .fields vs) → SSs ((tZ X sg g cdg s H).suite a ((a, oe) :: pn)) (fun _ _ _ _ => False) (b0 :: suite) (hand X.K c a)) :
    LamX.GivesTo X tN "_law_told" sg g cdg [.Try [.Assign [.Name "found" q1] (.Tuple [.Constant (.str "told") j q2, .Call (.Name "deed" p1) [] [] p2] kk q3) q4] [.ExceptHandler (some (.Name "StoreError" q5)) (some "e") (b0 :: suite) q6] [] [] q7, .Return (some (.Name "found" q8)) q9] "deed" q (TTK X.K) := by
  intro f c' s H Q tl act hc ⟨mp, h, r, hr, htl, hp⟩
  have nd : (tZ X sg g cdg s H).N.Nodup := (by decide : tN.Nodup)
  have hgl : Gl (tZ X sg g cdg s H) "StoreError" := hse
  have hkl : (tZ X sg g cdg s H).env.kindOf "e" = some .local := hle
  refine ⟨_, pss_cons (ps_try_as (X := tZ X sg g cdg s H) (c := .ref (He.ga X.K "StoreError")) (i := 2) (n := "e") (x := "StoreError") (Wout := fun _ _ _ _ => False)
      (tb := fun W D σ H' => ∃ Ech : XK, (∀ cls d σ' H2, σ'.length = 4 → Ech cls d H2 → W cls d σ' H2) ∧ σ[0]? = some (some (.ref f)) ∧ H' c' = some (LamX.CodeO c' q) ∧ tl Ech H' (fun v H1 => [V.str "told", v].length ≤ sizeLine ∧ ∀ p, H1 p = none → D.nx (σ.set 1 (some (.ref p))) (upd H1 p (.tup [V.str "told", v]))))
      (ts := fun a cls d D σ H' => ∃ c ∈ errs, cls = .ref (He.ga X.K c) ∧ d = none ∧ tS X.K (fun _ _ _ _ => False) (hand X.K c a) D σ H')
      rfl rfl nd rfl hkl ⟨hgl, by decide, .inl EX.s⟩ LamX.takes0 (fun W pn xe tk pw => ?_) (fun a oe cls d pn hz hf => ?_)) (pss_one (ps_ret (pe_var (i := 1) (x := "found") rfl (.inl hlf)))), ?_⟩
  · refine ⟨fun pins s' σ H' D I ⟨Ech, hW, h1, h2, h3⟩ => ?_⟩
    have tk2 : Takes ((tZ X sg g cdg s H).tr pn xe) (fun cls d σ H => σ.length = 4 → W cls d σ H) := fun u s' ⟨a, B, sI, pins, σ, H, cls, d, e, I, nb, up, sky, na, os, ag, w⟩ => tk u s' ⟨a, B, sI, pins, σ, H, cls, d, e, I, nb, up, sky, na, os, ag, w I.len⟩
    have hpe := act (fun cls d σ H => σ.length = 4 → W cls d σ H) pn xe Ech p1 p2 tk2 (fun cls d σ' H2 he hl => hW cls d σ' H2 hl he)
    have hq := pss_one (ps_set (X := (tZ X sg g cdg s H).tr pn xe) (i := 1) (x := "found") (pos := q4) (pos' := q1) nd rfl (.inl hlf) (pe_tup (pos := q3) (x1 := kk) (pa_cons (pe_str (x := "told") (j := j) (pos := q2)) (pa_cons hpe pa_nil))) (hsw s H) (.inr hlf))
    exact hq.run pins s' σ H' D I ⟨h1, h2, h3⟩
  · refine ⟨fun pins s' σ H' D I ⟨c, hcE, e1, e2, ht⟩ => ?_⟩
    subst e1 e2
    exact (hh s H a oe pn c hcE hz hf).run pins s' σ H' D I ht
  · refine ⟨fun cls d H2 => ∀ σ' : L2.St, σ'.length = 4 → wAs X.K (.ref (He.ga X.K "StoreError")) 2 (fun a cls d D σ H' => ∃ c ∈ errs, cls = .ref (He.ga X.K c) ∧ d = none ∧ tS X.K (fun _ _ _ _ => False) (hand X.K c a) D σ H') (fun _ _ _ _ => False) _ cls d σ' H2, fun cls d σ' H2 hl he => he σ' hl, rfl, hc, htl mp H _ _ .refl hr ?_⟩
    cases r with
    | bad => exact hp
    | ok d h' =>
      intro v mp' H' le r' rv
      refine ⟨by show 2 ≤ sizeLine; decide, fun p hpn => ?_⟩
      obtain ⟨l1, r1, v1⟩ := newT r' hpn (.cons (.str "told") (.cons rv .nil))
      exact ⟨_, rfl, hp _ mp' _ (le.trans l1) r1 v1⟩
    | exc c h' =>
      by_cases hcE : c ∈ errs
      · intro mp' H' le r' σ' hl
        refine ⟨true, EX.m c hcE, fun _ a ha => ⟨c, hcE, rfl, rfl, [none, none, some (.adr a), none], h', mp', r', ⟨?_, fun i d e => ?_⟩, ?_⟩, fun z => by cases z⟩
        · rw [List.length_set, hl]; rfl
        · match i, e with
          | 2, e => cases e; exact ⟨.ref a, by rw [List.getElem?_set_self (by omega)], .adr _⟩
          | 3, e => cases e
          | n + 4, e => cases e
        · obtain ⟨ρ', e1, e2⟩ := hand_ev EX hcE a h'
          rw [e1]
          intro σ2 mp2 H2 le2 r2 en2
          obtain ⟨v, e3, rv⟩ := en2.val 1 _ e2
          have hp' : Post X.K (rD X.K) mp H (.ok (.tup [.str "refused", .int (errs.idxOf c : Nat)]) h') Q (fun _ _ => False) := by
            unfold toldR at hp
            dsimp only at hp
            rw [if_pos hcE] at hp
            exact hp
          exact ⟨v, by rw [List.getElem?_set_ne (by decide)]; exact e3, hp' v mp2 H2 (le.trans le2) r2 rv⟩
      · unfold toldR at hp
        dsimp only at hp
        rw [if_neg hcE] at hp
        exact hp.elim
/-! ### a def that makes lambdas -/
theorem fnTab_q {K : PySem.W.Frag} {x : Str} {t : Addr × Addr × Str} (e : fnTab K x = some t) : t.2.2 = (x ++ ".<locals>.") ++ "<lambda>" := by
  unfold fnTab at e
  split at e
  · split at e
    · split at e
      · split at e
        · cases e; rfl
        · cases e
      · cases e
    · cases e
  · cases e
theorem lam_of {K : PySem.W.Frag} {x : Str} (e : lamB K x = true) : ∃ c P, fnTab K x = some (c, P, (x ++ ".<locals>.") ++ "<lambda>") ∧ (c, P, (x ++ ".<locals>.") ++ "<lambda>") ∈ tblC K ∧ (P, (x ++ ".<locals>.") ++ "<lambda>") ∈ tbl K ∧ ∀ p ∈ tbl K, p.1 = P → p.2 = (x ++ ".<locals>.") ++ "<lambda>" := by
  unfold lamB at e
  cases h : fnTab K x with
  | none => rw [h] at e; cases e
  | some t =>
    rw [h] at e
    simp only [Bool.and_eq_true, decide_eq_true_eq, List.all_eq_true, Bool.or_eq_true, Bool.not_eq_true', decide_eq_false_iff_not] at e
    obtain ⟨e1, e2⟩ := e
    have q := fnTab_q h
    obtain ⟨c, P, q'⟩ := t
    cases q
    refine ⟨c, P, rfl, e1, List.mem_map_of_mem (f := fun t : Addr × Addr × Str => t.2) e1, fun p hp hP => ?_⟩
    rcases e2 p hp with z | z
    · exact absurd hP z
    · exact z
theorem fn_run4 {F : Type} (T : F → Df F) {fx : F} {P : Program} {w : World} {K : PySem.W.Frag} {mg : Str → Option Value} {base : Heap} {nm : Str} {params : Arguments} {body : List Stmt} {scope : Scope} {fd : FuncData} {N ps : List Str} {k r : Nat} {c Pt : Addr} {q : Str}
    (FD : FunD K nm nm params body scope [] [] (He.ga K nm) fd) (ft : fnTab K nm = some (c, Pt, q)) (S : FnScope N ps scope) (hn : (T fx).n = N.length) (hgc : (T fx).gc = false)
    (hb : ∀ (A : Around) (outer : List Env) (s : Shared) (H : Hp) (E : XK), Room r (A.deeper (PyProof.Rows.envOfC nm scope s.heap.objs.size (He.ga K nm) (.ref c))) →
      SSs (cxOf (L2.CX P w) P w K mg base N nm scope (He.ga K nm) (.ref c) A outer s H E) (fun c d _ H' => E c d H') body ((T fx).b (run T k))) :
    FnOk P w K mg base (L2.CX P w) (r + 1) (He.ga K nm) fd ps (spM K (run T (k + 1)) fx ps.length) := by
  obtain ⟨oc, od, dV, kV, doc, pm, an, cdv, ct, osl, hfd, lk, hcd, _, _⟩ := FD.ex
  subst hfd
  have ec : cdv = .ref c := by
    unfold fnTab at ft
    rw [lk] at ft
    dsimp only at ft
    split at ft
    · split at ft
      · split at ft
        · cases ft; rfl
        · cases ft
      · cases ft
    · cases ft
  subst ec
  refine fn_of lk hcd S (fun vs H Q E h => h.1) fun A outer s H vs Q E hr ⟨hl, mp, h, ds, r, a, q⟩ => ⟨_, hb A outer s H E hr, startD N.length ds, h, mp, r, start_rel a, ?_⟩
  have hC : run T (k + 1) fx ds h = ((T fx).b (run T k) (startD N.length ds) h).res := by
    show (match (T fx).gc with
      | false => ((T fx).b (run T k) (startD (T fx).n ds) h).res
      | true => gcR h ((T fx).b (run T k) (startD (T fx).n ds) h).res) = _
    rw [hgc, hn]
  rw [hC] at q
  show PostS K mp H ((T fx).b (run T k) (startD N.length ds) h) _ _
  cases e : (T fx).b (run T k) (startD N.length ds) h with
  | nx ρ1 h1 => rw [e] at q; exact fun σ' mp' H' le r' _ => q .non mp' H' le r' .non
  | rt d h1 => rw [e] at q; exact q
  | bk ρ1 h1 => rw [e] at q; exact q.elim
  | ct ρ1 h1 => rw [e] at q; exact q.elim
  | exc c ρ1 h1 => rw [e] at q; exact fun σ' mp' H' le r' _ => q mp' H' le r'
  | bad => rw [e] at q; exact q.elim
theorem se_told2 {X : Cx} {W : WX} {K : PySem.W.Frag} {k : Nat} {fd : FuncData} {pg : Arguments} {bg : List Stmt} {sg : Scope} {Ng : List Str} {c P : Addr} {params : Arguments} {body : Expr} {scope : Scope} {p lpos pos : Pos} {f : Ev D} (hX : X.K = K)
    (Ft : FunD K "_law_told" "_law_told" pg bg sg [] [] (He.ga K "_law_told") fd) (bt : Binds K fd ["deed"] []) (hm : X.mg "_law_told" = some (.ref (He.ga K "_law_told"))) (Sg : FnScope Ng ["deed"] sg) (hNg : Ng[0]? = some ("deed" : Str)) (hva : Vis sg "deed")
    (hG : ∀ cdg, LamX.GivesTo X Ng "_law_told" sg (He.ga K "_law_told") cdg bg "deed" (X.env.qual ++ "<lambda>") (TTK K)) (TB : LamX.TabB X.base X.mg c P) (hcode : X.env.code = .ref c) (hmT : (P, X.env.qual ++ "<lambda>") ∈ tbl K) (hu : ∀ p ∈ tbl K, p.1 = P → p.2 = X.env.qual ++ "<lambda>")
    (hr : Room (k + 2) X.A) (L : LamX.LamS X.env.scope scope) (hbody : ∀ (A : Around) (outer : List Env) (s : Shared) (H : Hp) (E : XK) (f1 c1 : Addr), Room k (A.deeper (LamX.lamEnv X scope s.heap.objs.size f1 c1)) → Takes (LamX.lamCx X A outer s H E scope f1 c1) (fun c d _ H' => E c d H') → SE (LamX.lamCx X A outer s H E scope f1 c1) (fun c d _ H' => E c d H') body f)
    (hg : Gl X "_law_told" := by rfl) (hdef : defaultsOf params X.env = ([], []) := by rfl)
    (hbind : ∀ (q : Str) (cl : List (Str × Addr)) (pm cv ctv : Value), bindArgs (PySem.W.kla_fn "<lambda>" q params body scope cl pm cv ctv) ⟨[], []⟩ = pure [] := by intros; rfl) :
    SE X W (.Call (.Name "_law_told" p) [.Lambda params body scope lpos] [] pos) (mTold f) :=
  se_told hX Ft bt hm Sg hNg hva hG TB hcode hmT hu hr L (fun A outer s H E f1 c1 hr => hbody A outer s H E f1 c1 hr (takes_of rfl rfl rfl rfl)) hg hdef hbind
def suiteOf (bg : List Stmt) : List Stmt := match bg with
  | .Try _ [.ExceptHandler _ _ b _] _ _ _ :: _ => b
  | _ => []
end Mi
namespace Mi
open PySem L2
theorem nodup_fst {L : List (Nat × O)} (nd : (L.map (·.1)).Nodup) {p q : Nat × O} (hp : p ∈ L) (hq : q ∈ L) (e : p.1 = q.1) : p = q := by
  induction L with
  | nil => cases hp
  | cons x L ih =>
    rw [List.map_cons, List.nodup_cons] at nd
    rcases List.mem_cons.mp hp with e1 | h1
    · rcases List.mem_cons.mp hq with e2 | h2
      · rw [e1, e2]
      · exact absurd (show x.1 ∈ L.map (·.1) from List.mem_map.mpr ⟨q, h2, by rw [← e, e1]⟩) nd.1
    · rcases List.mem_cons.mp hq with e2 | h2
      · exact absurd (show x.1 ∈ L.map (·.1) from List.mem_map.mpr ⟨p, h1, by rw [e, e2]⟩) nd.1
      · exact ih nd.2 h1 h2
theorem Own.write2 {h : Hq} {L L' : List (Nat × O)} (w : Own h L) {a : Nat} {o : O} (e : L'.map (·.1) = L.map (·.1)) (m : (a, o) ∈ L') (h2 : ∀ p ∈ L', p.1 ≠ a → p ∈ L) : Own (h.set a o) L' :=
  w.write e (by rw [← e]; exact List.mem_map.mpr ⟨_, m, rfl⟩) (fun p hp z => by rw [nodup_fst (by rw [e]; exact w.1) hp m z]) h2
/-- what is told -/
inductive Evt where
  | new (x : Hd) | put (x : Hd) (n : Str) (v : D) | set (x : Hd) (n : Str) (o v : D) | take (x : Hd) (n : Str) (o : D) | drop (x : Hd)
def encE : Evt → D
  | .new x => .tup [.str "new", encH x]
  | .put x n v => .tup [.str "put", encH x, .str n, v]
  | .set x n o v => .tup [.str "set", encH x, .str n, o, v]
  | .take x n o => .tup [.str "take", encH x, .str n, o]
  | .drop x => .tup [.str "drop", encH x]
/-- book, turns, rows and events, wherever they lie -/
structure Cr where
  b : Nat
  t : Nat
  e : Nat
  r : Nat
  bk : List (Hd × (Nat × List (Str × D)))
  tn : List (Int × Int)
  rw : List (List Str × (Nat × List Hd))
  ev : List Evt
def rfD {β : Type} (v : Nat × β) : D := .ref v.1
def ptC (x : Hd × (Nat × List (Str × D))) : Nat × O := (x.2.1, .dic (eD D.str id x.2.2))
def rwC (x : List Str × (Nat × List Hd)) : Nat × O := (x.2.1, .lst (x.2.2.map encH))
def Cr.cells (C : Cr) : List (Nat × O) := (C.b, .dic (eD encH rfD C.bk)) :: (C.t, .dic (eD D.int D.int C.tn)) :: (C.e, .lst (C.ev.map encE)) :: (C.r, .dic (eD encS rfD C.rw)) :: (C.bk.map ptC ++ C.rw.map rwC)
section
variable {h : Hq} {C : Cr} {F : List (Nat × O)} (w : Own h (C.cells ++ F))
include w
theorem at_b : h[C.b]? = some (.dic (eD encH rfD C.bk)) := w.at (by simp [Cr.cells])
theorem at_t : h[C.t]? = some (.dic (eD D.int D.int C.tn)) := w.at (by simp [Cr.cells])
theorem at_e : h[C.e]? = some (.lst (C.ev.map encE)) := w.at (by simp [Cr.cells])
theorem at_r : h[C.r]? = some (.dic (eD encS rfD C.rw)) := w.at (by simp [Cr.cells])
theorem at_f {a : Nat} {o : O} (m : (a, o) ∈ F) : h[a]? = some o := w.at (by simp [m])
theorem at_pt {x : Hd} {a : Nat} {ps : List (Str × D)} (e : aget C.bk x = some (a, ps)) : h[a]? = some (.dic (eD D.str id ps)) := w.at (by
  have := aget_mem e
  simp only [Cr.cells, List.cons_append, List.mem_cons, List.mem_append, List.mem_map]
  exact .inr (.inr (.inr (.inr (.inl (.inl ⟨_, this, rfl⟩))))))
theorem at_row {x : List Str} {a : Nat} {ps : List Hd} (e : aget C.rw x = some (a, ps)) : h[a]? = some (.lst (ps.map encH)) := w.at (by
  have := aget_mem e
  simp only [Cr.cells, List.cons_append, List.mem_cons, List.mem_append, List.mem_map]
  exact .inr (.inr (.inr (.inr (.inl (.inr ⟨_, this, rfl⟩))))))
theorem up_t (tn' : List (Int × Int)) : Own (h.set C.t (.dic (eD D.int D.int tn'))) ({ C with tn := tn' }.cells ++ F) := by
  refine w.write2 (by simp [Cr.cells]) (by simp [Cr.cells]) fun p hp z => ?_
  simp only [Cr.cells, List.cons_append, List.mem_cons] at hp ⊢
  rcases hp with hp | rfl | hp
  · exact .inl hp
  · exact absurd rfl z
  · exact .inr (.inr hp)
theorem up_e (ev' : List Evt) : Own (h.set C.e (.lst (ev'.map encE))) ({ C with ev := ev' }.cells ++ F) := by
  refine w.write2 (by simp [Cr.cells]) (by simp [Cr.cells]) fun p hp z => ?_
  simp only [Cr.cells, List.cons_append, List.mem_cons] at hp ⊢
  rcases hp with hp | hp | rfl | hp
  · exact .inl hp
  · exact .inr (.inl hp)
  · exact absurd rfl z
  · exact .inr (.inr (.inr hp))
/-- a cell of the frame -/
theorem up_f {a : Nat} {o o' : O} {F1 F2 : List (Nat × O)} (eF : F = F1 ++ (a, o) :: F2) : Own (h.set a o') (C.cells ++ (F1 ++ (a, o') :: F2)) := by
  subst eF
  refine w.write2 (by simp) (by simp) fun p hp z => ?_
  simp only [List.mem_append, List.mem_cons] at hp ⊢
  rcases hp with hp | hp | rfl | hp
  · exact .inl hp
  · exact .inr (.inl hp)
  · exact absurd rfl z
  · exact .inr (.inr (.inr hp))
theorem put_same {x : Hd} {a : Nat} {ps ps' : List (Str × D)} (nd : (keys C.bk).Nodup) (e : aget C.bk x = some (a, ps)) :
    eD encH rfD (aput C.bk x (a, ps')) = eD encH rfD C.bk ∧ (aput C.bk x (a, ps')).map (fun y => y.2.1) = C.bk.map (fun y => y.2.1) ∧ (∀ y ∈ aput C.bk x (a, ps'), y = (x, (a, ps')) ∨ y ∈ C.bk) ∧ (x, (a, ps')) ∈ aput C.bk x (a, ps') := by
  have hm : x ∈ keys C.bk := aget_some.mp ⟨_, e⟩
  have ep : aput C.bk x (a, ps') = C.bk.map (fun p => if p.1 = x then (p.1, (a, ps')) else p) := aput_in hm _
  have un : ∀ p ∈ C.bk, p.1 = x → p.2 = (a, ps) := fun p hp ex => by
    have := aget_of_mem nd (show (p.1, p.2) ∈ C.bk from hp)
    rw [ex, e] at this; exact (Option.some.inj this).symm
  refine ⟨?_, ?_, fun y hy => ?_, aget_mem (by rw [aget_aput, if_pos rfl])⟩
  · rw [ep]; unfold eD; rw [List.map_map]
    apply List.map_congr_left
    intro p hp
    simp only [Function.comp]
    split
    · rename_i ex; rw [un p hp ex]; rfl
    · rfl
  · rw [ep, List.map_map]
    apply List.map_congr_left
    intro p hp
    simp only [Function.comp]
    split
    · rename_i ex; rw [un p hp ex]
    · rfl
  · rw [ep] at hy
    obtain ⟨p, hp, rfl⟩ := List.mem_map.mp hy
    split
    · rename_i ex; rw [ex]; exact .inl rfl
    · exact .inr hp
theorem up_pt {x : Hd} {a : Nat} {ps ps' : List (Str × D)} (nd : (keys C.bk).Nodup) (e : aget C.bk x = some (a, ps)) : Own (h.set a (.dic (eD D.str id ps'))) ({ C with bk := aput C.bk x (a, ps') }.cells ++ F) := by
  obtain ⟨q1, q2, q3, q4⟩ := put_same (ps' := ps') w nd e
  refine w.write2 ?_ ?_ fun p hp z => ?_
  · simp only [Cr.cells, List.cons_append, List.map_cons, List.map_append, List.map_map]
    have e1 : (aput C.bk x (a, ps')).map ((fun y => y.1) ∘ ptC) = C.bk.map ((fun y => y.1) ∘ ptC) := q2
    rw [e1]
  · simp only [Cr.cells, List.cons_append, List.mem_cons, List.mem_append, List.mem_map]
    exact .inr (.inr (.inr (.inr (.inl (.inl ⟨_, q4, rfl⟩)))))
  · simp only [Cr.cells, List.cons_append, List.mem_cons, List.mem_append, List.mem_map] at hp ⊢
    rw [q1] at hp
    rcases hp with hp | hp | hp | hp | (⟨y, hy, rfl⟩ | hp) | hp
    · exact .inl hp
    · exact .inr (.inl hp)
    · exact .inr (.inr (.inl hp))
    · exact .inr (.inr (.inr (.inl hp)))
    · rcases q3 y hy with rfl | hy
      · exact absurd rfl z
      · exact .inr (.inr (.inr (.inr (.inl (.inl ⟨y, hy, rfl⟩)))))
    · exact .inr (.inr (.inr (.inr (.inl (.inr hp)))))
    · exact .inr (.inr (.inr (.inr (.inr hp))))
theorem put_sameR {x : List Str} {a : Nat} {ps ps' : List Hd} (nd : (keys C.rw).Nodup) (e : aget C.rw x = some (a, ps)) :
    eD encS rfD (aput C.rw x (a, ps')) = eD encS rfD C.rw ∧ (aput C.rw x (a, ps')).map (fun y => y.2.1) = C.rw.map (fun y => y.2.1) ∧ (∀ y ∈ aput C.rw x (a, ps'), y = (x, (a, ps')) ∨ y ∈ C.rw) ∧ (x, (a, ps')) ∈ aput C.rw x (a, ps') := by
  have hm : x ∈ keys C.rw := aget_some.mp ⟨_, e⟩
  have ep : aput C.rw x (a, ps') = C.rw.map (fun p => if p.1 = x then (p.1, (a, ps')) else p) := aput_in hm _
  have un : ∀ p ∈ C.rw, p.1 = x → p.2 = (a, ps) := fun p hp ex => by
    have := aget_of_mem nd (show (p.1, p.2) ∈ C.rw from hp)
    rw [ex, e] at this; exact (Option.some.inj this).symm
  refine ⟨?_, ?_, fun y hy => ?_, aget_mem (by rw [aget_aput, if_pos rfl])⟩
  · rw [ep]; unfold eD; rw [List.map_map]
    apply List.map_congr_left
    intro p hp
    simp only [Function.comp]
    split
    · rename_i ex; rw [un p hp ex]; rfl
    · rfl
  · rw [ep, List.map_map]
    apply List.map_congr_left
    intro p hp
    simp only [Function.comp]
    split
    · rename_i ex; rw [un p hp ex]
    · rfl
  · rw [ep] at hy
    obtain ⟨p, hp, rfl⟩ := List.mem_map.mp hy
    split
    · rename_i ex; rw [ex]; exact .inl rfl
    · exact .inr hp
theorem up_row {x : List Str} {a : Nat} {ps ps' : List Hd} (nd : (keys C.rw).Nodup) (e : aget C.rw x = some (a, ps)) : Own (h.set a (.lst (ps'.map encH))) ({ C with rw := aput C.rw x (a, ps') }.cells ++ F) := by
  obtain ⟨q1, q2, q3, q4⟩ := put_sameR (ps' := ps') w nd e
  refine w.write2 ?_ ?_ fun p hp z => ?_
  · simp only [Cr.cells, List.cons_append, List.map_cons, List.map_append, List.map_map]
    have e1 : (aput C.rw x (a, ps')).map ((fun y => y.1) ∘ rwC) = C.rw.map ((fun y => y.1) ∘ rwC) := q2
    rw [e1]
  · simp only [Cr.cells, List.cons_append, List.mem_cons, List.mem_append, List.mem_map]
    exact .inr (.inr (.inr (.inr (.inl (.inr ⟨_, q4, rfl⟩)))))
  · simp only [Cr.cells, List.cons_append, List.mem_cons, List.mem_append, List.mem_map] at hp ⊢
    rw [q1] at hp
    rcases hp with hp | hp | hp | hp | (hp | ⟨y, hy, rfl⟩) | hp
    · exact .inl hp
    · exact .inr (.inl hp)
    · exact .inr (.inr (.inl hp))
    · exact .inr (.inr (.inr (.inl hp)))
    · exact .inr (.inr (.inr (.inr (.inl (.inl hp)))))
    · rcases q3 y hy with rfl | hy
      · exact absurd rfl z
      · exact .inr (.inr (.inr (.inr (.inl (.inr ⟨y, hy, rfl⟩)))))
    · exact .inr (.inr (.inr (.inr (.inr hp))))
/-- a new entry of the book: its dict lies at the end already -/
theorem up_b_new {x : Hd} (hn : x ∉ keys C.bk) : Own (((h ++ [O.dic []]) : Hq).set C.b (.dic (eD encH rfD (aput C.bk x (h.length, []))))) ({ C with bk := aput C.bk x (h.length, []) }.cells ++ F) := by
  have ep : aput C.bk x (h.length, []) = C.bk ++ [(x, (h.length, []))] := aput_new hn _
  have w2 := w.new (.dic [])
  have w3 : Own (h ++ [.dic []]) ((C.b, .dic (eD encH rfD C.bk)) :: (C.t, .dic (eD D.int D.int C.tn)) :: (C.e, .lst (C.ev.map encE)) :: (C.r, .dic (eD encS rfD C.rw)) :: ((C.bk ++ [(x, (h.length, []))]).map ptC ++ C.rw.map rwC) ++ F) := by
    refine w2.perm ?_
    simp only [Cr.cells, List.cons_append, List.map_append, List.map_cons, List.map_nil, List.append_assoc]
    refine (List.Perm.swap _ _ _).trans (List.Perm.cons _ ((List.Perm.swap _ _ _).trans (List.Perm.cons _ ((List.Perm.swap _ _ _).trans (List.Perm.cons _ ((List.Perm.swap _ _ _).trans (List.Perm.cons _ ?_)))))))
    exact List.perm_middle.symm
  rw [ep]
  refine w3.write2 (by simp [Cr.cells]) (by simp [Cr.cells]) fun p hp z => ?_
  simp only [Cr.cells, List.cons_append, List.mem_cons] at hp ⊢
  rcases hp with rfl | hp
  · exact absurd rfl z
  · exact .inr hp
theorem up_r_new {x : List Str} (hn : x ∉ keys C.rw) : Own (((h ++ [O.lst []]) : Hq).set C.r (.dic (eD encS rfD (aput C.rw x (h.length, []))))) ({ C with rw := aput C.rw x (h.length, []) }.cells ++ F) := by
  have ep : aput C.rw x (h.length, []) = C.rw ++ [(x, (h.length, []))] := aput_new hn _
  have w2 := w.new (.lst [])
  have w3 : Own (h ++ [.lst []]) ((C.b, .dic (eD encH rfD C.bk)) :: (C.t, .dic (eD D.int D.int C.tn)) :: (C.e, .lst (C.ev.map encE)) :: (C.r, .dic (eD encS rfD C.rw)) :: (C.bk.map ptC ++ (C.rw ++ [(x, (h.length, []))]).map rwC) ++ F) := by
    refine w2.perm ?_
    simp only [Cr.cells, List.cons_append, List.map_append, List.map_cons, List.map_nil, List.append_assoc]
    refine (List.Perm.swap _ _ _).trans (List.Perm.cons _ ((List.Perm.swap _ _ _).trans (List.Perm.cons _ ((List.Perm.swap _ _ _).trans (List.Perm.cons _ ((List.Perm.swap _ _ _).trans (List.Perm.cons _ ?_)))))))
    rw [← List.append_assoc, ← List.append_assoc]
    exact List.perm_middle.symm
  rw [ep]
  refine w3.write2 (by simp [Cr.cells]) (by simp [Cr.cells]) fun p hp z => ?_
  simp only [Cr.cells, List.cons_append, List.mem_cons] at hp ⊢
  rcases hp with hp | hp | hp | rfl | hp
  · exact .inl hp
  · exact .inr (.inl hp)
  · exact .inr (.inr (.inl hp))
  · exact absurd rfl z
  · exact .inr (.inr (.inr (.inr hp)))
theorem up_b_del (x : Hd) : Own (h.set C.b (.dic (eD encH rfD (adel C.bk x)))) ({ C with bk := adel C.bk x }.cells ++ F) := by
  have w2 : Own (h.set C.b (.dic (eD encH rfD (adel C.bk x)))) ((C.b, .dic (eD encH rfD (adel C.bk x))) :: (C.t, .dic (eD D.int D.int C.tn)) :: (C.e, .lst (C.ev.map encE)) :: (C.r, .dic (eD encS rfD C.rw)) :: (C.bk.map ptC ++ C.rw.map rwC) ++ F) := by
    refine w.write2 (by simp [Cr.cells]) (by simp [Cr.cells]) fun p hp z => ?_
    simp only [Cr.cells, List.cons_append, List.mem_cons] at hp ⊢
    rcases hp with rfl | hp
    · exact absurd rfl z
    · exact .inr hp
  refine w2.sub ?_
  simp only [Cr.cells, List.cons_append]
  exact .cons₂ _ (.cons₂ _ (.cons₂ _ (.cons₂ _ (List.Sublist.append (List.Sublist.append (List.Sublist.map _ List.filter_sublist) (List.Sublist.refl _)) (List.Sublist.refl _)))))
theorem up_r_del (x : List Str) : Own (h.set C.r (.dic (eD encS rfD (adel C.rw x)))) ({ C with rw := adel C.rw x }.cells ++ F) := by
  have w2 : Own (h.set C.r (.dic (eD encS rfD (adel C.rw x)))) ((C.b, .dic (eD encH rfD C.bk)) :: (C.t, .dic (eD D.int D.int C.tn)) :: (C.e, .lst (C.ev.map encE)) :: (C.r, .dic (eD encS rfD (adel C.rw x))) :: (C.bk.map ptC ++ C.rw.map rwC) ++ F) := by
    refine w.write2 (by simp [Cr.cells]) (by simp [Cr.cells]) fun p hp z => ?_
    simp only [Cr.cells, List.cons_append, List.mem_cons] at hp ⊢
    rcases hp with hp | hp | hp | rfl | hp
    · exact .inl hp
    · exact .inr (.inl hp)
    · exact .inr (.inr (.inl hp))
    · exact absurd rfl z
    · exact .inr (.inr (.inr (.inr hp)))
  refine w2.sub ?_
  simp only [Cr.cells, List.cons_append]
  exact .cons₂ _ (.cons₂ _ (.cons₂ _ (.cons₂ _ (List.Sublist.append (List.Sublist.append (List.Sublist.refl _) (List.Sublist.map _ List.filter_sublist)) (List.Sublist.refl _)))))
end
end Mi
namespace Mi
open PySem L2
section
variable {ρ : Env'} {h : Hq}
@[simp] theorem e_fld {c f : Str} {fe : Ev D} : mFld c f fe ρ h = (fe ρ h).bind fun d h1 => match asI c h1 d with
  | some (_, fs) => (match fs.lookup f with
    | some v => .ok v h1
    | none => .bad)
  | none => .bad := rfl
@[simp] theorem e_fldSet {c f : Str} {fo fv : Ev D} : mFldSet c f fo fv ρ h = (fv ρ h).bindS ρ fun v h1 => (fo ρ h1).bindS ρ fun o h2 => match asI c h2 o with
  | some (l, fs) => if fs.length < 1000 then .nx ρ (h2.set l (.ins c (putD f v fs))) else .bad
  | none => .bad := rfl
@[simp] theorem e_meth {F : Type} {C : Calls F} {f : F} {c m : Str} {n : Nat} {fo : Ev D} {fa : Ev (List D)} : mMeth C f c m n fo fa ρ h = (fo ρ h).bind fun o h1 => match asI c h1 o with
  | some (_, fs) => (match fs.lookup m with
    | none => (fa ρ h1).bind fun ds h2 => if (o :: ds).length = n then C f (o :: ds) h2 else .bad
    | some _ => .bad)
  | none => .bad := rfl
@[simp] theorem e_disp {ks : List Str} {fa : Ev (List D)} : mDisp ks fa ρ h = (fa ρ h).bind fun ds h1 => if ds.length = ks.length ∧ ks.length ≤ 15 ∧ ks.Nodup then .ok (.ref h1.length) (h1 ++ [.dic ((ks.map D.str).zip ds)]) else .bad := rfl
theorem as_I {c : Str} {s : Nat} {fs : List (Str × D)} (e : h[s]? = some (.ins c fs)) : asI c h (.ref s) = some (s, fs) := by simp [asI, e]
theorem ty_dic {l : Nat} {kvs : List (D × D)} (e : h[l]? = some (.dic kvs)) : tyOk "dict" (.ref l) h = true := by simp [tyOk, asD, e]
theorem ty_lst {l : Nat} {xs : List D} (e : h[l]? = some (.lst xs)) : tyOk "list" (.ref l) h = true := by simp [tyOk, asLk, asL, e]
theorem g_lenR {l : Nat} {xs : List D} (e : h[l]? = some (.lst xs)) : gLen [.ref l] h = some (.int xs.length, h) := by simp [gLen, asT, asLk, asL, e]
theorem g_lenD {l : Nat} {xs : List (D × D)} (e : h[l]? = some (.dic xs)) : gLen [.ref l] h = some (.int xs.length, h) := by simp [gLen, asT, asLk, asL, asD, e]
theorem g_appR {l : Nat} {xs : List D} {y : D} (e : h[l]? = some (.lst xs)) (hz : xs.length < sizeLine) : gAppend (.ref l) [y] h = some (.non, h.set l (.lst (xs ++ [y]))) := by simp [gAppend, e, hz]
theorem g_popR {l : Nat} {xs : List D} {y : D} (e : h[l]? = some (.lst (xs ++ [y]))) : gPop (.ref l) [] h = some (y, h.set l (.lst xs)) := by simp [gPop, e]
section
variable {κ ν : Type} [DecidableEq κ] {ek : κ → D} {ev : ν → D} (ke : ∀ a b, keyEq (ek a) (ek b) = decide (a = b)) {n : Nat} (kk : ∀ a, keyKind (ek a) = n) (hn : n ≠ 0) {l : Nat} {L : List (κ × ν)} (e : h[l]? = some (.dic (eD ek ev L)))
include ke kk hn e
theorem g_ixE {k : κ} {v : ν} (g : aget L k = some v) : gIx (.ref l) (ek k) h = some (ev v, h) := by
  have : asD h (.ref l) = some (eD ek ev L) := by simp [asD, e]
  unfold gIx
  simp only [this]
  rw [if_pos (kinds_e kk hn L k), getD_e ke, g]; rfl
theorem in_E (k : κ) : inH h (ek k) (.ref l) = some (aget L k).isSome := by
  have : asD h (.ref l) = some (eD ek ev L) := by simp [asD, e]
  unfold inH
  simp only [this]
  rw [if_pos (kinds_e kk hn L k), getD_e ke, Option.isSome_map]
theorem g_inE (k : κ) : gIn (ek k) (.ref l) h = some (.bl (aget L k).isSome, h) := by unfold gIn; rw [in_E ke kk hn e]; rfl
theorem g_notInE (k : κ) : gNotIn (ek k) (.ref l) h = some (.bl (!(aget L k).isSome), h) := by unfold gNotIn; rw [in_E ke kk hn e]; rfl
theorem g_getE (k : κ) (d : D) : gDGet (.ref l) [ek k, d] h = some (((aget L k).map ev).getD d, h) := by
  have : asD h (.ref l) = some (eD ek ev L) := by simp [asD, e]
  unfold gDGet
  simp only [this, Option.bind_some]
  rw [if_pos (kinds_e kk hn L k), getD_e ke]
theorem g_popE {k : κ} {v : ν} (g : aget L k = some v) : gDPop (.ref l) [ek k] h = some (ev v, h.set l (.dic (eD ek ev (adel L k)))) := by
  unfold gDPop
  simp only [e]
  rw [if_pos (kinds_e kk hn L k), getD_e ke, g, drop_e ke]; rfl
theorem g_setE (hz : L.length < sizeLine) (k : κ) (v : ν) : gSetI (.ref l) (ek k) (ev v) h = some (h.set l (.dic (eD ek ev (aput L k v)))) := by
  unfold gSetI
  simp only [e]
  rw [if_pos ⟨kinds_e kk hn L k, by simpa [eD] using hz⟩, put_e ke]
theorem g_setdO (hz : L.length < sizeLine) {k : κ} {v : ν} (d : D) (g : aget L k = some v) : gDSetd (.ref l) [ek k, d] h = some (ev v, h) := by
  unfold gDSetd
  simp only [e]
  rw [if_pos ⟨kinds_e kk hn L k, by simpa [eD] using hz⟩, getD_e ke, g]; rfl
theorem g_setdN (hz : L.length < sizeLine) {k : κ} (v : ν) (g : aget L k = none) : gDSetd (.ref l) [ek k, ev v] h = some (ev v, h.set l (.dic (eD ek ev (aput L k v)))) := by
  unfold gDSetd
  simp only [e]
  rw [if_pos ⟨kinds_e kk hn L k, by simpa [eD] using hz⟩, getD_e ke, g, put_e ke]; rfl
end
end
/-! ### a store -/
def encPl (v : List Str × Nat) : D := .tup [encS v.1, .int (v.2 : Nat)]
def sFs (sch : D) (e b t T : Nat) : List (Str × D) := [("scheme", sch), ("events", .ref e), ("book", .ref b), ("turns", .ref t), ("lying", .ref T)]
def tFs (r p : Nat) : List (Str × D) := [("rows", .ref r), ("places", .ref p)]
section
variable {sch : D} {e b t T r p : Nat}
@[simp] theorem lk_scheme : (sFs sch e b t T).lookup ("scheme" : Str) = some sch := rfl
@[simp] theorem lk_events : (sFs sch e b t T).lookup ("events" : Str) = some (.ref e) := rfl
@[simp] theorem lk_book : (sFs sch e b t T).lookup ("book" : Str) = some (.ref b) := rfl
@[simp] theorem lk_turns : (sFs sch e b t T).lookup ("turns" : Str) = some (.ref t) := rfl
@[simp] theorem lk_lying : (sFs sch e b t T).lookup ("lying" : Str) = some (.ref T) := rfl
@[simp] theorem lk_rows : (tFs r p).lookup ("rows" : Str) = some (.ref r) := rfl
@[simp] theorem lk_places : (tFs r p).lookup ("places" : Str) = some (.ref p) := rfl
@[simp] theorem ml_must_be : (sFs sch e b t T).lookup ("must_be" : Str) = none := rfl
@[simp] theorem ml_must_lead : (sFs sch e b t T).lookup ("must_lead" : Str) = none := rfl
@[simp] theorem ml_tell : (sFs sch e b t T).lookup ("tell" : Str) = none := rfl
@[simp] theorem ml_kinds_of : (sFs sch e b t T).lookup ("kinds_of" : Str) = none := rfl
@[simp] theorem ml_new : (sFs sch e b t T).lookup ("new" : Str) = none := rfl
@[simp] theorem ml_write : (sFs sch e b t T).lookup ("write" : Str) = none := rfl
@[simp] theorem ml_put : (sFs sch e b t T).lookup ("put" : Str) = none := rfl
@[simp] theorem ml_must_have : (sFs sch e b t T).lookup ("must_have" : Str) = none := rfl
@[simp] theorem ml_take : (sFs sch e b t T).lookup ("take" : Str) = none := rfl
@[simp] theorem ml_worth : (sFs sch e b t T).lookup ("worth" : Str) = none := rfl
@[simp] theorem ml_has : (sFs sch e b t T).lookup ("has" : Str) = none := rfl
@[simp] theorem ml_parts : (sFs sch e b t T).lookup ("parts" : Str) = none := rfl
@[simp] theorem ml_drop : (sFs sch e b t T).lookup ("drop" : Str) = none := rfl
@[simp] theorem ml_is_there : (sFs sch e b t T).lookup ("is_there" : Str) = none := rfl
@[simp] theorem ml_things : (sFs sch e b t T).lookup ("things" : Str) = none := rfl
@[simp] theorem ml_count : (sFs sch e b t T).lookup ("count" : Str) = none := rfl
@[simp] theorem ml_way : (sFs sch e b t T).lookup ("way" : Str) = none := rfl
@[simp] theorem ml_linked_to : (sFs sch e b t T).lookup ("linked_to" : Str) = none := rfl
@[simp] theorem ml_up : (sFs sch e b t T).lookup ("up" : Str) = none := rfl
@[simp] theorem ml_under : (sFs sch e b t T).lookup ("under" : Str) = none := rfl
@[simp] theorem ml_drop_all : (sFs sch e b t T).lookup ("drop_all" : Str) = none := rfl
@[simp] theorem ml_tables : (sFs sch e b t T).lookup ("tables" : Str) = none := rfl
@[simp] theorem ml_place : (sFs sch e b t T).lookup ("place" : Str) = none := rfl
@[simp] theorem ml_look : (sFs sch e b t T).lookup ("look" : Str) = none := rfl
@[simp] theorem ml_matches : (sFs sch e b t T).lookup ("matches" : Str) = none := rfl
@[simp] theorem ml_found : (sFs sch e b t T).lookup ("found" : Str) = none := rfl
@[simp] theorem ml_tables_for : (sFs sch e b t T).lookup ("tables_for" : Str) = none := rfl
@[simp] theorem ml_mark : (sFs sch e b t T).lookup ("mark" : Str) = none := rfl
@[simp] theorem ml_must_mark : (sFs sch e b t T).lookup ("must_mark" : Str) = none := rfl
@[simp] theorem ml_since : (sFs sch e b t T).lookup ("since" : Str) = none := rfl
@[simp] theorem ml_back_to : (sFs sch e b t T).lookup ("back_to" : Str) = none := rfl
@[simp] theorem ml_do : (sFs sch e b t T).lookup ("do" : Str) = none := rfl
@[simp] theorem ml_copy_some : (sFs sch e b t T).lookup ("copy_some" : Str) = none := rfl
@[simp] theorem ml_copy : (sFs sch e b t T).lookup ("copy" : Str) = none := rfl
@[simp] theorem ml_copy_all : (sFs sch e b t T).lookup ("copy_all" : Str) = none := rfl
@[simp] theorem ml_clear : (sFs sch e b t T).lookup ("clear" : Str) = none := rfl
@[simp] theorem ml_enter : (tFs r p).lookup ("enter" : Str) = none := rfl
@[simp] theorem ml_leave : (tFs r p).lookup ("leave" : Str) = none := rfl
@[simp] theorem ml_move : (tFs r p).lookup ("move" : Str) = none := rfl
@[simp] theorem ml_place' : (tFs r p).lookup ("place" : Str) = none := rfl
@[simp] theorem ml_all_rows : (tFs r p).lookup ("all_rows" : Str) = none := rfl
end
structure SC where
  s : Nat
  T : Nat
  p : Nat
  sch : D
  pl : List (Hd × (List Str × Nat))
  C : Cr
def SC.fr (S : SC) : List (Nat × O) := [(S.s, .ins "Store" (sFs S.sch S.C.e S.C.b S.C.t S.T)), (S.T, .ins "Tables" (tFs S.C.r S.p)), (S.p, .dic (eD encH encPl S.pl))]
def W (h : Hq) (S : SC) (F : List (Nat × O)) : Prop := Own h (S.C.cells ++ (S.fr ++ F))
section
variable {h : Hq} {S : SC} {F : List (Nat × O)} (w : W h S F)
include w
theorem at_s : h[S.s]? = some (.ins "Store" (sFs S.sch S.C.e S.C.b S.C.t S.T)) := at_f w (by simp [SC.fr])
theorem at_T : h[S.T]? = some (.ins "Tables" (tFs S.C.r S.p)) := at_f w (by simp [SC.fr])
theorem at_p : h[S.p]? = some (.dic (eD encH encPl S.pl)) := at_f w (by simp [SC.fr])
theorem up_p (pl' : List (Hd × (List Str × Nat))) : W (h.set S.p (.dic (eD encH encPl pl'))) { S with pl := pl' } F :=
  up_f (C := S.C) (F := S.fr ++ F) (F1 := [(S.s, .ins "Store" (sFs S.sch S.C.e S.C.b S.C.t S.T)), (S.T, .ins "Tables" (tFs S.C.r S.p))]) (F2 := F) (o := .dic (eD encH encPl S.pl)) w rfl
theorem W.row {x : List Str} {a : Nat} {ps : List Hd} (ps' : List Hd) (nd : (keys S.C.rw).Nodup) (e : aget S.C.rw x = some (a, ps)) : W (h.set a (.lst (ps'.map encH))) { S with C := { S.C with rw := aput S.C.rw x (a, ps') } } F := up_row w nd e
theorem W.pt {x : Hd} {a : Nat} {ps : List (Str × D)} (ps' : List (Str × D)) (nd : (keys S.C.bk).Nodup) (e : aget S.C.bk x = some (a, ps)) : W (h.set a (.dic (eD D.str id ps'))) { S with C := { S.C with bk := aput S.C.bk x (a, ps') } } F := up_pt w nd e
theorem W.tn (tn' : List (Int × Int)) : W (h.set S.C.t (.dic (eD D.int D.int tn'))) { S with C := { S.C with tn := tn' } } F := up_t w tn'
theorem W.ev (ev' : List Evt) : W (h.set S.C.e (.lst (ev'.map encE))) { S with C := { S.C with ev := ev' } } F := up_e w ev'
theorem W.bnew {x : Hd} (hn : x ∉ keys S.C.bk) : W (((h ++ [O.dic []]) : Hq).set S.C.b (.dic (eD encH rfD (aput S.C.bk x (h.length, []))))) { S with C := { S.C with bk := aput S.C.bk x (h.length, []) } } F := up_b_new w hn
theorem W.bdel (x : Hd) : W (h.set S.C.b (.dic (eD encH rfD (adel S.C.bk x)))) { S with C := { S.C with bk := adel S.C.bk x } } F := up_b_del w x
theorem W.rdel (x : List Str) : W (h.set S.C.r (.dic (eD encS rfD (adel S.C.rw x)))) { S with C := { S.C with rw := adel S.C.rw x } } F := up_r_del w x
theorem W.more (g : Hq) : W (h ++ g) S F := Own.grow w g
end
end Mi
namespace Mi
open PySem L2
/-! ### orders -/
def leT (a b : Str) : Bool := leD (.str a) (.str b)
def leH (a b : Hd) : Bool := leD (encH a) (encH b)
def sortT (l : List Str) : List Str := l.mergeSort leT
def sortH (l : List Hd) : List Hd := l.mergeSort leH
theorem leT_eq (a b : Str) : leT a b = decide (a.cps.toList ≤ b.cps.toList) := by
  show (!PySem.W.dataLt (.str b) (.str a)) = _
  rw [PySem.W.dataLt_str, ← decide_not]
  rfl
theorem leH_eq (a b : Hd) : leH a b = decide (a.1 < b.1 ∨ (a.1 = b.1 ∧ a.2 ≤ b.2)) := by
  show (!PySem.W.dataLt (.tuple [.int b.1, .int b.2]) (.tuple [.int a.1, .int a.2])) = _
  rw [PySem.W.dataLt_ii, ← decide_not]
  apply decide_eq_decide.mpr
  omega
theorem str_ext {a b : Str} (h : a.cps.toList = b.cps.toList) : a = b := by
  cases a; cases b; simp only [Str.mk.injEq] at *; exact Array.toList_inj.mp h
theorem leT_trans (a b c : Str) (h1 : leT a b = true) (h2 : leT b c = true) : leT a c = true := by
  rw [leT_eq, decide_eq_true_eq] at *; exact List.le_trans h1 h2
theorem leT_total (a b : Str) : (leT a b || leT b a) = true := by
  rw [leT_eq, leT_eq]
  rcases List.le_total a.cps.toList b.cps.toList with h | h <;> simp [h]
theorem leT_anti (a b : Str) (h1 : leT a b = true) (h2 : leT b a = true) : a = b := by
  rw [leT_eq, decide_eq_true_eq] at *; exact str_ext (List.le_antisymm h1 h2)
theorem leH_trans (a b c : Hd) (h1 : leH a b = true) (h2 : leH b c = true) : leH a c = true := by
  rw [leH_eq, decide_eq_true_eq] at *; omega
theorem leH_total (a b : Hd) : (leH a b || leH b a) = true := by
  rw [leH_eq, leH_eq, Bool.or_eq_true, decide_eq_true_eq, decide_eq_true_eq]; omega
theorem leH_anti (a b : Hd) (h1 : leH a b = true) (h2 : leH b a = true) : a = b := by
  rw [leH_eq, decide_eq_true_eq] at *; exact Prod.ext (by omega) (by omega)
theorem mem_sortH {l : List Hd} {x : Hd} : x ∈ sortH l ↔ x ∈ l := (List.mergeSort_perm l leH).mem_iff
theorem mem_sortT {l : List Str} {x : Str} : x ∈ sortT l ↔ x ∈ l := (List.mergeSort_perm l leT).mem_iff
theorem sortT_perm (l : List Str) : (sortT l).Perm l := List.mergeSort_perm l leT
theorem sortH_perm (l : List Hd) : (sortH l).Perm l := List.mergeSort_perm l leH
theorem sortT_pw (l : List Str) : (sortT l).Pairwise (fun a b => leT a b = true) := List.pairwise_mergeSort leT_trans leT_total l
theorem sortH_pw (l : List Hd) : (sortH l).Pairwise (fun a b => leH a b = true) := List.pairwise_mergeSort leH_trans leH_total l
theorem sortT_uniq {l l' : List Str} (p : l'.Perm l) (s : l'.Pairwise (fun a b => leT a b = true)) : l' = sortT l :=
  (p.trans (sortT_perm l).symm).eq_of_pairwise (fun a b _ _ => leT_anti a b) s (sortT_pw l)
theorem sortH_uniq {l l' : List Hd} (p : l'.Perm l) (s : l'.Pairwise (fun a b => leH a b = true)) : l' = sortH l :=
  (p.trans (sortH_perm l).symm).eq_of_pairwise (fun a b _ _ => leH_anti a b) s (sortH_pw l)
theorem sortT_congr {l l' : List Str} (p : l'.Perm l) : sortT l' = sortT l := sortT_uniq ((sortT_perm l').trans p) (sortT_pw l')
theorem sortH_congr {l l' : List Hd} (p : l'.Perm l) : sortH l' = sortH l := sortH_uniq ((sortH_perm l').trans p) (sortH_pw l')
theorem sortT_nd {l : List Str} (h : l.Nodup) : (sortT l).Nodup := (sortT_perm l).nodup_iff.mpr h
theorem sortH_nd {l : List Hd} (h : l.Nodup) : (sortH l).Nodup := (sortH_perm l).nodup_iff.mpr h
theorem sortT_len (l : List Str) : (sortT l).length = l.length := (sortT_perm l).length_eq
theorem sortH_len (l : List Hd) : (sortH l).length = l.length := (sortH_perm l).length_eq
theorem perm_of_mem {α : Type} [DecidableEq α] {l l' : List α} (h : l.Nodup) (h' : l'.Nodup) (k : ∀ x, x ∈ l ↔ x ∈ l') : l.Perm l' := (List.perm_ext_iff_of_nodup h h').mpr k
/-- what rises, each once, is told by what is in it -/
theorem riseT_eq {l l' : List Str} (h : l.Nodup) (h' : l'.Nodup) (s : l.Pairwise (fun a b => leT a b = true)) (s' : l'.Pairwise (fun a b => leT a b = true)) (k : ∀ x, x ∈ l ↔ x ∈ l') : l = l' :=
  (perm_of_mem h h' k).eq_of_pairwise (fun a b _ _ => leT_anti a b) s s'
theorem riseH_eq {l l' : List Hd} (h : l.Nodup) (h' : l'.Nodup) (s : l.Pairwise (fun a b => leH a b = true)) (s' : l'.Pairwise (fun a b => leH a b = true)) (k : ∀ x, x ∈ l ↔ x ∈ l') : l = l' :=
  (perm_of_mem h h' k).eq_of_pairwise (fun a b _ _ => leH_anti a b) s s'
/-! ### more on association lists -/
section
variable {κ ν : Type} [DecidableEq κ]
theorem keys_get {l : List (κ × ν)} {k : κ} : k ∈ keys l ↔ (aget l k).isSome = true := by
  rw [← aget_some, Option.isSome_iff_exists]
theorem len_keys (l : List (κ × ν)) : (keys l).length = l.length := by unfold keys; rw [List.length_map]
theorem map_if_none {k : κ} {v : ν} {l : List (κ × ν)} (h : k ∉ keys l) : (l.map fun p => if p.1 = k then (p.1, v) else p) = l := by
  conv => rhs; rw [← List.map_id l]
  apply List.map_congr_left
  intro q hq
  rw [if_neg fun e => h (by rw [← e]; exact List.mem_map.mpr ⟨q, hq, rfl⟩)]; rfl
theorem aput_aput (l : List (κ × ν)) (k : κ) (v v' : ν) : aput (aput l k v) k v' = aput l k v' := by
  have hk : k ∈ keys (aput l k v) := by rw [keys_get, aget_aput, if_pos rfl]; rfl
  rw [aput_in hk]
  by_cases h : k ∈ keys l
  · rw [aput_in h, aput_in h, List.map_map]
    apply List.map_congr_left
    intro p _
    simp only [Function.comp]
    by_cases e : p.1 = k <;> simp [e]
  · rw [aput_new h, aput_new h, List.map_append, map_if_none h]
    simp
theorem aput_self {l : List (κ × ν)} {k : κ} {v : ν} (nd : (keys l).Nodup) (e : aget l k = some v) : aput l k v = l := by
  rw [aput_in (aget_some.mp ⟨_, e⟩)]
  conv => rhs; rw [← List.map_id l]
  apply List.map_congr_left
  intro p hp
  split
  · rename_i ek
    have := aget_of_mem nd (show (p.1, p.2) ∈ l from hp)
    rw [ek, e] at this; cases this; rfl
  · rfl
theorem adel_aput (l : List (κ × ν)) (k : κ) (v : ν) : adel (aput l k v) k = adel l k := by
  by_cases h : k ∈ keys l
  · rw [aput_in h]
    unfold adel
    rw [List.filter_map]
    conv => rhs; rw [← List.map_id (l.filter _)]
    have e : ((fun p : κ × ν => !decide (p.1 = k)) ∘ fun p => if p.1 = k then (p.1, v) else p) = fun p : κ × ν => !decide (p.1 = k) := by
      funext p; simp only [Function.comp]; by_cases e : p.1 = k <;> simp [e]
    rw [e]
    apply List.map_congr_left
    intro p hp
    have := (List.mem_filter.mp hp).2
    rw [if_neg (by simpa using this)]; rfl
  · rw [aput_new h]
    unfold adel
    rw [List.filter_append]; simp
theorem adel_none {l : List (κ × ν)} {k : κ} (h : k ∉ keys l) : adel l k = l := by
  unfold adel
  rw [List.filter_eq_self]
  intro p hp
  simp only [Bool.not_eq_true', decide_eq_false_iff_not]
  exact fun e => h (by rw [← e]; exact List.mem_map.mpr ⟨p, hp, rfl⟩)
theorem mem_keys_aput {l : List (κ × ν)} {k x : κ} {v : ν} : x ∈ keys (aput l k v) ↔ x = k ∨ x ∈ keys l := by
  rw [keys_aput]
  by_cases h : k ∈ keys l
  · rw [if_pos h]; exact ⟨.inr, fun z => z.elim (fun e => e ▸ h) id⟩
  · rw [if_neg h]; simp [or_comm]
theorem mem_keys_adel {l : List (κ × ν)} {k x : κ} : x ∈ keys (adel l k) ↔ x ∈ keys l ∧ x ≠ k := by
  rw [keys_adel]; simp
theorem aget_map {μ : Type} (f : ν → μ) (l : List (κ × ν)) (k : κ) : aget (l.map fun p => (p.1, f p.2)) k = (aget l k).map f := by
  induction l with
  | nil => rfl
  | cons p l ih =>
    rw [List.map_cons, aget_cons, aget_cons, ih]
    by_cases h : p.1 = k <;> simp [h]
theorem keys_map {μ : Type} (f : ν → μ) (l : List (κ × ν)) : keys (l.map fun p => (p.1, f p.2)) = keys l := by
  unfold keys; rw [List.map_map]; rfl
theorem aput_map {μ : Type} (f : ν → μ) (l : List (κ × ν)) (k : κ) (v : ν) : (aput l k v).map (fun p => (p.1, f p.2)) = aput (l.map fun p => (p.1, f p.2)) k (f v) := by
  by_cases h : k ∈ keys l
  · rw [aput_in h, aput_in (by rw [keys_map]; exact h), List.map_map, List.map_map]
    apply List.map_congr_left
    intro p _
    simp only [Function.comp]
    by_cases e : p.1 = k <;> simp [e]
  · rw [aput_new h, aput_new (by rw [keys_map]; exact h), List.map_append]; rfl
theorem adel_map {μ : Type} (f : ν → μ) (l : List (κ × ν)) (k : κ) : (adel l k).map (fun p => (p.1, f p.2)) = adel (l.map fun p => (p.1, f p.2)) k := by
  unfold adel
  rw [List.filter_map]; rfl
end
theorem pigeon {α : Type} [DecidableEq α] : ∀ (l E : List α), l.Nodup → (∀ x ∈ l, x ∈ E) → l.length ≤ E.length
  | [], E, _, _ => Nat.zero_le _
  | a :: l, E, nd, k => by
    rw [List.nodup_cons] at nd
    have ha : a ∈ E := k a List.mem_cons_self
    have := pigeon l (E.erase a) nd.2 fun x hx => (List.mem_erase_of_ne (fun e : x = a => nd.1 (by rw [← e]; exact hx))).mpr (k x (List.mem_cons_of_mem _ hx))
    rw [List.length_erase_of_mem ha] at this
    have : 0 < E.length := List.length_pos_of_mem ha
    simp only [List.length_cons]; omega
/-! ### rows -/
abbrev Pt := List (Str × D)
abbrev Rw := List (List Str × List Hd)
def inRow (rw : Rw) (ks : List Str) (x : Hd) : Prop := ∃ row, aget rw ks = some row ∧ x ∈ row
def cutR (row : List Hd) (x : Hd) : List Hd := row.dropLast.set (row.idxOf x) (row.getLast?.getD x)
def rowOf (rw : Rw) (x : Hd) : Option (List Str × List Hd) := rw.find? fun p => decide (x ∈ p.2)
def outR (rw : Rw) (ks : List Str) (r : List Hd) : Rw := if r = [] then adel rw ks else aput rw ks r
def leaveR (rw : Rw) (x : Hd) : Rw := match rowOf rw x with
  | none => rw
  | some (ks, row) => outR rw ks (cutR row x)
def enterR (rw : Rw) (ks : List Str) (x : Hd) : Rw := aput rw ks ((aget rw ks).getD [] ++ [x])
def moveR (rw : Rw) (x : Hd) (ks : List Str) : Rw := enterR (leaveR rw x) ks x
structure RwI (rw : Rw) : Prop where
  nd : (keys rw).Nodup
  rnd : ∀ ks row, aget rw ks = some row → row.Nodup
  rne : ∀ ks row, aget rw ks = some row → row ≠ []
  uni : ∀ ks ks' x, inRow rw ks x → inRow rw ks' x → ks = ks'
theorem cutR_split {r0 : List Hd} {l x : Hd} (nd : (r0 ++ [l]).Nodup) (hx : x ∈ r0 ++ [l]) : (x = l ∧ cutR (r0 ++ [l]) x = r0) ∨ ∃ a b, r0 = a ++ x :: b ∧ x ≠ l ∧ cutR (r0 ++ [l]) x = a ++ l :: b := by
  have hl : l ∉ r0 := fun z => by
    have := (List.nodup_append.mp nd).2.2 l z l (by simp)
    exact this rfl
  by_cases h : x = l
  · left
    subst h
    refine ⟨rfl, ?_⟩
    unfold cutR
    rw [List.dropLast_concat, List.idxOf_append, if_neg hl]
    rw [List.set_eq_of_length_le (by simp)]
  · right
    have hx0 : x ∈ r0 := by simpa [h] using hx
    obtain ⟨a, b, e, ha⟩ := List.append_of_mem hx0 |> fun ⟨a, b, e⟩ => (⟨a, b, e, by
      intro z
      have nd0 := (List.nodup_append.mp nd).1
      rw [e] at nd0
      exact (List.nodup_append.mp nd0).2.2 x z x (by simp) rfl⟩ : ∃ a b, r0 = a ++ x :: b ∧ x ∉ a)
    refine ⟨a, b, e, h, ?_⟩
    unfold cutR
    rw [List.dropLast_concat, List.getLast?_concat, List.idxOf_append, if_pos hx0, e, List.idxOf_append, if_neg ha]
    simp
theorem last_split {α : Type} {row : List α} (h : row ≠ []) : ∃ r0 l, row = r0 ++ [l] := ⟨row.dropLast, row.getLast h, (List.dropLast_concat_getLast h).symm⟩
theorem cutR_facts {row : List Hd} {x : Hd} (nd : row.Nodup) (hx : x ∈ row) : (cutR row x).Nodup ∧ (∀ y, y ∈ cutR row x ↔ y ∈ row ∧ y ≠ x) ∧ (cutR row x).length + 1 = row.length := by
  obtain ⟨r0, l, rfl⟩ := last_split (List.ne_nil_of_mem hx)
  have hl : l ∉ r0 := fun z => (List.nodup_append.mp nd).2.2 l z l (by simp) rfl
  have n0 := (List.nodup_append.mp nd).1
  rcases cutR_split nd hx with ⟨rfl, e⟩ | ⟨a, b, e1, h, e⟩
  · rw [e]
    refine ⟨n0, fun y => ?_, by simp⟩
    constructor
    · intro hy; exact ⟨by simp [hy], fun z => hl (z ▸ hy)⟩
    · rintro ⟨h1, h2⟩; simpa [h2] using h1
  · rw [e]
    subst e1
    have p1 : (a ++ l :: b).Perm (l :: (a ++ b)) := List.perm_middle
    have p2 : (a ++ x :: b).Perm (x :: (a ++ b)) := List.perm_middle
    have n1 := p2.nodup_iff.mp n0
    rw [List.nodup_cons] at n1
    have hl' : l ∉ a ++ b := fun z => hl (p2.mem_iff.mpr (List.mem_cons_of_mem _ z))
    refine ⟨p1.nodup_iff.mpr (List.nodup_cons.mpr ⟨hl', n1.2⟩), fun y => ?_, by simp; omega⟩
    rw [p1.mem_iff, List.mem_append, p2.mem_iff, List.mem_cons, List.mem_cons, List.mem_singleton]
    constructor
    · rintro (rfl | hy)
      · exact ⟨.inr rfl, fun z => h z.symm⟩
      · exact ⟨.inl (.inr hy), fun z => n1.1 (z ▸ hy)⟩
    · rintro ⟨(h1 | h1) | h1, h2⟩
      · exact absurd h1 h2
      · exact .inr h1
      · exact .inl h1
theorem rowOf_some {rw : Rw} (r : RwI rw) {ks : List Str} {row : List Hd} {x : Hd} (e : aget rw ks = some row) (hx : x ∈ row) : rowOf rw x = some (ks, row) := by
  unfold rowOf
  cases h : rw.find? fun p => decide (x ∈ p.2) with
  | none =>
    have := List.find?_eq_none.mp h (ks, row) (aget_mem e)
    exact absurd hx (by simpa using this)
  | some p =>
    have h1 := List.find?_some h
    have h2 := List.mem_of_find?_eq_some h
    have h3 : aget rw p.1 = some p.2 := aget_of_mem r.nd h2
    have h4 := r.uni p.1 ks x ⟨p.2, h3, by simpa using h1⟩ ⟨row, e, hx⟩
    rw [h4, e] at h3
    cases h3
    rw [← h4]
theorem rowOf_none {rw : Rw} (nd : (keys rw).Nodup) {x : Hd} (h : ∀ ks, ¬ inRow rw ks x) : rowOf rw x = none := by
  unfold rowOf
  rw [List.find?_eq_none]
  intro p hp
  have := aget_of_mem nd (show (p.1, p.2) ∈ rw from hp)
  simpa using fun z => h p.1 ⟨p.2, this, z⟩
theorem leaveR_none {rw : Rw} (nd : (keys rw).Nodup) {x : Hd} (h : ∀ ks, ¬ inRow rw ks x) : leaveR rw x = rw := by unfold leaveR; rw [rowOf_none nd h]
theorem leaveR_some {rw : Rw} (r : RwI rw) {ks : List Str} {row : List Hd} {x : Hd} (e : aget rw ks = some row) (hx : x ∈ row) : leaveR rw x = outR rw ks (cutR row x) := by unfold leaveR; rw [rowOf_some r e hx]
theorem aget_outR {rw : Rw} {ks : List Str} {r : List Hd} (ks' : List Str) : aget (outR rw ks r) ks' = if ks = ks' then (if r = [] then none else some r) else aget rw ks' := by
  unfold outR
  by_cases h : r = []
  · rw [if_pos h, aget_adel, if_pos h]
  · rw [if_neg h, aget_aput, if_neg h]
theorem leaveR_I {rw : Rw} (r : RwI rw) (x : Hd) : RwI (leaveR rw x) ∧ ∀ ks y, inRow (leaveR rw x) ks y ↔ inRow rw ks y ∧ y ≠ x := by
  by_cases hx : ∃ ks, inRow rw ks x
  · obtain ⟨ks, row, e, hm⟩ := hx
    obtain ⟨c1, c2, _⟩ := cutR_facts (r.rnd ks row e) hm
    rw [leaveR_some r e hm]
    have key : ∀ ks' y, inRow (outR rw ks (cutR row x)) ks' y ↔ inRow rw ks' y ∧ y ≠ x := by
      intro ks' y
      unfold inRow
      rw [aget_outR]
      by_cases hk : ks = ks'
      · subst hk
        rw [if_pos rfl, e]
        constructor
        · rintro ⟨row', h1, h2⟩
          split at h1
          · cases h1
          · cases h1; exact ⟨⟨row, rfl, ((c2 y).mp h2).1⟩, ((c2 y).mp h2).2⟩
        · rintro ⟨⟨row', h1, h2⟩, h3⟩
          cases h1
          have hy := (c2 y).mpr ⟨h2, h3⟩
          exact ⟨_, if_neg (List.ne_nil_of_mem hy), hy⟩
      · rw [if_neg hk]
        constructor
        · rintro ⟨row', h1, h2⟩
          exact ⟨⟨row', h1, h2⟩, fun z => hk (r.uni ks ks' x ⟨row, e, hm⟩ ⟨row', h1, z ▸ h2⟩)⟩
        · exact fun z => z.1
    refine ⟨⟨?_, fun ks' row' h => ?_, fun ks' row' h => ?_, fun k1 k2 y h1 h2 => r.uni k1 k2 y ((key _ _).mp h1).1 ((key _ _).mp h2).1⟩, key⟩
    · unfold outR; split
      · exact nodup_adel _ r.nd
      · exact nodup_aput _ _ r.nd
    · rw [aget_outR] at h
      split at h
      · split at h
        · cases h
        · cases h; exact c1
      · exact r.rnd _ _ h
    · rw [aget_outR] at h
      split at h
      · split at h
        · cases h
        · cases h; assumption
      · exact r.rne _ _ h
  · have hn : ∀ ks, ¬ inRow rw ks x := fun ks h => hx ⟨ks, h⟩
    rw [leaveR_none r.nd hn]
    exact ⟨r, fun ks y => ⟨fun h => ⟨h, fun z => hn ks (z ▸ h)⟩, fun h => h.1⟩⟩
theorem enterR_I {rw : Rw} (r : RwI rw) {x : Hd} (hx : ∀ ks, ¬ inRow rw ks x) (ks : List Str) : RwI (enterR rw ks x) ∧ ∀ ks' y, inRow (enterR rw ks x) ks' y ↔ inRow rw ks' y ∨ (ks' = ks ∧ y = x) := by
  have key : ∀ ks' y, inRow (enterR rw ks x) ks' y ↔ inRow rw ks' y ∨ (ks' = ks ∧ y = x) := by
    intro ks' y
    unfold inRow enterR
    rw [aget_aput]
    by_cases hk : ks = ks'
    · subst hk
      rw [if_pos rfl]
      constructor
      · rintro ⟨row, h1, h2⟩
        cases h1
        rcases List.mem_append.mp h2 with z | z
        · cases e : aget rw ks with
          | none => rw [e] at z; cases z
          | some row => rw [e] at z; exact .inl ⟨row, rfl, z⟩
        · exact .inr ⟨rfl, by simpa using z⟩
      · rintro (⟨row, h1, h2⟩ | ⟨_, rfl⟩)
        · exact ⟨_, rfl, by rw [h1]; simp [h2]⟩
        · exact ⟨_, rfl, by simp⟩
    · rw [if_neg hk]
      exact ⟨.inl, fun z => z.elim id fun z => absurd z.1.symm hk⟩
  refine ⟨⟨nodup_aput _ _ r.nd, fun ks' row h => ?_, fun ks' row h => ?_, fun k1 k2 y h1 h2 => ?_⟩, key⟩
  · unfold enterR at h
    rw [aget_aput] at h
    split at h
    · cases h
      cases e : aget rw ks with
      | none => simp
      | some row =>
        rw [Option.getD_some]
        exact List.nodup_append.mpr ⟨r.rnd ks row e, by simp, fun a ha b hb z => hx ks ⟨row, e, by
          have : b = x := by simpa using hb
          rw [← this, ← z]; exact ha⟩⟩
    · exact r.rnd _ _ h
  · unfold enterR at h
    rw [aget_aput] at h
    split at h
    · cases h; simp
    · exact r.rne _ _ h
  · rcases (key _ _).mp h1 with a | ⟨a, b⟩
    · rcases (key _ _).mp h2 with c | ⟨c, d⟩
      · exact r.uni _ _ _ a c
      · exact absurd (d ▸ a) (hx _)
    · rcases (key _ _).mp h2 with c | ⟨c, d⟩
      · exact absurd (b ▸ c) (hx _)
      · rw [a, c]
theorem moveR_I {rw : Rw} (r : RwI rw) (x : Hd) (ks : List Str) : RwI (moveR rw x ks) ∧ ∀ ks' y, inRow (moveR rw x ks) ks' y ↔ (inRow rw ks' y ∧ y ≠ x) ∨ (ks' = ks ∧ y = x) := by
  obtain ⟨r1, k1⟩ := leaveR_I r x
  obtain ⟨r2, k2⟩ := enterR_I r1 (x := x) (fun ks' z => ((k1 ks' x).mp z).2 rfl) ks
  exact ⟨r2, fun ks' y => (k2 ks' y).trans (or_congr (k1 ks' y) Iff.rfl)⟩
theorem len_outR (rw : Rw) (ks : List Str) (r : List Hd) : (outR rw ks r).length ≤ rw.length + 1 := by
  unfold outR
  split
  · have := len_adel rw ks; omega
  · exact len_aput rw ks r
end Mi
namespace Mi
open PySem L2
def free (l : List Int) : Option Nat := (List.range (l.length + 1)).find? fun i : Nat => decide ((i : Int) ∉ l)
theorem free_some (l : List Int) : ∃ i, free l = some i ∧ (i : Int) ∉ l ∧ (∀ j, j < i → (j : Int) ∈ l) ∧ i ≤ l.length := by
  have ex : ∃ i ∈ List.range (l.length + 1), (fun i : Nat => decide ((i : Int) ∉ l)) i = true := by
    apply Classical.byContradiction
    intro hno
    have all : ∀ i, i < l.length + 1 → (i : Int) ∈ l := fun i hi => by
      apply Classical.byContradiction
      intro hn
      exact hno ⟨i, List.mem_range.mpr hi, by simpa using hn⟩
    have sub := pigeon ((List.range (l.length + 1)).map fun i : Nat => (i : Int)) l (List.Pairwise.map _ (fun a b hab e => hab (by omega)) List.nodup_range) (fun y hy => by
      obtain ⟨i, hi, rfl⟩ := List.mem_map.mp hy
      exact all i (List.mem_range.mp hi))
    simp at sub
    omega
  have hs : ((List.range (l.length + 1)).find? fun i : Nat => decide ((i : Int) ∉ l)).isSome = true := by
    rw [List.find?_isSome]; exact ex
  obtain ⟨i, hi⟩ := Option.isSome_iff_exists.mp hs
  refine ⟨i, hi, by simpa using List.find?_some hi, fun j hj => ?_, ?_⟩
  · have hl : i ≤ l.length := by have := List.mem_range.mp (List.mem_of_find?_eq_some hi); omega
    rw [List.find?_range_eq_some] at hi
    have := hi.2.2 j hj
    simpa using this
  · have := List.mem_range.mp (List.mem_of_find?_eq_some hi); omega
def lead (so : Str) : Bool := decide (so ∈ (["link", "tree"] : List Str))
def WOk (ok : Hd → Prop) (so : Str) (w : D) : Prop := (so = "mark" ∧ w = .non) ∨ (so = "number" ∧ ∃ i, w = .int i ∧ -999 ≤ i ∧ i ≤ 999) ∨
  (so = "text" ∧ ∃ x : Str, w = .str x ∧ x.length ≤ 6 ∧ ∀ c ∈ x.cps.toList, c ∈ abc.cps.toList) ∨ ((so = "link" ∨ so = "tree") ∧ (w = .non ∨ ∃ x, w = encH x ∧ 0 ≤ x.1 ∧ 1 ≤ x.2 ∧ ok x))
theorem WOk.imp {ok ok' : Hd → Prop} {so : Str} {w : D} (h : WOk ok so w) (k : ∀ x, ok x → ok' x) : WOk ok' so w := by
  rcases h with h | h | h | ⟨h1, h2 | ⟨x, h2, h3, h4, h5⟩⟩
  · exact .inl h
  · exact .inr (.inl h)
  · exact .inr (.inr (.inl h))
  · exact .inr (.inr (.inr ⟨h1, .inl h2⟩))
  · exact .inr (.inr (.inr ⟨h1, .inr ⟨x, h2, h3, h4, k x h5⟩⟩))
theorem WOk.tx {ok : Hd → Prop} {so : Str} {w : D} (h : WOk ok so w) : w.tx = true ∧ w.dp ≤ 1 := by
  rcases h with ⟨_, rfl⟩ | ⟨_, i, rfl, _⟩ | ⟨_, x, rfl, _⟩ | ⟨_, rfl | ⟨x, rfl, _⟩⟩
  · exact ⟨rfl, by simp [D.dp]⟩
  · exact ⟨rfl, by simp [D.dp]⟩
  · exact ⟨rfl, by simp [D.dp]⟩
  · exact ⟨rfl, by simp [D.dp]⟩
  · exact ⟨rfl, by rw [encH_dp]; exact Nat.le_refl _⟩
structure BOk (ps : List (Str × Str)) (B : List (Hd × Pt)) : Prop where
  pos : ∀ x ∈ keys B, 0 ≤ x.1 ∧ 1 ≤ x.2
  wok : ∀ x q, aget B x = some q → ∀ n w, aget q n = some w → ∃ so, (n, so) ∈ ps ∧ WOk (fun y => y ∈ keys B) so w
  ndq : ∀ x q, aget B x = some q → (keys q).Nodup
/-- the next handle -/
def newH (B : List (Hd × Pt)) (tn : List (Int × Int)) : Hd :=
  let i : Int := ((free ((keys B).map (·.1))).getD 0 : Nat)
  (i, (aget tn i).getD 0 + 1)
theorem newH_facts (B : List (Hd × Pt)) (tn : List (Int × Int)) (tp : ∀ k v, aget tn k = some v → 0 ≤ v) : newH B tn ∉ keys B ∧ 0 ≤ (newH B tn).1 ∧ 1 ≤ (newH B tn).2 := by
  obtain ⟨i, e, h1, _, _⟩ := free_some ((keys B).map (·.1))
  have e1 : (newH B tn).1 = (i : Nat) := by simp [newH, e]
  refine ⟨fun z => h1 (by rw [← e1]; exact List.mem_map.mpr ⟨_, z, rfl⟩), by rw [e1]; omega, ?_⟩
  show 1 ≤ (aget tn _).getD 0 + 1
  cases g : aget tn (((free ((keys B).map (·.1))).getD 0 : Nat) : Int) with
  | none => simp
  | some v => have := tp _ _ g; simp; omega
theorem BOk.grow {ps : List (Str × Str)} {B : List (Hd × Pt)} (b : BOk ps B) {x : Hd} (hp : 0 ≤ x.1 ∧ 1 ≤ x.2) : BOk ps (aput B x []) := by
  have km : ∀ y, y ∈ keys B → y ∈ keys (aput B x []) := fun y hy => by
    rw [keys_get] at hy ⊢
    rw [aget_aput]
    by_cases e : x = y
    · rw [if_pos e]; rfl
    · rw [if_neg e]; exact hy
  refine ⟨fun y hy => ?_, fun y q e n w' hw => ?_, fun y q e => ?_⟩
  · rw [keys_get, aget_aput] at hy
    split at hy
    · rename_i e; rw [← e]; exact hp
    · exact b.pos y (keys_get.mpr hy)
  · rw [aget_aput] at e
    split at e
    · cases e; cases hw
    · obtain ⟨so, h1, h2⟩ := b.wok y q e n w' hw
      exact ⟨so, h1, h2.imp km⟩
  · rw [aget_aput] at e
    split at e
    · cases e; exact List.nodup_nil
    · exact b.ndq y q e
theorem BOk.part {ps : List (Str × Str)} {B : List (Hd × Pt)} (b : BOk ps B) {x : Hd} (hx : x ∈ keys B) {q' : Pt} (hq : ∀ n w, aget q' n = some w → ∃ so, (n, so) ∈ ps ∧ WOk (fun y => y ∈ keys B) so w) (hnq : (keys q').Nodup) : BOk ps (aput B x q') := by
  have ke : keys (aput B x q') = keys B := by rw [keys_aput, if_pos hx]
  refine ⟨fun y hy => b.pos y (by rw [ke] at hy; exact hy), fun y q e n w' hw => ?_, fun y q e => by
    rw [aget_aput] at e
    split at e
    · cases e; exact hnq
    · exact b.ndq y q e⟩
  rw [aget_aput] at e
  have : ∃ so, (n, so) ∈ ps ∧ WOk (fun y => y ∈ keys B) so w' := by
    split at e
    · cases e; exact hq n w' hw
    · exact b.wok y q e n w' hw
  obtain ⟨so, h1, h2⟩ := this
  exact ⟨so, h1, h2.imp fun z hz => by rw [ke]; exact hz⟩
/-! ### where links lead -/
def hdOf : D → Option Hd
  | .tup [.int a, .int b] => some (a, b)
  | _ => none
theorem hdOf_enc (x : Hd) : hdOf (encH x) = some x := rfl
def stepB (B : List (Hd × Pt)) (nm : Str) (x : Hd) : D := match aget B x with
  | none => .non
  | some q => (aget q nm).getD .non
def wayF (B : List (Hd × Pt)) (nm : Str) : Nat → List Hd → D → List Hd
  | 0, f, _ => f
  | k + 1, f, d => match hdOf d with
    | none => f
    | some y => if y ∈ f then f else wayF B nm k (f ++ [y]) (stepB B nm y)
/-- all to which a thing's parts of a kind lead -/
def wayB (B : List (Hd × Pt)) (nm : Str) (x : Hd) : List Hd := wayF B nm (B.length + 1) [] (stepB B nm x)
theorem wayF_len (B : List (Hd × Pt)) (nm : Str) : ∀ (k : Nat) (f : List Hd) (d : D), (wayF B nm k f d).length ≤ f.length + k
  | 0, f, d => by simp [wayF]
  | k + 1, f, d => by
    unfold wayF
    cases hdOf d with
    | none => simp
    | some y =>
      dsimp only
      split
      · omega
      · have := wayF_len B nm k (f ++ [y]) (stepB B nm y)
        simp at this; omega
theorem lead_of {so : Str} (h : lead so = true) : so = "link" ∨ so = "tree" := by
  have : so ∈ (["link", "tree"] : List Str) := by simpa [lead] using h
  simpa using this
theorem name_sort {ps : List (Str × Str)} (nd : (ps.map (·.1)).Nodup) {n s1 s2 : Str} (h1 : (n, s1) ∈ ps) (h2 : (n, s2) ∈ ps) : s1 = s2 := by
  have a1 := aget_of_mem (l := ps) nd h1
  rw [aget_of_mem (l := ps) nd h2] at a1
  exact (Option.some.inj a1).symm
theorem step_ok {ps : List (Str × Str)} (nd : (ps.map (·.1)).Nodup) {B : List (Hd × Pt)} (b : BOk ps B) {nm so : Str} (hp : (nm, so) ∈ ps) (hl : lead so = true) (x : Hd) : stepB B nm x = .non ∨ ∃ y, stepB B nm x = encH y ∧ y ∈ keys B := by
  unfold stepB
  cases e : aget B x with
  | none => exact .inl rfl
  | some q =>
    dsimp only
    cases e2 : aget q nm with
    | none => exact .inl rfl
    | some v =>
      obtain ⟨so', h1, h2⟩ := b.wok x q e nm v e2
      have := name_sort nd hp h1
      subst this
      rcases lead_of hl with rfl | rfl
      · rcases h2 with ⟨z, _⟩ | ⟨z, _⟩ | ⟨z, _⟩ | ⟨_, z | ⟨y, z, _, _, k⟩⟩
        · exact absurd z (by decide)
        · exact absurd z (by decide)
        · exact absurd z (by decide)
        · exact .inl z
        · exact .inr ⟨y, z, k⟩
      · rcases h2 with ⟨z, _⟩ | ⟨z, _⟩ | ⟨z, _⟩ | ⟨_, z | ⟨y, z, _, _, k⟩⟩
        · exact absurd z (by decide)
        · exact absurd z (by decide)
        · exact absurd z (by decide)
        · exact .inl z
        · exact .inr ⟨y, z, k⟩
theorem hdOf_some {d : D} {x : Hd} (h : hdOf d = some x) : d = encH x := by
  unfold hdOf at h
  split at h
  · cases h; rfl
  · cases h
/-- the parts of these names that lead to x lead nowhere -/
def clrN (d : List Str) (x : Hd) (q : Pt) : Pt := q.map fun p => if p.1 ∈ d ∧ hdOf p.2 = some x then (p.1, .non) else p
theorem keys_clrN (d : List Str) (x : Hd) (q : Pt) : keys (clrN d x q) = keys q := by
  unfold clrN keys
  rw [List.map_map]
  apply List.map_congr_left
  intro p _
  simp only [Function.comp]
  split <;> rfl
theorem aget_clrN (d : List Str) (x : Hd) (nm : Str) : ∀ q : Pt, aget (clrN d x q) nm = (aget q nm).map fun v => if nm ∈ d ∧ hdOf v = some x then .non else v
  | [] => rfl
  | p :: q => by
    have ih := aget_clrN d x nm q
    unfold clrN at ih ⊢
    rw [List.map_cons, aget_cons, aget_cons, ih]
    by_cases h1 : p.1 = nm
    · have h2 : (if p.1 ∈ d ∧ hdOf p.2 = some x then (p.1, D.non) else p).1 = nm := by split <;> exact h1
      rw [if_pos h2, if_pos h1, Option.map_some, ← h1]
      split <;> rfl
    · have h2 : ¬ (if p.1 ∈ d ∧ hdOf p.2 = some x then (p.1, D.non) else p).1 = nm := by split <;> exact h1
      rw [if_neg h2, if_neg h1]
theorem clr_nil (x : Hd) (q : Pt) : clrN [] x q = q := by
  unfold clrN
  conv => rhs; rw [← List.map_id q]
  apply List.map_congr_left
  intro p _
  simp
theorem clr_hit {d : List Str} {x : Hd} {q : Pt} {nm : Str} (nd : (keys q).Nodup) {v : D} (e : aget q nm = some v) (hv : hdOf v = some x) : aput (clrN d x q) nm .non = clrN (d ++ [nm]) x q := by
  rw [aput_in (by rw [keys_clrN]; exact aget_some.mp ⟨_, e⟩)]
  unfold clrN
  rw [List.map_map]
  apply List.map_congr_left
  intro p hp
  simp only [Function.comp, List.mem_append, List.mem_singleton]
  by_cases h1 : p.1 = nm
  · have hp2 : p.2 = v := by
      have := aget_of_mem nd (show (p.1, p.2) ∈ q from hp)
      rw [h1, e] at this; exact (Option.some.inj this).symm
    have h2 : (if p.1 ∈ d ∧ hdOf p.2 = some x then (p.1, D.non) else p).1 = nm := by split <;> exact h1
    have h3 : (p.1 ∈ d ∨ p.1 = nm) ∧ hdOf p.2 = some x := ⟨.inr h1, by rw [hp2]; exact hv⟩
    rw [if_pos h2, if_pos h3, h2, h1]
  · have h2 : ¬ (if p.1 ∈ d ∧ hdOf p.2 = some x then (p.1, D.non) else p).1 = nm := by split <;> exact h1
    rw [if_neg h2]
    simp [h1]
theorem clr_miss {d : List Str} {x : Hd} {q : Pt} {nm : Str} (nd : (keys q).Nodup) (hv : ∀ v, aget q nm = some v → hdOf v ≠ some x) : clrN (d ++ [nm]) x q = clrN d x q := by
  unfold clrN
  apply List.map_congr_left
  intro p hp
  simp only [List.mem_append, List.mem_singleton]
  by_cases h1 : p.1 = nm
  · have := aget_of_mem nd (show (p.1, p.2) ∈ q from hp)
    rw [h1] at this
    have hn := hv _ this
    simp [hn]
  · simp [h1]
theorem eqB_hd {ok : Hd → Prop} {so : Str} {v : D} (hv : WOk ok so v) (x : Hd) : eqB v (encH x) = decide (hdOf v = some x) := by
  by_cases h : hdOf v = some x
  · rw [decide_eq_true h, hdOf_some h, eqB_refl (tx_isSome (encH_tx x))]
  · rw [decide_eq_false h]
    cases e : eqB v (encH x) with
    | false => rfl
    | true =>
      have := (eqB_iff hv.tx.1 (encH_tx x)).mp e
      rw [this] at h
      exact absurd (hdOf_enc x) h
theorem hd_lead {ok : Hd → Prop} {so : Str} {v : D} (hv : WOk ok so v) {x : Hd} (h : hdOf v = some x) : lead so = true := by
  rcases hv with ⟨_, rfl⟩ | ⟨_, i, rfl, _⟩ | ⟨_, y, rfl, _⟩ | ⟨rfl | rfl, _⟩
  · cases h
  · cases h
  · cases h
  · decide
  · decide
def clrA (x : Hd) (q : Pt) : Pt := clrN (keys q) x q
def outB (E : List Hd) (x : Hd) (B : List (Hd × Pt)) : List (Hd × Pt) := B.map fun e => if e.1 ∈ E then (e.1, clrA x e.2) else e
def clrB (x : Hd) (B : List (Hd × Pt)) : List (Hd × Pt) := B.map fun e => (e.1, clrA x e.2)
theorem clr_sort (x : Hd) (q : Pt) : clrN (sortT (keys q)) x q = clrA x q := by
  unfold clrA clrN
  apply List.map_congr_left
  intro p _
  simp only [mem_sortT]
theorem keys_outB (E : List Hd) (x : Hd) (B : List (Hd × Pt)) : keys (outB E x B) = keys B := by
  unfold outB keys
  rw [List.map_map]
  apply List.map_congr_left
  intro p _
  simp only [Function.comp]
  split <;> rfl
theorem aget_outB (E : List Hd) (x y : Hd) : ∀ B : List (Hd × Pt), aget (outB E x B) y = (aget B y).map fun q => if y ∈ E then clrA x q else q
  | [] => rfl
  | p :: B => by
    have ih := aget_outB E x y B
    unfold outB at ih ⊢
    rw [List.map_cons, aget_cons, aget_cons, ih]
    by_cases h1 : p.1 = y
    · have h2 : (if p.1 ∈ E then (p.1, clrA x p.2) else p).1 = y := by split <;> exact h1
      rw [if_pos h2, if_pos h1, Option.map_some, ← h1]
      split <;> rfl
    · have h2 : ¬ (if p.1 ∈ E then (p.1, clrA x p.2) else p).1 = y := by split <;> exact h1
      rw [if_neg h2, if_neg h1]
theorem outB_nil (x : Hd) (B : List (Hd × Pt)) : outB [] x B = B := by
  unfold outB
  conv => rhs; rw [← List.map_id B]
  apply List.map_congr_left
  intro p _
  simp
theorem outB_step {E : List Hd} {x y : Hd} {B : List (Hd × Pt)} (nd : (keys B).Nodup) {q : Pt} (e : aget B y = some q) : aput (outB E x B) y (clrA x q) = outB (E ++ [y]) x B := by
  rw [aput_in (by rw [keys_outB]; exact aget_some.mp ⟨_, e⟩)]
  unfold outB
  rw [List.map_map]
  apply List.map_congr_left
  intro p hp
  simp only [Function.comp, List.mem_append, List.mem_singleton]
  by_cases h1 : p.1 = y
  · have hp2 : p.2 = q := by
      have := aget_of_mem nd (show (p.1, p.2) ∈ B from hp)
      rw [h1, e] at this; exact (Option.some.inj this).symm
    have h2 : (if p.1 ∈ E then (p.1, clrA x p.2) else p).1 = y := by split <;> exact h1
    have h3 : p.1 ∈ E ∨ p.1 = y := .inr h1
    rw [if_pos h2, if_pos h3, h2, h1, hp2]
  · have h2 : ¬ (if p.1 ∈ E then (p.1, clrA x p.2) else p).1 = y := by split <;> exact h1
    rw [if_neg h2]
    simp [h1]
theorem outB_all {E : List Hd} {x : Hd} {B : List (Hd × Pt)} (h : ∀ y ∈ keys B, y ∈ E) : outB E x B = clrB x B := by
  unfold outB clrB
  apply List.map_congr_left
  intro p hp
  rw [if_pos (h p.1 (List.mem_map.mpr ⟨p, hp, rfl⟩))]
def remN (d : List Str) (q : Pt) : Pt := q.filter fun p => !decide (p.1 ∈ d)
theorem remN_step (d : List Str) (q : Pt) (nm : Str) : adel (remN d q) nm = remN (d ++ [nm]) q := by
  unfold adel remN
  rw [List.filter_filter]
  apply List.filter_congr
  intro p _
  by_cases h1 : p.1 = nm <;> by_cases h2 : p.1 ∈ d <;> simp [h1, h2]
theorem aget_remN (d : List Str) (nm : Str) (hn : nm ∉ d) : ∀ q : Pt, aget (remN d q) nm = aget q nm
  | [] => rfl
  | p :: q => by
    have ih := aget_remN d nm hn q
    unfold remN at ih ⊢
    rw [List.filter_cons, aget_cons]
    by_cases h1 : p.1 ∈ d
    · rw [decide_eq_true h1, if_neg (by decide), ih, if_neg fun z => hn (by rw [← z]; exact h1)]
    · rw [decide_eq_false h1, if_pos (by decide), aget_cons, ih]
theorem remN_all {d : List Str} {q : Pt} (h : ∀ n ∈ keys q, n ∈ d) : remN d q = [] := by
  unfold remN
  rw [List.filter_eq_nil_iff]
  intro p hp
  have := h p.1 (List.mem_map.mpr ⟨p, hp, rfl⟩)
  simp [this]
/-- what is left when a thing goes -/
def dropB (B : List (Hd × Pt)) (x : Hd) : List (Hd × Pt) := adel (clrB x (aput B x [])) x
theorem BOk.del {ps : List (Str × Str)} {B : List (Hd × Pt)} (b : BOk ps B) {x : Hd} (no : ∀ y q, aget B y = some q → ∀ n w, aget q n = some w → hdOf w ≠ some x) : BOk ps (adel B x) := by
  have km : ∀ y, y ∈ keys (adel B x) ↔ y ≠ x ∧ y ∈ keys B := fun y => by
    rw [keys_get, keys_get, aget_adel]
    by_cases e : x = y
    · simp [e]
    · have : y ≠ x := fun z => e z.symm
      simp [e, this]
  refine ⟨fun y hy => b.pos y ((km y).mp hy).2, fun y q e n w' hw => ?_, fun y q e => ?_⟩
  · rw [aget_adel] at e
    split at e
    · cases e
    · obtain ⟨so, h1, h2⟩ := b.wok y q e n w' hw
      have h3 := no y q e n w' hw
      refine ⟨so, h1, ?_⟩
      rcases h2 with h2 | h2 | h2 | ⟨h2, h4 | ⟨z, h4, h5, h6, h7⟩⟩
      · exact .inl h2
      · exact .inr (.inl h2)
      · exact .inr (.inr (.inl h2))
      · exact .inr (.inr (.inr ⟨h2, .inl h4⟩))
      · exact .inr (.inr (.inr ⟨h2, .inr ⟨z, h4, h5, h6, (km z).mpr ⟨fun e => h3 (by rw [h4, e]; rfl), h7⟩⟩⟩))
  · rw [aget_adel] at e
    split at e
    · cases e
    · exact b.ndq y q e
theorem clrA_no {x : Hd} {q : Pt} {n : Str} {w : D} (e : aget (clrA x q) n = some w) : hdOf w ≠ some x := by
  unfold clrA at e
  rw [aget_clrN] at e
  cases e2 : aget q n with
  | none => rw [e2] at e; cases e
  | some v =>
    rw [e2, Option.map_some] at e
    have hm : n ∈ keys q := aget_some.mp ⟨_, e2⟩
    by_cases hv : hdOf v = some x
    · rw [if_pos ⟨hm, hv⟩] at e; cases e; exact fun z => by cases z
    · rw [if_neg fun z => hv z.2] at e; cases e; exact hv
section
variable {ps : List (Str × Str)} (nd : (ps.map (·.1)).Nodup) (h6 : ps.length ≤ 6)
include nd h6
theorem q6 {B : List (Hd × Pt)} (b : BOk ps B) {y : Hd} {q : Pt} (e : aget B y = some q) : q.length ≤ 6 := by
  have := pigeon (keys q) (ps.map (·.1)) (b.ndq y q e) fun z hz => by
    obtain ⟨v, ev⟩ := aget_some.mpr hz
    obtain ⟨so, hp, _⟩ := b.wok y q e z v ev
    exact List.mem_map.mpr ⟨_, hp, rfl⟩
  simp [keys] at this; omega
end
end Mi
namespace Mi
open PySem L2
/-! ### the pure store, event by event -/
structure PS where
  bk : List (Hd × Pt)
  tn : List (Int × Int)
  rw : Rw
  ev : List Evt
def P0 : PS := ⟨[], [], [], []⟩
def pu (C : Cr) : PS := ⟨C.bk.map fun p => (p.1, p.2.2), C.tn, C.rw.map fun p => (p.1, p.2.2), C.ev⟩
def getQ (P : PS) (x : Hd) : Pt := (aget P.bk x).getD []
def kindsP (P : PS) (x : Hd) : List Str := sortT (keys (getQ P x))
def stepE (P : PS) : Evt → PS
  | .new x => ⟨aput P.bk x [], aput P.tn x.1 x.2, enterR P.rw [] x, P.ev ++ [.new x]⟩
  | .put x n v => ⟨aput P.bk x (aput (getQ P x) n v), P.tn, moveR P.rw x (sortT (keys (aput (getQ P x) n v))), P.ev ++ [.put x n v]⟩
  | .set x n o v => ⟨aput P.bk x (aput (getQ P x) n v), P.tn, P.rw, P.ev ++ [.set x n o v]⟩
  | .take x n o => ⟨aput P.bk x (adel (getQ P x) n), P.tn, moveR P.rw x (sortT (keys (adel (getQ P x) n))), P.ev ++ [.take x n o]⟩
  | .drop x => ⟨adel P.bk x, P.tn, leaveR P.rw x, P.ev ++ [.drop x]⟩
def runE (P : PS) (es : List Evt) : PS := es.foldl stepE P
def noRing (B : List (Hd × Pt)) (so n : Str) (x : Hd) (v : D) : Prop := so = "tree" → ∀ y, v = encH y → x ∉ y :: wayB B n y
def okE (ps : List (Str × Str)) (P : PS) : Evt → Prop
  | .new x => x = newH P.bk P.tn
  | .put x n v => ∃ q so, aget P.bk x = some q ∧ aget q n = none ∧ (n, so) ∈ ps ∧ WOk (fun y => y ∈ keys P.bk) so v ∧ noRing P.bk so n x v
  | .set x n o v => ∃ q so, aget P.bk x = some q ∧ aget q n = some o ∧ eqB o v = false ∧ (n, so) ∈ ps ∧ WOk (fun y => y ∈ keys P.bk) so v ∧ noRing P.bk so n x v
  | .take x n o => ∃ q, aget P.bk x = some q ∧ aget q n = some o
  | .drop x => aget P.bk x = some [] ∧ ∀ y q, aget P.bk y = some q → ∀ n w, aget q n = some w → hdOf w ≠ some x
def okEs (ps : List (Str × Str)) : PS → List Evt → Prop
  | _, [] => True
  | P, e :: es => okE ps P e ∧ okEs ps (stepE P e) es
theorem runE_nil (P : PS) : runE P [] = P := rfl
theorem runE_cons (P : PS) (e : Evt) (es : List Evt) : runE P (e :: es) = runE (stepE P e) es := rfl
theorem runE_append (P : PS) (a b : List Evt) : runE P (a ++ b) = runE (runE P a) b := List.foldl_append
theorem runE_one (P : PS) (e : Evt) : runE P [e] = stepE P e := rfl
theorem stepE_ev (P : PS) (e : Evt) : (stepE P e).ev = P.ev ++ [e] := by cases e <;> rfl
theorem runE_ev (P : PS) (es : List Evt) : (runE P es).ev = P.ev ++ es := by
  induction es generalizing P with
  | nil => simp [runE]
  | cons e es ih => rw [runE_cons, ih, stepE_ev]; simp
theorem okEs_append {ps : List (Str × Str)} {P : PS} {a b : List Evt} : okEs ps P (a ++ b) ↔ okEs ps P a ∧ okEs ps (runE P a) b := by
  induction a generalizing P with
  | nil => simp [okEs, runE]
  | cons e es ih => rw [List.cons_append, okEs, okEs, ih, runE_cons, and_assoc]
theorem okEs_one {ps : List (Str × Str)} {P : PS} {e : Evt} : okEs ps P [e] ↔ okE ps P e := by simp [okEs]
structure Reach (ps : List (Str × Str)) (P : PS) : Prop where
  ok : okEs ps P0 P.ev
  eq : runE P0 P.ev = P
theorem Reach.zero (ps : List (Str × Str)) : Reach ps P0 := ⟨trivial, rfl⟩
theorem Reach.run {ps : List (Str × Str)} {P : PS} (r : Reach ps P) {es : List Evt} (o : okEs ps P es) : Reach ps (runE P es) := by
  refine ⟨?_, ?_⟩
  · rw [runE_ev, okEs_append]; exact ⟨r.ok, by rw [r.eq]; exact o⟩
  · rw [runE_ev, runE_append, r.eq]
theorem reach_run {ps : List (Str × Str)} (es : List Evt) (o : okEs ps P0 es) : Reach ps (runE P0 es) := (Reach.zero ps).run o
theorem Reach.ind {ps : List (Str × Str)} {C : PS → Prop} (h0 : C P0) (hs : ∀ P e, Reach ps P → C P → okE ps P e → C (stepE P e)) {P : PS} (r : Reach ps P) : C P := by
  have key : ∀ (es : List Evt) (Q : PS), Reach ps Q → C Q → okEs ps Q es → C (runE Q es) := by
    intro es
    induction es with
    | nil => exact fun Q _ c _ => c
    | cons e es ih => exact fun Q q c o => ih (stepE Q e) (q.run (es := [e]) ⟨o.1, trivial⟩) (hs Q e q c o.1) o.2
  rw [← r.eq]
  exact key P.ev P0 (.zero ps) h0 r.ok
structure PI (ps : List (Str × Str)) (P : PS) : Prop where
  ndb : (keys P.bk).Nodup
  bok : BOk ps P.bk
  tpos : ∀ k v, aget P.tn k = some v → 0 ≤ v
  ri : RwI P.rw
  tab : ∀ ks x, inRow P.rw ks x ↔ ∃ q, aget P.bk x = some q ∧ ks = sortT (keys q)
  tnb : ∀ x, x ∈ keys P.bk → aget P.tn x.1 = some x.2
  zb : P.bk.length ≤ P.ev.length
  zt : P.tn.length ≤ P.ev.length
  zr : P.rw.length ≤ P.ev.length
theorem getQ_of {P : PS} {x : Hd} {q : Pt} (e : aget P.bk x = some q) : getQ P x = q := by unfold getQ; rw [e]; rfl
theorem newH_fst {B : List (Hd × Pt)} {tn : List (Int × Int)} : (newH B tn).1 ∉ (keys B).map (·.1) ∧ (newH B tn).2 = (aget tn (newH B tn).1).getD 0 + 1 := by
  obtain ⟨i, e, h1, _, _⟩ := free_some ((keys B).map (·.1))
  have e1 : (newH B tn).1 = (i : Nat) := by simp [newH, e]
  exact ⟨by rw [e1]; exact h1, rfl⟩
theorem okE.mem {ps : List (Str × Str)} {P : PS} {x : Hd} {q : Pt} (e : aget P.bk x = some q) : x ∈ keys P.bk := aget_some.mp ⟨_, e⟩
theorem sortT_nil : sortT (keys ([] : Pt)) = [] := by simp [sortT, keys]
theorem len_moveR (rw : Rw) (x : Hd) (ks : List Str) : (moveR rw x ks).length ≤ rw.length + 2 := by
  unfold moveR enterR leaveR
  have h : ∀ r : Rw, (aput r ks ((aget r ks).getD [] ++ [x])).length ≤ r.length + 1 := fun r => len_aput r ks _
  split
  · have := h rw; omega
  · rename_i ks' row _
    have := h (outR rw ks' (cutR row x))
    have := len_outR rw ks' (cutR row x)
    omega
/-- no more rows than things -/
theorem rows_le {rw : Rw} (r : RwI rw) {E : List Hd} (h : ∀ ks x, inRow rw ks x → x ∈ E) : rw.length ≤ E.length := by
  have key : ∀ l : Rw, (keys l).Nodup → (∀ p ∈ l, aget rw p.1 = some p.2) → ∃ hs : List Hd, hs.Nodup ∧ hs.length = l.length ∧ ∀ y ∈ hs, ∃ p ∈ l, y ∈ p.2 := by
    intro l
    induction l with
    | nil => exact fun _ _ => ⟨[], List.nodup_nil, rfl, by simp⟩
    | cons p l ih =>
      intro nd k
      rw [keys, List.map_cons, List.nodup_cons] at nd
      obtain ⟨hs, h1, h2, h3⟩ := ih nd.2 fun q hq => k q (List.mem_cons_of_mem _ hq)
      have hp := k p List.mem_cons_self
      obtain ⟨y, hy⟩ := List.exists_mem_of_ne_nil _ (r.rne _ _ hp)
      refine ⟨y :: hs, List.nodup_cons.mpr ⟨fun z => ?_, h1⟩, by simp [h2], fun z hz => ?_⟩
      · obtain ⟨q, hq, hyq⟩ := h3 y z
        have := r.uni p.1 q.1 y ⟨_, hp, hy⟩ ⟨_, k q (List.mem_cons_of_mem _ hq), hyq⟩
        exact nd.1 (by rw [this]; exact List.mem_map.mpr ⟨q, hq, rfl⟩)
      · rcases List.mem_cons.mp hz with rfl | hz
        · exact ⟨p, List.mem_cons_self, hy⟩
        · obtain ⟨q, hq, k2⟩ := h3 z hz
          exact ⟨q, List.mem_cons_of_mem _ hq, k2⟩
  obtain ⟨hs, h1, h2, h3⟩ := key rw r.nd fun p hp => aget_of_mem r.nd hp
  rw [← h2]
  exact pigeon hs E h1 fun y hy => by
    obtain ⟨p, hp, k⟩ := h3 y hy
    exact h p.1 y ⟨p.2, aget_of_mem r.nd hp, k⟩
theorem tab_mem {P : PS} (tab : ∀ ks x, inRow P.rw ks x ↔ ∃ q, aget P.bk x = some q ∧ ks = sortT (keys q)) : ∀ ks x, inRow P.rw ks x → x ∈ keys P.bk := fun ks x h => by
  obtain ⟨q, e, _⟩ := (tab ks x).mp h
  exact aget_some.mp ⟨_, e⟩
theorem PI.part {ps : List (Str × Str)} {P : PS} (p : PI ps P) {x : Hd} {q q' : Pt} (e : aget P.bk x = some q) {rw' : Rw} {e' : Evt} (hq : ∀ n w, aget q' n = some w → ∃ so, (n, so) ∈ ps ∧ WOk (fun y => y ∈ keys P.bk) so w) (hnq : (keys q').Nodup)
    (hr : RwI rw' ∧ ∀ ks' y, inRow rw' ks' y ↔ (inRow P.rw ks' y ∧ y ≠ x) ∨ (ks' = sortT (keys q') ∧ y = x)) : PI ps ⟨aput P.bk x q', P.tn, rw', P.ev ++ [e']⟩ := by
  have hx : x ∈ keys P.bk := aget_some.mp ⟨_, e⟩
  have ke : keys (aput P.bk x q') = keys P.bk := by rw [keys_aput, if_pos hx]
  have tab : ∀ ks y, inRow rw' ks y ↔ ∃ q1, aget (aput P.bk x q') y = some q1 ∧ ks = sortT (keys q1) := fun ks y => by
    rw [hr.2, aget_aput]
    by_cases h : x = y
    · subst h
      rw [if_pos rfl]
      constructor
      · rintro (⟨_, h⟩ | ⟨h, _⟩)
        · exact absurd rfl h
        · exact ⟨q', rfl, h⟩
      · rintro ⟨q1, h1, h2⟩
        cases h1; exact .inr ⟨h2, rfl⟩
    · rw [if_neg h, p.tab]
      exact ⟨fun z => z.elim (fun z => z.1) (fun z => absurd z.2.symm h), fun z => .inl ⟨z, fun e => h e.symm⟩⟩
  have lb : (aput P.bk x q').length = P.bk.length := by rw [← len_keys, ke, len_keys]
  refine ⟨by rw [ke]; exact p.ndb, p.bok.part hx hq hnq, p.tpos, hr.1, tab, fun y hy => p.tnb y (by rw [ke] at hy; exact hy), ?_, ?_, ?_⟩
  · show (aput P.bk x q').length ≤ (P.ev ++ [e']).length
    rw [lb]; have := p.zb; simp; omega
  · show P.tn.length ≤ (P.ev ++ [e']).length
    have := p.zt; simp; omega
  · show rw'.length ≤ (P.ev ++ [e']).length
    have h1 := rows_le hr.1 (E := keys (aput P.bk x q')) fun ks y h => by
      obtain ⟨q1, e1, _⟩ := (tab ks y).mp h
      exact aget_some.mp ⟨_, e1⟩
    rw [len_keys, lb] at h1
    have := p.zb; simp; omega
theorem PI.step {ps : List (Str × Str)} {P : PS} (p : PI ps P) {e : Evt} (o : okE ps P e) : PI ps (stepE P e) := by
  cases e with
  | new x =>
    have hx : x = newH P.bk P.tn := o
    obtain ⟨f1, f2, f3⟩ := newH_facts P.bk P.tn p.tpos
    rw [← hx] at f1 f2 f3
    have g1 := newH_fst (B := P.bk) (tn := P.tn)
    rw [← hx] at g1
    obtain ⟨r1, k1⟩ := enterR_I p.ri (x := x) (fun ks z => f1 (tab_mem p.tab ks x z)) []
    have tab : ∀ ks y, inRow (enterR P.rw [] x) ks y ↔ ∃ q1, aget (aput P.bk x []) y = some q1 ∧ ks = sortT (keys q1) := fun ks y => by
      rw [k1, aget_aput]
      by_cases h : x = y
      · subst h
        rw [if_pos rfl]
        constructor
        · rintro (h | ⟨h, _⟩)
          · exact absurd (tab_mem p.tab ks x h) f1
          · exact ⟨[], rfl, h.trans sortT_nil.symm⟩
        · rintro ⟨q1, h1, h2⟩
          cases h1; exact .inr ⟨h2.trans sortT_nil, rfl⟩
      · rw [if_neg h, p.tab]
        exact ⟨fun z => z.elim id (fun z => absurd z.2.symm h), .inl⟩
    refine ⟨nodup_aput _ _ p.ndb, p.bok.grow ⟨f2, f3⟩, fun k v hk => ?_, r1, tab, fun y hy => ?_, ?_, ?_, ?_⟩
    · have hk' : aget (aput P.tn x.1 x.2) k = some v := hk
      rw [aget_aput] at hk'
      split at hk'
      · cases hk'; omega
      · exact p.tpos k v hk'
    · show aget (aput P.tn x.1 x.2) y.1 = some y.2
      have hy' : y ∈ keys (aput P.bk x []) := hy
      rw [aget_aput]
      rcases mem_keys_aput.mp hy' with h | h
      · rw [h, if_pos rfl]
      · rw [if_neg fun z => g1.1 (by rw [z]; exact List.mem_map.mpr ⟨y, h, rfl⟩)]
        exact p.tnb y h
    · show (aput P.bk x []).length ≤ (P.ev ++ [_]).length
      have := len_aput P.bk x []; have := p.zb; simp; omega
    · show (aput P.tn x.1 x.2).length ≤ (P.ev ++ [_]).length
      have := len_aput P.tn x.1 x.2; have := p.zt; simp; omega
    · show (enterR P.rw [] x).length ≤ (P.ev ++ [_]).length
      have := len_aput P.rw [] ((aget P.rw []).getD [] ++ [x]); have := p.zr; unfold enterR; simp; omega
  | put x n v =>
    obtain ⟨q, so, e, e2, hp, hv, _⟩ := o
    show PI ps ⟨aput P.bk x (aput (getQ P x) n v), P.tn, _, _⟩
    rw [getQ_of e]
    refine p.part e (fun n' w' hw => ?_) (nodup_aput _ _ (p.bok.ndq x q e)) (moveR_I p.ri x _)
    rw [aget_aput] at hw
    split at hw
    · rename_i en; cases hw; rw [← en]; exact ⟨so, hp, hv⟩
    · exact p.bok.wok x q e n' w' hw
  | set x n old v =>
    obtain ⟨q, so, e, e2, _, hp, hv, _⟩ := o
    show PI ps ⟨aput P.bk x (aput (getQ P x) n v), P.tn, _, _⟩
    rw [getQ_of e]
    have hn : n ∈ keys q := aget_some.mp ⟨_, e2⟩
    refine p.part e (fun n' w' hw => ?_) (nodup_aput _ _ (p.bok.ndq x q e)) ⟨p.ri, fun ks y => ?_⟩
    · rw [aget_aput] at hw
      split at hw
      · rename_i en; cases hw; rw [← en]; exact ⟨so, hp, hv⟩
      · exact p.bok.wok x q e n' w' hw
    · rw [keys_aput, if_pos hn]
      by_cases h : y = x
      · subst h
        rw [p.tab]
        constructor
        · rintro ⟨q1, h1, h2⟩
          rw [e] at h1; cases h1; exact .inr ⟨h2, rfl⟩
        · rintro (⟨_, h⟩ | ⟨h, _⟩)
          · exact absurd rfl h
          · exact ⟨q, e, h⟩
      · exact ⟨fun z => .inl ⟨z, h⟩, fun z => z.elim (fun z => z.1) (fun z => absurd z.2 h)⟩
  | take x n old =>
    obtain ⟨q, e, e2⟩ := o
    show PI ps ⟨aput P.bk x (adel (getQ P x) n), P.tn, _, _⟩
    rw [getQ_of e]
    refine p.part e (fun n' w' hw => ?_) (nodup_adel _ (p.bok.ndq x q e)) (moveR_I p.ri x _)
    rw [aget_adel] at hw
    split at hw
    · cases hw
    · exact p.bok.wok x q e n' w' hw
  | drop x =>
    obtain ⟨e, no⟩ := o
    obtain ⟨r1, k1⟩ := leaveR_I p.ri x
    have tab : ∀ ks y, inRow (leaveR P.rw x) ks y ↔ ∃ q1, aget (adel P.bk x) y = some q1 ∧ ks = sortT (keys q1) := fun ks y => by
      rw [k1, aget_adel]
      by_cases h : x = y
      · subst h
        rw [if_pos rfl]
        exact ⟨fun z => absurd rfl z.2, fun ⟨_, z, _⟩ => by cases z⟩
      · rw [if_neg h, p.tab]
        exact ⟨fun z => z.1, fun z => ⟨z, fun e => h e.symm⟩⟩
    refine ⟨nodup_adel _ p.ndb, p.bok.del no, p.tpos, r1, tab, fun y hy => p.tnb y (mem_keys_adel.mp hy).1, ?_, ?_, ?_⟩
    · show (adel P.bk x).length ≤ (P.ev ++ [_]).length
      have := len_adel P.bk x; have := p.zb; simp; omega
    · show P.tn.length ≤ (P.ev ++ [_]).length
      have := p.zt; simp; omega
    · show (leaveR P.rw x).length ≤ (P.ev ++ [_]).length
      have h1 := rows_le r1 (E := keys P.bk) fun ks y h => tab_mem p.tab ks y ((k1 ks y).mp h).1
      rw [len_keys] at h1
      have := p.zb; simp; omega
theorem Reach.pi {ps : List (Str × Str)} {P : PS} (r : Reach ps P) : PI ps P := by
  refine Reach.ind (C := PI ps) ?_ (fun P e _ c o => c.step o) r
  refine ⟨List.nodup_nil, ⟨?_, ?_, ?_⟩, ?_, ⟨List.nodup_nil, ?_, ?_, ?_⟩, ?_, ?_, Nat.le_refl _, Nat.le_refl _, Nat.le_refl _⟩
  · intro x h; cases h
  · intro x q h; cases h
  · intro x q h; cases h
  · intro k v h; cases h
  · intro k v h; cases h
  · intro k v h; cases h
  · rintro k v h ⟨_, z, _⟩; cases z
  · intro ks x
    exact ⟨fun ⟨_, h, _⟩ => (by cases h), fun ⟨_, h, _⟩ => (by cases h)⟩
  · intro x h; cases h
theorem row_le {ps : List (Str × Str)} {P : PS} (p : PI ps P) {ks : List Str} {row : List Hd} (e : aget P.rw ks = some row) : row.length ≤ P.ev.length := by
  have := pigeon row (keys P.bk) (p.ri.rnd _ _ e) fun y hy => tab_mem p.tab ks y ⟨row, e, hy⟩
  rw [len_keys] at this
  exact Nat.le_trans this p.zb
end Mi
namespace Mi
open PySem L2
structure Sch (ps : List (Str × Str)) : Prop where
  nd : (ps.map (·.1)).Nodup
  le6 : ps.length ≤ 6
  pw : (ps.map (·.1)).Pairwise (fun a b => leT a b = true)
  ne : ps ≠ []
  so : ∀ p ∈ ps, p.2 = "mark" ∨ p.2 = "number" ∨ p.2 = "text" ∨ p.2 = "link" ∨ p.2 = "tree"
theorem PI.run {ps : List (Str × Str)} {P : PS} {es : List Evt} (p : PI ps P) (o : okEs ps P es) : PI ps (runE P es) := by
  induction es generalizing P with
  | nil => exact p
  | cons e es ih => exact ih (p.step o.1) o.2
/-! ### what is told when a thing goes -/
def takesOf (P : PS) (x : Hd) (d : List Str) : List Evt := d.map fun n => .take x n ((aget (getQ P x) n).getD .non)
def hitB (x : Hd) (q : Pt) (n : Str) : Bool := decide ((aget q n).bind hdOf = some x)
def setsOf (x y : Hd) (d : List Str) : List Evt := d.map fun n => .set y n (encH x) .non
def unl1 (P : PS) (x y : Hd) : List Evt := setsOf x y ((kindsP P y).filter (hitB x (getQ P y)))
def unlEs (P : PS) (x : Hd) : List Evt := (sortH (keys P.bk)).flatMap (unl1 P x)
def dropEs (P : PS) (x : Hd) : List Evt := takesOf P x (kindsP P x) ++ unlEs (runE P (takesOf P x (kindsP P x))) x ++ [.drop x]
theorem remN_nil (q : Pt) : remN [] q = q := by unfold remN; rw [List.filter_eq_self]; intro p _; simp
theorem takesOf_snoc (P : PS) (x : Hd) (d : List Str) (n : Str) : takesOf P x (d ++ [n]) = takesOf P x d ++ [.take x n ((aget (getQ P x) n).getD .non)] := by unfold takesOf; rw [List.map_append]; rfl
theorem run_takes {ps : List (Str × Str)} {P : PS} (p : PI ps P) {x : Hd} {q : Pt} (e : aget P.bk x = some q) : ∀ (t d : List Str), (d ++ t).Nodup → (∀ n ∈ t, n ∈ keys q) →
    okEs ps P (takesOf P x d) ∧ (runE P (takesOf P x d)).bk = aput P.bk x (remN d q) → okEs ps P (takesOf P x (d ++ t)) ∧ (runE P (takesOf P x (d ++ t))).bk = aput P.bk x (remN (d ++ t) q)
  | [], d, _, _, h => by simpa using h
  | n :: t, d, nd, k, ⟨h1, h2⟩ => by
    have hn : n ∉ d := fun z => (List.nodup_append.mp nd).2.2 n z n (by simp) rfl
    obtain ⟨v, ev⟩ := aget_some.mpr (k n (by simp))
    have gq : getQ P x = q := getQ_of e
    have a1 : aget (runE P (takesOf P x d)).bk x = some (remN d q) := by rw [h2, aget_aput, if_pos rfl]
    have a2 : aget (remN d q) n = some v := by rw [aget_remN d n hn]; exact ev
    have step := run_takes p e t (d ++ [n]) (by simpa using nd) (fun m hm => k m (List.mem_cons_of_mem _ hm)) (by
      rw [takesOf_snoc, okEs_append, runE_append, runE_one, gq, ev, Option.getD_some]
      refine ⟨⟨h1, okEs_one.mpr ⟨_, a1, a2⟩⟩, ?_⟩
      show aput (runE P (takesOf P x d)).bk x (adel (getQ (runE P (takesOf P x d)) x) n) = _
      rw [getQ_of a1, h2, aput_aput, remN_step])
    simpa using step
theorem takes_all {ps : List (Str × Str)} {P : PS} (p : PI ps P) {x : Hd} {q : Pt} (e : aget P.bk x = some q) {d t : List Str} (k : kindsP P x = d ++ t) : okEs ps P (takesOf P x d) ∧ (runE P (takesOf P x d)).bk = aput P.bk x (remN d q) := by
  have hk : kindsP P x = sortT (keys q) := by unfold kindsP; rw [getQ_of e]
  have nd : (d ++ t).Nodup := by rw [← k, hk]; exact sortT_nd (p.bok.ndq x q e)
  have := run_takes p e d [] (by simpa using (List.nodup_append.mp nd).1) (fun n hn => by
    have : n ∈ kindsP P x := by rw [k]; simp [hn]
    rw [hk] at this
    exact mem_sortT.mp this) ⟨trivial, by rw [show takesOf P x [] = [] from rfl, runE_nil, remN_nil, aput_self p.ndb e]⟩
  simpa using this
theorem eqB_hn (x : Hd) : eqB (encH x) .non = false := by
  cases z : eqB (encH x) .non with
  | false => rfl
  | true => have := (eqB_iff (encH_tx x) rfl).mp z; cases this
theorem hitB_true {x : Hd} {q : Pt} {n : Str} (h : hitB x q n = true) : aget q n = some (encH x) := by
  unfold hitB at h
  rw [decide_eq_true_eq] at h
  cases e : aget q n with
  | none => rw [e] at h; cases h
  | some v => rw [e, Option.bind_some] at h; rw [hdOf_some h]
theorem hitB_false {x : Hd} {q : Pt} {n : Str} (h : hitB x q n = false) : ∀ v, aget q n = some v → hdOf v ≠ some x := fun v e z => by
  unfold hitB at h
  rw [e, Option.bind_some, decide_eq_false_iff_not] at h
  exact h z
theorem run_sets1 {ps : List (Str × Str)} {Q : PS} (p : PI ps Q) (x : Hd) {y : Hd} {q : Pt} (e : aget Q.bk y = some q) : ∀ (t d : List Str), (d ++ t).Nodup →
    okEs ps Q (setsOf x y (d.filter (hitB x q))) ∧ (runE Q (setsOf x y (d.filter (hitB x q)))).bk = aput Q.bk y (clrN d x q) → okEs ps Q (setsOf x y ((d ++ t).filter (hitB x q))) ∧ (runE Q (setsOf x y ((d ++ t).filter (hitB x q)))).bk = aput Q.bk y (clrN (d ++ t) x q)
  | [], d, _, h => by simpa using h
  | n :: t, d, nd, ⟨h1, h2⟩ => by
    have hn : n ∉ d := fun z => (List.nodup_append.mp nd).2.2 n z n (by simp) rfl
    have ndq := p.bok.ndq y q e
    have step := run_sets1 p x e t (d ++ [n]) (by simpa using nd) (by
      rw [List.filter_append]
      cases hh : hitB x q n with
      | false =>
        rw [List.filter_cons, hh, if_neg (by decide), List.filter_nil, List.append_nil, clr_miss ndq (hitB_false hh)]
        exact ⟨h1, h2⟩
      | true =>
        have ev := hitB_true hh
        rw [List.filter_cons, hh, if_pos rfl, List.filter_nil]
        have es : setsOf x y (d.filter (hitB x q) ++ [n]) = setsOf x y (d.filter (hitB x q)) ++ [.set y n (encH x) .non] := by unfold setsOf; rw [List.map_append]; rfl
        have a1 : aget (runE Q (setsOf x y (d.filter (hitB x q)))).bk y = some (clrN d x q) := by rw [h2, aget_aput, if_pos rfl]
        have a2 : aget (clrN d x q) n = some (encH x) := by rw [aget_clrN, ev, Option.map_some, if_neg fun z => hn z.1]
        obtain ⟨so, hp, hv⟩ := p.bok.wok y q e n _ ev
        have hl := lead_of (hd_lead hv (hdOf_enc x))
        rw [es, okEs_append, runE_append, runE_one]
        refine ⟨⟨h1, okEs_one.mpr ⟨_, so, a1, a2, eqB_hn x, hp, .inr (.inr (.inr ⟨hl, .inl rfl⟩)), fun _ z hz => by cases hz⟩⟩, ?_⟩
        show aput (runE Q (setsOf x y (d.filter (hitB x q)))).bk y (aput (getQ (runE Q (setsOf x y (d.filter (hitB x q)))) y) n .non) = _
        rw [getQ_of a1, h2, aput_aput, clr_hit ndq ev (hdOf_enc x)])
    simpa using step
theorem sets1_all {ps : List (Str × Str)} {Q : PS} (p : PI ps Q) (x : Hd) {y : Hd} {q : Pt} (e : aget Q.bk y = some q) {d : List Str} (nd : d.Nodup) : okEs ps Q (setsOf x y (d.filter (hitB x q))) ∧ (runE Q (setsOf x y (d.filter (hitB x q)))).bk = aput Q.bk y (clrN d x q) := by
  have := run_sets1 p x e d [] (by simpa using nd) ⟨trivial, by rw [clr_nil, aput_self p.ndb e]; rfl⟩
  simpa using this
theorem run_unl {ps : List (Str × Str)} {P : PS} (p : PI ps P) (x : Hd) : ∀ (t E : List Hd), (E ++ t).Nodup → (∀ y ∈ t, y ∈ keys P.bk) →
    okEs ps P (E.flatMap (unl1 P x)) ∧ (runE P (E.flatMap (unl1 P x))).bk = outB E x P.bk → okEs ps P ((E ++ t).flatMap (unl1 P x)) ∧ (runE P ((E ++ t).flatMap (unl1 P x))).bk = outB (E ++ t) x P.bk
  | [], E, _, _, h => by simpa using h
  | y :: t, E, nd, k, ⟨h1, h2⟩ => by
    have hn : y ∉ E := fun z => (List.nodup_append.mp nd).2.2 y z y (by simp) rfl
    obtain ⟨q, e⟩ := aget_some.mpr (k y (by simp))
    have pQ : PI ps (runE P (E.flatMap (unl1 P x))) := p.run h1
    have eQ : aget (runE P (E.flatMap (unl1 P x))).bk y = some q := by rw [h2, aget_outB, e, Option.map_some, if_neg hn]
    have u1 : unl1 P x y = setsOf x y ((sortT (keys q)).filter (hitB x q)) := by unfold unl1 kindsP; rw [getQ_of e]
    obtain ⟨s1, s2⟩ := sets1_all pQ x eQ (sortT_nd (p.bok.ndq y q e))
    have step := run_unl p x t (E ++ [y]) (by simpa using nd) (fun m hm => k m (List.mem_cons_of_mem _ hm)) (by
      rw [List.flatMap_append, okEs_append, runE_append, List.flatMap_singleton, u1]
      refine ⟨⟨h1, s1⟩, ?_⟩
      rw [s2, clr_sort, h2, outB_step p.ndb e])
    simpa using step
theorem unl_all {ps : List (Str × Str)} {P : PS} (p : PI ps P) (x : Hd) {E t : List Hd} (k : sortH (keys P.bk) = E ++ t) : okEs ps P (E.flatMap (unl1 P x)) ∧ (runE P (E.flatMap (unl1 P x))).bk = outB E x P.bk := by
  have nd : (E ++ t).Nodup := by rw [← k]; exact sortH_nd p.ndb
  have := run_unl p x E [] (by simpa using (List.nodup_append.mp nd).1) (fun y hy => by
    have : y ∈ sortH (keys P.bk) := by rw [k]; simp [hy]
    exact mem_sortH.mp this) ⟨trivial, (outB_nil x P.bk).symm⟩
  simpa using this
theorem drop_facts {ps : List (Str × Str)} {P : PS} (p : PI ps P) {x : Hd} (hx : x ∈ keys P.bk) : okEs ps P (dropEs P x) ∧ (runE P (dropEs P x)).bk = dropB P.bk x := by
  obtain ⟨q, e⟩ := aget_some.mpr hx
  obtain ⟨t1, t2⟩ := takes_all p e (d := kindsP P x) (t := []) (by simp)
  have hk : kindsP P x = sortT (keys q) := by unfold kindsP; rw [getQ_of e]
  have r0 : remN (kindsP P x) q = [] := remN_all fun n hn => by rw [hk]; exact mem_sortT.mpr hn
  rw [r0] at t2
  have p1 := p.run t1
  unfold dropEs
  obtain ⟨P1, hP1⟩ : ∃ P1, P1 = runE P (takesOf P x (kindsP P x)) := ⟨_, rfl⟩
  rw [← hP1] at t2 p1 ⊢
  obtain ⟨u1, u2⟩ := unl_all p1 x (E := sortH (keys P1.bk)) (t := []) (by simp)
  rw [outB_all fun y hy => mem_sortH.mpr hy] at u2
  have ag : ∀ y, aget (clrB x (aput P.bk x [])) y = (aget (aput P.bk x []) y).map (clrA x) := fun y => aget_map (clrA x) _ y
  rw [okEs_append, okEs_append, runE_append, runE_append, ← hP1, runE_one]
  have u1' : okEs ps P1 (unlEs P1 x) := u1
  have u2' : (runE P1 (unlEs P1 x)).bk = clrB x (aput P.bk x []) := by rw [← t2]; exact u2
  refine ⟨⟨⟨t1, u1'⟩, okEs_one.mpr ⟨?_, fun y q' hq n w hw => ?_⟩⟩, ?_⟩
  · rw [u2', ag, aget_aput, if_pos rfl]; rfl
  · rw [u2', ag] at hq
    cases e2 : aget (aput P.bk x []) y with
    | none => rw [e2] at hq; cases hq
    | some q2 => rw [e2, Option.map_some] at hq; cases hq; exact clrA_no hw
  · rw [runE_append, ← hP1]
    show adel (runE P1 (unlEs P1 x)).bk x = _
    rw [u2']; rfl
/-- the same by the scheme's names -/
theorem hits_names {ps : List (Str × Str)} (sc : Sch ps) {q : Pt} (ndq : (keys q).Nodup) (hq : ∀ n w, aget q n = some w → ∃ so, (n, so) ∈ ps) (x : Hd) : (ps.map (·.1)).filter (hitB x q) = (sortT (keys q)).filter (hitB x q) := by
  refine riseT_eq (List.filter_sublist.nodup sc.nd) (List.filter_sublist.nodup (sortT_nd ndq)) (List.Pairwise.sublist List.filter_sublist sc.pw) (List.Pairwise.sublist List.filter_sublist (sortT_pw _)) fun n => ?_
  rw [List.mem_filter, List.mem_filter, mem_sortT]
  constructor
  · rintro ⟨_, h⟩
    exact ⟨aget_some.mp ⟨_, hitB_true h⟩, h⟩
  · rintro ⟨_, h⟩
    obtain ⟨so, hp⟩ := hq n _ (hitB_true h)
    exact ⟨List.mem_map.mpr ⟨_, hp, rfl⟩, h⟩
/-! ### what is told when a part is written or taken -/
def writeEs (P : PS) (x : Hd) (n : Str) (v : D) : List Evt := match aget P.bk x with
  | none => []
  | some q => (match aget q n with
    | none => [.put x n v]
    | some old => if eqB old v = true then [] else [.set x n old v])
def takeEs (P : PS) (x : Hd) (n : Str) : List Evt := match aget P.bk x with
  | none => []
  | some q => (match aget q n with
    | none => []
    | some old => [.take x n old])
def newEs (P : PS) : List Evt := [.new (newH P.bk P.tn)]
theorem write_ok {ps : List (Str × Str)} {P : PS} {x : Hd} (hx : x ∈ keys P.bk) {n so : Str} (hp : (n, so) ∈ ps) {v : D} (hv : WOk (fun y => y ∈ keys P.bk) so v) (hr : noRing P.bk so n x v) : okEs ps P (writeEs P x n v) := by
  obtain ⟨q, e⟩ := aget_some.mpr hx
  unfold writeEs
  rw [e]; dsimp only
  cases e2 : aget q n with
  | none => exact okEs_one.mpr ⟨q, so, e, e2, hp, hv, hr⟩
  | some old =>
    dsimp only
    cases e3 : eqB old v with
    | true => rw [if_pos rfl]; trivial
    | false => rw [if_neg (by decide)]; exact okEs_one.mpr ⟨q, so, e, e2, e3, hp, hv, hr⟩
theorem take_ok {ps : List (Str × Str)} {P : PS} {x : Hd} {n : Str} : okEs ps P (takeEs P x n) := by
  unfold takeEs
  split
  · trivial
  · rename_i q e
    split
    · trivial
    · rename_i old e2
      exact okEs_one.mpr ⟨q, e, e2⟩
theorem new_ok {ps : List (Str × Str)} {P : PS} : okEs ps P (newEs P) := okEs_one.mpr rfl
theorem keys_write {P : PS} {x : Hd} {n : Str} {v : D} : keys (runE P (writeEs P x n v)).bk = keys P.bk := by
  unfold writeEs
  split
  · rfl
  · rename_i q e
    have hx : x ∈ keys P.bk := aget_some.mp ⟨_, e⟩
    split
    · show keys (aput P.bk x _) = _; rw [keys_aput, if_pos hx]
    · split
      · rfl
      · show keys (aput P.bk x _) = _; rw [keys_aput, if_pos hx]
theorem len_writeEs (P : PS) (x : Hd) (n : Str) (v : D) : (writeEs P x n v).length ≤ 1 := by
  unfold writeEs
  split
  · simp
  · split
    · simp
    · split <;> simp
theorem len_takeEs (P : PS) (x : Hd) (n : Str) : (takeEs P x n).length ≤ 1 := by
  unfold takeEs
  split
  · simp
  · split <;> simp
theorem q_le6 {ps : List (Str × Str)} (sc : Sch ps) {B : List (Hd × Pt)} (b : BOk ps B) {y : Hd} {q : Pt} (e : aget B y = some q) : q.length ≤ 6 := q6 sc.nd sc.le6 b e
theorem len_dropEs {ps : List (Str × Str)} (sc : Sch ps) {P : PS} (p : PI ps P) {x : Hd} (hx : x ∈ keys P.bk) : (dropEs P x).length ≤ 7 + 6 * P.bk.length := by
  obtain ⟨q, e⟩ := aget_some.mpr hx
  obtain ⟨t1, t2⟩ := takes_all p e (d := kindsP P x) (t := []) (by simp)
  have p1 := p.run t1
  have hk : (kindsP P x).length ≤ 6 := by
    unfold kindsP; rw [getQ_of e, sortT_len, len_keys]; exact q_le6 sc p.bok e
  have h1 : (takesOf P x (kindsP P x)).length ≤ 6 := by unfold takesOf; rw [List.length_map]; exact hk
  unfold dropEs
  obtain ⟨P1, hP1⟩ : ∃ P1, P1 = runE P (takesOf P x (kindsP P x)) := ⟨_, rfl⟩
  rw [← hP1] at t2 p1 ⊢
  have hu : ∀ L : List Hd, (∀ y ∈ L, y ∈ keys P1.bk) → (L.flatMap (unl1 P1 x)).length ≤ 6 * L.length := by
    intro L
    induction L with
    | nil => simp
    | cons y L ih =>
      intro k
      rw [List.flatMap_cons, List.length_append, List.length_cons]
      have h2 : (unl1 P1 x y).length ≤ 6 := by
        obtain ⟨q', e'⟩ := aget_some.mpr (k y (by simp))
        unfold unl1 setsOf kindsP
        rw [List.length_map, getQ_of e']
        refine Nat.le_trans (List.length_filter_le _ _) ?_
        rw [sortT_len, len_keys]; exact q_le6 sc p1.bok e'
      have := ih fun z hz => k z (List.mem_cons_of_mem _ hz)
      omega
  have h3 := hu (sortH (keys P1.bk)) fun y hy => mem_sortH.mp hy
  have h4 : (sortH (keys P1.bk)).length = P.bk.length := by
    rw [sortH_len, t2, keys_aput, if_pos hx, len_keys]
  rw [h4] at h3
  unfold unlEs
  simp only [List.length_append, List.length_singleton]
  omega
end Mi
namespace Mi
open PySem L2
theorem szL' : sizeLine = 16777216 := rfl
theorem ne2 : (2 : Nat) ≠ 0 := by decide
theorem ne1 : (1 : Nat) ≠ 0 := by decide
def enterS (S : SC) (x : Hd) (ks : List Str) (a : Nat) (row : List Hd) : SC := { S with pl := aput S.pl x (ks, row.length), C := { S.C with rw := aput S.C.rw ks (a, row ++ [x]) } }
/-- what leaving comes to -/
def leaveS (S : SC) (x : Hd) (ks : List Str) (i a : Nat) (r0 : List Hd) (l : Hd) : SC :=
  if l = x then (if r0 = [] then { S with pl := adel S.pl x, C := { S.C with rw := adel (aput S.C.rw ks (a, r0)) ks } } else { S with pl := adel S.pl x, C := { S.C with rw := aput S.C.rw ks (a, r0) } })
  else { S with pl := aput (adel S.pl x) l (ks, i), C := { S.C with rw := aput (aput S.C.rw ks (a, r0)) ks (a, r0.set i l) } }
theorem ixN_nat {n i : Nat} (h : i < n) : ixN n (i : Int) = some i := by
  unfold ixN
  rw [if_pos (by omega), if_pos (by omega)]; simp
theorem g_neH {h : Hq} {a b : Hd} : gNe (encH a) (encH b) h = some (.bl (!decide (a = b)), h) := by
  rw [g_ne (tx_isSome (encH_tx a)) (tx_isSome (encH_tx b)) (by rw [encH_dp]; exact Nat.le_trans (Nat.min_le_left _ _) (by decide))]
  congr 3
  by_cases e : a = b
  · subst e; rw [eqB_refl (tx_isSome (encH_tx a))]; simp
  · rw [decide_eq_false e]
    congr 1
    cases z : eqB (encH a) (encH b) with
    | false => rfl
    | true => exact absurd (encH_inj a b ((eqB_iff (encH_tx a) (encH_tx b)).mp z)) e
theorem g_eqH {h : Hq} {a b : Hd} : gEq (encH a) (encH b) h = some (.bl (decide (a = b)), h) := by
  rw [g_eq (tx_isSome (encH_tx a)) (tx_isSome (encH_tx b)) (by rw [encH_dp]; exact Nat.le_trans (Nat.min_le_left _ _) (by decide))]
  congr 2
  by_cases e : a = b
  · subst e; rw [eqB_refl (tx_isSome (encH_tx a))]; simp
  · rw [decide_eq_false e]
    cases z : eqB (encH a) (encH b) with
    | false => rfl
    | true => exact absurd (encH_inj a b ((eqB_iff (encH_tx a) (encH_tx b)).mp z)) e
structure TI (S : SC) (n : Nat) : Prop where
  ndr : (keys S.C.rw).Nodup
  ndp : (keys S.pl).Nodup
  plc : ∀ x ks i, aget S.pl x = some (ks, i) → ∃ a row, aget S.C.rw ks = some (a, row) ∧ row[i]? = some x
  zr : S.C.rw.length ≤ n
  zp : S.pl.length ≤ n
  zw : ∀ ks a row, aget S.C.rw ks = some (a, row) → row.length ≤ n
/-- but for rows and places -/
structure Same' (S S' : SC) : Prop where
  s : S'.s = S.s
  T : S'.T = S.T
  p : S'.p = S.p
  sch : S'.sch = S.sch
  b : S'.C.b = S.C.b
  t : S'.C.t = S.C.t
  e : S'.C.e = S.C.e
  r : S'.C.r = S.C.r
  bk : S'.C.bk = S.C.bk
  tn : S'.C.tn = S.C.tn
  ev : S'.C.ev = S.C.ev
theorem Same'.trans {A B C : SC} (x : Same' A B) (y : Same' B C) : Same' A C := ⟨y.s.trans x.s, y.T.trans x.T, y.p.trans x.p, y.sch.trans x.sch, y.b.trans x.b, y.t.trans x.t, y.e.trans x.e, y.r.trans x.r, y.bk.trans x.bk, y.tn.trans x.tn, y.ev.trans x.ev⟩
theorem leaveS_same (S : SC) (x : Hd) (ks : List Str) (i a : Nat) (r0 : List Hd) (l : Hd) : Same' S (leaveS S x ks i a r0 l) := by
  unfold leaveS
  by_cases h1 : l = x
  · by_cases h2 : r0 = []
    · rw [if_pos h1, if_pos h2]; exact ⟨rfl, rfl, rfl, rfl, rfl, rfl, rfl, rfl, rfl, rfl, rfl⟩
    · rw [if_pos h1, if_neg h2]; exact ⟨rfl, rfl, rfl, rfl, rfl, rfl, rfl, rfl, rfl, rfl, rfl⟩
  · rw [if_neg h1]; exact ⟨rfl, rfl, rfl, rfl, rfl, rfl, rfl, rfl, rfl, rfl, rfl⟩
theorem leaveS_ti {S : SC} {n : Nat} (ti : TI S n) {x : Hd} {ks : List Str} {i a : Nat} {r0 : List Hd} {l : Hd} (ep : aget S.pl x = some (ks, i)) (er : aget S.C.rw ks = some (a, r0 ++ [l])) (ei : (r0 ++ [l])[i]? = some x) :
    TI (leaveS S x ks i a r0 l) (n + 2) ∧ (∀ y, y ≠ x → y ∈ keys S.pl → y ∈ keys (leaveS S x ks i a r0 l).pl) := by
  have hr := ti.zw _ _ _ er
  have l1 := len_adel S.pl x
  have hp := ti.zp
  have hq := ti.zr
  simp at hr
  unfold leaveS
  by_cases h1 : l = x
  · by_cases h2 : r0 = []
    · rw [if_pos h1, if_pos h2]
      refine ⟨⟨?_, nodup_adel _ ti.ndp, fun y ks' j hy => ?_, ?_, by show (adel S.pl x).length ≤ n + 2; omega, fun ks' a' row h => ?_⟩, fun y hy hk => ?_⟩
      · exact nodup_adel _ (nodup_aput _ _ ti.ndr)
      · simp only [] at hy ⊢
        rw [aget_adel] at hy
        split at hy
        · cases hy
        · rename_i hne
          obtain ⟨a', row, q1, q2⟩ := ti.plc y ks' j hy
          by_cases hk : ks = ks'
          · subst hk
            rw [er] at q1; cases q1
            subst h2 h1
            rw [List.nil_append] at q2
            exfalso
            cases j with
            | zero => exact hne (by simpa using q2)
            | succ j => simp at q2
          · exact ⟨a', row, by rw [aget_adel, if_neg hk, aget_aput, if_neg hk]; exact q1, q2⟩
      · have := len_adel (aput S.C.rw ks (a, r0)) ks
        have := len_aput S.C.rw ks (a, r0)
        show (adel (aput S.C.rw ks (a, r0)) ks).length ≤ n + 2
        omega
      · simp only [] at h
        rw [aget_adel, aget_aput] at h
        split at h
        · cases h
        · have := ti.zw _ _ _ h; omega
      · rw [keys_get] at hk ⊢
        rw [aget_adel, if_neg (Ne.symm hy)]; exact hk
    · rw [if_pos h1, if_neg h2]
      refine ⟨⟨nodup_aput _ _ ti.ndr, nodup_adel _ ti.ndp, fun y ks' j hy => ?_, ?_, by show (adel S.pl x).length ≤ n + 2; omega, fun ks' a' row h => ?_⟩, fun y hy hk => ?_⟩
      · simp only [] at hy ⊢
        rw [aget_adel] at hy
        split at hy
        · cases hy
        · rename_i hne
          obtain ⟨a', row, q1, q2⟩ := ti.plc y ks' j hy
          by_cases hk : ks = ks'
          · subst hk
            rw [er] at q1; cases q1
            refine ⟨a, r0, by rw [aget_aput, if_pos rfl], ?_⟩
            by_cases hj : j < r0.length
            · rw [List.getElem?_append_left hj] at q2; exact q2
            · exfalso
              rw [List.getElem?_append_right (by omega)] at q2
              cases hn : j - r0.length with
              | zero => rw [hn] at q2; exact hne (by rw [← h1]; simpa using q2)
              | succ n => rw [hn] at q2; simp at q2
          · exact ⟨a', row, by rw [aget_aput, if_neg hk]; exact q1, q2⟩
      · have := len_aput S.C.rw ks (a, r0)
        show (aput S.C.rw ks (a, r0)).length ≤ n + 2
        omega
      · simp only [] at h
        rw [aget_aput] at h
        split at h
        · cases h; omega
        · have := ti.zw _ _ _ h; omega
      · rw [keys_get] at hk ⊢
        rw [aget_adel, if_neg (Ne.symm hy)]; exact hk
  · rw [if_neg h1]
    have hi : i < r0.length := by
      by_cases hlt : i < r0.length
      · exact hlt
      · exfalso
        rw [List.getElem?_append_right (by omega)] at ei
        cases hn : i - r0.length with
        | zero => rw [hn] at ei; exact h1 (by simpa using ei)
        | succ n => rw [hn] at ei; simp at ei
    have ei0 : r0[i]? = some x := by rw [List.getElem?_append_left hi] at ei; exact ei
    refine ⟨⟨nodup_aput _ _ (nodup_aput _ _ ti.ndr), nodup_aput _ _ (nodup_adel _ ti.ndp), fun y ks' j hy => ?_, ?_, ?_, fun ks' a' row h => ?_⟩, fun y hy hk => ?_⟩
    · simp only [] at hy ⊢
      rw [aget_aput] at hy
      split at hy
      · rename_i hly
        cases hy
        exact ⟨a, r0.set i l, by rw [aget_aput, if_pos rfl], by rw [List.getElem?_set_self hi, hly]⟩
      · rename_i hly
        rw [aget_adel] at hy
        split at hy
        · cases hy
        · rename_i hne
          obtain ⟨a', row, q1, q2⟩ := ti.plc y ks' j hy
          by_cases hk : ks = ks'
          · subst hk
            rw [er] at q1; cases q1
            refine ⟨a, r0.set i l, by rw [aget_aput, if_pos rfl], ?_⟩
            by_cases hj : j < r0.length
            · rw [List.getElem?_append_left hj] at q2
              rw [List.getElem?_set_ne (fun z => hne (by rw [← z, ei0] at q2; exact Option.some.inj q2))]
              exact q2
            · exfalso
              rw [List.getElem?_append_right (by omega)] at q2
              cases hn : j - r0.length with
              | zero => rw [hn] at q2; exact hly (by simpa using q2)
              | succ n => rw [hn] at q2; simp at q2
          · exact ⟨a', row, by rw [aget_aput, if_neg hk, aget_aput, if_neg hk]; exact q1, q2⟩
    · have := len_aput (aput S.C.rw ks (a, r0)) ks (a, r0.set i l)
      have := len_aput S.C.rw ks (a, r0)
      show (aput (aput S.C.rw ks (a, r0)) ks (a, r0.set i l)).length ≤ n + 2
      omega
    · have := len_aput (adel S.pl x) l (ks, i)
      show (aput (adel S.pl x) l (ks, i)).length ≤ n + 2
      omega
    · simp only [] at h
      rw [aget_aput, aget_aput] at h
      split at h
      · cases h; rw [List.length_set]; omega
      · have := ti.zw _ _ _ h; omega
    · rw [keys_get] at hk ⊢
      rw [aget_aput]
      split
      · rfl
      · rw [aget_adel, if_neg (Ne.symm hy)]; exact hk
theorem enterS_ti {S : SC} {n : Nat} (ti : TI S n) {x : Hd} {ks : List Str} {a : Nat} {row : List Hd} (c : aget S.C.rw ks = some (a, row) ∨ (aget S.C.rw ks = none ∧ row = [])) : TI (enterS S x ks a row) (n + 1) ∧ (∀ y, y = x ∨ y ∈ keys S.pl → y ∈ keys (enterS S x ks a row).pl) := by
  have hr : row.length ≤ n := by
    rcases c with c | ⟨_, rfl⟩
    · exact ti.zw _ _ _ c
    · simp
  have hp := ti.zp
  have hq := ti.zr
  refine ⟨⟨nodup_aput _ _ ti.ndr, nodup_aput _ _ ti.ndp, fun y ks' j hy => ?_, ?_, ?_, fun ks' a' row' h => ?_⟩, fun y hy => ?_⟩
  · simp only [enterS] at hy ⊢
    rw [aget_aput] at hy
    split at hy
    · rename_i hxy
      cases hy
      exact ⟨a, row ++ [x], by rw [aget_aput, if_pos rfl], by simp [hxy]⟩
    · obtain ⟨a', row', q1, q2⟩ := ti.plc y ks' j hy
      by_cases hk : ks = ks'
      · subst hk
        rcases c with c | ⟨c, rfl⟩
        · rw [c] at q1; cases q1
          exact ⟨a, row ++ [x], by rw [aget_aput, if_pos rfl], by rw [List.getElem?_append_left (List.getElem?_eq_some_iff.mp q2).1]; exact q2⟩
        · rw [c] at q1; cases q1
      · exact ⟨a', row', by rw [aget_aput, if_neg hk]; exact q1, q2⟩
  · have := len_aput S.C.rw ks (a, row ++ [x])
    show (aput S.C.rw ks (a, row ++ [x])).length ≤ n + 1
    omega
  · have := len_aput S.pl x (ks, row.length)
    show (aput S.pl x (ks, row.length)).length ≤ n + 1
    omega
  · simp only [enterS] at h
    rw [aget_aput] at h
    split at h
    · cases h; simp; omega
    · have := ti.zw _ _ _ h; omega
  · rw [keys_get] at *
    show (aget (aput S.pl x (ks, row.length)) y).isSome = true
    rw [aget_aput]
    split
    · rfl
    · rename_i hne
      rcases hy with hy | hy
      · exact absurd hy.symm hne
      · exact hy
theorem split_last {α : Type} {row : List α} {i : Nat} {x : α} (h : row[i]? = some x) : ∃ r0 l, row = r0 ++ [l] := by
  have : row ≠ [] := fun z => by rw [z] at h; simp at h
  exact ⟨row.dropLast, row.getLast this, (List.dropLast_concat_getLast this).symm⟩
/-! ### rows told without places -/
theorem rw_get (C : Cr) (ks : List Str) : aget (pu C).rw ks = (aget C.rw ks).map (·.2) := aget_map Prod.snd C.rw ks
theorem bk_get (C : Cr) (x : Hd) : aget (pu C).bk x = (aget C.bk x).map (·.2) := aget_map Prod.snd C.bk x
theorem bk_keys (C : Cr) : keys (pu C).bk = keys C.bk := keys_map Prod.snd C.bk
theorem rw_keys (C : Cr) : keys (pu C).rw = keys C.rw := keys_map Prod.snd C.rw
theorem bk_at {C : Cr} {x : Hd} {a : Nat} {q : Pt} (e : aget C.bk x = some (a, q)) : aget (pu C).bk x = some q := by rw [bk_get, e]; rfl
theorem rw_at {C : Cr} {ks : List Str} {a : Nat} {q : List Hd} (e : aget C.rw ks = some (a, q)) : aget (pu C).rw ks = some q := by rw [rw_get, e]; rfl
theorem bk_of {C : Cr} {x : Hd} {q : Pt} (e : aget (pu C).bk x = some q) : ∃ a, aget C.bk x = some (a, q) := by
  rw [bk_get] at e
  cases h : aget C.bk x with
  | none => rw [h] at e; cases e
  | some p => rw [h] at e; cases e; exact ⟨p.1, rfl⟩
theorem rw_of {C : Cr} {ks : List Str} {q : List Hd} (e : aget (pu C).rw ks = some q) : ∃ a, aget C.rw ks = some (a, q) := by
  rw [rw_get] at e
  cases h : aget C.rw ks with
  | none => rw [h] at e; cases e
  | some p => rw [h] at e; cases e; exact ⟨p.1, rfl⟩
theorem getQ_at {C : Cr} {x : Hd} {a : Nat} {q : Pt} (e : aget C.bk x = some (a, q)) : getQ (pu C) x = q := getQ_of (bk_at e)
theorem idxOf_at {x : Hd} : ∀ {row : List Hd} {i : Nat}, row.Nodup → row[i]? = some x → row.idxOf x = i
  | [], i, _, h => by simp at h
  | a :: row, 0, _, h => by
    have : a = x := by simpa using h
    rw [this, List.idxOf_cons_self]
  | a :: row, i + 1, nd, h => by
    rw [List.nodup_cons] at nd
    have h' : row[i]? = some x := by simpa using h
    have ne : a ≠ x := fun z => nd.1 (z ▸ List.mem_of_getElem? h')
    rw [List.idxOf_cons, idxOf_at nd.2 h']
    have : (a == x) = false := by simpa using ne
    rw [this]; rfl
theorem leaveS_rw {S : SC} {x : Hd} {ks : List Str} {i a : Nat} {r0 : List Hd} {l : Hd} (r : RwI (pu S.C).rw) (er : aget S.C.rw ks = some (a, r0 ++ [l])) (ei : (r0 ++ [l])[i]? = some x) : (pu (leaveS S x ks i a r0 l).C).rw = leaveR (pu S.C).rw x := by
  have hx : x ∈ r0 ++ [l] := List.mem_of_getElem? ei
  have er' := rw_at er
  have nd := r.rnd _ _ er'
  rw [leaveR_some r er' hx]
  have ii : (r0 ++ [l]).idxOf x = i := by
    obtain ⟨hi, e⟩ := List.getElem?_eq_some_iff.mp ei
    exact idxOf_at nd ei
  have ec : cutR (r0 ++ [l]) x = r0.set i l := by
    unfold cutR; rw [ii, List.dropLast_concat, List.getLast?_concat]; rfl
  unfold leaveS outR
  by_cases h1 : l = x
  · have hi : i = r0.length := by
      rw [← ii, ← h1, List.idxOf_append, if_neg (fun z => (List.nodup_append.mp nd).2.2 l z l (by simp) rfl)]; simp
    have e0 : r0.set i l = r0 := by rw [hi]; exact List.set_eq_of_length_le (Nat.le_refl _)
    rw [ec, e0]
    by_cases h2 : r0 = []
    · rw [if_pos h1, if_pos h2, if_pos h2]
      show (adel (aput S.C.rw ks (a, r0)) ks).map (fun p => (p.1, p.2.2)) = _
      rw [adel_aput]; exact adel_map Prod.snd _ _
    · rw [if_pos h1, if_neg h2, if_neg h2]
      exact aput_map Prod.snd _ _ _
  · have h2 : r0.set i l ≠ [] := by
      intro z
      have hl := congrArg List.length z
      rw [List.length_set] at hl
      have : r0 = [] := List.length_eq_zero_iff.mp hl
      subst this
      cases i with
      | zero => simp at ei; exact h1 ei
      | succ i => simp at ei
    rw [ec, if_neg h1, if_neg h2]
    show (aput (aput S.C.rw ks (a, r0)) ks (a, r0.set i l)).map (fun p => (p.1, p.2.2)) = _
    rw [aput_aput]; exact aput_map Prod.snd _ _ _
theorem enterS_rw {S : SC} {x : Hd} {ks : List Str} {a : Nat} {row : List Hd} (c : aget S.C.rw ks = some (a, row) ∨ (aget S.C.rw ks = none ∧ row = [])) : (pu (enterS S x ks a row).C).rw = enterR (pu S.C).rw ks x := by
  unfold enterR
  have : (aget (pu S.C).rw ks).getD [] = row := by
    rw [rw_get]
    rcases c with c | ⟨c, rfl⟩
    · rw [c]; rfl
    · rw [c]; rfl
  rw [this]
  exact aput_map Prod.snd _ _ _
/-! ### the store's own invariant -/
structure StI (ps : List (Str × Str)) (S : SC) : Prop where
  sch : S.sch = .ftup (ps.map encP)
  rc : Reach ps (pu S.C)
  ndp : (keys S.pl).Nodup
  plc : ∀ x ks i, aget S.pl x = some (ks, i) → ∃ a row, aget S.C.rw ks = some (a, row) ∧ row[i]? = some x
  pls : ∀ x ∈ keys S.C.bk, x ∈ keys S.pl
theorem StI.ti {ps : List (Str × Str)} {S : SC} (si : StI ps S) : TI S S.C.ev.length := by
  have p := si.rc.pi
  have hz : ∀ x, x ∈ keys S.pl → x ∈ keys (pu S.C).bk := fun x hx => by
    obtain ⟨⟨ks, i⟩, e⟩ := aget_some.mpr hx
    obtain ⟨a, row, h1, h2⟩ := si.plc x ks i e
    exact tab_mem p.tab ks x ⟨row, rw_at h1, List.mem_of_getElem? h2⟩
  refine ⟨by rw [← rw_keys]; exact p.ri.nd, si.ndp, si.plc, ?_, ?_, fun ks a row e => row_le p (rw_at e)⟩
  · have := p.zr; simpa [pu] using this
  · have := pigeon _ _ si.ndp hz
    rw [len_keys, len_keys] at this
    exact Nat.le_trans this p.zb
theorem StI.ndb {ps : List (Str × Str)} {S : SC} (si : StI ps S) : (keys S.C.bk).Nodup := by rw [← bk_keys]; exact si.rc.pi.ndb
theorem StI.zb {ps : List (Str × Str)} {S : SC} (si : StI ps S) : S.C.bk.length ≤ S.C.ev.length := by have := si.rc.pi.zb; simpa [pu] using this
theorem StI.zt {ps : List (Str × Str)} {S : SC} (si : StI ps S) : S.C.tn.length ≤ S.C.ev.length := si.rc.pi.zt
theorem StI.zq {ps : List (Str × Str)} (sc : Sch ps) {S : SC} (si : StI ps S) {x : Hd} {a : Nat} {q : Pt} (e : aget S.C.bk x = some (a, q)) : q.length ≤ 6 := q_le6 sc si.rc.pi.bok (bk_at e)
/-- the places of a store's own things -/
structure Fix (S S' : SC) : Prop where
  s : S'.s = S.s
  T : S'.T = S.T
  p : S'.p = S.p
  sch : S'.sch = S.sch
  b : S'.C.b = S.C.b
  t : S'.C.t = S.C.t
  e : S'.C.e = S.C.e
  r : S'.C.r = S.C.r
theorem Fix.rfl' (S : SC) : Fix S S := ⟨rfl, rfl, rfl, rfl, rfl, rfl, rfl, rfl⟩
theorem Fix.trans {A B C : SC} (x : Fix A B) (y : Fix B C) : Fix A C := ⟨y.s.trans x.s, y.T.trans x.T, y.p.trans x.p, y.sch.trans x.sch, y.b.trans x.b, y.t.trans x.t, y.e.trans x.e, y.r.trans x.r⟩
theorem Same'.fix {A B : SC} (x : Same' A B) : Fix A B := ⟨x.s, x.T, x.p, x.sch, x.b, x.t, x.e, x.r⟩
theorem sortOk_T (L : List Str) : sortOk (L.map .str) = true := by
  unfold sortOk
  simp only [Bool.and_eq_true, Bool.or_eq_true, List.all_eq_true, List.mem_map, forall_exists_index, and_imp, forall_apply_eq_imp_iff₂]
  exact ⟨⟨⟨fun a _ => rfl, fun a _ b _ => rfl⟩, fun a _ => rfl⟩, .inr fun a _ => ⟨rfl, rfl⟩⟩
theorem sortOk_H (L : List Hd) : sortOk (L.map encH) = true := by
  unfold sortOk
  simp only [Bool.and_eq_true, Bool.or_eq_true, List.all_eq_true, List.mem_map, forall_exists_index, and_imp, forall_apply_eq_imp_iff₂]
  exact ⟨⟨⟨fun a _ => rfl, fun a _ b _ => by simp [encH, encD, D.py, D.pys, PySem.W.alike, PySem.W.alikeAll]⟩, fun a _ => by simp [encH, encD, D.py, D.pys, PyData.depth, PyData.depthAll]⟩, .inl fun a _ => rfl⟩
theorem keys_eD {κ ν : Type} [DecidableEq κ] (ek : κ → D) (ev : ν → D) (l : List (κ × ν)) : (eD ek ev l).map (·.1) = (keys l).map ek := by
  unfold eD keys; rw [List.map_map, List.map_map]; rfl
theorem g_srt {κ ν : Type} [DecidableEq κ] {ek : κ → D} {ev : ν → D} {h : Hq} {l : Nat} {L : List (κ × ν)} (le : κ → κ → Bool) (hle : ∀ a b, le a b = leD (ek a) (ek b)) (e : h[l]? = some (.dic (eD ek ev L))) (ok : sortOk ((keys L).map ek) = true) : gSortedD [.ref l] h = some (.lst (((keys L).mergeSort le).map ek), h) := by
  have : asD h (.ref l) = some (eD ek ev L) := by simp [asD, e]
  unfold gSortedD
  simp only [this]
  rw [keys_eD, if_pos ok, ← List.map_mergeSort (r := le) (s := leD) (f := ek) (fun a _ b _ => hle a b)]
theorem g_srtT {h : Hq} {l : Nat} {ν : Type} {ev : ν → D} {L : List (Str × ν)} (e : h[l]? = some (.dic (eD D.str ev L))) : gSortedD [.ref l] h = some (.lst ((sortT (keys L)).map .str), h) := g_srt leT (fun _ _ => rfl) e (sortOk_T _)
theorem g_srtH {h : Hq} {l : Nat} {ν : Type} {ev : ν → D} {L : List (Hd × ν)} (e : h[l]? = some (.dic (eD encH ev L))) : gSortedD [.ref l] h = some (.lst ((sortH (keys L)).map encH), h) := g_srt leH (fun _ _ => rfl) e (sortOk_H _)
theorem g_srtS {h : Hq} {l : Nat} {ν : Type} {ev : ν → D} {L : List (List Str × ν)} (e : h[l]? = some (.dic (eD encS ev L))) : gSortedD [.ref l] h = some (.lst (((keys L).mergeSort leS).map encS), h) := g_srt leS (fun _ _ => rfl) e (sortOk_sets _)
theorem isi_i {i : Int} {h : Hq} : gIsi [.int i, .ty "int"] h = some (.bl true, h) := by unfold gIsi; dsimp only; rw [if_pos (by decide)]; rfl
theorem isi_ib {i : Int} {h : Hq} : gIsi [.int i, .ty "bool"] h = some (.bl false, h) := by unfold gIsi; dsimp only; rw [if_pos (by decide)]; rfl
theorem isi_s {x : Str} {h : Hq} : gIsi [.str x, .ty "str"] h = some (.bl true, h) := by unfold gIsi; dsimp only; rw [if_pos (by decide)]; rfl
theorem isi_t {xs : List D} {h : Hq} : gIsi [.tup xs, .ty "tuple"] h = some (.bl true, h) := by unfold gIsi; dsimp only; rw [if_pos (by decide)]; rfl
/-- what a deed of a store comes to -/
structure To (ps : List (Str × Str)) (h' : Hq) (S : SC) (F : List (Nat × O)) (es : List Evt) (S' : SC) : Prop where
  w : W h' S' F
  si : StI ps S'
  fx : Fix S S'
  eq : pu S'.C = runE (pu S.C) es
theorem To.trans {ps : List (Str × Str)} {h1 h2 : Hq} {S S1 S2 : SC} {F : List (Nat × O)} {es es' : List Evt} (a : To ps h1 S F es S1) (b : To ps h2 S1 F es' S2) : To ps h2 S F (es ++ es') S2 :=
  ⟨b.w, b.si, a.fx.trans b.fx, by rw [b.eq, a.eq, runE_append]⟩
theorem To.none {ps : List (Str × Str)} {h : Hq} {S : SC} {F : List (Nat × O)} (w : W h S F) (si : StI ps S) : To ps h S F [] S := ⟨w, si, Fix.rfl' S, rfl⟩
theorem pu_ext {P : PS} {C : Cr} (h1 : (pu C).bk = P.bk) (h2 : C.tn = P.tn) (h3 : (pu C).rw = P.rw) (h4 : C.ev = P.ev) : pu C = P := by
  cases P
  simp only [pu, PS.mk.injEq] at *
  exact ⟨h1, h2, h3, h4⟩
theorem StI.of {ps : List (Str × Str)} {S S' : SC} (si : StI ps S) (fx : Fix S S') {es : List Evt} (ok : okEs ps (pu S.C) es) (eq : pu S'.C = runE (pu S.C) es) {k : Nat} (ti : TI S' k) (pls : ∀ x ∈ keys S'.C.bk, x ∈ keys S'.pl) : StI ps S' :=
  ⟨by rw [fx.sch]; exact si.sch, by rw [eq]; exact si.rc.run ok, ti.ndp, ti.plc, pls⟩
theorem To.ev {ps : List (Str × Str)} {h1 : Hq} {S S1 : SC} {F : List (Nat × O)} {es : List Evt} (a : To ps h1 S F es S1) : S1.C.ev = S.C.ev ++ es := by
  have := congrArg PS.ev a.eq
  rw [runE_ev] at this
  exact this
theorem pu_bk (C : Cr) (x : Hd) (a : Nat) (q : Pt) : (aput C.bk x (a, q)).map (fun p => (p.1, p.2.2)) = aput (pu C).bk x q := aput_map Prod.snd C.bk x (a, q)
end Mi
namespace Mi
open PySem L2
structure MC where
  m : Nat
  C : Cr
def mFs (b t r e : Nat) : List (Str × D) := [("book", .ref b), ("turns", .ref t), ("rows", .ref r), ("events", .ref e)]
def MC.fr (M : MC) : List (Nat × O) := [(M.m, .dic (eD D.str id (mFs M.C.b M.C.t M.C.r M.C.e)))]
def WM (h : Hq) (M : MC) (F : List (Nat × O)) : Prop := Own h (M.C.cells ++ (M.fr ++ F))
section
variable {h : Hq} {M : MC} {F : List (Nat × O)} (w : WM h M F)
include w
theorem at_m : h[M.m]? = some (.dic (eD D.str id (mFs M.C.b M.C.t M.C.r M.C.e))) := at_f w (by simp [MC.fr])
theorem m_book : gIx (.ref M.m) (.str "book") h = some (.ref M.C.b, h) := g_ixE (ev := id) ke_T kk_T ne1 (at_m w) rfl
theorem m_turns : gIx (.ref M.m) (.str "turns") h = some (.ref M.C.t, h) := g_ixE (ev := id) ke_T kk_T ne1 (at_m w) rfl
theorem m_rows : gIx (.ref M.m) (.str "rows") h = some (.ref M.C.r, h) := g_ixE (ev := id) ke_T kk_T ne1 (at_m w) rfl
theorem m_events : gIx (.ref M.m) (.str "events") h = some (.ref M.C.e, h) := g_ixE (ev := id) ke_T kk_T ne1 (at_m w) rfl
theorem WM.row {x : List Str} {a : Nat} {ps : List Hd} (ps' : List Hd) (nd : (keys M.C.rw).Nodup) (e : aget M.C.rw x = some (a, ps)) : WM (h.set a (.lst (ps'.map encH))) { M with C := { M.C with rw := aput M.C.rw x (a, ps') } } F := up_row w nd e
theorem WM.pt {x : Hd} {a : Nat} {ps : List (Str × D)} (ps' : List (Str × D)) (nd : (keys M.C.bk).Nodup) (e : aget M.C.bk x = some (a, ps)) : WM (h.set a (.dic (eD D.str id ps'))) { M with C := { M.C with bk := aput M.C.bk x (a, ps') } } F := up_pt w nd e
theorem WM.tn (tn' : List (Int × Int)) : WM (h.set M.C.t (.dic (eD D.int D.int tn'))) { M with C := { M.C with tn := tn' } } F := up_t w tn'
theorem WM.ev (ev' : List Evt) : WM (h.set M.C.e (.lst (ev'.map encE))) { M with C := { M.C with ev := ev' } } F := up_e w ev'
theorem WM.bnew {x : Hd} (hn : x ∉ keys M.C.bk) : WM (((h ++ [O.dic []]) : Hq).set M.C.b (.dic (eD encH rfD (aput M.C.bk x (h.length, []))))) { M with C := { M.C with bk := aput M.C.bk x (h.length, []) } } F := up_b_new w hn
theorem WM.rnew {x : List Str} (hn : x ∉ keys M.C.rw) : WM (((h ++ [O.lst []]) : Hq).set M.C.r (.dic (eD encS rfD (aput M.C.rw x (h.length, []))))) { M with C := { M.C with rw := aput M.C.rw x (h.length, []) } } F := up_r_new w hn
theorem WM.bdel (x : Hd) : WM (h.set M.C.b (.dic (eD encH rfD (adel M.C.bk x)))) { M with C := { M.C with bk := adel M.C.bk x } } F := up_b_del w x
theorem WM.rdel (x : List Str) : WM (h.set M.C.r (.dic (eD encS rfD (adel M.C.rw x)))) { M with C := { M.C with rw := adel M.C.rw x } } F := up_r_del w x
theorem WM.more (g : Hq) : WM (h ++ g) M F := Own.grow w g
end
structure RwM (M : MC) (n : Nat) : Prop where
  ndr : (keys M.C.rw).Nodup
  zr : M.C.rw.length ≤ n
  zw : ∀ ks a row, aget M.C.rw ks = some (a, row) → row.length ≤ n
structure SameM (M M' : MC) : Prop where
  m : M'.m = M.m
  b : M'.C.b = M.C.b
  t : M'.C.t = M.C.t
  e : M'.C.e = M.C.e
  r : M'.C.r = M.C.r
  bk : M'.C.bk = M.C.bk
  tn : M'.C.tn = M.C.tn
  ev : M'.C.ev = M.C.ev
theorem SameM.trans {A B C : MC} (x : SameM A B) (y : SameM B C) : SameM A C := ⟨y.m.trans x.m, y.b.trans x.b, y.t.trans x.t, y.e.trans x.e, y.r.trans x.r, y.bk.trans x.bk, y.tn.trans x.tn, y.ev.trans x.ev⟩
theorem SameM.rfl' (M : MC) : SameM M M := ⟨rfl, rfl, rfl, rfl, rfl, rfl, rfl, rfl⟩
theorem g_inRow {h : Hq} {a : Nat} {row : List Hd} {x : Hd} (e : h[a]? = some (.lst (row.map encH))) : gIn (encH x) (.ref a) h = some (.bl (decide (x ∈ row)), h) := by
  rw [g_inR e]
  exact g_inL encH_tx encH_inj (by rw [encH_dp]; decide)
def pyH (x : Hd) : PyData := .tuple [.int x.1, .int x.2]
theorem py_row (row : List Hd) : (D.lst (row.map encH)).py = some (.list (row.map pyH)) := by
  have t : D.txs (row.map encH) = true := txs_map encH_tx row
  rw [D.py, pys_map t, Option.map_some, List.map_map]; rfl
theorem shaped_row (row : List Hd) : SeqAt.shaped (.list (row.map pyH)) = true := by
  have h1 : PyData.canLayAll0 (row.map pyH) = true := by
    induction row with
    | nil => rfl
    | cons x l ih => simp only [List.map_cons, PyData.canLayAll0, Bool.and_eq_true]; exact ⟨by simp [pyH, PyData.canLay0, PyData.canLayAll0], ih⟩
  have h2 : PyData.depthAll (row.map pyH) ≤ 1 := by
    clear h1
    induction row with
    | nil => simp [PyData.depthAll]
    | cons x l ih => simp only [List.map_cons, PyData.depthAll]; exact Nat.max_le.mpr ⟨by simp [pyH, PyData.depth, PyData.depthAll], ih⟩
  unfold SeqAt.shaped
  rw [Bool.and_eq_true]
  refine ⟨by rw [PyData.canLay0]; exact h1, decide_eq_true ?_⟩
  have : (PyData.list (row.map pyH)).depth = PyData.depthAll (row.map pyH) + 1 := by simp only [PyData.depth]
  omega
theorem eqv_pyH {a b : Hd} (h : PyData.eqv (pyH a) (pyH b) = true) : a = b := by
  obtain ⟨a1, a2⟩ := a; obtain ⟨b1, b2⟩ := b
  simpa [pyH, PyData.eqv, PyData.eqvAll] using h
theorem g_index {h : Hq} {a : Nat} {row : List Hd} {x : Hd} (e : h[a]? = some (.lst (row.map encH))) (hx : x ∈ row) : ∃ j, gIndex (.ref a) [encH x] h = some (.int (j : Nat), h) ∧ row[j]? = some x := by
  have n1 : nz h (.ref a) = .lst (row.map encH) := by simp [nz, e]
  have n2 : nz h (encH x) = encH x := rfl
  have ps : SeqAt.shaped (pyH x) = true := by simp [pyH, SeqAt.shaped, PyData.canLay0, PyData.canLayAll0, PyData.depth, PyData.depthAll]
  have hs : ((row.map pyH).findIdx? fun z => PyData.eqv z (pyH x)).isSome = true := by
    rw [List.findIdx?_isSome, List.any_map]
    exact List.any_eq_true.mpr ⟨x, hx, by simp [pyH, PyData.eqv, PyData.eqvAll]⟩
  obtain ⟨j, hj⟩ := Option.isSome_iff_exists.mp hs
  refine ⟨j, ?_, ?_⟩
  · unfold gIndex
    dsimp only
    rw [n1, n2, py_row]
    show (if SeqAt.shaped (.list (row.map pyH)) = true ∧ SeqAt.shaped (pyH x) = true then ((row.map pyH).findIdx? fun z => PyData.eqv z (pyH x)).map fun j => (D.int (j : Nat), h) else none) = _
    rw [if_pos ⟨shaped_row row, ps⟩, hj]; rfl
  · obtain ⟨h1, h2, _⟩ := List.findIdx?_eq_some_iff_getElem.mp hj
    have h1' : j < row.length := by simpa using h1
    rw [List.getElem_map] at h2
    rw [List.getElem?_eq_getElem h1', eqv_pyH h2]
theorem g_eqNil {h : Hq} {a : Nat} {row : List Hd} (e : h[a]? = some (.lst (row.map encH))) : gEq (.ref a) (.lst []) h = some (.bl (decide (row = [])), h) := by
  have n1 : nz h (.ref a) = .lst (row.map encH) := by simp [nz, e]
  have n2 : nz h (.lst []) = .lst [] := rfl
  have e0 : gEq (.ref a) (.lst []) h = gEq (.lst (row.map encH)) (.lst []) h := by
    unfold gEq eqH; rw [n1, nz_of (d := .lst (row.map encH)) (by rw [py_row]; rfl)]
  have t : D.txs (row.map encH) = true := txs_map encH_tx row
  rw [e0, g_eq (by rw [py_row]; rfl) rfl (by simp [D.dp, D.dps]), eqB_nil t]
  simp
/-! ### what is known of a model -/
structure FixM (M M' : MC) : Prop where
  m : M'.m = M.m
  b : M'.C.b = M.C.b
  t : M'.C.t = M.C.t
  e : M'.C.e = M.C.e
  r : M'.C.r = M.C.r
theorem FixM.rfl' (M : MC) : FixM M M := ⟨rfl, rfl, rfl, rfl, rfl⟩
theorem FixM.trans {A B C : MC} (x : FixM A B) (y : FixM B C) : FixM A C := ⟨y.m.trans x.m, y.b.trans x.b, y.t.trans x.t, y.e.trans x.e, y.r.trans x.r⟩
structure ToM (ps : List (Str × Str)) (h' : Hq) (M : MC) (F : List (Nat × O)) (es : List Evt) (M' : MC) : Prop where
  w : WM h' M' F
  rc : Reach ps (pu M'.C)
  fx : FixM M M'
  eq : pu M'.C = runE (pu M.C) es
theorem ToM.trans {ps : List (Str × Str)} {h1 h2 : Hq} {S S1 S2 : MC} {F : List (Nat × O)} {es es' : List Evt} (a : ToM ps h1 S F es S1) (b : ToM ps h2 S1 F es' S2) : ToM ps h2 S F (es ++ es') S2 :=
  ⟨b.w, b.rc, a.fx.trans b.fx, by rw [b.eq, a.eq, runE_append]⟩
theorem ToM.none {ps : List (Str × Str)} {h : Hq} {S : MC} {F : List (Nat × O)} (w : WM h S F) (si : Reach ps (pu S.C)) : ToM ps h S F [] S := ⟨w, si, FixM.rfl' S, rfl⟩
theorem ToM.of {ps : List (Str × Str)} {h' : Hq} {M M' : MC} {F : List (Nat × O)} {es : List Evt} (rc : Reach ps (pu M.C)) (w : WM h' M' F) (fx : FixM M M') (ok : okEs ps (pu M.C) es) (eq : pu M'.C = runE (pu M.C) es) : ToM ps h' M F es M' := ⟨w, by rw [eq]; exact rc.run ok, fx, eq⟩
theorem ToM.ev {ps : List (Str × Str)} {h1 : Hq} {S S1 : MC} {F : List (Nat × O)} {es : List Evt} (a : ToM ps h1 S F es S1) : S1.C.ev = S.C.ev ++ es := by
  have := congrArg PS.ev a.eq
  rw [runE_ev] at this
  exact this
theorem rwM_of {ps : List (Str × Str)} {M : MC} (rc : Reach ps (pu M.C)) : RwM M M.C.ev.length := by
  have p := rc.pi
  refine ⟨by rw [← rw_keys]; exact p.ri.nd, ?_, fun ks a row e => row_le p (rw_at e)⟩
  have := p.zr; simpa [pu] using this
theorem ndb_of {ps : List (Str × Str)} {M : MC} (rc : Reach ps (pu M.C)) : (keys M.C.bk).Nodup := by rw [← bk_keys]; exact rc.pi.ndb
theorem zb_of {ps : List (Str × Str)} {M : MC} (rc : Reach ps (pu M.C)) : M.C.bk.length ≤ M.C.ev.length := by have := rc.pi.zb; simpa [pu] using this
theorem zt_of {ps : List (Str × Str)} {M : MC} (rc : Reach ps (pu M.C)) : M.C.tn.length ≤ M.C.ev.length := rc.pi.zt
theorem len_unl {ps : List (Str × Str)} (sc : Sch ps) {P : PS} (p : PI ps P) (x : Hd) : ∀ L : List Hd, (∀ z ∈ L, z ∈ keys P.bk) → (L.flatMap (unl1 P x)).length ≤ 6 * L.length := by
  intro L
  induction L with
  | nil => simp
  | cons z L ih =>
    intro k
    rw [List.flatMap_cons, List.length_append, List.length_cons]
    have h2 : (unl1 P x z).length ≤ 6 := by
      obtain ⟨q', e'⟩ := aget_some.mpr (k z (by simp))
      unfold unl1 setsOf kindsP
      rw [List.length_map, getQ_of e']
      refine Nat.le_trans (List.length_filter_le _ _) ?_
      rw [sortT_len, len_keys]; exact q_le6 sc p.bok e'
    have := ih fun z hz => k z (List.mem_cons_of_mem _ hz)
    omega
theorem keys_take {P : PS} {x : Hd} {n : Str} : keys (runE P (takeEs P x n)).bk = keys P.bk := by
  unfold takeEs
  split
  · rfl
  · rename_i q e
    have hx : x ∈ keys P.bk := aget_some.mp ⟨_, e⟩
    split
    · rfl
    · show keys (aput P.bk x _) = _; rw [keys_aput, if_pos hx]
theorem len_dropB {B : List (Hd × Pt)} {x : Hd} (hx : x ∈ keys B) : (dropB B x).length ≤ B.length := by
  unfold dropB
  refine Nat.le_trans (len_adel _ _) ?_
  unfold clrB
  rw [List.length_map, ← len_keys, keys_aput, if_pos hx, len_keys]
  exact Nat.le_refl _
end Mi
namespace Mi
open PySem L2
/-! ### questions -/
inductive Qs where
  | all
  | has (n : Str)
  | is (n : Str) (w : D)
  | over (n : Str) (i : Int)
  | leads (n : Str) (q : Qs)
  | not (q : Qs)
  | and (p q : Qs)
  | or (p q : Qs)
def Qs.enc : Qs → D
  | .all => .tup [.str "all"]
  | .has n => .tup [.str "has", .str n]
  | .is n w => .tup [.str "is", .str n, w]
  | .over n i => .tup [.str "over", .str n, .int i]
  | .leads n q => .tup [.str "leads", .str n, q.enc]
  | .not q => .tup [.str "not", q.enc]
  | .and p q => .tup [.str "and", p.enc, q.enc]
  | .or p q => .tup [.str "or", p.enc, q.enc]
def Qs.dq : Qs → Nat
  | .leads _ q => q.dq + 1
  | .not q => q.dq + 1
  | .and p q => max p.dq q.dq + 1
  | .or p q => max p.dq q.dq + 1
  | _ => 1
def Qs.names : Qs → List Str
  | .all => []
  | .has n => [n]
  | .is n _ => [n]
  | .over n _ => [n]
  | .leads n q => n :: q.names
  | .not q => q.names
  | .and p q => p.names ++ q.names
  | .or p q => p.names ++ q.names
@[simp] theorem nw_all_has : (("all" : Str) = "has") = False := eq_false (by decide)
@[simp] theorem nw_all_is : (("all" : Str) = "is") = False := eq_false (by decide)
@[simp] theorem nw_all_over : (("all" : Str) = "over") = False := eq_false (by decide)
@[simp] theorem nw_all_leads : (("all" : Str) = "leads") = False := eq_false (by decide)
@[simp] theorem nw_all_not : (("all" : Str) = "not") = False := eq_false (by decide)
@[simp] theorem nw_all_and : (("all" : Str) = "and") = False := eq_false (by decide)
@[simp] theorem nw_all_or : (("all" : Str) = "or") = False := eq_false (by decide)
@[simp] theorem nw_has_all : (("has" : Str) = "all") = False := eq_false (by decide)
@[simp] theorem nw_has_is : (("has" : Str) = "is") = False := eq_false (by decide)
@[simp] theorem nw_has_over : (("has" : Str) = "over") = False := eq_false (by decide)
@[simp] theorem nw_has_leads : (("has" : Str) = "leads") = False := eq_false (by decide)
@[simp] theorem nw_has_not : (("has" : Str) = "not") = False := eq_false (by decide)
@[simp] theorem nw_has_and : (("has" : Str) = "and") = False := eq_false (by decide)
@[simp] theorem nw_has_or : (("has" : Str) = "or") = False := eq_false (by decide)
@[simp] theorem nw_is_all : (("is" : Str) = "all") = False := eq_false (by decide)
@[simp] theorem nw_is_has : (("is" : Str) = "has") = False := eq_false (by decide)
@[simp] theorem nw_is_over : (("is" : Str) = "over") = False := eq_false (by decide)
@[simp] theorem nw_is_leads : (("is" : Str) = "leads") = False := eq_false (by decide)
@[simp] theorem nw_is_not : (("is" : Str) = "not") = False := eq_false (by decide)
@[simp] theorem nw_is_and : (("is" : Str) = "and") = False := eq_false (by decide)
@[simp] theorem nw_is_or : (("is" : Str) = "or") = False := eq_false (by decide)
@[simp] theorem nw_over_all : (("over" : Str) = "all") = False := eq_false (by decide)
@[simp] theorem nw_over_has : (("over" : Str) = "has") = False := eq_false (by decide)
@[simp] theorem nw_over_is : (("over" : Str) = "is") = False := eq_false (by decide)
@[simp] theorem nw_over_leads : (("over" : Str) = "leads") = False := eq_false (by decide)
@[simp] theorem nw_over_not : (("over" : Str) = "not") = False := eq_false (by decide)
@[simp] theorem nw_over_and : (("over" : Str) = "and") = False := eq_false (by decide)
@[simp] theorem nw_over_or : (("over" : Str) = "or") = False := eq_false (by decide)
@[simp] theorem nw_leads_all : (("leads" : Str) = "all") = False := eq_false (by decide)
@[simp] theorem nw_leads_has : (("leads" : Str) = "has") = False := eq_false (by decide)
@[simp] theorem nw_leads_is : (("leads" : Str) = "is") = False := eq_false (by decide)
@[simp] theorem nw_leads_over : (("leads" : Str) = "over") = False := eq_false (by decide)
@[simp] theorem nw_leads_not : (("leads" : Str) = "not") = False := eq_false (by decide)
@[simp] theorem nw_leads_and : (("leads" : Str) = "and") = False := eq_false (by decide)
@[simp] theorem nw_leads_or : (("leads" : Str) = "or") = False := eq_false (by decide)
@[simp] theorem nw_not_all : (("not" : Str) = "all") = False := eq_false (by decide)
@[simp] theorem nw_not_has : (("not" : Str) = "has") = False := eq_false (by decide)
@[simp] theorem nw_not_is : (("not" : Str) = "is") = False := eq_false (by decide)
@[simp] theorem nw_not_over : (("not" : Str) = "over") = False := eq_false (by decide)
@[simp] theorem nw_not_leads : (("not" : Str) = "leads") = False := eq_false (by decide)
@[simp] theorem nw_not_and : (("not" : Str) = "and") = False := eq_false (by decide)
@[simp] theorem nw_not_or : (("not" : Str) = "or") = False := eq_false (by decide)
@[simp] theorem nw_and_all : (("and" : Str) = "all") = False := eq_false (by decide)
@[simp] theorem nw_and_has : (("and" : Str) = "has") = False := eq_false (by decide)
@[simp] theorem nw_and_is : (("and" : Str) = "is") = False := eq_false (by decide)
@[simp] theorem nw_and_over : (("and" : Str) = "over") = False := eq_false (by decide)
@[simp] theorem nw_and_leads : (("and" : Str) = "leads") = False := eq_false (by decide)
@[simp] theorem nw_and_not : (("and" : Str) = "not") = False := eq_false (by decide)
@[simp] theorem nw_and_or : (("and" : Str) = "or") = False := eq_false (by decide)
@[simp] theorem nw_or_all : (("or" : Str) = "all") = False := eq_false (by decide)
@[simp] theorem nw_or_has : (("or" : Str) = "has") = False := eq_false (by decide)
@[simp] theorem nw_or_is : (("or" : Str) = "is") = False := eq_false (by decide)
@[simp] theorem nw_or_over : (("or" : Str) = "over") = False := eq_false (by decide)
@[simp] theorem nw_or_leads : (("or" : Str) = "leads") = False := eq_false (by decide)
@[simp] theorem nw_or_not : (("or" : Str) = "not") = False := eq_false (by decide)
@[simp] theorem nw_or_and : (("or" : Str) = "and") = False := eq_false (by decide)
@[simp] theorem ns_mark_number : (("mark" : Str) = "number") = False := eq_false (by decide)
@[simp] theorem ns_mark_text : (("mark" : Str) = "text") = False := eq_false (by decide)
@[simp] theorem ns_mark_link : (("mark" : Str) = "link") = False := eq_false (by decide)
@[simp] theorem ns_mark_tree : (("mark" : Str) = "tree") = False := eq_false (by decide)
@[simp] theorem ns_number_mark : (("number" : Str) = "mark") = False := eq_false (by decide)
@[simp] theorem ns_number_text : (("number" : Str) = "text") = False := eq_false (by decide)
@[simp] theorem ns_number_link : (("number" : Str) = "link") = False := eq_false (by decide)
@[simp] theorem ns_number_tree : (("number" : Str) = "tree") = False := eq_false (by decide)
@[simp] theorem ns_text_mark : (("text" : Str) = "mark") = False := eq_false (by decide)
@[simp] theorem ns_text_number : (("text" : Str) = "number") = False := eq_false (by decide)
@[simp] theorem ns_text_link : (("text" : Str) = "link") = False := eq_false (by decide)
@[simp] theorem ns_text_tree : (("text" : Str) = "tree") = False := eq_false (by decide)
@[simp] theorem ns_link_mark : (("link" : Str) = "mark") = False := eq_false (by decide)
@[simp] theorem ns_link_number : (("link" : Str) = "number") = False := eq_false (by decide)
@[simp] theorem ns_link_text : (("link" : Str) = "text") = False := eq_false (by decide)
@[simp] theorem ns_link_tree : (("link" : Str) = "tree") = False := eq_false (by decide)
@[simp] theorem ns_tree_mark : (("tree" : Str) = "mark") = False := eq_false (by decide)
@[simp] theorem ns_tree_number : (("tree" : Str) = "number") = False := eq_false (by decide)
@[simp] theorem ns_tree_text : (("tree" : Str) = "text") = False := eq_false (by decide)
@[simp] theorem ns_tree_link : (("tree" : Str) = "link") = False := eq_false (by decide)
theorem g_ix0 {h : Hq} {a : D} {xs : List D} : gIx (.tup (a :: xs)) (.int 0) h = some (a, h) := g_ixT (i := 0) rfl
theorem g_ix1 {h : Hq} {a b : D} {xs : List D} : gIx (.tup (a :: b :: xs)) (.int 1) h = some (b, h) := g_ixT (i := 1) rfl
theorem g_ix2 {h : Hq} {a b c : D} {xs : List D} : gIx (.tup (a :: b :: c :: xs)) (.int 2) h = some (c, h) := g_ixT (i := 2) rfl
theorem il0 {h : Hq} {a : D} {xs : List D} : gIx (.lst (a :: xs)) (.int 0) h = some (a, h) := g_ixL (i := 0) rfl
theorem il1 {h : Hq} {a b : D} {xs : List D} : gIx (.lst (a :: b :: xs)) (.int 1) h = some (b, h) := g_ixL (i := 1) rfl
def memS (x : Str) (L : List Str) : Bool := decide (x ∈ L)
theorem in3 {h : Hq} {x a b c : Str} : gIn (.str x) (.tup [.str a, .str b, .str c]) h = some (.bl (memS x [a, b, c]), h) := g_inS (L := [a, b, c])
theorem in2 {h : Hq} {x a b : Str} : gIn (.str x) (.tup [.str a, .str b]) h = some (.bl (memS x [a, b]), h) := g_inS (L := [a, b])
def Qs.lets (B : List (Hd × Pt)) : Qs → Pt → Bool
  | .all, _ => true
  | .has n, q => (aget q n).isSome
  | .is n w, q => (match aget q n with
    | some v => eqB v w
    | none => false)
  | .over n i, q => (match aget q n with
    | some (.int j) => decide (i < j)
    | _ => false)
  | .leads n r, q => (match (aget q n).bind hdOf with
    | some y => r.lets B ((aget B y).getD [])
    | none => false)
  | .not r, q => !r.lets B q
  | .and r s, q => r.lets B q && s.lets B q
  | .or r s, q => r.lets B q || s.lets B q
def QOk (ps : List (Str × Str)) : Qs → Prop
  | .all => True
  | .has n => ∃ so, (n, so) ∈ ps
  | .is n w => ∃ so, (n, so) ∈ ps ∧ WOk (fun _ => True) so w
  | .over n _ => (n, ("number" : Str)) ∈ ps
  | .leads n r => (∃ so, (n, so) ∈ ps ∧ lead so = true) ∧ QOk ps r
  | .not r => QOk ps r
  | .and r s => QOk ps r ∧ QOk ps s
  | .or r s => QOk ps r ∧ QOk ps s
theorem Qs.dq_pos : ∀ q : Qs, 1 ≤ q.dq
  | .all => Nat.le_refl 1 | .has _ => Nat.le_refl 1 | .is _ _ => Nat.le_refl 1 | .over _ _ => Nat.le_refl 1
  | .leads _ _ => Nat.le_add_left _ _ | .not _ => Nat.le_add_left _ _ | .and _ _ => Nat.le_add_left _ _ | .or _ _ => Nat.le_add_left _ _
def foundP (P : PS) (q : Qs) : List Hd := (sortH (keys P.bk)).filter fun x => q.lets P.bk (getQ P x)
def tabsP (P : PS) : List (List Str × List Hd) := ((keys P.rw).mergeSort leS).map fun ks => (ks, (aget P.rw ks).getD [])
def encTab (p : List Str × List Hd) : D := .tup [encS p.1, .tup (p.2.map encH)]
def partsP (P : PS) (x : Hd) : List (Str × D) := (kindsP P x).map fun n => (n, (aget (getQ P x) n).getD .non)
def encPt (p : Str × D) : D := .tup [.str p.1, p.2]
theorem WOk.num {ok : Hd → Prop} {v : D} (h : WOk ok "number" v) : ∃ i, v = .int i := by
  rcases h with ⟨z, _⟩ | ⟨_, i, e, _⟩ | ⟨z, _⟩ | ⟨z | z, _⟩
  · exact absurd z (by decide)
  · exact ⟨i, e⟩
  · exact absurd z (by decide)
  · exact absurd z (by decide)
  · exact absurd z (by decide)
theorem WOk.led {ok : Hd → Prop} {so : Str} {v : D} (h : WOk ok so v) (hl : lead so = true) : v = .non ∨ ∃ y, v = encH y ∧ ok y := by
  rcases h with ⟨z, _⟩ | ⟨z, _⟩ | ⟨z, _⟩ | ⟨_, z | ⟨y, z, _, _, k⟩⟩
  · rw [z] at hl; exact absurd hl (by decide)
  · rw [z] at hl; exact absurd hl (by decide)
  · rw [z] at hl; exact absurd hl (by decide)
  · exact .inl z
  · exact .inr ⟨y, z, k⟩
end Mi
namespace Mi
open PySem L2
/-! ### comparing what is told -/
theorem g_ne_same {h : Hq} {x : D} (t : x.tx = true) (d : x.dp ≤ 64) : gNe x x h = some (.bl false, h) := by
  rw [g_ne (tx_isSome t) (tx_isSome t) (Nat.le_trans (Nat.min_le_left _ _) d), eqB_refl (tx_isSome t)]; rfl
theorem g_eq_same {h : Hq} {x : D} (t : x.tx = true) (d : x.dp ≤ 64) : gEq x x h = some (.bl true, h) := by
  rw [g_eq (tx_isSome t) (tx_isSome t) (Nat.le_trans (Nat.min_le_left _ _) d), eqB_refl (tx_isSome t)]
theorem dps_leM {α : Type} {enc : α → D} {k : Nat} : ∀ {L : List α}, (∀ a ∈ L, (enc a).dp ≤ k) → D.dps (L.map enc) ≤ k
  | [], _ => by simp [D.dps]
  | a :: L, h => by
    simp only [List.map_cons, D.dps]
    exact Nat.max_le.mpr ⟨h a List.mem_cons_self, dps_leM fun b hb => h b (List.mem_cons_of_mem _ hb)⟩
theorem dp_tupm {α : Type} {enc : α → D} {k : Nat} {L : List α} (h : ∀ a ∈ L, (enc a).dp ≤ k) : (D.tup (L.map enc)).dp ≤ k + 1 := by
  simp only [D.dp]; have := dps_leM h; omega
theorem txs_mem {α : Type} {enc : α → D} : ∀ {L : List α}, (∀ a ∈ L, (enc a).tx = true) → D.txs (L.map enc) = true
  | [], _ => rfl
  | a :: L, h => by
    simp only [List.map_cons, D.txs, Bool.and_eq_true]
    exact ⟨h a List.mem_cons_self, txs_mem fun b hb => h b (List.mem_cons_of_mem _ hb)⟩
theorem tx_tupm {α : Type} {enc : α → D} {L : List α} (h : ∀ a ∈ L, (enc a).tx = true) : (D.tup (L.map enc)).tx = true := by
  simp only [D.tx]; exact txs_mem h
/-- plain, and not deep -/
def Pl (k : Nat) (d : D) : Prop := d.tx = true ∧ d.dp ≤ k
theorem Pl.mono {k k' : Nat} {d : D} (h : Pl k d) (l : k ≤ k') : Pl k' d := ⟨h.1, Nat.le_trans h.2 l⟩
theorem pl_tupm {α : Type} {enc : α → D} {k : Nat} {L : List α} (h : ∀ a ∈ L, Pl k (enc a)) : Pl (k + 1) (.tup (L.map enc)) := ⟨tx_tupm fun a ha => (h a ha).1, dp_tupm fun a ha => (h a ha).2⟩
theorem pl_tup {k : Nat} {L : List D} (h : ∀ a ∈ L, Pl k a) : Pl (k + 1) (.tup L) := by
  have := pl_tupm (enc := fun d : D => d) (L := L) h
  simpa using this
theorem pl_lstm {α : Type} {enc : α → D} {k : Nat} {L : List α} (h : ∀ a ∈ L, Pl k (enc a)) : Pl (k + 1) (.lst (L.map enc)) := by
  refine ⟨by simp only [D.tx]; exact txs_mem fun a ha => (h a ha).1, ?_⟩
  simp only [D.dp]; have := dps_leM (enc := enc) (L := L) fun a ha => (h a ha).2; omega
theorem pl_H (x : Hd) : Pl 1 (encH x) := ⟨encH_tx x, by rw [encH_dp]; exact Nat.le_refl _⟩
theorem pl_Hs (L : List Hd) : Pl 2 (.tup (L.map encH)) := pl_tupm fun a _ => pl_H a
theorem pl_S (ks : List Str) : Pl 1 (encS ks) := pl_tupm (k := 0) fun a _ => ⟨rfl, by simp [D.dp]⟩
theorem pl_int (i : Int) : Pl 0 (.int i) := ⟨rfl, by simp [D.dp]⟩
theorem pl_str (x : Str) : Pl 0 (.str x) := ⟨rfl, by simp [D.dp]⟩
theorem pl_non : Pl 0 .non := ⟨rfl, by simp [D.dp]⟩
theorem pl_tab (p : List Str × List Hd) : Pl 3 (encTab p) := pl_tup (k := 2) fun a ha => by
  have : a = encS p.1 ∨ a = .tup (p.2.map encH) := by simpa using ha
  rcases this with rfl | rfl
  · exact (pl_S _).mono (by omega)
  · exact pl_Hs _
theorem pl_tabs (L : List (List Str × List Hd)) : Pl 4 (.tup (L.map encTab)) := pl_tupm fun a _ => pl_tab a
theorem Pl.ne {k : Nat} {d : D} (p : Pl k d) (h : Hq) (l : k ≤ 64) : gNe d d h = some (.bl false, h) := g_ne_same p.1 (Nat.le_trans p.2 l)
theorem Pl.eq {k : Nat} {d : D} (p : Pl k d) (h : Hq) (l : k ≤ 64) : gEq d d h = some (.bl true, h) := g_eq_same p.1 (Nat.le_trans p.2 l)
def EvPl : Evt → Prop
  | .new _ => True
  | .put _ _ v => Pl 1 v
  | .set _ _ o v => Pl 1 o ∧ Pl 1 v
  | .take _ _ o => Pl 1 o
  | .drop _ => True
theorem pl_ev {e : Evt} (h : EvPl e) : Pl 2 (encE e) := by
  cases e with
  | new x =>
    refine pl_tup fun a ha => ?_
    have : a = .str "new" ∨ a = encH x := by simpa using ha
    rcases this with rfl | rfl
    · exact (pl_str _).mono (by omega)
    · exact pl_H x
  | put x n v =>
    refine pl_tup fun a ha => ?_
    have : a = .str "put" ∨ a = encH x ∨ a = .str n ∨ a = v := by simpa using ha
    rcases this with rfl | rfl | rfl | rfl
    · exact (pl_str _).mono (by omega)
    · exact pl_H x
    · exact (pl_str _).mono (by omega)
    · exact h
  | set x n o v =>
    refine pl_tup fun a ha => ?_
    have : a = .str "set" ∨ a = encH x ∨ a = .str n ∨ a = o ∨ a = v := by simpa using ha
    rcases this with rfl | rfl | rfl | rfl | rfl
    · exact (pl_str _).mono (by omega)
    · exact pl_H x
    · exact (pl_str _).mono (by omega)
    · exact h.1
    · exact h.2
  | take x n o =>
    refine pl_tup fun a ha => ?_
    have : a = .str "take" ∨ a = encH x ∨ a = .str n ∨ a = o := by simpa using ha
    rcases this with rfl | rfl | rfl | rfl
    · exact (pl_str _).mono (by omega)
    · exact pl_H x
    · exact (pl_str _).mono (by omega)
    · exact h
  | drop x =>
    refine pl_tup fun a ha => ?_
    have : a = .str "drop" ∨ a = encH x := by simpa using ha
    rcases this with rfl | rfl
    · exact (pl_str _).mono (by omega)
    · exact pl_H x
theorem WOk.pl {ok : Hd → Prop} {so : Str} {v : D} (h : WOk ok so v) : Pl 1 v := h.tx
theorem Reach.evs {ps : List (Str × Str)} {P : PS} (r : Reach ps P) : ∀ e ∈ P.ev, EvPl e := by
  refine Reach.ind (C := fun P => ∀ e ∈ P.ev, EvPl e) (fun e h => by cases h) (fun P e rP c o => ?_) r
  rw [stepE_ev]
  intro e' he
  rcases List.mem_append.mp he with z | z
  · exact c e' z
  · have : e' = e := by simpa using z
    subst this
    have p := rP.pi
    cases e' with
    | new x => trivial
    | put x n v => obtain ⟨q, so, _, _, _, hv, _⟩ := o; exact hv.pl
    | set x n old v =>
      obtain ⟨q, so, e1, e2, _, _, hv, _⟩ := o
      obtain ⟨so', _, ho⟩ := p.bok.wok x q e1 n old e2
      exact ⟨ho.pl, hv.pl⟩
    | take x n old =>
      obtain ⟨q, e1, e2⟩ := o
      obtain ⟨so', _, ho⟩ := p.bok.wok x q e1 n old e2
      exact ho.pl
    | drop x => trivial
theorem pl_evs {L : List Evt} (h : ∀ e ∈ L, EvPl e) : Pl 3 (.tup (L.map encE)) := pl_tupm fun a ha => pl_ev (h a ha)
/-! ### in rows of handles -/
theorem in_Hs {h : Hq} {v : D} (hv : Pl 1 v) (L : List Hd) : gIn v (.tup (L.map encH)) h = some (.bl (L.any fun y => eqB (encH y) v), h) := by
  unfold gIn
  rw [in_tup hv.1 (txs_map encH_tx L) (by have := hv.2; omega), Option.map_some, List.any_map]; rfl
theorem any_hd {ok : Hd → Prop} {so : Str} {v : D} (hv : WOk ok so v) (L : List Hd) : (L.any fun y => eqB (encH y) v) = (match hdOf v with
    | some y => decide (y ∈ L)
    | none => false) := by
  have key : ∀ y, eqB (encH y) v = decide (hdOf v = some y) := fun y => by
    by_cases z : hdOf v = some y
    · rw [decide_eq_true z, hdOf_some z, eqB_refl (tx_isSome (encH_tx y))]
    · rw [decide_eq_false z]
      cases e : eqB (encH y) v with
      | false => rfl
      | true =>
        have := (eqB_iff (encH_tx y) hv.tx.1).mp e
        rw [← this] at z
        exact absurd (hdOf_enc y) z
  rw [show (fun y => eqB (encH y) v) = fun y => decide (hdOf v = some y) from funext key]
  cases hd : hdOf v with
  | none => simp
  | some z =>
    have : (fun y => decide (some z = some y)) = fun y => decide (z = y) := by funext y; simp
    rw [this]
    induction L with
    | nil => simp
    | cons a L ih => rw [List.any_cons, ih]; by_cases e : z = a <;> simp [e]
theorem mem_found {P : PS} {q : Qs} {x : Hd} : x ∈ foundP P q ↔ x ∈ keys P.bk ∧ q.lets P.bk (getQ P x) = true := by
  unfold foundP; rw [List.mem_filter, mem_sortH]
def linkP (P : PS) (n : Str) (x : Hd) : List Hd := (sortH (keys P.bk)).filter fun y => decide (hdOf (stepB P.bk n y) = some x)
end Mi
namespace Mi
open PySem L2
/-! ### deeds -/
inductive Act where
  | add (n : Str) (i : Int)
  | put (n : Str) (w : D)
  | take (n : Str)
  | copy (n m : Str)
  | drop
def Act.enc : Act → D
  | .add n i => .tup [.str "add", .str n, .int i]
  | .put n w => .tup [.str "put", .str n, w]
  | .take n => .tup [.str "take", .str n]
  | .copy n m => .tup [.str "copy", .str n, .str m]
  | .drop => .tup [.str "drop"]
def Act.ok : Act → Bool
  | .put _ w => w.tx
  | _ => true
theorem Act.tx {a : Act} (h : a.ok = true) : a.enc.tx = true := by
  cases a <;> simp_all [Act.enc, Act.ok, D.tx, D.txs]
def Act.isDrop : Act → Bool
  | .drop => true
  | _ => false
/-- what it reads besides its question, what it writes -/
def Act.rd : Act → List Str
  | .add n _ => [n]
  | .copy n _ => [n]
  | _ => []
def Act.w1 : Act → List Str
  | .add n _ => [n]
  | .put n _ => [n]
  | .take n => [n]
  | _ => []
def Act.w2 : Act → List Str
  | .copy _ m => [m]
  | _ => []
structure Dd where
  nm : Str
  q : Qs
  acts : List Act
def Dd.enc (d : Dd) : D := .tup [.str d.nm, d.q.enc, .tup (d.acts.map Act.enc)]
structure Dd.Ok (d : Dd) : Prop where
  q : d.q.dq ≤ 3
  a : ∀ x ∈ d.acts, x.ok = true
  n : d.acts.length ≤ 3
def Dd.drops (d : Dd) : Bool := d.acts.any Act.isDrop
def inOrd (ns some : List Str) : List Str := ns.filter fun n => decide (n ∈ some)
def Dd.rds (ns : List Str) (d : Dd) : List Str := inOrd ns (d.q.names ++ d.acts.flatMap Act.rd)
def Dd.wrs (ns : List Str) (d : Dd) : List Str := if d.drops = true then ns else inOrd ns (d.acts.flatMap Act.w1 ++ d.acts.flatMap Act.w2)
def touch (ns : List Str) (a b : Dd) : Bool := (a.wrs ns).any fun n => decide (n ∈ b.rds ns ++ b.wrs ns)
def clsh (ns : List Str) (a b : Dd) : Bool := a.drops || (b.drops || (touch ns a b || touch ns b a))
@[simp] theorem na_add_put : (("add" : Str) = "put") = False := eq_false (by decide)
@[simp] theorem na_add_take : (("add" : Str) = "take") = False := eq_false (by decide)
@[simp] theorem na_add_copy : (("add" : Str) = "copy") = False := eq_false (by decide)
@[simp] theorem na_add_drop : (("add" : Str) = "drop") = False := eq_false (by decide)
@[simp] theorem na_put_add : (("put" : Str) = "add") = False := eq_false (by decide)
@[simp] theorem na_put_take : (("put" : Str) = "take") = False := eq_false (by decide)
@[simp] theorem na_put_copy : (("put" : Str) = "copy") = False := eq_false (by decide)
@[simp] theorem na_put_drop : (("put" : Str) = "drop") = False := eq_false (by decide)
@[simp] theorem na_take_add : (("take" : Str) = "add") = False := eq_false (by decide)
@[simp] theorem na_take_put : (("take" : Str) = "put") = False := eq_false (by decide)
@[simp] theorem na_take_copy : (("take" : Str) = "copy") = False := eq_false (by decide)
@[simp] theorem na_take_drop : (("take" : Str) = "drop") = False := eq_false (by decide)
@[simp] theorem na_copy_add : (("copy" : Str) = "add") = False := eq_false (by decide)
@[simp] theorem na_copy_put : (("copy" : Str) = "put") = False := eq_false (by decide)
@[simp] theorem na_copy_take : (("copy" : Str) = "take") = False := eq_false (by decide)
@[simp] theorem na_copy_drop : (("copy" : Str) = "drop") = False := eq_false (by decide)
@[simp] theorem na_drop_add : (("drop" : Str) = "add") = False := eq_false (by decide)
@[simp] theorem na_drop_put : (("drop" : Str) = "put") = False := eq_false (by decide)
@[simp] theorem na_drop_take : (("drop" : Str) = "take") = False := eq_false (by decide)
@[simp] theorem na_drop_copy : (("drop" : Str) = "copy") = False := eq_false (by decide)
def AOk (ps : List (Str × Str)) : Act → Prop
  | .add n i => (n, ("number" : Str)) ∈ ps ∧ -99 ≤ i ∧ i ≤ 99
  | .put n w => ∃ so, (n, so) ∈ ps ∧ lead so = false ∧ WOk (fun _ => False) so w
  | .take n => ∃ so, (n, so) ∈ ps
  | .copy n m => (n, ("number" : Str)) ∈ ps ∧ (m, ("number" : Str)) ∈ ps
  | .drop => True
structure DOk (ps : List (Str × Str)) (d : Dd) : Prop where
  q : QOk ps d.q
  dq : d.q.dq ≤ 3
  a : ∀ x ∈ d.acts, AOk ps x
  n : d.acts.length ≤ 3
  ne : d.acts ≠ []
def clip (i : Int) : Int := max (-999) (min 999 i)
def addEs (P : PS) (x : Hd) (n : Str) (i : Int) : List Evt := match aget (getQ P x) n with
  | some (.int j) => writeEs P x n (.int (clip (j + i)))
  | _ => []
def copyEs (P : PS) (x : Hd) (n m : Str) : List Evt := match aget (getQ P x) n with
  | some v => writeEs P x m v
  | none => []
def actEs (P : PS) (x : Hd) : Act → List Evt
  | .add n i => addEs P x n i
  | .put n w => writeEs P x n w
  | .take n => takeEs P x n
  | .copy n m => copyEs P x n m
  | .drop => dropEs P x
def actP (P : PS) (x : Hd) (a : Act) : PS := if x ∈ keys P.bk then runE P (actEs P x a) else P
def actsP (P : PS) (x : Hd) (as : List Act) : PS := as.foldl (fun P a => actP P x a) P
def doneP (P : PS) (d : Dd) : PS := (foundP P d.q).foldl (fun P x => actsP P x d.acts) P
theorem noRing_not {B : List (Hd × Pt)} {so n : Str} {x : Hd} {v : D} (h : so ≠ "tree") : noRing B so n x v := fun z => absurd z h
theorem WOk.num_ok {ok : Hd → Prop} (i : Int) : WOk ok "number" (.int (clip i)) := .inr (.inl ⟨rfl, _, rfl, by unfold clip; omega, by unfold clip; omega⟩)
theorem lead_num : lead "number" = false := by decide
theorem not_tree {so : Str} (h : lead so = false) : so ≠ "tree" := fun z => by rw [z] at h; exact absurd h (by decide)
/-- what an act tells can be told -/
theorem act_ok {ps : List (Str × Str)} (sc : Sch ps) {P : PS} (p : PI ps P) {x : Hd} (hx : x ∈ keys P.bk) {a : Act} (k : AOk ps a) : okEs ps P (actEs P x a) := by
  obtain ⟨q, e⟩ := aget_some.mpr hx
  cases a with
  | add n i =>
    show okEs ps P (addEs P x n i)
    unfold addEs
    split
    · exact write_ok hx k.1 (WOk.num_ok _) (noRing_not (by decide))
    · trivial
  | put n w =>
    obtain ⟨so, hp, hl, hw⟩ := k
    exact write_ok hx hp (hw.imp fun _ z => z.elim) (noRing_not (not_tree hl))
  | take n => exact take_ok
  | copy n m =>
    show okEs ps P (copyEs P x n m)
    unfold copyEs
    rw [getQ_of e]
    split
    · rename_i v ev
      obtain ⟨so, hp, hv⟩ := p.bok.wok x q e n v ev
      have := name_sort sc.nd hp k.1
      subst this
      exact write_ok hx k.2 hv (noRing_not (by decide))
    · trivial
  | drop => exact (drop_facts p hx).1
theorem len_act {ps : List (Str × Str)} (sc : Sch ps) {P : PS} (p : PI ps P) {x : Hd} (hx : x ∈ keys P.bk) (a : Act) : (actEs P x a).length ≤ 7 + 6 * P.bk.length := by
  cases a with
  | add n i =>
    show (addEs P x n i).length ≤ _
    unfold addEs
    split
    · rename_i j _; have := len_writeEs P x n (.int (clip (j + i))); omega
    · simp
  | put n w => have := len_writeEs P x n w; show (writeEs P x n w).length ≤ _; omega
  | take n => have := len_takeEs P x n; show (takeEs P x n).length ≤ _; omega
  | copy n m =>
    show (copyEs P x n m).length ≤ _
    unfold copyEs
    split
    · rename_i v _; have := len_writeEs P x m v; omega
    · simp
  | drop => exact len_dropEs sc p hx
theorem bk_act {ps : List (Str × Str)} (sc : Sch ps) {P : PS} (p : PI ps P) {x : Hd} (hx : x ∈ keys P.bk) (a : Act) : (runE P (actEs P x a)).bk.length ≤ P.bk.length := by
  have kw : ∀ n v, (runE P (writeEs P x n v)).bk.length ≤ P.bk.length := fun n v => by rw [← len_keys, keys_write, len_keys]; exact Nat.le_refl _
  cases a with
  | add n i =>
    show (runE P (addEs P x n i)).bk.length ≤ _
    unfold addEs
    split
    · exact kw _ _
    · exact Nat.le_refl _
  | put n w => exact kw _ _
  | take n => show (runE P (takeEs P x n)).bk.length ≤ _; rw [← len_keys, keys_take, len_keys]; exact Nat.le_refl _
  | copy n m =>
    show (runE P (copyEs P x n m)).bk.length ≤ _
    unfold copyEs
    split
    · exact kw _ _
    · exact Nat.le_refl _
  | drop => show (runE P (dropEs P x)).bk.length ≤ _; rw [(drop_facts p hx).2]; exact len_dropB hx
/-! ### a thing's parts, in order -/
theorem sort_pt (q : Pt) (nd : (keys q).Nodup) : ((eD D.str id q).mergeSort leKV).map pairD = ((sortT (keys q)).map fun n => (n, (aget q n).getD .non)).map encPt := by
  have le : leKV = fun a b : D × D => leKV a b := rfl
  have h1 : (eD D.str id q).mergeSort leKV = (q.mergeSort fun a b => leT a.1 b.1).map fun p => (D.str p.1, p.2) := by
    unfold eD
    have := List.map_mergeSort (r := fun a b : Str × D => leT a.1 b.1) (s := leKV) (f := fun p : Str × D => (D.str p.1, id p.2)) (l := q) (fun a _ b _ => by
      rw [leT_eq]; unfold leKV; rw [← decide_not]; rfl)
    exact this.symm
  have h2 : sortT (keys q) = (q.mergeSort fun a b => leT a.1 b.1).map (·.1) := by
    unfold sortT keys
    exact (List.map_mergeSort (r := fun a b : Str × D => leT a.1 b.1) (s := leT) (f := fun p : Str × D => p.1) (fun a _ b _ => rfl)).symm
  rw [h1, h2, List.map_map, List.map_map, List.map_map]
  apply List.map_congr_left
  intro p hp
  have hm : p ∈ q := (List.mergeSort_perm q _).mem_iff.mp hp
  have := aget_of_mem nd (show (p.1, p.2) ∈ q from hm)
  simp [pairD, encPt, this]
theorem sortItems_pt {f : Ev D} {ρ : Env'} {h h1 : Hq} {l : Nat} {q : Pt} (e : f ρ h = .ok (.ref l) h1) (e' : h1[l]? = some (.dic (eD D.str id q))) (nd : (keys q).Nodup) (pl : ∀ n v, aget q n = some v → Pl 1 v) : mSortItems f ρ h = .ok (.lst (((sortT (keys q)).map fun n => (n, (aget q n).getD .non)).map encPt)) h1 := by
  unfold mSortItems
  rw [e, Res.bind_ok]
  simp only [asD, e']
  rw [if_pos, sort_pt q nd]
  rw [List.all_eq_true]
  intro p hp
  unfold eD at hp
  obtain ⟨r, hr, rfl⟩ := List.mem_map.mp hp
  have hv := pl r.1 r.2 (aget_of_mem nd hr)
  obtain ⟨d, ed⟩ := tx_py hv.1
  have dd : (encD r.2).depth ≤ 60 := by rw [encD_of ed, py_depth ed]; have := hv.2; omega
  have s1 : r.2.py.isSome = true := tx_isSome hv.1
  simp [isStr, s1, dd]
structure Tgt (ps : List (Str × Str)) (h' : Hq) (S : SC) (F : List (Nat × O)) (P' : PS) (n : Nat) (S' : SC) : Prop where
  w : W h' S' F
  si : StI ps S'
  fx : Fix S S'
  eq : pu S'.C = P'
  ze : S'.C.ev.length ≤ S.C.ev.length + n
  zb : S'.C.bk.length ≤ S.C.bk.length
structure TgtM (ps : List (Str × Str)) (h' : Hq) (S : MC) (F : List (Nat × O)) (P' : PS) (n : Nat) (S' : MC) : Prop where
  w : WM h' S' F
  rc : Reach ps (pu S'.C)
  fx : FixM S S'
  eq : pu S'.C = P'
  ze : S'.C.ev.length ≤ S.C.ev.length + n
  zb : S'.C.bk.length ≤ S.C.bk.length
theorem len_pu (C : Cr) : (pu C).bk.length = C.bk.length := by simp [pu]
theorem Tgt.none {ps : List (Str × Str)} {h : Hq} {S : SC} {F : List (Nat × O)} (w : W h S F) (si : StI ps S) (n : Nat) : Tgt ps h S F (pu S.C) n S := ⟨w, si, Fix.rfl' S, rfl, by omega, Nat.le_refl _⟩
theorem TgtM.none {ps : List (Str × Str)} {h : Hq} {S : MC} {F : List (Nat × O)} (w : WM h S F) (si : Reach ps (pu S.C)) (n : Nat) : TgtM ps h S F (pu S.C) n S := ⟨w, si, FixM.rfl' S, rfl, by omega, Nat.le_refl _⟩
theorem To.tg {ps : List (Str × Str)} {h' : Hq} {S S' : SC} {F : List (Nat × O)} {es : List Evt} (t : To ps h' S F es S') {n : Nat} (h1 : es.length ≤ n) (h2 : (runE (pu S.C) es).bk.length ≤ S.C.bk.length) : Tgt ps h' S F (runE (pu S.C) es) n S' :=
  ⟨t.w, t.si, t.fx, t.eq, by rw [t.ev, List.length_append]; omega, by rw [← len_pu, t.eq]; exact h2⟩
theorem ToM.tg {ps : List (Str × Str)} {h' : Hq} {S S' : MC} {F : List (Nat × O)} {es : List Evt} (t : ToM ps h' S F es S') {n : Nat} (h1 : es.length ≤ n) (h2 : (runE (pu S.C) es).bk.length ≤ S.C.bk.length) : TgtM ps h' S F (runE (pu S.C) es) n S' :=
  ⟨t.w, t.rc, t.fx, t.eq, by rw [t.ev, List.length_append]; omega, by rw [← len_pu, t.eq]; exact h2⟩
theorem Tgt.trans {ps : List (Str × Str)} {h1 h2 : Hq} {S S1 S2 : SC} {F : List (Nat × O)} {P1 P2 : PS} {n m : Nat} (a : Tgt ps h1 S F P1 n S1) (b : Tgt ps h2 S1 F P2 m S2) : Tgt ps h2 S F P2 (n + m) S2 := ⟨b.w, b.si, a.fx.trans b.fx, b.eq, by have := a.ze; have := b.ze; omega, Nat.le_trans b.zb a.zb⟩
theorem TgtM.trans {ps : List (Str × Str)} {h1 h2 : Hq} {S S1 S2 : MC} {F : List (Nat × O)} {P1 P2 : PS} {n m : Nat} (a : TgtM ps h1 S F P1 n S1) (b : TgtM ps h2 S1 F P2 m S2) : TgtM ps h2 S F P2 (n + m) S2 := ⟨b.w, b.rc, a.fx.trans b.fx, b.eq, by have := a.ze; have := b.ze; omega, Nat.le_trans b.zb a.zb⟩
theorem clip_eq (s : Int) : (if (if s < 999 then s else 999) > (-999 : Int) then (if s < 999 then s else 999) else -999) = clip s := by
  unfold clip
  split <;> split <;> omega
theorem pl_parts {ps : List (Str × Str)} {P : PS} (p : PI ps P) {x : Hd} (hx : x ∈ keys P.bk) : Pl 3 (.tup ((partsP P x).map encPt)) := by
  refine pl_tupm fun a ha => ?_
  unfold partsP at ha
  obtain ⟨n, hn, rfl⟩ := List.mem_map.mp ha
  obtain ⟨q, e⟩ := aget_some.mpr hx
  unfold kindsP at hn
  rw [getQ_of e] at hn ⊢
  obtain ⟨v, ev⟩ := aget_some.mpr (mem_sortT.mp hn)
  obtain ⟨so, _, hv⟩ := p.bok.wok x q e n v ev
  rw [ev]
  refine pl_tup fun b hb => ?_
  have : b = .str n ∨ b = v := by simpa using hb
  rcases this with rfl | rfl
  · exact (pl_str _).mono (by omega)
  · exact hv.pl
end Mi
namespace Mi
open PySem PySem.Spec PyProof.Rows L2 HT
/-! ### list(range(n)), tuple(range(n)) -/
def rgD (n : Int) : List D := (List.range n.toNat).map fun i => D.int ((i : Nat) : Int)
theorem rg_rel {K : PySem.W.Frag} {mp : Wd} {H : Hp} (n : Int) : RpAll K mp H (rgD n) (rgV 0 n) := by
  unfold rgD rgV
  rw [show n - 0 = n by omega]
  generalize List.range n.toNat = l
  induction l with
  | nil => exact .nil
  | cons x l ih =>
    refine .cons ?_ ih
    show Rp K mp H (D.int ((x : Nat) : Int)) (V.int (0 + ((x : Nat) : Int)))
    rw [show (0 : Int) + ((x : Nat) : Int) = ((x : Nat) : Int) by omega]
    exact .int _
def mLstRg (f : Ev D) : Ev D := fun ρ h => (f ρ h).bind fun d h1 => match d with
  | .int n => if 0 ≤ n ∧ n ≤ 1000 then .ok (.lst (rgD n)) h1 else .bad
  | _ => .bad
def mTupRg (f : Ev D) : Ev D := fun ρ h => (f ρ h).bind fun d h1 => match d with
  | .int n => if 0 ≤ n ∧ n ≤ 1000 then .ok (.tup (rgD n)) h1 else .bad
  | _ => .bad
section
variable {X : Cx} {W : WX} {e : Expr} {p p2 pos pos2 : Pos} {f : Ev D}
theorem se_lstRg (hc : X.calm = true) (he : SE X W e f) (hmr : X.mg "range" = none) (hml : X.mg "list" = none) (hgr : Gl X "range" := by rfl) (hgl : Gl X "list" := by rfl)
    (na : starEach [e] X.env = (false, eval e X.env) :: starEach [] X.env := by rfl)
    (nb : starEach [.Call (.Name "range" p2) [e] [] pos2] X.env = (false, eval (.Call (.Name "range" p2) [e] [] pos2) X.env) :: starEach [] X.env := by rfl) :
    SE X W (.Call (.Name "list" p) [.Call (.Name "range" p2) [e] [] pos2] [] pos) (mLstRg f) :=
  PE.imp (pe_listRg hc hgl hml (prg_1 hgr hmr he na) nb) fun σ H Q ⟨ρ, h, mp, r, en, q⟩ => by
    refine ⟨ρ, h, mp, r, en, Post.mono (Post.bind (R := rD X.K) q) fun x H1 ⟨mp1, h1, d1, le1, r1, q1, p1⟩ => ?_⟩
    dsimp only at p1
    split at p1
    · rename_i n
      split at p1
      · rename_i hn
        cases q1
        refine ⟨n, rfl, RgOk.of_le (by omega) (by omega) (by omega) (by omega), fun b hb => ?_⟩
        obtain ⟨l1, l2, l3⟩ := newL r1 hb (rg_rel (K := X.K) (mp := mp1) (H := H1) n)
        exact p1 _ mp1 _ l1 l2 l3
      · exact p1.elim
    · exact p1.elim
theorem se_tupRg (hc : X.calm = true) (he : SE X W e f) (hmr : X.mg "range" = none) (hml : X.mg "tuple" = none) (hgr : Gl X "range" := by rfl) (hgl : Gl X "tuple" := by rfl)
    (na : starEach [e] X.env = (false, eval e X.env) :: starEach [] X.env := by rfl)
    (nb : starEach [.Call (.Name "range" p2) [e] [] pos2] X.env = (false, eval (.Call (.Name "range" p2) [e] [] pos2) X.env) :: starEach [] X.env := by rfl) :
    SE X W (.Call (.Name "tuple" p) [.Call (.Name "range" p2) [e] [] pos2] [] pos) (mTupRg f) :=
  PE.imp (pe_tupRg hc hgl hml (prg_1 hgr hmr he na) nb) fun σ H Q ⟨ρ, h, mp, r, en, q⟩ => by
    refine ⟨ρ, h, mp, r, en, Post.mono (Post.bind (R := rD X.K) q) fun x H1 ⟨mp1, h1, d1, le1, r1, q1, p1⟩ => ?_⟩
    dsimp only at p1
    split at p1
    · rename_i n
      split at p1
      · rename_i hn
        cases q1
        refine ⟨n, rfl, RgOk.of_le (by omega) (by omega) (by omega) (by omega), fun b hb => ?_⟩
        obtain ⟨l1, l2, l3⟩ := newT r1 hb (rg_rel (K := X.K) (mp := mp1) (H := H1) n)
        exact p1 _ mp1 _ l1 l2 l3
      · exact p1.elim
    · exact p1.elim
end
/-! ### sorted(set(t)), t a tuple of ints -/
def insI (x : Int) : List Int → List Int
  | [] => [x]
  | y :: ys => if x < y then x :: y :: ys else if x = y then y :: ys else y :: insI x ys
def sortSet (ns : List Int) : List Int := ns.foldr insI []
theorem mem_insI {x k : Int} : ∀ {l : List Int}, k ∈ insI x l ↔ k = x ∨ k ∈ l
  | [] => by simp [insI]
  | y :: ys => by
    unfold insI
    split
    · simp
    · split
      · rename_i h; subst h; simp
      · rw [List.mem_cons, mem_insI (l := ys), List.mem_cons]
        constructor <;> (intro h; rcases h with h | h | h <;> simp [h])
theorem insI_lt {x : Int} : ∀ {l : List Int}, l.Pairwise (· < ·) → (insI x l).Pairwise (· < ·)
  | [], _ => by simp [insI]
  | y :: ys, h => by
    unfold insI
    rw [List.pairwise_cons] at h
    split
    · rename_i hx
      exact List.pairwise_cons.mpr ⟨fun z hz => by rcases List.mem_cons.mp hz with rfl | hz; exact hx; exact Int.lt_trans hx (h.1 z hz), List.pairwise_cons.mpr h⟩
    · split
      · exact List.pairwise_cons.mpr h
      · refine List.pairwise_cons.mpr ⟨fun z hz => ?_, insI_lt h.2⟩
        rcases mem_insI.mp hz with rfl | hz
        · omega
        · exact h.1 z hz
theorem sortSet_lt (ns : List Int) : (sortSet ns).Pairwise (· < ·) := by
  induction ns with
  | nil => exact .nil
  | cons x ns ih => exact insI_lt ih
theorem mem_sortSet {k : Int} {ns : List Int} : k ∈ sortSet ns ↔ k ∈ ns := by
  induction ns with
  | nil => exact Iff.rfl
  | cons x ns ih => show k ∈ insI x (sortSet ns) ↔ _; rw [mem_insI, ih, List.mem_cons]
theorem lt_ext : ∀ {a b : List Int}, a.Pairwise (· < ·) → b.Pairwise (· < ·) → (∀ k, k ∈ a ↔ k ∈ b) → a = b
  | [], [], _, _, _ => rfl
  | [], y :: b, _, _, h => absurd ((h y).mpr (by simp)) (by simp)
  | x :: a, [], _, _, h => absurd ((h x).mp (by simp)) (by simp)
  | x :: a, y :: b, ha, hb, h => by
    rw [List.pairwise_cons] at ha hb
    have exy : x = y := by
      rcases List.mem_cons.mp ((h x).mp (by simp)) with e | e
      · exact e
      · rcases List.mem_cons.mp ((h y).mpr (by simp)) with e' | e'
        · exact e'.symm
        · have := ha.1 y e'; have := hb.1 x e; omega
    subst exy
    rw [lt_ext ha.2 hb.2 fun k => ?_]
    constructor
    · intro hk
      rcases List.mem_cons.mp ((h k).mp (List.mem_cons_of_mem _ hk)) with rfl | e
      · exact absurd (ha.1 _ hk) (by omega)
      · exact e
    · intro hk
      rcases List.mem_cons.mp ((h k).mpr (List.mem_cons_of_mem _ hk)) with rfl | e
      · exact absurd (hb.1 _ hk) (by omega)
      · exact e
def rSetTI (K : PySem.W.Frag) (w : World) : List V → Hp → VK → Prop := fun vs H Q => ∃ (p : Addr) (ns : List Int), vs = [.ref p] ∧ SqT K H p (ns.map V.int) ∧ ns.length < 64 ∧
  ∀ (q : Addr) (c : Nat), H q = none → c ≤ ns.length → Q (.ref q) (upd H q (SetO w q (fun j => decide (j ∈ ns)) c))
section
variable {X : Cx} {W : WX} {e : Expr} {p p2 pos pos2 : Pos} {f : Ev D}
theorem cr_setTI (hc : X.calm = true) : CallR X (.type "set") (rSetTI X.K X.w) := by
  intro pins s σ H vs us Q I r h
  obtain ⟨p0, ns, rfl, hq, hl, q⟩ := h
  rw [Vals.ref1 r]
  obtain ⟨its, rv, pt, hz⟩ := I.tuple hq
  have hi : IntsAre its.toArray.toList ns := ints_of_vals rv
  refine call_set_tupI ns (I.ok.hd hc) (show s.heap.IsTuple p0 its.toArray from pt) hi (by unfold scanBound; omega) fun h' tk c R1 hcn k => ?_
  exact ⟨.ref s.heap.objs.size, _, I.laid (t' := tk) k (Nat.le_refl _) (setO_new R1), rfl, q _ c (I.hok.fresh (Nat.le_refl _)) hcn⟩
def mSortSet (f : Ev D) : Ev D := fun ρ h => (f ρ h).bind fun d h1 => match asT d with
  | some xs => (match isInts xs with
    | some ns => if ns.length < 64 then .ok (.lst ((sortSet ns).map .int)) h1 else .bad
    | none => .bad)
  | none => .bad
theorem ints_ok' {K : PySem.W.Frag} {mp : Wd} {H : Hp} : ∀ {ds : List D} {vs : List V} {bs : List Int}, RpAll K mp H ds vs → isInts ds = some bs → vs = bs.map V.int
  | [], _, _, a, e => by cases e; cases a; rfl
  | d :: ds, _, bs, a, e => by
    cases a with
    | cons a1 a2 =>
      cases d <;> simp only [isInts] at e
      case int i =>
        obtain ⟨l, e1, e2⟩ := Option.map_eq_some_iff.mp e
        subst e2
        cases a1
        rw [ints_ok' a2 e1, List.map_cons]
      all_goals exact absurd e (by simp)
theorem ints_rel {K : PySem.W.Frag} {mp : Wd} {H : Hp} : ∀ ns : List Int, RpAll K mp H (ns.map .int) (ns.map V.int)
  | [] => .nil
  | n :: ns => .cons (.int n) (ints_rel ns)
theorem se_sortSet (hc : X.calm = true) (he : SE X W e f) (hms : X.mg "set" = none) (hm : X.mg "sorted" = none) (hgs : Gl X "set" := by rfl) (hg : Gl X "sorted" := by rfl)
    (na : starEach [e] X.env = (false, eval e X.env) :: starEach [] X.env := by rfl) (hpl2 : (backTo pos2 (starEach [] X.env)).any (·.1) = false := by rfl)
    (nb : starEach [.Call (.Name "set" p2) [e] [] pos2] X.env = (false, eval (.Call (.Name "set" p2) [e] [] pos2) X.env) :: starEach [] X.env := by rfl)
    (hpl : (backTo pos (starEach [] X.env)).any (·.1) = false := by rfl) (hv : bootBuiltins "sorted" = some (.builtin "sorted") := by decide +kernel) (hv2 : bootBuiltins "set" = some (.type "set") := by decide +kernel) :
    SE X W (.Call (.Name "sorted" p) [.Call (.Name "set" p2) [e] [] pos2] [] pos) (mSortSet f) :=
  PE.imp (pe_callB (cr_sortedSet hc) hg hm hv (pa_cons (pe_callTy (cr_setTI hc) hgs hms hv2 (pa_cons he pa_nil na) (by decide) (by decide) na hpl2) pa_nil nb) (by decide) (by decide) nb hpl) fun σ H Q ⟨ρ, h, mp, r, en, q⟩ => by
    refine ⟨ρ, h, mp, r, en, Post.mono (Post.bind (R := rD X.K) q) fun x H1 ⟨mp1, h1, d1, le1, r1, q1, p1⟩ => ?_⟩
    dsimp only at p1
    split at p1
    · rename_i xs ex
      split at p1
      · rename_i ns ei
        split at p1
        · rename_i hl
          obtain ⟨pa, vs, rfl, hs, ra⟩ := asT_ok q1 ex
          have ev := ints_ok' ra ei
          subst ev
          refine ⟨pa, ns, rfl, hs, hl, fun qa c hq hcn => ?_⟩
          refine ⟨qa, _, c, rfl, upd_same, by omega, fun os pb hlt hmem hlen hpb => ?_⟩
          have eo : os = sortSet ns := lt_ext hlt (sortSet_lt ns) fun k => by rw [hmem k, mem_sortSet, decide_eq_true_eq]
          subst eo
          have le := le_new r1 (o := SetO X.w qa (fun j => decide (j ∈ ns)) c) hq
          obtain ⟨l1, l2, l3⟩ := newL (r1.new hq) hpb (ints_rel (K := X.K) (mp := mp1) (H := _) (sortSet ns))
          exact p1 _ mp1 _ (le.trans l1) l2 l3
        · exact p1.elim
      · exact p1.elim
    · exact p1.elim
end
/-! ### t[::-1] -/
section
variable {prog : Program} {w : World} {A : Around} {E : Value → Shared → Prop} {s : Shared}
theorem sliceApplied_rev {sl : Addr} {vs : Value} {n : Nat} {Q : Int × Int × Nat → Shared → Prop} (hs : s.heap.IsSliceOf sl .none .none vs) (ps : IsPart vs (some (-1)))
    (h : Q ((n : Int) - 1, -1, n) s) : wpAny (model prog w) A (Builtin.Slice.sliceApplied (.ref sl) (pure (n : Int))) Q E s := by
  obtain ⟨os, hos, hcs, hds⟩ := id hs
  unfold Builtin.Slice.sliceApplied Builtin.Slice.sliceFields
  refine wpAny_bind (wpAny_bind (wpAny_field hos hds (x := .none) rfl (wpAny_bind (wpAny_field hos hds (x := .none) rfl (wpAny_bind (wpAny_field hos hds (x := vs) rfl (wpAny_pure ?_)))))))
  refine wpAny_bind (slicePart_ ps ?_)
  show wpAny _ _ (if ((-1 : Int) == 0) = true then _ else _) _ _ s
  rw [if_neg (by decide)]
  refine wpAny_bind (slicePart_none (wpAny_bind (slicePart_none (wpAny_bind (wpAny_pure ?_)))))
  show wpAny _ _ (match Builtin.Slice.sliceAdjust none none (-1) (n : Int) with | (lo, hi) => pure (lo, (-1 : Int), Builtin.Slice.slicePlaces lo hi (-1))) _ _ s
  have e1 : Builtin.Slice.sliceAdjust none none (-1) (n : Int) = ((n : Int) - 1, -1) := by
    unfold Builtin.Slice.sliceAdjust
    simp
  have e2 : Builtin.Slice.slicePlaces ((n : Int) - 1) (-1) (-1) = n := by
    unfold Builtin.Slice.slicePlaces
    simp
    try omega
  rw [e1]
  show wpAny _ _ (pure ((n : Int) - 1, (-1 : Int), Builtin.Slice.slicePlaces ((n : Int) - 1) (-1) (-1))) _ _ s
  rw [e2]
  exact wpAny_pure h
theorem fm_map {α β : Type} {f : α → Option β} {g : α → β} : ∀ {l : List α}, (∀ x ∈ l, f x = some (g x)) → l.filterMap f = l.map g
  | [], _ => rfl
  | x :: l, k => by rw [List.filterMap_cons, k x (by simp), List.map_cons, fm_map fun y hy => k y (List.mem_cons_of_mem _ hy)]
theorem pick_rev (xs : Array Value) : ((List.range xs.size).filterMap fun (m : Nat) => xs[(((xs.size : Int) - 1) + (m : Int) * (-1)).toNat]?) = xs.toList.reverse := by
  have e0 := fm_map (f := fun (m : Nat) => xs[(((xs.size : Int) - 1) + (m : Int) * (-1)).toNat]?) (g := fun m => xs.toList.getD (xs.size - 1 - m) .none) (l := List.range xs.size) (fun m hm => by
    have hm := List.mem_range.mp hm
    have e : (((xs.size : Int) - 1) + (m : Int) * (-1)).toNat = xs.size - 1 - m := by omega
    rw [e, ← Array.getElem?_toList, List.getD_eq_getElem?_getD, List.getElem?_eq_getElem (by rw [Array.length_toList]; omega)]
    rfl)
  rw [e0]
  apply List.ext_getElem?
  intro i
  rw [List.getElem?_map]
  by_cases hi : i < xs.size
  · rw [List.getElem?_range hi, List.getElem?_reverse (by rw [Array.length_toList]; exact hi), Array.length_toList, Option.map_some, List.getD_eq_getElem?_getD, List.getElem?_eq_getElem (by rw [Array.length_toList]; omega)]
    rfl
  · rw [List.getElem?_eq_none (by rw [List.length_range]; omega), List.getElem?_eq_none (by rw [List.length_reverse, Array.length_toList]; omega)]
    rfl
theorem getItem_tuple_rev {t sl : Addr} {items : Array Value} {vs : Value} {Q : Value → Shared → Prop} (ht : IsTup s.heap t items) (hs : s.heap.IsSliceOf sl .none .none vs) (ps : IsPart vs (some (-1)))
    (h : Q (.ref s.heap.objs.size) { s with heap := s.heap.push { cls := .type "tuple", data := .seq items.toList.reverse.toArray } })
    (hsz : items.size ≤ sizeLine) : wpAny (model prog w) A (getItem (.ref t) (.ref sl)) Q E s := by
  have htake : sizeOk (.seq items.toList.reverse.toArray) := by
    show items.toList.reverse.toArray.size ≤ sizeLine
    rw [List.size_toArray, List.length_reverse, Array.length_toList]
    omega
  obtain ⟨os, hos, hcs, hds⟩ := id hs
  have hTs : s.TypeIs (.ref sl) "slice" := ⟨os, hos, hcs⟩
  unfold getItem
  try with_reducible refine wpAny_holding ?_
  first | refine wpAny_bind (wpAny_pure ?_) | skip
  refine wpAny_bind (wpAny_sequenceKey ht.typeIs (by decide) ?_)
  refine wpAny_bind (wpAny_callSpecial?_slot (name := Str.ofString "__getitem__") ht.typeIs PyProof.Rows.slot_tuple_getitem
    (wpAny_call_entry PyProof.Rows.slot_tuple_getitem ht.typeIs entry_tuple_getitem ?_ (args_tuple_getitem _ _)))
  show wpAny _ _ (Builtin.Tuple.tupleItemsOf (.ref t) >>= _) _ _ s
  refine wpAny_bind (tupleItemsOf_ ht ?_)
  refine wpAny_bind (wpAny_typeOf hTs ?_)
  rw [if_pos (by decide)]
  refine wpAny_bind (sliceApplied_rev hs ps ?_)
  have hno : ¬ ((((items.size : Int) - 1) == 0 && (-1 : Int) == 1 && items.size == items.size) = true) := by simp
  show wpAny _ _ (if (((items.size : Int) - 1) == 0 && (-1 : Int) == 1 && items.size == items.size) = true then _ else _) _ _ s
  rw [if_neg hno, pick_rev]
  first
    | exact wpAny_bind (m := Builtin.Tuple.tupleExact _) (wpAny_newObj_type (wpAny_pure ⟨_, rfl, wpAny_pure h⟩) htake)
    | exact wpAny_bind (m := Builtin.Tuple.tupleExact _) (wpAny_newObj_type (wpAny_bind (wpAny_pure (wpAny_pure ⟨_, rfl, wpAny_pure h⟩))) htake)
end
def tRevT (K : PySem.W.Frag) (te : TE) : TE := fun σ H Q => te σ H fun x H1 => ∃ a xs, x = .ref a ∧ SqT K H1 a xs ∧ ∀ p, H1 p = none → Q (.ref p) (upd H1 p (.tup xs.reverse))
section
variable {X : Cx} {W : WX} {e : Expr}
theorem pe_revT {te : TE} {k : Nat} {p1 p2 p3 pos : Pos} (he : PE X e te) : PE X (.Subscript e (.Slice none none (some (.UnaryOp .USub (.Constant (.int 1) k p1) p2)) p3) pos) (tRevT X.K te) := by
  refine ⟨fun pins s σ H Q I h => ?_⟩
  refine Subscript_ (thn (he.run pins s σ H _ I h) fun v s1 ⟨x, H1, I1, r1, q1⟩ => ?_)
  obtain ⟨a, xs, ex, hx, q⟩ := q1
  subst ex
  cases r1
  have hst : PO X (some (.UnaryOp .USub (.Constant (.int 1) k p1) p2)) (tPart (tUn (rU fun i => .int (-i)) (tC (.int 1)))) := po_some (pe_un un_neg pe_int)
  refine wpAny_Slice (thn (po_none.run pins s1 σ H1 (fun o H2 => o = none ∧ H2 = H1) I1 ⟨rfl, rfl⟩) fun vl s2 ⟨l, H2, I2, pl, el, e2⟩ => ?_)
  subst el e2
  refine thn (po_none.run pins s2 σ H2 (fun o H3 => o = none ∧ H3 = H2) I2 ⟨rfl, rfl⟩) fun vu s3 ⟨u, H3, I3, pu, eu, e3⟩ => ?_
  subst eu e3
  refine thn (hst.run pins s3 σ H3 (fun o H4 => o = some (-1) ∧ H4 = H3) I3 ⟨1, rfl, -1, rfl, rfl, rfl⟩) fun vs s4 ⟨o, H4, I4, ps, eo, e4⟩ => ?_
  subst eo e4
  have I5 : Inv X pins σ H4 { s4 with heap := s4.heap.push { cls := .type "slice", data := .fields #[vl, vu, vs] } } := I4.kept (t' := s4.toks) fun b ob q => Heap.get?_push_of_some _ q
  obtain ⟨its, r, ht, hz⟩ := I5.tuple hx
  have hlen := r.length
  have evl : vl = .none := by cases pl; rfl
  have evu : vu = .none := by cases pu; rfl
  subst evl evu
  show wpAny (model X.prog X.w) X.A (subscriptTail e (.Slice none none (some (.UnaryOp .USub (.Constant (.int 1) k p1) p2)) p3) (.ref a) (.ref s4.heap.objs.size)) (EP X pins σ Q) X.xe { s4 with heap := s4.heap.push { cls := .type "slice", data := .fields #[.none, .none, vs] } }
  refine tail_any (ops := [.ref a, .ref s4.heap.objs.size]) ht.typeIs (PyProof.Rows.slot_tuple_getitem.lookup) ?_ (by with_unfolding_all rfl)
  refine getItem_tuple_rev ht (Heap.IsSliceOf.new _ .none .none vs) ps ?_ (by rw [List.size_toArray]; omega)
  refine ⟨.ref _, _, I5.laid (t' := s4.toks) (o := .tup xs.reverse) (fun b ob q => Heap.get?_push_of_some _ q) (Nat.le_refl _) ?_, rfl, q _ (I5.hok.fresh (Nat.le_refl _))⟩
  exact ⟨by rw [List.length_reverse]; exact hz, _, r.reverse, IsTup.new _ _⟩
theorem RpAll.snoc {K : PySem.W.Frag} {mp : Wd} {H : Hp} {d : D} {v : V} (b : Rp K mp H d v) : ∀ {ds : List D} {vs : List V}, RpAll K mp H ds vs → RpAll K mp H (ds ++ [d]) (vs ++ [v])
  | _, _, .nil => .cons b .nil
  | _, _, .cons a r => .cons a (RpAll.snoc b r)
theorem RpAll.rev {K : PySem.W.Frag} {mp : Wd} {H : Hp} : ∀ {ds : List D} {vs : List V}, RpAll K mp H ds vs → RpAll K mp H ds.reverse vs.reverse
  | _, _, .nil => .nil
  | _, _, .cons a r => by rw [List.reverse_cons, List.reverse_cons]; exact RpAll.snoc a r.rev
def mRevT (f : Ev D) : Ev D := fun ρ h => (f ρ h).bind fun d h1 => match asT d with
  | some xs => .ok (.tup xs.reverse) h1
  | none => .bad
theorem se_revT {f : Ev D} {k : Nat} {p1 p2 p3 pos : Pos} (he : SE X W e f) : SE X W (.Subscript e (.Slice none none (some (.UnaryOp .USub (.Constant (.int 1) k p1) p2)) p3) pos) (mRevT f) :=
  PE.imp (pe_revT he) fun σ H Q ⟨ρ, h, mp, r, en, q⟩ => by
    refine ⟨ρ, h, mp, r, en, Post.mono (Post.bind (R := rD X.K) q) fun x H1 ⟨mp1, h1, d1, le1, r1, q1, p1⟩ => ?_⟩
    dsimp only at p1
    split at p1
    · rename_i xs ex
      obtain ⟨pa, vs, rfl, hs, ra⟩ := asT_ok q1 ex
      refine ⟨pa, vs, rfl, hs, fun b hb => ?_⟩
      obtain ⟨l1, l2, l3⟩ := newT r1 hb ra.rev
      exact p1 _ mp1 _ l1 l2 l3
    · exact p1.elim
end
/-! ### sorted(t), t a tuple -/
section
variable {prog : Program} {w : World} {A : Around} {E : Value → Shared → Prop} {s : Shared}
theorem collect_tup {l : Addr} {vs : List Value} {Q : List Value → Shared → Prop} (hl : IsTup s.heap l vs.toArray)
    (h : Q vs { s with heap := (s.heap.push (seqObj "list" #[] 0)).update s.heap.objs.size (Obj.mapSeq (· ++ vs.toArray)) }) (hsz : vs.length ≤ sizeLine) :
    wpAny (model prog w) A (collect (.ref l)) Q E s := by
  obtain ⟨o, ho, hc, n, hd⟩ := id hl
  unfold collect
  refine wpAny_bind (wpAny_runValue (codeAny_builtin entry_proto_collect' ?_))
  show wpAny _ _ (do again (.builtin "list.__iadd__" ⟨[← newList [], .ref l], []⟩)) _ _ s
  refine wpAny_bind (wpAny_newList (wpAny_pure ⟨Code.quiet_builtin _ (by decide +kernel), codeAny_builtin entry_list_iadd' ?_⟩))
  show wpAny _ _ (Builtin.List.listExtendWith (.ref s.heap.objs.size) (.ref l) (.ref s.heap.objs.size)) _ _ { s with heap := s.heap.push (seqObj "list" #[] 0) }
  unfold Builtin.List.listExtendWith
  have ho' : (s.heap.push (seqObj "list" #[] 0)).get? l = some o := Heap.get?_push_of_some _ ho
  refine wpAny_bind (wpAny_typeOf (T := "tuple") ⟨o, ho', hc⟩ ?_)
  have ht : (Value.type "tuple" == Value.type "tuple") = true := by rfl
  rw [if_pos (by rw [ht]; simp)]
  refine wpAny_bind (listItems_at ho' hd ?_)
  refine wpAny_bind (listItems_at (xs := #[]) (n := 0) (Heap.get?_push_size _ rfl) rfl ?_)
  rw [if_neg (by simp)]
  refine wpAny_bind (listUpdate_at (xs := #[]) (n := 0) (Heap.get?_push_size _ rfl) rfl ?_ (Nat.zero_le _) (by show (#[] ++ vs.toArray).size ≤ sizeLine + 1; simp only [Array.size_append, List.size_toArray, List.length_nil]; omega))
  refine wpAny_pure ?_
  show wpAny (model prog w) A (do
      let o ← load s.heap.objs.size
      match o.data with
      | .seq xs _ => pure xs.toList
      | _ => unsupported "internal:collect") Q E { s with heap := (s.heap.push (seqObj "list" #[] 0)).update s.heap.objs.size (Obj.mapSeq (· ++ vs.toArray)) }
  refine wpAny_bind (wpAny_load (get?_update_seq (Heap.get?_push_size _ rfl) _) ?_)
  show wpAny _ _ (pure ((#[] : Array Value) ++ vs.toArray).toList) Q E _
  rw [show ((#[] : Array Value) ++ vs.toArray).toList = vs by simp]
  exact wpAny_pure h
open PySem.W in
theorem sorted_valsT {κ : PyProof.Rows.KeyKind} {l : Addr} {vs : List Value} {Q : Value → Shared → Prop} (hl : IsTup s.heap l vs.toArray) (S : SortsAt prog w A.in1.in1 { s with heap := sortingHeap (copyHeap s.heap vs) (s.heap.objs.size + 1) vs } κ vs) (hL : vs.length ≤ sizeLine)
    (h : Q (.ref (s.heap.objs.size + 1)) { s with heap := sortedAll s.heap vs (sortVals κ false vs vs).toArray }) : wpAny (model prog w) A (call (.builtin "sorted") [.ref l]) Q E s := by
  refine Calls.call_function_entry kind_sorted plain_sorted entry_sorted (args_sorted1 _) ?_
  unfold Builtin.«sorted»
  refine wpAny_bind (m := checkCount "sorted" 1 1 _) (wpAny_pure ?_)
  refine wpAny_bind (collect_tup hl ?_ hL)
  refine wpAny_bind (wpAny_newList ?_ hL)
  have hsz : ((s.heap.push (seqObj "list" #[] 0)).update s.heap.objs.size (Obj.mapSeq (· ++ vs.toArray))).objs.size = s.heap.objs.size + 1 := by
    rw [Heap.size_update, size_push']
  show wpAny _ _ _ _ _ { s with heap := copyHeap s.heap vs }
  rw [hsz]
  refine wpAny_bind (wpAny_holding (wpAny_call_entry slot_list_sort ⟨_, copyHeap_at s.heap vs, rfl⟩ entry_list_sort ?body (args_list_sort _)))
  case body =>
    show wpAny (model prog w) A.in1.in1 (Builtin.«list.sort» ⟨[.ref (s.heap.objs.size + 1)], []⟩) _ _ _
    exact list_sort_vals (s := { s with heap := copyHeap s.heap vs }) (copyHeap_at s.heap vs) S hL ⟨_, rfl, wpAny_pure ⟨_, rfl, h⟩⟩
end
def gSorted2 (ds : List D) (h : Hq) : Option (D × Hq) := match ds with
  | [d] => (match asT d with
    | some xs => if sortOk xs = true then some (.lst (xs.mergeSort leD), h) else none
    | none => gSorted [d] h)
  | _ => none
theorem c1_sorted2 {X : Cx} (hu : X.A.units + 64 < cLine) : C1 X (.builtin "sorted") gSorted2 := by
  intro pins s σ H xs us Q I rv ⟨mp, h, ds, r, a, p⟩
  unfold gSorted2 at p
  split at p
  · rename_i d
    split at p
    · rename_i ys e
      obtain ⟨v, rfl, q⟩ := a.one
      split at p
      · rename_i hk
        obtain ⟨pa, vs, rfl, hs, ra⟩ := asT_ok q e
        obtain ⟨u, rfl, ru⟩ := vals1 rv
        obtain rfl : u = Value.ref pa := ru
        obtain ⟨its, rel, hl, hz⟩ := I.tuple hs
        obtain ⟨h1, h2, h3, h4⟩ := sort_parts hk
        have er := each_reads I ra rel h1
        have ev := each_of ra rel
        have hzi : its.length ≤ sizeLine := by rw [← rel.length]; exact hz
        have er2 := each_mono (s' := { s with heap := PySem.W.sortingHeap (PySem.W.copyHeap s.heap its) (s.heap.objs.size + 1) its }) (fun b o z => PySem.W.sorting_copy_old z) er
        refine sorted_valsT (κ := PySem.W.dataKind _ (ys.map encD)) hl (sorts_at er2 hk (by show X.A.in1.in1.units + 60 < cLine; have : X.A.in1.in1.units = X.A.units + 1 + 1 := rfl; omega)) hzi ?_
        have eo := PySem.W.sortVals_data false ev er2 h2
        rw [leD_eq] at eo
        obtain ⟨ovs, o1, o2⟩ := of_each eo
        obtain ⟨c, hc⟩ := PyProof.Rows.sortedAll_at s.heap its (PySem.W.sortVals (PySem.W.dataKind (PySem.W.sortingHeap (PySem.W.copyHeap s.heap its) (s.heap.objs.size + 1) its) (ys.map encD)) false its its).toArray
        have hf : s.heap.objs.size ≤ s.heap.objs.size + 1 := Nat.le_succ _
        have hp := I.hok.fresh hf
        obtain ⟨l1, l2, l3⟩ := newL r hp o2
        refine ⟨.ref (s.heap.objs.size + 1), upd H (s.heap.objs.size + 1) (.lst ovs), I.laid (t' := s.toks) (fun _ _ z => PyProof.Rows.sortedAll_old z) hf ⟨?_, _, c, o1, hc⟩, rfl, p _ mp _ l1 l2 l3⟩
        rw [← o2.length, List.length_mergeSort, ra.length]
        exact hz
      · exact p.elim
    · exact c1_sorted hu pins s σ H xs us Q I rv ⟨mp, h, _, r, a, p⟩
  · exact p.elim
end Mi
namespace Mi
open PySem PySem.Spec PyProof.Rows L2
theorem tuple_mulW0 (l : Addr) (n : Nat) (dd : Option Addr) (sl : Array (Option Value)) (x : Int) (u : Tok) (c0 : (decide (x < -(2 ^ 63)) || decide (x ≥ 2 ^ 63)) = false) :
    Meets (Builtin.«tuple.__mul__» ⟨[.ref l, .int x u], []⟩) (fun _ R s => s.heap.get? l = some { cls := .type "tuple", dict := dd, data := .seq #[] n, slots := sl } ∧
      R (.ok (.ret (Value.ref l))) { s with heap := s.heap, toks := s.toks }) :=
  .of_wp fun prog w A R s h => by
    obtain ⟨hp, g, d, tk, os⟩ := s
    obtain ⟨hl, h⟩ := h
    have f1 := AutoSeq1.idx_int
    wp_walk using wpAny_loadPart' hl
    repeat (first
      | (refine wpAny_ite_false (decide_eq_false (by rw [c0]; exact Bool.false_ne_true)) ?_; wp_walk using wpAny_loadPart' hl))
    exact ⟨_, rfl, h⟩
def rRepT0 (K : PySem.W.Frag) : R2 := fun x y H Q => ∃ l k, x = .ref l ∧ y = .int k ∧ SqT K H l [] ∧ 2 ≤ k ∧ k ≤ 1000 ∧ Q (.ref l) H
theorem op_repT0 {X : Cx} : OpR X (binaryOp .Mult) (rRepT0 X.K) := by
  intro pins s σ H x y v u Q I rx ry h
  obtain ⟨l, k, rfl, rfl, hT, h1, h2, q⟩ := h
  cases rx
  obtain ⟨t, rfl⟩ := ry
  obtain ⟨its, r, ⟨⟨cls, dd, data, sl⟩, ho, hc, n, hd⟩, hs⟩ := I.tuple hT
  simp only at hc hd
  subst hc hd
  cases r
  have c0 : (decide (k < -(2 ^ 63)) || decide (k ≥ 2 ^ 63)) = false := by
    rw [decide_eq_false (by omega), decide_eq_false (by omega)] <;> rfl
  refine wpAny_binaryOp_repeat_ref (T := "tuple") (U := "int") (by decide) ⟨_, ho, rfl⟩ (fun s' => typeIs_int s' k t) noFill_tuple_mul F.fills_int_mul F.slot_int_rmul repeat_tuple F.slot_int_index.lookup
    (call_meets F.slot_int_rmul (typeIs_int s k t) F.entry_int_rmul (F.args_int_rmul_2 _ _) (int_rmul_tuple k t l #[] n dd sl)
      ⟨ho, rfl, ⟨_, ho, rfl⟩, call_meets F.slot_tuple_mul ⟨_, ho, rfl⟩ F.entry_tuple_mul (F.args_tuple_mul_2 _ _) (tuple_mulW0 l n dd sl k t c0) ⟨ho, ?_⟩⟩)
  exact ⟨.ref l, H, I, rfl, q⟩
def gMulB (x y : D) (h : Hq) : Option (D × Hq) := match x, y with
  | .tup [], .int k => if 2 ≤ k ∧ k ≤ 1000 then some (.tup [], h) else none
  | x, y => gMulA x y h
theorem o2_mulB {X : Cx} : O2 X (binaryOp .Mult) gMulB := by
  intro pins s σ H x y v u Q I rx ry ⟨mp, h, dx, dy, r, ax, ay, p⟩
  unfold gMulB at p
  split at p
  · split at p
    · rename_i k hz
      cases ax with
      | @tup a vs _ h1 n1 q1 =>
        cases ay
        cases q1
        exact op_repT0 pins s σ H _ _ v u Q I rx ry ⟨a, k, rfl, rfl, SqT.of h1, hz.1, hz.2, p _ mp H .refl r (.tup h1 n1 .nil)⟩
    · exact p.elim
  · exact o2_mulA pins s σ H x y v u Q I rx ry ⟨mp, h, _, _, r, ax, ay, p⟩
end Mi
namespace Mi
open PySem PySem.Spec PyProof.Rows L2
/-! ### tuples whose object is known; dict(tuple of pairs) -/
theorem call_tupleF {X : Cx} : CallR X (.type "tuple") (fun xs H Q => ∃ p ys, xs = [.ref p] ∧ SqL X.K H p ys ∧ ∀ (l : Addr) (o : Obj), H l = none → o.dict = none → Q (.ref l) (upd H l (.frz o (.tup ys)))) := by
  intro pins s σ H xs us Q I r h
  obtain ⟨p, ys, rfl, hq, q⟩ := h
  obtain ⟨u, rfl, rx⟩ := vals1 r
  cases rx
  obtain ⟨its, r', pl, hz⟩ := I.list hq
  have hlen := r'.length
  refine call_tuple_list pl.isList (fun h' kp => ?_) (by simp only [List.size_toArray] <;> omega)
  have I1 : Inv X pins σ H { s with heap := h' } := I.kept (t' := s.toks) kp
  have I2 : Inv X pins σ (upd H h'.objs.size (.frz { cls := .type "tuple", data := .seq its.toArray } (.tup ys))) { s with heap := h'.push { cls := .type "tuple", data := .seq its.toArray } } :=
    I1.laid (t' := s.toks) (fun b o e => Heap.get?_push_of_some _ e) (Nat.le_refl _) (show ObjOk X.prog X.w _ _ _ (.frz _ (.tup ys)) from ⟨Heap.get?_push_size _ rfl, hz, its, r', IsTup.new _ _⟩)
  exact ⟨.ref h'.objs.size, _, I2, rfl, q _ _ (I1.hok.fresh (Nat.le_refl _)) rfl⟩
section
variable {K : PySem.W.Frag} {mp : Wd} {H : Hp} {h : Hq}
theorem newTF (r : HRel K mp h H) {ds : List D} {vs : List V} {p : Addr} {o : Obj} (hp : H p = none) (hd : o.dict = none) (a : RpAll K mp H ds vs) : Le mp H mp (upd H p (.frz o (.tup vs))) ∧ HRel K mp h (upd H p (.frz o (.tup vs))) ∧ Rp K mp (upd H p (.frz o (.tup vs))) (.ftup ds) (.ref p) :=
  ⟨le_new r hp, r.new hp, .ftup ⟨⟨o, upd_same, hd⟩, r.fresh hp⟩ (a.mono (le_new r hp))⟩
end
def gTupleK (ds : List D) (h : Hq) : Option (D × Hq) := match ds with
  | [d] => (asLk h d).map fun xs => (.ftup xs, h)
  | _ => none
theorem c1_tupleK {X : Cx} : C1 X (.type "tuple") gTupleK := by
  intro pins s σ H xs us Q I rv ⟨mp, h, ds, r, a, p⟩
  unfold gTupleK at p
  split at p
  · rename_i d
    obtain ⟨v, rfl, q⟩ := a.one
    cases e : asLk h d with
    | none => rw [e] at p; exact p.elim
    | some ys =>
      rw [e] at p
      obtain ⟨pa, vs, rfl, hs, ra⟩ := asLk_ok r q e
      refine call_tupleF pins s σ H _ us Q I rv ⟨pa, vs, rfl, hs, fun l o hl ho => ?_⟩
      obtain ⟨l1, l2, l3⟩ := newTF r hl ho ra
      exact p _ mp _ l1 l2 l3
  · exact p.elim
def tTupF (t : TA) : TE := fun σ H Q => t σ H fun xs H1 => xs.length ≤ sizeLine ∧ ∀ (p : Addr) (o : Obj), H1 p = none → o.dict = none → Q (.ref p) (upd H1 p (.frz o (.tup xs)))
section
variable {X : Cx} {W : WX} {pos : Pos} {es : List Expr} {t : TA} {fs : Ev (List D)}
theorem pe_tupF {x1} (h : PA X es t) : PE X (.Tuple es x1 pos) (tTupF t) := by
  refine ⟨fun pins s σ H Q I hq => ?_⟩
  refine wpAny_Tuple_spliced (thn (h.run pos pins s σ H _ I hq) fun us s1 ⟨xs, H1, I1, r, z, q⟩ => ⟨by rw [← r.length]; exact z, ?_⟩)
  have hf : H1 s1.heap.objs.size = none := I1.hok.fresh (Nat.le_refl _)
  refine ⟨.ref s1.heap.objs.size, upd H1 s1.heap.objs.size (.frz { cls := .type "tuple", data := .seq us.toArray } (.tup xs)), I1.laid (t' := s1.toks) (fun b u e => Heap.get?_push_of_some _ e) (Nat.le_refl _) ?_, rfl, q _ _ hf rfl⟩
  exact ⟨Heap.get?_push_size _ rfl, z, us, r, ⟨_, Heap.get?_push_size _ rfl, rfl, _, rfl⟩⟩
def mTupK (f : Ev (List D)) : Ev D := fun ρ h => (f ρ h).bind fun ds h1 => if ds.length ≤ 100 then .ok (.ftup ds) h1 else .bad
theorem se_tupK {k : Nat} (hs : SA X W es fs) : SE X W (.Tuple es k pos) (mTupK fs) := PE.imp (pe_tupF hs) fun σ H Q ⟨ρ, h, mp, r, e, p⟩ => by
  refine ⟨ρ, h, mp, r, e, Post.mono (Post.bind (R := rA X.K) p) fun x H1 ⟨mp1, h1, d1, le1, r1, q1, p1⟩ => ?_⟩
  dsimp only at p1
  split at p1
  · rename_i hz
    refine ⟨by rw [← q1.length]; exact hundred hz, fun a o ha ho => ?_⟩
    obtain ⟨l1, l2, l3⟩ := newTF r1 ha ho q1
    exact p1 _ mp1 _ l1 l2 l3
  · exact p1.elim
end
section
variable {X : Cx}
theorem pairs_of2 {pins : List (Addr × Obj)} {σ : L2.St} {H : Hp} {s : Shared} (I : Inv X pins σ H s) : ∀ {ps : List Addr} {kvs : List (Key × V)}, Paired (fun p kv => SqT X.K H p [kV kv.1, kv.2]) ps kvs →
    ∃ (prs : List (Key × Value)) (pvs : List (Value × Value)), KV kvs prs ∧ prs.length = ps.length ∧ pvs.length = ps.length ∧ ∀ (j : Nat) (k v : Value), pvs[j]? = some (k, v) → ∃ b, ps[j]? = some b ∧ IsTup s.heap b #[k, v] ∧ ∃ kk, prs[j]? = some (kk, v) ∧ keyIs kk k = true
  | _, _, .nil => ⟨[], [], .nil, rfl, rfl, fun j k v e => by simp at e⟩
  | _, _, .cons (a := p) (b := kv) h t => by
    obtain ⟨prs, pvs, r, hl, hl2, hp⟩ := pairs_of2 I t
    obtain ⟨its, rv, ht, _⟩ := I.tuple h
    obtain ⟨u, y, ei, ru, ry⟩ := vals2 rv
    subst ei
    refine ⟨(kv.1, y) :: prs, (u, y) :: pvs, .cons ⟨rfl, ry⟩ r, by rw [List.length_cons, List.length_cons, hl], by rw [List.length_cons, List.length_cons, hl2], fun j k v e => ?_⟩
    cases j with
    | zero =>
      have e' : (u, y) = (k, v) := Option.some.inj e
      cases e'
      exact ⟨p, rfl, ht, kv.1, rfl, kV_is (P := X.prog) (w := X.w) ru⟩
    | succ j =>
      obtain ⟨b, e1, e2, kk, e3, e4⟩ := hp j k v (by simpa using e)
      exact ⟨b, by simpa using e1, e2, kk, by simpa using e3, e4⟩
theorem call_dictT (hcalm : X.calm = true) : CallR X (.type "dict") (fun xs H Q => ∃ (a : Addr) (o : Obj) (ps : List Addr) (kvs : List (Key × V)), xs = [.ref a] ∧ H a = some (.frz o (.tup (ps.map V.ref))) ∧ o.dict = none ∧ Paired (fun p kv => SqT X.K H p [kV kv.1, kv.2]) ps kvs ∧
    ∀ p, H p = none → Q (.ref p) (upd H p (.dK (mergeK [] kvs)))) := by
  intro pins s σ H xs us Q I r q
  obtain ⟨a, o, ps, kvs, ex, hq, hdn, hp, q⟩ := q
  subst ex
  obtain ⟨u, eu, rx⟩ := vals1 r
  subst eu
  cases rx
  obtain ⟨ho, hz, its, rv, o', ho', hc, n, hdat⟩ := (show ObjOk X.prog X.w H s.heap a (.frz o (.tup (ps.map V.ref))) from I.hok a _ hq)
  rw [ho] at ho'
  cases ho'
  have ei := refs_at rv
  subst ei
  rw [List.length_map] at hz
  obtain ⟨prs, pvs, rel, hl, hl2, hpr⟩ := pairs_of2 I hp
  refine PySem.call_dict_pairs (knd := mixKind X.prog X.w) (kvs := prs) (PairArg.tuple a (ps.map Value.ref).toArray (fun j => ps.getD j 0) pvs) (I.ok.hd hcalm) ⟨⟨o, n, ho, hc, hdn, hdat⟩, by simp [hl2], fun j k v e => ?_⟩ ⟨by rw [hl, hl2], fun i k v e => ?_⟩ (by rw [hl2]; exact hz) fun h' tk hd' k => ?_
  · obtain ⟨b, e1, e2, _⟩ := hpr j k v e
    have eg : ps.getD j 0 = b := by rw [List.getD_eq_getElem?_getD, e1]; rfl
    refine ⟨by simp [e1, eg], .inl ?_⟩
    show s.heap.IsTuple (ps.getD j 0) #[k, v]
    rw [eg]; exact e2
  · obtain ⟨b, e1, e2, kk, e3, e4⟩ := hpr i k v e
    exact ⟨kk, e3, e4⟩
  · have hm : (s.heap.objs.size == sysModules) = false := beq_eq_false_iff_ne.mpr (Nat.ne_of_gt I.big)
    have hlen : (mergeK [] kvs).length ≤ sizeLine := by
      refine Nat.le_trans (length_mergeK kvs []) ?_
      rw [List.length_nil, Nat.zero_add, rel.length, hl]
      exact hz
    exact ⟨.ref s.heap.objs.size, upd H s.heap.objs.size (.dK (mergeK [] kvs)), I.laid (t' := tk) (fun b o e => k b o (by simp) e) (Nat.le_refl _) (show ObjOk X.prog X.w _ _ _ (.dK (mergeK [] kvs)) from ⟨hlen, hm, merged [] prs, KV.merge rel .nil, hd'⟩), rfl, q _ (I.hok.fresh (Nat.le_refl _))⟩
end
/-- dict(..) of a list or a known tuple -/
def gDictA (ds : List D) (h : Hq) : Option (D × Hq) := match ds with
  | [.ftup xs] => (match isPrs xs with
    | some ps => if (ps.all fun p => (isK p.1).isSome) = true then some (.dic (mergeKV [] ps), h) else none
    | none => none)
  | ds => gDict ds h
theorem c1_dictA {X : Cx} (hc : X.calm = true) : C1 X (.type "dict") gDictA := by
  intro pins s σ H xs us Q I rv ⟨mp, h, ds, r, a, p⟩
  unfold gDictA at p
  split at p
  · obtain ⟨v, rfl, q⟩ := a.one
    split at p
    · rename_i ps e2
      split at p
      · rename_i hk
        cases q with
        | @ftup pa vs _ hs ra =>
          obtain ⟨⟨o, hs, hd⟩, _⟩ := hs
          obtain ⟨as, ks, ws, a1, a2, a3, a4, a5⟩ := prs_ok ra e2 hk
          obtain ⟨ks', vs', b1, b2, b3, b4⟩ := merge_ok ps (kvs := []) (ks := []) (vs := []) rfl rfl .nil a2 a4 a5
          refine call_dictT hc pins s σ H _ us Q I rv ⟨pa, o, as, ks.zip ws, rfl, by rw [← a1]; exact hs, hd, a3, fun b hb => ?_⟩
          have le := le_new r (o := .dK (mergeK [] (ks.zip ws))) hb
          refine p _ mp _ le (r.new hb) (.dicK ?_ b2 (r.fresh hb) b3 (b4.mono le))
          rw [upd_same]
          exact congrArg (fun z => some (HO.dK z)) b1
      · exact p.elim
    · exact p.elim
  · exact c1_dict hc pins s σ H xs us Q I rv ⟨mp, h, _, r, a, p⟩
section
variable {h : Hq} {ρ : Env'}
@[simp] theorem iterF {xs : List D} : iterD h (.ftup xs) = some (xs, none) := rfl
@[simp] theorem g_lenF {xs : List D} : gLen [.ftup xs] h = some (.int xs.length, h) := rfl
theorem g_ixF {xs : List D} {i : Nat} {d : D} (e : xs[i]? = some d) : gIx (.ftup xs) (.int i) h = some (d, h) := g_ixT (xs := xs) e
@[simp] theorem e_tupK {f : Ev (List D)} : mTupK f ρ h = (f ρ h).bind fun ds h1 => if ds.length ≤ 100 then .ok (.ftup ds) h1 else .bad := rfl
@[simp] theorem g_tupK {xs : List D} : gTupleK [.lst xs] h = some (.ftup xs, h) := rfl
end
/-! ### dict(scheme) -/
theorem isPrs_P : ∀ ps : List (Str × Str), isPrs (ps.map encP) = some (eD D.str D.str ps)
  | [] => rfl
  | p :: ps => by simp [isPrs, encP, isPrs_P ps, eD]
theorem merge_P : ∀ (ps pre : List (Str × Str)), (keys (pre ++ ps)).Nodup → mergeKV (eD D.str D.str pre) (eD D.str D.str ps) = eD D.str D.str (pre ++ ps)
  | [], pre, _ => by simp [mergeKV, eD]
  | p :: ps, pre, nd => by
    have hn : p.1 ∉ keys pre := fun z => by
      unfold keys at nd
      rw [List.map_append, List.nodup_append] at nd
      exact nd.2.2 p.1 z p.1 (by simp) rfl
    have e1 : putKV (eD D.str D.str pre) (.str p.1) (.str p.2) = eD D.str D.str (pre ++ [p]) := by
      rw [put_e ke_T, aput_new hn]
    have ih := merge_P ps (pre ++ [p]) (by simpa using nd)
    unfold mergeKV at ih ⊢
    show (eD D.str D.str ps).foldl _ (putKV (eD D.str D.str pre) (.str p.1) (.str p.2)) = _
    rw [e1, ih]
    simp
theorem g_dicP {h : Hq} {ps : List (Str × Str)} (nd : (ps.map (·.1)).Nodup) : gDictA [.ftup (ps.map encP)] h = some (.dic (eD D.str D.str ps), h) := by
  unfold gDictA
  simp only [isPrs_P]
  have := merge_P ps [] (by simpa [keys] using nd)
  rw [if_pos (by unfold eD; rw [List.all_map]; exact List.all_eq_true.mpr fun x _ => rfl)]
  have e0 : eD D.str D.str ([] : List (Str × Str)) = [] := rfl
  rw [e0] at this
  rw [this]; rfl
theorem g_notInP {h : Hq} {ps : List (Str × Str)} {n : Str} : gNotIn (.str n) (.dic (eD D.str D.str ps)) h = some (.bl (!(aget ps n).isSome), h) := by
  unfold gNotIn inH
  simp only [asD]
  rw [if_pos (kinds_e kk_T ne1 ps n), getD_e ke_T, Option.isSome_map]; rfl
theorem g_ixP {h : Hq} {ps : List (Str × Str)} {n so : Str} (g : aget ps n = some so) : gIx (.dic (eD D.str D.str ps)) (.str n) h = some (.str so, h) := by
  show (if kindsOk (eD D.str D.str ps) (.str n) = true then (getD (eD D.str D.str ps) (.str n)).map fun d => (d, h) else none) = _
  rw [if_pos (kinds_e kk_T ne1 ps n), getD_e ke_T, g]; rfl
theorem g_getP {h : Hq} {ps : List (Str × Str)} {n : Str} {d : D} : gDGet (.dic (eD D.str D.str ps)) [.str n, d] h = some (((aget ps n).map D.str).getD d, h) := by
  unfold gDGet
  simp only [asD, Option.bind_some]
  rw [if_pos (kinds_e kk_T ne1 ps n), getD_e ke_T]
/-! ### list * int -/
def gMulL (x y : D) (h : Hq) : Option (D × Hq) := match x, y with
  | .lst xs, .int k => if 0 ≤ k ∧ k ≤ 100 ∧ xs.length ≤ 1000 then some (.lst (List.replicate k.toNat xs).flatten, h) else none
  | x, y => gMulA x y h
theorem o2_mulL {X : Cx} : O2 X (binaryOp .Mult) gMulL := by
  intro pins s σ H x y v u Q I rx ry ⟨mp, h, dx, dy, r, ax, ay, p⟩
  unfold gMulL at p
  split at p
  · split at p
    · rename_i xs k hz
      obtain ⟨z1, z2, z3⟩ := hz
      cases ax with
      | @lst a vs _ h1 n1 q1 =>
        cases ay
        refine op_rep pins s σ H _ _ v u Q I rx ry ⟨a, k, vs, rfl, rfl, h1, by omega, by omega, ?_, fun q hq => ?_⟩
        · rw [← q1.length]
          have h2 : k.toNat ≤ 100 := by omega
          have h3 := Nat.mul_le_mul z3 h2
          have h4 : (sizeLine : Nat) = 16777216 := rfl
          omega
        · obtain ⟨l1, l2, l3⟩ := newL r hq (q1.rep k.toNat)
          exact p _ mp _ l1 l2 l3
    · exact p.elim
  · exact o2_mulA pins s σ H x y v u Q I rx ry ⟨mp, h, _, _, r, ax, ay, p⟩
end Mi
namespace Mi
open PySem PySem.Spec PyProof.Rows L2
/-! ### len(set(xs)), xs a list of distinct handles -/
def tLenSetT (K : PySem.W.Frag) (ta : TE) : TE := fun σ H Q => ta σ H fun x H1 => ∃ (l : Addr) (ks : List (Addr × List Int)), x = V.ref l ∧ SqL K H1 l (ks.map fun p => V.ref p.1) ∧ (∀ p ∈ ks, SqT K H1 p.1 (p.2.map V.int)) ∧ ks.length < 64 ∧ (ks.map (·.2)).Nodup ∧ Q (.int ks.length) H1
section
variable {X : Cx} {W : WX}
theorem len_same {α : Type} [DecidableEq α] {l l' : List α} (a : l.Nodup) (b : l'.Nodup) (h : ∀ x, x ∈ l ↔ x ∈ l') : l.length = l'.length :=
  Nat.le_antisymm (pigeon l l' a fun x hx => (h x).mp hx) (pigeon l' l b fun x hx => (h x).mpr hx)
theorem pe_lenSetT {a : Expr} {ta : TE} {p p2 q pos : Pos} (hc : X.calm = true) (hu : X.A.units + 65 < cLine) (hg : Gl X "len") (hm : X.mg "len" = none) (hg2 : Gl X "set") (hm2 : X.mg "set" = none) (ha : PE X a ta)
    (na : starEach [a] X.env = (false, eval a X.env) :: starEach [] X.env := by rfl) : PE X (.Call (.Name "len" p) [.Call (.Name "set" p2) [a] [] q] [] pos) (tLenSetT X.K ta) := by
  refine ⟨fun pins s σ H Q I h => ?_⟩
  refine Call_ (ld_blt I hg hm PySem.boot_len ?_)
  refine PyProof.Rows.callWith_builtin1 (PyProof.Rows.args_cons ?_ rfl) rfl rfl
  refine Call_ (ld_blt I hg2 hm2 PyProof.Rows.boot_set ?_)
  refine PyProof.Rows.callWith_type1 (PyProof.Rows.args_cons (thn (ha.run pins s σ H _ I h) fun v s1 ⟨x, H1, I1, r1, q1⟩ => PyProof.Rows.args_nil ?_) na) na rfl
  obtain ⟨l, ks, rfl, hq, hk, h1, hnd, q1⟩ := q1
  cases r1
  obtain ⟨its, r, pl, hz⟩ := I1.list hq
  refine call_set_tups (P := X.prog) (w := X.w) ks (I1.ok.hd hc) pl.isList (by simpa using refs_of_vals r) (fun p hp => I1.isT (hk p hp)) h1 (by omega) fun h' tk L es ep t R g k => ?_
  refine PyProof.Rows.args_nil ?_
  obtain ⟨o, ho, hex, hd⟩ := R.ob
  have hsz := R.size (s := { s1 with heap := h', toks := tk })
  have hf := R.fits (s := { s1 with heap := h', toks := tk })
  have hn : es.size = ks.length := by
    rw [hsz]
    have := len_same (l := L.map (·.2)) (l' := ks.map (·.2)) R.nd hnd fun y => ⟨fun hy => ?_, fun hy => ?_⟩
    · rw [List.length_map, List.length_map] at this; exact this
    · obtain ⟨p, hp, rfl⟩ := List.mem_map.mp hy
      exact List.mem_map.mpr ⟨p, List.mem_of_mem_take (g.sub p hp), rfl⟩
    · obtain ⟨p, hp, rfl⟩ := List.mem_map.mp hy
      exact g.all p (by rw [List.take_length]; exact hp)
  have I2 : Inv X pins σ H1 { s1 with heap := h', toks := tk } := I1.kept (t' := tk) k
  exact call_len_set ho hex hd hf (by rw [hn]; omega) ⟨.int ks.length, H1, I2.tok _, ⟨_, by rw [hn]⟩, q1⟩
def hdsOf : List D → Option (List Hd)
  | [] => some []
  | .tup [.int a, .int b] :: ds => (hdsOf ds).map ((a, b) :: ·)
  | _ => none
theorem hds_ok {K : PySem.W.Frag} {mp : Wd} {H : Hp} : ∀ {ds : List D} {vs : List V} {L : List Hd}, RpAll K mp H ds vs → hdsOf ds = some L → ∃ ks : List (Addr × List Int), vs = ks.map (fun p => V.ref p.1) ∧ (∀ p ∈ ks, SqT K H p.1 (p.2.map V.int)) ∧ ks.map (·.2) = L.map fun x => [x.1, x.2]
  | _, _, _, .nil, e => by cases e; exact ⟨[], rfl, fun p hp => (by cases hp), rfl⟩
  | _, _, _, .cons (d := d) r t, e => by
    unfold hdsOf at e
    split at e
    · rename_i h1; cases h1
    · rename_i a b ds' h1
      cases h1
      obtain ⟨L', e1, rfl⟩ := Option.map_eq_some_iff.mp e
      obtain ⟨ks, k1, k2, k3⟩ := hds_ok t e1
      cases r with
      | @tup p vs _ h2 n2 q2 =>
        obtain ⟨x, y, rfl, rx, ry⟩ := q2.two
        cases rx
        cases ry
        exact ⟨(p, [a, b]) :: ks, by rw [k1]; rfl, fun z hz => by
          rcases List.mem_cons.mp hz with rfl | hz
          · exact SqT.of h2
          · exact k2 z hz, by simp [k3]⟩
    · cases e
def mLenSet (f : Ev D) : Ev D := fun ρ h => (f ρ h).bind fun d h1 => match asLk h1 d with
  | some xs => (match hdsOf xs with
    | some L => if L.length < 64 ∧ L.Nodup then .ok (.int L.length) h1 else .bad
    | none => .bad)
  | none => .bad
theorem se_lenSet {e : Expr} {f : Ev D} {p p2 q pos : Pos} (hc : X.calm = true) (hu : X.A.units + 65 < cLine) (he : SE X W e f) (hm : X.mg "len" = none) (hm2 : X.mg "set" = none) (hg : Gl X "len" := by rfl) (hg2 : Gl X "set" := by rfl)
    (na : starEach [e] X.env = (false, eval e X.env) :: starEach [] X.env := by rfl) : SE X W (.Call (.Name "len" p) [.Call (.Name "set" p2) [e] [] q] [] pos) (mLenSet f) :=
  PE.imp (pe_lenSetT hc hu hg hm hg2 hm2 he na) fun σ H Q ⟨ρ, h, mp, r, en, q⟩ => by
    refine ⟨ρ, h, mp, r, en, Post.mono (Post.bind (R := rD X.K) q) fun x H1 ⟨mp1, h1, d1, le1, r1, q1, p1⟩ => ?_⟩
    dsimp only at p1
    split at p1
    · rename_i xs ex
      split at p1
      · rename_i L eL
        split at p1
        · rename_i hl
          obtain ⟨pa, vs, rfl, hs, ra⟩ := asLk_ok r1 q1 ex
          obtain ⟨ks, k1, k2, k3⟩ := hds_ok ra eL
          subst k1
          have kl : ks.length = L.length := by
            have := congrArg List.length k3
            rw [List.length_map, List.length_map] at this
            exact this
          refine ⟨pa, ks, rfl, hs, k2, by omega, ?_, ?_⟩
          · rw [k3]
            refine List.Pairwise.map _ (fun a b hab e => hab ?_) hl.2
            simp only [List.cons.injEq, and_true] at e
            exact Prod.ext e.1 e.2
          · rw [kl]
            exact p1.ok r1 (.int _)
        · exact p1.elim
      · exact p1.elim
    · exact p1.elim
end
end Mi
namespace Mi
open PySem PySem.Spec PyProof.Rows L2
/-! ### sorted(set(t)), t a tuple or a list of handles -/
abbrev setO (w : World) : Obj := { cls := .type "set", dict := none, data := .set #[] 0 (.fresh 0 0 (!w.params.followText "set-order")) }
section
variable {P : Program} {w : World} {A : Around} {E : Value → Shared → Prop} {s : Shared}
theorem get_none {h : Heap} {b : Addr} (hb : h.objs.size ≤ b) : h.get? b = none := by
  cases q : h.get? b with
  | none => rfl
  | some o => exact absurd (Nat.lt_of_lt_of_le (Heap.lt_size q) hb) (Nat.lt_irrefl _)
/-- the walk through a tuple of tuples that fills a new set -/
theorem fill_tup {l : Addr} {items : Array Value} (ks : List (Addr × List Int)) (hh : A.handled = none) (hl : s.heap.IsTuple l items) (hit : items.toList = ks.map fun p => Value.ref p.1) (hk : ∀ p ∈ ks, IsT P w s.heap p.2 p.1) (hfew : ks.length < 64) (hu : A.units + 1 < cLine)
    {R : Result → Shared → Prop} (hR : ∀ (h' : Heap) (tk : Nat) L es ep t, SetTR P w h' s.heap.objs.size L es ep t → Got ks ks.length L → (∀ b o, s.heap.get? b = some o → h'.get? b = some o) → R (.ok (.ret .none)) { s with heap := h', toks := tk }) :
    codeAny (model P w) A (.builtin "set.update.loop" ⟨[.ref s.heap.objs.size, .ref (s.heap.push (setO w)).objs.size], []⟩) R { s with heap := (s.heap.push (setO w)).push { cls := .type "tuple_iterator", data := .fields #[.ref l, .int 0 0] } } := by
  have hisz : items.size = ks.length := by
    have q := congrArg List.length hit
    rw [Array.length_toList, List.length_map] at q
    exact q
  have ho : ∃ o, s.heap.get? l = some o := let ⟨o, e, _⟩ := hl; ⟨o, e⟩
  obtain ⟨ol, hol⟩ := ho
  have hlS : l < s.heap.objs.size := Heap.lt_size hol
  have hl1 : (s.heap.push (setO w)).IsTuple l items := hl.push _
  have e1 : (s.heap.push (setO w)).objs.size = s.heap.objs.size + 1 := Heap.size_push ..
  have hS : ((s.heap.push (setO w)).push { cls := .type "tuple_iterator", data := .fields #[.ref l, .int 0 0] }).get? s.heap.objs.size = some (setO w) := Heap.get?_push_of_some _ (Heap.get?_push_size _ rfl)
  refine set_update_tups ((Walks.tuple (by simp [hh]) (s.heap.push (setO w)).objs.size l (by rw [e1]; exact Nat.ne_of_lt (Nat.lt_succ_of_lt hlS)) items).toS) s.heap.objs.size ?_ ks hisz hfew (fun i v hv => ?_) s.heap hk (get_none (Nat.le_refl _)) (fun b hb => get_none ?_) hu (items.size - 0) 0 _ (by omega) (Nat.zero_le _)
    ⟨⟨_, Heap.get?_push_size _ rfl, rfl, rfl⟩, hl1.push _⟩ (fun b o e => Heap.get?_push_of_some _ (Heap.get?_push_of_some _ e)) ⟨[], #[], 0, _, setTR_fresh hS, Got.zero ks⟩ (fun s' L es ep t hm hS' g' hkp => ?_)
  · rw [e1]
    simp only [List.mem_cons, List.not_mem_nil, or_false, not_or]
    exact ⟨Nat.ne_of_lt (Nat.lt_succ_self _), Nat.ne_of_gt hlS⟩
  · have q : items.toList[i]? = some v := by rw [Array.getElem?_toList]; exact hv
    rw [hit, List.getElem?_map] at q
    obtain ⟨p, hp, e⟩ := Option.map_eq_some_iff.mp q
    exact ⟨p, hp, e.symm⟩
  · rw [List.mem_singleton.mp hb, e1]
    exact Nat.le_succ _
  · obtain ⟨h', g2, d', tk', os'⟩ := s'
    have eg : g2 = s.gens := hm.gens
    have ed : d' = s.drawn := hm.drawn
    have eo : os' = s.os := hm.os
    subst eg; subst ed; subst eo
    rw [hisz] at g'
    exact hR h' tk' L es ep t hS' g' hkp
theorem set_of_tup {l : Addr} {items : Array Value} (ks : List (Addr × List Int)) {Q : Value → Shared → Prop} (hh : A.handled = none) (hl : s.heap.IsTuple l items) (hit : items.toList = ks.map fun p => Value.ref p.1)
    (hk : ∀ p ∈ ks, IsT P w s.heap p.2 p.1) (hfew : ks.length < 64) (hu : A.units + 4 < cLine)
    (h : ∀ (h' : Heap) (tk : Nat) L es ep t, SetTR P w h' s.heap.objs.size L es ep t → Got ks ks.length L → (∀ b o, s.heap.get? b = some o → h'.get? b = some o) → Q (.ref s.heap.objs.size) { s with heap := h', toks := tk }) :
    wpAny (model P w) A (call (.type "set") [.ref l]) Q E s := by
  obtain ⟨c, tl, hmro⟩ := F.called_set.mro
  have hmade := F.called_set.made
  have hsub := F.called_set.sub
  refine wpAny_call (codeAny_of_tree ?_)
  show wpAny _ _ (callAny (.type "set") _) _ _ _
  refine wpAny_pure ⟨Code.quiet_builtin _ (by decide +kernel), codeAny_builtin F.entry_type_call ?_⟩
  rw [Around.under_plain (weight_type_call_type "set" [.ref l] []) rfl]
  have h1 := F.called_set.notType
  have h2 := F.called_set.canCreate
  have hct := F.typeCall_set_1 (.ref l)
  repeat (any_goals (first | assumption | wp_step))
  refine codeAny_mono (code_set_led1 (.ref l) (E := E) (Q₁ := fun obj s₁ => obj = .ref s.heap.objs.size ∧ s₁ = { s with heap := s.heap.push (setO w) }) ⟨rfl, rfl⟩) fun r s₁ hr => ?_
  match r, hr with
  | .error e, hr => exact hr
  | .ok (.next), hr => exact hr.elim
  | .ok (.brk), hr => exact hr.elim
  | .ok (.cont), hr => exact hr.elim
  | .ok (.ret obj), hr =>
    obtain ⟨rfl, rfl⟩ := hr
    have hT : Shared.TypeIs { s with heap := s.heap.push (setO w) } (.ref s.heap.objs.size) "set" := ⟨_, Heap.get?_push_size _ rfl, rfl⟩
    have hli := F.called_set.init.lookup
    have hbi := F.called_set.init.bind (.ref s.heap.objs.size)
    repeat (any_goals (first | assumption | wp_step))
    refine codeAny_mono (codeAny_call_builtin (R := wants (fun r s₂ => r = .none ∧ ∃ h' tk L es ep t, s₂ = { s with heap := h', toks := tk } ∧ SetTR P w h' s.heap.objs.size L es ep t ∧ Got ks ks.length L ∧ (∀ b o, s.heap.get? b = some o → h'.get? b = some o)) E) F.called_set.init.plain F.entry_set_init (check_set_init_1 hT ?_)) fun r₂ s₂ hr₂ => ?_
    · have hl1 : (s.heap.push (setO w)).IsTuple l items := hl.push _
      have hl2 := hl1
      obtain ⟨ol, hol, hcl, nl, hdl⟩ := hl2
      obtain ⟨ocls, odict, odata, oslots⟩ := ol
      simp only at hcl hdl
      subst hcl; subst hdl
      have hsls := F.sub_tuple_set
      have hslf := F.sub_tuple_frozenset
      have hne : (Value.type "tuple" == Value.type "dict") = false := by decide
      unfold Builtin.«set.__init__» noKeywords Builtin.Frozenset.updateFrom
      generalize hPI : pyIter = PI
      wp_walk
      subst hPI
      refine wpAny_pyIter_tuple hl1 ?_
      refine wpAny_bind (wpAny_runValue (fill_tup (A := A.in1.in1) ks (by simp [hh]) hl hit hk hfew (by simp only [Around.in1_units]; omega) fun h' tk L es ep t R g k => ?_))
      refine wpAny_pure ?_
      show wpAny _ _ (ret Value.none) _ _ _
      exact wpAny_pure ⟨rfl, h', tk, L, es, ep, t, rfl, R, g, k⟩
    · match r₂, hr₂ with
      | .error e, hr₂ => exact hr₂
      | .ok (.next), hr₂ => exact hr₂.elim
      | .ok (.brk), hr₂ => exact hr₂.elim
      | .ok (.cont), hr₂ => exact hr₂.elim
      | .ok (.ret r), hr₂ =>
        obtain ⟨rfl, h', tk, L, es, ep, t, rfl, R, g, k⟩ := hr₂
        repeat (any_goals (first | assumption | wp_step))
        exact h _ _ _ _ _ _ R g k
end
def rSetHT (K : PySem.W.Frag) (P : Program) (w : World) : List V → Hp → VK → Prop := fun xs H Q => ∃ (l : Addr) (ks : List (Addr × List Int)), xs = [V.ref l] ∧ (SqT K H l (ks.map fun p => V.ref p.1) ∨ SqL K H l (ks.map fun p => V.ref p.1)) ∧ (∀ p ∈ ks, SqT K H p.1 (p.2.map V.int)) ∧ ks.length < 64 ∧
  ∀ a L, H a = none → (∀ p ∈ L, p ∈ ks) → (∀ p ∈ ks, p.2 ∈ L.map (·.2)) → Q (.ref a) (upd H a (SetTO P w a L))
theorem cr_setHT {X : Cx} (hc : X.calm = true) (hu : X.A.units + 64 < cLine) : CallR X (.type "set") (rSetHT X.K X.prog X.w) := by
  intro pins s σ H xs us Q I r h
  obtain ⟨l, ks, rfl, hl, hk, hf, q⟩ := h
  have ru := Vals.ref1 r
  have hn : H s.heap.objs.size = none := I.hok.fresh (Nat.le_refl _)
  have fin : ∀ (h' : Heap) (tk : Nat) (L : List (Addr × List Int)) (es : Array (Int × Value)) (ep : Nat) (t : SetTable), SetTR X.prog X.w h' s.heap.objs.size L es ep t → Got ks ks.length L → (∀ b o, s.heap.get? b = some o → h'.get? b = some o) → EP X pins σ Q (.ref s.heap.objs.size) { s with heap := h', toks := tk } := fun h' tk L es ep t R g k =>
    ⟨.ref s.heap.objs.size, upd H s.heap.objs.size (SetTO X.prog X.w s.heap.objs.size L), I.laid (t' := tk) k (Nat.le_refl _) (setTO_new R.t0), rfl, q _ L hn (fun p hp => List.mem_of_mem_take (g.sub p hp)) fun p hp => g.all p (by rw [List.take_length]; exact hp)⟩
  rw [ru]
  rcases hl with hl | hl
  · obtain ⟨its, rv, pl, hz⟩ := I.tuple hl
    exact set_of_tup ks (I.ok.hd hc) pl (by simpa using refs_of_vals rv) (fun p hp => I.isT (hk p hp)) hf (by omega) fin
  · obtain ⟨its, rv, pl, hz⟩ := I.list hl
    exact call_set_tups ks (I.ok.hd hc) pl.isList (by simpa using refs_of_vals rv) (fun p hp => I.isT (hk p hp)) hf (by omega) fin
theorem hds_rp {K : PySem.W.Frag} {mp : Wd} {H : Hp} : ∀ {ds : List D} {vs : List V} {L : List Hd}, RpAll K mp H ds vs → hdsOf ds = some L → ∃ ks : List (Addr × List Int), vs = ks.map (fun p => V.ref p.1) ∧ (∀ p ∈ ks, SqT K H p.1 (p.2.map V.int)) ∧ (∀ p ∈ ks, ∃ x : Hd, p.2 = [x.1, x.2] ∧ x ∈ L ∧ Rp K mp H (encH x) (.ref p.1)) ∧ ks.map (·.2) = L.map fun x => [x.1, x.2]
  | _, _, _, .nil, e => by cases e; exact ⟨[], rfl, fun p hp => (by cases hp), fun p hp => (by cases hp), rfl⟩
  | _, _, _, .cons (d := d) r t, e => by
    unfold hdsOf at e
    split at e
    · rename_i h1; cases h1
    · rename_i a b ds' h1
      cases h1
      obtain ⟨L', e1, rfl⟩ := Option.map_eq_some_iff.mp e
      obtain ⟨ks, k1, k2, k4, k3⟩ := hds_rp t e1
      cases r with
      | @tup p vs _ h2 n2 q2 =>
        have q3 := q2
        obtain ⟨x, y, rfl, rx, ry⟩ := q2.two
        cases rx
        cases ry
        exact ⟨(p, [a, b]) :: ks, by rw [k1]; rfl, fun z hz => by
          rcases List.mem_cons.mp hz with rfl | hz
          · exact SqT.of h2
          · exact k2 z hz, fun z hz => by
          rcases List.mem_cons.mp hz with rfl | hz
          · exact ⟨(a, b), rfl, by simp, .tup h2 n2 q3⟩
          · obtain ⟨x, e1, e2, e3⟩ := k4 z hz
            exact ⟨x, e1, List.mem_cons_of_mem _ e2, e3⟩, by simp [k3]⟩
    · cases e
def dedupH : List Hd → List Hd
  | [] => []
  | x :: l => if x ∈ dedupH l then dedupH l else x :: dedupH l
theorem mem_dedupH {x : Hd} : ∀ {l : List Hd}, x ∈ dedupH l ↔ x ∈ l
  | [] => Iff.rfl
  | y :: l => by
    unfold dedupH
    split
    · rename_i h
      rw [mem_dedupH, List.mem_cons]
      exact ⟨.inr, fun z => z.elim (fun z => by rw [z]; exact mem_dedupH.mp h) id⟩
    · rw [List.mem_cons, List.mem_cons, mem_dedupH]
theorem nd_dedupH : ∀ l : List Hd, (dedupH l).Nodup
  | [] => List.nodup_nil
  | y :: l => by
    unfold dedupH
    split
    · exact nd_dedupH l
    · rename_i h
      exact List.nodup_cons.mpr ⟨h, nd_dedupH l⟩
def setH (L : List Hd) : List Hd := sortH (dedupH L)
theorem mem_setH {x : Hd} {L : List Hd} : x ∈ setH L ↔ x ∈ L := by unfold setH; rw [mem_sortH, mem_dedupH]
theorem nd_setH (L : List Hd) : (setH L).Nodup := sortH_nd (nd_dedupH L)
theorem pw_setH (L : List Hd) : (setH L).Pairwise (fun a b => leH a b = true) := sortH_pw _
def smallH (L : List Hd) : Bool := L.all fun x => decide (0 ≤ x.1 ∧ x.1 < 100000 ∧ 0 ≤ x.2 ∧ x.2 < 100000)
def seqH (h : Hq) (d : D) : Option (List D) := match asT d with
  | some xs => some xs
  | none => asLk h d
def mSortSetH (f : Ev D) : Ev D := fun ρ h => (f ρ h).bind fun d h1 => match (seqH h1 d).bind hdsOf with
  | some L => if L.length < 64 ∧ smallH L = true then .ok (.lst ((setH L).map encH)) h1 else .bad
  | none => .bad
theorem code_le {x y : Hd} (h : TS.code 100000 [x.1, x.2] ≤ TS.code 100000 [y.1, y.2]) (b1 : 0 ≤ x.1 ∧ x.1 < 100000 ∧ 0 ≤ x.2 ∧ x.2 < 100000) (b2 : 0 ≤ y.1 ∧ y.1 < 100000 ∧ 0 ≤ y.2 ∧ y.2 < 100000) : leH x y = true := by
  have e : ∀ z : Hd, TS.code 100000 [z.1, z.2] = z.1 * 100000 + z.2 := fun z => by
    show z.1 * 100000 ^ 1 + (z.2 * 100000 ^ 0 + 0) = z.1 * 100000 + z.2
    have e1 : (100000 : Int) ^ 1 = 100000 := by decide
    have e0 : (100000 : Int) ^ 0 = 1 := by decide
    rw [e1, e0, Int.mul_one, Int.add_zero]
  rw [e, e] at h
  rw [leH_eq, decide_eq_true_eq]
  omega
section
variable {X : Cx} {W : WX}
theorem se_sortSetH {e : Expr} {f : Ev D} {p p2 pos pos2 : Pos} (hc : X.calm = true) (hu : X.A.units + 64 < cLine) (he : SE X W e f) (hms : X.mg "set" = none) (hm : X.mg "sorted" = none) (hgs : Gl X "set" := by rfl) (hg : Gl X "sorted" := by rfl)
    (na : starEach [e] X.env = (false, eval e X.env) :: starEach [] X.env := by rfl) (hpl2 : (backTo pos2 (starEach [] X.env)).any (·.1) = false := by rfl)
    (nb : starEach [.Call (.Name "set" p2) [e] [] pos2] X.env = (false, eval (.Call (.Name "set" p2) [e] [] pos2) X.env) :: starEach [] X.env := by rfl)
    (hpl : (backTo pos (starEach [] X.env)).any (·.1) = false := by rfl) (hv : bootBuiltins "sorted" = some (.builtin "sorted") := by decide +kernel) (hv2 : bootBuiltins "set" = some (.type "set") := by decide +kernel) :
    SE X W (.Call (.Name "sorted" p) [.Call (.Name "set" p2) [e] [] pos2] [] pos) (mSortSetH f) :=
  PE.imp (pe_callB (cr_sortedT hc) hg hm hv (pa_cons (pe_callTy (cr_setHT hc hu) hgs hms hv2 (pa_cons he pa_nil na) (by decide) (by decide) na hpl2) pa_nil nb) (by decide) (by decide) nb hpl) fun σ H Q ⟨ρ, h, mp, r, en, q⟩ => by
    refine ⟨ρ, h, mp, r, en, Post.mono (Post.bind (R := rD X.K) q) fun x H1 ⟨mp1, h1, d1, le1, r1, q1, p1⟩ => ?_⟩
    dsimp only at p1
    split at p1
    · rename_i L eL
      split at p1
      · rename_i hl
        obtain ⟨xs, ex, eh⟩ := Option.bind_eq_some_iff.mp eL
        have hsq : ∃ pa vs, x = .ref pa ∧ (SqT X.K H1 pa vs ∨ SqL X.K H1 pa vs) ∧ RpAll X.K mp1 H1 xs vs := by
          unfold seqH at ex
          split at ex
          · rename_i ys ey
            cases ex
            obtain ⟨pa, vs, e1, hs, ra⟩ := asT_ok q1 ey
            exact ⟨pa, vs, e1, .inl hs, ra⟩
          · obtain ⟨pa, vs, e1, hs, ra⟩ := asLk_ok r1 q1 ex
            exact ⟨pa, vs, e1, .inr hs, ra⟩
        obtain ⟨pa, vs, rfl, hs, ra⟩ := hsq
        obtain ⟨ks, k1, k2, k4, k3⟩ := hds_rp ra eh
        subst k1
        have kl : ks.length = L.length := by
          have := congrArg List.length k3
          rw [List.length_map, List.length_map] at this
          exact this
        have bd : ∀ z ∈ L, 0 ≤ z.1 ∧ z.1 < 100000 ∧ 0 ≤ z.2 ∧ z.2 < 100000 := fun z hz => of_decide_eq_true (List.all_eq_true.mp hl.2 z hz)
        refine ⟨pa, ks, rfl, hs, k2, by omega, fun qa S hq hS1 hS2 => ?_⟩
        have keep : ∀ p ∈ ks, SqT X.K (upd H1 qa (SetTO X.prog X.w qa S)) p.1 (p.2.map V.int) := fun p hp => by
          obtain ⟨z, e1, _, rz⟩ := k4 p hp
          have rz' := rz.mono (le_new r1 (o := SetTO X.prog X.w qa S) hq)
          cases rz' with
          | @tup a ws _ h2 n2 q2 =>
            obtain ⟨u, v, rfl, ru, rv⟩ := q2.two
            cases ru; cases rv
            rw [e1]; exact SqT.of h2
        refine ⟨qa, S, 2, 100000, rfl, upd_same, fun p hp => keep p (hS1 p hp), by omega, fun p hp => ?_, fun L' pb hperm hnd hlt hpw hpb => ?_⟩
        · obtain ⟨z, e1, hz, _⟩ := k4 p (hS1 p hp)
          have := bd z hz
          rw [e1]
          refine ⟨rfl, fun m hm => ?_⟩
          rcases List.mem_cons.mp hm with rfl | hm
          · exact ⟨this.1, this.2.1⟩
          · rw [List.mem_singleton.mp hm]; exact ⟨this.2.2.1, this.2.2.2⟩
        · -- the sorted list is the canonical one
          have le := le_new r1 (o := SetTO X.prog X.w qa S) hq
          have hL' : ∀ p ∈ L', p ∈ ks := fun p hp => hS1 p (hperm.mem_iff.mp hp)
          have ch : ∀ M : List (Addr × List Int), (∀ p ∈ M, p ∈ ks) → ∃ zs : List Hd, M.map (·.2) = zs.map (fun x => [x.1, x.2]) ∧ (∀ z ∈ zs, z ∈ L) ∧ RpAll X.K mp1 H1 (zs.map encH) (M.map fun q => V.ref q.1) := by
            intro M
            induction M with
            | nil => exact fun _ => ⟨[], rfl, fun z hz => (by cases hz), .nil⟩
            | cons p M ih =>
              intro hM
              obtain ⟨zs, z1, z2, z3⟩ := ih fun q hq => hM q (List.mem_cons_of_mem _ hq)
              obtain ⟨z, e1, hz, rz⟩ := k4 p (hM p (by simp))
              exact ⟨z :: zs, by simp [z1, e1], fun y hy => by
                rcases List.mem_cons.mp hy with rfl | hy
                · exact hz
                · exact z2 y hy, .cons rz z3⟩
          obtain ⟨zs, z1, z2, z3⟩ := ch L' hL'
          have nz : zs.Nodup := by
            rw [z1] at hnd
            exact List.Pairwise.of_map _ (fun a b hab e => hab (by rw [e])) hnd
          have pz : zs.Pairwise (fun a b => leH a b = true) := by
            have hp2 : (L'.map (·.2)).Pairwise fun a b => TS.code 100000 a ≤ TS.code 100000 b := List.pairwise_map.mpr hpw
            rw [z1] at hp2
            have hp3 : zs.Pairwise fun a b => TS.code 100000 [a.1, a.2] ≤ TS.code 100000 [b.1, b.2] := (List.pairwise_map (R := fun a b : List Int => TS.code 100000 a ≤ TS.code 100000 b) (f := fun x : Hd => [x.1, x.2])).mp hp2
            exact List.Pairwise.imp_of_mem (fun {a b} ha hb hle => code_le hle (bd a (z2 a ha)) (bd b (z2 b hb))) hp3
          have mz : ∀ y, y ∈ zs ↔ y ∈ setH L := fun y => by
            rw [mem_setH]
            refine ⟨z2 y, fun hy => ?_⟩
            have h1 : [y.1, y.2] ∈ ks.map (·.2) := by rw [k3]; exact List.mem_map.mpr ⟨y, hy, rfl⟩
            obtain ⟨p, hp, e1⟩ := List.mem_map.mp h1
            have h2 := hS2 p hp
            have h3 : p.2 ∈ L'.map (·.2) := by
              obtain ⟨p', hp', e'⟩ := List.mem_map.mp h2
              exact List.mem_map.mpr ⟨p', hperm.mem_iff.mpr hp', e'⟩
            rw [e1, z1] at h3
            obtain ⟨y', hy', e2⟩ := List.mem_map.mp h3
            simp only [List.cons.injEq, and_true] at e2
            have : y' = y := Prod.ext e2.1 e2.2
            rw [← this]; exact hy'
          have ez : zs = setH L := riseH_eq nz (nd_setH L) pz (pw_setH L) mz
          rw [ez] at z3
          obtain ⟨l1, l2, l3⟩ := newL (r1.new hq) hpb (z3.mono le)
          exact p1 _ mp1 _ (le.trans l1) l2 l3
      · exact p1.elim
    · exact p1.elim
end
@[simp] theorem e_sortSetH {f : Ev D} {ρ : Env'} {h : Hq} : mSortSetH f ρ h = (f ρ h).bind fun d h1 => match (seqH h1 d).bind hdsOf with
  | some L => if L.length < 64 ∧ smallH L = true then .ok (.lst ((setH L).map encH)) h1 else .bad
  | none => .bad := rfl
theorem hdsOf_enc : ∀ L : List Hd, hdsOf (L.map encH) = some L
  | [] => rfl
  | x :: L => by simp [hdsOf, encH, hdsOf_enc L]
end Mi
namespace Mi
open PySem PySem.Spec PyProof.Rows L2
/-! ### sets of things of a kind, by the library's words about tables -/
/-- what a kind must bring for its things to lie in a set -/
structure InSet {P : Program} {w : World} {κ : Type} [DecidableEq κ] (N : HeapKind P w κ) : Prop where
  up : ∀ {h h' : Heap} {k : κ} {b : Addr}, N.is h k b → (∀ c o, h.get? c = some o → h'.get? c = some o) → N.is h' k b
  off : ∀ {h h' : Heap} {k : κ} {a b : Addr} {o : Obj} {D : Array (Int × Value)} {n : Nat} {t : SetTable}, N.is h k b → h.get? a = some o → o.data = .set D n t → Heap.SameBut a h h' → N.is h' k b
  cls : ∀ {A : Around} {E : Value → Shared → Prop} {s : Shared} {k : κ} {b : Addr} {Q : Bool → Shared → Prop}, N.is s.heap k b → Q false s → wpAny (model P w) A (ofAClassStatement 8 (.ref b)) Q E s
  hby : ∀ {A : Around} {E : Value → Shared → Prop} {s : Shared} {k : κ} {b : Addr} {Q : Bool → Shared → Prop}, N.is s.heap k b → (∀ c, Q c s) → wpAny (model P w) A (hashByValue 8 (.ref b)) Q E s
/-- the c-th step of the way of a hash -/
abbrev pAt (m : Nat) (h : Int) (c : Nat) : SetTable.Probe := nth m (runAt m (SetTable.bits h % (m + 1)) (SetTable.bits h)) c
theorem pAt_dummy (m : Nat) : ∀ (n : Nat) (p : SetTable.Probe), p.dummy = none → (nth m p n).dummy = none
  | 0, _, e => e
  | n + 1, p, e => pAt_dummy m n (adv m p) (by unfold adv; split <;> exact e)
theorem range_get {α : Type} : ∀ L : List α, (List.range L.length).filterMap (fun i => L[i]?) = L
  | [] => rfl
  | x :: L => by
    rw [List.length_cons, List.range_succ_eq_map, List.filterMap_cons_some (f := fun i => (x :: L)[i]?) (a := 0) (b := x) rfl, List.filterMap_map]
    exact congrArg (x :: ·) (range_get L)
section
variable {P : Program} {w : World} {κ : Type} [DecidableEq κ] {N : HeapKind P w κ} {A : Around} {E : Value → Shared → Prop} {s : Shared}
def entN (N : HeapKind P w κ) (p : Addr × κ) : Int × Value := (N.hash p.2, Value.ref p.1)
/-- the set at a holds just the things of L -/
structure SgS (N : HeapKind P w κ) (h : Heap) (a : Addr) (L : List (Addr × κ)) (D : Array (Int × Value)) (n : Nat) (t : SetTable) : Prop where
  ob : ∃ o, h.get? a = some o ∧ o.ExactSet ∧ o.data = .set D n t
  en : D.toList = L.map (entN N)
  tb : TabOk t (L.map fun p => N.hash p.2)
  nd : (L.map (·.2)).Nodup
  is : ∀ p ∈ L, N.is h p.2 p.1
  ld : w.params.followText "set-order" = true ∨ t.led = true
  rm : 5 * L.length < 3 * t.mask
  fw : L.length ≤ 76
variable {a : Addr} {L : List (Addr × κ)} {D : Array (Int × Value)} {n : Nat} {t : SetTable}
theorem SgS.sz {h : Heap} (R : SgS N h a L D n t) : D.size = L.length := by
  rw [← Array.length_toList, R.en, List.length_map]
theorem SgS.ft {h : Heap} (R : SgS N h a L D n t) : t.fits D.size = true := by
  have e1 : t.place.size = L.length := by rw [R.tb.sz, List.length_map]
  have e2 := R.sz
  have e3 := R.rm
  have e4 : t.fill = t.place.size := by show t.place.size + t.dummies.size = _; rw [R.tb.dm]; rfl
  unfold SetTable.fits
  simp only [Bool.and_eq_true, beq_iff_eq, decide_eq_true_eq]
  omega
theorem SgS.row {h : Heap} (R : SgS N h a L D n t) {i : Nat} {p : Addr × κ} (e : L[i]? = some p) : D[i]? = some (entN N p) := by
  rw [← Array.getElem?_toList, R.en, List.getElem?_map, e]; rfl
/-- a search among such things shows nothing -/
theorem seen_N (G : InSet N) {k : κ} {b : Addr} {Q : Bool → Shared → Prop} (hk : N.is s.heap k b) {ys : List Value} (hy : ∀ y ∈ ys, ∃ k' c, y = Value.ref c ∧ N.is s.heap k' c) (q : Q false s) :
    wpAny (model P w) A (searchCouldBeSeen (.ref b) ys) Q E s := by
  unfold searchCouldBeSeen
  refine wpAny_bind ?_
  refine wpAny_forIn_list _ (fun left r s' => r.1 = none ∧ s' = s ∧ ∀ y ∈ left, ∃ k' c, y = Value.ref c ∧ N.is s.heap k' c) _ (fun v left r s1 ⟨e1, e2, al⟩ => ?_) (fun r s1 ⟨e1, e2, _⟩ => ?_) _ _ ⟨rfl, rfl, hy⟩
  · subst e2
    obtain ⟨k', c, rfl, hc⟩ := al v (by simp)
    have al2 : ∀ y ∈ left, ∃ k' c, y = Value.ref c ∧ N.is s1.heap k' c := fun y h => al y (by simp [h])
    dsimp only
    by_cases hv : (b == c || (carriedByValue (.ref b) && carriedByValue (.ref c))) = true
    · exact wp_if_pos hv (wpAny_pure ⟨rfl, rfl, al2⟩)
    · refine wp_if_neg hv (wpAny_bind (N.quiet hk ?_))
      simp only [Bool.not_true, Bool.false_eq_true, if_false]
      refine wpAny_bind (N.quiet hc ?_)
      simp only [Bool.not_true, Bool.false_eq_true, if_false]
      refine wpAny_bind (G.cls hk ?_)
      simp only [Bool.false_eq_true, if_false]
      refine wpAny_bind (G.cls hc ?_)
      simp only [Bool.false_eq_true, if_false]
      exact wpAny_pure ⟨rfl, rfl, al2⟩
  · obtain ⟨r1, r2⟩ := r
    simp only at e1
    subst e1; subst e2
    exact wpAny_pure q
/-- the search, from a step of the way on -/
theorem sg_from (G : InSet N) (R : SgS N s.heap a L D n t) {x : Addr} {k : κ} (hx : N.is s.heap k x) (hr : N.room A) {M : Nat} (m1 : M < 10 * SetTable.turns t.mask) (m2 : (pAt t.mask (N.hash k) M).j ∉ t.place.toList)
    (m3 : ∀ c, c < M → (pAt t.mask (N.hash k) c).j ∈ t.place.toList) {Q : SetFound → Shared → Prop} (yes : k ∈ L.map (·.2) → Q (.there none) s) (no : k ∉ L.map (·.2) → Q (.free (pAt t.mask (N.hash k) M).j false) s) :
    ∀ (f c : Nat) (st : Option SetTable.Probe), st.getD (t.probeStart (N.hash k)) = pAt t.mask (N.hash k) c → c ≤ M → M - c < f → (∀ (i : Nat) p, L[i]? = some p → p.2 = k → ∃ d, c ≤ d ∧ d < M ∧ t.place.toList[i]? = some (pAt t.mask (N.hash k) d).j) →
      wpAny (model P w) A (setSearchFrom a (.ref x) (N.hash k) true f st) Q E s := by
  obtain ⟨o, ho, hex, hd⟩ := R.ob
  have gw : ¬ t.gaveWay = true := by unfold SetTable.gaveWay; rw [mask_odd R.tb.mok]; decide
  have hAt : ∀ (i : Nat) p, L[i]? = some p → (D[i]?.map (·.1)).getD 0 = N.hash p.2 := fun i p e => by rw [R.row e]; rfl
  intro f
  induction f with
  | zero => exact fun c st _ _ z => absurd z (Nat.not_lt_zero _)
  | succ f ih =>
    intro c st e0 hc hf hre
    rw [setSearchFrom_succ]
    refine wpAny_bind (wpAny_setState_of ho hd R.ft ?_)
    dsimp only
    refine wp_if_neg gw ?_
    try refine wpAny_bind (wpAny_pure ?_)
    have e1 : ∀ q, nth t.mask (pAt t.mask (N.hash k) c) q = pAt t.mask (N.hash k) (c + q) := fun q => (nth_add t.mask c _ q).symm
    have sp := go_spec t R.tb.ris R.tb.dm (fun i => (D[i]?.map (·.1)).getD 0) (N.hash k) (10 * SetTable.turns t.mask) (M - c) (pAt t.mask (N.hash k) c) (pAt_dummy _ c _ rfl) (by omega)
      (fun q hq => by rw [e1]; exact m3 _ (by omega)) (by rw [e1, show c + (M - c) = M by omega]; exact m2)
    have pe : t.probe (fun i => (D[i]?.map (·.1)).getD 0) (N.hash k) (st.getD (t.probeStart (N.hash k))) = SetTable.probe.go t (fun i => (D[i]?.map (·.1)).getD 0) (N.hash k) (10 * SetTable.turns t.mask) (pAt t.mask (N.hash k) c) := by rw [e0]; rfl
    rw [pe]
    rcases sp with ⟨q, i, hq, hi, hh, hno, hgo⟩ | ⟨hno, hgo⟩
    · -- one with this hash
      rw [hgo, e1, e1]
      dsimp only
      rw [e1] at hi
      have hil : i < L.length := by
        have z1 := (List.getElem?_eq_some_iff.mp hi).1
        have z2 := R.tb.sz
        rw [List.length_map] at z2
        rw [Array.length_toList] at z1
        omega
      obtain ⟨p, hp⟩ : ∃ p, L[i]? = some p := ⟨_, List.getElem?_eq_getElem hil⟩
      have hm : p ∈ L := List.mem_of_getElem? hp
      have hsl : t.slot (pAt t.mask (N.hash k) (c + q)).j = .live i := slot_live R.tb.ris hi
      have go : wpAny (model P w) A (searchRest a (.ref x) (N.hash k) true f D t (pAt t.mask (N.hash k) (c + q)).j i (pAt t.mask (N.hash k) (c + (q + 1)))) Q E s := by
        unfold searchRest
        rw [R.row hp]
        unfold entN
        dsimp only
        refine wpAny_bind (wpAny_holding (N.eqBool hr (R.is p hm) hx (wpAny_bind (wpAny_setState_of ho hd R.ft ?_))))
        dsimp only
        by_cases same : p.2 = k
        · exact wp_if_pos (by simp [same]) (wpAny_pure (yes (List.mem_map.mpr ⟨p, hm, same⟩)))
        · refine wp_if_neg (by simp [same]) ?_
          try refine wpAny_bind (wpAny_pure ?_)
          rw [sameMem]
          dsimp only
          simp only [if_true, hsl, R.row hp]
          unfold entN
          refine wpAny_bind (wpAny_isSame_ref_self (wpAny_bind (wpAny_pure ?_)))
          simp only [if_true]
          refine wp_if_neg (by simp [same]) (ih (c + (q + 1)) _ rfl (by omega) (by omega) fun j pj ej ek => ?_)
          obtain ⟨d, d1, d2, d3⟩ := hre j pj ej ek
          refine ⟨d, ?_, d2, d3⟩
          have n1 : ¬ d < c + q := fun z => hno (d - c) j (by omega) (by rw [e1, show c + (d - c) = d by omega]; exact d3) (by rw [← ek]; exact hAt j pj ej)
          have n2 : d ≠ c + q := fun z => by
            rw [z] at d3
            have y := slot_live R.tb.ris d3
            rw [hsl] at y
            injection y with y
            rw [← y, hp] at ej
            cases ej
            exact same ek
          omega
      by_cases hl : t.led = true
      · refine wp_if_neg (by simp [hl]) ?_
        try refine wpAny_bind (wpAny_pure ?_)
        exact go
      · refine wp_if_pos (by simp [hl]) (wpAny_bind (seen_N G hx (fun y hy => ?_) ?_))
        · obtain ⟨u, hu, eu⟩ := List.mem_map.mp hy
          have u1 : u ∈ D.toList := by have : u ∈ D ∧ u.1 = N.hash k := by simpa using hu
                                       simpa using this.1
          rw [R.en] at u1
          obtain ⟨pj, hj, rfl⟩ := List.mem_map.mp u1
          exact ⟨pj.2, pj.1, eu.symm, R.is pj hj⟩
        · refine wp_if_neg (by decide) ?_
          try refine wpAny_bind (wpAny_pure ?_)
          exact go
    · -- an empty slot
      rw [hgo, e1, show c + (M - c) = M by omega]
      dsimp only
      refine wpAny_pure (no fun hm => ?_)
      obtain ⟨p, hp, ek⟩ := List.mem_map.mp hm
      obtain ⟨j, hj, ej⟩ := List.getElem_of_mem hp
      have ej2 : L[j]? = some p := by rw [List.getElem?_eq_getElem hj, ej]
      obtain ⟨d, d1, d2, d3⟩ := hre j p ej2 ek
      exact hno (d - c) j (by omega) (by rw [e1, show c + (d - c) = d by omega]; exact d3) (by rw [← ek]; exact hAt j p ej2)
theorem sg_search (G : InSet N) (R : SgS N s.heap a L D n t) {x : Addr} {k : κ} (hx : N.is s.heap k x) (hr : N.room A) {Q : SetFound → Shared → Prop} (yes : k ∈ L.map (·.2) → Q (.there none) s)
    (no : ∀ M, k ∉ L.map (·.2) → way t.mask (N.hash k) M ∉ t.place.toList → (∀ c, c < M → way t.mask (N.hash k) c ∈ t.place.toList) → Q (.free (way t.mask (N.hash k) M) false) s) :
    wpAny (model P w) A (setSearch a (.ref x) (N.hash k) true) Q E s := by
  have e3 := R.rm
  obtain ⟨M, m1, m2, m3⟩ := R.tb.first (by rw [List.length_map]; omega) (N.hash k)
  have big : 10 * SetTable.turns t.mask ≤ 1420 := by
    unfold SetTable.turns
    rcases R.tb.mok with e | e | e <;> rw [e] <;> decide
  unfold setSearch
  refine sg_from G R hx hr m1 m2 m3 yes (fun z => no M z m2 m3) _ 0 none rfl (Nat.zero_le _) (by omega) fun i p hp hk => ?_
  have z1 : i < t.place.toList.length := by
    rw [Array.length_toList, R.tb.sz, List.length_map]
    exact (List.getElem?_eq_some_iff.mp hp).1
  have hj := List.getElem?_eq_getElem z1
  obtain ⟨d, d1, d2⟩ := R.tb.before m2 (i := i) (by rw [List.getElem?_map, hp, ← hk]; rfl) hj
  refine ⟨d, Nat.zero_le _, d1, ?_⟩
  rw [hj]
  exact congrArg some d2.symm
/-- rows in another order -/
theorem sg_order (L : List (Addr × κ)) (D : Array (Int × Value)) (or : Array Nat) (en : D.toList = L.map (entN N)) (hp : or.toList.Perm (List.range L.length)) :
    ∃ L2 : List (Addr × κ), (or.filterMap (D[·]?)).toList = L2.map (entN N) ∧ L2.Perm L ∧ (L2.map fun p => N.hash p.2) = or.toList.map fun i => (D.map (·.1)).getD i 0 := by
  have at_ : ∀ i, D[i]? = (L[i]?).map (entN N) := fun i => by rw [← Array.getElem?_toList, en, List.getElem?_map]
  have key : ∀ l : List Nat, (∀ i ∈ l, i < L.length) → l.filterMap (fun i => D[i]?) = (l.filterMap fun i => L[i]?).map (entN N) ∧ ((l.filterMap fun i => L[i]?).map fun p => N.hash p.2) = l.map fun i => (D.map (·.1)).getD i 0 := by
    intro l
    induction l with
    | nil => exact fun _ => ⟨rfl, rfl⟩
    | cons i l ih =>
      intro hl
      obtain ⟨z1, z2⟩ := ih fun j hj => hl j (List.mem_cons_of_mem _ hj)
      obtain ⟨p, hp⟩ : ∃ p, L[i]? = some p := ⟨_, List.getElem?_eq_getElem (hl i (by simp))⟩
      have hD : D[i]? = some (entN N p) := by rw [at_, hp]; rfl
      have hg : (D.map (·.1)).getD i 0 = N.hash p.2 := by rw [Array.getD_eq_getD_getElem?, Array.getElem?_map, hD]; rfl
      rw [List.filterMap_cons_some hD, List.filterMap_cons_some hp, List.map_cons, List.map_cons, List.map_cons, z1, z2, hg]
      exact ⟨rfl, rfl⟩
  obtain ⟨z1, z2⟩ := key or.toList fun i hi => List.mem_range.mp (hp.mem_iff.mp hi)
  refine ⟨or.toList.filterMap fun i => L[i]?, by first | (rw [Array.toList_filterMap]; exact z1) | simpa using z1, ?_, z2⟩
  have all := range_get L
  have := hp.filterMap fun i => L[i]?
  rwa [all] at this
/-- the table laid anew -/
theorem sg_relay (G : InSet N) {o : Obj} (ho : s.heap.get? a = some o) (hex : o.ExactSet) (hd : o.data = .set D n t) (en : D.toList = L.map (entN N)) (psz : t.place.size = D.size) (dm : t.dummies = #[]) (le : D.size ≤ t.mask)
    (nd : (L.map (·.2)).Nodup) (is : ∀ p ∈ L, N.is s.heap p.2 p.1) (ld : w.params.followText "set-order" = true ∨ t.led = true) (fw : L.length ≤ 76) {wd M : Nat} (hw : SetTable.sizeAbove wd - 1 = M) (hM : MaskOk M) (h128 : SetTable.sizeAbove wd ≤ 128)
    (rm : 5 * L.length < 3 * M) {Q : Unit → Shared → Prop} (q : ∀ h' L' D' n' t', Heap.SameBut a s.heap h' → SgS N h' a L' D' n' t' → L'.Perm L → Q () { s with heap := h' }) : wpAny (model P w) A (setRelay a wd) Q E s := by
  have sz : D.size = L.length := by rw [← Array.length_toList, en, List.length_map]
  have ft : t.fits D.size = true := by
    have e4 : t.fill = t.place.size := by show t.place.size + t.dummies.size = _; rw [dm]; rfl
    unfold SetTable.fits
    simp only [Bool.and_eq_true, beq_iff_eq, decide_eq_true_eq]
    omega
  obtain ⟨t', or, e, hp, T, em, el, epl, ed⟩ := relaid_ok t (hs := D.map (·.1)) hw hM (by rw [Array.size_map, sz]; omega)
  rw [Array.size_map, sz] at hp
  obtain ⟨L2, r1, r2, r3⟩ := sg_order L D or en hp
  rw [← r3] at T
  have sz2 : (or.filterMap (D[·]?)).size = D.size := by rw [← Array.length_toList, r1, List.length_map, r2.length_eq, sz]
  rw [setRelay_eq]
  refine wpAny_bind (wpAny_setState_of ho hd ft ?_)
  dsimp only
  refine wp_if_neg (by rw [sizeLine_eq]; omega) ?_
  try refine wpAny_bind (wpAny_pure ?_)
  rw [e]
  dsimp only
  refine wpAny_bind (wp_if_neg (by rw [sz2]; simp) ?_)
  try refine wpAny_bind (wpAny_pure ?_)
  refine wpAny_pure ?_
  dsimp only
  have sb : Heap.SameBut a s.heap (s.heap.update a (Obj.putSet (or.filterMap (D[·]?)) t')) := Heap.SameBut.update ..
  refine wpAny_storeSet_of ho hd (q _ L2 _ (n + 1) t' sb ⟨⟨_, store_at ho hd, ⟨hex.1, hex.2.1, hex.2.2⟩, rfl⟩, r1, T, (r2.map (·.2)).nodup_iff.mpr nd, fun p hq => G.off (is p (r2.mem_iff.mp hq)) ho hd sb, by rw [el]; exact ld, by rw [r2.length_eq, em]; exact rm, by rw [r2.length_eq]; exact fw⟩ r2) (by rw [sz2, sz, sizeLine_eq]; omega)
theorem ins_perm {α : Type} (l : List α) (i : Nat) (x : α) : (l.take i ++ x :: l.drop i).Perm (x :: l) := by
  have z := List.perm_middle (a := x) (l₁ := l.take i) (l₂ := l.drop i)
  rwa [List.take_append_drop] at z
/-- one is put in -/
theorem sg_add (G : InSet N) (R : SgS N s.heap a L D n t) {x : Addr} {k : κ} (hx : N.is s.heap k x) (hr : N.room A) (fw : L.length + 1 ≤ 76) {Q : Bool → Shared → Prop}
    (q : ∀ b h' L' D' n' t', Heap.SameBut a s.heap h' → SgS N h' a L' D' n' t' → (k ∈ L.map (·.2) → L' = L) → (k ∉ L.map (·.2) → L'.Perm ((x, k) :: L)) → Q b { s with heap := h' }) :
    wpAny (model P w) A (setAddHashed a (.ref x) (N.hash k)) Q E s := by
  obtain ⟨o, ho, hex, hd⟩ := R.ob
  have sz := R.sz
  have rm := R.rm
  unfold setAddHashed
  refine wpAny_holding ?_
  rw [show (100000 : Nat) = 99999 + 1 from rfl, setAddHashedIn_succ]
  refine wpAny_bind (wpAny_setState_of ho hd R.ft ?_)
  dsimp only
  refine wp_if_neg (by simp [byScan, Value.scannable]) ?_
  try refine wpAny_bind (wpAny_pure ?_)
  refine wpAny_bind (sg_search G R hx hr (fun hm => ?_) fun M hm m2 m3 => ?_)
  · exact wpAny_pure (q false s.heap L D n t (Heap.SameBut.refl a s.heap) R (fun _ => rfl) fun z => absurd hm z)
  · dsimp only
    refine wpAny_bind (wpAny_setState_of ho hd R.ft ?_)
    dsimp only
    have tp := R.tb.put m2 m3
    obtain ⟨j, hj⟩ : ∃ j, j = way t.mask (N.hash k) M := ⟨_, rfl⟩
    rw [← hj] at tp ⊢
    obtain ⟨q1, q2, q3, q4, q5, q6, q7, q8, q9⟩ := tp
    obtain ⟨⟨t1, i⟩, hpt⟩ : ∃ y, t.put j = y := ⟨_, rfl⟩
    rw [hpt] at q1 q3 q4 q5 q6 q7 q8 q9 ⊢
    dsimp only at q1 q3 q4 q5 q6 q7 q8 q9 ⊢
    suffices main : ∀ T : SetTable, T.place = t1.place → T.dummies = t1.dummies → T.mask = t1.mask → T.led = t1.led → wpAny (model P w) A (storeSet a (SetTable.insertAt D i (N.hash k, Value.ref x)) T >>= fun _ => if (!false && T.tooFull) = true then setRelay a (SetTable.grown (D.size + 1)) >>= fun _ => pure true else pure true) Q E s by
      by_cases pl1 : t1.plain = true
      · exact wp_if_pos pl1 (wpAny_bind (G.hby hx fun c => main (if c = true then t1 else { t1 with plain := false }) (by cases c <;> rfl) (by cases c <;> rfl) (by cases c <;> rfl) (by cases c <;> rfl)))
      · exact wp_if_neg pl1 (wpAny_bind (wpAny_pure (main t1 rfl rfl rfl rfl)))
    intro T T1 T2 T3 T4
    rw [q1]
    obtain ⟨L1, hL1⟩ : ∃ l, l = L.take (SetTable.below t.place j) ++ (x, k) :: L.drop (SetTable.below t.place j) := ⟨_, rfl⟩
    have pm : L1.Perm ((x, k) :: L) := by rw [hL1]; exact ins_perm L _ (x, k)
    have en1 : (SetTable.insertAt D (SetTable.below t.place j) (N.hash k, Value.ref x)).toList = L1.map (entN N) := by
      rw [SetTable.toList_insertAt, R.en, hL1, List.map_append, List.map_cons, List.map_take, List.map_drop]; rfl
    have tb1 : TabOk T (L1.map fun p => N.hash p.2) := by
      rw [hL1, List.map_append, List.map_cons, List.map_take, List.map_drop]
      refine ⟨by rw [T1]; exact q3.ris, by rw [T2]; exact q3.dm, by rw [T1]; exact q3.sz, by rw [T3]; exact q3.mok, by rw [T1, T3]; exact q3.bd, by rw [T1, T3]; exact q3.reach⟩
    have ln1 : L1.length = L.length + 1 := pm.length_eq
    have nd1 : (L1.map (·.2)).Nodup := (pm.map (·.2)).nodup_iff.mpr (List.nodup_cons.mpr ⟨hm, R.nd⟩)
    obtain ⟨D1, hD1⟩ : ∃ d, d = SetTable.insertAt D (SetTable.below t.place j) (N.hash k, Value.ref x) := ⟨_, rfl⟩
    rw [← hD1] at en1 ⊢
    have sz1 : D1.size = L.length + 1 := by rw [← Array.length_toList, en1, List.length_map, ln1]
    refine wpAny_bind (wpAny_storeSet_of ho hd ?_ (by rw [sz1, sizeLine_eq]; omega))
    have sb : Heap.SameBut a s.heap (s.heap.update a (Obj.putSet D1 T)) := Heap.SameBut.update ..
    have ho1 := store_at (es' := D1) (t' := T) ho hd
    obtain ⟨g, hg⟩ : ∃ g, g = s.heap.update a (Obj.putSet D1 T) := ⟨_, rfl⟩
    rw [← hg] at sb ho1 ⊢
    have is1 : ∀ p ∈ L1, N.is g p.2 p.1 := fun p hp => by
      rcases List.mem_cons.mp (pm.mem_iff.mp hp) with z | z
      · rw [z]; exact G.off hx ho hd sb
      · exact G.off (R.is p z) ho hd sb
    have ld1 : w.params.followText "set-order" = true ∨ T.led = true := by rw [T4, q5]; exact R.ld
    have fl1 : T.fill = L.length + 1 := by
      have z : T.fill = t1.fill := by unfold SetTable.fill; rw [T1, T2]
      rw [z, q9, List.length_map]
    by_cases hf : T.tooFull = true
    · have full : T.mask * 3 ≤ (L.length + 1) * 5 := by
        have z := hf
        unfold SetTable.tooFull at z
        rw [decide_eq_true_eq, fl1] at z
        exact z
      have psz1 : T.place.size = D1.size := by rw [tb1.sz, List.length_map, ln1, sz1]
      have two : (t.mask = 7 ∧ L.length = 4) ∨ (t.mask = 31 ∧ L.length = 18) := by
        rw [T3, q4] at full
        rcases R.tb.mok with z | z | z
        · exact .inl ⟨z, by omega⟩
        · exact .inr ⟨z, by omega⟩
        · omega
      have again : ∀ M, SetTable.sizeAbove (SetTable.grown (L.length + 1)) - 1 = M → MaskOk M → SetTable.sizeAbove (SetTable.grown (L.length + 1)) ≤ 128 → 5 * (L.length + 1) < 3 * M →
          wpAny (model P w) A (setRelay a (SetTable.grown (L.length + 1))) (fun _ s' => wpAny (model P w) A (pure true) Q E s') E { s with heap := g } := fun M z1 z2 z3 z4 =>
        sg_relay (s := { s with heap := g }) G ho1 ⟨hex.1, hex.2.1, hex.2.2⟩ rfl en1 psz1 tb1.dm (by rw [sz1, T3, q4]; rcases two with ⟨z, z'⟩ | ⟨z, z'⟩ <;> omega) nd1 is1 ld1 (by rw [ln1]; exact fw) z1 z2 z3 (by rw [ln1]; exact z4)
          fun g2 L2 D2 n2 t2 sb2 R2 pm2 => wpAny_pure (q true g2 L2 D2 n2 t2 (sb.trans sb2) R2 (fun z => absurd z hm) fun _ => pm2.trans pm)
      first
        | (refine wpAny_bind ?_; refine wp_if_pos (by simp [hf]) ?_)
        | (refine wp_if_pos (by simp [hf]) ?_; refine wpAny_bind ?_)
      rw [sz]
      rcases two with ⟨_, z⟩ | ⟨_, z⟩
      · exact again 31 (by rw [z, size_20]) (.inr (.inl rfl)) (by rw [z, size_20]; decide) (by omega)
      · exact again 127 (by rw [z, size_76]) (.inr (.inr rfl)) (by rw [z, size_76]; decide) (by omega)
    · have small : 5 * L1.length < 3 * T.mask := by
        have z := hf
        unfold SetTable.tooFull at z
        rw [decide_eq_true_eq, fl1] at z
        omega
      first
        | refine wp_if_neg (by simp [hf]) ?_
        | (refine wpAny_bind ?_; refine wp_if_neg (by simp [hf]) ?_; refine wpAny_pure ?_)
      exact wpAny_pure (q true g L1 D1 (n + 1) T sb ⟨⟨_, ho1, ⟨hex.1, hex.2.1, hex.2.2⟩, rfl⟩, en1, tb1, nd1, is1, ld1, small, by omega⟩ (fun z => absurd z hm) fun _ => pm)
/-- what has come in of the first i -/
structure Gt (ks : List (Addr × κ)) (i : Nat) (L : List (Addr × κ)) : Prop where
  sub : ∀ p ∈ L, p ∈ ks
  all : ∀ (j : Nat) p, j < i → ks[j]? = some p → p.2 ∈ L.map (·.2)
  len : L.length ≤ i
theorem Gt.step {ks L L' : List (Addr × κ)} {i : Nat} {p : Addr × κ} (g : Gt ks i L) (e : ks[i]? = some p) (c1 : p.2 ∈ L.map (·.2) → L' = L) (c2 : p.2 ∉ L.map (·.2) → L'.Perm (p :: L)) : Gt ks (i + 1) L' := by
  have cs : ∀ {C : Prop}, (p.2 ∈ L.map (·.2) → C) → (p.2 ∉ L.map (·.2) → C) → C := fun a b => (Classical.em _).elim a b
  refine cs (fun h => ?_) fun h => ?_
  · rw [c1 h]
    refine ⟨g.sub, fun j q hj hq => ?_, by have := g.len; omega⟩
    by_cases z : j = i
    · rw [z, e] at hq; cases hq; exact h
    · exact g.all j q (by omega) hq
  · have pm := c2 h
    refine ⟨fun q hq => ?_, fun j q hj hq => ?_, by rw [pm.length_eq]; have := g.len; simp; omega⟩
    · rcases List.mem_cons.mp (pm.mem_iff.mp hq) with z | z
      · rw [z]; exact List.mem_of_getElem? e
      · exact g.sub q z
    · rw [(pm.map (·.2)).mem_iff]
      by_cases z : j = i
      · rw [z, e] at hq; cases hq; simp
      · exact List.mem_cons_of_mem _ (g.all j q (by omega) hq)
theorem SgS.keep (G : InSet N) {h h' : Heap} (R : SgS N h a L D n t) (k : ∀ o, h.get? a = some o → h'.get? a = some o) (is : ∀ p ∈ L, N.is h' p.2 p.1) : SgS N h' a L D n t := by
  obtain ⟨o, ho, r⟩ := R.ob
  exact ⟨⟨o, k o ho, r⟩, R.en, R.tb, R.nd, is, R.ld, R.rm, R.fw⟩
theorem sg_new {h : Heap} (ho : h.get? a = some (setO w)) : SgS N h a [] #[] 0 (.fresh 0 0 (!w.params.followText "set-order")) := by
  refine ⟨⟨_, ho, ⟨rfl, rfl, rfl⟩, rfl⟩, rfl, ⟨.nil, rfl, rfl, .inl rfl, fun x hx => (by cases hx), fun i h j hi => (by cases hi)⟩, .nil, fun p hp => (by cases hp), ?_, by show 5 * 0 < 3 * 7; decide, by show 0 ≤ 76; decide⟩
  show _ ∨ (!w.params.followText "set-order") = true
  cases w.params.followText "set-order" <;> simp
/-- the loop that fills a set -/
theorem sg_loop (G : InSet N) {I : Addr} {fp wr : List Addr} {Gn : Array GenState → Array GenState → Prop} {m : Nat} {Pv : Nat → Value → Prop} {St : Nat → Shared → Prop} {R : Result → Shared → Prop} (W : WalksS P w A.in1 I fp wr Gn m Pv St) (S : Addr) (hS : S ∉ fp) (ks : List (Addr × κ)) (hm : m = ks.length) (few : ks.length ≤ 76)
    (hv : ∀ i v, Pv i v → ∃ p, ks[i]? = some p ∧ v = .ref p.1) (h0 : Heap) (hk : ∀ p ∈ ks, N.is h0 p.2 p.1) (n0 : h0.get? S = none) (nw : ∀ b ∈ wr, h0.get? b = none) (hr : N.room A.in1) :
    ∀ (c i : Nat) (s : Shared), m - i = c → i ≤ m → St i s → (∀ b o, h0.get? b = some o → s.heap.get? b = some o) → (∃ L D n t, SgS N s.heap S L D n t ∧ Gt ks i L) →
      (∀ s' L D n t, Moved (S :: wr) Gn s s' → SgS N s'.heap S L D n t → Gt ks m L → (∀ b o, h0.get? b = some o → s'.heap.get? b = some o) → R (.ok (.ret .none)) s') →
      codeAny (model P w) A (.builtin "set.update.loop" ⟨[.ref S, .ref I], []⟩) R s := by
  have hSw : S ∉ wr := fun z => hS (W.sub _ z)
  have more : ∀ b ∈ wr, b ∈ S :: wr := fun b z => List.mem_cons_of_mem _ z
  have kept : ∀ {s s' : Shared}, Moved wr Gn s s' → (∀ b o, h0.get? b = some o → s.heap.get? b = some o) → ∀ b o, h0.get? b = some o → s'.heap.get? b = some o := fun mv k b o e => mv.heap b o (fun z => by rw [nw b z] at e; cases e) (k b o e)
  intro c
  induction c with
  | zero =>
    intro i s hc hi st kp ⟨L, D, n, t, R0, g⟩ fin
    obtain rfl : i = m := by omega
    refine codeAny_builtin F.entry_set_update_loop ?_
    rw [Around.under_plainId F.plain_set_update_loop _]
    show wpAny _ A.in1 (pyNext (.ref I) >>= _) _ _ s
    refine wpAny_bind (W.done s _ _ st fun s1 mv => ?_)
    have kp1 := kept mv kp
    show wpAny _ A.in1 (ret Value.none) _ _ s1
    exact wpAny_pure (fin s1 L D n t (mv.mono more) (R0.keep G (fun o e => mv.heap S o hSw e) fun p hp => G.up (hk p (g.sub p hp)) kp1) g kp1)
  | succ c ih =>
    intro i s hc hi st kp ⟨L, D, n, t, R0, g⟩ fin
    have lt : i < m := by omega
    refine codeAny_builtin F.entry_set_update_loop ?_
    rw [Around.under_plainId F.plain_set_update_loop _]
    show wpAny _ A.in1 (pyNext (.ref I) >>= _) _ _ s
    refine wpAny_bind (W.item i s _ _ lt st fun v s1 hP st1 mv => ?_)
    obtain ⟨p, hp, rfl⟩ := hv i v hP
    have kp1 := kept mv kp
    have R1 : SgS N s1.heap S L D n t := R0.keep G (fun o e => mv.heap S o hSw e) fun q hq => G.up (hk q (g.sub q hq)) kp1
    have hx : N.is s1.heap p.2 p.1 := G.up (hk p (List.mem_of_getElem? hp)) kp1
    show wpAny _ A.in1 (holding [Value.ref p.1] (setAdd S (.ref p.1)) >>= _) _ _ s1
    refine wpAny_bind (wpAny_holding ?_)
    unfold setAdd
    refine wpAny_holding (wpAny_bind (N.pyHash hr hx ?_))
    refine sg_add (s := { s1 with toks := s1.toks + N.draws p.2 }) G R1 hx hr (by have := g.len; omega) fun b g2 L2 D2 n2 t2 sb R2 c1 c2 => ?_
    have kp2 : ∀ b o, h0.get? b = some o → g2.get? b = some o := fun b o e => (sb.2 b fun z => by rw [z, n0] at e; cases e).trans (kp1 b o e)
    refine wpAny_pure ⟨plainId_quiet F.plain_set_update_loop _, ih (i + 1) _ (by omega) lt (W.frame _ s1 _ _ st1 (Nat.le_add_right _ _) fun b hb o e => ?_) kp2 ⟨L2, D2, n2, t2, R2, g.step hp c1 c2⟩ fun s3 L3 D3 n3 t3 mv3 R3 g3 kp3 => ?_⟩
    · rw [sb.2 b fun z : b = S => hS (by rw [← z]; exact hb)]; exact e
    · refine fin s3 L3 D3 n3 t3 (Moved.trans W.gtrans ((mv.mono more).then_heap (Nat.le_add_right _ _) fun b o hb e => ?_) mv3) R3 g3 kp3
      rw [sb.2 b fun z : b = S => hb (by rw [z]; simp)]; exact e
/-- the walk through a sequence that fills a new set -/
theorem sg_fill (G : InSet N) {l : Addr} {its : Array Value} (ks : List (Addr × κ)) (it : Obj) {St : Nat → Heap → Prop} (W : Walks P w A.in1 (s.heap.push (setO w)).objs.size [(s.heap.push (setO w)).objs.size, l] [(s.heap.push (setO w)).objs.size] its.size (fun i v => its[i]? = some v) St)
    (hl : l < s.heap.objs.size) (st : St 0 ((s.heap.push (setO w)).push it)) (hit : its.toList = ks.map fun p => Value.ref p.1) (hk : ∀ p ∈ ks, N.is s.heap p.2 p.1) (few : ks.length ≤ 76) (hr : N.room A.in1)
    {R : Result → Shared → Prop} (hR : ∀ (h' : Heap) (tk : Nat) L D n t, SgS N h' s.heap.objs.size L D n t → Gt ks ks.length L → (∀ b o, s.heap.get? b = some o → h'.get? b = some o) → R (.ok (.ret .none)) { s with heap := h', toks := tk }) :
    codeAny (model P w) A (.builtin "set.update.loop" ⟨[.ref s.heap.objs.size, .ref (s.heap.push (setO w)).objs.size], []⟩) R { s with heap := (s.heap.push (setO w)).push it } := by
  have sz : its.size = ks.length := by rw [← Array.length_toList, hit, List.length_map]
  have e1 : (s.heap.push (setO w)).objs.size = s.heap.objs.size + 1 := Heap.size_push ..
  have hS : ((s.heap.push (setO w)).push it).get? s.heap.objs.size = some (setO w) := Heap.get?_push_of_some _ (Heap.get?_push_size _ rfl)
  refine sg_loop G W.toS s.heap.objs.size (fun z => ?_) ks sz few (fun i v e => ?_) s.heap hk (get_none (Nat.le_refl _)) (fun b hb => get_none ?_) hr (its.size - 0) 0 _ rfl (Nat.zero_le _) st (fun b o e => Heap.get?_push_of_some _ (Heap.get?_push_of_some _ e)) ⟨[], #[], 0, _, sg_new hS, ⟨fun p hp => (by cases hp), fun j p hj => absurd hj (Nat.not_lt_zero _), Nat.le_refl _⟩⟩ fun s1 L D n t mv R1 g1 kp => ?_
  · rw [e1] at z
    rcases List.mem_cons.mp z with z | z
    · exact absurd z (Nat.ne_of_lt (Nat.lt_succ_self _))
    · exact absurd (List.mem_singleton.mp z) (Nat.ne_of_gt hl)
  · rw [← Array.getElem?_toList, hit, List.getElem?_map] at e
    obtain ⟨p, hp, z⟩ := Option.map_eq_some_iff.mp e
    exact ⟨p, hp, z.symm⟩
  · rw [List.mem_singleton.mp hb, e1]
    exact Nat.le_succ _
  · obtain ⟨h', g2, d', tk', os'⟩ := s1
    rw [sz] at g1
    have eg : g2 = s.gens := mv.gens
    have ed : d' = s.drawn := mv.drawn
    have eo : os' = s.os := mv.os
    subst eg; subst ed; subst eo
    exact hR h' tk' L D n t R1 g1 kp
/-- set(l), l a tuple (c) or a list -/
theorem sg_call (G : InSet N) {l : Addr} {its : Array Value} (ks : List (Addr × κ)) {Q : Value → Shared → Prop} (hh : A.handled = none) (hl : s.heap.IsTuple l its ∨ s.heap.IsList l its) (hit : its.toList = ks.map fun p => Value.ref p.1)
    (hk : ∀ p ∈ ks, N.is s.heap p.2 p.1) (few : ks.length ≤ 76) (hr : N.room A.in1.in1.in1)
    (q : ∀ (h' : Heap) (tk : Nat) L D n t, SgS N h' s.heap.objs.size L D n t → Gt ks ks.length L → (∀ b o, s.heap.get? b = some o → h'.get? b = some o) → Q (.ref s.heap.objs.size) { s with heap := h', toks := tk }) :
    wpAny (model P w) A (call (.type "set") [.ref l]) Q E s := by
  obtain ⟨c, tl, hmro⟩ := F.called_set.mro
  have hmade := F.called_set.made
  have hsub := F.called_set.sub
  refine wpAny_call (codeAny_of_tree ?_)
  show wpAny _ _ (callAny (.type "set") _) _ _ _
  refine wpAny_pure ⟨Code.quiet_builtin _ (by decide +kernel), codeAny_builtin F.entry_type_call ?_⟩
  rw [Around.under_plain (weight_type_call_type "set" [.ref l] []) rfl]
  have h1 := F.called_set.notType
  have h2 := F.called_set.canCreate
  have hct := F.typeCall_set_1 (.ref l)
  repeat (any_goals (first | assumption | wp_step))
  refine codeAny_mono (code_set_led1 (.ref l) (E := E) (Q₁ := fun obj s₁ => obj = .ref s.heap.objs.size ∧ s₁ = { s with heap := s.heap.push (setO w) }) ⟨rfl, rfl⟩) fun r s₁ hr1 => ?_
  match r, hr1 with
  | .error e, z => exact z
  | .ok (.next), z => exact z.elim
  | .ok (.brk), z => exact z.elim
  | .ok (.cont), z => exact z.elim
  | .ok (.ret obj), z =>
    obtain ⟨rfl, rfl⟩ := z
    have hT : Shared.TypeIs { s with heap := s.heap.push (setO w) } (.ref s.heap.objs.size) "set" := ⟨_, Heap.get?_push_size _ rfl, rfl⟩
    have hli := F.called_set.init.lookup
    have hbi := F.called_set.init.bind (.ref s.heap.objs.size)
    repeat (any_goals (first | assumption | wp_step))
    refine codeAny_mono (codeAny_call_builtin (R := wants (fun r s₂ => r = .none ∧ ∃ h' tk L D n t, s₂ = { s with heap := h', toks := tk } ∧ SgS N h' s.heap.objs.size L D n t ∧ Gt ks ks.length L ∧ (∀ b o, s.heap.get? b = some o → h'.get? b = some o)) E) F.called_set.init.plain F.entry_set_init (check_set_init_1 hT ?_)) fun r₂ s₂ hr₂ => ?_
    · have e1 : (s.heap.push (setO w)).objs.size = s.heap.objs.size + 1 := Heap.size_push ..
      rcases hl with hl | hl
      · have hl1 : (s.heap.push (setO w)).IsTuple l its := hl.push _
        have hl2 := hl1
        have hlt : l < s.heap.objs.size := by obtain ⟨o, e, _⟩ := hl; exact Heap.lt_size e
        obtain ⟨ol, hol, hcl, nl, hdl⟩ := hl2
        obtain ⟨ocls, odict, odata, oslots⟩ := ol
        simp only at hcl hdl
        subst hcl; subst hdl
        have hsls := F.sub_tuple_set
        have hslf := F.sub_tuple_frozenset
        have hne : (Value.type "tuple" == Value.type "dict") = false := by decide
        unfold Builtin.«set.__init__» noKeywords Builtin.Frozenset.updateFrom
        generalize hPI : pyIter = PI
        wp_walk
        subst hPI
        refine wpAny_pyIter_tuple hl1 ?_
        refine wpAny_bind (wpAny_runValue (sg_fill (A := A.in1.in1) G ks _ (Walks.tuple (by simp [hh]) _ l (by rw [e1]; exact Nat.ne_of_lt (Nat.lt_succ_of_lt hlt)) its) hlt ⟨⟨_, Heap.get?_push_size _ rfl, rfl, rfl⟩, hl1.push _⟩ hit hk few hr fun h' tk L D n t R g k => ?_))
        refine wpAny_pure ?_
        show wpAny _ _ (ret Value.none) _ _ _
        exact wpAny_pure ⟨rfl, h', tk, L, D, n, t, rfl, R, g, k⟩
      · have hl1 : (s.heap.push (setO w)).IsList l its := by
          obtain ⟨ol, hol, r⟩ := hl
          exact ⟨ol, Heap.get?_push_of_some _ hol, r⟩
        have hl2 := hl1
        have hlt : l < s.heap.objs.size := by obtain ⟨o, e, _⟩ := hl; exact Heap.lt_size e
        obtain ⟨ol, hol, hcl, nl, hdl⟩ := hl2
        obtain ⟨ocls, odict, odata, oslots⟩ := ol
        simp only at hcl hdl
        subst hcl; subst hdl
        have hsls := F.sub_list_set
        have hslf := F.sub_list_frozenset
        have hne : (Value.type "list" == Value.type "dict") = false := by decide
        unfold Builtin.«set.__init__» noKeywords Builtin.Frozenset.updateFrom
        generalize hPI : pyIter = PI
        wp_walk
        subst hPI
        refine wpAny_pyIter_list hl1 ?_
        refine wpAny_bind (wpAny_runValue (sg_fill (A := A.in1.in1) G ks _ (Walks.list (by simp [hh]) _ l (by rw [e1]; exact Nat.ne_of_lt (Nat.lt_succ_of_lt hlt)) its) hlt ⟨⟨_, Heap.get?_push_size _ rfl, rfl, rfl⟩, hl1.push _⟩ hit hk few hr fun h' tk L D n t R g k => ?_))
        refine wpAny_pure ?_
        show wpAny _ _ (ret Value.none) _ _ _
        exact wpAny_pure ⟨rfl, h', tk, L, D, n, t, rfl, R, g, k⟩
    · match r₂, hr₂ with
      | .error e, z => exact z
      | .ok (.next), z => exact z.elim
      | .ok (.brk), z => exact z.elim
      | .ok (.cont), z => exact z.elim
      | .ok (.ret r), z =>
        obtain ⟨rfl, h', tk, L, D, n, t, rfl, R, g, k⟩ := z
        repeat (any_goals (first | assumption | wp_step))
        exact q _ _ _ _ _ _ R g k
end
end Mi
namespace Mi
open PySem PySem.Spec PyProof.Rows L2
/-! ### the order of sets of kinds -/
abbrev tkO : List (Int ⊕ List Nat) → List (Int ⊕ List Nat) → Bool := PyProof.Rows.lexLt itemOrd
theorem leS_def (a b : List Str) : leS a b = !tkO (PySem.W.keyToksAll (b.map PyData.str)) (PySem.W.keyToksAll (a.map PyData.str)) := by
  unfold leS leD
  rw [enc_strs, enc_strs]
  show (!PySem.W.dataLt (.tuple (b.map PyData.str)) (.tuple (a.map PyData.str))) = _
  rw [PySem.W.dataLt_tuple]
theorem leS_trans (a b c : List Str) (h1 : leS a b = true) (h2 : leS b c = true) : leS a c = true := by
  rw [leS_def] at *
  simp only [Bool.not_eq_true'] at *
  cases z : tkO (PySem.W.keyToksAll (c.map PyData.str)) (PySem.W.keyToksAll (a.map PyData.str)) with
  | false => rfl
  | true => rcases PyProof.Rows.lex_negTrans (O := itemOrd) _ (PySem.W.keyToksAll (b.map PyData.str)) _ z with y | y
            · exact absurd (h2.symm.trans y) (by decide)
            · exact absurd (h1.symm.trans y) (by decide)
theorem leS_total (a b : List Str) : (leS a b || leS b a) = true := by
  rw [leS_def, leS_def]
  cases z : tkO (PySem.W.keyToksAll (b.map PyData.str)) (PySem.W.keyToksAll (a.map PyData.str)) with
  | false => rfl
  | true =>
    cases y : tkO (PySem.W.keyToksAll (a.map PyData.str)) (PySem.W.keyToksAll (b.map PyData.str)) with
    | false => rfl
    | true =>
      have := PyProof.Rows.lex_trans (O := itemOrd) _ _ _ z y
      rw [PyProof.Rows.lex_irrefl] at this; cases this
theorem toks_inj : ∀ a b : List Str, PySem.W.keyToksAll (a.map PyData.str) = PySem.W.keyToksAll (b.map PyData.str) → a = b
  | [], [], _ => rfl
  | [], y :: b, h => by simp [PySem.W.keyToksAll] at h
  | x :: a, [], h => by simp [PySem.W.keyToksAll] at h
  | x :: a, y :: b, h => by
    simp only [List.map_cons, PySem.W.keyToksAll, PySem.W.keyToks, List.cons_append, List.nil_append, List.cons.injEq, true_and, Sum.inr.injEq] at h
    rw [str_ext h.1, toks_inj a b h.2]
theorem leS_anti (a b : List Str) (h1 : leS a b = true) (h2 : leS b a = true) : a = b := by
  rw [leS_def] at h1 h2
  simp only [Bool.not_eq_true'] at h1 h2
  exact toks_inj a b (PyProof.Rows.lex_total (O := itemOrd) _ _ h2 h1)
def sortS (l : List (List Str)) : List (List Str) := l.mergeSort leS
theorem sortS_perm (l : List (List Str)) : (sortS l).Perm l := List.mergeSort_perm l leS
theorem mem_sortS {l : List (List Str)} {x : List Str} : x ∈ sortS l ↔ x ∈ l := (sortS_perm l).mem_iff
theorem sortS_pw (l : List (List Str)) : (sortS l).Pairwise (fun a b => leS a b = true) := List.pairwise_mergeSort leS_trans leS_total l
theorem sortS_nd {l : List (List Str)} (h : l.Nodup) : (sortS l).Nodup := (sortS_perm l).nodup_iff.mpr h
theorem riseS_eq {l l' : List (List Str)} (h : l.Nodup) (h' : l'.Nodup) (s : l.Pairwise (fun a b => leS a b = true)) (s' : l'.Pairwise (fun a b => leS a b = true)) (k : ∀ x, x ∈ l ↔ x ∈ l') : l = l' :=
  (perm_of_mem h h' k).eq_of_pairwise (fun a b _ _ => leS_anti a b) s s'
def dedupS : List (List Str) → List (List Str)
  | [] => []
  | x :: l => if x ∈ dedupS l then dedupS l else x :: dedupS l
theorem mem_dedupS {x : List Str} : ∀ {l : List (List Str)}, x ∈ dedupS l ↔ x ∈ l
  | [] => Iff.rfl
  | y :: l => by
    unfold dedupS
    split
    · rename_i h
      rw [mem_dedupS, List.mem_cons]
      exact ⟨.inr, fun z => z.elim (fun z => by rw [z]; exact mem_dedupS.mp h) id⟩
    · rw [List.mem_cons, List.mem_cons, mem_dedupS]
theorem nd_dedupS : ∀ l : List (List Str), (dedupS l).Nodup
  | [] => List.nodup_nil
  | y :: l => by
    unfold dedupS
    split
    · exact nd_dedupS l
    · rename_i h
      exact List.nodup_cons.mpr ⟨h, nd_dedupS l⟩
/-- each once, rising -/
def setS (L : List (List Str)) : List (List Str) := sortS (dedupS L)
theorem mem_setS {x : List Str} {L : List (List Str)} : x ∈ setS L ↔ x ∈ L := by unfold setS; rw [mem_sortS, mem_dedupS]
theorem nd_setS (L : List (List Str)) : (setS L).Nodup := sortS_nd (nd_dedupS L)
theorem pw_setS (L : List (List Str)) : (setS L).Pairwise (fun a b => leS a b = true) := sortS_pw _
theorem setS_uniq {L M : List (List Str)} (nd : M.Nodup) (pw : M.Pairwise (fun a b => leS a b = true)) (k : ∀ x, x ∈ M ↔ x ∈ L) : setS L = M := riseS_eq (nd_setS L) nd (pw_setS L) pw fun x => by rw [mem_setS, k]
/-! ### tuples of texts in a set -/
abbrev SKd (P : Program) (w : World) : HeapKind P w (List Str) := tupleKind (strKind P w)
theorem strs_in {P : Program} {w : World} {ks : List Str} {vs : List Value} (h : ItemsAre (strKind P w) ks vs) : ∀ v ∈ vs, ∃ x t, v = Value.str x t := by
  induction h with
  | nil => exact fun v hv => by cases hv
  | cons h1 _ ih =>
    intro v hv
    cases hv with
    | head => obtain ⟨t, e⟩ := Value.isStrOf_shape h1; exact ⟨_, t, e⟩
    | tail _ hv => exact ih v hv
theorem inSet_S {P : Program} {w : World} : InSet (SKd P w) where
  up := fun ⟨o, its, n, e, r⟩ k => ⟨o, its, n, k _ _ e, r⟩
  off := fun {h h' k a b o D n t} ⟨o', its, m, e, ec, ed, ei⟩ ho hd sb => by
    refine ⟨o', its, m, (sb.2 b fun z => ?_).trans e, ec, ed, ei⟩
    rw [z, ho] at e
    cases e
    rw [hd] at ed
    cases ed
  cls := fun {A E s k b Q} hk q => by
    have hT := IsTupleKey.typeIs hk
    obtain ⟨o, its, n, ho, _, hd, hi⟩ := hk
    have all := strs_in hi
    unfold ofAClassStatement
    refine wpAny_bind (wpAny_typeOf hT ?_)
    dsimp only
    simp only [beq_self_eq_true, if_true, Bool.not_true, Bool.false_eq_true, if_false]
    try refine wpAny_bind (wpAny_pure ?_)
    try simp only [Bool.not_true, Bool.false_eq_true, if_false]
    show wpAny _ _ (seqItems? (.ref b) >>= _) _ _ s
    refine wpAny_bind (wpAny_seqItems ho hd ?_)
    dsimp only
    refine wpAny_bind ?_
    show wpAny _ _ (forIn its _ _) _ _ s
    rw [← Array.forIn_toList]
    refine wpAny_forIn_list _ (fun left r s' => r.1 = none ∧ s' = s ∧ ∀ v ∈ left, ∃ x t, v = Value.str x t) _ (fun v left r s1 ⟨_, e2, al⟩ => ?_) (fun r s1 ⟨e1, e2, _⟩ => ?_) _ _ ⟨rfl, rfl, all⟩
    · obtain ⟨x, t, rfl⟩ := al v (by simp)
      rw [show ofAClassStatement 7 (.str x t) = pure false from rfl]
      refine wpAny_bind (wpAny_pure ?_)
      simp only [Bool.false_eq_true, if_false]
      exact wpAny_pure ⟨rfl, e2, fun u hu => al u (by simp [hu])⟩
    · obtain ⟨r1, r2⟩ := r
      simp only at e1
      subst e1; subst e2
      exact wpAny_pure q
  hby := fun {A E s k b Q} hk q => by
    have hT := IsTupleKey.typeIs hk
    obtain ⟨o, its, n, ho, _, hd, hi⟩ := hk
    have all := strs_in hi
    unfold hashByValue
    refine wpAny_bind (wpAny_specialOf hT F.slot_tuple_hash.lookup ?_)
    show wpAny _ _ (seqItems? (.ref b) >>= _) _ _ s
    refine wpAny_bind (wpAny_seqItems ho hd ?_)
    refine wpAny_bind ?_
    show wpAny _ _ (forIn its _ _) _ _ s
    rw [← Array.forIn_toList]
    refine wpAny_forIn_list _ (fun left r s' => s' = s ∧ ∀ v ∈ left, ∃ x t, v = Value.str x t) _ (fun v left r s1 ⟨e2, al⟩ => ?_) (fun r s1 ⟨e2, _⟩ => ?_) _ _ ⟨rfl, all⟩
    · obtain ⟨x, t, rfl⟩ := al v (by simp)
      rw [show hashByValue 7 (.str x t) = pure false from rfl]
      refine wpAny_bind (wpAny_pure ?_)
      simp only [Bool.not_false, if_true]
      exact wpAny_pure (by subst e2; exact wpAny_pure (q false))
    · subst e2
      obtain ⟨r1, r2⟩ := r
      cases r1 with
      | none => exact wpAny_pure (q true)
      | some c => exact wpAny_pure (q c)
theorem strs_of_vals {P : Program} {w : World} : ∀ {k : List Str} {us : List Value}, Vals (k.map V.str) us → ItemsAre (strKind P w) k us
  | [], _, .nil => .nil
  | n :: k, _, .cons r t => by
    obtain ⟨tk, rfl⟩ := r
    exact .cons (by show Value.isStrOf n (.str n tk) = true; simp [Value.isStrOf]) (strs_of_vals t)
theorem refs_vals {κ : Type} : ∀ {ks : List (Addr × κ)} {us : List Value}, Vals (ks.map fun p => V.ref p.1) us → us = ks.map fun p => Value.ref p.1
  | [], _, .nil => rfl
  | p :: ks, _, .cons r t => by cases r; rw [refs_vals t]; rfl
theorem vals_refsK {κ : Type} : ∀ (ks : List (Addr × κ)), Vals (ks.map fun p => V.ref p.1) (ks.map fun p => Value.ref p.1)
  | [] => .nil
  | p :: ks => .cons rfl (vals_refsK ks)
/-- the set at a, apart from its things -/
def SgS0 {P : Program} {w : World} {κ : Type} [DecidableEq κ] (N : HeapKind P w κ) (h : Heap) (a : Addr) (L : List (Addr × κ)) : Prop := ∃ (D : Array (Int × Value)) (n : Nat) (t : SetTable), (∃ o, h.get? a = some o ∧ o.ExactSet ∧ o.data = .set D n t) ∧ D.toList = L.map (entN N) ∧ TabOk t (L.map fun p => N.hash p.2) ∧ (L.map (·.2)).Nodup ∧
  (w.params.followText "set-order" = true ∨ t.led = true) ∧ 5 * L.length < 3 * t.mask ∧ L.length ≤ 76
def SetSO (P : Program) (w : World) (a : Addr) (L : List (Addr × List Str)) : HO := .ext fun h => SgS0 (SKd P w) h a L
theorem sg0_ok {P : Program} {w : World} {H : Hp} {h : Heap} {a : Addr} {L : List (Addr × List Str)} (R : SgS0 (SKd P w) h a L) : ObjOk P w H h a (SetSO P w a L) := by
  have ⟨D, n, t, ⟨o, ho, r⟩, q⟩ := R
  exact ⟨R, ⟨o, ho⟩, fun h1 h2 p k => by
    have ⟨D', n', t', ⟨o', ho', r'⟩, q'⟩ := p
    exact ⟨D', n', t', ⟨o', k o' ho', r'⟩, q'⟩⟩
def rSetS (K : PySem.W.Frag) (P : Program) (w : World) : List V → Hp → VK → Prop := fun xs H Q => ∃ (l : Addr) (ks : List (Addr × List Str)), xs = [V.ref l] ∧ (SqT K H l (ks.map fun p => V.ref p.1) ∨ SqL K H l (ks.map fun p => V.ref p.1)) ∧ (∀ p ∈ ks, SqT K H p.1 (p.2.map V.str)) ∧ ks.length ≤ 76 ∧
  ∀ a L, H a = none → (∀ p ∈ L, p ∈ ks) → (∀ p ∈ ks, p.2 ∈ L.map (·.2)) → Q (.ref a) (upd H a (SetSO P w a L))
section
variable {X : Cx}
theorem isS_of {pins : List (Addr × Obj)} {σ : L2.St} {H : Hp} {s : Shared} {b : Addr} {k : List Str} (I : Inv X pins σ H s) (h : SqT X.K H b (k.map V.str)) : (SKd X.prog X.w).is s.heap k b := by
  obtain ⟨its, r, ⟨o, ho, hc, n, hd⟩, _⟩ := I.tuple h
  exact ⟨o, its.toArray, n, ho, hc, hd, by simpa using strs_of_vals r⟩
theorem cr_setS (hc : X.calm = true) (hu : X.A.units + 64 < cLine) : CallR X (.type "set") (rSetS X.K X.prog X.w) := by
  intro pins s σ H xs us Q I r h
  obtain ⟨l, ks, rfl, hl, hk, hf, q⟩ := h
  have ru := Vals.ref1 r
  have hn : H s.heap.objs.size = none := I.hok.fresh (Nat.le_refl _)
  have rm : (SKd X.prog X.w).room X.A.in1.in1.in1 := by show X.A.in1.in1.in1.units < cLine; simp only [Around.in1_units]; omega
  have fin : ∀ (h' : Heap) (tk : Nat) (L : List (Addr × List Str)) (D : Array (Int × Value)) (n : Nat) (t : SetTable), SgS (SKd X.prog X.w) h' s.heap.objs.size L D n t → Gt ks ks.length L → (∀ b o, s.heap.get? b = some o → h'.get? b = some o) → EP X pins σ Q (.ref s.heap.objs.size) { s with heap := h', toks := tk } := fun h' tk L D n t R g k =>
    ⟨.ref s.heap.objs.size, upd H s.heap.objs.size (SetSO X.prog X.w s.heap.objs.size L), I.laid (t' := tk) k (Nat.le_refl _) (sg0_ok ⟨D, n, t, R.ob, R.en, R.tb, R.nd, R.ld, R.rm, R.fw⟩), rfl, q _ L hn g.sub fun p hp => by
      obtain ⟨j, hj, ej⟩ := List.getElem_of_mem hp
      exact g.all j p hj (by rw [List.getElem?_eq_getElem hj, ej])⟩
  rw [ru]
  rcases hl with hl | hl
  · obtain ⟨its, rv, pl, hz⟩ := I.tuple hl
    exact sg_call inSet_S ks (I.ok.hd hc) (.inl pl) (by simpa using refs_vals rv) (fun p hp => isS_of I (hk p hp)) hf rm fin
  · obtain ⟨its, rv, pl, hz⟩ := I.list hl
    exact sg_call inSet_S ks (I.ok.hd hc) (.inr pl.isList) (by simpa using refs_vals rv) (fun p hp => isS_of I (hk p hp)) hf rm fin
/-- sorted of such a set -/
def rSortedS (K : PySem.W.Frag) (P : Program) (w : World) : List V → Hp → VK → Prop := fun vs H Q => ∃ (a : Addr) (L : List (Addr × List Str)), vs = [V.ref a] ∧ H a = some (SetSO P w a L) ∧ (∀ p ∈ L, SqT K H p.1 (p.2.map V.str)) ∧
  ∀ (L' : List (Addr × List Str)) (p : Addr), (∀ q ∈ L', q ∈ L) → L'.map (·.2) = setS (L.map (·.2)) → H p = none → Q (.ref p) (upd H p (.lst (L'.map fun q => V.ref q.1)))
theorem rows_back {κ : Type} {L : List (Addr × κ)} : ∀ vs : List Value, (∀ v ∈ vs, ∃ q ∈ L, v = Value.ref q.1) → ∃ M : List (Addr × κ), vs = M.map (fun q => Value.ref q.1) ∧ ∀ q ∈ M, q ∈ L
  | [], _ => ⟨[], rfl, fun q hq => (by cases hq)⟩
  | v :: vs, h => by
    obtain ⟨q, hq, e⟩ := h v (by simp)
    obtain ⟨M, e1, hM⟩ := rows_back vs fun u hu => h u (by simp [hu])
    exact ⟨q :: M, by rw [e, e1]; rfl, fun r hr => by
      rcases List.mem_cons.mp hr with z | z
      · rw [z]; exact hq
      · exact hM r z⟩
theorem each_rows {κ : Type} {R : Value → D → Prop} {f : κ → D} : ∀ {M : List (Addr × κ)}, (∀ q ∈ M, R (.ref q.1) (f q.2)) → PySem.W.EachIs R (M.map fun q => Value.ref q.1) (M.map fun q => f q.2)
  | [], _ => .nil
  | q :: M, h => .cons (h q (by simp)) (each_rows fun r hr => h r (by simp [hr]))
theorem rows_each {κ : Type} {L : List (Addr × κ)} {f : κ → D} : ∀ {us : List Value} {ds : List D}, PySem.W.EachIs (fun u d => ∃ q ∈ L, u = Value.ref q.1 ∧ d = f q.2) us ds → ∃ M : List (Addr × κ), us = M.map (fun q => Value.ref q.1) ∧ ds = M.map (fun q => f q.2) ∧ ∀ q ∈ M, q ∈ L
  | _, _, .nil => ⟨[], rfl, rfl, fun q hq => (by cases hq)⟩
  | _, _, .cons ⟨q, hq, e1, e2⟩ t => by
    obtain ⟨M, h1, h2, h3⟩ := rows_each t
    exact ⟨q :: M, by rw [e1, h1]; rfl, by rw [e2, h2]; rfl, fun r hr => by
      rcases List.mem_cons.mp hr with z | z
      · rw [z]; exact hq
      · exact h3 r z⟩
theorem dpAll_strs {K : PySem.W.Frag} {H : Hp} : ∀ k : List Str, DpAll K H (k.map V.str) (k.map PyData.str)
  | [] => .nil
  | x :: k => .cons (.str x) (dpAll_strs k)
theorem cr_sortedS (hc : X.calm = true) (hu : X.A.units + 64 < cLine) : CallR X (.builtin "sorted") (rSortedS X.K X.prog X.w) := by
  intro pins s σ H vs us Q I r h
  obtain ⟨a, L, rfl, ha, hk, q⟩ := h
  obtain ⟨D, n, t, ob, en, tb, nd, ld, rm, fw⟩ : SgS0 (SKd X.prog X.w) s.heap a L := (I.hok a _ ha).1
  have R : SgS (SKd X.prog X.w) s.heap a L D n t := ⟨ob, en, tb, nd, fun p hp => isS_of I (hk p hp), ld, rm, fw⟩
  obtain ⟨o, ho, hex, hd⟩ := ob
  have sz := R.sz
  rw [Vals.ref1 r]
  refine Calls.call_function_entry kind_sorted plain_sorted entry_sorted (args_sorted1 _) ?_
  unfold Builtin.«sorted»
  refine wpAny_bind (m := checkCount "sorted" 1 1 _) (wpAny_pure ?_)
  refine wpAny_bind (collect_set (A := X.A.in1) (I.ok.hd hc) ⟨o, ho, hex.1, hd⟩ R.ft (by unfold scanBound; omega) tb.ris ld fun s1 out kp hz hg1 ho1 pm => ?_)
  have hes : D.toList.map (·.2) = L.map fun q => Value.ref q.1 := by rw [en, List.map_map]; rfl
  rw [hes] at pm
  obtain ⟨M, eM, sM⟩ := rows_back (L := L) out fun v hv => by
    obtain ⟨q, hq, e⟩ := List.mem_map.mp (pm.mem_iff.mp hv)
    exact ⟨q, hq, e.symm⟩
  subst eM
  have lM : M.length = L.length := by have := pm.length_eq; rwa [List.length_map, List.length_map] at this
  have hzi : (M.map fun q => Value.ref q.1).length ≤ sizeLine := by rw [List.length_map, lM, sizeLine_eq]; omega
  -- an address stands for one thing
  have one : ∀ p ∈ L, ∀ p' ∈ L, p.1 = p'.1 → p = p' := fun p hp p' hp' e => by
    have z := R.is p hp
    rw [e] at z
    exact Prod.ext e ((SKd X.prog X.w).inj z (R.is p' hp'))
  have mM : ∀ p, p ∈ M ↔ p ∈ L := fun p => ⟨sM p, fun hp => by
    obtain ⟨p', hp', e⟩ := List.mem_map.mp (pm.mem_iff.mpr (List.mem_map.mpr ⟨p, hp, rfl⟩))
    injection e with e
    rw [← one p' (sM p' hp') p hp e]; exact hp'⟩
  have rd : ∀ p ∈ L, ∃ as, Reads s.heap (.ref p.1) (encD (encS p.2)) as := fun p hp => by
    obtain ⟨as, z⟩ := Dp.reads I _ _ _ (Dp.tup (hk p hp) (dpAll_strs p.2)) (show RelV (V.ref p.1) (Value.ref p.1) from rfl)
    exact ⟨as, by rw [enc_strs]; exact z⟩
  have er : PySem.W.EachIs (fun u d => ∃ as, Reads s1.heap u (encD d) as) (M.map fun q => Value.ref q.1) (M.map fun q => encS q.2) := each_rows fun p hp => by
    obtain ⟨as, z⟩ := rd p (sM p hp)
    exact ⟨as, PyProof.Rows.Reads.keeps kp z⟩
  have ev : PySem.W.EachIs (fun u d => ∃ q ∈ L, u = Value.ref q.1 ∧ d = encS q.2) (M.map fun q => Value.ref q.1) (M.map fun q => encS q.2) := each_rows fun p hp => ⟨p, sM p hp, rfl, rfl⟩
  have so : sortOk (M.map fun q => encS q.2) = true := by
    have := sortOk_sets (M.map (·.2))
    rwa [List.map_map] at this
  obtain ⟨vs, hvs⟩ : ∃ vs, vs = M.map fun q => Value.ref q.1 := ⟨_, rfl⟩
  rw [← hvs] at hzi er ev ⊢
  refine wpAny_bind (wpAny_newList ?_ hzi)
  have hoL : (s1.heap.push (seqObj "list" vs.toArray 0)).get? s1.heap.objs.size = some (seqObj "list" vs.toArray 0) := Heap.get?_push_size _ rfl
  have old : ∀ b ob, s1.heap.get? b = some ob → (PySem.W.sortingHeap (s1.heap.push (seqObj "list" vs.toArray 0)) s1.heap.objs.size vs).get? b = some ob := fun b ob z => PySem.W.sortingHeap_old (Nat.ne_of_lt (Heap.lt_size z)) (Heap.get?_push_of_some _ z)
  have er2 := each_mono (s' := { s1 with heap := PySem.W.sortingHeap (s1.heap.push (seqObj "list" vs.toArray 0)) s1.heap.objs.size vs }) old er
  refine wpAny_bind (wpAny_holding (wpAny_call_entry slot_list_sort ⟨_, hoL, rfl⟩ entry_list_sort
    (PySem.W.list_sort_vals (κ := PySem.W.dataKind (PySem.W.sortingHeap (s1.heap.push (seqObj "list" vs.toArray 0)) s1.heap.objs.size vs) ((M.map fun q => encS q.2).map encD)) (s := { s1 with heap := s1.heap.push (seqObj "list" vs.toArray 0) }) hoL (sorts_at er2 so (by show X.A.in1.in1.units + 60 < cLine; have : X.A.in1.in1.units = X.A.units + 1 + 1 := rfl; omega)) hzi ⟨_, rfl, ?_⟩)
    (args_list_sort _)))
  have eo := PySem.W.sortVals_data false ev er2 (sort_parts so).2.1
  rw [leD_eq] at eo
  obtain ⟨M2, z1, z2, z3⟩ := rows_each eo
  obtain ⟨c', hc'⟩ := PyProof.Rows.sortedHeap_at (vs := vs) (out := (PySem.W.sortVals (PySem.W.dataKind (PySem.W.sortingHeap (s1.heap.push (seqObj "list" vs.toArray 0)) s1.heap.objs.size vs) ((M.map fun q => encS q.2).map encD)) false vs vs).toArray) hoL
  have hp : s.heap.objs.size ≤ s1.heap.objs.size := hz
  have hn : H s1.heap.objs.size = none := I.hok.fresh hp
  -- what stands there
  have k2 : M2.map (·.2) = (M.map (·.2)).mergeSort leS := by
    have e1 : (M.map fun q => encS q.2) = (M.map (·.2)).map encS := by rw [List.map_map]; rfl
    have e2 : (M2.map fun q => encS q.2) = (M2.map (·.2)).map encS := by rw [List.map_map]; rfl
    rw [e1, e2, ← List.map_mergeSort (r := leS) (s := leD) (f := encS) (fun a _ b _ => rfl)] at z2
    exact ((List.map_inj_right fun a b e => encS_inj a b e).mp z2).symm
  have ndM : (M.map (·.2)).Nodup := by
    have nM : M.Nodup := by
      have nref : (L.map fun q => Value.ref q.1).Nodup := by
        have nL : L.Nodup := List.Pairwise.of_map (·.2) (fun _ _ hne e => hne (congrArg Prod.snd e)) nd
        refine List.pairwise_map.mpr (List.Pairwise.imp_of_mem (fun {p p'} hp hp' hne e => ?_) nL)
        injection e with e
        exact hne (one p hp p' hp' e)
      exact List.Pairwise.of_map (fun q : Addr × List Str => Value.ref q.1) (fun _ _ hne e => hne (by rw [e])) (pm.nodup_iff.mpr nref)
    have pML : M.Perm L := (List.perm_ext_iff_of_nodup nM (List.Pairwise.of_map (·.2) (fun _ _ hne e => hne (congrArg Prod.snd e)) nd)).mpr mM
    exact (pML.map (·.2)).nodup_iff.mpr nd
  have k3 : M2.map (·.2) = setS (L.map (·.2)) := by
    rw [k2]
    refine (setS_uniq (sortS_nd ndM) (sortS_pw _) fun x => ?_).symm
    show x ∈ sortS _ ↔ _
    rw [mem_sortS, List.mem_map, List.mem_map]
    exact ⟨fun ⟨p, h1, h2⟩ => ⟨p, (mM p).mp h1, h2⟩, fun ⟨p, h1, h2⟩ => ⟨p, (mM p).mpr h1, h2⟩⟩
  have hlen : (M2.map fun q => V.ref q.1).length ≤ sizeLine := by
    have : M2.length = M.length := by have := congrArg List.length k2; rwa [List.length_map, List.length_mergeSort, List.length_map] at this
    rw [List.length_map, this, lM, sizeLine_eq]; omega
  have hv : Vals (M2.map fun q => V.ref q.1) (PySem.W.sortVals (PySem.W.dataKind (PySem.W.sortingHeap (s1.heap.push (seqObj "list" vs.toArray 0)) s1.heap.objs.size vs) ((M.map fun q => encS q.2).map encD)) false vs vs) := by rw [z1]; exact vals_refsK M2
  obtain ⟨OUT, hOUT⟩ : ∃ OUT, OUT = (PySem.W.sortVals (PySem.W.dataKind (PySem.W.sortingHeap (s1.heap.push (seqObj "list" vs.toArray 0)) s1.heap.objs.size vs) ((M.map fun q => encS q.2).map encD)) false vs vs) := ⟨_, rfl⟩
  rw [← hOUT] at hc' hv ⊢
  have kp2 : ∀ b u, s.heap.get? b = some u → (PyProof.Rows.sortedHeap (s1.heap.push (seqObj "list" vs.toArray 0)) s1.heap.objs.size vs OUT.toArray).get? b = some u := fun b u e => by
    have z := kp b u e
    have hb := Heap.lt_size z
    rw [PyProof.Rows.sortedHeap_old (Nat.ne_of_lt hb) (by rw [size_push']; exact Nat.lt_succ_of_lt hb)]
    exact Heap.get?_push_of_some _ z
  have J : Inv X pins σ (upd H s1.heap.objs.size (.lst (M2.map fun q => V.ref q.1))) { s with heap := PyProof.Rows.sortedHeap (s1.heap.push (seqObj "list" vs.toArray 0)) s1.heap.objs.size vs OUT.toArray, gens := s1.gens, drawn := s1.drawn, toks := s1.toks } :=
    I.call (ch := []) (Un.laid kp2 hp hn) (I.hok.laid kp2 hp ⟨hlen, _, c', hv, hc'⟩) (by rw [hg1]; exact I.bare) (fun _ z => nomatch z)
  have es : ({ s1 with heap := PyProof.Rows.sortedHeap (s1.heap.push (seqObj "list" vs.toArray 0)) s1.heap.objs.size vs OUT.toArray } : Shared) = { s with heap := PyProof.Rows.sortedHeap (s1.heap.push (seqObj "list" vs.toArray 0)) s1.heap.objs.size vs OUT.toArray, gens := s1.gens, drawn := s1.drawn, toks := s1.toks } := by
    obtain ⟨x1, x2, x3, x4, x5⟩ := s1
    obtain ⟨y1, y2, y3, y4, y5⟩ := s
    cases ho1
    rfl
  refine wpAny_pure ⟨_, rfl, ?_⟩
  refine cast (congrArg (EP X pins σ Q (.ref s1.heap.objs.size)) es.symm) ?_
  exact ⟨.ref s1.heap.objs.size, _, J, rfl, q M2 _ z3 k3 hn⟩
end
def strsOf : List D → Option (List Str)
  | [] => some []
  | .str x :: ds => (strsOf ds).map (x :: ·)
  | _ => none
def rowsD : List D → Option (List (List Str))
  | [] => some []
  | .tup xs :: ds => (strsOf xs).bind fun k => (rowsD ds).map (k :: ·)
  | _ => none
theorem strsOf_eq : ∀ {ds : List D} {k : List Str}, strsOf ds = some k → ds = k.map D.str
  | [], _, e => by cases e; rfl
  | d :: ds, k, e => by
    unfold strsOf at e
    split at e
    · rename_i h; cases h
    · rename_i x ds' h
      cases h
      obtain ⟨k', e1, rfl⟩ := Option.map_eq_some_iff.mp e
      rw [strsOf_eq e1]; rfl
    · cases e
theorem strsOf_map : ∀ k : List Str, strsOf (k.map D.str) = some k
  | [] => rfl
  | x :: k => by simp [strsOf, strsOf_map k]
theorem rowsD_enc : ∀ L : List (List Str), rowsD (L.map encS) = some L
  | [] => rfl
  | k :: L => by simp [rowsD, encS, strsOf_map, rowsD_enc L]
theorem strs_rp {K : PySem.W.Frag} {mp : Wd} {H : Hp} : ∀ {k : List Str} {vs : List V}, RpAll K mp H (k.map D.str) vs → vs = k.map V.str
  | [], _, .nil => rfl
  | x :: k, _, .cons r t => by cases r; rw [strs_rp t]; rfl
theorem sets_rp {K : PySem.W.Frag} {mp : Wd} {H : Hp} : ∀ {ds : List D} {vs : List V} {L : List (List Str)}, RpAll K mp H ds vs → rowsD ds = some L → ∃ ks : List (Addr × List Str), vs = ks.map (fun p => V.ref p.1) ∧ (∀ p ∈ ks, SqT K H p.1 (p.2.map V.str)) ∧ (∀ p ∈ ks, Rp K mp H (encS p.2) (.ref p.1)) ∧ ks.map (·.2) = L
  | _, _, _, .nil, e => by cases e; exact ⟨[], rfl, fun p hp => (by cases hp), fun p hp => (by cases hp), rfl⟩
  | _, _, _, .cons (d := d) r t, e => by
    unfold rowsD at e
    split at e
    · rename_i h1; cases h1
    · rename_i xs ds' h1
      cases h1
      obtain ⟨k, ek, e⟩ := Option.bind_eq_some_iff.mp e
      obtain ⟨L', e1, rfl⟩ := Option.map_eq_some_iff.mp e
      obtain ⟨ks, k1, k2, k4, k3⟩ := sets_rp t e1
      have ex := strsOf_eq ek
      subst ex
      cases r with
      | @tup p vs _ h2 n2 q2 =>
        have ev := strs_rp q2
        subst ev
        exact ⟨(p, k) :: ks, by rw [k1]; rfl, fun z hz => by
          rcases List.mem_cons.mp hz with rfl | hz
          · exact SqT.of h2
          · exact k2 z hz, fun z hz => by
          rcases List.mem_cons.mp hz with rfl | hz
          · exact .tup h2 n2 q2
          · exact k4 z hz, by simp [k3]⟩
    · cases e
def mSortSetS (f : Ev D) : Ev D := fun ρ h => (f ρ h).bind fun d h1 => match (seqH h1 d).bind rowsD with
  | some L => if L.length ≤ 76 then .ok (.lst ((setS L).map encS)) h1 else .bad
  | none => .bad
section
variable {X : Cx} {W : WX}
theorem se_sortSetS {e : Expr} {f : Ev D} {p p2 pos pos2 : Pos} (hc : X.calm = true) (hu : X.A.units + 64 < cLine) (he : SE X W e f) (hms : X.mg "set" = none) (hm : X.mg "sorted" = none) (hgs : Gl X "set" := by rfl) (hg : Gl X "sorted" := by rfl)
    (na : starEach [e] X.env = (false, eval e X.env) :: starEach [] X.env := by rfl) (hpl2 : (backTo pos2 (starEach [] X.env)).any (·.1) = false := by rfl)
    (nb : starEach [.Call (.Name "set" p2) [e] [] pos2] X.env = (false, eval (.Call (.Name "set" p2) [e] [] pos2) X.env) :: starEach [] X.env := by rfl)
    (hpl : (backTo pos (starEach [] X.env)).any (·.1) = false := by rfl) (hv : bootBuiltins "sorted" = some (.builtin "sorted") := by decide +kernel) (hv2 : bootBuiltins "set" = some (.type "set") := by decide +kernel) :
    SE X W (.Call (.Name "sorted" p) [.Call (.Name "set" p2) [e] [] pos2] [] pos) (mSortSetS f) :=
  PE.imp (pe_callB (cr_sortedS hc hu) hg hm hv (pa_cons (pe_callTy (cr_setS hc hu) hgs hms hv2 (pa_cons he pa_nil na) (by decide) (by decide) na hpl2) pa_nil nb) (by decide) (by decide) nb hpl) fun σ H Q ⟨ρ, h, mp, r, en, q⟩ => by
    refine ⟨ρ, h, mp, r, en, Post.mono (Post.bind (R := rD X.K) q) fun x H1 ⟨mp1, h1, d1, le1, r1, q1, p1⟩ => ?_⟩
    dsimp only at p1
    split at p1
    · rename_i L eL
      split at p1
      · rename_i hl
        obtain ⟨xs, ex, eh⟩ := Option.bind_eq_some_iff.mp eL
        have hsq : ∃ pa vs, x = .ref pa ∧ (SqT X.K H1 pa vs ∨ SqL X.K H1 pa vs) ∧ RpAll X.K mp1 H1 xs vs := by
          unfold seqH at ex
          split at ex
          · rename_i ys ey
            cases ex
            obtain ⟨pa, vs, e1, hs, ra⟩ := asT_ok q1 ey
            exact ⟨pa, vs, e1, .inl hs, ra⟩
          · obtain ⟨pa, vs, e1, hs, ra⟩ := asLk_ok r1 q1 ex
            exact ⟨pa, vs, e1, .inr hs, ra⟩
        obtain ⟨pa, vs, rfl, hs, ra⟩ := hsq
        obtain ⟨ks, k1, k2, k4, k3⟩ := sets_rp ra eh
        subst k1
        have kl : ks.length = L.length := by have := congrArg List.length k3; rwa [List.length_map] at this
        refine ⟨pa, ks, rfl, hs, k2, by omega, fun qa S hq hS1 hS2 => ?_⟩
        have le := le_new r1 (o := SetSO X.prog X.w qa S) hq
        have keep : ∀ p ∈ ks, Rp X.K mp1 (upd H1 qa (SetSO X.prog X.w qa S)) (encS p.2) (.ref p.1) := fun p hp => (k4 p hp).mono le
        refine ⟨qa, S, rfl, upd_same, fun p hp => ?_, fun M pb hM kM hpb => ?_⟩
        · have z := keep p (hS1 p hp)
          unfold encS at z
          cases z with
          | tup h2 n2 q2 => rw [strs_rp q2] at h2; exact SqT.of h2
        · have eS : setS (S.map (·.2)) = setS L := setS_uniq (nd_setS L) (pw_setS L) fun y => by
            rw [mem_setS]
            constructor
            · intro hy
              have hy' : y ∈ ks.map (·.2) := by rw [k3]; exact hy
              obtain ⟨p, hp, rfl⟩ := List.mem_map.mp hy'
              exact hS2 p hp
            · intro hy
              obtain ⟨p, hp, rfl⟩ := List.mem_map.mp hy
              rw [← k3]; exact List.mem_map.mpr ⟨p, hS1 p hp, rfl⟩
          have ra2 : ∀ M : List (Addr × List Str), (∀ p ∈ M, p ∈ ks) → RpAll X.K mp1 (upd H1 qa (SetSO X.prog X.w qa S)) ((M.map (·.2)).map encS) (M.map fun q => V.ref q.1) := by
            intro M
            induction M with
            | nil => exact fun _ => .nil
            | cons p M ih => exact fun hM => .cons (keep p (hM p (by simp))) (ih fun q hq => hM q (by simp [hq]))
          have z3 := ra2 M fun p hp => hS1 p (hM p hp)
          rw [kM, eS] at z3
          obtain ⟨l1, l2, l3⟩ := newL (r1.new hq) hpb z3
          exact p1 _ mp1 _ (le.trans l1) l2 l3
      · exact p1.elim
    · exact p1.elim
end
theorem e_sortSetS {f : Ev D} {ρ : Env'} {h : Hq} : mSortSetS f ρ h = (f ρ h).bind fun d h1 => match (seqH h1 d).bind rowsD with
  | some L => if L.length ≤ 76 then .ok (.lst ((setS L).map encS)) h1 else .bad
  | none => .bad := rfl
theorem e_setS {f : Ev D} {ρ : Env'} {h h1 : Hq} {L : List (List Str)} (e : f ρ h = .ok (.lst (L.map encS)) h1) (k : L.length ≤ 76) : mSortSetS f ρ h = .ok (.lst ((setS L).map encS)) h1 := by
  rw [e_sortSetS, e, Res.bind_ok]
  have : seqH h1 (.lst (L.map encS)) = some (L.map encS) := rfl
  rw [this, Option.bind_some, rowsD_enc]
  dsimp only
  rw [if_pos k]
theorem e_setST {f : Ev D} {ρ : Env'} {h h1 : Hq} {L : List (List Str)} (e : f ρ h = .ok (.tup (L.map encS)) h1) (k : L.length ≤ 76) : mSortSetS f ρ h = .ok (.lst ((setS L).map encS)) h1 := by
  rw [e_sortSetS, e, Res.bind_ok]
  have : seqH h1 (.tup (L.map encS)) = some (L.map encS) := rfl
  rw [this, Option.bind_some, rowsD_enc]
  dsimp only
  rw [if_pos k]
end Mi
namespace L52
open PySem L2 Mi
inductive Fn where
  | names_of
  | holds
  | all_sets
  | sets_for
  | must_have
  | can_not_have
  | is_never
  | parting
  | alike
  | is_within
  | _law_cell_at
  | _law_mixed
  | _law_drawn
  | _law_scheme
  | _law_plain
  | _law_sets
  | _law_never_right
  | law
noncomputable def c1_names_of (C : Calls Fn) : Ev D := mLc (.nm 1) [1] (mIter (mVar 0)) (mYes) (mBin gIx (mVar 1) (mC (.int 0)))
/-- names_of: 0 scheme, 1 kind -/
noncomputable def b_names_of (C : Calls Fn) : Ex :=
  mRet (mBlt gTuple (mCons (c1_names_of C) (mNil)))
/-- holds: 0 store, 1 parts, 2 question, 3 word, 4 worth -/
noncomputable def b_holds (C : Calls Fn) : Ex :=
  mSeq (mSet (.nm 3) (mBin gIx (mVar 2) (mC (.int 0)))) (mSeq (mIf (mTru (mBin gEq (mVar 3) (mC (.str "all")))) (mRet (mC (.bl true))) (mSkip)) (mSeq (mIf (mTru (mBin gEq (mVar 3) (mC (.str "not")))) (mRet (mNot (mCall C .holds 3 (mCons (mVar 0) (mCons (mVar 1) (mCons (mBin gIx (mVar 2) (mC (.int 1))) (mNil))))))) (mSkip)) (mSeq (mIf (mTru (mBin gEq (mVar 3) (mC (.str "and")))) (mRet (mAnd (mCall C .holds 3 (mCons (mVar 0) (mCons (mVar 1) (mCons (mBin gIx (mVar 2) (mC (.int 1))) (mNil))))) (mCall C .holds 3 (mCons (mVar 0) (mCons (mVar 1) (mCons (mBin gIx (mVar 2) (mC (.int 2))) (mNil))))))) (mSkip)) (mSeq (mIf (mTru (mBin gEq (mVar 3) (mC (.str "or")))) (mRet (mOr (mCall C .holds 3 (mCons (mVar 0) (mCons (mVar 1) (mCons (mBin gIx (mVar 2) (mC (.int 1))) (mNil))))) (mCall C .holds 3 (mCons (mVar 0) (mCons (mVar 1) (mCons (mBin gIx (mVar 2) (mC (.int 2))) (mNil))))))) (mSkip)) (mSeq (mIf (mTru (mBin gNotIn (mBin gIx (mVar 2) (mC (.int 1))) (mVar 1))) (mRet (mC (.bl false))) (mSkip)) (mSeq (mSet (.nm 4) (mBin gIx (mVar 1) (mBin gIx (mVar 2) (mC (.int 1))))) (mSeq (mIf (mTru (mBin gEq (mVar 3) (mC (.str "is")))) (mRet (mBin gEq (mVar 4) (mBin gIx (mVar 2) (mC (.int 2))))) (mSkip)) (mSeq (mIf (mTru (mBin gEq (mVar 3) (mC (.str "over")))) (mRet (mBin gGt (mVar 4) (mBin gIx (mVar 2) (mC (.int 2))))) (mSkip)) (mSeq (mIf (mTru (mBin gEq (mVar 3) (mC (.str "leads")))) (mRet (mAnd (mBin gIsNot2 (mVar 4) (mC .non)) (mCall C .holds 3 (mCons (mVar 0) (mCons (mBad) (mCons (mBin gIx (mVar 2) (mC (.int 2))) (mNil))))))) (mSkip)) (mRet (mC (.bl true))))))))))))
noncomputable def c1_all_sets (C : Calls Fn) : Ev D := mLc (.nm 3) [3] (mIter (mVar 1)) (mYes) (mBin gAdd (mVar 3) (mTup (mCons (mVar 2) (mNil))))
noncomputable def f1_all_sets (C : Calls Fn) : Ex := mFor (.nm 2) (mIter (mCall C .names_of 1 (mCons (mVar 0) (mNil)))) (mSet (.nm 1) (mBin gAdd (mVar 1) (c1_all_sets C)))
/-- all_sets: 0 scheme, 1 found, 2 name, 3 some -/
noncomputable def b_all_sets (C : Calls Fn) : Ex :=
  mSeq (mSet (.nm 1) (mLst (mCons (mTup (mNil)) (mNil)))) (mSeq (f1_all_sets C) (mRet (mBlt gSorted (mCons (mVar 1) (mNil)))))
noncomputable def c1_sets_for (C : Calls Fn) : Ev D := mLc (.nm 5) [5] (mIter (mVar 3)) (mYes) (mTup (mCons (mVar 5) (mCons (mC .non) (mNil))))
noncomputable def f1_sets_for (C : Calls Fn) : Ex := mFor (.nm 3) (mIter (mCall C .all_sets 1 (mCons (mVar 0) (mNil)))) (mSeq (mSet (.nm 4) (mBlt gDictA (mCons (c1_sets_for C) (mNil)))) (mIf (mTru (mCall C .holds 3 (mCons (mC .non) (mCons (mVar 4) (mCons (mVar 1) (mNil)))))) (mExpr (mMth "list" gAppend (mVar 2) (mCons (mVar 3) (mNil)))) (mSkip)))
/-- sets_for: 0 scheme, 1 question, 2 found, 3 some, 4 parts, 5 name -/
noncomputable def b_sets_for (C : Calls Fn) : Ex :=
  mSeq (mSet (.nm 2) (mLstR (mNil))) (mSeq (f1_sets_for C) (mRet (mBlt gTuple (mCons (mVar 2) (mNil)))))
noncomputable def c1_must_have (C : Calls Fn) : Ev D := mLc (.nm 4) [4] (mIter (mVar 2)) (mYes) (mBin gIn (mVar 3) (mVar 4))
noncomputable def c2_must_have (C : Calls Fn) : Ev D := mLc (.nm 3) [3] (mIter (mCall C .names_of 1 (mCons (mVar 0) (mNil)))) (mTru (mBlt gAll (mCons (c1_must_have C) (mNil)))) (mVar 3)
/-- must_have: 0 scheme, 1 question, 2 some, 3 name, 4 one -/
noncomputable def b_must_have (C : Calls Fn) : Ex :=
  mSeq (mSet (.nm 2) (mCall C .sets_for 2 (mCons (mVar 0) (mCons (mVar 1) (mNil))))) (mRet (mBlt gTuple (mCons (c2_must_have C) (mNil))))
noncomputable def c1_can_not_have (C : Calls Fn) : Ev D := mLc (.nm 4) [4] (mIter (mVar 2)) (mYes) (mBin gIn (mVar 3) (mVar 4))
noncomputable def c2_can_not_have (C : Calls Fn) : Ev D := mLc (.nm 3) [3] (mIter (mCall C .names_of 1 (mCons (mVar 0) (mNil)))) (mNotT (mTru (mBlt gAny (mCons (c1_can_not_have C) (mNil))))) (mVar 3)
/-- can_not_have: 0 scheme, 1 question, 2 some, 3 name, 4 one -/
noncomputable def b_can_not_have (C : Calls Fn) : Ex :=
  mSeq (mSet (.nm 2) (mCall C .sets_for 2 (mCons (mVar 0) (mCons (mVar 1) (mNil))))) (mRet (mBlt gTuple (mCons (c2_can_not_have C) (mNil))))
/-- is_never: 0 scheme, 1 question -/
noncomputable def b_is_never (C : Calls Fn) : Ex :=
  mRet (mBin gEq (mBlt gLen (mCons (mCall C .sets_for 2 (mCons (mVar 0) (mCons (mVar 1) (mNil)))) (mNil))) (mC (.int 0)))
noncomputable def f1_parting (C : Calls Fn) : Ex := mFor (.nm 5) (mIter (mCall C .all_sets 1 (mCons (mVar 0) (mNil)))) (mIf (mTru (mBin gNe (mBin gIn (mVar 5) (mVar 3)) (mBin gIn (mVar 5) (mVar 4)))) (mRet (mVar 5)) (mSkip))
/-- parting: 0 scheme, 1 one, 2 other, 3 here, 4 there, 5 some -/
noncomputable def b_parting (C : Calls Fn) : Ex :=
  mSeq (mSet (.nm 3) (mCall C .sets_for 2 (mCons (mVar 0) (mCons (mVar 1) (mNil))))) (mSeq (mSet (.nm 4) (mCall C .sets_for 2 (mCons (mVar 0) (mCons (mVar 2) (mNil))))) (mSeq (f1_parting C) (mRet (mC .non))))
/-- alike: 0 scheme, 1 one, 2 other -/
noncomputable def b_alike (C : Calls Fn) : Ex :=
  mRet (mBin gIs2 (mCall C .parting 3 (mCons (mVar 0) (mCons (mVar 1) (mCons (mVar 2) (mNil))))) (mC .non))
noncomputable def c1_is_within (C : Calls Fn) : Ev D := mLc (.nm 4) [4] (mIter (mCall C .sets_for 2 (mCons (mVar 0) (mCons (mVar 1) (mNil))))) (mYes) (mBin gIn (mVar 4) (mVar 3))
/-- is_within: 0 scheme, 1 one, 2 other, 3 there, 4 some -/
noncomputable def b_is_within (C : Calls Fn) : Ex :=
  mSeq (mSet (.nm 3) (mCall C .sets_for 2 (mCons (mVar 0) (mCons (mVar 2) (mNil))))) (mRet (mBlt gAll (mCons (c1_is_within C) (mNil))))
/-- _law_cell_at: 0 script, 1 k -/
noncomputable def b__law_cell_at (C : Calls Fn) : Ex :=
  mSeq (mIf (mTru (mBin gLt (mVar 1) (mBlt gLen (mCons (mVar 0) (mNil))))) (mRet (mBin gIx (mVar 0) (mVar 1))) (mSkip)) (mRet (mC (.int 0)))
/-- _law_mixed: 0 script, 1 k, 2 drawn -/
noncomputable def b__law_mixed (C : Calls Fn) : Ex :=
  mSeq (mSet (.nm 2) (mBin gMod (mBin gMulA (mBin gAdd (mBin gAdd (mCall C ._law_cell_at 2 (mCons (mVar 0) (mCons (mVar 1) (mNil)))) (mBin gMulA (mC (.int 7919)) (mVar 1))) (mC (.int 1))) (mC (.int 48271))) (mC (.int 2147483647)))) (mRet (mBin gMod (mBin gAdd (mBin gAdd (mBin gMulA (mVar 2) (mVar 2)) (mBin gMulA (mC (.int 7)) (mVar 2))) (mVar 1)) (mC (.int 2147483629))))
/-- _law_drawn: 0 number, 1 k, 2 drawn -/
noncomputable def b__law_drawn (C : Calls Fn) : Ex :=
  mSeq (mSet (.nm 2) (mBin gMod (mBin gMulA (mBin gAdd (mBin gAdd (mVar 0) (mBin gMulA (mC (.int 104729)) (mVar 1))) (mC (.int 17))) (mC (.int 69621))) (mC (.int 2147483647)))) (mRet (mBin gMod (mBin gAdd (mBin gAdd (mBin gMulA (mVar 2) (mVar 2)) (mBin gMulA (mC (.int 3)) (mVar 2))) (mVar 1)) (mC (.int 2147483629))))
noncomputable def c1__law_scheme (C : Calls Fn) : Ev D := mLc (.nm 6) [6] (mRange (mCons (mBin gAdd (mC (.int 1)) (mBin gMod (mVar 3) (mC (.int 4)))) (mNil))) (mYes) (mBin gIx (mVar 4) (mBin gMod (mBin gDiv (mCall C ._law_drawn 2 (mCons (mVar 3) (mCons (mVar 6) (mNil)))) (mC (.int 4))) (mC (.int 26))))
noncomputable def f1__law_scheme (C : Calls Fn) : Ex := mFor (.nm 2) (mRange (mCons (mBin gAdd (mC (.int 2)) (mBin gMod (mVar 0) (mC (.int 5)))) (mNil))) (mSeq (mSet (.nm 3) (mBin gDiv (mCall C ._law_drawn 2 (mCons (mVar 0) (mCons (mVar 2) (mNil)))) (mC (.int 4)))) (mSeq (mSet (.nm 4) (mC (.str "abcdefghijklmnopqrstuvwxyz"))) (mSeq (mSet (.nm 5) (mMth "str" gJoin (mC (.str "")) (mCons (c1__law_scheme C) (mNil)))) (mSetI (mVar 1) (mVar 5) (mBin gIx (mTup (mCons (mC (.str "mark")) (mCons (mC (.str "number")) (mCons (mC (.str "text")) (mCons (mC (.str "link")) (mCons (mC (.str "tree")) (mCons (mC (.str "tree")) (mCons (mC (.str "link")) (mCons (mC (.str "number")) (mNil)))))))))) (mBin gMod (mBin gDiv (mVar 3) (mC (.int 8))) (mC (.int 8))))))))
/-- _law_scheme: 0 number, 1 book, 2 k, 3 drawn, 4 letters, 5 name, 6 n -/
noncomputable def b__law_scheme (C : Calls Fn) : Ex :=
  mSeq (mSet (.nm 1) (mDicR)) (mSeq (f1__law_scheme C) (mRet (mBlt gTupleK (mCons (mSortItems (mVar 1)) (mNil)))))
noncomputable def c1__law_plain (C : Calls Fn) : Ev D := mLc (.nm 5) [5] (mIter (mTup (mCons (mC (.int 1)) (mCons (mC (.int 2)) (mNil))))) (mYes) (mCall C ._law_plain 3 (mCons (mVar 0) (mCons (mBin gDiv (mCall C ._law_drawn 2 (mCons (mVar 1) (mCons (mVar 5) (mNil)))) (mC (.int 4))) (mCons (mBin gSub (mVar 2) (mC (.int 1))) (mNil)))))
/-- _law_plain: 0 scheme, 1 number, 2 deep, 3 kind, 4 parts, 5 n -/
noncomputable def b__law_plain (C : Calls Fn) : Ex :=
  mSeq (mSet (.nm 3) (mBin gMod (mVar 1) (mC (.int 8)))) (mSeq (mIf (mAndT (mTru (mBin gGt (mVar 2) (mC (.int 1)))) (mTru (mBin gLt (mVar 3) (mC (.int 4))))) (mSeq (mSet (.nm 4) (c1__law_plain C)) (mRet (mBin gIx (mLst (mCons (mTup (mCons (mC (.str "and")) (mCons (mBin gIx (mVar 4) (mC (.int 0))) (mCons (mBin gIx (mVar 4) (mC (.int 1))) (mNil))))) (mCons (mTup (mCons (mC (.str "or")) (mCons (mBin gIx (mVar 4) (mC (.int 0))) (mCons (mBin gIx (mVar 4) (mC (.int 1))) (mNil))))) (mCons (mTup (mCons (mC (.str "not")) (mCons (mBin gIx (mVar 4) (mC (.int 0))) (mNil)))) (mCons (mTup (mCons (mC (.str "not")) (mCons (mBin gIx (mVar 4) (mC (.int 1))) (mNil)))) (mNil)))))) (mVar 3)))) (mSkip)) (mSeq (mIf (mTru (mBin gEq (mVar 3) (mC (.int 7)))) (mRet (mTup (mCons (mC (.str "all")) (mNil)))) (mSkip)) (mRet (mTup (mCons (mC (.str "has")) (mCons (mBin gIx (mBin gIx (mVar 0) (mBin gMod (mBin gDiv (mVar 1) (mC (.int 8))) (mBlt gLen (mCons (mVar 0) (mNil))))) (mC (.int 0))) (mNil)))))))
noncomputable def c1__law_sets (C : Calls Fn) : Ev D := mLc (.nm 4) [4] (mIter (mVar 1)) (mYes) (mBin gAdd (mVar 4) (mTup (mCons (mVar 2) (mNil))))
noncomputable def f1__law_sets (C : Calls Fn) : Ex := mFor (.tp [2, 3]) (mIter (mVar 0)) (mSet (.nm 1) (mBin gAdd (mVar 1) (c1__law_sets C)))
/-- _law_sets: 0 scheme, 1 found, 2 name, 3 sort, 4 kinds -/
noncomputable def b__law_sets (C : Calls Fn) : Ex :=
  mSeq (mSet (.nm 1) (mLst (mCons (mTup (mNil)) (mNil)))) (mSeq (f1__law_sets C) (mRet (mBlt gSorted (mCons (mVar 1) (mNil)))))
noncomputable def c1__law_never_right (C : Calls Fn) : Ev D := mLc (.tp [5, 6]) [5, 6] (mIter (mVar 0)) (mYes) (mVar 5)
/-- _law_never_right: 0 scheme, 1 one, 2 other, 3 never, 4 names, 5 name, 6 sort -/
noncomputable def b__law_never_right (C : Calls Fn) : Ex :=
  mSeq (mSet (.nm 3) (mTup (mCons (mC (.str "and")) (mCons (mVar 1) (mCons (mTup (mCons (mC (.str "not")) (mCons (mVar 1) (mNil)))) (mNil)))))) (mSeq (mIf (mOrT (mNotT (mTru (mCall C .is_never 2 (mCons (mVar 0) (mCons (mVar 3) (mNil)))))) (mOrT (mNotT (mTru (mCall C .is_within 3 (mCons (mVar 0) (mCons (mVar 3) (mCons (mVar 2) (mNil))))))) (mTru (mBin gNe (mCall C .sets_for 2 (mCons (mVar 0) (mCons (mVar 3) (mNil)))) (mTup (mNil)))))) (mRet (mC (.bl false))) (mSkip)) (mSeq (mSet (.nm 4) (mBlt gTuple (mCons (c1__law_never_right C) (mNil)))) (mRet (mAnd (mBin gEq (mCall C .must_have 2 (mCons (mVar 0) (mCons (mVar 3) (mNil)))) (mVar 4)) (mBin gEq (mCall C .can_not_have 2 (mCons (mVar 0) (mCons (mVar 3) (mNil)))) (mVar 4))))))
noncomputable def c1_law (C : Calls Fn) : Ev D := mLc (.nm 10) [10] (mIter (mVar 4)) (mTru (mBin gNotIn (mVar 10) (mVar 5))) (mVar 10)
noncomputable def c2_law (C : Calls Fn) : Ev D := mLc (.nm 10) [10] (mIter (mVar 5)) (mTru (mBin gIn (mVar 10) (mVar 6))) (mVar 10)
noncomputable def c3_law (C : Calls Fn) : Ev D := mLc (.nm 10) [10] (mIter (mVar 4)) (mOrT (mTru (mBin gIn (mVar 10) (mVar 5))) (mTru (mBin gIn (mVar 10) (mVar 6)))) (mVar 10)
noncomputable def c4_law (C : Calls Fn) : Ev D := mLc (.nm 12) [12] (mIter (mVar 4)) (mAndT (mTru (mBin gLt (mVar 12) (mVar 10))) (mTru (mBin gNe (mBin gIn (mVar 12) (mVar 5)) (mBin gIn (mVar 12) (mVar 6))))) (mVar 12)
noncomputable def t20_law (C : Calls Fn) : Ex := mRet (mAnd (mBin gNe (mBin gIn (mVar 10) (mVar 5)) (mBin gIn (mVar 10) (mVar 6))) (mBin gEq (mVar 11) (mLst (mNil))))
noncomputable def t19_law (C : Calls Fn) : Ex := mSeq (mSet (.nm 11) (c4_law C)) (t20_law C)
noncomputable def t18_law (C : Calls Fn) : Ex := mSeq (mIf (mTru (mBin gIs2 (mVar 10) (mC .non))) (mRet (mBin gEq (mVar 5) (mVar 6))) (mSkip)) (t19_law C)
noncomputable def t17_law (C : Calls Fn) : Ex := mSeq (mIf (mOrT (mTru (mBin gNe (mVar 9) (mCall C .alike 3 (mCons (mVar 1) (mCons (mVar 2) (mCons (mVar 3) (mNil))))))) (mTru (mBin gNe (mVar 9) (mBin gIs2 (mVar 10) (mC .non))))) (mRet (mC (.bl false))) (mSkip)) (t18_law C)
noncomputable def t16_law (C : Calls Fn) : Ex := mSeq (mSet (.nm 10) (mCall C .parting 3 (mCons (mVar 1) (mCons (mVar 2) (mCons (mVar 3) (mNil)))))) (t17_law C)
noncomputable def t15_law (C : Calls Fn) : Ex := mSeq (mSet (.nm 9) (mAnd (mCall C .is_within 3 (mCons (mVar 1) (mCons (mVar 2) (mCons (mVar 3) (mNil))))) (mCall C .is_within 3 (mCons (mVar 1) (mCons (mVar 3) (mCons (mVar 2) (mNil))))))) (t16_law C)
noncomputable def t14_law (C : Calls Fn) : Ex := mSeq (mIf (mNotT (mTru (mCall C ._law_never_right 3 (mCons (mVar 1) (mCons (mVar 2) (mCons (mVar 3) (mNil))))))) (mRet (mC (.bl false))) (mSkip)) (t15_law C)
noncomputable def t13_law (C : Calls Fn) : Ex := mSeq (mIf (mOrT (mNotT (mTru (mCall C .is_within 3 (mCons (mVar 1) (mCons (mVar 7) (mCons (mVar 2) (mNil))))))) (mNotT (mTru (mCall C .is_within 3 (mCons (mVar 1) (mCons (mVar 2) (mCons (mVar 8) (mNil)))))))) (mRet (mC (.bl false))) (mSkip)) (t14_law C)
noncomputable def t12_law (C : Calls Fn) : Ex := mSeq (mIf (mNotT (mTru (mCall C .alike 3 (mCons (mVar 1) (mCons (mTup (mCons (mC (.str "not")) (mCons (mVar 7) (mNil)))) (mCons (mTup (mCons (mC (.str "or")) (mCons (mTup (mCons (mC (.str "not")) (mCons (mVar 2) (mNil)))) (mCons (mTup (mCons (mC (.str "not")) (mCons (mVar 3) (mNil)))) (mNil))))) (mNil))))))) (mRet (mC (.bl false))) (mSkip)) (t13_law C)
noncomputable def t11_law (C : Calls Fn) : Ex := mSeq (mIf (mTru (mBin gNe (mCall C .sets_for 2 (mCons (mVar 1) (mCons (mVar 8) (mNil)))) (mBlt gTuple (mCons (c3_law C) (mNil))))) (mRet (mC (.bl false))) (mSkip)) (t12_law C)
noncomputable def t10_law (C : Calls Fn) : Ex := mSeq (mIf (mTru (mBin gNe (mCall C .sets_for 2 (mCons (mVar 1) (mCons (mVar 7) (mNil)))) (mBlt gTuple (mCons (c2_law C) (mNil))))) (mRet (mC (.bl false))) (mSkip)) (t11_law C)
noncomputable def t9_law (C : Calls Fn) : Ex := mSeq (mSet (.nm 8) (mTup (mCons (mC (.str "or")) (mCons (mVar 2) (mCons (mVar 3) (mNil)))))) (t10_law C)
noncomputable def t8_law (C : Calls Fn) : Ex := mSeq (mSet (.nm 7) (mTup (mCons (mC (.str "and")) (mCons (mVar 2) (mCons (mVar 3) (mNil)))))) (t9_law C)
noncomputable def t7_law (C : Calls Fn) : Ex := mSeq (mIf (mTru (mBin gNe (mCall C .sets_for 2 (mCons (mVar 1) (mCons (mTup (mCons (mC (.str "not")) (mCons (mVar 2) (mNil)))) (mNil)))) (mBlt gTuple (mCons (c1_law C) (mNil))))) (mRet (mC (.bl false))) (mSkip)) (t8_law C)
noncomputable def t6_law (C : Calls Fn) : Ex := mSeq (mIf (mOrT (mTru (mBin gNe (mVar 4) (mBlt gTuple (mCons (mCall C ._law_sets 1 (mCons (mVar 1) (mNil))) (mNil))))) (mTru (mBin gNe (mBlt gList (mCons (mVar 5) (mNil))) (mSortSetS (mVar 5))))) (mRet (mC (.bl false))) (mSkip)) (t7_law C)
noncomputable def t5_law (C : Calls Fn) : Ex := mSeq (mSet (.nm 6) (mCall C .sets_for 2 (mCons (mVar 1) (mCons (mVar 3) (mNil))))) (t6_law C)
noncomputable def t4_law (C : Calls Fn) : Ex := mSeq (mSet (.nm 5) (mCall C .sets_for 2 (mCons (mVar 1) (mCons (mVar 2) (mNil))))) (t5_law C)
noncomputable def t3_law (C : Calls Fn) : Ex := mSeq (mSet (.nm 4) (mCall C .sets_for 2 (mCons (mVar 1) (mCons (mTup (mCons (mC (.str "all")) (mNil))) (mNil))))) (t4_law C)
noncomputable def t2_law (C : Calls Fn) : Ex := mSeq (mSet (.nm 3) (mCall C ._law_plain 3 (mCons (mVar 1) (mCons (mCall C ._law_mixed 2 (mCons (mVar 0) (mCons (mC (.int 2)) (mNil)))) (mCons (mC (.int 3)) (mNil)))))) (t3_law C)
noncomputable def t1_law (C : Calls Fn) : Ex := mSeq (mSet (.nm 2) (mCall C ._law_plain 3 (mCons (mVar 1) (mCons (mCall C ._law_mixed 2 (mCons (mVar 0) (mCons (mC (.int 1)) (mNil)))) (mCons (mC (.int 3)) (mNil)))))) (t2_law C)
/-- law: 0 script, 1 scheme, 2 one, 3 other, 4 every, 5 here, 6 there, 7 both, 8 either, 9 same, 10 kinds, 11 less, 12 some -/
noncomputable def b_law (C : Calls Fn) : Ex :=
  mSeq (mSet (.nm 1) (mCall C ._law_scheme 1 (mCons (mCall C ._law_mixed 2 (mCons (mVar 0) (mCons (mC (.int 0)) (mNil)))) (mNil)))) (t1_law C)
noncomputable def tb : Fn → Df Fn
  | .names_of => ⟨2, false, b_names_of⟩
  | .holds => ⟨5, false, b_holds⟩
  | .all_sets => ⟨4, false, b_all_sets⟩
  | .sets_for => ⟨6, true, b_sets_for⟩
  | .must_have => ⟨5, false, b_must_have⟩
  | .can_not_have => ⟨5, false, b_can_not_have⟩
  | .is_never => ⟨2, false, b_is_never⟩
  | .parting => ⟨6, false, b_parting⟩
  | .alike => ⟨3, false, b_alike⟩
  | .is_within => ⟨5, false, b_is_within⟩
  | ._law_cell_at => ⟨2, false, b__law_cell_at⟩
  | ._law_mixed => ⟨3, false, b__law_mixed⟩
  | ._law_drawn => ⟨3, false, b__law_drawn⟩
  | ._law_scheme => ⟨7, true, b__law_scheme⟩
  | ._law_plain => ⟨6, false, b__law_plain⟩
  | ._law_sets => ⟨5, false, b__law_sets⟩
  | ._law_never_right => ⟨7, false, b__law_never_right⟩
  | .law => ⟨13, false, b_law⟩
theorem u_names_of (m : Nat) (a0 : D) (h : Hq) : Mi.run tb (m + 1) .names_of [a0] h = (b_names_of (Mi.run tb m) [some a0, none] h).res := rfl
theorem u_holds (m : Nat) (a0 a1 a2 : D) (h : Hq) : Mi.run tb (m + 1) .holds [a0, a1, a2] h = (b_holds (Mi.run tb m) [some a0, some a1, some a2, none, none] h).res := rfl
theorem u_all_sets (m : Nat) (a0 : D) (h : Hq) : Mi.run tb (m + 1) .all_sets [a0] h = (b_all_sets (Mi.run tb m) [some a0, none, none, none] h).res := rfl
theorem u_sets_for (m : Nat) (a0 a1 : D) (h : Hq) : Mi.run tb (m + 1) .sets_for [a0, a1] h = gcR h (b_sets_for (Mi.run tb m) [some a0, some a1, none, none, none, none] h).res := rfl
theorem u_must_have (m : Nat) (a0 a1 : D) (h : Hq) : Mi.run tb (m + 1) .must_have [a0, a1] h = (b_must_have (Mi.run tb m) [some a0, some a1, none, none, none] h).res := rfl
theorem u_can_not_have (m : Nat) (a0 a1 : D) (h : Hq) : Mi.run tb (m + 1) .can_not_have [a0, a1] h = (b_can_not_have (Mi.run tb m) [some a0, some a1, none, none, none] h).res := rfl
theorem u_is_never (m : Nat) (a0 a1 : D) (h : Hq) : Mi.run tb (m + 1) .is_never [a0, a1] h = (b_is_never (Mi.run tb m) [some a0, some a1] h).res := rfl
theorem u_parting (m : Nat) (a0 a1 a2 : D) (h : Hq) : Mi.run tb (m + 1) .parting [a0, a1, a2] h = (b_parting (Mi.run tb m) [some a0, some a1, some a2, none, none, none] h).res := rfl
theorem u_alike (m : Nat) (a0 a1 a2 : D) (h : Hq) : Mi.run tb (m + 1) .alike [a0, a1, a2] h = (b_alike (Mi.run tb m) [some a0, some a1, some a2] h).res := rfl
theorem u_is_within (m : Nat) (a0 a1 a2 : D) (h : Hq) : Mi.run tb (m + 1) .is_within [a0, a1, a2] h = (b_is_within (Mi.run tb m) [some a0, some a1, some a2, none, none] h).res := rfl
theorem u__law_cell_at (m : Nat) (a0 a1 : D) (h : Hq) : Mi.run tb (m + 1) ._law_cell_at [a0, a1] h = (b__law_cell_at (Mi.run tb m) [some a0, some a1] h).res := rfl
theorem u__law_mixed (m : Nat) (a0 a1 : D) (h : Hq) : Mi.run tb (m + 1) ._law_mixed [a0, a1] h = (b__law_mixed (Mi.run tb m) [some a0, some a1, none] h).res := rfl
theorem u__law_drawn (m : Nat) (a0 a1 : D) (h : Hq) : Mi.run tb (m + 1) ._law_drawn [a0, a1] h = (b__law_drawn (Mi.run tb m) [some a0, some a1, none] h).res := rfl
theorem u__law_scheme (m : Nat) (a0 : D) (h : Hq) : Mi.run tb (m + 1) ._law_scheme [a0] h = gcR h (b__law_scheme (Mi.run tb m) [some a0, none, none, none, none, none, none] h).res := rfl
theorem u__law_plain (m : Nat) (a0 a1 a2 : D) (h : Hq) : Mi.run tb (m + 1) ._law_plain [a0, a1, a2] h = (b__law_plain (Mi.run tb m) [some a0, some a1, some a2, none, none, none] h).res := rfl
theorem u__law_sets (m : Nat) (a0 : D) (h : Hq) : Mi.run tb (m + 1) ._law_sets [a0] h = (b__law_sets (Mi.run tb m) [some a0, none, none, none, none] h).res := rfl
theorem u__law_never_right (m : Nat) (a0 a1 a2 : D) (h : Hq) : Mi.run tb (m + 1) ._law_never_right [a0, a1, a2] h = (b__law_never_right (Mi.run tb m) [some a0, some a1, some a2, none, none, none, none] h).res := rfl
theorem u_law (m : Nat) (a0 : D) (h : Hq) : Mi.run tb (m + 1) .law [a0] h = (b_law (Mi.run tb m) [some a0, none, none, none, none, none, none, none, none, none, none, none, none] h).res := rfl
end L52
namespace L52
open PySem L2 Mi
noncomputable abbrev rn := Mi.run tb
def cell (ns : List Int) (k : Nat) : Int := ns.getD k 0
def scr (ns : List Int) : D := .klst (ns.map .int)
theorem r_cell (ns : List Int) (k : Nat) (h : Hq) (m : Nat) : rn (m + 1) ._law_cell_at [scr ns, .int k] h = .ok (.int (cell ns k)) h := by
  unfold rn
  rw [u__law_cell_at, b__law_cell_at]
  by_cases hk : k < ns.length
  · have e : (ns.map D.int)[k]? = some (.int (cell ns k)) := by simp [cell, hk]
    simp [scr, hk, g_ixK e]
  · have e : cell ns k = 0 := by unfold cell; rw [List.getD_eq_getElem?_getD, List.getElem?_eq_none (by omega)]; rfl
    simp [scr, hk, e]
def mix0 (c : Int) (k : Int) : Int := (c + 7919 * k + 1) * 48271 % 2147483647
def mix (c : Int) (k : Int) : Int := (mix0 c k * mix0 c k + 7 * mix0 c k + k) % 2147483629
theorem r_mixed (ns : List Int) (k : Nat) (h : Hq) (m : Nat) : rn (m + 2) ._law_mixed [scr ns, .int k] h = .ok (.int (mix (cell ns k) k)) h := by
  unfold rn
  rw [u__law_mixed, b__law_mixed]
  simp [r_cell, g_mul, g_mod, okI_mod, mix, mix0]
def drw0 (c : Int) (k : Int) : Int := (c + 104729 * k + 17) * 69621 % 2147483647
def drw (c : Int) (k : Int) : Int := (drw0 c k * drw0 c k + 3 * drw0 c k + k) % 2147483629
theorem r_drawn (c k : Int) (h : Hq) (m : Nat) : rn (m + 1) ._law_drawn [.int c, .int k] h = .ok (.int (drw c k)) h := by
  unfold rn
  rw [u__law_drawn, b__law_drawn]
  simp [g_mul, g_mod, okI_mod, drw, drw0]
/-! ### schemes -/
def nmOf (d : Int) : Str := Txt.join "" ((List.range (1 + d % 4).toNat).map fun n : Nat => lett (drw d n / 4 % 26))
def sorts : List Str := ["mark", "number", "text", "link", "tree", "tree", "link", "number"]
def soOf (d : Int) : Str := sorts.getD (d / 8 % 8).toNat ""
def bkS (c : Int) (b : List (Str × Str)) (k : Nat) : List (Str × Str) := put b (nmOf (drw c k / 4)) (soOf (drw c k / 4))
def bk (c : Int) (ks : List Nat) : List (Str × Str) := ks.foldl (bkS c) []
def schemeOf (c : Int) : List (Str × Str) := (bk c (List.range (2 + c % 5).toNat)).mergeSort leB
theorem bk_facts (c : Int) (ks : List Nat) : ((bk c ks).map (·.1)).Nodup ∧ (bk c ks).length ≤ ks.length ∧ (ks ≠ [] → bk c ks ≠ []) := by
  unfold bk
  suffices h : ∀ (ks : List Nat) (b : List (Str × Str)), (b.map (·.1)).Nodup → ((ks.foldl (bkS c) b).map (·.1)).Nodup ∧ (ks.foldl (bkS c) b).length ≤ b.length + ks.length ∧ ((b ≠ [] ∨ ks ≠ []) → ks.foldl (bkS c) b ≠ []) by
    have := h ks [] (by simp)
    exact ⟨this.1, by simpa using this.2.1, fun z => this.2.2 (.inr z)⟩
  intro ks
  induction ks with
  | nil => exact fun b hb => ⟨hb, by simp, fun z => z.elim id (fun z => absurd rfl z)⟩
  | cons k ks ih =>
    intro b hb
    have l := put_len b (nmOf (drw c k / 4)) (soOf (drw c k / 4))
    obtain ⟨a1, a2, a3⟩ := ih (bkS c b k) (put_nodup hb _ _)
    refine ⟨a1, ?_, fun _ => a3 (.inl fun z => ?_)⟩
    · rw [List.foldl_cons]
      have : (bkS c b k).length ≤ b.length + 1 := l.1
      rw [List.length_cons]
      omega
    · have z2 : (put b (nmOf (drw c k / 4)) (soOf (drw c k / 4))).length = 0 := by
        have : put b (nmOf (drw c k / 4)) (soOf (drw c k / 4)) = [] := z
        rw [this]; rfl
      omega
theorem scheme_facts (c : Int) : ((schemeOf c).map (·.1)).Nodup ∧ (schemeOf c).length ≤ 6 ∧ schemeOf c ≠ [] := by
  obtain ⟨a, b, d⟩ := bk_facts c (List.range (2 + c % 5).toNat)
  have p : (schemeOf c).Perm (bk c (List.range (2 + c % 5).toNat)) := List.mergeSort_perm _ _
  refine ⟨(p.map (·.1)).nodup_iff.mpr a, ?_, fun z => ?_⟩
  · rw [p.length_eq]
    rw [List.length_range] at b
    omega
  · rw [z] at p
    have := d (by simp; omega)
    exact this p.symm.eq_nil
theorem sorts_at {d : Int} {h : Hq} : gIx (.tup [.str "mark", .str "number", .str "text", .str "link", .str "tree", .str "tree", .str "link", .str "number"]) (.int (d / 8 % 8)) h = some (.str (soOf d), h) := by
  unfold soOf
  obtain ⟨n, hz⟩ : ∃ n : Nat, d / 8 % 8 = n := ⟨(d / 8 % 8).toNat, by omega⟩
  rw [hz]
  have hn : n < 8 := by omega
  have e : (sorts.map D.str)[n]? = some (.str (sorts.getD n "")) := by
    rw [List.getElem?_map, List.getD_eq_getElem?_getD, List.getElem?_eq_getElem (show n < sorts.length from hn)]; rfl
  exact g_ixT e
theorem r_scheme (c : Int) (h : Hq) (m : Nat) : rn (m + 2) ._law_scheme [.int c] h = .ok (.ftup ((schemeOf c).map encP)) h := by
  unfold rn
  rw [u__law_scheme, b__law_scheme]
  have key : ∃ ρ' h', f1__law_scheme (Mi.run tb (m + 1)) [some (.int c), some (.ref h.length), none, none, none, none, none] (h ++ [.dic []]) = .nx ρ' h' ∧
      (∃ x2 x3 x4 x5, ρ' = [some (.int c), some (.ref h.length), x2, x3, x4, x5, none]) ∧ h' = h ++ [.dic ((bk c (List.range (2 + c % 5).toNat)).map e2)] := by
    unfold f1__law_scheme
    refine for_inv (c := none) (fun i : Nat => D.int i) (List.range (2 + c % 5).toNat) (fun done ρ h' => (∃ x2 x3 x4 x5, ρ = [some (.int c), some (.ref h.length), x2, x3, x4, x5, none]) ∧ h' = h ++ [.dic ((bk c done).map e2)])
      (h1 := h ++ [.dic []]) ?_ ⟨⟨none, none, none, none, rfl⟩, rfl⟩ (fun _ _ _ _ => trivial) ?_
    · have e1 : -1000000 ≤ 2 + c % 5 ∧ 2 + c % 5 ≤ 1000000 := by omega
      simp [g_mod, e1, upto]
    · rintro d k t ρ h' hd ⟨⟨x2, x3, x4, x5, rfl⟩, rfl⟩
      refine ⟨_, rfl, [some (.int c), some (.ref h.length), some (.int k), some (.int (drw c k / 4)), some (.str abc), some (.str (nmOf (drw c k / 4))), none], h ++ [.dic ((bk c (d ++ [k])).map e2)], .inl ?_, ⟨_, _, _, _, rfl⟩, rfl⟩
      obtain ⟨y, hy⟩ : ∃ y, y = drw c k / 4 := ⟨_, rfl⟩
      have lc : c1__law_scheme (Mi.run tb (m + 1)) [some (.int c), some (.ref h.length), some (.int k), some (.int y), some (.str abc), x5, none] (h ++ [.dic ((bk c d).map e2)])
          = .ok (.lst ((List.range (1 + y % 4).toNat).map fun n : Nat => .str (lett (drw y n / 4 % 26)))) (h ++ [.dic ((bk c d).map e2)]) := by
        unfold c1__law_scheme
        refine lc_map (c := none) (fun i : Nat => D.int i) _ _ ?_ trivial fun n hn => ⟨_, rfl, ?_⟩
        · have e1 : -1000000 ≤ 1 + y % 4 ∧ 1 + y % 4 ≤ 1000000 := by omega
          simp [g_mod, e1, upto]
        · have e0 : 0 ≤ drw y n / 4 % 26 ∧ drw y n / 4 % 26 < 26 := by omega
          simp [wipeD, r_drawn, g_div, g_mod, g_abc e0.1 e0.2]
      have hj : gJoin (.str "") [.lst ((List.range (1 + y % 4).toNat).map fun n : Nat => .str (lett (drw y n / 4 % 26)))] (h ++ [.dic ((bk c d).map e2)]) = some (.str (nmOf y), h ++ [.dic ((bk c d).map e2)]) := by
        have := g_join (h := h ++ [.dic ((bk c d).map e2)]) ((List.range (1 + y % 4).toNat).map fun n : Nat => lett (drw y n / 4 % 26)) (by
          rw [List.map_map]
          have : ((fun x : Str => x.length) ∘ fun n : Nat => lett (drw y n / 4 % 26)) = fun _ => 1 := rfl
          rw [this]
          have : (List.map (fun _ : Nat => 1) (List.range (1 + y % 4).toNat)).sum = (1 + y % 4).toNat := by
            rw [List.map_const', List.sum_replicate_nat, List.length_range]; simp
          rw [this]; omega)
        rw [List.map_map] at this
        exact this
      have hl : (bk c d).length < sizeLine := by
        have h1 := (bk_facts c d).2.1
        have h2 : d.length ≤ (2 + c % 5).toNat := by
          have := congrArg List.length hd
          simp at this
          omega
        have : sizeLine = 16777216 := rfl
        omega
      have hb : bk c (d ++ [k]) = put (bk c d) (nmOf y) (soOf y) := by rw [hy]; unfold bk; rw [List.foldl_append]; rfl
      have ha : (("abcdefghijklmnopqrstuvwxyz" : String) : Str) = abc := rfl
      simp only [ha] at lc ⊢
      rw [hb, ← hy]
      have e10 := g_setLast (h := h) (bk c d) (nmOf y) (soOf y) hl
      simp [r_drawn, g_div, g_mod, ← hy, lc, hj, tyOk, sorts_at, e10]
  obtain ⟨ρ', h', e, ⟨x2, x3, x4, x5, rfl⟩, rfl⟩ := key
  have es := sortItems_e2 (f := mVar 1) (ρ := [some (.int c), some (.ref h.length), x2, x3, x4, x5, none]) (h := h ++ [.dic ((bk c (List.range (2 + c % 5).toNat)).map e2)]) rfl getL_last
  simp [e, es]
  exact gcR_ok (d := .ftup ((schemeOf c).map encP)) (by rw [D.nr]; exact encP_nr _) List.take_left
/-! ### plain questions -/
inductive Qn where
  | all
  | has (n : Str)
  | not (q : Qn)
  | and (p q : Qn)
  | or (p q : Qn)
def Qn.enc : Qn → D
  | .all => .tup [.str "all"]
  | .has n => .tup [.str "has", .str n]
  | .not q => .tup [.str "not", q.enc]
  | .and p q => .tup [.str "and", p.enc, q.enc]
  | .or p q => .tup [.str "or", p.enc, q.enc]
def Qn.dq : Qn → Nat
  | .all => 1
  | .has _ => 1
  | .not q => q.dq + 1
  | .and p q => max p.dq q.dq + 1
  | .or p q => max p.dq q.dq + 1
def Qn.lets : Qn → List Str → Bool
  | .all, _ => true
  | .has n, ks => decide (n ∈ ks)
  | .not q, ks => !q.lets ks
  | .and p q, ks => p.lets ks && q.lets ks
  | .or p q, ks => p.lets ks || q.lets ks
theorem g_ix0 {h : Hq} {a : D} {xs : List D} : gIx (.tup (a :: xs)) (.int 0) h = some (a, h) := g_ixT (i := 0) rfl
theorem g_ix1 {h : Hq} {a b : D} {xs : List D} : gIx (.tup (a :: b :: xs)) (.int 1) h = some (b, h) := g_ixT (i := 1) rfl
theorem g_ix2 {h : Hq} {a b c : D} {xs : List D} : gIx (.tup (a :: b :: c :: xs)) (.int 2) h = some (c, h) := g_ixT (i := 2) rfl
theorem g_il0 {h : Hq} {a : D} {xs : List D} : gIx (.lst (a :: xs)) (.int 0) h = some (a, h) := g_ixL (i := 0) rfl
theorem g_il1 {h : Hq} {a b : D} {xs : List D} : gIx (.lst (a :: b :: xs)) (.int 1) h = some (b, h) := g_ixL (i := 1) rfl
theorem g_il2 {h : Hq} {a b c : D} {xs : List D} : gIx (.lst (a :: b :: c :: xs)) (.int 2) h = some (c, h) := g_ixL (i := 2) rfl
theorem g_il3 {h : Hq} {a b c d : D} {xs : List D} : gIx (.lst (a :: b :: c :: d :: xs)) (.int 3) h = some (d, h) := g_ixL (i := 3) rfl
theorem w1 : decide (("has" : Str) = "all") = false := by decide
theorem w2 : decide (("not" : Str) = "all") = false := by decide
theorem w3 : decide (("and" : Str) = "all") = false := by decide
theorem w4 : decide (("or" : Str) = "all") = false := by decide
theorem w5 : decide (("not" : Str) = "has") = false := by decide
theorem w6 : decide (("and" : Str) = "has") = false := by decide
theorem w7 : decide (("or" : Str) = "has") = false := by decide
theorem w8 : decide (("and" : Str) = "not") = false := by decide
theorem w9 : decide (("or" : Str) = "not") = false := by decide
theorem w10 : decide (("or" : Str) = "and") = false := by decide
theorem w11 : decide (("has" : Str) = "not") = false := by decide
theorem w12 : decide (("has" : Str) = "and") = false := by decide
theorem w13 : decide (("has" : Str) = "or") = false := by decide
theorem w14 : decide (("has" : Str) = "is") = false := by decide
theorem w15 : decide (("has" : Str) = "over") = false := by decide
theorem w16 : decide (("has" : Str) = "leads") = false := by decide
theorem w17 : decide (("not" : Str) = "and") = false := by decide
theorem g_intB {h : Hq} {b : Bool} : gInt [.bl b] h = some (.int (if b then 1 else 0), h) := rfl
/-! ### drawn plain questions -/
def plainQ (ps : List (Str × Str)) : Nat → Int → Qn
  | 0, c => if c % 8 = 7 then .all else .has ((ps.getD (c / 8 % ps.length).toNat ("", "")).1)
  | d + 1, c => if 0 < d ∧ c % 8 < 4 then
      (if c % 8 = 0 then .and (plainQ ps d (drw c 1 / 4)) (plainQ ps d (drw c 2 / 4))
       else if c % 8 = 1 then .or (plainQ ps d (drw c 1 / 4)) (plainQ ps d (drw c 2 / 4))
       else if c % 8 = 2 then .not (plainQ ps d (drw c 1 / 4)) else .not (plainQ ps d (drw c 2 / 4)))
    else if c % 8 = 7 then .all else .has ((ps.getD (c / 8 % ps.length).toNat ("", "")).1)
theorem plainQ_dq (ps : List (Str × Str)) : ∀ (d : Nat) (c : Int), (plainQ ps d c).dq ≤ d + 1
  | 0, c => by unfold plainQ; split <;> simp [Qn.dq]
  | d + 1, c => by
    have a := plainQ_dq ps d (drw c 1 / 4)
    have b := plainQ_dq ps d (drw c 2 / 4)
    unfold plainQ
    repeat' split
    all_goals simp only [Qn.dq]
    all_goals omega
theorem leaf_at {ps : List (Str × Str)} (hp : ps ≠ []) {c : Int} {h : Hq} : ∃ p : Str × Str, ps.getD (c / 8 % ps.length).toNat ("", "") = p ∧ gIx (.ftup (ps.map encP)) (.int (c / 8 % ps.length)) h = some (encP p, h) := by
  have hl : 0 < ps.length := List.length_pos_iff.mpr hp
  have h0 : 0 ≤ c / 8 % ps.length := Int.emod_nonneg _ (by omega)
  have h1 : c / 8 % ps.length < ps.length := Int.emod_lt_of_pos _ (by omega)
  obtain ⟨n, hz⟩ : ∃ n : Nat, c / 8 % ps.length = n := ⟨(c / 8 % ps.length).toNat, by omega⟩
  rw [hz] at h1 ⊢
  have hn : n < ps.length := by omega
  refine ⟨ps[n], ?_, g_ixT ?_⟩
  · show ps.getD n ("", "") = _
    rw [List.getD_eq_getElem?_getD, List.getElem?_eq_getElem hn]; rfl
  · rw [List.getElem?_map, List.getElem?_eq_getElem hn]; rfl
theorem r_plain {ps : List (Str × Str)} (hp : ps ≠ []) (h : Hq) : ∀ (d m : Nat) (c : Int), d + 1 ≤ m → rn m ._law_plain [.ftup (ps.map encP), .int c, .int d] h = .ok (plainQ ps d c).enc h := by
  intro d
  have hl : 0 < ps.length := List.length_pos_iff.mpr hp
  have hl2 : (0 : Int) < (ps.length : Int) := by omega
  induction d with
  | zero =>
    intro m c hm
    obtain ⟨m, rfl⟩ : ∃ j, m = j + 1 := ⟨m - 1, by omega⟩
    unfold rn
    rw [u__law_plain, b__law_plain]
    obtain ⟨p, e1, e2⟩ := leaf_at hp (c := c) (h := h)
    unfold plainQ
    rw [e1]
    by_cases h7 : c % 8 = 7
    · simp [g_mod, h7, Qn.enc]
    · simp [g_mod, g_div, h7, Qn.enc, hl, hl2, e2, encP, g_ix0]
  | succ d ih =>
    intro m c hm
    obtain ⟨m, rfl⟩ : ∃ j, m = j + 1 := ⟨m - 1, by omega⟩
    unfold rn at ih ⊢
    rw [u__law_plain, b__law_plain]
    obtain ⟨p, e1, e2⟩ := leaf_at hp (c := c) (h := h)
    unfold plainQ
    rw [e1]
    by_cases hd : 0 < d ∧ c % 8 < 4
    · rw [if_pos hd]
      have hd2 : (1 : Int) < (d : Int) + 1 := by omega
      have lc : c1__law_plain (Mi.run tb m) [some (.ftup (ps.map encP)), some (.int c), some (.int ((d : Int) + 1)), some (.int (c % 8)), none, none] h = .ok (.lst [(plainQ ps d (drw c 1 / 4)).enc, (plainQ ps d (drw c 2 / 4)).enc]) h := by
        unfold c1__law_plain
        refine lc_map (c := none) (fun i : Int => D.int i) (fun i => (plainQ ps d (drw c i / 4)).enc) [1, 2] ?_ trivial fun n hn => ⟨_, rfl, ?_⟩
        · simp
        · obtain ⟨j, rfl⟩ : ∃ j, m = j + 1 := ⟨m - 1, by omega⟩
          have e3 := r_drawn c n h j
          unfold rn at e3
          have e4 := ih (j + 1) (drw c n / 4) (by omega)
          simp [wipeD, e3, g_div, e4]
      have hk : c % 8 = 0 ∨ c % 8 = 1 ∨ c % 8 = 2 ∨ c % 8 = 3 := by omega
      rcases hk with hk | hk | hk | hk <;> (rw [hk] at lc; simp [g_mod, hk, hd2, Qn.enc, lc, g_il0, g_il1, g_il2, g_il3])
    · rw [if_neg hd]
      by_cases z : (1 : Int) < (d : Int) + 1
      · have z4 : ¬ c % 8 < 4 := fun z2 => hd ⟨by omega, z2⟩
        by_cases h7 : c % 8 = 7
        · simp [g_mod, h7, Qn.enc, z]
        · simp [g_mod, g_div, h7, Qn.enc, hl, hl2, e2, encP, g_ix0, z, z4]
      · by_cases h7 : c % 8 = 7
        · simp [g_mod, h7, Qn.enc, z]
        · simp [g_mod, g_div, h7, Qn.enc, hl, hl2, e2, encP, g_ix0, z]
end L52
namespace L52
open PySem L2 Mi
/-! ### sets of kinds -/
theorem pw_le {n : Nat} (h : n ≤ 6) : 2 ^ n ≤ 64 := by
  have : 2 ^ n ≤ 2 ^ 6 := Nat.pow_le_pow_right (by decide) h
  omega
theorem r_names (ps : List (Str × Str)) (h : Hq) (m : Nat) : rn (m + 1) .names_of [.ftup (ps.map encP)] h = .ok (encS (ps.map (·.1))) h := by
  unfold rn
  rw [u_names_of, b_names_of]
  have lc : c1_names_of (Mi.run tb m) [some (.ftup (ps.map encP)), none] h = .ok (.lst (ps.map fun p => .str p.1)) h := by
    unfold c1_names_of
    refine lc_map (c := none) encP _ ps ?_ trivial fun p hp => ⟨_, rfl, ?_⟩
    · simp
    · simp [wipeD, encP, g_ix0]
  simp [lc, encS]
theorem steps_ok {ns d : List Str} {n : Str} {t : List Str} (hn : ns.length ≤ 6) (hd : ns = d ++ n :: t) : (∀ s ∈ subs d, s.length + 1 ≤ sizeLine) ∧ (subs d).length + (subs d).length ≤ sizeLine := by
  have hd2 : d.length ≤ 5 := by
    have := congrArg List.length hd
    simp at this
    omega
  have h1 := subs_len d
  have h2 := pw_le (n := d.length) (by omega)
  refine ⟨fun s hs => ?_, ?_⟩
  · have := (subs_sub d s hs).length_le
    rw [szL]; omega
  · rw [szL]; omega
theorem r_sets (ps : List (Str × Str)) (hl : ps.length ≤ 6) (h : Hq) (m : Nat) : rn (m + 1) ._law_sets [.ftup (ps.map encP)] h = .ok (.lst ((every (ps.map (·.1))).map encS)) h := by
  unfold rn
  rw [u__law_sets, b__law_sets]
  have key : ∃ ρ' h', f1__law_sets (Mi.run tb m) [some (.ftup (ps.map encP)), some (.lst [.tup []]), none, none, none] h = .nx ρ' h' ∧ (h' = h ∧ ∃ x2 x3, ρ' = [some (.ftup (ps.map encP)), some (.lst ((subs (ps.map (·.1))).map encS)), x2, x3, none]) := by
    unfold f1__law_sets
    refine for_inv (c := none) encP ps (fun d ρ h' => h' = h ∧ ∃ x2 x3, ρ = [some (.ftup (ps.map encP)), some (.lst ((subs (d.map (·.1))).map encS)), x2, x3, none]) (h1 := h) ?_ ⟨rfl, _, _, rfl⟩ (fun _ _ _ _ => trivial) ?_
    · simp
    · rintro d p t ρ h' hd ⟨rfl, x2, x3, rfl⟩
      refine ⟨_, rfl, _, h', .inl ?_, rfl, some (.str p.1), some (.str p.2), rfl⟩
      obtain ⟨z1, z2⟩ := steps_ok (ns := ps.map (·.1)) (d := d.map (·.1)) (n := p.1) (t := t.map (·.1)) (by simpa using hl) (by rw [hd]; simp)
      have lc : c1__law_sets (Mi.run tb m) [some (.ftup (ps.map encP)), some (.lst ((subs (d.map (·.1))).map encS)), some (.str p.1), some (.str p.2), none] h' = .ok (.lst ((subs (d.map (·.1))).map fun s => encS (s ++ [p.1]))) h' := by
        unfold c1__law_sets
        refine lc_map (c := none) encS _ _ ?_ trivial fun s hs => ⟨_, rfl, ?_⟩
        · simp
        · have := z1 s hs
          simp [wipeD, encS, g_addT, this]
      have e1 : subs ((d ++ [p]).map (·.1)) = subsS (subs (d.map (·.1))) p.1 := by rw [List.map_append]; exact subs_snoc _ _
      rw [e1]
      have e2 : (subsS (subs (d.map (·.1))) p.1).map encS = (subs (d.map (·.1))).map encS ++ (subs (d.map (·.1))).map fun s => encS (s ++ [p.1]) := by simp [subsS]
      rw [e2]
      simp [setMany, lc, g_addL, z2]
  obtain ⟨ρ', h', e, rfl, x2, x3, rfl⟩ := key
  simp [e, g_sortS, every]
theorem r_all_sets (ps : List (Str × Str)) (hl : ps.length ≤ 6) (h : Hq) (m : Nat) : rn (m + 2) .all_sets [.ftup (ps.map encP)] h = .ok (.lst ((every (ps.map (·.1))).map encS)) h := by
  unfold rn
  rw [u_all_sets, b_all_sets]
  obtain ⟨ns, hns⟩ : ∃ ns, ns = ps.map (·.1) := ⟨_, rfl⟩
  have hl2 : ns.length ≤ 6 := by rw [hns]; simpa using hl
  have key : ∃ ρ' h', f1_all_sets (Mi.run tb (m + 1)) [some (.ftup (ps.map encP)), some (.lst [.tup []]), none, none] h = .nx ρ' h' ∧ (h' = h ∧ ∃ x2, ρ' = [some (.ftup (ps.map encP)), some (.lst ((subs ns).map encS)), x2, none]) := by
    unfold f1_all_sets
    refine for_inv (c := none) D.str ns (fun d ρ h' => h' = h ∧ ∃ x2, ρ = [some (.ftup (ps.map encP)), some (.lst ((subs d).map encS)), x2, none]) (h1 := h) ?_ ⟨rfl, _, rfl⟩ (fun _ _ _ _ => trivial) ?_
    · have := r_names ps h m
      unfold rn at this
      simp [this, ← hns, encS]
    · rintro d p t ρ h' hd ⟨rfl, x2, rfl⟩
      refine ⟨_, rfl, _, h', .inl ?_, rfl, some (.str p), rfl⟩
      obtain ⟨z1, z2⟩ := steps_ok hl2 hd
      have lc : c1_all_sets (Mi.run tb (m + 1)) [some (.ftup (ps.map encP)), some (.lst ((subs d).map encS)), some (.str p), none] h' = .ok (.lst ((subs d).map fun s => encS (s ++ [p]))) h' := by
        unfold c1_all_sets
        refine lc_map (c := none) encS _ _ ?_ trivial fun s hs => ⟨_, rfl, ?_⟩
        · simp
        · have := z1 s hs
          simp [wipeD, encS, g_addT, this]
      have e1 : subs (d ++ [p]) = subsS (subs d) p := subs_snoc _ _
      rw [e1]
      have e2 : (subsS (subs d) p).map encS = (subs d).map encS ++ (subs d).map fun s => encS (s ++ [p]) := by simp [subsS]
      rw [e2]
      simp [lc, g_addL, z2]
  obtain ⟨ρ', h', e, rfl, x2, rfl⟩ := key
  simp [e, g_sortS, every, hns]
theorem r_holds (q : Qn) (ks : List Str) (h : Hq) : ∀ m, q.dq ≤ m → rn m .holds [.non, .dic (ks.map e0), q.enc] h = .ok (.bl (q.lets ks)) h := by
  induction q with
  | all =>
    intro m hm
    obtain ⟨m, rfl⟩ : ∃ j, m = j + 1 := ⟨m - 1, by simp [Qn.dq] at hm; omega⟩
    unfold rn
    rw [u_holds, b_holds]
    simp [Qn.enc, g_ix0, Qn.lets]
  | has n =>
    intro m hm
    obtain ⟨m, rfl⟩ : ∃ j, m = j + 1 := ⟨m - 1, by simp [Qn.dq] at hm; omega⟩
    unfold rn
    rw [u_holds, b_holds]
    by_cases z : n ∈ ks
    · simp [Qn.enc, g_ix0, g_ix1, Qn.lets, w1, w11, w12, w13, w14, w15, w16, z, g_ixN z]
    · simp [Qn.enc, g_ix0, g_ix1, Qn.lets, w1, w11, w12, w13, z]
  | not q ih =>
    intro m hm
    obtain ⟨m, rfl⟩ : ∃ j, m = j + 1 := ⟨m - 1, by simp [Qn.dq] at hm; omega⟩
    have := ih m (by simp [Qn.dq] at hm; omega)
    unfold rn at this ⊢
    rw [u_holds, b_holds]
    simp [Qn.enc, g_ix0, g_ix1, Qn.lets, w2, this]
  | and p q ip iq =>
    intro m hm
    obtain ⟨m, rfl⟩ : ∃ j, m = j + 1 := ⟨m - 1, by simp [Qn.dq] at hm; omega⟩
    have e1 := ip m (by simp [Qn.dq] at hm; omega)
    have e2 := iq m (by simp [Qn.dq] at hm; omega)
    unfold rn at e1 e2 ⊢
    rw [u_holds, b_holds]
    cases x : p.lets ks <;> simp [Qn.enc, g_ix0, g_ix1, g_ix2, Qn.lets, w3, w8, e1, e2, x]
  | or p q ip iq =>
    intro m hm
    obtain ⟨m, rfl⟩ : ∃ j, m = j + 1 := ⟨m - 1, by simp [Qn.dq] at hm; omega⟩
    have e1 := ip m (by simp [Qn.dq] at hm; omega)
    have e2 := iq m (by simp [Qn.dq] at hm; omega)
    unfold rn at e1 e2 ⊢
    rw [u_holds, b_holds]
    cases x : p.lets ks <;> simp [Qn.enc, g_ix0, g_ix1, g_ix2, Qn.lets, w4, w9, w10, e1, e2, x]
/-- the sets that a question lets by -/
def by' (ps : List (Str × Str)) (q : Qn) : List (List Str) := (every (ps.map (·.1))).filter q.lets
theorem r_sets_for (ps : List (Str × Str)) (nd : (ps.map (·.1)).Nodup) (hl : ps.length ≤ 6) (q : Qn) (h : Hq) (m : Nat) (hq : q.dq ≤ m + 2) : rn (m + 3) .sets_for [.ftup (ps.map encP), q.enc] h = .ok (.tup ((by' ps q).map encS)) h := by
  unfold rn
  rw [u_sets_for, b_sets_for]
  obtain ⟨ev, hev⟩ : ∃ ev, ev = every (ps.map (·.1)) := ⟨_, rfl⟩
  have hsz : ev.length ≤ 64 := by
    rw [hev, every_len]; exact pw_le (by simpa using hl)
  have key : ∃ ρ' h', f1_sets_for (Mi.run tb (m + 2)) [some (.ftup (ps.map encP)), some q.enc, some (.ref h.length), none, none, none] (h ++ [.lst []]) = .nx ρ' h' ∧ (h' = h ++ [.lst ((ev.filter q.lets).map encS)] ∧ ∃ x3 x4, ρ' = [some (.ftup (ps.map encP)), some q.enc, some (.ref h.length), x3, x4, none]) := by
    unfold f1_sets_for
    refine for_inv (c := none) encS ev (fun d ρ h' => h' = h ++ [.lst ((d.filter q.lets).map encS)] ∧ ∃ x3 x4, ρ = [some (.ftup (ps.map encP)), some q.enc, some (.ref h.length), x3, x4, none]) (h1 := h ++ [.lst []]) ?_ ⟨rfl, _, _, rfl⟩ (fun _ _ _ _ => trivial) ?_
    · have := r_all_sets ps hl (h ++ [.lst []]) m
      unfold rn at this
      simp [this, hev]
    · rintro d s t ρ h' hd ⟨rfl, x3, x4, rfl⟩
      have hs : s.Nodup := (every_sub (ns := ps.map (·.1)) (s := s) (by rw [← hev, hd]; simp)).nodup nd
      refine ⟨_, rfl, [some (.ftup (ps.map encP)), some q.enc, some (.ref h.length), some (encS s), some (.dic (s.map e0)), none], h ++ [.lst (((d ++ [s]).filter q.lets).map encS)], .inl ?_, rfl, _, _, rfl⟩
      have lc : c1_sets_for (Mi.run tb (m + 2)) [some (.ftup (ps.map encP)), some q.enc, some (.ref h.length), some (encS s), x4, none] (h ++ [.lst ((d.filter q.lets).map encS)]) = .ok (.lst (s.map encN)) (h ++ [.lst ((d.filter q.lets).map encS)]) := by
        unfold c1_sets_for
        refine lc_map (c := none) D.str _ s ?_ trivial fun s hs => ⟨_, rfl, ?_⟩
        · simp [encS]
        · simp [wipeD, encN]
      have eh := r_holds q s (h ++ [.lst ((d.filter q.lets).map encS)]) (m + 2) (by omega)
      unfold rn at eh
      have hz : ((d.filter q.lets).map encS).length < sizeLine := by
        have h1 := List.length_filter_le q.lets d
        have h2 : d.length ≤ 64 := by
          have := congrArg List.length hd
          simp at this
          omega
        rw [List.length_map, szL]; omega
      have ea := g_appL (h := h) (d := encS s) hz
      have gA : ∀ H : Hq, gDictA [.lst (s.map encN)] H = some (.dic (s.map e0), H) := fun H => (show gDictA [.lst (s.map encN)] H = gDict [.lst (s.map encN)] H from rfl).trans (g_dictN hs)
      cases x : q.lets s
      · simp [lc, gA, eh, x]
      · simp [lc, gA, eh, x, tyOk, asLk, asL, ea]
  obtain ⟨ρ', h', e, rfl, x3, x4, rfl⟩ := key
  have et : gTuple [.ref h.length] (h ++ [.lst ((ev.filter q.lets).map encS)]) = some (.tup ((ev.filter q.lets).map encS), h ++ [.lst ((ev.filter q.lets).map encS)]) := by
    simp [gTuple, asLk, asL]
  simp [e, et]
  unfold by'
  rw [← hev]
  exact gcR_ok (d := .tup ((ev.filter q.lets).map encS)) (by rw [D.nr]; exact encS_nrs _) List.take_left
theorem inS {h : Hq} {s : List Str} {L : List (List Str)} : gIn (encS s) (.tup (L.map encS)) h = some (.bl (decide (s ∈ L)), h) := g_inT encS_tx encS_inj (by rw [encS_dp s]; decide)
theorem inSL {h : Hq} {s : List Str} {L : List (List Str)} : gIn (encS s) (.lst (L.map encS)) h = some (.bl (decide (s ∈ L)), h) := g_inL encS_tx encS_inj (by rw [encS_dp s]; decide)
theorem notInSL {h : Hq} {s : List Str} {L : List (List Str)} : gNotIn (encS s) (.lst (L.map encS)) h = some (.bl (!decide (s ∈ L)), h) := g_notInL encS_tx encS_inj (by rw [encS_dp s]; decide)
theorem in1 {h : Hq} {n : Str} {s : List Str} : gIn (.str n) (encS s) h = some (.bl (decide (n ∈ s)), h) := g_inS
theorem notIn1 {h : Hq} {n : Str} {s : List Str} : gNotIn (.str n) (encS s) h = some (.bl (!decide (n ∈ s)), h) := g_notInS
theorem eq_same {d : D} {h : Hq} (a : d.py.isSome = true) (b : d.dp ≤ 64) : gNe d d h = some (.bl false, h) := by
  rw [g_ne a a (by omega), eqB_refl a]; rfl
theorem sets_tx (L : List (List Str)) : (D.tup (L.map encS)).tx = true := by rw [D.tx]; exact txs_map encS_tx L
theorem sets_dp (L : List (List Str)) : D.dps (L.map encS) ≤ 1 := dps_le.mpr fun x hx => by
  obtain ⟨a, _, rfl⟩ := List.mem_map.mp hx
  rw [encS_dp]; exact Nat.le_refl _
section
variable (ps : List (Str × Str)) (nd : (ps.map (·.1)).Nodup) (hl : ps.length ≤ 6)
def mustH (q : Qn) : List Str := (ps.map (·.1)).filter fun n => (by' ps q).all fun s => decide (n ∈ s)
def cantH (q : Qn) : List Str := (ps.map (·.1)).filter fun n => !(by' ps q).any fun s => decide (n ∈ s)
include nd hl
theorem r_must (q : Qn) (h : Hq) (m : Nat) (hq : q.dq ≤ m + 2) : rn (m + 4) .must_have [.ftup (ps.map encP), q.enc] h = .ok (encS (mustH ps q)) h := by
  unfold rn
  rw [u_must_have, b_must_have]
  have es := r_sets_for ps nd hl q h m hq
  have en := r_names ps h (m + 2)
  unfold rn at es en
  have lc : c2_must_have (Mi.run tb (m + 3)) [some (.ftup (ps.map encP)), some q.enc, some (.tup ((by' ps q).map encS)), none, none] h = .ok (.lst ((mustH ps q).map .str)) h := by
    unfold c2_must_have mustH
    refine lc_eq (c := none) D.str (fun n => (by' ps q).all fun s => decide (n ∈ s)) _ _ ?_ trivial fun n hn => ⟨_, rfl, ?_, fun _ => ?_⟩
    · simp [en, encS]
    · have l2 : c1_must_have (Mi.run tb (m + 3)) [some (.ftup (ps.map encP)), some q.enc, some (.tup ((by' ps q).map encS)), some (.str n), none] h = .ok (.lst ((by' ps q).map fun s => .bl (decide (n ∈ s)))) h := by
        unfold c1_must_have
        refine lc_map (c := none) encS _ _ ?_ trivial fun s hs => ⟨_, rfl, ?_⟩
        · simp
        · simp [wipeD, in1]
      simp [wipeD, l2, g_all]
    · simp [wipeD]
  simp [es, lc, encS]
theorem r_cant (q : Qn) (h : Hq) (m : Nat) (hq : q.dq ≤ m + 2) : rn (m + 4) .can_not_have [.ftup (ps.map encP), q.enc] h = .ok (encS (cantH ps q)) h := by
  unfold rn
  rw [u_can_not_have, b_can_not_have]
  have es := r_sets_for ps nd hl q h m hq
  have en := r_names ps h (m + 2)
  unfold rn at es en
  have lc : c2_can_not_have (Mi.run tb (m + 3)) [some (.ftup (ps.map encP)), some q.enc, some (.tup ((by' ps q).map encS)), none, none] h = .ok (.lst ((cantH ps q).map .str)) h := by
    unfold c2_can_not_have cantH
    refine lc_eq (c := none) D.str (fun n => !(by' ps q).any fun s => decide (n ∈ s)) _ _ ?_ trivial fun n hn => ⟨_, rfl, ?_, fun _ => ?_⟩
    · simp [en, encS]
    · have l2 : c1_can_not_have (Mi.run tb (m + 3)) [some (.ftup (ps.map encP)), some q.enc, some (.tup ((by' ps q).map encS)), some (.str n), none] h = .ok (.lst ((by' ps q).map fun s => .bl (decide (n ∈ s)))) h := by
        unfold c1_can_not_have
        refine lc_map (c := none) encS _ _ ?_ trivial fun s hs => ⟨_, rfl, ?_⟩
        · simp
        · simp [wipeD, in1]
      simp [wipeD, l2, g_any]
    · simp [wipeD]
  simp [es, lc, encS]
theorem r_never (q : Qn) (h : Hq) (m : Nat) (hq : q.dq ≤ m + 2) : rn (m + 4) .is_never [.ftup (ps.map encP), q.enc] h = .ok (.bl (decide (by' ps q = []))) h := by
  unfold rn
  rw [u_is_never, b_is_never]
  have es := r_sets_for ps nd hl q h m hq
  unfold rn at es
  simp [es]
/-- is a set let by just one -/
def odd (p q : Qn) (s : List Str) : Bool := !(decide (s ∈ by' ps p) == decide (s ∈ by' ps q))
def first (p q : Qn) : D := match (every (ps.map (·.1))).find? (odd ps p q) with
  | some s => encS s
  | none => .non
theorem r_parting (p q : Qn) (h : Hq) (m : Nat) (hp : p.dq ≤ m + 2) (hq : q.dq ≤ m + 2) : rn (m + 4) .parting [.ftup (ps.map encP), p.enc, q.enc] h = .ok (first ps p q) h := by
  unfold rn
  rw [u_parting, b_parting]
  have e1 := r_sets_for ps nd hl p h m hp
  have e2 := r_sets_for ps nd hl q h m hq
  have ea := r_all_sets ps hl h (m + 1)
  unfold rn at e1 e2 ea
  have key := for_find (T := .nm 5) (fi := mIter (mCall (Mi.run tb (m + 3)) .all_sets 1 (mCons (mVar 0) (mNil)))) (body := mIf (mTru (mBin gNe (mBin gIn (mVar 5) (mVar 3)) (mBin gIn (mVar 5) (mVar 4)))) (mRet (mVar 5)) (mSkip))
    (ρ := [some (.ftup (ps.map encP)), some p.enc, some q.enc, some (.tup ((by' ps p).map encS)), some (.tup ((by' ps q).map encS)), none]) (h := h) (h1 := h) (c := none) encS (every (ps.map (·.1))) (odd ps p q) encS
    (fun ρ => ∃ x, ρ = [some (.ftup (ps.map encP)), some p.enc, some q.enc, some (.tup ((by' ps p).map encS)), some (.tup ((by' ps q).map encS)), x]) (by simp [ea]) trivial ⟨_, rfl⟩ (by
      rintro s hs ρ ⟨x, rfl⟩
      refine ⟨_, rfl, fun ht => ?_, fun hf => ⟨_, ?_, some (encS s), rfl⟩⟩
      · unfold odd at ht
        simp [inS, ht]
      · unfold odd at hf
        simp [inS, hf])
  unfold first
  cases hf : (every (ps.map (·.1))).find? (odd ps p q) with
  | some s =>
    rw [hf] at key
    simp only at key
    simp [e1, e2, f1_parting, key]
  | none =>
    rw [hf] at key
    simp only at key
    obtain ⟨ρ', k1, x, rfl⟩ := key
    simp [e1, e2, f1_parting, k1]
theorem r_alike (p q : Qn) (h : Hq) (m : Nat) (hp : p.dq ≤ m + 2) (hq : q.dq ≤ m + 2) : rn (m + 5) .alike [.ftup (ps.map encP), p.enc, q.enc] h = .ok (.bl (isNon (first ps p q))) h := by
  unfold rn
  rw [u_alike, b_alike]
  have e1 := r_parting ps nd hl p q h m hp hq
  unfold rn at e1
  simp [e1]
theorem r_within (p q : Qn) (h : Hq) (m : Nat) (hp : p.dq ≤ m + 2) (hq : q.dq ≤ m + 2) : rn (m + 4) .is_within [.ftup (ps.map encP), p.enc, q.enc] h = .ok (.bl ((by' ps p).all fun s => decide (s ∈ by' ps q))) h := by
  unfold rn
  rw [u_is_within, b_is_within]
  have e1 := r_sets_for ps nd hl p h m hp
  have e2 := r_sets_for ps nd hl q h m hq
  unfold rn at e1 e2
  have lc : c1_is_within (Mi.run tb (m + 3)) [some (.ftup (ps.map encP)), some p.enc, some q.enc, some (.tup ((by' ps q).map encS)), none] h = .ok (.lst ((by' ps p).map fun s => .bl (decide (s ∈ by' ps q)))) h := by
    unfold c1_is_within
    refine lc_map (c := none) encS _ _ ?_ trivial fun s hs => ⟨_, rfl, ?_⟩
    · simp [e1]
    · simp [wipeD, inS]
  simp [e2, lc, g_all]
end
end L52
namespace L52
open PySem L2 Mi
section
variable {C : Calls Fn} {h : Hq} {S P Q1 Q2 EV HE TH BO EI : D}
theorem x_a {LS HL N1 L1 : D} (f0 : C .sets_for [P, .tup [.str "all"]] h = .ok EV h) (f1 : C .sets_for [P, Q1] h = .ok HE h) (f2 : C .sets_for [P, Q2] h = .ok TH h) (fs : C ._law_sets [P] h = .ok LS h) (gt : gTuple [LS] h = some (EV, h)) (n1 : gNe EV EV h = some (.bl false, h))
    (gl : gList [HE] h = some (HL, h)) (ss : mSortSetS (mVar 5) [some S, some P, some Q1, some Q2, some EV, some HE, some TH, none, none, none, none, none, none] h = .ok HL h) (n2 : gNe HL HL h = some (.bl false, h)) (f3 : C .sets_for [P, .tup [.str "not", Q1]] h = .ok N1 h)
    (c1 : c1_law C [some S, some P, some Q1, some Q2, some EV, some HE, some TH, none, none, none, none, none, none] h = .ok L1 h) (g1 : gTuple [L1] h = some (N1, h)) (n3 : gNe N1 N1 h = some (.bl false, h)) :
    t3_law C [some S, some P, some Q1, some Q2, none, none, none, none, none, none, none, none, none] h = t10_law C [some S, some P, some Q1, some Q2, some EV, some HE, some TH, some (.tup [.str "and", Q1, Q2]), some (.tup [.str "or", Q1, Q2]), none, none, none, none] h := by
  rw [t3_law, t4_law, t5_law, t6_law, t7_law, t8_law, t9_law]
  simp [f0, f1, f2, fs, gt, n1, gl, ss, n2, f3, c1, g1, n3]
theorem x_b {L2 L3 N2 N3 : D} (f4 : C .sets_for [P, BO] h = .ok N2 h) (c2 : c2_law C [some S, some P, some Q1, some Q2, some EV, some HE, some TH, some BO, some EI, none, none, none, none] h = .ok L2 h) (g2 : gTuple [L2] h = some (N2, h)) (n2 : gNe N2 N2 h = some (.bl false, h))
    (f5 : C .sets_for [P, EI] h = .ok N3 h) (c3 : c3_law C [some S, some P, some Q1, some Q2, some EV, some HE, some TH, some BO, some EI, none, none, none, none] h = .ok L3 h) (g3 : gTuple [L3] h = some (N3, h)) (n3 : gNe N3 N3 h = some (.bl false, h))
    (f6 : C .alike [P, .tup [.str "not", BO], .tup [.str "or", .tup [.str "not", Q1], .tup [.str "not", Q2]]] h = .ok (.bl true) h) (f7 : C .is_within [P, BO, Q1] h = .ok (.bl true) h) (f8 : C .is_within [P, Q1, EI] h = .ok (.bl true) h) (f9 : C ._law_never_right [P, Q1, Q2] h = .ok (.bl true) h) :
    t10_law C [some S, some P, some Q1, some Q2, some EV, some HE, some TH, some BO, some EI, none, none, none, none] h = t15_law C [some S, some P, some Q1, some Q2, some EV, some HE, some TH, some BO, some EI, none, none, none, none] h := by
  rw [t10_law, t11_law, t12_law, t13_law, t14_law]
  simp [f4, c2, g2, n2, f5, c3, g3, n3, f6, f7, f8, f9]
theorem x_c {w1 w2 sm z : Bool} {KI : D} (f1 : C .is_within [P, Q1, Q2] h = .ok (.bl w1) h) (f2 : C .is_within [P, Q2, Q1] h = .ok (.bl w2) h) (hs : sm = (w1 && w2)) (f3 : C .parting [P, Q1, Q2] h = .ok KI h) (f4 : C .alike [P, Q1, Q2] h = .ok (.bl sm) h) (gz : isNon KI = z) (hz : sm = z) (ge : z = true → gEq HE TH h = some (.bl true, h))
    (tl : z = false → t19_law C [some S, some P, some Q1, some Q2, some EV, some HE, some TH, some BO, some EI, some (.bl sm), some KI, none, none] h = .rt (.bl true) h) :
    t15_law C [some S, some P, some Q1, some Q2, some EV, some HE, some TH, some BO, some EI, none, none, none, none] h = .rt (.bl true) h := by
  rw [t15_law, t16_law, t17_law, t18_law]
  have nb : ∀ b, gNe (.bl b) (.bl b) h = some (.bl false, h) := fun b => by cases b <;> rfl
  subst hz
  cases w1 with
  | true =>
    cases w2 with
    | true =>
      have e : sm = true := hs
      subst e
      have ge := ge rfl
      simp [f1, f2, f3, f4, nb, gz, ge]
    | false =>
      have e : sm = false := hs
      subst e
      have tl := tl rfl
      simp [f1, f2, f3, f4, nb, gz, tl]
  | false =>
    have e : sm = false := by rw [hs]; rfl
    subst e
    have tl := tl rfl
    simp [f1, f2, f3, f4, nb, gz, tl]
theorem x_d {SM KI LE : D} {b1 b2 : Bool} (c4 : c4_law C [some S, some P, some Q1, some Q2, some EV, some HE, some TH, some BO, some EI, some SM, some KI, none, none] h = .ok LE h) (g1 : gIn KI HE h = some (.bl b1, h)) (g2 : gIn KI TH h = some (.bl b2, h)) (ne : (b1 == b2) = false) (ge : gEq LE (.lst []) h = some (.bl true, h)) :
    t19_law C [some S, some P, some Q1, some Q2, some EV, some HE, some TH, some BO, some EI, some SM, some KI, none, none] h = .rt (.bl true) h := by
  rw [t19_law, t20_law]
  have n1 : gNe (.bl b1) (.bl b2) h = some (.bl true, h) := by cases b1 <;> cases b2 <;> first | rfl | cases ne
  simp [c4, g1, g2, n1, ge]
end
theorem x_law {m : Nat} {h h1 : Hq} {scr SC0 Q1 Q2 : D} {c0 c1 c2 : Int}
    (m0 : Mi.run tb m ._law_mixed [scr, .int 0] h = .ok (.int c0) h) (es : Mi.run tb m ._law_scheme [.int c0] h = .ok SC0 h) (m1 : Mi.run tb m ._law_mixed [scr, .int 1] h = .ok (.int c1) h) (e1 : Mi.run tb m ._law_plain [SC0, .int c1, .int 3] h = .ok Q1 h) (m2 : Mi.run tb m ._law_mixed [scr, .int 2] h = .ok (.int c2) h) (e2 : Mi.run tb m ._law_plain [SC0, .int c2, .int 3] h = .ok Q2 h)
    (tl : t3_law (Mi.run tb m) [some scr, some SC0, some Q1, some Q2, none, none, none, none, none, none, none, none, none] h = .rt (.bl true) h1) : Mi.run tb (m + 1) .law [scr] h = .ok (.bl true) h1 := by
  rw [u_law, b_law, t1_law, t2_law]
  simp [m0, es, m1, e1, m2, e2, tl]
theorem g_ltS {a b : List Str} {h : Hq} : gLt (encS a) (encS b) h = some (.bl (!leS b a), h) := by
  have e1 : (nz h (encS a)).py = some (.tuple (a.map PyData.str)) := by
    have : nz h (encS a) = encS a := rfl
    rw [this]
    obtain ⟨p, e⟩ := tx_py (encS_tx a)
    rw [e, ← encD_of e, enc_strs]
  have e2 : (nz h (encS b)).py = some (.tuple (b.map PyData.str)) := by
    have : nz h (encS b) = encS b := rfl
    rw [this]
    obtain ⟨p, e⟩ := tx_py (encS_tx b)
    rw [e, ← encD_of e, enc_strs]
  have dp : PyData.depth (.tuple (a.map PyData.str)) = 1 := by
    obtain ⟨p, e⟩ := tx_py (encS_tx a)
    have := py_depth e
    rw [← encD_of e, enc_strs, encS_dp] at this
    exact this
  show (match (nz h (encS a)).py, (nz h (encS b)).py with
    | some a, some b => if PySem.W.alike a b = true ∧ a.depth ≤ 64 ∧ 0 < a.depth then some (D.bl (PySem.W.dataLt a b), h) else none
    | _, _ => none) = _
  rw [e1, e2]
  dsimp only
  rw [if_pos ⟨by rw [PySem.W.alike]; exact alike_strs a b, by omega, by omega⟩]
  have : leS b a = !PySem.W.dataLt (.tuple (a.map PyData.str)) (.tuple (b.map PyData.str)) := by
    unfold leS leD
    rw [enc_strs, enc_strs]
  rw [this]; simp
theorem subs_nd1 : ∀ (t d : List Str), (d ++ t).Nodup → (subs d).Nodup → (subs (d ++ t)).Nodup
  | [], d, _, h => by simpa using h
  | n :: t, d, nd, h => by
    have step := subs_nd1 t (d ++ [n]) (by simpa using nd) (by
      have hn : n ∉ d := fun z => (List.nodup_append.mp nd).2.2 n z n (by simp) rfl
      rw [subs_snoc]
      unfold subsS
      refine List.nodup_append.mpr ⟨h, List.Pairwise.map _ (fun a b hab e => hab (List.append_cancel_right e)) h, fun a ha b hb e => ?_⟩
      obtain ⟨c, hc, rfl⟩ := List.mem_map.mp hb
      have : n ∈ a := by rw [e]; simp
      exact hn ((subs_sub d a ha).subset this))
    simpa using step
theorem subs_nd {ns : List Str} (nd : ns.Nodup) : (subs ns).Nodup := by
  have := subs_nd1 ns [] (by simpa using nd) (by decide)
  simpa using this
section
variable {ps : List (Str × Str)} (nd : (ps.map (·.1)).Nodup) (hl : ps.length ≤ 6)
include nd hl
theorem ev_nd : (every (ps.map (·.1))).Nodup := by
  unfold every
  exact (List.mergeSort_perm _ _).nodup_iff.mpr (subs_nd nd)
omit nd hl in
theorem ev_pw : (every (ps.map (·.1))).Pairwise (fun a b => leS a b = true) := by unfold every; exact sortS_pw _
theorem by_set (q : Qn) : setS (by' ps q) = by' ps q :=
  setS_uniq (List.filter_sublist.nodup (ev_nd nd hl)) (List.Pairwise.sublist List.filter_sublist ev_pw) fun _ => Iff.rfl
omit nd hl in
theorem mem_by {q : Qn} {s : List Str} : s ∈ by' ps q ↔ s ∈ every (ps.map (·.1)) ∧ q.lets s = true := List.mem_filter
omit nd hl in
theorem dec_by {q : Qn} {s : List Str} (h : s ∈ every (ps.map (·.1))) : decide (s ∈ by' ps q) = q.lets s := by
  cases z : q.lets s with
  | true => exact decide_eq_true (mem_by.mpr ⟨h, z⟩)
  | false => exact decide_eq_false fun y => by rw [(mem_by.mp y).2] at z; cases z
omit nd hl in
theorem by_len (hl : ps.length ≤ 6) (q : Qn) : (by' ps q).length ≤ 64 := by
  refine Nat.le_trans (List.length_filter_le _ _) ?_
  rw [every_len]; exact pw_le (by simpa using hl)
omit nd hl in
theorem odd_eq {p q : Qn} {s : List Str} (h : s ∈ every (ps.map (·.1))) : odd ps p q s = !(p.lets s == q.lets s) := by
  unfold odd; rw [dec_by h, dec_by h]
omit nd hl in
theorem first_non {p q : Qn} (h : ∀ s ∈ every (ps.map (·.1)), p.lets s = q.lets s) : first ps p q = .non := by
  unfold first
  have : (every (ps.map (·.1))).find? (odd ps p q) = none := by
    rw [List.find?_eq_none]
    intro s hs
    rw [odd_eq hs, h s hs]
    simp
  rw [this]
omit nd hl in
theorem within_iff {p q : Qn} : ((by' ps p).all fun s => decide (s ∈ by' ps q)) = true ↔ ∀ s ∈ every (ps.map (·.1)), p.lets s = true → q.lets s = true := by
  rw [List.all_eq_true]
  constructor
  · intro k s hs hp
    have := of_decide_eq_true (k s (mem_by.mpr ⟨hs, hp⟩))
    exact (mem_by.mp this).2
  · intro k s hs
    obtain ⟨h1, h2⟩ := mem_by.mp hs
    exact decide_eq_true (mem_by.mpr ⟨h1, k s h1 h2⟩)
omit nd hl in
theorem same_iff {p q : Qn} : (((by' ps p).all fun s => decide (s ∈ by' ps q)) && ((by' ps q).all fun s => decide (s ∈ by' ps p))) = isNon (first ps p q) := by
  rw [Bool.eq_iff_iff, Bool.and_eq_true, within_iff, within_iff]
  constructor
  · rintro ⟨a, b⟩
    rw [first_non fun s hs => ?_]
    · rfl
    · cases z : p.lets s with
      | true => exact (a s hs z).symm
      | false =>
        cases y : q.lets s with
        | false => rfl
        | true => rw [b s hs y] at z; cases z
  · intro h
    have hn : (every (ps.map (·.1))).find? (odd ps p q) = none := by
      unfold first at h
      cases e : (every (ps.map (·.1))).find? (odd ps p q) with
      | none => rfl
      | some s => rw [e] at h; cases h
    have k : ∀ s ∈ every (ps.map (·.1)), p.lets s = q.lets s := fun s hs => by
      have := List.find?_eq_none.mp hn s hs
      rw [odd_eq hs] at this
      simpa using this
    exact ⟨fun s hs z => by rw [← k s hs]; exact z, fun s hs z => by rw [k s hs]; exact z⟩
end
theorem r_never_right {ps : List (Str × Str)} (nd : (ps.map (·.1)).Nodup) (hl : ps.length ≤ 6) (q1 q2 : Qn) (d1 : q1.dq ≤ 7) (d2 : q2.dq ≤ 7) (h : Hq) : Mi.run tb 19 ._law_never_right [.ftup (ps.map encP), q1.enc, q2.enc] h = .ok (.bl true) h := by
  rw [u__law_never_right, b__law_never_right]
  obtain ⟨nv, hnv⟩ : ∃ nv, nv = Qn.and q1 (.not q1) := ⟨_, rfl⟩
  have e : (D.tup [.str "and", q1.enc, .tup [.str "not", q1.enc]]) = nv.enc := by rw [hnv]; rfl
  have dn : nv.dq ≤ 9 := by rw [hnv]; simp only [Qn.dq]; omega
  have b0 : by' ps nv = [] := by
    unfold by'
    rw [List.filter_eq_nil_iff]
    intro s _
    rw [hnv]
    simp [Qn.lets]
  have f1 : Mi.run tb 18 .is_never [.ftup (ps.map encP), nv.enc] h = .ok (.bl (decide (by' ps nv = []))) h := r_never ps nd hl nv h 14 (by omega)
  have f2 : Mi.run tb 18 .is_within [.ftup (ps.map encP), nv.enc, q2.enc] h = .ok (.bl ((by' ps nv).all fun s => decide (s ∈ by' ps q2))) h := r_within ps nd hl nv q2 h 14 (by omega) (by omega)
  have f3 : Mi.run tb 18 .sets_for [.ftup (ps.map encP), nv.enc] h = .ok (.tup ((by' ps nv).map encS)) h := r_sets_for ps nd hl nv h 15 (by omega)
  have f4 : Mi.run tb 18 .must_have [.ftup (ps.map encP), nv.enc] h = .ok (encS (mustH ps nv)) h := r_must ps nd hl nv h 14 (by omega)
  have f5 : Mi.run tb 18 .can_not_have [.ftup (ps.map encP), nv.enc] h = .ok (encS (cantH ps nv)) h := r_cant ps nd hl nv h 14 (by omega)
  have m1 : mustH ps nv = ps.map (·.1) := by unfold mustH; rw [b0]; simp
  have m2 : cantH ps nv = ps.map (·.1) := by unfold cantH; rw [b0]; simp
  rw [b0] at f1 f2 f3
  rw [m1] at f4
  rw [m2] at f5
  have nn : gNe (.tup []) (.tup []) h = some (.bl false, h) := by rw [g_ne rfl rfl (by simp [D.dp, D.dps])]; rfl
  have lc : c1__law_never_right (Mi.run tb 18) [some (.ftup (ps.map encP)), some q1.enc, some q2.enc, some nv.enc, none, none, none] h = .ok (.lst (ps.map fun p => .str p.1)) h := by
    unfold c1__law_never_right
    refine lc_map (c := none) encP _ ps (by simp) trivial fun p hp => ⟨_, rfl, ?_⟩
    simp [wipeD, setMany]
  have gt : gTuple [.lst (ps.map fun p => D.str p.1)] h = some (encS (ps.map (·.1)), h) := by
    show some (D.tup (ps.map fun p => D.str p.1), h) = _
    unfold encS; rw [List.map_map]; rfl
  obtain ⟨NA, hNA⟩ : ∃ NA, NA = encS (ps.map (·.1)) := ⟨_, rfl⟩
  have eN : gEq NA NA h = some (.bl true, h) := by
    rw [hNA, g_eq (tx_isSome (encS_tx _)) (tx_isSome (encS_tx _)) (by rw [encS_dp]; decide), eqB_refl (tx_isSome (encS_tx _))]
  rw [← hNA] at f4 f5 gt
  obtain ⟨P, hP⟩ : ∃ P, P = D.ftup (ps.map encP) := ⟨_, rfl⟩
  rw [← hP] at f1 f2 f3 f4 f5 lc ⊢
  obtain ⟨LL, hLL⟩ : ∃ LL, LL = D.lst (ps.map fun p => D.str p.1) := ⟨_, rfl⟩
  rw [← hLL] at lc gt
  obtain ⟨NE, hNE⟩ : ∃ NE, NE = nv.enc := ⟨_, rfl⟩
  rw [← hNE] at e f1 f2 f3 f4 f5 lc
  simp [e, f1, f2, f3, f4, f5, nn, lc, gt, eN]
set_option maxHeartbeats 1000000 in
theorem law_true (ns : List Int) : ∃ h, Mi.run tb 20 .law [.klst (ns.map .int)] [] = .ok (.bl true) h := by
  have mx : ∀ (k : Nat) (h : Hq), Mi.run tb 19 ._law_mixed [.klst (ns.map .int), .int k] h = .ok (.int (mix (cell ns k) k)) h := fun k h => r_mixed ns k h 17
  obtain ⟨ps, hps⟩ : ∃ ps, ps = schemeOf (mix (cell ns 0) (0 : Nat)) := ⟨_, rfl⟩
  obtain ⟨nd, hl, ne⟩ := scheme_facts (mix (cell ns 0) (0 : Nat))
  rw [← hps] at nd hl ne
  have es : ∀ h, Mi.run tb 19 ._law_scheme [.int (mix (cell ns 0) (0 : Nat))] h = .ok (.ftup (ps.map encP)) h := fun h => by rw [hps]; exact r_scheme _ h 17
  obtain ⟨h, hh⟩ : ∃ h : Hq, h = [] := ⟨_, rfl⟩
  obtain ⟨q1, hq1⟩ : ∃ q, q = plainQ ps 3 (mix (cell ns 1) (1 : Nat)) := ⟨_, rfl⟩
  obtain ⟨q2, hq2⟩ : ∃ q, q = plainQ ps 3 (mix (cell ns 2) (2 : Nat)) := ⟨_, rfl⟩
  have e1 : Mi.run tb 19 ._law_plain [.ftup (ps.map encP), .int (mix (cell ns 1) (1 : Nat)), .int 3] h = .ok q1.enc h := by rw [hq1]; exact r_plain ne h 3 19 _ (by omega)
  have e2 : Mi.run tb 19 ._law_plain [.ftup (ps.map encP), .int (mix (cell ns 2) (2 : Nat)), .int 3] h = .ok q2.enc h := by rw [hq2]; exact r_plain ne h 3 19 _ (by omega)
  have d1 : q1.dq ≤ 4 := by rw [hq1]; exact plainQ_dq ps 3 _
  have d2 : q2.dq ≤ 4 := by rw [hq2]; exact plainQ_dq ps 3 _
  obtain ⟨E, hE⟩ : ∃ E, E = every (ps.map (·.1)) := ⟨_, rfl⟩
  have sf : ∀ q : Qn, q.dq ≤ 17 → Mi.run tb 19 .sets_for [.ftup (ps.map encP), q.enc] h = .ok (.tup ((by' ps q).map encS)) h := fun q hq => r_sets_for ps nd hl q h 16 (by omega)
  have wi : ∀ p q : Qn, p.dq ≤ 17 → q.dq ≤ 17 → Mi.run tb 19 .is_within [.ftup (ps.map encP), p.enc, q.enc] h = .ok (.bl ((by' ps p).all fun s => decide (s ∈ by' ps q))) h := fun p q hp hq => r_within ps nd hl p q h 15 (by omega) (by omega)
  have al : ∀ p q : Qn, p.dq ≤ 16 → q.dq ≤ 16 → Mi.run tb 19 .alike [.ftup (ps.map encP), p.enc, q.enc] h = .ok (.bl (isNon (first ps p q))) h := fun p q hp hq => r_alike ps nd hl p q h 14 (by omega) (by omega)
  have fp := r_parting ps nd hl q1 q2 h 15 (by omega) (by omega)
  have fs := r_sets ps hl h 18
  unfold rn at fp fs
  rw [← hE] at fs
  have dn : (Qn.not q1).dq ≤ 5 := by simp only [Qn.dq]; omega
  have db : (Qn.and q1 q2).dq ≤ 5 := by simp only [Qn.dq]; omega
  have do' : (Qn.or q1 q2).dq ≤ 5 := by simp only [Qn.dq]; omega
  have pT : ∀ L : List (List Str), gNe (.tup (L.map encS)) (.tup (L.map encS)) h = some (.bl false, h) := fun L => eq_same (tx_isSome (sets_tx L)) (by rw [D.dp]; have := sets_dp L; omega)
  have bA : by' ps .all = E := by unfold by'; rw [hE]; exact List.filter_eq_self.mpr fun s _ => rfl
  have f0 := sf .all (by simp [Qn.dq])
  rw [bA] at f0
  have hEL : ∀ s, s ∈ E → s ∈ every (ps.map (·.1)) := fun s hs => by rw [← hE]; exact hs
  -- the first part
  have c1 : c1_law (Mi.run tb 19) [some (.klst (ns.map .int)), some (.ftup (ps.map encP)), some q1.enc, some q2.enc, some (.tup (E.map encS)), some (.tup ((by' ps q1).map encS)), some (.tup ((by' ps q2).map encS)), none, none, none, none, none, none] h = .ok (.lst ((by' ps (.not q1)).map encS)) h := by
    unfold c1_law
    have := lc_eq (T := .nm 10) (vs := [10]) (fi := mIter (mVar 4)) (ft := mTru (mBin gNotIn (mVar 10) (mVar 5))) (fe := mVar 10) (c := none) (ρ := [some (.klst (ns.map .int)), some (.ftup (ps.map encP)), some q1.enc, some q2.enc, some (.tup (E.map encS)), some (.tup ((by' ps q1).map encS)), some (.tup ((by' ps q2).map encS)), none, none, none, none, none, none]) (h := h) (h1 := h) encS (Qn.not q1).lets encS E (by simp) trivial (fun s hs => ⟨_, rfl, by
      have gi : gNotIn (encS s) (.tup ((by' ps q1).map encS)) h = some (.bl (!q1.lets s), h) := by rw [g_notInT encS_tx encS_inj (by rw [encS_dp]; decide), dec_by (hEL s hs)]
      simp [wipeD, gi, Qn.lets], fun _ => by simp [wipeD]⟩)
    rw [this]
    unfold by'
    rw [hE]
  have c2 : c2_law (Mi.run tb 19) [some (.klst (ns.map .int)), some (.ftup (ps.map encP)), some q1.enc, some q2.enc, some (.tup (E.map encS)), some (.tup ((by' ps q1).map encS)), some (.tup ((by' ps q2).map encS)), some (Qn.and q1 q2).enc, some (Qn.or q1 q2).enc, none, none, none, none] h = .ok (.lst ((by' ps (.and q1 q2)).map encS)) h := by
    unfold c2_law
    have := lc_eq (T := .nm 10) (vs := [10]) (fi := mIter (mVar 5)) (ft := mTru (mBin gIn (mVar 10) (mVar 6))) (fe := mVar 10) (c := none) (ρ := [some (.klst (ns.map .int)), some (.ftup (ps.map encP)), some q1.enc, some q2.enc, some (.tup (E.map encS)), some (.tup ((by' ps q1).map encS)), some (.tup ((by' ps q2).map encS)), some (Qn.and q1 q2).enc, some (Qn.or q1 q2).enc, none, none, none, none]) (h := h) (h1 := h) encS q2.lets encS (by' ps q1) (by simp) trivial (fun s hs => ⟨_, rfl, by
      have gi : gIn (encS s) (.tup ((by' ps q2).map encS)) h = some (.bl (q2.lets s), h) := by rw [inS, dec_by (mem_by.mp hs).1]
      simp [wipeD, gi], fun _ => by simp [wipeD]⟩)
    rw [this]
    unfold by'
    rw [List.filter_filter]
    have : (fun a => q2.lets a && q1.lets a) = (Qn.and q1 q2).lets := by funext s; simp [Qn.lets, Bool.and_comm]
    rw [this]
  have c3 : c3_law (Mi.run tb 19) [some (.klst (ns.map .int)), some (.ftup (ps.map encP)), some q1.enc, some q2.enc, some (.tup (E.map encS)), some (.tup ((by' ps q1).map encS)), some (.tup ((by' ps q2).map encS)), some (Qn.and q1 q2).enc, some (Qn.or q1 q2).enc, none, none, none, none] h = .ok (.lst ((by' ps (.or q1 q2)).map encS)) h := by
    unfold c3_law
    have := lc_eq (T := .nm 10) (vs := [10]) (fi := mIter (mVar 4)) (ft := mOrT (mTru (mBin gIn (mVar 10) (mVar 5))) (mTru (mBin gIn (mVar 10) (mVar 6)))) (fe := mVar 10) (c := none) (ρ := [some (.klst (ns.map .int)), some (.ftup (ps.map encP)), some q1.enc, some q2.enc, some (.tup (E.map encS)), some (.tup ((by' ps q1).map encS)), some (.tup ((by' ps q2).map encS)), some (Qn.and q1 q2).enc, some (Qn.or q1 q2).enc, none, none, none, none]) (h := h) (h1 := h) encS (Qn.or q1 q2).lets encS E (by simp) trivial (fun s hs => ⟨_, rfl, by
      have g1 : gIn (encS s) (.tup ((by' ps q1).map encS)) h = some (.bl (q1.lets s), h) := by rw [inS, dec_by (hEL s hs)]
      have g2 : gIn (encS s) (.tup ((by' ps q2).map encS)) h = some (.bl (q2.lets s), h) := by rw [inS, dec_by (hEL s hs)]
      cases z : q1.lets s <;> (rw [z] at g1; simp [wipeD, g1, g2, Qn.lets, z]), fun _ => by simp [wipeD]⟩)
    rw [this]
    unfold by'
    rw [hE]
  have ss : mSortSetS (mVar 5) [some (.klst (ns.map .int)), some (.ftup (ps.map encP)), some q1.enc, some q2.enc, some (.tup (E.map encS)), some (.tup ((by' ps q1).map encS)), some (.tup ((by' ps q2).map encS)), none, none, none, none, none, none] h = .ok (.lst ((by' ps q1).map encS)) h := by
    rw [e_setST (h1 := h) (L := by' ps q1) (by simp) (by have := by_len hl q1; omega), by_set nd hl]
  have nL : gNe (.lst ((by' ps q1).map encS)) (.lst ((by' ps q1).map encS)) h = some (.bl false, h) := eq_same (tx_isSome (by rw [D.tx]; exact txs_map encS_tx _)) (by rw [D.dp]; have := sets_dp (by' ps q1); omega)
  have ta := x_a (S := .klst (ns.map .int)) f0 (sf q1 (by omega)) (sf q2 (by omega)) fs rfl (pT E) rfl ss nL (sf (.not q1) (by omega)) c1 rfl (pT _)
  have f6 := al (.not (.and q1 q2)) (.or (.not q1) (.not q2)) (by simp only [Qn.dq]; omega) (by simp only [Qn.dq]; omega)
  rw [first_non fun s _ => by cases z : q1.lets s <;> simp [Qn.lets, z]] at f6
  have f7 := wi (.and q1 q2) q1 (by omega) (by omega)
  rw [within_iff.mpr fun s _ z => by simp only [Qn.lets, Bool.and_eq_true] at z; exact z.1] at f7
  have f8 := wi q1 (.or q1 q2) (by omega) (by omega)
  rw [within_iff.mpr fun s _ z => by simp only [Qn.lets, Bool.or_eq_true]; exact .inl z] at f8
  have tb' := x_b (S := .klst (ns.map .int)) (sf (.and q1 q2) (by omega)) c2 rfl (pT _) (sf (.or q1 q2) (by omega)) c3 rfl (pT _) f6 f7 f8 (r_never_right nd hl q1 q2 (by omega) (by omega) h)
  have tc := x_c (S := .klst (ns.map .int)) (EV := .tup (E.map encS)) (HE := .tup ((by' ps q1).map encS)) (TH := .tup ((by' ps q2).map encS)) (BO := (Qn.and q1 q2).enc) (EI := (Qn.or q1 q2).enc) (wi q1 q2 (by omega) (by omega)) (wi q2 q1 (by omega) (by omega)) same_iff.symm fp (al q1 q2 (by omega) (by omega)) rfl rfl (fun z => by
      have hz := same_iff (ps := ps) (p := q1) (q := q2)
      rw [z, Bool.and_eq_true, within_iff, within_iff] at hz
      have : by' ps q1 = by' ps q2 := by
        unfold by'
        refine List.filter_congr fun s hs => ?_
        cases z : q1.lets s with
        | true => exact (hz.1 s hs z).symm
        | false =>
          cases y : q2.lets s with
          | false => rfl
          | true => rw [hz.2 s hs y] at z; cases z
      rw [this, g_eq (tx_isSome (sets_tx _)) (tx_isSome (sets_tx _)) (by rw [D.dp]; have := sets_dp (by' ps q2); omega), eqB_refl (tx_isSome (sets_tx _))]) (fun z => by
      obtain ⟨k, hk⟩ : ∃ k, (every (ps.map (·.1))).find? (odd ps q1 q2) = some k := by
        unfold first at z
        cases e : (every (ps.map (·.1))).find? (odd ps q1 q2) with
        | none => rw [e] at z; cases z
        | some s => exact ⟨s, rfl⟩
      have fk : first ps q1 q2 = encS k := by unfold first; rw [hk]
      rw [fk]
      have ok := List.find?_some hk
      obtain ⟨l1, l2, hsp, hno⟩ : ∃ l1 l2, every (ps.map (·.1)) = l1 ++ k :: l2 ∧ ∀ s ∈ l1, odd ps q1 q2 s = false := by
        obtain ⟨_, l1, l2, e, a⟩ := List.find?_eq_some_iff_append.mp hk
        exact ⟨l1, l2, e, fun s hs => by simpa using a s hs⟩
      have kE : k ∈ every (ps.map (·.1)) := by rw [hsp]; simp
      refine x_d (LE := .lst []) ?_ (inS (s := k) (L := by' ps q1)) (inS (s := k) (L := by' ps q2)) (by unfold odd at ok; simpa using ok) rfl
      unfold c4_law
      have := lc_eq (T := .nm 12) (vs := [12]) (fi := mIter (mVar 4)) (ft := mAndT (mTru (mBin gLt (mVar 12) (mVar 10))) (mTru (mBin gNe (mBin gIn (mVar 12) (mVar 5)) (mBin gIn (mVar 12) (mVar 6))))) (fe := mVar 12) (c := none) (ρ := [some (.klst (ns.map .int)), some (.ftup (ps.map encP)), some q1.enc, some q2.enc, some (.tup (E.map encS)), some (.tup ((by' ps q1).map encS)), some (.tup ((by' ps q2).map encS)), some (Qn.and q1 q2).enc, some (Qn.or q1 q2).enc, some (.bl (isNon (encS k))), some (encS k), none, none]) (h := h) (h1 := h) encS (fun _ => false) encS E (by simp) trivial (fun s hs => ⟨_, rfl, by
        have g1 := inS (h := h) (s := s) (L := by' ps q1)
        have g2 := inS (h := h) (s := s) (L := by' ps q2)
        cases y : leS k s with
        | true => simp [wipeD, g_ltS, y]
        | false =>
          have o : odd ps q1 q2 s = false := by
            have hs' := hEL s hs
            rw [hsp] at hs'
            rcases List.mem_append.mp hs' with w | w
            · exact hno s w
            · rcases List.mem_cons.mp w with w | w
              · rw [w] at y
                have := leS_total k k
                rw [y] at this; cases this
              · have pw := ev_pw (ps := ps)
                rw [hsp] at pw
                have := (List.pairwise_cons.mp (List.pairwise_append.mp pw).2.1).1 s w
                rw [y] at this; cases this
          unfold odd at o
          have n1 : gNe (.bl (decide (s ∈ by' ps q1))) (.bl (decide (s ∈ by' ps q2))) h = some (.bl false, h) := by
            revert o
            cases decide (s ∈ by' ps q1) <;> cases decide (s ∈ by' ps q2) <;> intro o <;> first | rfl | cases o
          simp [wipeD, g_ltS, y, g1, g2, n1], fun w => by cases w⟩)
      rw [this]
      simp)
  rw [hh] at ta tb' tc e1 e2
  exact ⟨[], x_law (mx 0 []) (es []) (mx 1 []) e1 (mx 2 []) e2 (ta.trans (tb'.trans tc))⟩
end L52
namespace L52
open PySem PySem.Spec L2 Mi
structure Tab (P : Program) (w : World) (K : PySem.W.Frag) (mg : Str → Option Value) (base : Heap) (C : Calls Fn) (k : Nat) : Prop where
  f_names_of : FnA P w K mg base C k .names_of "names_of" ["scheme"]
  f_holds : FnA P w K mg base C k .holds "holds" ["store", "parts", "question"]
  f_all_sets : FnA P w K mg base C k .all_sets "all_sets" ["scheme"]
  f_sets_for : FnA P w K mg base C k .sets_for "sets_for" ["scheme", "question"]
  f_must_have : FnA P w K mg base C k .must_have "must_have" ["scheme", "question"]
  f_can_not_have : FnA P w K mg base C k .can_not_have "can_not_have" ["scheme", "question"]
  f_is_never : FnA P w K mg base C k .is_never "is_never" ["scheme", "question"]
  f_parting : FnA P w K mg base C k .parting "parting" ["scheme", "one", "other"]
  f_alike : FnA P w K mg base C k .alike "alike" ["scheme", "one", "other"]
  f_is_within : FnA P w K mg base C k .is_within "is_within" ["scheme", "one", "other"]
  f__law_cell_at : FnA P w K mg base C k ._law_cell_at "_law_cell_at" ["script", "k"]
  f__law_mixed : FnA P w K mg base C k ._law_mixed "_law_mixed" ["script", "k"]
  f__law_drawn : FnA P w K mg base C k ._law_drawn "_law_drawn" ["number", "k"]
  f__law_scheme : FnA P w K mg base C k ._law_scheme "_law_scheme" ["number"]
  f__law_plain : FnA P w K mg base C k ._law_plain "_law_plain" ["scheme", "number", "deep"]
  f__law_sets : FnA P w K mg base C k ._law_sets "_law_sets" ["scheme"]
  f__law_never_right : FnA P w K mg base C k ._law_never_right "_law_never_right" ["scheme", "one", "other"]
  f_law : FnA P w K mg base C k .law "law" ["script"]
  c_ALL : ∃ t, mg "ALL" = some (.str "all" t)
  c_IS : ∃ t, mg "IS" = some (.str "is" t)
  c_OVER : ∃ t, mg "OVER" = some (.str "over" t)
  c_LEADS : ∃ t, mg "LEADS" = some (.str "leads" t)
  c_NOT : ∃ t, mg "NOT" = some (.str "not" t)
  c_AND : ∃ t, mg "AND" = some (.str "and" t)
  c_OR : ∃ t, mg "OR" = some (.str "or" t)
  n_all : mg "all" = none
  n_any : mg "any" = none
  n_dict : mg "dict" = none
  n_len : mg "len" = none
  n_list : mg "list" = none
  n_range : mg "range" = none
  n_set : mg "set" = none
  n_sorted : mg "sorted" = none
  n_tuple : mg "tuple" = none
theorem u1 {k : Nat} {A : Around} (r : Room k A) : A.units + 1 < cLine := by have := r.un; omega
theorem u64 {k : Nat} {A : Around} (r : Room k A) : A.units + 64 < cLine := by have := r.un; omega
theorem u65 {k : Nat} {A : Around} (r : Room k A) : A.units + 65 < cLine := by have := r.un; omega
section
variable {P : Program} {w : World} {K : PySem.W.Frag} {mg : Str → Option Value} {base : Heap} {C : Calls Fn} {k : Nat}
theorem sc_names_of : FnScope ["scheme", "kind"] ["scheme"] (defScope stm_names_of) := ⟨rfl, rfl, rfl, by decide +kernel, rfl, by decide +kernel, by decide +kernel⟩
theorem s_names_of (T : Tab P w K mg base C k) (f : Addr) (cdv : Value) (A : Around) (outer : List Env) (s : Shared) (H : Hp) (E : XK) (hr : Room k (A.deeper (PyProof.Rows.envOfC "names_of" (defScope stm_names_of) s.heap.objs.size f cdv))) :
    SSs (cxOf (L2.CX P w) P w K mg base ["scheme", "kind"] "names_of" (defScope stm_names_of) f cdv A outer s H E) (fun c d _ H' => E c d H') (defBody stm_names_of) (b_names_of C) := by
  have nd := sc_names_of.nd
  have tk : Takes (cxOf (L2.CX P w) P w K mg base ["scheme", "kind"] "names_of" (defScope stm_names_of) f cdv A outer s H E) (fun c d _ H' => E c d H') := takes_of rfl rfl rfl rfl
  have pw : PassesOwn (model (cxOf (L2.CX P w) P w K mg base ["scheme", "kind"] "names_of" (defScope stm_names_of) f cdv A outer s H E).prog (cxOf (L2.CX P w) P w K mg base ["scheme", "kind"] "names_of" (defScope stm_names_of) f cdv A outer s H E).w) (cxOf (L2.CX P w) P w K mg base ["scheme", "kind"] "names_of" (defScope stm_names_of) f cdv A outer s H E).A (cxOf (L2.CX P w) P w K mg base ["scheme", "kind"] "names_of" (defScope stm_names_of) f cdv A outer s H E).env (cxOf (L2.CX P w) P w K mg base ["scheme", "kind"] "names_of" (defScope stm_names_of) f cdv A outer s H E).xe := passes_of rfl
  exact (ss_one (ss_ret (se_callTy c1_tuple T.n_tuple (by decide +kernel) (sa_cons (se_lc rfl nd (si_val (se_var 0)) (blkOk_by (own := [("kind", 1)]) (by kernel_rfl)) (by decide) (fun _ _ _ _ _ => (sg_nm 1 nd)) (fun _ _ _ _ _ => sts_nil) (fun _ _ _ _ _ => (se_ix (u1 hr) (se_var 1) se_int))) sa_nil))))
theorem sc_holds : FnScope ["store", "parts", "question", "word", "worth"] ["store", "parts", "question"] (defScope stm_holds) := ⟨rfl, rfl, rfl, by decide +kernel, rfl, by decide +kernel, by decide +kernel⟩
theorem s_holds (T : Tab P w K mg base C k) (f : Addr) (cdv : Value) (A : Around) (outer : List Env) (s : Shared) (H : Hp) (E : XK) (hr : Room k (A.deeper (PyProof.Rows.envOfC "holds" (defScope stm_holds) s.heap.objs.size f cdv))) :
    SSs (cxOf (L2.CX P w) P w K mg base ["store", "parts", "question", "word", "worth"] "holds" (defScope stm_holds) f cdv A outer s H E) (fun c d _ H' => E c d H') (defBody stm_holds) (b_holds C) := by
  have nd := sc_holds.nd
  have tk : Takes (cxOf (L2.CX P w) P w K mg base ["store", "parts", "question", "word", "worth"] "holds" (defScope stm_holds) f cdv A outer s H E) (fun c d _ H' => E c d H') := takes_of rfl rfl rfl rfl
  have pw : PassesOwn (model (cxOf (L2.CX P w) P w K mg base ["store", "parts", "question", "word", "worth"] "holds" (defScope stm_holds) f cdv A outer s H E).prog (cxOf (L2.CX P w) P w K mg base ["store", "parts", "question", "word", "worth"] "holds" (defScope stm_holds) f cdv A outer s H E).w) (cxOf (L2.CX P w) P w K mg base ["store", "parts", "question", "word", "worth"] "holds" (defScope stm_holds) f cdv A outer s H E).A (cxOf (L2.CX P w) P w K mg base ["store", "parts", "question", "word", "worth"] "holds" (defScope stm_holds) f cdv A outer s H E).env (cxOf (L2.CX P w) P w K mg base ["store", "parts", "question", "word", "worth"] "holds" (defScope stm_holds) f cdv A outer s H E).xe := passes_of rfl
  exact (ss_cons (ss_set 3 nd (se_ix (u1 hr) (se_var 2) se_int)) (ss_cons (ss_if (st_cmp (o2_eq (u64 hr)) (se_var 3) (se_gstr T.c_ALL) (nomark _)) (ss_one (ss_ret se_bl)) ss_nil) (ss_cons (ss_if (st_cmp (o2_eq (u64 hr)) (se_var 3) (se_gstr T.c_NOT) (nomark _)) (ss_one (ss_ret (se_not (se_callA T.f_holds hr (sa_cons (se_var 0) (sa_cons (se_var 1) (sa_cons (se_ix (u1 hr) (se_var 2) se_int) sa_nil))) tk)))) ss_nil) (ss_cons (ss_if (st_cmp (o2_eq (u64 hr)) (se_var 3) (se_gstr T.c_AND) (nomark _)) (ss_one (ss_ret (se_and (se_callA T.f_holds hr (sa_cons (se_var 0) (sa_cons (se_var 1) (sa_cons (se_ix (u1 hr) (se_var 2) se_int) sa_nil))) tk) (se_one (se_callA T.f_holds hr (sa_cons (se_var 0) (sa_cons (se_var 1) (sa_cons (se_ix (u1 hr) (se_var 2) se_int) sa_nil))) tk))))) ss_nil) (ss_cons (ss_if (st_cmp (o2_eq (u64 hr)) (se_var 3) (se_gstr T.c_OR) (nomark _)) (ss_one (ss_ret (se_or (se_callA T.f_holds hr (sa_cons (se_var 0) (sa_cons (se_var 1) (sa_cons (se_ix (u1 hr) (se_var 2) se_int) sa_nil))) tk) (se_one (se_callA T.f_holds hr (sa_cons (se_var 0) (sa_cons (se_var 1) (sa_cons (se_ix (u1 hr) (se_var 2) se_int) sa_nil))) tk))))) ss_nil) (ss_cons (ss_if (st_cmp (o2_notIn (u65 hr)) (se_ix (u1 hr) (se_var 2) se_int) (se_var 1) (by rfl)) (ss_one (ss_ret se_bl)) ss_nil) (ss_cons (ss_set 4 nd (se_ix (u1 hr) (se_var 1) (se_ix (u1 hr) (se_var 2) se_int))) (ss_cons (ss_if (st_cmp (o2_eq (u64 hr)) (se_var 3) (se_gstr T.c_IS) (nomark _)) (ss_one (ss_ret (se_cmp (o2_eq (u64 hr)) (se_var 4) (se_ix (u1 hr) (se_var 2) se_int) (nomark _)))) ss_nil) (ss_cons (ss_if (st_cmp (o2_eq (u64 hr)) (se_var 3) (se_gstr T.c_OVER) (nomark _)) (ss_one (ss_ret (se_cmp o2_gt (se_var 4) (se_ix (u1 hr) (se_var 2) se_int) (nomark _)))) ss_nil) (ss_cons (ss_if (st_cmp (o2_eq (u64 hr)) (se_var 3) (se_gstr T.c_LEADS) (nomark _)) (ss_one (ss_ret (se_and (se_cmp o2_isnot2 (se_var 4) se_non (nomark _)) (se_one (se_callA T.f_holds hr (sa_cons (se_var 0) (sa_cons se_bad (sa_cons (se_ix (u1 hr) (se_var 2) se_int) sa_nil))) tk))))) ss_nil) (ss_one (ss_ret se_bl))))))))))))
theorem sc_all_sets : FnScope ["scheme", "found", "name", "some"] ["scheme"] (defScope stm_all_sets) := ⟨rfl, rfl, rfl, by decide +kernel, rfl, by decide +kernel, by decide +kernel⟩
theorem s_all_sets (T : Tab P w K mg base C k) (f : Addr) (cdv : Value) (A : Around) (outer : List Env) (s : Shared) (H : Hp) (E : XK) (hr : Room k (A.deeper (PyProof.Rows.envOfC "all_sets" (defScope stm_all_sets) s.heap.objs.size f cdv))) :
    SSs (cxOf (L2.CX P w) P w K mg base ["scheme", "found", "name", "some"] "all_sets" (defScope stm_all_sets) f cdv A outer s H E) (fun c d _ H' => E c d H') (defBody stm_all_sets) (b_all_sets C) := by
  have nd := sc_all_sets.nd
  have tk : Takes (cxOf (L2.CX P w) P w K mg base ["scheme", "found", "name", "some"] "all_sets" (defScope stm_all_sets) f cdv A outer s H E) (fun c d _ H' => E c d H') := takes_of rfl rfl rfl rfl
  have pw : PassesOwn (model (cxOf (L2.CX P w) P w K mg base ["scheme", "found", "name", "some"] "all_sets" (defScope stm_all_sets) f cdv A outer s H E).prog (cxOf (L2.CX P w) P w K mg base ["scheme", "found", "name", "some"] "all_sets" (defScope stm_all_sets) f cdv A outer s H E).w) (cxOf (L2.CX P w) P w K mg base ["scheme", "found", "name", "some"] "all_sets" (defScope stm_all_sets) f cdv A outer s H E).A (cxOf (L2.CX P w) P w K mg base ["scheme", "found", "name", "some"] "all_sets" (defScope stm_all_sets) f cdv A outer s H E).env (cxOf (L2.CX P w) P w K mg base ["scheme", "found", "name", "some"] "all_sets" (defScope stm_all_sets) f cdv A outer s H E).xe := passes_of rfl
  exact (ss_cons (ss_set 1 nd (se_lst (sa_cons (se_tup sa_nil) sa_nil))) (ss_cons (ss_for pw rfl (si_val (se_callA T.f_names_of hr (sa_cons (se_var 0) sa_nil) tk)) (sg_nm 2 nd) (ss_one (ss_set 1 nd (se_bin o2_add (se_var 1) (se_lc rfl nd (si_val (se_var 1)) (blkOk_by (own := [("some", 3)]) (by kernel_rfl)) (by decide) (fun _ _ _ _ _ => (sg_nm 3 nd)) (fun _ _ _ _ _ => sts_nil) (fun _ _ _ _ _ => (se_bin o2_add (se_var 3) (se_tup (sa_cons (se_var 2) sa_nil))))))))) (ss_one (ss_ret (se_callB (c1_sorted (u64 hr)) T.n_sorted (by decide +kernel) (sa_cons (se_var 1) sa_nil))))))
theorem sc_sets_for : FnScope ["scheme", "question", "found", "some", "parts", "name"] ["scheme", "question"] (defScope stm_sets_for) := ⟨rfl, rfl, rfl, by decide +kernel, rfl, by decide +kernel, by decide +kernel⟩
theorem s_sets_for (T : Tab P w K mg base C k) (f : Addr) (cdv : Value) (A : Around) (outer : List Env) (s : Shared) (H : Hp) (E : XK) (hr : Room k (A.deeper (PyProof.Rows.envOfC "sets_for" (defScope stm_sets_for) s.heap.objs.size f cdv))) :
    SSs (cxOf (L2.CX P w) P w K mg base ["scheme", "question", "found", "some", "parts", "name"] "sets_for" (defScope stm_sets_for) f cdv A outer s H E) (fun c d _ H' => E c d H') (defBody stm_sets_for) (b_sets_for C) := by
  have nd := sc_sets_for.nd
  have tk : Takes (cxOf (L2.CX P w) P w K mg base ["scheme", "question", "found", "some", "parts", "name"] "sets_for" (defScope stm_sets_for) f cdv A outer s H E) (fun c d _ H' => E c d H') := takes_of rfl rfl rfl rfl
  have pw : PassesOwn (model (cxOf (L2.CX P w) P w K mg base ["scheme", "question", "found", "some", "parts", "name"] "sets_for" (defScope stm_sets_for) f cdv A outer s H E).prog (cxOf (L2.CX P w) P w K mg base ["scheme", "question", "found", "some", "parts", "name"] "sets_for" (defScope stm_sets_for) f cdv A outer s H E).w) (cxOf (L2.CX P w) P w K mg base ["scheme", "question", "found", "some", "parts", "name"] "sets_for" (defScope stm_sets_for) f cdv A outer s H E).A (cxOf (L2.CX P w) P w K mg base ["scheme", "question", "found", "some", "parts", "name"] "sets_for" (defScope stm_sets_for) f cdv A outer s H E).env (cxOf (L2.CX P w) P w K mg base ["scheme", "question", "found", "some", "parts", "name"] "sets_for" (defScope stm_sets_for) f cdv A outer s H E).xe := passes_of rfl
  exact (ss_cons (ss_set 2 nd (se_lstR sa_nil)) (ss_cons (ss_for pw rfl (si_val (se_callA T.f_all_sets hr (sa_cons (se_var 0) sa_nil) tk)) (sg_nm 3 nd) (ss_cons (ss_set 4 nd (se_callTy (c1_dictA rfl) T.n_dict (by decide +kernel) (sa_cons (se_lc rfl nd (si_val (se_var 3)) (blkOk_by (own := [("name", 5)]) (by kernel_rfl)) (by decide) (fun _ _ _ _ _ => (sg_nm 5 nd)) (fun _ _ _ _ _ => sts_nil) (fun _ _ _ _ _ => (se_tup (sa_cons (se_var 5) (sa_cons se_non sa_nil))))) sa_nil))) (ss_one (ss_if (st_val (se_callA T.f_holds hr (sa_cons se_non (sa_cons (se_var 4) (sa_cons (se_var 1) sa_nil))) tk)) (ss_one (ss_expr (se_mth m2_append PySem.F.plainAttrs_list PySem.F.slot_list_append PySem.F.type_list_append (se_var 2) (sa_cons (se_var 3) sa_nil)))) ss_nil)))) (ss_one (ss_ret (se_callTy c1_tuple T.n_tuple (by decide +kernel) (sa_cons (se_var 2) sa_nil))))))
theorem sc_must_have : FnScope ["scheme", "question", "some", "name", "one"] ["scheme", "question"] (defScope stm_must_have) := ⟨rfl, rfl, rfl, by decide +kernel, rfl, by decide +kernel, by decide +kernel⟩
theorem s_must_have (T : Tab P w K mg base C k) (f : Addr) (cdv : Value) (A : Around) (outer : List Env) (s : Shared) (H : Hp) (E : XK) (hr : Room k (A.deeper (PyProof.Rows.envOfC "must_have" (defScope stm_must_have) s.heap.objs.size f cdv))) :
    SSs (cxOf (L2.CX P w) P w K mg base ["scheme", "question", "some", "name", "one"] "must_have" (defScope stm_must_have) f cdv A outer s H E) (fun c d _ H' => E c d H') (defBody stm_must_have) (b_must_have C) := by
  have nd := sc_must_have.nd
  have tk : Takes (cxOf (L2.CX P w) P w K mg base ["scheme", "question", "some", "name", "one"] "must_have" (defScope stm_must_have) f cdv A outer s H E) (fun c d _ H' => E c d H') := takes_of rfl rfl rfl rfl
  have pw : PassesOwn (model (cxOf (L2.CX P w) P w K mg base ["scheme", "question", "some", "name", "one"] "must_have" (defScope stm_must_have) f cdv A outer s H E).prog (cxOf (L2.CX P w) P w K mg base ["scheme", "question", "some", "name", "one"] "must_have" (defScope stm_must_have) f cdv A outer s H E).w) (cxOf (L2.CX P w) P w K mg base ["scheme", "question", "some", "name", "one"] "must_have" (defScope stm_must_have) f cdv A outer s H E).A (cxOf (L2.CX P w) P w K mg base ["scheme", "question", "some", "name", "one"] "must_have" (defScope stm_must_have) f cdv A outer s H E).env (cxOf (L2.CX P w) P w K mg base ["scheme", "question", "some", "name", "one"] "must_have" (defScope stm_must_have) f cdv A outer s H E).xe := passes_of rfl
  exact (ss_cons (ss_set 2 nd (se_callA T.f_sets_for hr (sa_cons (se_var 0) (sa_cons (se_var 1) sa_nil)) tk)) (ss_one (ss_ret (se_callTy c1_tuple T.n_tuple (by decide +kernel) (sa_cons (se_lc rfl nd (si_val (se_callA T.f_names_of hr (sa_cons (se_var 0) sa_nil) tk)) (blkOk_by (own := [("name", 3)]) (by kernel_rfl)) (by decide) (fun _ _ _ _ _ => (sg_nm 3 nd)) (fun _ _ _ _ _ => (sts_one (st_val (se_callB (c1_all rfl) T.n_all (by decide +kernel) (sa_cons (se_lc rfl nd (si_val (se_var 2)) (blkOk_by (own := [("one", 4)]) (by kernel_rfl)) (by decide) (fun _ _ _ _ _ => (sg_nm 4 nd)) (fun _ _ _ _ _ => sts_nil) (fun _ _ _ _ _ => (se_cmp (o2_in (u65 hr)) (se_var 3) (se_var 4) (by rfl)))) sa_nil))))) (fun _ _ _ _ _ => (se_var 3))) sa_nil)))))
theorem sc_can_not_have : FnScope ["scheme", "question", "some", "name", "one"] ["scheme", "question"] (defScope stm_can_not_have) := ⟨rfl, rfl, rfl, by decide +kernel, rfl, by decide +kernel, by decide +kernel⟩
theorem s_can_not_have (T : Tab P w K mg base C k) (f : Addr) (cdv : Value) (A : Around) (outer : List Env) (s : Shared) (H : Hp) (E : XK) (hr : Room k (A.deeper (PyProof.Rows.envOfC "can_not_have" (defScope stm_can_not_have) s.heap.objs.size f cdv))) :
    SSs (cxOf (L2.CX P w) P w K mg base ["scheme", "question", "some", "name", "one"] "can_not_have" (defScope stm_can_not_have) f cdv A outer s H E) (fun c d _ H' => E c d H') (defBody stm_can_not_have) (b_can_not_have C) := by
  have nd := sc_can_not_have.nd
  have tk : Takes (cxOf (L2.CX P w) P w K mg base ["scheme", "question", "some", "name", "one"] "can_not_have" (defScope stm_can_not_have) f cdv A outer s H E) (fun c d _ H' => E c d H') := takes_of rfl rfl rfl rfl
  have pw : PassesOwn (model (cxOf (L2.CX P w) P w K mg base ["scheme", "question", "some", "name", "one"] "can_not_have" (defScope stm_can_not_have) f cdv A outer s H E).prog (cxOf (L2.CX P w) P w K mg base ["scheme", "question", "some", "name", "one"] "can_not_have" (defScope stm_can_not_have) f cdv A outer s H E).w) (cxOf (L2.CX P w) P w K mg base ["scheme", "question", "some", "name", "one"] "can_not_have" (defScope stm_can_not_have) f cdv A outer s H E).A (cxOf (L2.CX P w) P w K mg base ["scheme", "question", "some", "name", "one"] "can_not_have" (defScope stm_can_not_have) f cdv A outer s H E).env (cxOf (L2.CX P w) P w K mg base ["scheme", "question", "some", "name", "one"] "can_not_have" (defScope stm_can_not_have) f cdv A outer s H E).xe := passes_of rfl
  exact (ss_cons (ss_set 2 nd (se_callA T.f_sets_for hr (sa_cons (se_var 0) (sa_cons (se_var 1) sa_nil)) tk)) (ss_one (ss_ret (se_callTy c1_tuple T.n_tuple (by decide +kernel) (sa_cons (se_lc rfl nd (si_val (se_callA T.f_names_of hr (sa_cons (se_var 0) sa_nil) tk)) (blkOk_by (own := [("name", 3)]) (by kernel_rfl)) (by decide) (fun _ _ _ _ _ => (sg_nm 3 nd)) (fun _ _ _ _ _ => (sts_one (st_not (st_val (se_callB (c1_any rfl) T.n_any (by decide +kernel) (sa_cons (se_lc rfl nd (si_val (se_var 2)) (blkOk_by (own := [("one", 4)]) (by kernel_rfl)) (by decide) (fun _ _ _ _ _ => (sg_nm 4 nd)) (fun _ _ _ _ _ => sts_nil) (fun _ _ _ _ _ => (se_cmp (o2_in (u65 hr)) (se_var 3) (se_var 4) (by rfl)))) sa_nil)))))) (fun _ _ _ _ _ => (se_var 3))) sa_nil)))))
theorem sc_is_never : FnScope ["scheme", "question"] ["scheme", "question"] (defScope stm_is_never) := ⟨rfl, rfl, rfl, by decide +kernel, rfl, by decide +kernel, by decide +kernel⟩
theorem s_is_never (T : Tab P w K mg base C k) (f : Addr) (cdv : Value) (A : Around) (outer : List Env) (s : Shared) (H : Hp) (E : XK) (hr : Room k (A.deeper (PyProof.Rows.envOfC "is_never" (defScope stm_is_never) s.heap.objs.size f cdv))) :
    SSs (cxOf (L2.CX P w) P w K mg base ["scheme", "question"] "is_never" (defScope stm_is_never) f cdv A outer s H E) (fun c d _ H' => E c d H') (defBody stm_is_never) (b_is_never C) := by
  have nd := sc_is_never.nd
  have tk : Takes (cxOf (L2.CX P w) P w K mg base ["scheme", "question"] "is_never" (defScope stm_is_never) f cdv A outer s H E) (fun c d _ H' => E c d H') := takes_of rfl rfl rfl rfl
  have pw : PassesOwn (model (cxOf (L2.CX P w) P w K mg base ["scheme", "question"] "is_never" (defScope stm_is_never) f cdv A outer s H E).prog (cxOf (L2.CX P w) P w K mg base ["scheme", "question"] "is_never" (defScope stm_is_never) f cdv A outer s H E).w) (cxOf (L2.CX P w) P w K mg base ["scheme", "question"] "is_never" (defScope stm_is_never) f cdv A outer s H E).A (cxOf (L2.CX P w) P w K mg base ["scheme", "question"] "is_never" (defScope stm_is_never) f cdv A outer s H E).env (cxOf (L2.CX P w) P w K mg base ["scheme", "question"] "is_never" (defScope stm_is_never) f cdv A outer s H E).xe := passes_of rfl
  exact (ss_one (ss_ret (se_cmp (o2_eq (u64 hr)) (se_callB c1_len T.n_len (by decide +kernel) (sa_cons (se_callA T.f_sets_for hr (sa_cons (se_var 0) (sa_cons (se_var 1) sa_nil)) tk) sa_nil)) se_int (nomark _))))
theorem sc_parting : FnScope ["scheme", "one", "other", "here", "there", "some"] ["scheme", "one", "other"] (defScope stm_parting) := ⟨rfl, rfl, rfl, by decide +kernel, rfl, by decide +kernel, by decide +kernel⟩
theorem s_parting (T : Tab P w K mg base C k) (f : Addr) (cdv : Value) (A : Around) (outer : List Env) (s : Shared) (H : Hp) (E : XK) (hr : Room k (A.deeper (PyProof.Rows.envOfC "parting" (defScope stm_parting) s.heap.objs.size f cdv))) :
    SSs (cxOf (L2.CX P w) P w K mg base ["scheme", "one", "other", "here", "there", "some"] "parting" (defScope stm_parting) f cdv A outer s H E) (fun c d _ H' => E c d H') (defBody stm_parting) (b_parting C) := by
  have nd := sc_parting.nd
  have tk : Takes (cxOf (L2.CX P w) P w K mg base ["scheme", "one", "other", "here", "there", "some"] "parting" (defScope stm_parting) f cdv A outer s H E) (fun c d _ H' => E c d H') := takes_of rfl rfl rfl rfl
  have pw : PassesOwn (model (cxOf (L2.CX P w) P w K mg base ["scheme", "one", "other", "here", "there", "some"] "parting" (defScope stm_parting) f cdv A outer s H E).prog (cxOf (L2.CX P w) P w K mg base ["scheme", "one", "other", "here", "there", "some"] "parting" (defScope stm_parting) f cdv A outer s H E).w) (cxOf (L2.CX P w) P w K mg base ["scheme", "one", "other", "here", "there", "some"] "parting" (defScope stm_parting) f cdv A outer s H E).A (cxOf (L2.CX P w) P w K mg base ["scheme", "one", "other", "here", "there", "some"] "parting" (defScope stm_parting) f cdv A outer s H E).env (cxOf (L2.CX P w) P w K mg base ["scheme", "one", "other", "here", "there", "some"] "parting" (defScope stm_parting) f cdv A outer s H E).xe := passes_of rfl
  exact (ss_cons (ss_set 3 nd (se_callA T.f_sets_for hr (sa_cons (se_var 0) (sa_cons (se_var 1) sa_nil)) tk)) (ss_cons (ss_set 4 nd (se_callA T.f_sets_for hr (sa_cons (se_var 0) (sa_cons (se_var 2) sa_nil)) tk)) (ss_cons (ss_for pw rfl (si_val (se_callA T.f_all_sets hr (sa_cons (se_var 0) sa_nil) tk)) (sg_nm 5 nd) (ss_one (ss_if (st_cmp (o2_ne (u64 hr)) (se_cmp (o2_in (u65 hr)) (se_var 5) (se_var 3) (by rfl)) (se_cmp (o2_in (u65 hr)) (se_var 5) (se_var 4) (by rfl)) (nomark _)) (ss_one (ss_ret (se_var 5))) ss_nil))) (ss_one (ss_ret se_non)))))
theorem sc_alike : FnScope ["scheme", "one", "other"] ["scheme", "one", "other"] (defScope stm_alike) := ⟨rfl, rfl, rfl, by decide +kernel, rfl, by decide +kernel, by decide +kernel⟩
theorem s_alike (T : Tab P w K mg base C k) (f : Addr) (cdv : Value) (A : Around) (outer : List Env) (s : Shared) (H : Hp) (E : XK) (hr : Room k (A.deeper (PyProof.Rows.envOfC "alike" (defScope stm_alike) s.heap.objs.size f cdv))) :
    SSs (cxOf (L2.CX P w) P w K mg base ["scheme", "one", "other"] "alike" (defScope stm_alike) f cdv A outer s H E) (fun c d _ H' => E c d H') (defBody stm_alike) (b_alike C) := by
  have nd := sc_alike.nd
  have tk : Takes (cxOf (L2.CX P w) P w K mg base ["scheme", "one", "other"] "alike" (defScope stm_alike) f cdv A outer s H E) (fun c d _ H' => E c d H') := takes_of rfl rfl rfl rfl
  have pw : PassesOwn (model (cxOf (L2.CX P w) P w K mg base ["scheme", "one", "other"] "alike" (defScope stm_alike) f cdv A outer s H E).prog (cxOf (L2.CX P w) P w K mg base ["scheme", "one", "other"] "alike" (defScope stm_alike) f cdv A outer s H E).w) (cxOf (L2.CX P w) P w K mg base ["scheme", "one", "other"] "alike" (defScope stm_alike) f cdv A outer s H E).A (cxOf (L2.CX P w) P w K mg base ["scheme", "one", "other"] "alike" (defScope stm_alike) f cdv A outer s H E).env (cxOf (L2.CX P w) P w K mg base ["scheme", "one", "other"] "alike" (defScope stm_alike) f cdv A outer s H E).xe := passes_of rfl
  exact (ss_one (ss_ret (se_cmp o2_is2 (se_callA T.f_parting hr (sa_cons (se_var 0) (sa_cons (se_var 1) (sa_cons (se_var 2) sa_nil))) tk) se_non (nomark _))))
theorem sc_is_within : FnScope ["scheme", "one", "other", "there", "some"] ["scheme", "one", "other"] (defScope stm_is_within) := ⟨rfl, rfl, rfl, by decide +kernel, rfl, by decide +kernel, by decide +kernel⟩
theorem s_is_within (T : Tab P w K mg base C k) (f : Addr) (cdv : Value) (A : Around) (outer : List Env) (s : Shared) (H : Hp) (E : XK) (hr : Room k (A.deeper (PyProof.Rows.envOfC "is_within" (defScope stm_is_within) s.heap.objs.size f cdv))) :
    SSs (cxOf (L2.CX P w) P w K mg base ["scheme", "one", "other", "there", "some"] "is_within" (defScope stm_is_within) f cdv A outer s H E) (fun c d _ H' => E c d H') (defBody stm_is_within) (b_is_within C) := by
  have nd := sc_is_within.nd
  have tk : Takes (cxOf (L2.CX P w) P w K mg base ["scheme", "one", "other", "there", "some"] "is_within" (defScope stm_is_within) f cdv A outer s H E) (fun c d _ H' => E c d H') := takes_of rfl rfl rfl rfl
  have pw : PassesOwn (model (cxOf (L2.CX P w) P w K mg base ["scheme", "one", "other", "there", "some"] "is_within" (defScope stm_is_within) f cdv A outer s H E).prog (cxOf (L2.CX P w) P w K mg base ["scheme", "one", "other", "there", "some"] "is_within" (defScope stm_is_within) f cdv A outer s H E).w) (cxOf (L2.CX P w) P w K mg base ["scheme", "one", "other", "there", "some"] "is_within" (defScope stm_is_within) f cdv A outer s H E).A (cxOf (L2.CX P w) P w K mg base ["scheme", "one", "other", "there", "some"] "is_within" (defScope stm_is_within) f cdv A outer s H E).env (cxOf (L2.CX P w) P w K mg base ["scheme", "one", "other", "there", "some"] "is_within" (defScope stm_is_within) f cdv A outer s H E).xe := passes_of rfl
  exact (ss_cons (ss_set 3 nd (se_callA T.f_sets_for hr (sa_cons (se_var 0) (sa_cons (se_var 2) sa_nil)) tk)) (ss_one (ss_ret (se_callB (c1_all rfl) T.n_all (by decide +kernel) (sa_cons (se_lc rfl nd (si_val (se_callA T.f_sets_for hr (sa_cons (se_var 0) (sa_cons (se_var 1) sa_nil)) tk)) (blkOk_by (own := [("some", 4)]) (by kernel_rfl)) (by decide) (fun _ _ _ _ _ => (sg_nm 4 nd)) (fun _ _ _ _ _ => sts_nil) (fun _ _ _ _ _ => (se_cmp (o2_in (u65 hr)) (se_var 4) (se_var 3) (by rfl)))) sa_nil)))))
theorem sc__law_cell_at : FnScope ["script", "k"] ["script", "k"] (defScope stm__law_cell_at) := ⟨rfl, rfl, rfl, by decide +kernel, rfl, by decide +kernel, by decide +kernel⟩
theorem s__law_cell_at (T : Tab P w K mg base C k) (f : Addr) (cdv : Value) (A : Around) (outer : List Env) (s : Shared) (H : Hp) (E : XK) (hr : Room k (A.deeper (PyProof.Rows.envOfC "_law_cell_at" (defScope stm__law_cell_at) s.heap.objs.size f cdv))) :
    SSs (cxOf (L2.CX P w) P w K mg base ["script", "k"] "_law_cell_at" (defScope stm__law_cell_at) f cdv A outer s H E) (fun c d _ H' => E c d H') (defBody stm__law_cell_at) (b__law_cell_at C) := by
  have nd := sc__law_cell_at.nd
  have tk : Takes (cxOf (L2.CX P w) P w K mg base ["script", "k"] "_law_cell_at" (defScope stm__law_cell_at) f cdv A outer s H E) (fun c d _ H' => E c d H') := takes_of rfl rfl rfl rfl
  have pw : PassesOwn (model (cxOf (L2.CX P w) P w K mg base ["script", "k"] "_law_cell_at" (defScope stm__law_cell_at) f cdv A outer s H E).prog (cxOf (L2.CX P w) P w K mg base ["script", "k"] "_law_cell_at" (defScope stm__law_cell_at) f cdv A outer s H E).w) (cxOf (L2.CX P w) P w K mg base ["script", "k"] "_law_cell_at" (defScope stm__law_cell_at) f cdv A outer s H E).A (cxOf (L2.CX P w) P w K mg base ["script", "k"] "_law_cell_at" (defScope stm__law_cell_at) f cdv A outer s H E).env (cxOf (L2.CX P w) P w K mg base ["script", "k"] "_law_cell_at" (defScope stm__law_cell_at) f cdv A outer s H E).xe := passes_of rfl
  exact (ss_cons (ss_if (st_cmp (o2_lt (u64 hr)) (se_var 1) (se_callB c1_len T.n_len (by decide +kernel) (sa_cons (se_var 0) sa_nil)) (nomark _)) (ss_one (ss_ret (se_ix (u1 hr) (se_var 0) (se_var 1)))) ss_nil) (ss_one (ss_ret se_int)))
theorem sc__law_mixed : FnScope ["script", "k", "drawn"] ["script", "k"] (defScope stm__law_mixed) := ⟨rfl, rfl, rfl, by decide +kernel, rfl, by decide +kernel, by decide +kernel⟩
theorem s__law_mixed (T : Tab P w K mg base C k) (f : Addr) (cdv : Value) (A : Around) (outer : List Env) (s : Shared) (H : Hp) (E : XK) (hr : Room k (A.deeper (PyProof.Rows.envOfC "_law_mixed" (defScope stm__law_mixed) s.heap.objs.size f cdv))) :
    SSs (cxOf (L2.CX P w) P w K mg base ["script", "k", "drawn"] "_law_mixed" (defScope stm__law_mixed) f cdv A outer s H E) (fun c d _ H' => E c d H') (defBody stm__law_mixed) (b__law_mixed C) := by
  have nd := sc__law_mixed.nd
  have tk : Takes (cxOf (L2.CX P w) P w K mg base ["script", "k", "drawn"] "_law_mixed" (defScope stm__law_mixed) f cdv A outer s H E) (fun c d _ H' => E c d H') := takes_of rfl rfl rfl rfl
  have pw : PassesOwn (model (cxOf (L2.CX P w) P w K mg base ["script", "k", "drawn"] "_law_mixed" (defScope stm__law_mixed) f cdv A outer s H E).prog (cxOf (L2.CX P w) P w K mg base ["script", "k", "drawn"] "_law_mixed" (defScope stm__law_mixed) f cdv A outer s H E).w) (cxOf (L2.CX P w) P w K mg base ["script", "k", "drawn"] "_law_mixed" (defScope stm__law_mixed) f cdv A outer s H E).A (cxOf (L2.CX P w) P w K mg base ["script", "k", "drawn"] "_law_mixed" (defScope stm__law_mixed) f cdv A outer s H E).env (cxOf (L2.CX P w) P w K mg base ["script", "k", "drawn"] "_law_mixed" (defScope stm__law_mixed) f cdv A outer s H E).xe := passes_of rfl
  exact (ss_cons (ss_set 2 nd (se_bin o2_mod (se_bin o2_mulA (se_bin o2_add (se_bin o2_add (se_callA T.f__law_cell_at hr (sa_cons (se_var 0) (sa_cons (se_var 1) sa_nil)) tk) (se_bin o2_mulA se_int (se_var 1))) se_int) se_int) se_int)) (ss_one (ss_ret (se_bin o2_mod (se_bin o2_add (se_bin o2_add (se_bin o2_mulA (se_var 2) (se_var 2)) (se_bin o2_mulA se_int (se_var 2))) (se_var 1)) se_int))))
theorem sc__law_drawn : FnScope ["number", "k", "drawn"] ["number", "k"] (defScope stm__law_drawn) := ⟨rfl, rfl, rfl, by decide +kernel, rfl, by decide +kernel, by decide +kernel⟩
theorem s__law_drawn (T : Tab P w K mg base C k) (f : Addr) (cdv : Value) (A : Around) (outer : List Env) (s : Shared) (H : Hp) (E : XK) (hr : Room k (A.deeper (PyProof.Rows.envOfC "_law_drawn" (defScope stm__law_drawn) s.heap.objs.size f cdv))) :
    SSs (cxOf (L2.CX P w) P w K mg base ["number", "k", "drawn"] "_law_drawn" (defScope stm__law_drawn) f cdv A outer s H E) (fun c d _ H' => E c d H') (defBody stm__law_drawn) (b__law_drawn C) := by
  have nd := sc__law_drawn.nd
  have tk : Takes (cxOf (L2.CX P w) P w K mg base ["number", "k", "drawn"] "_law_drawn" (defScope stm__law_drawn) f cdv A outer s H E) (fun c d _ H' => E c d H') := takes_of rfl rfl rfl rfl
  have pw : PassesOwn (model (cxOf (L2.CX P w) P w K mg base ["number", "k", "drawn"] "_law_drawn" (defScope stm__law_drawn) f cdv A outer s H E).prog (cxOf (L2.CX P w) P w K mg base ["number", "k", "drawn"] "_law_drawn" (defScope stm__law_drawn) f cdv A outer s H E).w) (cxOf (L2.CX P w) P w K mg base ["number", "k", "drawn"] "_law_drawn" (defScope stm__law_drawn) f cdv A outer s H E).A (cxOf (L2.CX P w) P w K mg base ["number", "k", "drawn"] "_law_drawn" (defScope stm__law_drawn) f cdv A outer s H E).env (cxOf (L2.CX P w) P w K mg base ["number", "k", "drawn"] "_law_drawn" (defScope stm__law_drawn) f cdv A outer s H E).xe := passes_of rfl
  exact (ss_cons (ss_set 2 nd (se_bin o2_mod (se_bin o2_mulA (se_bin o2_add (se_bin o2_add (se_var 0) (se_bin o2_mulA se_int (se_var 1))) se_int) se_int) se_int)) (ss_one (ss_ret (se_bin o2_mod (se_bin o2_add (se_bin o2_add (se_bin o2_mulA (se_var 2) (se_var 2)) (se_bin o2_mulA se_int (se_var 2))) (se_var 1)) se_int))))
theorem sc__law_scheme : FnScope ["number", "book", "k", "drawn", "letters", "name", "n"] ["number"] (defScope stm__law_scheme) := ⟨rfl, rfl, rfl, by decide +kernel, rfl, by decide +kernel, by decide +kernel⟩
theorem s__law_scheme (T : Tab P w K mg base C k) (f : Addr) (cdv : Value) (A : Around) (outer : List Env) (s : Shared) (H : Hp) (E : XK) (hr : Room k (A.deeper (PyProof.Rows.envOfC "_law_scheme" (defScope stm__law_scheme) s.heap.objs.size f cdv))) :
    SSs (cxOf (L2.CX P w) P w K mg base ["number", "book", "k", "drawn", "letters", "name", "n"] "_law_scheme" (defScope stm__law_scheme) f cdv A outer s H E) (fun c d _ H' => E c d H') (defBody stm__law_scheme) (b__law_scheme C) := by
  have nd := sc__law_scheme.nd
  have tk : Takes (cxOf (L2.CX P w) P w K mg base ["number", "book", "k", "drawn", "letters", "name", "n"] "_law_scheme" (defScope stm__law_scheme) f cdv A outer s H E) (fun c d _ H' => E c d H') := takes_of rfl rfl rfl rfl
  have pw : PassesOwn (model (cxOf (L2.CX P w) P w K mg base ["number", "book", "k", "drawn", "letters", "name", "n"] "_law_scheme" (defScope stm__law_scheme) f cdv A outer s H E).prog (cxOf (L2.CX P w) P w K mg base ["number", "book", "k", "drawn", "letters", "name", "n"] "_law_scheme" (defScope stm__law_scheme) f cdv A outer s H E).w) (cxOf (L2.CX P w) P w K mg base ["number", "book", "k", "drawn", "letters", "name", "n"] "_law_scheme" (defScope stm__law_scheme) f cdv A outer s H E).A (cxOf (L2.CX P w) P w K mg base ["number", "book", "k", "drawn", "letters", "name", "n"] "_law_scheme" (defScope stm__law_scheme) f cdv A outer s H E).env (cxOf (L2.CX P w) P w K mg base ["number", "book", "k", "drawn", "letters", "name", "n"] "_law_scheme" (defScope stm__law_scheme) f cdv A outer s H E).xe := passes_of rfl
  exact (ss_cons (ss_set 1 nd se_dicR) (ss_cons (ss_for pw rfl (si_range (sa_cons (se_bin o2_add se_int (se_bin o2_mod (se_var 0) se_int)) sa_nil) T.n_range) (sg_nm 2 nd) (ss_cons (ss_set 3 nd (se_bin o2_div (se_callA T.f__law_drawn hr (sa_cons (se_var 0) (sa_cons (se_var 2) sa_nil)) tk) se_int)) (ss_cons (ss_set 4 nd se_str) (ss_cons (ss_set 5 nd (se_mth m2_join PySem.F.plainAttrs_str PySem.F.slot_str_join PySem.F.type_str_join se_str (sa_cons (se_lc rfl nd (si_range (sa_cons (se_bin o2_add se_int (se_bin o2_mod (se_var 3) se_int)) sa_nil) T.n_range) (blkOk_by (own := [("n", 6)]) (by kernel_rfl)) (by decide) (fun _ _ _ _ _ => (sg_nm 6 nd)) (fun _ _ _ _ _ => sts_nil) (fun _ _ _ _ _ => (se_ix (u1 hr) (se_var 4) (se_bin o2_mod (se_bin o2_div (se_callA T.f__law_drawn hr (sa_cons (se_var 3) (sa_cons (se_var 6) sa_nil)) takes0) se_int) se_int)))) sa_nil))) (ss_one (ss_setI (u1 hr) (se_var 1) (se_var 5) (se_ix (u1 hr) (se_tup (sa_cons se_str (sa_cons se_str (sa_cons se_str (sa_cons se_str (sa_cons se_str (sa_cons se_str (sa_cons se_str (sa_cons se_str sa_nil))))))))) (se_bin o2_mod (se_bin o2_div (se_var 3) se_int) se_int)))))))) (ss_one (ss_ret (se_callTy c1_tupleK T.n_tuple (by decide +kernel) (sa_cons (se_sortItems rfl (u64 hr) (se_var 1) T.n_sorted) sa_nil))))))
theorem sc__law_plain : FnScope ["scheme", "number", "deep", "kind", "parts", "n"] ["scheme", "number", "deep"] (defScope stm__law_plain) := ⟨rfl, rfl, rfl, by decide +kernel, rfl, by decide +kernel, by decide +kernel⟩
theorem s__law_plain (T : Tab P w K mg base C k) (f : Addr) (cdv : Value) (A : Around) (outer : List Env) (s : Shared) (H : Hp) (E : XK) (hr : Room k (A.deeper (PyProof.Rows.envOfC "_law_plain" (defScope stm__law_plain) s.heap.objs.size f cdv))) :
    SSs (cxOf (L2.CX P w) P w K mg base ["scheme", "number", "deep", "kind", "parts", "n"] "_law_plain" (defScope stm__law_plain) f cdv A outer s H E) (fun c d _ H' => E c d H') (defBody stm__law_plain) (b__law_plain C) := by
  have nd := sc__law_plain.nd
  have tk : Takes (cxOf (L2.CX P w) P w K mg base ["scheme", "number", "deep", "kind", "parts", "n"] "_law_plain" (defScope stm__law_plain) f cdv A outer s H E) (fun c d _ H' => E c d H') := takes_of rfl rfl rfl rfl
  have pw : PassesOwn (model (cxOf (L2.CX P w) P w K mg base ["scheme", "number", "deep", "kind", "parts", "n"] "_law_plain" (defScope stm__law_plain) f cdv A outer s H E).prog (cxOf (L2.CX P w) P w K mg base ["scheme", "number", "deep", "kind", "parts", "n"] "_law_plain" (defScope stm__law_plain) f cdv A outer s H E).w) (cxOf (L2.CX P w) P w K mg base ["scheme", "number", "deep", "kind", "parts", "n"] "_law_plain" (defScope stm__law_plain) f cdv A outer s H E).A (cxOf (L2.CX P w) P w K mg base ["scheme", "number", "deep", "kind", "parts", "n"] "_law_plain" (defScope stm__law_plain) f cdv A outer s H E).env (cxOf (L2.CX P w) P w K mg base ["scheme", "number", "deep", "kind", "parts", "n"] "_law_plain" (defScope stm__law_plain) f cdv A outer s H E).xe := passes_of rfl
  exact (ss_cons (ss_set 3 nd (se_bin o2_mod (se_var 1) se_int)) (ss_cons (ss_if (st_w (sw_and (st_cmp o2_gt (se_var 2) se_int (nomark _)) (sw_and1 (st_cmp (o2_lt (u64 hr)) (se_var 3) se_int (nomark _))))) (ss_cons (ss_setLc 4 rfl nd (si_val (se_tup (sa_cons se_int (sa_cons se_int sa_nil)))) (blkOk_by (own := [("n", 5)]) (by kernel_rfl)) (by decide) (fun _ _ _ _ _ => (sg_nm 5 nd)) (fun _ _ _ _ _ => sts_nil) (fun _ _ _ _ _ => (se_callA T.f__law_plain hr (sa_cons (se_var 0) (sa_cons (se_bin o2_div (se_callA T.f__law_drawn hr (sa_cons (se_var 1) (sa_cons (se_var 5) sa_nil)) takes0) se_int) (sa_cons (se_bin o2_sub (se_var 2) se_int) sa_nil))) takes0)) (sw_true rfl rfl rfl (by decide +kernel))) (ss_one (ss_ret (se_ix (u1 hr) (se_lst (sa_cons (se_tup (sa_cons se_str (sa_cons (se_ix (u1 hr) (se_var 4) se_int) (sa_cons (se_ix (u1 hr) (se_var 4) se_int) sa_nil)))) (sa_cons (se_tup (sa_cons se_str (sa_cons (se_ix (u1 hr) (se_var 4) se_int) (sa_cons (se_ix (u1 hr) (se_var 4) se_int) sa_nil)))) (sa_cons (se_tup (sa_cons se_str (sa_cons (se_ix (u1 hr) (se_var 4) se_int) sa_nil))) (sa_cons (se_tup (sa_cons se_str (sa_cons (se_ix (u1 hr) (se_var 4) se_int) sa_nil))) sa_nil))))) (se_var 3))))) ss_nil) (ss_cons (ss_if (st_cmp (o2_eq (u64 hr)) (se_var 3) se_int (nomark _)) (ss_one (ss_ret (se_tup (sa_cons se_str sa_nil)))) ss_nil) (ss_one (ss_ret (se_tup (sa_cons se_str (sa_cons (se_ix (u1 hr) (se_ix (u1 hr) (se_var 0) (se_bin o2_mod (se_bin o2_div (se_var 1) se_int) (se_callB c1_len T.n_len (by decide +kernel) (sa_cons (se_var 0) sa_nil)))) se_int) sa_nil))))))))
theorem sc__law_sets : FnScope ["scheme", "found", "name", "sort", "kinds"] ["scheme"] (defScope stm__law_sets) := ⟨rfl, rfl, rfl, by decide +kernel, rfl, by decide +kernel, by decide +kernel⟩
theorem s__law_sets (T : Tab P w K mg base C k) (f : Addr) (cdv : Value) (A : Around) (outer : List Env) (s : Shared) (H : Hp) (E : XK) (hr : Room k (A.deeper (PyProof.Rows.envOfC "_law_sets" (defScope stm__law_sets) s.heap.objs.size f cdv))) :
    SSs (cxOf (L2.CX P w) P w K mg base ["scheme", "found", "name", "sort", "kinds"] "_law_sets" (defScope stm__law_sets) f cdv A outer s H E) (fun c d _ H' => E c d H') (defBody stm__law_sets) (b__law_sets C) := by
  have nd := sc__law_sets.nd
  have tk : Takes (cxOf (L2.CX P w) P w K mg base ["scheme", "found", "name", "sort", "kinds"] "_law_sets" (defScope stm__law_sets) f cdv A outer s H E) (fun c d _ H' => E c d H') := takes_of rfl rfl rfl rfl
  have pw : PassesOwn (model (cxOf (L2.CX P w) P w K mg base ["scheme", "found", "name", "sort", "kinds"] "_law_sets" (defScope stm__law_sets) f cdv A outer s H E).prog (cxOf (L2.CX P w) P w K mg base ["scheme", "found", "name", "sort", "kinds"] "_law_sets" (defScope stm__law_sets) f cdv A outer s H E).w) (cxOf (L2.CX P w) P w K mg base ["scheme", "found", "name", "sort", "kinds"] "_law_sets" (defScope stm__law_sets) f cdv A outer s H E).A (cxOf (L2.CX P w) P w K mg base ["scheme", "found", "name", "sort", "kinds"] "_law_sets" (defScope stm__law_sets) f cdv A outer s H E).env (cxOf (L2.CX P w) P w K mg base ["scheme", "found", "name", "sort", "kinds"] "_law_sets" (defScope stm__law_sets) f cdv A outer s H E).xe := passes_of rfl
  exact (ss_cons (ss_set 1 nd (se_lst (sa_cons (se_tup sa_nil) sa_nil))) (ss_cons (ss_for pw rfl (si_val (se_var 0)) (sg_tp rfl (sgs_cons (sg_nm 2 nd) (sgs_cons (sg_nm 3 nd) sgs_nil))) (ss_one (ss_set 1 nd (se_bin o2_add (se_var 1) (se_lc rfl nd (si_val (se_var 1)) (blkOk_by (own := [("kinds", 4)]) (by kernel_rfl)) (by decide) (fun _ _ _ _ _ => (sg_nm 4 nd)) (fun _ _ _ _ _ => sts_nil) (fun _ _ _ _ _ => (se_bin o2_add (se_var 4) (se_tup (sa_cons (se_var 2) sa_nil))))))))) (ss_one (ss_ret (se_callB (c1_sorted (u64 hr)) T.n_sorted (by decide +kernel) (sa_cons (se_var 1) sa_nil))))))
theorem sc__law_never_right : FnScope ["scheme", "one", "other", "never", "names", "name", "sort"] ["scheme", "one", "other"] (defScope stm__law_never_right) := ⟨rfl, rfl, rfl, by decide +kernel, rfl, by decide +kernel, by decide +kernel⟩
theorem s__law_never_right (T : Tab P w K mg base C k) (f : Addr) (cdv : Value) (A : Around) (outer : List Env) (s : Shared) (H : Hp) (E : XK) (hr : Room k (A.deeper (PyProof.Rows.envOfC "_law_never_right" (defScope stm__law_never_right) s.heap.objs.size f cdv))) :
    SSs (cxOf (L2.CX P w) P w K mg base ["scheme", "one", "other", "never", "names", "name", "sort"] "_law_never_right" (defScope stm__law_never_right) f cdv A outer s H E) (fun c d _ H' => E c d H') (defBody stm__law_never_right) (b__law_never_right C) := by
  have nd := sc__law_never_right.nd
  have tk : Takes (cxOf (L2.CX P w) P w K mg base ["scheme", "one", "other", "never", "names", "name", "sort"] "_law_never_right" (defScope stm__law_never_right) f cdv A outer s H E) (fun c d _ H' => E c d H') := takes_of rfl rfl rfl rfl
  have pw : PassesOwn (model (cxOf (L2.CX P w) P w K mg base ["scheme", "one", "other", "never", "names", "name", "sort"] "_law_never_right" (defScope stm__law_never_right) f cdv A outer s H E).prog (cxOf (L2.CX P w) P w K mg base ["scheme", "one", "other", "never", "names", "name", "sort"] "_law_never_right" (defScope stm__law_never_right) f cdv A outer s H E).w) (cxOf (L2.CX P w) P w K mg base ["scheme", "one", "other", "never", "names", "name", "sort"] "_law_never_right" (defScope stm__law_never_right) f cdv A outer s H E).A (cxOf (L2.CX P w) P w K mg base ["scheme", "one", "other", "never", "names", "name", "sort"] "_law_never_right" (defScope stm__law_never_right) f cdv A outer s H E).env (cxOf (L2.CX P w) P w K mg base ["scheme", "one", "other", "never", "names", "name", "sort"] "_law_never_right" (defScope stm__law_never_right) f cdv A outer s H E).xe := passes_of rfl
  exact (ss_cons (ss_set 3 nd (se_tup (sa_cons se_str (sa_cons (se_var 1) (sa_cons (se_tup (sa_cons se_str (sa_cons (se_var 1) sa_nil))) sa_nil))))) (ss_cons (ss_if (st_w (sw_or (st_not (st_val (se_callA T.f_is_never hr (sa_cons (se_var 0) (sa_cons (se_var 3) sa_nil)) tk))) (sw_or (st_not (st_val (se_callA T.f_is_within hr (sa_cons (se_var 0) (sa_cons (se_var 3) (sa_cons (se_var 2) sa_nil))) tk))) (sw_or1 (st_cmp (o2_ne (u64 hr)) (se_callA T.f_sets_for hr (sa_cons (se_var 0) (sa_cons (se_var 3) sa_nil)) tk) (se_tup sa_nil) (nomark _)))))) (ss_one (ss_ret se_bl)) ss_nil) (ss_cons (ss_set 4 nd (se_callTy c1_tuple T.n_tuple (by decide +kernel) (sa_cons (se_lc rfl nd (si_val (se_var 0)) (blkOk_by (own := [("name", 5), ("sort", 6)]) (by kernel_rfl)) (by decide) (fun _ _ _ _ _ => (sg_tp rfl (sgs_cons (sg_nm 5 nd) (sgs_cons (sg_nm 6 nd) sgs_nil)))) (fun _ _ _ _ _ => sts_nil) (fun _ _ _ _ _ => (se_var 5))) sa_nil))) (ss_one (ss_ret (se_and (se_cmp (o2_eq (u64 hr)) (se_callA T.f_must_have hr (sa_cons (se_var 0) (sa_cons (se_var 3) sa_nil)) tk) (se_var 4) (nomark _)) (se_one (se_cmp (o2_eq (u64 hr)) (se_callA T.f_can_not_have hr (sa_cons (se_var 0) (sa_cons (se_var 3) sa_nil)) tk) (se_var 4) (nomark _)))))))))
theorem sc_law : FnScope ["script", "scheme", "one", "other", "every", "here", "there", "both", "either", "same", "kinds", "less", "some"] ["script"] (defScope stm_law) := ⟨rfl, rfl, rfl, by decide +kernel, rfl, by decide +kernel, by decide +kernel⟩
theorem s_law (T : Tab P w K mg base C k) (f : Addr) (cdv : Value) (A : Around) (outer : List Env) (s : Shared) (H : Hp) (E : XK) (hr : Room k (A.deeper (PyProof.Rows.envOfC "law" (defScope stm_law) s.heap.objs.size f cdv))) :
    SSs (cxOf (L2.CX P w) P w K mg base ["script", "scheme", "one", "other", "every", "here", "there", "both", "either", "same", "kinds", "less", "some"] "law" (defScope stm_law) f cdv A outer s H E) (fun c d _ H' => E c d H') (defBody stm_law) (b_law C) := by
  have nd := sc_law.nd
  have tk : Takes (cxOf (L2.CX P w) P w K mg base ["script", "scheme", "one", "other", "every", "here", "there", "both", "either", "same", "kinds", "less", "some"] "law" (defScope stm_law) f cdv A outer s H E) (fun c d _ H' => E c d H') := takes_of rfl rfl rfl rfl
  have pw : PassesOwn (model (cxOf (L2.CX P w) P w K mg base ["script", "scheme", "one", "other", "every", "here", "there", "both", "either", "same", "kinds", "less", "some"] "law" (defScope stm_law) f cdv A outer s H E).prog (cxOf (L2.CX P w) P w K mg base ["script", "scheme", "one", "other", "every", "here", "there", "both", "either", "same", "kinds", "less", "some"] "law" (defScope stm_law) f cdv A outer s H E).w) (cxOf (L2.CX P w) P w K mg base ["script", "scheme", "one", "other", "every", "here", "there", "both", "either", "same", "kinds", "less", "some"] "law" (defScope stm_law) f cdv A outer s H E).A (cxOf (L2.CX P w) P w K mg base ["script", "scheme", "one", "other", "every", "here", "there", "both", "either", "same", "kinds", "less", "some"] "law" (defScope stm_law) f cdv A outer s H E).env (cxOf (L2.CX P w) P w K mg base ["script", "scheme", "one", "other", "every", "here", "there", "both", "either", "same", "kinds", "less", "some"] "law" (defScope stm_law) f cdv A outer s H E).xe := passes_of rfl
  exact (ss_cons (ss_set 1 nd (se_callA T.f__law_scheme hr (sa_cons (se_callA T.f__law_mixed hr (sa_cons (se_var 0) (sa_cons se_int sa_nil)) tk) sa_nil) tk)) (ss_cons (ss_set 2 nd (se_callA T.f__law_plain hr (sa_cons (se_var 1) (sa_cons (se_callA T.f__law_mixed hr (sa_cons (se_var 0) (sa_cons se_int sa_nil)) tk) (sa_cons se_int sa_nil))) tk)) (ss_cons (ss_set 3 nd (se_callA T.f__law_plain hr (sa_cons (se_var 1) (sa_cons (se_callA T.f__law_mixed hr (sa_cons (se_var 0) (sa_cons se_int sa_nil)) tk) (sa_cons se_int sa_nil))) tk)) (ss_cons (ss_set 4 nd (se_callA T.f_sets_for hr (sa_cons (se_var 1) (sa_cons (se_tup (sa_cons se_str sa_nil)) sa_nil)) tk)) (ss_cons (ss_set 5 nd (se_callA T.f_sets_for hr (sa_cons (se_var 1) (sa_cons (se_var 2) sa_nil)) tk)) (ss_cons (ss_set 6 nd (se_callA T.f_sets_for hr (sa_cons (se_var 1) (sa_cons (se_var 3) sa_nil)) tk)) (ss_cons (ss_if (st_w (sw_or (st_cmp (o2_ne (u64 hr)) (se_var 4) (se_callTy c1_tuple T.n_tuple (by decide +kernel) (sa_cons (se_callA T.f__law_sets hr (sa_cons (se_var 1) sa_nil) tk) sa_nil)) (nomark _)) (sw_or1 (st_cmp (o2_ne (u64 hr)) (se_callTy c1_list T.n_list (by decide +kernel) (sa_cons (se_var 5) sa_nil)) (se_sortSetS rfl (u64 hr) (se_var 5) T.n_set T.n_sorted) (nomark _))))) (ss_one (ss_ret se_bl)) ss_nil) (ss_cons (ss_if (st_cmp (o2_ne (u64 hr)) (se_callA T.f_sets_for hr (sa_cons (se_var 1) (sa_cons (se_tup (sa_cons se_str (sa_cons (se_var 2) sa_nil))) sa_nil)) tk) (se_callTy c1_tuple T.n_tuple (by decide +kernel) (sa_cons (se_lc rfl nd (si_val (se_var 4)) (blkOk_by (own := [("kinds", 10)]) (by kernel_rfl)) (by decide) (fun _ _ _ _ _ => (sg_nm 10 nd)) (fun _ _ _ _ _ => (sts_one (st_cmp (o2_notIn (u65 hr)) (se_var 10) (se_var 5) (by rfl)))) (fun _ _ _ _ _ => (se_var 10))) sa_nil)) (nomark _)) (ss_one (ss_ret se_bl)) ss_nil) (ss_cons (ss_set 7 nd (se_tup (sa_cons se_str (sa_cons (se_var 2) (sa_cons (se_var 3) sa_nil))))) (ss_cons (ss_set 8 nd (se_tup (sa_cons se_str (sa_cons (se_var 2) (sa_cons (se_var 3) sa_nil))))) (ss_cons (ss_if (st_cmp (o2_ne (u64 hr)) (se_callA T.f_sets_for hr (sa_cons (se_var 1) (sa_cons (se_var 7) sa_nil)) tk) (se_callTy c1_tuple T.n_tuple (by decide +kernel) (sa_cons (se_lc rfl nd (si_val (se_var 5)) (blkOk_by (own := [("kinds", 10)]) (by kernel_rfl)) (by decide) (fun _ _ _ _ _ => (sg_nm 10 nd)) (fun _ _ _ _ _ => (sts_one (st_cmp (o2_in (u65 hr)) (se_var 10) (se_var 6) (by rfl)))) (fun _ _ _ _ _ => (se_var 10))) sa_nil)) (nomark _)) (ss_one (ss_ret se_bl)) ss_nil) (ss_cons (ss_if (st_cmp (o2_ne (u64 hr)) (se_callA T.f_sets_for hr (sa_cons (se_var 1) (sa_cons (se_var 8) sa_nil)) tk) (se_callTy c1_tuple T.n_tuple (by decide +kernel) (sa_cons (se_lc rfl nd (si_val (se_var 4)) (blkOk_by (own := [("kinds", 10)]) (by kernel_rfl)) (by decide) (fun _ _ _ _ _ => (sg_nm 10 nd)) (fun _ _ _ _ _ => (sts_one (st_w (sw_or (st_cmp (o2_in (u65 hr)) (se_var 10) (se_var 5) (by rfl)) (sw_or1 (st_cmp (o2_in (u65 hr)) (se_var 10) (se_var 6) (by rfl))))))) (fun _ _ _ _ _ => (se_var 10))) sa_nil)) (nomark _)) (ss_one (ss_ret se_bl)) ss_nil) (ss_cons (ss_if (st_not (st_val (se_callA T.f_alike hr (sa_cons (se_var 1) (sa_cons (se_tup (sa_cons se_str (sa_cons (se_var 7) sa_nil))) (sa_cons (se_tup (sa_cons se_str (sa_cons (se_tup (sa_cons se_str (sa_cons (se_var 2) sa_nil))) (sa_cons (se_tup (sa_cons se_str (sa_cons (se_var 3) sa_nil))) sa_nil)))) sa_nil))) tk))) (ss_one (ss_ret se_bl)) ss_nil) (ss_cons (ss_if (st_w (sw_or (st_not (st_val (se_callA T.f_is_within hr (sa_cons (se_var 1) (sa_cons (se_var 7) (sa_cons (se_var 2) sa_nil))) tk))) (sw_or1 (st_not (st_val (se_callA T.f_is_within hr (sa_cons (se_var 1) (sa_cons (se_var 2) (sa_cons (se_var 8) sa_nil))) tk)))))) (ss_one (ss_ret se_bl)) ss_nil) (ss_cons (ss_if (st_not (st_val (se_callA T.f__law_never_right hr (sa_cons (se_var 1) (sa_cons (se_var 2) (sa_cons (se_var 3) sa_nil))) tk))) (ss_one (ss_ret se_bl)) ss_nil) (ss_cons (ss_set 9 nd (se_and (se_callA T.f_is_within hr (sa_cons (se_var 1) (sa_cons (se_var 2) (sa_cons (se_var 3) sa_nil))) tk) (se_one (se_callA T.f_is_within hr (sa_cons (se_var 1) (sa_cons (se_var 3) (sa_cons (se_var 2) sa_nil))) tk)))) (ss_cons (ss_set 10 nd (se_callA T.f_parting hr (sa_cons (se_var 1) (sa_cons (se_var 2) (sa_cons (se_var 3) sa_nil))) tk)) (ss_cons (ss_if (st_w (sw_or (st_cmp (o2_ne (u64 hr)) (se_var 9) (se_callA T.f_alike hr (sa_cons (se_var 1) (sa_cons (se_var 2) (sa_cons (se_var 3) sa_nil))) tk) (nomark _)) (sw_or1 (st_cmp (o2_ne (u64 hr)) (se_var 9) (se_cmp o2_is2 (se_var 10) se_non (nomark _)) (nomark _))))) (ss_one (ss_ret se_bl)) ss_nil) (ss_cons (ss_if (st_cmp o2_is2 (se_var 10) se_non (nomark _)) (ss_one (ss_ret (se_cmp (o2_eq (u64 hr)) (se_var 5) (se_var 6) (nomark _)))) ss_nil) (ss_cons (ss_setLc 11 rfl nd (si_val (se_var 4)) (blkOk_by (own := [("some", 12)]) (by kernel_rfl)) (by decide) (fun _ _ _ _ _ => (sg_nm 12 nd)) (fun _ _ _ _ _ => (sts_one (st_w (sw_and (st_cmp (o2_lt (u64 hr)) (se_var 12) (se_var 10) (nomark _)) (sw_and1 (st_cmp (o2_ne (u64 hr)) (se_cmp (o2_in (u65 hr)) (se_var 12) (se_var 5) (by rfl)) (se_cmp (o2_in (u65 hr)) (se_var 12) (se_var 6) (by rfl)) (nomark _))))))) (fun _ _ _ _ _ => (se_var 12)) (sw_true rfl rfl rfl (by decide +kernel))) (ss_one (ss_ret (se_and (se_cmp (o2_ne (u64 hr)) (se_cmp (o2_in (u65 hr)) (se_var 10) (se_var 5) (by rfl)) (se_cmp (o2_in (u65 hr)) (se_var 10) (se_var 6) (by rfl)) (nomark _)) (se_one (se_cmp (o2_eq (u64 hr)) (se_var 11) (se_lst sa_nil) (nomark _))))))))))))))))))))))))))
end
theorem tab {P : Program} {w : World} {K : PySem.W.Frag} {h : Heap} {mg : Str → Option Value} (X : K.In h) (G : h.Ns mainGlobals mg) (c : He.SaysD fa fn K) (cx : okX K = true) (ce : okEx K = true) {base : Heap} (KB : K.In base) : ∀ k, Tab P w K mg base (run tb k) k := by
  obtain ⟨fd_names_of, F_names_of⟩ := c.def_ 0 rfl
  have b_names_of : Binds K fd_names_of ["scheme"] [] := F_names_of.bindsN fun _ _ _ _ _ _ us hl => match us, hl with | [_], _ => rfl
  have g_names_of : mg "names_of" = some (.ref (He.ga K "names_of")) := He.glo_ok X G (c.fact 0 rfl)
  obtain ⟨fd_holds, F_holds⟩ := c.def_ 1 rfl
  have b_holds : Binds K fd_holds ["store", "parts", "question"] [] := F_holds.bindsN fun _ _ _ _ _ _ us hl => match us, hl with | [_, _, _], _ => rfl
  have g_holds : mg "holds" = some (.ref (He.ga K "holds")) := He.glo_ok X G (c.fact 1 rfl)
  obtain ⟨fd_all_sets, F_all_sets⟩ := c.def_ 2 rfl
  have b_all_sets : Binds K fd_all_sets ["scheme"] [] := F_all_sets.bindsN fun _ _ _ _ _ _ us hl => match us, hl with | [_], _ => rfl
  have g_all_sets : mg "all_sets" = some (.ref (He.ga K "all_sets")) := He.glo_ok X G (c.fact 2 rfl)
  obtain ⟨fd_sets_for, F_sets_for⟩ := c.def_ 3 rfl
  have b_sets_for : Binds K fd_sets_for ["scheme", "question"] [] := F_sets_for.bindsN fun _ _ _ _ _ _ us hl => match us, hl with | [_, _], _ => rfl
  have g_sets_for : mg "sets_for" = some (.ref (He.ga K "sets_for")) := He.glo_ok X G (c.fact 3 rfl)
  obtain ⟨fd_must_have, F_must_have⟩ := c.def_ 4 rfl
  have b_must_have : Binds K fd_must_have ["scheme", "question"] [] := F_must_have.bindsN fun _ _ _ _ _ _ us hl => match us, hl with | [_, _], _ => rfl
  have g_must_have : mg "must_have" = some (.ref (He.ga K "must_have")) := He.glo_ok X G (c.fact 4 rfl)
  obtain ⟨fd_can_not_have, F_can_not_have⟩ := c.def_ 5 rfl
  have b_can_not_have : Binds K fd_can_not_have ["scheme", "question"] [] := F_can_not_have.bindsN fun _ _ _ _ _ _ us hl => match us, hl with | [_, _], _ => rfl
  have g_can_not_have : mg "can_not_have" = some (.ref (He.ga K "can_not_have")) := He.glo_ok X G (c.fact 5 rfl)
  obtain ⟨fd_is_never, F_is_never⟩ := c.def_ 6 rfl
  have b_is_never : Binds K fd_is_never ["scheme", "question"] [] := F_is_never.bindsN fun _ _ _ _ _ _ us hl => match us, hl with | [_, _], _ => rfl
  have g_is_never : mg "is_never" = some (.ref (He.ga K "is_never")) := He.glo_ok X G (c.fact 6 rfl)
  obtain ⟨fd_parting, F_parting⟩ := c.def_ 7 rfl
  have b_parting : Binds K fd_parting ["scheme", "one", "other"] [] := F_parting.bindsN fun _ _ _ _ _ _ us hl => match us, hl with | [_, _, _], _ => rfl
  have g_parting : mg "parting" = some (.ref (He.ga K "parting")) := He.glo_ok X G (c.fact 7 rfl)
  obtain ⟨fd_alike, F_alike⟩ := c.def_ 8 rfl
  have b_alike : Binds K fd_alike ["scheme", "one", "other"] [] := F_alike.bindsN fun _ _ _ _ _ _ us hl => match us, hl with | [_, _, _], _ => rfl
  have g_alike : mg "alike" = some (.ref (He.ga K "alike")) := He.glo_ok X G (c.fact 8 rfl)
  obtain ⟨fd_is_within, F_is_within⟩ := c.def_ 9 rfl
  have b_is_within : Binds K fd_is_within ["scheme", "one", "other"] [] := F_is_within.bindsN fun _ _ _ _ _ _ us hl => match us, hl with | [_, _, _], _ => rfl
  have g_is_within : mg "is_within" = some (.ref (He.ga K "is_within")) := He.glo_ok X G (c.fact 9 rfl)
  obtain ⟨fd__law_cell_at, F__law_cell_at⟩ := c.def_ 10 rfl
  have b__law_cell_at : Binds K fd__law_cell_at ["script", "k"] [] := F__law_cell_at.bindsN fun _ _ _ _ _ _ us hl => match us, hl with | [_, _], _ => rfl
  have g__law_cell_at : mg "_law_cell_at" = some (.ref (He.ga K "_law_cell_at")) := He.glo_ok X G (c.fact 10 rfl)
  obtain ⟨fd__law_mixed, F__law_mixed⟩ := c.def_ 11 rfl
  have b__law_mixed : Binds K fd__law_mixed ["script", "k"] [] := F__law_mixed.bindsN fun _ _ _ _ _ _ us hl => match us, hl with | [_, _], _ => rfl
  have g__law_mixed : mg "_law_mixed" = some (.ref (He.ga K "_law_mixed")) := He.glo_ok X G (c.fact 11 rfl)
  obtain ⟨fd__law_drawn, F__law_drawn⟩ := c.def_ 12 rfl
  have b__law_drawn : Binds K fd__law_drawn ["number", "k"] [] := F__law_drawn.bindsN fun _ _ _ _ _ _ us hl => match us, hl with | [_, _], _ => rfl
  have g__law_drawn : mg "_law_drawn" = some (.ref (He.ga K "_law_drawn")) := He.glo_ok X G (c.fact 12 rfl)
  obtain ⟨fd__law_scheme, F__law_scheme⟩ := c.def_ 13 rfl
  have b__law_scheme : Binds K fd__law_scheme ["number"] [] := F__law_scheme.bindsN fun _ _ _ _ _ _ us hl => match us, hl with | [_], _ => rfl
  have g__law_scheme : mg "_law_scheme" = some (.ref (He.ga K "_law_scheme")) := He.glo_ok X G (c.fact 13 rfl)
  obtain ⟨fd__law_plain, F__law_plain⟩ := c.def_ 14 rfl
  have b__law_plain : Binds K fd__law_plain ["scheme", "number", "deep"] [] := F__law_plain.bindsN fun _ _ _ _ _ _ us hl => match us, hl with | [_, _, _], _ => rfl
  have g__law_plain : mg "_law_plain" = some (.ref (He.ga K "_law_plain")) := He.glo_ok X G (c.fact 14 rfl)
  obtain ⟨fd__law_sets, F__law_sets⟩ := c.def_ 15 rfl
  have b__law_sets : Binds K fd__law_sets ["scheme"] [] := F__law_sets.bindsN fun _ _ _ _ _ _ us hl => match us, hl with | [_], _ => rfl
  have g__law_sets : mg "_law_sets" = some (.ref (He.ga K "_law_sets")) := He.glo_ok X G (c.fact 15 rfl)
  obtain ⟨fd__law_never_right, F__law_never_right⟩ := c.def_ 16 rfl
  have b__law_never_right : Binds K fd__law_never_right ["scheme", "one", "other"] [] := F__law_never_right.bindsN fun _ _ _ _ _ _ us hl => match us, hl with | [_, _, _], _ => rfl
  have g__law_never_right : mg "_law_never_right" = some (.ref (He.ga K "_law_never_right")) := He.glo_ok X G (c.fact 16 rfl)
  obtain ⟨fd_law, F_law⟩ := c.def_ 17 rfl
  have b_law : Binds K fd_law ["script"] [] := F_law.bindsN fun _ _ _ _ _ _ us hl => match us, hl with | [_], _ => rfl
  have g_law : mg "law" = some (.ref (He.ga K "law")) := He.glo_ok X G (c.fact 17 rfl)
  intro k
  induction k with
  | zero =>
    refine ⟨⟨⟨fd_names_of, fn_zero _ rfl, b_names_of⟩, g_names_of, F_names_of.kp⟩, ⟨⟨fd_holds, fn_zero _ rfl, b_holds⟩, g_holds, F_holds.kp⟩, ⟨⟨fd_all_sets, fn_zero _ rfl, b_all_sets⟩, g_all_sets, F_all_sets.kp⟩, ⟨⟨fd_sets_for, fn_zero _ rfl, b_sets_for⟩, g_sets_for, F_sets_for.kp⟩, ⟨⟨fd_must_have, fn_zero _ rfl, b_must_have⟩, g_must_have, F_must_have.kp⟩, ⟨⟨fd_can_not_have, fn_zero _ rfl, b_can_not_have⟩, g_can_not_have, F_can_not_have.kp⟩, ⟨⟨fd_is_never, fn_zero _ rfl, b_is_never⟩, g_is_never, F_is_never.kp⟩, ⟨⟨fd_parting, fn_zero _ rfl, b_parting⟩, g_parting, F_parting.kp⟩, ⟨⟨fd_alike, fn_zero _ rfl, b_alike⟩, g_alike, F_alike.kp⟩, ⟨⟨fd_is_within, fn_zero _ rfl, b_is_within⟩, g_is_within, F_is_within.kp⟩, ⟨⟨fd__law_cell_at, fn_zero _ rfl, b__law_cell_at⟩, g__law_cell_at, F__law_cell_at.kp⟩, ⟨⟨fd__law_mixed, fn_zero _ rfl, b__law_mixed⟩, g__law_mixed, F__law_mixed.kp⟩, ⟨⟨fd__law_drawn, fn_zero _ rfl, b__law_drawn⟩, g__law_drawn, F__law_drawn.kp⟩, ⟨⟨fd__law_scheme, fn_zero _ rfl, b__law_scheme⟩, g__law_scheme, F__law_scheme.kp⟩, ⟨⟨fd__law_plain, fn_zero _ rfl, b__law_plain⟩, g__law_plain, F__law_plain.kp⟩, ⟨⟨fd__law_sets, fn_zero _ rfl, b__law_sets⟩, g__law_sets, F__law_sets.kp⟩, ⟨⟨fd__law_never_right, fn_zero _ rfl, b__law_never_right⟩, g__law_never_right, F__law_never_right.kp⟩, ⟨⟨fd_law, fn_zero _ rfl, b_law⟩, g_law, F_law.kp⟩, He.str_ok X G (c.fact 18 rfl), He.str_ok X G (c.fact 19 rfl), He.str_ok X G (c.fact 20 rfl), He.str_ok X G (c.fact 21 rfl), He.str_ok X G (c.fact 22 rfl), He.str_ok X G (c.fact 23 rfl), He.str_ok X G (c.fact 24 rfl), He.free_ok X G (c.fact 25 rfl), He.free_ok X G (c.fact 26 rfl), He.free_ok X G (c.fact 27 rfl), He.free_ok X G (c.fact 28 rfl), He.free_ok X G (c.fact 29 rfl), He.free_ok X G (c.fact 30 rfl), He.free_ok X G (c.fact 31 rfl), He.free_ok X G (c.fact 32 rfl), He.free_ok X G (c.fact 33 rfl)⟩
  | succ k ih =>
    refine ⟨⟨⟨fd_names_of, fn_run tb F_names_of sc_names_of rfl (s_names_of ih _), b_names_of⟩, g_names_of, F_names_of.kp⟩, ⟨⟨fd_holds, fn_run tb F_holds sc_holds rfl (s_holds ih _), b_holds⟩, g_holds, F_holds.kp⟩, ⟨⟨fd_all_sets, fn_run tb F_all_sets sc_all_sets rfl (s_all_sets ih _), b_all_sets⟩, g_all_sets, F_all_sets.kp⟩, ⟨⟨fd_sets_for, fn_run tb F_sets_for sc_sets_for rfl (s_sets_for ih _), b_sets_for⟩, g_sets_for, F_sets_for.kp⟩, ⟨⟨fd_must_have, fn_run tb F_must_have sc_must_have rfl (s_must_have ih _), b_must_have⟩, g_must_have, F_must_have.kp⟩, ⟨⟨fd_can_not_have, fn_run tb F_can_not_have sc_can_not_have rfl (s_can_not_have ih _), b_can_not_have⟩, g_can_not_have, F_can_not_have.kp⟩, ⟨⟨fd_is_never, fn_run tb F_is_never sc_is_never rfl (s_is_never ih _), b_is_never⟩, g_is_never, F_is_never.kp⟩, ⟨⟨fd_parting, fn_run tb F_parting sc_parting rfl (s_parting ih _), b_parting⟩, g_parting, F_parting.kp⟩, ⟨⟨fd_alike, fn_run tb F_alike sc_alike rfl (s_alike ih _), b_alike⟩, g_alike, F_alike.kp⟩, ⟨⟨fd_is_within, fn_run tb F_is_within sc_is_within rfl (s_is_within ih _), b_is_within⟩, g_is_within, F_is_within.kp⟩, ⟨⟨fd__law_cell_at, fn_run tb F__law_cell_at sc__law_cell_at rfl (s__law_cell_at ih _), b__law_cell_at⟩, g__law_cell_at, F__law_cell_at.kp⟩, ⟨⟨fd__law_mixed, fn_run tb F__law_mixed sc__law_mixed rfl (s__law_mixed ih _), b__law_mixed⟩, g__law_mixed, F__law_mixed.kp⟩, ⟨⟨fd__law_drawn, fn_run tb F__law_drawn sc__law_drawn rfl (s__law_drawn ih _), b__law_drawn⟩, g__law_drawn, F__law_drawn.kp⟩, ⟨⟨fd__law_scheme, fn_run tb F__law_scheme sc__law_scheme rfl (s__law_scheme ih _), b__law_scheme⟩, g__law_scheme, F__law_scheme.kp⟩, ⟨⟨fd__law_plain, fn_run tb F__law_plain sc__law_plain rfl (s__law_plain ih _), b__law_plain⟩, g__law_plain, F__law_plain.kp⟩, ⟨⟨fd__law_sets, fn_run tb F__law_sets sc__law_sets rfl (s__law_sets ih _), b__law_sets⟩, g__law_sets, F__law_sets.kp⟩, ⟨⟨fd__law_never_right, fn_run tb F__law_never_right sc__law_never_right rfl (s__law_never_right ih _), b__law_never_right⟩, g__law_never_right, F__law_never_right.kp⟩, ⟨⟨fd_law, fn_run tb F_law sc_law rfl (s_law ih _), b_law⟩, g_law, F_law.kp⟩, He.str_ok X G (c.fact 18 rfl), He.str_ok X G (c.fact 19 rfl), He.str_ok X G (c.fact 20 rfl), He.str_ok X G (c.fact 21 rfl), He.str_ok X G (c.fact 22 rfl), He.str_ok X G (c.fact 23 rfl), He.str_ok X G (c.fact 24 rfl), He.free_ok X G (c.fact 25 rfl), He.free_ok X G (c.fact 26 rfl), He.free_ok X G (c.fact 27 rfl), He.free_ok X G (c.fact 28 rfl), He.free_ok X G (c.fact 29 rfl), He.free_ok X G (c.fact 30 rfl), He.free_ok X G (c.fact 31 rfl), He.free_ok X G (c.fact 32 rfl), He.free_ok X G (c.fact 33 rfl)⟩
theorem law_ok {P : Program} {w : World} {K : PySem.W.Frag} {h : Heap} {mg : Str → Option Value} (X : K.In h) (G : h.Ns mainGlobals mg) (c : He.SaysD fa fn K) (cx : okX K = true) (ce : okEx K = true) {base : Heap} (KB : K.In base) (TA : ∀ t ∈ tblC K, LamX.TabB base mg t.1 t.2.1) (k : Nat) {fd : FuncData}
    (Fl : FunD K "law" "law" (defArgs stm_law) (defBody stm_law) (defScope stm_law) [] [] (He.ga K "law") fd) : FnOk P w K mg base (L2.CX P w) k (He.ga K "law") fd ["script"] (spM K (run tb k) .law 1) := by
  cases k with
  | zero => exact fn_zero _ rfl
  | succ k => exact fn_run tb Fl sc_law rfl (s_law (tab X G c cx ce KB k) _)
/-- the law's end: what the small interpreter says is what the model does -/
theorem holds_of (L : Nat) (hL : L ≤ 140) (hlaw : ∀ ns : List Int, ns.length ≤ 63 → ∃ h, run tb L .law [.klst (ns.map .int)] [] = .ok (.bl true) h) : PySem.Challenge.rw_partstore_k52_whole_sets_of_questions.Holds := by
  w_on; o_law
  refine HandSHeadRun.head_any (r := PySem.W.OpenLaw.row PySem.Challenge.rw_partstore_k52_whole_sets_of_questions) (q := PySem.W.view (PySem.W.OpenLaw.row PySem.Challenge.rw_partstore_k52_whole_sets_of_questions).prog [31]) (H := hk) (ob := ob) (M := 12000) (loose := nms) (d := HandSHeadRun.topDef (PySem.W.OpenLaw.row PySem.Challenge.rw_partstore_k52_whole_sets_of_questions).prog 31) (kwd := []) ob_eq
    (by kernel_rfl) (fun s => by kernel_rfl) headRun (by kernel_rfl) (by kernel_rfl) (by kernel_rfl) (by rfl) (by first | assumption | decide +kernel) (by decide +kernel) ⟨rfl, rfl, rfl, rfl, rfl, by decide +kernel⟩ ?hw ?hc
  case hw => w_witness2
  case hc =>
    refine walk_mi (l := PySem.Challenge.rw_partstore_k52_whole_sets_of_questions) (n := 63) (k := L) (x := "script") rfl (by decide) (by kernel_rfl) (room_of (by omega)) ?F
    intro w mg f h Y G hm0
    obtain ⟨K, KX, c, cx, ce, TA⟩ := Y
    have hm : mg ("law" : PySem.Str) = some (.ref f) := by
      have e : (HandSHeadRun.topDef (PySem.W.OpenLaw.row PySem.Challenge.rw_partstore_k52_whole_sets_of_questions).prog 31).name = ("law" : PySem.Str) := by kernel_rfl
      rw [← e]
      exact hm0
    obtain ⟨fd, Fl⟩ := c.def_ 17 rfl
    have ef := hm.symm.trans (He.glo_ok KX G (c.fact 17 rfl))
    cases ef
    have bl := FunD.bindsA (ps := ["script"]) Fl fun _ _ _ _ _ _ us hl => match us, hl with | [_], _ => rfl
    refine ⟨K, fd, spM K (run tb L) .law 1, KX, TA, fun s v => bl s [v] rfl, fun H a ns hl hT hS => ?_, fun bs KB _ TB => ?_⟩
    · obtain ⟨h', e⟩ := hlaw ns hl
      exact sp_law e hT hS
    · exact law_ok KX G c cx ce KB TB L Fl
end L52
theorem PySem.Challenge.cw_partstore_k52_whole_sets_of_questions_holds : PySem.Challenge.rw_partstore_k52_whole_sets_of_questions.Holds := by
  exact L52.holds_of 20 (by decide) (fun ns _ => L52.law_true ns)
