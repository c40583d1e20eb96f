import PyProof.Rows.All
import HandS.ForMost
import HandS.ForExc
import HandS.Defaults
import HandS.HeadHook1
import HandS.HeadHook2
import KE.SortData
import HandS.TupAny
import HandS.Deep
import HandS.IsInst
import HandS.Conv
import HandS.SortRule
import KE.DataEq
import KE.DataCmp
import KE.DataFind
import KE.DataMinMax
import HandS.CallSlots
import HandS.TupLen
import HandS.DictTup
import HandS.HeadEnd
import HandS.TupMul
import HandS.Zip
import KE.GoesMore
import KE.KDictZip
import PyProof.ListNew
import HandS.TupLe
import HandS.SetFor
import HandS.Strs
import HandS.Style
import HandS.List
import KE.KStateDown
import Lean
import HandS.Head0
import HandS.Head1
import HandS.Head2
import PySem.Challenge.RW_partstore_k82_whole_stages_and_chains
set_option Elab.async false
set_option linter.all false
set_option maxRecDepth 100000
set_option maxHeartbeats 1000000
set_option maxHeartbeats 4000000
set_option maxHeartbeats 0
namespace Mi
open PySem PySem.Spec PyProof.Rows L2
/-! ### values and objects of the small interpreter -/
inductive D where
  | non | bl (b : Bool) | int (i : Int) | str (x : Str)
  | tup (xs : List D) | lst (xs : List D) | dic (kvs : List (D × D)) | set (xs : List D)
  | ktup (xs : List D) | klst (xs : List D)
  | ref (l : Nat) | ty (n : String) | exc (c : Str)
inductive O where
  | lst (xs : List D) | dic (kvs : List (D × D)) | ins (c : Str) (fs : List (Str × D)) | hid
abbrev Hq := List O
abbrev Env' := List (Option D)
/-- where the places lie; what must not stand for a thing by value (the places among it) -/
structure Wd where
  pl : List Addr
  bn : List Addr
def Wd.add (m : Wd) (p : Addr) : Wd := ⟨m.pl ++ [p], p :: m.bn⟩
/-- an address kept for oneself -/
def Wd.ban (m : Wd) (p : Addr) : Wd := ⟨m.pl, p :: m.bn⟩
def kD : Key → D
  | .inl i => .int i
  | .inr x => .str x
/-- a written or frozen list -/
def KLs (K : PySem.W.Frag) (bn : List Addr) (H : Hp) (a : Addr) (vs : List V) : Prop := (Rd H a (.lst vs) ∧ a ∉ bn) ∨ SqL K (fun _ => none) a vs
/-! ### what stands for what -/
mutual
inductive Rp (K : PySem.W.Frag) (mp : Wd) (H : Hp) : D → V → Prop
  | non : Rp K mp H .non .non
  | bl (b : Bool) : Rp K mp H (.bl b) (.bl b)
  | int (i : Int) : Rp K mp H (.int i) (.int i)
  | str (x : Str) : Rp K mp H (.str x) (.str x)
  | ty (n : String) : Rp K mp H (.ty n) (.ty n)
  | tup {a : Addr} {vs : List V} {ds : List D} : H a = some (.tup vs) → a ∉ mp.bn → RpAll K mp H ds vs → Rp K mp H (.tup ds) (.ref a)
  | lst {a : Addr} {vs : List V} {ds : List D} : H a = some (.lst vs) → a ∉ mp.bn → RpAll K mp H ds vs → Rp K mp H (.lst ds) (.ref a)
  | ktup {a : Addr} {vs : List V} {ds : List D} : SqT K (fun _ => none) a vs → RpAll K mp H ds vs → Rp K mp H (.ktup ds) (.ref a)
  | klst {a : Addr} {vs : List V} {ds : List D} : KLs K mp.bn H a vs → RpAll K mp H ds vs → Rp K mp H (.klst ds) (.ref a)
  | dicK {a : Addr} {kvs : List (D × D)} {ks : List Key} {vs : List V} : H a = some (.dK (ks.zip vs)) → ks.length = vs.length → a ∉ mp.bn → kvs.map (·.1) = ks.map kD → RpAll K mp H (kvs.map (·.2)) vs → Rp K mp H (.dic kvs) (.ref a)
  | dicT {a : Addr} {kvs : List (D × D)} {ks : List (List Key)} {vs : List V} : kvs ≠ [] → H a = some (.dT (ks.zip vs)) → ks.length = vs.length → a ∉ mp.bn → kvs.map (·.1) = ks.map (fun k => .tup (k.map kD)) → RpAll K mp H (kvs.map (·.2)) vs → Rp K mp H (.dic kvs) (.ref a)
  | ref {l : Nat} {a : Addr} : mp.pl[l]? = some a → Rp K mp H (.ref l) (.ref a)
inductive RpAll (K : PySem.W.Frag) (mp : Wd) (H : Hp) : List D → List V → Prop
  | nil : RpAll K mp H [] []
  | cons {d : D} {v : V} {ds : List D} {vs : List V} : Rp K mp H d v → RpAll K mp H ds vs → RpAll K mp H (d :: ds) (v :: vs)
end
/-- the heap has gone on: what is not changeable stays -/
structure Lk (mp : Wd) (H : Hp) (mp' : Wd) (H' : Hp) : Prop where
  pre : ∃ more, mp'.pl = mp.pl ++ more
  keep : ∀ a o, H a = some o → a ∉ mp.bn → H' a = some o ∧ a ∉ mp'.bn
/-- .. and what one keeps for oneself -/
structure Le (mp : Wd) (H : Hp) (mp' : Wd) (H' : Hp) : Prop where
  pre : ∃ more, mp'.pl = mp.pl ++ more
  keep : ∀ a o, H a = some o → a ∉ mp.bn → H' a = some o ∧ a ∉ mp'.bn
  own : ∀ a, a ∈ mp.bn → a ∉ mp.pl → H' a = H a ∧ a ∈ mp'.bn ∧ a ∉ mp'.pl
theorem Le.refl {mp : Wd} {H : Hp} : Le mp H mp H := ⟨⟨[], by simp⟩, fun _ _ h n => ⟨h, n⟩, fun _ h n => ⟨rfl, h, n⟩⟩
theorem Le.trans {mp mp1 mp2 : Wd} {H H1 H2 : Hp} (a : Le mp H mp1 H1) (b : Le mp1 H1 mp2 H2) : Le mp H mp2 H2 := by
  obtain ⟨m1, e1⟩ := a.pre
  obtain ⟨m2, e2⟩ := b.pre
  refine ⟨⟨m1 ++ m2, by rw [e2, e1, List.append_assoc]⟩, fun c o h n => ?_, fun c h n => ?_⟩
  · obtain ⟨h1, n1⟩ := a.keep c o h n
    exact b.keep c o h1 n1
  · obtain ⟨h1, h2, h3⟩ := a.own c h n
    obtain ⟨g1, g2, g3⟩ := b.own c h2 h3
    exact ⟨g1.trans h1, g2, g3⟩
theorem Le.k {mp mp' : Wd} {H H' : Hp} (a : Le mp H mp' H') : Lk mp H mp' H' := ⟨a.pre, a.keep⟩
theorem Lk.get {mp mp' : Wd} {H H' : Hp} (a : Lk mp H mp' H') {l : Nat} {b : Addr} (h : mp.pl[l]? = some b) : mp'.pl[l]? = some b := by
  obtain ⟨m, e⟩ := a.pre
  rw [e, List.getElem?_append_left (by obtain ⟨h1, _⟩ := List.getElem?_eq_some_iff.mp h; exact h1)]
  exact h
theorem sqL_none {K : PySem.W.Frag} {H : Hp} {a : Addr} {vs : List V} (h : SqL K (fun _ => none) a vs) : SqL K H a vs := by
  rcases h with (h | ⟨o, h⟩) | h
  · cases h
  · cases h
  · exact .inr h
theorem KLs.sq {K : PySem.W.Frag} {bn : List Addr} {H : Hp} {a : Addr} {vs : List V} (h : KLs K bn H a vs) : SqL K H a vs := by
  rcases h with ⟨h, _⟩ | h
  · exact .inl h
  · exact sqL_none h
section
variable {K : PySem.W.Frag} {mp mp' : Wd} {H H' : Hp}
mutual
theorem Rp.monoK (le : Lk mp H mp' H') : ∀ {d : D} {v : V}, Rp K mp H d v → Rp K mp' H' d v
  | _, _, .non => .non
  | _, _, .bl b => .bl b
  | _, _, .int i => .int i
  | _, _, .str x => .str x
  | _, _, .ty n => .ty n
  | _, _, .tup h n r => .tup (le.keep _ _ h n).1 (le.keep _ _ h n).2 (r.monoK le)
  | _, _, .lst h n r => .lst (le.keep _ _ h n).1 (le.keep _ _ h n).2 (r.monoK le)
  | _, _, .ktup h r => .ktup h (r.monoK le)
  | _, _, .klst h r => by
    rcases h with ⟨h | ⟨o, h⟩, n⟩ | h
    · exact .klst (.inl ⟨.inl (le.keep _ _ h n).1, (le.keep _ _ h n).2⟩) (r.monoK le)
    · exact .klst (.inl ⟨.inr ⟨o, (le.keep _ _ h n).1⟩, (le.keep _ _ h n).2⟩) (r.monoK le)
    · exact .klst (.inr h) (r.monoK le)
  | _, _, .dicK h l n e r => .dicK (le.keep _ _ h n).1 l (le.keep _ _ h n).2 e (r.monoK le)
  | _, _, .dicT z h l n e r => .dicT z (le.keep _ _ h n).1 l (le.keep _ _ h n).2 e (r.monoK le)
  | _, _, .ref h => .ref (le.get h)
theorem RpAll.monoK (le : Lk mp H mp' H') : ∀ {ds : List D} {vs : List V}, RpAll K mp H ds vs → RpAll K mp' H' ds vs
  | _, _, .nil => .nil
  | _, _, .cons h t => .cons (h.monoK le) (t.monoK le)
end
theorem Rp.mono {d : D} {v : V} (le : Le mp H mp' H') (a : Rp K mp H d v) : Rp K mp' H' d v := a.monoK le.k
theorem RpAll.mono {ds : List D} {vs : List V} (le : Le mp H mp' H') (a : RpAll K mp H ds vs) : RpAll K mp' H' ds vs := a.monoK le.k
theorem Le.get (a : Le mp H mp' H') {l : Nat} {b : Addr} (h : mp.pl[l]? = some b) : mp'.pl[l]? = some b := a.k.get h
end
end Mi
namespace Mi
open PySem PySem.Spec PyProof.Rows L2
section
variable {K : PySem.W.Frag} {mp mp' : Wd} {H H' : Hp}
theorem RpAll.length : ∀ {ds : List D} {vs : List V}, RpAll K mp H ds vs → ds.length = vs.length
  | _, _, .nil => rfl
  | _, _, .cons _ t => by simp [RpAll.length t]
theorem RpAll.get : ∀ {ds : List D} {vs : List V} {i : Nat} {d : D}, RpAll K mp H ds vs → ds[i]? = some d → ∃ v, vs[i]? = some v ∧ Rp K mp H d v
  | _, _, _, _, .nil, e => by simp at e
  | _, _, 0, _, .cons r _, e => by simp at e; subst e; exact ⟨_, rfl, r⟩
  | _, _, i + 1, d, .cons _ t, e => by
    obtain ⟨v, h1, h2⟩ := RpAll.get (i := i) (d := d) t (by simpa using e)
    exact ⟨v, by simpa using h1, h2⟩
theorem RpAll.getV : ∀ {ds : List D} {vs : List V} {i : Nat} {v : V}, RpAll K mp H ds vs → vs[i]? = some v → ∃ d, ds[i]? = some d ∧ Rp K mp H d v
  | _, _, _, _, .nil, e => by simp at e
  | _, _, 0, _, .cons r _, e => by simp at e; subst e; exact ⟨_, rfl, r⟩
  | _, _, i + 1, v, .cons _ t, e => by
    obtain ⟨d, h1, h2⟩ := RpAll.getV (i := i) (v := v) t (by simpa using e)
    exact ⟨d, by simpa using h1, h2⟩
theorem RpAll.append : ∀ {ds es : List D} {vs ws : List V}, RpAll K mp H ds vs → RpAll K mp H es ws → RpAll K mp H (ds ++ es) (vs ++ ws)
  | _, _, _, _, .nil, s => s
  | _, _, _, _, .cons r t, s => .cons r (RpAll.append t s)
theorem RpAll.take : ∀ {ds : List D} {vs : List V} (n : Nat), RpAll K mp H ds vs → RpAll K mp H (ds.take n) (vs.take n)
  | _, _, 0, _ => by simpa using .nil
  | _, _, _ + 1, .nil => .nil
  | _, _, n + 1, .cons r t => .cons r (RpAll.take n t)
theorem RpAll.drop : ∀ {ds : List D} {vs : List V} (n : Nat), RpAll K mp H ds vs → RpAll K mp H (ds.drop n) (vs.drop n)
  | _, _, 0, r => r
  | _, _, _ + 1, .nil => .nil
  | _, _, n + 1, .cons _ t => RpAll.drop n t
theorem RpAll.set {d : D} {v : V} (r : Rp K mp H d v) : ∀ {ds : List D} {vs : List V} (i : Nat), RpAll K mp H ds vs → RpAll K mp H (ds.set i d) (vs.set i v)
  | _, _, _, .nil => .nil
  | _, _, 0, .cons _ t => .cons r t
  | _, _, i + 1, .cons q t => .cons q (RpAll.set r i t)
theorem RpAll.dropLast {ds : List D} {vs : List V} (h : RpAll K mp H ds vs) : RpAll K mp H ds.dropLast vs.dropLast := by
  rw [List.dropLast_eq_take, List.dropLast_eq_take, h.length]
  exact h.take _
theorem RpAll.one {d : D} {vs : List V} (h : RpAll K mp H [d] vs) : ∃ v, vs = [v] ∧ Rp K mp H d v := by
  cases h with
  | cons r t => cases t; exact ⟨_, rfl, r⟩
theorem RpAll.two {d e : D} {vs : List V} (h : RpAll K mp H [d, e] vs) : ∃ v w, vs = [v, w] ∧ Rp K mp H d v ∧ Rp K mp H e w := by
  cases h with
  | cons r t =>
    obtain ⟨w, rfl, q⟩ := t.one
    exact ⟨_, w, rfl, r, q⟩
end
/-! ### objects -/
/-- attributes by name -/
inductive RpF (K : PySem.W.Frag) (mp : Wd) (H : Hp) : List (Str × D) → List (Str × V) → Prop
  | nil : RpF K mp H [] []
  | cons {x : Str} {d : D} {v : V} {ds : List (Str × D)} {vs : List (Str × V)} : Rp K mp H d v → RpF K mp H ds vs → RpF K mp H ((x, d) :: ds) ((x, v) :: vs)
/-- no tuple -/
def NT (u : HO) : Prop := ∀ vs, u ≠ .tup vs
def ORel (K : PySem.W.Frag) (mp : Wd) (H : Hp) (o : O) (a : Addr) : Prop := match o with
  | .lst ds => ∃ vs, H a = some (.lst vs) ∧ RpAll K mp H ds vs
  | .dic kvs => (∃ (ks : List Key) (vs : List V), H a = some (.dK (ks.zip vs)) ∧ ks.length = vs.length ∧ kvs.map (·.1) = ks.map kD ∧ RpAll K mp H (kvs.map (·.2)) vs) ∨
      (∃ (ks : List (List Key)) (vs : List V), kvs ≠ [] ∧ H a = some (.dT (ks.zip vs)) ∧ ks.length = vs.length ∧ kvs.map (·.1) = ks.map (fun k => .tup (k.map kD)) ∧ RpAll K mp H (kvs.map (·.2)) vs)
  | .ins c fs => ∃ dx vs, H a = some (.ins (He.ga K c) dx vs) ∧ RpF K mp H fs vs
  | .hid => ∃ o, H a = some o ∧ NT o
structure HRel (K : PySem.W.Frag) (mp : Wd) (h : Hq) (H : Hp) : Prop where
  len : mp.pl.length = h.length
  nd : mp.pl.Nodup
  sub : ∀ a ∈ mp.pl, a ∈ mp.bn
  there : ∀ a ∈ mp.bn, ∃ u, H a = some u ∧ NT u
  obj : ∀ (l : Nat) (o : O) (a : Addr), h[l]? = some o → mp.pl[l]? = some a → ORel K mp H o a
section
variable {K : PySem.W.Frag} {mp mp' : Wd} {H H' : Hp} {h h' : Hq}
theorem RpF.monoK (le : Lk mp H mp' H') : ∀ {ds : List (Str × D)} {vs : List (Str × V)}, RpF K mp H ds vs → RpF K mp' H' ds vs
  | _, _, .nil => .nil
  | _, _, .cons h t => .cons (h.monoK le) (t.monoK le)
theorem RpF.lookup {x : Str} : ∀ {ds : List (Str × D)} {vs : List (Str × V)} {d : D}, RpF K mp H ds vs → ds.lookup x = some d → ∃ v, vs.lookup x = some v ∧ Rp K mp H d v
  | _, _, _, .nil, e => by simp at e
  | _, _, d, .cons (x := y) r t, e => by
    rw [List.lookup_cons] at e ⊢
    cases q : (x == y) with
    | true => simp only [q] at e ⊢; cases e; exact ⟨_, rfl, r⟩
    | false => simp only [q] at e ⊢; exact RpF.lookup t e
theorem RpF.lookup_none {x : Str} : ∀ {ds : List (Str × D)} {vs : List (Str × V)}, RpF K mp H ds vs → ds.lookup x = none → vs.lookup x = none
  | _, _, .nil, _ => rfl
  | _, _, .cons (x := y) r t, e => by
    rw [List.lookup_cons] at e ⊢
    cases q : (x == y) with
    | true => simp only [q] at e; cases e
    | false => simp only [q] at e ⊢; exact RpF.lookup_none t e
theorem RpF.length : ∀ {ds : List (Str × D)} {vs : List (Str × V)}, RpF K mp H ds vs → ds.length = vs.length
  | _, _, .nil => rfl
  | _, _, .cons _ t => by simp [RpF.length t]
/-- a field stored -/
def putD (f : Str) (v : D) : List (Str × D) → List (Str × D)
  | [] => [(f, v)]
  | (g, w) :: r => if g = f then (f, v) :: r else (g, w) :: putD f v r
theorem ORel.some {o : O} {a : Addr} (r : ORel K mp H o a) : ∃ u, H a = some u ∧ NT u := by
  cases o with
  | lst ds => obtain ⟨_, e, _⟩ := r; exact ⟨_, e, fun _ z => by cases z⟩
  | dic kvs =>
    rcases r with ⟨_, _, e, _⟩ | ⟨_, _, _, e, _⟩
    · exact ⟨_, e, fun _ z => by cases z⟩
    · exact ⟨_, e, fun _ z => by cases z⟩
  | ins c fs => obtain ⟨_, _, e, _⟩ := r; exact ⟨_, e, fun _ z => by cases z⟩
  | hid => exact r
theorem ORel.monoK {o : O} {a : Addr} (le : Lk mp H mp' H') (e : H' a = H a) (r : ORel K mp H o a) : ORel K mp' H' o a := by
  cases o with
  | lst ds => obtain ⟨vs, e1, q⟩ := r; exact ⟨vs, e.trans e1, q.monoK le⟩
  | dic kvs =>
    rcases r with ⟨ks, vs, e1, l, k, q⟩ | ⟨ks, vs, z, e1, l, k, q⟩
    · exact .inl ⟨ks, vs, e.trans e1, l, k, q.monoK le⟩
    · exact .inr ⟨ks, vs, z, e.trans e1, l, k, q.monoK le⟩
  | ins c fs => obtain ⟨dx, vs, e1, q⟩ := r; exact ⟨dx, vs, e.trans e1, q.monoK le⟩
  | hid => obtain ⟨o, e1, n⟩ := r; exact ⟨o, e.trans e1, n⟩
theorem ORel.mono {o : O} {a : Addr} (le : Le mp H mp' H') (e : H' a = H a) (r : ORel K mp H o a) : ORel K mp' H' o a := r.monoK le.k e
/-- an address of one's own is written -/
theorem lk_own {p : Addr} {o : HO} (hp : p ∈ mp.bn) : Lk mp H mp (upd H p o) := ⟨⟨[], by simp⟩, fun a u e n => ⟨by rw [upd_ne (show a ≠ p from fun z => n (by rw [z]; exact hp))]; exact e, n⟩⟩
theorem HRel.ownW (r : HRel K mp h H) {p : Addr} {o : HO} (hp : p ∈ mp.bn) (np : p ∉ mp.pl) (nt : NT o := by exact fun _ z => by cases z) : HRel K mp h (upd H p o) :=
  ⟨r.len, r.nd, r.sub, fun a ha => by
    by_cases z : a = p
    · subst z; exact ⟨_, upd_same, nt⟩
    · rw [upd_ne z]; exact r.there a ha, fun l u a h1 h2 => (r.obj l u a h1 h2).monoK (lk_own hp) (upd_ne fun z => np (z ▸ List.mem_of_getElem? h2))⟩
theorem HRel.at_ (r : HRel K mp h H) {l : Nat} {o : O} (e : h[l]? = some o) : ∃ a, mp.pl[l]? = some a ∧ ORel K mp H o a := by
  have hl : l < mp.pl.length := by rw [r.len]; exact (List.getElem?_eq_some_iff.mp e).1
  exact ⟨mp.pl[l], List.getElem?_eq_getElem hl, r.obj l o _ e (List.getElem?_eq_getElem hl)⟩
theorem HRel.fresh (r : HRel K mp h H) {p : Addr} (hp : H p = none) : p ∉ mp.bn := fun z => by
  obtain ⟨u, e, nu⟩ := r.there p z
  rw [hp] at e; cases e
theorem le_new (r : HRel K mp h H) {p : Addr} {o : HO} (hp : H p = none) : Le mp H mp (upd H p o) :=
  ⟨⟨[], by simp⟩, fun a u e n => ⟨by rw [upd_ne (ne_of_none e hp)]; exact e, n⟩, fun a ha n => ⟨upd_ne fun z => r.fresh hp (z ▸ ha), ha, n⟩⟩
theorem HRel.mono (le : Le mp H mp H') (e : ∀ a ∈ mp.bn, H' a = H a) (r : HRel K mp h H) : HRel K mp h H' :=
  ⟨r.len, r.nd, r.sub, fun a ha => by rw [e a ha]; exact r.there a ha, fun l o a h1 h2 => (r.obj l o a h1 h2).mono le (e a (r.sub a (List.mem_of_getElem? h2)))⟩
/-- a new thing that never changes -/
theorem HRel.new (r : HRel K mp h H) {p : Addr} {o : HO} (hp : H p = none) : HRel K mp h (upd H p o) :=
  r.mono (le_new r hp) fun a ha => upd_ne fun z => by subst z; obtain ⟨u, e, nu⟩ := r.there _ ha; rw [hp] at e; cases e
/-- a new place -/
theorem le_place (r : HRel K mp h H) {p : Addr} {o : HO} (hp : H p = none) : Le mp H (mp.add p) (upd H p o) :=
  ⟨⟨[p], rfl⟩, fun a u e n => ⟨by rw [upd_ne (ne_of_none e hp)]; exact e, by
    intro z
    rcases List.mem_cons.mp z with z | z
    · exact ne_of_none e hp z
    · exact n z⟩, fun a ha n => ⟨upd_ne fun z => r.fresh hp (z ▸ ha), List.mem_cons_of_mem _ ha, fun z => by
      rcases List.mem_append.mp z with z | z
      · exact n z
      · exact r.fresh hp (by have : a = p := by simpa using z
                             exact this ▸ ha)⟩⟩
theorem HRel.place (r : HRel K mp h H) {p : Addr} {o : HO} {ob : O} (hp : H p = none) (new : ORel K (mp.add p) (upd H p o) ob p) : HRel K (mp.add p) (h ++ [ob]) (upd H p o) := by
  refine ⟨by simp [Wd.add, r.len], List.nodup_append.mpr ⟨r.nd, by simp, fun a ha b hb z => ?_⟩, fun a ha => ?_, fun a ha => ?_, fun l u a h1 h2 => ?_⟩
  · have : b = p := by simpa using hb
    subst this; subst z
    exact r.fresh hp (r.sub _ ha)
  · rcases List.mem_append.mp ha with z | z
    · exact List.mem_cons_of_mem _ (r.sub a z)
    · have : a = p := by simpa using z
      subst this; exact List.mem_cons_self
  · rcases List.mem_cons.mp ha with z | z
    · subst z; exact new.some
    · obtain ⟨u, e, nu⟩ := r.there a z
      exact ⟨u, by rw [upd_ne (ne_of_none e hp)]; exact e, nu⟩
  · by_cases hl : l < h.length
    · rw [List.getElem?_append_left hl] at h1
      rw [show (mp.add p).pl = mp.pl ++ [p] from rfl, List.getElem?_append_left (by rw [r.len]; exact hl)] at h2
      exact (r.obj l u a h1 h2).mono (le_place r hp) (upd_ne fun z => by subst z; exact r.fresh hp (r.sub _ (List.mem_of_getElem? h2)))
    · rw [List.getElem?_append_right (by omega)] at h1
      rw [show (mp.add p).pl = mp.pl ++ [p] from rfl, List.getElem?_append_right (by rw [r.len]; omega)] at h2
      rw [r.len] at h2
      cases hn : l - h.length with
      | zero =>
        rw [hn] at h1 h2
        simp at h1 h2
        subst h1; subst h2
        exact new
      | succ n => rw [hn] at h1; simp at h1
/-- an address of one's own -/
theorem le_ban (r : HRel K mp h H) {p : Addr} {o : HO} (hp : H p = none) : Le mp H (mp.ban p) (upd H p o) :=
  ⟨⟨[], by simp [Wd.ban]⟩, fun a u e n => ⟨by rw [upd_ne (ne_of_none e hp)]; exact e, by
    intro z
    rcases List.mem_cons.mp z with z | z
    · exact ne_of_none e hp z
    · exact n z⟩, fun a ha n => ⟨upd_ne fun z => r.fresh hp (z ▸ ha), List.mem_cons_of_mem _ ha, n⟩⟩
theorem HRel.ban (r : HRel K mp h H) {p : Addr} {o : HO} (hp : H p = none) (nt : NT o := by exact fun _ z => by cases z) : HRel K (mp.ban p) h (upd H p o) := by
  refine ⟨r.len, r.nd, fun a ha => List.mem_cons_of_mem _ (r.sub a ha), fun a ha => ?_, fun l u a h1 h2 => ?_⟩
  · rcases List.mem_cons.mp ha with z | z
    · subst z; exact ⟨_, upd_same, nt⟩
    · obtain ⟨u, e, nu⟩ := r.there a z
      exact ⟨u, by rw [upd_ne (ne_of_none e hp)]; exact e, nu⟩
  · exact (r.obj l u a h1 h2).mono (le_ban r hp) (upd_ne fun z => by subst z; exact r.fresh hp (r.sub _ (List.mem_of_getElem? h2)))
/-- a place is changed -/
theorem le_set (r : HRel K mp h H) {l : Nat} {a : Addr} {o : HO} (ha : mp.pl[l]? = some a) : Le mp H mp (upd H a o) :=
  ⟨⟨[], by simp⟩, fun b u e n => ⟨by rw [upd_ne fun z => n (by rw [z]; exact r.sub _ (List.mem_of_getElem? ha))]; exact e, n⟩, fun b hb n => ⟨upd_ne fun z => n (by rw [z]; exact List.mem_of_getElem? ha), hb, n⟩⟩
theorem HRel.set (r : HRel K mp h H) {l : Nat} {a : Addr} {o : HO} {ob : O} (ha : mp.pl[l]? = some a) (new : ORel K mp (upd H a o) ob a) : HRel K mp (h.set l ob) (upd H a o) := by
  refine ⟨by simp [r.len], r.nd, r.sub, fun b hb => ?_, fun j u b h1 h2 => ?_⟩
  · by_cases z : b = a
    · subst z; exact new.some
    · rw [upd_ne z]; exact r.there b hb
  · by_cases hj : j = l
    · subst hj
      rw [ha] at h2; cases h2
      rw [List.getElem?_set_self (by rw [← r.len]; exact (List.getElem?_eq_some_iff.mp ha).1)] at h1
      cases h1
      exact new
    · rw [List.getElem?_set_ne (Ne.symm hj)] at h1
      refine (r.obj j u b h1 h2).mono (le_set r ha) (upd_ne fun z => ?_)
      subst z
      exact hj (by
        obtain ⟨q1, e1⟩ := List.getElem?_eq_some_iff.mp h2
        obtain ⟨q2, e2⟩ := List.getElem?_eq_some_iff.mp ha
        exact (List.getElem_inj r.nd).mp (e1.trans e2.symm))
end
/-! ### less is kept for oneself -/
def Wd.unban (m : Wd) (p : Addr) : Wd := ⟨m.pl, m.bn.filter (fun a => decide (a ≠ p))⟩
section
variable {K : PySem.W.Frag} {mp mp' : Wd} {H : Hp}
mutual
theorem Rp.less (e : mp'.pl = mp.pl) (l : ∀ a, a ∉ mp.bn → a ∉ mp'.bn) : ∀ {d : D} {v : V}, Rp K mp H d v → Rp K mp' H d v
  | _, _, .non => .non
  | _, _, .bl b => .bl b
  | _, _, .int i => .int i
  | _, _, .str x => .str x
  | _, _, .ty n => .ty n
  | _, _, .tup h n r => .tup h (l _ n) (r.less e l)
  | _, _, .lst h n r => .lst h (l _ n) (r.less e l)
  | _, _, .ktup h r => .ktup h (r.less e l)
  | _, _, .klst h r => .klst (h.imp (fun z => ⟨z.1, l _ z.2⟩) id) (r.less e l)
  | _, _, .dicK h k n q r => .dicK h k (l _ n) q (r.less e l)
  | _, _, .dicT z h k n q r => .dicT z h k (l _ n) q (r.less e l)
  | _, _, .ref h => .ref (by rw [e]; exact h)
theorem RpAll.less (e : mp'.pl = mp.pl) (l : ∀ a, a ∉ mp.bn → a ∉ mp'.bn) : ∀ {ds : List D} {vs : List V}, RpAll K mp H ds vs → RpAll K mp' H ds vs
  | _, _, .nil => .nil
  | _, _, .cons h t => .cons (h.less e l) (t.less e l)
end
theorem RpF.less (e : mp'.pl = mp.pl) (l : ∀ a, a ∉ mp.bn → a ∉ mp'.bn) : ∀ {ds : List (Str × D)} {vs : List (Str × V)}, RpF K mp H ds vs → RpF K mp' H ds vs
  | _, _, .nil => .nil
  | _, _, .cons h t => .cons (h.less e l) (t.less e l)
theorem ORel.less {o : O} {a : Addr} (e : mp'.pl = mp.pl) (l : ∀ a, a ∉ mp.bn → a ∉ mp'.bn) (r : ORel K mp H o a) : ORel K mp' H o a := by
  cases o with
  | lst ds => obtain ⟨vs, e1, q⟩ := r; exact ⟨vs, e1, q.less e l⟩
  | dic kvs =>
    rcases r with ⟨ks, vs, e1, c, k, q⟩ | ⟨ks, vs, z, e1, c, k, q⟩
    · exact .inl ⟨ks, vs, e1, c, k, q.less e l⟩
    · exact .inr ⟨ks, vs, z, e1, c, k, q.less e l⟩
  | ins c fs => obtain ⟨dx, vs, e1, q⟩ := r; exact ⟨dx, vs, e1, q.less e l⟩
  | hid => exact r
theorem unban_less (p : Addr) : ∀ a, a ∉ mp.bn → a ∉ (mp.unban p).bn := fun a n z => n (List.mem_filter.mp z).1
theorem HRel.unban {h : Hq} (r : HRel K mp h H) {p : Addr} (hp : p ∉ mp.pl) : HRel K (mp.unban p) h H :=
  ⟨r.len, r.nd, fun a ha => List.mem_filter.mpr ⟨r.sub a ha, by simpa using fun z : a = p => hp (z ▸ ha)⟩, fun a ha => r.there a (List.mem_filter.mp ha).1, fun l o a h1 h2 => ORel.less (mp := mp) (mp' := mp.unban p) rfl (unban_less p) (r.obj l o a h1 h2)⟩
end
/-! ### results -/
inductive Res (α : Type) where
  | ok (a : α) (h : Hq) | exc (c : Str) (h : Hq) | bad
def Res.bind {α β : Type} (r : Res α) (g : α → Hq → Res β) : Res β := match r with
  | .ok a h => g a h
  | .exc c h => .exc c h
  | .bad => .bad
def Res.of {α : Type} : Option (α × Hq) → Res α
  | some (a, h) => .ok a h
  | none => .bad
@[simp] theorem Res.bind_ok {α β : Type} (a : α) (h : Hq) (g : α → Hq → Res β) : (Res.ok a h).bind g = g a h := rfl
@[simp] theorem Res.bind_exc {α β : Type} (c : Str) (h : Hq) (g : α → Hq → Res β) : (Res.exc c h).bind g = .exc c h := rfl
@[simp] theorem Res.bind_bad {α β : Type} (g : α → Hq → Res β) : (Res.bad : Res α).bind g = .bad := rfl
@[simp] theorem Res.of_some {α : Type} (a : α) (h : Hq) : Res.of (some (a, h)) = .ok a h := rfl
@[simp] theorem Res.of_none {α : Type} : Res.of (none : Option (α × Hq)) = .bad := rfl
abbrev Ev (α : Type) := Env' → Hq → Res α
def Post {α β : Type} (K : PySem.W.Frag) (R : Wd → Hp → α → β → Prop) (mp : Wd) (H : Hp) (r : Res α) (Q : β → Hp → Prop) (E : Str → Hp → Prop) : Prop := match r with
  | .ok d h' => ∀ v mp' H', Le mp H mp' H' → HRel K mp' h' H' → R mp' H' d v → Q v H'
  | .exc c h' => ∀ mp' H', Le mp H mp' H' → HRel K mp' h' H' → E c H'
  | .bad => False
section
variable {K : PySem.W.Frag} {mp mp1 : Wd} {H H1 : Hp} {α β γ δ : Type} {R : Wd → Hp → α → β → Prop} {R' : Wd → Hp → γ → δ → Prop} {r : Res α} {Q Q' : β → Hp → Prop} {E : Str → Hp → Prop}
theorem Post.le (le : Le mp H mp1 H1) (p : Post K R mp H r Q E) : Post K R mp1 H1 r Q E := by
  cases r with
  | ok d h => exact fun v mp' H' l => p v mp' H' (le.trans l)
  | exc c h => exact fun mp' H' l => p mp' H' (le.trans l)
  | bad => exact p
theorem Post.mono (p : Post K R mp H r Q E) (h : ∀ v H', Q v H' → Q' v H') : Post K R mp H r Q' E := by
  cases r with
  | ok d h' => exact fun v mp' H' l a b => h _ _ (p v mp' H' l a b)
  | exc c h' => exact p
  | bad => exact p
/-- what is known behind a step -/
def Aft (K : PySem.W.Frag) (R : Wd → Hp → α → β → Prop) (R' : Wd → Hp → γ → δ → Prop) (mp : Wd) (H : Hp) (g : α → Hq → Res γ) (Q : δ → Hp → Prop) (E : Str → Hp → Prop) (v : β) (H1 : Hp) : Prop :=
  ∃ mp1 h1 d, Le mp H mp1 H1 ∧ HRel K mp1 h1 H1 ∧ R mp1 H1 d v ∧ Post K R' mp1 H1 (g d h1) Q E
theorem Post.bind {g : α → Hq → Res γ} {Q : δ → Hp → Prop} (p : Post K R' mp H (r.bind g) Q E) : Post K R mp H r (Aft K R R' mp H g Q E) E := by
  cases r with
  | ok d h => exact fun v mp' H' l a b => ⟨mp', h, d, l, a, b, Post.le l p⟩
  | exc c h => exact p
  | bad => exact p
theorem Post.ok {d : α} {h : Hq} {v : β} (p : Post K R mp H (.ok d h) Q E) (hr : HRel K mp h H) (b : R mp H d v) : Q v H := p v mp H .refl hr b
end
/-- of an operation that does not raise -/
def PostO {α β : Type} (K : PySem.W.Frag) (R : Wd → Hp → α → β → Prop) (mp : Wd) (H : Hp) (r : Option (α × Hq)) (Q : β → Hp → Prop) : Prop := match r with
  | some (d, h') => ∀ v mp' H', Le mp H mp' H' → HRel K mp' h' H' → R mp' H' d v → Q v H'
  | none => False
theorem Post.o {α β : Type} {K : PySem.W.Frag} {R : Wd → Hp → α → β → Prop} {mp : Wd} {H : Hp} {r : Option (α × Hq)} {Q : β → Hp → Prop} {E : Str → Hp → Prop} (p : Post K R mp H (.of r) Q E) : PostO K R mp H r Q := by
  cases r with
  | none => exact p
  | some q => exact p
/-! ### the frame's values -/
structure EnvRel (K : PySem.W.Frag) (mp : Wd) (H : Hp) (ρ : Env') (σ : L2.St) : Prop where
  len : ρ.length = σ.length
  val : ∀ (i : Nat) (d : D), ρ[i]? = some (some d) → ∃ v, σ[i]? = some (some v) ∧ Rp K mp H d v
section
variable {K : PySem.W.Frag} {mp mp' : Wd} {H H' : Hp} {ρ : Env'} {σ : L2.St}
theorem EnvRel.mono (le : Le mp H mp' H') (e : EnvRel K mp H ρ σ) : EnvRel K mp' H' ρ σ :=
  ⟨e.len, fun i d h => let ⟨v, a, b⟩ := e.val i d h; ⟨v, a, b.mono le⟩⟩
theorem EnvRel.set (e : EnvRel K mp H ρ σ) {i : Nat} {d : D} {v : V} (r : Rp K mp H d v) : EnvRel K mp H (ρ.set i (some d)) (σ.set i (some v)) := by
  refine ⟨by simp [e.len], fun j d' h => ?_⟩
  by_cases hj : j = i
  · subst hj
    rw [List.getElem?_set] at h
    rw [List.getElem?_set, ← e.len]
    simp only [if_true] at h ⊢
    split at h
    · rename_i q
      simp only [Option.some.injEq] at h
      subst h
      rw [if_pos q]
      exact ⟨v, rfl, r⟩
    · cases h
  · rw [List.getElem?_set_ne (Ne.symm hj)] at h ⊢
    exact e.val j d' h
def wipeD (ρ : Env') : List Nat → Env'
  | [] => ρ
  | v :: vs => (wipeD ρ vs).set v none
theorem EnvRel.none (e : EnvRel K mp H ρ σ) (i : Nat) : EnvRel K mp H (ρ.set i none) (σ.set i none) := by
  refine ⟨by simp [e.len], fun j d' h => ?_⟩
  by_cases hj : j = i
  · subst hj
    rw [List.getElem?_set] at h
    simp only [if_true] at h
    split at h <;> cases h
  · rw [List.getElem?_set_ne (Ne.symm hj)] at h ⊢
    exact e.val j d' h
theorem EnvRel.wipe (e : EnvRel K mp H ρ σ) : ∀ vs : List Nat, EnvRel K mp H (wipeD ρ vs) (wipe σ vs)
  | [] => e
  | v :: vs => (e.wipe vs).none v
end
/-! ### readings -/
abbrev rD (K : PySem.W.Frag) : Wd → Hp → D → V → Prop := fun mp H d v => Rp K mp H d v
abbrev rB : Wd → Hp → Bool → Bool → Prop := fun _ _ a b => a = b
abbrev rA (K : PySem.W.Frag) : Wd → Hp → List D → List V → Prop := fun mp H d v => RpAll K mp H d v
def wE (K : PySem.W.Frag) (W : WX) (σ : L2.St) : Str → Hp → Prop := fun c H' => W (.ref (He.ga K c)) none σ H'
def tE (K : PySem.W.Frag) (W : WX) (f : Ev D) : TE := fun σ H Q => ∃ ρ h mp, HRel K mp h H ∧ EnvRel K mp H ρ σ ∧ Post K (rD K) mp H (f ρ h) Q (wE K W σ)
def tT (K : PySem.W.Frag) (W : WX) (f : Ev Bool) : TT := fun σ H Q => ∃ ρ h mp, HRel K mp h H ∧ EnvRel K mp H ρ σ ∧ Post K rB mp H (f ρ h) Q (wE K W σ)
def tA (K : PySem.W.Frag) (W : WX) (f : Ev (List D)) : TA := fun σ H Q => ∃ ρ h mp, HRel K mp h H ∧ EnvRel K mp H ρ σ ∧ Post K (rA K) mp H (f ρ h) Q (wE K W σ)
abbrev SE (X : Cx) (W : WX) (e : Expr) (f : Ev D) : Prop := PE X e (tE X.K W f)
abbrev ST (X : Cx) (W : WX) (e : Expr) (f : Ev Bool) : Prop := PT X e (tT X.K W f)
abbrev SA (X : Cx) (W : WX) (es : List Expr) (f : Ev (List D)) : Prop := PA X es (tA X.K W f)
inductive SR where
  | nx (ρ : Env') (h : Hq) | rt (d : D) (h : Hq) | bk (ρ : Env') (h : Hq) | ct (ρ : Env') (h : Hq) | exc (c : Str) (ρ : Env') (h : Hq) | bad
abbrev Ex := Env' → Hq → SR
def PostS (K : PySem.W.Frag) (mp : Wd) (H : Hp) (r : SR) (D : Ends) (W : WX) : Prop := match r with
  | .nx ρ h => ∀ σ' mp' H', Le mp H mp' H' → HRel K mp' h H' → EnvRel K mp' H' ρ σ' → D.nx σ' H'
  | .bk ρ h => ∀ σ' mp' H', Le mp H mp' H' → HRel K mp' h H' → EnvRel K mp' H' ρ σ' → D.bk σ' H'
  | .ct ρ h => ∀ σ' mp' H', Le mp H mp' H' → HRel K mp' h H' → EnvRel K mp' H' ρ σ' → D.ct σ' H'
  | .rt d h => ∀ v mp' H', Le mp H mp' H' → HRel K mp' h H' → Rp K mp' H' d v → D.rt v H'
  | .exc c ρ h => ∀ σ' mp' H', Le mp H mp' H' → HRel K mp' h H' → EnvRel K mp' H' ρ σ' → W (.ref (He.ga K c)) none σ' H'
  | .bad => False
def tS (K : PySem.W.Frag) (W : WX) (f : Ex) : TS := fun D σ H => ∃ ρ h mp, HRel K mp h H ∧ EnvRel K mp H ρ σ ∧ PostS K mp H (f ρ h) D W
abbrev SS (X : Cx) (W : WX) (st : Stmt) (f : Ex) : Prop := PS X st (tS X.K W f)
abbrev SSs (X : Cx) (W : WX) (st : List Stmt) (f : Ex) : Prop := PSs X st (tS X.K W f)
theorem PostS.le {K : PySem.W.Frag} {mp mp1 : Wd} {H H1 : Hp} {r : SR} {D : Ends} {W : WX} (le : Le mp H mp1 H1) (p : PostS K mp H r D W) : PostS K mp1 H1 r D W := by
  cases r with
  | nx ρ h => exact fun σ mp' H' l => p σ mp' H' (le.trans l)
  | bk ρ h => exact fun σ mp' H' l => p σ mp' H' (le.trans l)
  | ct ρ h => exact fun σ mp' H' l => p σ mp' H' (le.trans l)
  | rt d h => exact fun σ mp' H' l => p σ mp' H' (le.trans l)
  | exc c ρ h => exact fun σ mp' H' l => p σ mp' H' (le.trans l)
  | bad => exact p
theorem PE.imp {X : Cx} {e : Expr} {t t' : TE} (h : PE X e t) (i : ∀ σ H Q, t' σ H Q → t σ H Q) : PE X e t' := ⟨fun pins s σ H Q I q => h.run pins s σ H Q I (i σ H Q q)⟩
theorem PT.imp {X : Cx} {e : Expr} {t t' : TT} (h : PT X e t) (i : ∀ σ H Q, t' σ H Q → t σ H Q) : PT X e t' := ⟨fun pins s σ H Q I q => h.run pins s σ H Q I (i σ H Q q)⟩
theorem PA.imp {X : Cx} {e : List Expr} {t t' : TA} (h : PA X e t) (i : ∀ σ H Q, t' σ H Q → t σ H Q) : PA X e t' := ⟨fun pos pins s σ H Q I q => h.run pos pins s σ H Q I (i σ H Q q)⟩
theorem PS.imp {X : Cx} {e : Stmt} {t t' : TS} (h : PS X e t) (i : ∀ D σ H, t' D σ H → t D σ H) : PS X e t' := ⟨fun pins s σ H D I q => h.run pins s σ H D I (i D σ H q)⟩
theorem PSs.imp {X : Cx} {e : List Stmt} {t t' : TS} (h : PSs X e t) (i : ∀ D σ H, t' D σ H → t D σ H) : PSs X e t' := ⟨fun pins s σ H D I q => h.run pins s σ H D I (i D σ H q)⟩
/-- lists and tuples that stand are not too long -/
def SzOk (K : PySem.W.Frag) (H : Hp) : Prop := ∀ a vs, (SqL K H a vs ∨ SqT K H a vs) → vs.length ≤ sizeLine
theorem sz_of {X : Cx} {pins : List (Addr × Obj)} {σ : L2.St} {H : Hp} {s : Shared} (I : Inv X pins σ H s) : SzOk X.K H := fun a vs h => by
  rcases h with h | h
  · obtain ⟨_, _, _, z⟩ := I.list h; exact z
  · obtain ⟨_, _, _, z⟩ := I.tuple h; exact z
theorem PE.post {X : Cx} {e : Expr} {t : TE} (h : PE X e t) : PE X e (fun σ H Q => t σ H fun v H' => SzOk X.K H' → Q v H') := ⟨fun pins s σ H Q I q =>
  thn (h.run pins s σ H _ I q) fun u s' ⟨v, H', I', r, z⟩ => ⟨v, H', I', r, z (sz_of I')⟩⟩
end Mi
namespace Mi
open PySem PySem.Spec L2
/-! ### values as plain data -/
mutual
def D.py : D → Option PyData
  | .non => some .none
  | .bl b => some (.bool b)
  | .int i => some (.int i)
  | .str x => some (.str x)
  | .tup xs => (D.pys xs).map .tuple
  | .lst xs => (D.pys xs).map .list
  | .ktup xs => (D.pys xs).map .tuple
  | .klst xs => (D.pys xs).map .list
  | _ => none
def D.pys : List D → Option (List PyData)
  | [] => some []
  | x :: xs => match D.py x, D.pys xs with
    | some a, some b => some (a :: b)
    | _, _ => none
end
/-- a list of the heap read as a list by value -/
def nz (h : Hq) (d : D) : D := match d with
  | .ref l => (match h[l]? with
    | some (.lst xs) => .lst xs
    | _ => d)
  | d => d
section
variable {K : PySem.W.Frag} {mp : Wd} {H : Hp} {h : Hq}
theorem sqT_none {a : Addr} {vs : List V} (h : SqT K (fun _ => none) a vs) : SqT K H a vs := by
  rcases h with (h | ⟨o, h⟩) | h
  · cases h
  · cases h
  · exact .inr h
mutual
theorem Rp.dp : ∀ {d : D} {v : V} {p : PyData}, Rp K mp H d v → d.py = some p → Dp K H v p
  | _, _, _, .non, e => by simp [D.py] at e; subst e; exact .non
  | _, _, _, .bl b, e => by simp [D.py] at e; subst e; exact .bl b
  | _, _, _, .int i, e => by simp [D.py] at e; subst e; exact .int i
  | _, _, _, .str x, e => by simp [D.py] at e; subst e; exact .str x
  | _, _, _, .ty n, e => by simp [D.py] at e
  | _, _, _, .tup a n r, e => by
    simp only [D.py, Option.map_eq_some_iff] at e
    obtain ⟨ps, e1, rfl⟩ := e
    exact .tup (SqT.of a) (r.dp e1)
  | _, _, _, .lst a n r, e => by
    simp only [D.py, Option.map_eq_some_iff] at e
    obtain ⟨ps, e1, rfl⟩ := e
    exact .lst (SqL.of a) (r.dp e1)
  | _, _, _, .ktup a r, e => by
    simp only [D.py, Option.map_eq_some_iff] at e
    obtain ⟨ps, e1, rfl⟩ := e
    exact .tup (sqT_none a) (r.dp e1)
  | _, _, _, .klst a r, e => by
    simp only [D.py, Option.map_eq_some_iff] at e
    obtain ⟨ps, e1, rfl⟩ := e
    exact .lst a.sq (r.dp e1)
  | _, _, _, .dicK .., e => by simp [D.py] at e
  | _, _, _, .dicT .., e => by simp [D.py] at e
  | _, _, _, .ref _, e => by simp [D.py] at e
theorem RpAll.dp : ∀ {ds : List D} {vs : List V} {ps : List PyData}, RpAll K mp H ds vs → D.pys ds = some ps → DpAll K H vs ps
  | _, _, _, .nil, e => by simp [D.pys] at e; subst e; exact .nil
  | _, _, _, .cons (d := d) (ds := ds) r t, e => by
    simp only [D.pys] at e
    cases q : D.py d with
    | none => rw [q] at e; cases e
    | some a =>
      cases q2 : D.pys ds with
      | none => rw [q, q2] at e; cases e
      | some b =>
        rw [q, q2] at e
        cases e
        exact .cons (r.dp q) (t.dp q2)
end
theorem Rp.nz (r : HRel K mp h H) {d : D} {v : V} {p : PyData} (a : Rp K mp H d v) (e : (Mi.nz h d).py = some p) : Dp K H v p := by
  unfold Mi.nz at e
  split at e
  · rename_i l
    split at e
    · rename_i xs q
      cases a with
      | ref m =>
        obtain ⟨vs, e1, e2⟩ := r.obj _ _ _ q m
        simp only [D.py, Option.map_eq_some_iff] at e
        obtain ⟨ps, e3, rfl⟩ := e
        exact .lst (SqL.of e1) (e2.dp e3)
    · simp [D.py] at e
  · exact a.dp e
mutual
theorem py_plain : ∀ {d : D} {p : PyData}, d.py = some p → p.plain = true
  | .non, _, e => by simp [D.py] at e; subst e; rfl
  | .bl _, _, e => by simp [D.py] at e; subst e; rfl
  | .int _, _, e => by simp [D.py] at e; subst e; rfl
  | .str _, _, e => by simp [D.py] at e; subst e; rfl
  | .tup xs, _, e => by
    simp only [D.py, Option.map_eq_some_iff] at e
    obtain ⟨ps, e1, rfl⟩ := e
    simp only [PyData.plain]; exact pys_plain e1
  | .lst xs, _, e => by
    simp only [D.py, Option.map_eq_some_iff] at e
    obtain ⟨ps, e1, rfl⟩ := e
    simp only [PyData.plain]; exact pys_plain e1
  | .ktup xs, _, e => by
    simp only [D.py, Option.map_eq_some_iff] at e
    obtain ⟨ps, e1, rfl⟩ := e
    simp only [PyData.plain]; exact pys_plain e1
  | .klst xs, _, e => by
    simp only [D.py, Option.map_eq_some_iff] at e
    obtain ⟨ps, e1, rfl⟩ := e
    simp only [PyData.plain]; exact pys_plain e1
  | .dic _, _, e => by simp [D.py] at e
  | .set _, _, e => by simp [D.py] at e
  | .ref _, _, e => by simp [D.py] at e
  | .ty _, _, e => by simp [D.py] at e
  | .exc _, _, e => by simp [D.py] at e
theorem pys_plain : ∀ {ds : List D} {ps : List PyData}, D.pys ds = some ps → PyData.plainAll ps = true
  | [], _, e => by simp [D.pys] at e; subst e; rfl
  | d :: ds, _, e => by
    simp only [D.pys] at e
    cases q : D.py d with
    | none => rw [q] at e; cases e
    | some a =>
      cases q2 : D.pys ds with
      | none => rw [q, q2] at e; cases e
      | some b =>
        rw [q, q2] at e
        cases e
        simp only [PyData.plainAll, py_plain q, pys_plain q2, Bool.and_self]
end
end
/-! ### what is read as a list, as a tuple -/
def asL (h : Hq) : D → Option (List D)
  | .lst xs => some xs
  | .ref l => (match h[l]? with
    | some (.lst xs) => some xs
    | _ => none)
  | _ => none
def asLk (h : Hq) : D → Option (List D)
  | .klst xs => some xs
  | d => asL h d
def asT : D → Option (List D)
  | .tup xs => some xs
  | .ktup xs => some xs
  | _ => none
section
variable {K : PySem.W.Frag} {mp : Wd} {H : Hp} {h : Hq} {d : D} {v : V} {xs : List D}
theorem asL_ok (r : HRel K mp h H) (a : Rp K mp H d v) (e : asL h d = some xs) : ∃ p vs, v = .ref p ∧ H p = some (.lst vs) ∧ RpAll K mp H xs vs := by
  unfold asL at e
  split at e
  · cases e
    cases a with
    | lst h1 h2 h3 => exact ⟨_, _, rfl, h1, h3⟩
  · split at e
    · rename_i q
      cases e
      cases a with
      | ref m =>
        obtain ⟨vs, e1, e2⟩ := r.obj _ _ _ q m
        exact ⟨_, _, rfl, e1, e2⟩
    · cases e
  · cases e
theorem asLk_ok (r : HRel K mp h H) (a : Rp K mp H d v) (e : asLk h d = some xs) : ∃ p vs, v = .ref p ∧ SqL K H p vs ∧ RpAll K mp H xs vs := by
  unfold asLk at e
  split at e
  · cases e
    cases a with
    | klst h1 h3 => exact ⟨_, _, rfl, h1.sq, h3⟩
  · obtain ⟨p, vs, e1, e2, e3⟩ := asL_ok r a e
    exact ⟨p, vs, e1, SqL.of e2, e3⟩
theorem asT_ok (a : Rp K mp H d v) (e : asT d = some xs) : ∃ p vs, v = .ref p ∧ SqT K H p vs ∧ RpAll K mp H xs vs := by
  unfold asT at e
  split at e
  · cases e
    cases a with
    | tup h1 h2 h3 => exact ⟨_, _, rfl, SqT.of h1, h3⟩
  · cases e
    cases a with
    | ktup h1 h3 => exact ⟨_, _, rfl, sqT_none h1, h3⟩
  · cases e
/-- a tuple just made -/
theorem newT (r : HRel K mp h H) {ds : List D} {vs : List V} {p : Addr} (hp : H p = none) (a : RpAll K mp H ds vs) : Le mp H mp (upd H p (.tup vs)) ∧ HRel K mp h (upd H p (.tup vs)) ∧ Rp K mp (upd H p (.tup vs)) (.tup ds) (.ref p) :=
  ⟨le_new r hp, r.new hp, .tup upd_same (r.fresh hp) (a.mono (le_new r hp))⟩
theorem newL (r : HRel K mp h H) {ds : List D} {vs : List V} {p : Addr} (hp : H p = none) (a : RpAll K mp H ds vs) : Le mp H mp (upd H p (.lst vs)) ∧ HRel K mp h (upd H p (.lst vs)) ∧ Rp K mp (upd H p (.lst vs)) (.lst ds) (.ref p) :=
  ⟨le_new r hp, r.new hp, .lst upd_same (r.fresh hp) (a.mono (le_new r hp))⟩
/-- a list just made, to be changed -/
theorem newLR (r : HRel K mp h H) {ds : List D} {vs : List V} {p : Addr} (hp : H p = none) (a : RpAll K mp H ds vs) : Le mp H (mp.add p) (upd H p (.lst vs)) ∧ HRel K (mp.add p) (h ++ [.lst ds]) (upd H p (.lst vs)) ∧ Rp K (mp.add p) (upd H p (.lst vs)) (.ref h.length) (.ref p) := by
  refine ⟨le_place r hp, r.place hp ⟨vs, upd_same, a.mono (le_place r hp)⟩, .ref ?_⟩
  rw [← r.len]
  simp [Wd.add]
end
/-! ### names and constants -/
def mVar (i : Nat) : Ev D := fun ρ h => match ρ[i]? with
  | some (some d) => .ok d h
  | _ => .bad
def mC (d : D) : Ev D := fun _ h => .ok d h
section
variable {X : Cx} {W : WX} {pos : Pos}
theorem se_var (i : Nat) {x : Str} (hN : X.N[i]? = some x := by rfl) (hv : Vis X.env.scope x := by first | exact Or.inl rfl | exact Or.inr (Or.inl rfl) | exact Or.inr (Or.inr rfl)) (hd : (x == ("__debug__" : Str)) = false := by decide)
    (hcd : (x == ("__classdict__" : Str)) = false := by decide) : SE X W (.Name x pos) (mVar i) := PE.imp (pe_var hN hv hd hcd) fun σ H Q ⟨ρ, h, mp, r, e, p⟩ => by
  unfold mVar at p
  split at p
  · rename_i d q
    obtain ⟨v, e1, e2⟩ := e.val i d q
    exact ⟨v, e1, p.ok r e2⟩
  · exact p.elim
theorem se_c {e : Expr} {d : D} {v : V} (h : PE X e (tC v)) (r : ∀ mp H, Rp X.K mp H d v) : SE X W e (mC d) := PE.imp h fun σ H Q ⟨ρ, h, mp, hr, e, p⟩ => Post.ok (v := v) p hr (r mp H)
theorem se_int {i : Int} {j : Nat} : SE X W (.Constant (.int i) j pos) (mC (.int i)) := se_c pe_int fun _ _ => .int i
theorem se_bl {i : Bool} {j : Nat} : SE X W (.Constant (.bool i) j pos) (mC (.bl i)) := se_c pe_bl fun _ _ => .bl i
theorem se_non {j : Nat} : SE X W (.Constant .none j pos) (mC .non) := se_c pe_non fun _ _ => .non
theorem se_str {x : Str} {j : Nat} : SE X W (.Constant (.str x) j pos) (mC (.str x)) := se_c pe_str fun _ _ => .str x
theorem se_gstr {x z : Str} (hm : ∃ t, X.mg x = some (.str z t)) (hg : Gl X x := by rfl) (hd : (x == ("__debug__" : Str)) = false := by decide) : SE X W (.Name x pos) (mC (.str z)) := by
  obtain ⟨t, hm⟩ := hm
  exact se_c (v := .str z) (pe_glob hg hm ⟨t, rfl⟩ hd) fun _ _ => .str z
theorem se_gint {x : Str} {z : Int} (hm : ∃ t, X.mg x = some (.int z t)) (hg : Gl X x := by rfl) (hd : (x == ("__debug__" : Str)) = false := by decide) : SE X W (.Name x pos) (mC (.int z)) := by
  obtain ⟨t, hm⟩ := hm
  exact se_c (v := .int z) (pe_glob hg hm ⟨t, rfl⟩ hd) fun _ _ => .int z
theorem se_bty {x : Str} {n : String} (hm : X.mg x = none) (hv : bootBuiltins x = some (.type n)) (hg : Gl X x := by rfl) (hn : x ≠ "__name__" := by decide) (hd : (x == ("__debug__" : Str)) = false := by decide) : SE X W (.Name x pos) (mC (.ty n)) :=
  se_c (v := .ty n) (pe_bltn hg hm hv rfl hn hd) fun _ _ => .ty n
/-- a tuple of texts of the module's own -/
theorem rp_strs {K : PySem.W.Frag} {mp : Wd} {H : Hp} : ∀ zs : List Str, RpAll K mp H (zs.map .str) (zs.map V.str)
  | [] => .nil
  | z :: zs => .cons (.str z) (rp_strs zs)
theorem se_gtup {x : Str} {zs : List Str} (hm : X.mg x = some (.ref (He.ga X.K x))) (hk : SqT X.K (fun _ => none) (He.ga X.K x) (zs.map V.str)) (hg : Gl X x := by rfl) (hd : (x == ("__debug__" : Str)) = false := by decide) : SE X W (.Name x pos) (mC (.ktup (zs.map .str))) :=
  se_c (v := .ref (He.ga X.K x)) (pe_glob hg hm rfl hd) fun _ _ => .ktup hk (rp_strs zs)
end
/-! ### operators -/
def O2 (X : Cx) (f : Value → Value → Sem Value) (g : D → D → Hq → Option (D × Hq)) : Prop :=
  OpR X f fun x y H Q => ∃ mp h dx dy, HRel X.K mp h H ∧ Rp X.K mp H dx x ∧ Rp X.K mp H dy y ∧ PostO X.K (rD X.K) mp H (g dx dy h) Q
def mBin (g : D → D → Hq → Option (D × Hq)) (fa fb : Ev D) : Ev D := fun ρ h => (fa ρ h).bind fun x h1 => (fb ρ h1).bind fun y h2 => .of (g x y h2)
section
variable {X : Cx} {W : WX} {pos : Pos} {a b : Expr} {fa fb : Ev D} {g : D → D → Hq → Option (D × Hq)}
theorem t_bin {σ : L2.St} {H : Hp} {Q : VK} (t : tE X.K W (mBin g fa fb) σ H Q) :
    tOp (fun x y H Q => ∃ mp h dx dy, HRel X.K mp h H ∧ Rp X.K mp H dx x ∧ Rp X.K mp H dy y ∧ PostO X.K (rD X.K) mp H (g dx dy h) Q) (tE X.K W fa) (tE X.K W fb) σ H Q := by
  obtain ⟨ρ, h, mp, r, e, p⟩ := t
  refine ⟨ρ, h, mp, r, e, Post.mono (Post.bind p) fun x H1 ⟨mp1, h1, d1, le1, r1, q1, p1⟩ => ?_⟩
  refine ⟨ρ, h1, mp1, r1, e.mono le1, Post.mono (Post.bind p1) fun y H2 ⟨mp2, h2, d2, le2, r2, q2, p2⟩ => ?_⟩
  exact ⟨mp2, h2, d1, d2, r2, q1.mono le2, q2, p2.o⟩
theorem se_bin {op : Operator} (ho : O2 X (binaryOp op) g) (ha : SE X W a fa) (hb : SE X W b fb) : SE X W (.BinOp a op b pos) (mBin g fa fb) :=
  PE.imp (pe_op ho ha hb) fun σ H Q t => t_bin t
theorem se_cmp {op : CmpOp} (ho : O2 X (compareOp op) g) (ha : SE X W a fa) (hb : SE X W b fb) (hm : behindInMarks op b = false) : SE X W (.Compare a [op] [b] pos) (mBin g fa fb) :=
  PE.imp (pe_cmpR ho ha hb hm) fun σ H Q t => t_bin t
/-- a value that is a truth -/
def mTru (f : Ev D) : Ev Bool := fun ρ h => (f ρ h).bind fun d h1 => match d with
  | .bl b => .ok b h1
  | _ => .bad
theorem t_tru {f : Ev D} {σ : L2.St} {H : Hp} {Q : Bool → Hp → Prop} (t : tT X.K W (mTru f) σ H Q) : tTest (tE X.K W f) σ H Q := by
  obtain ⟨ρ, h, mp, r, e, p⟩ := t
  refine ⟨ρ, h, mp, r, e, Post.mono (Post.bind p) fun x H1 ⟨mp1, h1, d1, le1, r1, q1, p1⟩ => ?_⟩
  cases d1 with
  | bl b => cases q1; exact ⟨b, rfl, Post.ok p1 r1 rfl⟩
  | _ => exact p1.elim
theorem st_cmp {op : CmpOp} (ho : O2 X (compareOp op) g) (ha : SE X W a fa) (hb : SE X W b fb) (hm : behindInMarks op b = false) : ST X W (.Compare a [op] [b] pos) (mTru (mBin g fa fb)) :=
  PT.imp (pt_cmpR ho ha hb hm) fun σ H Q t => by
    obtain ⟨ρ, h, mp, r, e, p⟩ := t_tru t
    exact t_bin ⟨ρ, h, mp, r, e, p⟩
theorem st_val {f : Ev D} (he : SE X W a f) (hp : ∀ whole, isTrue a X.env whole = (do let v ← whole; standAt a.pos; holding [v] (truthy v)) := by intro _; rfl) : ST X W a (mTru f) :=
  PT.imp (pt_val he hp) fun σ H Q t => t_tru t
end
/-- a < b < c -/
def mChain (g g' : D → D → Hq → Option (D × Hq)) (fa fb fc : Ev D) : Ev D := fun ρ h => (fa ρ h).bind fun x h1 => (fb ρ h1).bind fun y h2 => match g x y h2 with
  | some (.bl true, h3) => (fc ρ h3).bind fun z h4 => .of (g' y z h4)
  | some (.bl false, h3) => .ok (.bl false) h3
  | _ => .bad
section
variable {X : Cx} {W : WX} {pos : Pos} {a b c : Expr} {fa fb fc : Ev D} {g g' : D → D → Hq → Option (D × Hq)}
theorem t_chain {σ : L2.St} {H : Hp} {Q : VK} (t : tE X.K W (mChain g g' fa fb fc) σ H Q) :
    tChain (fun x y H Q => ∃ mp h dx dy, HRel X.K mp h H ∧ Rp X.K mp H dx x ∧ Rp X.K mp H dy y ∧ PostO X.K (rD X.K) mp H (g dx dy h) Q)
      (fun x y H Q => ∃ mp h dx dy, HRel X.K mp h H ∧ Rp X.K mp H dx x ∧ Rp X.K mp H dy y ∧ PostO X.K (rD X.K) mp H (g' dx dy h) Q) (tE X.K W fa) (tE X.K W fb) (tE X.K W fc) σ H Q := by
  obtain ⟨ρ, h, mp, r, e, p⟩ := t
  refine ⟨ρ, h, mp, r, e, Post.mono (Post.bind p) fun x H1 ⟨mp1, h1, d1, le1, r1, q1, p1⟩ => ?_⟩
  refine ⟨ρ, h1, mp1, r1, e.mono le1, Post.mono (Post.bind p1) fun y H2 ⟨mp2, h2, d2, le2, r2, q2, p2⟩ => ?_⟩
  refine ⟨mp2, h2, d1, d2, r2, q1.mono le2, q2, ?_⟩
  cases eg : g d1 d2 h2 with
  | none => simp only [eg] at p2; exact p2.elim
  | some w =>
    obtain ⟨dw, h3⟩ := w
    cases dw with
    | bl k =>
      intro v mp3 H3 le3 r3 q3
      cases q3
      refine ⟨k, rfl, ?_⟩
      cases k with
      | true =>
        simp only [eg] at p2
        rw [if_pos rfl]
        refine ⟨ρ, h3, mp3, r3, (e.mono le1).mono (le2.trans le3), Post.mono (Post.bind (p2.le le3)) fun z H4 ⟨mp4, h4, d4, le4, r4, q4, p4⟩ => ?_⟩
        exact ⟨mp4, h4, d2, d4, r4, q2.mono (le3.trans le4), q4, p4.o⟩
      | false =>
        simp only [eg] at p2
        rw [if_neg (by decide)]
        exact Post.ok (p2.le le3) r3 (.bl false)
    | _ => simp only [eg] at p2; exact p2.elim
theorem se_chain {op op' : CmpOp} (ho : O2 X (compareOp op) g) (ho' : O2 X (compareOp op') g') (ha : SE X W a fa) (hb : SE X W b fb) (hc : SE X W c fc) (hm : lastMarks [op, op'] [b, c] = false) :
    SE X W (.Compare a [op, op'] [b, c] pos) (mChain g g' fa fb fc) := PE.imp (pe_chain ho ho' ha hb hc hm) fun σ H Q t => t_chain t
theorem st_chain {op op' : CmpOp} (ho : O2 X (compareOp op) g) (ho' : O2 X (compareOp op') g') (ha : SE X W a fa) (hb : SE X W b fb) (hc : SE X W c fc) (hm : lastMarks [op, op'] [b, c] = false) :
    ST X W (.Compare a [op, op'] [b, c] pos) (mTru (mChain g g' fa fb fc)) := PT.imp (pt_chain ho ho' ha hb hc hm) fun σ H Q t => by
  obtain ⟨ρ, h, mp, r, e, p⟩ := t_tru t
  exact t_chain ⟨ρ, h, mp, r, e, p⟩
end
end Mi
namespace Mi
open PySem PySem.Spec L2
/-! ### the operators -/
def okI (i : Int) : Prop := -(2 ^ 64) < i ∧ i < 2 ^ 64
instance (i : Int) : Decidable (okI i) := by unfold okI; infer_instance
def gAdd (x y : D) (h : Hq) : Option (D × Hq) := match x, y with
  | .int i, .int j => some (.int (i + j), h)
  | .str i, .str j => if i.length + j.length ≤ sizeLine then some (.str (i ++ j), h) else none
  | .tup i, .tup j => if i.length + j.length ≤ sizeLine then some (.tup (i ++ j), h) else none
  | x, y => match asL h x, asL h y with
    | some i, some j => if i.length + j.length ≤ sizeLine then some (.lst (i ++ j), h) else none
    | _, _ => none
def gSub (x y : D) (h : Hq) : Option (D × Hq) := match x, y with
  | .int i, .int j => some (.int (i - j), h)
  | _, _ => none
def gMul (x y : D) (h : Hq) : Option (D × Hq) := match x, y with
  | .int i, .int j => if okI i ∨ okI j then some (.int (i * j), h) else none
  | _, _ => none
def gMod (x y : D) (h : Hq) : Option (D × Hq) := match x, y with
  | .int i, .int j => if 0 < j then some (.int (i % j), h) else none
  | _, _ => none
def gDiv (x y : D) (h : Hq) : Option (D × Hq) := match x, y with
  | .int i, .int j => if 0 < j ∧ j < 1073741824 then some (.int (i / j), h) else none
  | _, _ => none
/-- == of data -/
def eqH (h : Hq) (x y : D) : Option Bool := match (nz h x).py, (nz h y).py with
  | some a, some b => if min a.depth b.depth ≤ 64 then some (PyData.eqv a b) else none
  | _, _ => none
def gEq (x y : D) (h : Hq) : Option (D × Hq) := (eqH h x y).map fun b => (.bl b, h)
def gNe (x y : D) (h : Hq) : Option (D × Hq) := (eqH h x y).map fun b => (.bl (!b), h)
def gLt (x y : D) (h : Hq) : Option (D × Hq) := match x, y with
  | .int i, .int j => some (.bl (decide (i < j)), h)
  | .str i, .str j => some (.bl (decide (i.cps.toList < j.cps.toList)), h)
  | x, y => match (nz h x).py, (nz h y).py with
    | some a, some b => if PySem.W.alike a b = true ∧ a.depth ≤ 64 ∧ 0 < a.depth then some (.bl (PySem.W.dataLt a b), h) else none
    | _, _ => none
def gLe (x y : D) (h : Hq) : Option (D × Hq) := match x, y with
  | .int i, .int j => some (.bl (decide (i ≤ j)), h)
  | .str i, .str j => some (.bl (!decide (j.cps.toList < i.cps.toList)), h)
  | _, _ => none
def gGt (x y : D) (h : Hq) : Option (D × Hq) := match x, y with
  | .int i, .int j => some (.bl (decide (j < i)), h)
  | .str i, .str j => some (.bl (decide (j.cps.toList < i.cps.toList)), h)
  | _, _ => none
def gGe (x y : D) (h : Hq) : Option (D × Hq) := match x, y with
  | .int i, .int j => some (.bl (decide (j ≤ i)), h)
  | .str i, .str j => some (.bl (!decide (i.cps.toList < j.cps.toList)), h)
  | _, _ => none
def isNon : D → Bool
  | .non => true
  | _ => false
def gIs (x y : D) (h : Hq) : Option (D × Hq) := match y with
  | .non => some (.bl (isNon x), h)
  | _ => none
def gIsNot (x y : D) (h : Hq) : Option (D × Hq) := match y with
  | .non => some (.bl (!isNon x), h)
  | _ => none
/-- the pairs of a dict -/
def asD (h : Hq) : D → Option (List (D × D))
  | .dic kvs => some kvs
  | .ref l => (match h[l]? with
    | some (.dic kvs) => some kvs
    | _ => none)
  | _ => none
/-- a key: an int, a text, or a tuple of these -/
def isK : D → Option Key
  | .int i => some (.inl i)
  | .str x => some (.inr x)
  | _ => none
def isKs : List D → Option (List Key)
  | [] => some []
  | d :: ds => match isK d, isKs ds with
    | some a, some b => some (a :: b)
    | _, _ => none
def keyEq : D → D → Bool
  | .int i, .int j => decide (i = j)
  | .str i, .str j => decide (i = j)
  | .tup xs, .tup ys => (match isKs xs, isKs ys with
    | some a, some b => decide (a = b)
    | _, _ => false)
  | _, _ => false
def getD (kvs : List (D × D)) (k : D) : Option D := (kvs.find? fun p => keyEq p.1 k).map (·.2)
/-- which keys a dict takes: 1 ints and texts, 2 tuples -/
def keyKind : D → Nat
  | .int _ => 1
  | .str _ => 1
  | .tup xs => if (isKs xs).isSome then 2 else 0
  | _ => 0
def kindsOk (kvs : List (D × D)) (k : D) : Bool := keyKind k != 0 && kvs.all fun p => keyKind p.1 == keyKind k
def inH (h : Hq) (x y : D) : Option Bool := match y with
  | .str z => (match x with
    | .str w => (match w.cps.toList with
      | [c] => some (decide (c ∈ z.cps.toList))
      | _ => none)
    | _ => none)
  | y => match asD h y with
    | some kvs => if kindsOk kvs x = true then some (getD kvs x).isSome else none
    | none => match (nz h x).py, (nz h y).py with
      | some d, some (.list ds) => if min (PyData.depthAll ds) d.depth ≤ 64 then some (ds.any fun z => PyData.eqv z d) else none
      | some d, some (.tuple ds) => if min (PyData.depthAll ds) d.depth ≤ 64 then some (ds.any fun z => PyData.eqv z d) else none
      | _, _ => none
def gIn (x y : D) (h : Hq) : Option (D × Hq) := (inH h x y).map fun b => (.bl b, h)
def gNotIn (x y : D) (h : Hq) : Option (D × Hq) := (inH h x y).map fun b => (.bl (!b), h)
section
variable {X : Cx}
theorem o2_add : O2 X (binaryOp .Add) gAdd := by
  intro pins s σ H x y v u Q I rx ry ⟨mp, h, dx, dy, r, ax, ay, p⟩
  unfold gAdd at p
  split at p
  · cases ax; cases ay
    exact op_add pins s σ H _ _ v u Q I rx ry ⟨_, _, rfl, rfl, p _ mp H .refl r (.int _)⟩
  · split at p
    · rename_i hz
      cases ax; cases ay
      exact op_add_str pins s σ H _ _ v u Q I rx ry ⟨_, _, rfl, rfl, hz, p _ mp H .refl r (.str _)⟩
    · exact p.elim
  · split at p
    · rename_i i j hz
      cases ax with
      | @tup a vs _ h1 n1 q1 =>
        cases ay with
        | @tup b ws _ h2 n2 q2 =>
          refine op_catA pins s σ H _ _ v u Q I rx ry ⟨a, b, vs, ws, rfl, rfl, SqT.of h1, SqT.of h2, by rw [← q1.length, ← q2.length]; exact hz, fun e => ?_, fun _ e => ?_, fun _ _ p' hp => ?_⟩
          · subst e
            cases q1
            exact p _ mp H .refl r (.tup h2 n2 q2)
          · subst e
            cases q2
            exact p _ mp H .refl r (by rw [List.append_nil]; exact .tup h1 n1 q1)
          · obtain ⟨l1, l2, l3⟩ := newT r hp (q1.append q2)
            exact p _ mp _ l1 l2 l3
    · exact p.elim
  · split at p
    · rename_i i j e1 e2
      split at p
      · rename_i hz
        obtain ⟨pa, vs, rfl, h1, q1⟩ := asL_ok r ax e1
        obtain ⟨pb, ws, rfl, h2, q2⟩ := asL_ok r ay e2
        refine op_cat pins s σ H _ _ v u Q I rx ry ⟨pa, pb, vs, ws, rfl, rfl, h1, h2, by rw [← q1.length, ← q2.length]; exact hz, fun p' hp => ?_⟩
        obtain ⟨l1, l2, l3⟩ := newL r hp (q1.append q2)
        exact p _ mp _ l1 l2 l3
      · exact p.elim
    · exact p.elim
theorem o2_sub : O2 X (binaryOp .Sub) gSub := by
  intro pins s σ H x y v u Q I rx ry ⟨mp, h, dx, dy, r, ax, ay, p⟩
  unfold gSub at p
  split at p
  · cases ax; cases ay
    exact op_sub pins s σ H _ _ v u Q I rx ry ⟨_, _, rfl, rfl, p _ mp H .refl r (.int _)⟩
  · exact p.elim
theorem o2_mul : O2 X (binaryOp .Mult) gMul := by
  intro pins s σ H x y v u Q I rx ry ⟨mp, h, dx, dy, r, ax, ay, p⟩
  unfold gMul at p
  split at p
  · split at p
    · rename_i hz
      cases ax; cases ay
      exact op_mul pins s σ H _ _ v u Q I rx ry ⟨_, _, rfl, rfl, hz, p _ mp H .refl r (.int _)⟩
    · exact p.elim
  · exact p.elim
theorem o2_mod : O2 X (binaryOp .Mod) gMod := by
  intro pins s σ H x y v u Q I rx ry ⟨mp, h, dx, dy, r, ax, ay, p⟩
  unfold gMod at p
  split at p
  · split at p
    · rename_i hz
      cases ax; cases ay
      exact op_mod pins s σ H _ _ v u Q I rx ry ⟨_, _, rfl, rfl, hz, p _ mp H .refl r (.int _)⟩
    · exact p.elim
  · exact p.elim
theorem o2_div : O2 X (binaryOp .FloorDiv) gDiv := by
  intro pins s σ H x y v u Q I rx ry ⟨mp, h, dx, dy, r, ax, ay, p⟩
  unfold gDiv at p
  split at p
  · split at p
    · rename_i hz
      cases ax; cases ay
      exact op_fdiv pins s σ H _ _ v u Q I rx ry ⟨_, _, rfl, rfl, hz, p _ mp H .refl r (.int _)⟩
    · exact p.elim
  · exact p.elim
theorem o2_eq (hu : X.A.units + 64 < cLine) : O2 X (compareOp .Eq) gEq := by
  intro pins s σ H x y v u Q I rx ry ⟨mp, h, dx, dy, r, ax, ay, p⟩
  unfold gEq eqH at p
  split at p
  · rename_i a b e1 e2
    split at p
    · rename_i hz
      obtain ⟨as, r1⟩ := Dp.reads I _ _ _ (ax.nz r e1) rx
      obtain ⟨bs, r2⟩ := Dp.reads I _ _ _ (ay.nz r e2) ry
      exact PySem.SeqAt.eq_plain r1 r2 (py_plain e1) (py_plain e2) (by omega) ⟨.bl _, H, I, rfl, p _ mp H .refl r (.bl _)⟩
    · exact p.elim
  · exact p.elim
theorem o2_ne (hu : X.A.units + 64 < cLine) : O2 X (compareOp .NotEq) gNe := by
  intro pins s σ H x y v u Q I rx ry ⟨mp, h, dx, dy, r, ax, ay, p⟩
  unfold gNe eqH at p
  split at p
  · rename_i a b e1 e2
    split at p
    · rename_i hz
      obtain ⟨as, r1⟩ := Dp.reads I _ _ _ (ax.nz r e1) rx
      obtain ⟨bs, r2⟩ := Dp.reads I _ _ _ (ay.nz r e2) ry
      exact PySem.SeqAt.ne_plain r1 r2 (py_plain e1) (py_plain e2) (by omega) ⟨.bl _, H, I, rfl, p _ mp H .refl r (.bl _)⟩
    · exact p.elim
  · exact p.elim
theorem o2_lt (hu : X.A.units + 64 < cLine) : O2 X (compareOp .Lt) gLt := by
  intro pins s σ H x y v u Q I rx ry ⟨mp, h, dx, dy, r, ax, ay, p⟩
  unfold gLt at p
  split at p
  · cases ax; cases ay
    exact op_lt pins s σ H _ _ v u Q I rx ry ⟨_, _, rfl, rfl, p _ mp H .refl r (.bl _)⟩
  · cases ax; cases ay
    exact op_lt_str pins s σ H _ _ v u Q I rx ry ⟨_, _, rfl, rfl, p _ mp H .refl r (.bl _)⟩
  · split at p
    · rename_i a b e1 e2
      split at p
      · rename_i hz
        obtain ⟨as, r1⟩ := Dp.reads I _ _ _ (ax.nz r e1) rx
        obtain ⟨bs, r2⟩ := Dp.reads I _ _ _ (ay.nz r e2) ry
        exact PySem.W.lt_data r1 r2 hz.1 (fun z => by rw [z] at hz; simp [PyData.depth] at hz) (by omega) ⟨.bl _, H, I, rfl, p _ mp H .refl r (.bl _)⟩
      · exact p.elim
    · exact p.elim
theorem o2_le : O2 X (compareOp .LtE) gLe := by
  intro pins s σ H x y v u Q I rx ry ⟨mp, h, dx, dy, r, ax, ay, p⟩
  unfold gLe at p
  split at p
  · cases ax; cases ay
    exact op_le pins s σ H _ _ v u Q I rx ry ⟨_, _, rfl, rfl, p _ mp H .refl r (.bl _)⟩
  · cases ax; cases ay
    exact op_le_str pins s σ H _ _ v u Q I rx ry ⟨_, _, rfl, rfl, p _ mp H .refl r (.bl _)⟩
  · exact p.elim
theorem o2_gt : O2 X (compareOp .Gt) gGt := by
  intro pins s σ H x y v u Q I rx ry ⟨mp, h, dx, dy, r, ax, ay, p⟩
  unfold gGt at p
  split at p
  · cases ax; cases ay
    exact op_gt pins s σ H _ _ v u Q I rx ry ⟨_, _, rfl, rfl, p _ mp H .refl r (.bl _)⟩
  · cases ax; cases ay
    exact op_gt_str pins s σ H _ _ v u Q I rx ry ⟨_, _, rfl, rfl, p _ mp H .refl r (.bl _)⟩
  · exact p.elim
theorem o2_ge : O2 X (compareOp .GtE) gGe := by
  intro pins s σ H x y v u Q I rx ry ⟨mp, h, dx, dy, r, ax, ay, p⟩
  unfold gGe at p
  split at p
  · cases ax; cases ay
    exact op_ge pins s σ H _ _ v u Q I rx ry ⟨_, _, rfl, rfl, p _ mp H .refl r (.bl _)⟩
  · cases ax; cases ay
    exact op_ge_str pins s σ H _ _ v u Q I rx ry ⟨_, _, rfl, rfl, p _ mp H .refl r (.bl _)⟩
  · exact p.elim
theorem rp_none {K : PySem.W.Frag} {mp : Wd} {H : Hp} {d : D} {v : V} (a : Rp K mp H d v) : decide (v = .non) = isNon d := by
  cases a <;> simp [isNon]
theorem o2_is : O2 X (compareOp .Is) gIs := by
  intro pins s σ H x y v u Q I rx ry ⟨mp, h, dx, dy, r, ax, ay, p⟩
  unfold gIs at p
  split at p
  · cases ay
    refine op_isN pins s σ H _ _ v u Q I rx ry ⟨rfl, ?_⟩
    rw [rp_none ax]
    exact p _ mp H .refl r (.bl _)
  · exact p.elim
theorem o2_isnot : O2 X (compareOp .IsNot) gIsNot := by
  intro pins s σ H x y v u Q I rx ry ⟨mp, h, dx, dy, r, ax, ay, p⟩
  unfold gIsNot at p
  split at p
  · cases ay
    refine op_notN pins s σ H _ _ v u Q I rx ry ⟨rfl, ?_⟩
    rw [rp_none ax]
    exact p _ mp H .refl r (.bl _)
  · exact p.elim
end
end Mi
namespace Mi
open PySem PySem.Spec L2
/-! ### dicts -/
def kT (k : List Key) : D := .tup (k.map kD)
theorem isK_kD (k : Key) : isK (kD k) = some k := by cases k <;> rfl
theorem isK_eq {d : D} {k : Key} (h : isK d = some k) : d = kD k := by
  cases d <;> simp [isK] at h <;> subst h <;> rfl
theorem isKs_kD : ∀ k : List Key, isKs (k.map kD) = some k
  | [] => rfl
  | a :: r => by simp [isKs, isK_kD, isKs_kD r]
theorem isKs_eq : ∀ {ds : List D} {k : List Key}, isKs ds = some k → ds = k.map kD
  | [], _, h => by simp [isKs] at h; subst h; rfl
  | d :: ds, _, h => by
    simp only [isKs] at h
    cases q : isK d with
    | none => rw [q] at h; cases h
    | some a =>
      cases q2 : isKs ds with
      | none => rw [q, q2] at h; cases h
      | some b =>
        rw [q, q2] at h
        cases h
        rw [isK_eq q, isKs_eq q2]; rfl
theorem keyEq_k (a b : Key) : keyEq (kD a) (kD b) = decide (a = b) := by
  cases a <;> cases b <;> simp [kD, keyEq]
theorem keyEq_t (a b : List Key) : keyEq (kT a) (kT b) = decide (a = b) := by
  simp only [kT, keyEq, isKs_kD]
theorem keyKind_k (a : Key) : keyKind (kD a) = 1 := by cases a <;> rfl
theorem keyKind_t (a : List Key) : keyKind (kT a) = 2 := by simp [kT, keyKind, isKs_kD]
/-- a key is one of two kinds -/
theorem key_cases {d : D} (h : keyKind d ≠ 0) : (∃ k, d = kD k ∧ keyKind d = 1) ∨ ∃ k, d = kT k ∧ keyKind d = 2 := by
  cases d with
  | int i => exact .inl ⟨.inl i, rfl, rfl⟩
  | str x => exact .inl ⟨.inr x, rfl, rfl⟩
  | tup xs =>
    simp only [keyKind] at h ⊢
    cases q : isKs xs with
    | none => simp [q] at h
    | some k => exact .inr ⟨k, by rw [isKs_eq q]; rfl, by simp [q]⟩
  | _ => simp [keyKind] at h
section
variable {K : PySem.W.Frag} {mp : Wd} {H : Hp} {h : Hq}
theorem getD_k (k : Key) : ∀ {kvs : List (D × D)} {ks : List Key} {vs : List V}, ks.length = vs.length → kvs.map (·.1) = ks.map kD → RpAll K mp H (kvs.map (·.2)) vs →
    (getD kvs (kD k) = none ∧ valV (ks.zip vs) k = none) ∨ ∃ d v, getD kvs (kD k) = some d ∧ valV (ks.zip vs) k = some v ∧ Rp K mp H d v
  | [], [], _, _, _, _ => .inl ⟨rfl, rfl⟩
  | [], _ :: _, _, _, e, _ => by simp at e
  | _ :: _, [], _, _, e, _ => by simp at e
  | (k1, d1) :: kvs, k2 :: ks, vs, l, e, r => by
    cases vs with
    | nil => simp at l
    | cons v1 vs =>
      simp only [List.map_cons, List.cons.injEq] at e
      obtain ⟨e1, e2⟩ := e
      subst e1
      cases r with
      | cons q t =>
        by_cases hk : k2 = k
        · subst hk
          refine .inr ⟨d1, v1, ?_, ?_, q⟩
          · simp [getD, List.find?_cons, keyEq_k]
          · exact valV_pos (p := (k2, v1)) rfl
        · have h1 : getD ((kD k2, d1) :: kvs) (kD k) = getD kvs (kD k) := by simp [getD, List.find?_cons, keyEq_k, hk]
          have h2 : valV ((k2 :: ks).zip (v1 :: vs)) k = valV (ks.zip vs) k := valV_neg (p := (k2, v1)) hk
          rw [h1, h2]
          exact getD_k k (by simpa using l) e2 t
theorem getD_t (k : List Key) : ∀ {kvs : List (D × D)} {ks : List (List Key)} {vs : List V}, ks.length = vs.length → kvs.map (·.1) = ks.map (fun k => .tup (k.map kD)) → RpAll K mp H (kvs.map (·.2)) vs →
    (getD kvs (kT k) = none ∧ valV (ks.zip vs) k = none) ∨ ∃ d v, getD kvs (kT k) = some d ∧ valV (ks.zip vs) k = some v ∧ Rp K mp H d v
  | [], [], _, _, _, _ => .inl ⟨rfl, rfl⟩
  | [], _ :: _, _, _, e, _ => by simp at e
  | _ :: _, [], _, _, e, _ => by simp at e
  | (k1, d1) :: kvs, k2 :: ks, vs, l, e, r => by
    cases vs with
    | nil => simp at l
    | cons v1 vs =>
      simp only [List.map_cons, List.cons.injEq] at e
      obtain ⟨e1, e2⟩ := e
      have e1 : k1 = kT k2 := e1
      subst e1
      cases r with
      | cons q t =>
        by_cases hk : k2 = k
        · subst hk
          refine .inr ⟨d1, v1, ?_, ?_, q⟩
          · simp [getD, List.find?_cons, keyEq_t]
          · exact valV_pos (p := (k2, v1)) rfl
        · have h1 : getD ((kT k2, d1) :: kvs) (kT k) = getD kvs (kT k) := by simp [getD, List.find?_cons, keyEq_t, hk]
          have h2 : valV ((k2 :: ks).zip (v1 :: vs)) k = valV (ks.zip vs) k := valV_neg (p := (k2, v1)) hk
          rw [h1, h2]
          exact getD_t k (by simpa using l) e2 t
/-- how a dict lies in the heap -/
def DicAt (K : PySem.W.Frag) (mp : Wd) (H : Hp) (kvs : List (D × D)) (a : Addr) : Prop :=
  (∃ (ks : List Key) (vs : List V), H a = some (.dK (ks.zip vs)) ∧ ks.length = vs.length ∧ kvs.map (·.1) = ks.map kD ∧ RpAll K mp H (kvs.map (·.2)) vs) ∨
  (∃ (ks : List (List Key)) (vs : List V), kvs ≠ [] ∧ H a = some (.dT (ks.zip vs)) ∧ ks.length = vs.length ∧ kvs.map (·.1) = ks.map (fun k => .tup (k.map kD)) ∧ RpAll K mp H (kvs.map (·.2)) vs)
theorem asD_ok (r : HRel K mp h H) {d : D} {v : V} {kvs : List (D × D)} (a : Rp K mp H d v) (e : asD h d = some kvs) : ∃ p, v = .ref p ∧ DicAt K mp H kvs p := by
  unfold asD at e
  split at e
  · cases e
    cases a with
    | dicK h1 h2 h3 h4 h5 => exact ⟨_, rfl, .inl ⟨_, _, h1, h2, h4, h5⟩⟩
    | dicT z h1 h2 h3 h4 h5 => exact ⟨_, rfl, .inr ⟨_, _, z, h1, h2, h4, h5⟩⟩
  · split at e
    · rename_i q
      cases e
      cases a with
      | ref m => exact ⟨_, rfl, r.obj _ _ _ q m⟩
    · cases e
  · cases e
theorem rp_key {k : Key} {v : V} (a : Rp K mp H (kD k) v) : v = kV k := by
  cases k <;> cases a <;> rfl
theorem rp_keys : ∀ {k : List Key} {vs : List V}, RpAll K mp H (k.map kD) vs → vs = k.map kV
  | [], _, a => by cases a; rfl
  | k :: ks, _, a => by
    cases a with
    | cons h t => rw [rp_key h, rp_keys t]; rfl
theorem rp_tkey {k : List Key} {v : V} (a : Rp K mp H (kT k) v) : ∃ b, v = .ref b ∧ H b = some (.tup (k.map kV)) ∧ b ∉ mp.bn := by
  cases a with
  | tup h1 h2 h3 => exact ⟨_, rfl, by rw [h1, rp_keys h3], h2⟩
end
/-! the empty dict is of both kinds -/
section
variable {X : Cx} {pins : List (Addr × Obj)} {σ : L2.St} {H : Hp} {s : Shared} {a : Addr}
theorem inv_KT (I : Inv X pins σ H s) (h : H a = some (.dK [])) : Inv X pins σ (upd H a (.dT [])) s := by
  obtain ⟨z, ne, vs, kv, o, es, ep, e, ed, ed2, _, pr, _⟩ := I.hok a _ h
  have vn : vs = [] := by cases kv; rfl
  subst vn
  have en : es.toList = [] := by
    have := pr
    cases hq : es.toList with
    | nil => rfl
    | cons x r => rw [hq] at this; cases this
  have new : ObjOk X.prog X.w (upd H a (.dT [])) s.heap a (.dT []) := ⟨by simp, ne, [], .nil, o, es, ep, e, ed, ed2, by rw [en]; rfl, List.nodup_nil⟩
  exact I.write (x := a) (e := a) (t' := s.toks) (h' := s.heap) (by rw [h]; trivial) (.inl rfl) (fun b v _ q => q) ⟨o, e⟩ new
theorem inv_TK (I : Inv X pins σ H s) (h : H a = some (.dT [])) : Inv X pins σ (upd H a (.dK [])) s := by
  obtain ⟨z, ne, xs, kv, o, es, ep, e, ed, ed2, pr, _⟩ := I.hok a _ h
  have vn : xs = [] := by cases kv; rfl
  subst vn
  have en : es = #[] := by
    have h1 : es.toList = [] := pr
    exact Array.toList_eq_nil_iff.mp h1
  subst en
  have new : ObjOk X.prog X.w (upd H a (.dK [])) s.heap a (.dK []) := ⟨by simp, ne, [], .nil, o, #[], ep, e, ed, ed2, fun x hx => by simp at hx, .nil, List.nodup_nil⟩
  exact I.write (x := a) (e := a) (t' := s.toks) (h' := s.heap) (by rw [h]; trivial) (.inl rfl) (fun b v _ q => q) ⟨o, e⟩ new
theorem upd_back {o : HO} (h : H a = some o) (u : HO) : upd (upd H a u) a o = H := by
  rw [upd_upd]
  funext b
  by_cases hb : b = a
  · subst hb; rw [upd_same, h]
  · rw [upd_ne hb]
end
/-- what a dict holds at a key, the same over a heap H' that differs only in which empty dict it is -/
theorem kinds_mem {kvs : List (D × D)} {x : D} (h : kindsOk kvs x = true) : keyKind x ≠ 0 ∧ ∀ p ∈ kvs, keyKind p.1 = keyKind x := by
  unfold kindsOk at h
  simp only [Bool.and_eq_true, bne_iff_ne, ne_eq, List.all_eq_true, beq_iff_eq] at h
  exact h
theorem DicAt.get {K : PySem.W.Frag} {mp : Wd} {H : Hp} {kvs : List (D × D)} {a : Addr} {x : D} {y : V} (c : DicAt K mp H kvs a) (k : kindsOk kvs x = true) (ax : Rp K mp H x y) :
    (∃ o, DGet H a y o ∧ ((getD kvs x = none ∧ o = none) ∨ ∃ d v, getD kvs x = some d ∧ o = some v ∧ Rp K mp H d v)) ∨
    (kvs = [] ∧ H a = some (.dK []) ∧ ∃ k, x = kT k) := by
  obtain ⟨k0, km⟩ := kinds_mem k
  rcases c with ⟨ks, vs, e, l, ek, rv⟩ | ⟨ks, vs, ne, e, l, ek, rv⟩
  · rcases key_cases k0 with ⟨kk, rfl, q⟩ | ⟨kk, rfl, q⟩
    · rw [rp_key ax]
      exact .inl ⟨_, DGet.k e, by
        rcases getD_k kk l ek rv with ⟨h1, h2⟩ | ⟨d, v, h1, h2, h3⟩
        · exact .inl ⟨h1, h2⟩
        · exact .inr ⟨d, v, h1, h2, h3⟩⟩
    · right
      cases kvs with
      | nil =>
        cases ks with
        | nil => exact ⟨rfl, e, kk, rfl⟩
        | cons _ _ => simp at ek
      | cons p r =>
        cases ks with
        | nil => simp at ek
        | cons k1 ks =>
          simp only [List.map_cons, List.cons.injEq] at ek
          have := km p (by simp)
          rw [ek.1, keyKind_k, keyKind_t] at this
          cases this
  · rcases key_cases k0 with ⟨kk, rfl, q⟩ | ⟨kk, rfl, q⟩
    · right
      cases kvs with
      | nil =>
        cases ks with
        | nil => exact absurd rfl ne
        | cons _ _ => simp at ek
      | cons p r =>
        cases ks with
        | nil => simp at ek
        | cons k1 ks =>
          simp only [List.map_cons, List.cons.injEq] at ek
          have := km p (by simp)
          rw [show p.1 = kT k1 from ek.1, keyKind_k, keyKind_t] at this
          cases this
    · obtain ⟨b, rfl, hb, nb⟩ := rp_tkey ax
      exact .inl ⟨_, DGet.t e hb, by
        rcases getD_t kk l ek rv with ⟨h1, h2⟩ | ⟨d, v, h1, h2, h3⟩
        · exact .inl ⟨h1, h2⟩
        · exact .inr ⟨d, v, h1, h2, h3⟩⟩
section
variable {X : Cx} {pins : List (Addr × Obj)} {σ : L2.St} {H : Hp} {s : Shared}
/-- a question to a dict, at whichever kind the empty one is -/
theorem dic_ask {mp : Wd} {kvs : List (D × D)} {a : Addr} {x : D} {y : V} (I : Inv X pins σ H s) (c : DicAt X.K mp H kvs a) (k : kindsOk kvs x = true) (ax : Rp X.K mp H x y) :
    ∃ H1 o, Inv X pins σ H1 s ∧ DGet H1 a y o ∧ (∀ s', Inv X pins σ H1 s' → Inv X pins σ H s') ∧ ((getD kvs x = none ∧ o = none) ∨ ∃ d v, getD kvs x = some d ∧ o = some v ∧ Rp X.K mp H d v) := by
  rcases c.get k ax with ⟨o, g, h⟩ | ⟨e, e1, kk, e2⟩
  · exact ⟨H, o, I, g, fun _ z => z, h⟩
  · subst e e2
    obtain ⟨b, rfl, hb, nb⟩ := rp_tkey ax
    have hba : b ≠ a := fun z => by rw [z, e1] at hb; cases hb
    refine ⟨upd H a (.dT []), none, inv_KT I e1, DGet.t (kvs := []) (k := kk) upd_same (by rw [upd_ne hba]; exact hb), fun s' I' => ?_, .inl ⟨rfl, rfl⟩⟩
    have := inv_TK I' upd_same
    rw [upd_back e1] at this
    exact this
theorem str_one {w : Str} {c : Nat} (h : w.cps.toList = [c]) : w = ⟨#[c]⟩ := by
  cases w with
  | mk a => cases a with
    | mk l => simp at h; subst h; rfl
theorem o2_in (hu : X.A.units + 65 < cLine) : O2 X (compareOp .In) gIn := by
  intro pins s σ H x y v u Q I rx ry ⟨mp, h, dx, dy, r, ax, ay, p⟩
  unfold gIn inH at p
  split at p
  · split at p
    · split at p
      · rename_i z w c e
        cases ax; cases ay
        rw [str_one e] at rx
        exact op_in_sign pins s σ H _ _ v u Q I rx ry ⟨c, _, rfl, rfl, p _ mp H .refl r (.bl _)⟩
      · exact p.elim
    · exact p.elim
  · split at p
    · rename_i kvs e
      split at p
      · rename_i hk
        obtain ⟨a, rfl, c⟩ := asD_ok r ay e
        cases ry
        obtain ⟨H1, o, I1, g, back, q⟩ := dic_ask I c hk ax
        refine d_in (by omega) I1 g rx fun s' I2 => ⟨.bl _, H, back s' I2, rfl, ?_⟩
        have e2 : o.isSome = (getD kvs dx).isSome := by rcases q with ⟨h1, h2⟩ | ⟨d, w, h1, h2, _⟩ <;> rw [h1, h2] <;> rfl
        rw [e2]
        exact p _ mp H .refl r (.bl _)
      · exact p.elim
    · split at p
      · rename_i d ds e1 e2
        split at p
        · rename_i hz
          obtain ⟨as, r1⟩ := Dp.reads I _ _ _ (ax.nz r e1) rx
          obtain ⟨bs, r2⟩ := Dp.reads I _ _ _ (ay.nz r e2) ry
          exact PySem.SeqAt.in_list_data r2 r1 (by have := py_plain e2; simpa [PyData.plain] using this) (py_plain e1) (by omega) ⟨.bl _, H, I, rfl, p _ mp H .refl r (.bl _)⟩
        · exact p.elim
      · rename_i d ds e1 e2
        split at p
        · rename_i hz
          obtain ⟨as, r1⟩ := Dp.reads I _ _ _ (ax.nz r e1) rx
          obtain ⟨bs, r2⟩ := Dp.reads I _ _ _ (ay.nz r e2) ry
          exact PySem.SeqAt.in_tuple_data r2 r1 (by have := py_plain e2; simpa [PyData.plain] using this) (py_plain e1) (by omega) ⟨.bl _, H, I, rfl, p _ mp H .refl r (.bl _)⟩
        · exact p.elim
      · exact p.elim
theorem o2_notIn (hu : X.A.units + 65 < cLine) : O2 X (compareOp .NotIn) gNotIn := by
  intro pins s σ H x y v u Q I rx ry ⟨mp, h, dx, dy, r, ax, ay, p⟩
  unfold gNotIn inH at p
  split at p
  · split at p
    · split at p
      · rename_i z w c e
        cases ax; cases ay
        rw [str_one e] at rx
        exact op_notIn_sign pins s σ H _ _ v u Q I rx ry ⟨c, _, rfl, rfl, p _ mp H .refl r (.bl _)⟩
      · exact p.elim
    · exact p.elim
  · split at p
    · rename_i kvs e
      split at p
      · rename_i hk
        obtain ⟨a, rfl, c⟩ := asD_ok r ay e
        cases ry
        obtain ⟨H1, o, I1, g, back, q⟩ := dic_ask I c hk ax
        refine d_notIn (by omega) I1 g rx fun s' I2 => ⟨.bl _, H, back s' I2, rfl, ?_⟩
        have e2 : o.isSome = (getD kvs dx).isSome := by rcases q with ⟨h1, h2⟩ | ⟨d, w, h1, h2, _⟩ <;> rw [h1, h2] <;> rfl
        rw [e2]
        exact p _ mp H .refl r (.bl _)
      · exact p.elim
    · split at p
      · rename_i d ds e1 e2
        split at p
        · rename_i hz
          obtain ⟨as, r1⟩ := Dp.reads I _ _ _ (ax.nz r e1) rx
          obtain ⟨bs, r2⟩ := Dp.reads I _ _ _ (ay.nz r e2) ry
          exact PySem.SeqAt.notIn_list_data r2 r1 (by have := py_plain e2; simpa [PyData.plain] using this) (py_plain e1) (by omega) ⟨.bl _, H, I, rfl, p _ mp H .refl r (.bl _)⟩
        · exact p.elim
      · rename_i d ds e1 e2
        split at p
        · rename_i hz
          obtain ⟨as, r1⟩ := Dp.reads I _ _ _ (ax.nz r e1) rx
          obtain ⟨bs, r2⟩ := Dp.reads I _ _ _ (ay.nz r e2) ry
          exact PySem.SeqAt.notIn_tuple_data r2 r1 (by have := py_plain e2; simpa [PyData.plain] using this) (py_plain e1) (by omega) ⟨.bl _, H, I, rfl, p _ mp H .refl r (.bl _)⟩
        · exact p.elim
      · exact p.elim
end
end Mi
namespace Mi
open PySem PySem.Spec L2
/-! ### and, or, not -/
def mAnd (fa fb : Ev D) : Ev D := fun ρ h => (fa ρ h).bind fun x h1 => match x with
  | .bl true => fb ρ h1
  | .bl false => .ok (.bl false) h1
  | _ => .bad
def mOr (fa fb : Ev D) : Ev D := fun ρ h => (fa ρ h).bind fun x h1 => match x with
  | .bl true => .ok (.bl true) h1
  | .bl false => fb ρ h1
  | _ => .bad
def mNot (fa : Ev D) : Ev D := fun ρ h => (fa ρ h).bind fun x h1 => match x with
  | .bl b => .ok (.bl (!b)) h1
  | _ => .bad
def mNeg (fa : Ev D) : Ev D := fun ρ h => (fa ρ h).bind fun x h1 => match x with
  | .int i => .ok (.int (-i)) h1
  | _ => .bad
def mAndT (fa fb : Ev Bool) : Ev Bool := fun ρ h => (fa ρ h).bind fun x h1 => match x with
  | true => fb ρ h1
  | false => .ok false h1
def mOrT (fa fb : Ev Bool) : Ev Bool := fun ρ h => (fa ρ h).bind fun x h1 => match x with
  | true => .ok true h1
  | false => fb ρ h1
def mNotT (fa : Ev Bool) : Ev Bool := fun ρ h => (fa ρ h).bind fun x h1 => .ok (!x) h1
abbrev SW (X : Cx) (W : WX) (e : Expr) (f : Ev Bool) : Prop := PW X e (tT X.K W f)
theorem PW.imp {X : Cx} {e : Expr} {t t' : TT} (h : PW X e t) (i : ∀ σ H Q, t' σ H Q → t σ H Q) : PW X e t' := ⟨fun wh pins s σ H Q I q => h.run wh pins s σ H Q I (i σ H Q q)⟩
section
variable {X : Cx} {W : WX} {pos : Pos} {a b : Expr} {rest : List Expr} {fa fb : Ev D} {ga gb : Ev Bool}
theorem se_one {op : BoolOp} (ha : SE X W a fa) : SE X W (.BoolOp op [a] pos) fa := pe_one ha
theorem se_and (ha : SE X W a fa) (hb : SE X W (.BoolOp .And (b :: rest) pos) fb) : SE X W (.BoolOp .And (a :: b :: rest) pos) (mAnd fa fb) := PE.imp (pe_and ha hb) fun σ H Q ⟨ρ, h, mp, r, e, p⟩ => by
  refine ⟨ρ, h, mp, r, e, Post.mono (Post.bind p) fun x H1 ⟨mp1, h1, d1, le1, r1, q1, p1⟩ => ?_⟩
  cases d1 with
  | bl c =>
    cases q1
    refine ⟨c, rfl, ?_⟩
    cases c with
    | true => rw [if_pos rfl]; exact ⟨ρ, h1, mp1, r1, e.mono le1, p1⟩
    | false => rw [if_neg (by decide)]; exact Post.ok p1 r1 (.bl false)
  | _ => exact p1.elim
theorem se_or (ha : SE X W a fa) (hb : SE X W (.BoolOp .Or (b :: rest) pos) fb) : SE X W (.BoolOp .Or (a :: b :: rest) pos) (mOr fa fb) := PE.imp (pe_or ha hb) fun σ H Q ⟨ρ, h, mp, r, e, p⟩ => by
  refine ⟨ρ, h, mp, r, e, Post.mono (Post.bind p) fun x H1 ⟨mp1, h1, d1, le1, r1, q1, p1⟩ => ?_⟩
  cases d1 with
  | bl c =>
    cases q1
    refine ⟨c, rfl, ?_⟩
    cases c with
    | true => rw [if_pos rfl]; exact Post.ok p1 r1 (.bl true)
    | false => rw [if_neg (by decide)]; exact ⟨ρ, h1, mp1, r1, e.mono le1, p1⟩
  | _ => exact p1.elim
theorem se_not (ha : SE X W a fa) : SE X W (.UnaryOp .Not a pos) (mNot fa) := PE.imp (pe_not ha) fun σ H Q ⟨ρ, h, mp, r, e, p⟩ => by
  refine ⟨ρ, h, mp, r, e, Post.mono (Post.bind p) fun x H1 ⟨mp1, h1, d1, le1, r1, q1, p1⟩ => ?_⟩
  cases d1 with
  | bl c => cases q1; exact ⟨c, rfl, Post.ok p1 r1 (.bl _)⟩
  | _ => exact p1.elim
theorem se_neg (ha : SE X W a fa) : SE X W (.UnaryOp .USub a pos) (mNeg fa) := PE.imp (pe_un un_neg ha) fun σ H Q ⟨ρ, h, mp, r, e, p⟩ => by
  refine ⟨ρ, h, mp, r, e, Post.mono (Post.bind p) fun x H1 ⟨mp1, h1, d1, le1, r1, q1, p1⟩ => ?_⟩
  cases d1 with
  | int c => cases q1; exact ⟨c, rfl, Post.ok p1 r1 (.int _)⟩
  | _ => exact p1.elim
theorem sw_and1 (ha : ST X W a ga) : SW X W (.BoolOp .And [a] pos) ga := pw_and1 ha
theorem sw_or1 (ha : ST X W a ga) : SW X W (.BoolOp .Or [a] pos) ga := pw_or1 ha
theorem sw_and (ha : ST X W a ga) (hb : SW X W (.BoolOp .And (b :: rest) pos) gb) : SW X W (.BoolOp .And (a :: b :: rest) pos) (mAndT ga gb) := PW.imp (pw_and ha hb) fun σ H Q ⟨ρ, h, mp, r, e, p⟩ => by
  refine ⟨ρ, h, mp, r, e, Post.mono (Post.bind (R := rB) p) fun x H1 ⟨mp1, h1, d1, le1, r1, q1, p1⟩ => ?_⟩
  obtain rfl : d1 = x := q1
  cases d1 with
  | true => rw [if_pos rfl]; exact ⟨ρ, h1, mp1, r1, e.mono le1, p1⟩
  | false => rw [if_neg (by decide)]; exact Post.ok p1 r1 rfl
theorem sw_or (ha : ST X W a ga) (hb : SW X W (.BoolOp .Or (b :: rest) pos) gb) : SW X W (.BoolOp .Or (a :: b :: rest) pos) (mOrT ga gb) := PW.imp (pw_or ha hb) fun σ H Q ⟨ρ, h, mp, r, e, p⟩ => by
  refine ⟨ρ, h, mp, r, e, Post.mono (Post.bind (R := rB) p) fun x H1 ⟨mp1, h1, d1, le1, r1, q1, p1⟩ => ?_⟩
  obtain rfl : d1 = x := q1
  cases d1 with
  | true => rw [if_pos rfl]; exact Post.ok p1 r1 rfl
  | false => rw [if_neg (by decide)]; exact ⟨ρ, h1, mp1, r1, e.mono le1, p1⟩
theorem st_w (ha : SW X W a ga) : ST X W a ga := ha.pt
theorem st_not (ha : ST X W a ga) : ST X W (.UnaryOp .Not a pos) (mNotT ga) := PT.imp (pt_not ha) fun σ H Q ⟨ρ, h, mp, r, e, p⟩ => by
  refine ⟨ρ, h, mp, r, e, Post.mono (Post.bind (R := rB) p) fun x H1 ⟨mp1, h1, d1, le1, r1, q1, p1⟩ => ?_⟩
  obtain rfl : d1 = x := q1
  exact Post.ok p1 r1 rfl
end
/-! ### arguments, displays -/
def mNil : Ev (List D) := fun _ h => .ok [] h
def mCons (fe : Ev D) (fs : Ev (List D)) : Ev (List D) := fun ρ h => (fe ρ h).bind fun d h1 => (fs ρ h1).bind fun ds h2 => .ok (d :: ds) h2
def mTup (f : Ev (List D)) : Ev D := fun ρ h => (f ρ h).bind fun ds h1 => if ds.length ≤ 100 then .ok (.tup ds) h1 else .bad
def mLst (f : Ev (List D)) : Ev D := fun ρ h => (f ρ h).bind fun ds h1 => if ds.length ≤ 100 then .ok (.lst ds) h1 else .bad
def mLstR (f : Ev (List D)) : Ev D := fun ρ h => (f ρ h).bind fun ds h1 => if ds.length ≤ 100 then .ok (.ref h1.length) (h1 ++ [.lst ds]) else .bad
theorem hundred {n : Nat} (h : n ≤ 100) : n ≤ sizeLine := Nat.le_trans h (by decide)
section
variable {X : Cx} {W : WX} {pos : Pos} {a b : Expr} {es : List Expr} {fa fb : Ev D} {fs : Ev (List D)}
theorem sa_nil : SA X W [] mNil := PA.imp pa_nil fun σ H Q ⟨ρ, h, mp, r, e, p⟩ => Post.ok (v := []) p r .nil
theorem sa_cons (ha : SE X W a fa) (hs : SA X W es fs) (he : starEach (a :: es) X.env = (false, eval a X.env) :: starEach es X.env := by rfl) : SA X W (a :: es) (mCons fa fs) := PA.imp (pa_cons ha hs he) fun σ H Q ⟨ρ, h, mp, r, e, p⟩ => by
  refine ⟨ρ, h, mp, r, e, Post.mono (Post.bind p) fun x H1 ⟨mp1, h1, d1, le1, r1, q1, p1⟩ => ?_⟩
  refine ⟨ρ, h1, mp1, r1, e.mono le1, Post.mono (Post.bind (R := rA X.K) p1) fun y H2 ⟨mp2, h2, d2, le2, r2, q2, p2⟩ => ?_⟩
  exact Post.ok p2 r2 (.cons (q1.mono le2) q2)
theorem se_tup {k : Nat} (hs : SA X W es fs) : SE X W (.Tuple es k pos) (mTup fs) := PE.imp (pe_tup hs) fun σ H Q ⟨ρ, h, mp, r, e, p⟩ => by
  refine ⟨ρ, h, mp, r, e, Post.mono (Post.bind (R := rA X.K) p) fun x H1 ⟨mp1, h1, d1, le1, r1, q1, p1⟩ => ?_⟩
  dsimp only at p1
  split at p1
  · rename_i hz
    refine ⟨by rw [← q1.length]; exact hundred hz, fun a ha => ?_⟩
    obtain ⟨l1, l2, l3⟩ := newT r1 ha q1
    exact p1 _ mp1 _ l1 l2 l3
  · exact p1.elim
theorem se_lst (hs : SA X W es fs) : SE X W (.List es pos) (mLst fs) := PE.imp (pe_lst hs) fun σ H Q ⟨ρ, h, mp, r, e, p⟩ => by
  refine ⟨ρ, h, mp, r, e, Post.mono (Post.bind (R := rA X.K) p) fun x H1 ⟨mp1, h1, d1, le1, r1, q1, p1⟩ => ?_⟩
  dsimp only at p1
  split at p1
  · rename_i hz
    refine ⟨by rw [← q1.length]; exact hundred hz, fun a ha => ?_⟩
    obtain ⟨l1, l2, l3⟩ := newL r1 ha q1
    exact p1 _ mp1 _ l1 l2 l3
  · exact p1.elim
theorem se_lstR (hs : SA X W es fs) : SE X W (.List es pos) (mLstR fs) := PE.imp (pe_lst hs) fun σ H Q ⟨ρ, h, mp, r, e, p⟩ => by
  refine ⟨ρ, h, mp, r, e, Post.mono (Post.bind (R := rA X.K) p) fun x H1 ⟨mp1, h1, d1, le1, r1, q1, p1⟩ => ?_⟩
  dsimp only at p1
  split at p1
  · rename_i hz
    refine ⟨by rw [← q1.length]; exact hundred hz, fun a ha => ?_⟩
    obtain ⟨l1, l2, l3⟩ := newLR r1 ha q1
    exact p1 _ _ _ l1 l2 l3
  · exact p1.elim
end
/-! ### subscripts -/
def gIx (x y : D) (h : Hq) : Option (D × Hq) := match x, y with
  | .str z, .int i => if z.length ≤ sizeLine then (atI z.cps.toList i).map fun c => (.str ⟨#[c]⟩, h) else none
  | x, y => match asD h x with
    | some kvs => if kindsOk kvs y = true then (getD kvs y).map fun d => (d, h) else none
    | none => match y with
      | .int i => (match asT x with
        | some xs => (atI xs i).map fun d => (d, h)
        | none => match asLk h x with
          | some xs => (atI xs i).map fun d => (d, h)
          | none => none)
      | _ => none
section
variable {K : PySem.W.Frag} {mp : Wd} {H : Hp}
theorem rp_at {xs : List D} {vs : List V} {i : Int} {d : D} (a : RpAll K mp H xs vs) (e : atI xs i = some d) : ∃ v, atI vs i = some v ∧ Rp K mp H d v := by
  unfold atI at e ⊢
  rw [← a.length]
  cases q : ixN xs.length i with
  | none => rw [q] at e; cases e
  | some j =>
    rw [q] at e
    obtain ⟨v, h1, h2⟩ := a.get e
    exact ⟨v, h1, h2⟩
end
section
variable {X : Cx} {W : WX} {pos : Pos}
theorem ix_dic (hu : X.A.units + 1 < cLine) : IxR X (fun x y H Q => ∃ mp kvs kd d a, x = .ref a ∧ DicAt X.K mp H kvs a ∧ Rp X.K mp H kd y ∧ kindsOk kvs kd = true ∧ getD kvs kd = some d ∧ ∀ v, Rp X.K mp H d v → Q v H) := by
  intro value slice pins s σ H x y v u Q I rx ry ⟨mp, kvs, kd, d, a, ex, c, ak, kk, eg, q⟩ hs
  subst ex
  obtain rfl : v = Value.ref a := rx
  obtain ⟨H1, o, I1, g, back, z⟩ := dic_ask I c kk ak
  rcases z with ⟨e1, _⟩ | ⟨d', w, e1, rfl, rw'⟩
  · rw [eg] at e1; cases e1
  rw [eg] at e1; cases e1
  have hT := dict_typeIs I1 g
  unfold PyProof.Rows.subscriptTail
  refine wpAny_bind ?_
  rw [getitemInPython_of_ne hT.not_modules]
  refine wpAny_bind (wpAny_specialOf hT PySem.F.slot_dict_getitem.lookup ?_)
  have fin : wpAny (model X.prog X.w) X.A (subscripted slice false (.ref a) u) (fun r s₃ => wpAny (model X.prog X.w) X.A (letTemporaryGo value (.ref a) r >>= fun _ => pure r) (EP X pins σ Q) X.xe s₃) X.xe s := by
    rw [hs]
    refine wpAny_operating (d_getItem hu I1 g ry fun w' s3 I3 rw2 => ?_)
    exact wpAny_bind (wpAny_letTemporaryGo (wpAny_pure ⟨w, H, back s3 I3, rw2, q w rw'⟩))
  first
    | exact wpAny_pure (wpAny_bind fin)
    | exact wpAny_pure fin
    | exact wpAny_bind fin
    | exact fin
theorem ix_ok (hu : X.A.units + 1 < cLine) : IxR X fun x y H Q => ∃ mp h dx dy, HRel X.K mp h H ∧ Rp X.K mp H dx x ∧ Rp X.K mp H dy y ∧ PostO X.K (rD X.K) mp H (gIx dx dy h) Q := by
  intro value slice pins s σ H x y v u Q I rx ry ⟨mp, h, dx, dy, r, ax, ay, p⟩ hs
  unfold gIx at p
  split at p
  · rename_i z i
    split at p
    · rename_i hz
      cases e : atI z.cps.toList i with
      | none => rw [e] at p; exact p.elim
      | some c =>
        rw [e] at p
        cases ax; cases ay
        exact ix_str value slice pins s σ H _ _ v u Q I rx ry ⟨z, i, c, rfl, rfl, hz, e, p _ mp H .refl r (.str _)⟩ hs
    · exact p.elim
  · split at p
    · rename_i kvs e
      split at p
      · rename_i hk
        obtain ⟨a, rfl, c⟩ := asD_ok r ax e
        cases eg : getD kvs dy with
        | none => rw [eg] at p; exact p.elim
        | some d =>
          rw [eg] at p
          exact ix_dic hu value slice pins s σ H _ _ v u Q I rx ry ⟨mp, kvs, dy, d, a, rfl, c, ay, hk, eg, fun w rw' => p _ mp H .refl r rw'⟩ hs
      · exact p.elim
    · split at p
      · rename_i i _
        cases ay
        split at p
        · rename_i xs e
          cases ea : atI xs i with
          | none => rw [ea] at p; exact p.elim
          | some d =>
            rw [ea] at p
            obtain ⟨q, vs, rfl, hq, rv⟩ := asT_ok ax e
            obtain ⟨w, e1, e2⟩ := rp_at rv ea
            exact ix_tup value slice pins s σ H _ _ v u Q I rx ry ⟨q, vs, i, w, rfl, rfl, hq, e1, p _ mp H .refl r e2⟩ hs
        · split at p
          · rename_i xs e
            cases ea : atI xs i with
            | none => rw [ea] at p; exact p.elim
            | some d =>
              rw [ea] at p
              obtain ⟨q, vs, rfl, hq, rv⟩ := asLk_ok r ax e
              obtain ⟨w, e1, e2⟩ := rp_at rv ea
              exact ix_list value slice pins s σ H _ _ v u Q I rx ry ⟨q, vs, i, w, rfl, rfl, hq, e1, p _ mp H .refl r e2⟩ hs
          · exact p.elim
      · exact p.elim
theorem se_ix {a b : Expr} {fa fb : Ev D} (hu : X.A.units + 1 < cLine) (ha : SE X W a fa) (hb : SE X W b fb) (hs : PlainIx b := by exact fun _ _ => rfl) : SE X W (.Subscript a b pos) (mBin gIx fa fb) :=
  PE.imp (pe_ix (ix_ok hu) ha hb hs) fun σ H Q t => t_bin t
end
end Mi
namespace Mi
open PySem PySem.Spec L2
/-! ### targets -/
inductive Tg where
  | nm (i : Nat) | tp (is : List Nat)
def Tg.slots : Tg → List Nat
  | .nm i => [i]
  | .tp is => is
def setMany : List Nat → List D → Env' → Env'
  | i :: is, d :: ds, ρ => setMany is ds (ρ.set i (some d))
  | _, _, ρ => ρ
def setT : Tg → D → Env' → Option Env'
  | .nm i, d, ρ => some (ρ.set i (some d))
  | .tp is, .tup ds, ρ => if is.length = ds.length then some (setMany is ds ρ) else none
  | _, _, _ => none
def tGm (K : PySem.W.Frag) (T : Tg) : TG := fun v σ H Q => ∃ ρ h mp d ρ', HRel K mp h H ∧ EnvRel K mp H ρ σ ∧ Rp K mp H d v ∧ setT T d ρ = some ρ' ∧
  ∀ σ' : L2.St, σ'.length = σ.length → (∀ j, j ∉ T.slots → σ'[j]? = σ[j]?) → EnvRel K mp H ρ' σ' → Q σ' H
abbrev SG (X : Cx) (tg : Expr) (T : Tg) : Prop := PG X tg (tGm X.K T)
def tGs (K : PySem.W.Frag) (is : List Nat) : TGs := fun vs σ H Q => ∃ ρ h mp ds, HRel K mp h H ∧ EnvRel K mp H ρ σ ∧ RpAll K mp H ds vs ∧ is.length = ds.length ∧
  ∀ σ' : L2.St, σ'.length = σ.length → (∀ j, j ∉ is → σ'[j]? = σ[j]?) → EnvRel K mp H (setMany is ds ρ) σ' → Q σ' H
abbrev SGs (X : Cx) (tg : List Expr) (is : List Nat) : Prop := PGs X tg (tGs X.K is)
theorem PG.imp {X : Cx} {e : Expr} {t t' : TG} (h : PG X e t) (i : ∀ v σ H Q, t' v σ H Q → t v σ H Q) : PG X e t' := ⟨fun pins s σ H v u Q I r q => h.run pins s σ H v u Q I r (i v σ H Q q)⟩
theorem PGs.imp {X : Cx} {e : List Expr} {t t' : TGs} (h : PGs X e t) (i : ∀ v σ H Q, t' v σ H Q → t v σ H Q) : PGs X e t' := ⟨fun pins s σ H v u Q I r q => h.run pins s σ H v u Q I r (i v σ H Q q)⟩
section
variable {X : Cx} {pos : Pos}
theorem sg_nm (i : Nat) {x : Str} (hN : X.N.Nodup) (hi : X.N[i]? = some x := by rfl) (hx : Loc X.env.scope x := by first | exact Or.inl rfl | exact Or.inr rfl) (hf : X.fn x = true ∨ X.env.scope.names.lookup x = some .local := by first | exact .inl rfl | exact .inr rfl) : SG X (.Name x pos) (.nm i) :=
  PG.imp (pg_name hN hi hx hf) fun v σ H Q ⟨ρ, h, mp, d, ρ', r, e, a, es, q⟩ => by
    cases es
    exact q _ (by simp) (fun j hj => List.getElem?_set_ne (fun z => hj (by simp [Tg.slots, z]))) (e.set a)
theorem sgs_nil : SGs X [] [] := PGs.imp pgs_nil fun v σ H Q ⟨ρ, h, mp, d, r, e, a, el, q⟩ => by
  cases d with
  | nil => cases a; exact ⟨rfl, q σ rfl (fun _ _ => rfl) e⟩
  | cons _ _ => simp at el
theorem sgs_cons {i : Nat} {is : List Nat} {a : Expr} {es : List Expr} (h1 : SG X a (.nm i)) (h2 : SGs X es is) (hs : (assignEach (a :: es) X.env).map (·.2) = assign a X.env :: (assignEach es X.env).map (·.2) := by rfl) : SGs X (a :: es) (i :: is) :=
  PGs.imp (pgs_cons h1 h2 hs) fun vs σ H Q ⟨ρ, h, mp, ds, r, e, ra, el, q⟩ => by
    cases ra with
    | nil => simp at el
    | @cons d v ds vs r1 r2 =>
      refine ⟨v, vs, rfl, ρ, h, mp, d, _, r, e, r1, rfl, fun σ1 l1 k1 e1 => ?_⟩
      refine ⟨ρ.set i (some d), h, mp, ds, r, e1, r2, by simpa using el, fun σ2 l2 k2 e2 => q σ2 (l2.trans l1) (fun j hj => ?_) e2⟩
      rw [List.mem_cons, not_or] at hj
      exact (k2 j hj.2).trans (k1 j (by simpa [Tg.slots] using hj.1))
theorem sg_tp {es : List Expr} {k : Nat} {is : List Nat} (hc : X.calm = true) (h : SGs X es is) (hn : (assignEach es X.env).length = is.length := by rfl) (hst : (assignEach es X.env).findIdx? (·.1) = none := by rfl) : SG X (.Tuple es k pos) (.tp is) :=
  PG.imp (pg_tup hc h hn hst) fun v σ H Q ⟨ρ, h, mp, d, ρ', r, e, a, es, q⟩ => by
    cases d with
    | tup ds =>
      simp only [setT] at es
      split at es
      · rename_i hl
        cases es
        cases a with
        | @tup p vs _ e1 n1 q1 => exact ⟨p, vs, rfl, SqT.of e1, by rw [← q1.length, hl], ρ, h, mp, ds, r, e, q1, hl, q⟩
      · cases es
    | _ => simp [setT] at es
end
/-! ### what is walked -/
def chkOk (c : Option (Nat × O)) (ds : List D) (h : Hq) : Prop := match c with
  | none => True
  | some p => h[p.1]? = some p.2
structure ItIs (K : PySem.W.Frag) (mp : Wd) (H : Hp) (p : List D × Option (Nat × O)) (J : It) : Prop where
  sz : p.1.length ≤ sizeLine
  item : ∀ mp' h' H', Le mp H mp' H' → HRel K mp' h' H' → chkOk p.2 p.1 h' → ∀ (i : Nat) (d : D), p.1[i]? = some d → J.go i H' ∧ ∀ x H2, J.yld i H' x H2 → Le mp' H' mp' H2 ∧ HRel K mp' h' H2 ∧ Rp K mp' H2 d x ∧ Same H' H2
  stop : ∀ mp' h' H', Le mp H mp' H' → HRel K mp' h' H' → chkOk p.2 p.1 h' → ∀ i : Nat, p.1.length ≤ i → J.stop i H'
theorem ItIs.mono {K : PySem.W.Frag} {mp mp' : Wd} {H H' : Hp} {p : List D × Option (Nat × O)} {J : It} (le : Le mp H mp' H') (t : ItIs K mp H p J) : ItIs K mp' H' p J :=
  ⟨t.sz, fun m1 h1 H1 l => t.item m1 h1 H1 (le.trans l), fun m1 h1 H1 l => t.stop m1 h1 H1 (le.trans l)⟩
abbrev rIt (K : PySem.W.Frag) : Wd → Hp → (List D × Option (Nat × O)) → It → Prop := fun mp H p J => ItIs K mp H p J
def tIm (K : PySem.W.Frag) (W : WX) (f : Ev (List D × Option (Nat × O))) : TI := fun σ H Q => ∃ ρ h mp, HRel K mp h H ∧ EnvRel K mp H ρ σ ∧ Post K (rIt K) mp H (f ρ h) Q (wE K W σ)
abbrev SI (X : Cx) (W : WX) (tg iter : Expr) (f : Ev (List D × Option (Nat × O))) : Prop := PI X tg iter (tIm X.K W f)
theorem PI.imp {X : Cx} {tg e : Expr} {t t' : TI} (h : PI X tg e t) (i : ∀ σ H Q, t' σ H Q → t σ H Q) : PI X tg e t' := ⟨fun pins s σ H Q I q => h.run pins s σ H Q I (i σ H Q q)⟩
/-- two ways of walking, chosen by the value -/
theorem PI.or {X : Cx} {tg e : Expr} {t t' : TI} (h : PI X tg e t) (h' : PI X tg e t') : PI X tg e (fun σ H Q => t σ H Q ∨ t' σ H Q) := ⟨fun pins s σ H Q I q => q.elim (h.run pins s σ H Q I) (h'.run pins s σ H Q I)⟩
def signs (z : Str) : List D := z.cps.toList.map fun c => .str ⟨#[c]⟩
def iterD (h : Hq) (d : D) : Option (List D × Option (Nat × O)) := match d with
  | .lst xs => some (xs, none)
  | .klst xs => some (xs, none)
  | .tup xs => some (xs, none)
  | .ktup xs => some (xs, none)
  | .str z => if z.cps.size ≤ sizeLine then some (signs z, none) else none
  | .ref l => (match h[l]? with
    | some (.lst xs) => some (xs, some (l, .lst xs))
    | _ => none)
  | _ => none
def mIter (f : Ev D) : Ev (List D × Option (Nat × O)) := fun ρ h => (f ρ h).bind fun d h1 => .of ((iterD h1 d).map fun p => (p, h1))
section
variable {X : Cx} {W : WX} {tg e : Expr} {f : Ev D}
theorem it_list {K : PySem.W.Frag} {mp : Wd} {H : Hp} {a : Addr} {ds : List D} {c : Option (Nat × O)} (sz : ds.length ≤ sizeLine)
    (q : ∀ mp' h' H', Le mp H mp' H' → HRel K mp' h' H' → chkOk c ds h' → ∃ vs, SqL K H' a vs ∧ RpAll K mp' H' ds vs) : ItIs K mp H (ds, c) (Itl K a) := by
  refine ⟨sz, fun mp' h' H' le r ck i d e => ?_, fun mp' h' H' le r ck i hi => ?_⟩
  · obtain ⟨vs, s, ra⟩ := q mp' h' H' le r ck
    obtain ⟨v, e1, e2⟩ := ra.get e
    refine ⟨⟨vs, v, s, e1⟩, fun x H2 ⟨e3, y⟩ => ?_⟩
    subst e3
    have := y vs s
    rw [e1] at this; cases this
    exact ⟨.refl, r, e2, .refl _⟩
  · obtain ⟨vs, s, ra⟩ := q mp' h' H' le r ck
    exact ⟨vs, s, by rw [← ra.length]; exact hi⟩
theorem it_tup {K : PySem.W.Frag} {mp : Wd} {H : Hp} {a : Addr} {ds : List D} (sz : ds.length ≤ sizeLine)
    (q : ∀ mp' H', Le mp H mp' H' → ∃ vs, SqT K H' a vs ∧ RpAll K mp' H' ds vs) : ItIs K mp H (ds, none) (Itt K a) := by
  refine ⟨sz, fun mp' h' H' le r ck i d e => ?_, fun mp' h' H' le r ck i hi => ?_⟩
  · obtain ⟨vs, s, ra⟩ := q mp' H' le
    obtain ⟨v, e1, e2⟩ := ra.get e
    refine ⟨⟨vs, v, s, e1⟩, fun x H2 ⟨e3, y⟩ => ?_⟩
    subst e3
    have := y vs s
    rw [e1] at this; cases this
    exact ⟨.refl, r, e2, .refl _⟩
  · obtain ⟨vs, s, ra⟩ := q mp' H' le
    exact ⟨vs, s, by rw [← ra.length]; exact hi⟩
/-- the value's own way of being walked -/
def tPo (K : PySem.W.Frag) (W : WX) (f : Ev D) : TE := fun σ H Q => tE K W f σ H fun v H' => SzOk K H' → Q v H'
theorem si_val (he : SE X W e f) : SI X W tg e (mIter f) := by
  have hp : PE X e (tPo X.K W f) := PE.post he
  refine PI.imp (PI.or (pi_list hp) (PI.or (pi_tup hp) (pi_str hp))) fun σ H Q ⟨ρ, h, mp, r, en, p⟩ => ?_
  unfold mIter at p
  cases ef : f ρ h with
  | bad => rw [ef] at p; exact p.elim
  | exc c h1 =>
    rw [ef] at p
    exact .inl ⟨ρ, h, mp, r, en, by rw [ef]; exact p⟩
  | ok d h1 =>
    rw [ef] at p
    dsimp only [Res.bind] at p
    cases d with
    | lst xs =>
      refine .inl ⟨ρ, h, mp, r, en, ?_⟩
      rw [ef]
      intro v mp' H' le r' a sz
      cases a with
      | @lst a vs _ h1 n1 q1 =>
        refine ⟨a, rfl, ⟨vs, SqL.of h1⟩, p _ mp' H' le r' (it_list (by rw [q1.length]; exact sz a vs (.inl (SqL.of h1))) fun m2 h2 H2 l2 _ _ => ?_)⟩
        exact ⟨vs, SqL.of (l2.keep _ _ h1 n1).1, q1.mono l2⟩
    | klst xs =>
      refine .inl ⟨ρ, h, mp, r, en, ?_⟩
      rw [ef]
      intro v mp' H' le r' a sz
      cases a with
      | @klst a vs _ h1 q1 =>
        refine ⟨a, rfl, ⟨vs, h1.sq⟩, p _ mp' H' le r' (it_list (by rw [q1.length]; exact sz a vs (.inl h1.sq)) fun m2 h2 H2 l2 _ _ => ?_)⟩
        refine ⟨vs, ?_, q1.mono l2⟩
        rcases h1 with ⟨h1 | ⟨o, h1⟩, n1⟩ | h1
        · exact .inl (.inl (l2.keep _ _ h1 n1).1)
        · exact .inl (.inr ⟨o, (l2.keep _ _ h1 n1).1⟩)
        · exact sqL_none h1
    | tup xs =>
      refine .inr (.inl ⟨ρ, h, mp, r, en, ?_⟩)
      rw [ef]
      intro v mp' H' le r' a sz
      cases a with
      | @tup a vs _ h1 n1 q1 =>
        refine ⟨a, rfl, ⟨vs, SqT.of h1⟩, p _ mp' H' le r' (it_tup (by rw [q1.length]; exact sz a vs (.inr (SqT.of h1))) fun m2 H2 l2 => ?_)⟩
        exact ⟨vs, SqT.of (l2.keep _ _ h1 n1).1, q1.mono l2⟩
    | ktup xs =>
      refine .inr (.inl ⟨ρ, h, mp, r, en, ?_⟩)
      rw [ef]
      intro v mp' H' le r' a sz
      cases a with
      | @ktup a vs _ h1 q1 =>
        refine ⟨a, rfl, ⟨vs, sqT_none h1⟩, p _ mp' H' le r' (it_tup (by rw [q1.length]; exact sz a vs (.inr (sqT_none h1))) fun m2 H2 l2 => ?_)⟩
        exact ⟨vs, sqT_none h1, q1.mono l2⟩
    | str z =>
      simp only [iterD] at p
      split at p
      · rename_i hz
        refine .inr (.inr ⟨ρ, h, mp, r, en, ?_⟩)
        rw [ef]
        intro v mp' H' le r' a sz
        cases a
        refine ⟨z, rfl, p _ mp' H' le r' ⟨by simpa [signs] using hz, fun m2 h2 H2 l2 r2 _ i d ei => ?_, fun m2 h2 H2 l2 r2 _ i hi => ?_⟩⟩
        · simp only [signs, List.getElem?_map, Option.map_eq_some_iff] at ei
          obtain ⟨c, e1, rfl⟩ := ei
          refine ⟨by
            obtain ⟨h3, _⟩ := List.getElem?_eq_some_iff.mp e1
            show i < z.cps.size
            simpa using h3, fun x H3 ⟨e3, c', e4, e5⟩ => ?_⟩
          subst e3 e5
          have : z.cps[i]? = some c := by simpa using e1
          rw [this] at e4; cases e4
          exact ⟨.refl, r2, .str _, .refl _⟩
        · show z.cps.size ≤ i
          simpa [signs] using hi
      · exact p.elim
    | ref l =>
      simp only [iterD] at p
      split at p
      · rename_i xs e2
        · refine .inl ⟨ρ, h, mp, r, en, ?_⟩
          rw [ef]
          intro v mp' H' le r' a sz
          cases a with
          | @ref _ a m =>
            obtain ⟨vs, h2, q2⟩ := r'.obj _ _ _ e2 m
            refine ⟨a, rfl, ⟨vs, SqL.of h2⟩, p _ mp' H' le r' (it_list (by rw [q2.length]; exact sz a vs (.inl (SqL.of h2))) fun m3 h3 H3 l3 r3 ck => ?_)⟩
            obtain ⟨vs3, e3, q3⟩ := r3.obj _ _ _ ck (l3.get m)
            exact ⟨vs3, SqL.of e3, q3⟩
      · exact p.elim
    | _ => exact p.elim
end
end Mi
namespace Mi
open PySem PySem.Spec L2
/-! ### range -/
def upto (n : Nat) : List D := (List.range n).map fun i => .int (i : Nat)
def mRange (f : Ev (List D)) : Ev (List D × Option (Nat × O)) := fun ρ h => (f ρ h).bind fun ds h1 => match ds with
  | [.int j] => if -1000000 ≤ j ∧ j ≤ 1000000 then .ok (upto j.toNat, none) h1 else .bad
  | _ => .bad
section
variable {X : Cx} {W : WX} {tg : Expr} {pos p : Pos}
theorem si_range {a : Expr} {f : Ev (List D)} (ha : SA X W [a] f) (hm : X.mg "range" = none) (hg : Gl X "range" := by rfl) (hs : starEach [a] X.env = [(false, eval a X.env)] := by rfl) : SI X W tg (.Call (.Name "range" p) [a] [] pos) (mRange f) :=
  PI.imp (pi_range1 hg hm ha hs) fun σ H Q ⟨ρ, h, mp, r, en, q⟩ => by
    refine ⟨ρ, h, mp, r, en, Post.mono (Post.bind (R := rA X.K) q) fun x H1 ⟨mp1, h1, d1, le1, r1, q1, p1⟩ => ?_⟩
    dsimp only at p1
    split at p1
    · rename_i j
      split at p1
      · rename_i hj
        obtain ⟨v, rfl, rv⟩ := q1.one
        cases rv
        refine ⟨j, rfl, by omega, by omega, p1 _ mp1 H1 .refl r1 ⟨?_, fun m2 h2 H2 l2 r2 _ i d ei => ?_, fun m2 h2 H2 l2 r2 _ i hi => ?_⟩⟩
        · have : j.toNat ≤ 1000000 := by omega
          exact Nat.le_trans (by show (upto j.toNat).length ≤ 1000000; rw [upto, List.length_map, List.length_range]; exact this) (by decide)
        · simp only [upto, List.getElem?_map, Option.map_eq_some_iff] at ei
          obtain ⟨k, e1, rfl⟩ := ei
          obtain ⟨hk, e1⟩ := List.getElem?_eq_some_iff.mp e1
          rw [List.length_range] at hk
          rw [List.getElem_range] at e1
          subst e1
          refine ⟨hk, fun y H3 ⟨e3, e4⟩ => ?_⟩
          subst e3 e4
          rw [Int.zero_add]
          exact ⟨.refl, r2, .int _, .refl _⟩
        · show j.toNat ≤ i
          simpa [upto] using hi
      · exact p1.elim
    · exact p1.elim
end
/-! ### comprehensions -/
/-- as bind, where nothing may be raised -/
def Res.bindN {α β : Type} (r : Res α) (g : α → Hq → Res β) : Res β := match r with
  | .ok a h => g a h
  | _ => .bad
@[simp] theorem Res.bindN_ok {α β : Type} (a : α) (h : Hq) (g : α → Hq → Res β) : (Res.ok a h).bindN g = g a h := rfl
@[simp] theorem Res.bindN_exc {α β : Type} (c : Str) (h : Hq) (g : α → Hq → Res β) : (Res.exc c h).bindN g = .bad := rfl
@[simp] theorem Res.bindN_bad {α β : Type} (g : α → Hq → Res β) : (Res.bad : Res α).bindN g = .bad := rfl
open Classical in
noncomputable def lcGo (T : Tg) (ft : Ev Bool) (fe : Ev D) (c : Option (Nat × O)) (all : List D) (ρ : Env') : List D → Hq → Res (List D)
  | [], h => if chkOk c all h then .ok [] h else .bad
  | d :: ds, h => if chkOk c all h then (match setT T d ρ with
    | none => .bad
    | some ρ1 => (ft ρ1 h).bindN fun b h1 => match b with
      | true => (fe ρ1 h1).bindN fun y h2 => (lcGo T ft fe c all ρ ds h2).bind fun ys h3 => .ok (y :: ys) h3
      | false => lcGo T ft fe c all ρ ds h1) else .bad
noncomputable def mLc (T : Tg) (vs : List Nat) (fi : Ev (List D × Option (Nat × O))) (ft : Ev Bool) (fe : Ev D) : Ev D := fun ρ h => (fi ρ h).bind fun p h1 => (lcGo T ft fe p.2 p.1 (wipeD ρ vs) p.1 h1).bind fun ys h2 => .ok (.lst ys) h2
noncomputable def mLcR (T : Tg) (vs : List Nat) (fi : Ev (List D × Option (Nat × O))) (ft : Ev Bool) (fe : Ev D) : Ev D := fun ρ h => (fi ρ h).bind fun p h1 => (lcGo T ft fe p.2 p.1 (wipeD ρ vs) p.1 h1).bind fun ys h2 => .ok (.ref h2.length) (h2 ++ [.lst ys])
def mYes : Ev Bool := fun _ h => .ok true h
abbrev W0 : WX := fun _ _ _ _ => False
theorem wipe_at (σ : L2.St) : ∀ (vs : List Nat) (j : Nat), (wipe σ vs)[j]? = if j ∈ vs then (if j < σ.length then some none else none) else σ[j]?
  | [], j => by simp [wipe]
  | v :: vs, j => by
    rw [wipe, List.getElem?_set, wipe_at σ vs j]
    by_cases hv : v = j
    · subst hv
      simp [wipe_length]
    · simp only [hv, if_false, List.mem_cons]
      have : ¬ j = v := fun z => hv z.symm
      simp [this]
theorem wipe_same {σ σ' : L2.St} {vs : List Nat} (hl : σ'.length = σ.length) (h : ∀ j, j ∉ vs → σ'[j]? = (wipe σ vs)[j]?) : wipe σ' vs = wipe σ vs := by
  refine List.ext_getElem? fun j => ?_
  rw [wipe_at, hl]
  by_cases hj : j ∈ vs
  · rw [if_pos hj, wipe_at, if_pos hj]
  · rw [if_neg hj, h j hj]
theorem Post.noexc {α β γ δ : Type} {K : PySem.W.Frag} {R : Wd → Hp → α → β → Prop} {R' : Wd → Hp → γ → δ → Prop} {mp : Wd} {H : Hp} {r : Res α} {g : α → Hq → Res γ} {Q : δ → Hp → Prop} {E E' : Str → Hp → Prop} (p : Post K R' mp H (r.bindN g) Q E) : Post K R mp H r (Aft K R R' mp H g Q E) E' := by
  cases r with
  | ok d h => exact fun v mp' H' l a b => ⟨mp', h, d, l, a, b, Post.le l p⟩
  | exc c h => exact p.elim
  | bad => exact p.elim
/-- [e for t in xs if c] -/
theorem lc_run {K : PySem.W.Frag} {T : Tg} {vs : List Nat} {ft : Ev Bool} {fe : Ev D} {ds : List D} {c : Option (Nat × O)} {ρ : Env'} {σ : L2.St} {J : It} {mp1 : Wd} {h1 : Hq} {H1 : Hp} {D0 : Addr} {Qd : Hp → Prop} (hT : ∀ i ∈ T.slots, i ∈ vs)
    (en : EnvRel K mp1 H1 ρ σ) (r1 : HRel K mp1 h1 H1) (it : ItIs K mp1 H1 (ds, c) J) (hD : H1 D0 = none) (res : Res (List D)) (hres : lcGo T ft fe c ds (wipeD ρ vs) ds h1 = res)
    (fin : ∀ ys h2 mp H ysV, res = .ok ys h2 → Le mp1 H1 mp H → HRel K mp h2 H → D0 ∈ mp.bn → D0 ∉ mp.pl → H D0 = some (.lst ysV) → RpAll K mp H ys ysV → Qd H) (nb : res ≠ .bad) :
    ∃ W : Nat → Nat → Hp → Prop, (∃ m, W 0 m (upd H1 D0 (.lst []))) ∧ ∀ i m H, W i m H →
      (J.stop i H ∧ Qd H) ∨ (J.go i H ∧ ∃ Nx : Hp → Prop, (∀ H', Nx H' → ∃ m', m' < m ∧ W (i + 1) m' H') ∧ ∀ x H', J.yld i H x H' → tGm K T x (wipe σ vs) H' fun σ2 H2 => wipe σ2 vs = wipe σ vs ∧ tT K W0 ft σ2 H2 fun b H3 =>
        if b = true then tE K W0 fe σ2 H3 fun y H4 => ∃ acc, H4 D0 = some (.lst acc) ∧ acc.length < sizeLine ∧ Nx (upd H4 D0 (.lst (acc ++ [y]))) else Nx H3) := by
  refine ⟨fun i m H => m = ds.length - i ∧ i ≤ ds.length ∧ ∃ mp h acc accV, Le mp1 H1 mp H ∧ HRel K mp h H ∧ D0 ∈ mp.bn ∧ D0 ∉ mp.pl ∧ H D0 = some (.lst accV) ∧ RpAll K mp H acc accV ∧ acc.length ≤ i ∧
    ((lcGo T ft fe c ds (wipeD ρ vs) (ds.drop i) h).bind fun ys h2 => .ok (acc ++ ys) h2) = res, ?_, ?_⟩
  · refine ⟨ds.length, by simp, Nat.zero_le _, mp1.ban D0, h1, [], [], le_ban r1 hD, r1.ban hD, List.mem_cons_self, fun z => r1.fresh hD (r1.sub _ z), upd_same, .nil, Nat.le_refl _, ?_⟩
    rw [List.drop_zero, hres]
    cases res <;> rfl
  · rintro i m H ⟨rfl, hi, mp, h, acc, accV, le, r, hb1, hb2, hD1, ra, hacc, e⟩
    have le1 : Le mp1 H1 mp H := le
    by_cases hlt : i < ds.length
    · right
      have hdrop : ds.drop i = ds[i] :: ds.drop (i + 1) := List.drop_eq_getElem_cons hlt
      have hget : ds[i]? = some ds[i] := List.getElem?_eq_getElem hlt
      rw [hdrop, lcGo] at e
      by_cases ck : chkOk c ds h
      · rw [if_pos ck] at e
        obtain ⟨go, yl⟩ := it.item mp h H le1 r ck i ds[i] hget
        refine ⟨go, fun H' => ∃ mp' h' acc' accV', Le mp1 H1 mp' H' ∧ HRel K mp' h' H' ∧ D0 ∈ mp'.bn ∧ D0 ∉ mp'.pl ∧ H' D0 = some (.lst accV') ∧ RpAll K mp' H' acc' accV' ∧ acc'.length ≤ i + 1 ∧
          ((lcGo T ft fe c ds (wipeD ρ vs) (ds.drop (i + 1)) h').bind fun ys h2 => .ok (acc' ++ ys) h2) = res, fun H' ⟨mp', h', acc', accV', a1, a2, a3, a4, a5, a6, a7, a8⟩ => ⟨ds.length - (i + 1), by omega, rfl, hlt, mp', h', acc', accV', a1, a2, a3, a4, a5, a6, a7, a8⟩, fun x H2 y => ?_⟩
        obtain ⟨le2, r2, rx, sm⟩ := yl x H2 y
        cases es : setT T ds[i] (wipeD ρ vs) with
        | none => rw [es] at e; exact absurd e.symm nb
        | some ρ1 =>
          rw [es] at e
          have enw : EnvRel K mp H2 (wipeD ρ vs) (wipe σ vs) := ((en.mono (le1.trans le2)).wipe vs)
          refine ⟨wipeD ρ vs, h, mp, ds[i], ρ1, r2, enw, rx, es, fun σ2 l2 k2 en2 => ⟨wipe_same (by rw [l2, wipe_length]) fun j hj => k2 j fun z => hj (hT j z), ?_⟩⟩
          have hD2 : H2 D0 = some (.lst accV) := sm _ _ hD1
          have ra2 := ra.mono le2
          dsimp only at e
          cases eft : ft ρ1 h with
          | bad => rw [eft] at e; exact absurd e.symm nb
          | exc cc hh => rw [eft] at e; exact absurd e.symm nb
          | ok b h3 =>
            rw [eft, Res.bindN_ok] at e
            refine ⟨ρ1, h, mp, r2, en2, ?_⟩
            rw [eft]
            intro b' mp3 H3 le3 r3 eb
            obtain rfl : b = b' := eb
            obtain ⟨o1, o2, o3⟩ := le3.own D0 hb1 hb2
            cases b with
            | false =>
              rw [if_neg (by decide)]
              exact ⟨mp3, h3, acc, accV, le.trans (le2.trans le3), r3, o2, o3, by rw [o1]; exact hD2, ra2.mono le3, by omega, e⟩
            | true =>
              rw [if_pos rfl]
              dsimp only at e
              cases efe : fe ρ1 h3 with
              | bad => rw [efe] at e; exact absurd e.symm nb
              | exc cc hh => rw [efe] at e; exact absurd e.symm nb
              | ok dy h4 =>
                rw [efe, Res.bindN_ok] at e
                refine ⟨ρ1, h3, mp3, r3, en2.mono le3, ?_⟩
                rw [efe]
                intro yv mp4 H4 le4 r4 ry
                obtain ⟨u1, u2, u3⟩ := le4.own D0 o2 o3
                have hD4 : H4 D0 = some (.lst accV) := by rw [u1, o1]; exact hD2
                refine ⟨accV, hD4, ?_, ?_⟩
                · have := it.sz
                  rw [← ra.length]
                  dsimp only at this
                  omega
                · have le5 := le.trans (le2.trans (le3.trans le4))
                  refine ⟨mp4, h4, acc ++ [dy], accV ++ [yv], ⟨le5.pre, fun a o ea na => ?_, fun a ea na => ?_⟩, r4.ownW u2 u3, u2, u3, upd_same, ((ra2.mono (le3.trans le4)).append (.cons ry .nil)).monoK (lk_own u2), by simp; omega, ?_⟩
                  · rw [upd_ne (ne_of_none ea hD)]; exact le5.keep a o ea na
                  · rw [upd_ne (show a ≠ D0 from fun z => r1.fresh hD (by rw [← z]; exact ea))]; exact le5.own a ea na
                  · rw [← e]
                    cases lcGo T ft fe c ds (wipeD ρ vs) (ds.drop (i + 1)) h4 <;> simp [Res.bind]
      · rw [if_neg ck] at e
        exact absurd e.symm nb
    · left
      have hie : i = ds.length := by omega
      subst hie
      rw [List.drop_length, lcGo] at e
      by_cases ck : chkOk c ds h
      · rw [if_pos ck] at e
        refine ⟨it.stop mp h H le1 r ck _ (Nat.le_refl _), ?_⟩
        exact fin _ _ mp H accV e.symm le r hb1 hb2 hD1 (by rw [List.append_nil]; exact ra)
      · rw [if_neg ck] at e
        exact absurd e.symm nb
end Mi
namespace Mi
open PySem PySem.Spec L2
theorem le_unban {mp1 mp : Wd} {H1 H : Hp} {h1 : Hq} {K : PySem.W.Frag} {D0 : Addr} (r1 : HRel K mp1 h1 H1) (hD : H1 D0 = none) (le : Le mp1 H1 mp H) : Le mp1 H1 (mp.unban D0) H :=
  ⟨le.pre, fun a o e n => ⟨(le.keep a o e n).1, unban_less D0 a (le.keep a o e n).2⟩, fun a ha n => ⟨(le.own a ha n).1, List.mem_filter.mpr ⟨(le.own a ha n).2.1, by
    have : a ≠ D0 := fun z => r1.fresh hD (by rw [← z]; exact ha)
    simpa using this⟩, (le.own a ha n).2.2⟩⟩
section
variable {X : Cx} {W : WX} {pos : Pos} {elt tg iter : Expr} {ifs : List Expr} {scope : Scope} {own : List (Str × Nat)} {fi : Ev (List D × Option (Nat × O))} {ft : Ev Bool} {fe : Ev D} {T : Tg}
theorem lc_read {σ : L2.St} {H : Hp} {Q : VK} (hT : ∀ i ∈ T.slots, i ∈ own.map (·.2)) (t : tE X.K W (mLc T (own.map (·.2)) fi ft fe) σ H Q) : tLc (tIm X.K W fi) (tGm X.K T) (tT X.K W0 ft) (tE X.K W0 fe) (own.map (·.2)) σ H Q := by
  obtain ⟨ρ, h, mp, r, en, p⟩ := t
  refine ⟨ρ, h, mp, r, en, Post.mono (Post.bind p) fun J H1 ⟨mp1, h1, d1, le1, r1, it, p1⟩ => fun D0 hD => ?_⟩
  obtain ⟨ds, c⟩ := d1
  refine lc_run (Qd := fun H' => Q (.ref D0) H') hT (en.mono le1) r1 it hD _ rfl (fun ys h2 mp2 H2 ysV e le2 r2 b1 b2 e2 ra => ?_) (fun z => ?_)
  · dsimp only at p1
    rw [e] at p1
    exact p1 (.ref D0) (mp2.unban D0) H2 (le_unban r1 hD le2) (r2.unban b2) (.lst e2 (fun z => by have := (List.mem_filter.mp z).2; simp at this) (RpAll.less (mp := mp2) (mp' := mp2.unban D0) rfl (unban_less D0) ra))
  · dsimp only at p1
    rw [z] at p1
    exact p1
theorem lc_readR {σ : L2.St} {H : Hp} {Q : VK} (hT : ∀ i ∈ T.slots, i ∈ own.map (·.2)) (t : tE X.K W (mLcR T (own.map (·.2)) fi ft fe) σ H Q) : tLc (tIm X.K W fi) (tGm X.K T) (tT X.K W0 ft) (tE X.K W0 fe) (own.map (·.2)) σ H Q := by
  obtain ⟨ρ, h, mp, r, en, p⟩ := t
  refine ⟨ρ, h, mp, r, en, Post.mono (Post.bind p) fun J H1 ⟨mp1, h1, d1, le1, r1, it, p1⟩ => fun D0 hD => ?_⟩
  obtain ⟨ds, c⟩ := d1
  refine lc_run (Qd := fun H' => Q (.ref D0) H') hT (en.mono le1) r1 it hD _ rfl (fun ys h2 mp2 H2 ysV e le2 r2 b1 b2 e2 ra => ?_) (fun z => ?_)
  · dsimp only at p1
    rw [e] at p1
    have lk : Lk mp2 H2 ⟨mp2.pl ++ [D0], mp2.bn⟩ H2 := ⟨⟨[D0], rfl⟩, fun a o e n => ⟨e, n⟩⟩
    have r3 : HRel X.K ⟨mp2.pl ++ [D0], mp2.bn⟩ (h2 ++ [.lst ys]) H2 := by
      refine ⟨by simp [r2.len], List.nodup_append.mpr ⟨r2.nd, by simp, fun a ha b hb z => ?_⟩, fun a ha => ?_, r2.there, fun l u a h3 h4 => ?_⟩
      · have : b = D0 := by simpa using hb
        exact b2 (by rw [← this, ← z]; exact ha)
      · rcases List.mem_append.mp ha with z | z
        · exact r2.sub a z
        · have : a = D0 := by simpa using z
          rw [this]; exact b1
      · by_cases hl : l < h2.length
        · rw [List.getElem?_append_left hl] at h3
          rw [List.getElem?_append_left (by rw [r2.len]; exact hl)] at h4
          exact (r2.obj l u a h3 h4).monoK lk rfl
        · rw [List.getElem?_append_right (by omega)] at h3
          rw [List.getElem?_append_right (by rw [r2.len]; omega)] at h4
          rw [r2.len] at h4
          cases hn : l - h2.length with
          | zero =>
            rw [hn] at h3 h4
            simp at h3 h4
            subst h3; subst h4
            exact ⟨ysV, e2, ra.monoK lk⟩
          | succ n => rw [hn] at h3; simp at h3
    refine p1 (.ref D0) ⟨mp2.pl ++ [D0], mp2.bn⟩ H2 ⟨?_, le2.keep, fun a ha n => ?_⟩ r3 (.ref ?_)
    · obtain ⟨m, e3⟩ := le2.pre
      exact ⟨m ++ [D0], by simp [e3]⟩
    · obtain ⟨o1, o2, o3⟩ := le2.own a ha n
      refine ⟨o1, o2, fun z => ?_⟩
      rcases List.mem_append.mp z with z | z
      · exact o3 z
      · have e4 : a = D0 := by simpa using z
        exact r1.fresh hD (by rw [← e4]; exact ha)
    · rw [← r2.len]; simp
  · dsimp only at p1
    rw [z] at p1
    exact p1
theorem se_lc (hc : X.calm = true) (hN : X.N.Nodup) (hi : SI X W tg iter fi) (ok : BlkOk X.N X.env.scope scope own) (hT : ∀ i ∈ T.slots, i ∈ own.map (·.2))
    (hg : ∀ (s : Shared) (H : Hp) (C : Addr) (cl : List (Str × Addr)) (fp : List Addr), SG (X.blk s H scope (compEnvC scope cl C X.env) fp) tg T)
    (ht : ∀ (s : Shared) (H : Hp) (C : Addr) (cl : List (Str × Addr)) (fp : List Addr), PTs (X.blk s H scope (compEnvC scope cl C X.env) fp) ifs (tT X.K W0 ft))
    (he : ∀ (s : Shared) (H : Hp) (C : Addr) (cl : List (Str × Addr)) (fp : List Addr), SE (X.blk s H scope (compEnvC scope cl C X.env) fp) W0 elt fe)
    (hs : ∀ x, foldedSetIterable iter X.env x = pure x := by intro _; rfl) : SE X W (.ListComp elt [⟨tg, iter, ifs, 0⟩] scope pos) (mLc T (own.map (·.2)) fi ft fe) :=
  PE.imp (pe_lc hc hN hi ok hg ht he hs) fun σ H Q t => lc_read hT t
theorem se_lcR (hc : X.calm = true) (hN : X.N.Nodup) (hi : SI X W tg iter fi) (ok : BlkOk X.N X.env.scope scope own) (hT : ∀ i ∈ T.slots, i ∈ own.map (·.2))
    (hg : ∀ (s : Shared) (H : Hp) (C : Addr) (cl : List (Str × Addr)) (fp : List Addr), SG (X.blk s H scope (compEnvC scope cl C X.env) fp) tg T)
    (ht : ∀ (s : Shared) (H : Hp) (C : Addr) (cl : List (Str × Addr)) (fp : List Addr), PTs (X.blk s H scope (compEnvC scope cl C X.env) fp) ifs (tT X.K W0 ft))
    (he : ∀ (s : Shared) (H : Hp) (C : Addr) (cl : List (Str × Addr)) (fp : List Addr), SE (X.blk s H scope (compEnvC scope cl C X.env) fp) W0 elt fe)
    (hs : ∀ x, foldedSetIterable iter X.env x = pure x := by intro _; rfl) : SE X W (.ListComp elt [⟨tg, iter, ifs, 0⟩] scope pos) (mLcR T (own.map (·.2)) fi ft fe) :=
  PE.imp (pe_lc hc hN hi ok hg ht he hs) fun σ H Q t => lc_readR hT t
end
theorem sts_nil {X : Cx} {W : WX} : PTs X [] (tT X.K W mYes) := ⟨fun pins s σ H Q I ⟨ρ, h, mp, r, en, p⟩ => pts_nil.run pins s σ H Q I (Post.ok (v := true) p r rfl)⟩
theorem sts_one {X : Cx} {W : WX} {c : Expr} {f : Ev Bool} (h : ST X W c f) : PTs X [c] (tT X.K W f) := pts_one h
/-! ### statements -/
def Res.bindS {α : Type} (r : Res α) (ρ : Env') (g : α → Hq → SR) : SR := match r with
  | .ok a h => g a h
  | .exc c h => .exc c ρ h
  | .bad => .bad
@[simp] theorem Res.bindS_ok {α : Type} (a : α) (h : Hq) (ρ : Env') (g : α → Hq → SR) : (Res.ok a h).bindS ρ g = g a h := rfl
@[simp] theorem Res.bindS_exc {α : Type} (c : Str) (h : Hq) (ρ : Env') (g : α → Hq → SR) : (Res.exc c h).bindS ρ g = .exc c ρ h := rfl
@[simp] theorem Res.bindS_bad {α : Type} (ρ : Env') (g : α → Hq → SR) : (Res.bad : Res α).bindS ρ g = .bad := rfl
def AftS {α β : Type} (K : PySem.W.Frag) (R : Wd → Hp → α → β → Prop) (mp : Wd) (H : Hp) (g : α → Hq → SR) (D : Ends) (W : WX) (v : β) (H1 : Hp) : Prop :=
  ∃ mp1 h1 d, Le mp H mp1 H1 ∧ HRel K mp1 h1 H1 ∧ R mp1 H1 d v ∧ PostS K mp1 H1 (g d h1) D W
theorem PostS.bind {α β : Type} {K : PySem.W.Frag} {R : Wd → Hp → α → β → Prop} {mp : Wd} {H : Hp} {r : Res α} {ρ : Env'} {σ : L2.St} {g : α → Hq → SR} {D : Ends} {W : WX} (en : EnvRel K mp H ρ σ) (p : PostS K mp H (r.bindS ρ g) D W) : Post K R mp H r (AftS K R mp H g D W) (wE K W σ) := by
  cases r with
  | ok d h => exact fun v mp' H' l a b => ⟨mp', h, d, l, a, b, PostS.le l p⟩
  | exc c h => exact fun mp' H' l a => p σ mp' H' l a (en.mono l)
  | bad => exact p
def mSkip : Ex := fun ρ h => .nx ρ h
def mSeq (f g : Ex) : Ex := fun ρ h => match f ρ h with
  | .nx ρ1 h1 => g ρ1 h1
  | r => r
def mSet (T : Tg) (f : Ev D) : Ex := fun ρ h => (f ρ h).bindS ρ fun d h1 => match setT T d ρ with
  | some ρ1 => .nx ρ1 h1
  | none => .bad
def mExpr (f : Ev D) : Ex := fun ρ h => (f ρ h).bindS ρ fun _ h1 => .nx ρ h1
def mRet (f : Ev D) : Ex := fun ρ h => (f ρ h).bindS ρ fun d h1 => .rt d h1
def mIf (c : Ev Bool) (f g : Ex) : Ex := fun ρ h => (c ρ h).bindS ρ fun b h1 => match b with
  | true => f ρ h1
  | false => g ρ h1
section
variable {X : Cx} {W : WX} {pos : Pos} {e : Expr} {st : Stmt} {rest a b : List Stmt} {f : Ev D} {fs gs : Ex} {c : Ev Bool}
theorem ss_nil : SSs X W [] mSkip := PSs.imp pss_nil fun D σ H ⟨ρ, h, mp, r, en, p⟩ => p σ mp H .refl r en
theorem ss_cons (h1 : SS X W st fs) (h2 : SSs X W rest gs) : SSs X W (st :: rest) (mSeq fs gs) := PSs.imp (pss_cons h1 h2) fun D σ H ⟨ρ, h, mp, r, en, p⟩ => by
  refine ⟨ρ, h, mp, r, en, ?_⟩
  unfold mSeq at p
  cases e : fs ρ h with
  | nx ρ1 h1 =>
    rw [e] at p
    exact fun σ' mp' H' l a b => ⟨ρ1, h1, mp', a, b, PostS.le l p⟩
  | rt d h1 => rw [e] at p; exact p
  | bk ρ1 h1 => rw [e] at p; exact p
  | ct ρ1 h1 => rw [e] at p; exact p
  | exc c ρ1 h1 => rw [e] at p; exact p
  | bad => rw [e] at p; exact p
theorem ss_one (h1 : SS X W st fs) : SSs X W [st] fs := pss_one h1
theorem ss_expr (he : SE X W e f) (hs : swapsWith e none pos.line X.env = pure false := by rfl) : SS X W (.Expr e pos) (mExpr f) := PS.imp (ps_expr he hs) fun D σ H ⟨ρ, h, mp, r, en, p⟩ =>
  ⟨ρ, h, mp, r, en, Post.mono (PostS.bind en p) fun v H1 ⟨mp1, h1, d, le, r1, _, p1⟩ => p1 σ mp1 H1 .refl r1 (en.mono le)⟩
theorem ss_pass : SS X W (.Pass pos) mSkip := PS.imp ps_pass fun D σ H ⟨ρ, h, mp, r, en, p⟩ => p σ mp H .refl r en
theorem ss_ret (he : SE X W e f) : SS X W (.Return (some e) pos) (mRet f) := PS.imp (ps_ret he) fun D σ H ⟨ρ, h, mp, r, en, p⟩ =>
  ⟨ρ, h, mp, r, en, Post.mono (PostS.bind en p) fun v H1 ⟨mp1, h1, d, le, r1, q, p1⟩ => p1 v mp1 H1 .refl r1 q⟩
theorem ss_if {t : Expr} (hc : ST X W t c) (ha : SSs X W a fs) (hb : SSs X W b gs) : SS X W (.If t a b pos) (mIf c fs gs) := PS.imp (ps_if hc ha hb) fun D σ H ⟨ρ, h, mp, r, en, p⟩ => by
  refine ⟨ρ, h, mp, r, en, Post.mono (PostS.bind (R := rB) en p) fun v H1 ⟨mp1, h1, d, le, r1, q, p1⟩ => ?_⟩
  obtain rfl : d = v := q
  cases d with
  | true => rw [if_pos rfl]; exact ⟨ρ, h1, mp1, r1, en.mono le, p1⟩
  | false => rw [if_neg (by decide)]; exact ⟨ρ, h1, mp1, r1, en.mono le, p1⟩
/-- name = e -/
theorem ss_set (i : Nat) {x : Str} {pos' : Pos} (hN : X.N.Nodup) (he : SE X W e f) (hi : X.N[i]? = some x := by rfl) (hx : Loc X.env.scope x := by first | exact Or.inl rfl | exact Or.inr rfl) (hs : swapsWith e (some (.Name x pos')) pos.line X.env = pure false := by rfl)
    (hf : X.fn x = true ∨ X.env.scope.names.lookup x = some .local := by first | exact .inl rfl | exact .inr rfl) : SS X W (.Assign [.Name x pos'] e pos) (mSet (.nm i) f) := PS.imp (ps_set hN hi hx he hs hf) fun D σ H ⟨ρ, h, mp, r, en, p⟩ =>
  ⟨ρ, h, mp, r, en, Post.mono (PostS.bind en p) fun v H1 ⟨mp1, h1, d, le, r1, q, p1⟩ => p1 _ mp1 H1 .refl r1 ((en.mono le).set q)⟩
/-- a, b = e -/
theorem ss_asg {tg : Expr} {T : Tg} (he : SE X W e f) (hg : SG X tg T) (hs : swapsWithSole [tg] e pos.line X.env = pure false := by rfl) (hw : swappedStores [tg] e X.env = pure none := by rfl) (h1 : (assignEach [tg] X.env).map (·.2) = [assign tg X.env] := by rfl) :
    SS X W (.Assign [tg] e pos) (mSet T f) := PS.imp (ps_asg he hg hs hw h1) fun D σ H ⟨ρ, h, mp, r, en, p⟩ => by
  refine ⟨ρ, h, mp, r, en, Post.mono (PostS.bind en p) fun v H1 ⟨mp1, h1, d, le, r1, q, p1⟩ => ?_⟩
  dsimp only at p1
  cases es : setT T d ρ with
  | none => rw [es] at p1; exact p1.elim
  | some ρ1 =>
    rw [es] at p1
    exact ⟨ρ, h1, mp1, d, ρ1, r1, en.mono le, q, es, fun σ' _ _ en' => p1 σ' mp1 H1 .refl r1 en'⟩
/-- name = [e for ..] -/
theorem ss_setLc (i : Nat) {y : Str} {py : Pos} {elt tg iter : Expr} {ifs : List Expr} {scope : Scope} {own : List (Str × Nat)} {spos : Pos} {fi : Ev (List D × Option (Nat × O))} {ft : Ev Bool} {fe : Ev D} {T : Tg} (hc : X.calm = true) (hN : X.N.Nodup) (hi : SI X W tg iter fi) (ok : BlkOk X.N X.env.scope scope own)
    (hT : ∀ i ∈ T.slots, i ∈ own.map (·.2))
    (hg : ∀ (s : Shared) (H : Hp) (C : Addr) (cl : List (Str × Addr)) (fp : List Addr), SG (X.blk s H scope (compEnvC scope cl C X.env) fp) tg T)
    (ht : ∀ (s : Shared) (H : Hp) (C : Addr) (cl : List (Str × Addr)) (fp : List Addr), PTs (X.blk s H scope (compEnvC scope cl C X.env) fp) ifs (tT X.K W0 ft))
    (he : ∀ (s : Shared) (H : Hp) (C : Addr) (cl : List (Str × Addr)) (fp : List Addr), SE (X.blk s H scope (compEnvC scope cl C X.env) fp) W0 elt fe)
    (hsw : swapsWith (.ListComp elt [⟨tg, iter, ifs, 0⟩] scope pos) (some (.Name y py)) spos.line X.env = pure true)
    (hy : X.N[i]? = some y := by rfl) (hyl : X.env.scope.names.lookup y = some .local := by rfl) (hs : ∀ x, foldedSetIterable iter X.env x = pure x := by intro _; rfl) :
    SS X W (.Assign [.Name y py] (.ListComp elt [⟨tg, iter, ifs, 0⟩] scope pos) spos) (mSet (.nm i) (mLc T (own.map (·.2)) fi ft fe)) :=
  PS.imp (ps_setLc hc hN hy hyl hsw hi ok hg ht he hs) fun D σ H ⟨ρ, h, mp, r, en, p⟩ => lc_read hT ⟨ρ, h, mp, r, en, Post.mono (PostS.bind en p) fun v H1 ⟨mp1, h1, d, le, r1, q, p1⟩ => p1 _ mp1 H1 .refl r1 ((en.mono le).set q)⟩
end
end Mi
namespace Mi
open PySem PySem.Spec L2
/-! ### loops -/
open Classical in
noncomputable def forGo (T : Tg) (c : Option (Nat × O)) (all : List D) (body : Ex) : List D → Ex
  | [], ρ, h => if chkOk c all h then .nx ρ h else .bad
  | d :: ds, ρ, h => if chkOk c all h then (match setT T d ρ with
    | none => .bad
    | some ρ1 => match body ρ1 h with
      | .nx ρ2 h2 => forGo T c all body ds ρ2 h2
      | .ct ρ2 h2 => forGo T c all body ds ρ2 h2
      | .bk ρ2 h2 => .nx ρ2 h2
      | .rt v h2 => .rt v h2
      | .exc x ρ2 h2 => .exc x ρ2 h2
      | .bad => .bad) else .bad
noncomputable def mFor (T : Tg) (fi : Ev (List D × Option (Nat × O))) (body : Ex) : Ex := fun ρ h => (fi ρ h).bindS ρ fun p h1 => forGo T p.2 p.1 body p.1 ρ h1
def whGo (c : Ev Bool) (body : Ex) : Nat → Ex
  | 0, _, _ => .bad
  | n + 1, ρ, h => (c ρ h).bindS ρ fun b h1 => match b with
    | false => .nx ρ h1
    | true => match body ρ h1 with
      | .nx ρ2 h2 => whGo c body n ρ2 h2
      | .ct ρ2 h2 => whGo c body n ρ2 h2
      | .bk ρ2 h2 => .nx ρ2 h2
      | .rt v h2 => .rt v h2
      | .exc x ρ2 h2 => .exc x ρ2 h2
      | .bad => .bad
def mWhile (n : Nat) (c : Ev Bool) (body : Ex) : Ex := whGo c body n
section
variable {X : Cx} {W : WX} {pos : Pos} {tg iter : Expr} {body : List Stmt} {fi : Ev (List D × Option (Nat × O))} {fb : Ex} {T : Tg}
theorem ss_for (hp : PassesOwn (model X.prog X.w) X.A X.env X.xe) (hc : X.calm = true) (hi : SI X W tg iter fi) (hg : SG X tg T) (hb : SSs X W body fb) (hs : ∀ x, foldedSetIterable iter X.env x = pure x := by intro _; rfl) : SS X W (.For tg iter body [] pos) (mFor T fi fb) :=
  PS.imp (ps_for hp hc hi hg hb hs) fun D σ H ⟨ρ, h, mp, r, en, p⟩ => by
    refine ⟨ρ, h, mp, r, en, Post.mono (PostS.bind en p) fun J H1 ⟨mp1, h1, d1, le1, r1, it, p1⟩ => ?_⟩
    obtain ⟨ds, c⟩ := d1
    dsimp only at p1
    refine ⟨fun i m σ' H' => m = ds.length - i ∧ i ≤ ds.length ∧ ∃ ρ' h' mp', Le mp1 H1 mp' H' ∧ HRel X.K mp' h' H' ∧ EnvRel X.K mp' H' ρ' σ' ∧ PostS X.K mp' H' (forGo T c ds fb (ds.drop i) ρ' h') D W, ⟨ds.length, by simp, Nat.zero_le _, ρ, h1, mp1, .refl, r1, en.mono le1, p1⟩, ?_⟩
    rintro i m σ' H' ⟨rfl, hi', ρ', h', mp', le, r', en', q⟩
    by_cases hlt : i < ds.length
    · right
      have hdrop : ds.drop i = ds[i] :: ds.drop (i + 1) := List.drop_eq_getElem_cons hlt
      rw [hdrop, forGo] at q
      by_cases ck : chkOk c ds h'
      · rw [if_pos ck] at q
        obtain ⟨go, yl⟩ := it.item mp' h' H' le r' ck i ds[i] (List.getElem?_eq_getElem hlt)
        refine ⟨go, fun σ2 H2 => ∃ ρ' h' mp', Le mp1 H1 mp' H2 ∧ HRel X.K mp' h' H2 ∧ EnvRel X.K mp' H2 ρ' σ2 ∧ PostS X.K mp' H2 (forGo T c ds fb (ds.drop (i + 1)) ρ' h') D W, fun σ2 H2 z => ⟨ds.length - (i + 1), by omega, rfl, hlt, z⟩, fun x H2 y => ?_⟩
        obtain ⟨le2, r2, rx, sm⟩ := yl x H2 y
        cases es : setT T ds[i] ρ' with
        | none => rw [es] at q; exact q.elim
        | some ρ1 =>
          rw [es] at q
          refine ⟨ρ', h', mp', ds[i], ρ1, r2, en'.mono le2, rx, es, fun σ2 _ _ en2 => ?_⟩
          refine ⟨ρ1, h', mp', r2, en2, ?_⟩
          dsimp only at q
          cases eb : fb ρ1 h' with
          | nx ρ2 h2 =>
            rw [eb] at q
            exact fun σ3 mp3 H3 le3 r3 en3 => ⟨ρ2, h2, mp3, le.trans (le2.trans le3), r3, en3, PostS.le (le2.trans le3) q⟩
          | ct ρ2 h2 =>
            rw [eb] at q
            exact fun σ3 mp3 H3 le3 r3 en3 => ⟨ρ2, h2, mp3, le.trans (le2.trans le3), r3, en3, PostS.le (le2.trans le3) q⟩
          | bk ρ2 h2 => rw [eb] at q; exact fun σ3 mp3 H3 le3 r3 en3 => q σ3 mp3 H3 (le2.trans le3) r3 en3
          | rt v h2 => rw [eb] at q; exact fun v3 mp3 H3 le3 r3 en3 => q v3 mp3 H3 (le2.trans le3) r3 en3
          | exc x ρ2 h2 => rw [eb] at q; exact fun σ3 mp3 H3 le3 r3 en3 => q σ3 mp3 H3 (le2.trans le3) r3 en3
          | bad => rw [eb] at q; exact q.elim
      · rw [if_neg ck] at q; exact q.elim
    · left
      have hie : i = ds.length := by omega
      subst hie
      rw [List.drop_length, forGo] at q
      by_cases ck : chkOk c ds h'
      · rw [if_pos ck] at q
        exact ⟨it.stop mp' h' H' le r' ck _ (Nat.le_refl _), q σ' mp' H' .refl r' en'⟩
      · rw [if_neg ck] at q; exact q.elim
theorem ss_while (n : Nat) {t : Expr} {c : Ev Bool} (hp : PassesOwn (model X.prog X.w) X.A X.env X.xe) (hc : ST X W t c) (hb : SSs X W body fb) : SS X W (.While t body [] pos) (mWhile n c fb) :=
  PS.imp (ps_while hp hc hb) fun D σ H ⟨ρ, h, mp, r, en, p⟩ => by
    refine ⟨fun m σ' H' => ∃ ρ' h' mp', HRel X.K mp' h' H' ∧ EnvRel X.K mp' H' ρ' σ' ∧ PostS X.K mp' H' (whGo c fb m ρ' h') D W, ⟨n, ρ, h, mp, r, en, p⟩, ?_⟩
    rintro m σ' H' ⟨ρ', h', mp', r', en', q⟩
    cases m with
    | zero => exact q.elim
    | succ m =>
      rw [whGo] at q
      refine ⟨ρ', h', mp', r', en', Post.mono (PostS.bind (R := rB) en' q) fun b H1 ⟨mp1, h1, d, le, r1, eb, p1⟩ => ?_⟩
      obtain rfl : d = b := eb
      cases d with
      | false => rw [if_neg (by decide)]; exact p1 σ' mp1 H1 .refl r1 (en'.mono le)
      | true =>
        rw [if_pos rfl]
        dsimp only at p1
        refine ⟨fun σ2 H2 => ∃ ρ' h' mp', HRel X.K mp' h' H2 ∧ EnvRel X.K mp' H2 ρ' σ2 ∧ PostS X.K mp' H2 (whGo c fb m ρ' h') D W, fun σ2 H2 z => ⟨m, Nat.lt_succ_self _, z⟩, ρ', h1, mp1, r1, en'.mono le, ?_⟩
        cases ef : fb ρ' h1 with
        | nx ρ2 h2 => rw [ef] at p1; exact fun σ3 mp3 H3 le3 r3 en3 => ⟨ρ2, h2, mp3, r3, en3, PostS.le le3 p1⟩
        | ct ρ2 h2 => rw [ef] at p1; exact fun σ3 mp3 H3 le3 r3 en3 => ⟨ρ2, h2, mp3, r3, en3, PostS.le le3 p1⟩
        | bk ρ2 h2 => rw [ef] at p1; exact p1
        | rt v h2 => rw [ef] at p1; exact p1
        | exc x ρ2 h2 => rw [ef] at p1; exact p1
        | bad => rw [ef] at p1; exact p1.elim
end
/-! ### calls of own defs -/
abbrev Calls (F : Type) := F → List D → Hq → Res D
def eX (K : PySem.W.Frag) (E : XK) : Str → Hp → Prop := fun c H' => E (.ref (He.ga K c)) none H'
/-- what is promised of a def: it does what C says -/
def spM {F : Type} (K : PySem.W.Frag) (C : Calls F) (f : F) (n : Nat) : Sp := fun vs H Q E => vs.length = n ∧ ∃ mp h ds, HRel K mp h H ∧ RpAll K mp H ds vs ∧ Post K (rD K) mp H (C f ds h) Q (eX K E)
/-- a def of the module -/
structure FnA {F : Type} (P : Program) (w : World) (K : PySem.W.Frag) (mg : Str → Option Value) (base : Heap) (C : Calls F) (k : Nat) (f : F) (x : Str) (ps : List Str) : Prop where
  ok : ∃ fd, FnOk P w K mg base (L2.CX P w) k (He.ga K x) fd ps (spM K C f ps.length) ∧ Binds K fd ps []
  mg : mg x = some (.ref (He.ga K x))
  kp : PySem.W.keepIn K (.ref (He.ga K x)) = true
def mCall {F : Type} (C : Calls F) (f : F) (n : Nat) (fa : Ev (List D)) : Ev D := fun ρ h => (fa ρ h).bind fun ds h1 => if ds.length = n then C f ds h1 else .bad
section
variable {F : Type} {X : Cx} {W : WX} {pos p : Pos} {e : Expr} {es : List Expr} {C : Calls F} {k : Nat} {f : F} {x : Str} {ps : List Str} {fa : Ev (List D)}
theorem se_call (A : FnA X.prog X.w X.K X.mg X.base C k f x ps) (hr : Room k X.A) (tk : Takes X W) (ha : SA X W (e :: es) fa) (hg : Gl X x := by rfl) (hdb : (x == ("__debug__" : Str)) = false := by decide) (he : starEach (e :: es) X.env = (false, eval e X.env) :: starEach es X.env := by rfl)
    (hpl : (backTo pos (starEach es X.env)).any (·.1) = false := by rfl) : SE X W (.Call (.Name x p) (e :: es) [] pos) (mCall C f ps.length fa) := by
  obtain ⟨fd, ok, b⟩ := A.ok
  refine PE.imp (pe_callS ok hr hg A.mg A.kp b (fun σ => passAt tk σ) ha hdb he hpl) fun σ H Q ⟨ρ, h, mp, r, en, q⟩ => ?_
  refine ⟨ρ, h, mp, r, en, Post.mono (Post.bind (R := rA X.K) q) fun v H1 ⟨mp1, h1, ds, le1, r1, q1, p1⟩ => ?_⟩
  dsimp only at p1
  split at p1
  · rename_i hl
    exact ⟨by rw [← q1.length, hl], mp1, h1, ds, r1, q1, p1⟩
  · exact p1.elim
end
/-- what a def's body comes to -/
def SR.res : SR → Res D
  | .nx _ h => .ok .non h
  | .rt d h => .ok d h
  | .exc c _ h => .exc c h
  | _ => .bad
def startD (n : Nat) (ds : List D) : Env' := ds.map some ++ List.replicate (n - ds.length) none
theorem start_rel {K : PySem.W.Frag} {mp : Wd} {H : Hp} {ds : List D} {vs : List V} {N : List Str} (a : RpAll K mp H ds vs) : EnvRel K mp H (startD N.length ds) (L2.start N vs) := by
  refine ⟨by simp [startD, L2.start, a.length], fun i d e => ?_⟩
  unfold startD at e
  have hi : i < ds.length := by
    by_cases hi : i < ds.length
    · exact hi
    · rw [List.getElem?_append_right (by simpa using hi), List.getElem?_replicate] at e
      split at e <;> cases e
  rw [List.getElem?_append_left (by simpa using hi), List.getElem?_map, Option.map_eq_some_iff] at e
  obtain ⟨d', e1, e2⟩ := e
  cases e2
  obtain ⟨v, h1, h2⟩ := a.get e1
  refine ⟨v, ?_, h2⟩
  unfold L2.start
  rw [List.getElem?_append_left (by rw [List.length_map, ← a.length]; exact hi), List.getElem?_map, h1]
  rfl
/-- a def of the text does what its body's reading says -/
theorem fn_mi {F : Type} {fx : F} {P : Program} {w : World} {K : PySem.W.Frag} {mg : Str → Option Value} {base : Heap} {nm qual : Str} {params : Arguments} {body : List Stmt} {scope : Scope} {f : Addr} {fd : FuncData} {N ps : List Str} {k : Nat} {C : Calls F} {b : Ex}
    (FD : FunD K nm qual params body scope [] [] f fd) (S : FnScope N ps scope) (hC : ∀ ds h, ds.length = ps.length → C fx ds h = (b (startD N.length ds) h).res)
    (hb : ∀ (cdv : Value) (A : Around) (outer : List Env) (s : Shared) (H : Hp) (E : XK), Room k (A.deeper (PyProof.Rows.envOfC qual scope s.heap.objs.size f cdv)) →
      SSs (cxOf (L2.CX P w) P w K mg base N qual scope f cdv A outer s H E) (fun c d _ H' => E c d H') body b) :
    FnOk P w K mg base (L2.CX P w) (k + 1) f fd ps (spM K C fx ps.length) := by
  refine FD.ok S (fun vs H Q E h => h.1) fun cdv A outer s H vs Q E hr ⟨hl, mp, h, ds, r, a, q⟩ => ⟨_, hb cdv A outer s H E hr, startD N.length ds, h, mp, r, start_rel a, ?_⟩
  rw [hC ds h (by rw [a.length, hl])] at q
  show PostS K mp H (b (startD N.length ds) h) _ _
  cases e : b (startD N.length ds) h with
  | nx ρ1 h1 => rw [e] at q; exact fun σ' mp' H' le r' _ => q .non mp' H' le r' .non
  | rt d h1 => rw [e] at q; exact q
  | bk ρ1 h1 => rw [e] at q; exact q.elim
  | ct ρ1 h1 => rw [e] at q; exact q.elim
  | exc c ρ1 h1 => rw [e] at q; exact fun σ' mp' H' le r' _ => q mp' H' le r'
  | bad => rw [e] at q; exact q.elim
end Mi
namespace Mi
open PySem PySem.W PySem.Calls PyProof.Rows
section
variable {prog : Program} {w : World} {A : Around} {E : Value → Shared → Prop} {s : Shared}
/-- whether a tuple has an item -/
def hasItem : PyData → Bool
  | .tuple (_ :: _) => true
  | _ => false
theorem firsts_mix {M : Model} : ∀ {vs : List Value} {ds : List PyData}, EachIs (fun v d => ∃ as, Reads s.heap v d as) vs ds → (∀ d, d ∈ ds → ∃ xs, d = .tuple xs) →
    ∃ fs : List (Option Value), fs.map (·.isSome) = ds.map hasItem ∧ ∀ (E : Value → Shared → Prop) (Q : List (Option Value) → Shared → Prop), Q fs s → wpAny M A (vs.mapM firstOfTuple') Q E s
  | _, _, .nil, _ => ⟨[], rfl, fun E Q h => by rw [List.mapM_nil]; exact wpAny_pure h⟩
  | _, _, .cons (b := d) ⟨as, r⟩ t, ht => by
    obtain ⟨fs, h1, h2⟩ := firsts_mix (M := M) t fun d hd => ht d (List.mem_cons_of_mem _ hd)
    obtain ⟨ys, rfl⟩ := ht d (List.mem_cons_self ..)
    cases r with
    | @tuple a o xs n _ _ ho hc hd hr =>
      have go : ∀ (E : Value → Shared → Prop) (Q : Option Value → Shared → Prop), Q xs[0]? s → wpAny M A (firstOfTuple' (.ref a)) Q E s := fun E Q hq => by
        rw [kas_first_eq]
        refine wpAny_bind (Looks.here (show Looks M s.heap (typeOf (.ref a)) o.cls from (Looks.ld ho).andThen .now) ?_)
        rw [hc, if_neg (by first | decide | simp)]
        exact wpAny_bind (listItems_at ho hd (wpAny_pure hq))
      refine ⟨xs[0]? :: fs, ?_, fun E Q hq => ?_⟩
      · rw [List.map_cons, List.map_cons, h1]
        congr 1
        cases q : xs.toList with
        | nil =>
          rw [q] at hr
          cases hr
          have : xs = #[] := Array.toList_eq_nil_iff.mp q
          subst this
          rfl
        | cons f fr =>
          rw [q] at hr
          cases hr
          have hf : xs[0]? = some f := by rw [← Array.getElem?_toList, q]; rfl
          rw [hf]; rfl
      · rw [List.mapM_cons]
        exact wpAny_bind (go E _ (wpAny_bind (h2 E (fun bs s' => wpAny M A (pure (xs[0]? :: bs)) Q E s') (wpAny_pure hq))))
theorem kind_mix {M : Model} {vs : List Value} {ds : List PyData} (e : EachIs (fun v d => ∃ as, Reads s.heap v d as) vs ds) (ht : ∀ d, d ∈ ds → ∃ xs, d = .tuple xs) (hne : ds.all hasItem = false) :
    ∃ kd : SortKind, (kd = general' ∨ kd = oneType') ∧ ∀ (E : Value → Shared → Prop) (Q : SortKind → Shared → Prop), Q kd s → wpAny M A (keyKind' vs.toArray) Q E s := by
  obtain ⟨fs, h1, h2⟩ := firsts_mix (A := A) (M := M) e ht
  have hall : (fs.toArray.all fun x => x.isSome) = false := by
    rw [List.all_toArray, ← hne]
    have : fs.all (fun x => x.isSome) = (fs.map (·.isSome)).all id := by rw [List.all_map]; rfl
    rw [this, h1, List.all_map]; rfl
  refine ⟨if (fs.toArray[0]?.bind id).isSome then general' else oneType', ?_, fun E Q hq => ?_⟩
  · split
    · exact .inl rfl
    · exact .inr rfl
  · rw [keyKind'_eq, List.mapM_toArray, map_eq_pure_bind]
    refine wpAny_bind (wpAny_bind (h2 E _ (wpAny_pure ?_)))
    rw [if_neg (by rw [hall]; decide)]
    by_cases hf : (fs.toArray[0]?.bind id).isSome = true
    · rw [if_pos hf] at hq ⊢
      exact wpAny_pure hq
    · rw [if_neg hf] at hq ⊢
      rw [oneTypeOnly'_eq, List.mapM_toArray, map_eq_pure_bind]
      refine wpAny_bind (wpAny_bind (wpAny_bind (kas_mapM (r := Value.type "tuple") _ (fun v hv Q' hq' => ?_) (wpAny_pure ?_))))
      · obtain ⟨d, hd, as, r⟩ := e.left v hv
        obtain ⟨xs, rfl⟩ := ht d hd
        exact (looks_reads r).here hq'
      · have hv : vs ≠ [] := by
          rintro rfl
          cases e
          simp at hne
        obtain ⟨v0, vr, rfl⟩ : ∃ a b, vs = a :: b := by cases vs with
          | nil => exact absurd rfl hv
          | cons a b => exact ⟨a, b, rfl⟩
        have h0 : (List.map (fun _ => Value.type "tuple") (v0 :: vr)).toArray[0]? = some (Value.type "tuple") := by simp
        rw [h0]
        have h3 : ((List.map (fun _ => Value.type "tuple") (v0 :: vr)).toArray.all fun x => x == Value.type "tuple") = true := by
          simp only [List.all_toArray, List.all_map, List.all_eq_true]
          intro _ _
          exact beq_self_eq_true _
        simp only [h3, if_true]
        exact wpAny_pure (wpAny_pure hq)
theorem lt_general (x y : Value) : keyLt' general' x y = oneLt' false x y := rfl
/-- tuples compared where all keys are tuples, some without an item -/
theorem oneLt_tup {xs ys : List PyData} {a b : Value} {as bs : List Addr} {Q : Bool → Shared → Prop} (ra : Reads s.heap a (.tuple xs) as) (rb : Reads s.heap b (.tuple ys) bs) (h : alike (.tuple xs) (.tuple ys) = true)
    (hu : A.units + min (PyData.depth (.tuple xs)) (PyData.depth (.tuple ys)) < cLine) (hq : Q (dataLt (.tuple xs) (.tuple ys)) s) : wpAny (model prog w) A (oneLt' true a b) Q E s := by
  have hal : alikeAll xs ys = true := by simpa [alike] using h
  cases ra with
  | @tuple l o vs n _ as₁ h1 h2 h3 h4 =>
    cases rb with
    | @tuple l' o' vs' n' _ bs₁ k1 k2 k3 k4 =>
      obtain ⟨c1, d1, t1, l1⟩ := o
      obtain ⟨c2, d2, t2, l2⟩ := o'
      simp only at h2 h3 k2 k3
      subst h2 h3 k2 k3
      have n1 : vs.size = xs.length := by simpa using SeqAt.ReadsAll.length _ _ _ h4
      have n2 : vs'.size = ys.length := by simpa using SeqAt.ReadsAll.length _ _ _ k4
      rw [dataLt_tuple, ← firstLt_toks xs ys hal, ← n1, ← n2] at hq
      rw [oneLt'_eq]
      simp only [if_true]
      refine wpAny_bind (wpAny_cRoomFor (SeqAt.room_here hu) ?_)
      refine wpAny_bind (wpAny_callSpecialIfBound?_slot (T := "tuple") ⟨_, h1, rfl⟩ F.slot_tuple_lt (call_meets F.slot_tuple_lt ⟨_, h1, rfl⟩ F.entry_tuple_lt (F.args_tuple_lt_2 _ _)
        (SeqAt.tuple_ltAt l l' vs vs' n n' d1 d2 l1 l2 (SeqAt.pairEq xs ys) fun j => dataLt (xs.getD j .none) (ys.getD j .none)) ⟨h1, k1, fun j j1 j2 => ?_, fun j j1 j2 hj => ?_, wpAny_truthy_bool hq⟩))
      · have := eqAt_alikeAll xs ys A.in1 s vs.toList vs'.toList _ _ h4 k4 hal (SeqAt.room_in hu) j (by simpa using j1) (by simpa using j2)
        simpa using this
      · have := rcLt_alikeAll xs ys A.in1 s vs.toList vs'.toList _ _ h4 k4 hal (SeqAt.room_in hu) j (by simpa using j1) (by simpa using j2) hj
        simpa using this
/-- lists of tuples, with or without items, can be sorted -/
theorem sorts_tups {vs : List Value} {ds : List PyData} (e : EachIs (fun v d => ∃ as, Reads s.heap v d as) vs ds) (hal : AllAlike ds) (ht : ∀ d, d ∈ ds → ∃ xs, d = .tuple xs) (hu : ∀ d, d ∈ ds → A.units + d.depth < cLine) : SortsAt prog w A s (dataKind s.heap ds) vs := by
  cases hne : ds.all hasItem with
  | true =>
    refine SortsAt.data e hal (.inl fun d hd => ?_) hu
    have := List.all_eq_true.mp hne d hd
    obtain ⟨xs, rfl⟩ := ht d hd
    cases xs with
    | nil => cases this
    | cons x r => exact ⟨x, r, rfl⟩
  | false =>
    have room : ∀ {d d' : PyData}, d ∈ ds → A.units + min d.depth d'.depth < cLine := fun {d d'} hd => Nat.lt_of_le_of_lt (Nat.add_le_add_left (Nat.min_le_left _ _) _) (hu d hd)
    refine ⟨fun v hv => ?_, ?_⟩
    · obtain ⟨d, hd, as, r⟩ := e.left v hv
      exact ⟨_, dataKind_some hal hd r⟩
    · obtain ⟨kd, hkd, hkk⟩ := kind_mix (A := A) (M := model prog w) e ht hne
      refine ⟨kd, fun E x y a b Q ha hb hq => ?_, fun _ E Q hq => hkk E Q hq⟩
      obtain ⟨d, as, hd, ra, rfl⟩ := dataKind_inv ha
      obtain ⟨d', as', hd', rb, rfl⟩ := dataKind_inv hb
      have hdd := hal d hd d' hd'
      obtain ⟨xs, rfl⟩ := ht d hd
      obtain ⟨ys, rfl⟩ := ht d' hd'
      rcases hkd with rfl | rfl
      · rw [lt_general]
        exact oneLt_alike (f := false) (fun z => by cases z) ra rb hdd (fun z => by cases z) (room hd) hq
      · rw [keyLt'_oneType]
        exact oneLt_tup ra rb hdd (room hd) hq
end
end Mi
namespace Mi
open PySem PySem.Spec L2
/-! ### calls of built-ins by values -/
def C1 (X : Cx) (f : Value) (g : List D → Hq → Option (D × Hq)) : Prop :=
  CallR X f fun vs H Q => ∃ mp h ds, HRel X.K mp h H ∧ RpAll X.K mp H ds vs ∧ PostO X.K (rD X.K) mp H (g ds h) Q
def mBlt (g : List D → Hq → Option (D × Hq)) (fa : Ev (List D)) : Ev D := fun ρ h => (fa ρ h).bind fun ds h1 => .of (g ds h1)
section
variable {X : Cx} {W : WX} {pos p : Pos} {e : Expr} {es : List Expr} {x : Str} {id : String} {g : List D → Hq → Option (D × Hq)} {fa : Ev (List D)}
theorem t_blt {σ : L2.St} {H : Hp} {Q : VK} (t : tE X.K W (mBlt g fa) σ H Q) : tCB (fun vs H Q => ∃ mp h ds, HRel X.K mp h H ∧ RpAll X.K mp H ds vs ∧ PostO X.K (rD X.K) mp H (g ds h) Q) (tA X.K W fa) σ H Q := by
  obtain ⟨ρ, h, mp, r, en, q⟩ := t
  exact ⟨ρ, h, mp, r, en, Post.mono (Post.bind (R := rA X.K) q) fun v H1 ⟨mp1, h1, ds, le1, r1, q1, p1⟩ => ⟨mp1, h1, ds, r1, q1, p1.o⟩⟩
theorem se_callB (hc : C1 X (.builtin id) g) (hm : X.mg x = none) (hv : bootBuiltins x = some (.builtin id)) (ha : SA X W (e :: es) fa) (hg : Gl X x := by rfl) (hn : x ≠ "__name__" := by decide) (hdb : (x == ("__debug__" : Str)) = false := by decide)
    (he : starEach (e :: es) X.env = (false, eval e X.env) :: starEach es X.env := by rfl) (hpl : (backTo pos (starEach es X.env)).any (·.1) = false := by rfl) : SE X W (.Call (.Name x p) (e :: es) [] pos) (mBlt g fa) :=
  PE.imp (pe_callB hc hg hm hv ha hn hdb he hpl) fun σ H Q t => t_blt t
theorem se_callTy (hc : C1 X (.type id) g) (hm : X.mg x = none) (hv : bootBuiltins x = some (.type id)) (ha : SA X W (e :: es) fa) (hg : Gl X x := by rfl) (hn : x ≠ "__name__" := by decide) (hdb : (x == ("__debug__" : Str)) = false := by decide)
    (he : starEach (e :: es) X.env = (false, eval e X.env) :: starEach es X.env := by rfl) (hpl : (backTo pos (starEach es X.env)).any (·.1) = false := by rfl) : SE X W (.Call (.Name x p) (e :: es) [] pos) (mBlt g fa) :=
  PE.imp (pe_callTy hc hg hm hv ha hn hdb he hpl) fun σ H Q t => t_blt t
end
def gTuple (ds : List D) (h : Hq) : Option (D × Hq) := match ds with
  | [.tup xs] => some (.tup xs, h)
  | [.ktup xs] => some (.ktup xs, h)
  | [d] => (asLk h d).map fun xs => (.tup xs, h)
  | _ => none
def gList (ds : List D) (h : Hq) : Option (D × Hq) := match ds with
  | [d] => (match asT d with
    | some xs => some (.lst xs, h)
    | none => (asLk h d).map fun xs => (.lst xs, h))
  | _ => none
def gListR (ds : List D) (h : Hq) : Option (D × Hq) := match ds with
  | [d] => (match asT d with
    | some xs => some (.ref h.length, h ++ [.lst xs])
    | none => (asLk h d).map fun xs => (.ref h.length, h ++ [.lst xs]))
  | _ => none
def gLen (ds : List D) (h : Hq) : Option (D × Hq) := match ds with
  | [.str z] => if z.length ≤ sizeLine then some (.int z.length, h) else none
  | [d] => (match asT d with
    | some xs => some (.int xs.length, h)
    | none => match asLk h d with
      | some xs => some (.int xs.length, h)
      | none => (asD h d).map fun kvs => (.int kvs.length, h))
  | _ => none
def isBls : List D → Option (List Bool)
  | [] => some []
  | .bl b :: ds => (isBls ds).map (b :: ·)
  | _ => none
def gAll (ds : List D) (h : Hq) : Option (D × Hq) := match ds with
  | [d] => (asLk h d).bind fun xs => (isBls xs).map fun bs => (.bl (bs.all id), h)
  | _ => none
def gAny (ds : List D) (h : Hq) : Option (D × Hq) := match ds with
  | [d] => (asLk h d).bind fun xs => (isBls xs).map fun bs => (.bl (bs.any id), h)
  | _ => none
def gInt (ds : List D) (h : Hq) : Option (D × Hq) := match ds with
  | [.int i] => some (.int i, h)
  | [.bl b] => some (.int (if b then 1 else 0), h)
  | _ => none
/-- what the data's order needs -/
def encD (d : D) : PyData := d.py.getD .none
def isTup : PyData → Bool
  | .tuple _ => true
  | _ => false
def isNo : PyData → Bool
  | .none => true
  | _ => false
def sortOk (ds : List D) : Bool := (ds.all fun d => d.py.isSome) && (ds.all fun a => ds.all fun b => PySem.W.alike (encD a) (encD b)) && (ds.all fun a => decide ((encD a).depth ≤ 60)) && ((ds.all fun a => isTup (encD a)) || ds.all fun a => !isTup (encD a) && !isNo (encD a))
def leD (a b : D) : Bool := !PySem.W.dataLt (encD b) (encD a)
def gSorted (ds : List D) (h : Hq) : Option (D × Hq) := match ds with
  | [d] => (asLk h d).bind fun xs => if sortOk xs = true then some (.lst (xs.mergeSort leD), h) else none
  | _ => none
section
variable {X : Cx}
theorem c1_tuple : C1 X (.type "tuple") gTuple := by
  intro pins s σ H xs us Q I rv ⟨mp, h, ds, r, a, p⟩
  unfold gTuple at p
  split at p
  · obtain ⟨v, rfl, q⟩ := a.one
    cases q with
    | tup h1 n1 q1 => exact call_tuple_of pins s σ H _ us Q I rv ⟨_, _, rfl, .inr ⟨SqT.of h1, p _ mp H .refl r (.tup h1 n1 q1)⟩⟩
  · obtain ⟨v, rfl, q⟩ := a.one
    cases q with
    | ktup h1 q1 => exact call_tuple_of pins s σ H _ us Q I rv ⟨_, _, rfl, .inr ⟨sqT_none h1, p _ mp H .refl r (.ktup h1 q1)⟩⟩
  · rename_i d _ _
    obtain ⟨v, rfl, q⟩ := a.one
    cases e : asLk h d with
    | none => rw [e] at p; exact p.elim
    | some ys =>
      rw [e] at p
      obtain ⟨pa, vs, rfl, hs, ra⟩ := asLk_ok r q e
      refine call_tuple_of pins s σ H _ us Q I rv ⟨pa, vs, rfl, .inl ⟨hs, fun l hl => ?_⟩⟩
      obtain ⟨l1, l2, l3⟩ := newT r hl ra
      exact p _ mp _ l1 l2 l3
  · exact p.elim
theorem c1_list : C1 X (.type "list") gList := by
  intro pins s σ H xs us Q I rv ⟨mp, h, ds, r, a, p⟩
  unfold gList at p
  split at p
  · rename_i d
    obtain ⟨v, rfl, q⟩ := a.one
    split at p
    · rename_i ys e
      obtain ⟨pa, vs, rfl, hs, ra⟩ := asT_ok q e
      refine call_list_of pins s σ H _ us Q I rv ⟨pa, vs, rfl, .inr hs, fun l hl => ?_⟩
      obtain ⟨l1, l2, l3⟩ := newL r hl ra
      exact p _ mp _ l1 l2 l3
    · cases e : asLk h d with
      | none => rw [e] at p; exact p.elim
      | some ys =>
        rw [e] at p
        obtain ⟨pa, vs, rfl, hs, ra⟩ := asLk_ok r q e
        refine call_list_of pins s σ H _ us Q I rv ⟨pa, vs, rfl, .inl hs, fun l hl => ?_⟩
        obtain ⟨l1, l2, l3⟩ := newL r hl ra
        exact p _ mp _ l1 l2 l3
  · exact p.elim
theorem c1_listR : C1 X (.type "list") gListR := by
  intro pins s σ H xs us Q I rv ⟨mp, h, ds, r, a, p⟩
  unfold gListR at p
  split at p
  · rename_i d
    obtain ⟨v, rfl, q⟩ := a.one
    split at p
    · rename_i ys e
      obtain ⟨pa, vs, rfl, hs, ra⟩ := asT_ok q e
      refine call_list_of pins s σ H _ us Q I rv ⟨pa, vs, rfl, .inr hs, fun l hl => ?_⟩
      obtain ⟨l1, l2, l3⟩ := newLR r hl ra
      exact p _ _ _ l1 l2 l3
    · cases e : asLk h d with
      | none => rw [e] at p; exact p.elim
      | some ys =>
        rw [e] at p
        obtain ⟨pa, vs, rfl, hs, ra⟩ := asLk_ok r q e
        refine call_list_of pins s σ H _ us Q I rv ⟨pa, vs, rfl, .inl hs, fun l hl => ?_⟩
        obtain ⟨l1, l2, l3⟩ := newLR r hl ra
        exact p _ _ _ l1 l2 l3
  · exact p.elim
theorem bls_ok {K : PySem.W.Frag} {mp : Wd} {H : Hp} : ∀ {ds : List D} {vs : List V} {bs : List Bool}, RpAll K mp H ds vs → isBls ds = some bs → vs = bs.map V.bl
  | _, _, _, .nil, e => by simp [isBls] at e; subst e; rfl
  | _, _, _, .cons (d := d) r t, e => by
    cases d with
    | bl b =>
      simp only [isBls, Option.map_eq_some_iff] at e
      obtain ⟨bs, e1, rfl⟩ := e
      cases r
      rw [bls_ok t e1]; rfl
    | _ => simp [isBls] at e
theorem c1_all (hc : X.calm = true) : C1 X (.builtin "all") gAll := by
  intro pins s σ H xs us Q I rv ⟨mp, h, ds, r, a, p⟩
  unfold gAll at p
  split at p
  · rename_i d
    obtain ⟨v, rfl, q⟩ := a.one
    cases e : asLk h d with
    | none => rw [e] at p; exact p.elim
    | some ys =>
      rw [e, Option.bind_some] at p
      cases e2 : isBls ys with
      | none => rw [e2] at p; exact p.elim
      | some bs =>
        rw [e2] at p
        obtain ⟨pa, vs, rfl, hs, ra⟩ := asLk_ok r q e
        rw [bls_ok ra e2] at hs
        exact cr_all hc pins s σ H _ us Q I rv ⟨pa, bs, rfl, hs, p _ mp H .refl r (.bl _)⟩
  · exact p.elim
theorem c1_any (hc : X.calm = true) : C1 X (.builtin "any") gAny := by
  intro pins s σ H xs us Q I rv ⟨mp, h, ds, r, a, p⟩
  unfold gAny at p
  split at p
  · rename_i d
    obtain ⟨v, rfl, q⟩ := a.one
    cases e : asLk h d with
    | none => rw [e] at p; exact p.elim
    | some ys =>
      rw [e, Option.bind_some] at p
      cases e2 : isBls ys with
      | none => rw [e2] at p; exact p.elim
      | some bs =>
        rw [e2] at p
        obtain ⟨pa, vs, rfl, hs, ra⟩ := asLk_ok r q e
        rw [bls_ok ra e2] at hs
        exact cr_any hc pins s σ H _ us Q I rv ⟨pa, bs, rfl, hs, p _ mp H .refl r (.bl _)⟩
  · exact p.elim
theorem c1_int : C1 X (.type "int") gInt := by
  intro pins s σ H xs us Q I rv ⟨mp, h, ds, r, a, p⟩
  unfold gInt at p
  split at p
  · obtain ⟨v, rfl, q⟩ := a.one
    cases q
    exact call_int1 pins s σ H _ us Q I rv (.inl ⟨_, rfl, p _ mp H .refl r (.int _)⟩)
  · obtain ⟨v, rfl, q⟩ := a.one
    cases q
    exact call_int1 pins s σ H _ us Q I rv (.inr ⟨_, rfl, p _ mp H .refl r (.int _)⟩)
  · exact p.elim
theorem c1_len : C1 X (.builtin "len") gLen := by
  intro pins s σ H xs us Q I rv ⟨mp, h, ds, r, a, p⟩
  unfold gLen at p
  split at p
  · split at p
    · rename_i hz
      obtain ⟨v, rfl, q⟩ := a.one
      cases q
      exact call_len pins s σ H _ us Q I rv ⟨_, _, rfl, ⟨hz, rfl⟩, p _ mp H .refl r (.int _)⟩
    · exact p.elim
  · rename_i d _
    obtain ⟨v, rfl, q⟩ := a.one
    split at p
    · rename_i ys e
      obtain ⟨pa, vs, rfl, hs, ra⟩ := asT_ok q e
      exact call_len pins s σ H _ us Q I rv ⟨_, _, rfl, .inr ⟨vs, hs, rfl⟩, by rw [← ra.length]; exact p _ mp H .refl r (.int _)⟩
    · split at p
      · rename_i ys e
        obtain ⟨pa, vs, rfl, hs, ra⟩ := asLk_ok r q e
        exact call_len pins s σ H _ us Q I rv ⟨_, _, rfl, .inl ⟨vs, hs, rfl⟩, by rw [← ra.length]; exact p _ mp H .refl r (.int _)⟩
      · cases e : asD h d with
        | none => rw [e] at p; exact p.elim
        | some kvs =>
          rw [e] at p
          obtain ⟨pa, rfl, c⟩ := asD_ok r q e
          rcases c with ⟨ks, vs, e1, l, ek, rv'⟩ | ⟨ks, vs, _, e1, l, ek, rv'⟩
          · refine call_lenD pins s σ H _ us Q I rv ⟨pa, _, rfl, e1, ?_⟩
            have : (ks.zip vs).length = kvs.length := by
              have := congrArg List.length ek
              simp at this
              rw [List.length_zip, ← l, Nat.min_self, ← this]
            rw [this]
            exact p _ mp H .refl r (.int _)
          · refine call_len_dT pins s σ H _ us Q I rv ⟨pa, _, rfl, e1, ?_⟩
            have : (ks.zip vs).length = kvs.length := by
              have := congrArg List.length ek
              simp at this
              rw [List.length_zip, ← l, Nat.min_self, ← this]
            rw [this]
            exact p _ mp H .refl r (.int _)
  · exact p.elim
/-- items of a list, by values and what they stand for -/
theorem each_of {K : PySem.W.Frag} {mp : Wd} {H : Hp} : ∀ {ds : List D} {vs : List V} {us : List Value}, RpAll K mp H ds vs → Vals vs us → PySem.W.EachIs (fun u d => ∃ x, RelV x u ∧ Rp K mp H d x) us ds
  | _, _, _, .nil, .nil => .nil
  | _, _, _, .cons r t, .cons q u => .cons ⟨_, q, r⟩ (each_of t u)
theorem of_each {K : PySem.W.Frag} {mp : Wd} {H : Hp} : ∀ {ds : List D} {us : List Value}, PySem.W.EachIs (fun u d => ∃ x, RelV x u ∧ Rp K mp H d x) us ds → ∃ vs, Vals vs us ∧ RpAll K mp H ds vs
  | _, _, .nil => ⟨[], .nil, .nil⟩
  | _, _, .cons ⟨x, q, r⟩ t => let ⟨vs, a, b⟩ := of_each t; ⟨x :: vs, .cons q a, .cons r b⟩
theorem each_reads {pins : List (Addr × Obj)} {σ : L2.St} {H : Hp} {s : Shared} {mp : Wd} (I : Inv X pins σ H s) : ∀ {ds : List D} {vs : List V} {us : List Value}, RpAll X.K mp H ds vs → Vals vs us → (∀ d ∈ ds, d.py.isSome = true) → PySem.W.EachIs (fun u d => ∃ as, Reads s.heap u (encD d) as) us ds
  | _, _, _, .nil, .nil, _ => .nil
  | d :: ds, _, _, .cons r t, .cons q u, h => by
    refine .cons ?_ (each_reads I t u fun d hd => h d (List.mem_cons_of_mem _ hd))
    obtain ⟨pd, e⟩ := Option.isSome_iff_exists.mp (h d List.mem_cons_self)
    obtain ⟨as, z⟩ := Dp.reads I _ _ _ (r.dp e) q
    exact ⟨as, by unfold encD; rw [e]; exact z⟩
theorem leD_eq : PySem.W.dataLe false encD = leD := by
  funext a b
  rw [PySem.W.dataLe_eq]
  rfl
theorem sort_parts {ds : List D} (h : sortOk ds = true) : (∀ d ∈ ds, d.py.isSome = true) ∧ PySem.W.AllAlike (ds.map encD) ∧ (∀ d ∈ ds, (encD d).depth ≤ 60) ∧ ((∀ d, d ∈ ds.map encD → ∃ xs, d = .tuple xs) ∨ ∀ d, d ∈ ds.map encD → d ≠ .none ∧ ∀ xs, d ≠ .tuple xs) := by
  unfold sortOk at h
  simp only [Bool.and_eq_true, Bool.or_eq_true, List.all_eq_true, decide_eq_true_eq] at h
  obtain ⟨⟨⟨h1, h2⟩, h3⟩, h4⟩ := h
  refine ⟨h1, fun d hd d' hd' => ?_, h3, ?_⟩
  · obtain ⟨a, ha, rfl⟩ := List.mem_map.mp hd
    obtain ⟨b, hb, rfl⟩ := List.mem_map.mp hd'
    exact h2 a ha b hb
  · rcases h4 with h4 | h4
    · refine .inl fun d hd => ?_
      obtain ⟨a, ha, rfl⟩ := List.mem_map.mp hd
      have := h4 a ha
      cases q : encD a with
      | tuple xs => exact ⟨xs, rfl⟩
      | _ => rw [q] at this; cases this
    · refine .inr fun d hd => ?_
      obtain ⟨a, ha, rfl⟩ := List.mem_map.mp hd
      have := h4 a ha
      simp only [Bool.not_eq_true'] at this
      refine ⟨fun z => ?_, fun xs z => ?_⟩
      · rw [z] at this; cases this.2
      · rw [z] at this; cases this.1
/-- where a list's items may be sorted, in any later heap -/
theorem sorts_at {prog : Program} {w : World} {A : Around} {s : Shared} {us : List Value} {ds : List D} (e : PySem.W.EachIs (fun u d => ∃ as, Reads s.heap u (encD d) as) us ds) (h : sortOk ds = true) (hu : A.units + 60 < cLine) : PySem.W.SortsAt prog w A s (PySem.W.dataKind s.heap (ds.map encD)) us := by
  obtain ⟨h1, h2, h3, h4⟩ := sort_parts h
  have e2 := PySem.W.each_map (R := fun u d => ∃ as, Reads s.heap u d as) encD e
  have hu2 : ∀ d, d ∈ ds.map encD → A.units + d.depth < cLine := fun d hd => by
    obtain ⟨a, ha, rfl⟩ := List.mem_map.mp hd
    have := h3 a ha
    omega
  rcases h4 with h4 | h4
  · exact sorts_tups e2 h2 h4 hu2
  · exact PySem.W.SortsAt.data e2 h2 (.inr h4) hu2
theorem each_mono {s s' : Shared} (k : ∀ b o, s.heap.get? b = some o → s'.heap.get? b = some o) {us : List Value} {ds : List D} (e : PySem.W.EachIs (fun u d => ∃ as, Reads s.heap u (encD d) as) us ds) : PySem.W.EachIs (fun u d => ∃ as, Reads s'.heap u (encD d) as) us ds :=
  e.mono fun u d ⟨as, z⟩ => ⟨as, PyProof.Rows.Reads.keeps k z⟩
theorem c1_sorted (hu : X.A.units + 64 < cLine) : C1 X (.builtin "sorted") gSorted := by
  intro pins s σ H xs us Q I rv ⟨mp, h, ds, r, a, p⟩
  unfold gSorted at p
  split at p
  · rename_i d
    obtain ⟨v, rfl, q⟩ := a.one
    cases e : asLk h d with
    | none => rw [e] at p; exact p.elim
    | some ys =>
      rw [e, Option.bind_some] at p
      split at p
      · rename_i hk
        obtain ⟨pa, vs, rfl, hs, ra⟩ := asLk_ok r q e
        obtain ⟨u, rfl, ru⟩ := vals1 rv
        obtain rfl : u = Value.ref pa := ru
        obtain ⟨its, rel, hl, hz⟩ := I.list hs
        obtain ⟨h1, h2, h3, h4⟩ := sort_parts hk
        have er := each_reads I ra rel h1
        have ev := each_of ra rel
        have hzi : its.length ≤ sizeLine := by rw [← rel.length]; exact hz
        have er2 := each_mono (s' := { s with heap := PySem.W.sortingHeap (PySem.W.copyHeap s.heap its) (s.heap.objs.size + 1) its }) (fun b o z => PySem.W.sorting_copy_old z) er
        refine PySem.W.sorted_vals (κ := PySem.W.dataKind _ (ys.map encD)) hl.isList (sorts_at er2 hk (by show X.A.in1.in1.units + 60 < cLine; have : X.A.in1.in1.units = X.A.units + 1 + 1 := rfl; omega)) hzi ?_
        have eo := PySem.W.sortVals_data false ev er2 h2
        rw [leD_eq] at eo
        obtain ⟨ovs, o1, o2⟩ := of_each eo
        obtain ⟨c, hc⟩ := PyProof.Rows.sortedAll_at s.heap its (PySem.W.sortVals (PySem.W.dataKind (PySem.W.sortingHeap (PySem.W.copyHeap s.heap its) (s.heap.objs.size + 1) its) (ys.map encD)) false its its).toArray
        have hf : s.heap.objs.size ≤ s.heap.objs.size + 1 := Nat.le_succ _
        have hp := I.hok.fresh hf
        obtain ⟨l1, l2, l3⟩ := newL r hp o2
        refine ⟨.ref (s.heap.objs.size + 1), upd H (s.heap.objs.size + 1) (.lst ovs), I.laid (t' := s.toks) (fun _ _ z => PyProof.Rows.sortedAll_old z) hf ⟨?_, _, c, o1, hc⟩, rfl, p _ mp _ l1 l2 l3⟩
        rw [← o2.length, List.length_mergeSort, ra.length]
        exact hz
      · exact p.elim
  · exact p.elim
end
end Mi
namespace Mi
open PySem PySem.Spec L2
/-! ### methods of built-in types -/
def tyOk (T : String) (d : D) (h : Hq) : Bool := match T with
  | "list" => (asLk h d).isSome
  | "dict" => (asD h d).isSome
  | "str" => (match d with
    | .str _ => true
    | _ => false)
  | _ => false
def M2 (X : Cx) (id : String) (g : D → List D → Hq → Option (D × Hq)) : Prop :=
  MtR X id fun x vs H Q => ∃ mp h dx ds, HRel X.K mp h H ∧ Rp X.K mp H dx x ∧ RpAll X.K mp H ds vs ∧ PostO X.K (rD X.K) mp H (g dx ds h) Q
def mMth (T : String) (g : D → List D → Hq → Option (D × Hq)) (fo : Ev D) (fa : Ev (List D)) : Ev D := fun ρ h => (fo ρ h).bind fun o h1 => if tyOk T o h1 = true then (fa ρ h1).bind fun ds h2 => .of (g o ds h2) else .bad
theorem ty_ok {K : PySem.W.Frag} {mp : Wd} {H : Hp} {h : Hq} {T : String} {d : D} {v : V} (r : HRel K mp h H) (a : Rp K mp H d v) (e : tyOk T d h = true) : tyV K T v H := by
  unfold tyOk at e
  split at e
  · obtain ⟨xs, e⟩ := Option.isSome_iff_exists.mp e
    obtain ⟨p, vs, rfl, hs, _⟩ := asLk_ok r a e
    exact .inl ⟨rfl, vs, hs⟩
  · obtain ⟨xs, e⟩ := Option.isSome_iff_exists.mp e
    obtain ⟨p, rfl, c⟩ := asD_ok r a e
    rcases c with ⟨ks, vs, e1, _⟩ | ⟨ks, vs, _, e1, _⟩
    · exact .inr (.inr (.inl ⟨rfl, .inl ⟨_, e1⟩⟩))
    · exact .inr (.inr (.inl ⟨rfl, .inr ⟨_, e1⟩⟩))
  · split at e
    · cases a; rfl
    · cases e
  · cases e
section
variable {X : Cx} {W : WX} {o e : Expr} {es : List Expr} {fo : Ev D} {fa : Ev (List D)} {T id : String} {name : Str} {g : D → List D → Hq → Option (D × Hq)} {apos cpos : Pos}
theorem se_mth (hm : M2 X id g) (pa : PlainAttrs T) (slot : Slot T name id) (hty : typeOf (.builtin id) = pure (.type "method_descriptor")) (ho : SE X W o fo) (ha : SA X W (e :: es) fa) (hbase : attributeBase o name X.env (eval o X.env) = eval o X.env := by rfl)
    (hfew : ((backTo cpos (starEach (e :: es) X.env)).all (fun x => !x.1) && (backToKw cpos (keywordEach [] X.env)).all (fun x => x.1.isSome) && decide ((e :: es).length + ([] : List Keyword).length + (if ([] : List Keyword).isEmpty then 0 else 1) < 30)) = true := by rfl)
    (hline : (apos.endLine == cpos.line) = true := by rfl) (hs : starEach (e :: es) X.env = (false, eval e X.env) :: starEach es X.env := by rfl) (hplain : (backTo cpos (starEach es X.env)).any (·.1) = false := by rfl) :
    SE X W (.Call (.Attribute o name apos) (e :: es) [] cpos) (mMth T g fo fa) := PE.imp (pe_bm pa slot hty hm ho ha hbase hfew hline hs hplain) fun σ H Q ⟨ρ, h, mp, r, en, p⟩ => by
  refine ⟨ρ, h, mp, r, en, Post.mono (Post.bind p) fun x H1 ⟨mp1, h1, d1, le1, r1, q1, p1⟩ => ?_⟩
  dsimp only at p1
  split at p1
  · rename_i ht
    refine ⟨ty_ok r1 q1 ht, ρ, h1, mp1, r1, en.mono le1, Post.mono (Post.bind (R := rA X.K) p1) fun y H2 ⟨mp2, h2, d2, le2, r2, q2, p2⟩ => ?_⟩
    exact ⟨mp2, h2, d1, d2, r2, q1.mono le2, q2, p2.o⟩
  · exact p1.elim
theorem se_mth0 (hm : M2 X id g) (pa : PlainAttrs T) (slot : Slot T name id) (hty : typeOf (.builtin id) = pure (.type "method_descriptor")) (ho : SE X W o fo) (hbase : attributeBase o name X.env (eval o X.env) = eval o X.env := by rfl)
    (hline : (apos.endLine == cpos.line) = true := by rfl) : SE X W (.Call (.Attribute o name apos) [] [] cpos) (mMth T g fo mNil) := PE.imp (pe_bm0 pa slot hty hm ho hbase hline) fun σ H Q ⟨ρ, h, mp, r, en, p⟩ => by
  refine ⟨ρ, h, mp, r, en, Post.mono (Post.bind p) fun x H1 ⟨mp1, h1, d1, le1, r1, q1, p1⟩ => ?_⟩
  dsimp only at p1
  split at p1
  · rename_i ht
    exact ⟨ty_ok r1 q1 ht, mp1, h1, d1, [], r1, q1, .nil, Post.o (K := X.K) p1⟩
  · exact p1.elim
end
def gAppend (o : D) (ds : List D) (h : Hq) : Option (D × Hq) := match o, ds with
  | .ref l, [y] => (match h[l]? with
    | some (.lst xs) => if xs.length < sizeLine then some (.non, h.set l (.lst (xs ++ [y]))) else none
    | _ => none)
  | _, _ => none
def gExtend (o : D) (ds : List D) (h : Hq) : Option (D × Hq) := match o, ds with
  | .ref l, [y] => (match h[l]?, asL h y with
    | some (.lst xs), some ys => if xs.length + ys.length ≤ sizeLine then some (.non, h.set l (.lst (xs ++ ys))) else none
    | _, _ => none)
  | _, _ => none
def gPop (o : D) (ds : List D) (h : Hq) : Option (D × Hq) := match o, ds with
  | .ref l, [] => (match h[l]? with
    | some (.lst xs) => (xs[xs.length - 1]?).map fun y => (y, h.set l (.lst xs.dropLast))
    | _ => none)
  | _, _ => none
def isStrs : List D → Option (List Str)
  | [] => some []
  | .str x :: ds => (isStrs ds).map (x :: ·)
  | _ => none
def gJoin (o : D) (ds : List D) (h : Hq) : Option (D × Hq) := match o, ds with
  | .str a, [d] => (match (match asT d with
      | some xs => some xs
      | none => asLk h d) with
    | some xs => (match isStrs xs with
      | some ys => if (ys.map (·.length)).sum + ys.length * a.length ≤ 16777216 then some (.str (Txt.join a ys), h) else none
      | none => none)
    | none => none)
  | _, _ => none
section
variable {X : Cx}
theorem m2_append : M2 X "list.append" gAppend := by
  intro pins s σ H x xs v us Q I rx rv ⟨mp, h, dx, ds, r, ax, a, p⟩
  unfold gAppend at p
  split at p
  · rename_i l y
    split at p
    · rename_i zs e
      split at p
      · rename_i hz
        obtain ⟨w, rfl, ry⟩ := a.one
        cases ax with
        | @ref _ b m =>
          obtain ⟨vs, e1, ra⟩ := r.obj _ _ _ e m
          refine mt_append pins s σ H _ _ v us Q I rx rv ⟨b, vs, w, rfl, rfl, e1, by rw [← ra.length]; exact hz, ?_⟩
          have le := le_set r (o := .lst (vs ++ [w])) m
          exact p _ mp _ le (r.set m ⟨_, upd_same, (ra.append (.cons ry .nil)).mono le⟩) .non
      · exact p.elim
    · exact p.elim
  · exact p.elim
theorem m2_extend : M2 X "list.extend" gExtend := by
  intro pins s σ H x xs v us Q I rx rv ⟨mp, h, dx, ds, r, ax, a, p⟩
  unfold gExtend at p
  split at p
  · rename_i l y
    split at p
    · rename_i zs ys e e2
      split at p
      · rename_i hz
        obtain ⟨w, rfl, ry⟩ := a.one
        cases ax with
        | @ref _ b m =>
          obtain ⟨vs, e1, ra⟩ := r.obj _ _ _ e m
          obtain ⟨pb, ws, rfl, h2, q2⟩ := asL_ok r ry e2
          refine mt_extend pins s σ H _ _ v us Q I rx rv ⟨b, pb, vs, ws, rfl, rfl, e1, h2, by rw [← ra.length, ← q2.length]; exact hz, ?_⟩
          have le := le_set r (o := .lst (vs ++ ws)) m
          exact p _ mp _ le (r.set m ⟨_, upd_same, (ra.append q2).mono le⟩) .non
      · exact p.elim
    · exact p.elim
  · exact p.elim
theorem m2_pop : M2 X "list.pop" gPop := by
  intro pins s σ H x xs v us Q I rx rv ⟨mp, h, dx, ds, r, ax, a, p⟩
  unfold gPop at p
  split at p
  · rename_i l
    split at p
    · rename_i zs e
      cases ey : zs[zs.length - 1]? with
      | none => rw [ey] at p; exact p.elim
      | some y =>
        rw [ey] at p
        cases a
        cases ax with
        | @ref _ b m =>
          obtain ⟨vs, e1, ra⟩ := r.obj _ _ _ e m
          obtain ⟨w, hw, rw'⟩ := ra.get ey
          rw [ra.length] at hw
          refine mt_pop pins s σ H _ _ v us Q I rx rv ⟨b, vs, w, rfl, rfl, e1, hw, ?_⟩
          have le := le_set r (o := .lst vs.dropLast) m
          exact p _ mp _ le (r.set m ⟨_, upd_same, ra.dropLast.mono le⟩) (rw'.mono le)
    · exact p.elim
  · exact p.elim
theorem strs_ok {K : PySem.W.Frag} {mp : Wd} {H : Hp} : ∀ {ds : List D} {vs : List V} {bs : List Str}, RpAll K mp H ds vs → isStrs ds = some bs → vs = bs.map V.str
  | _, _, _, .nil, e => by simp [isStrs] at e; subst e; rfl
  | _, _, _, .cons (d := d) r t, e => by
    cases d with
    | str b =>
      simp only [isStrs, Option.map_eq_some_iff] at e
      obtain ⟨bs, e1, rfl⟩ := e
      cases r
      rw [strs_ok t e1]; rfl
    | _ => simp [isStrs] at e
theorem m2_join : M2 X "str.join" gJoin := by
  intro pins s σ H x xs v us Q I rx rv ⟨mp, h, dx, ds, r, ax, a, p⟩
  unfold gJoin at p
  split at p
  · rename_i z d
    split at p
    · rename_i zs e
      split at p
      · rename_i ys e2
        split at p
        · rename_i hz
          obtain ⟨w, rfl, ry⟩ := a.one
          cases ax
          cases eT : asT d with
          | some ts =>
            rw [eT] at e; cases e
            obtain ⟨pa, vs, rfl, hs, ra⟩ := asT_ok ry eT
            rw [strs_ok ra e2] at hs
            exact mt_join pins s σ H _ _ v us Q I rx rv ⟨z, pa, ys, rfl, rfl, .inr hs, hz, p _ mp H .refl r (.str _)⟩
          | none =>
            rw [eT] at e
            obtain ⟨pa, vs, rfl, hs, ra⟩ := asLk_ok r ry e
            rw [strs_ok ra e2] at hs
            exact mt_join pins s σ H _ _ v us Q I rx rv ⟨z, pa, ys, rfl, rfl, .inl hs, hz, p _ mp H .refl r (.str _)⟩
        · exact p.elim
      · exact p.elim
    · exact p.elim
  · exact p.elim
end
/-! ### dicts: made, stored to -/
def mDicR : Ev D := fun _ h => .ok (.ref h.length) (h ++ [.dic []])
def putKV (kvs : List (D × D)) (k v : D) : List (D × D) := if (kvs.any fun p => keyEq p.1 k) = true then kvs.map (fun p => if keyEq p.1 k = true then (p.1, v) else p) else kvs ++ [(k, v)]
theorem se_dicR {X : Cx} {W : WX} {pos : Pos} : SE X W (.Dict [] [] pos) mDicR := PE.imp pe_dnewK fun σ H Q ⟨ρ, h, mp, r, en, p⟩ => fun a ha => by
  refine p _ (mp.add a) _ (le_place r ha) (r.place ha (.inl ⟨[], [], upd_same, rfl, rfl, .nil⟩)) (.ref ?_)
  rw [← r.len]; simp [Wd.add]
section
variable {K : PySem.W.Frag} {mp : Wd} {H : Hp}
theorem putKV_g {κ : Type} [DecidableEq κ] {emb : κ → D} (ke : ∀ a b, keyEq (emb a) (emb b) = decide (a = b)) {k : κ} {d : D} {v : V} (rv : Rp K mp H d v) {kvs : List (D × D)} {ks : List κ} {vs : List V} (l : ks.length = vs.length) (e : kvs.map (·.1) = ks.map emb) (r : RpAll K mp H (kvs.map (·.2)) vs) :
    ∃ (ks' : List κ) (vs' : List V), putK (ks.zip vs) k v = ks'.zip vs' ∧ ks'.length = vs'.length ∧ (putKV kvs (emb k) d).map (·.1) = ks'.map emb ∧ RpAll K mp H ((putKV kvs (emb k) d).map (·.2)) vs' := by
  have hany : ∀ {kvs : List (D × D)} {ks : List κ} {vs : List V}, ks.length = vs.length → kvs.map (·.1) = ks.map emb → (kvs.any fun p => keyEq p.1 (emb k)) = (ks.zip vs).any fun kv => decide (kv.1 = k) := by
    intro kvs
    induction kvs with
    | nil => intro ks vs l e; cases ks with
      | nil => rfl
      | cons _ _ => simp at e
    | cons q kvs ih =>
      intro ks vs l e
      cases ks with
      | nil => simp at e
      | cons k1 ks =>
        cases vs with
        | nil => simp at l
        | cons v1 vs =>
          simp only [List.map_cons, List.cons.injEq] at e
          rw [List.any_cons, List.zip_cons_cons, List.any_cons, e.1, ke, ih (by simpa using l) e.2]
  have hmap : ∀ {kvs : List (D × D)} {ks : List κ} {vs : List V}, ks.length = vs.length → kvs.map (·.1) = ks.map emb → RpAll K mp H (kvs.map (·.2)) vs →
      ∃ vs' : List V, (ks.zip vs).map (fun kv => if kv.1 = k then (kv.1, v) else kv) = ks.zip vs' ∧ ks.length = vs'.length ∧ (kvs.map fun p => if keyEq p.1 (emb k) = true then (p.1, d) else p).map (·.1) = ks.map emb ∧ RpAll K mp H ((kvs.map fun p => if keyEq p.1 (emb k) = true then (p.1, d) else p).map (·.2)) vs' := by
    intro kvs
    induction kvs with
    | nil => intro ks vs l e r; cases ks with
      | nil => exact ⟨[], rfl, rfl, rfl, .nil⟩
      | cons _ _ => simp at e
    | cons q kvs ih =>
      intro ks vs l e r
      cases ks with
      | nil => simp at e
      | cons k1 ks =>
        cases vs with
        | nil => simp at l
        | cons v1 vs =>
          simp only [List.map_cons, List.cons.injEq] at e
          cases r with
          | cons r1 r2 =>
            obtain ⟨vs', a1, a2, a3, a4⟩ := ih (ks := ks) (vs := vs) (by simpa using l) e.2 r2
            obtain ⟨q1, q2⟩ := q
            obtain ⟨e1, e2⟩ := e
            dsimp only at e1
            subst e1
            by_cases hk : k1 = k
            · subst hk
              refine ⟨v :: vs', by simp [a1], by simp [a2], ?_, ?_⟩
              · simp only [List.map_cons, ke, decide_true, if_true, a3]
              · simp only [List.map_cons, ke, decide_true, if_true]; exact .cons rv a4
            · refine ⟨v1 :: vs', by simp [hk, a1], by simp [a2], ?_, ?_⟩
              · simp only [List.map_cons, ke, hk, decide_false, Bool.false_eq_true, if_false, a3]
              · simp only [List.map_cons, ke, hk, decide_false, Bool.false_eq_true, if_false]; exact .cons r1 a4
  unfold putKV putK
  rw [hany l e]
  split
  · obtain ⟨vs', a1, a2, a3, a4⟩ := hmap l e r
    exact ⟨ks, vs', a1, a2, a3, a4⟩
  · refine ⟨ks ++ [k], vs ++ [v], ?_, by simp [l], by simp [e], ?_⟩
    · rw [List.zip_append l]; rfl
    · rw [List.map_append]; exact r.append (.cons rv .nil)
end
theorem putKV_ne (kvs : List (D × D)) (k v : D) : putKV kvs k v ≠ [] := by
  unfold putKV
  split
  · rename_i h
    cases kvs with
    | nil => cases h
    | cons _ _ => simp
  · simp
/-! ### o[i] = v -/
def gSetI (o i v : D) (h : Hq) : Option Hq := match o with
  | .ref l => (match h[l]? with
    | some (.lst xs) => (match i with
      | .int k => (ixN xs.length k).map fun j => h.set l (.lst (xs.set j v))
      | _ => none)
    | some (.dic kvs) => if kindsOk kvs i = true ∧ kvs.length < sizeLine then some (h.set l (.dic (putKV kvs i v))) else none
    | _ => none)
  | _ => none
def mSetI (fo fi fv : Ev D) : Ex := fun ρ h => (fv ρ h).bindS ρ fun v h1 => (fo ρ h1).bindS ρ fun o h2 => (fi ρ h2).bindS ρ fun i h3 => match gSetI o i v h3 with
  | some h4 => .nx ρ h4
  | none => .bad
section
variable {X : Cx} {W : WX} {pos pos' : Pos} {o i e : Expr} {fo fi fv : Ev D}
theorem set_ok (hu : X.A.units + 1 < cLine) : PSet X fun ov iv v H Q => ∃ mp h dob di dv h', HRel X.K mp h H ∧ Rp X.K mp H dob ov ∧ Rp X.K mp H di iv ∧ Rp X.K mp H dv v ∧ gSetI dob di dv h = some h' ∧ ∀ H', Le mp H mp H' → HRel X.K mp h' H' → Q H' := by
  intro pins s σ H ov iv v ou iu u Q I ro ri rv ⟨mp, h, dob, di, dv, h', r, ao, ai, av, eg, q⟩
  unfold gSetI at eg
  split at eg
  · rename_i l
    cases ao with
    | @ref _ a m =>
      split at eg
      · rename_i xs el
        split at eg
        · rename_i k
          cases ej : ixN xs.length k with
          | none => rw [ej] at eg; cases eg
          | some j =>
            rw [ej] at eg
            cases eg
            cases ai
            obtain ⟨vs, e1, ra⟩ := r.obj _ _ _ el m
            have le := le_set r (o := .lst (vs.set j v)) m
            exact set_list pins s σ H _ _ v ou iu u Q I ro ri rv ⟨a, vs, k, j, rfl, rfl, e1, by rw [← ra.length]; exact ej, q _ le (r.set m ⟨_, upd_same, (RpAll.set av j ra).mono le⟩)⟩
        · cases eg
      · rename_i kvs el
        split at eg
        · rename_i hk
          cases eg
          obtain ⟨hk, hz⟩ := hk
          obtain rfl : ou = Value.ref a := ro
          have c : DicAt X.K mp H kvs a := r.obj _ _ _ el m
          obtain ⟨k0, km⟩ := kinds_mem hk
          have zl : ∀ {α : Type} {ks : List α} {vs : List V} {f : α → D}, ks.length = vs.length → kvs.map (·.1) = ks.map f → (ks.zip vs).length < sizeLine := by
            intro α ks vs f l ek
            have := congrArg List.length ek
            simp only [List.length_map] at this
            rw [List.length_zip, ← l, Nat.min_self, ← this]; exact hz
          rcases key_cases k0 with ⟨kk, rfl, qk⟩ | ⟨kk, rfl, qk⟩
          · have e3 := rp_key ai
            subst e3
            rcases c with ⟨ks, vs, e1, l, ek, ra⟩ | ⟨ks, vs, ne, e1, l, ek, ra⟩
            · obtain ⟨ks', vs', b1, b2, b3, b4⟩ := putKV_g keyEq_k (k := kk) av l ek ra
              have le := le_set r (o := .dK (putK (ks.zip vs) kk v)) m
              refine d_setItem hu I (DPut.k (k := kk) e1 (zl l ek)) ri rv fun s' I' => ⟨_, I', q _ le (r.set m (.inl ⟨ks', vs', ?_, b2, b3, b4.mono le⟩))⟩
              rw [upd_same, b1]
            · exfalso
              cases kvs with
              | nil => exact ne rfl
              | cons p t => cases ks with
                | nil => simp at ek
                | cons k1 ks =>
                  simp only [List.map_cons, List.cons.injEq] at ek
                  have := km p (by simp)
                  rw [show p.1 = kT k1 from ek.1, keyKind_k, keyKind_t] at this
                  cases this
          · obtain ⟨b, rfl, hb, nb⟩ := rp_tkey ai
            have hba : b ≠ a := fun z => nb (by rw [z]; exact r.sub _ (List.mem_of_getElem? m))
            rcases c with ⟨ks, vs, e1, l, ek, ra⟩ | ⟨ks, vs, ne, e1, l, ek, ra⟩
            · have hn : kvs = [] ∧ ks = [] := by
                cases kvs with
                | nil => cases ks with
                  | nil => exact ⟨rfl, rfl⟩
                  | cons _ _ => simp at ek
                | cons p t => cases ks with
                  | nil => simp at ek
                  | cons k1 ks =>
                    simp only [List.map_cons, List.cons.injEq] at ek
                    have := km p (by simp)
                    rw [ek.1, keyKind_k, keyKind_t] at this
                    cases this
              obtain ⟨rfl, rfl⟩ := hn
              have e1' : H a = some (.dK []) := e1
              have I1 := inv_KT I e1'
              refine d_setItem hu I1 (DPut.t (kvs := []) (k := kk) upd_same (by rw [upd_ne hba]; exact hb) (by rw [sizeLine_eq]; decide)) ri rv fun s' I' => ?_
              rw [upd_upd] at I'
              have le := le_set r (o := .dT (putK [] kk v)) m
              refine ⟨_, I', q _ le (r.set m (.inr ⟨[kk], [v], by simp [putKV], ?_, rfl, rfl, RpAll.mono le (.cons av .nil)⟩))⟩
              rw [upd_same]; rfl
            · obtain ⟨ks', vs', b1, b2, b3, b4⟩ := putKV_g keyEq_t (k := kk) av l ek ra
              have le := le_set r (o := .dT (putK (ks.zip vs) kk v)) m
              refine d_setItem hu I (DPut.t (k := kk) e1 hb (zl l ek)) ri rv fun s' I' => ⟨_, I', q _ le (r.set m (.inr ⟨ks', vs', putKV_ne _ _ _, ?_, b2, b3, b4.mono le⟩))⟩
              rw [upd_same, b1]
        · cases eg
      · cases eg
  · cases eg
theorem ss_setI (hu : X.A.units + 1 < cLine) (ho : SE X W o fo) (hi : SE X W i fi) (hv : SE X W e fv) (hs : swapsWithSole [.Subscript o i pos'] e pos.line X.env = pure false := by rfl) (hw : swappedStores [.Subscript o i pos'] e X.env = pure none := by rfl)
    (h1 : (assignEach [.Subscript o i pos'] X.env).map (·.2) = [assign (.Subscript o i pos') X.env] := by rfl)
    (ha : ∀ v, assign (.Subscript o i pos') X.env v = (do
      let ov ← holding [v] (eval o X.env)
      let iv ← holding [v, ov] (eval i X.env)
      standAt pos'
      holding [v, ov, iv] (setItem ov iv v)
      release [v, ov, iv] []) := by intro _; rfl) : SS X W (.Assign [.Subscript o i pos'] e pos) (mSetI fo fi fv) :=
  PS.imp (ps_asg hv (pg_sub ho hi (set_ok hu) ha) hs hw h1) fun D σ H ⟨ρ, h, mp, r, en, p⟩ => by
    refine ⟨ρ, h, mp, r, en, Post.mono (PostS.bind en p) fun v H1 ⟨mp1, h1, dv, le1, r1, q1, p1⟩ => ?_⟩
    refine ⟨ρ, h1, mp1, r1, en.mono le1, Post.mono (PostS.bind (en.mono le1) p1) fun ov H2 ⟨mp2, h2, d2, le2, r2, q2, p2⟩ => ?_⟩
    refine ⟨ρ, h2, mp2, r2, (en.mono le1).mono le2, Post.mono (PostS.bind ((en.mono le1).mono le2) p2) fun iv H3 ⟨mp3, h3, d3, le3, r3, q3, p3⟩ => ?_⟩
    dsimp only at p3
    cases eg : gSetI d2 d3 dv h3 with
    | none => rw [eg] at p3; exact p3.elim
    | some h4 =>
      rw [eg] at p3
      exact ⟨mp3, h3, d2, d3, dv, h4, r3, q2.mono le3, q3, q1.mono (le2.trans le3), eg, fun H4 le4 r4 => p3 σ mp3 H4 le4 r4 (((en.mono le1).mono le2).mono (le3.trans le4))⟩
end
end Mi
namespace Mi
open PySem PySem.W PySem.Calls PyProof.Rows
/-- a pair of a text and a datum -/
def IsPr (h : Heap) (u : Value) (p : Str × PyData) : Prop := ∃ a o n tok val as, u = .ref a ∧ h.get? a = some o ∧ o.cls = .type "tuple" ∧ o.data = .seq #[.str p.1 tok, val] n ∧ Reads h val p.2 as
noncomputable def prKind (h : Heap) (us : List Value) : PyProof.Rows.KeyKind where
  toKeyOrd := PyProof.Rows.strKind.toKeyOrd
  keyOf v := open Classical in if q : v ∈ us ∧ ∃ p, IsPr h v p then some (q.2.choose.1.cps.toList) else none
  dflt := ([] : List Nat)
theorem isPr_name {h : Heap} {u : Value} {p q : Str × PyData} (a : IsPr h u p) (b : IsPr h u q) : p.1 = q.1 := by
  obtain ⟨x, o, n, t, v, as, rfl, h1, _, h2, _⟩ := a
  obtain ⟨y, o', n', t', v', as', e, h1', _, h2', _⟩ := b
  cases e
  rw [h1] at h1'; cases h1'
  rw [h2] at h2'
  simp at h2'
  exact h2'.1.1.1
theorem prKind_some {h : Heap} {us : List Value} {u : Value} {p : Str × PyData} (hm : u ∈ us) (a : IsPr h u p) : (prKind h us).keyOf u = some p.1.cps.toList := by
  have q : u ∈ us ∧ ∃ p, IsPr h u p := ⟨hm, p, a⟩
  have e : (prKind h us).keyOf u = some (q.2.choose.1.cps.toList) := by
    show (open Classical in if q : u ∈ us ∧ ∃ p, IsPr h u p then some (q.2.choose.1.cps.toList) else none) = _
    rw [dif_pos q]
  rw [e, isPr_name q.2.choose_spec a]
theorem prKind_inv {h : Heap} {us : List Value} {u : Value} {k : List Nat} (e : (prKind h us).keyOf u = some k) : u ∈ us ∧ ∃ p, IsPr h u p ∧ k = p.1.cps.toList := by
  by_cases q : u ∈ us ∧ ∃ p, IsPr h u p
  · have e' : (prKind h us).keyOf u = some (q.2.choose.1.cps.toList) := by
      show (open Classical in if q : u ∈ us ∧ ∃ p, IsPr h u p then some (q.2.choose.1.cps.toList) else none) = _
      rw [dif_pos q]
    rw [e'] at e
    exact ⟨q.1, _, q.2.choose_spec, (Option.some.inj e).symm⟩
  · have e' : (prKind h us).keyOf u = none := by
      show (open Classical in if q : u ∈ us ∧ ∃ p, IsPr h u p then some (q.2.choose.1.cps.toList) else none) = _
      rw [dif_neg q]; rfl
    rw [e'] at e
    exact absurd e (by simp)
theorem pr_same {h : Heap} : ∀ {us : List Value} {ps : List (Str × PyData)}, EachIs (IsPr h) us ps → (ps.map (·.1)).Nodup → ∀ {u v : Value} {p q : Str × PyData}, u ∈ us → v ∈ us → IsPr h u p → IsPr h v q → p.1 = q.1 → u = v
  | _, _, .nil, _, u, v, p, q, hu, _, _, _, _ => by simp at hu
  | _, _, .cons (a := u0) (b := p0) r t, nd, u, v, p, q, hu, hv, a, b, e => by
    rw [List.map_cons, List.nodup_cons] at nd
    have not : ∀ w z, w ∈ _ → IsPr h w z → z.1 ≠ p0.1 := fun w z hw hz en => by
      obtain ⟨z', hz', hp⟩ := t.left w hw
      exact nd.1 (by rw [← en, isPr_name hz hp]; exact List.mem_map.mpr ⟨z', hz', rfl⟩)
    rcases List.mem_cons.mp hu with eu | hu2
    · rcases List.mem_cons.mp hv with ev | hv2
      · rw [eu, ev]
      · subst eu
        exact absurd (by rw [← isPr_name a r]; exact e.symm) (not v q hv2 b)
    · rcases List.mem_cons.mp hv with ev | hv2
      · subst ev
        exact absurd (by rw [e]; exact isPr_name b r) (not u p hu2 a)
      · exact pr_same t nd.2 hu2 hv2 a b e
section
variable {prog : Program} {w : World} {A : Around} {s : Shared}
theorem each_pr_tups {h : Heap} : ∀ {us : List Value} {ps : List (Str × PyData)}, EachIs (IsPr h) us ps → ∃ fs, KatTups h us fs ∧ fs.length = us.length ∧ ∀ f ∈ fs, ∃ x t, f = Value.str x t
  | _, _, .nil => ⟨[], KatTups.nil, rfl, fun f hf => by simp at hf⟩
  | _, _, .cons ⟨a, o, n, t, v, as, e, h1, h2, h3, _⟩ r => by
    obtain ⟨fs, k1, k2, k3⟩ := each_pr_tups r
    subst e
    refine ⟨_ :: fs, KatTups.cons h1 h2 h3 rfl k1, by simp [k2], fun f hf => ?_⟩
    rcases List.mem_cons.mp hf with e | hf
    · exact ⟨_, t, e⟩
    · exact k3 f hf
/-- pairs with unlike texts ahead can be sorted -/
theorem sorts_prs {us : List Value} {ps : List (Str × PyData)} (e : EachIs (IsPr s.heap) us ps) (nd : (ps.map (·.1)).Nodup) (pl : ∀ (u : Value) (p : Str × PyData), u ∈ us → IsPr s.heap u p → p.2.plain = true ∧ A.units + p.2.depth < cLine) : SortsAt prog w A s (prKind s.heap us) us := by
  refine ⟨fun v hv => ?_, tuples' true, ?_, fun h2 E Q hq => ?_⟩
  · obtain ⟨p, _, hp⟩ := e.left v hv
    exact ⟨_, prKind_some hv hp⟩
  · intro E x y a b Q ha hb hq
    obtain ⟨mx, p, hp, rfl⟩ := prKind_inv ha
    obtain ⟨my, q, hq', rfl⟩ := prKind_inv hb
    obtain ⟨ax, ox, nx, tx, vx, asx, rfl, hx1, hx2, hx3, hx4⟩ := id hp
    obtain ⟨ay, oy, ny, ty, vy, asy, rfl, hy1, hy2, hy3, hy4⟩ := id hq'
    have hq2 : Q (decide (p.1.cps.toList < q.1.cps.toList)) s := hq
    refine kat_lt hx1 hx3 hy1 hy3 ?_
    show KatLex prog w A true _ Q [(Value.str p.1 tx, Value.str q.1 ty), (vx, vy)] 0 s
    by_cases en : p.1 = q.1
    · have ex := pr_same e nd mx my hp hq' en
      cases ex
      rw [hx1] at hy1; cases hy1
      rw [hx3] at hy3
      simp at hy3
      obtain ⟨⟨⟨e1, e2⟩, e3⟩, _⟩ := hy3
      subst e3
      refine kat_cons (wpAny_eqBool_str ?_)
      rw [decide_eq_true en]
      refine kat_yes (kat_cons ?_)
      have pl1 := pl _ _ mx hp
      refine SeqAt.eqAt_plain _ _ A s _ _ _ _ hx4 hx4 pl1.1 pl1.1 (by have := Nat.min_self p.2.depth; omega) prog w _ _ ?_
      rw [SeqAt.eqv_refl_plain _ pl1.1]
      refine kat_yes (kat_nil ?_)
      rw [en] at hq2
      have : decide (q.1.cps.toList < q.1.cps.toList) = false := decide_eq_false (List.lt_irrefl _)
      rw [this] at hq2
      simpa using hq2
    · refine kat_cons (wpAny_eqBool_str ?_)
      rw [decide_eq_false en]
      refine kat_no ?_
      exact oneLt_str hq2
  · obtain ⟨fs, k1, k2, k3⟩ := each_pr_tups e
    refine kat_kind (T := Value.type "str") k1 (by omega) (fun f hf => ?_) (beq_self_eq_true _) (by
      have : (Value.type "str" != Value.type "tuple") = true := by decide
      rw [this]; exact hq)
    obtain ⟨x, t, rfl⟩ := k3 f hf
    exact Looks.of_pure rfl
end
end Mi
namespace Mi
open PySem PySem.Spec L2
/-! ### many tuples laid at once -/
def putTs : Hp → List (Addr × List V) → Hp
  | H, [] => H
  | H, p :: ps => putTs (upd H p.1 (.tup p.2)) ps
theorem putTs_off {b : Addr} : ∀ (ps : List (Addr × List V)) (H : Hp), b ∉ ps.map (·.1) → putTs H ps b = H b
  | [], _, _ => rfl
  | p :: ps, H, h => by
    rw [List.map_cons, List.mem_cons, not_or] at h
    show putTs (upd H p.1 (.tup p.2)) ps b = H b
    rw [putTs_off ps _ h.2, upd_ne h.1]
theorem putTs_at : ∀ (ps : List (Addr × List V)) (H : Hp), (ps.map (·.1)).Nodup → ∀ p ∈ ps, putTs H ps p.1 = some (.tup p.2)
  | [], _, _, p, hp => by simp at hp
  | q :: ps, H, nd, p, hp => by
    rw [List.map_cons, List.nodup_cons] at nd
    rcases List.mem_cons.mp hp with e | hp
    · subst e
      show putTs (upd H p.1 (.tup p.2)) ps p.1 = _
      rw [putTs_off ps _ nd.1, upd_same]
    · exact putTs_at ps _ nd.2 p hp
theorem le_same {K : PySem.W.Frag} {mp : Wd} {h : Hq} {H H' : Hp} (r : HRel K mp h H) (s : Same H H') : Le mp H mp H' :=
  ⟨⟨[], by simp⟩, fun a o e n => ⟨s a o e, n⟩, fun a ha n => ⟨by obtain ⟨u, e, _⟩ := r.there a ha; rw [s a u e, e], ha, n⟩⟩
theorem HRel.same {K : PySem.W.Frag} {mp : Wd} {h : Hq} {H H' : Hp} (r : HRel K mp h H) (s : Same H H') : HRel K mp h H' :=
  r.mono (le_same r s) fun a ha => by obtain ⟨u, e, _⟩ := r.there a ha; rw [s a u e, e]
/-- new tuples and one new list of them (or of anything) -/
theorem laid_tups {X : Cx} {pins : List (Addr × Obj)} {σ : L2.St} {H : Hp} {s : Shared} {h' : Heap} {tk : Nat} (I : Inv X pins σ H s) (hk : ∀ b o, s.heap.get? b = some o → h'.get? b = some o) (ps : List (Addr × List V)) (nd : (ps.map (·.1)).Nodup)
    (new : ∀ p ∈ ps, s.heap.objs.size ≤ p.1 ∧ p.2.length ≤ sizeLine ∧ ∃ us : List Value, Vals p.2 us ∧ PyProof.Rows.IsTup h' p.1 us.toArray) {L : Addr} {out : List V} {its : List Value} {n : Nat} (hL : s.heap.objs.size ≤ L) (nL : L ∉ ps.map (·.1))
    (eL : h'.get? L = some { cls := .type "list", data := .seq its.toArray n }) (rv : Vals out its) (hz : out.length ≤ sizeLine) :
    Inv X pins σ (putTs (upd H L (.lst out)) ps) { s with heap := h', toks := tk } ∧ Same H (putTs (upd H L (.lst out)) ps) := by
  have fr : ∀ p ∈ ps, H p.1 = none := fun p hp => I.hok.fresh (new p hp).1
  have frL : H L = none := I.hok.fresh hL
  have off : ∀ b, b ∉ ps.map (·.1) → b ≠ L → putTs (upd H L (.lst out)) ps b = H b := fun b h1 h2 => by rw [putTs_off ps _ h1, upd_ne h2]
  have kp : Same H (putTs (upd H L (.lst out)) ps) := fun b u e => by
    rw [off b (fun z => ?_) (ne_of_none e frL)]
    · exact e
    · obtain ⟨p, hp, rfl⟩ := List.mem_map.mp z
      rw [fr p hp] at e; cases e
  have low : ∀ b o, s.heap.get? b = some o → b ∉ ps.map (·.1) ∧ b ≠ L := fun b o e => ⟨fun z => by
    obtain ⟨p, hp, rfl⟩ := List.mem_map.mp z
    exact absurd (Heap.lt_size e) (Nat.not_lt.mpr (new p hp).1), fun z => absurd (Heap.lt_size e) (Nat.not_lt.mpr (by rw [z]; exact hL))⟩
  refine ⟨?_, kp⟩
  refine I.call' (ch := []) rfl ⟨fun b o q _ _ _ => hk b o q, fun b o q _ _ _ => ⟨o.slots, hk b o q⟩, fun b o q nn _ => ?_, fun b o q _ => ⟨o, hk b o q⟩, fun b xs q => kp b _ q, fun b o u q => kp b _ q, fun b qs q => ⟨#[], by rw [kp b _ q]; simp⟩⟩ (fun b u q => ?_) I.bare fun b z => by simp at z
  · obtain ⟨z1, z2⟩ := low b o q
    rw [off b z1 z2]; exact nn
  · by_cases hb : b ∈ ps.map (·.1)
    · obtain ⟨p, hp, rfl⟩ := List.mem_map.mp hb
      rw [putTs_at ps _ nd p hp] at q
      cases q
      obtain ⟨_, z1, us, z2, z3⟩ := new p hp
      exact ⟨z1, us, z2, z3⟩
    · by_cases hb2 : b = L
      · subst hb2
        rw [putTs_off ps _ hb, upd_same] at q
        cases q
        exact ⟨hz, its, n, rv, eL⟩
      · rw [off b hb hb2] at q
        exact (I.hok b u q).stay (fun d v _ y => hk d v y) (fun d y => kp d _ y) fun d xs y => kp d _ y
/-! ### sorted(d.items()), the keys texts -/
def strOf : D → List Nat
  | .str x => x.cps.toList
  | _ => []
def isStr : D → Bool
  | .str _ => true
  | _ => false
def leKV (p q : D × D) : Bool := !decide (strOf q.1 < strOf p.1)
def pairD (p : D × D) : D := .tup [p.1, p.2]
def mSortItems (f : Ev D) : Ev D := fun ρ h => (f ρ h).bind fun d h1 => match asD h1 d with
  | some kvs => if (kvs.all fun p => isStr p.1 && (p.2.py.isSome && decide ((encD p.2).depth ≤ 60))) = true then .ok (.lst ((kvs.mergeSort leKV).map pairD)) h1 else .bad
  | none => .bad
section
variable {X : Cx}
theorem mt_itemsK : MtR X "dict.items" fun x xs H Q => ∃ (a : Addr) (kvs : List (Key × V)), x = .ref a ∧ xs = [] ∧ H a = some (.dK kvs) ∧ ∀ p, H p = none → Q (.ref p) (upd H p (L2.DX.itemsO p a)) := by
  intro pins s σ H x xs v us Q I rx rxs h
  obtain ⟨a, kvs, rfl, rfl, ha, q⟩ := h
  cases rx
  cases rxs
  obtain ⟨z, hd, vs, rel, o, es, ep, ho, hx, hdat, _⟩ := dk_of I.hok ha
  refine DT.callItems (es := es) (ep := ep) hd ⟨o, ho, hx, hdat⟩ ?_
  have hf : H s.heap.objs.size = none := I.hok.fresh (Nat.le_refl _)
  exact ⟨.ref s.heap.objs.size, upd H s.heap.objs.size (L2.DX.itemsO s.heap.objs.size a), I.laid (t' := s.toks) (fun b u e => Heap.get?_push_of_some _ e) (Nat.le_refl _) (L2.DX.itemsO_ok (Heap.get?_push_size _ rfl)), rfl, q _ hf⟩
theorem pairs_size {κ : Type} [DecidableEq κ] {knd : PySem.KeyKind X.prog X.w κ} : ∀ {es : List DictEntry} {kvs : List (κ × Value)}, Pairs knd es kvs → ∀ (j : Nat) (e : DictEntry), es[j]? = some e → ∃ k v, kvs[j]? = some (k, v) ∧ knd.is k e.key = true ∧ e.val = v
  | _, _, .nil, j, e, h => by simp at h
  | _, _, .cons (kv := kv) h1 h2 t, 0, e, h => by simp at h; subst h; exact ⟨kv.1, kv.2, rfl, h1, h2⟩
  | _, _, .cons h1 h2 t, j + 1, e, h => by
    obtain ⟨k, v, z⟩ := pairs_size t j e (by simpa using h)
    exact ⟨k, v, by simpa using z.1, z.2⟩
/-- the pairs by their places -/
theorem each_ix {α β : Type} {R : α → β → Prop} : ∀ {as : List α} {bs : List β}, as.length = bs.length → (∀ (j : Nat) (a : α) (b : β), as[j]? = some a → bs[j]? = some b → R a b) → PySem.W.EachIs R as bs
  | [], [], _, _ => .nil
  | [], _ :: _, h, _ => by simp at h
  | _ :: _, [], h, _ => by simp at h
  | a :: as, b :: bs, h, f => .cons (f 0 a b rfl rfl) (each_ix (by simpa using h) fun j x y h1 h2 => f (j + 1) x y (by simpa using h1) (by simpa using h2))
theorem each_at {α β : Type} {R : α → β → Prop} : ∀ {as : List α} {bs : List β}, PySem.W.EachIs R as bs → ∀ (j : Nat) {a : α} {b : β}, as[j]? = some a → bs[j]? = some b → R a b
  | _, _, .nil, j, a, b, h1, h2 => by simp at h1
  | _, _, .cons h t, 0, a, b, h1, h2 => by simp at h1 h2; subst h1 h2; exact h
  | _, _, .cons h t, j + 1, a, b, h1, h2 => each_at t j (by simpa using h1) (by simpa using h2)
theorem cr_sortItems (hc : X.calm = true) (hu : X.A.units + 64 < cLine) : CallR X (.builtin "sorted") fun vs H Q => ∃ (p a : Addr) (mp : Wd) (h : Hq) (kvs : List (D × D)) (ks : List Key) (ws : List V), vs = [.ref p] ∧ H p = some (L2.DX.itemsO p a) ∧ HRel X.K mp h H ∧ H a = some (.dK (ks.zip ws)) ∧ ks.length = ws.length ∧
    kvs.map (·.1) = ks.map kD ∧ RpAll X.K mp H (kvs.map (·.2)) ws ∧ (kvs.all fun p => isStr p.1 && (p.2.py.isSome && decide ((encD p.2).depth ≤ 60))) = true ∧ ∀ v mp' H', Le mp H mp' H' → HRel X.K mp' h H' → Rp X.K mp' H' (.lst ((kvs.mergeSort leKV).map pairD)) v → Q v H' := by
  intro pins s σ H xs us Q I r ⟨p, a, mp, h, kvs, ks, ws, exs, hp, rel, ha, lkw, ek, rw', hall, q⟩
  subst exs
  obtain ⟨u, rfl, ru⟩ := vals1 r
  obtain rfl : u = Value.ref p := ru
  have view : s.heap.IsItemsView p a := (show ObjOk X.prog X.w H s.heap p (L2.DX.itemsO p a) from I.hok p _ hp).1
  obtain ⟨z, hd, vs, kv, o, es, ep, ho, hx, hdat, _, prs, nd⟩ := dk_of I.hok ha
  have lk : kvs.length = ks.length := by have := congrArg List.length ek; simpa using this
  have lz : (ks.zip ws).length = kvs.length := by rw [List.length_zip, ← lkw, Nat.min_self, lk]
  have l1 : vs.length = kvs.length := by rw [← kv.length, lz]
  have l2 : es.size = kvs.length := by rw [← l1, ← prs.length, Array.length_toList]
  have hh : X.A.handled = none := I.ok.hd hc
  have hzl : kvs.length ≤ sizeLine := by rw [← lz]; exact z
  refine DT.sortedI (es := es) (ep := ep) hh view ⟨o, ho, hx, hdat⟩ (by rw [l2]; exact hzl) fun h' tk as hk hlt hl hG => ?_
  have lak : as.length = kvs.length := by rw [hl, l2]
  have ndas : as.Nodup := List.Pairwise.imp (fun h => Nat.ne_of_lt h) hG.rise
  -- what stands at each new pair
  have at_ : ∀ (j : Nat) (b : Addr), as[j]? = some b → ∃ (x : Str) (tok : Tok) (val : Value) (d : D) (w : V), kvs[j]? = some (.str x, d) ∧ ks[j]? = some (.inr x) ∧ ws[j]? = some w ∧ RelV w val ∧ Rp X.K mp H d w ∧ h'.get? b = some { cls := .type "tuple", data := .seq #[.str x tok, val] } := by
    intro j b hj
    obtain ⟨en, he, hg⟩ := hG.pairs j b hj
    obtain ⟨k, v, e1, e2, e3⟩ := pairs_size prs j en (by simpa using he)
    have hjk : j < kvs.length := by rw [← lak]; exact (List.getElem?_eq_some_iff.mp hj).1
    obtain ⟨pp, epp⟩ : ∃ pp, kvs[j]? = some pp := ⟨kvs[j], List.getElem?_eq_getElem hjk⟩
    obtain ⟨k1, d⟩ := pp
    have hin : (k1, d) ∈ kvs := List.mem_of_getElem? epp
    have hcond := List.all_eq_true.mp hall (k1, d) hin
    have hst : isStr k1 = true := (Bool.and_eq_true_iff.mp hcond).1
    obtain ⟨x, rfl⟩ : ∃ x, k1 = .str x := by cases k1 <;> first | exact ⟨_, rfl⟩ | cases hst
    have ekj : ks[j]? = some (.inr x) := by
      have h1 : (kvs.map (·.1))[j]? = some (.str x) := by rw [List.getElem?_map, epp]; rfl
      rw [ek, List.getElem?_map, Option.map_eq_some_iff] at h1
      obtain ⟨kk, h2, h3⟩ := h1
      cases kk with
      | inl i => cases h3
      | inr y => cases h3; exact h2
    obtain ⟨w, ew, rd⟩ := rw'.get (i := j) (d := d) (by rw [List.getElem?_map, epp]; rfl)
    have ez : (ks.zip ws)[j]? = some (.inr x, w) := by rw [List.getElem?_zip_eq_some]; exact ⟨ekj, ew⟩
    obtain ⟨u2, eu, ru2⟩ := kv_get kv ez
    rw [e1] at eu
    cases eu
    obtain ⟨t, et⟩ := Value.isStrOf_shape (show Value.isStrOf x en.key = true from e2)
    subst e3
    exact ⟨x, t, en.val, d, w, epp, ekj, ew, ru2, rd, by rw [hg, et]⟩
  -- the sort
  have hob : (h'.push { cls := .type "list", data := .seq (as.map Value.ref).toArray }).get? h'.objs.size = some (PyProof.Rows.seqObj "list" (as.map Value.ref).toArray 0) := Heap.get?_push_size _ rfl
  have keep2 : ∀ b o, h'.get? b = some o → (PySem.W.sortingHeap (h'.push { cls := .type "list", data := .seq (as.map Value.ref).toArray }) h'.objs.size (as.map Value.ref)).get? b = some o := fun b o e => PySem.W.sortingHeap_old (Nat.ne_of_lt (Heap.lt_size e)) (Heap.get?_push_of_some _ e)
  have epr : PySem.W.EachIs (IsPr (PySem.W.sortingHeap (h'.push { cls := .type "list", data := .seq (as.map Value.ref).toArray }) h'.objs.size (as.map Value.ref))) (as.map Value.ref) (kvs.map fun p => (⟨(strOf p.1).toArray⟩, encD p.2)) := by
    refine each_ix (by simp [lak]) fun j u b h1 h2 => ?_
    rw [List.getElem?_map, Option.map_eq_some_iff] at h1 h2
    obtain ⟨t, ht, rfl⟩ := h1
    obtain ⟨pp, hpp, rfl⟩ := h2
    obtain ⟨x, tok, val, d, w, e1, e2, e3, e4, e5, e6⟩ := at_ j t ht
    rw [e1] at hpp; cases hpp
    have hcond := List.all_eq_true.mp hall (.str x, d) (List.mem_of_getElem? e1)
    have hpy : d.py.isSome = true := (Bool.and_eq_true_iff.mp (Bool.and_eq_true_iff.mp hcond).2).1
    obtain ⟨pd, epd⟩ := Option.isSome_iff_exists.mp hpy
    obtain ⟨rs, hr⟩ := Dp.reads I _ _ _ (e5.dp epd) e4
    refine ⟨t, _, _, tok, val, rs, rfl, keep2 _ _ e6, rfl, rfl, ?_⟩
    have : encD d = pd := by unfold encD; rw [epd]; rfl
    show Reads _ val (encD d) rs
    rw [this]
    exact PyProof.Rows.Reads.keeps (fun b o e => keep2 b o (hk b o e)) hr
  have ndn : ((kvs.map fun p => ((⟨(strOf p.1).toArray⟩ : Str), encD p.2)).map (·.1)).Nodup := by
    rw [List.map_map]
    have hnk : (ks.map fun k => (match k with
        | .inr x => x
        | .inl _ => (⟨#[]⟩ : Str))) = kvs.map ((·.1) ∘ fun p => ((⟨(strOf p.1).toArray⟩ : Str), encD p.2)) := by
      refine List.ext_getElem? fun j => ?_
      rw [List.getElem?_map, List.getElem?_map]
      cases ej : kvs[j]? with
      | none =>
        have : ks[j]? = none := by rw [List.getElem?_eq_none_iff] at ej ⊢; omega
        rw [this]; rfl
      | some pp =>
        obtain ⟨t, ht⟩ : ∃ t, as[j]? = some t := by
          have := (List.getElem?_eq_some_iff.mp ej).1
          exact ⟨as[j]'(by omega), List.getElem?_eq_getElem (by omega)⟩
        obtain ⟨x, tok, val, d, w, e1, e2, _⟩ := at_ j t ht
        rw [e1] at ej; cases ej
        rw [e2]
        simp [strOf]
    rw [← hnk]
    have ndk : ks.Nodup := by
      have : vs.map (·.1) = ks := by
        rw [← kv.keys, List.map_fst_zip]; omega
      rw [← this]; exact nd
    refine List.pairwise_map.mpr (List.Pairwise.imp_of_mem (fun {x y} hx hy hne exy => hne ?_) ndk)
    have str_of : ∀ k ∈ ks, ∃ z, k = Sum.inr z := fun k hk => by
      obtain ⟨j, hj⟩ := List.mem_iff_getElem?.mp hk
      obtain ⟨t, ht⟩ : ∃ t, as[j]? = some t := by
        have := (List.getElem?_eq_some_iff.mp hj).1
        exact ⟨as[j]'(by omega), List.getElem?_eq_getElem (by omega)⟩
      obtain ⟨x, _, _, _, _, _, e2, _⟩ := at_ j t ht
      rw [e2] at hj; cases hj
      exact ⟨x, rfl⟩
    obtain ⟨x', rfl⟩ := str_of x hx
    obtain ⟨y', rfl⟩ := str_of y hy
    simp only at exy
    rw [exy]
  have S : PySem.W.SortsAt X.prog X.w X.A.in1.in1 { s with heap := PySem.W.sortingHeap (h'.push { cls := .type "list", data := .seq (as.map Value.ref).toArray }) h'.objs.size (as.map Value.ref), toks := tk } (prKind (PySem.W.sortingHeap (h'.push { cls := .type "list", data := .seq (as.map Value.ref).toArray }) h'.objs.size (as.map Value.ref)) (as.map Value.ref)) (as.map Value.ref) := by
    refine sorts_prs (s := { s with heap := PySem.W.sortingHeap (h'.push { cls := .type "list", data := .seq (as.map Value.ref).toArray }) h'.objs.size (as.map Value.ref), toks := tk }) epr ndn fun v p hv hp' => ?_
    obtain ⟨p0, hp0, i0⟩ := epr.left v hv
    obtain ⟨pp, hpp, rfl⟩ := List.mem_map.mp hp0
    have hcond := List.all_eq_true.mp hall pp hpp
    have h2 := Bool.and_eq_true_iff.mp (Bool.and_eq_true_iff.mp hcond).2
    obtain ⟨pd, epd⟩ := Option.isSome_iff_exists.mp h2.1
    have hen : encD pp.2 = pd := by unfold encD; rw [epd]; rfl
    have hpl : pd.plain = true := py_plain epd
    have heq : p.2 = pd := by
      obtain ⟨a1, o1, n1, t1, v1, as1, ee1, g1, _, g2, g3⟩ := hp'
      obtain ⟨a2, o2, n2, t2, v2, as2, ee2, k1, _, k2, k3⟩ := i0
      rw [ee1] at ee2; cases ee2
      rw [g1] at k1; cases k1
      rw [g2] at k2
      simp at k2
      have k3' := k3
      dsimp only at k3'
      rw [hen] at k3'
      rw [k2.1.2] at g3
      exact (PySem.SeqAt.plain_unique pd p.2 v2 as2 as1 hpl k3' g3).symm
    rw [heq]
    refine ⟨hpl, ?_⟩
    have := of_decide_eq_true h2.2
    rw [hen] at this
    show X.A.units + 1 + 1 + pd.depth < cLine
    omega
  have lTP : as.length = ((ks.zip ws).map fun q => [kV q.1, q.2]).length := by rw [List.length_map, lz, lak]
  have atTP : ∀ (j : Nat) (b : Addr), as[j]? = some b → ∃ (x : Str) (tok : Tok) (val : Value) (d : D) (w : V), kvs[j]? = some (.str x, d) ∧ (b, [V.str x, w]) ∈ as.zip ((ks.zip ws).map fun q => [kV q.1, q.2]) ∧ RelV w val ∧ Rp X.K mp H d w ∧ h'.get? b = some { cls := .type "tuple", data := .seq #[.str x tok, val] } := by
    intro j b hj
    obtain ⟨x, tok, val, d, w, e1, e2, e3, e4, e5, e6⟩ := at_ j b hj
    refine ⟨x, tok, val, d, w, e1, ?_, e4, e5, e6⟩
    refine List.mem_of_getElem? (i := j) ?_
    rw [List.getElem?_zip_eq_some]
    refine ⟨hj, ?_⟩
    rw [List.getElem?_map]
    have : (ks.zip ws)[j]? = some (.inr x, w) := by rw [List.getElem?_zip_eq_some]; exact ⟨e2, e3⟩
    rw [this]; rfl
  refine wpAny_call_entry PyProof.Rows.slot_list_sort ⟨_, hob, rfl⟩ PyProof.Rows.entry_list_sort (PySem.W.list_sort_vals hob S (by rw [List.length_map, lak]; exact hzl) ⟨.none, rfl, ?_⟩) (PyProof.Rows.args_list_sort _)
  have eR : PySem.W.EachIs (fun (v : Value) (p : D × D) => ∃ b x w, v = .ref b ∧ p.1 = .str x ∧ (b, [V.str x, w]) ∈ as.zip ((ks.zip ws).map fun q => [kV q.1, q.2]) ∧ Rp X.K mp H p.2 w) (as.map Value.ref) kvs := by
    refine each_ix (by simp [lak]) fun j u b h1 h2 => ?_
    rw [List.getElem?_map, Option.map_eq_some_iff] at h1
    obtain ⟨t, ht, rfl⟩ := h1
    obtain ⟨x, tok, val, d, w, e1, e2, e3, e4, e5⟩ := atTP j t ht
    rw [e1] at h2; cases h2
    exact ⟨t, x, w, rfl, rfl, e2, e4⟩
  have eK : PySem.W.EachIs (fun (v : Value) (p : D × D) => (prKind (PySem.W.sortingHeap (h'.push { cls := .type "list", data := .seq (as.map Value.ref).toArray }) h'.objs.size (as.map Value.ref)) (as.map Value.ref)).keyOf v = some (strOf p.1)) (as.map Value.ref) kvs := by
    refine each_ix (by simp [lak]) fun j u b h1 h2 => ?_
    have hm : u ∈ as.map Value.ref := List.mem_of_getElem? h1
    have hpr : IsPr (PySem.W.sortingHeap (h'.push { cls := .type "list", data := .seq (as.map Value.ref).toArray }) h'.objs.size (as.map Value.ref)) u ((⟨(strOf b.1).toArray⟩ : Str), encD b.2) := each_at epr j h1 (by rw [List.getElem?_map, h2]; rfl)
    rw [prKind_some hm hpr]
  have eo := PySem.W.sortVals_each (κ := prKind (PySem.W.sortingHeap (h'.push { cls := .type "list", data := .seq (as.map Value.ref).toArray }) h'.objs.size (as.map Value.ref)) (as.map Value.ref)) (rev := false) (fun p : D × D => strOf p.1) eR eK
  have ele : PySem.W.sortLe (prKind (PySem.W.sortingHeap (h'.push { cls := .type "list", data := .seq (as.map Value.ref).toArray }) h'.objs.size (as.map Value.ref)) (as.map Value.ref)).toKeyOrd false (fun p : D × D => strOf p.1) = leKV := by
    funext x y
    rfl
  rw [ele] at eo
  generalize PySem.W.sortVals (prKind (PySem.W.sortingHeap (h'.push { cls := .type "list", data := .seq (as.map Value.ref).toArray }) h'.objs.size (as.map Value.ref)) (as.map Value.ref)) false (as.map Value.ref) (as.map Value.ref) = out at eo ⊢
  -- the new heap
  obtain ⟨c, hL⟩ := PyProof.Rows.sortedHeap_at (out := out.toArray) hob
  have keep3 : ∀ b o, h'.get? b = some o → (PyProof.Rows.sortedHeap (h'.push { cls := .type "list", data := .seq (as.map Value.ref).toArray }) h'.objs.size (as.map Value.ref) out.toArray).get? b = some o := fun b o e => by
    rw [PyProof.Rows.sortedHeap_old (Nat.ne_of_lt (Heap.lt_size e)) (by rw [PyProof.Rows.size_push']; exact Nat.lt_succ_of_lt (Heap.lt_size e))]
    exact Heap.get?_push_of_some _ e
  have mapTP : (as.zip ((ks.zip ws).map fun q => [kV q.1, q.2])).map (·.1) = as := List.map_fst_zip (by rw [lTP]; exact Nat.le_refl _)
  have outV : ∃ ov : List V, Vals ov out ∧ ov.length = kvs.length ∧ ∀ (H' : Hp), Same H H' → (∀ p ∈ as.zip ((ks.zip ws).map fun q => [kV q.1, q.2]), H' p.1 = some (.tup p.2)) → RpAll X.K mp H' ((kvs.mergeSort leKV).map pairD) ov := by
    have go : ∀ {out : List Value} {bs : List (D × D)}, PySem.W.EachIs (fun (v : Value) (p : D × D) => ∃ b x w, v = .ref b ∧ p.1 = .str x ∧ (b, [V.str x, w]) ∈ as.zip ((ks.zip ws).map fun q => [kV q.1, q.2]) ∧ Rp X.K mp H p.2 w) out bs →
        ∃ ov : List V, Vals ov out ∧ ov.length = bs.length ∧ ∀ (H' : Hp), Same H H' → (∀ p ∈ as.zip ((ks.zip ws).map fun q => [kV q.1, q.2]), H' p.1 = some (.tup p.2)) → RpAll X.K mp H' (bs.map pairD) ov := by
      intro out bs e
      induction e with
      | nil => exact ⟨[], .nil, rfl, fun _ _ _ => .nil⟩
      | @cons v pq _ _ h1 _ ih =>
        obtain ⟨ov, i1, i2, i3⟩ := ih
        obtain ⟨b, x, w, rfl, e2, e3, e4⟩ := h1
        refine ⟨.ref b :: ov, .cons rfl i1, by simp [i2], fun H' sm ht => ?_⟩
        refine .cons ?_ (i3 H' sm ht)
        have le := le_same rel sm
        have hb : b ∉ mp.bn := fun zz => by
          obtain ⟨uu, eu, _⟩ := rel.there b zz
          have hbm : b ∈ as := by rw [← mapTP]; exact List.mem_map.mpr ⟨_, e3, rfl⟩
          have := hG.above b hbm
          have h5 := I.hok.lt eu
          exact absurd (Nat.lt_trans this h5) (Nat.lt_irrefl _)
        obtain ⟨k1, d1⟩ := pq
        dsimp only at e2
        subst e2
        exact .tup (ht _ e3) hb (.cons (.str x) (.cons (e4.mono le) .nil))
    obtain ⟨ov, o1, o2, o3⟩ := go eo
    exact ⟨ov, o1, by rw [o2, List.length_mergeSort], o3⟩
  obtain ⟨ov, o1, o2, o3⟩ := outV
  have nL : h'.objs.size ∉ (as.zip ((ks.zip ws).map fun q => [kV q.1, q.2])).map (·.1) := by
    rw [mapTP]
    intro zz
    exact absurd (hG.there zz) (Nat.lt_irrefl _)
  have hnew : ∀ pq ∈ as.zip ((ks.zip ws).map fun q => [kV q.1, q.2]), s.heap.objs.size ≤ pq.1 ∧ pq.2.length ≤ sizeLine ∧ ∃ us : List Value, Vals pq.2 us ∧ PyProof.Rows.IsTup (PyProof.Rows.sortedHeap (h'.push { cls := .type "list", data := .seq (as.map Value.ref).toArray }) h'.objs.size (as.map Value.ref) out.toArray) pq.1 us.toArray := by
    intro pq hpq
    obtain ⟨j, hj⟩ := List.mem_iff_getElem?.mp hpq
    obtain ⟨b, vl⟩ := pq
    rw [List.getElem?_zip_eq_some] at hj
    obtain ⟨x, tok, val, d, w, e1, e2, e3, e4, e5⟩ := atTP j b hj.1
    obtain ⟨x', tok', val', d', w', f1, f2, f3, f4, f5, f6⟩ := at_ j b hj.1
    have hv : vl = [V.str x', w'] := by
      have h1 := hj.2
      rw [List.getElem?_map] at h1
      have : (ks.zip ws)[j]? = some (.inr x', w') := by rw [List.getElem?_zip_eq_some]; exact ⟨f2, f3⟩
      rw [this] at h1
      exact (Option.some.inj h1).symm
    subst hv
    exact ⟨Nat.le_of_lt (hG.above b (List.mem_of_getElem? hj.1)), by show 2 ≤ sizeLine; rw [sizeLine_eq]; decide, [.str x' tok', val'], .cons ⟨tok', rfl⟩ (.cons f4 .nil), ⟨_, keep3 _ _ f6, rfl, 0, rfl⟩⟩
  obtain ⟨J, sm⟩ := laid_tups (tk := tk) I (fun b o e => keep3 b o (hk b o e)) (as.zip ((ks.zip ws).map fun q => [kV q.1, q.2])) (by rw [mapTP]; exact ndas) hnew (L := h'.objs.size) (out := ov) (its := out) (n := c) (Nat.le_of_lt hlt) nL hL o1 (by rw [o2]; exact hzl)
  have hpL : H h'.objs.size = none := I.hok.fresh (Nat.le_of_lt hlt)
  have ht := putTs_at (as.zip ((ks.zip ws).map fun q => [kV q.1, q.2])) (upd H h'.objs.size (.lst ov)) (by rw [mapTP]; exact ndas)
  refine ⟨.ref h'.objs.size, _, J, rfl, q _ mp _ (le_same rel sm) (rel.same sm) (.lst ?_ (rel.fresh hpL) (o3 _ sm ht))⟩
  rw [putTs_off _ _ nL, upd_same]
end
section
variable {X : Cx} {W : WX} {e : Expr} {f : Ev D} {p pos apos cpos : Pos}
theorem se_sortItems (hc : X.calm = true) (hu : X.A.units + 64 < cLine) (he : SE X W e f) (hm : X.mg "sorted" = none) (hg : Gl X "sorted" := by rfl) (hbase : attributeBase e "items" X.env (eval e X.env) = eval e X.env := by rfl) (hline : (apos.endLine == cpos.line) = true := by rfl)
    (hs : starEach [.Call (.Attribute e "items" apos) [] [] cpos] X.env = (false, eval (.Call (.Attribute e "items" apos) [] [] cpos) X.env) :: starEach [] X.env := by rfl) (hpl : (backTo pos (starEach [] X.env)).any (·.1) = false := by rfl) (hv : bootBuiltins "sorted" = some (.builtin "sorted") := by decide +kernel) :
    SE X W (.Call (.Name "sorted" p) [.Call (.Attribute e "items" apos) [] [] cpos] [] pos) (mSortItems f) :=
  PE.imp (pe_callB (cr_sortItems hc hu) hg hm hv (pa_cons (pe_bm0 PySem.F.plainAttrs_dict PySem.F.slot_dict_items PySem.F.type_dict_items mt_itemsK he hbase hline) pa_nil hs) (by decide) (by decide) hs hpl) fun σ H Q ⟨ρ, h, mp, r, en, q⟩ => by
    refine ⟨ρ, h, mp, r, en, Post.mono (Post.bind q) fun x H1 ⟨mp1, h1, d1, le1, r1, q1, p1⟩ => ?_⟩
    dsimp only at p1
    cases ed : asD h1 d1 with
    | none => rw [ed] at p1; exact p1.elim
    | some kvs =>
      rw [ed] at p1
      dsimp only at p1
      split at p1
      · rename_i hall
        obtain ⟨a, rfl, c⟩ := asD_ok r1 q1 ed
        have hty : tyV X.K "dict" (.ref a) H1 := ty_ok r1 q1 (T := "dict") (by simp only [tyOk, ed]; rfl)
        rcases c with ⟨ks, vs, e1, l, ek, rv⟩ | ⟨ks, vs, ne, e1, l, ek, rv⟩
        · refine ⟨hty, a, _, rfl, rfl, e1, fun b hb => ?_⟩
          have le := le_new r1 (o := L2.DX.itemsO b a) hb
          refine ⟨b, a, mp1, h1, kvs, ks, vs, rfl, upd_same, r1.new hb, by rw [upd_ne (ne_of_none e1 hb)]; exact e1, l, ek, rv.mono le, hall, fun v mp' H' le' r' rp => p1 v mp' H' (le.trans le') r' rp⟩
        · exfalso
          cases kvs with
          | nil => exact ne rfl
          | cons pp t => cases ks with
            | nil => simp at ek
            | cons k1 ks =>
              simp only [List.map_cons, List.cons.injEq] at ek
              have := List.all_eq_true.mp hall pp (by simp)
              rw [ek.1] at this
              cases this
      · exact p1.elim
end
/-! ### isinstance with a built-in class -/
def tyName (h : Hq) : D → Option String
  | .non => some "NoneType"
  | .bl _ => some "bool"
  | .int _ => some "int"
  | .str _ => some "str"
  | .tup _ => some "tuple"
  | .ktup _ => some "tuple"
  | .lst _ => some "list"
  | .klst _ => some "list"
  | .dic _ => some "dict"
  | .ref l => (match h[l]? with
    | some (.lst _) => some "list"
    | some (.dic _) => some "dict"
    | _ => none)
  | _ => none
def isiB (t T : String) : Bool := t == T || (t == "bool" && T == "int")
def isiTs : List String := ["int", "bool", "str", "tuple", "list", "dict"]
theorem kit_tab : ∀ t ∈ ["NoneType", "bool", "int", "str", "tuple", "list", "dict"], ∀ T ∈ isiTs, kitB t T = some (isiB t T) := by decide +kernel
def gIsi (ds : List D) (h : Hq) : Option (D × Hq) := match ds with
  | [d, .ty T] => if T ∈ isiTs then (tyName h d).map fun t => (.bl (isiB t T), h) else none
  | _ => none
theorem ty_of {K : PySem.W.Frag} {mp : Wd} {H : Hp} {h : Hq} {d : D} {v : V} {t : String} (r : HRel K mp h H) (a : Rp K mp H d v) (e : tyName h d = some t) : TyX K H v (.type t) ∧ t ∈ ["NoneType", "bool", "int", "str", "tuple", "list", "dict"] := by
  cases a with
  | non => cases e; exact ⟨.base .non, by decide⟩
  | bl b => cases e; exact ⟨.base (.bl b), by decide⟩
  | int b => cases e; exact ⟨.base (.int b), by decide⟩
  | str b => cases e; exact ⟨.base (.str b), by decide⟩
  | ty n => cases e
  | tup h1 _ _ => cases e; exact ⟨.base (.tup h1), by decide⟩
  | lst h1 _ _ => cases e; exact ⟨.base (.lst h1), by decide⟩
  | ktup h1 _ =>
    cases e
    rcases h1 with (h1 | ⟨o, h1⟩) | ⟨o, its, n, h1, h2, _⟩
    · cases h1
    · cases h1
    · exact ⟨.kTuple h1 h2, by decide⟩
  | klst h1 _ =>
    cases e
    rcases h1 with ⟨h1 | ⟨o, h1⟩, _⟩ | ((h1 | ⟨o, h1⟩) | ⟨o, its, n, h1, h2, _⟩)
    · exact ⟨.base (.lst h1), by decide⟩
    · exact ⟨.base (.frz h1), by decide⟩
    · cases h1
    · cases h1
    · exact ⟨.kList h1 h2, by decide⟩
  | dicK h1 => cases e; exact ⟨.base (.dK h1), by decide⟩
  | dicT _ h1 => cases e; exact ⟨.base (.dT h1), by decide⟩
  | @ref l a m =>
    simp only [tyName] at e
    split at e
    · rename_i xs q
      cases e
      obtain ⟨vs, e1, _⟩ := r.obj _ _ _ q m
      exact ⟨.base (.lst e1), by decide⟩
    · rename_i xs q
      cases e
      rcases (r.obj _ _ _ q m : DicAt K mp H xs a) with ⟨_, _, e1, _⟩ | ⟨_, _, _, e1, _⟩
      · exact ⟨.base (.dK e1), by decide⟩
      · exact ⟨.base (.dT e1), by decide⟩
    · cases e
theorem c1_isi {X : Cx} : C1 X (.builtin "isinstance") gIsi := by
  intro pins s σ H xs us Q I rv ⟨mp, h, ds, r, a, p⟩
  unfold gIsi at p
  split at p
  · rename_i d T
    split at p
    · rename_i hT
      obtain ⟨x, c, rfl, r1, r2⟩ := a.two
      cases r2
      cases e : tyName h d with
      | none => rw [e] at p; exact p.elim
      | some t =>
        rw [e] at p
        obtain ⟨h1, h2⟩ := ty_of r r1 e
        exact call_isi pins s σ H _ us Q I rv ⟨x, .ty T, .type t, .type T, isiB t T, rfl, .ty T, h1, kit_ty (kit_tab t h2 T hT), p _ mp H .refl r (.bl _)⟩
    · exact p.elim
  · exact p.elim
/-! ### dict(pairs), the keys ints and texts -/
def isPrs : List D → Option (List (D × D))
  | [] => some []
  | .tup [k, v] :: ds => (isPrs ds).map ((k, v) :: ·)
  | _ => none
def mergeKV (kvs more : List (D × D)) : List (D × D) := more.foldl (fun acc p => putKV acc p.1 p.2) kvs
def gDict (ds : List D) (h : Hq) : Option (D × Hq) := match ds with
  | [d] => (match asLk h d with
    | some xs => (match isPrs xs with
      | some ps => if (ps.all fun p => (isK p.1).isSome) = true then some (.dic (mergeKV [] ps), h) else none
      | none => none)
    | none => none)
  | _ => none
section
variable {K : PySem.W.Frag} {mp : Wd} {H : Hp}
theorem prs_ok : ∀ {ds : List D} {vs : List V} {ps : List (D × D)}, RpAll K mp H ds vs → isPrs ds = some ps → (ps.all fun p => (isK p.1).isSome) = true →
    ∃ (as : List Addr) (ks : List Key) (ws : List V), vs = as.map V.ref ∧ ks.length = ws.length ∧ Paired (fun p kv => SqT K H p [kV kv.1, kv.2]) as (ks.zip ws) ∧ ps.map (·.1) = ks.map kD ∧ RpAll K mp H (ps.map (·.2)) ws
  | _, _, _, .nil, e, _ => by simp [isPrs] at e; subst e; exact ⟨[], [], [], rfl, rfl, .nil, rfl, .nil⟩
  | _, _, _, .cons (d := d) r t, e, ha => by
    unfold isPrs at e
    split at e
    · rename_i h1; cases h1
    · rename_i k v ds' h1
      cases h1
      rw [Option.map_eq_some_iff] at e
      obtain ⟨ps, e1, rfl⟩ := e
      rw [List.all_cons, Bool.and_eq_true] at ha
      obtain ⟨as, ks, ws, a1, a2, a3, a4, a5⟩ := prs_ok t e1 ha.2
      obtain ⟨kk, hk⟩ := Option.isSome_iff_exists.mp ha.1
      have ek := isK_eq hk
      dsimp only at ek
      subst ek
      cases r with
      | @tup b vs _ h2 n2 q2 =>
        obtain ⟨x, y, rfl, rx, ry⟩ := q2.two
        have ex := rp_key rx
        subst ex
        exact ⟨b :: as, kk :: ks, y :: ws, by rw [a1]; rfl, by simp [a2], .cons (SqT.of h2) a3, by simp [a4], .cons ry a5⟩
    · cases e
theorem merge_ok : ∀ (more : List (D × D)) {kvs : List (D × D)} {ks ms : List Key} {vs ws : List V}, ks.length = vs.length → kvs.map (·.1) = ks.map kD → RpAll K mp H (kvs.map (·.2)) vs → ms.length = ws.length → more.map (·.1) = ms.map kD → RpAll K mp H (more.map (·.2)) ws →
    ∃ (ks' : List Key) (vs' : List V), mergeK (ks.zip vs) (ms.zip ws) = ks'.zip vs' ∧ ks'.length = vs'.length ∧ (mergeKV kvs more).map (·.1) = ks'.map kD ∧ RpAll K mp H ((mergeKV kvs more).map (·.2)) vs'
  | [], kvs, ks, ms, vs, ws, l, e, r, l2, e2, r2 => by
    cases ms with
    | nil => exact ⟨ks, vs, by simp [mergeK], l, e, r⟩
    | cons _ _ => simp at e2
  | p :: more, kvs, ks, ms, vs, ws, l, e, r, l2, e2, r2 => by
    cases ms with
    | nil => simp at e2
    | cons m ms =>
      cases ws with
      | nil => simp at l2
      | cons w ws =>
        simp only [List.map_cons, List.cons.injEq] at e2
        cases r2 with
        | cons q1 q2 =>
          obtain ⟨ks1, vs1, b1, b2, b3, b4⟩ := putKV_g keyEq_k (k := m) q1 l e r
          rw [← e2.1] at b3 b4
          obtain ⟨ks2, vs2, c1, c2, c3, c4⟩ := merge_ok more b2 b3 b4 (by simpa using l2) e2.2 q2
          refine ⟨ks2, vs2, ?_, c2, c3, c4⟩
          rw [← c1, ← b1]
          rfl
end
theorem c1_dict {X : Cx} (hc : X.calm = true) : C1 X (.type "dict") gDict := by
  intro pins s σ H xs us Q I rv ⟨mp, h, ds, r, a, p⟩
  unfold gDict at p
  split at p
  · rename_i d
    obtain ⟨v, rfl, q⟩ := a.one
    split at p
    · rename_i ys e
      split at p
      · rename_i ps e2
        split at p
        · rename_i hk
          obtain ⟨pa, vs, rfl, hs, ra⟩ := asLk_ok r q e
          obtain ⟨as, ks, ws, a1, a2, a3, a4, a5⟩ := prs_ok ra e2 hk
          obtain ⟨ks', vs', b1, b2, b3, b4⟩ := merge_ok ps (kvs := []) (ks := []) (vs := []) rfl rfl .nil a2 a4 a5
          refine call_dictP hc pins s σ H _ us Q I rv ⟨pa, as, ks.zip ws, rfl, by rw [← a1]; exact hs, a3, fun b hb => ?_⟩
          have le := le_new r (o := .dK (mergeK [] (ks.zip ws))) hb
          refine p _ mp _ le (r.new hb) (.dicK ?_ b2 (r.fresh hb) b3 (b4.mono le))
          rw [upd_same]
          exact congrArg (fun z => some (HO.dK z)) b1
        · exact p.elim
      · exact p.elim
    · exact p.elim
  · exact p.elim
end Mi
namespace Mi
open PySem PySem.Spec L2
/-! ### a def's own places forgotten behind it -/
mutual
def D.nr : D → Bool
  | .tup xs => D.nrs xs
  | .lst xs => D.nrs xs
  | .ktup xs => D.nrs xs
  | .klst xs => D.nrs xs
  | .dic _ => false
  | .set _ => false
  | .ref _ => false
  | _ => true
def D.nrs : List D → Bool
  | [] => true
  | x :: xs => D.nr x && D.nrs xs
end
section
variable {K : PySem.W.Frag} {mp mp' : Wd} {H H' : Hp}
mutual
theorem Rp.nr (m2 : Wd) (e : m2.bn = mp.bn) : ∀ {d : D} {v : V}, Rp K mp H d v → d.nr = true → Rp K m2 H d v
  | _, _, .non, _ => .non
  | _, _, .bl b, _ => .bl b
  | _, _, .int i, _ => .int i
  | _, _, .str x, _ => .str x
  | _, _, .ty n, _ => .ty n
  | _, _, .tup h n r, z => .tup h (by rw [e]; exact n) (r.nr m2 e (by simpa [D.nr] using z))
  | _, _, .lst h n r, z => .lst h (by rw [e]; exact n) (r.nr m2 e (by simpa [D.nr] using z))
  | _, _, .ktup h r, z => .ktup h (r.nr m2 e (by simpa [D.nr] using z))
  | _, _, .klst h r, z => .klst (by rw [e]; exact h) (r.nr m2 e (by simpa [D.nr] using z))
  | _, _, .dicK .., z => by simp [D.nr] at z
  | _, _, .dicT .., z => by simp [D.nr] at z
  | _, _, .ref h, z => by simp [D.nr] at z
theorem RpAll.nr (m2 : Wd) (e : m2.bn = mp.bn) : ∀ {ds : List D} {vs : List V}, RpAll K mp H ds vs → D.nrs ds = true → RpAll K m2 H ds vs
  | _, _, .nil, _ => .nil
  | _, _, .cons h t, z => by
    simp only [D.nrs, Bool.and_eq_true] at z
    exact .cons (h.nr m2 e z.1) (t.nr m2 e z.2)
end
mutual
/-- what stood ahead already, over the places that were there -/
theorem Rp.cut (le : Le mp H mp' H') : ∀ {d : D} {v0 v : V}, Rp K mp H d v0 → Rp K mp' H' d v → Rp K ⟨mp.pl, mp'.bn⟩ H' d v
  | _, _, _, .non, .non => .non
  | _, _, _, .bl b, .bl _ => .bl b
  | _, _, _, .int i, .int _ => .int i
  | _, _, _, .str x, .str _ => .str x
  | _, _, _, .ty n, .ty _ => .ty n
  | _, _, _, .tup _ _ r0, .tup h n r => .tup h n (r0.cut le r)
  | _, _, _, .lst _ _ r0, .lst h n r => .lst h n (r0.cut le r)
  | _, _, _, .ktup _ r0, .ktup h r => .ktup h (r0.cut le r)
  | _, _, _, .klst _ r0, .klst h r => .klst h (r0.cut le r)
  | _, _, _, .dicK _ _ _ _ r0, .dicK h k n q r => .dicK h k n q (r0.cut le r)
  | _, _, _, .dicK _ _ _ _ r0, .dicT z h k n q r => .dicT z h k n q (r0.cut le r)
  | _, _, _, .dicT _ _ _ _ _ r0, .dicK h k n q r => .dicK h k n q (r0.cut le r)
  | _, _, _, .dicT _ _ _ _ _ r0, .dicT z h k n q r => .dicT z h k n q (r0.cut le r)
  | _, _, _, .ref h0, .ref h => .ref (by
      have := le.get h0
      rw [h] at this; cases this; exact h0)
theorem RpAll.cut (le : Le mp H mp' H') : ∀ {ds : List D} {vs0 vs : List V}, RpAll K mp H ds vs0 → RpAll K mp' H' ds vs → RpAll K ⟨mp.pl, mp'.bn⟩ H' ds vs
  | _, _, _, .nil, .nil => .nil
  | _, _, _, .cons h0 t0, .cons h t => .cons (h0.cut le h) (t0.cut le t)
end
theorem RpF.cut (le : Le mp H mp' H') : ∀ {ds : List (Str × D)} {vs0 vs : List (Str × V)}, RpF K mp H ds vs0 → RpF K mp' H' ds vs → RpF K ⟨mp.pl, mp'.bn⟩ H' ds vs
  | _, _, _, .nil, .nil => .nil
  | _, _, _, .cons h0 t0, .cons h t => .cons (h0.cut le h) (t0.cut le t)
theorem ORel.cut (le : Le mp H mp' H') {o : O} {a0 a : Addr} (r0 : ORel K mp H o a0) (r : ORel K mp' H' o a) : ORel K ⟨mp.pl, mp'.bn⟩ H' o a := by
  cases o with
  | lst ds =>
    obtain ⟨_, _, q0⟩ := r0
    obtain ⟨vs, e1, q⟩ := r
    exact ⟨vs, e1, q0.cut le q⟩
  | dic kvs =>
    obtain ⟨vs0, q0⟩ : ∃ vs, RpAll K mp H (kvs.map (·.2)) vs := by
      rcases r0 with ⟨_, vs, _, _, _, q⟩ | ⟨_, vs, _, _, _, _, q⟩
      · exact ⟨vs, q⟩
      · exact ⟨vs, q⟩
    rcases r with ⟨ks, vs, e1, l, k, q⟩ | ⟨ks, vs, z, e1, l, k, q⟩
    · exact .inl ⟨ks, vs, e1, l, k, q0.cut le q⟩
    · exact .inr ⟨ks, vs, z, e1, l, k, q0.cut le q⟩
  | ins c fs =>
    obtain ⟨_, _, _, q0⟩ := r0
    obtain ⟨dx, vs, e1, q⟩ := r
    exact ⟨dx, vs, e1, q0.cut le q⟩
  | hid => exact r
theorem HRel.cut {h h' : Hq} (r0 : HRel K mp h H) (le : Le mp H mp' H') (r : HRel K mp' h' H') (e : h'.take h.length = h) : Le mp H ⟨mp.pl, mp'.bn⟩ H' ∧ HRel K ⟨mp.pl, mp'.bn⟩ h H' := by
  refine ⟨⟨⟨[], by simp⟩, le.keep, fun a ha n => ⟨(le.own a ha n).1, (le.own a ha n).2.1, n⟩⟩, r0.len, r0.nd, fun a ha => ?_, r.there, fun l o a h1 h2 => ?_⟩
  · obtain ⟨l, hl⟩ := List.mem_iff_getElem?.mp ha
    exact r.sub a (List.mem_of_getElem? (le.get hl))
  · have hl : l < h.length := (List.getElem?_eq_some_iff.mp h1).1
    have h3 : h'[l]? = some o := by
      rw [← e, List.getElem?_take_of_lt hl] at h1
      exact h1
    exact ORel.cut le (r0.obj l o a h1 h2) (r.obj l o a h3 (le.get h2))
end
open Classical in
noncomputable def gcR (h : Hq) (r : Res D) : Res D := match r with
  | .ok d h' => if d.nr = true ∧ h'.take h.length = h then .ok d h else .bad
  | .exc c h' => if h'.take h.length = h then .exc c h else .bad
  | .bad => .bad
theorem post_gc {K : PySem.W.Frag} {mp : Wd} {h : Hq} {H : Hp} {r : Res D} {Q : VK} {E : Str → Hp → Prop} (rel : HRel K mp h H) (p : Post K (rD K) mp H (gcR h r) Q E) : Post K (rD K) mp H r Q E := by
  cases r with
  | bad => exact p
  | ok d h' =>
    unfold gcR at p
    dsimp only at p
    split at p
    · rename_i hz
      intro v mp' H' le r' rp
      obtain ⟨le2, r2⟩ := rel.cut le r' hz.2
      exact p v ⟨mp.pl, mp'.bn⟩ H' le2 r2 (Rp.nr (mp := mp') ⟨mp.pl, mp'.bn⟩ rfl rp hz.1)
    · exact p.elim
  | exc c h' =>
    unfold gcR at p
    dsimp only at p
    split at p
    · rename_i hz
      intro mp' H' le r'
      obtain ⟨le2, r2⟩ := rel.cut le r' hz
      exact p ⟨mp.pl, mp'.bn⟩ H' le2 r2
    · exact p.elim
/-- a def's entry in the table: how many slots, whether its own places are forgotten, its body -/
structure Df (F : Type) where
  n : Nat
  gc : Bool
  b : Calls F → Ex
noncomputable def run {F : Type} (T : F → Df F) : Nat → Calls F
  | 0 => fun _ _ _ => .bad
  | k + 1 => fun f ds h => match (T f).gc with
    | false => ((T f).b (run T k) (startD (T f).n ds) h).res
    | true => gcR h ((T f).b (run T k) (startD (T f).n ds) h).res
theorem fn_run {F : Type} (T : F → Df F) {fx : F} {P : Program} {w : World} {K : PySem.W.Frag} {mg : Str → Option Value} {base : Heap} {nm qual : Str} {params : Arguments} {body : List Stmt} {scope : Scope} {f : Addr} {fd : FuncData} {N ps : List Str} {k : Nat}
    (FD : FunD K nm qual params body scope [] [] f fd) (S : FnScope N ps scope) (hn : (T fx).n = N.length)
    (hb : ∀ (cdv : Value) (A : Around) (outer : List Env) (s : Shared) (H : Hp) (E : XK), Room k (A.deeper (PyProof.Rows.envOfC qual scope s.heap.objs.size f cdv)) →
      SSs (cxOf (L2.CX P w) P w K mg base N qual scope f cdv A outer s H E) (fun c d _ H' => E c d H') body ((T fx).b (run T k))) :
    FnOk P w K mg base (L2.CX P w) (k + 1) f fd ps (spM K (run T (k + 1)) fx ps.length) := by
  have h1 : FnOk P w K mg base (L2.CX P w) (k + 1) f fd ps (spM K (fun (_ : F) ds h => ((T fx).b (run T k) (startD (T fx).n ds) h).res) fx ps.length) :=
    fn_mi (fx := fx) FD S (fun ds h _ => by rw [hn]) hb
  refine h1.imp fun vs H Q E ⟨hl, mp, h, ds, r, a, q⟩ => ⟨hl, mp, h, ds, r, a, ?_⟩
  unfold run at q
  cases e : (T fx).gc with
  | false => rw [e] at q; exact q
  | true => rw [e] at q; exact post_gc r q
end Mi
namespace Mi
open PySem PySem.Spec L2
def mBad : Ev D := fun _ _ => .bad
theorem se_bad {X : Cx} {W : WX} {e : Expr} : SE X W e mBad := ⟨fun pins s σ H Q I ⟨ρ, h, mp, r, en, p⟩ => p.elim⟩
theorem ss_bad {X : Cx} {W : WX} {e : Stmt} : SS X W e (fun _ _ => .bad) := ⟨fun pins s σ H Q I ⟨ρ, h, mp, r, en, p⟩ => p.elim⟩
theorem se_callA {F : Type} {X : Cx} {W : WX} {pos p : Pos} {e : Expr} {es : List Expr} {C : Calls F} {k : Nat} {f : F} {x : Str} {ps : List Str} {fa : Ev (List D)} {P : Program} {w : World} {K : PySem.W.Frag} {mg : Str → Option Value} {base : Heap} {A0 : Around}
    (A : FnA P w K mg base C k f x ps) (hr : Room k A0) (ha : SA X W (e :: es) fa) (tk : Takes X W) (hX : X.prog = P ∧ X.w = w ∧ X.K = K ∧ X.mg = mg ∧ X.base = base ∧ X.A = A0 := by exact ⟨rfl, rfl, rfl, rfl, rfl, rfl⟩) (hg : Gl X x := by rfl) (hdb : (x == ("__debug__" : Str)) = false := by decide) (he : starEach (e :: es) X.env = (false, eval e X.env) :: starEach es X.env := by rfl)
    (hpl : (backTo pos (starEach es X.env)).any (·.1) = false := by rfl) : SE X W (.Call (.Name x p) (e :: es) [] pos) (mCall C f ps.length fa) := by
  obtain ⟨rfl, rfl, rfl, rfl, rfl, rfl⟩ := hX
  exact se_call A hr tk ha hg hdb he hpl
theorem fn_zero {F : Type} {T : F → Df F} {fx : F} {P : Program} {w : World} {K : PySem.W.Frag} {mg : Str → Option Value} {base : Heap} {f : Addr} {fd : FuncData} {n : Nat} (ps : List Str) (hn : n = ps.length) :
    FnOk P w K mg base (L2.CX P w) 0 f fd ps (spM K (run T 0) fx n) :=
  ⟨fun vs H Q E h => h.1.trans hn, fun A outer s H args us vs Q E _ _ _ _ ⟨_, mp, h, ds, _, _, z⟩ => z.elim⟩
theorem map_strs (K : PySem.W.Frag) (z : List Str) : (z.map He.Dv.str).map (He.Dv.v K) = z.map V.str := by
  rw [List.map_map]; rfl
theorem tup_strs {K : PySem.W.Frag} {x : Str} {z : List Str} (h : He.tupB K x (z.map He.Dv.str) = true) : SqT K (fun _ => none) (He.ga K x) (z.map V.str) := by
  have := He.tupB_ok h (fun _ => none)
  rw [map_strs] at this
  exact this
theorem room_of {k : Nat} (h : k ≤ 150) : Room k callerA := by
  have r : Room 150 callerA := ⟨rfl, by decide, by decide⟩
  exact r.mono h
theorem RpAll.nums {K : PySem.W.Frag} {mp : Wd} {H : Hp} : ∀ ns : List Int, RpAll K mp H (ns.map D.int) (ns.map V.int)
  | [] => .nil
  | n :: ns => .cons (.int n) (RpAll.nums ns)
/-- a law's def, its script by value -/
theorem sp_law {F : Type} {K : PySem.W.Frag} {C : Calls F} {fx : F} {ns : List Int} {h' : Hq} {H : Hp} {a : Addr} (e : C fx [.klst (ns.map .int)] [] = .ok (.bl true) h') (s : SqL K H a (ns.map V.int)) : spM K C fx 1 [.ref a] H (fun v _ => v = .bl true) fun _ _ _ => False := by
  refine ⟨rfl, ⟨[], []⟩, [], [.klst (ns.map .int)], ⟨rfl, .nil, fun a h => (by cases h), fun a h => (by cases h), fun l o a e => by simp at e⟩, .cons (.klst ?_ (RpAll.nums ns)) .nil, ?_⟩
  · rcases s with s | s
    · exact .inl ⟨s, by simp⟩
    · exact .inr (.inr s)
  · rw [e]
    intro v mp' H' _ _ r
    cases r
    rfl
theorem walk_mi {l : PySem.W.OpenLaw} {n k : Nat} {q : Program} {loose : List Str} {XP : (Str → Option Value) → Heap → Prop} {YP : World → Heap → Prop} {d : DefRec} {x : Str}
    (hm : l.most = some n) (hm2 : n ≤ sizeLine) (hdd : d.params.defaults = []) (hroom : Room k callerA)
    (F : ∀ (w : World) (mg : Str → Option Value) (fa : Addr) (h : Heap), YP w h → h.Ns mainGlobals mg → mg d.name = some (.ref fa) →
      ∃ (K : PySem.W.Frag) (fd : FuncData) (sp : Sp), K.In h ∧ (∀ (s : Shared) (u : Value), BindsTo s fd ⟨[u], []⟩ [(x, u)]) ∧
        (∀ (H : Hp) (a : Addr) (ns : List Int), ns.length ≤ n → SqL K H a (ns.map V.int) → sp [.ref a] H (fun v _ => v = .bl true) fun _ _ _ => False) ∧
        ∀ bs : Heap, K.In bs → bs.Ns mainGlobals mg → FnOk l.prog w K mg bs (L2.CX l.prog w) k fa fd [x] sp) :
    PySem.W.WalkO q loose XP YP l.row.toRowW d [] (fun f vs => PySem.call f vs) := by
  refine Att.attach_call hm hdd fun wd t₀ t₁ g b fadr ob p1 p2 p3 ad vals nums Gr Ysay _ _ _ hgl hob hin hle hge => ?_
  obtain ⟨K, fd, sp, KIn, hbd, hspec, hFn⟩ := F wd g fadr _ Ysay Gr.T.g hgl
  refine law_call (CX := L2.CX l.prog wd) KIn Gr.T.g Gr.T.b Gr.T.builtins Gr.T.nolimit hge hob hin (Nat.le_trans hle hm2) hroom hFn hbd (fun H _ hS => hspec H ad nums hle hS) fun H e s' z => ?_
  obtain ⟨_, _, _, _, _, _, _, _, _, _, _, _, z⟩ := z
  exact z
end Mi
namespace Mi
open PySem L2
section
variable {ρ : Env'} {h : Hq}
@[simp] theorem e_var (i : Nat) : mVar i ρ h = match ρ[i]? with
  | some (some d) => .ok d h
  | _ => .bad := rfl
@[simp] theorem e_c (d : D) : mC d ρ h = .ok d h := rfl
@[simp] theorem e_bin {g} {fa fb : Ev D} : mBin g fa fb ρ h = (fa ρ h).bind fun x h1 => (fb ρ h1).bind fun y h2 => .of (g x y h2) := rfl
@[simp] theorem e_tru {f : Ev D} : mTru f ρ h = (f ρ h).bind fun d h1 => match d with
  | .bl b => .ok b h1
  | _ => .bad := rfl
@[simp] theorem e_chain {g g'} {fa fb fc : Ev D} : mChain g g' fa fb fc ρ h = (fa ρ h).bind fun x h1 => (fb ρ h1).bind fun y h2 => match g x y h2 with
  | some (.bl true, h3) => (fc ρ h3).bind fun z h4 => .of (g' y z h4)
  | some (.bl false, h3) => .ok (.bl false) h3
  | _ => .bad := rfl
@[simp] theorem e_and {fa fb : Ev D} : mAnd fa fb ρ h = (fa ρ h).bind fun x h1 => match x with
  | .bl true => fb ρ h1
  | .bl false => .ok (.bl false) h1
  | _ => .bad := rfl
@[simp] theorem e_or {fa fb : Ev D} : mOr fa fb ρ h = (fa ρ h).bind fun x h1 => match x with
  | .bl true => .ok (.bl true) h1
  | .bl false => fb ρ h1
  | _ => .bad := rfl
@[simp] theorem e_not {fa : Ev D} : mNot fa ρ h = (fa ρ h).bind fun x h1 => match x with
  | .bl b => .ok (.bl (!b)) h1
  | _ => .bad := rfl
@[simp] theorem e_neg {fa : Ev D} : mNeg fa ρ h = (fa ρ h).bind fun x h1 => match x with
  | .int i => .ok (.int (-i)) h1
  | _ => .bad := rfl
@[simp] theorem e_andT {fa fb : Ev Bool} : mAndT fa fb ρ h = (fa ρ h).bind fun x h1 => match x with
  | true => fb ρ h1
  | false => .ok false h1 := rfl
@[simp] theorem e_orT {fa fb : Ev Bool} : mOrT fa fb ρ h = (fa ρ h).bind fun x h1 => match x with
  | true => .ok true h1
  | false => fb ρ h1 := rfl
@[simp] theorem e_notT {fa : Ev Bool} : mNotT fa ρ h = (fa ρ h).bind fun x h1 => .ok (!x) h1 := rfl
@[simp] theorem e_nil : mNil ρ h = .ok [] h := rfl
@[simp] theorem e_cons {fe : Ev D} {fs : Ev (List D)} : mCons fe fs ρ h = (fe ρ h).bind fun d h1 => (fs ρ h1).bind fun ds h2 => .ok (d :: ds) h2 := rfl
@[simp] theorem e_tup {f : Ev (List D)} : mTup f ρ h = (f ρ h).bind fun ds h1 => if ds.length ≤ 100 then .ok (.tup ds) h1 else .bad := rfl
@[simp] theorem e_lst {f : Ev (List D)} : mLst f ρ h = (f ρ h).bind fun ds h1 => if ds.length ≤ 100 then .ok (.lst ds) h1 else .bad := rfl
@[simp] theorem e_lstR {f : Ev (List D)} : mLstR f ρ h = (f ρ h).bind fun ds h1 => if ds.length ≤ 100 then .ok (.ref h1.length) (h1 ++ [.lst ds]) else .bad := rfl
@[simp] theorem e_dicR : mDicR ρ h = .ok (.ref h.length) (h ++ [.dic []]) := rfl
@[simp] theorem e_yes : mYes ρ h = .ok true h := rfl
@[simp] theorem e_blt {g} {fa : Ev (List D)} : mBlt g fa ρ h = (fa ρ h).bind fun ds h1 => .of (g ds h1) := rfl
@[simp] theorem e_mth {T g} {fo : Ev D} {fa : Ev (List D)} : mMth T g fo fa ρ h = (fo ρ h).bind fun o h1 => if tyOk T o h1 = true then (fa ρ h1).bind fun ds h2 => .of (g o ds h2) else .bad := rfl
@[simp] theorem e_call {F : Type} {C : Calls F} {f : F} {n : Nat} {fa : Ev (List D)} : mCall C f n fa ρ h = (fa ρ h).bind fun ds h1 => if ds.length = n then C f ds h1 else .bad := rfl
@[simp] theorem e_iter {f : Ev D} : mIter f ρ h = (f ρ h).bind fun d h1 => .of ((iterD h1 d).map fun p => (p, h1)) := rfl
@[simp] theorem e_range {f : Ev (List D)} : mRange f ρ h = (f ρ h).bind fun ds h1 => match ds with
  | [.int j] => if -1000000 ≤ j ∧ j ≤ 1000000 then .ok (upto j.toNat, none) h1 else .bad
  | _ => .bad := rfl
@[simp] theorem e_skip : mSkip ρ h = .nx ρ h := rfl
@[simp] theorem e_seq {f g : Ex} : mSeq f g ρ h = match f ρ h with
  | .nx ρ1 h1 => g ρ1 h1
  | r => r := rfl
@[simp] theorem e_set {T : Tg} {f : Ev D} : mSet T f ρ h = (f ρ h).bindS ρ fun d h1 => match setT T d ρ with
  | some ρ1 => .nx ρ1 h1
  | none => .bad := rfl
@[simp] theorem e_expr {f : Ev D} : mExpr f ρ h = (f ρ h).bindS ρ fun _ h1 => .nx ρ h1 := rfl
@[simp] theorem e_ret {f : Ev D} : mRet f ρ h = (f ρ h).bindS ρ fun d h1 => .rt d h1 := rfl
@[simp] theorem e_if {c : Ev Bool} {f g : Ex} : mIf c f g ρ h = (c ρ h).bindS ρ fun b h1 => match b with
  | true => f ρ h1
  | false => g ρ h1 := rfl
@[simp] theorem e_setI {fo fi fv : Ev D} : mSetI fo fi fv ρ h = (fv ρ h).bindS ρ fun v h1 => (fo ρ h1).bindS ρ fun o h2 => (fi ρ h2).bindS ρ fun i h3 => match gSetI o i v h3 with
  | some h4 => .nx ρ h4
  | none => .bad := rfl
@[simp] theorem bindS_ok {α : Type} (a : α) (g : α → Hq → SR) : (Res.ok a h).bindS ρ g = g a h := rfl
@[simp] theorem bindS_exc {α : Type} (c : Str) (g : α → Hq → SR) : (Res.exc c h : Res α).bindS ρ g = .exc c ρ h := rfl
@[simp] theorem bindN_ok {α β : Type} (a : α) (g : α → Hq → Res β) : (Res.ok a h).bindN g = g a h := rfl
@[simp] theorem setT_nm {i : Nat} {d : D} : setT (.nm i) d ρ = some (ρ.set i (some d)) := rfl
@[simp] theorem res_nx : (SR.nx ρ h).res = .ok .non h := rfl
@[simp] theorem res_rt {d : D} : (SR.rt d h).res = .ok d h := rfl
@[simp] theorem res_exc {c : Str} : (SR.exc c ρ h).res = .exc c h := rfl
end
section
variable {h : Hq}
@[simp] theorem g_add {i j : Int} : gAdd (.int i) (.int j) h = some (.int (i + j), h) := rfl
@[simp] theorem g_sub {i j : Int} : gSub (.int i) (.int j) h = some (.int (i - j), h) := rfl
@[simp] theorem g_lt {i j : Int} : gLt (.int i) (.int j) h = some (.bl (decide (i < j)), h) := rfl
@[simp] theorem g_le {i j : Int} : gLe (.int i) (.int j) h = some (.bl (decide (i ≤ j)), h) := rfl
@[simp] theorem g_gt {i j : Int} : gGt (.int i) (.int j) h = some (.bl (decide (j < i)), h) := rfl
@[simp] theorem g_ge {i j : Int} : gGe (.int i) (.int j) h = some (.bl (decide (j ≤ i)), h) := rfl
theorem okI_mod (x : Int) : okI (x % 2147483647) := by unfold okI; omega
@[simp] theorem okI_nat (k : Int) (h0 : 0 ≤ k) (h1 : k < 18446744073709551616) : okI k := by unfold okI; omega
theorem g_mul {i j : Int} (k : okI i ∨ okI j) : gMul (.int i) (.int j) h = some (.int (i * j), h) := by
  show (if okI i ∨ okI j then some (D.int (i * j), h) else none) = _
  rw [if_pos k]
theorem g_mod {i j : Int} (k : 0 < j) : gMod (.int i) (.int j) h = some (.int (i % j), h) := by
  show (if 0 < j then some (D.int (i % j), h) else none) = _
  rw [if_pos k]
theorem g_div {i j : Int} (k : 0 < j ∧ j < 1073741824) : gDiv (.int i) (.int j) h = some (.int (i / j), h) := by
  show (if 0 < j ∧ j < 1073741824 then some (D.int (i / j), h) else none) = _
  rw [if_pos k]
theorem atI_nat {α : Type} {xs : List α} {i : Nat} {d : α} (e : xs[i]? = some d) : atI xs (i : Int) = some d := by
  have hi := (List.getElem?_eq_some_iff.mp e).1
  unfold atI ixN
  rw [if_pos (by omega), if_pos (by omega)]
  simpa using e
theorem g_ixT {xs : List D} {i : Nat} {d : D} (e : xs[i]? = some d) : gIx (.tup xs) (.int i) h = some (d, h) := by
  show ((atI xs i).map fun d => (d, h)) = _
  rw [atI_nat e]; rfl
theorem g_ixL {xs : List D} {i : Nat} {d : D} (e : xs[i]? = some d) : gIx (.lst xs) (.int i) h = some (d, h) := by
  show ((atI xs i).map fun d => (d, h)) = _
  rw [atI_nat e]; rfl
theorem g_ixK {xs : List D} {i : Nat} {d : D} (e : xs[i]? = some d) : gIx (.klst xs) (.int i) h = some (d, h) := by
  show ((atI xs i).map fun d => (d, h)) = _
  rw [atI_nat e]; rfl
@[simp] theorem g_lenT {xs : List D} : gLen [.tup xs] h = some (.int xs.length, h) := rfl
@[simp] theorem g_lenL {xs : List D} : gLen [.lst xs] h = some (.int xs.length, h) := rfl
@[simp] theorem g_lenK {xs : List D} : gLen [.klst xs] h = some (.int xs.length, h) := rfl
@[simp] theorem g_tupL {xs : List D} : gTuple [.lst xs] h = some (.tup xs, h) := rfl
@[simp] theorem g_tupT {xs : List D} : gTuple [.tup xs] h = some (.tup xs, h) := rfl
@[simp] theorem iterL {xs : List D} : iterD h (.lst xs) = some (xs, none) := rfl
@[simp] theorem iterT {xs : List D} : iterD h (.tup xs) = some (xs, none) := rfl
@[simp] theorem g_is {x : D} : gIs x .non h = some (.bl (isNon x), h) := rfl
end
open Classical in
theorem gcR_ok {h h' : Hq} {d : D} (a : d.nr = true) (b : h'.take h.length = h) : gcR h (.ok d h') = .ok d h := by
  show (if d.nr = true ∧ h'.take h.length = h then Res.ok d h else .bad) = _
  rw [if_pos ⟨a, b⟩]
/-- a comprehension over things of a type -/
theorem lcGo_eq {α : Type} {T : Tg} {ft : Ev Bool} {fe : Ev D} {c : Option (Nat × O)} {all : List D} {ρ : Env'} {h : Hq} (enc : α → D) (p : α → Bool) (g : α → D) (ck : chkOk c all h) : ∀ xs : List α,
    (∀ x ∈ xs, ∃ ρ1, setT T (enc x) ρ = some ρ1 ∧ ft ρ1 h = .ok (p x) h ∧ (p x = true → fe ρ1 h = .ok (g x) h)) → lcGo T ft fe c all ρ (xs.map enc) h = .ok ((xs.filter p).map g) h
  | [], _ => by simp only [List.map_nil, lcGo]; rw [if_pos ck]; rfl
  | x :: xs, k => by
    obtain ⟨ρ1, e1, e2, e3⟩ := k x List.mem_cons_self
    have ih := lcGo_eq enc p g ck xs fun y hy => k y (List.mem_cons_of_mem _ hy)
    simp only [List.map_cons, lcGo]
    rw [if_pos ck, e1]
    dsimp only
    rw [e2]
    cases hp : p x with
    | true => simp only [bindN_ok]; rw [e3 hp]; simp only [bindN_ok, ih, Res.bind_ok, List.filter_cons, hp, if_true, List.map_cons]
    | false => simp only [bindN_ok, ih, List.filter_cons, hp]; rfl
theorem lc_eq {α : Type} {T : Tg} {vs : List Nat} {fi : Ev (List D × Option (Nat × O))} {ft : Ev Bool} {fe : Ev D} {ρ : Env'} {h h1 : Hq} {c : Option (Nat × O)} (enc : α → D) (p : α → Bool) (g : α → D) (xs : List α)
    (ei : fi ρ h = .ok (xs.map enc, c) h1) (ck : chkOk c (xs.map enc) h1) (k : ∀ x ∈ xs, ∃ ρ1, setT T (enc x) (wipeD ρ vs) = some ρ1 ∧ ft ρ1 h1 = .ok (p x) h1 ∧ (p x = true → fe ρ1 h1 = .ok (g x) h1)) :
    mLc T vs fi ft fe ρ h = .ok (.lst ((xs.filter p).map g)) h1 := by
  unfold mLc
  rw [ei]
  simp only [Res.bind_ok, lcGo_eq enc p g ck xs k]
/-- .. without a test -/
theorem lc_map {α : Type} {T : Tg} {vs : List Nat} {fi : Ev (List D × Option (Nat × O))} {fe : Ev D} {ρ : Env'} {h h1 : Hq} {c : Option (Nat × O)} (enc : α → D) (g : α → D) (xs : List α)
    (ei : fi ρ h = .ok (xs.map enc, c) h1) (ck : chkOk c (xs.map enc) h1) (k : ∀ x ∈ xs, ∃ ρ1, setT T (enc x) (wipeD ρ vs) = some ρ1 ∧ fe ρ1 h1 = .ok (g x) h1) :
    mLc T vs fi mYes fe ρ h = .ok (.lst (xs.map g)) h1 := by
  rw [lc_eq (ft := mYes) enc (fun _ => true) g xs ei ck fun x hx => let ⟨ρ1, a, b⟩ := k x hx; ⟨ρ1, a, rfl, fun _ => b⟩]
  rw [List.filter_eq_self.mpr (by simp)]
/-- a loop that goes to its end -/
theorem forGo_inv {α : Type} {T : Tg} {c : Option (Nat × O)} {all : List D} {body : Ex} (enc : α → D) (I : List α → Env' → Hq → Prop) (ck : ∀ d ρ h, I d ρ h → chkOk c all h) : ∀ (xs done : List α) (ρ : Env') (h : Hq),
    (∀ d x t ρ h, xs = d ++ x :: t → I (done ++ d) ρ h → ∃ ρ1, setT T (enc x) ρ = some ρ1 ∧ ∃ ρ2 h2, (body ρ1 h = .nx ρ2 h2 ∨ body ρ1 h = .ct ρ2 h2) ∧ I (done ++ d ++ [x]) ρ2 h2) → I done ρ h →
    ∃ ρ' h', forGo T c all body (xs.map enc) ρ h = .nx ρ' h' ∧ I (done ++ xs) ρ' h'
  | [], done, ρ, h, _, i => ⟨ρ, h, by simp only [List.map_nil, forGo]; rw [if_pos (ck _ _ _ i)], by simpa using i⟩
  | x :: xs, done, ρ, h, k, i => by
    obtain ⟨ρ1, e1, ρ2, h2, e2, i2⟩ := k [] x xs ρ h rfl (by simpa using i)
    obtain ⟨ρ', h', e3, i3⟩ := forGo_inv enc I ck xs (done ++ [x]) ρ2 h2 (fun d y t ρ h e j => by
      obtain ⟨r1, a1, r2, g2, a2, j2⟩ := k (x :: d) y t ρ h (by rw [e]; rfl) (by simpa using j)
      exact ⟨r1, a1, r2, g2, a2, by simpa using j2⟩) (by simpa using i2)
    refine ⟨ρ', h', ?_, by simpa using i3⟩
    simp only [List.map_cons, forGo]
    rw [if_pos (ck _ _ _ i), e1]
    rcases e2 with e2 | e2
    · dsimp only; rw [e2]; exact e3
    · dsimp only; rw [e2]; exact e3
theorem for_inv {α : Type} {T : Tg} {fi : Ev (List D × Option (Nat × O))} {body : Ex} {ρ : Env'} {h h1 : Hq} {c : Option (Nat × O)} (enc : α → D) (xs : List α) (I : List α → Env' → Hq → Prop) (ei : fi ρ h = .ok (xs.map enc, c) h1) (i : I [] ρ h1) (ck : ∀ d ρ h, I d ρ h → chkOk c (xs.map enc) h)
    (k : ∀ d x t ρ h, xs = d ++ x :: t → I d ρ h → ∃ ρ1, setT T (enc x) ρ = some ρ1 ∧ ∃ ρ2 h2, (body ρ1 h = .nx ρ2 h2 ∨ body ρ1 h = .ct ρ2 h2) ∧ I (d ++ [x]) ρ2 h2) :
    ∃ ρ' h', mFor T fi body ρ h = .nx ρ' h' ∧ I xs ρ' h' := by
  unfold mFor
  rw [ei]
  simp only [bindS_ok]
  have := forGo_inv enc I ck xs [] ρ h1 (fun d x t ρ h e j => by simpa using k d x t ρ h e (by simpa using j)) i
  simpa using this
end Mi
namespace Mi
open PySem L2
/-! ### data without truth values: equal just if the same -/
mutual
def D.tx : D → Bool
  | .non => true
  | .int _ => true
  | .str _ => true
  | .tup xs => D.txs xs
  | .lst xs => D.txs xs
  | _ => false
def D.txs : List D → Bool
  | [] => true
  | x :: xs => D.tx x && D.txs xs
end
mutual
def D.dp : D → Nat
  | .tup xs => D.dps xs + 1
  | .lst xs => D.dps xs + 1
  | .ktup xs => D.dps xs + 1
  | .klst xs => D.dps xs + 1
  | _ => 0
def D.dps : List D → Nat
  | [] => 0
  | x :: xs => max (D.dp x) (D.dps xs)
end
theorem txs_all : ∀ {xs : List D}, D.txs xs = true ↔ ∀ x ∈ xs, x.tx = true
  | [] => by simp [D.txs]
  | x :: xs => by simp [D.txs, txs_all (xs := xs)]
theorem dps_le {n : Nat} : ∀ {xs : List D}, D.dps xs ≤ n ↔ ∀ x ∈ xs, x.dp ≤ n
  | [] => by simp [D.dps]
  | x :: xs => by simp [D.dps, dps_le (xs := xs), Nat.max_le]
mutual
theorem tx_py : ∀ {d : D}, d.tx = true → ∃ p, d.py = some p
  | .non, _ => ⟨_, rfl⟩
  | .int _, _ => ⟨_, rfl⟩
  | .str _, _ => ⟨_, rfl⟩
  | .tup xs, h => by
    obtain ⟨p, e⟩ := txs_py (ds := xs) (by simpa [D.tx] using h)
    exact ⟨_, by rw [D.py, e]; rfl⟩
  | .lst xs, h => by
    obtain ⟨p, e⟩ := txs_py (ds := xs) (by simpa [D.tx] using h)
    exact ⟨_, by rw [D.py, e]; rfl⟩
  | .bl _, h => by simp [D.tx] at h
  | .dic _, h => by simp [D.tx] at h
  | .set _, h => by simp [D.tx] at h
  | .ktup _, h => by simp [D.tx] at h
  | .klst _, h => by simp [D.tx] at h
  | .ref _, h => by simp [D.tx] at h
  | .ty _, h => by simp [D.tx] at h
  | .exc _, h => by simp [D.tx] at h
theorem txs_py : ∀ {ds : List D}, D.txs ds = true → ∃ p, D.pys ds = some p
  | [], _ => ⟨_, rfl⟩
  | d :: ds, h => by
    simp only [D.txs, Bool.and_eq_true] at h
    obtain ⟨p, e⟩ := tx_py h.1
    obtain ⟨q, f⟩ := txs_py h.2
    exact ⟨_, by rw [D.pys, e, f]⟩
end
mutual
theorem py_depth : ∀ {d : D} {p : PyData}, d.py = some p → p.depth = d.dp
  | .non, _, e => by simp [D.py] at e; subst e; rfl
  | .bl _, _, e => by simp [D.py] at e; subst e; rfl
  | .int _, _, e => by simp [D.py] at e; subst e; rfl
  | .str _, _, e => by simp [D.py] at e; subst e; rfl
  | .tup xs, _, e => by
    simp only [D.py, Option.map_eq_some_iff] at e
    obtain ⟨ps, e1, rfl⟩ := e
    simp only [PyData.depth, D.dp, pys_depth e1]
  | .lst xs, _, e => by
    simp only [D.py, Option.map_eq_some_iff] at e
    obtain ⟨ps, e1, rfl⟩ := e
    simp only [PyData.depth, D.dp, pys_depth e1]
  | .ktup xs, _, e => by
    simp only [D.py, Option.map_eq_some_iff] at e
    obtain ⟨ps, e1, rfl⟩ := e
    simp only [PyData.depth, D.dp, pys_depth e1]
  | .klst xs, _, e => by
    simp only [D.py, Option.map_eq_some_iff] at e
    obtain ⟨ps, e1, rfl⟩ := e
    simp only [PyData.depth, D.dp, pys_depth e1]
  | .dic _, _, e => by simp [D.py] at e
  | .set _, _, e => by simp [D.py] at e
  | .ref _, _, e => by simp [D.py] at e
  | .ty _, _, e => by simp [D.py] at e
  | .exc _, _, e => by simp [D.py] at e
theorem pys_depth : ∀ {ds : List D} {ps : List PyData}, D.pys ds = some ps → PyData.depthAll ps = D.dps ds
  | [], _, e => by simp [D.pys] at e; subst e; rfl
  | d :: ds, _, e => by
    simp only [D.pys] at e
    cases q : D.py d with
    | none => rw [q] at e; cases e
    | some a =>
      cases q2 : D.pys ds with
      | none => rw [q, q2] at e; cases e
      | some b =>
        rw [q, q2] at e
        cases e
        simp only [PyData.depthAll, D.dps, py_depth q, pys_depth q2]
end
mutual
theorem tx_eqv : ∀ {a b : D} {p q : PyData}, a.tx = true → b.tx = true → a.py = some p → b.py = some q → (PyData.eqv p q = true ↔ a = b) := by
  intro a b p q ta tb ea eb
  cases a <;> simp only [D.tx, Bool.false_eq_true] at ta
  all_goals cases b <;> simp only [D.tx, Bool.false_eq_true] at tb
  all_goals simp only [D.py, Option.map_eq_some_iff, Option.some.injEq] at ea eb
  case tup.tup xs ys => obtain ⟨ps, e1, rfl⟩ := ea; obtain ⟨qs, e2, rfl⟩ := eb; simp only [PyData.eqv, D.tup.injEq]; exact txs_eqv ta tb e1 e2
  case lst.lst xs ys => obtain ⟨ps, e1, rfl⟩ := ea; obtain ⟨qs, e2, rfl⟩ := eb; simp only [PyData.eqv, D.lst.injEq]; exact txs_eqv ta tb e1 e2
  all_goals (try obtain ⟨ps, e1, rfl⟩ := ea)
  all_goals (try obtain ⟨qs, e2, rfl⟩ := eb)
  all_goals (try subst ea)
  all_goals (try subst eb)
  all_goals simp [PyData.eqv]
theorem txs_eqv : ∀ {a b : List D} {p q : List PyData}, D.txs a = true → D.txs b = true → D.pys a = some p → D.pys b = some q → (PyData.eqvAll p q = true ↔ a = b) := by
  intro a b p q ta tb ea eb
  match a, b with
  | [], [] => simp only [D.pys, Option.some.injEq] at ea eb; subst ea; subst eb; simp [PyData.eqvAll]
  | [], y :: ys =>
    simp only [D.txs, Bool.and_eq_true] at tb
    obtain ⟨u, hu⟩ := tx_py tb.1
    obtain ⟨us, hus⟩ := txs_py tb.2
    simp only [D.pys, hu, hus, Option.some.injEq] at ea eb; subst ea; subst eb; simp [PyData.eqvAll]
  | x :: xs, [] =>
    simp only [D.txs, Bool.and_eq_true] at ta
    obtain ⟨u, hu⟩ := tx_py ta.1
    obtain ⟨us, hus⟩ := txs_py ta.2
    simp only [D.pys, hu, hus, Option.some.injEq] at ea eb; subst ea; subst eb; simp [PyData.eqvAll]
  | x :: xs, y :: ys =>
    simp only [D.txs, Bool.and_eq_true] at ta tb
    obtain ⟨u, hu⟩ := tx_py ta.1
    obtain ⟨us, hus⟩ := txs_py ta.2
    obtain ⟨v, hv⟩ := tx_py tb.1
    obtain ⟨vs, hvs⟩ := txs_py tb.2
    simp only [D.pys, hu, hus, hv, hvs, Option.some.injEq] at ea eb
    subst ea; subst eb
    simp only [PyData.eqvAll, Bool.and_eq_true, List.cons.injEq, tx_eqv ta.1 tb.1 hu hv, txs_eqv ta.2 tb.2 hus hvs]
end
/-- == of data, as a function -/
def eqB (a b : D) : Bool := PyData.eqv (encD a) (encD b)
theorem encD_of {d : D} {p : PyData} (e : d.py = some p) : encD d = p := by unfold encD; rw [e]; rfl
theorem eqB_iff {a b : D} (ta : a.tx = true) (tb : b.tx = true) : eqB a b = true ↔ a = b := by
  obtain ⟨p, ep⟩ := tx_py ta
  obtain ⟨q, eq⟩ := tx_py tb
  unfold eqB
  rw [encD_of ep, encD_of eq]
  exact tx_eqv ta tb ep eq
theorem eqB_refl {a : D} (h : a.py.isSome = true) : eqB a a = true := by
  obtain ⟨p, e⟩ := Option.isSome_iff_exists.mp h
  unfold eqB
  rw [encD_of e]
  exact PySem.SeqAt.eqv_refl_plain _ (py_plain e)
theorem eqB_dec {a b : D} [Decidable (a = b)] (ta : a.tx = true) (tb : b.tx = true) : eqB a b = decide (a = b) := by
  by_cases h : a = b
  · rw [decide_eq_true h]; exact (eqB_iff ta tb).mpr h
  · rw [decide_eq_false h]
    cases e : eqB a b with
    | false => rfl
    | true => exact absurd ((eqB_iff ta tb).mp e) h
@[simp] theorem eqB_str {x y : Str} : eqB (.str x) (.str y) = decide (x = y) := by
  show (x == y) = _
  rfl
@[simp] theorem eqB_int {x y : Int} : eqB (.int x) (.int y) = decide (x = y) := rfl
theorem nz_of {h : Hq} {d : D} (e : d.py.isSome = true) : nz h d = d := by
  cases d <;> first | rfl | (simp [D.py] at e)
theorem eqH_of {h : Hq} {a b : D} (ea : a.py.isSome = true) (eb : b.py.isSome = true) (k : min a.dp b.dp ≤ 64) : eqH h a b = some (eqB a b) := by
  unfold eqH
  rw [nz_of ea, nz_of eb]
  obtain ⟨p, e⟩ := Option.isSome_iff_exists.mp ea
  obtain ⟨q, f⟩ := Option.isSome_iff_exists.mp eb
  rw [e, f]
  dsimp only
  rw [py_depth e, py_depth f, if_pos k]
  unfold eqB
  rw [encD_of e, encD_of f]
theorem tx_isSome {d : D} (h : d.tx = true) : d.py.isSome = true := Option.isSome_iff_exists.mpr (tx_py h)
theorem g_eq {h : Hq} {a b : D} (ea : a.py.isSome = true) (eb : b.py.isSome = true) (k : min a.dp b.dp ≤ 64) : gEq a b h = some (.bl (eqB a b), h) := by
  unfold gEq; rw [eqH_of ea eb k]; rfl
theorem g_ne {h : Hq} {a b : D} (ea : a.py.isSome = true) (eb : b.py.isSome = true) (k : min a.dp b.dp ≤ 64) : gNe a b h = some (.bl (!eqB a b), h) := by
  unfold gNe; rw [eqH_of ea eb k]; rfl
@[simp] theorem g_eqS {h : Hq} {x y : Str} : gEq (.str x) (.str y) h = some (.bl (decide (x = y)), h) := by rw [g_eq rfl rfl (by simp [D.dp]), eqB_str]
@[simp] theorem g_neS {h : Hq} {x y : Str} : gNe (.str x) (.str y) h = some (.bl (!decide (x = y)), h) := by rw [g_ne rfl rfl (by simp [D.dp]), eqB_str]
@[simp] theorem g_eqI {h : Hq} {x y : Int} : gEq (.int x) (.int y) h = some (.bl (decide (x = y)), h) := by rw [g_eq rfl rfl (by simp [D.dp]), eqB_int]
@[simp] theorem g_neI {h : Hq} {x y : Int} : gNe (.int x) (.int y) h = some (.bl (!decide (x = y)), h) := by rw [g_ne rfl rfl (by simp [D.dp]), eqB_int]
@[simp] theorem g_eqBl {h : Hq} {x y : Bool} : gEq (.bl x) (.bl y) h = some (.bl (x == y), h) := by rw [g_eq rfl rfl (by simp [D.dp])]; rfl
@[simp] theorem g_neBl {h : Hq} {x y : Bool} : gNe (.bl x) (.bl y) h = some (.bl (!(x == y)), h) := by rw [g_ne rfl rfl (by simp [D.dp])]; rfl
theorem pys_map : ∀ {ds : List D}, D.txs ds = true → D.pys ds = some (ds.map encD)
  | [], _ => rfl
  | d :: ds, h => by
    simp only [D.txs, Bool.and_eq_true] at h
    obtain ⟨p, e⟩ := tx_py h.1
    rw [D.pys, e, pys_map h.2, List.map_cons, encD_of e]
theorem in_tup {h : Hq} {x : D} {ys : List D} (tx : x.tx = true) (ty : D.txs ys = true) (k : x.dp ≤ 64) : inH h x (.tup ys) = some (ys.any fun y => eqB y x) := by
  obtain ⟨p, ep⟩ := tx_py tx
  unfold inH
  dsimp only [asD]
  rw [nz_of (tx_isSome tx), nz_of (d := .tup ys) (tx_isSome (by simpa [D.tx] using ty)), D.py, pys_map ty, ep]
  dsimp only [Option.map_some]
  rw [py_depth ep, if_pos (by omega), List.any_map]
  unfold eqB
  rw [encD_of ep]
  rfl
theorem in_lst {h : Hq} {x : D} {ys : List D} (tx : x.tx = true) (ty : D.txs ys = true) (k : x.dp ≤ 64) : inH h x (.lst ys) = some (ys.any fun y => eqB y x) := by
  obtain ⟨p, ep⟩ := tx_py tx
  unfold inH
  dsimp only [asD]
  rw [nz_of (tx_isSome tx), nz_of (d := .lst ys) (tx_isSome (by simpa [D.tx] using ty)), D.py, pys_map ty, ep]
  dsimp only [Option.map_some]
  rw [py_depth ep, if_pos (by omega), List.any_map]
  unfold eqB
  rw [encD_of ep]
  rfl
theorem any_enc {α : Type} {enc : α → D} (hx : ∀ a, (enc a).tx = true) (inj : ∀ a b, enc a = enc b → a = b) (L : List α) (a : α) [Decidable (a ∈ L)] : ((L.map enc).any fun y => eqB y (enc a)) = decide (a ∈ L) := by
  rw [List.any_map]
  by_cases hm : a ∈ L
  · rw [decide_eq_true hm]
    exact List.any_eq_true.mpr ⟨a, hm, (eqB_iff (hx a) (hx a)).mpr rfl⟩
  · rw [decide_eq_false hm]
    cases e : (L.any ((fun y => eqB y (enc a)) ∘ enc)) with
    | false => rfl
    | true =>
      obtain ⟨b, hb, q⟩ := List.any_eq_true.mp e
      exact absurd ((inj b a ((eqB_iff (hx b) (hx a)).mp q)) ▸ hb) hm
theorem txs_map {α : Type} {enc : α → D} (hx : ∀ a, (enc a).tx = true) (L : List α) : D.txs (L.map enc) = true := txs_all.mpr fun x hx' => by
  obtain ⟨a, _, rfl⟩ := List.mem_map.mp hx'
  exact hx a
theorem g_inT {α : Type} {enc : α → D} (hx : ∀ a, (enc a).tx = true) (inj : ∀ a b, enc a = enc b → a = b) {h : Hq} {L : List α} {a : α} [Decidable (a ∈ L)] (k : (enc a).dp ≤ 64) : gIn (enc a) (.tup (L.map enc)) h = some (.bl (decide (a ∈ L)), h) := by
  unfold gIn; rw [in_tup (hx a) (txs_map hx L) k, any_enc hx inj]; rfl
theorem g_inL {α : Type} {enc : α → D} (hx : ∀ a, (enc a).tx = true) (inj : ∀ a b, enc a = enc b → a = b) {h : Hq} {L : List α} {a : α} [Decidable (a ∈ L)] (k : (enc a).dp ≤ 64) : gIn (enc a) (.lst (L.map enc)) h = some (.bl (decide (a ∈ L)), h) := by
  unfold gIn; rw [in_lst (hx a) (txs_map hx L) k, any_enc hx inj]; rfl
theorem g_notInT {α : Type} {enc : α → D} (hx : ∀ a, (enc a).tx = true) (inj : ∀ a b, enc a = enc b → a = b) {h : Hq} {L : List α} {a : α} [Decidable (a ∈ L)] (k : (enc a).dp ≤ 64) : gNotIn (enc a) (.tup (L.map enc)) h = some (.bl (!decide (a ∈ L)), h) := by
  unfold gNotIn; rw [in_tup (hx a) (txs_map hx L) k, any_enc hx inj]; rfl
theorem g_notInL {α : Type} {enc : α → D} (hx : ∀ a, (enc a).tx = true) (inj : ∀ a b, enc a = enc b → a = b) {h : Hq} {L : List α} {a : α} [Decidable (a ∈ L)] (k : (enc a).dp ≤ 64) : gNotIn (enc a) (.lst (L.map enc)) h = some (.bl (!decide (a ∈ L)), h) := by
  unfold gNotIn; rw [in_lst (hx a) (txs_map hx L) k, any_enc hx inj]; rfl
@[simp] theorem g_inS {h : Hq} {x : Str} {L : List Str} : gIn (.str x) (.tup (L.map .str)) h = some (.bl (decide (x ∈ L)), h) := g_inT (enc := D.str) (fun _ => rfl) (fun _ _ e => by cases e; rfl) (by simp [D.dp])
@[simp] theorem g_notInS {h : Hq} {x : Str} {L : List Str} : gNotIn (.str x) (.tup (L.map .str)) h = some (.bl (!decide (x ∈ L)), h) := g_notInT (enc := D.str) (fun _ => rfl) (fun _ _ e => by cases e; rfl) (by simp [D.dp])
/-- a list of whole data compared with the empty one -/
theorem eqB_nil {ds : List D} (h : D.txs ds = true) : eqB (.lst ds) (.lst []) = decide (ds = []) := by
  cases ds with
  | nil => rfl
  | cons d ds => 
    cases e : eqB (.lst (d :: ds)) (.lst []) with
    | false => simp
    | true => 
      have := (eqB_iff (a := .lst (d :: ds)) (b := .lst []) (by simpa [D.tx] using h) rfl).mp e
      cases this
/-- texts in a row -/
def encS (ks : List Str) : D := .tup (ks.map .str)
theorem txs_strs (ks : List Str) : D.txs (ks.map D.str) = true := txs_map (fun _ => rfl) ks
theorem encS_tx (ks : List Str) : (encS ks).tx = true := by simp [encS, D.tx, txs_strs]
theorem map_str_inj {a b : List Str} (h : a.map D.str = b.map D.str) : a = b := by
  induction a generalizing b with
  | nil => cases b with
    | nil => rfl
    | cons => cases h
  | cons x a ih => cases b with
    | nil => cases h
    | cons y b =>
      simp only [List.map_cons, List.cons.injEq, D.str.injEq] at h
      rw [h.1, ih h.2]
theorem encS_inj (a b : List Str) (h : encS a = encS b) : a = b := by
  simp only [encS, D.tup.injEq] at h
  exact map_str_inj h
theorem dps_strs (ks : List Str) : D.dps (ks.map D.str) = 0 := Nat.le_zero.mp (dps_le.mpr fun x hx => by
  obtain ⟨a, _, rfl⟩ := List.mem_map.mp hx
  exact Nat.le_refl _)
theorem encS_dp (ks : List Str) : (encS ks).dp = 1 := by simp [encS, D.dp, dps_strs]
end Mi
namespace Mi
open PySem L2
/-! ### sorted rows of texts -/
theorem alike_strs : ∀ a b : List Str, PySem.W.alikeAll (a.map PyData.str) (b.map PyData.str) = true
  | [], _ => by simp [PySem.W.alikeAll]
  | _ :: _, [] => by simp [PySem.W.alikeAll]
  | x :: a, y :: b => by simp [PySem.W.alikeAll, PySem.W.alike, alike_strs a b]
theorem enc_strs (a : List Str) : encD (encS a) = .tuple (a.map PyData.str) := by
  apply encD_of
  simp only [encS, D.py, pys_map (txs_strs a), Option.map_some, List.map_map]
  rfl
theorem sortOk_sets (L : List (List Str)) : sortOk (L.map encS) = true := by
  have h1 : ((L.map encS).all fun d => d.py.isSome) = true := by
    rw [List.all_eq_true]; intro d hd
    obtain ⟨a, _, rfl⟩ := List.mem_map.mp hd
    exact tx_isSome (encS_tx a)
  have h2 : ((L.map encS).all fun a => (L.map encS).all fun b => PySem.W.alike (encD a) (encD b)) = true := by
    rw [List.all_eq_true]; intro d hd
    rw [List.all_eq_true]; intro d' hd'
    obtain ⟨a, _, rfl⟩ := List.mem_map.mp hd
    obtain ⟨b, _, rfl⟩ := List.mem_map.mp hd'
    rw [enc_strs, enc_strs, PySem.W.alike]
    exact alike_strs a b
  have h3 : ((L.map encS).all fun a => decide ((encD a).depth ≤ 60)) = true := by
    rw [List.all_eq_true]; intro d hd
    obtain ⟨a, _, rfl⟩ := List.mem_map.mp hd
    obtain ⟨p, e⟩ := tx_py (encS_tx a)
    rw [encD_of e, py_depth e, encS_dp]
    decide
  have h4 : ((L.map encS).all fun a => isTup (encD a)) = true := by
    rw [List.all_eq_true]; intro d hd
    obtain ⟨a, _, rfl⟩ := List.mem_map.mp hd
    rw [enc_strs]; rfl
  unfold sortOk
  rw [h1, h2, h3, h4]; rfl
def leS (a b : List Str) : Bool := leD (encS a) (encS b)
theorem g_sortS {h : Hq} (L : List (List Str)) : gSorted [.lst (L.map encS)] h = some (.lst ((L.mergeSort leS).map encS), h) := by
  show ((some (L.map encS)).bind fun xs => if sortOk xs = true then some (D.lst (xs.mergeSort leD), h) else none) = _
  rw [Option.bind_some, if_pos (sortOk_sets L), List.map_mergeSort (r := leS) (s := leD) (f := encS) (fun a _ b _ => rfl)]
/-! ### dicts of texts -/
def e2 (p : Str × Str) : D × D := (.str p.1, .str p.2)
def encP (p : Str × Str) : D := .tup [.str p.1, .str p.2]
def put (b : List (Str × Str)) (n s : Str) : List (Str × Str) := if n ∈ b.map (·.1) then b.map (fun p => if p.1 = n then (n, s) else p) else b ++ [(n, s)]
theorem kinds_e2 (b : List (Str × Str)) (n : Str) : kindsOk (b.map e2) (.str n) = true := by
  unfold kindsOk
  simp [e2, keyKind]
theorem putKV_e2 (b : List (Str × Str)) (n s : Str) : putKV (b.map e2) (.str n) (.str s) = (put b n s).map e2 := by
  unfold putKV put
  have e : ((b.map e2).any fun p => keyEq p.1 (.str n)) = decide (n ∈ b.map (·.1)) := by
    rw [List.any_map]
    by_cases hm : n ∈ b.map (·.1)
    · rw [decide_eq_true hm]
      obtain ⟨p, hp, rfl⟩ := List.mem_map.mp hm
      exact List.any_eq_true.mpr ⟨p, hp, by simp [e2, keyEq]⟩
    · rw [decide_eq_false hm]
      cases q : b.any ((fun p => keyEq p.1 (.str n)) ∘ e2) with
      | false => rfl
      | true =>
        obtain ⟨p, hp, k⟩ := List.any_eq_true.mp q
        have k2 : p.1 = n := by simpa [e2, keyEq] using k
        exact absurd (List.mem_map.mpr ⟨p, hp, k2⟩) hm
  rw [e]
  by_cases hm : n ∈ b.map (·.1)
  · rw [if_pos (by simpa using hm), if_pos hm, List.map_map, List.map_map]
    apply List.map_congr_left
    intro p hp
    by_cases z : p.1 = n
    · simp [e2, keyEq, z]
    · simp [e2, keyEq, z]
  · rw [if_neg (by simpa using hm), if_neg hm]
    simp [e2]
theorem put_keys (b : List (Str × Str)) (n s : Str) : (put b n s).map (·.1) = if n ∈ b.map (·.1) then b.map (·.1) else b.map (·.1) ++ [n] := by
  unfold put
  by_cases hm : n ∈ b.map (·.1)
  · rw [if_pos hm, if_pos hm, List.map_map]
    apply List.map_congr_left
    intro p hp
    by_cases z : p.1 = n
    · simp [z]
    · simp [z]
  · rw [if_neg hm, if_neg hm]; simp
theorem put_nodup {b : List (Str × Str)} (h : (b.map (·.1)).Nodup) (n s : Str) : ((put b n s).map (·.1)).Nodup := by
  rw [put_keys]
  split
  · exact h
  · rename_i hm
    rw [List.nodup_append]
    exact ⟨h, by simp, fun a ha c hc z => hm (by have : c = n := by simpa using hc
                                                 rw [← this, ← z]; exact ha)⟩
theorem put_len (b : List (Str × Str)) (n s : Str) : (put b n s).length ≤ b.length + 1 ∧ 0 < (put b n s).length := by
  have e := congrArg List.length (put_keys b n s)
  rw [List.length_map] at e
  rw [e]
  split
  · rename_i hm
    rw [List.length_map]
    obtain ⟨p, hp, _⟩ := List.mem_map.mp hm
    exact ⟨by omega, List.length_pos_of_mem hp⟩
  · simp
theorem isStrs_map : ∀ ys : List Str, isStrs (ys.map .str) = some ys
  | [] => rfl
  | y :: ys => by simp [isStrs, isStrs_map ys]
theorem g_join {h : Hq} (ys : List Str) (k : (ys.map (fun x : Str => x.length)).sum ≤ 16777216) : gJoin (.str "") [.lst (ys.map .str)] h = some (.str (Txt.join "" ys), h) := by
  have e0 : (("" : Str).length) = 0 := rfl
  simp only [gJoin, asT, asLk, asL, isStrs_map]
  rw [e0, Nat.mul_zero, Nat.add_zero, if_pos k]
def abc : Str := "abcdefghijklmnopqrstuvwxyz"
def lett (i : Int) : Str := ⟨#[abc.cps.toList.getD i.toNat 0]⟩
theorem abc_len : abc.cps.toList.length = 26 := by decide +kernel
theorem g_abc {h : Hq} {i : Int} (h0 : 0 ≤ i) (h1 : i < 26) : gIx (.str abc) (.int i) h = some (.str (lett i), h) := by
  have hl : abc.length ≤ sizeLine := by decide +kernel
  show (if abc.length ≤ sizeLine then (atI abc.cps.toList i).map fun c => (D.str ⟨#[c]⟩, h) else none) = _
  rw [if_pos hl]
  have e : abc.cps.toList[i.toNat]? = some (abc.cps.toList.getD i.toNat 0) := by
    rw [List.getD_eq_getElem?_getD, List.getElem?_eq_getElem (by rw [abc_len]; omega)]; rfl
  have := atI_nat e
  rw [Int.toNat_of_nonneg h0] at this
  rw [this]; rfl
theorem lett_len (i : Int) : (lett i).length = 1 := rfl
def leB (p q : Str × Str) : Bool := !decide (q.1.cps.toList < p.1.cps.toList)
theorem sort_e2 (b : List (Str × Str)) : ((b.map e2).mergeSort leKV).map pairD = (b.mergeSort leB).map encP := by
  rw [← List.map_mergeSort (r := leB) (s := leKV) (f := e2) (fun a _ c _ => rfl), List.map_map]
  rfl
theorem getL_last {h : Hq} {o : O} : (h ++ [o])[h.length]? = some o := by simp
theorem setL_last {h : Hq} {o o' : O} : (h ++ [o]).set h.length o' = h ++ [o'] := by simp
theorem g_setLast {h : Hq} (b : List (Str × Str)) (n s : Str) (k : b.length < sizeLine) : gSetI (.ref h.length) (.str n) (.str s) (h ++ [.dic (b.map e2)]) = some (h ++ [.dic ((put b n s).map e2)]) := by
  unfold gSetI
  dsimp only
  rw [getL_last]
  dsimp only
  rw [if_pos ⟨kinds_e2 b n, by simpa using k⟩, setL_last, putKV_e2]
theorem all_e2 (b : List (Str × Str)) : ((b.map e2).all fun p => isStr p.1 && (p.2.py.isSome && decide ((encD p.2).depth ≤ 60))) = true := by
  rw [List.all_eq_true]; intro p hp
  obtain ⟨q, _, rfl⟩ := List.mem_map.mp hp
  rfl
theorem sortItems_e2 {f : Ev D} {ρ : Env'} {h h1 : Hq} {l : Nat} {b : List (Str × Str)} (e : f ρ h = .ok (.ref l) h1) (e' : h1[l]? = some (.dic (b.map e2))) : mSortItems f ρ h = .ok (.lst ((b.mergeSort leB).map encP)) h1 := by
  unfold mSortItems
  rw [e, Res.bind_ok]
  simp only [asD, e']
  rw [if_pos (all_e2 b), sort_e2]
theorem encP_nr (b : List (Str × Str)) : D.nrs (b.map encP) = true := by
  induction b with
  | nil => rfl
  | cons p b ih => simp [D.nrs, encP, D.nr, ih]
theorem upto_map (n : Nat) : upto n = (List.range n).map fun i => .int (i : Nat) := rfl
/-- a loop that looks for the first -/
theorem forGo_find {α : Type} {T : Tg} {c : Option (Nat × O)} {all : List D} {body : Ex} {h : Hq} (enc : α → D) (p : α → Bool) (r : α → D) (I : Env' → Prop) (ck : chkOk c all h) : ∀ (xs : List α) (ρ : Env'),
    (∀ x ∈ xs, ∀ ρ, I ρ → ∃ ρ1, setT T (enc x) ρ = some ρ1 ∧ (p x = true → body ρ1 h = .rt (r x) h) ∧ (p x = false → ∃ ρ2, body ρ1 h = .nx ρ2 h ∧ I ρ2)) → I ρ →
    (match xs.find? p with
      | some x => forGo T c all body (xs.map enc) ρ h = .rt (r x) h
      | none => ∃ ρ', forGo T c all body (xs.map enc) ρ h = .nx ρ' h ∧ I ρ')
  | [], ρ, _, i => ⟨ρ, by simp only [List.map_nil, forGo]; rw [if_pos ck], i⟩
  | x :: xs, ρ, k, i => by
    obtain ⟨ρ1, e1, t1, f1⟩ := k x List.mem_cons_self ρ i
    cases hp : p x with
    | true =>
      rw [List.find?_cons_of_pos hp]
      simp only [List.map_cons, forGo]
      rw [if_pos ck, e1]
      dsimp only
      rw [t1 hp]
    | false =>
      rw [List.find?_cons_of_neg (by rw [hp]; decide)]
      obtain ⟨ρ2, e2, i2⟩ := f1 hp
      have ih := forGo_find enc p r I ck xs ρ2 (fun y hy => k y (List.mem_cons_of_mem _ hy)) i2
      have e3 : forGo T c all body ((x :: xs).map enc) ρ h = forGo T c all body (xs.map enc) ρ2 h := by
        rw [List.map_cons]
        rw [forGo]
        rw [if_pos ck, e1]
        dsimp only
        rw [e2]
      rw [e3]
      exact ih
theorem for_find {α : Type} {T : Tg} {fi : Ev (List D × Option (Nat × O))} {body : Ex} {ρ : Env'} {h h1 : Hq} {c : Option (Nat × O)} (enc : α → D) (xs : List α) (p : α → Bool) (r : α → D) (I : Env' → Prop) (ei : fi ρ h = .ok (xs.map enc, c) h1) (ck : chkOk c (xs.map enc) h1) (i : I ρ)
    (k : ∀ x ∈ xs, ∀ ρ, I ρ → ∃ ρ1, setT T (enc x) ρ = some ρ1 ∧ (p x = true → body ρ1 h1 = .rt (r x) h1) ∧ (p x = false → ∃ ρ2, body ρ1 h1 = .nx ρ2 h1 ∧ I ρ2)) :
    (match xs.find? p with
      | some x => mFor T fi body ρ h = .rt (r x) h1
      | none => ∃ ρ', mFor T fi body ρ h = .nx ρ' h1 ∧ I ρ') := by
  unfold mFor
  rw [ei]
  simp only [bindS_ok]
  exact forGo_find enc p r I ck xs ρ k i
theorem g_addL {h : Hq} {a b : List D} (k : a.length + b.length ≤ sizeLine) : gAdd (.lst a) (.lst b) h = some (.lst (a ++ b), h) := by
  show (if a.length + b.length ≤ sizeLine then some (D.lst (a ++ b), h) else none) = _
  rw [if_pos k]
theorem g_addT {h : Hq} {a b : List D} (k : a.length + b.length ≤ sizeLine) : gAdd (.tup a) (.tup b) h = some (.tup (a ++ b), h) := by
  show (if a.length + b.length ≤ sizeLine then some (D.tup (a ++ b), h) else none) = _
  rw [if_pos k]
theorem szL : sizeLine = 16777216 := rfl
/-- all sets of kinds, in the order they are made -/
def subsS (f : List (List Str)) (n : Str) : List (List Str) := f ++ f.map fun s => s ++ [n]
def subs (ns : List Str) : List (List Str) := ns.foldl subsS [[]]
theorem subs_snoc (ns : List Str) (n : Str) : subs (ns ++ [n]) = subsS (subs ns) n := by unfold subs; rw [List.foldl_append]; rfl
theorem subs_len (ns : List Str) : (subs ns).length = 2 ^ ns.length := by
  suffices h : ∀ (ns : List Str) (f : List (List Str)), (ns.foldl subsS f).length = f.length * 2 ^ ns.length by
    have := h ns [[]]
    unfold subs
    simpa using this
  intro ns
  induction ns with
  | nil => intro f; simp
  | cons n ns ih =>
    intro f
    rw [List.foldl_cons, ih, List.length_cons, Nat.pow_succ]
    simp [subsS]
    rw [Nat.mul_comm (2 ^ ns.length) 2, ← Nat.mul_assoc]
    congr 1
    omega
theorem subs_sub (ns : List Str) : ∀ s ∈ subs ns, s.Sublist ns := by
  suffices h : ∀ (ns pre : List Str) (f : List (List Str)), (∀ s ∈ f, s.Sublist pre) → ∀ s ∈ ns.foldl subsS f, s.Sublist (pre ++ ns) by
    have := h ns [] [[]] (by simp)
    unfold subs
    simpa using this
  intro ns
  induction ns with
  | nil => intro pre f hf; simpa using hf
  | cons n ns ih =>
    intro pre f hf
    have := ih (pre ++ [n]) (subsS f n) fun s hs => by
      rcases List.mem_append.mp hs with hs | hs
      · exact (hf s hs).trans (List.sublist_append_left _ _)
      · obtain ⟨t, ht, rfl⟩ := List.mem_map.mp hs
        exact (hf t ht).append (List.Sublist.refl _)
    simpa using this
def every (ns : List Str) : List (List Str) := (subs ns).mergeSort leS
theorem every_perm (ns : List Str) : (every ns).Perm (subs ns) := List.mergeSort_perm _ _
theorem every_sub {ns s : List Str} (h : s ∈ every ns) : s.Sublist ns := subs_sub ns s ((every_perm ns).mem_iff.mp h)
theorem every_len (ns : List Str) : (every ns).length = 2 ^ ns.length := by rw [(every_perm ns).length_eq, subs_len]
/-! ### a dict of kinds without worths -/
def e0 (n : Str) : D × D := (.str n, .non)
def encN (n : Str) : D := .tup [.str n, .non]
theorem isPrs_N : ∀ ks : List Str, isPrs (ks.map encN) = some (ks.map e0)
  | [] => rfl
  | k :: ks => by simp [isPrs, encN, isPrs_N ks, e0]
theorem any_e0 (ks : List Str) (n : Str) : ((ks.map e0).any fun p => keyEq p.1 (.str n)) = decide (n ∈ ks) := by
  rw [List.any_map]
  by_cases hm : n ∈ ks
  · rw [decide_eq_true hm]
    exact List.any_eq_true.mpr ⟨n, hm, by simp [e0, keyEq]⟩
  · rw [decide_eq_false hm]
    cases q : ks.any ((fun p => keyEq p.1 (.str n)) ∘ e0) with
    | false => rfl
    | true =>
      obtain ⟨p, hp, k⟩ := List.any_eq_true.mp q
      have k2 : p = n := by simpa [e0, keyEq] using k
      exact absurd (k2 ▸ hp) hm
theorem merge_e0 : ∀ (ks pre : List Str), (pre ++ ks).Nodup → mergeKV (pre.map e0) (ks.map e0) = (pre ++ ks).map e0
  | [], pre, _ => by simp [mergeKV]
  | k :: ks, pre, h => by
    have hk : k ∉ pre := fun z => by
      rw [List.nodup_append] at h
      exact h.2.2 k z k List.mem_cons_self rfl
    have e1 : putKV (pre.map e0) (.str k) .non = (pre ++ [k]).map e0 := by
      unfold putKV
      rw [any_e0, if_neg (by simpa using hk)]
      simp [e0]
    have ih := merge_e0 ks (pre ++ [k]) (by simpa using h)
    unfold mergeKV at ih ⊢
    rw [List.map_cons, List.foldl_cons]
    show (ks.map e0).foldl _ (putKV (pre.map e0) (.str k) .non) = _
    rw [e1, ih]
    simp
theorem g_dictN {h : Hq} {ks : List Str} (nd : ks.Nodup) : gDict [.lst (ks.map encN)] h = some (.dic (ks.map e0), h) := by
  simp only [gDict, asLk, asL, isPrs_N]
  rw [if_pos (by rw [List.all_map]; exact List.all_eq_true.mpr fun x _ => rfl)]
  have := merge_e0 ks [] (by simpa using nd)
  simp only [List.map_nil, List.nil_append] at this
  rw [this]
theorem kinds_e0 (ks : List Str) (n : Str) : kindsOk (ks.map e0) (.str n) = true := by
  unfold kindsOk
  simp [e0, keyKind]
theorem getD_e0 (ks : List Str) (n : Str) : getD (ks.map e0) (.str n) = if n ∈ ks then some .non else none := by
  unfold getD
  induction ks with
  | nil => rfl
  | cons k ks ih =>
    rw [List.map_cons, List.find?_cons]
    by_cases hk : k = n
    · subst hk
      simp [e0, keyEq]
    · have : keyEq (e0 k).1 (.str n) = false := by simp [e0, keyEq, hk]
      rw [this]
      simp only [ih, List.mem_cons]
      have : (n = k ∨ n ∈ ks) = (n ∈ ks) := by simp [Ne.symm hk]
      simp only [this]
@[simp] theorem g_notInN {h : Hq} {ks : List Str} {n : Str} : gNotIn (.str n) (.dic (ks.map e0)) h = some (.bl (!decide (n ∈ ks)), h) := by
  unfold gNotIn inH
  simp only [asD]
  rw [if_pos (kinds_e0 ks n), getD_e0]
  by_cases z : n ∈ ks <;> simp [z]
theorem g_ixN {h : Hq} {ks : List Str} {n : Str} (k : n ∈ ks) : gIx (.dic (ks.map e0)) (.str n) h = some (.non, h) := by
  show (if kindsOk (ks.map e0) (.str n) = true then (getD (ks.map e0) (.str n)).map fun d => (d, h) else none) = _
  rw [if_pos (kinds_e0 ks n), getD_e0, if_pos k]; rfl
theorem isBls_map {α : Type} (f : α → Bool) : ∀ L : List α, isBls (L.map fun x => .bl (f x)) = some (L.map f)
  | [] => rfl
  | x :: L => by simp [isBls, isBls_map f L]
theorem g_all {α : Type} {h : Hq} (f : α → Bool) (L : List α) : gAll [.lst (L.map fun x => .bl (f x))] h = some (.bl (L.all f), h) := by
  simp only [gAll, asLk, asL, Option.bind_some, isBls_map, Option.map_some, List.all_map]
  rfl
theorem g_any {α : Type} {h : Hq} (f : α → Bool) (L : List α) : gAny [.lst (L.map fun x => .bl (f x))] h = some (.bl (L.any f), h) := by
  simp only [gAny, asLk, asL, Option.bind_some, isBls_map, Option.map_some, List.any_map]
  rfl
theorem g_appL {h : Hq} {L : List D} {d : D} (k : L.length < sizeLine) : gAppend (.ref h.length) [d] (h ++ [.lst L]) = some (.non, h ++ [.lst (L ++ [d])]) := by
  simp only [gAppend, getL_last]
  rw [if_pos k, setL_last]
theorem encS_nrs (L : List (List Str)) : D.nrs (L.map encS) = true := by
  have a : ∀ ks : List Str, D.nrs (ks.map D.str) = true := fun ks => by
    induction ks with
    | nil => rfl
    | cons k ks ih => simp [D.nrs, D.nr, ih]
  induction L with
  | nil => rfl
  | cons p b ih => simp [D.nrs, encS, D.nr, ih, a]
end Mi
namespace Mi
open PySem PySem.Spec L2
/-! ### slices -/
def cutD (xs : List D) (lo hi : Option Int) : List D := (xs.drop (HT.sIx xs.length 0 lo)).take (HT.sIx xs.length xs.length hi - HT.sIx xs.length 0 lo)
open Classical in
noncomputable def gSl (x : D) (lo hi : Option Int) (h : Hq) : Option (D × Hq) := match asT x with
  | some xs => if HT.sIx xs.length 0 lo = 0 ∧ HT.sIx xs.length xs.length hi = xs.length then some (x, h) else some (.tup (cutD xs lo hi), h)
  | none => (asLk h x).map fun xs => (.lst (cutD xs lo hi), h)
def mPart : Option (Ev D) → Ev (Option Int)
  | none => fun _ h => .ok none h
  | some f => fun ρ h => (f ρ h).bind fun d h1 => match d with
    | .int i => .ok (some i) h1
    | _ => .bad
noncomputable def mSl (fe : Ev D) (lo hi : Option (Ev D)) : Ev D := fun ρ h => (fe ρ h).bind fun x h1 => (mPart lo ρ h1).bind fun l h2 => (mPart hi ρ h2).bind fun u h3 => .of (gSl x l u h3)
abbrev rO : Wd → Hp → Option Int → Option Int → Prop := fun _ _ a b => a = b
def tPt (K : PySem.W.Frag) (W : WX) (f : Ev (Option Int)) : TO := fun σ H Q => ∃ ρ h mp, HRel K mp h H ∧ EnvRel K mp H ρ σ ∧ Post K rO mp H (f ρ h) Q (wE K W σ)
abbrev SP (X : Cx) (W : WX) (e : Option Expr) (f : Option (Ev D)) : Prop := PO X e (tPt X.K W (mPart f))
theorem PO.imp {X : Cx} {e : Option Expr} {t t' : TO} (h : PO X e t) (i : ∀ σ H Q, t' σ H Q → t σ H Q) : PO X e t' := ⟨fun pins s σ H Q I q => h.run pins s σ H Q I (i σ H Q q)⟩
theorem SlR.imp {X : Cx} {r r' : V → Option Int → Option Int → Hp → VK → Prop} (h : SlR X r) (i : ∀ x lo hi H Q, r' x lo hi H Q → r x lo hi H Q) : SlR X r' := fun pins s σ H x v vl vu lo hi sl Q I rx hs pl pu q => h pins s σ H x v vl vu lo hi sl Q I rx hs pl pu (i _ _ _ _ _ q)
section
variable {X : Cx} {W : WX} {e : Expr} {f : Ev D} {pos p2 : Pos}
theorem sp_none : SP X W none none := PO.imp po_none fun σ H Q ⟨ρ, h, mp, r, en, p⟩ => Post.ok (v := none) p r rfl
theorem sp_some (he : SE X W e f) : SP X W (some e) (some f) := PO.imp (po_some he) fun σ H Q ⟨ρ, h, mp, r, en, p⟩ => by
  refine ⟨ρ, h, mp, r, en, Post.mono (Post.bind (R := rD X.K) p) fun v H1 ⟨mp1, h1, d, le1, r1, q1, p1⟩ => ?_⟩
  cases d with
  | int i => cases q1; exact ⟨i, rfl, Post.ok (v := some i) p1 r1 rfl⟩
  | _ => exact p1.elim
theorem cut_rel {K : PySem.W.Frag} {mp : Wd} {H : Hp} {xs : List D} {vs : List V} (a : RpAll K mp H xs vs) (lo hi : Option Int) : RpAll K mp H (cutD xs lo hi) (cutV vs lo hi) := by
  unfold cutD cutV
  rw [a.length]
  exact (a.drop _).take _
theorem sl_ok : SlR X (fun x lo hi H Q => ∃ mp h d, HRel X.K mp h H ∧ Rp X.K mp H d x ∧ PostO X.K (rD X.K) mp H (gSl d lo hi h) Q) :=
  SlR.imp (SlR.or sl_tupA sl_list) fun x lo hi H Q ⟨mp, h, d, r, a, p⟩ => by
    unfold gSl at p
    split at p
    · rename_i xs e
      obtain ⟨pa, vs, rfl, hs, ra⟩ := asT_ok a e
      refine .inl ⟨pa, vs, rfl, hs, fun hw => ?_, fun hw q hq => ?_⟩
      · rw [if_pos (by rw [ra.length]; exact hw)] at p
        exact p _ mp H .refl r a
      · rw [if_neg (by rw [ra.length]; exact hw)] at p
        obtain ⟨l1, l2, l3⟩ := newT r hq (cut_rel ra lo hi)
        exact p _ mp _ l1 l2 l3
    · cases e : asLk h d with
      | none => rw [e] at p; exact p.elim
      | some xs =>
        rw [e] at p
        obtain ⟨pa, vs, rfl, hs, ra⟩ := asLk_ok r a e
        refine .inr ⟨pa, vs, rfl, hs, fun q hq => ?_⟩
        obtain ⟨l1, l2, l3⟩ := newL r hq (cut_rel ra lo hi)
        exact p _ mp _ l1 l2 l3
theorem se_sl {lo hi : Option Expr} {fl fh : Option (Ev D)} (he : SE X W e f) (hl : SP X W lo fl) (hh : SP X W hi fh) : SE X W (.Subscript e (.Slice lo hi none p2) pos) (mSl f fl fh) :=
  PE.imp (pe_slice sl_ok he hl hh) fun σ H Q ⟨ρ, h, mp, r, en, p⟩ => by
    refine ⟨ρ, h, mp, r, en, Post.mono (Post.bind (R := rD X.K) p) fun v H1 ⟨mp1, h1, d, le1, r1, q1, p1⟩ => ?_⟩
    refine ⟨ρ, h1, mp1, r1, en.mono le1, Post.mono (Post.bind (R := rO) p1) fun l H2 ⟨mp2, h2, l', le2, r2, q2, p2⟩ => ?_⟩
    obtain rfl : l' = l := q2
    refine ⟨ρ, h2, mp2, r2, (en.mono le1).mono le2, Post.mono (Post.bind (R := rO) p2) fun u H3 ⟨mp3, h3, u', le3, r3, q3, p3⟩ => ?_⟩
    obtain rfl : u' = u := q3
    exact ⟨mp3, h3, d, r3, (q1.mono le2).mono le3, Post.o p3⟩
end
/-! ### max, min -/
def isInts : List D → Option (List Int)
  | [] => some []
  | .int i :: ds => (isInts ds).map (i :: ·)
  | _ => none
def maxI : Int → List Int → Int
  | m, [] => m
  | m, x :: xs => maxI (if m < x then x else m) xs
theorem maxI_ge : ∀ (m : Int) (xs : List Int), m ≤ maxI m xs ∧ ∀ y ∈ xs, y ≤ maxI m xs
  | m, [] => ⟨Int.le_refl _, by simp⟩
  | m, x :: xs => by
    obtain ⟨h1, h2⟩ := maxI_ge (if m < x then x else m) xs
    unfold maxI
    split at h1 <;> rename_i hz
    · rw [if_pos hz] at h2 ⊢
      exact ⟨by omega, fun y hy => by rcases List.mem_cons.mp hy with rfl | hy; exact h1; exact h2 y hy⟩
    · rw [if_neg hz] at h2 ⊢
      exact ⟨h1, fun y hy => by rcases List.mem_cons.mp hy with rfl | hy; omega; exact h2 y hy⟩
theorem maxI_mem : ∀ (m : Int) (xs : List Int), maxI m xs = m ∨ maxI m xs ∈ xs
  | m, [] => .inl rfl
  | m, x :: xs => by
    unfold maxI
    rcases maxI_mem (if m < x then x else m) xs with h | h
    · rw [h]
      split
      · exact .inr List.mem_cons_self
      · exact .inl rfl
    · exact .inr (List.mem_cons_of_mem _ h)
theorem isInts_ok {K : PySem.W.Frag} {mp : Wd} {H : Hp} : ∀ {ds : List D} {vs : List V} {ns : List Int}, RpAll K mp H ds vs → isInts ds = some ns → vs = ns.map V.int
  | _, _, _, .nil, e => by simp [isInts] at e; subst e; rfl
  | d :: ds, _, ns, .cons r t, e => by
    cases d with
    | int i =>
      simp only [isInts, Option.map_eq_some_iff] at e
      obtain ⟨ms, e1, rfl⟩ := e
      cases r
      rw [isInts_ok t e1]; rfl
    | _ => simp [isInts] at e
def gMax (ds : List D) (h : Hq) : Option (D × Hq) := match ds with
  | [.int i, .int j] => some (.int (if j > i then j else i), h)
  | [d] => (match asLk h d with
    | some xs => (match isInts xs with
      | some (n :: ns) => some (.int (maxI n ns), h)
      | _ => none)
    | none => none)
  | _ => none
def minF (b : D) : List D → D
  | [] => b
  | y :: ys => minF (if PySem.W.dataLt (encD y) (encD b) = true then y else b) ys
def minOk (ds : List D) : Bool := (ds.all fun d => d.tx) && (ds.all fun a => ds.all fun b => PySem.W.alike (encD a) (encD b)) && (ds.all fun a => decide ((encD a).depth ≤ 60)) && (ds.all fun a => !isNo (encD a))
def gMin (ds : List D) (h : Hq) : Option (D × Hq) := match ds with
  | [.int i, .int j] => some (.int (if j < i then j else i), h)
  | [d] => (match asLk h d with
    | some (y :: ys) => if minOk (y :: ys) = true then some (minF y ys, h) else none
    | _ => none)
  | _ => none
section
variable {X : Cx}
theorem c1_max (hc : X.calm = true) : C1 X (.builtin "max") gMax := by
  intro pins s σ H xs us Q I rv ⟨mp, h, ds, r, a, p⟩
  unfold gMax at p
  split at p
  · obtain ⟨v, w, rfl, q1, q2⟩ := a.two
    cases q1; cases q2
    exact call_max2 hc pins s σ H _ us Q I rv ⟨_, _, rfl, p _ mp H .refl r (.int _)⟩
  · rename_i d
    obtain ⟨v, rfl, q⟩ := a.one
    cases e : asLk h d with
    | none => rw [e] at p; exact p.elim
    | some ys =>
      rw [e] at p
      dsimp only at p
      split at p
      · rename_i n ns e2
        obtain ⟨pa, vs, rfl, hs, ra⟩ := asLk_ok r q e
        rw [isInts_ok ra e2] at hs
        refine cr_max hc pins s σ H _ us Q I rv ⟨pa, n :: ns, rfl, hs, by simp, fun m hm hy => ?_⟩
        have h1 := maxI_ge n ns
        have h2 : maxI n ns ∈ n :: ns := by
          rcases maxI_mem n ns with z | z
          · rw [z]; exact List.mem_cons_self
          · exact List.mem_cons_of_mem _ z
        have h3 : m = maxI n ns := by
          have h4 := hy _ h2
          have h5 : m ≤ maxI n ns := by
            rcases List.mem_cons.mp hm with rfl | hm
            · exact h1.1
            · exact h1.2 m hm
          omega
        rw [h3]
        exact p _ mp H .refl r (.int _)
      · exact p.elim
  · exact p.elim
theorem vals_at : ∀ {vs : List V} {us : List Value} {i : Nat} {u : Value}, Vals vs us → us[i]? = some u → ∃ v, vs[i]? = some v ∧ RelV v u
  | _, _, _, _, .nil, e => by simp at e
  | _, _, 0, _, .cons r _, e => by simp at e; subst e; exact ⟨_, rfl, r⟩
  | _, _, i + 1, u, .cons _ t, e => by
    obtain ⟨v, h1, h2⟩ := vals_at (i := i) (u := u) t (by simpa using e)
    exact ⟨v, by simpa using h1, h2⟩
theorem tx_enc_inj {a b : D} (ta : a.tx = true) (tb : b.tx = true) (e : encD a = encD b) : a = b := by
  apply (eqB_iff ta tb).mp
  unfold eqB
  rw [e]
  obtain ⟨p, ep⟩ := tx_py tb
  rw [encD_of ep]
  exact PySem.SeqAt.eqv_refl_plain _ (py_plain ep)
theorem minF_enc : ∀ (ys : List D) (b : D), encD (minF b ys) = PySem.W.minD (encD b) (ys.map encD)
  | [], b => rfl
  | y :: ys, b => by
    have ih := minF_enc ys (if PySem.W.dataLt (encD y) (encD b) = true then y else b)
    unfold PySem.W.minD at ih ⊢
    rw [minF, ih, List.map_cons, List.foldl_cons]
    congr 1
    split <;> rfl
theorem minF_mem : ∀ (ys : List D) (b : D), minF b ys = b ∨ minF b ys ∈ ys
  | [], b => .inl rfl
  | y :: ys, b => by
    rw [minF]
    rcases minF_mem ys (if PySem.W.dataLt (encD y) (encD b) = true then y else b) with z | z
    · rw [z]
      split
      · exact .inr List.mem_cons_self
      · exact .inl rfl
    · exact .inr (List.mem_cons_of_mem _ z)
theorem c1_min (hc : X.calm = true) (hu : X.A.units + 64 < cLine) : C1 X (.builtin "min") gMin := by
  intro pins s σ H xs us Q I rv ⟨mp, h, ds, r, a, p⟩
  unfold gMin at p
  split at p
  · obtain ⟨v, w, rfl, q1, q2⟩ := a.two
    cases q1; cases q2
    exact call_min2 hc pins s σ H _ us Q I rv ⟨_, _, rfl, p _ mp H .refl r (.int _)⟩
  · rename_i d _
    obtain ⟨v, rfl, q⟩ := a.one
    split at p
    · rename_i y ys e
      split at p
      · rename_i hk
        unfold minOk at hk
        simp only [Bool.and_eq_true, List.all_eq_true, decide_eq_true_eq] at hk
        obtain ⟨⟨⟨k1, k2⟩, k3⟩, k4⟩ := hk
        obtain ⟨pa, vs, rfl, hs, ra⟩ := asLk_ok r q e
        rw [Vals.ref1 rv]
        obtain ⟨its, rel, hl, hz⟩ := I.list hs
        have tx : D.txs (y :: ys) = true := txs_all.mpr k1
        obtain ⟨as, rd⟩ := Dp.readsAll I _ _ _ (ra.dp (pys_map tx)) rel
        refine PySem.W.min_list_data (I.ok.hd hc) hl.isList (x := encD y) (xs := ys.map encD) rd ⟨?_, ?_⟩ ?_ fun i u h' tk bs hi hr hk' => ?_
        · intro x hx z hz
          obtain ⟨a1, m1, rfl⟩ := List.mem_map.mp (show x ∈ (y :: ys).map encD from hx)
          obtain ⟨a2, m2, rfl⟩ := List.mem_map.mp (show z ∈ (y :: ys).map encD from hz)
          exact k2 a1 m1 a2 m2
        · intro x hx
          obtain ⟨a1, m1, rfl⟩ := List.mem_map.mp (show x ∈ (y :: ys).map encD from hx)
          have := k4 a1 m1
          intro z
          rw [z] at this
          simp [isNo] at this
        · have : PyData.depthAll (encD y :: ys.map encD) ≤ 60 := by
            have e1 := pys_depth (pys_map tx)
            rw [show encD y :: ys.map encD = (y :: ys).map encD from rfl, e1]
            refine dps_le.mpr fun x hx => ?_
            have := k3 x hx
            obtain ⟨px, ex⟩ := tx_py (k1 x hx)
            rw [encD_of ex, py_depth ex] at this
            exact this
          omega
        · have hi' : its[i]? = some u := by simpa using hi
          obtain ⟨vx, e1, e2⟩ := vals_at rel hi'
          obtain ⟨dx, e3, e4⟩ := ra.getV e1
          have hm : dx ∈ y :: ys := List.mem_of_getElem? e3
          have I' : Inv X pins σ H { s with heap := h', toks := tk } := I.kept hk'
          obtain ⟨px, ex⟩ := tx_py (k1 dx hm)
          obtain ⟨as2, r2⟩ := Dp.reads I' _ _ _ (e4.dp ex) e2
          have e5 : px = PySem.W.minD (encD y) (ys.map encD) := PySem.SeqAt.plain_unique _ _ _ _ _ (py_plain ex) r2 hr
          have e6 : dx = minF y ys := by
            apply tx_enc_inj (k1 dx hm)
            · rcases minF_mem ys y with z | z
              · rw [z]; exact k1 y List.mem_cons_self
              · exact k1 _ (List.mem_cons_of_mem _ z)
            · rw [encD_of ex, e5, minF_enc]
          subst e6
          exact ⟨vx, H, I', e2, p _ mp H .refl r e4⟩
      · exact p.elim
    · exact p.elim
  · exact p.elim
end
end Mi
namespace Mi
open PySem PySem.Spec L2
/-! ### enumerate of a tuple -/
set_option maxHeartbeats 1000000 in
theorem meets_enumT (l : Addr) (its : Array Value) (n : Nat) (dd : Option Addr) (sl : Array (Option Value)) :
    Meets (Builtin.«enumerate.__new__» ⟨[.type "enumerate", .ref l], []⟩) (fun _ R s => s.heap.get? l = some { cls := .type "tuple", dict := dd, data := .seq its n, slots := sl } ∧
      R (.ok (.ret (.ref (s.heap.push { cls := .type "tuple_iterator", data := .fields #[.ref l, .int 0 0] }).objs.size)))
        { s with heap := (s.heap.push { cls := .type "tuple_iterator", data := .fields #[.ref l, .int 0 0] }).push { cls := .type "enumerate", data := .fields #[.none, .bool false, .ref s.heap.objs.size, rawInt 0, .none, .none] } }) :=
  .of_wp fun prog w A R s h => by
    obtain ⟨hp, g, d, tk, os⟩ := s; obtain ⟨hl, h⟩ := h
    have hsub := sub_enumerate
    have hL : Heap.IsTuple (Shared.heap ⟨hp, g, d, tk, os⟩) l its := ⟨_, hl, rfl, n, rfl⟩
    wp_walk using AutoSeq1.wpAny_loadPart' hl
    refine wpAny_stack_any fun st => wpAny_pure ?_
    split
    · rename_i cc _ _ _ _ _
      cases (cc == Value.type "enumerate")
      · wp_walk using AutoSeq1.wpAny_loadPart' hl, wpAny_pyIter_tuple hL
        exact ⟨_, rfl, h⟩
      · wp_walk using AutoSeq1.wpAny_loadPart' hl, wpAny_pyIter_tuple hL
        exact ⟨_, rfl, h⟩
    · wp_walk using AutoSeq1.wpAny_loadPart' hl, wpAny_pyIter_tuple hL
      exact ⟨_, rfl, h⟩
theorem call_enumT {prog : Program} {w : World} {A : Around} {E : Value → Shared → Prop} {s : Shared} {l : Addr} {its : Array Value} {Q : Value → Shared → Prop} (hL : s.heap.IsTuple l its)
    (h : ∀ h', IsEnum h' (s.heap.objs.size + 1) s.heap.objs.size 0 .none → h'.IsTupleIter s.heap.objs.size l 0 → h'.objs.size = s.heap.objs.size + 2 →
      (∀ b o, s.heap.get? b = some o → h'.get? b = some o) → Q (.ref (s.heap.objs.size + 1)) { s with heap := h' }) :
    wpAny (model prog w) A (call (.type "enumerate") [.ref l]) Q E s := by
  obtain ⟨⟨c, dd, dt, sl⟩, hl, hc, n, hd⟩ := hL
  replace hc : c = .type "tuple" := hc
  replace hd : dt = .seq its n := hd
  subst hc hd
  refine callType_new F.called_enumerate (by decide) (F.typeCall_enumerate_1 _) (F.newCall_enumerate_1 _) (fun ob => F.args_object_init_2 ob _) F.entry_enumerate_new (meets_enumT l its n dd sl) ⟨hl, ?_⟩
  have hz : (s.heap.push { cls := .type "tuple_iterator", data := .fields #[.ref l, .int 0 0] }).objs.size = s.heap.objs.size + 1 := Heap.size_push ..
  show _ ∧ _
  rw [hz]
  have he : IsEnum ((s.heap.push { cls := .type "tuple_iterator", data := .fields #[.ref l, .int 0 0] }).push
      { cls := .type "enumerate", data := .fields #[.none, .bool false, .ref s.heap.objs.size, rawInt 0, .none, .none] }) (s.heap.objs.size + 1) s.heap.objs.size 0 .none := by
    have z := Heap.get?_push_size (s.heap.push { cls := .type "tuple_iterator", data := .fields #[.ref l, .int 0 0] })
      (o := { cls := .type "enumerate", data := .fields #[.none, .bool false, .ref s.heap.objs.size, rawInt 0, .none, .none] }) rfl
    rw [hz] at z; exact z
  refine ⟨⟨_, he, rfl⟩, h _ he ⟨_, Heap.get?_push_of_some _ (Heap.get?_push_size _ rfl), rfl, rfl⟩ (by rw [Heap.size_push, hz]) fun b o y => Heap.get?_push_of_some _ (Heap.get?_push_of_some _ y)⟩
theorem enumT_end {prog : Program} {w : World} {A : Around} {E : Value → Shared → Prop} {s : Shared} {e it l : Addr} {i : Int} {k : Nat} {its : Array Value} {old : Value} {Q : Option Value → Shared → Prop} (hh : A.handled = none)
    (he : IsEnum s.heap e it i old) (hit : s.heap.IsTupleIter it l k) (ht : s.heap.IsTuple l its) (hx : its[k]? = none) (hQ : ∀ h', Heap.ExtBut it s.heap h' → Q none { s with heap := h' }) : wpAny (model prog w) A (pyNext (.ref e)) Q E s := by
  have hT : s.TypeIs (.ref e) "enumerate" := ⟨_, he, rfl⟩
  unfold pyNext
  refine wpAny_bind (wpAny_attempt (wpAny_callSpecial?_slot (name := Str.ofString "__next__") hT F.slot_enumerate_next (wpAny_call_entry F.slot_enumerate_next hT F.entry_enumerate_next ?_ (F.args_enumerate_next_1 _))))
  show wpAny _ _ (field (.ref e) 2 >>= _) _ _ _
  refine wpAny_bind (wpAny_field he rfl (x := .ref it) rfl ?_)
  refine wpAny_bind (wpAny_nextOf_tuple_end (A := A.in1) hh hit ht hx fun h' y eb ⟨o, ho, hc⟩ => ?_)
  exact wpAny_bind (wpAny_isInstance (T := "StopIteration") (b := true) ⟨o, ho, hc⟩ isSubtype_stop (wpAny_pure (hQ _ eb)))
/-- the tuple at a, each item in a new pair -/
def IteT (K : PySem.W.Frag) (a : Addr) : It :=
  ⟨fun i H => ∃ (xs : List V) (x : V), SqT K H a xs ∧ xs[i]? = some x, fun i H v H' => ∃ T x, v = .ref T ∧ H T = none ∧ H' = upd H T (.tup [.int (i : Nat), x]) ∧ ∀ xs, SqT K H a xs → xs[i]? = some x, fun i H => ∃ xs : List V, SqT K H a xs ∧ xs.length ≤ i⟩
theorem turn_enumT {P : Program} {w : World} {K : PySem.W.Frag} {elts : List Expr} {kk : Nat} {tpos : Pos} (a e it : Addr) :
    Turn P w K (.Tuple elts kk tpos) (IteT K a) [e, it] e (fun i h => (∃ old, IsEnum h e it ((i : Nat) : Int) old) ∧ h.IsTupleIter it a i ∧ e ≠ it ∧ a ≠ it ∧ e ≠ a) where
  mem := by simp
  obj := fun i h st b hb => by
    obtain ⟨⟨old, he⟩, ⟨o, ho, hc, hd⟩, _⟩ := st
    have e2 : b = e ∨ b = it := by simpa using hb
    rcases e2 with y | y
    · rw [y]; exact ⟨_, he, fun v q => nomatch q⟩
    · rw [y]; exact ⟨o, ho, fun v q => by rw [hd] at q; cases q⟩
  keep := fun i h h' st k => let ⟨⟨old, he⟩, hi, hne⟩ := st; ⟨⟨old, k e (by simp) _ he⟩, hi.at fun o q => k it (by simp) o q, hne⟩
  item := by
    intro X hP hw hK hc i pins s σ H E I hf st hg
    subst hP hw hK
    obtain ⟨⟨old, he⟩, hit, hne, hat, hea⟩ := st
    obtain ⟨xs, x, hq, hx⟩ := hg
    obtain ⟨its, rv, p, hz⟩ := I.tuple hq
    obtain ⟨u, hu, ru⟩ := rv.get hx
    have hel : e < s.heap.objs.size := Heap.lt_size he
    have hil : it < s.heap.objs.size := by obtain ⟨_, q, _⟩ := hit; exact Heap.lt_size q
    have hlt : i < its.toArray.size := by
      have := (List.getElem?_eq_some_iff.mp hu).1
      simpa using this
    refine wpAny_pyNext_enum_itemD (Draws.tuple (A := X.A.in1) (I.ok.hd hc) it a hat its.toArray) he ⟨hit, (show s.heap.IsTuple a its.toArray from p)⟩ hlt hne (by simp [hne, hea]) fun u' h' tk hu' ho st' hT hsz hk => ?_
    have eu : u' = u := by
      have : its.toArray[i]? = some u := by simpa using hu
      rw [this] at hu'; cases hu'; rfl
    subst eu
    refine ⟨_, rfl, wpAny_letOwnedTupleGo_enum (s := { s with heap := h', toks := tk + 1 }) ho fun h2 he' sb => ?_⟩
    have hT2 : h2.get? s.heap.objs.size = some { cls := .type "tuple", data := .seq #[.int i tk, u'] } := (sb.2 _ (Nat.ne_of_gt hel)).trans hT
    have new : ObjOk X.prog X.w (upd H s.heap.objs.size (.tup [.int (i : Nat), x])) h2 s.heap.objs.size (.tup [.int (i : Nat), x]) :=
      ⟨by show 2 ≤ sizeLine; decide, [.int i tk, u'], .cons ⟨_, rfl⟩ (.cons ru .nil), ⟨_, hT2, rfl, _, rfl⟩⟩
    have I1 : Inv X pins σ (upd H s.heap.objs.size (.tup [.int (i : Nat), x])) { s with heap := h2, toks := tk + 1 } :=
      I.turnedNew (ch := [e, it]) (fun b ob hb q => (sb.2 b (fun z => hb (by simp [z]))).trans (hk b ob (fun z => hb (by simp [z])) (fun z => hb (by simp [z])) q)) hf (Nat.le_refl _) new
    refine ⟨.ref s.heap.objs.size, _, I1, rfl, ⟨_, x, rfl, I.hok.fresh (Nat.le_refl _), rfl, fun ys hy => by rw [I.tuple_inj hy hq]; exact hx⟩, ⟨⟨u', ?_⟩, st'.1.at fun o q => (sb.2 it (Ne.symm hne)).trans q, hne, hat, hea⟩, fun b hb => ?_⟩
    · have e1 : ((i + 1 : Nat) : Int) = (i : Int) + 1 := by omega
      rw [e1]; exact he'
    · have hb' : b < s.heap.objs.size := by
        have e2 : b = e ∨ b = it := by simpa using hb
        rcases e2 with y | y
        · rw [y]; exact hel
        · rw [y]; exact hil
      rw [upd_ne (Nat.ne_of_lt hb')]
      exact (hf b hb).1
  done := by
    intro X hP hw hK hc i pins s σ H E I hf st hg
    subst hP hw hK
    obtain ⟨⟨old, he⟩, hit, hne, hat, hea⟩ := st
    obtain ⟨xs, hq, hx⟩ := hg
    obtain ⟨its, rv, p, hz⟩ := I.tuple hq
    obtain ⟨f0, f1, f2, f3, f4, f5⟩ := hf it (by simp)
    have hl := rv.length
    exact enumT_end (I.ok.hd hc) he hit (show s.heap.IsTuple a its.toArray from p) (by simp; omega) fun h' eb => ⟨rfl, I.turned (t' := s.toks) (fun b o hb q => eb b o hb q) f0 f1 f3 f4 f5⟩
  self := fun A i s Q E st h => let ⟨⟨_, he⟩, _⟩ := st; wpAny_pyIter_enum he h
def iEnumT (K : PySem.W.Frag) (ta : TA) : TI := fun σ H R => ta σ H fun vs H1 => ∃ a xs, vs = [.ref a] ∧ SqT K H1 a xs ∧ R (IteT K a) H1
theorem pi_enumT {X : Cx} {e : Expr} {ta : TA} {p pos tpos : Pos} {elts : List Expr} {kk : Nat} (hg : Gl X "enumerate") (hm : X.mg "enumerate" = none) (ha : PA X [e] ta) (hs : starEach [e] X.env = [(false, eval e X.env)] := by rfl) :
    PI X (.Tuple elts kk tpos) (.Call (.Name "enumerate" p) [e] [] pos) (iEnumT X.K ta) := by
  refine ⟨fun pins s σ H R I h => ?_⟩
  refine PyProof.Rows.Call_ (ld_blt I hg hm PyProof.Rows.boot_enumerate (PyProof.Rows.callWith_type1 (thn (ha.run pos pins s σ H _ I h) fun us t ⟨vs, H1, J, r1, q1⟩ => ?_) hs rfl))
  obtain ⟨a, xs, ex, hq, q⟩ := q1
  subst ex
  obtain rfl := Vals.ref1 r1
  obtain ⟨its, rv, pt, hz⟩ := J.tuple hq
  have hal : a < t.heap.objs.size := by obtain ⟨o, ho, _⟩ := id pt; exact Heap.lt_size ho
  refine call_enumT (show t.heap.IsTuple a its.toArray from pt) fun h' he hit hsz hk => wpAny_pyIter_enum he ?_
  have J2 : Inv X pins σ H1 { t with heap := h' } := J.kept (t' := t.toks) hk
  refine ⟨t.heap.objs.size + 1, [t.heap.objs.size + 1, t.heap.objs.size], _, _, H1, rfl, J2, turn_enumT a (t.heap.objs.size + 1) t.heap.objs.size, ⟨⟨.none, he⟩, hit, Nat.succ_ne_self _, Nat.ne_of_lt hal, Ne.symm (Nat.ne_of_lt (Nat.lt_succ_of_lt hal))⟩, fun b hb => ?_, q⟩
  have hle : t.heap.objs.size ≤ b := by
    have e2 : b = t.heap.objs.size + 1 ∨ b = t.heap.objs.size := by simpa using hb
    rcases e2 with y | y
    · rw [y]; exact Nat.le_add_right _ _
    · rw [y]; exact Nat.le_refl _
  exact J.fpOk hle (J.hok.fresh hle)
theorem same_new {H : Hp} {p : Addr} {o : HO} (h : H p = none) : Same H (upd H p o) := fun b u e => by rw [upd_ne (ne_of_none e h)]; exact e
/-! ### enumerate, zip in loops -/
def enumD (xs : List D) : List D := xs.zipIdx.map fun p => .tup [.int (p.2 : Nat), p.1]
theorem enumD_at {xs : List D} {i : Nat} {d : D} (e : (enumD xs)[i]? = some d) : ∃ x, xs[i]? = some x ∧ d = .tup [.int (i : Nat), x] := by
  unfold enumD at e
  rw [List.getElem?_map, Option.map_eq_some_iff] at e
  obtain ⟨⟨x, j⟩, e1, rfl⟩ := e
  rw [List.getElem?_zipIdx, Option.map_eq_some_iff] at e1
  obtain ⟨y, e2, e3⟩ := e1
  cases e3
  exact ⟨_, e2, by simp⟩
theorem enumD_len (xs : List D) : (enumD xs).length = xs.length := by simp [enumD]
/-- what enumerate takes -/
def seqD (h : Hq) (d : D) : Option (List D × Option (Nat × O)) := match d with
  | .lst xs => some (xs, none)
  | .klst xs => some (xs, none)
  | .tup xs => some (xs, none)
  | .ktup xs => some (xs, none)
  | .ref l => (match h[l]? with
    | some (.lst xs) => some (xs, some (l, .lst xs))
    | _ => none)
  | _ => none
def mEnum (f : Ev (List D)) : Ev (List D × Option (Nat × O)) := fun ρ h => (f ρ h).bind fun ds h1 => match ds with
  | [d] => .of ((seqD h1 d).map fun p => ((enumD p.1, p.2), h1))
  | _ => .bad
section
variable {X : Cx} {W : WX} {tg e : Expr}
theorem it_enumL {K : PySem.W.Frag} {mp : Wd} {H : Hp} {a : Addr} {ds : List D} {c : Option (Nat × O)} (sz : ds.length ≤ sizeLine)
    (q : ∀ mp' h' H', Le mp H mp' H' → HRel K mp' h' H' → chkOk c ds h' → ∃ vs, SqL K H' a vs ∧ RpAll K mp' H' ds vs) : ItIs K mp H (enumD ds, c) (Ite K a) := by
  refine ⟨by show (enumD ds).length ≤ _; rw [enumD_len]; exact sz, fun mp' h' H' le r ck i d e => ?_, fun mp' h' H' le r ck i hi => ?_⟩
  · obtain ⟨x, e0, rfl⟩ := enumD_at e
    obtain ⟨vs, s, ra⟩ := q mp' h' H' le r ck
    obtain ⟨v, e1, e2⟩ := ra.get e0
    refine ⟨⟨vs, v, s, e1⟩, fun x' H2 ⟨T, y, e3, hT, e4, hy⟩ => ?_⟩
    have := hy vs s
    rw [e1] at this; cases this
    subst e3; subst e4
    obtain ⟨l1, l2, l3⟩ := newT r hT (.cons (.int (i : Nat)) (.cons e2 .nil))
    exact ⟨l1, l2, l3, same_new hT⟩
  · obtain ⟨vs, s, ra⟩ := q mp' h' H' le r ck
    exact ⟨vs, s, by rw [← ra.length]; rw [enumD_len] at hi; exact hi⟩
theorem it_enumT {K : PySem.W.Frag} {mp : Wd} {H : Hp} {a : Addr} {ds : List D} (sz : ds.length ≤ sizeLine)
    (q : ∀ mp' H', Le mp H mp' H' → ∃ vs, SqT K H' a vs ∧ RpAll K mp' H' ds vs) : ItIs K mp H (enumD ds, none) (IteT K a) := by
  refine ⟨by show (enumD ds).length ≤ _; rw [enumD_len]; exact sz, fun mp' h' H' le r ck i d e => ?_, fun mp' h' H' le r ck i hi => ?_⟩
  · obtain ⟨x, e0, rfl⟩ := enumD_at e
    obtain ⟨vs, s, ra⟩ := q mp' H' le
    obtain ⟨v, e1, e2⟩ := ra.get e0
    refine ⟨⟨vs, v, s, e1⟩, fun x' H2 ⟨T, y, e3, hT, e4, hy⟩ => ?_⟩
    have := hy vs s
    rw [e1] at this; cases this
    subst e3; subst e4
    obtain ⟨l1, l2, l3⟩ := newT r hT (.cons (.int (i : Nat)) (.cons e2 .nil))
    exact ⟨l1, l2, l3, same_new hT⟩
  · obtain ⟨vs, s, ra⟩ := q mp' H' le
    exact ⟨vs, s, by rw [← ra.length]; rw [enumD_len] at hi; exact hi⟩
theorem PA.post {X : Cx} {es : List Expr} {t : TA} (h : PA X es t) : PA X es (fun σ H Q => t σ H fun v H' => SzOk X.K H' → Q v H') := ⟨fun pos pins s σ H Q I q =>
  thn (h.run pos pins s σ H _ I q) fun u s' ⟨v, H', J, r, z⟩ => ⟨v, H', J, r, z (sz_of J)⟩⟩
def tPa (K : PySem.W.Frag) (W : WX) (f : Ev (List D)) : TA := fun σ H Q => tA K W f σ H fun v H' => SzOk K H' → Q v H'
theorem KLs.mono {K : PySem.W.Frag} {mp mp' : Wd} {H H' : Hp} {a : Addr} {vs : List V} (h1 : KLs K mp.bn H a vs) (l2 : Le mp H mp' H') : SqL K H' a vs := by
  rcases h1 with ⟨h1 | ⟨o, h1⟩, n1⟩ | h1
  · exact .inl (.inl (l2.keep _ _ h1 n1).1)
  · exact .inl (.inr ⟨o, (l2.keep _ _ h1 n1).1⟩)
  · exact sqL_none h1
theorem si_enum {elts : List Expr} {kk : Nat} {tpos p pos : Pos} {f : Ev (List D)} (ha : SA X W [e] f) (hm : X.mg "enumerate" = none) (hg : Gl X "enumerate" := by rfl) (hs : starEach [e] X.env = [(false, eval e X.env)] := by rfl) :
    SI X W (.Tuple elts kk tpos) (.Call (.Name "enumerate" p) [e] [] pos) (mEnum f) := by
  have hp : PA X [e] (tPa X.K W f) := PA.post ha
  refine PI.imp (PI.or (pi_enum hg hm hp hs) (pi_enumT hg hm hp hs)) fun σ H Q ⟨ρ, h, mp, r, en, p⟩ => ?_
  unfold mEnum at p
  cases ef : f ρ h with
  | bad => rw [ef] at p; exact p.elim
  | exc c h1 =>
    rw [ef] at p
    exact .inl ⟨ρ, h, mp, r, en, by rw [ef]; exact p⟩
  | ok ds h1 =>
    rw [ef] at p
    dsimp only [Res.bind] at p
    split at p
    · rename_i d
      cases d with
      | lst xs =>
        refine .inl ⟨ρ, h, mp, r, en, ?_⟩
        rw [ef]
        intro v mp' H' le r' az sz
        obtain ⟨v, rfl, a2⟩ := az.one
        cases a2 with
        | @lst a vs _ h1 n1 q1 =>
          exact ⟨a, vs, rfl, SqL.of h1, p _ mp' H' le r' (it_enumL (by rw [q1.length]; exact sz a vs (.inl (SqL.of h1))) fun m2 h2 H2 l2 _ _ => ⟨vs, SqL.of (l2.keep _ _ h1 n1).1, q1.mono l2⟩)⟩
      | klst xs =>
        refine .inl ⟨ρ, h, mp, r, en, ?_⟩
        rw [ef]
        intro v mp' H' le r' az sz
        obtain ⟨v, rfl, a2⟩ := az.one
        cases a2 with
        | @klst a vs _ h1 q1 =>
          exact ⟨a, vs, rfl, h1.sq, p _ mp' H' le r' (it_enumL (by rw [q1.length]; exact sz a vs (.inl h1.sq)) fun m2 h2 H2 l2 _ _ => ⟨vs, h1.mono l2, q1.mono l2⟩)⟩
      | tup xs =>
        refine .inr ⟨ρ, h, mp, r, en, ?_⟩
        rw [ef]
        intro v mp' H' le r' az sz
        obtain ⟨v, rfl, a2⟩ := az.one
        cases a2 with
        | @tup a vs _ h1 n1 q1 =>
          exact ⟨a, vs, rfl, SqT.of h1, p _ mp' H' le r' (it_enumT (by rw [q1.length]; exact sz a vs (.inr (SqT.of h1))) fun m2 H2 l2 => ⟨vs, SqT.of (l2.keep _ _ h1 n1).1, q1.mono l2⟩)⟩
      | ktup xs =>
        refine .inr ⟨ρ, h, mp, r, en, ?_⟩
        rw [ef]
        intro v mp' H' le r' az sz
        obtain ⟨v, rfl, a2⟩ := az.one
        cases a2 with
        | @ktup a vs _ h1 q1 =>
          exact ⟨a, vs, rfl, sqT_none h1, p _ mp' H' le r' (it_enumT (by rw [q1.length]; exact sz a vs (.inr (sqT_none h1))) fun m2 H2 l2 => ⟨vs, sqT_none h1, q1.mono l2⟩)⟩
      | ref l =>
        simp only [seqD] at p
        split at p
        · rename_i xs e2
          refine .inl ⟨ρ, h, mp, r, en, ?_⟩
          rw [ef]
          intro v mp' H' le r' az sz
          obtain ⟨v, rfl, a2⟩ := az.one
          cases a2 with
          | @ref _ a m =>
            obtain ⟨vs, h2, q2⟩ := r'.obj _ _ _ e2 m
            refine ⟨a, vs, rfl, SqL.of h2, p _ mp' H' le r' (it_enumL (by rw [q2.length]; exact sz a vs (.inl (SqL.of h2))) fun m3 h3 H3 l3 r3 ck => ?_)⟩
            obtain ⟨vs3, e3, q3⟩ := r3.obj _ _ _ ck (l3.get m)
            exact ⟨vs3, SqL.of e3, q3⟩
        · exact p.elim
      | _ => exact p.elim
    · exact p.elim
/-- zip of two tuples -/
def zipD (xs ys : List D) : List D := (xs.zip ys).map fun p => .tup [p.1, p.2]
theorem zipD_at {xs ys : List D} {i : Nat} {d : D} (e : (zipD xs ys)[i]? = some d) : ∃ x y, xs[i]? = some x ∧ ys[i]? = some y ∧ d = .tup [x, y] := by
  unfold zipD at e
  rw [List.getElem?_map, Option.map_eq_some_iff] at e
  obtain ⟨⟨x, y⟩, e1, rfl⟩ := e
  rw [List.getElem?_zip_eq_some] at e1
  exact ⟨x, y, e1.1, e1.2, rfl⟩
theorem zipD_len (xs ys : List D) : (zipD xs ys).length = min xs.length ys.length := by simp [zipD]
def mZip (f : Ev (List D)) : Ev (List D × Option (Nat × O)) := fun ρ h => (f ρ h).bind fun ds h1 => match ds with
  | [d, d'] => (match asT d, asT d' with
    | some xs, some ys => .ok (zipD xs ys, none) h1
    | _, _ => .bad)
  | _ => .bad
theorem asT_stay {K : PySem.W.Frag} {mp : Wd} {H : Hp} {d : D} {v : V} {xs : List D} (a : Rp K mp H d v) (e : asT d = some xs) : ∃ p vs, v = .ref p ∧ ∀ mp' H', Le mp H mp' H' → SqT K H' p vs ∧ RpAll K mp' H' xs vs := by
  unfold asT at e
  split at e
  · cases e
    cases a with
    | tup h1 h2 h3 => exact ⟨_, _, rfl, fun mp' H' le => ⟨SqT.of (le.keep _ _ h1 h2).1, h3.mono le⟩⟩
  · cases e
    cases a with
    | ktup h1 h3 => exact ⟨_, _, rfl, fun mp' H' le => ⟨sqT_none h1, h3.mono le⟩⟩
  · cases e
theorem it_zip {K : PySem.W.Frag} {mp : Wd} {H : Hp} {a b : Addr} {xs ys : List D} {vs ws : List V} (sz : xs.length ≤ sizeLine)
    (qa : ∀ mp' H', Le mp H mp' H' → SqT K H' a vs ∧ RpAll K mp' H' xs vs) (qb : ∀ mp' H', Le mp H mp' H' → SqT K H' b ws ∧ RpAll K mp' H' ys ws) : ItIs K mp H (zipD xs ys, none) (RZ.ItzT K a b) := by
  refine ⟨by show (zipD xs ys).length ≤ _; rw [zipD_len]; omega, fun mp' h' H' le r ck i d e => ?_, fun mp' h' H' le r ck i hi => ?_⟩
  · obtain ⟨x, y, ex, ey, rfl⟩ := zipD_at e
    obtain ⟨s1, r1⟩ := qa mp' H' le
    obtain ⟨s2, r2⟩ := qb mp' H' le
    obtain ⟨v, e1, e2⟩ := r1.get ex
    obtain ⟨w, e3, e4⟩ := r2.get ey
    refine ⟨⟨vs, ws, v, w, s1, s2, e1, e3⟩, fun x' H2 ⟨T, y1, y2, e5, hT, e6, hy1, hy2⟩ => ?_⟩
    have z1 := hy1 vs s1
    rw [e1] at z1; cases z1
    have z2 := hy2 ws s2
    rw [e3] at z2; cases z2
    subst e5; subst e6
    obtain ⟨l1, l2, l3⟩ := newT r hT (.cons e2 (.cons e4 .nil))
    exact ⟨l1, l2, l3, same_new hT⟩
  · obtain ⟨s1, r1⟩ := qa mp' H' le
    obtain ⟨s2, r2⟩ := qb mp' H' le
    refine ⟨vs, ws, s1, s2, ?_⟩
    have : (zipD xs ys).length ≤ i := hi
    rw [zipD_len] at this
    rw [← r1.length, ← r2.length]
    omega
theorem si_zip {e2 : Expr} {elts : List Expr} {kk : Nat} {tpos p pos : Pos} {f : Ev (List D)} (ha : SA X W [e, e2] f) (hm : X.mg "zip" = none) (hg : Gl X "zip" := by rfl)
    (hs : starEach [e, e2] X.env = (false, eval e X.env) :: starEach [e2] X.env := by rfl) (hpl : (backTo pos (starEach [e2] X.env)).any (·.1) = false := by rfl) :
    SI X W (.Tuple elts kk tpos) (.Call (.Name "zip" p) [e, e2] [] pos) (mZip f) := by
  have hp : PA X [e, e2] (tPa X.K W f) := PA.post ha
  refine PI.imp (RZ.pi_zipA hg hm hp hs hpl) fun σ H Q ⟨ρ, h, mp, r, en, p⟩ => ?_
  refine ⟨ρ, h, mp, r, en, Post.mono (Post.bind (R := rA X.K) p) fun v H1 ⟨mp1, h1, ds, le1, r1, q1, p1⟩ => fun sz => ?_⟩
  dsimp only at p1
  split at p1
  · rename_i d d'
    split at p1
    · rename_i xs ys ex ey
      obtain ⟨v, w, rfl, a1, a2⟩ := q1.two
      obtain ⟨pa, vs, rfl, qa⟩ := asT_stay a1 ex
      obtain ⟨pb, ws, rfl, qb⟩ := asT_stay a2 ey
      refine ⟨pa, pb, vs, ws, rfl, .inr ⟨(qa mp1 H1 .refl).1, (qb mp1 H1 .refl).1, p1 _ mp1 H1 .refl r1 (it_zip ?_ qa qb)⟩⟩
      rw [(qa mp1 H1 .refl).2.length]
      exact sz pa vs (.inr (qa mp1 H1 .refl).1)
    · exact p1.elim
  · exact p1.elim
end
end Mi
namespace Mi
open PySem PySem.Spec L2
/-! ### list(zip(t, u)) of two tuples: the zip's tuple is held by the list -/
section
variable {prog : Program} {w : World} {A : Around} {E : Value → Shared → Prop} {s : Shared} {z TI TO T i1 i2 l1 l2 : Addr}
theorem zipH_item {f : Bool} {oT : Obj} {k1 k2 : Nat} {xs ys : Array Value} {x y : Value} {Q : Option Value → Shared → Prop} (Z : ZipApart z TI TO i1 i2 l1 l2)
    (hz : PySem.IsZipHeld s.heap z TI TO T f) (hT : s.heap.get? T = some oT) (hTI : IsPair s.heap TI (.ref i1) (.ref i2))
    (a1 : s.heap.IsTupleIter i1 l1 k1) (a2 : s.heap.IsTupleIter i2 l2 k2) (t1 : s.heap.IsTuple l1 xs) (t2 : s.heap.IsTuple l2 ys) (hx : xs[k1]? = some x) (hy : ys[k2]? = some y)
    (hQ : ∀ h', PySem.IsZipHeld h' z TI TO T true → h'.IsTupleIter i1 l1 (k1 + 1) → h'.IsTupleIter i2 l2 (k2 + 1) → IsPair h' s.heap.objs.size x y → h'.objs.size = s.heap.objs.size + 1 →
      (∀ c o, c ≠ z → c ≠ i1 → c ≠ i2 → s.heap.get? c = some o → h'.get? c = some o) → Q (some (.ref s.heap.objs.size)) { s with heap := h' }) :
    wpAny (model prog w) A (pyNext (.ref z)) Q E s := by
  have hTy : s.TypeIs (.ref z) "zip" := ⟨_, hz, rfl⟩
  unfold pyNext
  refine wpAny_bind (wpAny_attempt (wpAny_callSpecial?_slot (name := Str.ofString "__next__") hTy F.slot_zip_next (wpAny_call_entry F.slot_zip_next hTy F.entry_zip_next ?_ (F.args_zip_next_1 _))))
  show wpAny _ _ (field (.ref z) 2 >>= _) _ _ _
  refine wpAny_bind (wpAny_field hz rfl (x := .bool false) rfl ?_)
  show wpAny _ _ (field (.ref z) 3 >>= _) _ _ _
  refine wpAny_bind (wpAny_field hz rfl (x := .ref TI) rfl ?_)
  refine wpAny_bind (wpAny_seqItems hTI rfl ?_)
  show wpAny _ _ (Builtin.SmallTypes.ownedTupleIsFree (.ref z) >>= _) _ _ _
  refine wpAny_bind (PySem.wpAny_tupleHeld_zip hz hT fun g1 hz1 s1 => ?_)
  simp only [Bool.false_eq_true, if_false]
  refine wpAny_bind ?_
  rw [← Array.forIn_toList]
  simp only [List.forIn_cons, List.forIn_nil]
  refine wpAny_bind (wpAny_bind (wpAny_holding ?_))
  show wpAny _ _ (Builtin.SmallTypes.nextOf (.ref i1) >>= _) _ _ _
  refine wpAny_bind (wpAny_nextOf_tuple_item (s := { s with heap := g1 }) (a1.extBut s1.extBut Z.i1z) (t1.extBut s1.extBut Z.l1z) hx fun g2 b1 s2 => wpAny_pure ?_)
  refine wpAny_pure ?_
  refine wpAny_bind (wpAny_bind (wpAny_holding ?_))
  show wpAny _ _ (Builtin.SmallTypes.nextOf (.ref i2) >>= _) _ _ _
  refine wpAny_bind (wpAny_nextOf_tuple_item (s := { s with heap := g2 }) ((a2.extBut s1.extBut Z.i2z).extBut s2.extBut Z.i12.symm) ((t2.extBut s1.extBut Z.l2z).extBut s2.extBut Z.l2i1) hy fun g3 b2 s3 => wpAny_pure ?_)
  refine wpAny_pure (wpAny_pure ?_)
  show wpAny _ _ (newTuple [x, y] >>= _) _ _ _
  refine wpAny_bind (wpAny_newTuple ?_)
  have hsz : g3.objs.size = s.heap.objs.size := by rw [s3.1, s2.1, s1.1]
  have hz3 : PySem.IsZipHeld g3 z TI TO T true := s3.extBut _ _ Z.i2z.symm (s2.extBut _ _ Z.i1z.symm hz1)
  have hk : ∀ c o, c ≠ z → c ≠ i1 → c ≠ i2 → s.heap.get? c = some o → g3.get? c = some o := fun c o c1 c2 c3 e => s3.extBut _ _ c3 (s2.extBut _ _ c2 (s1.extBut _ _ c1 e))
  have b1' : g3.IsTupleIter i1 l1 (k1 + 1) := b1.extBut s3.extBut Z.i12
  refine wpAny_pure ⟨_, rfl, wpAny_pure ?_⟩
  show Q (some (.ref g3.objs.size)) _
  have hp : IsPair (g3.push { cls := .type "tuple", data := .seq #[x, y] }) g3.objs.size x y := Heap.get?_push_size _ rfl
  have hz4 : (g3.push { cls := .type "tuple", data := .seq #[x, y] }).objs.size = g3.objs.size + 1 := Heap.size_push ..
  rw [hsz] at hp hz4 ⊢
  exact hQ _ (Heap.get?_push_of_some _ hz3) (b1'.at fun o e => Heap.get?_push_of_some _ e) (b2.at fun o e => Heap.get?_push_of_some _ e) hp hz4 fun c o c1 c2 c3 e => Heap.get?_push_of_some _ (hk c o c1 c2 c3 e)
theorem zipH_end {f : Bool} {oT : Obj} {k1 k2 : Nat} {xs ys : Array Value} {Q : Option Value → Shared → Prop} (hh : A.handled = none) (Z : ZipApart z TI TO i1 i2 l1 l2)
    (hz : PySem.IsZipHeld s.heap z TI TO T f) (hT : s.heap.get? T = some oT) (hTI : IsPair s.heap TI (.ref i1) (.ref i2))
    (a1 : s.heap.IsTupleIter i1 l1 k1) (a2 : s.heap.IsTupleIter i2 l2 k2) (t1 : s.heap.IsTuple l1 xs) (t2 : s.heap.IsTuple l2 ys) (hend : xs[k1]? = none ∨ ys[k2]? = none)
    (hQ : ∀ h', (∀ c o, c ≠ z → c ≠ i1 → c ≠ i2 → s.heap.get? c = some o → h'.get? c = some o) → Q none { s with heap := h' }) : wpAny (model prog w) A (pyNext (.ref z)) Q E s := by
  have hTy : s.TypeIs (.ref z) "zip" := ⟨_, hz, rfl⟩
  unfold pyNext
  refine wpAny_bind (wpAny_attempt (wpAny_callSpecial?_slot (name := Str.ofString "__next__") hTy F.slot_zip_next (wpAny_call_entry F.slot_zip_next hTy F.entry_zip_next ?_ (F.args_zip_next_1 _))))
  show wpAny _ _ (field (.ref z) 2 >>= _) _ _ _
  refine wpAny_bind (wpAny_field hz rfl (x := .bool false) rfl ?_)
  show wpAny _ _ (field (.ref z) 3 >>= _) _ _ _
  refine wpAny_bind (wpAny_field hz rfl (x := .ref TI) rfl ?_)
  refine wpAny_bind (wpAny_seqItems hTI rfl ?_)
  show wpAny _ _ (Builtin.SmallTypes.ownedTupleIsFree (.ref z) >>= _) _ _ _
  refine wpAny_bind (PySem.wpAny_tupleHeld_zip hz hT fun g1 hz1 s1 => ?_)
  simp only [Bool.false_eq_true, if_false]
  refine wpAny_bind ?_
  rw [← Array.forIn_toList]
  simp only [List.forIn_cons, List.forIn_nil]
  refine wpAny_bind (wpAny_bind (wpAny_holding ?_))
  show wpAny _ _ (Builtin.SmallTypes.nextOf (.ref i1) >>= _) _ _ _
  cases hx : xs[k1]? with
  | none =>
    refine wpAny_bind (wpAny_nextOf_tuple_end (s := { s with heap := g1 }) hh (a1.extBut s1.extBut Z.i1z) (t1.extBut s1.extBut Z.l1z) hx fun g2 e s2 he => ?_)
    obtain ⟨o, ho, hc⟩ := he
    exact wpAny_bind (wpAny_isInstance (T := "StopIteration") (b := true) ⟨o, ho, hc⟩ isSubtype_stop (wpAny_pure (hQ _ fun c o c1 c2 _ x => s2 _ _ c2 (s1.extBut _ _ c1 x))))
  | some x =>
    have hy : ys[k2]? = none := by
      rcases hend with q | q
      · rw [hx] at q; cases q
      · exact q
    refine wpAny_bind (wpAny_nextOf_tuple_item (s := { s with heap := g1 }) (a1.extBut s1.extBut Z.i1z) (t1.extBut s1.extBut Z.l1z) hx fun g2 b1 s2 => wpAny_pure ?_)
    refine wpAny_pure ?_
    refine wpAny_bind (wpAny_bind (wpAny_holding ?_))
    show wpAny _ _ (Builtin.SmallTypes.nextOf (.ref i2) >>= _) _ _ _
    refine wpAny_bind (wpAny_nextOf_tuple_end (s := { s with heap := g2 }) hh ((a2.extBut s1.extBut Z.i2z).extBut s2.extBut Z.i12.symm) ((t2.extBut s1.extBut Z.l2z).extBut s2.extBut Z.l2i1) hy fun g3 e s3 he => ?_)
    obtain ⟨o, ho, hc⟩ := he
    exact wpAny_bind (wpAny_isInstance (T := "StopIteration") (b := true) ⟨o, ho, hc⟩ isSubtype_stop (wpAny_pure (hQ _ fun c o c1 c2 c3 x => s3 _ _ c3 (s2.extBut _ _ c2 (s1.extBut _ _ c1 x)))))
end
theorem farA {a b B : Addr} (h1 : a < B) (h2 : B ≤ b) : b ≠ a := fun e => Nat.lt_irrefl _ (Nat.lt_of_lt_of_le h1 (e ▸ h2))
/-- where the walk stands behind i items -/
structure ZS (h0 : Heap) (B z TI TO i1 i2 l1 l2 : Addr) (xs ys : Array Value) (i : Nat) (acc : Array Value) (h : Heap) : Prop where
  zp : (IsZip h z TI TO .none ∧ ∃ a b, IsPair h TO a b) ∨ ∃ T f oT, PySem.IsZipHeld h z TI TO T f ∧ h.get? T = some oT ∧ B ≤ T
  ti : IsPair h TI (.ref i1) (.ref i2)
  a1 : h.IsTupleIter i1 l1 i
  a2 : h.IsTupleIter i2 l2 i
  t1 : h.IsTuple l1 xs
  t2 : h.IsTuple l2 ys
  big : B ≤ h.objs.size
  new : ∃ Ts : List Addr, acc.toList = Ts.map Value.ref ∧ Ts.length = i ∧ Ts.Nodup ∧ (∀ T ∈ Ts, B ≤ T ∧ T < h.objs.size) ∧ ∀ (j : Nat) (T : Addr), Ts[j]? = some T → ∃ x y, xs[j]? = some x ∧ ys[j]? = some y ∧ IsPair h T x y
  keep : ∀ b o, h0.get? b = some o → h.get? b = some o
/-- what is left of it -/
def ZE (h0 : Heap) (B : Addr) (xs ys : Array Value) (acc : Array Value) (h : Heap) : Prop :=
  (∃ Ts : List Addr, acc.toList = Ts.map Value.ref ∧ Ts.length = min xs.size ys.size ∧ Ts.Nodup ∧ (∀ T ∈ Ts, B ≤ T) ∧ ∀ (j : Nat) (T : Addr), Ts[j]? = some T → ∃ x y, xs[j]? = some x ∧ ys[j]? = some y ∧ IsPair h T x y) ∧ ∀ b o, h0.get? b = some o → h.get? b = some o
section
variable {prog : Program} {w : World} {A : Around} {R : Result → Shared → Prop} {h0 : Heap} {B z TI TO i1 i2 l1 l2 S : Addr} {xs ys : Array Value} {res : Value}
theorem ZS.push {h : Heap} {i : Nat} {acc : Array Value} {x y : Value} {h' : Heap} (Z : ZS h0 B z TI TO i1 i2 l1 l2 xs ys i acc h) (lz : z < B) (lTO : TO < B) (li1 : i1 < B) (li2 : i2 < B) (o1 : ∀ b o, h0.get? b = some o → b ≠ z ∧ b ≠ TO ∧ b ≠ i1 ∧ b ≠ i2)
    (zp : (∃ T f oT, PySem.IsZipHeld h' z TI TO T f ∧ h'.get? T = some oT ∧ B ≤ T)) (D : ZipApart z TI TO i1 i2 l1 l2) (a1 : h'.IsTupleIter i1 l1 (i + 1)) (a2 : h'.IsTupleIter i2 l2 (i + 1)) (hx : xs[i]? = some x) (hy : ys[i]? = some y)
    (hp : IsPair h' h.objs.size x y) (hs : h'.objs.size = h.objs.size + 1) (hk : ∀ c o, c ≠ z → c ≠ TO → c ≠ i1 → c ≠ i2 → h.get? c = some o → h'.get? c = some o) : ZS h0 B z TI TO i1 i2 l1 l2 xs ys (i + 1) (acc.push (.ref h.objs.size)) h' := by
  obtain ⟨Ts, e1, e2, e3, e4, e5⟩ := Z.new
  have big := Z.big
  refine ⟨.inr zp, hk _ _ D.TIz D.TITO D.TIi1 D.TIi2 Z.ti, a1, a2, Z.t1.at fun o e => hk _ _ D.l1z D.l1TO D.l1i1 D.l1i2 e, Z.t2.at fun o e => hk _ _ D.l2z D.l2TO D.l2i1 D.l2i2 e, by rw [hs]; exact Nat.le_succ_of_le big, ⟨Ts ++ [h.objs.size], ?_, by simp [e2], ?_, ?_, ?_⟩, fun b o e => ?_⟩
  · rw [Array.toList_push, e1, List.map_append]; rfl
  · rw [List.nodup_append]
    refine ⟨e3, by simp, fun a ha b hb q => ?_⟩
    have := (e4 a ha).2
    have hb' : b = h.objs.size := by simpa using hb
    rw [q, hb'] at this
    exact Nat.lt_irrefl _ this
  · intro T hT
    rcases List.mem_append.mp hT with hT | hT
    · have := e4 T hT
      exact ⟨this.1, by rw [hs]; exact Nat.lt_succ_of_lt this.2⟩
    · have hb' : T = h.objs.size := by simpa using hT
      exact ⟨by rw [hb']; exact big, by rw [hb', hs]; exact Nat.lt_succ_self _⟩
  · intro j T hj
    by_cases hlt : j < Ts.length
    · rw [List.getElem?_append_left hlt] at hj
      obtain ⟨x', y', q1, q2, q3⟩ := e5 j T hj
      have := (e4 T (List.mem_of_getElem? hj)).1
      exact ⟨x', y', q1, q2, hk _ _ (farA lz this) (farA lTO this) (farA li1 this) (farA li2 this) q3⟩
    · have hj2 := (List.getElem?_eq_some_iff.mp hj).1
      rw [List.length_append, List.length_singleton] at hj2
      have hji : j = Ts.length := by omega
      subst hji
      rw [List.getElem?_append_right (Nat.le_refl _), Nat.sub_self] at hj
      have hT : h.objs.size = T := by simpa using hj
      subst hT
      rw [e2]
      exact ⟨x, y, hx, hy, hp⟩
  · obtain ⟨q1, q2, q3, q4⟩ := o1 b o e
    exact hk b o q1 q2 q3 q4 (Z.keep b o e)
theorem loopZ (hh : A.handled = none) (D : ZipApart z TI TO i1 i2 l1 l2) (lz : z < B) (lTO : TO < B) (li1 : i1 < B) (li2 : i2 < B) (lS : S < B) (sS : S ≠ z ∧ S ≠ TO ∧ S ≠ i1 ∧ S ≠ i2 ∧ S ≠ TI ∧ S ≠ l1 ∧ S ≠ l2) (o1 : ∀ b o, h0.get? b = some o → b ≠ z ∧ b ≠ TO ∧ b ≠ i1 ∧ b ≠ i2 ∧ b ≠ S) (hn : min xs.size ys.size ≤ sizeLine) :
    ∀ (k i : Nat) (s : Shared) (acc : Array Value) (c : Nat), min xs.size ys.size - i = k → i ≤ min xs.size ys.size → ZS h0 B z TI TO i1 i2 l1 l2 xs ys i acc s.heap → s.heap.get? S = some { cls := .type "list", dict := none, data := .seq acc c, slots := #[] } →
    (∀ h' acc' c', ZE h0 B xs ys acc' h' → h'.get? S = some { cls := .type "list", dict := none, data := .seq acc' c', slots := #[] } → R (.ok (.ret res)) { s with heap := h' }) →
    codeAny (model prog w) A (.builtin "list.extend.loop" ⟨[.ref S, .ref z, res], []⟩) R s := by
  intro k
  induction k with
  | zero =>
    intro i s acc c hk hi Z hS hR
    have hin : i = min xs.size ys.size := by omega
    refine codeAny_builtin F.entry_extend_loop ?_
    rw [Around.under_plainId F.plain_extend_loop _]
    show wpAny _ A.in1 (pyNext (.ref z) >>= _) _ _ s
    have hend : xs[i]? = none ∨ ys[i]? = none := by
      rw [Array.getElem?_eq_none_iff, Array.getElem?_eq_none_iff]
      omega
    have fin : ∀ h', (∀ c o, c ≠ z → c ≠ TO → c ≠ i1 → c ≠ i2 → s.heap.get? c = some o → h'.get? c = some o) → R (.ok (.ret res)) { s with heap := h' } := fun h' kp => by
      obtain ⟨Ts, e1, e2, e3, e4, e5⟩ := Z.new
      refine hR h' acc c ⟨⟨Ts, e1, by omega, e3, fun T hT => (e4 T hT).1, fun j T hj => ?_⟩, fun b o e => ?_⟩ (kp _ _ sS.1 sS.2.1 sS.2.2.1 sS.2.2.2.1 hS)
      · obtain ⟨x, y, q1, q2, q3⟩ := e5 j T hj
        have := (e4 T (List.mem_of_getElem? hj)).1
        exact ⟨x, y, q1, q2, kp _ _ (farA lz this) (farA lTO this) (farA li1 this) (farA li2 this) q3⟩
      · obtain ⟨q1, q2, q3, q4, _⟩ := o1 b o e
        exact kp b o q1 q2 q3 q4 (Z.keep b o e)
    refine wpAny_bind ?_
    rcases Z.zp with ⟨zf, a, b, po⟩ | ⟨T, f, oT, zh, hT, _⟩
    · exact RZ.pyNext_zipT_end (A := A.in1) hh D zf Z.ti po Z.a1 Z.a2 Z.t1 Z.t2 hend fun h' kp => wpAny_pure (fin h' kp)
    · exact zipH_end (A := A.in1) hh D zh hT Z.ti Z.a1 Z.a2 Z.t1 Z.t2 hend fun h' kp => wpAny_pure (fin h' fun c o c1 _ c3 c4 => kp c o c1 c3 c4)
  | succ k ih =>
    intro i s acc c hk hi Z hS hR
    have hlt : i < min xs.size ys.size := by omega
    have hx : xs[i]? = some (xs[i]'(by omega)) := Array.getElem?_eq_getElem _
    have hy : ys[i]? = some (ys[i]'(by omega)) := Array.getElem?_eq_getElem _
    refine codeAny_builtin F.entry_extend_loop ?_
    rw [Around.under_plainId F.plain_extend_loop _]
    show wpAny _ A.in1 (pyNext (.ref z) >>= _) _ _ s
    have hasz : acc.size = i := by
      obtain ⟨Ts, e1, e2, _⟩ := Z.new
      rw [← Array.length_toList, e1, List.length_map, e2]
    have big := Z.big
    have go : ∀ h', (∃ T f oT, PySem.IsZipHeld h' z TI TO T f ∧ h'.get? T = some oT ∧ B ≤ T) → h'.IsTupleIter i1 l1 (i + 1) → h'.IsTupleIter i2 l2 (i + 1) → IsPair h' s.heap.objs.size (xs[i]'(by omega)) (ys[i]'(by omega)) → h'.objs.size = s.heap.objs.size + 1 →
        (∀ c o, c ≠ z → c ≠ TO → c ≠ i1 → c ≠ i2 → s.heap.get? c = some o → h'.get? c = some o) →
        wpAny (model prog w) A.in1 (updateSeq S (·.push (.ref s.heap.objs.size)) >>= fun _ => again (.builtin "list.extend.loop" ⟨[.ref S, .ref z, res], []⟩)) (fun fin s' => match fin with | .done f => R (.ok f) s' | .again c' => c'.quiet = true ∧ codeAny (model prog w) A c' R s') (fun e s' => R (.error e) s') { s with heap := h' } := by
      intro h' zp b1 b2 hp hs kp
      have Z2 := Z.push lz lTO li1 li2 (fun b o e => ⟨(o1 b o e).1, (o1 b o e).2.1, (o1 b o e).2.2.1, (o1 b o e).2.2.2.1⟩) zp D b1 b2 hx hy hp hs kp
      have hS' := kp _ _ sS.1 sS.2.1 sS.2.2.1 sS.2.2.2.1 hS
      refine wpAny_bind ?_
      have oth : ∀ b o, b ≠ S → h'.get? b = some o → (h'.update S (Obj.mapSeq (·.push (.ref s.heap.objs.size)))).get? b = some o := fun b o hb e => (Heap.get?_update_other _ _ (Ne.symm hb)).trans e
      refine wpAny_updateSeq (s := { s with heap := h' }) hS' rfl (wpAny_pure ⟨plainId_quiet F.plain_extend_loop _, ih (i + 1) _ (acc.push (.ref s.heap.objs.size)) _ (by omega) (by omega) ?_ (Heap.get?_update_self _ hS' rfl) fun h2 acc2 c2 z1 z2 => hR h2 acc2 c2 z1 z2⟩)
        (by rw [hasz]; omega) (by show (acc.push _).size ≤ sizeLine + 1; rw [Array.size_push, hasz]; omega)
      obtain ⟨Ts, e1, e2, e3, e4, e5⟩ := Z2.new
      refine ⟨Z2.zp.imp (fun ⟨q1, a, b, q2⟩ => ⟨oth _ _ (Ne.symm sS.1) q1, a, b, oth _ _ (Ne.symm sS.2.1) q2⟩) (fun ⟨T, f, oT, q1, q2, q3⟩ => ⟨T, f, oT, oth _ _ (Ne.symm sS.1) q1, oth _ _ (farA lS q3) q2, q3⟩), oth _ _ (Ne.symm sS.2.2.2.2.1) Z2.ti, Z2.a1.at fun o e => oth _ _ (Ne.symm sS.2.2.1) e, Z2.a2.at fun o e => oth _ _ (Ne.symm sS.2.2.2.1) e,
        Z2.t1.at fun o e => oth _ _ (Ne.symm sS.2.2.2.2.2.1) e, Z2.t2.at fun o e => oth _ _ (Ne.symm sS.2.2.2.2.2.2) e, ?_, ⟨Ts, e1, e2, e3, fun T hT => ⟨(e4 T hT).1, ?_⟩, fun j T hj => ?_⟩, fun b o e => oth _ _ (o1 b o e).2.2.2.2 (Z2.keep b o e)⟩
      · show B ≤ (h'.update S _).objs.size
        rw [Heap.size_update]; exact Z2.big
      · show T < (h'.update S _).objs.size
        rw [Heap.size_update]; exact (e4 T hT).2
      · obtain ⟨x, y, q1, q2, q3⟩ := e5 j T hj
        have := (e4 T (List.mem_of_getElem? hj)).1
        exact ⟨x, y, q1, q2, oth _ _ (farA lS this) q3⟩
    refine wpAny_bind ?_
    rcases Z.zp with ⟨zf, a, b, po⟩ | ⟨T, f, oT, zh, hT, hB⟩
    · refine RZ.pyNext_zipT_item (A := A.in1) D zf Z.ti po Z.a1 Z.a2 Z.t1 Z.t2 hx hy fun h' g1 g2 g3 g4 g5 g6 g7 => ?_
      exact go h' ⟨s.heap.objs.size, false, _, g1, g5, big⟩ g3 g4 g5 g6 g7
    · refine zipH_item (A := A.in1) D zh hT Z.ti Z.a1 Z.a2 Z.t1 Z.t2 hx hy fun h' g1 g3 g4 g5 g6 g7 => ?_
      exact go h' ⟨T, true, oT, g1, g7 _ _ (farA lz hB) (farA li1 hB) (farA li2 hB) hT, hB⟩ g3 g4 g5 g6 fun c o c1 _ c3 c4 => g7 c o c1 c3 c4
end
theorem zip_no_len : typeLookup (.type "zip") "__len__" = pure none := by rw [typeLookup_type, builtinLookup_eq_fast]; kernel_rfl
theorem zip_no_hint : typeLookup (.type "zip") "__length_hint__" = pure none := by rw [typeLookup_type, builtinLookup_eq_fast]; kernel_rfl
theorem ZS.upd {h0 : Heap} {B z TI TO i1 i2 l1 l2 S : Addr} {xs ys : Array Value} {h h' : Heap} (Z : ZS h0 B z TI TO i1 i2 l1 l2 xs ys 0 #[] h) (zf : IsZip h z TI TO .none ∧ ∃ a b, IsPair h TO a b) (sS : S ≠ z ∧ S ≠ TO ∧ S ≠ i1 ∧ S ≠ i2 ∧ S ≠ TI ∧ S ≠ l1 ∧ S ≠ l2) (o1 : ∀ b o, h0.get? b = some o → b ≠ S)
    (oth : ∀ b o, b ≠ S → h.get? b = some o → h'.get? b = some o) (hs : h'.objs.size = h.objs.size) : ZS h0 B z TI TO i1 i2 l1 l2 xs ys 0 #[] h' ∧ (IsZip h' z TI TO .none ∧ ∃ a b, IsPair h' TO a b) := by
  obtain ⟨q1, a, b, q2⟩ := zf
  have zf' : IsZip h' z TI TO .none ∧ ∃ a b, IsPair h' TO a b := ⟨oth _ _ (Ne.symm sS.1) q1, a, b, oth _ _ (Ne.symm sS.2.1) q2⟩
  refine ⟨⟨.inl zf', oth _ _ (Ne.symm sS.2.2.2.2.1) Z.ti, Z.a1.at fun o e => oth _ _ (Ne.symm sS.2.2.1) e, Z.a2.at fun o e => oth _ _ (Ne.symm sS.2.2.2.1) e, Z.t1.at fun o e => oth _ _ (Ne.symm sS.2.2.2.2.2.1) e, Z.t2.at fun o e => oth _ _ (Ne.symm sS.2.2.2.2.2.2) e, by rw [hs]; exact Z.big,
    ⟨[], rfl, rfl, List.nodup_nil, by simp, by simp⟩, fun b o e => oth _ _ (o1 b o e) (Z.keep b o e)⟩, zf'⟩
section
variable {prog : Program} {w : World} {A : Around} {E : Value → Shared → Prop} {s : Shared} {h0 : Heap} {z TI TO i1 i2 l1 l2 : Addr} {xs ys : Array Value}
theorem call_list_zip {Q : Value → Shared → Prop} {a b : Value} (hh : A.handled = none) (D : ZipApart z TI TO i1 i2 l1 l2) (hz : IsZip s.heap z TI TO .none) (hTO : IsPair s.heap TO a b) (hTI : IsPair s.heap TI (.ref i1) (.ref i2))
    (a1 : s.heap.IsTupleIter i1 l1 0) (a2 : s.heap.IsTupleIter i2 l2 0) (t1 : s.heap.IsTuple l1 xs) (t2 : s.heap.IsTuple l2 ys) (keep : ∀ b o, h0.get? b = some o → s.heap.get? b = some o) (o1 : ∀ b o, h0.get? b = some o → b ≠ z ∧ b ≠ TO ∧ b ≠ i1 ∧ b ≠ i2) (hn : min xs.size ys.size ≤ sizeLine)
    (hQ : ∀ h' acc c, ZE h0 (s.heap.objs.size + 1) xs ys acc h' → h'.get? s.heap.objs.size = some { cls := .type "list", dict := none, data := .seq acc c, slots := #[] } → Q (.ref s.heap.objs.size) { s with heap := h' }) :
    wpAny (model prog w) A (call (.type "list") [.ref z]) Q E s := by
  have lt : ∀ {b : Addr} {o : Obj}, s.heap.get? b = some o → s.heap.objs.size ≠ b := fun e => Ne.symm (Nat.ne_of_lt (Heap.lt_size e))
  have lt1 : ∀ {b : Addr} {o : Obj}, s.heap.get? b = some o → b < s.heap.objs.size + 1 := fun e => Nat.lt_succ_of_lt (Heap.lt_size e)
  obtain ⟨u1, v1, _⟩ := id a1
  obtain ⟨u2, v2, _⟩ := id a2
  obtain ⟨u3, v3, _⟩ := id t1
  obtain ⟨u4, v4, _⟩ := id t2
  have sS : s.heap.objs.size ≠ z ∧ s.heap.objs.size ≠ TO ∧ s.heap.objs.size ≠ i1 ∧ s.heap.objs.size ≠ i2 ∧ s.heap.objs.size ≠ TI ∧ s.heap.objs.size ≠ l1 ∧ s.heap.objs.size ≠ l2 := ⟨lt hz, lt hTO, lt v1, lt v2, lt hTI, lt v3, lt v4⟩
  have o2 : ∀ b o, h0.get? b = some o → b ≠ s.heap.objs.size := fun b o e => Ne.symm (lt (keep b o e))
  refine callType_codes (Q₁ := fun obj s₁ => obj = .ref s.heap.objs.size ∧ s₁ = { s with heap := s.heap.push { cls := .type "list", data := .seq #[] } }) F.called_list (F.typeCall_list_1 _) F.entry_list_init (code_list_new _ ⟨rfl, rfl⟩) fun obj s₁ q => ?_
  obtain ⟨rfl, rfl⟩ := q
  have hS : (s.heap.push { cls := .type "list", data := .seq #[] }).get? s.heap.objs.size = some { cls := .type "list", data := .seq #[] } := Heap.get?_push_size _ rfl
  have zf : IsZip (s.heap.push { cls := .type "list", data := .seq #[] }) z TI TO .none ∧ ∃ a b, IsPair (s.heap.push { cls := .type "list", data := .seq #[] }) TO a b := ⟨Heap.get?_push_of_some _ hz, a, b, Heap.get?_push_of_some _ hTO⟩
  have Z : ZS h0 (s.heap.objs.size + 1) z TI TO i1 i2 l1 l2 xs ys 0 #[] (s.heap.push { cls := .type "list", data := .seq #[] }) := ⟨.inl zf, Heap.get?_push_of_some _ hTI, a1.at fun o e => Heap.get?_push_of_some _ e, a2.at fun o e => Heap.get?_push_of_some _ e, t1.at fun o e => Heap.get?_push_of_some _ e, t2.at fun o e => Heap.get?_push_of_some _ e, by rw [Heap.size_push]; exact Nat.le_refl _, ⟨[], rfl, rfl, List.nodup_nil, by simp, by simp⟩, fun b o e => Heap.get?_push_of_some _ (keep b o e)⟩
  refine ⟨⟨_, hS, rfl⟩, F.args_list_init_2 _ _, ?_⟩
  show wpAny _ A.in1.in1 (do let old ← Builtin.List.listItems (.ref s.heap.objs.size); Builtin.List.listUpdate (.ref s.heap.objs.size) (fun _ => #[]); letGo old.toList.reverse; Builtin.List.listExtendWith (.ref s.heap.objs.size) (.ref z) .none) _ _ _
  refine wpAny_bind ?_
  unfold Builtin.List.listItems
  refine wpAny_bind (wpAny_seqItems hS rfl (wpAny_pure ?_))
  show wpAny _ A.in1.in1 (updateSeq s.heap.objs.size (fun _ => #[]) >>= fun _ => letGo (#[] : Array Value).toList.reverse >>= fun _ => Builtin.List.listExtendWith (.ref s.heap.objs.size) (.ref z) .none) _ _ _
  refine wpAny_bind (wpAny_updateSeq hS rfl ?_)
  have hS2 := Heap.get?_update_self (Obj.mapSeq (fun _ => (#[] : Array Value))) hS rfl
  obtain ⟨Z2, zf2⟩ := Z.upd zf sS o2 (h' := (s.heap.push { cls := .type "list", data := .seq #[] }).update s.heap.objs.size (Obj.mapSeq (fun _ => (#[] : Array Value)))) (fun b o hb e => (Heap.get?_update_other _ _ (Ne.symm hb)).trans e) (Heap.size_update ..)
  refine wpAny_bind (wpAny_letGo ?_)
  unfold Builtin.List.listExtendWith
  have hT : ∀ h : Heap, IsZip h z TI TO .none → ({ s with heap := h } : Shared).TypeIs (.ref z) "zip" := fun h e => ⟨_, e, rfl⟩
  refine wpAny_bind (wpAny_typeOf (hT _ zf2.1) ?_)
  have h1 : Builtin.List.listSameRef (.ref s.heap.objs.size) (.ref z) = false := by simp [Builtin.List.listSameRef, sS.1]
  have h2 : (Value.type "zip" == Value.type "list") = false := by decide
  have h3 : (Value.type "zip" == Value.type "tuple") = false := by decide
  simp only [h1, h2, h3, Bool.or_false, Bool.false_eq_true, if_false]
  refine wpAny_bind (wpAny_pyIter_zip zf2.1 ?_)
  refine wpAny_bind (wpAny_holding ?_)
  unfold Builtin.List.listLengthHint
  refine wpAny_bind (wpAny_specialOf (hT _ zf2.1) zip_no_len ?_)
  show wpAny _ A.in1.in1 (specialOf (Value.ref z) (Str.ofString "__length_hint__") >>= _) _ _ _
  refine wpAny_bind (wpAny_specialOf (hT _ zf2.1) zip_no_hint ?_)
  refine wpAny_pure ?_
  show wpAny _ A.in1.in1 (rule "list.extend.makes-room" >>= fun _ => Builtin.List.listTouch (.ref s.heap.objs.size) >>= fun _ => again (.builtin "list.extend.loop" ⟨[.ref s.heap.objs.size, .ref z, .none], []⟩)) _ _ _
  refine wpAny_bind (wpAny_rule ?_)
  refine wpAny_bind ?_
  show wpAny _ A.in1.in1 (updateSeq s.heap.objs.size (·.push .none) >>= fun _ => updateSeq s.heap.objs.size (·.pop)) _ _ _
  refine wpAny_bind (wpAny_updateSeq hS2 rfl ?_)
  have hS3 := Heap.get?_update_self (Obj.mapSeq (·.push Value.none)) hS2 rfl
  obtain ⟨Z3, zf3⟩ := Z2.upd zf2 sS o2 (h' := Heap.update _ s.heap.objs.size (Obj.mapSeq (·.push Value.none))) (fun b o hb e => (Heap.get?_update_other _ _ (Ne.symm hb)).trans e) (Heap.size_update ..)
  refine wpAny_updateSeq (hz := by seq_fits) hS3 rfl ?_
  have hS4 := Heap.get?_update_self (Obj.mapSeq (·.pop)) hS3 rfl
  obtain ⟨Z4, zf4⟩ := Z3.upd zf3 sS o2 (h' := Heap.update _ s.heap.objs.size (Obj.mapSeq (·.pop))) (fun b o hb e => (Heap.get?_update_other _ _ (Ne.symm hb)).trans e) (Heap.size_update ..)
  refine wpAny_pure ⟨plainId_quiet F.plain_extend_loop _, loopZ (A := A.in1) (S := s.heap.objs.size) (B := s.heap.objs.size + 1) hh D (lt1 hz) (lt1 hTO) (lt1 v1) (lt1 v2) (Nat.lt_succ_self _) sS (fun b o e => ⟨(o1 b o e).1, (o1 b o e).2.1, (o1 b o e).2.2.1, (o1 b o e).2.2.2, o2 b o e⟩) hn _ 0 _ _ _ rfl (Nat.zero_le _) Z4 hS4 fun h' acc c ze hS' => ?_⟩
  exact ⟨rfl, hQ h' acc c ze hS'⟩
end
end Mi
namespace Mi
open PySem PySem.Spec L2
theorem RpAll.of_get {K : PySem.W.Frag} {mp : Wd} {H : Hp} : ∀ {ds : List D} {vs : List V}, ds.length = vs.length → (∀ (j : Nat) (d : D) (v : V), ds[j]? = some d → vs[j]? = some v → Rp K mp H d v) → RpAll K mp H ds vs
  | [], [], _, _ => .nil
  | d :: ds, v :: vs, l, k => .cons (k 0 d v rfl rfl) (RpAll.of_get (by simpa using l) fun j d' v' a b => k (j + 1) d' v' (by simpa using a) (by simpa using b))
  | [], _ :: _, l, _ => by simp at l
  | _ :: _, [], l, _ => by simp at l
noncomputable def mListZip (f : Ev (List D)) : Ev D := fun ρ h => (f ρ h).bind fun ds h1 => match ds with
  | [d, d'] => (match asT d, asT d' with
    | some xs, some ys => .ok (.lst (zipD xs ys)) h1
    | _, _ => .bad)
  | _ => .bad
section
variable {X : Cx} {W : WX} {e e2 : Expr} {p p2 pos pos2 : Pos} {f : Ev (List D)}
theorem se_listZip (hc : X.calm = true) (ha : SA X W [e, e2] f) (hmz : X.mg "zip" = none) (hml : X.mg "list" = none) (hgz : Gl X "zip" := by rfl) (hgl : Gl X "list" := by rfl)
    (hs : starEach [e, e2] X.env = (false, eval e X.env) :: starEach [e2] X.env := by rfl) (hpl : (backTo pos2 (starEach [e2] X.env)).any (·.1) = false := by rfl)
    (na : starEach [.Call (.Name "zip" p2) [e, e2] [] pos2] X.env = (false, eval (.Call (.Name "zip" p2) [e, e2] [] pos2) X.env) :: starEach [] X.env := by rfl) :
    SE X W (.Call (.Name "list" p) [.Call (.Name "zip" p2) [e, e2] [] pos2] [] pos) (mListZip f) := by
  refine ⟨fun pins s σ H Q I ⟨ρ, h, mp, r, en, t⟩ => ?_⟩
  refine PyProof.Rows.Call_ (ld_blt I hgl hml PyProof.Rows.boot_list (PyProof.Rows.callWith_type1 (PyProof.Rows.args_cons ?_ na) na))
  refine PyProof.Rows.Call_ (ld_blt I hgz hmz PyProof.Rows.boot_zip (PyProof.Rows.callWith_type1 (thn (ha.run pos2 pins s σ H _ I ⟨ρ, h, mp, r, en, Post.bind (R := rA X.K) t⟩) fun us s1 ⟨vs, H1, I1, r1, ⟨mp1, h1, ds, le1, rel1, q1, p1⟩⟩ => ?_) hs hpl))
  dsimp only at p1
  split at p1
  · rename_i d d'
    split at p1
    · rename_i xs ys ex ey
      obtain ⟨v, w, rfl, b1, b2⟩ := q1.two
      obtain ⟨pa, va, rfl, hsa, ra⟩ := asT_ok b1 ex
      obtain ⟨pb, vb, rfl, hsb, rb⟩ := asT_ok b2 ey
      obtain ⟨u1, u2, rfl, e1, e3⟩ := Vals.two r1
      cases e1; cases e3
      obtain ⟨ia, rva, pla, hza⟩ := I1.tuple hsa
      obtain ⟨ib, rvb, plb, hzb⟩ := I1.tuple hsb
      refine RZ.call_zipT (show s1.heap.IsTuple pa ia.toArray from pla) (show s1.heap.IsTuple pb ib.toArray from plb) fun h' hz hTI hTO a1 a2 hsz hk => PyProof.Rows.args_nil ?_
      obtain ⟨oa, hoa, _⟩ := id pla
      obtain ⟨ob, hob, _⟩ := id plb
      have lt5 : ∀ (b : Addr) (o : Obj) (k : Nat), s1.heap.get? b = some o → b ≠ s1.heap.objs.size + k := fun b o k e => Nat.ne_of_lt (Nat.lt_of_lt_of_le (Heap.lt_size e) (Nat.le_add_right _ _))
      refine call_list_zip (s := { s1 with heap := h' }) (h0 := s1.heap) (A := X.A) (I1.ok.hd hc) (PySem.W.ktu_apart s1.heap.objs.size pa pb (Heap.lt_size hoa) (Heap.lt_size hob)) hz hTO hTI a1 a2
        ((show s1.heap.IsTuple pa ia.toArray from pla).at fun o e => hk _ _ e) ((show s1.heap.IsTuple pb ib.toArray from plb).at fun o e => hk _ _ e) hk (fun b o e => ⟨lt5 b o 4 e, lt5 b o 3 e, lt5 b o 0 e, lt5 b o 1 e⟩) ?_ fun h2 acc c ze hL => ?_
      · have : ia.toArray.size = va.length := by rw [List.size_toArray]; exact rva.length.symm
        rw [this]; omega
      · obtain ⟨⟨Ts, g1, g2, g3, g4, g5⟩, kp⟩ := ze
        have hla : ia.length = va.length := rva.length.symm
        have hlb : ib.length = vb.length := rvb.length.symm
        have g2' : Ts.length = min va.length vb.length := by rw [g2, List.size_toArray, List.size_toArray, hla, hlb]
        have lz : ((va.zip vb).map fun q : V × V => [q.1, q.2]).length = Ts.length := by rw [List.length_map, List.length_zip, g2']
        have fst : (Ts.zip ((va.zip vb).map fun q : V × V => [q.1, q.2])).map (·.1) = Ts := List.map_fst_zip (by rw [lz]; exact Nat.le_refl _)
        have hb5 : ∀ T ∈ Ts, s1.heap.objs.size ≤ T := fun T hT => Nat.le_trans (by show s1.heap.objs.size ≤ h'.objs.size + 1; rw [hsz]; omega) (g4 T hT)
        have at_ : ∀ (j : Nat) (T : Addr), Ts[j]? = some T → ∃ x y u w, va[j]? = some x ∧ vb[j]? = some y ∧ RelV x u ∧ RelV y w ∧ IsPair h2 T u w := fun j T hj => by
          obtain ⟨u, w, k1, k2, k3⟩ := g5 j T hj
          obtain ⟨x, k4, k5⟩ := vals_at rva (show ia[j]? = some u by simpa using k1)
          obtain ⟨y, k6, k7⟩ := vals_at rvb (show ib[j]? = some w by simpa using k2)
          exact ⟨x, y, u, w, k4, k6, k5, k7, k3⟩
        have hL0 : s1.heap.objs.size ≤ h'.objs.size := by rw [hsz]; exact Nat.le_add_right _ _
        have eL : acc = (Ts.map Value.ref).toArray := by rw [← g1]
        have vr : Vals (Ts.map V.ref) (Ts.map Value.ref) := by
          clear g1 g2 g3 g4 g5 g2' lz fst hb5 at_ eL
          induction Ts with
          | nil => exact .nil
          | cons T Ts ih => exact .cons rfl ih
        obtain ⟨J, sm⟩ := laid_tups (tk := s1.toks) I1 kp (Ts.zip ((va.zip vb).map fun q : V × V => [q.1, q.2])) (by rw [fst]; exact g3) (fun q hq => by
          obtain ⟨j, hj⟩ := List.mem_iff_getElem?.mp hq
          rw [List.getElem?_zip_eq_some] at hj
          obtain ⟨x, y, u, w, k1, k2, k3, k4, k5⟩ := at_ j q.1 hj.1
          have : ((va.zip vb).map fun q : V × V => [q.1, q.2])[j]? = some [x, y] := by
            rw [List.getElem?_map, Option.map_eq_some_iff]
            exact ⟨(x, y), List.getElem?_zip_eq_some.mpr ⟨k1, k2⟩, rfl⟩
          rw [this] at hj
          have e5 : [x, y] = q.2 := Option.some.inj hj.2
          refine ⟨hb5 _ (List.mem_of_getElem? hj.1), by rw [← e5]; show 2 ≤ sizeLine; decide, [u, w], by rw [← e5]; exact .cons k3 (.cons k4 .nil), ⟨_, k5, rfl, _, rfl⟩⟩)
          (L := h'.objs.size) (out := Ts.map V.ref) (its := Ts.map Value.ref) (n := c) hL0 (by
            rw [fst]
            exact fun q => Nat.lt_irrefl _ (Nat.lt_of_lt_of_le (Nat.lt_succ_self _) (g4 _ q))) (by rw [← eL]; exact hL) vr (by rw [List.length_map, g2']; omega)
        refine ⟨.ref h'.objs.size, _, J, rfl, p1 _ mp1 _ (le_same rel1 sm) (rel1.same sm) ?_⟩
        have frL : H1 h'.objs.size = none := I1.hok.fresh hL0
        have nL : h'.objs.size ∉ Ts := fun q => Nat.lt_irrefl _ (Nat.lt_of_lt_of_le (Nat.lt_succ_self _) (g4 _ q))
        refine .lst (vs := Ts.map V.ref) ?_ (rel1.fresh frL) (RpAll.of_get ?_ fun j dd vv q1 q2 => ?_)
        · rw [putTs_off _ _ (by rw [fst]; exact nL), upd_same]
        · rw [zipD_len, List.length_map, g2', ra.length, rb.length]
        · obtain ⟨x, y, z1, z2, rfl⟩ := zipD_at q1
          rw [List.getElem?_map, Option.map_eq_some_iff] at q2
          obtain ⟨T, hT, rfl⟩ := q2
          obtain ⟨vx, vy, u, w, k1, k2, k3, k4, k5⟩ := at_ j T hT
          obtain ⟨vx', m1, m2⟩ := ra.get z1
          rw [k1] at m1; cases m1
          obtain ⟨vy', m3, m4⟩ := rb.get z2
          rw [k2] at m3; cases m3
          have le := le_same rel1 sm
          refine .tup (vs := [vx, vy]) ?_ (rel1.fresh (I1.hok.fresh (hb5 T (List.mem_of_getElem? hT)))) (.cons (m2.mono le) (.cons (m4.mono le) .nil))
          refine putTs_at _ _ (by rw [fst]; exact g3) (T, [vx, vy]) (List.mem_iff_getElem?.mpr ⟨j, List.getElem?_zip_eq_some.mpr ⟨hT, ?_⟩⟩)
          rw [List.getElem?_map, Option.map_eq_some_iff]
          exact ⟨(vx, vy), List.getElem?_zip_eq_some.mpr ⟨k1, k2⟩, rfl⟩
    · exact p1.elim
  · exact p1.elim
end
end Mi
namespace Mi
open PySem PySem.Spec L2
def gMulA (x y : D) (h : Hq) : Option (D × Hq) := match x, y with
  | .tup xs, .int k => if xs ≠ [] ∧ 2 ≤ k ∧ k ≤ 1000 ∧ xs.length ≤ 1000 then some (.tup (List.replicate k.toNat xs).flatten, h) else none
  | x, y => gMul x y h
/-- list + list, to be changed -/
def gAddR (x y : D) (h : Hq) : Option (D × Hq) := match asL h x, asL h y with
  | some i, some j => if i.length + j.length ≤ sizeLine then some (.ref h.length, h ++ [.lst (i ++ j)]) else none
  | _, _ => none
def gIs2 (x y : D) (h : Hq) : Option (D × Hq) := match x, y with
  | .bl a, .bl b => some (.bl (decide (a = b)), h)
  | x, y => gIs x y h
def gIsNot2 (x y : D) (h : Hq) : Option (D × Hq) := match x, y with
  | .bl a, .bl b => some (.bl (!decide (a = b)), h)
  | x, y => gIsNot x y h
theorem RpAll.rep {K : PySem.W.Frag} {mp : Wd} {H : Hp} {xs : List D} {vs : List V} (a : RpAll K mp H xs vs) : ∀ k : Nat, RpAll K mp H (List.replicate k xs).flatten (List.replicate k vs).flatten
  | 0 => .nil
  | k + 1 => by
    rw [List.replicate_succ, List.replicate_succ, List.flatten_cons, List.flatten_cons]
    exact a.append (a.rep k)
section
variable {X : Cx}
theorem o2_mulA : O2 X (binaryOp .Mult) gMulA := by
  intro pins s σ H x y v u Q I rx ry ⟨mp, h, dx, dy, r, ax, ay, p⟩
  unfold gMulA at p
  split at p
  · split at p
    · rename_i xs k hz
      obtain ⟨z1, z2, z3, z4⟩ := hz
      cases ax with
      | @tup a vs _ h1 n1 q1 =>
        cases ay
        refine op_repT pins s σ H _ _ v u Q I rx ry ⟨a, k, vs, rfl, rfl, SqT.of h1, fun e => z1 ?_, z2, z3, by rw [← q1.length]; exact z4, fun q hq => ?_⟩
        · subst e; cases q1; rfl
        · obtain ⟨l1, l2, l3⟩ := newT r hq (q1.rep k.toNat)
          exact p _ mp _ l1 l2 l3
    · exact p.elim
  · exact o2_mul pins s σ H x y v u Q I rx ry ⟨mp, h, _, _, r, ax, ay, p⟩
theorem o2_addR : O2 X (binaryOp .Add) gAddR := by
  intro pins s σ H x y v u Q I rx ry ⟨mp, h, dx, dy, r, ax, ay, p⟩
  unfold gAddR at p
  split at p
  · rename_i i j e1 e2
    split at p
    · rename_i hz
      obtain ⟨pa, vs, rfl, h1, q1⟩ := asL_ok r ax e1
      obtain ⟨pb, ws, rfl, h2, q2⟩ := asL_ok r ay e2
      refine op_cat pins s σ H _ _ v u Q I rx ry ⟨pa, pb, vs, ws, rfl, rfl, h1, h2, by rw [← q1.length, ← q2.length]; exact hz, fun p' hp => ?_⟩
      obtain ⟨l1, l2, l3⟩ := newLR r hp (q1.append q2)
      exact p _ _ _ l1 l2 l3
    · exact p.elim
  · exact p.elim
theorem o2_is2 : O2 X (compareOp .Is) gIs2 := by
  intro pins s σ H x y v u Q I rx ry ⟨mp, h, dx, dy, r, ax, ay, p⟩
  unfold gIs2 at p
  split at p
  · cases ax; cases ay
    exact op_is_bl pins s σ H _ _ v u Q I rx ry ⟨_, _, rfl, rfl, p _ mp H .refl r (.bl _)⟩
  · exact o2_is pins s σ H x y v u Q I rx ry ⟨mp, h, _, _, r, ax, ay, p⟩
theorem o2_isnot2 : O2 X (compareOp .IsNot) gIsNot2 := by
  intro pins s σ H x y v u Q I rx ry ⟨mp, h, dx, dy, r, ax, ay, p⟩
  unfold gIsNot2 at p
  split at p
  · cases ax; cases ay
    exact op_isnot_bl pins s σ H _ _ v u Q I rx ry ⟨_, _, rfl, rfl, p _ mp H .refl r (.bl _)⟩
  · exact o2_isnot pins s σ H x y v u Q I rx ry ⟨mp, h, _, _, r, ax, ay, p⟩
end
section
variable {X : Cx} {W : WX} {pos : Pos} {e : Expr} {st : Stmt} {rest a b : List Stmt} {f : Ev D} {fs gs : Ex} {c : Ev Bool}
theorem ss_setLcR (i : Nat) {y : Str} {py : Pos} {elt tg iter : Expr} {ifs : List Expr} {scope : Scope} {own : List (Str × Nat)} {spos : Pos} {fi : Ev (List D × Option (Nat × O))} {ft : Ev Bool} {fe : Ev D} {T : Tg} (hc : X.calm = true) (hN : X.N.Nodup) (hi : SI X W tg iter fi) (ok : BlkOk X.N X.env.scope scope own)
    (hT : ∀ i ∈ T.slots, i ∈ own.map (·.2))
    (hg : ∀ (s : Shared) (H : Hp) (C : Addr) (cl : List (Str × Addr)) (fp : List Addr), SG (X.blk s H scope (compEnvC scope cl C X.env) fp) tg T)
    (ht : ∀ (s : Shared) (H : Hp) (C : Addr) (cl : List (Str × Addr)) (fp : List Addr), PTs (X.blk s H scope (compEnvC scope cl C X.env) fp) ifs (tT X.K W0 ft))
    (he : ∀ (s : Shared) (H : Hp) (C : Addr) (cl : List (Str × Addr)) (fp : List Addr), SE (X.blk s H scope (compEnvC scope cl C X.env) fp) W0 elt fe)
    (hsw : swapsWith (.ListComp elt [⟨tg, iter, ifs, 0⟩] scope pos) (some (.Name y py)) spos.line X.env = pure true)
    (hy : X.N[i]? = some y := by rfl) (hyl : X.env.scope.names.lookup y = some .local := by rfl) (hs : ∀ x, foldedSetIterable iter X.env x = pure x := by intro _; rfl) :
    SS X W (.Assign [.Name y py] (.ListComp elt [⟨tg, iter, ifs, 0⟩] scope pos) spos) (mSet (.nm i) (mLcR T (own.map (·.2)) fi ft fe)) :=
  PS.imp (ps_setLc hc hN hy hyl hsw hi ok hg ht he hs) fun D σ H ⟨ρ, h, mp, r, en, p⟩ => lc_readR hT ⟨ρ, h, mp, r, en, Post.mono (PostS.bind en p) fun v H1 ⟨mp1, h1, d, le, r1, q, p1⟩ => p1 _ mp1 H1 .refl r1 ((en.mono le).set q)⟩
end
end Mi
namespace Mi
open PySem L2
section
variable {ρ : Env'} {h : Hq}
@[simp] theorem e_sl {fe : Ev D} {lo hi : Option (Ev D)} : mSl fe lo hi ρ h = (fe ρ h).bind fun x h1 => (mPart lo ρ h1).bind fun l h2 => (mPart hi ρ h2).bind fun u h3 => .of (gSl x l u h3) := rfl
@[simp] theorem e_part0 : mPart none ρ h = .ok none h := rfl
@[simp] theorem e_part1 {f : Ev D} : mPart (some f) ρ h = (f ρ h).bind fun d h1 => match d with
  | .int i => .ok (some i) h1
  | _ => .bad := rfl
@[simp] theorem e_enum {f : Ev (List D)} : mEnum f ρ h = (f ρ h).bind fun ds h1 => match ds with
  | [d] => .of ((seqD h1 d).map fun p => ((enumD p.1, p.2), h1))
  | _ => .bad := rfl
@[simp] theorem e_zip {f : Ev (List D)} : mZip f ρ h = (f ρ h).bind fun ds h1 => match ds with
  | [d, d'] => (match asT d, asT d' with
    | some xs, some ys => .ok (zipD xs ys, none) h1
    | _, _ => .bad)
  | _ => .bad := rfl
@[simp] theorem e_listZip {f : Ev (List D)} : mListZip f ρ h = (f ρ h).bind fun ds h1 => match ds with
  | [d, d'] => (match asT d, asT d' with
    | some xs, some ys => .ok (.lst (zipD xs ys)) h1
    | _, _ => .bad)
  | _ => .bad := rfl
@[simp] theorem g_mulA {i j : Int} : gMulA (.int i) (.int j) h = gMul (.int i) (.int j) h := rfl
@[simp] theorem g_is2n {x : D} : gIs2 x .non h = some (.bl (isNon x), h) := by cases x <;> rfl
@[simp] theorem seqT {xs : List D} : seqD h (.tup xs) = some (xs, none) := rfl
@[simp] theorem seqL {xs : List D} : seqD h (.lst xs) = some (xs, none) := rfl
@[simp] theorem asT_tup {xs : List D} : asT (.tup xs) = some xs := rfl
@[simp] theorem setT_tp2 {i j : Nat} {a b : D} : setT (.tp [i, j]) (.tup [a, b]) ρ = some ((ρ.set i (some a)).set j (some b)) := rfl
end
/-- t[1:] -/
theorem sl_tail {h : Hq} {x : D} {xs : List D} : gSl (.tup (x :: xs)) (some 1) none h = some (.tup xs, h) := by
  simp only [gSl, asT]
  have e1 : HT.sIx (x :: xs).length 0 (some 1) = 1 := by
    have := HT.sIx_nat (x :: xs).length 0 1
    rw [show (((1 : Nat) : Int)) = 1 from rfl] at this
    rw [this]; simp
  have e2 : HT.sIx (x :: xs).length (x :: xs).length none = (x :: xs).length := rfl
  unfold cutD
  rw [e1, e2, if_neg (by simp)]
  simp
/-- t[:-1] -/
theorem sl_init {h : Hq} {x : D} {xs : List D} : gSl (.tup (xs ++ [x])) none (some (-1)) h = some (.tup xs, h) := by
  simp only [gSl, asT]
  have e1 : HT.sIx (xs ++ [x]).length (xs ++ [x]).length (some (-1)) = xs.length := by
    unfold HT.sIx
    dsimp only
    rw [if_pos (by decide), List.length_append, List.length_singleton]
    omega
  have e2 : HT.sIx (xs ++ [x]).length 0 none = 0 := rfl
  unfold cutD
  rw [e1, e2, if_neg (by simp)]
  simp
theorem inH_ref {h : Hq} {l : Nat} {x : D} {ys : List D} (e : h[l]? = some (.lst ys)) : inH h x (.ref l) = inH h x (.lst ys) := by
  unfold inH
  simp only [asD, e, nz]
theorem g_inR {h : Hq} {l : Nat} {x : D} {ys : List D} (e : h[l]? = some (.lst ys)) : gIn x (.ref l) h = gIn x (.lst ys) h := by
  unfold gIn; rw [inH_ref e]
theorem g_inSL {h : Hq} {x : Str} {L : List Str} : gIn (.str x) (.lst (L.map .str)) h = some (.bl (decide (x ∈ L)), h) := g_inL (enc := D.str) (fun _ => rfl) (fun _ _ e => by cases e; rfl) (by simp [D.dp])
/-- a comprehension whose items are only known to be of a kind -/
theorem lcGo_ex {α β : Type} {T : Tg} {fe : Ev D} {c : Option (Nat × O)} {all : List D} {ρ : Env'} {h : Hq} (enc : α → D) (enc' : β → D) (P : α → β → Prop) (ck : chkOk c all h) : ∀ xs : List α,
    (∀ x ∈ xs, ∃ ρ1, setT T (enc x) ρ = some ρ1 ∧ ∃ y, fe ρ1 h = .ok (enc' y) h ∧ P x y) → ∃ ys : List β, lcGo T mYes fe c all ρ (xs.map enc) h = .ok (ys.map enc') h ∧ ys.length = xs.length ∧ ∀ y ∈ ys, ∃ x ∈ xs, P x y
  | [], _ => ⟨[], by simp only [List.map_nil, lcGo]; rw [if_pos ck], rfl, by simp⟩
  | x :: xs, k => by
    obtain ⟨ρ1, e1, y, e2, p⟩ := k x List.mem_cons_self
    obtain ⟨ys, e3, e4, e5⟩ := lcGo_ex enc enc' P ck xs fun z hz => k z (List.mem_cons_of_mem _ hz)
    refine ⟨y :: ys, ?_, by simp [e4], fun z hz => ?_⟩
    · simp only [List.map_cons, lcGo]
      rw [if_pos ck, e1]
      dsimp only
      rw [e_yes]
      simp only [bindN_ok, e2, e3, Res.bind_ok]
    · rcases List.mem_cons.mp hz with rfl | hz
      · exact ⟨x, List.mem_cons_self, p⟩
      · obtain ⟨a, ha, pa⟩ := e5 z hz
        exact ⟨a, List.mem_cons_of_mem _ ha, pa⟩
theorem lc_ex {α β : Type} {T : Tg} {vs : List Nat} {fi : Ev (List D × Option (Nat × O))} {fe : Ev D} {ρ : Env'} {h h1 : Hq} {c : Option (Nat × O)} (enc : α → D) (enc' : β → D) (P : α → β → Prop) (xs : List α)
    (ei : fi ρ h = .ok (xs.map enc, c) h1) (ck : chkOk c (xs.map enc) h1) (k : ∀ x ∈ xs, ∃ ρ1, setT T (enc x) (wipeD ρ vs) = some ρ1 ∧ ∃ y, fe ρ1 h1 = .ok (enc' y) h1 ∧ P x y) :
    ∃ ys : List β, mLc T vs fi mYes fe ρ h = .ok (.lst (ys.map enc')) h1 ∧ ys.length = xs.length ∧ ∀ y ∈ ys, ∃ x ∈ xs, P x y := by
  obtain ⟨ys, e1, e2, e3⟩ := lcGo_ex enc enc' P ck xs k
  refine ⟨ys, ?_, e2, e3⟩
  unfold mLc
  rw [ei]
  simp only [Res.bind_ok, e1]
theorem lcR_eq {α : Type} {T : Tg} {vs : List Nat} {fi : Ev (List D × Option (Nat × O))} {ft : Ev Bool} {fe : Ev D} {ρ : Env'} {h h1 : Hq} {c : Option (Nat × O)} (enc : α → D) (p : α → Bool) (g : α → D) (xs : List α)
    (ei : fi ρ h = .ok (xs.map enc, c) h1) (ck : chkOk c (xs.map enc) h1) (k : ∀ x ∈ xs, ∃ ρ1, setT T (enc x) (wipeD ρ vs) = some ρ1 ∧ ft ρ1 h1 = .ok (p x) h1 ∧ (p x = true → fe ρ1 h1 = .ok (g x) h1)) :
    mLcR T vs fi ft fe ρ h = .ok (.ref h1.length) (h1 ++ [.lst ((xs.filter p).map g)]) := by
  unfold mLcR
  rw [ei]
  simp only [Res.bind_ok, lcGo_eq enc p g ck xs k]
theorem enumD_map {α : Type} (enc : α → D) (xs : List α) : enumD (xs.map enc) = xs.zipIdx.map fun p => .tup [.int (p.2 : Nat), enc p.1] := by
  unfold enumD
  rw [List.zipIdx_map, List.map_map]
  rfl
theorem g_extL {h : Hq} {L ys : List D} (k : L.length + ys.length ≤ sizeLine) : gExtend (.ref h.length) [.lst ys] (h ++ [.lst L]) = some (.non, h ++ [.lst (L ++ ys)]) := by
  simp only [gExtend, getL_last, asL]
  rw [if_pos k, setL_last]
theorem isInts_map {α : Type} (f : α → Int) : ∀ L : List α, isInts (L.map fun x => .int (f x)) = some (L.map f)
  | [] => rfl
  | x :: L => by simp [isInts, isInts_map f L]
end Mi
namespace Mi
open PySem PySem.Spec PyProof.Rows L2 HT
/-! ### list(range(n)), tuple(range(n)) -/
def rgD (n : Int) : List D := (List.range n.toNat).map fun i => D.int ((i : Nat) : Int)
theorem rg_rel {K : PySem.W.Frag} {mp : Wd} {H : Hp} (n : Int) : RpAll K mp H (rgD n) (rgV 0 n) := by
  unfold rgD rgV
  rw [show n - 0 = n by omega]
  generalize List.range n.toNat = l
  induction l with
  | nil => exact .nil
  | cons x l ih =>
    refine .cons ?_ ih
    show Rp K mp H (D.int ((x : Nat) : Int)) (V.int (0 + ((x : Nat) : Int)))
    rw [show (0 : Int) + ((x : Nat) : Int) = ((x : Nat) : Int) by omega]
    exact .int _
def mLstRg (f : Ev D) : Ev D := fun ρ h => (f ρ h).bind fun d h1 => match d with
  | .int n => if 0 ≤ n ∧ n ≤ 1000 then .ok (.lst (rgD n)) h1 else .bad
  | _ => .bad
def mTupRg (f : Ev D) : Ev D := fun ρ h => (f ρ h).bind fun d h1 => match d with
  | .int n => if 0 ≤ n ∧ n ≤ 1000 then .ok (.tup (rgD n)) h1 else .bad
  | _ => .bad
section
variable {X : Cx} {W : WX} {e : Expr} {p p2 pos pos2 : Pos} {f : Ev D}
theorem se_lstRg (hc : X.calm = true) (he : SE X W e f) (hmr : X.mg "range" = none) (hml : X.mg "list" = none) (hgr : Gl X "range" := by rfl) (hgl : Gl X "list" := by rfl)
    (na : starEach [e] X.env = (false, eval e X.env) :: starEach [] X.env := by rfl)
    (nb : starEach [.Call (.Name "range" p2) [e] [] pos2] X.env = (false, eval (.Call (.Name "range" p2) [e] [] pos2) X.env) :: starEach [] X.env := by rfl) :
    SE X W (.Call (.Name "list" p) [.Call (.Name "range" p2) [e] [] pos2] [] pos) (mLstRg f) :=
  PE.imp (pe_listRg hc hgl hml (prg_1 hgr hmr he na) nb) fun σ H Q ⟨ρ, h, mp, r, en, q⟩ => by
    refine ⟨ρ, h, mp, r, en, Post.mono (Post.bind (R := rD X.K) q) fun x H1 ⟨mp1, h1, d1, le1, r1, q1, p1⟩ => ?_⟩
    dsimp only at p1
    split at p1
    · rename_i n
      split at p1
      · rename_i hn
        cases q1
        refine ⟨n, rfl, RgOk.of_le (by omega) (by omega) (by omega) (by omega), fun b hb => ?_⟩
        obtain ⟨l1, l2, l3⟩ := newL r1 hb (rg_rel (K := X.K) (mp := mp1) (H := H1) n)
        exact p1 _ mp1 _ l1 l2 l3
      · exact p1.elim
    · exact p1.elim
theorem se_tupRg (hc : X.calm = true) (he : SE X W e f) (hmr : X.mg "range" = none) (hml : X.mg "tuple" = none) (hgr : Gl X "range" := by rfl) (hgl : Gl X "tuple" := by rfl)
    (na : starEach [e] X.env = (false, eval e X.env) :: starEach [] X.env := by rfl)
    (nb : starEach [.Call (.Name "range" p2) [e] [] pos2] X.env = (false, eval (.Call (.Name "range" p2) [e] [] pos2) X.env) :: starEach [] X.env := by rfl) :
    SE X W (.Call (.Name "tuple" p) [.Call (.Name "range" p2) [e] [] pos2] [] pos) (mTupRg f) :=
  PE.imp (pe_tupRg hc hgl hml (prg_1 hgr hmr he na) nb) fun σ H Q ⟨ρ, h, mp, r, en, q⟩ => by
    refine ⟨ρ, h, mp, r, en, Post.mono (Post.bind (R := rD X.K) q) fun x H1 ⟨mp1, h1, d1, le1, r1, q1, p1⟩ => ?_⟩
    dsimp only at p1
    split at p1
    · rename_i n
      split at p1
      · rename_i hn
        cases q1
        refine ⟨n, rfl, RgOk.of_le (by omega) (by omega) (by omega) (by omega), fun b hb => ?_⟩
        obtain ⟨l1, l2, l3⟩ := newT r1 hb (rg_rel (K := X.K) (mp := mp1) (H := H1) n)
        exact p1 _ mp1 _ l1 l2 l3
      · exact p1.elim
    · exact p1.elim
end
/-! ### sorted(set(t)), t a tuple of ints -/
def insI (x : Int) : List Int → List Int
  | [] => [x]
  | y :: ys => if x < y then x :: y :: ys else if x = y then y :: ys else y :: insI x ys
def sortSet (ns : List Int) : List Int := ns.foldr insI []
theorem mem_insI {x k : Int} : ∀ {l : List Int}, k ∈ insI x l ↔ k = x ∨ k ∈ l
  | [] => by simp [insI]
  | y :: ys => by
    unfold insI
    split
    · simp
    · split
      · rename_i h; subst h; simp
      · rw [List.mem_cons, mem_insI (l := ys), List.mem_cons]
        constructor <;> (intro h; rcases h with h | h | h <;> simp [h])
theorem insI_lt {x : Int} : ∀ {l : List Int}, l.Pairwise (· < ·) → (insI x l).Pairwise (· < ·)
  | [], _ => by simp [insI]
  | y :: ys, h => by
    unfold insI
    rw [List.pairwise_cons] at h
    split
    · rename_i hx
      exact List.pairwise_cons.mpr ⟨fun z hz => by rcases List.mem_cons.mp hz with rfl | hz; exact hx; exact Int.lt_trans hx (h.1 z hz), List.pairwise_cons.mpr h⟩
    · split
      · exact List.pairwise_cons.mpr h
      · refine List.pairwise_cons.mpr ⟨fun z hz => ?_, insI_lt h.2⟩
        rcases mem_insI.mp hz with rfl | hz
        · omega
        · exact h.1 z hz
theorem sortSet_lt (ns : List Int) : (sortSet ns).Pairwise (· < ·) := by
  induction ns with
  | nil => exact .nil
  | cons x ns ih => exact insI_lt ih
theorem mem_sortSet {k : Int} {ns : List Int} : k ∈ sortSet ns ↔ k ∈ ns := by
  induction ns with
  | nil => exact Iff.rfl
  | cons x ns ih => show k ∈ insI x (sortSet ns) ↔ _; rw [mem_insI, ih, List.mem_cons]
theorem lt_ext : ∀ {a b : List Int}, a.Pairwise (· < ·) → b.Pairwise (· < ·) → (∀ k, k ∈ a ↔ k ∈ b) → a = b
  | [], [], _, _, _ => rfl
  | [], y :: b, _, _, h => absurd ((h y).mpr (by simp)) (by simp)
  | x :: a, [], _, _, h => absurd ((h x).mp (by simp)) (by simp)
  | x :: a, y :: b, ha, hb, h => by
    rw [List.pairwise_cons] at ha hb
    have exy : x = y := by
      rcases List.mem_cons.mp ((h x).mp (by simp)) with e | e
      · exact e
      · rcases List.mem_cons.mp ((h y).mpr (by simp)) with e' | e'
        · exact e'.symm
        · have := ha.1 y e'; have := hb.1 x e; omega
    subst exy
    rw [lt_ext ha.2 hb.2 fun k => ?_]
    constructor
    · intro hk
      rcases List.mem_cons.mp ((h k).mp (List.mem_cons_of_mem _ hk)) with rfl | e
      · exact absurd (ha.1 _ hk) (by omega)
      · exact e
    · intro hk
      rcases List.mem_cons.mp ((h k).mpr (List.mem_cons_of_mem _ hk)) with rfl | e
      · exact absurd (hb.1 _ hk) (by omega)
      · exact e
def rSetTI (K : PySem.W.Frag) (w : World) : List V → Hp → VK → Prop := fun vs H Q => ∃ (p : Addr) (ns : List Int), vs = [.ref p] ∧ SqT K H p (ns.map V.int) ∧ ns.length < 64 ∧
  ∀ (q : Addr) (c : Nat), H q = none → c ≤ ns.length → Q (.ref q) (upd H q (SetO w q (fun j => decide (j ∈ ns)) c))
section
variable {X : Cx} {W : WX} {e : Expr} {p p2 pos pos2 : Pos} {f : Ev D}
theorem cr_setTI (hc : X.calm = true) : CallR X (.type "set") (rSetTI X.K X.w) := by
  intro pins s σ H vs us Q I r h
  obtain ⟨p0, ns, rfl, hq, hl, q⟩ := h
  rw [Vals.ref1 r]
  obtain ⟨its, rv, pt, hz⟩ := I.tuple hq
  have hi : IntsAre its.toArray.toList ns := ints_of_vals rv
  refine call_set_tupI ns (I.ok.hd hc) (show s.heap.IsTuple p0 its.toArray from pt) hi (by unfold scanBound; omega) fun h' tk c R1 hcn k => ?_
  exact ⟨.ref s.heap.objs.size, _, I.laid (t' := tk) k (Nat.le_refl _) (setO_new R1), rfl, q _ c (I.hok.fresh (Nat.le_refl _)) hcn⟩
def mSortSet (f : Ev D) : Ev D := fun ρ h => (f ρ h).bind fun d h1 => match asT d with
  | some xs => (match isInts xs with
    | some ns => if ns.length < 64 then .ok (.lst ((sortSet ns).map .int)) h1 else .bad
    | none => .bad)
  | none => .bad
theorem ints_ok' {K : PySem.W.Frag} {mp : Wd} {H : Hp} : ∀ {ds : List D} {vs : List V} {bs : List Int}, RpAll K mp H ds vs → isInts ds = some bs → vs = bs.map V.int
  | [], _, _, a, e => by cases e; cases a; rfl
  | d :: ds, _, bs, a, e => by
    cases a with
    | cons a1 a2 =>
      cases d <;> simp only [isInts] at e
      case int i =>
        obtain ⟨l, e1, e2⟩ := Option.map_eq_some_iff.mp e
        subst e2
        cases a1
        rw [ints_ok' a2 e1, List.map_cons]
      all_goals exact absurd e (by simp)
theorem ints_rel {K : PySem.W.Frag} {mp : Wd} {H : Hp} : ∀ ns : List Int, RpAll K mp H (ns.map .int) (ns.map V.int)
  | [] => .nil
  | n :: ns => .cons (.int n) (ints_rel ns)
theorem se_sortSet (hc : X.calm = true) (he : SE X W e f) (hms : X.mg "set" = none) (hm : X.mg "sorted" = none) (hgs : Gl X "set" := by rfl) (hg : Gl X "sorted" := by rfl)
    (na : starEach [e] X.env = (false, eval e X.env) :: starEach [] X.env := by rfl) (hpl2 : (backTo pos2 (starEach [] X.env)).any (·.1) = false := by rfl)
    (nb : starEach [.Call (.Name "set" p2) [e] [] pos2] X.env = (false, eval (.Call (.Name "set" p2) [e] [] pos2) X.env) :: starEach [] X.env := by rfl)
    (hpl : (backTo pos (starEach [] X.env)).any (·.1) = false := by rfl) (hv : bootBuiltins "sorted" = some (.builtin "sorted") := by decide +kernel) (hv2 : bootBuiltins "set" = some (.type "set") := by decide +kernel) :
    SE X W (.Call (.Name "sorted" p) [.Call (.Name "set" p2) [e] [] pos2] [] pos) (mSortSet f) :=
  PE.imp (pe_callB (cr_sortedSet hc) hg hm hv (pa_cons (pe_callTy (cr_setTI hc) hgs hms hv2 (pa_cons he pa_nil na) (by decide) (by decide) na hpl2) pa_nil nb) (by decide) (by decide) nb hpl) fun σ H Q ⟨ρ, h, mp, r, en, q⟩ => by
    refine ⟨ρ, h, mp, r, en, Post.mono (Post.bind (R := rD X.K) q) fun x H1 ⟨mp1, h1, d1, le1, r1, q1, p1⟩ => ?_⟩
    dsimp only at p1
    split at p1
    · rename_i xs ex
      split at p1
      · rename_i ns ei
        split at p1
        · rename_i hl
          obtain ⟨pa, vs, rfl, hs, ra⟩ := asT_ok q1 ex
          have ev := ints_ok' ra ei
          subst ev
          refine ⟨pa, ns, rfl, hs, hl, fun qa c hq hcn => ?_⟩
          refine ⟨qa, _, c, rfl, upd_same, by omega, fun os pb hlt hmem hlen hpb => ?_⟩
          have eo : os = sortSet ns := lt_ext hlt (sortSet_lt ns) fun k => by rw [hmem k, mem_sortSet, decide_eq_true_eq]
          subst eo
          have le := le_new r1 (o := SetO X.w qa (fun j => decide (j ∈ ns)) c) hq
          obtain ⟨l1, l2, l3⟩ := newL (r1.new hq) hpb (ints_rel (K := X.K) (mp := mp1) (H := _) (sortSet ns))
          exact p1 _ mp1 _ (le.trans l1) l2 l3
        · exact p1.elim
      · exact p1.elim
    · exact p1.elim
end
/-! ### t[::-1] -/
section
variable {prog : Program} {w : World} {A : Around} {E : Value → Shared → Prop} {s : Shared}
theorem sliceApplied_rev {sl : Addr} {vs : Value} {n : Nat} {Q : Int × Int × Nat → Shared → Prop} (hs : s.heap.IsSliceOf sl .none .none vs) (ps : IsPart vs (some (-1)))
    (h : Q ((n : Int) - 1, -1, n) s) : wpAny (model prog w) A (Builtin.Slice.sliceApplied (.ref sl) (pure (n : Int))) Q E s := by
  obtain ⟨os, hos, hcs, hds⟩ := id hs
  unfold Builtin.Slice.sliceApplied Builtin.Slice.sliceFields
  refine wpAny_bind (wpAny_bind (wpAny_field hos hds (x := .none) rfl (wpAny_bind (wpAny_field hos hds (x := .none) rfl (wpAny_bind (wpAny_field hos hds (x := vs) rfl (wpAny_pure ?_)))))))
  refine wpAny_bind (slicePart_ ps ?_)
  show wpAny _ _ (if ((-1 : Int) == 0) = true then _ else _) _ _ s
  rw [if_neg (by decide)]
  refine wpAny_bind (slicePart_none (wpAny_bind (slicePart_none (wpAny_bind (wpAny_pure ?_)))))
  show wpAny _ _ (match Builtin.Slice.sliceAdjust none none (-1) (n : Int) with | (lo, hi) => pure (lo, (-1 : Int), Builtin.Slice.slicePlaces lo hi (-1))) _ _ s
  have e1 : Builtin.Slice.sliceAdjust none none (-1) (n : Int) = ((n : Int) - 1, -1) := by
    unfold Builtin.Slice.sliceAdjust
    simp
  have e2 : Builtin.Slice.slicePlaces ((n : Int) - 1) (-1) (-1) = n := by
    unfold Builtin.Slice.slicePlaces
    simp
    try omega
  rw [e1]
  show wpAny _ _ (pure ((n : Int) - 1, (-1 : Int), Builtin.Slice.slicePlaces ((n : Int) - 1) (-1) (-1))) _ _ s
  rw [e2]
  exact wpAny_pure h
theorem fm_map {α β : Type} {f : α → Option β} {g : α → β} : ∀ {l : List α}, (∀ x ∈ l, f x = some (g x)) → l.filterMap f = l.map g
  | [], _ => rfl
  | x :: l, k => by rw [List.filterMap_cons, k x (by simp), List.map_cons, fm_map fun y hy => k y (List.mem_cons_of_mem _ hy)]
theorem pick_rev (xs : Array Value) : ((List.range xs.size).filterMap fun (m : Nat) => xs[(((xs.size : Int) - 1) + (m : Int) * (-1)).toNat]?) = xs.toList.reverse := by
  have e0 := fm_map (f := fun (m : Nat) => xs[(((xs.size : Int) - 1) + (m : Int) * (-1)).toNat]?) (g := fun m => xs.toList.getD (xs.size - 1 - m) .none) (l := List.range xs.size) (fun m hm => by
    have hm := List.mem_range.mp hm
    have e : (((xs.size : Int) - 1) + (m : Int) * (-1)).toNat = xs.size - 1 - m := by omega
    rw [e, ← Array.getElem?_toList, List.getD_eq_getElem?_getD, List.getElem?_eq_getElem (by rw [Array.length_toList]; omega)]
    rfl)
  rw [e0]
  apply List.ext_getElem?
  intro i
  rw [List.getElem?_map]
  by_cases hi : i < xs.size
  · rw [List.getElem?_range hi, List.getElem?_reverse (by rw [Array.length_toList]; exact hi), Array.length_toList, Option.map_some, List.getD_eq_getElem?_getD, List.getElem?_eq_getElem (by rw [Array.length_toList]; omega)]
    rfl
  · rw [List.getElem?_eq_none (by rw [List.length_range]; omega), List.getElem?_eq_none (by rw [List.length_reverse, Array.length_toList]; omega)]
    rfl
theorem getItem_tuple_rev {t sl : Addr} {items : Array Value} {vs : Value} {Q : Value → Shared → Prop} (ht : IsTup s.heap t items) (hs : s.heap.IsSliceOf sl .none .none vs) (ps : IsPart vs (some (-1)))
    (h : Q (.ref s.heap.objs.size) { s with heap := s.heap.push { cls := .type "tuple", data := .seq items.toList.reverse.toArray } })
    (hsz : items.size ≤ sizeLine) : wpAny (model prog w) A (getItem (.ref t) (.ref sl)) Q E s := by
  have htake : sizeOk (.seq items.toList.reverse.toArray) := by
    show items.toList.reverse.toArray.size ≤ sizeLine
    rw [List.size_toArray, List.length_reverse, Array.length_toList]
    omega
  obtain ⟨os, hos, hcs, hds⟩ := id hs
  have hTs : s.TypeIs (.ref sl) "slice" := ⟨os, hos, hcs⟩
  unfold getItem
  try with_reducible refine wpAny_holding ?_
  first | refine wpAny_bind (wpAny_pure ?_) | skip
  refine wpAny_bind (wpAny_sequenceKey ht.typeIs (by decide) ?_)
  refine wpAny_bind (wpAny_callSpecial?_slot (name := Str.ofString "__getitem__") ht.typeIs PyProof.Rows.slot_tuple_getitem
    (wpAny_call_entry PyProof.Rows.slot_tuple_getitem ht.typeIs entry_tuple_getitem ?_ (args_tuple_getitem _ _)))
  show wpAny _ _ (Builtin.Tuple.tupleItemsOf (.ref t) >>= _) _ _ s
  refine wpAny_bind (tupleItemsOf_ ht ?_)
  refine wpAny_bind (wpAny_typeOf hTs ?_)
  rw [if_pos (by decide)]
  refine wpAny_bind (sliceApplied_rev hs ps ?_)
  have hno : ¬ ((((items.size : Int) - 1) == 0 && (-1 : Int) == 1 && items.size == items.size) = true) := by simp
  show wpAny _ _ (if (((items.size : Int) - 1) == 0 && (-1 : Int) == 1 && items.size == items.size) = true then _ else _) _ _ s
  rw [if_neg hno, pick_rev]
  first
    | exact wpAny_bind (m := Builtin.Tuple.tupleExact _) (wpAny_newObj_type (wpAny_pure ⟨_, rfl, wpAny_pure h⟩) htake)
    | exact wpAny_bind (m := Builtin.Tuple.tupleExact _) (wpAny_newObj_type (wpAny_bind (wpAny_pure (wpAny_pure ⟨_, rfl, wpAny_pure h⟩))) htake)
end
def tRevT (K : PySem.W.Frag) (te : TE) : TE := fun σ H Q => te σ H fun x H1 => ∃ a xs, x = .ref a ∧ SqT K H1 a xs ∧ ∀ p, H1 p = none → Q (.ref p) (upd H1 p (.tup xs.reverse))
section
variable {X : Cx} {W : WX} {e : Expr}
theorem pe_revT {te : TE} {k : Nat} {p1 p2 p3 pos : Pos} (he : PE X e te) : PE X (.Subscript e (.Slice none none (some (.UnaryOp .USub (.Constant (.int 1) k p1) p2)) p3) pos) (tRevT X.K te) := by
  refine ⟨fun pins s σ H Q I h => ?_⟩
  refine Subscript_ (thn (he.run pins s σ H _ I h) fun v s1 ⟨x, H1, I1, r1, q1⟩ => ?_)
  obtain ⟨a, xs, ex, hx, q⟩ := q1
  subst ex
  cases r1
  have hst : PO X (some (.UnaryOp .USub (.Constant (.int 1) k p1) p2)) (tPart (tUn (rU fun i => .int (-i)) (tC (.int 1)))) := po_some (pe_un un_neg pe_int)
  refine wpAny_Slice (thn (po_none.run pins s1 σ H1 (fun o H2 => o = none ∧ H2 = H1) I1 ⟨rfl, rfl⟩) fun vl s2 ⟨l, H2, I2, pl, el, e2⟩ => ?_)
  subst el e2
  refine thn (po_none.run pins s2 σ H2 (fun o H3 => o = none ∧ H3 = H2) I2 ⟨rfl, rfl⟩) fun vu s3 ⟨u, H3, I3, pu, eu, e3⟩ => ?_
  subst eu e3
  refine thn (hst.run pins s3 σ H3 (fun o H4 => o = some (-1) ∧ H4 = H3) I3 ⟨1, rfl, -1, rfl, rfl, rfl⟩) fun vs s4 ⟨o, H4, I4, ps, eo, e4⟩ => ?_
  subst eo e4
  have I5 : Inv X pins σ H4 { s4 with heap := s4.heap.push { cls := .type "slice", data := .fields #[vl, vu, vs] } } := I4.kept (t' := s4.toks) fun b ob q => Heap.get?_push_of_some _ q
  obtain ⟨its, r, ht, hz⟩ := I5.tuple hx
  have hlen := r.length
  have evl : vl = .none := by cases pl; rfl
  have evu : vu = .none := by cases pu; rfl
  subst evl evu
  show wpAny (model X.prog X.w) X.A (subscriptTail e (.Slice none none (some (.UnaryOp .USub (.Constant (.int 1) k p1) p2)) p3) (.ref a) (.ref s4.heap.objs.size)) (EP X pins σ Q) X.xe { s4 with heap := s4.heap.push { cls := .type "slice", data := .fields #[.none, .none, vs] } }
  refine tail_any (ops := [.ref a, .ref s4.heap.objs.size]) ht.typeIs (PyProof.Rows.slot_tuple_getitem.lookup) ?_ (by with_unfolding_all rfl)
  refine getItem_tuple_rev ht (Heap.IsSliceOf.new _ .none .none vs) ps ?_ (by rw [List.size_toArray]; omega)
  refine ⟨.ref _, _, I5.laid (t' := s4.toks) (o := .tup xs.reverse) (fun b ob q => Heap.get?_push_of_some _ q) (Nat.le_refl _) ?_, rfl, q _ (I5.hok.fresh (Nat.le_refl _))⟩
  exact ⟨by rw [List.length_reverse]; exact hz, _, r.reverse, IsTup.new _ _⟩
theorem RpAll.snoc {K : PySem.W.Frag} {mp : Wd} {H : Hp} {d : D} {v : V} (b : Rp K mp H d v) : ∀ {ds : List D} {vs : List V}, RpAll K mp H ds vs → RpAll K mp H (ds ++ [d]) (vs ++ [v])
  | _, _, .nil => .cons b .nil
  | _, _, .cons a r => .cons a (RpAll.snoc b r)
theorem RpAll.rev {K : PySem.W.Frag} {mp : Wd} {H : Hp} : ∀ {ds : List D} {vs : List V}, RpAll K mp H ds vs → RpAll K mp H ds.reverse vs.reverse
  | _, _, .nil => .nil
  | _, _, .cons a r => by rw [List.reverse_cons, List.reverse_cons]; exact RpAll.snoc a r.rev
def mRevT (f : Ev D) : Ev D := fun ρ h => (f ρ h).bind fun d h1 => match asT d with
  | some xs => .ok (.tup xs.reverse) h1
  | none => .bad
theorem se_revT {f : Ev D} {k : Nat} {p1 p2 p3 pos : Pos} (he : SE X W e f) : SE X W (.Subscript e (.Slice none none (some (.UnaryOp .USub (.Constant (.int 1) k p1) p2)) p3) pos) (mRevT f) :=
  PE.imp (pe_revT he) fun σ H Q ⟨ρ, h, mp, r, en, q⟩ => by
    refine ⟨ρ, h, mp, r, en, Post.mono (Post.bind (R := rD X.K) q) fun x H1 ⟨mp1, h1, d1, le1, r1, q1, p1⟩ => ?_⟩
    dsimp only at p1
    split at p1
    · rename_i xs ex
      obtain ⟨pa, vs, rfl, hs, ra⟩ := asT_ok q1 ex
      refine ⟨pa, vs, rfl, hs, fun b hb => ?_⟩
      obtain ⟨l1, l2, l3⟩ := newT r1 hb ra.rev
      exact p1 _ mp1 _ l1 l2 l3
    · exact p1.elim
end
/-! ### sorted(t), t a tuple -/
section
variable {prog : Program} {w : World} {A : Around} {E : Value → Shared → Prop} {s : Shared}
theorem collect_tup {l : Addr} {vs : List Value} {Q : List Value → Shared → Prop} (hl : IsTup s.heap l vs.toArray)
    (h : Q vs { s with heap := (s.heap.push (seqObj "list" #[] 0)).update s.heap.objs.size (Obj.mapSeq (· ++ vs.toArray)) }) (hsz : vs.length ≤ sizeLine) :
    wpAny (model prog w) A (collect (.ref l)) Q E s := by
  obtain ⟨o, ho, hc, n, hd⟩ := id hl
  unfold collect
  refine wpAny_bind (wpAny_runValue (codeAny_builtin entry_proto_collect' ?_))
  show wpAny _ _ (do again (.builtin "list.__iadd__" ⟨[← newList [], .ref l], []⟩)) _ _ s
  refine wpAny_bind (wpAny_newList (wpAny_pure ⟨Code.quiet_builtin _ (by decide +kernel), codeAny_builtin entry_list_iadd' ?_⟩))
  show wpAny _ _ (Builtin.List.listExtendWith (.ref s.heap.objs.size) (.ref l) (.ref s.heap.objs.size)) _ _ { s with heap := s.heap.push (seqObj "list" #[] 0) }
  unfold Builtin.List.listExtendWith
  have ho' : (s.heap.push (seqObj "list" #[] 0)).get? l = some o := Heap.get?_push_of_some _ ho
  refine wpAny_bind (wpAny_typeOf (T := "tuple") ⟨o, ho', hc⟩ ?_)
  have ht : (Value.type "tuple" == Value.type "tuple") = true := by rfl
  rw [if_pos (by rw [ht]; simp)]
  refine wpAny_bind (listItems_at ho' hd ?_)
  refine wpAny_bind (listItems_at (xs := #[]) (n := 0) (Heap.get?_push_size _ rfl) rfl ?_)
  rw [if_neg (by simp)]
  refine wpAny_bind (listUpdate_at (xs := #[]) (n := 0) (Heap.get?_push_size _ rfl) rfl ?_ (Nat.zero_le _) (by show (#[] ++ vs.toArray).size ≤ sizeLine + 1; simp only [Array.size_append, List.size_toArray, List.length_nil]; omega))
  refine wpAny_pure ?_
  show wpAny (model prog w) A (do
      let o ← load s.heap.objs.size
      match o.data with
      | .seq xs _ => pure xs.toList
      | _ => unsupported "internal:collect") Q E { s with heap := (s.heap.push (seqObj "list" #[] 0)).update s.heap.objs.size (Obj.mapSeq (· ++ vs.toArray)) }
  refine wpAny_bind (wpAny_load (get?_update_seq (Heap.get?_push_size _ rfl) _) ?_)
  show wpAny _ _ (pure ((#[] : Array Value) ++ vs.toArray).toList) Q E _
  rw [show ((#[] : Array Value) ++ vs.toArray).toList = vs by simp]
  exact wpAny_pure h
open PySem.W in
theorem sorted_valsT {κ : PyProof.Rows.KeyKind} {l : Addr} {vs : List Value} {Q : Value → Shared → Prop} (hl : IsTup s.heap l vs.toArray) (S : SortsAt prog w A.in1.in1 { s with heap := sortingHeap (copyHeap s.heap vs) (s.heap.objs.size + 1) vs } κ vs) (hL : vs.length ≤ sizeLine)
    (h : Q (.ref (s.heap.objs.size + 1)) { s with heap := sortedAll s.heap vs (sortVals κ false vs vs).toArray }) : wpAny (model prog w) A (call (.builtin "sorted") [.ref l]) Q E s := by
  refine Calls.call_function_entry kind_sorted plain_sorted entry_sorted (args_sorted1 _) ?_
  unfold Builtin.«sorted»
  refine wpAny_bind (m := checkCount "sorted" 1 1 _) (wpAny_pure ?_)
  refine wpAny_bind (collect_tup hl ?_ hL)
  refine wpAny_bind (wpAny_newList ?_ hL)
  have hsz : ((s.heap.push (seqObj "list" #[] 0)).update s.heap.objs.size (Obj.mapSeq (· ++ vs.toArray))).objs.size = s.heap.objs.size + 1 := by
    rw [Heap.size_update, size_push']
  show wpAny _ _ _ _ _ { s with heap := copyHeap s.heap vs }
  rw [hsz]
  refine wpAny_bind (wpAny_holding (wpAny_call_entry slot_list_sort ⟨_, copyHeap_at s.heap vs, rfl⟩ entry_list_sort ?body (args_list_sort _)))
  case body =>
    show wpAny (model prog w) A.in1.in1 (Builtin.«list.sort» ⟨[.ref (s.heap.objs.size + 1)], []⟩) _ _ _
    exact list_sort_vals (s := { s with heap := copyHeap s.heap vs }) (copyHeap_at s.heap vs) S hL ⟨_, rfl, wpAny_pure ⟨_, rfl, h⟩⟩
end
def gSorted2 (ds : List D) (h : Hq) : Option (D × Hq) := match ds with
  | [d] => (match asT d with
    | some xs => if sortOk xs = true then some (.lst (xs.mergeSort leD), h) else none
    | none => gSorted [d] h)
  | _ => none
theorem c1_sorted2 {X : Cx} (hu : X.A.units + 64 < cLine) : C1 X (.builtin "sorted") gSorted2 := by
  intro pins s σ H xs us Q I rv ⟨mp, h, ds, r, a, p⟩
  unfold gSorted2 at p
  split at p
  · rename_i d
    split at p
    · rename_i ys e
      obtain ⟨v, rfl, q⟩ := a.one
      split at p
      · rename_i hk
        obtain ⟨pa, vs, rfl, hs, ra⟩ := asT_ok q e
        obtain ⟨u, rfl, ru⟩ := vals1 rv
        obtain rfl : u = Value.ref pa := ru
        obtain ⟨its, rel, hl, hz⟩ := I.tuple hs
        obtain ⟨h1, h2, h3, h4⟩ := sort_parts hk
        have er := each_reads I ra rel h1
        have ev := each_of ra rel
        have hzi : its.length ≤ sizeLine := by rw [← rel.length]; exact hz
        have er2 := each_mono (s' := { s with heap := PySem.W.sortingHeap (PySem.W.copyHeap s.heap its) (s.heap.objs.size + 1) its }) (fun b o z => PySem.W.sorting_copy_old z) er
        refine sorted_valsT (κ := PySem.W.dataKind _ (ys.map encD)) hl (sorts_at er2 hk (by show X.A.in1.in1.units + 60 < cLine; have : X.A.in1.in1.units = X.A.units + 1 + 1 := rfl; omega)) hzi ?_
        have eo := PySem.W.sortVals_data false ev er2 h2
        rw [leD_eq] at eo
        obtain ⟨ovs, o1, o2⟩ := of_each eo
        obtain ⟨c, hc⟩ := PyProof.Rows.sortedAll_at s.heap its (PySem.W.sortVals (PySem.W.dataKind (PySem.W.sortingHeap (PySem.W.copyHeap s.heap its) (s.heap.objs.size + 1) its) (ys.map encD)) false its its).toArray
        have hf : s.heap.objs.size ≤ s.heap.objs.size + 1 := Nat.le_succ _
        have hp := I.hok.fresh hf
        obtain ⟨l1, l2, l3⟩ := newL r hp o2
        refine ⟨.ref (s.heap.objs.size + 1), upd H (s.heap.objs.size + 1) (.lst ovs), I.laid (t' := s.toks) (fun _ _ z => PyProof.Rows.sortedAll_old z) hf ⟨?_, _, c, o1, hc⟩, rfl, p _ mp _ l1 l2 l3⟩
        rw [← o2.length, List.length_mergeSort, ra.length]
        exact hz
      · exact p.elim
    · exact c1_sorted hu pins s σ H xs us Q I rv ⟨mp, h, _, r, a, p⟩
  · exact p.elim
end Mi
namespace Mi
open PySem PySem.Spec PyProof.Rows L2
theorem tuple_mulW0 (l : Addr) (n : Nat) (dd : Option Addr) (sl : Array (Option Value)) (x : Int) (u : Tok) (c0 : (decide (x < -(2 ^ 63)) || decide (x ≥ 2 ^ 63)) = false) :
    Meets (Builtin.«tuple.__mul__» ⟨[.ref l, .int x u], []⟩) (fun _ R s => s.heap.get? l = some { cls := .type "tuple", dict := dd, data := .seq #[] n, slots := sl } ∧
      R (.ok (.ret (Value.ref l))) { s with heap := s.heap, toks := s.toks }) :=
  .of_wp fun prog w A R s h => by
    obtain ⟨hp, g, d, tk, os⟩ := s
    obtain ⟨hl, h⟩ := h
    have f1 := AutoSeq1.idx_int
    wp_walk using wpAny_loadPart' hl
    repeat (first
      | (refine wpAny_ite_false (decide_eq_false (by rw [c0]; exact Bool.false_ne_true)) ?_; wp_walk using wpAny_loadPart' hl))
    exact ⟨_, rfl, h⟩
def rRepT0 (K : PySem.W.Frag) : R2 := fun x y H Q => ∃ l k, x = .ref l ∧ y = .int k ∧ SqT K H l [] ∧ 2 ≤ k ∧ k ≤ 1000 ∧ Q (.ref l) H
theorem op_repT0 {X : Cx} : OpR X (binaryOp .Mult) (rRepT0 X.K) := by
  intro pins s σ H x y v u Q I rx ry h
  obtain ⟨l, k, rfl, rfl, hT, h1, h2, q⟩ := h
  cases rx
  obtain ⟨t, rfl⟩ := ry
  obtain ⟨its, r, ⟨⟨cls, dd, data, sl⟩, ho, hc, n, hd⟩, hs⟩ := I.tuple hT
  simp only at hc hd
  subst hc hd
  cases r
  have c0 : (decide (k < -(2 ^ 63)) || decide (k ≥ 2 ^ 63)) = false := by
    rw [decide_eq_false (by omega), decide_eq_false (by omega)] <;> rfl
  refine wpAny_binaryOp_repeat_ref (T := "tuple") (U := "int") (by decide) ⟨_, ho, rfl⟩ (fun s' => typeIs_int s' k t) noFill_tuple_mul F.fills_int_mul F.slot_int_rmul repeat_tuple F.slot_int_index.lookup
    (call_meets F.slot_int_rmul (typeIs_int s k t) F.entry_int_rmul (F.args_int_rmul_2 _ _) (int_rmul_tuple k t l #[] n dd sl)
      ⟨ho, rfl, ⟨_, ho, rfl⟩, call_meets F.slot_tuple_mul ⟨_, ho, rfl⟩ F.entry_tuple_mul (F.args_tuple_mul_2 _ _) (tuple_mulW0 l n dd sl k t c0) ⟨ho, ?_⟩⟩)
  exact ⟨.ref l, H, I, rfl, q⟩
def gMulB (x y : D) (h : Hq) : Option (D × Hq) := match x, y with
  | .tup [], .int k => if 2 ≤ k ∧ k ≤ 1000 then some (.tup [], h) else none
  | x, y => gMulA x y h
theorem o2_mulB {X : Cx} : O2 X (binaryOp .Mult) gMulB := by
  intro pins s σ H x y v u Q I rx ry ⟨mp, h, dx, dy, r, ax, ay, p⟩
  unfold gMulB at p
  split at p
  · split at p
    · rename_i k hz
      cases ax with
      | @tup a vs _ h1 n1 q1 =>
        cases ay
        cases q1
        exact op_repT0 pins s σ H _ _ v u Q I rx ry ⟨a, k, rfl, rfl, SqT.of h1, hz.1, hz.2, p _ mp H .refl r (.tup h1 n1 .nil)⟩
    · exact p.elim
  · exact o2_mulA pins s σ H x y v u Q I rx ry ⟨mp, h, _, _, r, ax, ay, p⟩
end Mi
namespace L82
open PySem L2 Mi
inductive Fn where
  | is_whole
  | names_of
  | names_in
  | drops
  | in_order
  | reads
  | writes
  | touches
  | clash
  | stage_numbers
  | stages
  | is_chain
  | chain
  | _law_cell_at
  | _law_mixed
  | _law_drawn
  | _law_scheme
  | _law_letters
  | _law_worth
  | _law_question
  | _law_act
  | _law_deed
  | _law_is_chain
  | law
/-- is_whole: 0 thing, 1 low, 2 high -/
noncomputable def b_is_whole (C : Calls Fn) : Ex :=
  mRet (mAnd (mBlt gIsi (mCons (mVar 0) (mCons (mC (.ty "int")) (mNil)))) (mAnd (mNot (mBlt gIsi (mCons (mVar 0) (mCons (mC (.ty "bool")) (mNil))))) (mChain gLe gLe (mVar 1) (mVar 0) (mVar 2))))
noncomputable def c1_names_of (C : Calls Fn) : Ev D := mLc (.nm 1) [1] (mIter (mVar 0)) (mYes) (mBin gIx (mVar 1) (mC (.int 0)))
/-- names_of: 0 scheme, 1 kind -/
noncomputable def b_names_of (C : Calls Fn) : Ex :=
  mRet (mBlt gTuple (mCons (c1_names_of C) (mNil)))
noncomputable def f1_names_in (C : Calls Fn) : Ex := mFor (.nm 2) (mIter (mSl (mVar 0) (some (mC (.int 1))) none)) (mExpr (mMth "list" gExtend (mVar 1) (mCons (mCall C .names_in 1 (mCons (mVar 2) (mNil))) (mNil))))
/-- names_in: 0 question, 1 found, 2 part -/
noncomputable def b_names_in (C : Calls Fn) : Ex :=
  mSeq (mIf (mTru (mBin gIn (mBin gIx (mVar 0) (mC (.int 0))) (mTup (mCons (mC (.str "has")) (mCons (mC (.str "is")) (mCons (mC (.str "over")) (mNil))))))) (mRet (mLstR (mCons (mBin gIx (mVar 0) (mC (.int 1))) (mNil)))) (mSkip)) (mSeq (mIf (mTru (mBin gEq (mBin gIx (mVar 0) (mC (.int 0))) (mC (.str "leads")))) (mRet (mBin gAddR (mLst (mCons (mBin gIx (mVar 0) (mC (.int 1))) (mNil))) (mCall C .names_in 1 (mCons (mBin gIx (mVar 0) (mC (.int 2))) (mNil))))) (mSkip)) (mSeq (mSet (.nm 1) (mLstR (mNil))) (mSeq (f1_names_in C) (mRet (mVar 1)))))
/-- drops: 0 deed -/
noncomputable def b_drops (C : Calls Fn) : Ex :=
  mRet (mBin gIn (mTup (mCons (mC (.str "drop")) (mNil))) (mBin gIx (mVar 0) (mC (.int 2))))
noncomputable def c1_in_order (C : Calls Fn) : Ev D := mLc (.nm 2) [2] (mIter (mCall C .names_of 1 (mCons (mVar 0) (mNil)))) (mTru (mBin gIn (mVar 2) (mVar 1))) (mVar 2)
/-- in_order: 0 scheme, 1 some, 2 name -/
noncomputable def b_in_order (C : Calls Fn) : Ex :=
  mRet (mBlt gTuple (mCons (c1_in_order C) (mNil)))
noncomputable def c1_reads (C : Calls Fn) : Ev D := mLc (.nm 3) [3] (mIter (mBin gIx (mVar 1) (mC (.int 2)))) (mTru (mBin gIn (mBin gIx (mVar 3) (mC (.int 0))) (mTup (mCons (mC (.str "add")) (mCons (mC (.str "copy")) (mNil)))))) (mBin gIx (mVar 3) (mC (.int 1)))
/-- reads: 0 scheme, 1 deed, 2 some, 3 act -/
noncomputable def b_reads (C : Calls Fn) : Ex :=
  mSeq (mSet (.nm 2) (mCall C .names_in 1 (mCons (mBin gIx (mVar 1) (mC (.int 1))) (mNil)))) (mSeq (mExpr (mMth "list" gExtend (mVar 2) (mCons (c1_reads C) (mNil)))) (mRet (mCall C .in_order 2 (mCons (mVar 0) (mCons (mVar 2) (mNil))))))
noncomputable def c1_writes (C : Calls Fn) : Ev D := mLcR (.nm 3) [3] (mIter (mBin gIx (mVar 1) (mC (.int 2)))) (mTru (mBin gIn (mBin gIx (mVar 3) (mC (.int 0))) (mTup (mCons (mC (.str "add")) (mCons (mC (.str "put")) (mCons (mC (.str "take")) (mNil))))))) (mBin gIx (mVar 3) (mC (.int 1)))
noncomputable def c2_writes (C : Calls Fn) : Ev D := mLc (.nm 3) [3] (mIter (mBin gIx (mVar 1) (mC (.int 2)))) (mTru (mBin gEq (mBin gIx (mVar 3) (mC (.int 0))) (mC (.str "copy")))) (mBin gIx (mVar 3) (mC (.int 2)))
/-- writes: 0 scheme, 1 deed, 2 some, 3 act -/
noncomputable def b_writes (C : Calls Fn) : Ex :=
  mSeq (mIf (mTru (mCall C .drops 1 (mCons (mVar 1) (mNil)))) (mRet (mCall C .names_of 1 (mCons (mVar 0) (mNil)))) (mSkip)) (mSeq (mSet (.nm 2) (c1_writes C)) (mSeq (mExpr (mMth "list" gExtend (mVar 2) (mCons (c2_writes C) (mNil)))) (mRet (mCall C .in_order 2 (mCons (mVar 0) (mCons (mVar 2) (mNil)))))))
noncomputable def c1_touches (C : Calls Fn) : Ev D := mLc (.nm 4) [4] (mIter (mCall C .writes 2 (mCons (mVar 0) (mCons (mVar 1) (mNil))))) (mYes) (mBin gIn (mVar 4) (mVar 3))
/-- touches: 0 scheme, 1 one, 2 other, 3 some, 4 name -/
noncomputable def b_touches (C : Calls Fn) : Ex :=
  mSeq (mSet (.nm 3) (mBin gAdd (mCall C .reads 2 (mCons (mVar 0) (mCons (mVar 2) (mNil)))) (mCall C .writes 2 (mCons (mVar 0) (mCons (mVar 2) (mNil)))))) (mRet (mBlt gAny (mCons (c1_touches C) (mNil))))
/-- clash: 0 scheme, 1 one, 2 other -/
noncomputable def b_clash (C : Calls Fn) : Ex :=
  mRet (mOr (mCall C .drops 1 (mCons (mVar 1) (mNil))) (mOr (mCall C .drops 1 (mCons (mVar 2) (mNil))) (mOr (mCall C .touches 3 (mCons (mVar 0) (mCons (mVar 1) (mCons (mVar 2) (mNil))))) (mCall C .touches 3 (mCons (mVar 0) (mCons (mVar 2) (mCons (mVar 1) (mNil))))))))
noncomputable def c1_stage_numbers (C : Calls Fn) : Ev D := mLc (.nm 6) [6] (mRange (mCons (mVar 3) (mNil))) (mTru (mCall C .clash 3 (mCons (mVar 0) (mCons (mBin gIx (mVar 1) (mVar 6)) (mCons (mVar 4) (mNil)))))) (mBin gAdd (mBin gIx (mVar 2) (mVar 6)) (mC (.int 1)))
noncomputable def f1_stage_numbers (C : Calls Fn) : Ex := mFor (.tp [3, 4]) (mEnum (mCons (mVar 1) (mNil))) (mSeq (mSet (.nm 5) (c1_stage_numbers C)) (mExpr (mMth "list" gAppend (mVar 2) (mCons (mBlt gMax (mCons (mBin gAdd (mVar 5) (mLst (mCons (mC (.int 0)) (mNil)))) (mNil))) (mNil)))))
/-- stage_numbers: 0 scheme, 1 deeds, 2 found, 3 at, 4 deed, 5 late, 6 other -/
noncomputable def b_stage_numbers (C : Calls Fn) : Ex :=
  mSeq (mSet (.nm 2) (mLstR (mNil))) (mSeq (f1_stage_numbers C) (mRet (mVar 2)))
noncomputable def c1_stages (C : Calls Fn) : Ev D := mLc (.tp [6, 7]) [6, 7] (mEnum (mCons (mVar 2) (mNil))) (mTru (mBin gEq (mVar 7) (mVar 5))) (mVar 6)
noncomputable def f1_stages (C : Calls Fn) : Ex := mFor (.nm 5) (mRange (mCons (mVar 3) (mNil))) (mExpr (mMth "list" gAppend (mVar 4) (mCons (mBlt gTuple (mCons (c1_stages C) (mNil))) (mNil))))
/-- stages: 0 scheme, 1 deeds, 2 numbers, 3 many, 4 found, 5 stage, 6 at, 7 number -/
noncomputable def b_stages (C : Calls Fn) : Ex :=
  mSeq (mSet (.nm 2) (mCall C .stage_numbers 2 (mCons (mVar 0) (mCons (mVar 1) (mNil))))) (mSeq (mSet (.nm 3) (mBin gAdd (mBlt gMax (mCons (mBin gAdd (mVar 2) (mLst (mCons (mBin gSub (mC (.int 0)) (mC (.int 1))) (mNil)))) (mNil))) (mC (.int 1)))) (mSeq (mSet (.nm 4) (mLstR (mNil))) (mSeq (f1_stages C) (mRet (mBlt gTuple (mCons (mVar 4) (mNil)))))))
noncomputable def c1_is_chain (C : Calls Fn) : Ev D := mLc (.nm 6) [6] (mIter (mVar 2)) (mYes) (mCall C .is_whole 3 (mCons (mVar 6) (mCons (mC (.int 0)) (mCons (mBin gSub (mBlt gLen (mCons (mVar 1) (mNil))) (mC (.int 1))) (mNil)))))
noncomputable def c2_is_chain (C : Calls Fn) : Ev D := mLc (.tp [4, 5]) [4, 5] (mIter (mVar 3)) (mYes) (mAnd (mBin gLt (mVar 4) (mVar 5)) (mCall C .clash 3 (mCons (mVar 0) (mCons (mBin gIx (mVar 1) (mVar 4)) (mCons (mBin gIx (mVar 1) (mVar 5)) (mNil))))))
/-- is_chain: 0 scheme, 1 deeds, 2 thing, 3 pairs, 4 one, 5 other, 6 at -/
noncomputable def b_is_chain (C : Calls Fn) : Ex :=
  mSeq (mIf (mOrT (mNotT (mTru (mBlt gIsi (mCons (mVar 2) (mCons (mC (.ty "tuple")) (mNil)))))) (mNotT (mTru (mBlt gAll (mCons (c1_is_chain C) (mNil)))))) (mRet (mC (.bl false))) (mSkip)) (mSeq (mSet (.nm 3) (mListZip (mCons (mSl (mVar 2) none (some (mNeg (mC (.int 1))))) (mCons (mSl (mVar 2) (some (mC (.int 1))) none) (mNil))))) (mRet (mBlt gAll (mCons (c2_is_chain C) (mNil)))))
noncomputable def c1_chain (C : Calls Fn) : Ev D := mLc (.nm 5) [5] (mIter (mVar 3)) (mTru (mCall C .is_chain 3 (mCons (mVar 0) (mCons (mVar 1) (mCons (mBin gAdd (mVar 5) (mTup (mCons (mVar 4) (mNil)))) (mNil)))))) (mBin gAdd (mVar 5) (mTup (mCons (mVar 4) (mNil))))
noncomputable def f1_chain (C : Calls Fn) : Ex := mFor (.nm 4) (mRange (mCons (mBlt gLen (mCons (mVar 1) (mNil))) (mNil))) (mSet (.nm 3) (mBin gAdd (mVar 3) (c1_chain C)))
noncomputable def c2_chain (C : Calls Fn) : Ev D := mLc (.nm 5) [5] (mIter (mVar 3)) (mTru (mBin gEq (mBlt gLen (mCons (mVar 5) (mNil))) (mVar 2))) (mVar 5)
/-- chain: 0 scheme, 1 deeds, 2 many, 3 found, 4 at, 5 some -/
noncomputable def b_chain (C : Calls Fn) : Ex :=
  mSeq (mSet (.nm 2) (mBlt gLen (mCons (mCall C .stages 2 (mCons (mVar 0) (mCons (mVar 1) (mNil)))) (mNil)))) (mSeq (mSet (.nm 3) (mLst (mCons (mTup (mNil)) (mNil)))) (mSeq (f1_chain C) (mRet (mBlt gMin (mCons (c2_chain C) (mNil))))))
/-- _law_cell_at: 0 script, 1 k -/
noncomputable def b__law_cell_at (C : Calls Fn) : Ex :=
  mSeq (mIf (mTru (mBin gLt (mVar 1) (mBlt gLen (mCons (mVar 0) (mNil))))) (mRet (mBin gIx (mVar 0) (mVar 1))) (mSkip)) (mRet (mC (.int 0)))
/-- _law_mixed: 0 script, 1 k, 2 drawn -/
noncomputable def b__law_mixed (C : Calls Fn) : Ex :=
  mSeq (mSet (.nm 2) (mBin gMod (mBin gMulA (mBin gAdd (mBin gAdd (mCall C ._law_cell_at 2 (mCons (mVar 0) (mCons (mVar 1) (mNil)))) (mBin gMulA (mC (.int 7919)) (mVar 1))) (mC (.int 1))) (mC (.int 48271))) (mC (.int 2147483647)))) (mRet (mBin gMod (mBin gAdd (mBin gAdd (mBin gMulA (mVar 2) (mVar 2)) (mBin gMulA (mC (.int 7)) (mVar 2))) (mVar 1)) (mC (.int 2147483629))))
/-- _law_drawn: 0 number, 1 k, 2 drawn -/
noncomputable def b__law_drawn (C : Calls Fn) : Ex :=
  mSeq (mSet (.nm 2) (mBin gMod (mBin gMulA (mBin gAdd (mBin gAdd (mVar 0) (mBin gMulA (mC (.int 104729)) (mVar 1))) (mC (.int 17))) (mC (.int 69621))) (mC (.int 2147483647)))) (mRet (mBin gMod (mBin gAdd (mBin gAdd (mBin gMulA (mVar 2) (mVar 2)) (mBin gMulA (mC (.int 3)) (mVar 2))) (mVar 1)) (mC (.int 2147483629))))
noncomputable def c1__law_scheme (C : Calls Fn) : Ev D := mLc (.nm 6) [6] (mRange (mCons (mBin gAdd (mC (.int 1)) (mBin gMod (mVar 3) (mC (.int 4)))) (mNil))) (mYes) (mBin gIx (mVar 4) (mBin gMod (mBin gDiv (mCall C ._law_drawn 2 (mCons (mVar 3) (mCons (mVar 6) (mNil)))) (mC (.int 4))) (mC (.int 26))))
noncomputable def f1__law_scheme (C : Calls Fn) : Ex := mFor (.nm 2) (mRange (mCons (mBin gAdd (mC (.int 2)) (mBin gMod (mVar 0) (mC (.int 5)))) (mNil))) (mSeq (mSet (.nm 3) (mBin gDiv (mCall C ._law_drawn 2 (mCons (mVar 0) (mCons (mVar 2) (mNil)))) (mC (.int 4)))) (mSeq (mSet (.nm 4) (mC (.str "abcdefghijklmnopqrstuvwxyz"))) (mSeq (mSet (.nm 5) (mMth "str" gJoin (mC (.str "")) (mCons (c1__law_scheme C) (mNil)))) (mSetI (mVar 1) (mVar 5) (mBin gIx (mTup (mCons (mC (.str "mark")) (mCons (mC (.str "number")) (mCons (mC (.str "text")) (mCons (mC (.str "link")) (mCons (mC (.str "tree")) (mCons (mC (.str "tree")) (mCons (mC (.str "link")) (mCons (mC (.str "number")) (mNil)))))))))) (mBin gMod (mBin gDiv (mVar 3) (mC (.int 8))) (mC (.int 8))))))))
/-- _law_scheme: 0 number, 1 book, 2 k, 3 drawn, 4 letters, 5 name, 6 n -/
noncomputable def b__law_scheme (C : Calls Fn) : Ex :=
  mSeq (mSet (.nm 1) (mDicR)) (mSeq (f1__law_scheme C) (mRet (mBlt gTuple (mCons (mSortItems (mVar 1)) (mNil)))))
noncomputable def c1__law_letters (C : Calls Fn) : Ev D := mLc (.nm 3) [3] (mRange (mCons (mBin gMod (mVar 0) (mBin gAdd (mVar 1) (mC (.int 1)))) (mNil))) (mYes) (mBin gIx (mVar 2) (mBin gMod (mBin gDiv (mCall C ._law_drawn 2 (mCons (mVar 0) (mCons (mVar 3) (mNil)))) (mC (.int 4))) (mC (.int 26))))
/-- _law_letters: 0 number, 1 most, 2 letters, 3 k -/
noncomputable def b__law_letters (C : Calls Fn) : Ex :=
  mSeq (mSet (.nm 2) (mC (.str "abcdefghijklmnopqrstuvwxyz"))) (mRet (mMth "str" gJoin (mC (.str "")) (mCons (c1__law_letters C) (mNil))))
/-- _law_worth: 0 sort, 1 number, 2 handles -/
noncomputable def b__law_worth (C : Calls Fn) : Ex :=
  mSeq (mIf (mTru (mBin gEq (mVar 0) (mC (.str "mark")))) (mRet (mC .non)) (mSkip)) (mSeq (mIf (mTru (mBin gEq (mVar 0) (mC (.str "number")))) (mRet (mBin gSub (mBin gMod (mVar 1) (mBin gIx (mTup (mCons (mC (.int 3)) (mCons (mC (.int 21)) (mCons (mC (.int 1999)) (mNil))))) (mBin gMod (mBin gDiv (mVar 1) (mC (.int 2048))) (mC (.int 3))))) (mBin gIx (mTup (mCons (mC (.int 1)) (mCons (mC (.int 10)) (mCons (mC (.int 999)) (mNil))))) (mBin gMod (mBin gDiv (mVar 1) (mC (.int 2048))) (mC (.int 3)))))) (mSkip)) (mSeq (mIf (mTru (mBin gEq (mVar 0) (mC (.str "text")))) (mRet (mCall C ._law_letters 2 (mCons (mBin gMod (mBin gDiv (mVar 1) (mC (.int 4))) (mC (.int 64))) (mCons (mBin gIx (mTup (mCons (mC (.int 1)) (mCons (mC (.int 6)) (mNil)))) (mBin gMod (mVar 1) (mC (.int 2)))) (mNil))))) (mSkip)) (mSeq (mIf (mOrT (mTru (mBin gEq (mBin gMod (mVar 1) (mC (.int 5))) (mC (.int 0)))) (mTru (mBin gEq (mBlt gLen (mCons (mVar 2) (mNil))) (mC (.int 0))))) (mRet (mC .non)) (mSkip)) (mRet (mBin gIx (mBlt gSorted (mCons (mVar 2) (mNil))) (mBin gMod (mBin gDiv (mVar 1) (mC (.int 8))) (mBlt gLen (mCons (mVar 2) (mNil)))))))))
noncomputable def c1__law_question (C : Calls Fn) : Ev D := mLc (.nm 8) [8] (mIter (mTup (mCons (mC (.int 1)) (mCons (mC (.int 2)) (mNil))))) (mYes) (mCall C ._law_question 3 (mCons (mVar 0) (mCons (mBin gDiv (mCall C ._law_drawn 2 (mCons (mVar 1) (mCons (mVar 8) (mNil)))) (mC (.int 4))) (mCons (mBin gSub (mVar 2) (mC (.int 1))) (mNil)))))
/-- _law_question: 0 scheme, 1 number, 2 deep, 3 kind, 4 name, 5 sort, 6 word, 7 parts, 8 n -/
noncomputable def b__law_question (C : Calls Fn) : Ex :=
  mSeq (mSet (.nm 3) (mBin gMod (mVar 1) (mC (.int 8)))) (mSeq (mSet (.tp [4, 5]) (mBin gIx (mVar 0) (mBin gMod (mBin gDiv (mVar 1) (mC (.int 8))) (mBlt gLen (mCons (mVar 0) (mNil)))))) (mSeq (mIf (mAndT (mTru (mBin gGt (mVar 2) (mC (.int 1)))) (mTru (mBin gLt (mVar 3) (mC (.int 2))))) (mSeq (mSet (.nm 6) (mBin gIx (mTup (mCons (mC (.str "and")) (mCons (mC (.str "or")) (mNil)))) (mVar 3))) (mSeq (mSet (.nm 7) (c1__law_question C)) (mRet (mTup (mCons (mVar 6) (mCons (mBin gIx (mVar 7) (mC (.int 0))) (mCons (mBin gIx (mVar 7) (mC (.int 1))) (mNil)))))))) (mSkip)) (mSeq (mIf (mAndT (mTru (mBin gGt (mVar 2) (mC (.int 1)))) (mTru (mBin gEq (mVar 3) (mC (.int 2))))) (mRet (mTup (mCons (mC (.str "not")) (mCons (mCall C ._law_question 3 (mCons (mVar 0) (mCons (mBin gDiv (mCall C ._law_drawn 2 (mCons (mVar 1) (mCons (mC (.int 1)) (mNil)))) (mC (.int 4))) (mCons (mBin gSub (mVar 2) (mC (.int 1))) (mNil))))) (mNil))))) (mSkip)) (mSeq (mIf (mAndT (mTru (mBin gGt (mVar 2) (mC (.int 1)))) (mAndT (mTru (mBin gLt (mVar 3) (mC (.int 5)))) (mTru (mBin gIn (mVar 5) (mTup (mCons (mC (.str "link")) (mCons (mC (.str "tree")) (mNil)))))))) (mRet (mTup (mCons (mC (.str "leads")) (mCons (mVar 4) (mCons (mCall C ._law_question 3 (mCons (mVar 0) (mCons (mBin gDiv (mCall C ._law_drawn 2 (mCons (mVar 1) (mCons (mC (.int 1)) (mNil)))) (mC (.int 4))) (mCons (mBin gSub (mVar 2) (mC (.int 1))) (mNil))))) (mNil)))))) (mSkip)) (mSeq (mIf (mTru (mBin gEq (mVar 3) (mC (.int 3)))) (mRet (mTup (mCons (mC (.str "all")) (mNil)))) (mSkip)) (mSeq (mIf (mAndT (mTru (mBin gEq (mVar 3) (mC (.int 4)))) (mTru (mBin gEq (mVar 5) (mC (.str "number"))))) (mRet (mTup (mCons (mC (.str "over")) (mCons (mVar 4) (mCons (mBin gSub (mBin gMod (mBin gDiv (mVar 1) (mC (.int 64))) (mC (.int 21))) (mC (.int 10))) (mNil)))))) (mSkip)) (mSeq (mIf (mTru (mBin gLt (mVar 3) (mC (.int 6)))) (mRet (mTup (mCons (mC (.str "is")) (mCons (mVar 4) (mCons (mCall C ._law_worth 3 (mCons (mVar 5) (mCons (mBin gDiv (mVar 1) (mC (.int 64))) (mCons (mLst (mCons (mTup (mCons (mC (.int 0)) (mCons (mC (.int 1)) (mNil)))) (mCons (mTup (mCons (mC (.int 1)) (mCons (mC (.int 1)) (mNil)))) (mCons (mTup (mCons (mC (.int 2)) (mCons (mC (.int 1)) (mNil)))) (mNil))))) (mNil))))) (mNil)))))) (mSkip)) (mRet (mTup (mCons (mC (.str "has")) (mCons (mVar 4) (mNil))))))))))))
noncomputable def c1__law_act (C : Calls Fn) : Ev D := mLc (.nm 6) [6] (mIter (mVar 0)) (mTru (mBin gEq (mBin gIx (mVar 6) (mC (.int 1))) (mC (.str "number")))) (mBin gIx (mVar 6) (mC (.int 0)))
/-- _law_act: 0 scheme, 1 number, 2 may_drop, 3 numbers, 4 name, 5 sort, 6 kind -/
noncomputable def b__law_act (C : Calls Fn) : Ex :=
  mSeq (mSet (.tp [4, 5]) (mBin gIx (mVar 0) (mBin gMod (mBin gDiv (mVar 1) (mC (.int 8))) (mBlt gLen (mCons (mVar 0) (mNil)))))) (mSeq (mSet (.nm 3) (c1__law_act C)) (mSeq (mIf (mAndT (mTru (mBin gEq (mVar 5) (mC (.str "number")))) (mTru (mBin gEq (mBin gMod (mVar 1) (mC (.int 3))) (mC (.int 0))))) (mRet (mTup (mCons (mC (.str "add")) (mCons (mVar 4) (mCons (mBin gSub (mBin gMod (mBin gDiv (mVar 1) (mC (.int 512))) (mC (.int 199))) (mC (.int 99))) (mNil)))))) (mSkip)) (mSeq (mIf (mAndT (mTru (mBin gEq (mVar 5) (mC (.str "number")))) (mTru (mBin gEq (mBin gMod (mVar 1) (mC (.int 3))) (mC (.int 1))))) (mRet (mTup (mCons (mC (.str "copy")) (mCons (mVar 4) (mCons (mBin gIx (mVar 3) (mBin gMod (mBin gDiv (mVar 1) (mC (.int 64))) (mBlt gLen (mCons (mVar 3) (mNil))))) (mNil)))))) (mSkip)) (mSeq (mIf (mAndT (mTru (mBin gIn (mVar 5) (mTup (mCons (mC (.str "mark")) (mCons (mC (.str "text")) (mCons (mC (.str "number")) (mNil))))))) (mTru (mBin gGt (mBin gMod (mVar 1) (mC (.int 4))) (mC (.int 0))))) (mRet (mTup (mCons (mC (.str "put")) (mCons (mVar 4) (mCons (mCall C ._law_worth 3 (mCons (mVar 5) (mCons (mBin gDiv (mVar 1) (mC (.int 512))) (mCons (mLst (mNil)) (mNil))))) (mNil)))))) (mSkip)) (mRet (mBin gIx (mLst (mCons (mTup (mCons (mC (.str "take")) (mCons (mVar 4) (mNil)))) (mCons (mTup (mCons (mC (.str "drop")) (mNil))) (mNil)))) (mBlt gInt (mCons (mAnd (mVar 2) (mBin gEq (mBin gMod (mVar 1) (mC (.int 7))) (mC (.int 0)))) (mNil)))))))))
noncomputable def c1__law_deed (C : Calls Fn) : Ev D := mLc (.nm 5) [5] (mRange (mCons (mBin gAdd (mC (.int 1)) (mBin gMod (mBin gDiv (mVar 1) (mC (.int 4))) (mC (.int 3)))) (mNil))) (mYes) (mCall C ._law_act 3 (mCons (mVar 0) (mCons (mBin gDiv (mCall C ._law_drawn 2 (mCons (mVar 1) (mCons (mBin gAdd (mC (.int 20)) (mVar 5)) (mNil)))) (mC (.int 4))) (mCons (mVar 2) (mNil)))))
/-- _law_deed: 0 scheme, 1 number, 2 may_drop, 3 acts, 4 question, 5 k -/
noncomputable def b__law_deed (C : Calls Fn) : Ex :=
  mSeq (mSet (.nm 3) (mBlt gTuple (mCons (c1__law_deed C) (mNil)))) (mSeq (mSet (.nm 4) (mCall C ._law_question 3 (mCons (mVar 0) (mCons (mBin gDiv (mCall C ._law_drawn 2 (mCons (mVar 1) (mCons (mC (.int 30)) (mNil)))) (mC (.int 4))) (mCons (mBin gAdd (mC (.int 1)) (mBin gMod (mBin gDiv (mVar 1) (mC (.int 64))) (mC (.int 3)))) (mNil)))))) (mRet (mTup (mCons (mBin gAdd (mCall C ._law_letters 2 (mCons (mBin gDiv (mVar 1) (mC (.int 16))) (mCons (mC (.int 3)) (mNil)))) (mC (.str "d"))) (mCons (mVar 4) (mCons (mVar 3) (mNil)))))))
noncomputable def c1__law_is_chain (C : Calls Fn) : Ev D := mLc (.nm 6) [6] (mIter (mVar 2)) (mAndT (mTru (mBlt gIsi (mCons (mVar 6) (mCons (mC (.ty "int")) (mNil))))) (mAndT (mNotT (mTru (mBlt gIsi (mCons (mVar 6) (mCons (mC (.ty "bool")) (mNil)))))) (mTru (mChain gLe gLt (mC (.int 0)) (mVar 6) (mBlt gLen (mCons (mVar 1) (mNil))))))) (mVar 6)
noncomputable def f1__law_is_chain (C : Calls Fn) : Ex := mFor (.tp [4, 5]) (mZip (mCons (mSl (mVar 2) none (some (mNeg (mC (.int 1))))) (mCons (mSl (mVar 2) (some (mC (.int 1))) none) (mNil)))) (mIf (mOrT (mTru (mBin gGe (mVar 4) (mVar 5))) (mNotT (mTru (mCall C .clash 3 (mCons (mVar 0) (mCons (mBin gIx (mVar 1) (mVar 4)) (mCons (mBin gIx (mVar 1) (mVar 5)) (mNil)))))))) (mRet (mC (.bl false))) (mSkip))
/-- _law_is_chain: 0 scheme, 1 deeds, 2 thing, 3 good, 4 one, 5 other, 6 at -/
noncomputable def b__law_is_chain (C : Calls Fn) : Ex :=
  mSeq (mIf (mNotT (mTru (mBlt gIsi (mCons (mVar 2) (mCons (mC (.ty "tuple")) (mNil)))))) (mRet (mC (.bl false))) (mSkip)) (mSeq (mSet (.nm 3) (c1__law_is_chain C)) (mSeq (mIf (mTru (mBin gNe (mBlt gLen (mCons (mVar 3) (mNil))) (mBlt gLen (mCons (mVar 2) (mNil))))) (mRet (mC (.bl false))) (mSkip)) (mSeq (f1__law_is_chain C) (mRet (mC (.bl true))))))
noncomputable def c1_law (C : Calls Fn) : Ev D := mLc (.nm 14) [14] (mRange (mCons (mBin gMod (mCall C ._law_mixed 2 (mCons (mVar 0) (mCons (mC (.int 1)) (mNil)))) (mC (.int 7))) (mNil))) (mYes) (mCall C ._law_deed 3 (mCons (mVar 1) (mCons (mCall C ._law_mixed 2 (mCons (mVar 0) (mCons (mBin gAdd (mC (.int 2)) (mVar 14)) (mNil)))) (mCons (mBin gEq (mVar 14) (mC (.int 3))) (mNil)))))
noncomputable def c2_law (C : Calls Fn) : Ev D := mLc (.nm 16) [16] (mIter (mVar 11)) (mAndT (mTru (mBin gNe (mVar 16) (mVar 12))) (mTru (mCall C .clash 3 (mCons (mVar 1) (mCons (mBin gIx (mVar 2) (mVar 12)) (mCons (mBin gIx (mVar 2) (mVar 16)) (mNil))))))) (mVar 16)
noncomputable def c3_law (C : Calls Fn) : Ev D := mLc (.nm 16) [16] (mIter (mBin gIx (mVar 3) (mBin gSub (mVar 10) (mC (.int 1))))) (mAndT (mTru (mBin gLt (mVar 16) (mVar 12))) (mTru (mCall C .clash 3 (mCons (mVar 1) (mCons (mBin gIx (mVar 2) (mVar 12)) (mCons (mBin gIx (mVar 2) (mVar 16)) (mNil))))))) (mVar 16)
noncomputable def f1_law (C : Calls Fn) : Ex := mFor (.nm 12) (mIter (mVar 11)) (mSeq (mIf (mTru (mBin gNe (c2_law C) (mLst (mNil)))) (mRet (mC (.bl false))) (mSkip)) (mIf (mTru (mBin gGt (mVar 10) (mC (.int 0)))) (mSeq (mSet (.nm 15) (c3_law C)) (mIf (mTru (mBin gEq (mVar 15) (mLst (mNil)))) (mRet (mC (.bl false))) (mSkip))) (mSkip)))
noncomputable def f2_law (C : Calls Fn) : Ex := mFor (.tp [10, 11]) (mEnum (mCons (mVar 3) (mNil))) (mSeq (mSet (.nm 4) (mBin gAdd (mVar 4) (mVar 11))) (f1_law C))
noncomputable def c4_law (C : Calls Fn) : Ev D := mLc (.nm 14) [14] (mRange (mCons (mBin gMod (mVar 6) (mC (.int 7))) (mNil))) (mYes) (mBin gMod (mBin gDiv (mCall C ._law_drawn 2 (mCons (mVar 6) (mCons (mVar 14) (mNil)))) (mC (.int 4))) (mBin gAdd (mBlt gLen (mCons (mVar 2) (mNil))) (mC (.int 1))))
noncomputable def f3_law (C : Calls Fn) : Ex := mFor (.nm 9) (mIter (mTup (mCons (mVar 7) (mCons (mBlt gTuple (mCons (mSortSet (mVar 7)) (mNil))) (mCons (mBin gIx (mVar 8) (mBin gMod (mBin gDiv (mVar 6) (mC (.int 8))) (mC (.int 9)))) (mCons (mTup (mNil)) (mNil))))))) (mSeq (mSet (.nm 13) (mCall C .is_chain 3 (mCons (mVar 1) (mCons (mVar 2) (mCons (mVar 9) (mNil)))))) (mSeq (mIf (mOrT (mNotT (mTru (mBlt gIsi (mCons (mVar 13) (mCons (mC (.ty "bool")) (mNil)))))) (mTru (mBin gNe (mVar 13) (mCall C ._law_is_chain 3 (mCons (mVar 1) (mCons (mVar 2) (mCons (mVar 9) (mNil)))))))) (mRet (mC (.bl false))) (mSkip)) (mIf (mAndT (mTru (mVar 13)) (mTru (mBin gGt (mBlt gLen (mCons (mVar 9) (mNil))) (mBlt gLen (mCons (mVar 3) (mNil)))))) (mRet (mC (.bl false))) (mSkip))))
noncomputable def t12_law (C : Calls Fn) : Ex := mRet (mC (.bl true))
noncomputable def t11_law (C : Calls Fn) : Ex := mSeq (f3_law C) (t12_law C)
noncomputable def t10_law (C : Calls Fn) : Ex := mSeq (mSet (.nm 8) (mLst (mCons (mC .non) (mCons (mBlt gList (mCons (mVar 5) (mNil))) (mCons (mBin gAdd (mVar 5) (mTup (mCons (mC (.int 9)) (mNil)))) (mCons (mBin gAdd (mVar 5) (mTup (mCons (mNeg (mC (.int 1))) (mNil)))) (mCons (mTup (mCons (mC (.bl true)) (mNil))) (mCons (mTup (mCons (mC (.str "0")) (mNil))) (mCons (mRevT (mVar 5)) (mCons (mBin gMulB (mVar 5) (mC (.int 2))) (mCons (mTupRg (mBlt gLen (mCons (mVar 2) (mNil)))) (mNil)))))))))))) (t11_law C)
noncomputable def t9_law (C : Calls Fn) : Ex := mSeq (mSet (.nm 7) (mBlt gTuple (mCons (c4_law C) (mNil)))) (t10_law C)
noncomputable def t8_law (C : Calls Fn) : Ex := mSeq (mSet (.nm 6) (mCall C ._law_mixed 2 (mCons (mVar 0) (mCons (mC (.int 9)) (mNil))))) (t9_law C)
noncomputable def t7_law (C : Calls Fn) : Ex := mSeq (mIf (mOrT (mTru (mBin gNe (mBlt gLen (mCons (mVar 5) (mNil))) (mBlt gLen (mCons (mVar 3) (mNil))))) (mTru (mBin gIsNot2 (mCall C .is_chain 3 (mCons (mVar 1) (mCons (mVar 2) (mCons (mVar 5) (mNil))))) (mC (.bl true))))) (mRet (mC (.bl false))) (mSkip)) (t8_law C)
noncomputable def t6_law (C : Calls Fn) : Ex := mSeq (mSet (.nm 5) (mCall C .chain 2 (mCons (mVar 1) (mCons (mVar 2) (mNil))))) (t7_law C)
noncomputable def t5_law (C : Calls Fn) : Ex := mSeq (mIf (mOrT (mTru (mBin gNe (mBlt gSorted2 (mCons (mVar 4) (mNil))) (mLstRg (mBlt gLen (mCons (mVar 2) (mNil)))))) (mTru (mBin gIn (mTup (mNil)) (mVar 3)))) (mRet (mC (.bl false))) (mSkip)) (t6_law C)
noncomputable def t4_law (C : Calls Fn) : Ex := mSeq (f2_law C) (t5_law C)
noncomputable def t3_law (C : Calls Fn) : Ex := mSeq (mSet (.nm 4) (mTup (mNil))) (t4_law C)
noncomputable def t2_law (C : Calls Fn) : Ex := mSeq (mSet (.nm 3) (mCall C .stages 2 (mCons (mVar 1) (mCons (mVar 2) (mNil))))) (t3_law C)
noncomputable def t1_law (C : Calls Fn) : Ex := mSeq (mSet (.nm 2) (mBlt gTuple (mCons (c1_law C) (mNil)))) (t2_law C)
/-- law: 0 script, 1 scheme, 2 deeds, 3 some, 4 every, 5 its, 6 number, 7 drawn, 8 odd, 9 thing, 10 at, 11 stage, 12 one, 13 found, 14 k, 15 near, 16 other -/
noncomputable def b_law (C : Calls Fn) : Ex :=
  mSeq (mSet (.nm 1) (mCall C ._law_scheme 1 (mCons (mCall C ._law_mixed 2 (mCons (mVar 0) (mCons (mC (.int 0)) (mNil)))) (mNil)))) (t1_law C)
noncomputable def tb : Fn → Df Fn
  | .is_whole => ⟨3, false, b_is_whole⟩
  | .names_of => ⟨2, false, b_names_of⟩
  | .names_in => ⟨3, false, b_names_in⟩
  | .drops => ⟨1, false, b_drops⟩
  | .in_order => ⟨3, false, b_in_order⟩
  | .reads => ⟨4, true, b_reads⟩
  | .writes => ⟨4, true, b_writes⟩
  | .touches => ⟨5, false, b_touches⟩
  | .clash => ⟨3, false, b_clash⟩
  | .stage_numbers => ⟨7, false, b_stage_numbers⟩
  | .stages => ⟨8, true, b_stages⟩
  | .is_chain => ⟨7, false, b_is_chain⟩
  | .chain => ⟨6, false, b_chain⟩
  | ._law_cell_at => ⟨2, false, b__law_cell_at⟩
  | ._law_mixed => ⟨3, false, b__law_mixed⟩
  | ._law_drawn => ⟨3, false, b__law_drawn⟩
  | ._law_scheme => ⟨7, true, b__law_scheme⟩
  | ._law_letters => ⟨4, false, b__law_letters⟩
  | ._law_worth => ⟨3, false, b__law_worth⟩
  | ._law_question => ⟨9, false, b__law_question⟩
  | ._law_act => ⟨7, false, b__law_act⟩
  | ._law_deed => ⟨6, false, b__law_deed⟩
  | ._law_is_chain => ⟨7, false, b__law_is_chain⟩
  | .law => ⟨17, false, b_law⟩
theorem u_is_whole (m : Nat) (a0 a1 a2 : D) (h : Hq) : Mi.run tb (m + 1) .is_whole [a0, a1, a2] h = (b_is_whole (Mi.run tb m) [some a0, some a1, some a2] h).res := rfl
theorem u_names_of (m : Nat) (a0 : D) (h : Hq) : Mi.run tb (m + 1) .names_of [a0] h = (b_names_of (Mi.run tb m) [some a0, none] h).res := rfl
theorem u_names_in (m : Nat) (a0 : D) (h : Hq) : Mi.run tb (m + 1) .names_in [a0] h = (b_names_in (Mi.run tb m) [some a0, none, none] h).res := rfl
theorem u_drops (m : Nat) (a0 : D) (h : Hq) : Mi.run tb (m + 1) .drops [a0] h = (b_drops (Mi.run tb m) [some a0] h).res := rfl
theorem u_in_order (m : Nat) (a0 a1 : D) (h : Hq) : Mi.run tb (m + 1) .in_order [a0, a1] h = (b_in_order (Mi.run tb m) [some a0, some a1, none] h).res := rfl
theorem u_reads (m : Nat) (a0 a1 : D) (h : Hq) : Mi.run tb (m + 1) .reads [a0, a1] h = gcR h (b_reads (Mi.run tb m) [some a0, some a1, none, none] h).res := rfl
theorem u_writes (m : Nat) (a0 a1 : D) (h : Hq) : Mi.run tb (m + 1) .writes [a0, a1] h = gcR h (b_writes (Mi.run tb m) [some a0, some a1, none, none] h).res := rfl
theorem u_touches (m : Nat) (a0 a1 a2 : D) (h : Hq) : Mi.run tb (m + 1) .touches [a0, a1, a2] h = (b_touches (Mi.run tb m) [some a0, some a1, some a2, none, none] h).res := rfl
theorem u_clash (m : Nat) (a0 a1 a2 : D) (h : Hq) : Mi.run tb (m + 1) .clash [a0, a1, a2] h = (b_clash (Mi.run tb m) [some a0, some a1, some a2] h).res := rfl
theorem u_stage_numbers (m : Nat) (a0 a1 : D) (h : Hq) : Mi.run tb (m + 1) .stage_numbers [a0, a1] h = (b_stage_numbers (Mi.run tb m) [some a0, some a1, none, none, none, none, none] h).res := rfl
theorem u_stages (m : Nat) (a0 a1 : D) (h : Hq) : Mi.run tb (m + 1) .stages [a0, a1] h = gcR h (b_stages (Mi.run tb m) [some a0, some a1, none, none, none, none, none, none] h).res := rfl
theorem u_is_chain (m : Nat) (a0 a1 a2 : D) (h : Hq) : Mi.run tb (m + 1) .is_chain [a0, a1, a2] h = (b_is_chain (Mi.run tb m) [some a0, some a1, some a2, none, none, none, none] h).res := rfl
theorem u_chain (m : Nat) (a0 a1 : D) (h : Hq) : Mi.run tb (m + 1) .chain [a0, a1] h = (b_chain (Mi.run tb m) [some a0, some a1, none, none, none, none] h).res := rfl
theorem u__law_cell_at (m : Nat) (a0 a1 : D) (h : Hq) : Mi.run tb (m + 1) ._law_cell_at [a0, a1] h = (b__law_cell_at (Mi.run tb m) [some a0, some a1] h).res := rfl
theorem u__law_mixed (m : Nat) (a0 a1 : D) (h : Hq) : Mi.run tb (m + 1) ._law_mixed [a0, a1] h = (b__law_mixed (Mi.run tb m) [some a0, some a1, none] h).res := rfl
theorem u__law_drawn (m : Nat) (a0 a1 : D) (h : Hq) : Mi.run tb (m + 1) ._law_drawn [a0, a1] h = (b__law_drawn (Mi.run tb m) [some a0, some a1, none] h).res := rfl
theorem u__law_scheme (m : Nat) (a0 : D) (h : Hq) : Mi.run tb (m + 1) ._law_scheme [a0] h = gcR h (b__law_scheme (Mi.run tb m) [some a0, none, none, none, none, none, none] h).res := rfl
theorem u__law_letters (m : Nat) (a0 a1 : D) (h : Hq) : Mi.run tb (m + 1) ._law_letters [a0, a1] h = (b__law_letters (Mi.run tb m) [some a0, some a1, none, none] h).res := rfl
theorem u__law_worth (m : Nat) (a0 a1 a2 : D) (h : Hq) : Mi.run tb (m + 1) ._law_worth [a0, a1, a2] h = (b__law_worth (Mi.run tb m) [some a0, some a1, some a2] h).res := rfl
theorem u__law_question (m : Nat) (a0 a1 a2 : D) (h : Hq) : Mi.run tb (m + 1) ._law_question [a0, a1, a2] h = (b__law_question (Mi.run tb m) [some a0, some a1, some a2, none, none, none, none, none, none] h).res := rfl
theorem u__law_act (m : Nat) (a0 a1 a2 : D) (h : Hq) : Mi.run tb (m + 1) ._law_act [a0, a1, a2] h = (b__law_act (Mi.run tb m) [some a0, some a1, some a2, none, none, none, none] h).res := rfl
theorem u__law_deed (m : Nat) (a0 a1 a2 : D) (h : Hq) : Mi.run tb (m + 1) ._law_deed [a0, a1, a2] h = (b__law_deed (Mi.run tb m) [some a0, some a1, some a2, none, none, none] h).res := rfl
theorem u__law_is_chain (m : Nat) (a0 a1 a2 : D) (h : Hq) : Mi.run tb (m + 1) ._law_is_chain [a0, a1, a2] h = (b__law_is_chain (Mi.run tb m) [some a0, some a1, some a2, none, none, none, none] h).res := rfl
theorem u_law (m : Nat) (a0 : D) (h : Hq) : Mi.run tb (m + 1) .law [a0] h = (b_law (Mi.run tb m) [some a0, none, none, none, none, none, none, none, none, none, none, none, none, none, none, none, none] h).res := rfl
end L82
namespace L82
open PySem L2 Mi
noncomputable abbrev rn := Mi.run tb
def cell (ns : List Int) (k : Nat) : Int := ns.getD k 0
def scr (ns : List Int) : D := .klst (ns.map .int)
theorem r_cell (ns : List Int) (k : Nat) (h : Hq) (m : Nat) : rn (m + 1) ._law_cell_at [scr ns, .int k] h = .ok (.int (cell ns k)) h := by
  unfold rn
  rw [u__law_cell_at, b__law_cell_at]
  by_cases hk : k < ns.length
  · have e : (ns.map D.int)[k]? = some (.int (cell ns k)) := by simp [cell, hk]
    simp [scr, hk, g_ixK e]
  · have e : cell ns k = 0 := by unfold cell; rw [List.getD_eq_getElem?_getD, List.getElem?_eq_none (by omega)]; rfl
    simp [scr, hk, e]
def mix0 (c : Int) (k : Int) : Int := (c + 7919 * k + 1) * 48271 % 2147483647
def mix (c : Int) (k : Int) : Int := (mix0 c k * mix0 c k + 7 * mix0 c k + k) % 2147483629
theorem r_mixed (ns : List Int) (k : Nat) (h : Hq) (m : Nat) : rn (m + 2) ._law_mixed [scr ns, .int k] h = .ok (.int (mix (cell ns k) k)) h := by
  unfold rn
  rw [u__law_mixed, b__law_mixed]
  simp [r_cell, g_mul, g_mod, okI_mod, mix, mix0]
def drw0 (c : Int) (k : Int) : Int := (c + 104729 * k + 17) * 69621 % 2147483647
def drw (c : Int) (k : Int) : Int := (drw0 c k * drw0 c k + 3 * drw0 c k + k) % 2147483629
theorem r_drawn (c k : Int) (h : Hq) (m : Nat) : rn (m + 1) ._law_drawn [.int c, .int k] h = .ok (.int (drw c k)) h := by
  unfold rn
  rw [u__law_drawn, b__law_drawn]
  simp [g_mul, g_mod, okI_mod, drw, drw0]
/-! ### schemes -/
def nmOf (d : Int) : Str := Txt.join "" ((List.range (1 + d % 4).toNat).map fun n : Nat => lett (drw d n / 4 % 26))
def sorts : List Str := ["mark", "number", "text", "link", "tree", "tree", "link", "number"]
def soOf (d : Int) : Str := sorts.getD (d / 8 % 8).toNat ""
def bkS (c : Int) (b : List (Str × Str)) (k : Nat) : List (Str × Str) := put b (nmOf (drw c k / 4)) (soOf (drw c k / 4))
def bk (c : Int) (ks : List Nat) : List (Str × Str) := ks.foldl (bkS c) []
def schemeOf (c : Int) : List (Str × Str) := (bk c (List.range (2 + c % 5).toNat)).mergeSort leB
theorem bk_facts (c : Int) (ks : List Nat) : ((bk c ks).map (·.1)).Nodup ∧ (bk c ks).length ≤ ks.length ∧ (ks ≠ [] → bk c ks ≠ []) := by
  unfold bk
  suffices h : ∀ (ks : List Nat) (b : List (Str × Str)), (b.map (·.1)).Nodup → ((ks.foldl (bkS c) b).map (·.1)).Nodup ∧ (ks.foldl (bkS c) b).length ≤ b.length + ks.length ∧ ((b ≠ [] ∨ ks ≠ []) → ks.foldl (bkS c) b ≠ []) by
    have := h ks [] (by simp)
    exact ⟨this.1, by simpa using this.2.1, fun z => this.2.2 (.inr z)⟩
  intro ks
  induction ks with
  | nil => exact fun b hb => ⟨hb, by simp, fun z => z.elim id (fun z => absurd rfl z)⟩
  | cons k ks ih =>
    intro b hb
    have l := put_len b (nmOf (drw c k / 4)) (soOf (drw c k / 4))
    obtain ⟨a1, a2, a3⟩ := ih (bkS c b k) (put_nodup hb _ _)
    refine ⟨a1, ?_, fun _ => a3 (.inl fun z => ?_)⟩
    · rw [List.foldl_cons]
      have : (bkS c b k).length ≤ b.length + 1 := l.1
      rw [List.length_cons]
      omega
    · have z2 : (put b (nmOf (drw c k / 4)) (soOf (drw c k / 4))).length = 0 := by
        have : put b (nmOf (drw c k / 4)) (soOf (drw c k / 4)) = [] := z
        rw [this]; rfl
      omega
theorem scheme_facts (c : Int) : ((schemeOf c).map (·.1)).Nodup ∧ (schemeOf c).length ≤ 6 ∧ schemeOf c ≠ [] := by
  obtain ⟨a, b, d⟩ := bk_facts c (List.range (2 + c % 5).toNat)
  have p : (schemeOf c).Perm (bk c (List.range (2 + c % 5).toNat)) := List.mergeSort_perm _ _
  refine ⟨(p.map (·.1)).nodup_iff.mpr a, ?_, fun z => ?_⟩
  · rw [p.length_eq]
    rw [List.length_range] at b
    omega
  · rw [z] at p
    have := d (by simp; omega)
    exact this p.symm.eq_nil
theorem sorts_at {d : Int} {h : Hq} : gIx (.tup [.str "mark", .str "number", .str "text", .str "link", .str "tree", .str "tree", .str "link", .str "number"]) (.int (d / 8 % 8)) h = some (.str (soOf d), h) := by
  unfold soOf
  obtain ⟨n, hz⟩ : ∃ n : Nat, d / 8 % 8 = n := ⟨(d / 8 % 8).toNat, by omega⟩
  rw [hz]
  have hn : n < 8 := by omega
  have e : (sorts.map D.str)[n]? = some (.str (sorts.getD n "")) := by
    rw [List.getElem?_map, List.getD_eq_getElem?_getD, List.getElem?_eq_getElem (show n < sorts.length from hn)]; rfl
  exact g_ixT e
theorem r_scheme (c : Int) (h : Hq) (m : Nat) : rn (m + 2) ._law_scheme [.int c] h = .ok (.tup ((schemeOf c).map encP)) h := by
  unfold rn
  rw [u__law_scheme, b__law_scheme]
  have key : ∃ ρ' h', f1__law_scheme (Mi.run tb (m + 1)) [some (.int c), some (.ref h.length), none, none, none, none, none] (h ++ [.dic []]) = .nx ρ' h' ∧
      (∃ x2 x3 x4 x5, ρ' = [some (.int c), some (.ref h.length), x2, x3, x4, x5, none]) ∧ h' = h ++ [.dic ((bk c (List.range (2 + c % 5).toNat)).map e2)] := by
    unfold f1__law_scheme
    refine for_inv (c := none) (fun i : Nat => D.int i) (List.range (2 + c % 5).toNat) (fun done ρ h' => (∃ x2 x3 x4 x5, ρ = [some (.int c), some (.ref h.length), x2, x3, x4, x5, none]) ∧ h' = h ++ [.dic ((bk c done).map e2)])
      (h1 := h ++ [.dic []]) ?_ ⟨⟨none, none, none, none, rfl⟩, rfl⟩ (fun _ _ _ _ => trivial) ?_
    · have e1 : -1000000 ≤ 2 + c % 5 ∧ 2 + c % 5 ≤ 1000000 := by omega
      simp [g_mod, e1, upto]
    · rintro d k t ρ h' hd ⟨⟨x2, x3, x4, x5, rfl⟩, rfl⟩
      refine ⟨_, rfl, [some (.int c), some (.ref h.length), some (.int k), some (.int (drw c k / 4)), some (.str abc), some (.str (nmOf (drw c k / 4))), none], h ++ [.dic ((bk c (d ++ [k])).map e2)], .inl ?_, ⟨_, _, _, _, rfl⟩, rfl⟩
      obtain ⟨y, hy⟩ : ∃ y, y = drw c k / 4 := ⟨_, rfl⟩
      have lc : c1__law_scheme (Mi.run tb (m + 1)) [some (.int c), some (.ref h.length), some (.int k), some (.int y), some (.str abc), x5, none] (h ++ [.dic ((bk c d).map e2)])
          = .ok (.lst ((List.range (1 + y % 4).toNat).map fun n : Nat => .str (lett (drw y n / 4 % 26)))) (h ++ [.dic ((bk c d).map e2)]) := by
        unfold c1__law_scheme
        refine lc_map (c := none) (fun i : Nat => D.int i) _ _ ?_ trivial fun n hn => ⟨_, rfl, ?_⟩
        · have e1 : -1000000 ≤ 1 + y % 4 ∧ 1 + y % 4 ≤ 1000000 := by omega
          simp [g_mod, e1, upto]
        · have e0 : 0 ≤ drw y n / 4 % 26 ∧ drw y n / 4 % 26 < 26 := by omega
          simp [wipeD, r_drawn, g_div, g_mod, g_abc e0.1 e0.2]
      have hj : gJoin (.str "") [.lst ((List.range (1 + y % 4).toNat).map fun n : Nat => .str (lett (drw y n / 4 % 26)))] (h ++ [.dic ((bk c d).map e2)]) = some (.str (nmOf y), h ++ [.dic ((bk c d).map e2)]) := by
        have := g_join (h := h ++ [.dic ((bk c d).map e2)]) ((List.range (1 + y % 4).toNat).map fun n : Nat => lett (drw y n / 4 % 26)) (by
          rw [List.map_map]
          have : ((fun x : Str => x.length) ∘ fun n : Nat => lett (drw y n / 4 % 26)) = fun _ => 1 := rfl
          rw [this]
          have : (List.map (fun _ : Nat => 1) (List.range (1 + y % 4).toNat)).sum = (1 + y % 4).toNat := by
            rw [List.map_const', List.sum_replicate_nat, List.length_range]; simp
          rw [this]; omega)
        rw [List.map_map] at this
        exact this
      have hl : (bk c d).length < sizeLine := by
        have h1 := (bk_facts c d).2.1
        have h2 : d.length ≤ (2 + c % 5).toNat := by
          have := congrArg List.length hd
          simp at this
          omega
        have : sizeLine = 16777216 := rfl
        omega
      have hb : bk c (d ++ [k]) = put (bk c d) (nmOf y) (soOf y) := by rw [hy]; unfold bk; rw [List.foldl_append]; rfl
      have ha : (("abcdefghijklmnopqrstuvwxyz" : String) : Str) = abc := rfl
      simp only [ha] at lc ⊢
      rw [hb, ← hy]
      have e10 := g_setLast (h := h) (bk c d) (nmOf y) (soOf y) hl
      simp [r_drawn, g_div, g_mod, ← hy, lc, hj, tyOk, sorts_at, e10]
  obtain ⟨ρ', h', e, ⟨x2, x3, x4, x5, rfl⟩, rfl⟩ := key
  have es := sortItems_e2 (f := mVar 1) (ρ := [some (.int c), some (.ref h.length), x2, x3, x4, x5, none]) (h := h ++ [.dic ((bk c (List.range (2 + c % 5).toNat)).map e2)]) rfl getL_last
  simp [e, es]
  exact gcR_ok (d := .tup ((schemeOf c).map encP)) (by rw [D.nr]; exact encP_nr _) List.take_left
end L82
namespace L82
open PySem L2 Mi
/-! ### questions and deeds -/
inductive Qs where
  | all
  | has (n : Str)
  | is (n : Str) (w : D)
  | over (n : Str) (i : Int)
  | leads (n : Str) (q : Qs)
  | not (q : Qs)
  | and (p q : Qs)
  | or (p q : Qs)
def Qs.enc : Qs → D
  | .all => .tup [.str "all"]
  | .has n => .tup [.str "has", .str n]
  | .is n w => .tup [.str "is", .str n, w]
  | .over n i => .tup [.str "over", .str n, .int i]
  | .leads n q => .tup [.str "leads", .str n, q.enc]
  | .not q => .tup [.str "not", q.enc]
  | .and p q => .tup [.str "and", p.enc, q.enc]
  | .or p q => .tup [.str "or", p.enc, q.enc]
def Qs.dq : Qs → Nat
  | .leads _ q => q.dq + 1
  | .not q => q.dq + 1
  | .and p q => max p.dq q.dq + 1
  | .or p q => max p.dq q.dq + 1
  | _ => 1
def Qs.names : Qs → List Str
  | .all => []
  | .has n => [n]
  | .is n _ => [n]
  | .over n _ => [n]
  | .leads n q => n :: q.names
  | .not q => q.names
  | .and p q => p.names ++ q.names
  | .or p q => p.names ++ q.names
theorem Qs.names_len (q : Qs) : q.names.length ≤ 2 ^ q.dq := by
  induction q with
  | leads n q ih => simp only [Qs.names, Qs.dq, List.length_cons, Nat.pow_succ]; have : 0 < 2 ^ q.dq := Nat.two_pow_pos _; omega
  | not q ih => simp only [Qs.names, Qs.dq, Nat.pow_succ]; omega
  | and p q ip iq =>
    simp only [Qs.names, Qs.dq, List.length_append, Nat.pow_succ]
    have h1 := Nat.pow_le_pow_right (n := 2) (by decide) (Nat.le_max_left p.dq q.dq)
    have h2 := Nat.pow_le_pow_right (n := 2) (by decide) (Nat.le_max_right p.dq q.dq)
    omega
  | or p q ip iq =>
    simp only [Qs.names, Qs.dq, List.length_append, Nat.pow_succ]
    have h1 := Nat.pow_le_pow_right (n := 2) (by decide) (Nat.le_max_left p.dq q.dq)
    have h2 := Nat.pow_le_pow_right (n := 2) (by decide) (Nat.le_max_right p.dq q.dq)
    omega
  | _ => simp [Qs.names, Qs.dq]
inductive Act where
  | add (n : Str) (i : Int)
  | put (n : Str) (w : D)
  | take (n : Str)
  | copy (n m : Str)
  | drop
def Act.enc : Act → D
  | .add n i => .tup [.str "add", .str n, .int i]
  | .put n w => .tup [.str "put", .str n, w]
  | .take n => .tup [.str "take", .str n]
  | .copy n m => .tup [.str "copy", .str n, .str m]
  | .drop => .tup [.str "drop"]
def Act.ok : Act → Bool
  | .put _ w => w.tx
  | _ => true
theorem Act.tx {a : Act} (h : a.ok = true) : a.enc.tx = true := by
  cases a <;> simp_all [Act.enc, Act.ok, D.tx, D.txs]
def Act.isDrop : Act → Bool
  | .drop => true
  | _ => false
/-- what it reads besides its question, what it writes -/
def Act.rd : Act → List Str
  | .add n _ => [n]
  | .copy n _ => [n]
  | _ => []
def Act.w1 : Act → List Str
  | .add n _ => [n]
  | .put n _ => [n]
  | .take n => [n]
  | _ => []
def Act.w2 : Act → List Str
  | .copy _ m => [m]
  | _ => []
structure Dd where
  nm : Str
  q : Qs
  acts : List Act
def Dd.enc (d : Dd) : D := .tup [.str d.nm, d.q.enc, .tup (d.acts.map Act.enc)]
structure Dd.Ok (d : Dd) : Prop where
  q : d.q.dq ≤ 3
  a : ∀ x ∈ d.acts, x.ok = true
  n : d.acts.length ≤ 3
def Dd.drops (d : Dd) : Bool := d.acts.any Act.isDrop
def inOrd (ns some : List Str) : List Str := ns.filter fun n => decide (n ∈ some)
def Dd.rds (ns : List Str) (d : Dd) : List Str := inOrd ns (d.q.names ++ d.acts.flatMap Act.rd)
def Dd.wrs (ns : List Str) (d : Dd) : List Str := if d.drops = true then ns else inOrd ns (d.acts.flatMap Act.w1 ++ d.acts.flatMap Act.w2)
def touch (ns : List Str) (a b : Dd) : Bool := (a.wrs ns).any fun n => decide (n ∈ b.rds ns ++ b.wrs ns)
def clsh (ns : List Str) (a b : Dd) : Bool := a.drops || (b.drops || (touch ns a b || touch ns b a))
def memS (x : Str) (L : List Str) : Bool := decide (x ∈ L)
theorem v1 : memS "has" ["has", "is", "over"] = true := by decide
theorem v2 : memS "is" ["has", "is", "over"] = true := by decide
theorem v3 : memS "over" ["has", "is", "over"] = true := by decide
theorem v4 : memS "leads" ["has", "is", "over"] = false := by decide
theorem v5 : memS "not" ["has", "is", "over"] = false := by decide
theorem v6 : memS "and" ["has", "is", "over"] = false := by decide
theorem v7 : memS "or" ["has", "is", "over"] = false := by decide
theorem v8 : memS "all" ["has", "is", "over"] = false := by decide
theorem v9 : decide (("not" : Str) = "leads") = false := by decide
theorem v10 : decide (("and" : Str) = "leads") = false := by decide
theorem v11 : decide (("or" : Str) = "leads") = false := by decide
theorem v12 : decide (("all" : Str) = "leads") = false := by decide
theorem in3 {h : Hq} {x a b c : Str} : gIn (.str x) (.tup [.str a, .str b, .str c]) h = some (.bl (memS x [a, b, c]), h) := g_inS (L := [a, b, c])
theorem in2 {h : Hq} {x a b : Str} : gIn (.str x) (.tup [.str a, .str b]) h = some (.bl (memS x [a, b]), h) := g_inS (L := [a, b])
theorem g_ix0 {h : Hq} {a : D} {xs : List D} : gIx (.tup (a :: xs)) (.int 0) h = some (a, h) := g_ixT (i := 0) rfl
theorem g_ix1 {h : Hq} {a b : D} {xs : List D} : gIx (.tup (a :: b :: xs)) (.int 1) h = some (b, h) := g_ixT (i := 1) rfl
theorem g_ix2 {h : Hq} {a b c : D} {xs : List D} : gIx (.tup (a :: b :: c :: xs)) (.int 2) h = some (c, h) := g_ixT (i := 2) rfl
/-- a place ahead is not touched -/
theorem get_app {h g : Hq} {l : Nat} {o : O} (e : h[l]? = some o) : (h ++ g)[l]? = some o := by
  rw [List.getElem?_append_left (List.getElem?_eq_some_iff.mp e).1]; exact e
theorem r_names_in (q : Qs) : ∀ (m : Nat) (h : Hq), q.dq ≤ m → q.dq ≤ 20 → ∃ l g, rn m .names_in [q.enc] h = .ok (.ref l) (h ++ g) ∧ (h ++ g)[l]? = some (.lst (q.names.map .str)) ∧ h.length ≤ l := by
  have len : ∀ (p : Qs), p.dq ≤ 20 → p.names.length ≤ 2 ^ 20 := fun p hp => Nat.le_trans p.names_len (Nat.pow_le_pow_right (by decide) hp)
  have szz : (2 : Nat) ^ 20 ≤ sizeLine := by decide
  -- a question made of parts
  have parts : ∀ (w : Str) (ps : List Qs), memS w ["has", "is", "over"] = false → decide (w = "leads") = false → (∀ p ∈ ps, p.dq ≤ 19 ∧ ∀ (m : Nat) (h : Hq), p.dq ≤ m → p.dq ≤ 20 → ∃ l g, rn m .names_in [p.enc] h = .ok (.ref l) (h ++ g) ∧ (h ++ g)[l]? = some (.lst (p.names.map .str)) ∧ h.length ≤ l) → (ps.flatMap Qs.names).length ≤ 2 ^ 20 →
      ∀ (m : Nat) (h : Hq), (∀ p ∈ ps, p.dq ≤ m) → ∃ l g, rn (m + 1) .names_in [.tup (.str w :: ps.map Qs.enc)] h = .ok (.ref l) (h ++ g) ∧ (h ++ g)[l]? = some (.lst ((ps.flatMap Qs.names).map .str)) ∧ h.length ≤ l := by
    intro w ps hw1 hw2 ih hlen m h hm
    have key : ∃ ρ' h', f1_names_in (Mi.run tb m) [some (.tup (.str w :: ps.map Qs.enc)), some (.ref h.length), none] (h ++ [.lst []]) = .nx ρ' h' ∧ (∃ x, ρ' = [some (.tup (.str w :: ps.map Qs.enc)), some (.ref h.length), x]) ∧ ∃ g, h' = h ++ .lst ((ps.flatMap Qs.names).map .str) :: g := by
      unfold f1_names_in
      refine for_inv (c := none) Qs.enc ps (fun d ρ h' => (∃ x, ρ = [some (.tup (.str w :: ps.map Qs.enc)), some (.ref h.length), x]) ∧ ∃ g, h' = h ++ .lst ((d.flatMap Qs.names).map .str) :: g) (h1 := h ++ [.lst []]) ?_ ⟨⟨none, rfl⟩, [], rfl⟩ (fun _ _ _ _ => trivial) ?_
      · simp [sl_tail]
      · rintro d p t ρ h' hd ⟨⟨x, rfl⟩, g, rfl⟩
        have hp : p ∈ ps := by rw [hd]; simp
        obtain ⟨l, g2, e1, e2, e3⟩ := (ih p hp).2 m (h ++ .lst ((d.flatMap Qs.names).map .str) :: g) (hm p hp) (by have := (ih p hp).1; omega)
        unfold rn at e1
        refine ⟨_, rfl, [some (.tup (.str w :: ps.map Qs.enc)), some (.ref h.length), some p.enc], h ++ .lst (((d ++ [p]).flatMap Qs.names).map .str) :: (g ++ g2), .inl ?_, ⟨_, rfl⟩, _, rfl⟩
        have hl2 : (d.flatMap Qs.names).length + p.names.length ≤ 2 ^ 20 := by
          refine Nat.le_trans ?_ hlen
          rw [hd]
          simp
        obtain ⟨Y, hY⟩ : ∃ Y, Y = (d.flatMap Qs.names).map D.str := ⟨_, rfl⟩
        have hYl : Y.length = (d.flatMap Qs.names).length := by rw [hY, List.length_map]
        have e6 : ((d ++ [p]).flatMap Qs.names).map D.str = Y ++ p.names.map D.str := by rw [hY]; simp
        rw [e6]
        rw [← hY] at e1 e2 ⊢
        simp only [List.append_assoc, List.cons_append] at e1 e2
        have hext : gExtend (.ref h.length) [.ref l] (h ++ .lst Y :: (g ++ g2)) = some (.non, h ++ .lst (Y ++ p.names.map .str) :: (g ++ g2)) := by
          have z1 : (h ++ .lst Y :: (g ++ g2))[h.length]? = some (.lst Y) := by simp
          simp only [gExtend, asL, e2, z1]
          rw [if_pos (by rw [List.length_map, hYl]; omega)]
          simp
        have hty : tyOk "list" (.ref h.length) (h ++ .lst Y :: g) = true := by simp [tyOk, asLk, asL]
        simp [e1, hty, hext]
    obtain ⟨ρ', h', e, ⟨x, rfl⟩, g, rfl⟩ := key
    refine ⟨h.length, .lst ((ps.flatMap Qs.names).map .str) :: g, ?_, by simp, Nat.le_refl _⟩
    unfold rn
    rw [u_names_in, b_names_in]
    simp [g_ix0, in3, hw1, hw2, e]
  induction q with
  | all =>
    intro m h hm h20
    obtain ⟨m, rfl⟩ : ∃ j, m = j + 1 := ⟨m - 1, by simp [Qs.dq] at hm; omega⟩
    have := parts "all" [] v8 v12 (by simp) (by simp) m h (by simp)
    simpa [Qs.enc, Qs.names] using this
  | has n =>
    intro m h hm h20
    obtain ⟨m, rfl⟩ : ∃ j, m = j + 1 := ⟨m - 1, by simp [Qs.dq] at hm; omega⟩
    refine ⟨h.length, [.lst [.str n]], ?_, by simp [Qs.names], Nat.le_refl _⟩
    unfold rn
    rw [u_names_in, b_names_in]
    simp [Qs.enc, g_ix0, g_ix1, in3, v1]
  | is n w =>
    intro m h hm h20
    obtain ⟨m, rfl⟩ : ∃ j, m = j + 1 := ⟨m - 1, by simp [Qs.dq] at hm; omega⟩
    refine ⟨h.length, [.lst [.str n]], ?_, by simp [Qs.names], Nat.le_refl _⟩
    unfold rn
    rw [u_names_in, b_names_in]
    simp [Qs.enc, g_ix0, g_ix1, in3, v2]
  | over n w =>
    intro m h hm h20
    obtain ⟨m, rfl⟩ : ∃ j, m = j + 1 := ⟨m - 1, by simp [Qs.dq] at hm; omega⟩
    refine ⟨h.length, [.lst [.str n]], ?_, by simp [Qs.names], Nat.le_refl _⟩
    unfold rn
    rw [u_names_in, b_names_in]
    simp [Qs.enc, g_ix0, g_ix1, in3, v3]
  | leads n q ih =>
    intro m h hm h20
    obtain ⟨m, rfl⟩ : ∃ j, m = j + 1 := ⟨m - 1, by simp [Qs.dq] at hm; omega⟩
    obtain ⟨l, g, e1, e2, e3⟩ := ih m h (by simp [Qs.dq] at hm; omega) (by simp [Qs.dq] at h20; omega)
    unfold rn at e1 ⊢
    have hl := len q (by simp [Qs.dq] at h20; omega)
    refine ⟨(h ++ g).length, g ++ [.lst ((n :: q.names).map .str)], ?_, by simp [Qs.names], by simp⟩
    rw [u_names_in, b_names_in]
    have ha : gAddR (.lst [.str n]) (.ref l) (h ++ g) = some (.ref (h ++ g).length, h ++ (g ++ [.lst ((n :: q.names).map .str)])) := by
      simp only [gAddR, asL, e2]
      rw [if_pos (by rw [List.length_map, szL]; simp; omega)]
      simp
    simp only [Qs.enc]
    simp [g_ix0, g_ix1, g_ix2, in3, v4, e1, ha]
  | not q ih =>
    intro m h hm h20
    obtain ⟨m, rfl⟩ : ∃ j, m = j + 1 := ⟨m - 1, by simp [Qs.dq] at hm; omega⟩
    have c1 : q.dq ≤ 19 ∧ q.dq ≤ m := by simp [Qs.dq] at h20 hm; omega
    have := parts "not" [q] v5 v9 (fun p hp => by rw [List.mem_singleton.mp hp]; exact ⟨c1.1, ih⟩) (by simpa using len q (by omega)) m h (fun p hp => by rw [List.mem_singleton.mp hp]; exact c1.2)
    simpa [Qs.enc, Qs.names] using this
  | and p q ip iq =>
    intro m h hm h20
    obtain ⟨m, rfl⟩ : ∃ j, m = j + 1 := ⟨m - 1, by simp [Qs.dq] at hm; omega⟩
    have hl := len (.and p q) h20
    have c1 : p.dq ≤ 19 ∧ p.dq ≤ m ∧ q.dq ≤ 19 ∧ q.dq ≤ m := by simp [Qs.dq] at h20 hm; omega
    have two : ∀ r : Qs, r ∈ [p, q] → r = p ∨ r = q := fun r hr => by simpa using hr
    have := parts "and" [p, q] v6 v10 (fun r hr => (two r hr).elim (fun e => by rw [e]; exact ⟨c1.1, ip⟩) (fun e => by rw [e]; exact ⟨c1.2.2.1, iq⟩)) (by simpa [Qs.names] using hl) m h
      (fun r hr => (two r hr).elim (fun e => by rw [e]; exact c1.2.1) (fun e => by rw [e]; exact c1.2.2.2))
    simpa [Qs.enc, Qs.names] using this
  | or p q ip iq =>
    intro m h hm h20
    obtain ⟨m, rfl⟩ : ∃ j, m = j + 1 := ⟨m - 1, by simp [Qs.dq] at hm; omega⟩
    have hl := len (.or p q) h20
    have c1 : p.dq ≤ 19 ∧ p.dq ≤ m ∧ q.dq ≤ 19 ∧ q.dq ≤ m := by simp [Qs.dq] at h20 hm; omega
    have two : ∀ r : Qs, r ∈ [p, q] → r = p ∨ r = q := fun r hr => by simpa using hr
    have := parts "or" [p, q] v7 v11 (fun r hr => (two r hr).elim (fun e => by rw [e]; exact ⟨c1.1, ip⟩) (fun e => by rw [e]; exact ⟨c1.2.2.1, iq⟩)) (by simpa [Qs.names] using hl) m h
      (fun r hr => (two r hr).elim (fun e => by rw [e]; exact c1.2.1) (fun e => by rw [e]; exact c1.2.2.2))
    simpa [Qs.enc, Qs.names] using this
end L82
namespace L82
open PySem L2 Mi
theorem r_names (ps : List (Str × Str)) (h : Hq) (m : Nat) : rn (m + 1) .names_of [.tup (ps.map encP)] h = .ok (encS (ps.map (·.1))) h := by
  unfold rn
  rw [u_names_of, b_names_of]
  have lc : c1_names_of (Mi.run tb m) [some (.tup (ps.map encP)), none] h = .ok (.lst (ps.map fun p => .str p.1)) h := by
    unfold c1_names_of
    refine lc_map (c := none) encP _ ps ?_ trivial fun p hp => ⟨_, rfl, ?_⟩
    · simp
    · simp [wipeD, encP, g_ix0]
  simp [lc, encS]
theorem acts_tx {as : List Act} (k : ∀ x ∈ as, x.ok = true) : D.txs (as.map Act.enc) = true := txs_all.mpr fun x hx => by
  obtain ⟨a, ha, rfl⟩ := List.mem_map.mp hx
  exact Act.tx (k a ha)
theorem drop_in {as : List Act} (k : ∀ x ∈ as, x.ok = true) {h : Hq} : gIn (.tup [.str "drop"]) (.tup (as.map Act.enc)) h = some (.bl (as.any Act.isDrop), h) := by
  unfold gIn
  rw [in_tup rfl (acts_tx k) (by simp [D.dp, D.dps]), List.any_map]
  have : (as.any ((fun y => eqB y (.tup [.str "drop"])) ∘ Act.enc)) = as.any Act.isDrop := by
    apply Bool.eq_iff_iff.mpr
    rw [List.any_eq_true, List.any_eq_true]
    refine ⟨fun ⟨a, ha, e⟩ => ⟨a, ha, ?_⟩, fun ⟨a, ha, e⟩ => ⟨a, ha, ?_⟩⟩
    · have := (eqB_iff (Act.tx (k a ha)) (b := .tup [.str "drop"]) rfl).mp e
      cases a <;> simp_all [Act.enc, Act.isDrop]
    · cases a <;> simp_all [Act.isDrop]
      exact (eqB_iff (a := Act.drop.enc) (b := .tup [.str "drop"]) rfl rfl).mpr rfl
  rw [this]; rfl
theorem r_drops {d : Dd} (k : d.Ok) (h : Hq) (m : Nat) : rn (m + 1) .drops [d.enc] h = .ok (.bl d.drops) h := by
  unfold rn
  rw [u_drops, b_drops]
  simp only [Dd.enc]
  simp [g_ix2, drop_in k.a, Dd.drops]
theorem r_in_order (ps : List (Str × Str)) (some : List Str) (h : Hq) (l : Nat) (e : h[l]? = .some (.lst (some.map .str))) (m : Nat) : rn (m + 2) .in_order [.tup (ps.map encP), .ref l] h = .ok (encS (inOrd (ps.map (·.1)) some)) h := by
  have en := r_names ps h m
  unfold rn at en ⊢
  rw [u_in_order, b_in_order]
  have lc : c1_in_order (Mi.run tb (m + 1)) [.some (.tup (ps.map encP)), .some (.ref l), none] h = .ok (.lst ((inOrd (ps.map (·.1)) some).map .str)) h := by
    unfold c1_in_order inOrd
    refine lc_eq (c := none) D.str (fun n => decide (n ∈ some)) _ _ ?_ trivial fun n hn => ⟨_, rfl, ?_, fun _ => ?_⟩
    · simp [en, encS]
    · simp [wipeD, g_inR e, g_inSL]
    · simp [wipeD]
  simp [lc, encS]
theorem act_at0 {a : Act} {h : Hq} : ∃ w, gIx a.enc (.int 0) h = some (.str w, h) ∧ memS w ["add", "copy"] = !a.rd.isEmpty ∧ memS w ["add", "put", "take"] = !a.w1.isEmpty ∧ decide (w = "copy") = !a.w2.isEmpty := by
  cases a
  · exact ⟨"add", g_ix0, (by decide : memS "add" ["add", "copy"] = true), (by decide : memS "add" ["add", "put", "take"] = true), (by decide : decide (("add" : Str) = "copy") = false)⟩
  · exact ⟨"put", g_ix0, (by decide : memS "put" ["add", "copy"] = false), (by decide : memS "put" ["add", "put", "take"] = true), (by decide : decide (("put" : Str) = "copy") = false)⟩
  · exact ⟨"take", g_ix0, (by decide : memS "take" ["add", "copy"] = false), (by decide : memS "take" ["add", "put", "take"] = true), (by decide : decide (("take" : Str) = "copy") = false)⟩
  · exact ⟨"copy", g_ix0, (by decide : memS "copy" ["add", "copy"] = true), (by decide : memS "copy" ["add", "put", "take"] = false), (by decide : decide (("copy" : Str) = "copy") = true)⟩
  · exact ⟨"drop", g_ix0, (by decide : memS "drop" ["add", "copy"] = false), (by decide : memS "drop" ["add", "put", "take"] = false), (by decide : decide (("drop" : Str) = "copy") = false)⟩
def hd (L : List Str) : Str := L.getD 0 ""
theorem act_rd {a : Act} {h : Hq} (k : a.rd.isEmpty = false) : gIx a.enc (.int 1) h = some (.str (hd a.rd), h) := by
  cases a <;> simp_all [Act.rd]
  · exact g_ix1
  · exact g_ix1
theorem act_w1 {a : Act} {h : Hq} (k : a.w1.isEmpty = false) : gIx a.enc (.int 1) h = some (.str (hd a.w1), h) := by
  cases a <;> simp_all [Act.w1]
  · exact g_ix1
  · exact g_ix1
  · exact g_ix1
theorem act_w2 {a : Act} {h : Hq} (k : a.w2.isEmpty = false) : gIx a.enc (.int 2) h = some (.str (hd a.w2), h) := by
  cases a <;> simp_all [Act.w2]
  · exact g_ix2
theorem flat_hd (f : Act → List Str) (k : ∀ a, (f a).length ≤ 1) : ∀ as : List Act, (as.filter fun a => !(f a).isEmpty).map (fun a => hd (f a)) = as.flatMap f
  | [] => rfl
  | a :: as => by
    have ih := flat_hd f k as
    have ka := k a
    rw [List.flatMap_cons, ← ih]
    cases e : f a with
    | nil => rw [List.filter_cons_of_neg (by simp [e])]; rfl
    | cons x t =>
      rw [e] at ka
      have ht : t = [] := by cases t with
        | nil => rfl
        | cons => simp at ka
      subst ht
      rw [List.filter_cons_of_pos (by simp [e]), List.map_cons, e]; rfl
theorem rd1 (a : Act) : a.rd.length ≤ 1 := by cases a <;> simp [Act.rd]
theorem w11 (a : Act) : a.w1.length ≤ 1 := by cases a <;> simp [Act.w1]
theorem w21 (a : Act) : a.w2.length ≤ 1 := by cases a <;> simp [Act.w2]
theorem flat_len (f : Act → List Str) (k : ∀ a, (f a).length ≤ 1) (as : List Act) : (as.flatMap f).length ≤ as.length := by
  induction as with
  | nil => simp
  | cons a as ih => have := k a; rw [List.flatMap_cons, List.length_append, List.length_cons]; omega
theorem r_reads (ps : List (Str × Str)) {d : Dd} (k : d.Ok) (h : Hq) (m : Nat) : rn (m + 4) .reads [.tup (ps.map encP), d.enc] h = .ok (encS (d.rds (ps.map (·.1)))) h := by
  obtain ⟨l, g, e1, e2, e3⟩ := r_names_in d.q (m + 3) h (by have := k.q; omega) (by have := k.q; omega)
  unfold rn at e1 ⊢
  rw [u_reads, b_reads]
  obtain ⟨h2, hh2⟩ : ∃ h2, h2 = h ++ g := ⟨_, rfl⟩
  rw [← hh2] at e1 e2
  have lc : c1_reads (Mi.run tb (m + 3)) [some (.tup (ps.map encP)), some d.enc, some (.ref l), none] h2 = .ok (.lst ((d.acts.flatMap Act.rd).map .str)) h2 := by
    unfold c1_reads
    rw [← flat_hd Act.rd rd1, List.map_map]
    refine lc_eq (c := none) Act.enc (fun a => !a.rd.isEmpty) _ _ ?_ trivial fun a ha => ⟨_, rfl, ?_, fun hp => ?_⟩
    · simp only [Dd.enc]; simp [g_ix2]
    · obtain ⟨w, z1, z2, _⟩ := act_at0 (a := a) (h := h2)
      simp [wipeD, z1, in2, z2]
    · simp [wipeD, act_rd (a := a) (h := h2) (by simpa using hp)]
  have hlen : (d.q.names.map D.str).length + ((d.acts.flatMap Act.rd).map D.str).length ≤ sizeLine := by
    have z1 := d.q.names_len
    have z2 : 2 ^ d.q.dq ≤ 2 ^ 3 := Nat.pow_le_pow_right (by decide) k.q
    have z3 := flat_len Act.rd rd1 d.acts
    have z4 := k.n
    rw [List.length_map, List.length_map, szL]
    omega
  have hext : gExtend (.ref l) [.lst ((d.acts.flatMap Act.rd).map .str)] h2 = some (.non, h2.set l (.lst ((d.q.names ++ d.acts.flatMap Act.rd).map .str))) := by
    simp only [gExtend, e2, asL]
    rw [if_pos hlen, List.map_append]
  have hl : l < h2.length := (List.getElem?_eq_some_iff.mp e2).1
  have eo := r_in_order ps (d.q.names ++ d.acts.flatMap Act.rd) (h2.set l (.lst ((d.q.names ++ d.acts.flatMap Act.rd).map .str))) l (by simp [hl]) (m + 1)
  unfold rn at eo
  have hty : tyOk "list" (.ref l) h2 = true := by simp [tyOk, asLk, asL, e2]
  have hq : ∀ h, gIx d.enc (.int 1) h = some (d.q.enc, h) := fun h => g_ix1
  simp only [List.map_append] at hext eo
  simp [hq, e1, hty, lc, hext, eo]
  show gcR h (.ok (encS (d.rds (ps.map (·.1)))) _) = _
  refine gcR_ok (d := encS (d.rds (ps.map (·.1)))) ?_ ?_
  · have := encS_nrs [d.rds (ps.map (·.1))]
    simpa [D.nrs] using this
  · rw [List.take_set_of_le e3, hh2]
    exact List.take_left
theorem r_writes (ps : List (Str × Str)) {d : Dd} (k : d.Ok) (h : Hq) (m : Nat) : rn (m + 3) .writes [.tup (ps.map encP), d.enc] h = .ok (encS (d.wrs (ps.map (·.1)))) h := by
  have ed := r_drops k h (m + 1)
  have en := r_names ps h (m + 1)
  unfold rn at ed en ⊢
  rw [u_writes, b_writes]
  unfold Dd.wrs
  have nr : ∀ L, (encS L).nr = true := fun L => by
    have := encS_nrs [L]
    simpa [D.nrs] using this
  cases hdr : d.drops with
  | true =>
    simp [ed, hdr, en]
    exact gcR_ok (d := encS (ps.map (·.1))) (nr _) List.take_length
  | false =>
    have lc : c1_writes (Mi.run tb (m + 2)) [some (.tup (ps.map encP)), some d.enc, none, none] h = .ok (.ref h.length) (h ++ [.lst ((d.acts.flatMap Act.w1).map .str)]) := by
      unfold c1_writes
      rw [← flat_hd Act.w1 w11, List.map_map]
      refine lcR_eq (c := none) Act.enc (fun a => !a.w1.isEmpty) _ _ ?_ trivial fun a ha => ⟨_, rfl, ?_, fun hp => ?_⟩
      · simp only [Dd.enc]; simp [g_ix2]
      · obtain ⟨w, z1, z2, z3, _⟩ := act_at0 (a := a) (h := h)
        simp [wipeD, z1, in3, z3]
      · simp [wipeD, act_w1 (a := a) (h := h) (by simpa using hp)]
    obtain ⟨h2, hh2⟩ : ∃ h2, h2 = h ++ [.lst ((d.acts.flatMap Act.w1).map .str)] := ⟨_, rfl⟩
    have lc2 : c2_writes (Mi.run tb (m + 2)) [some (.tup (ps.map encP)), some d.enc, some (.ref h.length), none] h2 = .ok (.lst ((d.acts.flatMap Act.w2).map .str)) h2 := by
      unfold c2_writes
      rw [← flat_hd Act.w2 w21, List.map_map]
      refine lc_eq (c := none) Act.enc (fun a => !a.w2.isEmpty) _ _ ?_ trivial fun a ha => ⟨_, rfl, ?_, fun hp => ?_⟩
      · simp only [Dd.enc]; simp [g_ix2]
      · obtain ⟨w, z1, z2, z3, z4⟩ := act_at0 (a := a) (h := h2)
        simp only [wipeD]
        simp [z1]
        rw [← z4]
      · simp [wipeD, act_w2 (a := a) (h := h2) (by simpa using hp)]
    rw [hh2] at lc2
    have hlen : ((d.acts.flatMap Act.w1).map D.str).length + ((d.acts.flatMap Act.w2).map D.str).length ≤ sizeLine := by
      have z2 := flat_len Act.w1 w11 d.acts
      have z3 := flat_len Act.w2 w21 d.acts
      have z4 := k.n
      rw [List.length_map, List.length_map, szL]
      omega
    have hext := g_extL (h := h) hlen
    rw [← List.map_append] at hext
    have eo := r_in_order ps (d.acts.flatMap Act.w1 ++ d.acts.flatMap Act.w2) (h ++ [.lst ((d.acts.flatMap Act.w1 ++ d.acts.flatMap Act.w2).map .str)]) h.length getL_last m
    unfold rn at eo
    have hty : tyOk "list" (.ref h.length) (h ++ [.lst ((d.acts.flatMap Act.w1).map .str)]) = true := by simp [tyOk, asLk, asL]
    simp only [List.map_append] at hext eo
    simp [ed, hdr, lc, lc2, hty, hext, eo]
    exact gcR_ok (d := encS (inOrd (ps.map (·.1)) (d.acts.flatMap Act.w1 ++ d.acts.flatMap Act.w2))) (nr _) List.take_left
theorem inOrd_len (ns some : List Str) : (inOrd ns some).length ≤ ns.length := List.length_filter_le _ _
theorem wrs_len (ns : List Str) (d : Dd) : (d.wrs ns).length ≤ ns.length := by
  unfold Dd.wrs
  split
  · exact Nat.le_refl _
  · exact inOrd_len _ _
theorem r_touches (ps : List (Str × Str)) (hl : ps.length ≤ 6) {a b : Dd} (ka : a.Ok) (kb : b.Ok) (h : Hq) (m : Nat) : rn (m + 5) .touches [.tup (ps.map encP), a.enc, b.enc] h = .ok (.bl (touch (ps.map (·.1)) a b)) h := by
  have e1 := r_reads ps kb h m
  have e2 := r_writes ps kb h (m + 1)
  have e3 := r_writes ps ka h (m + 1)
  unfold rn at e1 e2 e3 ⊢
  rw [u_touches, b_touches]
  have had : gAdd (encS (b.rds (ps.map (·.1)))) (encS (b.wrs (ps.map (·.1)))) h = some (encS (b.rds (ps.map (·.1)) ++ b.wrs (ps.map (·.1))), h) := by
    have z1 := inOrd_len (ps.map (·.1)) (b.q.names ++ b.acts.flatMap Act.rd)
    have z2 := wrs_len (ps.map (·.1)) b
    have := g_addT (h := h) (a := (b.rds (ps.map (·.1))).map .str) (b := (b.wrs (ps.map (·.1))).map .str) (by
      rw [List.length_map, List.length_map, szL]
      rw [List.length_map] at z1 z2
      unfold Dd.rds
      omega)
    rw [← List.map_append] at this
    exact this
  have lc : c1_touches (Mi.run tb (m + 4)) [some (.tup (ps.map encP)), some a.enc, some b.enc, some (encS (b.rds (ps.map (·.1)) ++ b.wrs (ps.map (·.1)))), none] h = .ok (.lst ((a.wrs (ps.map (·.1))).map fun n => .bl (decide (n ∈ b.rds (ps.map (·.1)) ++ b.wrs (ps.map (·.1)))))) h := by
    unfold c1_touches
    refine lc_map (c := none) D.str _ _ ?_ trivial fun n hn => ⟨_, rfl, ?_⟩
    · simp [e3, encS]
    · have : ∀ L h, gIn (.str n) (encS L) h = some (.bl (decide (n ∈ L)), h) := fun L h => g_inS
      simp only [wipeD]
      simp [this]
  simp [e1, e2, had]
  rw [lc]
  simp [g_all, g_any, touch]
theorem r_clash (ps : List (Str × Str)) (hl : ps.length ≤ 6) {a b : Dd} (ka : a.Ok) (kb : b.Ok) (h : Hq) (m : Nat) : rn (m + 6) .clash [.tup (ps.map encP), a.enc, b.enc] h = .ok (.bl (clsh (ps.map (·.1)) a b)) h := by
  have e1 := r_drops ka h (m + 4)
  have e2 := r_drops kb h (m + 4)
  have e3 := r_touches ps hl ka kb h m
  have e4 := r_touches ps hl kb ka h m
  unfold rn at e1 e2 e3 e4 ⊢
  rw [u_clash, b_clash]
  unfold clsh
  cases x1 : a.drops <;> cases x2 : b.drops <;> cases x3 : touch (ps.map (·.1)) a b <;> simp [e1, e2, e3, e4, x1, x2, x3]
end L82
namespace L82
open PySem L2 Mi
/-! ### stages and chains, plain -/
def mx : List Int → Int
  | [] => 0
  | x :: xs => maxI x xs
theorem mx_spec {L : List Int} (h : L ≠ []) : mx L ∈ L ∧ ∀ y ∈ L, y ≤ mx L := by
  cases L with
  | nil => exact absurd rfl h
  | cons x xs =>
    have h1 := maxI_ge x xs
    refine ⟨?_, fun y hy => ?_⟩
    · rcases maxI_mem x xs with z | z
      · show maxI x xs ∈ _
        rw [z]; exact List.mem_cons_self
      · exact List.mem_cons_of_mem _ z
    · rcases List.mem_cons.mp hy with rfl | hy
      · exact h1.1
      · exact h1.2 y hy
theorem mx_eq {L L' : List Int} (h : L ≠ []) (e : ∀ y, y ∈ L ↔ y ∈ L') : mx L = mx L' := by
  have h' : L' ≠ [] := fun z => by
    cases L with
    | nil => exact h rfl
    | cons x xs =>
      have := (e x).mp List.mem_cons_self
      rw [z] at this; cases this
  obtain ⟨a1, a2⟩ := mx_spec h
  obtain ⟨b1, b2⟩ := mx_spec h'
  have := a2 _ ((e _).mpr b1)
  have := b2 _ ((e _).mp a1)
  omega
theorem g_mx {h : Hq} {L : List Int} (k : L ≠ []) : gMax [.lst (L.map .int)] h = some (.int (mx L), h) := by
  have e := isInts_map (fun x : Int => x) L
  rw [List.map_id'] at e
  cases L with
  | nil => exact absurd rfl k
  | cons x xs =>
    show (match isInts ((x :: xs).map D.int) with
      | some (n :: ns) => some (D.int (maxI n ns), h)
      | _ => none) = _
    rw [e]; rfl
section
variable (cl : Nat → Nat → Bool)
def late (nums : List Int) (k : Nat) : List Int := ((List.range k).filter fun o => cl o k).map fun o => nums.getD o 0 + 1
def stN : Nat → List Int
  | 0 => []
  | k + 1 => stN k ++ [mx (late cl (stN k) k ++ [0])]
theorem stN_len : ∀ k, (stN cl k).length = k
  | 0 => rfl
  | k + 1 => by rw [stN, List.length_append, stN_len k]; rfl
theorem late_ne (nums : List Int) (k : Nat) : late cl nums k ++ [0] ≠ [] := by simp
theorem stN_get {k i : Nat} (h : i < k) : (stN cl k).getD i 0 = mx (late cl (stN cl i) i ++ [0]) := by
  induction k with
  | zero => omega
  | succ k ih =>
    rw [stN, List.getD_eq_getElem?_getD]
    by_cases hi : i < k
    · rw [List.getElem?_append_left (by rw [stN_len]; exact hi), ← List.getD_eq_getElem?_getD, ih hi]
    · have : i = k := by omega
      subst this
      rw [List.getElem?_append_right (by rw [stN_len]; exact Nat.le_refl _), stN_len, Nat.sub_self]; rfl
theorem stN_bd (k : Nat) : ∀ i, i < k → 0 ≤ (stN cl k).getD i 0 ∧ (stN cl k).getD i 0 ≤ i := by
  intro i
  induction i using Nat.strongRecOn with
  | ind i ih =>
    intro hi
    rw [stN_get cl hi]
    obtain ⟨a, b⟩ := mx_spec (late_ne cl (stN cl i) i)
    refine ⟨b 0 (by simp), ?_⟩
    rcases List.mem_append.mp a with a | a
    · obtain ⟨o, ho, e⟩ := List.mem_map.mp a
      have hoi := List.mem_range.mp (List.mem_filter.mp ho).1
      rw [stN_get cl hoi] at e
      have := (ih o hoi (by omega)).2
      rw [stN_get cl (show o < k by omega)] at this
      omega
    · have : mx (late cl (stN cl i) i ++ [0]) = 0 := by simpa using a
      omega
def many (k : Nat) : Int := mx (stN cl k ++ [-1]) + 1
theorem mem_stN {k : Nat} {y : Int} (h : y ∈ stN cl k) : ∃ i, i < k ∧ y = (stN cl k).getD i 0 := by
  obtain ⟨i, hi⟩ := List.mem_iff_getElem?.mp h
  have := (List.getElem?_eq_some_iff.mp hi).1
  rw [stN_len] at this
  exact ⟨i, this, by rw [List.getD_eq_getElem?_getD, hi]; rfl⟩
theorem many_bd (k : Nat) : 0 ≤ many cl k ∧ many cl k ≤ k := by
  unfold many
  obtain ⟨a, b⟩ := mx_spec (L := stN cl k ++ [-1]) (by simp)
  have h1 := b (-1) (by simp)
  refine ⟨by omega, ?_⟩
  rcases List.mem_append.mp a with a | a
  · obtain ⟨i, hi, e⟩ := mem_stN cl a
    have := (stN_bd cl k i hi).2
    omega
  · have : mx (stN cl k ++ [-1]) = -1 := by simpa using a
    omega
/-- who stands in a stage -/
def stg (k : Nat) (s : Nat) : List Nat := ((stN cl k).zipIdx.filter fun p => decide (p.1 = (s : Int))).map (·.2)
def chOk (s : List Nat) : Bool := (s.dropLast.zip s.tail).all fun p => decide (p.1 < p.2) && cl p.1 p.2
def chs : Nat → List (List Nat)
  | 0 => [[]]
  | k + 1 => chs k ++ ((chs k).filter fun s => chOk cl (s ++ [k])).map fun s => s ++ [k]
theorem chOk_snoc (s : List Nat) (a b : Nat) : chOk cl (s ++ [a] ++ [b]) = (chOk cl (s ++ [a]) && (decide (a < b) && cl a b)) := by
  unfold chOk
  have e1 : (s ++ [a] ++ [b]).dropLast = s ++ [a] := by simp
  have e2 : (s ++ [a] ++ [b]).tail = (s ++ [a]).tail ++ [b] := by cases s <;> simp
  have e3 : (s ++ [a]).dropLast = s := by simp
  rw [e1, e2, e3]
  rw [List.zip_append (by cases s <;> simp), List.all_append]
  simp
theorem chs_mem {k : Nat} : ∀ s ∈ chs cl k, chOk cl s = true ∧ (∀ x ∈ s, x < k) ∧ s.length ≤ k := by
  induction k with
  | zero => intro s hs; have : s = [] := by simpa [chs] using hs
            subst this; exact ⟨rfl, by simp, by simp⟩
  | succ k ih =>
    intro s hs
    rcases List.mem_append.mp hs with hs | hs
    · obtain ⟨a, b, c⟩ := ih s hs
      exact ⟨a, fun x hx => Nat.lt_succ_of_lt (b x hx), by omega⟩
    · obtain ⟨t, ht, rfl⟩ := List.mem_map.mp hs
      obtain ⟨ht1, ht2⟩ := List.mem_filter.mp ht
      obtain ⟨a, b, c⟩ := ih t ht1
      refine ⟨ht2, fun x hx => ?_, by simp; omega⟩
      rcases List.mem_append.mp hx with hx | hx
      · exact Nat.lt_succ_of_lt (b x hx)
      · have : x = k := by simpa using hx
        omega
theorem chs_len (k : Nat) : (chs cl k).length ≤ 2 ^ k := by
  induction k with
  | zero => simp [chs]
  | succ k ih =>
    rw [chs, List.length_append, List.length_map, Nat.pow_succ]
    have := List.length_filter_le (fun s => chOk cl (s ++ [k])) (chs cl k)
    omega
theorem chs_mono {j k : Nat} (h : j ≤ k) : ∀ s ∈ chs cl j, s ∈ chs cl k := by
  induction k with
  | zero => have : j = 0 := by omega
            subst this; exact fun s hs => hs
  | succ k ih =>
    by_cases hj : j = k + 1
    · subst hj; exact fun s hs => hs
    · exact fun s hs => List.mem_append_left _ (ih (by omega) s hs)
theorem nil_mem (k : Nat) : [] ∈ chs cl k := chs_mono cl (Nat.zero_le k) [] (by simp [chs])
/-- behind each deed there is a chain as long as its stage is high -/
theorem chs_reach (k : Nat) : ∀ i, i < k → ∃ s, s ++ [i] ∈ chs cl k ∧ ((s ++ [i]).length : Int) = (stN cl k).getD i 0 + 1 := by
  intro i
  induction i using Nat.strongRecOn with
  | ind i ih =>
    intro hi
    rw [stN_get cl hi]
    obtain ⟨a, b⟩ := mx_spec (late_ne cl (stN cl i) i)
    rcases List.mem_append.mp a with a | a
    · obtain ⟨o, ho, e⟩ := List.mem_map.mp a
      obtain ⟨ho1, ho2⟩ := List.mem_filter.mp ho
      have hoi := List.mem_range.mp ho1
      obtain ⟨s, hs1, hs2⟩ := ih o hoi (by omega)
      rw [stN_get cl (show o < k by omega)] at hs2
      rw [stN_get cl hoi] at e
      -- the chain lies among those below i
      have hsi : s ++ [o] ∈ chs cl i := by
        clear ih a b e hs2 ho
        induction k with
        | zero => omega
        | succ k ihk =>
          by_cases hk : i = k + 1
          · subst hk; exact hs1
          · rcases List.mem_append.mp hs1 with z | z
            · by_cases hik : i < k
              · exact ihk hik z
              · have : i = k := by omega
                subst this; exact z
            · obtain ⟨t, _, ht⟩ := List.mem_map.mp z
              have := congrArg List.getLast? ht
              simp at this
              omega
      refine ⟨s ++ [o], chs_mono cl (show i + 1 ≤ k from hi) _ (List.mem_append_right _ (List.mem_map.mpr ⟨s ++ [o], List.mem_filter.mpr ⟨hsi, ?_⟩, rfl⟩)), ?_⟩
      · rw [chOk_snoc, (chs_mem cl _ hsi).1]
        simp [hoi, ho2]
      · rw [← e]
        simp at hs2 ⊢
        omega
    · have e : mx (late cl (stN cl i) i ++ [0]) = 0 := by simpa using a
      refine ⟨[], chs_mono cl (show i + 1 ≤ k from hi) _ (List.mem_append_right _ (List.mem_map.mpr ⟨[], List.mem_filter.mpr ⟨nil_mem cl i, rfl⟩, rfl⟩)), ?_⟩
      rw [e]; rfl
theorem chs_many (k : Nat) : ∃ s ∈ chs cl k, (s.length : Int) = many cl k := by
  unfold many
  obtain ⟨a, b⟩ := mx_spec (L := stN cl k ++ [-1]) (by simp)
  rcases List.mem_append.mp a with a | a
  · obtain ⟨i, hi, e⟩ := mem_stN cl a
    obtain ⟨s, h1, h2⟩ := chs_reach cl k i hi
    exact ⟨_, h1, by rw [h2, e]⟩
  · have e : mx (stN cl k ++ [-1]) = -1 := by simpa using a
    exact ⟨[], nil_mem cl k, by rw [e]; rfl⟩
end
def encI (s : List Nat) : D := .tup (s.map fun x => .int (x : Nat))
theorem encI_tx (s : List Nat) : (encI s).tx = true := by rw [encI, D.tx]; exact txs_map (fun _ => rfl) s
theorem encI_dp (s : List Nat) : (encI s).dp = 1 := by
  have : D.dps (s.map fun x => D.int (x : Nat)) = 0 := Nat.le_zero.mp (dps_le.mpr fun x hx => by
    obtain ⟨a, _, rfl⟩ := List.mem_map.mp hx
    exact Nat.le_refl _)
  rw [encI, D.dp, this]
theorem encI_inj (a b : List Nat) (h : encI a = encI b) : a = b := by
  have h2 : a.map (fun x => D.int (x : Nat)) = b.map (fun x => D.int (x : Nat)) := by simpa [encI] using h
  exact (List.map_inj_right (fun x y e => by have : (x : Int) = (y : Int) := by simpa using e
                                             omega)).mp h2
theorem alike_nats : ∀ a b : List Nat, PySem.W.alikeAll (a.map fun x => PyData.int (x : Nat)) (b.map fun x => PyData.int (x : Nat)) = true
  | [], _ => by simp [PySem.W.alikeAll]
  | _ :: _, [] => by simp [PySem.W.alikeAll]
  | x :: a, y :: b => by simp [PySem.W.alikeAll, PySem.W.alike, alike_nats a b]
theorem enc_nats (a : List Nat) : encD (encI a) = .tuple (a.map fun x => PyData.int (x : Nat)) := by
  apply encD_of
  have t : D.txs (a.map fun x => D.int (x : Nat)) = true := txs_map (enc := fun x : Nat => D.int (x : Nat)) (fun _ => rfl) a
  simp only [encI, D.py, pys_map t, Option.map_some, List.map_map]
  rfl
theorem minOk_I (L : List (List Nat)) : minOk (L.map encI) = true := by
  unfold minOk
  simp only [Bool.and_eq_true, List.all_eq_true, decide_eq_true_eq]
  refine ⟨⟨⟨fun x hx => ?_, fun x hx y hy => ?_⟩, fun x hx => ?_⟩, fun x hx => ?_⟩
  · obtain ⟨a, _, rfl⟩ := List.mem_map.mp hx
    exact encI_tx a
  · obtain ⟨a, _, rfl⟩ := List.mem_map.mp hx
    obtain ⟨b, _, rfl⟩ := List.mem_map.mp hy
    rw [enc_nats, enc_nats, PySem.W.alike]
    exact alike_nats a b
  · obtain ⟨a, _, rfl⟩ := List.mem_map.mp hx
    obtain ⟨p, e⟩ := tx_py (encI_tx a)
    rw [encD_of e, py_depth e, encI_dp]
    decide
  · obtain ⟨a, _, rfl⟩ := List.mem_map.mp hx
    rw [enc_nats]; rfl
/-- the least of them -/
def leastI (L : List (List Nat)) : D := match L.map encI with
  | [] => .non
  | y :: ys => minF y ys
theorem g_minI {h : Hq} {L : List (List Nat)} (k : L ≠ []) : gMin [.lst (L.map encI)] h = some (leastI L, h) := by
  unfold leastI
  have hk := minOk_I L
  cases L with
  | nil => exact absurd rfl k
  | cons y ys =>
    simp only [List.map_cons] at hk ⊢
    show (if minOk (encI y :: ys.map encI) = true then some (minF (encI y) (ys.map encI), h) else none) = _
    rw [if_pos hk]
theorem least_mem {L : List (List Nat)} (k : L ≠ []) : ∃ s ∈ L, leastI L = encI s := by
  unfold leastI
  cases L with
  | nil => exact absurd rfl k
  | cons y ys =>
    simp only [List.map_cons]
    rcases minF_mem (ys.map encI) (encI y) with z | z
    · exact ⟨y, List.mem_cons_self, z⟩
    · obtain ⟨s, hs, e⟩ := List.mem_map.mp z
      exact ⟨s, List.mem_cons_of_mem _ hs, e.symm⟩
end L82
namespace L82
open PySem L2 Mi
/-! ### stages and chains, the program's -/
theorem g_ixR {h : Hq} {l : Nat} {xs : List D} {i : Nat} {d : D} (e : h[l]? = some (.lst xs)) (e2 : xs[i]? = some d) : gIx (.ref l) (.int i) h = some (d, h) := by
  unfold gIx
  simp only [asD, e, asT, asLk, asL, Mi.atI_nat e2]
  rfl
def clD (ns : List Str) (ds : List Dd) (i j : Nat) : Bool := match ds[i]?, ds[j]? with
  | some a, some b => clsh ns a b
  | _, _ => false
theorem clD_at {ns : List Str} {ds : List Dd} {i j : Nat} {a b : Dd} (h1 : ds[i]? = some a) (h2 : ds[j]? = some b) : clD ns ds i j = clsh ns a b := by unfold clD; rw [h1, h2]
theorem deed_at {ds : List Dd} {i : Nat} {a : Dd} {h : Hq} (e : ds[i]? = some a) : gIx (.tup (ds.map Dd.enc)) (.int i) h = some (a.enc, h) := g_ixT (by rw [List.getElem?_map, e]; rfl)
section
variable {ps : List (Str × Str)} (hl : ps.length ≤ 6) {ds : List Dd} (kd : ∀ d ∈ ds, d.Ok) (hn : ds.length ≤ 7)
include hl kd
theorem r_clashD {i j : Nat} {a b : Dd} (h1 : ds[i]? = some a) (h2 : ds[j]? = some b) (h : Hq) (m : Nat) : rn (m + 6) .clash [.tup (ps.map encP), a.enc, b.enc] h = .ok (.bl (clD (ps.map (·.1)) ds i j)) h := by
  rw [clD_at h1 h2]
  exact r_clash ps hl (kd a (List.mem_of_getElem? h1)) (kd b (List.mem_of_getElem? h2)) h m
include hn
theorem r_stage_numbers (h : Hq) (m : Nat) : rn (m + 7) .stage_numbers [.tup (ps.map encP), .tup (ds.map Dd.enc)] h = .ok (.ref h.length) (h ++ [.lst ((stN (clD (ps.map (·.1)) ds) ds.length).map .int)]) := by
  unfold rn
  rw [u_stage_numbers, b_stage_numbers]
  obtain ⟨cl, hcl⟩ : ∃ cl, cl = clD (ps.map (·.1)) ds := ⟨_, rfl⟩
  rw [← hcl]
  obtain ⟨P, hP⟩ : ∃ P, P = D.tup (ps.map encP) := ⟨_, rfl⟩
  obtain ⟨Z, hZ⟩ : ∃ Z, Z = D.tup (ds.map Dd.enc) := ⟨_, rfl⟩
  rw [← hP, ← hZ]
  have key : ∃ ρ' h', f1_stage_numbers (Mi.run tb (m + 6)) [some P, some Z, some (.ref h.length), none, none, none, none] (h ++ [.lst []]) = .nx ρ' h' ∧ (∃ x3 x4 x5, ρ' = [some P, some Z, some (.ref h.length), x3, x4, x5, none]) ∧ h' = h ++ [.lst ((stN cl ds.zipIdx.length).map .int)] := by
    unfold f1_stage_numbers
    refine for_inv (c := none) (fun p : Dd × Nat => D.tup [.int (p.2 : Nat), p.1.enc]) ds.zipIdx (fun d ρ h' => (∃ x3 x4 x5, ρ = [some P, some Z, some (.ref h.length), x3, x4, x5, none]) ∧ h' = h ++ [.lst ((stN cl d.length).map .int)]) (h1 := h ++ [.lst []]) ?_ ⟨⟨none, none, none, rfl⟩, rfl⟩ (fun _ _ _ _ => trivial) ?_
    · rw [← enumD_map]
      simp [hZ]
    · rintro d ⟨a, at_⟩ t ρ h' hd ⟨⟨x3, x4, x5, rfl⟩, rfl⟩
      -- where we stand
      have hz : ds.zipIdx[d.length]? = some (a, at_) := by rw [hd]; simp
      rw [List.getElem?_zipIdx, Option.map_eq_some_iff] at hz
      obtain ⟨a', e1, e2⟩ := hz
      have e3 : a' = a ∧ d.length = at_ := by simpa using e2
      obtain ⟨rfl, rfl⟩ := e3
      have hlt : d.length < ds.length := (List.getElem?_eq_some_iff.mp e1).1
      obtain ⟨k, hk⟩ : ∃ k, k = d.length := ⟨_, rfl⟩
      rw [← hk] at e1 hlt ⊢
      have lc : c1_stage_numbers (Mi.run tb (m + 6)) [some P, some Z, some (.ref h.length), some (.int k), some a'.enc, x5, none] (h ++ [.lst ((stN cl k).map .int)]) = .ok (.lst ((late cl (stN cl k) k).map .int)) (h ++ [.lst ((stN cl k).map .int)]) := by
        unfold c1_stage_numbers late
        rw [List.map_map]
        refine lc_eq (c := none) (fun o : Nat => D.int (o : Nat)) (fun o => cl o k) _ (List.range k) ?_ trivial fun o ho => ⟨_, rfl, ?_, fun _ => ?_⟩
        · have : -1000000 ≤ (k : Int) ∧ (k : Int) ≤ 1000000 := by omega
          simp [this, upto]
        · have hok := List.mem_range.mp ho
          have eo : ds[o]? = some ds[o] := List.getElem?_eq_getElem (by omega)
          have ec := r_clashD hl kd eo e1 (h ++ [.lst ((stN cl k).map .int)]) m
          rw [← hcl] at ec
          unfold rn at ec
          rw [← hP] at ec
          have ei := deed_at (h := h ++ [.lst ((stN cl k).map .int)]) eo
          rw [← hZ] at ei
          simp [wipeD, ei, ec]
        · have hok := List.mem_range.mp ho
          have ei : gIx (.ref h.length) (.int (o : Nat)) (h ++ [.lst ((stN cl k).map .int)]) = some (.int ((stN cl k).getD o 0), h ++ [.lst ((stN cl k).map .int)]) := by
            refine g_ixR getL_last ?_
            rw [List.getElem?_map, List.getD_eq_getElem?_getD, List.getElem?_eq_getElem (by rw [stN_len]; exact hok)]; rfl
          simp [wipeD, ei]
      have had : gAdd (.lst ((late cl (stN cl k) k).map .int)) (.lst [.int 0]) (h ++ [.lst ((stN cl k).map .int)]) = some (.lst ((late cl (stN cl k) k ++ [0]).map .int), h ++ [.lst ((stN cl k).map .int)]) := by
        have hlen : (late cl (stN cl k) k).length ≤ k := by
          unfold late
          rw [List.length_map]
          exact Nat.le_trans (List.length_filter_le _ _) (by rw [List.length_range]; exact Nat.le_refl _)
        rw [g_addL (by rw [List.length_map, szL]; simp; omega), List.map_append]; rfl
      have hap := g_appL (h := h) (L := (stN cl k).map .int) (d := .int (mx (late cl (stN cl k) k ++ [0]))) (by rw [List.length_map, stN_len, szL]; omega)
      have hty : tyOk "list" (.ref h.length) (h ++ [.lst ((stN cl k).map .int)]) = true := by simp [tyOk, asLk, asL]
      refine ⟨_, rfl, [some P, some Z, some (.ref h.length), some (.int k), some a'.enc, some (.lst ((late cl (stN cl k) k).map .int)), none], h ++ [.lst ((stN cl (k + 1)).map .int)], .inl ?_, ⟨_, _, _, rfl⟩, by rw [List.length_append, ← hk]; rfl⟩
      have e7 : (stN cl (k + 1)).map D.int = (stN cl k).map .int ++ [.int (mx (late cl (stN cl k) k ++ [0]))] := by rw [stN, List.map_append]; rfl
      rw [e7]
      have e8 := g_mx (h := h ++ [.lst ((stN cl k).map .int)]) (late_ne cl (stN cl k) k)
      rw [List.map_append] at had e8
      simp only [List.map_cons, List.map_nil] at had e8
      simp [setMany, lc, hty, had, e8, hap]
  obtain ⟨ρ', h', e, ⟨x3, x4, x5, rfl⟩, rfl⟩ := key
  rw [List.length_zipIdx] at e
  simp [e]
theorem r_stages (h : Hq) (m : Nat) : rn (m + 8) .stages [.tup (ps.map encP), .tup (ds.map Dd.enc)] h = .ok (.tup ((List.range (many (clD (ps.map (·.1)) ds) ds.length).toNat).map fun s => encI (stg (clD (ps.map (·.1)) ds) ds.length s))) h := by
  have es := r_stage_numbers hl kd hn h m
  unfold rn at es ⊢
  rw [u_stages, b_stages]
  obtain ⟨cl, hcl⟩ : ∃ cl, cl = clD (ps.map (·.1)) ds := ⟨_, rfl⟩
  obtain ⟨P, hP⟩ : ∃ P, P = D.tup (ps.map encP) := ⟨_, rfl⟩
  obtain ⟨Z, hZ⟩ : ∃ Z, Z = D.tup (ds.map Dd.enc) := ⟨_, rfl⟩
  rw [← hcl, ← hP, ← hZ] at es
  rw [← hcl, ← hP, ← hZ]
  have mb := many_bd cl ds.length
  obtain ⟨N, hN⟩ : ∃ N, N = many cl ds.length := ⟨_, rfl⟩
  obtain ⟨h2, hh2⟩ : ∃ h2 : Hq, h2 = h ++ [.lst ((stN cl ds.length).map .int)] := ⟨_, rfl⟩
  have hl2 : h2.length = h.length + 1 := by rw [hh2]; simp
  have g2 : h2[h.length]? = some (.lst ((stN cl ds.length).map .int)) := by rw [hh2]; exact getL_last
  have key : ∃ ρ' h', f1_stages (Mi.run tb (m + 7)) [some P, some Z, some (.ref h.length), some (.int N), some (.ref h2.length), none, none, none] (h2 ++ [.lst []]) = .nx ρ' h' ∧ (∃ x5, ρ' = [some P, some Z, some (.ref h.length), some (.int N), some (.ref h2.length), x5, none, none]) ∧ h' = h2 ++ [.lst ((List.range N.toNat).map fun s => encI (stg cl ds.length s))] := by
    unfold f1_stages
    refine for_inv (c := none) (fun s : Nat => D.int (s : Nat)) (List.range N.toNat) (fun d ρ h' => (∃ x5, ρ = [some P, some Z, some (.ref h.length), some (.int N), some (.ref h2.length), x5, none, none]) ∧ h' = h2 ++ [.lst (d.map fun s => encI (stg cl ds.length s))]) (h1 := h2 ++ [.lst []]) ?_ ⟨⟨none, rfl⟩, rfl⟩ (fun _ _ _ _ => trivial) ?_
    · have : -1000000 ≤ N ∧ N ≤ 1000000 := by rw [hN]; omega
      simp [this, upto]
    · rintro d s t ρ h' hd ⟨⟨x5, rfl⟩, rfl⟩
      obtain ⟨Y, hY⟩ : ∃ Y, Y = d.map fun s => encI (stg cl ds.length s) := ⟨_, rfl⟩
      rw [← hY]
      have g3 : (h2 ++ [.lst Y])[h.length]? = some (.lst ((stN cl ds.length).map .int)) := get_app g2
      have lc : c1_stages (Mi.run tb (m + 7)) [some P, some Z, some (.ref h.length), some (.int N), some (.ref h2.length), some (.int (s : Nat)), none, none] (h2 ++ [.lst Y]) = .ok (.lst ((stg cl ds.length s).map fun x => .int (x : Nat))) (h2 ++ [.lst Y]) := by
        unfold c1_stages stg
        rw [List.map_map]
        refine lc_eq (c := some (h.length, .lst ((stN cl ds.length).map .int))) (fun p : Int × Nat => D.tup [.int (p.2 : Nat), .int p.1]) (fun p => decide (p.1 = (s : Int))) _ (stN cl ds.length).zipIdx ?_ g3 fun p hp => ⟨_, rfl, ?_, fun _ => ?_⟩
        · rw [← enumD_map]
          simp [seqD, g3]
        · simp [wipeD, setMany]
        · simp [wipeD, setMany]
      have hap := g_appL (h := h2) (L := Y) (d := encI (stg cl ds.length s)) (by
        have := congrArg List.length hd
        simp at this
        rw [hY, List.length_map, szL]
        omega)
      have hty : tyOk "list" (.ref h2.length) (h2 ++ [.lst Y]) = true := by simp [tyOk, asLk, asL]
      refine ⟨_, rfl, [some P, some Z, some (.ref h.length), some (.int N), some (.ref h2.length), some (.int (s : Nat)), none, none], h2 ++ [.lst ((d ++ [s]).map fun s => encI (stg cl ds.length s))], .inl ?_, ⟨_, rfl⟩, rfl⟩
      have e7 : (d ++ [s]).map (fun s => encI (stg cl ds.length s)) = Y ++ [encI (stg cl ds.length s)] := by rw [List.map_append, hY]; rfl
      rw [e7]
      unfold encI at hap ⊢
      simp [lc, hty, hap]
  obtain ⟨ρ', h', e, ⟨x5, rfl⟩, rfl⟩ := key
  have had : gAdd (.ref h.length) (.lst [.int (-1)]) h2 = some (.lst ((stN cl ds.length ++ [-1]).map .int), h2) := by
    have : gAdd (.ref h.length) (.lst [.int (-1)]) h2 = (if ((stN cl ds.length).map D.int).length + [D.int (-1)].length ≤ sizeLine then some (D.lst ((stN cl ds.length).map D.int ++ [D.int (-1)]), h2) else none) := by
      simp [gAdd, asL, g2]
    rw [this, if_pos (by rw [List.length_map, stN_len, szL]; simp; omega), List.map_append]; rfl
  have e8 := g_mx (h := h2) (L := stN cl ds.length ++ [-1]) (by simp)
  have eN : mx (stN cl ds.length ++ [-1]) + 1 = N := by rw [hN]; rfl
  rw [← hh2] at es
  have et : gTuple [.ref h2.length] (h2 ++ [.lst ((List.range N.toNat).map fun s => encI (stg cl ds.length s))]) = some (.tup ((List.range N.toNat).map fun s => encI (stg cl ds.length s)), h2 ++ [.lst ((List.range N.toNat).map fun s => encI (stg cl ds.length s))]) := by
    simp [gTuple, asLk, asL]
  rw [List.map_append] at had e8
  simp only [List.map_cons, List.map_nil] at had e8
  simp [es, had, e8, eN, e, et]
  rw [← hN]
  refine gcR_ok (d := .tup ((List.range N.toNat).map fun s => encI (stg cl ds.length s))) ?_ ?_
  · rw [D.nr]
    clear e et
    induction List.range N.toNat with
    | nil => rfl
    | cons x xs ih =>
      rw [List.map_cons, D.nrs, ih]
      have : ∀ L : List Nat, D.nrs (L.map fun x => D.int (x : Nat)) = true := fun L => by
        induction L with
        | nil => rfl
        | cons y L ih => simp [D.nrs, D.nr, ih]
      simp [encI, D.nr, this]
  · rw [hh2, List.append_assoc]
    exact List.take_left
end
end L82
namespace L82
open PySem L2 Mi
theorem isi_int {i : Int} {h : Hq} : gIsi [.int i, .ty "int"] h = some (.bl true, h) := by
  unfold gIsi; dsimp only; rw [if_pos (by decide)]; rfl
theorem isi_nb {i : Int} {h : Hq} : gIsi [.int i, .ty "bool"] h = some (.bl false, h) := by
  unfold gIsi; dsimp only; rw [if_pos (by decide)]; rfl
theorem isi_tup {xs : List D} {h : Hq} : gIsi [.tup xs, .ty "tuple"] h = some (.bl true, h) := by
  unfold gIsi; dsimp only; rw [if_pos (by decide)]; rfl
theorem r_is_whole (i lo hi : Int) (h : Hq) (m : Nat) : rn (m + 1) .is_whole [.int i, .int lo, .int hi] h = .ok (.bl (decide (lo ≤ i ∧ i ≤ hi))) h := by
  unfold rn
  rw [u_is_whole, b_is_whole]
  by_cases h1 : lo ≤ i <;> by_cases h2 : i ≤ hi <;> simp [isi_int, isi_nb, h1, h2]
theorem all_map_true {α : Type} {L : List α} {f : α → Bool} (k : ∀ x ∈ L, f x = true) : L.all f = true := List.all_eq_true.mpr k
section
variable {ps : List (Str × Str)} (hl : ps.length ≤ 6) {ds : List Dd} (kd : ∀ d ∈ ds, d.Ok) (hn : ds.length ≤ 7)
include hl kd
theorem r_is_chain (s : List Nat) (a : Nat) (hs : ∀ x ∈ s ++ [a], x < ds.length) (h : Hq) (m : Nat) : rn (m + 7) .is_chain [.tup (ps.map encP), .tup (ds.map Dd.enc), encI (s ++ [a])] h = .ok (.bl (chOk (clD (ps.map (·.1)) ds) (s ++ [a]))) h := by
  unfold rn
  rw [u_is_chain, b_is_chain]
  have lc1 : c1_is_chain (Mi.run tb (m + 6)) [some (.tup (ps.map encP)), some (.tup (ds.map Dd.enc)), some (encI (s ++ [a])), none, none, none, none] h = .ok (.lst ((s ++ [a]).map fun x => .bl (decide ((0 : Int) ≤ (x : Nat) ∧ ((x : Nat) : Int) ≤ (ds.length : Int) - 1)))) h := by
    unfold c1_is_chain
    refine lc_map (c := none) (fun x : Nat => D.int (x : Nat)) _ (s ++ [a]) ?_ trivial fun x hx => ⟨_, rfl, ?_⟩
    · simp [encI]
    · have e := r_is_whole (x : Nat) 0 ((ds.length : Int) - 1) h (m + 5)
      unfold rn at e
      simp only [wipeD]
      simp [e]
  have hall : ((s ++ [a]).all fun x => decide ((0 : Int) ≤ (x : Nat) ∧ ((x : Nat) : Int) ≤ (ds.length : Int) - 1)) = true := all_map_true fun x hx => by
    have := hs x hx
    simp
    omega
  have e1 : gSl (encI (s ++ [a])) none (some (-1)) h = some (.tup (s.map fun x => .int (x : Nat)), h) := by
    have := sl_init (h := h) (x := .int (a : Nat)) (xs := s.map fun x => .int (x : Nat))
    unfold encI
    rw [List.map_append]
    exact this
  have e2 : gSl (encI (s ++ [a])) (some 1) none h = some (.tup ((s ++ [a]).tail.map fun x => .int (x : Nat)), h) := by
    unfold encI
    cases s with
    | nil => exact sl_tail
    | cons y s => exact sl_tail
  have e3 : zipD (s.map fun x => D.int (x : Nat)) ((s ++ [a]).tail.map fun x => D.int (x : Nat)) = ((s ++ [a]).dropLast.zip (s ++ [a]).tail).map fun p => .tup [.int (p.1 : Nat), .int (p.2 : Nat)] := by
    unfold zipD
    rw [List.zip_map, List.map_map]
    simp
  have lc2 : c2_is_chain (Mi.run tb (m + 6)) [some (.tup (ps.map encP)), some (.tup (ds.map Dd.enc)), some (encI (s ++ [a])), some (.lst (((s ++ [a]).dropLast.zip (s ++ [a]).tail).map fun p => .tup [.int (p.1 : Nat), .int (p.2 : Nat)])), none, none, none] h
      = .ok (.lst (((s ++ [a]).dropLast.zip (s ++ [a]).tail).map fun p => .bl (decide (p.1 < p.2) && clD (ps.map (·.1)) ds p.1 p.2))) h := by
    unfold c2_is_chain
    refine lc_map (c := none) (fun p : Nat × Nat => D.tup [.int (p.1 : Nat), .int (p.2 : Nat)]) _ _ ?_ trivial fun p hp => ⟨_, rfl, ?_⟩
    · simp
    · have h1 : p.1 < ds.length := hs _ ((List.dropLast_sublist _).subset (List.of_mem_zip hp).1)
      have h2 : p.2 < ds.length := hs _ (List.mem_of_mem_tail (List.of_mem_zip hp).2)
      have ea : ds[p.1]? = some ds[p.1] := List.getElem?_eq_getElem h1
      have eb : ds[p.2]? = some ds[p.2] := List.getElem?_eq_getElem h2
      have ec := r_clashD hl kd ea eb h m
      unfold rn at ec
      by_cases hlt : p.1 < p.2
      · simp [wipeD, setMany, hlt, deed_at ea, deed_at eb, ec]
      · simp [wipeD, setMany, hlt]
  have g1 := g_all (h := h) (fun x : Nat => decide ((0 : Int) ≤ (x : Nat) ∧ ((x : Nat) : Int) ≤ (ds.length : Int) - 1)) (s ++ [a])
  rw [hall] at g1
  have g2 := g_all (h := h) (fun p : Nat × Nat => decide (p.1 < p.2) && clD (ps.map (·.1)) ds p.1 p.2) ((s ++ [a]).dropLast.zip (s ++ [a]).tail)
  have it : gIsi [encI (s ++ [a]), .ty "tuple"] h = some (.bl true, h) := isi_tup
  obtain ⟨A, hA⟩ : ∃ A, A = encI (s ++ [a]) := ⟨_, rfl⟩
  obtain ⟨B1, hB1⟩ : ∃ B1, B1 = (s ++ [a]).map fun x : Nat => D.bl (decide ((0 : Int) ≤ (x : Nat) ∧ ((x : Nat) : Int) ≤ (ds.length : Int) - 1)) := ⟨_, rfl⟩
  rw [← hB1] at lc1 g1
  rw [← hA] at lc1 lc2 e1 e2 it ⊢
  obtain ⟨B2, hB2⟩ : ∃ B2, B2 = ((s ++ [a]).dropLast.zip (s ++ [a]).tail).map fun p => D.tup [.int (p.1 : Nat), .int (p.2 : Nat)] := ⟨_, rfl⟩
  rw [← hB2] at lc2 e3
  obtain ⟨B3, hB3⟩ : ∃ B3, B3 = ((s ++ [a]).dropLast.zip (s ++ [a]).tail).map fun p => D.bl (decide (p.1 < p.2) && clD (ps.map (·.1)) ds p.1 p.2) := ⟨_, rfl⟩
  rw [← hB3] at lc2 g2
  obtain ⟨B4, hB4⟩ : ∃ B4, B4 = (s ++ [a]).tail.map fun x => D.int (x : Nat) := ⟨_, rfl⟩
  rw [← hB4] at e2 e3
  simp [it, lc1, g1, e1, e2, e3, lc2, g2, chOk]
include hn
theorem r_chain (h : Hq) (m : Nat) : rn (m + 9) .chain [.tup (ps.map encP), .tup (ds.map Dd.enc)] h = .ok (leastI ((chs (clD (ps.map (·.1)) ds) ds.length).filter fun s => decide ((s.length : Int) = many (clD (ps.map (·.1)) ds) ds.length))) h := by
  have es := r_stages hl kd hn h m
  unfold rn at es ⊢
  rw [u_chain, b_chain]
  obtain ⟨cl, hcl⟩ : ∃ cl, cl = clD (ps.map (·.1)) ds := ⟨_, rfl⟩
  rw [← hcl] at es
  rw [← hcl]
  have mb := many_bd cl ds.length
  obtain ⟨N, hN⟩ : ∃ N, N = many cl ds.length := ⟨_, rfl⟩
  rw [← hN] at es mb
  rw [← hN]
  have key : ∃ ρ' h', f1_chain (Mi.run tb (m + 8)) [some (.tup (ps.map encP)), some (.tup (ds.map Dd.enc)), some (.int N), some (.lst [.tup []]), none, none] h = .nx ρ' h' ∧ (h' = h ∧ ∃ x4, ρ' = [some (.tup (ps.map encP)), some (.tup (ds.map Dd.enc)), some (.int N), some (.lst ((chs cl (List.range ds.length).length).map encI)), x4, none]) := by
    unfold f1_chain
    refine for_inv (c := none) (fun k : Nat => D.int (k : Nat)) (List.range ds.length) (fun d ρ h' => h' = h ∧ ∃ x4, ρ = [some (.tup (ps.map encP)), some (.tup (ds.map Dd.enc)), some (.int N), some (.lst ((chs cl d.length).map encI)), x4, none]) (h1 := h) ?_ ⟨rfl, none, rfl⟩ (fun _ _ _ _ => trivial) ?_
    · have : -1000000 ≤ (ds.length : Int) ∧ (ds.length : Int) ≤ 1000000 := by omega
      simp [this, upto]
    · rintro d k t ρ h' hd ⟨rfl, x4, rfl⟩
      have hk : k = d.length := by
        have : (List.range ds.length)[d.length]? = some k := by rw [hd]; simp
        rw [List.getElem?_range (by have := congrArg List.length hd; simp at this; omega)] at this
        simpa using this.symm
      have hlt : k < ds.length := by
        have := congrArg List.length hd
        simp at this
        omega
      rw [← hk]
      have hsz := chs_len cl k
      have hp : 2 ^ k ≤ 2 ^ 7 := Nat.pow_le_pow_right (by decide) (by omega)
      have hadd : ∀ s ∈ chs cl k, gAdd (encI s) (.tup [.int (k : Nat)]) h' = some (encI (s ++ [k]), h') := fun s hs => by
        have := g_addT (h := h') (a := s.map fun x => .int (x : Nat)) (b := [.int (k : Nat)]) (by
          have := (chs_mem cl s hs).2.2
          rw [List.length_map, szL]; simp; omega)
        unfold encI
        rw [this, List.map_append]; rfl
      have lc : c1_chain (Mi.run tb (m + 8)) [some (.tup (ps.map encP)), some (.tup (ds.map Dd.enc)), some (.int N), some (.lst ((chs cl k).map encI)), some (.int (k : Nat)), none] h' = .ok (.lst (((chs cl k).filter fun s => chOk cl (s ++ [k])).map fun s => encI (s ++ [k]))) h' := by
        unfold c1_chain
        refine lc_eq (c := none) encI (fun s => chOk cl (s ++ [k])) _ _ ?_ trivial fun s hs => ⟨_, rfl, ?_, fun _ => ?_⟩
        · simp
        · have ec := r_is_chain hl kd s k (fun x hx => by
            rcases List.mem_append.mp hx with hx | hx
            · have := (chs_mem cl s hs).2.1 x hx; omega
            · have : x = k := by simpa using hx
              omega) h' (m + 1)
          unfold rn at ec
          rw [← hcl] at ec
          simp [wipeD, hadd s hs, ec]
        · simp [wipeD, hadd s hs]
      refine ⟨_, rfl, [some (.tup (ps.map encP)), some (.tup (ds.map Dd.enc)), some (.int N), some (.lst ((chs cl (k + 1)).map encI)), some (.int (k : Nat)), none], h', .inl ?_, rfl, some (.int (k : Nat)), by rw [List.length_append, ← hk]; rfl⟩
      have e7 : (chs cl (k + 1)).map encI = (chs cl k).map encI ++ ((chs cl k).filter fun s => chOk cl (s ++ [k])).map fun s => encI (s ++ [k]) := by rw [chs, List.map_append, List.map_map]; rfl
      rw [e7]
      have ha := g_addL (h := h') (a := (chs cl k).map encI) (b := ((chs cl k).filter fun s => chOk cl (s ++ [k])).map fun s => encI (s ++ [k])) (by
        have := List.length_filter_le (fun s => chOk cl (s ++ [k])) (chs cl k)
        rw [List.length_map, List.length_map, szL]; omega)
      simp [lc, ha]
  obtain ⟨ρ', h', e, rfl, x4, rfl⟩ := key
  rw [List.length_range] at e
  have lc2 : c2_chain (Mi.run tb (m + 8)) [some (.tup (ps.map encP)), some (.tup (ds.map Dd.enc)), some (.int N), some (.lst ((chs cl ds.length).map encI)), x4, none] h' = .ok (.lst (((chs cl ds.length).filter fun s => decide ((s.length : Int) = N)).map encI)) h' := by
    unfold c2_chain
    refine lc_eq (c := none) encI (fun s => decide ((s.length : Int) = N)) _ _ ?_ trivial fun s hs => ⟨_, rfl, ?_, fun _ => ?_⟩
    · simp
    · simp only [wipeD, encI]
      simp
    · simp [wipeD]
  have ne : (chs cl ds.length).filter (fun s => decide ((s.length : Int) = N)) ≠ [] := fun z => by
    obtain ⟨s, h1, h2⟩ := chs_many cl ds.length
    have : s ∈ (chs cl ds.length).filter (fun s => decide ((s.length : Int) = N)) := List.mem_filter.mpr ⟨h1, by rw [h2, hN]; simp⟩
    rw [z] at this; cases this
  have hNn : ((List.range N.toNat).map fun s => encI (stg cl ds.length s)).length = N.toNat := by simp
  have hN2 : ((N.toNat : Nat) : Int) = N := by omega
  simp [es, hN2, e, lc2, g_minI ne]
end
end L82
namespace L82
open PySem L2 Mi
/-! ### what the law draws -/
theorem leaf_at {ps : List (Str × Str)} (hp : ps ≠ []) {c : Int} {h : Hq} : ∃ p ∈ ps, gIx (.tup (ps.map encP)) (.int (c % ps.length)) h = some (encP p, h) := by
  have hl : 0 < ps.length := List.length_pos_iff.mpr hp
  have h0 : 0 ≤ c % ps.length := Int.emod_nonneg _ (by omega)
  have h1 : c % ps.length < ps.length := Int.emod_lt_of_pos _ (by omega)
  obtain ⟨n, hz⟩ : ∃ n : Nat, c % ps.length = n := ⟨(c % ps.length).toNat, by omega⟩
  rw [hz] at h1 ⊢
  have hn : n < ps.length := by omega
  exact ⟨ps[n], List.getElem_mem hn, g_ixT (by rw [List.getElem?_map, List.getElem?_eq_getElem hn]; rfl)⟩
theorem r_letters (c : Int) (k : Nat) (hk : k ≤ 100) (h : Hq) (m : Nat) : ∃ ys : List Str, rn (m + 2) ._law_letters [.int c, .int k] h = .ok (.str (Txt.join "" ys)) h ∧ ys.length ≤ k ∧ ∀ y ∈ ys, ∃ i, y = lett i := by
  unfold rn
  have b1 : 0 ≤ c % ((k : Int) + 1) ∧ c % ((k : Int) + 1) ≤ k := ⟨Int.emod_nonneg _ (by omega), by have := Int.emod_lt_of_pos c (show (0 : Int) < (k : Int) + 1 by omega); omega⟩
  have lc : c1__law_letters (Mi.run tb (m + 1)) [some (.int c), some (.int k), some (.str abc), none] h = .ok (.lst ((List.range (c % ((k : Int) + 1)).toNat).map fun n : Nat => .str (lett (drw c n / 4 % 26)))) h := by
    unfold c1__law_letters
    refine lc_map (c := none) (fun i : Nat => D.int i) _ _ ?_ trivial fun n hn => ⟨_, rfl, ?_⟩
    · have e1 : -1000000 ≤ c % ((k : Int) + 1) ∧ c % ((k : Int) + 1) ≤ 1000000 := by omega
      have e2 : (0 : Int) < (k : Int) + 1 := by omega
      simp [g_mod, e1, e2, upto]
    · have e0 : 0 ≤ drw c n / 4 % 26 ∧ drw c n / 4 % 26 < 26 := by omega
      simp [wipeD, r_drawn, g_div, g_mod, g_abc e0.1 e0.2]
  have hj := g_join (h := h) ((List.range (c % ((k : Int) + 1)).toNat).map fun n : Nat => lett (drw c n / 4 % 26)) (by
    rw [List.map_map]
    have : ((fun x : Str => x.length) ∘ fun n : Nat => lett (drw c n / 4 % 26)) = fun _ => 1 := rfl
    rw [this]
    have : (List.map (fun _ : Nat => 1) (List.range (c % ((k : Int) + 1)).toNat)).sum = (c % ((k : Int) + 1)).toNat := by
      rw [List.map_const', List.sum_replicate_nat, List.length_range]; simp
    rw [this]; omega)
  rw [List.map_map] at hj
  have hj2 : gJoin (.str "") [.lst ((List.range (c % ((k : Int) + 1)).toNat).map fun n : Nat => .str (lett (drw c n / 4 % 26)))] h = some (.str (Txt.join "" ((List.range (c % ((k : Int) + 1)).toNat).map fun n : Nat => lett (drw c n / 4 % 26))), h) := hj
  refine ⟨(List.range (c % ((k : Int) + 1)).toNat).map fun n : Nat => lett (drw c n / 4 % 26), ?_, by simp; omega, fun y hy => by
    obtain ⟨n, _, rfl⟩ := List.mem_map.mp hy
    exact ⟨_, rfl⟩⟩
  rw [u__law_letters, b__law_letters]
  have ha : (("abcdefghijklmnopqrstuvwxyz" : String) : Str) = abc := rfl
  simp only [ha]
  simp [lc, tyOk, hj2]
def H3 : List D := [.tup [.int 0, .int 1], .tup [.int 1, .int 1], .tup [.int 2, .int 1]]
theorem sort_H3 (h : Hq) : ∃ xs : List D, gSorted [.lst H3] h = some (.lst xs, h) ∧ xs.length = 3 ∧ ∀ x ∈ xs, x.tx = true ∧ x.dp ≤ 1 := by
  have hk : sortOk H3 = true := by decide +kernel
  refine ⟨H3.mergeSort leD, ?_, by rw [List.length_mergeSort]; rfl, fun x hx => ?_⟩
  · show ((some H3).bind fun xs => if sortOk xs = true then some (D.lst (xs.mergeSort leD), h) else none) = _
    rw [Option.bind_some, if_pos hk]
  · have := (List.mergeSort_perm H3 leD).mem_iff.mp hx
    have h3 : x = .tup [.int 0, .int 1] ∨ x = .tup [.int 1, .int 1] ∨ x = .tup [.int 2, .int 1] := by simpa [H3] using this
    rcases h3 with rfl | rfl | rfl <;> exact ⟨rfl, by simp [D.dp, D.dps]⟩
theorem ixT3 {a b d : Int} {c : Int} {h : Hq} : ∃ x, (x = a ∨ x = b ∨ x = d) ∧ gIx (.tup [.int a, .int b, .int d]) (.int (c % 3)) h = some (.int x, h) := by
  have : c % 3 = 0 ∨ c % 3 = 1 ∨ c % 3 = 2 := by omega
  rcases this with e | e | e <;> rw [e]
  · exact ⟨a, .inl rfl, g_ix0⟩
  · exact ⟨b, .inr (.inl rfl), g_ix1⟩
  · exact ⟨d, .inr (.inr rfl), g_ix2⟩
theorem ixT2 {a b : Int} {c : Int} {h : Hq} : ∃ x, (x = a ∨ x = b) ∧ gIx (.tup [.int a, .int b]) (.int (c % 2)) h = some (.int x, h) := by
  have : c % 2 = 0 ∨ c % 2 = 1 := by omega
  rcases this with e | e <;> rw [e]
  · exact ⟨a, .inl rfl, g_ix0⟩
  · exact ⟨b, .inr rfl, g_ix1⟩
theorem r_worth (s : Str) (c : Int) (H : List D) (hH : H = [] ∨ H = H3) (h : Hq) (m : Nat) : ∃ w : D, rn (m + 3) ._law_worth [.str s, .int c, .lst H] h = .ok w h ∧ w.tx = true ∧ w.dp ≤ 1 := by
  unfold rn
  rw [u__law_worth, b__law_worth]
  by_cases h1 : s = "mark"
  · exact ⟨.non, by simp [h1], rfl, by simp [D.dp]⟩
  by_cases h2 : s = "number"
  · obtain ⟨x, hx, e1⟩ := ixT3 (a := 3) (b := 21) (d := 1999) (c := c / 2048) (h := h)
    obtain ⟨y, hy, e2⟩ := ixT3 (a := 1) (b := 10) (d := 999) (c := c / 2048) (h := h)
    have hx0 : 0 < x := by omega
    have n1 : ¬ (("number" : Str) = "mark") := by decide
    exact ⟨.int (c % x - y), by simp [h2, n1, g_div, g_mod, e1, e2, hx0], rfl, by simp [D.dp]⟩
  by_cases h3 : s = "text"
  · obtain ⟨x, hx, e1⟩ := ixT2 (a := 1) (b := 6) (c := c) (h := h)
    obtain ⟨n, hn⟩ : ∃ n : Nat, x = n := ⟨x.toNat, by omega⟩
    obtain ⟨ys, e2, _⟩ := r_letters (c / 4 % 64) n (by omega) h m
    unfold rn at e2
    rw [← hn] at e2
    have n1 : ¬ (("text" : Str) = "mark") := by decide
    have n2 : ¬ (("text" : Str) = "number") := by decide
    exact ⟨.str (Txt.join "" ys), by simp [h3, n1, n2, g_div, g_mod, e1, e2], rfl, by simp [D.dp]⟩
  by_cases h5 : c % 5 = 0
  · exact ⟨.non, by simp [h1, h2, h3, g_mod, h5], rfl, by simp [D.dp]⟩
  rcases hH with rfl | rfl
  · exact ⟨.non, by simp [h1, h2, h3, g_mod, h5], rfl, by simp [D.dp]⟩
  · obtain ⟨xs, e1, e2, e3⟩ := sort_H3 h
    have hi : 0 ≤ c / 8 % 3 ∧ c / 8 % 3 < 3 := by omega
    obtain ⟨n, hn⟩ : ∃ n : Nat, c / 8 % 3 = n := ⟨(c / 8 % 3).toNat, by omega⟩
    have hlt : n < xs.length := by omega
    refine ⟨xs[n], ?_, (e3 _ (List.getElem_mem hlt)).1, (e3 _ (List.getElem_mem hlt)).2⟩
    have e4 : gIx (.lst xs) (.int (n : Nat)) h = some (xs[n], h) := g_ixL (List.getElem?_eq_getElem hlt)
    have l3 : (H3.length : Int) = 3 := rfl
    have l4 : H3.length = 3 := rfl
    have l5 : H3 ≠ [] := by simp [H3]
    simp [h1, h2, h3, g_mod, g_div, h5, l3, l4, l5, e1, hn, e4]
end L82
namespace L82
open PySem L2 Mi
theorem m1 : memS "link" ["link", "tree"] = true := by decide
theorem aot {c : Int} {h : Hq} (h0 : c % 8 < 2) : ∃ b : Bool, gIx (.tup [.str "and", .str "or"]) (.int (c % 8)) h = some (.str (if b then "and" else "or"), h) := by
  have : c % 8 = 0 ∨ c % 8 = 1 := by omega
  rcases this with e | e <;> rw [e]
  · exact ⟨true, g_ix0⟩
  · exact ⟨false, g_ix1⟩
theorem il0 {h : Hq} {a : D} {xs : List D} : gIx (.lst (a :: xs)) (.int 0) h = some (a, h) := g_ixL (i := 0) rfl
theorem il1 {h : Hq} {a b : D} {xs : List D} : gIx (.lst (a :: b :: xs)) (.int 1) h = some (b, h) := g_ixL (i := 1) rfl
theorem r_question {ps : List (Str × Str)} (hp : ps ≠ []) (h : Hq) : ∀ (d m : Nat) (c : Int), d + 5 ≤ m → ∃ q : Qs, rn m ._law_question [.tup (ps.map encP), .int c, .int ((d : Int) + 1)] h = .ok q.enc h ∧ q.dq ≤ d + 1 := by
  intro d
  have hl : 0 < ps.length := List.length_pos_iff.mpr hp
  have hl2 : (0 : Int) < (ps.length : Int) := by omega
  induction d with
  | zero =>
    intro m c hm
    obtain ⟨m, rfl⟩ : ∃ j, m = j + 1 := ⟨m - 1, by omega⟩
    obtain ⟨p, hpm, e1⟩ := leaf_at hp (c := c / 8) (h := h)
    unfold rn
    rw [u__law_question, b__law_question]
    by_cases h3 : c % 8 = 3
    · exact ⟨.all, by simp [g_mod, g_div, hl, hl2, e1, encP, setMany, h3, Qs.enc], by simp [Qs.dq]⟩
    by_cases h4 : c % 8 = 4 ∧ p.2 = "number"
    · exact ⟨.over p.1 (c / 64 % 21 - 10), by simp [g_mod, g_div, hl, hl2, e1, encP, setMany, h4.1, h4.2, Qs.enc], by simp [Qs.dq]⟩
    by_cases h6 : c % 8 < 6
    · obtain ⟨w, e2, _, _⟩ := r_worth p.2 (c / 64) H3 (.inr rfl) h (m - 3)
      unfold rn at e2
      rw [show m - 3 + 3 = m by omega] at e2
      simp only [H3] at e2
      refine ⟨.is p.1 w, ?_, by simp [Qs.dq]⟩
      by_cases h40 : c % 8 = 4
      · have h41 : ¬ p.2 = "number" := fun z => h4 ⟨h40, z⟩
        simp [g_mod, g_div, hl, hl2, e1, encP, setMany, h40, h41, e2, Qs.enc]
      · simp [g_mod, g_div, hl, hl2, e1, encP, setMany, h3, h40, h6, e2, Qs.enc]
    · have h40 : ¬ c % 8 = 4 := by omega
      exact ⟨.has p.1, by simp [g_mod, g_div, hl, hl2, e1, encP, setMany, h3, h40, h6, Qs.enc], by simp [Qs.dq]⟩
  | succ d ih =>
    intro m c hm
    obtain ⟨m, rfl⟩ : ∃ j, m = j + 1 := ⟨m - 1, by omega⟩
    obtain ⟨p, hpm, e1⟩ := leaf_at hp (c := c / 8) (h := h)
    have hd : (1 : Int) < ((d + 1 : Nat) : Int) + 1 := by omega
    have hd2 : ((d + 1 : Nat) : Int) + 1 - 1 = (d : Int) + 1 := by omega
    obtain ⟨Z, hZ⟩ : ∃ Z : Int, Z = ((d + 1 : Nat) : Int) + 1 := ⟨_, rfl⟩
    rw [← hZ] at hd hd2 ⊢
    obtain ⟨q1, ea, da⟩ := ih m (drw c 1 / 4) (by omega)
    obtain ⟨q2, eb, db⟩ := ih m (drw c 2 / 4) (by omega)
    have d1 : ∀ k, Mi.run tb m ._law_drawn [.int c, .int k] h = .ok (.int (drw c k)) h := fun k => by
      have := r_drawn c k h (m - 1)
      unfold rn at this
      rw [show m - 1 + 1 = m by omega] at this
      exact this
    unfold rn at ea eb ⊢
    rw [u__law_question, b__law_question]
    by_cases h2 : c % 8 < 2
    · obtain ⟨b, e2⟩ := aot (c := c) (h := h) h2
      have lc : ∀ x6, c1__law_question (Mi.run tb m) [some (.tup (ps.map encP)), some (.int c), some (.int Z), some (.int (c % 8)), some (.str p.1), some (.str p.2), x6, none, none] h = .ok (.lst [q1.enc, q2.enc]) h := by
        intro x6
        unfold c1__law_question
        have := lc_map (T := .nm 8) (vs := [8]) (fi := mIter (mTup (mCons (mC (.int 1)) (mCons (mC (.int 2)) (mNil))))) (c := none) (ρ := [some (.tup (ps.map encP)), some (.int c), some (.int Z), some (.int (c % 8)), some (.str p.1), some (.str p.2), x6, none, none]) (h := h) (h1 := h)
          (fe := mCall (Mi.run tb m) ._law_question 3 (mCons (mVar 0) (mCons (mBin gDiv (mCall (Mi.run tb m) ._law_drawn 2 (mCons (mVar 1) (mCons (mVar 8) (mNil)))) (mC (.int 4))) (mCons (mBin gSub (mVar 2) (mC (.int 1))) (mNil)))))
          (fun i : Int => D.int i) (fun i => if i = 1 then q1.enc else q2.enc) [1, 2] (by simp) trivial (fun n hn => ⟨_, rfl, by
            have hn' : n = 1 ∨ n = 2 := by simpa using hn
            rcases hn' with rfl | rfl
            · simp [wipeD, d1, g_div, hd2, ea]
            · simp [wipeD, d1, g_div, hd2, eb]⟩)
        simpa using this
      cases b
      · refine ⟨.or q1 q2, ?_, by simp only [Qs.dq]; omega⟩
        simp at e2
        simp [g_mod, g_div, hl, hl2, e1, encP, setMany, hd, h2, e2, lc, il0, il1, Qs.enc]
      · refine ⟨.and q1 q2, ?_, by simp only [Qs.dq]; omega⟩
        simp at e2
        simp [g_mod, g_div, hl, hl2, e1, encP, setMany, hd, h2, e2, lc, il0, il1, Qs.enc]
    by_cases h22 : c % 8 = 2
    · refine ⟨.not q1, ?_, by simp only [Qs.dq]; omega⟩
      simp [g_mod, g_div, hl, hl2, e1, encP, setMany, hd, h22, d1, hd2, ea, Qs.enc]
    by_cases h5 : c % 8 < 5 ∧ memS p.2 ["link", "tree"] = true
    · refine ⟨.leads p.1 q1, ?_, by simp only [Qs.dq]; omega⟩
      simp [g_mod, g_div, hl, hl2, e1, encP, setMany, hd, h2, h22, h5.1, in2, h5.2, d1, hd2, ea, Qs.enc]
    have c5 : ∀ (A B : Env' → Hq → SR), True := fun _ _ => trivial
    by_cases h51 : c % 8 < 5
    · have h52 : memS p.2 ["link", "tree"] = false := by
        cases z : memS p.2 ["link", "tree"] with
        | false => rfl
        | true => exact absurd ⟨h51, z⟩ h5
      by_cases h3 : c % 8 = 3
      · exact ⟨.all, by simp [g_mod, g_div, hl, hl2, e1, encP, setMany, hd, h3, in2, h52, Qs.enc], by simp [Qs.dq]⟩
      have h4 : c % 8 = 4 := by omega
      by_cases hn : p.2 = "number"
      · exact ⟨.over p.1 (c / 64 % 21 - 10), by rw [hn] at h52; simp [g_mod, g_div, hl, hl2, e1, encP, setMany, hd, h4, in2, h52, hn, Qs.enc], by simp [Qs.dq]⟩
      · obtain ⟨w, e2, _, _⟩ := r_worth p.2 (c / 64) H3 (.inr rfl) h (m - 3)
        unfold rn at e2
        rw [show m - 3 + 3 = m by omega] at e2
        simp only [H3] at e2
        exact ⟨.is p.1 w, by simp [g_mod, g_div, hl, hl2, e1, encP, setMany, hd, h4, in2, h52, hn, e2, Qs.enc], by simp [Qs.dq]⟩
    · have h3 : ¬ c % 8 = 3 := by omega
      have h4 : ¬ c % 8 = 4 := by omega
      by_cases h6 : c % 8 < 6
      · obtain ⟨w, e2, _, _⟩ := r_worth p.2 (c / 64) H3 (.inr rfl) h (m - 3)
        unfold rn at e2
        rw [show m - 3 + 3 = m by omega] at e2
        simp only [H3] at e2
        exact ⟨.is p.1 w, by simp [g_mod, g_div, hl, hl2, e1, encP, setMany, hd, h2, h22, h51, h3, h4, h6, e2, Qs.enc], by simp [Qs.dq]⟩
      · exact ⟨.has p.1, by simp [g_mod, g_div, hl, hl2, e1, encP, setMany, hd, h2, h22, h51, h3, h4, h6, Qs.enc], by simp [Qs.dq]⟩
end L82
namespace L82
open PySem L2 Mi
theorem join_len (ys : List Str) : (Txt.join "" ys).length = (ys.map (fun x : Str => x.length)).sum := by
  have e : Txt.join "" ys = Str.join "" ys := PySem.StrLaws.glued_eq_join "" ys
  rw [e]
  induction ys with
  | nil => rfl
  | cons y ys ih =>
    cases ys with
    | nil => simp [Str.join]
    | cons z ys =>
      have : Str.join "" (y :: z :: ys) = y ++ ("" : Str) ++ Str.join "" (z :: ys) := rfl
      rw [this, List.map_cons, List.sum_cons, ← ih (PySem.StrLaws.glued_eq_join "" (z :: ys))]
      have l : ∀ a b : Str, (a ++ b).length = a.length + b.length := fun a b => by
        show (a.cps ++ b.cps).size = _
        rw [Array.size_append]; rfl
      rw [l, l]
      rfl
def Act.nms (a : Act) : List Str := a.w1 ++ a.w2
theorem m2 : memS "mark" ["mark", "text", "number"] = true := by decide
theorem r_act {ps : List (Str × Str)} (hp : ps ≠ []) (c : Int) (b : Bool) (h : Hq) (m : Nat) : ∃ a : Act, rn (m + 4) ._law_act [.tup (ps.map encP), .int c, .bl b] h = .ok a.enc h ∧ a.ok = true ∧ (∀ n ∈ a.nms, n ∈ ps.map (·.1)) ∧ (a.isDrop = true ∨ a.nms ≠ []) := by
  have hl : 0 < ps.length := List.length_pos_iff.mpr hp
  have hl2 : (0 : Int) < (ps.length : Int) := by omega
  obtain ⟨p, hpm, e1⟩ := leaf_at hp (c := c / 8) (h := h)
  unfold rn
  rw [u__law_act, b__law_act]
  have lc : c1__law_act (Mi.run tb (m + 3)) [some (.tup (ps.map encP)), some (.int c), some (.bl b), none, some (.str p.1), some (.str p.2), none] h = .ok (.lst ((ps.filter fun q : Str × Str => decide (q.2 = ("number" : Str))).map fun q => .str q.1)) h := by
    unfold c1__law_act
    refine lc_eq (c := none) encP (fun q : Str × Str => decide (q.2 = ("number" : Str))) _ ps ?_ trivial fun q hq => ⟨_, rfl, ?_, fun _ => ?_⟩
    · simp
    · simp [wipeD, encP, g_ix1]
    · simp [wipeD, encP, g_ix0]
  have pm : p.1 ∈ ps.map (·.1) := List.mem_map.mpr ⟨p, hpm, rfl⟩
  by_cases hn : p.2 = "number"
  · by_cases h30 : c % 3 = 0
    · refine ⟨.add p.1 (c / 512 % 199 - 99), ?_, rfl, fun n hnm => ?_, .inr (by simp [Act.nms, Act.w1])⟩
      · simp [g_mod, g_div, hl, hl2, e1, encP, setMany]
        rw [hn] at lc
        simp [lc, g_mod, g_div, hn, h30, Act.enc]
      · have : n = p.1 := by simpa [Act.nms, Act.w1, Act.w2] using hnm
        rw [this]; exact pm
    by_cases h31 : c % 3 = 1
    · have ne : 0 < (ps.filter fun q : Str × Str => decide (q.2 = ("number" : Str))).length := List.length_pos_of_mem (List.mem_filter.mpr ⟨hpm, by simp [hn]⟩)
      obtain ⟨L, hL⟩ : ∃ L, L = ps.filter fun q : Str × Str => decide (q.2 = ("number" : Str)) := ⟨_, rfl⟩
      rw [← hL] at lc ne
      have hi0 : 0 ≤ c / 64 % (L.length : Int) := Int.emod_nonneg _ (by omega)
      have hi1 : c / 64 % (L.length : Int) < L.length := Int.emod_lt_of_pos _ (by omega)
      obtain ⟨n, hnn⟩ : ∃ n : Nat, c / 64 % (L.length : Int) = n := ⟨(c / 64 % (L.length : Int)).toNat, by omega⟩
      have hlt : n < L.length := by omega
      have e4 : gIx (.lst (L.map fun q => .str q.1)) (.int (n : Nat)) h = some (.str L[n].1, h) := g_ixL (by rw [List.getElem?_map, List.getElem?_eq_getElem hlt]; rfl)
      have ne2 : (0 : Int) < (L.length : Int) := by omega
      refine ⟨.copy p.1 L[n].1, ?_, rfl, fun x hnm => ?_, .inr (by simp [Act.nms, Act.w2])⟩
      · simp [g_mod, g_div, hl, hl2, e1, encP, setMany]
        rw [hn] at lc
        simp [lc, g_mod, g_div, hn, h31, ne, ne2, hnn, e4, Act.enc]
      · have : x = L[n].1 := by simpa [Act.nms, Act.w1, Act.w2] using hnm
        rw [this]
        have hm : ∀ q ∈ L, q ∈ ps := fun q hq => by rw [hL] at hq; exact (List.mem_filter.mp hq).1
        exact List.mem_map.mpr ⟨_, hm _ (List.getElem_mem hlt), rfl⟩
    by_cases h40 : 0 < c % 4
    · obtain ⟨w, e2, tw, _⟩ := r_worth p.2 (c / 512) [] (.inl rfl) h m
      unfold rn at e2
      have mm : memS p.2 ["mark", "text", "number"] = true := by rw [hn]; decide
      refine ⟨.put p.1 w, ?_, tw, fun n hnm => ?_, .inr (by simp [Act.nms, Act.w1])⟩
      · simp [g_mod, g_div, hl, hl2, e1, encP, setMany]
        rw [hn] at lc mm e2
        simp [lc, g_mod, g_div, hn, h30, h31, in3, mm, h40, e2, Act.enc]
      · have : n = p.1 := by simpa [Act.nms, Act.w1, Act.w2] using hnm
        rw [this]; exact pm
    · have mm : memS p.2 ["mark", "text", "number"] = true := by rw [hn]; decide
      by_cases hb : b = true ∧ c % 7 = 0
      · refine ⟨.drop, ?_, rfl, by simp [Act.nms, Act.w1, Act.w2], .inl rfl⟩
        simp [g_mod, g_div, hl, hl2, e1, encP, setMany]
        rw [hn, hb.1] at lc
        rw [hn] at mm
        have gi : gInt [.bl true] h = some (.int 1, h) := rfl
        simp [lc, g_mod, g_div, hn, h30, h31, in3, mm, h40, hb.1, hb.2, gi, il1, Act.enc]
      · refine ⟨.take p.1, ?_, rfl, fun n hnm => ?_, .inr (by simp [Act.nms, Act.w1])⟩
        · simp [g_mod, g_div, hl, hl2, e1, encP, setMany]
          rw [hn] at lc mm
          have gi : gInt [.bl false] h = some (.int 0, h) := rfl
          cases b
          · simp [lc, g_mod, g_div, hn, h30, h31, in3, mm, h40, gi, il0, Act.enc]
          · have h7 : ¬ c % 7 = 0 := fun z => hb ⟨rfl, z⟩
            simp [lc, g_mod, g_div, hn, h30, h31, in3, mm, h40, h7, gi, il0, Act.enc]
        · have : n = p.1 := by simpa [Act.nms, Act.w1, Act.w2] using hnm
          rw [this]; exact pm
  · by_cases hq : memS p.2 ["mark", "text", "number"] = true ∧ 0 < c % 4
    · obtain ⟨w, e2, tw, _⟩ := r_worth p.2 (c / 512) [] (.inl rfl) h m
      unfold rn at e2
      refine ⟨.put p.1 w, ?_, tw, fun n hnm => ?_, .inr (by simp [Act.nms, Act.w1])⟩
      · simp [g_mod, g_div, hl, hl2, e1, encP, setMany, lc, hn, in3, hq.1, hq.2, e2, Act.enc]
      · have : n = p.1 := by simpa [Act.nms, Act.w1, Act.w2] using hnm
        rw [this]; exact pm
    · have gq : ∀ x : Bool, x = memS p.2 ["mark", "text", "number"] → (x = false ∨ (x = true ∧ ¬ 0 < c % 4)) := fun x hx => by
        cases x
        · exact .inl rfl
        · exact .inr ⟨rfl, fun z => hq ⟨hx.symm, z⟩⟩
      by_cases hb : b = true ∧ c % 7 = 0
      · refine ⟨.drop, ?_, rfl, by simp [Act.nms, Act.w1, Act.w2], .inl rfl⟩
        rw [hb.1] at lc
        have gi : gInt [.bl true] h = some (.int 1, h) := rfl
        rcases gq _ rfl with z | ⟨z, z4⟩
        · simp [g_mod, g_div, hl, hl2, e1, encP, setMany, lc, hn, in3, z, hb.1, hb.2, gi, il1, Act.enc]
        · simp [g_mod, g_div, hl, hl2, e1, encP, setMany, lc, hn, in3, z, z4, hb.1, hb.2, gi, il1, Act.enc]
      · refine ⟨.take p.1, ?_, rfl, fun n hnm => ?_, .inr (by simp [Act.nms, Act.w1])⟩
        · have gi : gInt [.bl false] h = some (.int 0, h) := rfl
          cases b
          · rcases gq _ rfl with z | ⟨z, z4⟩
            · simp [g_mod, g_div, hl, hl2, e1, encP, setMany, lc, hn, in3, z, gi, il0, Act.enc]
            · simp [g_mod, g_div, hl, hl2, e1, encP, setMany, lc, hn, in3, z, z4, gi, il0, Act.enc]
          · have h7 : ¬ c % 7 = 0 := fun z => hb ⟨rfl, z⟩
            rcases gq _ rfl with z | ⟨z, z4⟩
            · simp [g_mod, g_div, hl, hl2, e1, encP, setMany, lc, hn, in3, z, h7, gi, il0, Act.enc]
            · simp [g_mod, g_div, hl, hl2, e1, encP, setMany, lc, hn, in3, z, z4, h7, gi, il0, Act.enc]
        · have : n = p.1 := by simpa [Act.nms, Act.w1, Act.w2] using hnm
          rw [this]; exact pm
/-- what is known of a drawn deed -/
structure DdOk (ns : List Str) (d : Dd) : Prop extends Dd.Ok d where
  ne : d.acts ≠ []
  nm : ∀ a ∈ d.acts, (∀ n ∈ a.nms, n ∈ ns) ∧ (a.isDrop = true ∨ a.nms ≠ [])
theorem r_deed {ps : List (Str × Str)} (hp : ps ≠ []) (c : Int) (b : Bool) (h : Hq) (m : Nat) : ∃ d : Dd, rn (m + 9) ._law_deed [.tup (ps.map encP), .int c, .bl b] h = .ok d.enc h ∧ DdOk (ps.map (·.1)) d := by
  have b1 : 0 ≤ c / 4 % 3 ∧ c / 4 % 3 < 3 := by omega
  obtain ⟨as, e1, e2, e3⟩ := lc_ex (T := .nm 5) (vs := [5]) (fi := mRange (mCons (mBin gAdd (mC (.int 1)) (mBin gMod (mBin gDiv (mVar 1) (mC (.int 4))) (mC (.int 3)))) (mNil))) (c := none)
    (fe := mCall (Mi.run tb (m + 8)) ._law_act 3 (mCons (mVar 0) (mCons (mBin gDiv (mCall (Mi.run tb (m + 8)) ._law_drawn 2 (mCons (mVar 1) (mCons (mBin gAdd (mC (.int 20)) (mVar 5)) (mNil)))) (mC (.int 4))) (mCons (mVar 2) (mNil)))))
    (ρ := [some (.tup (ps.map encP)), some (.int c), some (.bl b), none, none, none]) (h := h) (h1 := h) (fun i : Nat => D.int (i : Nat)) Act.enc (fun _ a => a.ok = true ∧ (∀ n ∈ a.nms, n ∈ ps.map (·.1)) ∧ (a.isDrop = true ∨ a.nms ≠ [])) (List.range (1 + c / 4 % 3).toNat)
    (by have : -1000000 ≤ 1 + c / 4 % 3 ∧ 1 + c / 4 % 3 ≤ 1000000 := by omega
        simp [g_mod, g_div, this, upto]) trivial (fun k hk => by
      obtain ⟨a, ea, pa⟩ := r_act hp (drw c (20 + k) / 4) b h (m + 4)
      unfold rn at ea
      refine ⟨_, rfl, a, ?_, pa⟩
      have d1 := r_drawn c (20 + k) h (m + 7)
      unfold rn at d1
      simp [wipeD, d1, g_div, ea])
  have b2 : 0 ≤ c / 64 % 3 ∧ c / 64 % 3 < 3 := by omega
  obtain ⟨dd, hdd⟩ : ∃ dd : Nat, c / 64 % 3 = dd := ⟨(c / 64 % 3).toNat, by omega⟩
  obtain ⟨q, e4, e5⟩ := r_question hp h dd (m + 8) (drw c 30 / 4) (by omega)
  obtain ⟨ys, e6, e7, e8⟩ := r_letters (c / 16) 3 (by omega) h (m + 6)
  have d1 := r_drawn c 30 h (m + 7)
  unfold rn at e4 e6 d1 ⊢
  rw [u__law_deed, b__law_deed]
  have lc : c1__law_deed (Mi.run tb (m + 8)) [some (.tup (ps.map encP)), some (.int c), some (.bl b), none, none, none] h = .ok (.lst (as.map Act.enc)) h := e1
  have hlen : (Txt.join "" ys).length ≤ 3 := by
    rw [join_len]
    have : (ys.map (fun x : Str => x.length)).sum ≤ ys.length := by
      clear e6 e7
      induction ys with
      | nil => simp
      | cons y ys ih =>
        obtain ⟨i, hi⟩ := e8 y List.mem_cons_self
        have := ih fun z hz => e8 z (List.mem_cons_of_mem _ hz)
        rw [List.map_cons, List.sum_cons, List.length_cons, hi, lett_len]
        omega
    omega
  have hadd : gAdd (.str (Txt.join "" ys)) (.str "d") h = some (.str (Txt.join "" ys ++ "d"), h) := by
    show (if (Txt.join "" ys).length + ("d" : Str).length ≤ sizeLine then some (D.str (Txt.join "" ys ++ "d"), h) else none) = _
    rw [if_pos (by have : ("d" : Str).length = 1 := rfl
                   rw [this, szL]; omega)]
  have al : as.length = (1 + c / 4 % 3).toNat := by rw [e2, List.length_range]
  refine ⟨⟨Txt.join "" ys ++ "d", q, as⟩, ?_, ⟨⟨by show q.dq ≤ 3; omega, fun x hx => ?_, by show as.length ≤ 3; omega⟩, fun z => ?_, fun a ha => ?_⟩⟩
  · have k1 : (1 : Int) + c / 64 % 3 = (dd : Int) + 1 := by omega
    have k3 : ((3 : Nat) : Int) = 3 := rfl
    rw [k3] at e6
    simp [lc, d1, g_div, g_mod, k1, e4, e6, hadd, Dd.enc]
  · obtain ⟨_, _, z, _⟩ := e3 x hx; exact z
  · have : as = [] := z
    rw [this] at al
    simp at al
    omega
  · obtain ⟨_, _, _, z⟩ := e3 a ha; exact z
end L82
namespace L82
open PySem L2 Mi
theorem mem_stg (cl : Nat → Nat → Bool) (k i s : Nat) : i ∈ stg cl k s ↔ i < k ∧ (stN cl k).getD i 0 = (s : Int) := by
  unfold stg
  rw [List.mem_map]
  constructor
  · rintro ⟨⟨v, j⟩, hp, rfl⟩
    obtain ⟨h1, h2⟩ := List.mem_filter.mp hp
    obtain ⟨q1, q2⟩ := List.mk_mem_zipIdx_iff_getElem?.mp h1 |> fun z => (⟨z, rfl⟩ : (stN cl k)[j]? = some v ∧ True = True)
    have hlt := (List.getElem?_eq_some_iff.mp q1).1
    rw [stN_len] at hlt
    refine ⟨hlt, ?_⟩
    rw [List.getD_eq_getElem?_getD, q1]
    simpa using h2
  · rintro ⟨hi, e⟩
    have q1 : (stN cl k)[i]? = some ((stN cl k).getD i 0) := by
      rw [List.getD_eq_getElem?_getD, List.getElem?_eq_getElem (by rw [stN_len]; exact hi)]; rfl
    exact ⟨((stN cl k).getD i 0, i), List.mem_filter.mpr ⟨List.mk_mem_zipIdx_iff_getElem?.mpr q1, by simpa using e⟩, rfl⟩
theorem st_lt (cl : Nat → Nat → Bool) {k i : Nat} (hi : i < k) : (stN cl k).getD i 0 < many cl k := by
  unfold many
  have := (mx_spec (L := stN cl k ++ [-1]) (by simp)).2 ((stN cl k).getD i 0) (by
    apply List.mem_append_left
    rw [List.getD_eq_getElem?_getD, List.getElem?_eq_getElem (by rw [stN_len]; exact hi)]
    exact List.getElem_mem _)
  omega
/-- the stages as told -/
def stgsD (cl : Nat → Nat → Bool) (k : Nat) : D := .tup ((List.range (many cl k).toNat).map fun s => encI (stg cl k s))
theorem filter_one (N t : Nat) (h : t < N) : (List.range N).filter (fun s => decide (s = t)) = [t] := by
  induction N with
  | zero => omega
  | succ N ih =>
    rw [List.range_succ, List.filter_append]
    by_cases ht : t < N
    · rw [ih ht]
      have : ¬ N = t := by omega
      simp [this]
    · have e : t = N := by omega
      subst e
      have : (List.range t).filter (fun s => decide (s = t)) = [] := by
        rw [List.filter_eq_nil_iff]
        intro s hs
        have := List.mem_range.mp hs
        simp; omega
      rw [this]; simp
theorem in_encI {h : Hq} {x : Nat} {s : List Nat} : gIn (.int (x : Nat)) (encI s) h = some (.bl (decide (x ∈ s)), h) := by
  have := g_inT (enc := fun x : Nat => D.int (x : Nat)) (fun _ => rfl) (fun a b e => by have : (a : Int) = (b : Int) := by simpa using e
                                                                                        omega) (h := h) (L := s) (a := x) (by simp [D.dp])
  exact this
/-! ### stages and chains, by themselves -/
theorem clsh_comm (ns : List Str) (a b : Dd) : clsh ns a b = clsh ns b a := by
  unfold clsh
  cases a.drops <;> cases b.drops <;> simp [Bool.or_comm]
theorem clD_comm (ns : List Str) (ds : List Dd) (i j : Nat) : clD ns ds i j = clD ns ds j i := by
  unfold clD
  cases ds[i]? <;> cases ds[j]? <;> simp [clsh_comm]
section
variable (cl : Nat → Nat → Bool) {k : Nat}
theorem st_clash {i j : Nat} (h : i < j) (hj : j < k) (c : cl i j = true) : (stN cl k).getD i 0 < (stN cl k).getD j 0 := by
  rw [stN_get cl hj]
  have e : (stN cl k).getD i 0 = (stN cl j).getD i 0 := by rw [stN_get cl (show i < k by omega), stN_get cl h]
  rw [e]
  have := (mx_spec (late_ne cl (stN cl j) j)).2 ((stN cl j).getD i 0 + 1) (by
    apply List.mem_append_left
    unfold late
    exact List.mem_map.mpr ⟨i, List.mem_filter.mpr ⟨List.mem_range.mpr h, c⟩, rfl⟩)
  omega
theorem st_prev {j t : Nat} (hj : j < k) (e : (stN cl k).getD j 0 = (t : Int) + 1) : ∃ i, i < j ∧ cl i j = true ∧ (stN cl k).getD i 0 = (t : Int) := by
  rw [stN_get cl hj] at e
  have := (mx_spec (late_ne cl (stN cl j) j)).1
  rw [e] at this
  rcases List.mem_append.mp this with h | h
  · unfold late at h
    obtain ⟨i, hi, ei⟩ := List.mem_map.mp h
    obtain ⟨h1, h2⟩ := List.mem_filter.mp hi
    have h1 := List.mem_range.mp h1
    refine ⟨i, h1, h2, ?_⟩
    have e2 : (stN cl k).getD i 0 = (stN cl j).getD i 0 := by rw [stN_get cl (show i < k by omega), stN_get cl h1]
    rw [e2]; omega
  · have : (t : Int) + 1 = 0 := by simpa using h
    omega
theorem st_down : ∀ (d : Nat) {t : Nat}, (∃ j, j < k ∧ (stN cl k).getD j 0 = ((t + d : Nat) : Int)) → ∃ i, i < k ∧ (stN cl k).getD i 0 = (t : Int)
  | 0, t, h => h
  | d + 1, t, ⟨j, hj, e⟩ => by
    obtain ⟨i, h1, _, h3⟩ := st_prev cl (t := t + d) hj (by rw [e]; omega)
    exact st_down d ⟨i, by omega, h3⟩
theorem stg_ne {s : Nat} (h : (s : Int) < many cl k) : stg cl k s ≠ [] := by
  have hm := (mx_spec (L := stN cl k ++ [-1]) (by simp)).1
  have hM : mx (stN cl k ++ [-1]) = many cl k - 1 := by unfold many; omega
  rw [hM] at hm
  have : many cl k - 1 ∈ stN cl k := by
    rcases List.mem_append.mp hm with q | q
    · exact q
    · have : many cl k - 1 = -1 := by simpa using q
      omega
  obtain ⟨j, hj, e⟩ := mem_stN cl this
  obtain ⟨i, hi, e2⟩ := st_down cl (k := k) ((many cl k - 1).toNat - s) (t := s) ⟨j, hj, by rw [← e]; omega⟩
  intro z
  have := (mem_stg cl k i s).mpr ⟨hi, e2⟩
  rw [z] at this; cases this
theorem ch_len : ∀ (n : Nat) (s : List Nat) (a : Nat), s.length = n → (∀ x ∈ s ++ [a], x < k) → chOk cl (s ++ [a]) = true → (n : Int) ≤ (stN cl k).getD a 0
  | 0, s, a, hl, hs, _ => (stN_bd cl k a (hs a (by simp))).1
  | n + 1, s, a, hl, hs, hc => by
    obtain ⟨s', b, rfl⟩ : ∃ s' b, s = s' ++ [b] := ⟨s.dropLast, s.getLast (by intro z; subst z; cases hl), (List.dropLast_concat_getLast _).symm⟩
    rw [chOk_snoc] at hc
    simp only [Bool.and_eq_true, decide_eq_true_eq] at hc
    have ih := ch_len n s' b (by simpa using hl) (fun x hx => hs x (by simp at hx ⊢; rcases hx with h | h <;> simp [h])) hc.1
    have := st_clash cl (k := k) hc.2.1 (hs a (by simp)) hc.2.2
    omega
theorem ch_long (s : List Nat) (hs : ∀ x ∈ s, x < k) (hc : chOk cl s = true) : (s.length : Int) ≤ many cl k := by
  by_cases z : s = []
  · subst z; have := many_bd cl k; simp; omega
  · obtain ⟨s', b, rfl⟩ : ∃ s' b, s = s' ++ [b] := ⟨s.dropLast, s.getLast z, (List.dropLast_concat_getLast _).symm⟩
    have := ch_len cl (k := k) s'.length s' b rfl hs hc
    have := st_lt cl (hs b (by simp))
    simp; omega
/-- all stages, one behind the other -/
def evr (k : Nat) (n : Nat) : List Nat := (List.range n).flatMap (stg cl k)
theorem evr_succ (n : Nat) : evr cl k (n + 1) = evr cl k n ++ stg cl k n := by
  unfold evr
  rw [List.range_succ, List.flatMap_append]
  simp
theorem stg_nodup (s : Nat) : (stg cl k s).Nodup := by
  unfold stg
  have : ((stN cl k).zipIdx.map (·.2)).Nodup := by
    rw [List.zipIdx_map_snd]
    exact List.nodup_range'
  exact (List.Sublist.map _ List.filter_sublist).nodup this
theorem evr_nodup (n : Nat) : (evr cl k n).Nodup := by
  unfold evr
  rw [List.Nodup, List.pairwise_flatMap]
  refine ⟨fun s _ => stg_nodup cl s, ?_⟩
  refine List.Pairwise.imp (R := (· ≠ ·)) (fun {a b} hab x hx y hy e => ?_) List.nodup_range
  subst e
  have h1 := ((mem_stg cl k x a).mp hx).2
  have h2 := ((mem_stg cl k x b).mp hy).2
  omega
theorem evr_mem (i : Nat) : i ∈ evr cl k (many cl k).toNat ↔ i < k := by
  unfold evr
  rw [List.mem_flatMap]
  constructor
  · rintro ⟨s, _, h⟩
    exact ((mem_stg cl k i s).mp h).1
  · intro hi
    have b0 := (stN_bd cl k i hi).1
    have b1 := st_lt cl hi
    exact ⟨((stN cl k).getD i 0).toNat, List.mem_range.mpr (by omega), (mem_stg cl k i _).mpr ⟨hi, by omega⟩⟩
theorem evr_len : (evr cl k (many cl k).toNat).length = k := by
  have : (evr cl k (many cl k).toNat).Perm (List.range k) := (List.perm_ext_iff_of_nodup (evr_nodup cl _) List.nodup_range).mpr fun i => by rw [evr_mem, List.mem_range]
  simpa using this.length_eq
theorem evr_le (n : Nat) (hn : n ≤ (many cl k).toNat) : (evr cl k n).length ≤ k := by
  have e : evr cl k (many cl k).toNat = evr cl k n ++ ((List.range' n ((many cl k).toNat - n)).flatMap (stg cl k)) := by
    unfold evr
    rw [← List.flatMap_append]
    congr 1
    rw [List.range_eq_range', List.range_eq_range']
    have := List.range'_append (s := 0) (m := n) (n := (many cl k).toNat - n) (step := 1)
    simp only [Nat.one_mul, Nat.zero_add] at this
    rw [this]
    congr 1; omega
  have := congrArg List.length e
  rw [evr_len, List.length_append] at this
  omega
end
def leN (a b : Nat) : Bool := leD (.int (a : Nat)) (.int (b : Nat))
theorem leN_iff (a b : Nat) : leN a b = decide (a ≤ b) := by
  unfold leN leD
  show (!PySem.W.dataLt (.int ((b : Nat) : Int)) (.int ((a : Nat) : Int))) = _
  rw [PySem.W.dataLt_int]
  by_cases h : a ≤ b
  · rw [decide_eq_true h, decide_eq_false (by omega)]; rfl
  · rw [decide_eq_false h, decide_eq_true (by omega)]; rfl
theorem sortOk_nats (L : List Nat) : sortOk (L.map fun x => .int (x : Nat)) = true := by
  unfold sortOk
  simp only [Bool.and_eq_true, Bool.or_eq_true, List.all_eq_true, List.mem_map, forall_exists_index, and_imp, forall_apply_eq_imp_iff₂]
  refine ⟨⟨⟨fun a _ => rfl, fun a _ b _ => rfl⟩, fun a _ => rfl⟩, .inr fun a _ => ⟨rfl, rfl⟩⟩
theorem sort_range {L : List Nat} {k : Nat} (p : L.Perm (List.range k)) : L.mergeSort leN = List.range k := by
  have h1 : (L.mergeSort leN).Perm (List.range k) := (List.mergeSort_perm _ _).trans p
  have h2 : (L.mergeSort leN).Pairwise (fun a b => leN a b = true) := List.pairwise_mergeSort (fun a b c => by simp only [leN_iff, decide_eq_true_eq]; omega) (fun a b => by simp only [leN_iff, Bool.or_eq_true, decide_eq_true_eq]; omega) L
  refine h1.eq_of_pairwise (le := fun a b => a ≤ b) (fun a b _ _ => by omega) (h2.imp fun h => ?_) ?_
  · rw [leN_iff] at h; simpa using h
  · exact List.pairwise_le_range
theorem g_sorted2 {h : Hq} {L : List Nat} {k : Nat} (p : L.Perm (List.range k)) : gSorted2 [encI L] h = some (.lst ((List.range k).map fun x => .int (x : Nat)), h) := by
  show (if sortOk (L.map fun x => D.int (x : Nat)) = true then some (D.lst ((L.map fun x => D.int (x : Nat)).mergeSort leD), h) else none) = _
  rw [if_pos (sortOk_nats L), ← List.map_mergeSort (r := leN) (s := leD) (f := fun x : Nat => D.int (x : Nat)) (fun a _ b _ => rfl), sort_range p]
end L82
namespace L82
open PySem L2 Mi
/-! ### is_chain of whatever -/
inductive It where
  | n (i : Int) | bb (b : Bool) | st (x : Str)
def It.enc : It → D
  | .n i => .int i
  | .bb b => .bl b
  | .st x => .str x
def It.ok (k : Nat) : It → Bool
  | .n i => decide (0 ≤ i ∧ i ≤ (k : Int) - 1)
  | _ => false
theorem isi_int' {x : It} {h : Hq} : gIsi [x.enc, .ty "int"] h = some (.bl (match x with | .st _ => false | _ => true), h) := by
  cases x <;> (unfold gIsi It.enc; dsimp only; rw [if_pos (by decide)]; rfl)
theorem isi_bl' {x : It} {h : Hq} : gIsi [x.enc, .ty "bool"] h = some (.bl (match x with | .bb _ => true | _ => false), h) := by
  cases x <;> (unfold gIsi It.enc; dsimp only; rw [if_pos (by decide)]; rfl)
theorem r_is_whole' (x : It) (k : Nat) (h : Hq) (m : Nat) : rn (m + 1) .is_whole [x.enc, .int 0, .int ((k : Int) - 1)] h = .ok (.bl (x.ok k)) h := by
  cases x with
  | n i => exact r_is_whole i 0 _ h m
  | bb b => unfold rn; rw [u_is_whole, b_is_whole]; have e1 := isi_int' (x := .bb b) (h := h); have e2 := isi_bl' (x := .bb b) (h := h); simp only [It.enc] at e1 e2; simp [It.enc, e1, e2, It.ok]
  | st x => unfold rn; rw [u_is_whole, b_is_whole]; have e1 := isi_int' (x := .st x) (h := h); simp only [It.enc] at e1; simp [It.enc, e1, It.ok]
theorem items_nats {k : Nat} : ∀ {xs : List It}, xs.all (It.ok k) = true → ∃ s : List Nat, xs = s.map (fun x => It.n (x : Nat)) ∧ ∀ x ∈ s, x < k
  | [], _ => ⟨[], rfl, by simp⟩
  | x :: xs, h => by
    simp only [List.all_cons, Bool.and_eq_true] at h
    obtain ⟨s, e, k1⟩ := items_nats h.2
    cases x with
    | n i =>
      have hi : 0 ≤ i ∧ i ≤ (k : Int) - 1 := by simpa [It.ok] using h.1
      refine ⟨i.toNat :: s, by rw [List.map_cons, ← e, show ((i.toNat : Nat) : Int) = i by omega], fun y hy => ?_⟩
      rcases List.mem_cons.mp hy with rfl | hy
      · omega
      · exact k1 y hy
    | bb => simp [It.ok] at h
    | st => simp [It.ok] at h
theorem enc_nats2 (s : List Nat) : D.tup ((s.map fun x => It.n (x : Nat)).map It.enc) = encI s := by
  unfold encI
  rw [List.map_map]; rfl
/-- a loop that may give back -/
theorem forGo_find {α : Type} {T : Tg} {all : List D} {body : Ex} {r : D} {h : Hq} (enc : α → D) (p : α → Bool) (I : Env' → Prop) : ∀ (xs : List α) (ρ : Env'),
    (∀ x ∈ xs, ∀ ρ, I ρ → ∃ ρ1, setT T (enc x) ρ = some ρ1 ∧ (p x = true → ∃ ρ2, body ρ1 h = .nx ρ2 h ∧ I ρ2) ∧ (p x = false → body ρ1 h = .rt r h)) → I ρ →
    (xs.all p = true → ∃ ρ', forGo T none all body (xs.map enc) ρ h = .nx ρ' h ∧ I ρ') ∧ (xs.all p = false → forGo T none all body (xs.map enc) ρ h = .rt r h)
  | [], ρ, _, i => ⟨fun _ => ⟨ρ, by simp only [List.map_nil, forGo]; rw [if_pos (show chkOk none all h from trivial)], i⟩, fun z => by simp at z⟩
  | x :: xs, ρ, k, i => by
    obtain ⟨ρ1, e1, k1, k2⟩ := k x List.mem_cons_self ρ i
    cases hp : p x with
    | true =>
      obtain ⟨ρ2, e2, i2⟩ := k1 hp
      have ih := forGo_find (all := all) enc p I xs ρ2 (fun y hy => k y (List.mem_cons_of_mem _ hy)) i2
      have e : forGo T none all body ((x :: xs).map enc) ρ h = forGo T none all body (xs.map enc) ρ2 h := by
        simp only [List.map_cons, forGo]
        rw [if_pos (show chkOk none all h from trivial), e1]
        dsimp only
        rw [e2]
      rw [e, List.all_cons, hp, Bool.true_and]
      exact ih
    | false =>
      have e : forGo T none all body ((x :: xs).map enc) ρ h = .rt r h := by
        simp only [List.map_cons, forGo]
        rw [if_pos (show chkOk none all h from trivial), e1]
        dsimp only
        rw [k2 hp]
      rw [e, List.all_cons, hp, Bool.false_and]
      exact ⟨fun z => by simp at z, fun _ => rfl⟩
theorem for_find {α : Type} {T : Tg} {fi : Ev (List D × Option (Nat × O))} {body : Ex} {r : D} {ρ : Env'} {h h1 : Hq} (enc : α → D) (p : α → Bool) (I : Env' → Prop) (xs : List α) (ei : fi ρ h = .ok (xs.map enc, none) h1)
    (k : ∀ x ∈ xs, ∀ ρ, I ρ → ∃ ρ1, setT T (enc x) ρ = some ρ1 ∧ (p x = true → ∃ ρ2, body ρ1 h1 = .nx ρ2 h1 ∧ I ρ2) ∧ (p x = false → body ρ1 h1 = .rt r h1)) (i : I ρ) :
    (xs.all p = true → ∃ ρ', mFor T fi body ρ h = .nx ρ' h1 ∧ I ρ') ∧ (xs.all p = false → mFor T fi body ρ h = .rt r h1) := by
  unfold mFor
  rw [ei]
  simp only [bindS_ok]
  exact forGo_find enc p I xs ρ k i
/-- what is asked of a row -/
def rowOk (ns : List Str) (ds : List Dd) (xs : List It) : Bool := xs.all (It.ok ds.length) && chOk (clD ns ds) (xs.map fun x => match x with | .n i => i.toNat | _ => 0)
theorem rowOk_nats {ds : List Dd} (ns : List Str) (s : List Nat) (hs : ∀ x ∈ s, x < ds.length) : rowOk ns ds (s.map fun x => It.n (x : Nat)) = chOk (clD ns ds) s := by
  unfold rowOk
  have e1 : (s.map fun x => It.n (x : Nat)).all (It.ok ds.length) = true := by
    rw [List.all_map, List.all_eq_true]
    intro x hx
    have := hs x hx
    simp [It.ok]; omega
  rw [e1, Bool.true_and, List.map_map]
  congr 1
  conv => rhs; rw [← List.map_id s]
  apply List.map_congr_left
  intro x _
  simp
section
variable {ps : List (Str × Str)} (hl : ps.length ≤ 6) {ds : List Dd} (kd : ∀ d ∈ ds, d.Ok) (hn : ds.length ≤ 7)
include hl kd
theorem r_is_chain0 (h : Hq) (m : Nat) : rn (m + 7) .is_chain [.tup (ps.map encP), .tup (ds.map Dd.enc), .tup []] h = .ok (.bl true) h := by
  unfold rn
  rw [u_is_chain, b_is_chain]
  have lc1 : c1_is_chain (Mi.run tb (m + 6)) [some (.tup (ps.map encP)), some (.tup (ds.map Dd.enc)), some (.tup []), none, none, none, none] h = .ok (.lst []) h := by
    unfold c1_is_chain
    exact lc_map (c := none) (fun x : Nat => D.int (x : Nat)) (fun _ => .non) [] (by simp) trivial fun x hx => by cases hx
  have e1 : gSl (.tup []) none (some (-1)) h = some (.tup [], h) := by simp only [gSl, asT]; rw [if_pos (by decide)]
  have e2 : gSl (.tup []) (some 1) none h = some (.tup [], h) := by simp only [gSl, asT]; rw [if_pos (by decide)]
  have lc2 : c2_is_chain (Mi.run tb (m + 6)) [some (.tup (ps.map encP)), some (.tup (ds.map Dd.enc)), some (.tup []), some (.lst []), none, none, none] h = .ok (.lst []) h := by
    unfold c2_is_chain
    exact lc_map (c := none) (fun x : Nat => D.int (x : Nat)) (fun _ => .non) [] (by simp) trivial fun x hx => by cases hx
  have ga : gAll [.lst []] h = some (.bl true, h) := g_all (h := h) (fun x : Nat => true) []
  simp [isi_tup, lc1, ga, e1, e2, zipD, lc2]
theorem r_is_chainS (s : List Nat) (hs : ∀ x ∈ s, x < ds.length) (h : Hq) (m : Nat) : rn (m + 7) .is_chain [.tup (ps.map encP), .tup (ds.map Dd.enc), encI s] h = .ok (.bl (chOk (clD (ps.map (·.1)) ds) s)) h := by
  by_cases z : s = []
  · subst z; exact r_is_chain0 hl kd h m
  · obtain ⟨s', b, rfl⟩ : ∃ s' b, s = s' ++ [b] := ⟨s.dropLast, s.getLast z, (List.dropLast_concat_getLast _).symm⟩
    exact r_is_chain hl kd s' b hs h m
theorem r_is_chainI (xs : List It) (h : Hq) (m : Nat) : rn (m + 7) .is_chain [.tup (ps.map encP), .tup (ds.map Dd.enc), .tup (xs.map It.enc)] h = .ok (.bl (rowOk (ps.map (·.1)) ds xs)) h := by
  cases ha : xs.all (It.ok ds.length) with
  | true =>
    obtain ⟨s, rfl, hs⟩ := items_nats ha
    rw [enc_nats2, rowOk_nats _ s hs]
    exact r_is_chainS hl kd s hs h m
  | false =>
    have er : rowOk (ps.map (·.1)) ds xs = false := by unfold rowOk; rw [ha]; rfl
    rw [er]
    unfold rn
    rw [u_is_chain, b_is_chain]
    have lc1 : c1_is_chain (Mi.run tb (m + 6)) [some (.tup (ps.map encP)), some (.tup (ds.map Dd.enc)), some (.tup (xs.map It.enc)), none, none, none, none] h = .ok (.lst (xs.map fun x => .bl (x.ok ds.length))) h := by
      unfold c1_is_chain
      refine lc_map (c := none) It.enc _ xs ?_ trivial fun x hx => ⟨_, rfl, ?_⟩
      · simp
      · have e := r_is_whole' x ds.length h (m + 5)
        unfold rn at e
        simp only [wipeD]
        simp [e]
    have ga := g_all (h := h) (fun x : It => x.ok ds.length) xs
    rw [ha] at ga
    simp [isi_tup, lc1, ga]
theorem r_lis_chain (xs : List It) (h : Hq) (m : Nat) : rn (m + 7) ._law_is_chain [.tup (ps.map encP), .tup (ds.map Dd.enc), .tup (xs.map It.enc)] h = .ok (.bl (rowOk (ps.map (·.1)) ds xs)) h := by
  unfold rn
  rw [u__law_is_chain, b__law_is_chain]
  have lc1 : c1__law_is_chain (Mi.run tb (m + 6)) [some (.tup (ps.map encP)), some (.tup (ds.map Dd.enc)), some (.tup (xs.map It.enc)), none, none, none, none] h = .ok (.lst ((xs.filter (It.ok ds.length)).map It.enc)) h := by
    unfold c1__law_is_chain
    refine lc_eq (c := none) It.enc (It.ok ds.length) _ xs ?_ trivial fun x hx => ⟨_, rfl, ?_, fun _ => ?_⟩
    · simp
    · have e1 := isi_int' (x := x) (h := h)
      have e2 := isi_bl' (x := x) (h := h)
      cases x with
      | n i =>
        simp only [It.enc] at e1 e2
        by_cases h1 : 0 ≤ i <;> by_cases h2 : i < (ds.length : Int)
        · have h3 : i ≤ (ds.length : Int) - 1 := by omega
          simp [wipeD, It.enc, e1, e2, It.ok, h1, h2, h3]
        · have h3 : ¬ i ≤ (ds.length : Int) - 1 := by omega
          simp [wipeD, It.enc, e1, e2, It.ok, h1, h2, h3]
        · simp [wipeD, It.enc, e1, e2, It.ok, h1]
        · simp [wipeD, It.enc, e1, e2, It.ok, h1]
      | bb b => simp only [It.enc] at e1 e2; simp [wipeD, It.enc, e1, e2, It.ok]
      | st x => simp only [It.enc] at e1 e2; simp [wipeD, It.enc, e1, e2, It.ok]
    · simp [wipeD]
  cases ha : xs.all (It.ok ds.length) with
  | false =>
    have er : rowOk (ps.map (·.1)) ds xs = false := by unfold rowOk; rw [ha]; rfl
    have hne : ((xs.filter (It.ok ds.length)).length : Int) ≠ (xs.length : Int) := fun z => by
      have : (xs.filter (It.ok ds.length)).length = xs.length := by omega
      rw [List.length_filter_eq_length_iff] at this
      have := List.all_eq_true.mpr this
      rw [ha] at this; cases this
    rw [er]
    simp [isi_tup, lc1, hne]
  | true =>
    obtain ⟨s, rfl, hs⟩ := items_nats ha
    rw [rowOk_nats _ s hs]
    rw [List.filter_eq_self.mpr (List.all_eq_true.mp ha)] at lc1
    rw [enc_nats2] at lc1 ⊢
    obtain ⟨G, hG⟩ : ∃ G, G = (s.map fun x => It.n (x : Nat)).map It.enc := ⟨_, rfl⟩
    have hGl : G.length = s.length := by rw [hG]; simp
    rw [← hG] at lc1
    have e3 : zipD (s.dropLast.map fun x => D.int (x : Nat)) (s.tail.map fun x => D.int (x : Nat)) = (s.dropLast.zip s.tail).map fun p => .tup [.int (p.1 : Nat), .int (p.2 : Nat)] := by
      unfold zipD
      rw [List.zip_map, List.map_map]
      simp
    have e1 : gSl (encI s) none (some (-1)) h = some (.tup (s.dropLast.map fun x => .int (x : Nat)), h) := by
      by_cases z : s = []
      · subst z; show gSl (.tup []) none (some (-1)) h = _; simp only [gSl, asT]; rw [if_pos (by decide)]; rfl
      · obtain ⟨s', b, rfl⟩ : ∃ s' b, s = s' ++ [b] := ⟨s.dropLast, s.getLast z, (List.dropLast_concat_getLast _).symm⟩
        have := sl_init (h := h) (x := .int (b : Nat)) (xs := s'.map fun x => .int (x : Nat))
        unfold encI
        rw [List.map_append, List.dropLast_concat]
        exact this
    have e2 : gSl (encI s) (some 1) none h = some (.tup (s.tail.map fun x => .int (x : Nat)), h) := by
      cases s with
      | nil => show gSl (.tup []) (some 1) none h = _; simp only [gSl, asT]; rw [if_pos (by decide)]; rfl
      | cons y s => exact sl_tail
    have key := for_find (T := .tp [4, 5]) (fi := mZip (mCons (mSl (mVar 2) none (some (mNeg (mC (.int 1))))) (mCons (mSl (mVar 2) (some (mC (.int 1))) none) (mNil))))
      (body := mIf (mOrT (mTru (mBin gGe (mVar 4) (mVar 5))) (mNotT (mTru (mCall (Mi.run tb (m + 6)) .clash 3 (mCons (mVar 0) (mCons (mBin gIx (mVar 1) (mVar 4)) (mCons (mBin gIx (mVar 1) (mVar 5)) (mNil)))))))) (mRet (mC (.bl false))) (mSkip))
      (r := .bl false) (ρ := [some (.tup (ps.map encP)), some (.tup (ds.map Dd.enc)), some (encI s), some (.lst G), none, none, none]) (h := h) (h1 := h)
      (fun p : Nat × Nat => D.tup [.int (p.1 : Nat), .int (p.2 : Nat)]) (fun p => decide (p.1 < p.2) && clD (ps.map (·.1)) ds p.1 p.2) (fun ρ => ∃ x4 x5, ρ = [some (.tup (ps.map encP)), some (.tup (ds.map Dd.enc)), some (encI s), some (.lst G), x4, x5, none]) (s.dropLast.zip s.tail)
      (by simp [e1, e2]; simpa using e3) (by
        rintro p hp ρ ⟨x4, x5, rfl⟩
        have h1 : p.1 < ds.length := hs _ ((List.dropLast_sublist _).subset (List.of_mem_zip hp).1)
        have h2 : p.2 < ds.length := hs _ (List.mem_of_mem_tail (List.of_mem_zip hp).2)
        have ea : ds[p.1]? = some ds[p.1] := List.getElem?_eq_getElem h1
        have eb : ds[p.2]? = some ds[p.2] := List.getElem?_eq_getElem h2
        have ec := r_clashD hl kd ea eb h m
        unfold rn at ec
        refine ⟨_, rfl, fun hp => ?_, fun hp => ?_⟩
        · simp only [Bool.and_eq_true, decide_eq_true_eq] at hp
          rw [hp.2] at ec
          have nle : ¬ p.2 ≤ p.1 := by omega
          refine ⟨_, ?_, some (.int (p.1 : Nat)), some (.int (p.2 : Nat)), rfl⟩
          simp [setMany, nle, deed_at ea, deed_at eb, ec]
        · by_cases hlt : p.1 < p.2
          · rw [decide_eq_true hlt, Bool.true_and] at hp
            rw [hp] at ec
            have nle : ¬ p.2 ≤ p.1 := by omega
            simp [setMany, nle, deed_at ea, deed_at eb, ec]
          · have nle : p.2 ≤ p.1 := by omega
            simp [setMany, nle]) ⟨none, none, rfl⟩
    have kc : (s.dropLast.zip s.tail).all (fun p => decide (p.1 < p.2) && clD (ps.map (·.1)) ds p.1 p.2) = chOk (clD (ps.map (·.1)) ds) s := rfl
    rw [kc] at key
    have it : gIsi [encI s, .ty "tuple"] h = some (.bl true, h) := isi_tup
    have ln : gLen [encI s] h = some (.int (s.length : Nat), h) := by
      show some (D.int ((s.map fun x => D.int (x : Nat)).length : Nat), h) = _
      rw [List.length_map]
    cases hc : chOk (clD (ps.map (·.1)) ds) s with
    | true =>
      obtain ⟨ρ', ef0, _⟩ := key.1 hc
      have ef : f1__law_is_chain (Mi.run tb (m + 6)) [some (.tup (ps.map encP)), some (.tup (ds.map Dd.enc)), some (encI s), some (.lst G), none, none, none] h = .nx ρ' h := ef0
      simp [it, lc1, ln, hGl, ef]
    | false =>
      have ef : f1__law_is_chain (Mi.run tb (m + 6)) [some (.tup (ps.map encP)), some (.tup (ds.map Dd.enc)), some (encI s), some (.lst G), none, none, none] h = .rt (.bl false) h := key.2 hc
      simp [it, lc1, ln, hGl, ef]
end
theorem isi_no {d : D} (k : d = .non ∨ ∃ xs, d = .lst xs) {h : Hq} : gIsi [d, .ty "tuple"] h = some (.bl false, h) := by
  rcases k with rfl | ⟨xs, rfl⟩ <;> (unfold gIsi; dsimp only; rw [if_pos (by decide)]; rfl)
theorem r_is_chainN {a b d : D} (k : d = .non ∨ ∃ xs, d = .lst xs) (h : Hq) (m : Nat) : rn (m + 1) .is_chain [a, b, d] h = .ok (.bl false) h := by
  unfold rn
  rw [u_is_chain, b_is_chain]
  simp [isi_no k]
theorem r_lis_chainN {a b d : D} (k : d = .non ∨ ∃ xs, d = .lst xs) (h : Hq) (m : Nat) : rn (m + 1) ._law_is_chain [a, b, d] h = .ok (.bl false) h := by
  unfold rn
  rw [u__law_is_chain, b__law_is_chain]
  simp [isi_no k]
end L82
namespace L82
open PySem L2 Mi
theorem eq_same {d : D} {h : Hq} (a : d.py.isSome = true) (b : d.dp ≤ 64) : gNe d d h = some (.bl false, h) := by
  rw [g_ne a a (by omega), eqB_refl a]; rfl
/-- a thing that may be asked for a chain -/
def Gd (d : D) : Prop := (∃ xs : List It, d = .tup (xs.map It.enc)) ∨ d = .non ∨ ∃ xs, d = .lst xs
theorem gd_encI (s : List Nat) : Gd (encI s) := .inl ⟨s.map fun x => It.n (x : Nat), (enc_nats2 s).symm⟩
theorem gd_ints (s : List Int) : Gd (.tup (s.map .int)) := .inl ⟨s.map It.n, by rw [List.map_map]; rfl⟩
theorem ix9 {L : List D} (hL : L.length = 9) {c : Int} {h : Hq} : ∃ d ∈ L, gIx (.lst L) (.int (c % 9)) h = some (d, h) := by
  obtain ⟨i, hi, e⟩ : ∃ i : Nat, i < 9 ∧ c % 9 = (i : Nat) := ⟨(c % 9).toNat, by omega, by omega⟩
  have e2 : L[i]? = some L[i] := List.getElem?_eq_getElem (by omega)
  exact ⟨L[i], List.getElem_mem _, by rw [e]; exact g_ixL e2⟩
theorem zip_range (N : Nat) : (List.range N).zipIdx = (List.range N).map fun s => (s, s) := by
  apply List.ext_getElem?
  intro j
  rw [List.getElem?_zipIdx, List.getElem?_map]
  by_cases hj : j < N
  · rw [List.getElem?_range hj]; simp
  · rw [List.getElem?_eq_none (by simp; omega)]; rfl
theorem nats_py (s : List Nat) : (D.lst (s.map fun x => .int (x : Nat))).py.isSome = true := tx_isSome (by rw [D.tx]; exact txs_map (fun _ => rfl) s)
theorem nats_dp (s : List Nat) : (D.lst (s.map fun x => .int (x : Nat))).dp ≤ 64 := by
  have : D.dps (s.map fun x => D.int (x : Nat)) ≤ 0 := dps_le.mpr fun x hx => by obtain ⟨a, _, rfl⟩ := List.mem_map.mp hx; exact Nat.le_refl _
  simp only [D.dp]; omega
section
variable (ns : List Int) {ps : List (Str × Str)} (hl : ps.length ≤ 6) {ds : List Dd} (kd : ∀ d ∈ ds, d.Ok) (hn : ds.length ≤ 6)
include hl kd hn
theorem r_stagesloop (cl : Nat → Nat → Bool) (hcl : cl = clD (ps.map (·.1)) ds) (n : Nat) (hnn : n = ds.length) :
    ∃ ρ' h', f2_law (Mi.run tb 19) [some (scr ns), some (.tup (ps.map encP)), some (.tup (ds.map Dd.enc)), some (stgsD cl n), some (.tup []), none, none, none, none, none, none, none, none, none, none, none, none] [] = .nx ρ' h' ∧
      (h' = [] ∧ ∃ x10 x11 x12 x15, ρ' = [some (scr ns), some (.tup (ps.map encP)), some (.tup (ds.map Dd.enc)), some (stgsD cl n), some (encI (evr cl n (List.range (many cl n).toNat).length)), none, none, none, none, none, x10, x11, x12, none, none, x15, none]) := by
  have mb := many_bd cl n
  have comm : ∀ i j, cl i j = cl j i := fun i j => by rw [hcl]; exact clD_comm _ _ i j
  unfold f2_law
  refine for_inv (c := none) (fun s : Nat => D.tup [.int (s : Nat), encI (stg cl n s)]) (List.range (many cl n).toNat) (fun d ρ h' => h' = [] ∧ ∃ x10 x11 x12 x15, ρ = [some (scr ns), some (.tup (ps.map encP)), some (.tup (ds.map Dd.enc)), some (stgsD cl n), some (encI (evr cl n d.length)), none, none, none, none, none, x10, x11, x12, none, none, x15, none]) (h1 := []) ?_ ⟨rfl, none, none, none, none, rfl⟩ (fun _ _ _ _ => trivial) ?_
  · unfold stgsD
    simp
    rw [enumD_map, zip_range, List.map_map]
    rfl
  · rintro d s t ρ h' hd ⟨rfl, x10, x11, x12, x15, rfl⟩
    have hs : s = d.length := by
      have : (List.range (many cl n).toNat)[d.length]? = some s := by rw [hd]; simp
      rw [List.getElem?_range (by have := congrArg List.length hd; simp at this; omega)] at this
      simpa using this.symm
    have hlt : s < (many cl n).toNat := by
      have := congrArg List.length hd
      simp at this
      omega
    rw [← hs]
    have hle := evr_le cl (k := n) (s + 1) (by omega)
    have hadd : gAdd (encI (evr cl n s)) (encI (stg cl n s)) [] = some (encI (evr cl n (s + 1)), []) := by
      have h1 := hle
      rw [evr_succ, List.length_append] at h1
      have := g_addT (h := []) (a := (evr cl n s).map fun x => .int (x : Nat)) (b := (stg cl n s).map fun x => .int (x : Nat)) (by rw [List.length_map, List.length_map, szL]; omega)
      unfold encI
      rw [this, evr_succ, List.map_append]
    have key : ∃ ρ' h', f1_law (Mi.run tb 19) [some (scr ns), some (.tup (ps.map encP)), some (.tup (ds.map Dd.enc)), some (stgsD cl n), some (encI (evr cl n (s + 1))), none, none, none, none, none, some (.int (s : Nat)), some (encI (stg cl n s)), x12, none, none, x15, none] [] = .nx ρ' h' ∧
        (h' = [] ∧ ∃ x12 x15, ρ' = [some (scr ns), some (.tup (ps.map encP)), some (.tup (ds.map Dd.enc)), some (stgsD cl n), some (encI (evr cl n (s + 1))), none, none, none, none, none, some (.int (s : Nat)), some (encI (stg cl n s)), x12, none, none, x15, none]) := by
      unfold f1_law
      refine for_inv (c := none) (fun i : Nat => D.int (i : Nat)) (stg cl n s) (fun _ ρ h' => h' = [] ∧ ∃ x12 x15, ρ = [some (scr ns), some (.tup (ps.map encP)), some (.tup (ds.map Dd.enc)), some (stgsD cl n), some (encI (evr cl n (s + 1))), none, none, none, none, none, some (.int (s : Nat)), some (encI (stg cl n s)), x12, none, none, x15, none]) (h1 := []) ?_ ⟨rfl, x12, x15, rfl⟩ (fun _ _ _ _ => trivial) ?_
      · simp [encI]
      · rintro dd i tt ρ h' hdd ⟨rfl, y12, y15, rfl⟩
        have hi := (mem_stg cl n i s).mp (by rw [hdd]; simp)
        have ei : ds[i]? = some ds[i] := List.getElem?_eq_getElem (by omega)
        have cls : ∀ j, j < n → (∃ a, ds[j]? = some a ∧ Mi.run tb 19 .clash [.tup (ps.map encP), (ds[i]'(by omega)).enc, a.enc] [] = .ok (.bl (cl i j)) []) := fun j hj => by
          have ej : ds[j]? = some ds[j] := List.getElem?_eq_getElem (by omega)
          refine ⟨_, ej, ?_⟩
          have := r_clashD hl kd ei ej [] 13
          rw [← hcl] at this
          exact this
        have lc2 : c2_law (Mi.run tb 19) [some (scr ns), some (.tup (ps.map encP)), some (.tup (ds.map Dd.enc)), some (stgsD cl n), some (encI (evr cl n (s + 1))), none, none, none, none, none, some (.int (s : Nat)), some (encI (stg cl n s)), some (.int (i : Nat)), none, none, y15, none] [] = .ok (.lst []) [] := by
          have : c2_law (Mi.run tb 19) [some (scr ns), some (.tup (ps.map encP)), some (.tup (ds.map Dd.enc)), some (stgsD cl n), some (encI (evr cl n (s + 1))), none, none, none, none, none, some (.int (s : Nat)), some (encI (stg cl n s)), some (.int (i : Nat)), none, none, y15, none] [] = .ok (.lst (((stg cl n s).filter fun j => !decide (j = i) && cl i j).map fun j => .int (j : Nat))) [] := by
            unfold c2_law
            refine lc_eq (c := none) (fun i : Nat => D.int (i : Nat)) _ _ _ ?_ trivial fun j hj => ⟨_, rfl, ?_, fun _ => ?_⟩
            · simp [encI]
            · have hj2 := (mem_stg cl n j s).mp hj
              obtain ⟨a, ej, ec⟩ := cls j hj2.1
              by_cases hji : j = i
              · subst hji; simp [wipeD]
              · have : ¬ ((j : Int) = (i : Int)) := by omega
                simp [wipeD, hji, this, deed_at ei, deed_at ej, ec]
            · simp [wipeD]
          rw [this]
          have e : (stg cl n s).filter (fun j => !decide (j = i) && cl i j) = [] := by
            rw [List.filter_eq_nil_iff]
            intro j hj
            have hj2 := (mem_stg cl n j s).mp hj
            simp only [Bool.and_eq_true, Bool.not_eq_true', decide_eq_false_iff_not, not_and]
            intro hne hc
            rcases Nat.lt_or_gt_of_ne hne with hlt | hlt
            · have := st_clash cl hlt hi.1 (by rw [comm]; exact hc)
              omega
            · have := st_clash cl hlt hj2.1 hc
              omega
          rw [e]; rfl
        by_cases h0 : s = 0
        · refine ⟨_, rfl, [some (scr ns), some (.tup (ps.map encP)), some (.tup (ds.map Dd.enc)), some (stgsD cl n), some (encI (evr cl n (s + 1))), none, none, none, none, none, some (.int (s : Nat)), some (encI (stg cl n s)), some (.int (i : Nat)), none, none, y15, none], [], .inl ?_, rfl, _, _, rfl⟩
          have q := eq_same (d := .lst []) (h := []) rfl (by simp [D.dp, D.dps])
          have gS : gGt (.int (s : Nat)) (.int 0) [] = some (.bl false, []) := by rw [g_gt, decide_eq_false (by omega)]
          obtain ⟨S, hS⟩ : ∃ S, S = D.int (s : Nat) := ⟨_, rfl⟩
          obtain ⟨EV, hEV⟩ : ∃ EV, EV = encI (evr cl n (s + 1)) := ⟨_, rfl⟩
          rw [← hS] at gS
          rw [← hS, ← hEV] at lc2
          rw [← hS, ← hEV]
          simp [lc2, q, gS]
        · obtain ⟨s', rfl⟩ : ∃ s', s = s' + 1 := ⟨s - 1, by omega⟩
          obtain ⟨j, j1, j2, j3⟩ := st_prev cl (t := s') hi.1 (by rw [hi.2]; omega)
          have lc3 : c3_law (Mi.run tb 19) [some (scr ns), some (.tup (ps.map encP)), some (.tup (ds.map Dd.enc)), some (stgsD cl n), some (encI (evr cl n (s' + 1 + 1))), none, none, none, none, none, some (.int ((s' + 1 : Nat))), some (encI (stg cl n (s' + 1))), some (.int (i : Nat)), none, none, y15, none] [] = .ok (.lst (((stg cl n s').filter fun j => decide (j < i) && cl i j).map fun j => .int (j : Nat))) [] := by
            unfold c3_law
            refine lc_eq (c := none) (fun i : Nat => D.int (i : Nat)) _ _ _ ?_ trivial fun j hj => ⟨_, rfl, ?_, fun _ => ?_⟩
            · have e1 : gIx (stgsD cl n) (.int (s' : Nat)) [] = some (encI (stg cl n s'), []) := g_ixT (by rw [List.getElem?_map, List.getElem?_range (by omega)]; rfl)
              have e2 : (((s' + 1 : Nat)) : Int) - 1 = (s' : Int) := by omega
              simp only [e_iter, e_bin, e_var, e_c]
              simp [e2, e1, encI]
            · have hj2 := (mem_stg cl n j s').mp hj
              obtain ⟨a, ej, ec⟩ := cls j hj2.1
              by_cases hji : j < i
              · simp [wipeD, hji, deed_at ei, deed_at ej, ec]
              · simp [wipeD, hji]
            · simp [wipeD]
          obtain ⟨L, hL⟩ : ∃ L, L = (stg cl n s').filter fun j => decide (j < i) && cl i j := ⟨_, rfl⟩
          rw [← hL] at lc3
          have hne : L ≠ [] := fun z => by
            have : j ∈ (stg cl n s').filter fun j => decide (j < i) && cl i j := List.mem_filter.mpr ⟨(mem_stg cl n j s').mpr ⟨by omega, j3⟩, by rw [comm i j, j2]; simpa using j1⟩
            rw [← hL, z] at this; cases this
          have eq0 : gEq (.lst (L.map fun j => .int (j : Nat))) (.lst []) [] = some (.bl false, []) := by
            have tx : D.txs (L.map fun j => D.int (j : Nat)) = true := txs_map (fun _ => rfl) L
            rw [g_eq (nats_py L) rfl (Nat.le_trans (Nat.min_le_left _ _) (nats_dp L)), eqB_nil tx]
            have : ¬ (L.map fun j => D.int (j : Nat)) = [] := by simpa using hne
            rw [decide_eq_false this]
          refine ⟨_, rfl, [some (scr ns), some (.tup (ps.map encP)), some (.tup (ds.map Dd.enc)), some (stgsD cl n), some (encI (evr cl n (s' + 1 + 1))), none, none, none, none, none, some (.int ((s' + 1 : Nat))), some (encI (stg cl n (s' + 1))), some (.int (i : Nat)), none, none, some (.lst (L.map fun j => .int (j : Nat))), none], [], .inl ?_, rfl, _, _, rfl⟩
          have q := eq_same (d := .lst []) (h := []) rfl (by simp [D.dp, D.dps])
          have gS : gGt (.int ((s' + 1 : Nat))) (.int 0) [] = some (.bl true, []) := by rw [g_gt, decide_eq_true (by omega)]
          obtain ⟨S, hS⟩ : ∃ S, S = D.int ((s' + 1 : Nat)) := ⟨_, rfl⟩
          obtain ⟨EV, hEV⟩ : ∃ EV, EV = encI (evr cl n (s' + 1 + 1)) := ⟨_, rfl⟩
          rw [← hS] at gS
          rw [← hS, ← hEV] at lc2 lc3
          rw [← hS, ← hEV]
          simp [lc2, q, gS, lc3, eq0]
    obtain ⟨ρ', h', e1, rfl, y12, y15, rfl⟩ := key
    refine ⟨_, rfl, [some (scr ns), some (.tup (ps.map encP)), some (.tup (ds.map Dd.enc)), some (stgsD cl n), some (encI (evr cl n (s + 1))), none, none, none, none, none, some (.int (s : Nat)), some (encI (stg cl n s)), y12, none, none, y15, none], [], .inl ?_, rfl, some (.int (s : Nat)), some (encI (stg cl n s)), y12, y15, by rw [List.length_append, ← hs]; rfl⟩
    simp [setMany, hadd, e1]
end
end L82
namespace L82
open PySem L2 Mi
theorem isInts_int : ∀ L : List Int, isInts (L.map .int) = some L
  | [] => rfl
  | x :: L => by simp [isInts, isInts_int L]
@[simp] theorem e_lstRg {f : Ev D} {ρ : Env'} {h : Hq} : mLstRg f ρ h = (f ρ h).bind fun d h1 => match d with
  | .int n => if 0 ≤ n ∧ n ≤ 1000 then .ok (.lst (rgD n)) h1 else .bad
  | _ => .bad := rfl
@[simp] theorem e_tupRg {f : Ev D} {ρ : Env'} {h : Hq} : mTupRg f ρ h = (f ρ h).bind fun d h1 => match d with
  | .int n => if 0 ≤ n ∧ n ≤ 1000 then .ok (.tup (rgD n)) h1 else .bad
  | _ => .bad := rfl
@[simp] theorem e_sortSet {f : Ev D} {ρ : Env'} {h : Hq} : mSortSet f ρ h = (f ρ h).bind fun d h1 => match asT d with
  | some xs => (match isInts xs with
    | some ns => if ns.length < 64 then .ok (.lst ((sortSet ns).map .int)) h1 else .bad
    | none => .bad)
  | none => .bad := rfl
@[simp] theorem e_revT {f : Ev D} {ρ : Env'} {h : Hq} : mRevT f ρ h = (f ρ h).bind fun d h1 => match asT d with
  | some xs => .ok (.tup xs.reverse) h1
  | none => .bad := rfl
theorem isnot_bl {a b : Bool} {h : Hq} : gIsNot2 (.bl a) (.bl b) h = some (.bl (!decide (a = b)), h) := rfl
section
variable (ns : List Int) {ps : List (Str × Str)} (hl : ps.length ≤ 6) {ds : List Dd} (kd : ∀ d ∈ ds, d.Ok) (hn : ds.length ≤ 6)
include hl kd hn
theorem r_ask (d : D) (gd : Gd d) : ∃ b : Bool, Mi.run tb 19 .is_chain [.tup (ps.map encP), .tup (ds.map Dd.enc), d] [] = .ok (.bl b) [] ∧ Mi.run tb 19 ._law_is_chain [.tup (ps.map encP), .tup (ds.map Dd.enc), d] [] = .ok (.bl b) [] ∧
    (b = true → ∃ n : Nat, gLen [d] [] = some (.int n, []) ∧ (n : Int) ≤ many (clD (ps.map (·.1)) ds) ds.length) := by
  rcases gd with ⟨xs, rfl⟩ | k
  · refine ⟨_, r_is_chainI hl kd xs [] 12, r_lis_chain hl kd xs [] 12, fun hb => ?_⟩
    have hb0 := hb
    unfold rowOk at hb
    rw [Bool.and_eq_true] at hb
    obtain ⟨s, rfl, hs⟩ := items_nats hb.1
    rw [rowOk_nats _ s hs] at hb0
    have h2 := hb0
    refine ⟨s.length, ?_, ch_long _ s hs h2⟩
    rw [enc_nats2]
    show some (D.int ((s.map fun x => D.int (x : Nat)).length : Nat), ([] : Hq)) = _
    rw [List.length_map]
  · exact ⟨false, r_is_chainN k [] 18, r_lis_chainN k [] 18, fun z => by cases z⟩
theorem r_rest : t2_law (Mi.run tb 19) [some (scr ns), some (.tup (ps.map encP)), some (.tup (ds.map Dd.enc)), none, none, none, none, none, none, none, none, none, none, none, none, none, none] [] = .rt (.bl true) [] := by
  obtain ⟨cl, hcl⟩ : ∃ cl, cl = clD (ps.map (·.1)) ds := ⟨_, rfl⟩
  obtain ⟨n, hnn⟩ : ∃ n, n = ds.length := ⟨_, rfl⟩
  have mb := many_bd cl n
  have s1 : Mi.run tb 19 .stages [.tup (ps.map encP), .tup (ds.map Dd.enc)] [] = .ok (stgsD cl n) [] := by
    have := r_stages hl kd (by omega) [] 11
    rw [← hcl, ← hnn] at this
    exact this
  obtain ⟨ρ2, h2, e2, rfl, x10, x11, x12, x15, rfl⟩ := r_stagesloop ns hl kd hn cl hcl n hnn
  rw [List.length_range] at e2
  have perm : (evr cl n (many cl n).toNat).Perm (List.range n) := (List.perm_ext_iff_of_nodup (evr_nodup cl _) List.nodup_range).mpr fun i => by rw [evr_mem, List.mem_range]
  have srt := g_sorted2 (h := []) perm
  have ln : ∀ h, gLen [.tup (ds.map Dd.enc)] h = some (.int (n : Nat), h) := fun h => by
    show some (D.int ((ds.map Dd.enc).length : Nat), h) = _
    rw [List.length_map, ← hnn]
  have rg : rgD (n : Nat) = (List.range n).map fun x => D.int (x : Nat) := by unfold rgD; simp
  have q1 := eq_same (d := .lst ((List.range n).map fun x => .int (x : Nat))) (h := []) (nats_py _) (nats_dp _)
  have ni : gIn (.tup []) (stgsD cl n) [] = some (.bl false, []) := by
    have := g_inT (enc := encI) encI_tx encI_inj (h := []) (L := (List.range (many cl n).toNat).map (stg cl n)) (a := []) (by rw [encI_dp]; decide)
    rw [List.map_map] at this
    have e : decide ([] ∈ (List.range (many cl n).toNat).map (stg cl n)) = false := by
      apply decide_eq_false
      intro z
      obtain ⟨s, h1, h2⟩ := List.mem_map.mp z
      exact stg_ne cl (by have := List.mem_range.mp h1; omega) h2
    rw [e] at this
    exact this
  have ch : ∃ s : List Nat, leastI ((chs cl n).filter fun s => decide ((s.length : Int) = many cl n)) = encI s ∧ (s.length : Int) = many cl n ∧ chOk cl s = true ∧ ∀ x ∈ s, x < n := by
    have ne : (chs cl n).filter (fun s => decide ((s.length : Int) = many cl n)) ≠ [] := fun z => by
      obtain ⟨s, q1, q2⟩ := chs_many cl n
      have : s ∈ (chs cl n).filter (fun s => decide ((s.length : Int) = many cl n)) := List.mem_filter.mpr ⟨q1, by simpa using q2⟩
      rw [z] at this; cases this
    obtain ⟨s, q1, q2⟩ := least_mem ne
    have := List.mem_filter.mp q1
    have m := chs_mem cl s this.1
    exact ⟨s, q2, by simpa using this.2, m.1, m.2.1⟩
  obtain ⟨t, b1, b2, b3, b4⟩ := ch
  have ch1 : Mi.run tb 19 .chain [.tup (ps.map encP), .tup (ds.map Dd.enc)] [] = .ok (encI t) [] := by
    have := r_chain hl kd (by omega) [] 10
    rw [← hcl, ← hnn, b1] at this
    exact this
  have lt1 : ∀ h, gLen [encI t] h = some (.int (t.length : Nat), h) := fun h => by
    show some (D.int ((t.map fun x => D.int (x : Nat)).length : Nat), h) = _
    rw [List.length_map]
  have l1 : ∀ h, gLen [stgsD cl n] h = some (.int (many cl n), h) := fun h => by
    show some (D.int (((List.range (many cl n).toNat).map fun s => encI (stg cl n s)).length : Nat), h) = _
    simp; omega
  have ic : Mi.run tb 19 .is_chain [.tup (ps.map encP), .tup (ds.map Dd.enc), encI t] [] = .ok (.bl true) [] := by
    have := r_is_chainS hl kd t (by rw [← hnn]; exact b4) [] 12
    rw [← hcl, b3] at this
    exact this
  have tl : t.length ≤ 6 := by omega
  -- what is drawn
  have gm : Mi.run tb 19 ._law_mixed [scr ns, .int 9] [] = .ok (.int (mix (cell ns 9) 9)) [] := r_mixed ns 9 [] 17
  obtain ⟨c, hc⟩ : ∃ c, c = mix (cell ns 9) 9 := ⟨_, rfl⟩
  rw [← hc] at gm
  have lc4 : c4_law (Mi.run tb 19) [some (scr ns), some (.tup (ps.map encP)), some (.tup (ds.map Dd.enc)), some (stgsD cl n), some (encI (evr cl n (many cl n).toNat)), some (encI t), some (.int c), none, none, none, x10, x11, x12, none, none, x15, none] [] = .ok (.lst ((List.range (c % 7).toNat).map fun k : Nat => .int (drw c k / 4 % ((n : Int) + 1)))) [] := by
    unfold c4_law
    refine lc_map (c := none) (fun i : Nat => D.int (i : Nat)) _ _ ?_ trivial fun k hk => ⟨_, rfl, ?_⟩
    · have : -1000000 ≤ c % 7 ∧ c % 7 ≤ 1000000 := by omega
      simp [g_mod, this, upto]
    · have hd : Mi.run tb 19 ._law_drawn [.int c, .int (k : Nat)] [] = .ok (.int (drw c k)) [] := r_drawn c k [] 18
      have : (0 : Int) < (n : Int) + 1 := by omega
      simp [wipeD, hd, g_div, ln, g_mod this]
  obtain ⟨dr, hdr⟩ : ∃ dr : List Int, dr = (List.range (c % 7).toNat).map fun k : Nat => drw c k / 4 % ((n : Int) + 1) := ⟨_, rfl⟩
  have edr : (List.range (c % 7).toNat).map (fun k : Nat => D.int (drw c k / 4 % ((n : Int) + 1))) = dr.map .int := by rw [hdr, List.map_map]; rfl
  rw [edr] at lc4
  have drl : dr.length < 64 := by rw [hdr]; simp; omega
  -- the odd ones
  have a9 : gAdd (encI t) (.tup [.int 9]) [] = some (encI (t ++ [9]), []) := by
    have := g_addT (h := []) (a := t.map fun x => .int (x : Nat)) (b := [.int 9]) (by rw [List.length_map, szL]; simp; omega)
    unfold encI
    rw [this, List.map_append]; rfl
  have am : gAdd (encI t) (.tup [.int (-1)]) [] = some (.tup ((t.map fun x : Nat => (x : Int)) ++ [-1] |>.map .int), []) := by
    have := g_addT (h := []) (a := t.map fun x => .int (x : Nat)) (b := [.int (-1)]) (by rw [List.length_map, szL]; simp; omega)
    unfold encI
    rw [this, List.map_append, List.map_map]; rfl
  have ml : ∃ tt : List Nat, gMulB (encI t) (.int 2) [] = some (encI tt, []) := by
    cases t with
    | nil => exact ⟨[], rfl⟩
    | cons y t =>
      refine ⟨(y :: t) ++ (y :: t), ?_⟩
      show (if ((y :: t).map fun x => D.int (x : Nat)) ≠ [] ∧ (2 : Int) ≤ 2 ∧ (2 : Int) ≤ 1000 ∧ ((y :: t).map fun x => D.int (x : Nat)).length ≤ 1000 then some (D.tup (List.replicate (2 : Int).toNat ((y :: t).map fun x => D.int (x : Nat))).flatten, ([] : Hq)) else none) = _
      rw [if_pos ⟨by simp, by decide, by decide, by rw [List.length_map]; omega⟩]
      unfold encI
      rw [List.map_append]
      show some (D.tup ((y :: t).map (fun x => D.int (x : Nat)) ++ ((y :: t).map (fun x => D.int (x : Nat)) ++ [])), ([] : Hq)) = _
      rw [List.append_nil]
  obtain ⟨tt, ml⟩ := ml
  have li : gList [encI t] [] = some (.lst (t.map fun x => .int (x : Nat)), []) := rfl
  have rv : asT (encI t) = some (t.map fun x => .int (x : Nat)) := rfl
  have rvE : D.tup (t.map fun x => D.int (x : Nat)).reverse = encI t.reverse := by unfold encI; rw [List.map_reverse]
  have rgE : D.tup (rgD (n : Nat)) = encI (List.range n) := by rw [rg]; rfl
  obtain ⟨L, hL⟩ : ∃ L : List D, L = [.non, .lst (t.map fun x => .int (x : Nat)), encI (t ++ [9]), .tup ((t.map fun x : Nat => (x : Int)) ++ [-1] |>.map .int), .tup [.bl true], .tup [.str "0"], encI t.reverse, encI tt, encI (List.range n)] := ⟨_, rfl⟩
  have gL : ∀ d ∈ L, Gd d := fun d hd => by
    rw [hL] at hd
    simp only [List.mem_cons, List.not_mem_nil, or_false] at hd
    rcases hd with rfl | rfl | rfl | rfl | rfl | rfl | rfl | rfl | rfl
    · exact .inr (.inl rfl)
    · exact .inr (.inr ⟨_, rfl⟩)
    · exact gd_encI _
    · exact gd_ints _
    · exact .inl ⟨[.bb true], rfl⟩
    · exact .inl ⟨[.st "0"], rfl⟩
    · exact gd_encI _
    · exact gd_encI _
    · exact gd_encI _
  obtain ⟨od, h_od, e_od⟩ := ix9 (L := L) (by rw [hL]; rfl) (c := c / 8) (h := [])
  have gall : ∀ d ∈ [.tup (dr.map .int), .tup ((sortSet dr).map .int), od, .tup []], Gd d := fun d hd => by
    simp only [List.mem_cons, List.not_mem_nil, or_false] at hd
    rcases hd with rfl | rfl | rfl | rfl
    · exact gd_ints _
    · exact gd_ints _
    · exact gL _ h_od
    · exact .inl ⟨[], rfl⟩
  have key : ∃ ρ' h', f3_law (Mi.run tb 19) [some (scr ns), some (.tup (ps.map encP)), some (.tup (ds.map Dd.enc)), some (stgsD cl n), some (encI (evr cl n (many cl n).toNat)), some (encI t), some (.int c), some (.tup (dr.map .int)), some (.lst L), none, x10, x11, x12, none, none, x15, none] [] = .nx ρ' h' ∧
      (h' = [] ∧ ∃ x9 x13, ρ' = [some (scr ns), some (.tup (ps.map encP)), some (.tup (ds.map Dd.enc)), some (stgsD cl n), some (encI (evr cl n (many cl n).toNat)), some (encI t), some (.int c), some (.tup (dr.map .int)), some (.lst L), x9, x10, x11, x12, x13, none, x15, none]) := by
    unfold f3_law
    refine for_inv (c := none) (fun d : D => d) [.tup (dr.map .int), .tup ((sortSet dr).map .int), od, .tup []] (fun _ ρ h' => h' = [] ∧ ∃ x9 x13, ρ = [some (scr ns), some (.tup (ps.map encP)), some (.tup (ds.map Dd.enc)), some (stgsD cl n), some (encI (evr cl n (many cl n).toNat)), some (encI t), some (.int c), some (.tup (dr.map .int)), some (.lst L), x9, x10, x11, x12, x13, none, x15, none]) (h1 := []) ?_ ⟨rfl, none, none, rfl⟩ (fun _ _ _ _ => trivial) ?_
    · simp [isInts_int, drl, g_div, g_mod, e_od]
    · rintro dd d tt ρ h' hdd ⟨rfl, x9, x13, rfl⟩
      obtain ⟨b, i1, i2, i3⟩ := r_ask hl kd hn d (gall d (by rw [hdd]; simp))
      refine ⟨_, rfl, [some (scr ns), some (.tup (ps.map encP)), some (.tup (ds.map Dd.enc)), some (stgsD cl n), some (encI (evr cl n (many cl n).toNat)), some (encI t), some (.int c), some (.tup (dr.map .int)), some (.lst L), some d, x10, x11, x12, some (.bl b), none, x15, none], [], .inl ?_, rfl, _, _, rfl⟩
      have ib : gIsi [.bl b, .ty "bool"] [] = some (.bl true, []) := by unfold gIsi; dsimp only; rw [if_pos (by decide)]; rfl
      cases b with
      | false => simp [i1, i2, ib]
      | true =>
        obtain ⟨z, z1, z2⟩ := i3 rfl
        rw [← hcl, ← hnn] at z2
        have nlt : ¬ (many cl n < (z : Int)) := by omega
        simp [i1, i2, ib, z1, l1, nlt]
  obtain ⟨ρ3, h3, e3, rfl, x9, x13, rfl⟩ := key
  have hb : (0 : Int) ≤ (n : Int) ∧ (n : Int) ≤ 1000 := by omega
  unfold t2_law t3_law t4_law t5_law t6_law t7_law t8_law t9_law t10_law t11_law t12_law
  have hLe := hL.symm
  obtain ⟨EV, hEV⟩ : ∃ EV, EV = encI (evr cl n (many cl n).toNat) := ⟨_, rfl⟩
  rw [← hEV] at e2 lc4 e3 srt
  obtain ⟨ET, hET⟩ : ∃ ET, ET = encI t := ⟨_, rfl⟩
  rw [← hET] at ch1 lt1 ic lc4 a9 am ml li rv e3
  have hb3 : (t.length : Int) = many cl n := b2
  rw [rg] at rgE
  simp [s1, e2, srt, ln, hb, rg, q1, ni, ch1, lt1, l1, hb3, ic, isnot_bl, gm, lc4, a9, am, ml, li, rv, rvE, rgE]
  have hL2 : [D.non, D.lst (List.map (fun x => D.int ((x : Nat) : Int)) t), encI (t ++ [9]), D.tup (List.map (D.int ∘ fun x : Nat => (x : Int)) t ++ [D.int (-1)]), D.tup [D.bl true], D.tup [D.str (Str.ofString "0")], encI t.reverse, encI tt, encI (List.range n)] = L := by
    rw [hL]; simp
  rw [hL2, e3]
end
theorem law_true (ns : List Int) : ∃ h, Mi.run tb 20 .law [.klst (ns.map .int)] [] = .ok (.bl true) h := by
  rw [u_law, b_law]
  obtain ⟨nd, hl, hp⟩ := scheme_facts (mix (cell ns 0) 0)
  have g0 : Mi.run tb 19 ._law_mixed [.klst (ns.map .int), .int 0] [] = .ok (.int (mix (cell ns 0) 0)) [] := r_mixed ns 0 [] 17
  have g1 : Mi.run tb 19 ._law_mixed [.klst (ns.map .int), .int 1] [] = .ok (.int (mix (cell ns 1) 1)) [] := r_mixed ns 1 [] 17
  have s0 : Mi.run tb 19 ._law_scheme [.int (mix (cell ns 0) 0)] [] = .ok (.tup ((schemeOf (mix (cell ns 0) 0)).map encP)) [] := r_scheme _ [] 17
  obtain ⟨ps, hps⟩ : ∃ ps, ps = schemeOf (mix (cell ns 0) 0) := ⟨_, rfl⟩
  rw [← hps] at s0 hl hp
  obtain ⟨c, hc⟩ : ∃ c, c = mix (cell ns 1) 1 := ⟨_, rfl⟩
  rw [← hc] at g1
  have b7 : 0 ≤ c % 7 ∧ c % 7 < 7 := by omega
  obtain ⟨ds, e1, e2, e3⟩ := lc_ex (T := .nm 14) (vs := [14]) (fi := mRange (mCons (mBin gMod (mCall (Mi.run tb 19) ._law_mixed 2 (mCons (mVar 0) (mCons (mC (.int 1)) (mNil)))) (mC (.int 7))) (mNil))) (c := none)
    (fe := mCall (Mi.run tb 19) ._law_deed 3 (mCons (mVar 1) (mCons (mCall (Mi.run tb 19) ._law_mixed 2 (mCons (mVar 0) (mCons (mBin gAdd (mC (.int 2)) (mVar 14)) (mNil)))) (mCons (mBin gEq (mVar 14) (mC (.int 3))) (mNil)))))
    (ρ := [some (.klst (ns.map .int)), some (.tup (ps.map encP)), none, none, none, none, none, none, none, none, none, none, none, none, none, none, none]) (h := []) (h1 := []) (fun i : Nat => D.int (i : Nat)) Dd.enc (fun _ d => DdOk (ps.map (·.1)) d) (List.range (c % 7).toNat)
    (by have : -1000000 ≤ c % 7 ∧ c % 7 ≤ 1000000 := by omega
        simp [g_mod, g1, this, upto]) trivial (fun k hk => by
      have gm := r_mixed ns (2 + k) [] 17
      rw [show (((2 + k : Nat)) : Int) = 2 + (k : Int) by omega] at gm
      have gm2 : Mi.run tb 19 ._law_mixed [.klst (ns.map .int), .int (2 + (k : Int))] [] = .ok (.int (mix (cell ns (2 + k)) (2 + (k : Int)))) [] := gm
      obtain ⟨d, ed, kd⟩ := r_deed hp (mix (cell ns (2 + k)) (2 + (k : Int))) (decide ((k : Int) = 3)) [] 10
      have ed2 : Mi.run tb 19 ._law_deed [.tup (ps.map encP), .int (mix (cell ns (2 + k)) (2 + (k : Int))), .bl (decide ((k : Int) = 3))] [] = .ok d.enc [] := ed
      refine ⟨_, rfl, d, ?_, kd⟩
      simp only [wipeD]
      simp [gm2, ed2])
  have kd : ∀ d ∈ ds, d.Ok := fun d hd => (e3 d hd).choose_spec.2.toOk
  have hn : ds.length ≤ 6 := by rw [e2, List.length_range]; omega
  have er := r_rest ns hl kd hn
  unfold scr at er
  refine ⟨[], ?_⟩
  have lc : c1_law (Mi.run tb 19) [some (.klst (ns.map .int)), some (.tup (ps.map encP)), none, none, none, none, none, none, none, none, none, none, none, none, none, none, none] [] = .ok (.lst (ds.map Dd.enc)) [] := e1
  unfold t1_law
  simp [g0, s0, lc, er]
end L82
namespace L82
open PySem PySem.Spec L2 Mi
def top (i : Nat) : Stmt := PySem.Challenge.pw_partstore_k82_whole_stages_and_chains.main.body.getD i (.Pass ⟨0, 0, 0, 0⟩)
abbrev stm_is_whole : Stmt := top 1
abbrev stm_names_of : Stmt := top 2
abbrev stm_names_in : Stmt := top 8
abbrev stm_drops : Stmt := top 15
abbrev stm_in_order : Stmt := top 16
abbrev stm_reads : Stmt := top 17
abbrev stm_writes : Stmt := top 18
abbrev stm_touches : Stmt := top 19
abbrev stm_clash : Stmt := top 20
abbrev stm_stage_numbers : Stmt := top 21
abbrev stm_stages : Stmt := top 22
abbrev stm_is_chain : Stmt := top 23
abbrev stm_chain : Stmt := top 24
abbrev stm__law_cell_at : Stmt := top 26
abbrev stm__law_mixed : Stmt := top 27
abbrev stm__law_drawn : Stmt := top 28
abbrev stm__law_scheme : Stmt := top 29
abbrev stm__law_letters : Stmt := top 30
abbrev stm__law_worth : Stmt := top 31
abbrev stm__law_question : Stmt := top 32
abbrev stm__law_act : Stmt := top 35
abbrev stm__law_deed : Stmt := top 36
abbrev stm__law_is_chain : Stmt := top 37
abbrev stm_law : Stmt := top 38
structure Tab (P : Program) (w : World) (K : PySem.W.Frag) (mg : Str → Option Value) (base : Heap) (C : Calls Fn) (k : Nat) : Prop where
  f_is_whole : FnA P w K mg base C k .is_whole "is_whole" ["thing", "low", "high"]
  f_names_of : FnA P w K mg base C k .names_of "names_of" ["scheme"]
  f_names_in : FnA P w K mg base C k .names_in "names_in" ["question"]
  f_drops : FnA P w K mg base C k .drops "drops" ["deed"]
  f_in_order : FnA P w K mg base C k .in_order "in_order" ["scheme", "some"]
  f_reads : FnA P w K mg base C k .reads "reads" ["scheme", "deed"]
  f_writes : FnA P w K mg base C k .writes "writes" ["scheme", "deed"]
  f_touches : FnA P w K mg base C k .touches "touches" ["scheme", "one", "other"]
  f_clash : FnA P w K mg base C k .clash "clash" ["scheme", "one", "other"]
  f_stage_numbers : FnA P w K mg base C k .stage_numbers "stage_numbers" ["scheme", "deeds"]
  f_stages : FnA P w K mg base C k .stages "stages" ["scheme", "deeds"]
  f_is_chain : FnA P w K mg base C k .is_chain "is_chain" ["scheme", "deeds", "thing"]
  f_chain : FnA P w K mg base C k .chain "chain" ["scheme", "deeds"]
  f__law_cell_at : FnA P w K mg base C k ._law_cell_at "_law_cell_at" ["script", "k"]
  f__law_mixed : FnA P w K mg base C k ._law_mixed "_law_mixed" ["script", "k"]
  f__law_drawn : FnA P w K mg base C k ._law_drawn "_law_drawn" ["number", "k"]
  f__law_scheme : FnA P w K mg base C k ._law_scheme "_law_scheme" ["number"]
  f__law_letters : FnA P w K mg base C k ._law_letters "_law_letters" ["number", "most"]
  f__law_worth : FnA P w K mg base C k ._law_worth "_law_worth" ["sort", "number", "handles"]
  f__law_question : FnA P w K mg base C k ._law_question "_law_question" ["scheme", "number", "deep"]
  f__law_act : FnA P w K mg base C k ._law_act "_law_act" ["scheme", "number", "may_drop"]
  f__law_deed : FnA P w K mg base C k ._law_deed "_law_deed" ["scheme", "number", "may_drop"]
  f__law_is_chain : FnA P w K mg base C k ._law_is_chain "_law_is_chain" ["scheme", "deeds", "thing"]
  f_law : FnA P w K mg base C k .law "law" ["script"]
  c_HAS : ∃ t, mg "HAS" = some (.str "has" t)
  c_IS : ∃ t, mg "IS" = some (.str "is" t)
  c_OVER : ∃ t, mg "OVER" = some (.str "over" t)
  c_LEADS : ∃ t, mg "LEADS" = some (.str "leads" t)
  c_ADD : ∃ t, mg "ADD" = some (.str "add" t)
  c_PUT : ∃ t, mg "PUT" = some (.str "put" t)
  c_TAKE : ∃ t, mg "TAKE" = some (.str "take" t)
  c_COPY : ∃ t, mg "COPY" = some (.str "copy" t)
  c_DROP : ∃ t, mg "DROP" = some (.str "drop" t)
  n_all : mg "all" = none
  n_any : mg "any" = none
  n_bool : mg "bool" = none
  n_enumerate : mg "enumerate" = none
  n_int : mg "int" = none
  n_isinstance : mg "isinstance" = none
  n_len : mg "len" = none
  n_list : mg "list" = none
  n_max : mg "max" = none
  n_min : mg "min" = none
  n_range : mg "range" = none
  n_set : mg "set" = none
  n_sorted : mg "sorted" = none
  n_tuple : mg "tuple" = none
  n_zip : mg "zip" = none
theorem u1 {k : Nat} {A : Around} (r : Room k A) : A.units + 1 < cLine := by have := r.un; omega
theorem u64 {k : Nat} {A : Around} (r : Room k A) : A.units + 64 < cLine := by have := r.un; omega
theorem u65 {k : Nat} {A : Around} (r : Room k A) : A.units + 65 < cLine := by have := r.un; omega
section
variable {P : Program} {w : World} {K : PySem.W.Frag} {mg : Str → Option Value} {base : Heap} {C : Calls Fn} {k : Nat}
theorem sc_is_whole : FnScope ["thing", "low", "high"] ["thing", "low", "high"] (defScope stm_is_whole) := ⟨rfl, rfl, rfl, by decide +kernel, rfl, by decide +kernel, by decide +kernel⟩
theorem s_is_whole (T : Tab P w K mg base C k) (f : Addr) (cdv : Value) (A : Around) (outer : List Env) (s : Shared) (H : Hp) (E : XK) (hr : Room k (A.deeper (PyProof.Rows.envOfC "is_whole" (defScope stm_is_whole) s.heap.objs.size f cdv))) :
    SSs (cxOf (L2.CX P w) P w K mg base ["thing", "low", "high"] "is_whole" (defScope stm_is_whole) f cdv A outer s H E) (fun c d _ H' => E c d H') (defBody stm_is_whole) (b_is_whole C) := by
  have nd := sc_is_whole.nd
  have tk : Takes (cxOf (L2.CX P w) P w K mg base ["thing", "low", "high"] "is_whole" (defScope stm_is_whole) f cdv A outer s H E) (fun c d _ H' => E c d H') := takes_of rfl rfl rfl rfl
  have pw : PassesOwn (model (cxOf (L2.CX P w) P w K mg base ["thing", "low", "high"] "is_whole" (defScope stm_is_whole) f cdv A outer s H E).prog (cxOf (L2.CX P w) P w K mg base ["thing", "low", "high"] "is_whole" (defScope stm_is_whole) f cdv A outer s H E).w) (cxOf (L2.CX P w) P w K mg base ["thing", "low", "high"] "is_whole" (defScope stm_is_whole) f cdv A outer s H E).A (cxOf (L2.CX P w) P w K mg base ["thing", "low", "high"] "is_whole" (defScope stm_is_whole) f cdv A outer s H E).env (cxOf (L2.CX P w) P w K mg base ["thing", "low", "high"] "is_whole" (defScope stm_is_whole) f cdv A outer s H E).xe := passes_of rfl
  exact (ss_one (ss_ret (se_and (se_callB c1_isi T.n_isinstance (by decide +kernel) (sa_cons (se_var 0) (sa_cons (se_bty T.n_int (by decide +kernel)) sa_nil))) (se_and (se_not (se_callB c1_isi T.n_isinstance (by decide +kernel) (sa_cons (se_var 0) (sa_cons (se_bty T.n_bool (by decide +kernel)) sa_nil)))) (se_one (se_chain o2_le o2_le (se_var 1) (se_var 0) (se_var 2) (by with_unfolding_all rfl)))))))
theorem sc_names_of : FnScope ["scheme", "kind"] ["scheme"] (defScope stm_names_of) := ⟨rfl, rfl, rfl, by decide +kernel, rfl, by decide +kernel, by decide +kernel⟩
theorem s_names_of (T : Tab P w K mg base C k) (f : Addr) (cdv : Value) (A : Around) (outer : List Env) (s : Shared) (H : Hp) (E : XK) (hr : Room k (A.deeper (PyProof.Rows.envOfC "names_of" (defScope stm_names_of) s.heap.objs.size f cdv))) :
    SSs (cxOf (L2.CX P w) P w K mg base ["scheme", "kind"] "names_of" (defScope stm_names_of) f cdv A outer s H E) (fun c d _ H' => E c d H') (defBody stm_names_of) (b_names_of C) := by
  have nd := sc_names_of.nd
  have tk : Takes (cxOf (L2.CX P w) P w K mg base ["scheme", "kind"] "names_of" (defScope stm_names_of) f cdv A outer s H E) (fun c d _ H' => E c d H') := takes_of rfl rfl rfl rfl
  have pw : PassesOwn (model (cxOf (L2.CX P w) P w K mg base ["scheme", "kind"] "names_of" (defScope stm_names_of) f cdv A outer s H E).prog (cxOf (L2.CX P w) P w K mg base ["scheme", "kind"] "names_of" (defScope stm_names_of) f cdv A outer s H E).w) (cxOf (L2.CX P w) P w K mg base ["scheme", "kind"] "names_of" (defScope stm_names_of) f cdv A outer s H E).A (cxOf (L2.CX P w) P w K mg base ["scheme", "kind"] "names_of" (defScope stm_names_of) f cdv A outer s H E).env (cxOf (L2.CX P w) P w K mg base ["scheme", "kind"] "names_of" (defScope stm_names_of) f cdv A outer s H E).xe := passes_of rfl
  exact (ss_one (ss_ret (se_callTy c1_tuple T.n_tuple (by decide +kernel) (sa_cons (se_lc rfl nd (si_val (se_var 0)) (blkOk_by (own := [("kind", 1)]) (by kernel_rfl)) (by decide) (fun _ _ _ _ _ => (sg_nm 1 nd)) (fun _ _ _ _ _ => sts_nil) (fun _ _ _ _ _ => (se_ix (u1 hr) (se_var 1) se_int))) sa_nil))))
theorem sc_names_in : FnScope ["question", "found", "part"] ["question"] (defScope stm_names_in) := ⟨rfl, rfl, rfl, by decide +kernel, rfl, by decide +kernel, by decide +kernel⟩
theorem s_names_in (T : Tab P w K mg base C k) (f : Addr) (cdv : Value) (A : Around) (outer : List Env) (s : Shared) (H : Hp) (E : XK) (hr : Room k (A.deeper (PyProof.Rows.envOfC "names_in" (defScope stm_names_in) s.heap.objs.size f cdv))) :
    SSs (cxOf (L2.CX P w) P w K mg base ["question", "found", "part"] "names_in" (defScope stm_names_in) f cdv A outer s H E) (fun c d _ H' => E c d H') (defBody stm_names_in) (b_names_in C) := by
  have nd := sc_names_in.nd
  have tk : Takes (cxOf (L2.CX P w) P w K mg base ["question", "found", "part"] "names_in" (defScope stm_names_in) f cdv A outer s H E) (fun c d _ H' => E c d H') := takes_of rfl rfl rfl rfl
  have pw : PassesOwn (model (cxOf (L2.CX P w) P w K mg base ["question", "found", "part"] "names_in" (defScope stm_names_in) f cdv A outer s H E).prog (cxOf (L2.CX P w) P w K mg base ["question", "found", "part"] "names_in" (defScope stm_names_in) f cdv A outer s H E).w) (cxOf (L2.CX P w) P w K mg base ["question", "found", "part"] "names_in" (defScope stm_names_in) f cdv A outer s H E).A (cxOf (L2.CX P w) P w K mg base ["question", "found", "part"] "names_in" (defScope stm_names_in) f cdv A outer s H E).env (cxOf (L2.CX P w) P w K mg base ["question", "found", "part"] "names_in" (defScope stm_names_in) f cdv A outer s H E).xe := passes_of rfl
  exact (ss_cons (ss_if (st_cmp (o2_in (u65 hr)) (se_ix (u1 hr) (se_var 0) se_int) (se_tup (sa_cons (se_gstr T.c_HAS) (sa_cons (se_gstr T.c_IS) (sa_cons (se_gstr T.c_OVER) sa_nil)))) (by rfl)) (ss_one (ss_ret (se_lstR (sa_cons (se_ix (u1 hr) (se_var 0) se_int) sa_nil)))) ss_nil) (ss_cons (ss_if (st_cmp (o2_eq (u64 hr)) (se_ix (u1 hr) (se_var 0) se_int) (se_gstr T.c_LEADS) (nomark _)) (ss_one (ss_ret (se_bin o2_addR (se_lst (sa_cons (se_ix (u1 hr) (se_var 0) se_int) sa_nil)) (se_callA T.f_names_in hr (sa_cons (se_ix (u1 hr) (se_var 0) se_int) sa_nil) tk)))) ss_nil) (ss_cons (ss_set 1 nd (se_lstR sa_nil)) (ss_cons (ss_for pw rfl (si_val (se_sl (se_var 0) (sp_some se_int) sp_none)) (sg_nm 2 nd) (ss_one (ss_expr (se_mth m2_extend PySem.F.plainAttrs_list PySem.F.slot_list_extend PySem.F.type_list_extend (se_var 1) (sa_cons (se_callA T.f_names_in hr (sa_cons (se_var 2) sa_nil) tk) sa_nil))))) (ss_one (ss_ret (se_var 1)))))))
theorem sc_drops : FnScope ["deed"] ["deed"] (defScope stm_drops) := ⟨rfl, rfl, rfl, by decide +kernel, rfl, by decide +kernel, by decide +kernel⟩
theorem s_drops (T : Tab P w K mg base C k) (f : Addr) (cdv : Value) (A : Around) (outer : List Env) (s : Shared) (H : Hp) (E : XK) (hr : Room k (A.deeper (PyProof.Rows.envOfC "drops" (defScope stm_drops) s.heap.objs.size f cdv))) :
    SSs (cxOf (L2.CX P w) P w K mg base ["deed"] "drops" (defScope stm_drops) f cdv A outer s H E) (fun c d _ H' => E c d H') (defBody stm_drops) (b_drops C) := by
  have nd := sc_drops.nd
  have tk : Takes (cxOf (L2.CX P w) P w K mg base ["deed"] "drops" (defScope stm_drops) f cdv A outer s H E) (fun c d _ H' => E c d H') := takes_of rfl rfl rfl rfl
  have pw : PassesOwn (model (cxOf (L2.CX P w) P w K mg base ["deed"] "drops" (defScope stm_drops) f cdv A outer s H E).prog (cxOf (L2.CX P w) P w K mg base ["deed"] "drops" (defScope stm_drops) f cdv A outer s H E).w) (cxOf (L2.CX P w) P w K mg base ["deed"] "drops" (defScope stm_drops) f cdv A outer s H E).A (cxOf (L2.CX P w) P w K mg base ["deed"] "drops" (defScope stm_drops) f cdv A outer s H E).env (cxOf (L2.CX P w) P w K mg base ["deed"] "drops" (defScope stm_drops) f cdv A outer s H E).xe := passes_of rfl
  exact (ss_one (ss_ret (se_cmp (o2_in (u65 hr)) (se_tup (sa_cons (se_gstr T.c_DROP) sa_nil)) (se_ix (u1 hr) (se_var 0) se_int) (by rfl))))
theorem sc_in_order : FnScope ["scheme", "some", "name"] ["scheme", "some"] (defScope stm_in_order) := ⟨rfl, rfl, rfl, by decide +kernel, rfl, by decide +kernel, by decide +kernel⟩
theorem s_in_order (T : Tab P w K mg base C k) (f : Addr) (cdv : Value) (A : Around) (outer : List Env) (s : Shared) (H : Hp) (E : XK) (hr : Room k (A.deeper (PyProof.Rows.envOfC "in_order" (defScope stm_in_order) s.heap.objs.size f cdv))) :
    SSs (cxOf (L2.CX P w) P w K mg base ["scheme", "some", "name"] "in_order" (defScope stm_in_order) f cdv A outer s H E) (fun c d _ H' => E c d H') (defBody stm_in_order) (b_in_order C) := by
  have nd := sc_in_order.nd
  have tk : Takes (cxOf (L2.CX P w) P w K mg base ["scheme", "some", "name"] "in_order" (defScope stm_in_order) f cdv A outer s H E) (fun c d _ H' => E c d H') := takes_of rfl rfl rfl rfl
  have pw : PassesOwn (model (cxOf (L2.CX P w) P w K mg base ["scheme", "some", "name"] "in_order" (defScope stm_in_order) f cdv A outer s H E).prog (cxOf (L2.CX P w) P w K mg base ["scheme", "some", "name"] "in_order" (defScope stm_in_order) f cdv A outer s H E).w) (cxOf (L2.CX P w) P w K mg base ["scheme", "some", "name"] "in_order" (defScope stm_in_order) f cdv A outer s H E).A (cxOf (L2.CX P w) P w K mg base ["scheme", "some", "name"] "in_order" (defScope stm_in_order) f cdv A outer s H E).env (cxOf (L2.CX P w) P w K mg base ["scheme", "some", "name"] "in_order" (defScope stm_in_order) f cdv A outer s H E).xe := passes_of rfl
  exact (ss_one (ss_ret (se_callTy c1_tuple T.n_tuple (by decide +kernel) (sa_cons (se_lc rfl nd (si_val (se_callA T.f_names_of hr (sa_cons (se_var 0) sa_nil) tk)) (blkOk_by (own := [("name", 2)]) (by kernel_rfl)) (by decide) (fun _ _ _ _ _ => (sg_nm 2 nd)) (fun _ _ _ _ _ => (sts_one (st_cmp (o2_in (u65 hr)) (se_var 2) (se_var 1) (by rfl)))) (fun _ _ _ _ _ => (se_var 2))) sa_nil))))
theorem sc_reads : FnScope ["scheme", "deed", "some", "act"] ["scheme", "deed"] (defScope stm_reads) := ⟨rfl, rfl, rfl, by decide +kernel, rfl, by decide +kernel, by decide +kernel⟩
theorem s_reads (T : Tab P w K mg base C k) (f : Addr) (cdv : Value) (A : Around) (outer : List Env) (s : Shared) (H : Hp) (E : XK) (hr : Room k (A.deeper (PyProof.Rows.envOfC "reads" (defScope stm_reads) s.heap.objs.size f cdv))) :
    SSs (cxOf (L2.CX P w) P w K mg base ["scheme", "deed", "some", "act"] "reads" (defScope stm_reads) f cdv A outer s H E) (fun c d _ H' => E c d H') (defBody stm_reads) (b_reads C) := by
  have nd := sc_reads.nd
  have tk : Takes (cxOf (L2.CX P w) P w K mg base ["scheme", "deed", "some", "act"] "reads" (defScope stm_reads) f cdv A outer s H E) (fun c d _ H' => E c d H') := takes_of rfl rfl rfl rfl
  have pw : PassesOwn (model (cxOf (L2.CX P w) P w K mg base ["scheme", "deed", "some", "act"] "reads" (defScope stm_reads) f cdv A outer s H E).prog (cxOf (L2.CX P w) P w K mg base ["scheme", "deed", "some", "act"] "reads" (defScope stm_reads) f cdv A outer s H E).w) (cxOf (L2.CX P w) P w K mg base ["scheme", "deed", "some", "act"] "reads" (defScope stm_reads) f cdv A outer s H E).A (cxOf (L2.CX P w) P w K mg base ["scheme", "deed", "some", "act"] "reads" (defScope stm_reads) f cdv A outer s H E).env (cxOf (L2.CX P w) P w K mg base ["scheme", "deed", "some", "act"] "reads" (defScope stm_reads) f cdv A outer s H E).xe := passes_of rfl
  exact (ss_cons (ss_set 2 nd (se_callA T.f_names_in hr (sa_cons (se_ix (u1 hr) (se_var 1) se_int) sa_nil) tk)) (ss_cons (ss_expr (se_mth m2_extend PySem.F.plainAttrs_list PySem.F.slot_list_extend PySem.F.type_list_extend (se_var 2) (sa_cons (se_lc rfl nd (si_val (se_ix (u1 hr) (se_var 1) se_int)) (blkOk_by (own := [("act", 3)]) (by kernel_rfl)) (by decide) (fun _ _ _ _ _ => (sg_nm 3 nd)) (fun _ _ _ _ _ => (sts_one (st_cmp (o2_in (u65 hr)) (se_ix (u1 hr) (se_var 3) se_int) (se_tup (sa_cons (se_gstr T.c_ADD) (sa_cons (se_gstr T.c_COPY) sa_nil))) (by rfl)))) (fun _ _ _ _ _ => (se_ix (u1 hr) (se_var 3) se_int))) sa_nil))) (ss_one (ss_ret (se_callA T.f_in_order hr (sa_cons (se_var 0) (sa_cons (se_var 2) sa_nil)) tk)))))
theorem sc_writes : FnScope ["scheme", "deed", "some", "act"] ["scheme", "deed"] (defScope stm_writes) := ⟨rfl, rfl, rfl, by decide +kernel, rfl, by decide +kernel, by decide +kernel⟩
theorem s_writes (T : Tab P w K mg base C k) (f : Addr) (cdv : Value) (A : Around) (outer : List Env) (s : Shared) (H : Hp) (E : XK) (hr : Room k (A.deeper (PyProof.Rows.envOfC "writes" (defScope stm_writes) s.heap.objs.size f cdv))) :
    SSs (cxOf (L2.CX P w) P w K mg base ["scheme", "deed", "some", "act"] "writes" (defScope stm_writes) f cdv A outer s H E) (fun c d _ H' => E c d H') (defBody stm_writes) (b_writes C) := by
  have nd := sc_writes.nd
  have tk : Takes (cxOf (L2.CX P w) P w K mg base ["scheme", "deed", "some", "act"] "writes" (defScope stm_writes) f cdv A outer s H E) (fun c d _ H' => E c d H') := takes_of rfl rfl rfl rfl
  have pw : PassesOwn (model (cxOf (L2.CX P w) P w K mg base ["scheme", "deed", "some", "act"] "writes" (defScope stm_writes) f cdv A outer s H E).prog (cxOf (L2.CX P w) P w K mg base ["scheme", "deed", "some", "act"] "writes" (defScope stm_writes) f cdv A outer s H E).w) (cxOf (L2.CX P w) P w K mg base ["scheme", "deed", "some", "act"] "writes" (defScope stm_writes) f cdv A outer s H E).A (cxOf (L2.CX P w) P w K mg base ["scheme", "deed", "some", "act"] "writes" (defScope stm_writes) f cdv A outer s H E).env (cxOf (L2.CX P w) P w K mg base ["scheme", "deed", "some", "act"] "writes" (defScope stm_writes) f cdv A outer s H E).xe := passes_of rfl
  exact (ss_cons (ss_if (st_val (se_callA T.f_drops hr (sa_cons (se_var 1) sa_nil) tk)) (ss_one (ss_ret (se_callA T.f_names_of hr (sa_cons (se_var 0) sa_nil) tk))) ss_nil) (ss_cons (ss_setLcR 2 rfl nd (si_val (se_ix (u1 hr) (se_var 1) se_int)) (blkOk_by (own := [("act", 3)]) (by kernel_rfl)) (by decide) (fun _ _ _ _ _ => (sg_nm 3 nd)) (fun _ _ _ _ _ => (sts_one (st_cmp (o2_in (u65 hr)) (se_ix (u1 hr) (se_var 3) se_int) (se_tup (sa_cons (se_gstr T.c_ADD) (sa_cons (se_gstr T.c_PUT) (sa_cons (se_gstr T.c_TAKE) sa_nil)))) (by rfl)))) (fun _ _ _ _ _ => (se_ix (u1 hr) (se_var 3) se_int)) (sw_true rfl rfl rfl (by decide +kernel))) (ss_cons (ss_expr (se_mth m2_extend PySem.F.plainAttrs_list PySem.F.slot_list_extend PySem.F.type_list_extend (se_var 2) (sa_cons (se_lc rfl nd (si_val (se_ix (u1 hr) (se_var 1) se_int)) (blkOk_by (own := [("act", 3)]) (by kernel_rfl)) (by decide) (fun _ _ _ _ _ => (sg_nm 3 nd)) (fun _ _ _ _ _ => (sts_one (st_cmp (o2_eq (u64 hr)) (se_ix (u1 hr) (se_var 3) se_int) (se_gstr T.c_COPY) (nomark _)))) (fun _ _ _ _ _ => (se_ix (u1 hr) (se_var 3) se_int))) sa_nil))) (ss_one (ss_ret (se_callA T.f_in_order hr (sa_cons (se_var 0) (sa_cons (se_var 2) sa_nil)) tk))))))
theorem sc_touches : FnScope ["scheme", "one", "other", "some", "name"] ["scheme", "one", "other"] (defScope stm_touches) := ⟨rfl, rfl, rfl, by decide +kernel, rfl, by decide +kernel, by decide +kernel⟩
theorem s_touches (T : Tab P w K mg base C k) (f : Addr) (cdv : Value) (A : Around) (outer : List Env) (s : Shared) (H : Hp) (E : XK) (hr : Room k (A.deeper (PyProof.Rows.envOfC "touches" (defScope stm_touches) s.heap.objs.size f cdv))) :
    SSs (cxOf (L2.CX P w) P w K mg base ["scheme", "one", "other", "some", "name"] "touches" (defScope stm_touches) f cdv A outer s H E) (fun c d _ H' => E c d H') (defBody stm_touches) (b_touches C) := by
  have nd := sc_touches.nd
  have tk : Takes (cxOf (L2.CX P w) P w K mg base ["scheme", "one", "other", "some", "name"] "touches" (defScope stm_touches) f cdv A outer s H E) (fun c d _ H' => E c d H') := takes_of rfl rfl rfl rfl
  have pw : PassesOwn (model (cxOf (L2.CX P w) P w K mg base ["scheme", "one", "other", "some", "name"] "touches" (defScope stm_touches) f cdv A outer s H E).prog (cxOf (L2.CX P w) P w K mg base ["scheme", "one", "other", "some", "name"] "touches" (defScope stm_touches) f cdv A outer s H E).w) (cxOf (L2.CX P w) P w K mg base ["scheme", "one", "other", "some", "name"] "touches" (defScope stm_touches) f cdv A outer s H E).A (cxOf (L2.CX P w) P w K mg base ["scheme", "one", "other", "some", "name"] "touches" (defScope stm_touches) f cdv A outer s H E).env (cxOf (L2.CX P w) P w K mg base ["scheme", "one", "other", "some", "name"] "touches" (defScope stm_touches) f cdv A outer s H E).xe := passes_of rfl
  exact (ss_cons (ss_set 3 nd (se_bin o2_add (se_callA T.f_reads hr (sa_cons (se_var 0) (sa_cons (se_var 2) sa_nil)) tk) (se_callA T.f_writes hr (sa_cons (se_var 0) (sa_cons (se_var 2) sa_nil)) tk))) (ss_one (ss_ret (se_callB (c1_any rfl) T.n_any (by decide +kernel) (sa_cons (se_lc rfl nd (si_val (se_callA T.f_writes hr (sa_cons (se_var 0) (sa_cons (se_var 1) sa_nil)) tk)) (blkOk_by (own := [("name", 4)]) (by kernel_rfl)) (by decide) (fun _ _ _ _ _ => (sg_nm 4 nd)) (fun _ _ _ _ _ => sts_nil) (fun _ _ _ _ _ => (se_cmp (o2_in (u65 hr)) (se_var 4) (se_var 3) (by rfl)))) sa_nil)))))
theorem sc_clash : FnScope ["scheme", "one", "other"] ["scheme", "one", "other"] (defScope stm_clash) := ⟨rfl, rfl, rfl, by decide +kernel, rfl, by decide +kernel, by decide +kernel⟩
theorem s_clash (T : Tab P w K mg base C k) (f : Addr) (cdv : Value) (A : Around) (outer : List Env) (s : Shared) (H : Hp) (E : XK) (hr : Room k (A.deeper (PyProof.Rows.envOfC "clash" (defScope stm_clash) s.heap.objs.size f cdv))) :
    SSs (cxOf (L2.CX P w) P w K mg base ["scheme", "one", "other"] "clash" (defScope stm_clash) f cdv A outer s H E) (fun c d _ H' => E c d H') (defBody stm_clash) (b_clash C) := by
  have nd := sc_clash.nd
  have tk : Takes (cxOf (L2.CX P w) P w K mg base ["scheme", "one", "other"] "clash" (defScope stm_clash) f cdv A outer s H E) (fun c d _ H' => E c d H') := takes_of rfl rfl rfl rfl
  have pw : PassesOwn (model (cxOf (L2.CX P w) P w K mg base ["scheme", "one", "other"] "clash" (defScope stm_clash) f cdv A outer s H E).prog (cxOf (L2.CX P w) P w K mg base ["scheme", "one", "other"] "clash" (defScope stm_clash) f cdv A outer s H E).w) (cxOf (L2.CX P w) P w K mg base ["scheme", "one", "other"] "clash" (defScope stm_clash) f cdv A outer s H E).A (cxOf (L2.CX P w) P w K mg base ["scheme", "one", "other"] "clash" (defScope stm_clash) f cdv A outer s H E).env (cxOf (L2.CX P w) P w K mg base ["scheme", "one", "other"] "clash" (defScope stm_clash) f cdv A outer s H E).xe := passes_of rfl
  exact (ss_one (ss_ret (se_or (se_callA T.f_drops hr (sa_cons (se_var 1) sa_nil) tk) (se_or (se_callA T.f_drops hr (sa_cons (se_var 2) sa_nil) tk) (se_or (se_callA T.f_touches hr (sa_cons (se_var 0) (sa_cons (se_var 1) (sa_cons (se_var 2) sa_nil))) tk) (se_one (se_callA T.f_touches hr (sa_cons (se_var 0) (sa_cons (se_var 2) (sa_cons (se_var 1) sa_nil))) tk)))))))
theorem sc_stage_numbers : FnScope ["scheme", "deeds", "found", "at", "deed", "late", "other"] ["scheme", "deeds"] (defScope stm_stage_numbers) := ⟨rfl, rfl, rfl, by decide +kernel, rfl, by decide +kernel, by decide +kernel⟩
theorem s_stage_numbers (T : Tab P w K mg base C k) (f : Addr) (cdv : Value) (A : Around) (outer : List Env) (s : Shared) (H : Hp) (E : XK) (hr : Room k (A.deeper (PyProof.Rows.envOfC "stage_numbers" (defScope stm_stage_numbers) s.heap.objs.size f cdv))) :
    SSs (cxOf (L2.CX P w) P w K mg base ["scheme", "deeds", "found", "at", "deed", "late", "other"] "stage_numbers" (defScope stm_stage_numbers) f cdv A outer s H E) (fun c d _ H' => E c d H') (defBody stm_stage_numbers) (b_stage_numbers C) := by
  have nd := sc_stage_numbers.nd
  have tk : Takes (cxOf (L2.CX P w) P w K mg base ["scheme", "deeds", "found", "at", "deed", "late", "other"] "stage_numbers" (defScope stm_stage_numbers) f cdv A outer s H E) (fun c d _ H' => E c d H') := takes_of rfl rfl rfl rfl
  have pw : PassesOwn (model (cxOf (L2.CX P w) P w K mg base ["scheme", "deeds", "found", "at", "deed", "late", "other"] "stage_numbers" (defScope stm_stage_numbers) f cdv A outer s H E).prog (cxOf (L2.CX P w) P w K mg base ["scheme", "deeds", "found", "at", "deed", "late", "other"] "stage_numbers" (defScope stm_stage_numbers) f cdv A outer s H E).w) (cxOf (L2.CX P w) P w K mg base ["scheme", "deeds", "found", "at", "deed", "late", "other"] "stage_numbers" (defScope stm_stage_numbers) f cdv A outer s H E).A (cxOf (L2.CX P w) P w K mg base ["scheme", "deeds", "found", "at", "deed", "late", "other"] "stage_numbers" (defScope stm_stage_numbers) f cdv A outer s H E).env (cxOf (L2.CX P w) P w K mg base ["scheme", "deeds", "found", "at", "deed", "late", "other"] "stage_numbers" (defScope stm_stage_numbers) f cdv A outer s H E).xe := passes_of rfl
  exact (ss_cons (ss_set 2 nd (se_lstR sa_nil)) (ss_cons (ss_for pw rfl (si_enum (sa_cons (se_var 1) sa_nil) T.n_enumerate) (sg_tp rfl (sgs_cons (sg_nm 3 nd) (sgs_cons (sg_nm 4 nd) sgs_nil))) (ss_cons (ss_setLc 5 rfl nd (si_range (sa_cons (se_var 3) sa_nil) T.n_range) (blkOk_by (own := [("other", 6)]) (by kernel_rfl)) (by decide) (fun _ _ _ _ _ => (sg_nm 6 nd)) (fun _ _ _ _ _ => (sts_one (st_val (se_callA T.f_clash hr (sa_cons (se_var 0) (sa_cons (se_ix (u1 hr) (se_var 1) (se_var 6)) (sa_cons (se_var 4) sa_nil))) takes0)))) (fun _ _ _ _ _ => (se_bin o2_add (se_ix (u1 hr) (se_var 2) (se_var 6)) se_int)) (sw_true rfl rfl rfl (by decide +kernel))) (ss_one (ss_expr (se_mth m2_append PySem.F.plainAttrs_list PySem.F.slot_list_append PySem.F.type_list_append (se_var 2) (sa_cons (se_callB (c1_max rfl) T.n_max (by decide +kernel) (sa_cons (se_bin o2_add (se_var 5) (se_lst (sa_cons se_int sa_nil))) sa_nil)) sa_nil)))))) (ss_one (ss_ret (se_var 2)))))
theorem sc_stages : FnScope ["scheme", "deeds", "numbers", "many", "found", "stage", "at", "number"] ["scheme", "deeds"] (defScope stm_stages) := ⟨rfl, rfl, rfl, by decide +kernel, rfl, by decide +kernel, by decide +kernel⟩
theorem s_stages (T : Tab P w K mg base C k) (f : Addr) (cdv : Value) (A : Around) (outer : List Env) (s : Shared) (H : Hp) (E : XK) (hr : Room k (A.deeper (PyProof.Rows.envOfC "stages" (defScope stm_stages) s.heap.objs.size f cdv))) :
    SSs (cxOf (L2.CX P w) P w K mg base ["scheme", "deeds", "numbers", "many", "found", "stage", "at", "number"] "stages" (defScope stm_stages) f cdv A outer s H E) (fun c d _ H' => E c d H') (defBody stm_stages) (b_stages C) := by
  have nd := sc_stages.nd
  have tk : Takes (cxOf (L2.CX P w) P w K mg base ["scheme", "deeds", "numbers", "many", "found", "stage", "at", "number"] "stages" (defScope stm_stages) f cdv A outer s H E) (fun c d _ H' => E c d H') := takes_of rfl rfl rfl rfl
  have pw : PassesOwn (model (cxOf (L2.CX P w) P w K mg base ["scheme", "deeds", "numbers", "many", "found", "stage", "at", "number"] "stages" (defScope stm_stages) f cdv A outer s H E).prog (cxOf (L2.CX P w) P w K mg base ["scheme", "deeds", "numbers", "many", "found", "stage", "at", "number"] "stages" (defScope stm_stages) f cdv A outer s H E).w) (cxOf (L2.CX P w) P w K mg base ["scheme", "deeds", "numbers", "many", "found", "stage", "at", "number"] "stages" (defScope stm_stages) f cdv A outer s H E).A (cxOf (L2.CX P w) P w K mg base ["scheme", "deeds", "numbers", "many", "found", "stage", "at", "number"] "stages" (defScope stm_stages) f cdv A outer s H E).env (cxOf (L2.CX P w) P w K mg base ["scheme", "deeds", "numbers", "many", "found", "stage", "at", "number"] "stages" (defScope stm_stages) f cdv A outer s H E).xe := passes_of rfl
  exact (ss_cons (ss_set 2 nd (se_callA T.f_stage_numbers hr (sa_cons (se_var 0) (sa_cons (se_var 1) sa_nil)) tk)) (ss_cons (ss_set 3 nd (se_bin o2_add (se_callB (c1_max rfl) T.n_max (by decide +kernel) (sa_cons (se_bin o2_add (se_var 2) (se_lst (sa_cons (se_bin o2_sub se_int se_int) sa_nil))) sa_nil)) se_int)) (ss_cons (ss_set 4 nd (se_lstR sa_nil)) (ss_cons (ss_for pw rfl (si_range (sa_cons (se_var 3) sa_nil) T.n_range) (sg_nm 5 nd) (ss_one (ss_expr (se_mth m2_append PySem.F.plainAttrs_list PySem.F.slot_list_append PySem.F.type_list_append (se_var 4) (sa_cons (se_callTy c1_tuple T.n_tuple (by decide +kernel) (sa_cons (se_lc rfl nd (si_enum (sa_cons (se_var 2) sa_nil) T.n_enumerate) (blkOk_by (own := [("at", 6), ("number", 7)]) (by kernel_rfl)) (by decide) (fun _ _ _ _ _ => (sg_tp rfl (sgs_cons (sg_nm 6 nd) (sgs_cons (sg_nm 7 nd) sgs_nil)))) (fun _ _ _ _ _ => (sts_one (st_cmp (o2_eq (u64 hr)) (se_var 7) (se_var 5) (nomark _)))) (fun _ _ _ _ _ => (se_var 6))) sa_nil)) sa_nil))))) (ss_one (ss_ret (se_callTy c1_tuple T.n_tuple (by decide +kernel) (sa_cons (se_var 4) sa_nil))))))))
theorem sc_is_chain : FnScope ["scheme", "deeds", "thing", "pairs", "one", "other", "at"] ["scheme", "deeds", "thing"] (defScope stm_is_chain) := ⟨rfl, rfl, rfl, by decide +kernel, rfl, by decide +kernel, by decide +kernel⟩
theorem s_is_chain (T : Tab P w K mg base C k) (f : Addr) (cdv : Value) (A : Around) (outer : List Env) (s : Shared) (H : Hp) (E : XK) (hr : Room k (A.deeper (PyProof.Rows.envOfC "is_chain" (defScope stm_is_chain) s.heap.objs.size f cdv))) :
    SSs (cxOf (L2.CX P w) P w K mg base ["scheme", "deeds", "thing", "pairs", "one", "other", "at"] "is_chain" (defScope stm_is_chain) f cdv A outer s H E) (fun c d _ H' => E c d H') (defBody stm_is_chain) (b_is_chain C) := by
  have nd := sc_is_chain.nd
  have tk : Takes (cxOf (L2.CX P w) P w K mg base ["scheme", "deeds", "thing", "pairs", "one", "other", "at"] "is_chain" (defScope stm_is_chain) f cdv A outer s H E) (fun c d _ H' => E c d H') := takes_of rfl rfl rfl rfl
  have pw : PassesOwn (model (cxOf (L2.CX P w) P w K mg base ["scheme", "deeds", "thing", "pairs", "one", "other", "at"] "is_chain" (defScope stm_is_chain) f cdv A outer s H E).prog (cxOf (L2.CX P w) P w K mg base ["scheme", "deeds", "thing", "pairs", "one", "other", "at"] "is_chain" (defScope stm_is_chain) f cdv A outer s H E).w) (cxOf (L2.CX P w) P w K mg base ["scheme", "deeds", "thing", "pairs", "one", "other", "at"] "is_chain" (defScope stm_is_chain) f cdv A outer s H E).A (cxOf (L2.CX P w) P w K mg base ["scheme", "deeds", "thing", "pairs", "one", "other", "at"] "is_chain" (defScope stm_is_chain) f cdv A outer s H E).env (cxOf (L2.CX P w) P w K mg base ["scheme", "deeds", "thing", "pairs", "one", "other", "at"] "is_chain" (defScope stm_is_chain) f cdv A outer s H E).xe := passes_of rfl
  exact (ss_cons (ss_if (st_w (sw_or (st_not (st_val (se_callB c1_isi T.n_isinstance (by decide +kernel) (sa_cons (se_var 2) (sa_cons (se_bty T.n_tuple (by decide +kernel)) sa_nil))))) (sw_or1 (st_not (st_val (se_callB (c1_all rfl) T.n_all (by decide +kernel) (sa_cons (se_lc rfl nd (si_val (se_var 2)) (blkOk_by (own := [("at", 6)]) (by kernel_rfl)) (by decide) (fun _ _ _ _ _ => (sg_nm 6 nd)) (fun _ _ _ _ _ => sts_nil) (fun _ _ _ _ _ => (se_callA T.f_is_whole hr (sa_cons (se_var 6) (sa_cons se_int (sa_cons (se_bin o2_sub (se_callB c1_len T.n_len (by decide +kernel) (sa_cons (se_var 1) sa_nil)) se_int) sa_nil))) takes0))) sa_nil))))))) (ss_one (ss_ret se_bl)) ss_nil) (ss_cons (ss_set 3 nd (se_listZip rfl (sa_cons (se_sl (se_var 2) sp_none (sp_some (se_neg se_int))) (sa_cons (se_sl (se_var 2) (sp_some se_int) sp_none) sa_nil)) T.n_zip T.n_list)) (ss_one (ss_ret (se_callB (c1_all rfl) T.n_all (by decide +kernel) (sa_cons (se_lc rfl nd (si_val (se_var 3)) (blkOk_by (own := [("one", 4), ("other", 5)]) (by kernel_rfl)) (by decide) (fun _ _ _ _ _ => (sg_tp rfl (sgs_cons (sg_nm 4 nd) (sgs_cons (sg_nm 5 nd) sgs_nil)))) (fun _ _ _ _ _ => sts_nil) (fun _ _ _ _ _ => (se_and (se_cmp (o2_lt (u64 hr)) (se_var 4) (se_var 5) (nomark _)) (se_one (se_callA T.f_clash hr (sa_cons (se_var 0) (sa_cons (se_ix (u1 hr) (se_var 1) (se_var 4)) (sa_cons (se_ix (u1 hr) (se_var 1) (se_var 5)) sa_nil))) takes0))))) sa_nil))))))
theorem sc_chain : FnScope ["scheme", "deeds", "many", "found", "at", "some"] ["scheme", "deeds"] (defScope stm_chain) := ⟨rfl, rfl, rfl, by decide +kernel, rfl, by decide +kernel, by decide +kernel⟩
theorem s_chain (T : Tab P w K mg base C k) (f : Addr) (cdv : Value) (A : Around) (outer : List Env) (s : Shared) (H : Hp) (E : XK) (hr : Room k (A.deeper (PyProof.Rows.envOfC "chain" (defScope stm_chain) s.heap.objs.size f cdv))) :
    SSs (cxOf (L2.CX P w) P w K mg base ["scheme", "deeds", "many", "found", "at", "some"] "chain" (defScope stm_chain) f cdv A outer s H E) (fun c d _ H' => E c d H') (defBody stm_chain) (b_chain C) := by
  have nd := sc_chain.nd
  have tk : Takes (cxOf (L2.CX P w) P w K mg base ["scheme", "deeds", "many", "found", "at", "some"] "chain" (defScope stm_chain) f cdv A outer s H E) (fun c d _ H' => E c d H') := takes_of rfl rfl rfl rfl
  have pw : PassesOwn (model (cxOf (L2.CX P w) P w K mg base ["scheme", "deeds", "many", "found", "at", "some"] "chain" (defScope stm_chain) f cdv A outer s H E).prog (cxOf (L2.CX P w) P w K mg base ["scheme", "deeds", "many", "found", "at", "some"] "chain" (defScope stm_chain) f cdv A outer s H E).w) (cxOf (L2.CX P w) P w K mg base ["scheme", "deeds", "many", "found", "at", "some"] "chain" (defScope stm_chain) f cdv A outer s H E).A (cxOf (L2.CX P w) P w K mg base ["scheme", "deeds", "many", "found", "at", "some"] "chain" (defScope stm_chain) f cdv A outer s H E).env (cxOf (L2.CX P w) P w K mg base ["scheme", "deeds", "many", "found", "at", "some"] "chain" (defScope stm_chain) f cdv A outer s H E).xe := passes_of rfl
  exact (ss_cons (ss_set 2 nd (se_callB c1_len T.n_len (by decide +kernel) (sa_cons (se_callA T.f_stages hr (sa_cons (se_var 0) (sa_cons (se_var 1) sa_nil)) tk) sa_nil))) (ss_cons (ss_set 3 nd (se_lst (sa_cons (se_tup sa_nil) sa_nil))) (ss_cons (ss_for pw rfl (si_range (sa_cons (se_callB c1_len T.n_len (by decide +kernel) (sa_cons (se_var 1) sa_nil)) sa_nil) T.n_range) (sg_nm 4 nd) (ss_one (ss_set 3 nd (se_bin o2_add (se_var 3) (se_lc rfl nd (si_val (se_var 3)) (blkOk_by (own := [("some", 5)]) (by kernel_rfl)) (by decide) (fun _ _ _ _ _ => (sg_nm 5 nd)) (fun _ _ _ _ _ => (sts_one (st_val (se_callA T.f_is_chain hr (sa_cons (se_var 0) (sa_cons (se_var 1) (sa_cons (se_bin o2_add (se_var 5) (se_tup (sa_cons (se_var 4) sa_nil))) sa_nil))) takes0)))) (fun _ _ _ _ _ => (se_bin o2_add (se_var 5) (se_tup (sa_cons (se_var 4) sa_nil))))))))) (ss_one (ss_ret (se_callB (c1_min rfl (u64 hr)) T.n_min (by decide +kernel) (sa_cons (se_lc rfl nd (si_val (se_var 3)) (blkOk_by (own := [("some", 5)]) (by kernel_rfl)) (by decide) (fun _ _ _ _ _ => (sg_nm 5 nd)) (fun _ _ _ _ _ => (sts_one (st_cmp (o2_eq (u64 hr)) (se_callB c1_len T.n_len (by decide +kernel) (sa_cons (se_var 5) sa_nil)) (se_var 2) (nomark _)))) (fun _ _ _ _ _ => (se_var 5))) sa_nil)))))))
theorem sc__law_cell_at : FnScope ["script", "k"] ["script", "k"] (defScope stm__law_cell_at) := ⟨rfl, rfl, rfl, by decide +kernel, rfl, by decide +kernel, by decide +kernel⟩
theorem s__law_cell_at (T : Tab P w K mg base C k) (f : Addr) (cdv : Value) (A : Around) (outer : List Env) (s : Shared) (H : Hp) (E : XK) (hr : Room k (A.deeper (PyProof.Rows.envOfC "_law_cell_at" (defScope stm__law_cell_at) s.heap.objs.size f cdv))) :
    SSs (cxOf (L2.CX P w) P w K mg base ["script", "k"] "_law_cell_at" (defScope stm__law_cell_at) f cdv A outer s H E) (fun c d _ H' => E c d H') (defBody stm__law_cell_at) (b__law_cell_at C) := by
  have nd := sc__law_cell_at.nd
  have tk : Takes (cxOf (L2.CX P w) P w K mg base ["script", "k"] "_law_cell_at" (defScope stm__law_cell_at) f cdv A outer s H E) (fun c d _ H' => E c d H') := takes_of rfl rfl rfl rfl
  have pw : PassesOwn (model (cxOf (L2.CX P w) P w K mg base ["script", "k"] "_law_cell_at" (defScope stm__law_cell_at) f cdv A outer s H E).prog (cxOf (L2.CX P w) P w K mg base ["script", "k"] "_law_cell_at" (defScope stm__law_cell_at) f cdv A outer s H E).w) (cxOf (L2.CX P w) P w K mg base ["script", "k"] "_law_cell_at" (defScope stm__law_cell_at) f cdv A outer s H E).A (cxOf (L2.CX P w) P w K mg base ["script", "k"] "_law_cell_at" (defScope stm__law_cell_at) f cdv A outer s H E).env (cxOf (L2.CX P w) P w K mg base ["script", "k"] "_law_cell_at" (defScope stm__law_cell_at) f cdv A outer s H E).xe := passes_of rfl
  exact (ss_cons (ss_if (st_cmp (o2_lt (u64 hr)) (se_var 1) (se_callB c1_len T.n_len (by decide +kernel) (sa_cons (se_var 0) sa_nil)) (nomark _)) (ss_one (ss_ret (se_ix (u1 hr) (se_var 0) (se_var 1)))) ss_nil) (ss_one (ss_ret se_int)))
theorem sc__law_mixed : FnScope ["script", "k", "drawn"] ["script", "k"] (defScope stm__law_mixed) := ⟨rfl, rfl, rfl, by decide +kernel, rfl, by decide +kernel, by decide +kernel⟩
theorem s__law_mixed (T : Tab P w K mg base C k) (f : Addr) (cdv : Value) (A : Around) (outer : List Env) (s : Shared) (H : Hp) (E : XK) (hr : Room k (A.deeper (PyProof.Rows.envOfC "_law_mixed" (defScope stm__law_mixed) s.heap.objs.size f cdv))) :
    SSs (cxOf (L2.CX P w) P w K mg base ["script", "k", "drawn"] "_law_mixed" (defScope stm__law_mixed) f cdv A outer s H E) (fun c d _ H' => E c d H') (defBody stm__law_mixed) (b__law_mixed C) := by
  have nd := sc__law_mixed.nd
  have tk : Takes (cxOf (L2.CX P w) P w K mg base ["script", "k", "drawn"] "_law_mixed" (defScope stm__law_mixed) f cdv A outer s H E) (fun c d _ H' => E c d H') := takes_of rfl rfl rfl rfl
  have pw : PassesOwn (model (cxOf (L2.CX P w) P w K mg base ["script", "k", "drawn"] "_law_mixed" (defScope stm__law_mixed) f cdv A outer s H E).prog (cxOf (L2.CX P w) P w K mg base ["script", "k", "drawn"] "_law_mixed" (defScope stm__law_mixed) f cdv A outer s H E).w) (cxOf (L2.CX P w) P w K mg base ["script", "k", "drawn"] "_law_mixed" (defScope stm__law_mixed) f cdv A outer s H E).A (cxOf (L2.CX P w) P w K mg base ["script", "k", "drawn"] "_law_mixed" (defScope stm__law_mixed) f cdv A outer s H E).env (cxOf (L2.CX P w) P w K mg base ["script", "k", "drawn"] "_law_mixed" (defScope stm__law_mixed) f cdv A outer s H E).xe := passes_of rfl
  exact (ss_cons (ss_set 2 nd (se_bin o2_mod (se_bin o2_mulA (se_bin o2_add (se_bin o2_add (se_callA T.f__law_cell_at hr (sa_cons (se_var 0) (sa_cons (se_var 1) sa_nil)) tk) (se_bin o2_mulA se_int (se_var 1))) se_int) se_int) se_int)) (ss_one (ss_ret (se_bin o2_mod (se_bin o2_add (se_bin o2_add (se_bin o2_mulA (se_var 2) (se_var 2)) (se_bin o2_mulA se_int (se_var 2))) (se_var 1)) se_int))))
theorem sc__law_drawn : FnScope ["number", "k", "drawn"] ["number", "k"] (defScope stm__law_drawn) := ⟨rfl, rfl, rfl, by decide +kernel, rfl, by decide +kernel, by decide +kernel⟩
theorem s__law_drawn (T : Tab P w K mg base C k) (f : Addr) (cdv : Value) (A : Around) (outer : List Env) (s : Shared) (H : Hp) (E : XK) (hr : Room k (A.deeper (PyProof.Rows.envOfC "_law_drawn" (defScope stm__law_drawn) s.heap.objs.size f cdv))) :
    SSs (cxOf (L2.CX P w) P w K mg base ["number", "k", "drawn"] "_law_drawn" (defScope stm__law_drawn) f cdv A outer s H E) (fun c d _ H' => E c d H') (defBody stm__law_drawn) (b__law_drawn C) := by
  have nd := sc__law_drawn.nd
  have tk : Takes (cxOf (L2.CX P w) P w K mg base ["number", "k", "drawn"] "_law_drawn" (defScope stm__law_drawn) f cdv A outer s H E) (fun c d _ H' => E c d H') := takes_of rfl rfl rfl rfl
  have pw : PassesOwn (model (cxOf (L2.CX P w) P w K mg base ["number", "k", "drawn"] "_law_drawn" (defScope stm__law_drawn) f cdv A outer s H E).prog (cxOf (L2.CX P w) P w K mg base ["number", "k", "drawn"] "_law_drawn" (defScope stm__law_drawn) f cdv A outer s H E).w) (cxOf (L2.CX P w) P w K mg base ["number", "k", "drawn"] "_law_drawn" (defScope stm__law_drawn) f cdv A outer s H E).A (cxOf (L2.CX P w) P w K mg base ["number", "k", "drawn"] "_law_drawn" (defScope stm__law_drawn) f cdv A outer s H E).env (cxOf (L2.CX P w) P w K mg base ["number", "k", "drawn"] "_law_drawn" (defScope stm__law_drawn) f cdv A outer s H E).xe := passes_of rfl
  exact (ss_cons (ss_set 2 nd (se_bin o2_mod (se_bin o2_mulA (se_bin o2_add (se_bin o2_add (se_var 0) (se_bin o2_mulA se_int (se_var 1))) se_int) se_int) se_int)) (ss_one (ss_ret (se_bin o2_mod (se_bin o2_add (se_bin o2_add (se_bin o2_mulA (se_var 2) (se_var 2)) (se_bin o2_mulA se_int (se_var 2))) (se_var 1)) se_int))))
theorem sc__law_scheme : FnScope ["number", "book", "k", "drawn", "letters", "name", "n"] ["number"] (defScope stm__law_scheme) := ⟨rfl, rfl, rfl, by decide +kernel, rfl, by decide +kernel, by decide +kernel⟩
theorem s__law_scheme (T : Tab P w K mg base C k) (f : Addr) (cdv : Value) (A : Around) (outer : List Env) (s : Shared) (H : Hp) (E : XK) (hr : Room k (A.deeper (PyProof.Rows.envOfC "_law_scheme" (defScope stm__law_scheme) s.heap.objs.size f cdv))) :
    SSs (cxOf (L2.CX P w) P w K mg base ["number", "book", "k", "drawn", "letters", "name", "n"] "_law_scheme" (defScope stm__law_scheme) f cdv A outer s H E) (fun c d _ H' => E c d H') (defBody stm__law_scheme) (b__law_scheme C) := by
  have nd := sc__law_scheme.nd
  have tk : Takes (cxOf (L2.CX P w) P w K mg base ["number", "book", "k", "drawn", "letters", "name", "n"] "_law_scheme" (defScope stm__law_scheme) f cdv A outer s H E) (fun c d _ H' => E c d H') := takes_of rfl rfl rfl rfl
  have pw : PassesOwn (model (cxOf (L2.CX P w) P w K mg base ["number", "book", "k", "drawn", "letters", "name", "n"] "_law_scheme" (defScope stm__law_scheme) f cdv A outer s H E).prog (cxOf (L2.CX P w) P w K mg base ["number", "book", "k", "drawn", "letters", "name", "n"] "_law_scheme" (defScope stm__law_scheme) f cdv A outer s H E).w) (cxOf (L2.CX P w) P w K mg base ["number", "book", "k", "drawn", "letters", "name", "n"] "_law_scheme" (defScope stm__law_scheme) f cdv A outer s H E).A (cxOf (L2.CX P w) P w K mg base ["number", "book", "k", "drawn", "letters", "name", "n"] "_law_scheme" (defScope stm__law_scheme) f cdv A outer s H E).env (cxOf (L2.CX P w) P w K mg base ["number", "book", "k", "drawn", "letters", "name", "n"] "_law_scheme" (defScope stm__law_scheme) f cdv A outer s H E).xe := passes_of rfl
  exact (ss_cons (ss_set 1 nd se_dicR) (ss_cons (ss_for pw rfl (si_range (sa_cons (se_bin o2_add se_int (se_bin o2_mod (se_var 0) se_int)) sa_nil) T.n_range) (sg_nm 2 nd) (ss_cons (ss_set 3 nd (se_bin o2_div (se_callA T.f__law_drawn hr (sa_cons (se_var 0) (sa_cons (se_var 2) sa_nil)) tk) se_int)) (ss_cons (ss_set 4 nd se_str) (ss_cons (ss_set 5 nd (se_mth m2_join PySem.F.plainAttrs_str PySem.F.slot_str_join PySem.F.type_str_join se_str (sa_cons (se_lc rfl nd (si_range (sa_cons (se_bin o2_add se_int (se_bin o2_mod (se_var 3) se_int)) sa_nil) T.n_range) (blkOk_by (own := [("n", 6)]) (by kernel_rfl)) (by decide) (fun _ _ _ _ _ => (sg_nm 6 nd)) (fun _ _ _ _ _ => sts_nil) (fun _ _ _ _ _ => (se_ix (u1 hr) (se_var 4) (se_bin o2_mod (se_bin o2_div (se_callA T.f__law_drawn hr (sa_cons (se_var 3) (sa_cons (se_var 6) sa_nil)) takes0) se_int) se_int)))) sa_nil))) (ss_one (ss_setI (u1 hr) (se_var 1) (se_var 5) (se_ix (u1 hr) (se_tup (sa_cons se_str (sa_cons se_str (sa_cons se_str (sa_cons se_str (sa_cons se_str (sa_cons se_str (sa_cons se_str (sa_cons se_str sa_nil))))))))) (se_bin o2_mod (se_bin o2_div (se_var 3) se_int) se_int)))))))) (ss_one (ss_ret (se_callTy c1_tuple T.n_tuple (by decide +kernel) (sa_cons (se_sortItems rfl (u64 hr) (se_var 1) T.n_sorted) sa_nil))))))
theorem sc__law_letters : FnScope ["number", "most", "letters", "k"] ["number", "most"] (defScope stm__law_letters) := ⟨rfl, rfl, rfl, by decide +kernel, rfl, by decide +kernel, by decide +kernel⟩
theorem s__law_letters (T : Tab P w K mg base C k) (f : Addr) (cdv : Value) (A : Around) (outer : List Env) (s : Shared) (H : Hp) (E : XK) (hr : Room k (A.deeper (PyProof.Rows.envOfC "_law_letters" (defScope stm__law_letters) s.heap.objs.size f cdv))) :
    SSs (cxOf (L2.CX P w) P w K mg base ["number", "most", "letters", "k"] "_law_letters" (defScope stm__law_letters) f cdv A outer s H E) (fun c d _ H' => E c d H') (defBody stm__law_letters) (b__law_letters C) := by
  have nd := sc__law_letters.nd
  have tk : Takes (cxOf (L2.CX P w) P w K mg base ["number", "most", "letters", "k"] "_law_letters" (defScope stm__law_letters) f cdv A outer s H E) (fun c d _ H' => E c d H') := takes_of rfl rfl rfl rfl
  have pw : PassesOwn (model (cxOf (L2.CX P w) P w K mg base ["number", "most", "letters", "k"] "_law_letters" (defScope stm__law_letters) f cdv A outer s H E).prog (cxOf (L2.CX P w) P w K mg base ["number", "most", "letters", "k"] "_law_letters" (defScope stm__law_letters) f cdv A outer s H E).w) (cxOf (L2.CX P w) P w K mg base ["number", "most", "letters", "k"] "_law_letters" (defScope stm__law_letters) f cdv A outer s H E).A (cxOf (L2.CX P w) P w K mg base ["number", "most", "letters", "k"] "_law_letters" (defScope stm__law_letters) f cdv A outer s H E).env (cxOf (L2.CX P w) P w K mg base ["number", "most", "letters", "k"] "_law_letters" (defScope stm__law_letters) f cdv A outer s H E).xe := passes_of rfl
  exact (ss_cons (ss_set 2 nd se_str) (ss_one (ss_ret (se_mth m2_join PySem.F.plainAttrs_str PySem.F.slot_str_join PySem.F.type_str_join se_str (sa_cons (se_lc rfl nd (si_range (sa_cons (se_bin o2_mod (se_var 0) (se_bin o2_add (se_var 1) se_int)) sa_nil) T.n_range) (blkOk_by (own := [("k", 3)]) (by kernel_rfl)) (by decide) (fun _ _ _ _ _ => (sg_nm 3 nd)) (fun _ _ _ _ _ => sts_nil) (fun _ _ _ _ _ => (se_ix (u1 hr) (se_var 2) (se_bin o2_mod (se_bin o2_div (se_callA T.f__law_drawn hr (sa_cons (se_var 0) (sa_cons (se_var 3) sa_nil)) takes0) se_int) se_int)))) sa_nil)))))
theorem sc__law_worth : FnScope ["sort", "number", "handles"] ["sort", "number", "handles"] (defScope stm__law_worth) := ⟨rfl, rfl, rfl, by decide +kernel, rfl, by decide +kernel, by decide +kernel⟩
theorem s__law_worth (T : Tab P w K mg base C k) (f : Addr) (cdv : Value) (A : Around) (outer : List Env) (s : Shared) (H : Hp) (E : XK) (hr : Room k (A.deeper (PyProof.Rows.envOfC "_law_worth" (defScope stm__law_worth) s.heap.objs.size f cdv))) :
    SSs (cxOf (L2.CX P w) P w K mg base ["sort", "number", "handles"] "_law_worth" (defScope stm__law_worth) f cdv A outer s H E) (fun c d _ H' => E c d H') (defBody stm__law_worth) (b__law_worth C) := by
  have nd := sc__law_worth.nd
  have tk : Takes (cxOf (L2.CX P w) P w K mg base ["sort", "number", "handles"] "_law_worth" (defScope stm__law_worth) f cdv A outer s H E) (fun c d _ H' => E c d H') := takes_of rfl rfl rfl rfl
  have pw : PassesOwn (model (cxOf (L2.CX P w) P w K mg base ["sort", "number", "handles"] "_law_worth" (defScope stm__law_worth) f cdv A outer s H E).prog (cxOf (L2.CX P w) P w K mg base ["sort", "number", "handles"] "_law_worth" (defScope stm__law_worth) f cdv A outer s H E).w) (cxOf (L2.CX P w) P w K mg base ["sort", "number", "handles"] "_law_worth" (defScope stm__law_worth) f cdv A outer s H E).A (cxOf (L2.CX P w) P w K mg base ["sort", "number", "handles"] "_law_worth" (defScope stm__law_worth) f cdv A outer s H E).env (cxOf (L2.CX P w) P w K mg base ["sort", "number", "handles"] "_law_worth" (defScope stm__law_worth) f cdv A outer s H E).xe := passes_of rfl
  exact (ss_cons (ss_if (st_cmp (o2_eq (u64 hr)) (se_var 0) se_str (nomark _)) (ss_one (ss_ret se_non)) ss_nil) (ss_cons (ss_if (st_cmp (o2_eq (u64 hr)) (se_var 0) se_str (nomark _)) (ss_one (ss_ret (se_bin o2_sub (se_bin o2_mod (se_var 1) (se_ix (u1 hr) (se_tup (sa_cons se_int (sa_cons se_int (sa_cons se_int sa_nil)))) (se_bin o2_mod (se_bin o2_div (se_var 1) se_int) se_int))) (se_ix (u1 hr) (se_tup (sa_cons se_int (sa_cons se_int (sa_cons se_int sa_nil)))) (se_bin o2_mod (se_bin o2_div (se_var 1) se_int) se_int))))) ss_nil) (ss_cons (ss_if (st_cmp (o2_eq (u64 hr)) (se_var 0) se_str (nomark _)) (ss_one (ss_ret (se_callA T.f__law_letters hr (sa_cons (se_bin o2_mod (se_bin o2_div (se_var 1) se_int) se_int) (sa_cons (se_ix (u1 hr) (se_tup (sa_cons se_int (sa_cons se_int sa_nil))) (se_bin o2_mod (se_var 1) se_int)) sa_nil)) tk))) ss_nil) (ss_cons (ss_if (st_w (sw_or (st_cmp (o2_eq (u64 hr)) (se_bin o2_mod (se_var 1) se_int) se_int (nomark _)) (sw_or1 (st_cmp (o2_eq (u64 hr)) (se_callB c1_len T.n_len (by decide +kernel) (sa_cons (se_var 2) sa_nil)) se_int (nomark _))))) (ss_one (ss_ret se_non)) ss_nil) (ss_one (ss_ret (se_ix (u1 hr) (se_callB (c1_sorted (u64 hr)) T.n_sorted (by decide +kernel) (sa_cons (se_var 2) sa_nil)) (se_bin o2_mod (se_bin o2_div (se_var 1) se_int) (se_callB c1_len T.n_len (by decide +kernel) (sa_cons (se_var 2) sa_nil))))))))))
theorem sc__law_question : FnScope ["scheme", "number", "deep", "kind", "name", "sort", "word", "parts", "n"] ["scheme", "number", "deep"] (defScope stm__law_question) := ⟨rfl, rfl, rfl, by decide +kernel, rfl, by decide +kernel, by decide +kernel⟩
theorem s__law_question (T : Tab P w K mg base C k) (f : Addr) (cdv : Value) (A : Around) (outer : List Env) (s : Shared) (H : Hp) (E : XK) (hr : Room k (A.deeper (PyProof.Rows.envOfC "_law_question" (defScope stm__law_question) s.heap.objs.size f cdv))) :
    SSs (cxOf (L2.CX P w) P w K mg base ["scheme", "number", "deep", "kind", "name", "sort", "word", "parts", "n"] "_law_question" (defScope stm__law_question) f cdv A outer s H E) (fun c d _ H' => E c d H') (defBody stm__law_question) (b__law_question C) := by
  have nd := sc__law_question.nd
  have tk : Takes (cxOf (L2.CX P w) P w K mg base ["scheme", "number", "deep", "kind", "name", "sort", "word", "parts", "n"] "_law_question" (defScope stm__law_question) f cdv A outer s H E) (fun c d _ H' => E c d H') := takes_of rfl rfl rfl rfl
  have pw : PassesOwn (model (cxOf (L2.CX P w) P w K mg base ["scheme", "number", "deep", "kind", "name", "sort", "word", "parts", "n"] "_law_question" (defScope stm__law_question) f cdv A outer s H E).prog (cxOf (L2.CX P w) P w K mg base ["scheme", "number", "deep", "kind", "name", "sort", "word", "parts", "n"] "_law_question" (defScope stm__law_question) f cdv A outer s H E).w) (cxOf (L2.CX P w) P w K mg base ["scheme", "number", "deep", "kind", "name", "sort", "word", "parts", "n"] "_law_question" (defScope stm__law_question) f cdv A outer s H E).A (cxOf (L2.CX P w) P w K mg base ["scheme", "number", "deep", "kind", "name", "sort", "word", "parts", "n"] "_law_question" (defScope stm__law_question) f cdv A outer s H E).env (cxOf (L2.CX P w) P w K mg base ["scheme", "number", "deep", "kind", "name", "sort", "word", "parts", "n"] "_law_question" (defScope stm__law_question) f cdv A outer s H E).xe := passes_of rfl
  exact (ss_cons (ss_set 3 nd (se_bin o2_mod (se_var 1) se_int)) (ss_cons (ss_asg (se_ix (u1 hr) (se_var 0) (se_bin o2_mod (se_bin o2_div (se_var 1) se_int) (se_callB c1_len T.n_len (by decide +kernel) (sa_cons (se_var 0) sa_nil)))) (sg_tp rfl (sgs_cons (sg_nm 4 nd) (sgs_cons (sg_nm 5 nd) sgs_nil)))) (ss_cons (ss_if (st_w (sw_and (st_cmp o2_gt (se_var 2) se_int (nomark _)) (sw_and1 (st_cmp (o2_lt (u64 hr)) (se_var 3) se_int (nomark _))))) (ss_cons (ss_set 6 nd (se_ix (u1 hr) (se_tup (sa_cons se_str (sa_cons se_str sa_nil))) (se_var 3))) (ss_cons (ss_setLc 7 rfl nd (si_val (se_tup (sa_cons se_int (sa_cons se_int sa_nil)))) (blkOk_by (own := [("n", 8)]) (by kernel_rfl)) (by decide) (fun _ _ _ _ _ => (sg_nm 8 nd)) (fun _ _ _ _ _ => sts_nil) (fun _ _ _ _ _ => (se_callA T.f__law_question hr (sa_cons (se_var 0) (sa_cons (se_bin o2_div (se_callA T.f__law_drawn hr (sa_cons (se_var 1) (sa_cons (se_var 8) sa_nil)) takes0) se_int) (sa_cons (se_bin o2_sub (se_var 2) se_int) sa_nil))) takes0)) (sw_true rfl rfl rfl (by decide +kernel))) (ss_one (ss_ret (se_tup (sa_cons (se_var 6) (sa_cons (se_ix (u1 hr) (se_var 7) se_int) (sa_cons (se_ix (u1 hr) (se_var 7) se_int) sa_nil)))))))) ss_nil) (ss_cons (ss_if (st_w (sw_and (st_cmp o2_gt (se_var 2) se_int (nomark _)) (sw_and1 (st_cmp (o2_eq (u64 hr)) (se_var 3) se_int (nomark _))))) (ss_one (ss_ret (se_tup (sa_cons se_str (sa_cons (se_callA T.f__law_question hr (sa_cons (se_var 0) (sa_cons (se_bin o2_div (se_callA T.f__law_drawn hr (sa_cons (se_var 1) (sa_cons se_int sa_nil)) tk) se_int) (sa_cons (se_bin o2_sub (se_var 2) se_int) sa_nil))) tk) sa_nil))))) ss_nil) (ss_cons (ss_if (st_w (sw_and (st_cmp o2_gt (se_var 2) se_int (nomark _)) (sw_and (st_cmp (o2_lt (u64 hr)) (se_var 3) se_int (nomark _)) (sw_and1 (st_cmp (o2_in (u65 hr)) (se_var 5) (se_tup (sa_cons se_str (sa_cons se_str sa_nil))) (by rfl)))))) (ss_one (ss_ret (se_tup (sa_cons se_str (sa_cons (se_var 4) (sa_cons (se_callA T.f__law_question hr (sa_cons (se_var 0) (sa_cons (se_bin o2_div (se_callA T.f__law_drawn hr (sa_cons (se_var 1) (sa_cons se_int sa_nil)) tk) se_int) (sa_cons (se_bin o2_sub (se_var 2) se_int) sa_nil))) tk) sa_nil)))))) ss_nil) (ss_cons (ss_if (st_cmp (o2_eq (u64 hr)) (se_var 3) se_int (nomark _)) (ss_one (ss_ret (se_tup (sa_cons se_str sa_nil)))) ss_nil) (ss_cons (ss_if (st_w (sw_and (st_cmp (o2_eq (u64 hr)) (se_var 3) se_int (nomark _)) (sw_and1 (st_cmp (o2_eq (u64 hr)) (se_var 5) se_str (nomark _))))) (ss_one (ss_ret (se_tup (sa_cons se_str (sa_cons (se_var 4) (sa_cons (se_bin o2_sub (se_bin o2_mod (se_bin o2_div (se_var 1) se_int) se_int) se_int) sa_nil)))))) ss_nil) (ss_cons (ss_if (st_cmp (o2_lt (u64 hr)) (se_var 3) se_int (nomark _)) (ss_one (ss_ret (se_tup (sa_cons se_str (sa_cons (se_var 4) (sa_cons (se_callA T.f__law_worth hr (sa_cons (se_var 5) (sa_cons (se_bin o2_div (se_var 1) se_int) (sa_cons (se_lst (sa_cons (se_tup (sa_cons se_int (sa_cons se_int sa_nil))) (sa_cons (se_tup (sa_cons se_int (sa_cons se_int sa_nil))) (sa_cons (se_tup (sa_cons se_int (sa_cons se_int sa_nil))) sa_nil)))) sa_nil))) tk) sa_nil)))))) ss_nil) (ss_one (ss_ret (se_tup (sa_cons se_str (sa_cons (se_var 4) sa_nil)))))))))))))
theorem sc__law_act : FnScope ["scheme", "number", "may_drop", "numbers", "name", "sort", "kind"] ["scheme", "number", "may_drop"] (defScope stm__law_act) := ⟨rfl, rfl, rfl, by decide +kernel, rfl, by decide +kernel, by decide +kernel⟩
theorem s__law_act (T : Tab P w K mg base C k) (f : Addr) (cdv : Value) (A : Around) (outer : List Env) (s : Shared) (H : Hp) (E : XK) (hr : Room k (A.deeper (PyProof.Rows.envOfC "_law_act" (defScope stm__law_act) s.heap.objs.size f cdv))) :
    SSs (cxOf (L2.CX P w) P w K mg base ["scheme", "number", "may_drop", "numbers", "name", "sort", "kind"] "_law_act" (defScope stm__law_act) f cdv A outer s H E) (fun c d _ H' => E c d H') (defBody stm__law_act) (b__law_act C) := by
  have nd := sc__law_act.nd
  have tk : Takes (cxOf (L2.CX P w) P w K mg base ["scheme", "number", "may_drop", "numbers", "name", "sort", "kind"] "_law_act" (defScope stm__law_act) f cdv A outer s H E) (fun c d _ H' => E c d H') := takes_of rfl rfl rfl rfl
  have pw : PassesOwn (model (cxOf (L2.CX P w) P w K mg base ["scheme", "number", "may_drop", "numbers", "name", "sort", "kind"] "_law_act" (defScope stm__law_act) f cdv A outer s H E).prog (cxOf (L2.CX P w) P w K mg base ["scheme", "number", "may_drop", "numbers", "name", "sort", "kind"] "_law_act" (defScope stm__law_act) f cdv A outer s H E).w) (cxOf (L2.CX P w) P w K mg base ["scheme", "number", "may_drop", "numbers", "name", "sort", "kind"] "_law_act" (defScope stm__law_act) f cdv A outer s H E).A (cxOf (L2.CX P w) P w K mg base ["scheme", "number", "may_drop", "numbers", "name", "sort", "kind"] "_law_act" (defScope stm__law_act) f cdv A outer s H E).env (cxOf (L2.CX P w) P w K mg base ["scheme", "number", "may_drop", "numbers", "name", "sort", "kind"] "_law_act" (defScope stm__law_act) f cdv A outer s H E).xe := passes_of rfl
  exact (ss_cons (ss_asg (se_ix (u1 hr) (se_var 0) (se_bin o2_mod (se_bin o2_div (se_var 1) se_int) (se_callB c1_len T.n_len (by decide +kernel) (sa_cons (se_var 0) sa_nil)))) (sg_tp rfl (sgs_cons (sg_nm 4 nd) (sgs_cons (sg_nm 5 nd) sgs_nil)))) (ss_cons (ss_setLc 3 rfl nd (si_val (se_var 0)) (blkOk_by (own := [("kind", 6)]) (by kernel_rfl)) (by decide) (fun _ _ _ _ _ => (sg_nm 6 nd)) (fun _ _ _ _ _ => (sts_one (st_cmp (o2_eq (u64 hr)) (se_ix (u1 hr) (se_var 6) se_int) se_str (nomark _)))) (fun _ _ _ _ _ => (se_ix (u1 hr) (se_var 6) se_int)) (sw_true rfl rfl rfl (by decide +kernel))) (ss_cons (ss_if (st_w (sw_and (st_cmp (o2_eq (u64 hr)) (se_var 5) se_str (nomark _)) (sw_and1 (st_cmp (o2_eq (u64 hr)) (se_bin o2_mod (se_var 1) se_int) se_int (nomark _))))) (ss_one (ss_ret (se_tup (sa_cons se_str (sa_cons (se_var 4) (sa_cons (se_bin o2_sub (se_bin o2_mod (se_bin o2_div (se_var 1) se_int) se_int) se_int) sa_nil)))))) ss_nil) (ss_cons (ss_if (st_w (sw_and (st_cmp (o2_eq (u64 hr)) (se_var 5) se_str (nomark _)) (sw_and1 (st_cmp (o2_eq (u64 hr)) (se_bin o2_mod (se_var 1) se_int) se_int (nomark _))))) (ss_one (ss_ret (se_tup (sa_cons se_str (sa_cons (se_var 4) (sa_cons (se_ix (u1 hr) (se_var 3) (se_bin o2_mod (se_bin o2_div (se_var 1) se_int) (se_callB c1_len T.n_len (by decide +kernel) (sa_cons (se_var 3) sa_nil)))) sa_nil)))))) ss_nil) (ss_cons (ss_if (st_w (sw_and (st_cmp (o2_in (u65 hr)) (se_var 5) (se_tup (sa_cons se_str (sa_cons se_str (sa_cons se_str sa_nil)))) (by rfl)) (sw_and1 (st_cmp o2_gt (se_bin o2_mod (se_var 1) se_int) se_int (nomark _))))) (ss_one (ss_ret (se_tup (sa_cons se_str (sa_cons (se_var 4) (sa_cons (se_callA T.f__law_worth hr (sa_cons (se_var 5) (sa_cons (se_bin o2_div (se_var 1) se_int) (sa_cons (se_lst sa_nil) sa_nil))) tk) sa_nil)))))) ss_nil) (ss_one (ss_ret (se_ix (u1 hr) (se_lst (sa_cons (se_tup (sa_cons se_str (sa_cons (se_var 4) sa_nil))) (sa_cons (se_tup (sa_cons se_str sa_nil)) sa_nil))) (se_callTy c1_int T.n_int (by decide +kernel) (sa_cons (se_and (se_var 2) (se_one (se_cmp (o2_eq (u64 hr)) (se_bin o2_mod (se_var 1) se_int) se_int (nomark _)))) sa_nil))))))))))
theorem sc__law_deed : FnScope ["scheme", "number", "may_drop", "acts", "question", "k"] ["scheme", "number", "may_drop"] (defScope stm__law_deed) := ⟨rfl, rfl, rfl, by decide +kernel, rfl, by decide +kernel, by decide +kernel⟩
theorem s__law_deed (T : Tab P w K mg base C k) (f : Addr) (cdv : Value) (A : Around) (outer : List Env) (s : Shared) (H : Hp) (E : XK) (hr : Room k (A.deeper (PyProof.Rows.envOfC "_law_deed" (defScope stm__law_deed) s.heap.objs.size f cdv))) :
    SSs (cxOf (L2.CX P w) P w K mg base ["scheme", "number", "may_drop", "acts", "question", "k"] "_law_deed" (defScope stm__law_deed) f cdv A outer s H E) (fun c d _ H' => E c d H') (defBody stm__law_deed) (b__law_deed C) := by
  have nd := sc__law_deed.nd
  have tk : Takes (cxOf (L2.CX P w) P w K mg base ["scheme", "number", "may_drop", "acts", "question", "k"] "_law_deed" (defScope stm__law_deed) f cdv A outer s H E) (fun c d _ H' => E c d H') := takes_of rfl rfl rfl rfl
  have pw : PassesOwn (model (cxOf (L2.CX P w) P w K mg base ["scheme", "number", "may_drop", "acts", "question", "k"] "_law_deed" (defScope stm__law_deed) f cdv A outer s H E).prog (cxOf (L2.CX P w) P w K mg base ["scheme", "number", "may_drop", "acts", "question", "k"] "_law_deed" (defScope stm__law_deed) f cdv A outer s H E).w) (cxOf (L2.CX P w) P w K mg base ["scheme", "number", "may_drop", "acts", "question", "k"] "_law_deed" (defScope stm__law_deed) f cdv A outer s H E).A (cxOf (L2.CX P w) P w K mg base ["scheme", "number", "may_drop", "acts", "question", "k"] "_law_deed" (defScope stm__law_deed) f cdv A outer s H E).env (cxOf (L2.CX P w) P w K mg base ["scheme", "number", "may_drop", "acts", "question", "k"] "_law_deed" (defScope stm__law_deed) f cdv A outer s H E).xe := passes_of rfl
  exact (ss_cons (ss_set 3 nd (se_callTy c1_tuple T.n_tuple (by decide +kernel) (sa_cons (se_lc rfl nd (si_range (sa_cons (se_bin o2_add se_int (se_bin o2_mod (se_bin o2_div (se_var 1) se_int) se_int)) sa_nil) T.n_range) (blkOk_by (own := [("k", 5)]) (by kernel_rfl)) (by decide) (fun _ _ _ _ _ => (sg_nm 5 nd)) (fun _ _ _ _ _ => sts_nil) (fun _ _ _ _ _ => (se_callA T.f__law_act hr (sa_cons (se_var 0) (sa_cons (se_bin o2_div (se_callA T.f__law_drawn hr (sa_cons (se_var 1) (sa_cons (se_bin o2_add se_int (se_var 5)) sa_nil)) takes0) se_int) (sa_cons (se_var 2) sa_nil))) takes0))) sa_nil))) (ss_cons (ss_set 4 nd (se_callA T.f__law_question hr (sa_cons (se_var 0) (sa_cons (se_bin o2_div (se_callA T.f__law_drawn hr (sa_cons (se_var 1) (sa_cons se_int sa_nil)) tk) se_int) (sa_cons (se_bin o2_add se_int (se_bin o2_mod (se_bin o2_div (se_var 1) se_int) se_int)) sa_nil))) tk)) (ss_one (ss_ret (se_tup (sa_cons (se_bin o2_add (se_callA T.f__law_letters hr (sa_cons (se_bin o2_div (se_var 1) se_int) (sa_cons se_int sa_nil)) tk) se_str) (sa_cons (se_var 4) (sa_cons (se_var 3) sa_nil))))))))
theorem sc__law_is_chain : FnScope ["scheme", "deeds", "thing", "good", "one", "other", "at"] ["scheme", "deeds", "thing"] (defScope stm__law_is_chain) := ⟨rfl, rfl, rfl, by decide +kernel, rfl, by decide +kernel, by decide +kernel⟩
theorem s__law_is_chain (T : Tab P w K mg base C k) (f : Addr) (cdv : Value) (A : Around) (outer : List Env) (s : Shared) (H : Hp) (E : XK) (hr : Room k (A.deeper (PyProof.Rows.envOfC "_law_is_chain" (defScope stm__law_is_chain) s.heap.objs.size f cdv))) :
    SSs (cxOf (L2.CX P w) P w K mg base ["scheme", "deeds", "thing", "good", "one", "other", "at"] "_law_is_chain" (defScope stm__law_is_chain) f cdv A outer s H E) (fun c d _ H' => E c d H') (defBody stm__law_is_chain) (b__law_is_chain C) := by
  have nd := sc__law_is_chain.nd
  have tk : Takes (cxOf (L2.CX P w) P w K mg base ["scheme", "deeds", "thing", "good", "one", "other", "at"] "_law_is_chain" (defScope stm__law_is_chain) f cdv A outer s H E) (fun c d _ H' => E c d H') := takes_of rfl rfl rfl rfl
  have pw : PassesOwn (model (cxOf (L2.CX P w) P w K mg base ["scheme", "deeds", "thing", "good", "one", "other", "at"] "_law_is_chain" (defScope stm__law_is_chain) f cdv A outer s H E).prog (cxOf (L2.CX P w) P w K mg base ["scheme", "deeds", "thing", "good", "one", "other", "at"] "_law_is_chain" (defScope stm__law_is_chain) f cdv A outer s H E).w) (cxOf (L2.CX P w) P w K mg base ["scheme", "deeds", "thing", "good", "one", "other", "at"] "_law_is_chain" (defScope stm__law_is_chain) f cdv A outer s H E).A (cxOf (L2.CX P w) P w K mg base ["scheme", "deeds", "thing", "good", "one", "other", "at"] "_law_is_chain" (defScope stm__law_is_chain) f cdv A outer s H E).env (cxOf (L2.CX P w) P w K mg base ["scheme", "deeds", "thing", "good", "one", "other", "at"] "_law_is_chain" (defScope stm__law_is_chain) f cdv A outer s H E).xe := passes_of rfl
  exact (ss_cons (ss_if (st_not (st_val (se_callB c1_isi T.n_isinstance (by decide +kernel) (sa_cons (se_var 2) (sa_cons (se_bty T.n_tuple (by decide +kernel)) sa_nil))))) (ss_one (ss_ret se_bl)) ss_nil) (ss_cons (ss_setLc 3 rfl nd (si_val (se_var 2)) (blkOk_by (own := [("at", 6)]) (by kernel_rfl)) (by decide) (fun _ _ _ _ _ => (sg_nm 6 nd)) (fun _ _ _ _ _ => (sts_one (st_w (sw_and (st_val (se_callB c1_isi T.n_isinstance (by decide +kernel) (sa_cons (se_var 6) (sa_cons (se_bty T.n_int (by decide +kernel)) sa_nil)))) (sw_and (st_not (st_val (se_callB c1_isi T.n_isinstance (by decide +kernel) (sa_cons (se_var 6) (sa_cons (se_bty T.n_bool (by decide +kernel)) sa_nil))))) (sw_and1 (st_chain o2_le (o2_lt (u64 hr)) se_int (se_var 6) (se_callB c1_len T.n_len (by decide +kernel) (sa_cons (se_var 1) sa_nil)) (by with_unfolding_all rfl)))))))) (fun _ _ _ _ _ => (se_var 6)) (sw_true rfl rfl rfl (by decide +kernel))) (ss_cons (ss_if (st_cmp (o2_ne (u64 hr)) (se_callB c1_len T.n_len (by decide +kernel) (sa_cons (se_var 3) sa_nil)) (se_callB c1_len T.n_len (by decide +kernel) (sa_cons (se_var 2) sa_nil)) (nomark _)) (ss_one (ss_ret se_bl)) ss_nil) (ss_cons (ss_for pw rfl (si_zip (sa_cons (se_sl (se_var 2) sp_none (sp_some (se_neg se_int))) (sa_cons (se_sl (se_var 2) (sp_some se_int) sp_none) sa_nil)) T.n_zip) (sg_tp rfl (sgs_cons (sg_nm 4 nd) (sgs_cons (sg_nm 5 nd) sgs_nil))) (ss_one (ss_if (st_w (sw_or (st_cmp o2_ge (se_var 4) (se_var 5) (nomark _)) (sw_or1 (st_not (st_val (se_callA T.f_clash hr (sa_cons (se_var 0) (sa_cons (se_ix (u1 hr) (se_var 1) (se_var 4)) (sa_cons (se_ix (u1 hr) (se_var 1) (se_var 5)) sa_nil))) tk)))))) (ss_one (ss_ret se_bl)) ss_nil))) (ss_one (ss_ret se_bl))))))
theorem sc_law : FnScope ["script", "scheme", "deeds", "some", "every", "its", "number", "drawn", "odd", "thing", "at", "stage", "one", "found", "k", "near", "other"] ["script"] (defScope stm_law) := ⟨rfl, rfl, rfl, by decide +kernel, rfl, by decide +kernel, by decide +kernel⟩
theorem s_law (T : Tab P w K mg base C k) (f : Addr) (cdv : Value) (A : Around) (outer : List Env) (s : Shared) (H : Hp) (E : XK) (hr : Room k (A.deeper (PyProof.Rows.envOfC "law" (defScope stm_law) s.heap.objs.size f cdv))) :
    SSs (cxOf (L2.CX P w) P w K mg base ["script", "scheme", "deeds", "some", "every", "its", "number", "drawn", "odd", "thing", "at", "stage", "one", "found", "k", "near", "other"] "law" (defScope stm_law) f cdv A outer s H E) (fun c d _ H' => E c d H') (defBody stm_law) (b_law C) := by
  have nd := sc_law.nd
  have tk : Takes (cxOf (L2.CX P w) P w K mg base ["script", "scheme", "deeds", "some", "every", "its", "number", "drawn", "odd", "thing", "at", "stage", "one", "found", "k", "near", "other"] "law" (defScope stm_law) f cdv A outer s H E) (fun c d _ H' => E c d H') := takes_of rfl rfl rfl rfl
  have pw : PassesOwn (model (cxOf (L2.CX P w) P w K mg base ["script", "scheme", "deeds", "some", "every", "its", "number", "drawn", "odd", "thing", "at", "stage", "one", "found", "k", "near", "other"] "law" (defScope stm_law) f cdv A outer s H E).prog (cxOf (L2.CX P w) P w K mg base ["script", "scheme", "deeds", "some", "every", "its", "number", "drawn", "odd", "thing", "at", "stage", "one", "found", "k", "near", "other"] "law" (defScope stm_law) f cdv A outer s H E).w) (cxOf (L2.CX P w) P w K mg base ["script", "scheme", "deeds", "some", "every", "its", "number", "drawn", "odd", "thing", "at", "stage", "one", "found", "k", "near", "other"] "law" (defScope stm_law) f cdv A outer s H E).A (cxOf (L2.CX P w) P w K mg base ["script", "scheme", "deeds", "some", "every", "its", "number", "drawn", "odd", "thing", "at", "stage", "one", "found", "k", "near", "other"] "law" (defScope stm_law) f cdv A outer s H E).env (cxOf (L2.CX P w) P w K mg base ["script", "scheme", "deeds", "some", "every", "its", "number", "drawn", "odd", "thing", "at", "stage", "one", "found", "k", "near", "other"] "law" (defScope stm_law) f cdv A outer s H E).xe := passes_of rfl
  exact (ss_cons (ss_set 1 nd (se_callA T.f__law_scheme hr (sa_cons (se_callA T.f__law_mixed hr (sa_cons (se_var 0) (sa_cons se_int sa_nil)) tk) sa_nil) tk)) (ss_cons (ss_set 2 nd (se_callTy c1_tuple T.n_tuple (by decide +kernel) (sa_cons (se_lc rfl nd (si_range (sa_cons (se_bin o2_mod (se_callA T.f__law_mixed hr (sa_cons (se_var 0) (sa_cons se_int sa_nil)) tk) se_int) sa_nil) T.n_range) (blkOk_by (own := [("k", 14)]) (by kernel_rfl)) (by decide) (fun _ _ _ _ _ => (sg_nm 14 nd)) (fun _ _ _ _ _ => sts_nil) (fun _ _ _ _ _ => (se_callA T.f__law_deed hr (sa_cons (se_var 1) (sa_cons (se_callA T.f__law_mixed hr (sa_cons (se_var 0) (sa_cons (se_bin o2_add se_int (se_var 14)) sa_nil)) takes0) (sa_cons (se_cmp (o2_eq (u64 hr)) (se_var 14) se_int (nomark _)) sa_nil))) takes0))) sa_nil))) (ss_cons (ss_set 3 nd (se_callA T.f_stages hr (sa_cons (se_var 1) (sa_cons (se_var 2) sa_nil)) tk)) (ss_cons (ss_set 4 nd (se_tup sa_nil)) (ss_cons (ss_for pw rfl (si_enum (sa_cons (se_var 3) sa_nil) T.n_enumerate) (sg_tp rfl (sgs_cons (sg_nm 10 nd) (sgs_cons (sg_nm 11 nd) sgs_nil))) (ss_cons (ss_set 4 nd (se_bin o2_add (se_var 4) (se_var 11))) (ss_one (ss_for pw rfl (si_val (se_var 11)) (sg_nm 12 nd) (ss_cons (ss_if (st_cmp (o2_ne (u64 hr)) (se_lc rfl nd (si_val (se_var 11)) (blkOk_by (own := [("other", 16)]) (by kernel_rfl)) (by decide) (fun _ _ _ _ _ => (sg_nm 16 nd)) (fun _ _ _ _ _ => (sts_one (st_w (sw_and (st_cmp (o2_ne (u64 hr)) (se_var 16) (se_var 12) (nomark _)) (sw_and1 (st_val (se_callA T.f_clash hr (sa_cons (se_var 1) (sa_cons (se_ix (u1 hr) (se_var 2) (se_var 12)) (sa_cons (se_ix (u1 hr) (se_var 2) (se_var 16)) sa_nil))) takes0))))))) (fun _ _ _ _ _ => (se_var 16))) (se_lst sa_nil) (nomark _)) (ss_one (ss_ret se_bl)) ss_nil) (ss_one (ss_if (st_cmp o2_gt (se_var 10) se_int (nomark _)) (ss_cons (ss_setLc 15 rfl nd (si_val (se_ix (u1 hr) (se_var 3) (se_bin o2_sub (se_var 10) se_int))) (blkOk_by (own := [("other", 16)]) (by kernel_rfl)) (by decide) (fun _ _ _ _ _ => (sg_nm 16 nd)) (fun _ _ _ _ _ => (sts_one (st_w (sw_and (st_cmp (o2_lt (u64 hr)) (se_var 16) (se_var 12) (nomark _)) (sw_and1 (st_val (se_callA T.f_clash hr (sa_cons (se_var 1) (sa_cons (se_ix (u1 hr) (se_var 2) (se_var 12)) (sa_cons (se_ix (u1 hr) (se_var 2) (se_var 16)) sa_nil))) takes0))))))) (fun _ _ _ _ _ => (se_var 16)) (sw_true rfl rfl rfl (by decide +kernel))) (ss_one (ss_if (st_cmp (o2_eq (u64 hr)) (se_var 15) (se_lst sa_nil) (nomark _)) (ss_one (ss_ret se_bl)) ss_nil))) ss_nil))))))) (ss_cons (ss_if (st_w (sw_or (st_cmp (o2_ne (u64 hr)) (se_callB (c1_sorted2 (u64 hr)) T.n_sorted (by decide +kernel) (sa_cons (se_var 4) sa_nil)) (se_lstRg rfl (se_callB c1_len T.n_len (by decide +kernel) (sa_cons (se_var 2) sa_nil)) T.n_range T.n_list) (nomark _)) (sw_or1 (st_cmp (o2_in (u65 hr)) (se_tup sa_nil) (se_var 3) (by rfl))))) (ss_one (ss_ret se_bl)) ss_nil) (ss_cons (ss_set 5 nd (se_callA T.f_chain hr (sa_cons (se_var 1) (sa_cons (se_var 2) sa_nil)) tk)) (ss_cons (ss_if (st_w (sw_or (st_cmp (o2_ne (u64 hr)) (se_callB c1_len T.n_len (by decide +kernel) (sa_cons (se_var 5) sa_nil)) (se_callB c1_len T.n_len (by decide +kernel) (sa_cons (se_var 3) sa_nil)) (nomark _)) (sw_or1 (st_cmp o2_isnot2 (se_callA T.f_is_chain hr (sa_cons (se_var 1) (sa_cons (se_var 2) (sa_cons (se_var 5) sa_nil))) tk) se_bl (nomark _))))) (ss_one (ss_ret se_bl)) ss_nil) (ss_cons (ss_set 6 nd (se_callA T.f__law_mixed hr (sa_cons (se_var 0) (sa_cons se_int sa_nil)) tk)) (ss_cons (ss_set 7 nd (se_callTy c1_tuple T.n_tuple (by decide +kernel) (sa_cons (se_lc rfl nd (si_range (sa_cons (se_bin o2_mod (se_var 6) se_int) sa_nil) T.n_range) (blkOk_by (own := [("k", 14)]) (by kernel_rfl)) (by decide) (fun _ _ _ _ _ => (sg_nm 14 nd)) (fun _ _ _ _ _ => sts_nil) (fun _ _ _ _ _ => (se_bin o2_mod (se_bin o2_div (se_callA T.f__law_drawn hr (sa_cons (se_var 6) (sa_cons (se_var 14) sa_nil)) takes0) se_int) (se_bin o2_add (se_callB c1_len T.n_len (by decide +kernel) (sa_cons (se_var 2) sa_nil)) se_int)))) sa_nil))) (ss_cons (ss_set 8 nd (se_lst (sa_cons se_non (sa_cons (se_callTy c1_list T.n_list (by decide +kernel) (sa_cons (se_var 5) sa_nil)) (sa_cons (se_bin o2_add (se_var 5) (se_tup (sa_cons se_int sa_nil))) (sa_cons (se_bin o2_add (se_var 5) (se_tup (sa_cons (se_neg se_int) sa_nil))) (sa_cons (se_tup (sa_cons se_bl sa_nil)) (sa_cons (se_tup (sa_cons se_str sa_nil)) (sa_cons (se_revT (se_var 5)) (sa_cons (se_bin o2_mulB (se_var 5) se_int) (sa_cons (se_tupRg rfl (se_callB c1_len T.n_len (by decide +kernel) (sa_cons (se_var 2) sa_nil)) T.n_range T.n_tuple) sa_nil))))))))))) (ss_cons (ss_for pw rfl (si_val (se_tup (sa_cons (se_var 7) (sa_cons (se_callTy c1_tuple T.n_tuple (by decide +kernel) (sa_cons (se_sortSet rfl (se_var 7) T.n_set T.n_sorted) sa_nil)) (sa_cons (se_ix (u1 hr) (se_var 8) (se_bin o2_mod (se_bin o2_div (se_var 6) se_int) se_int)) (sa_cons (se_tup sa_nil) sa_nil)))))) (sg_nm 9 nd) (ss_cons (ss_set 13 nd (se_callA T.f_is_chain hr (sa_cons (se_var 1) (sa_cons (se_var 2) (sa_cons (se_var 9) sa_nil))) tk)) (ss_cons (ss_if (st_w (sw_or (st_not (st_val (se_callB c1_isi T.n_isinstance (by decide +kernel) (sa_cons (se_var 13) (sa_cons (se_bty T.n_bool (by decide +kernel)) sa_nil))))) (sw_or1 (st_cmp (o2_ne (u64 hr)) (se_var 13) (se_callA T.f__law_is_chain hr (sa_cons (se_var 1) (sa_cons (se_var 2) (sa_cons (se_var 9) sa_nil))) tk) (nomark _))))) (ss_one (ss_ret se_bl)) ss_nil) (ss_one (ss_if (st_w (sw_and (st_val (se_var 13)) (sw_and1 (st_cmp o2_gt (se_callB c1_len T.n_len (by decide +kernel) (sa_cons (se_var 9) sa_nil)) (se_callB c1_len T.n_len (by decide +kernel) (sa_cons (se_var 3) sa_nil)) (nomark _))))) (ss_one (ss_ret se_bl)) ss_nil))))) (ss_one (ss_ret se_bl))))))))))))))
end
def fn0 : List He.DefD := [⟨("is_whole", none), "is_whole", "is_whole", defArgs stm_is_whole, defBody stm_is_whole, defScope stm_is_whole, [], []⟩, ⟨("names_of", none), "names_of", "names_of", defArgs stm_names_of, defBody stm_names_of, defScope stm_names_of, [], []⟩, ⟨("names_in", none), "names_in", "names_in", defArgs stm_names_in, defBody stm_names_in, defScope stm_names_in, [], []⟩, ⟨("drops", none), "drops", "drops", defArgs stm_drops, defBody stm_drops, defScope stm_drops, [], []⟩, ⟨("in_order", none), "in_order", "in_order", defArgs stm_in_order, defBody stm_in_order, defScope stm_in_order, [], []⟩, ⟨("reads", none), "reads", "reads", defArgs stm_reads, defBody stm_reads, defScope stm_reads, [], []⟩, ⟨("writes", none), "writes", "writes", defArgs stm_writes, defBody stm_writes, defScope stm_writes, [], []⟩, ⟨("touches", none), "touches", "touches", defArgs stm_touches, defBody stm_touches, defScope stm_touches, [], []⟩, ⟨("clash", none), "clash", "clash", defArgs stm_clash, defBody stm_clash, defScope stm_clash, [], []⟩, ⟨("stage_numbers", none), "stage_numbers", "stage_numbers", defArgs stm_stage_numbers, defBody stm_stage_numbers, defScope stm_stage_numbers, [], []⟩, ⟨("stages", none), "stages", "stages", defArgs stm_stages, defBody stm_stages, defScope stm_stages, [], []⟩, ⟨("is_chain", none), "is_chain", "is_chain", defArgs stm_is_chain, defBody stm_is_chain, defScope stm_is_chain, [], []⟩, ⟨("chain", none), "chain", "chain", defArgs stm_chain, defBody stm_chain, defScope stm_chain, [], []⟩, ⟨("_law_cell_at", none), "_law_cell_at", "_law_cell_at", defArgs stm__law_cell_at, defBody stm__law_cell_at, defScope stm__law_cell_at, [], []⟩, ⟨("_law_mixed", none), "_law_mixed", "_law_mixed", defArgs stm__law_mixed, defBody stm__law_mixed, defScope stm__law_mixed, [], []⟩]
def fn1 : List He.DefD := [⟨("_law_drawn", none), "_law_drawn", "_law_drawn", defArgs stm__law_drawn, defBody stm__law_drawn, defScope stm__law_drawn, [], []⟩, ⟨("_law_scheme", none), "_law_scheme", "_law_scheme", defArgs stm__law_scheme, defBody stm__law_scheme, defScope stm__law_scheme, [], []⟩, ⟨("_law_letters", none), "_law_letters", "_law_letters", defArgs stm__law_letters, defBody stm__law_letters, defScope stm__law_letters, [], []⟩, ⟨("_law_worth", none), "_law_worth", "_law_worth", defArgs stm__law_worth, defBody stm__law_worth, defScope stm__law_worth, [], []⟩, ⟨("_law_question", none), "_law_question", "_law_question", defArgs stm__law_question, defBody stm__law_question, defScope stm__law_question, [], []⟩, ⟨("_law_act", none), "_law_act", "_law_act", defArgs stm__law_act, defBody stm__law_act, defScope stm__law_act, [], []⟩, ⟨("_law_deed", none), "_law_deed", "_law_deed", defArgs stm__law_deed, defBody stm__law_deed, defScope stm__law_deed, [], []⟩, ⟨("_law_is_chain", none), "_law_is_chain", "_law_is_chain", defArgs stm__law_is_chain, defBody stm__law_is_chain, defScope stm__law_is_chain, [], []⟩, ⟨("law", none), "law", "law", defArgs stm_law, defBody stm_law, defScope stm_law, [], []⟩]
def fn : List He.DefD := fn0 ++ fn1
def fa0 : List He.Fa := [.glo "is_whole", .glo "names_of", .glo "names_in", .glo "drops", .glo "in_order", .glo "reads", .glo "writes", .glo "touches", .glo "clash", .glo "stage_numbers", .glo "stages", .glo "is_chain", .glo "chain", .glo "_law_cell_at", .glo "_law_mixed", .glo "_law_drawn", .glo "_law_scheme", .glo "_law_letters", .glo "_law_worth", .glo "_law_question", .glo "_law_act", .glo "_law_deed", .glo "_law_is_chain", .glo "law", .str "HAS" "has", .str "IS" "is", .str "OVER" "over", .str "LEADS" "leads", .str "ADD" "add", .str "PUT" "put"]
def fa1 : List He.Fa := [.str "TAKE" "take", .str "COPY" "copy", .str "DROP" "drop", .free "all", .free "any", .free "bool", .free "enumerate", .free "int", .free "isinstance", .free "len", .free "list", .free "max", .free "min", .free "range", .free "set", .free "sorted", .free "tuple", .free "zip"]
def fa : List He.Fa := fa0 ++ fa1
def nms0 : List PySem.Str := ["is_whole", "names_of", "HAS", "IS", "OVER", "LEADS", "names_in", "ADD", "PUT", "TAKE", "COPY", "DROP", "drops", "in_order", "reads", "writes", "touches", "clash", "stage_numbers", "stages", "is_chain", "chain", "_law_cell_at", "_law_mixed", "_law_drawn", "_law_scheme", "_law_letters", "_law_worth", "_law_question", "_law_holds"]
def nms1 : List PySem.Str := ["_law_found", "_law_act", "_law_deed", "_law_is_chain"]
def nms : List PySem.Str := nms0 ++ nms1
abbrev R : PySem.W.OpenRow := PySem.W.OpenLaw.row PySem.Challenge.rw_partstore_k82_whole_stages_and_chains
def okX (K : PySem.W.Frag) : Bool := true
def obK (g : Addr → Option Obj) : He.AlD × Bool := (He.obsDG 5 fa fn g, okX (He.frG g (He.asD g 5)))
noncomputable def hk : PySem.W.Hook where
  α := He.AlD × Bool
  obs := fun s => obK s.heap.get?
  val := fun _ => (He.valD fn, true)
  says := fun _ h => ∃ K : PySem.W.Frag, K.In h ∧ He.SaysD fa fn K ∧ okX K = true
  of := fun _ _ e => ⟨_, He.frG_in, congrArg Prod.fst e, congrArg Prod.snd e⟩
  keeps := fun _ _ _ ⟨K, hK, c⟩ k => ⟨K, PySem.W.Frag.In.keeps hK k, c⟩
def ob (s : PySem.W.SharedT) : He.AlD × Bool := obK (HandSHeadRun.getT s)
theorem ob_eq (s : PySem.W.SharedT) : ob s = hk.obs s.abs := by
  have e : HandSHeadRun.getT s = s.abs.heap.get? := funext (HandSHeadRun.getT_eq s)
  show obK (HandSHeadRun.getT s) = obK s.abs.heap.get?
  rw [e]
theorem headRun (w : World) : HandSHeadRun.RunEq R (PySem.W.view R.prog [38]) hk ob 12000 nms w := by
  intro os
  kernel_rfl
theorem tab {P : Program} {w : World} {K : PySem.W.Frag} {h : Heap} {mg : Str → Option Value} (X : K.In h) (G : h.Ns mainGlobals mg) (c : He.SaysD fa fn K) (cx : okX K = true) {base : Heap} (KB : K.In base) : ∀ k, Tab P w K mg base (run tb k) k := by
  obtain ⟨fd_is_whole, F_is_whole⟩ := c.def_ 0 rfl
  have b_is_whole : Binds K fd_is_whole ["thing", "low", "high"] [] := F_is_whole.bindsN fun _ _ _ _ _ _ us hl => match us, hl with | [_, _, _], _ => rfl
  have g_is_whole : mg "is_whole" = some (.ref (He.ga K "is_whole")) := He.glo_ok X G (c.fact 0 rfl)
  obtain ⟨fd_names_of, F_names_of⟩ := c.def_ 1 rfl
  have b_names_of : Binds K fd_names_of ["scheme"] [] := F_names_of.bindsN fun _ _ _ _ _ _ us hl => match us, hl with | [_], _ => rfl
  have g_names_of : mg "names_of" = some (.ref (He.ga K "names_of")) := He.glo_ok X G (c.fact 1 rfl)
  obtain ⟨fd_names_in, F_names_in⟩ := c.def_ 2 rfl
  have b_names_in : Binds K fd_names_in ["question"] [] := F_names_in.bindsN fun _ _ _ _ _ _ us hl => match us, hl with | [_], _ => rfl
  have g_names_in : mg "names_in" = some (.ref (He.ga K "names_in")) := He.glo_ok X G (c.fact 2 rfl)
  obtain ⟨fd_drops, F_drops⟩ := c.def_ 3 rfl
  have b_drops : Binds K fd_drops ["deed"] [] := F_drops.bindsN fun _ _ _ _ _ _ us hl => match us, hl with | [_], _ => rfl
  have g_drops : mg "drops" = some (.ref (He.ga K "drops")) := He.glo_ok X G (c.fact 3 rfl)
  obtain ⟨fd_in_order, F_in_order⟩ := c.def_ 4 rfl
  have b_in_order : Binds K fd_in_order ["scheme", "some"] [] := F_in_order.bindsN fun _ _ _ _ _ _ us hl => match us, hl with | [_, _], _ => rfl
  have g_in_order : mg "in_order" = some (.ref (He.ga K "in_order")) := He.glo_ok X G (c.fact 4 rfl)
  obtain ⟨fd_reads, F_reads⟩ := c.def_ 5 rfl
  have b_reads : Binds K fd_reads ["scheme", "deed"] [] := F_reads.bindsN fun _ _ _ _ _ _ us hl => match us, hl with | [_, _], _ => rfl
  have g_reads : mg "reads" = some (.ref (He.ga K "reads")) := He.glo_ok X G (c.fact 5 rfl)
  obtain ⟨fd_writes, F_writes⟩ := c.def_ 6 rfl
  have b_writes : Binds K fd_writes ["scheme", "deed"] [] := F_writes.bindsN fun _ _ _ _ _ _ us hl => match us, hl with | [_, _], _ => rfl
  have g_writes : mg "writes" = some (.ref (He.ga K "writes")) := He.glo_ok X G (c.fact 6 rfl)
  obtain ⟨fd_touches, F_touches⟩ := c.def_ 7 rfl
  have b_touches : Binds K fd_touches ["scheme", "one", "other"] [] := F_touches.bindsN fun _ _ _ _ _ _ us hl => match us, hl with | [_, _, _], _ => rfl
  have g_touches : mg "touches" = some (.ref (He.ga K "touches")) := He.glo_ok X G (c.fact 7 rfl)
  obtain ⟨fd_clash, F_clash⟩ := c.def_ 8 rfl
  have b_clash : Binds K fd_clash ["scheme", "one", "other"] [] := F_clash.bindsN fun _ _ _ _ _ _ us hl => match us, hl with | [_, _, _], _ => rfl
  have g_clash : mg "clash" = some (.ref (He.ga K "clash")) := He.glo_ok X G (c.fact 8 rfl)
  obtain ⟨fd_stage_numbers, F_stage_numbers⟩ := c.def_ 9 rfl
  have b_stage_numbers : Binds K fd_stage_numbers ["scheme", "deeds"] [] := F_stage_numbers.bindsN fun _ _ _ _ _ _ us hl => match us, hl with | [_, _], _ => rfl
  have g_stage_numbers : mg "stage_numbers" = some (.ref (He.ga K "stage_numbers")) := He.glo_ok X G (c.fact 9 rfl)
  obtain ⟨fd_stages, F_stages⟩ := c.def_ 10 rfl
  have b_stages : Binds K fd_stages ["scheme", "deeds"] [] := F_stages.bindsN fun _ _ _ _ _ _ us hl => match us, hl with | [_, _], _ => rfl
  have g_stages : mg "stages" = some (.ref (He.ga K "stages")) := He.glo_ok X G (c.fact 10 rfl)
  obtain ⟨fd_is_chain, F_is_chain⟩ := c.def_ 11 rfl
  have b_is_chain : Binds K fd_is_chain ["scheme", "deeds", "thing"] [] := F_is_chain.bindsN fun _ _ _ _ _ _ us hl => match us, hl with | [_, _, _], _ => rfl
  have g_is_chain : mg "is_chain" = some (.ref (He.ga K "is_chain")) := He.glo_ok X G (c.fact 11 rfl)
  obtain ⟨fd_chain, F_chain⟩ := c.def_ 12 rfl
  have b_chain : Binds K fd_chain ["scheme", "deeds"] [] := F_chain.bindsN fun _ _ _ _ _ _ us hl => match us, hl with | [_, _], _ => rfl
  have g_chain : mg "chain" = some (.ref (He.ga K "chain")) := He.glo_ok X G (c.fact 12 rfl)
  obtain ⟨fd__law_cell_at, F__law_cell_at⟩ := c.def_ 13 rfl
  have b__law_cell_at : Binds K fd__law_cell_at ["script", "k"] [] := F__law_cell_at.bindsN fun _ _ _ _ _ _ us hl => match us, hl with | [_, _], _ => rfl
  have g__law_cell_at : mg "_law_cell_at" = some (.ref (He.ga K "_law_cell_at")) := He.glo_ok X G (c.fact 13 rfl)
  obtain ⟨fd__law_mixed, F__law_mixed⟩ := c.def_ 14 rfl
  have b__law_mixed : Binds K fd__law_mixed ["script", "k"] [] := F__law_mixed.bindsN fun _ _ _ _ _ _ us hl => match us, hl with | [_, _], _ => rfl
  have g__law_mixed : mg "_law_mixed" = some (.ref (He.ga K "_law_mixed")) := He.glo_ok X G (c.fact 14 rfl)
  obtain ⟨fd__law_drawn, F__law_drawn⟩ := c.def_ 15 rfl
  have b__law_drawn : Binds K fd__law_drawn ["number", "k"] [] := F__law_drawn.bindsN fun _ _ _ _ _ _ us hl => match us, hl with | [_, _], _ => rfl
  have g__law_drawn : mg "_law_drawn" = some (.ref (He.ga K "_law_drawn")) := He.glo_ok X G (c.fact 15 rfl)
  obtain ⟨fd__law_scheme, F__law_scheme⟩ := c.def_ 16 rfl
  have b__law_scheme : Binds K fd__law_scheme ["number"] [] := F__law_scheme.bindsN fun _ _ _ _ _ _ us hl => match us, hl with | [_], _ => rfl
  have g__law_scheme : mg "_law_scheme" = some (.ref (He.ga K "_law_scheme")) := He.glo_ok X G (c.fact 16 rfl)
  obtain ⟨fd__law_letters, F__law_letters⟩ := c.def_ 17 rfl
  have b__law_letters : Binds K fd__law_letters ["number", "most"] [] := F__law_letters.bindsN fun _ _ _ _ _ _ us hl => match us, hl with | [_, _], _ => rfl
  have g__law_letters : mg "_law_letters" = some (.ref (He.ga K "_law_letters")) := He.glo_ok X G (c.fact 17 rfl)
  obtain ⟨fd__law_worth, F__law_worth⟩ := c.def_ 18 rfl
  have b__law_worth : Binds K fd__law_worth ["sort", "number", "handles"] [] := F__law_worth.bindsN fun _ _ _ _ _ _ us hl => match us, hl with | [_, _, _], _ => rfl
  have g__law_worth : mg "_law_worth" = some (.ref (He.ga K "_law_worth")) := He.glo_ok X G (c.fact 18 rfl)
  obtain ⟨fd__law_question, F__law_question⟩ := c.def_ 19 rfl
  have b__law_question : Binds K fd__law_question ["scheme", "number", "deep"] [] := F__law_question.bindsN fun _ _ _ _ _ _ us hl => match us, hl with | [_, _, _], _ => rfl
  have g__law_question : mg "_law_question" = some (.ref (He.ga K "_law_question")) := He.glo_ok X G (c.fact 19 rfl)
  obtain ⟨fd__law_act, F__law_act⟩ := c.def_ 20 rfl
  have b__law_act : Binds K fd__law_act ["scheme", "number", "may_drop"] [] := F__law_act.bindsN fun _ _ _ _ _ _ us hl => match us, hl with | [_, _, _], _ => rfl
  have g__law_act : mg "_law_act" = some (.ref (He.ga K "_law_act")) := He.glo_ok X G (c.fact 20 rfl)
  obtain ⟨fd__law_deed, F__law_deed⟩ := c.def_ 21 rfl
  have b__law_deed : Binds K fd__law_deed ["scheme", "number", "may_drop"] [] := F__law_deed.bindsN fun _ _ _ _ _ _ us hl => match us, hl with | [_, _, _], _ => rfl
  have g__law_deed : mg "_law_deed" = some (.ref (He.ga K "_law_deed")) := He.glo_ok X G (c.fact 21 rfl)
  obtain ⟨fd__law_is_chain, F__law_is_chain⟩ := c.def_ 22 rfl
  have b__law_is_chain : Binds K fd__law_is_chain ["scheme", "deeds", "thing"] [] := F__law_is_chain.bindsN fun _ _ _ _ _ _ us hl => match us, hl with | [_, _, _], _ => rfl
  have g__law_is_chain : mg "_law_is_chain" = some (.ref (He.ga K "_law_is_chain")) := He.glo_ok X G (c.fact 22 rfl)
  obtain ⟨fd_law, F_law⟩ := c.def_ 23 rfl
  have b_law : Binds K fd_law ["script"] [] := F_law.bindsN fun _ _ _ _ _ _ us hl => match us, hl with | [_], _ => rfl
  have g_law : mg "law" = some (.ref (He.ga K "law")) := He.glo_ok X G (c.fact 23 rfl)
  intro k
  induction k with
  | zero =>
    refine ⟨⟨⟨fd_is_whole, fn_zero _ rfl, b_is_whole⟩, g_is_whole, F_is_whole.kp⟩, ⟨⟨fd_names_of, fn_zero _ rfl, b_names_of⟩, g_names_of, F_names_of.kp⟩, ⟨⟨fd_names_in, fn_zero _ rfl, b_names_in⟩, g_names_in, F_names_in.kp⟩, ⟨⟨fd_drops, fn_zero _ rfl, b_drops⟩, g_drops, F_drops.kp⟩, ⟨⟨fd_in_order, fn_zero _ rfl, b_in_order⟩, g_in_order, F_in_order.kp⟩, ⟨⟨fd_reads, fn_zero _ rfl, b_reads⟩, g_reads, F_reads.kp⟩, ⟨⟨fd_writes, fn_zero _ rfl, b_writes⟩, g_writes, F_writes.kp⟩, ⟨⟨fd_touches, fn_zero _ rfl, b_touches⟩, g_touches, F_touches.kp⟩, ⟨⟨fd_clash, fn_zero _ rfl, b_clash⟩, g_clash, F_clash.kp⟩, ⟨⟨fd_stage_numbers, fn_zero _ rfl, b_stage_numbers⟩, g_stage_numbers, F_stage_numbers.kp⟩, ⟨⟨fd_stages, fn_zero _ rfl, b_stages⟩, g_stages, F_stages.kp⟩, ⟨⟨fd_is_chain, fn_zero _ rfl, b_is_chain⟩, g_is_chain, F_is_chain.kp⟩, ⟨⟨fd_chain, fn_zero _ rfl, b_chain⟩, g_chain, F_chain.kp⟩, ⟨⟨fd__law_cell_at, fn_zero _ rfl, b__law_cell_at⟩, g__law_cell_at, F__law_cell_at.kp⟩, ⟨⟨fd__law_mixed, fn_zero _ rfl, b__law_mixed⟩, g__law_mixed, F__law_mixed.kp⟩, ⟨⟨fd__law_drawn, fn_zero _ rfl, b__law_drawn⟩, g__law_drawn, F__law_drawn.kp⟩, ⟨⟨fd__law_scheme, fn_zero _ rfl, b__law_scheme⟩, g__law_scheme, F__law_scheme.kp⟩, ⟨⟨fd__law_letters, fn_zero _ rfl, b__law_letters⟩, g__law_letters, F__law_letters.kp⟩, ⟨⟨fd__law_worth, fn_zero _ rfl, b__law_worth⟩, g__law_worth, F__law_worth.kp⟩, ⟨⟨fd__law_question, fn_zero _ rfl, b__law_question⟩, g__law_question, F__law_question.kp⟩, ⟨⟨fd__law_act, fn_zero _ rfl, b__law_act⟩, g__law_act, F__law_act.kp⟩, ⟨⟨fd__law_deed, fn_zero _ rfl, b__law_deed⟩, g__law_deed, F__law_deed.kp⟩, ⟨⟨fd__law_is_chain, fn_zero _ rfl, b__law_is_chain⟩, g__law_is_chain, F__law_is_chain.kp⟩, ⟨⟨fd_law, fn_zero _ rfl, b_law⟩, g_law, F_law.kp⟩, He.str_ok X G (c.fact 24 rfl), He.str_ok X G (c.fact 25 rfl), He.str_ok X G (c.fact 26 rfl), He.str_ok X G (c.fact 27 rfl), He.str_ok X G (c.fact 28 rfl), He.str_ok X G (c.fact 29 rfl), He.str_ok X G (c.fact 30 rfl), He.str_ok X G (c.fact 31 rfl), He.str_ok X G (c.fact 32 rfl), He.free_ok X G (c.fact 33 rfl), He.free_ok X G (c.fact 34 rfl), He.free_ok X G (c.fact 35 rfl), He.free_ok X G (c.fact 36 rfl), He.free_ok X G (c.fact 37 rfl), He.free_ok X G (c.fact 38 rfl), He.free_ok X G (c.fact 39 rfl), He.free_ok X G (c.fact 40 rfl), He.free_ok X G (c.fact 41 rfl), He.free_ok X G (c.fact 42 rfl), He.free_ok X G (c.fact 43 rfl), He.free_ok X G (c.fact 44 rfl), He.free_ok X G (c.fact 45 rfl), He.free_ok X G (c.fact 46 rfl), He.free_ok X G (c.fact 47 rfl)⟩
  | succ k ih =>
    refine ⟨⟨⟨fd_is_whole, fn_run tb F_is_whole sc_is_whole rfl (s_is_whole ih _), b_is_whole⟩, g_is_whole, F_is_whole.kp⟩, ⟨⟨fd_names_of, fn_run tb F_names_of sc_names_of rfl (s_names_of ih _), b_names_of⟩, g_names_of, F_names_of.kp⟩, ⟨⟨fd_names_in, fn_run tb F_names_in sc_names_in rfl (s_names_in ih _), b_names_in⟩, g_names_in, F_names_in.kp⟩, ⟨⟨fd_drops, fn_run tb F_drops sc_drops rfl (s_drops ih _), b_drops⟩, g_drops, F_drops.kp⟩, ⟨⟨fd_in_order, fn_run tb F_in_order sc_in_order rfl (s_in_order ih _), b_in_order⟩, g_in_order, F_in_order.kp⟩, ⟨⟨fd_reads, fn_run tb F_reads sc_reads rfl (s_reads ih _), b_reads⟩, g_reads, F_reads.kp⟩, ⟨⟨fd_writes, fn_run tb F_writes sc_writes rfl (s_writes ih _), b_writes⟩, g_writes, F_writes.kp⟩, ⟨⟨fd_touches, fn_run tb F_touches sc_touches rfl (s_touches ih _), b_touches⟩, g_touches, F_touches.kp⟩, ⟨⟨fd_clash, fn_run tb F_clash sc_clash rfl (s_clash ih _), b_clash⟩, g_clash, F_clash.kp⟩, ⟨⟨fd_stage_numbers, fn_run tb F_stage_numbers sc_stage_numbers rfl (s_stage_numbers ih _), b_stage_numbers⟩, g_stage_numbers, F_stage_numbers.kp⟩, ⟨⟨fd_stages, fn_run tb F_stages sc_stages rfl (s_stages ih _), b_stages⟩, g_stages, F_stages.kp⟩, ⟨⟨fd_is_chain, fn_run tb F_is_chain sc_is_chain rfl (s_is_chain ih _), b_is_chain⟩, g_is_chain, F_is_chain.kp⟩, ⟨⟨fd_chain, fn_run tb F_chain sc_chain rfl (s_chain ih _), b_chain⟩, g_chain, F_chain.kp⟩, ⟨⟨fd__law_cell_at, fn_run tb F__law_cell_at sc__law_cell_at rfl (s__law_cell_at ih _), b__law_cell_at⟩, g__law_cell_at, F__law_cell_at.kp⟩, ⟨⟨fd__law_mixed, fn_run tb F__law_mixed sc__law_mixed rfl (s__law_mixed ih _), b__law_mixed⟩, g__law_mixed, F__law_mixed.kp⟩, ⟨⟨fd__law_drawn, fn_run tb F__law_drawn sc__law_drawn rfl (s__law_drawn ih _), b__law_drawn⟩, g__law_drawn, F__law_drawn.kp⟩, ⟨⟨fd__law_scheme, fn_run tb F__law_scheme sc__law_scheme rfl (s__law_scheme ih _), b__law_scheme⟩, g__law_scheme, F__law_scheme.kp⟩, ⟨⟨fd__law_letters, fn_run tb F__law_letters sc__law_letters rfl (s__law_letters ih _), b__law_letters⟩, g__law_letters, F__law_letters.kp⟩, ⟨⟨fd__law_worth, fn_run tb F__law_worth sc__law_worth rfl (s__law_worth ih _), b__law_worth⟩, g__law_worth, F__law_worth.kp⟩, ⟨⟨fd__law_question, fn_run tb F__law_question sc__law_question rfl (s__law_question ih _), b__law_question⟩, g__law_question, F__law_question.kp⟩, ⟨⟨fd__law_act, fn_run tb F__law_act sc__law_act rfl (s__law_act ih _), b__law_act⟩, g__law_act, F__law_act.kp⟩, ⟨⟨fd__law_deed, fn_run tb F__law_deed sc__law_deed rfl (s__law_deed ih _), b__law_deed⟩, g__law_deed, F__law_deed.kp⟩, ⟨⟨fd__law_is_chain, fn_run tb F__law_is_chain sc__law_is_chain rfl (s__law_is_chain ih _), b__law_is_chain⟩, g__law_is_chain, F__law_is_chain.kp⟩, ⟨⟨fd_law, fn_run tb F_law sc_law rfl (s_law ih _), b_law⟩, g_law, F_law.kp⟩, He.str_ok X G (c.fact 24 rfl), He.str_ok X G (c.fact 25 rfl), He.str_ok X G (c.fact 26 rfl), He.str_ok X G (c.fact 27 rfl), He.str_ok X G (c.fact 28 rfl), He.str_ok X G (c.fact 29 rfl), He.str_ok X G (c.fact 30 rfl), He.str_ok X G (c.fact 31 rfl), He.str_ok X G (c.fact 32 rfl), He.free_ok X G (c.fact 33 rfl), He.free_ok X G (c.fact 34 rfl), He.free_ok X G (c.fact 35 rfl), He.free_ok X G (c.fact 36 rfl), He.free_ok X G (c.fact 37 rfl), He.free_ok X G (c.fact 38 rfl), He.free_ok X G (c.fact 39 rfl), He.free_ok X G (c.fact 40 rfl), He.free_ok X G (c.fact 41 rfl), He.free_ok X G (c.fact 42 rfl), He.free_ok X G (c.fact 43 rfl), He.free_ok X G (c.fact 44 rfl), He.free_ok X G (c.fact 45 rfl), He.free_ok X G (c.fact 46 rfl), He.free_ok X G (c.fact 47 rfl)⟩
theorem law_ok {P : Program} {w : World} {K : PySem.W.Frag} {h : Heap} {mg : Str → Option Value} (X : K.In h) (G : h.Ns mainGlobals mg) (c : He.SaysD fa fn K) (cx : okX K = true) {base : Heap} (KB : K.In base) (k : Nat) {fd : FuncData}
    (Fl : FunD K "law" "law" (defArgs stm_law) (defBody stm_law) (defScope stm_law) [] [] (He.ga K "law") fd) : FnOk P w K mg base (L2.CX P w) k (He.ga K "law") fd ["script"] (spM K (run tb k) .law 1) := by
  cases k with
  | zero => exact fn_zero _ rfl
  | succ k => exact fn_run tb Fl sc_law rfl (s_law (tab X G c cx KB k) _)
/-- the law's end: what the small interpreter says is what the model does -/
theorem holds_of (L : Nat) (hL : L ≤ 150) (hlaw : ∀ ns : List Int, ns.length ≤ 63 → ∃ h, run tb L .law [.klst (ns.map .int)] [] = .ok (.bl true) h) : PySem.Challenge.rw_partstore_k82_whole_stages_and_chains.Holds := by
  w_on; o_law
  refine HandSHeadRun.head_any (r := PySem.W.OpenLaw.row PySem.Challenge.rw_partstore_k82_whole_stages_and_chains) (q := PySem.W.view (PySem.W.OpenLaw.row PySem.Challenge.rw_partstore_k82_whole_stages_and_chains).prog [38]) (H := hk) (ob := ob) (M := 12000) (loose := nms) (d := HandSHeadRun.topDef (PySem.W.OpenLaw.row PySem.Challenge.rw_partstore_k82_whole_stages_and_chains).prog 38) (kwd := []) ob_eq
    (by kernel_rfl) (fun s => by kernel_rfl) headRun (by kernel_rfl) (by kernel_rfl) (by kernel_rfl) (by rfl) (by first | assumption | decide +kernel) (by decide +kernel) ⟨rfl, rfl, rfl, rfl, rfl, by decide +kernel⟩ ?hw ?hc
  case hw => w_witness2
  case hc =>
    refine walk_mi (l := PySem.Challenge.rw_partstore_k82_whole_stages_and_chains) (n := 63) (k := L) (x := "script") rfl (by decide) (by kernel_rfl) (room_of hL) ?F
    intro w mg f h Y G hm0
    obtain ⟨K, KX, c, cx⟩ := Y
    have hm : mg ("law" : PySem.Str) = some (.ref f) := by
      have e : (HandSHeadRun.topDef (PySem.W.OpenLaw.row PySem.Challenge.rw_partstore_k82_whole_stages_and_chains).prog 38).name = ("law" : PySem.Str) := by kernel_rfl
      rw [← e]
      exact hm0
    obtain ⟨fd, Fl⟩ := c.def_ 23 rfl
    have ef := hm.symm.trans (He.glo_ok KX G (c.fact 23 rfl))
    cases ef
    have bl := FunD.bindsA (ps := ["script"]) Fl fun _ _ _ _ _ _ us hl => match us, hl with | [_], _ => rfl
    refine ⟨K, fd, spM K (run tb L) .law 1, KX, fun s v => bl s [v] rfl, fun H a ns hl hS => ?_, fun bs KB _ => ?_⟩
    · obtain ⟨h', e⟩ := hlaw ns hl
      exact sp_law e hS
    · exact law_ok KX G c cx KB L Fl
end L82
theorem PySem.Challenge.cw_partstore_k82_whole_stages_and_chains_holds : PySem.Challenge.rw_partstore_k82_whole_stages_and_chains.Holds := by
  exact L82.holds_of 20 (by decide) (fun ns _ => L82.law_true ns)
